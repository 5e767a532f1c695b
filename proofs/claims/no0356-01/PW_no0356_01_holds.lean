import PyProof.Rows.All
import Wide.All
import OpenK.AllK
import Wide.FinOn
import PySem.Challenge.RW_no0356_01
open PySem PySem.W PyProof.Rows PySem.Calls
set_option Elab.async false
set_option maxRecDepth 100000
set_option maxHeartbeats 8000000
set_option rowWalk.seconds 0
set_option linter.unusedSectionVars false
set_option linter.unusedVariables false
set_option compiler.extract_closed false
namespace Mine
open_top hd for PySem.Challenge.rw_no0356_01
end Mine
namespace Mine
theorem walk_off : True := by
  w_top off
  trivial
end Mine
namespace Mine
abbrev TopH (mean : ExcName → Option Value) (mg mb : Str → Option Value) (h : Heap) : Prop := Top hd.view_39 (looseW hd.view_39 ["PostError"]) mean mg mb h
abbrev tupO (vs : List Value) (n : Nat) : Obj := { cls := .type "tuple", data := .seq vs.toArray n }

def Stop (P : Prop) : Prop := P
theorem Stop.intro {P : Prop} (h : Stop P) : P := h
theorem Stop.out {P : Prop} (h : P) : Stop P := h

/-- what one knows of objects: R a o, the object o lies at a -/
abbrev Rel := Addr → Obj → Prop
abbrev hp (h : Heap) : Rel := fun a o => h.get? a = some o
/-- in the ledger tl, or in the base -/
def Bs (h₀ : Heap) (tl : List (Addr × Obj)) : Rel := fun a o => (a, o) ∈ tl ∨ h₀.get? a = some o

inductive PairR (R : Rel) : Value → Int × Int → Prop
  | mk {a : Addr} {n : Nat} {x y : Int} {t u : Tok} (h : R a (tupO [.int x t, .int y u] n)) : PairR R (.ref a) (x, y)
inductive PairsR (R : Rel) : List Value → List (Int × Int) → Prop
  | nil : PairsR R [] []
  | cons {v vs p ps} : PairR R v p → PairsR R vs ps → PairsR R (v :: vs) (p :: ps)

section
variable {R R' : Rel} {v : Value} {p : Int × Int} {vs ws : List Value} {ps qs : List (Int × Int)}
theorem PairR.mono (h : PairR R v p) (s : ∀ a o, R a o → R' a o) : PairR R' v p := by
  cases h with
  | mk h => exact .mk (s _ _ h)
theorem PairsR.mono (h : PairsR R vs ps) (s : ∀ a o, R a o → R' a o) : PairsR R' vs ps := by
  induction h with
  | nil => exact .nil
  | cons h _ ih => exact .cons (h.mono s) ih
theorem PairsR.length (h : PairsR R vs ps) : vs.length = ps.length := by
  induction h with
  | nil => rfl
  | cons _ _ ih => simp [ih]
theorem PairsR.append (h : PairsR R vs ps) (k : PairsR R ws qs) : PairsR R (vs ++ ws) (ps ++ qs) := by
  induction h with
  | nil => exact k
  | cons h _ ih => exact .cons h ih
theorem PairsR.one (h : PairR R v p) : PairsR R [v] [p] := .cons h .nil
theorem PairsR.get (h : PairsR R vs ps) {i : Nat} {v : Value} (hi : vs[i]? = some v) : ∃ p, ps[i]? = some p ∧ PairR R v p := by
  induction h generalizing i with
  | nil => simp at hi
  | cons h _ ih =>
    cases i with
    | zero => simp at hi; subst hi; exact ⟨_, rfl, h⟩
    | succ i => simp at hi; simpa using ih hi
theorem PairsR.get' (h : PairsR R vs ps) {i : Nat} (hi : i < ps.length) : ∃ v, vs[i]? = some v ∧ PairR R v ps[i] := by
  have hl := h.length
  have : i < vs.length := by omega
  obtain ⟨p, hp, hr⟩ := h.get (i := i) (v := vs[i]) (by simp [this])
  refine ⟨vs[i], by simp [this], ?_⟩
  rw [List.getElem?_eq_getElem hi] at hp
  cases hp; exact hr
end

theorem Bs.mono {h₀ : Heap} {tl tl' : List (Addr × Obj)} (s : ∀ p ∈ tl, p ∈ tl') : ∀ a o, Bs h₀ tl a o → Bs h₀ tl' a o := fun _ _ h => h.imp (s _) id
theorem Bs.at {h₀ h : Heap} {L : Addr} {m : Str → Option Value} {tl : List (Addr × Obj)} (F : Fr h₀ L h m) (N : News h₀ L h tl) : ∀ a o, Bs h₀ tl a o → hp h a o := fun _ _ x => x.elim (fun q => (N _ q).1) fun q => F.keep _ _ q

theorem fr_stays {h₀ h h' : Heap} {L : Addr} {m : Str → Option Value} (F : Fr h₀ L h m) (st : h.StaysIn h') : Fr h₀ L h' m :=
  let ⟨o, es, ep, x, r⟩ := F.ns
  ⟨⟨o, es, ep, st _ _ x, r⟩, fun b o e => st b o (F.keep b o e), F.above⟩
theorem news_stays {h₀ h h' : Heap} {L : Addr} {news : List (Addr × Obj)} (N : News h₀ L h news) (st : h.StaysIn h') : News h₀ L h' news :=
  fun p hp => ⟨st _ _ (N p hp).1, (N p hp).2⟩
theorem news_cons {h₀ h : Heap} {L a : Addr} {m : Str → Option Value} {o : Obj} {g : Heap} {news : List (Addr × Obj)} (F : Fr h₀ L g m) (N : News h₀ L h news) (ha : g.get? a = none) (ho : h.get? a = some o) : News h₀ L h ((a, o) :: news) := by
  intro p hp
  rcases List.mem_cons.mp hp with rfl | hp
  · obtain ⟨oL, es, ep, hL, r⟩ := F.ns
    refine ⟨ho, fun e => ?_, ?_⟩
    · simp only at e; rw [e, hL] at ha; cases ha
    · cases q : h₀.get? a with
      | none => rfl
      | some o' => rw [F.keep _ _ q] at ha; cases ha
  · exact N p hp
theorem news_app {h₀ h : Heap} {L : Addr} {m : Str → Option Value} {g : Heap} {news tl : List (Addr × Obj)} (F : Fr h₀ L g m) (N : News h₀ L h news) (ht : ∀ p ∈ tl, g.get? p.1 = none ∧ h.get? p.1 = some p.2) : News h₀ L h (tl ++ news) := by
  induction tl with
  | nil => exact N
  | cons q tl ih => exact news_cons F (ih fun p hp => ht p (.tail _ hp)) (ht q (.head _)).1 (ht q (.head _)).2

section
variable {prog : Program} {w : World} {A₀ A : Around} {s : Shared} {base h₀ : Heap} {outer : List Env} {L : Addr} {m : Str → Option Value} {env : Env} {K : Frag}
  {R : Result → Shared → Prop} {name qual : Str} {params : Arguments} {body : List Stmt} {scope : Scope} {dV kV doc pm cdv ct oc : Value} {an od : Option Addr} {osl : Array (Option Value)} {f : Addr} {args : Args} {binds : List (Str × Value)}
  {p : Program} {loose : List Str} {mean : ExcName → Option Value} {mg mb : Str → Option Value}

theorem leaveP {v : Value} {s' : Shared} (F : Fr h₀ L s.heap m) (hl : LeaveK h₀ L m s.heap R v s') : R (.ok (.ret v)) s' := by
  obtain ⟨L', m', news', F', N', k⟩ := hl
  have st : s.heap.StaysIn s'.heap := F'.keep
  refine k (fr_stays F st) fun q hq => ⟨(N' q hq).1, fun e => ?_, ?_⟩
  · obtain ⟨oL, es, ep, hL, r⟩ := F.ns
    have := (N' q hq).2.2
    rw [e, hL] at this; cases this
  · cases x : h₀.get? q.1 with
    | none => rfl
    | some o => have := (N' q hq).2.2; rw [F.keep _ _ x] at this; cases this

/-- a def is entered: all that lay is the base -/
theorem code_pure (B : Below A₀ base outer h₀) (F : Fr h₀ L s.heap m) (X₀ : K.In h₀) (T : Top p loose mean mg mb h₀) (hA : A.frames = some (env :: outer)) (hf : env.frame = some L) (hke : env.scope.kind = .function)
    (ho : K.lookup f = some ⟨oc, od, .func (fnOf name qual params body scope dV kV doc pm an cdv ct), osl⟩) (hcd : codeIn K cdv qual = true) (hroom : A.depth < recursionLimit)
    (hbind : BindsTo s (fnOf name qual params body scope dV kV doc pm an cdv ct) args binds) (hloc : ∀ y ∈ binds, scope.names.lookup y.1 = some .local)
    (h : ∀ L' h₁, Fr s.heap L' h₁ (fun y => binds.reverse.lookup y) → News s.heap L' h₁ [] → Below A base (env :: outer) s.heap → K.In s.heap → Top p loose mean mg mb s.heap →
      wpAny (model prog w) (A.deeper (envOf qual scope L' f cdv)) (execs body (envOf qual scope L' f cdv))
        (fun fl s' => LeaveK h₀ L m s.heap R (match fl with | .ret v => v | _ => .none) s')
        (fun e s' => wpAny (model prog w) (A.deeper (envOf qual scope L' f cdv)) (leaving (envOf qual scope L' f cdv) e) (fun _ s'' => R (.error e) s'') (fun e' s'' => R (.error e') s'') s')
        { s with heap := h₁, toks := s.toks + binds.length })
    (hco : scope.isCoroutine = false) (hgen : scope.isGenerator = false) (hk : scope.kind = .function)
    (hcell : ∀ x ∈ scope.names, x.2 ≠ .cell) : codeAny (model prog w) A (.call (.ref f) args) R s := by
  have X := X₀.keeps F.keep
  have T' := T.keeps F.keep
  have BG : Below A base (env :: outer) s.heap := ⟨hA, (pushX B F hf hke).stays, (pushX B F hf hke).frames⟩
  refine codeAny_call_def (fd := fnOf name qual params body scope dV kV doc pm an cdv ct) (body := body) (binds := binds) hroom (X _ _ ho) rfl T'.nolimit (codeRec_of X hcd) rfl hbind hcell hloc (fun h₁ hns hk₁ => ?_) hco hgen hk
  exact wpAny_mono (h s.heap.objs.size h₁ ⟨hns, hk₁, Nat.le_refl _⟩ News.nil BG X T') (fun fl s' hl => leaveP F hl) fun _ _ y => y

/-- as code_pure, where names of the def are captured -/
theorem code_pureC (B : Below A₀ base outer h₀) (F : Fr h₀ L s.heap m) (X₀ : K.In h₀) (T : Top p loose mean mg mb h₀) (hA : A.frames = some (env :: outer)) (hf : env.frame = some L) (hke : env.scope.kind = .function)
    (ho : K.lookup f = some ⟨oc, od, .func (fnOf name qual params body scope dV kV doc pm an cdv ct), osl⟩) (hcd : codeIn K cdv qual = true) (hroom : A.depth < recursionLimit)
    (hbind : BindsTo s (fnOf name qual params body scope dV kV doc pm an cdv ct) args binds) (hkind : (binds.all fun y => scope.names.lookup y.1 == some .local || scope.names.lookup y.1 == some .cell) = true)
    (hnd : ((cellsFrom 0 scope.names []).map (·.1)).Nodup)
    (h : ∀ L' h₁ tk cells, Fr s.heap L' h₁ (bindL (envOfC qual scope L' f cdv).kindOf binds fun _ => none) → News s.heap L' h₁ cells →
      CellsAre (bindC (envOfC qual scope L' f cdv).kindOf binds fun _ => none) (cellsFrom (L' + 1) scope.names []) cells → Below A base (env :: outer) s.heap → K.In s.heap → Top p loose mean mg mb s.heap →
      wpAny (model prog w) (A.deeper (envOfC qual scope L' f cdv)) (execs body (envOfC qual scope L' f cdv))
        (fun fl s' => LeaveK h₀ L m s.heap R (match fl with | .ret v => v | _ => .none) s')
        (fun e s' => wpAny (model prog w) (A.deeper (envOfC qual scope L' f cdv)) (leaving (envOfC qual scope L' f cdv) e) (fun _ s'' => R (.error e) s'') (fun e' s'' => R (.error e') s'') s')
        { s with heap := h₁, toks := tk })
    (hco : scope.isCoroutine = false) (hgen : scope.isGenerator = false) (hk : scope.kind = .function) : codeAny (model prog w) A (.call (.ref f) args) R s := by
  have X := X₀.keeps F.keep
  have T' := T.keeps F.keep
  have BG : Below A base (env :: outer) s.heap := ⟨hA, (pushX B F hf hke).stays, (pushX B F hf hke).frames⟩
  refine codeAny_call_function hroom (X _ _ ho) rfl hco hgen rfl (codeRec_of X hcd) (hbind _ _ _ _ ?_)
  refine wpAny_newFunctionEnv_cells hk (kindsX hkind _) fun env' he s' x => ?_
  subst he
  refine ⟨T'.nolimit.keeps x.toInCall.keep, codeAny_func ?_⟩
  obtain ⟨h₁, tk, rfl, _⟩ := x.done
  have hk₁ := x.toInCall.keep
  obtain ⟨cells, NC, Y⟩ := Cl.news (h₀ := s.heap) (Nat.le_refl _) fun n c hm => ⟨x.cell n c (lookup_of_mem_nodup (cellsFrom_names scope.names 0 (s.heap.objs.size + 1) [] [] rfl ▸ hnd) hm), x.above n c hm⟩
  exact wpAny_mono (h s.heap.objs.size h₁ tk cells ⟨x.toInCall.ns, hk₁, Nat.le_refl _⟩ NC Y BG X T') (fun fl s' hl => leaveP F hl) fun _ _ y => y
end
end Mine
namespace Mine
theorem room_sub {n k j l : Nat} (h : n + k < l) (e : j + 1 ≤ k) : n + 1 + j < l := by omega
theorem room_sub3 {n k j l : Nat} (h : n + k < l) (e : j + 3 ≤ k) : n + 3 + j < l := by omega
end Mine
namespace Mine
/-- a frame's names: those that one knows, ahead of what it holds -/
def mapJ : List (Str × Value) → (Str → Option Value) → Str → Option Value
  | [], u => u
  | (k, v) :: r, u => fun y => if y = k then some v else mapJ r u y
def Knows (m : Str → Option Value) (ps : List (Str × Value)) : Prop := ∀ p ∈ ps, m p.1 = some p.2
theorem mapJ_eq {m : Str → Option Value} : ∀ {ps : List (Str × Value)}, Knows m ps → mapJ ps m = m
  | [], _ => rfl
  | (k, v) :: r, h => by
    funext y
    show (if y = k then some v else mapJ r m y) = m y
    by_cases e : y = k
    · rw [if_pos e, e]; exact (h _ (.head _)).symm
    · rw [if_neg e, mapJ_eq fun p hp => h p (.tail _ hp)]
theorem fr_known {h₀ h : Heap} {L : Addr} {m : Str → Option Value} {ps : List (Str × Value)} (F : Fr h₀ L h m) (k : Knows m ps) : Fr h₀ L h (mapJ ps m) := by rw [mapJ_eq k]; exact F
theorem Knows.nil {m : Str → Option Value} : Knows m [] := fun _ h => nomatch h
theorem Knows.cons {m : Str → Option Value} {k : Str} {v : Value} {ps : List (Str × Value)} (e : m k = some v) (h : Knows m ps) : Knows m ((k, v) :: ps) := fun p hp => by
  rcases List.mem_cons.mp hp with rfl | hp
  · exact e
  · exact h p hp
end Mine
namespace Mine
def KInt (m : Str → Option Value) (k : Str) (z : Int) : Prop := ∃ t, m k = some (.int z t)
end Mine
namespace Mine
def AllNe (d : Nat) : List (Addr × Obj) → Prop
  | [] => True
  | p :: r => ¬ @Eq Nat p.1 d ∧ AllNe d r
theorem news_ne {h₀ h : Heap} {L a : Addr} {l : List (Addr × Obj)} (N : News h₀ L h l) (hn : h.get? a = none) : ∀ p ∈ l, p.1 ≠ a := fun p hp e => by
  have q := (N p hp).1
  rw [e, hn] at q
  exact nomatch q
theorem allNe_of {h₀ h : Heap} {L a : Addr} : ∀ {l : List (Addr × Obj)}, News h₀ L h l → h.get? a = none → AllNe a l
  | [], _, _ => trivial
  | p :: _, N, hn => ⟨news_ne N hn p (.head _), allNe_of (fun q hq => N q (.tail _ hq)) hn⟩
end Mine
namespace Mine
theorem led_name {h₀ h : Heap} {L a : Addr} {o : Obj} {tl : List (Addr × Obj)} (_ : News h₀ L h ((a, o) :: tl)) : ∃ p, p = a := ⟨_, rfl⟩
end Mine
namespace Mine
section
variable {h₀ h : Heap} {L : Addr} {x y z p : Addr × Obj} {tl : List (Addr × Obj)}
theorem news_rot1 (N : News h₀ L h (x :: p :: tl)) : News h₀ L h (p :: x :: tl) := fun q hq => N q (by
  simp only [List.mem_cons] at hq ⊢; rcases hq with e | e | e <;> simp [e])
theorem news_rot2 (N : News h₀ L h (x :: y :: p :: tl)) : News h₀ L h (p :: x :: y :: tl) := fun q hq => N q (by
  simp only [List.mem_cons] at hq ⊢; rcases hq with e | e | e | e <;> simp [e])
theorem news_rot3 (N : News h₀ L h (x :: y :: z :: p :: tl)) : News h₀ L h (p :: x :: y :: z :: tl) := fun q hq => N q (by
  simp only [List.mem_cons] at hq ⊢; rcases hq with e | e | e | e | e <;> simp [e])
theorem off_cons {a : Nat} {b : Nat} {o : Obj} (e : ¬ a = b) (t : OwnOff tl [b]) : OwnOff ((a, o) :: tl) [b] := fun q hq c hc => by
  rcases List.mem_cons.mp hq with rfl | hq
  · rw [List.mem_singleton.mp hc]; exact e
  · exact t q hq c hc
end
end Mine
namespace Mine
theorem pair_base {h₀ h : Heap} {L : Addr} {m : Str → Option Value} {v : Value} {p : Int × Int} (F : Fr h₀ L h m) (x : PairR (hp h₀) v p) : PairR (hp h) v p := x.mono fun _ _ e => F.keep _ _ e
theorem pair_in {h₀ h : Heap} {L : Addr} {m : Str → Option Value} {v : Value} {p : Int × Int} {tl news : List (Addr × Obj)} (F : Fr h₀ L h m) (N : News h₀ L h news) (x : PairR (Bs h₀ tl) v p) (s : ∀ q ∈ tl, q ∈ news) : PairR (hp h) v p := (x.mono (Bs.mono s)).mono (Bs.at F N)
end Mine
namespace Mine
theorem fr_knownS {h₀ h : Heap} {L : Addr} {x : Str} {v : Value} {m : Str → Option Value} {ps : List (Str × Value)} (F : Fr h₀ L h (fun y => if y = x then some v else m y)) (k : Knows m ps) : Fr h₀ L h (mapJ ((x, v) :: ps) m) := by
  show Fr h₀ L h (fun y => if y = x then some v else mapJ ps m y)
  rw [mapJ_eq k]; exact F
end Mine

namespace Mine
theorem kint_of {m : Str → Option Value} {k : Str} {z a : Int} {t : Tok} (h : m k = some (.int z t)) (e : z = a) : KInt m k a := ⟨t, e ▸ h⟩
theorem execs_cut {M : Model} {A : Around} {st : Stmt} {rest : List Stmt} {env : Env} {Q : Flow → Shared → Prop} {E : Value → Shared → Prop} {s : Shared} (Mid : Shared → Prop) (h1 : wpAny M A (exec st env) (fun f s' => Stop (f = .next ∧ Mid s')) E s) (h2 : ∀ s', Mid s' → wpAny M A (execs rest env) Q E s') : wpAny M A (execs (st :: rest) env) Q E s :=
  wpAny_execs_cons (wpAny_mono h1 (fun f s' h => by obtain ⟨rfl, h⟩ := h; exact h2 s' h) fun _ _ e => e)
end Mine
namespace Mine
open LCg LCt PySem.Spec
local macro_rules | `(tactic| walk_at "my_after") => `(tactic| (rename Heap.StaysIn _ _ => st'; (try dsimp only at st'); (have F' := fr_stays (by assumption) st'); (have N' := news_stays (by assumption) st'); (try dsimp only at F'); (try dsimp only at N'); (try k_sweep)))
local macro_rules | `(tactic| walk_at "my_after2") => `(tactic| (rename Heap.StaysIn _ _ => st'; rename Heap.get? _ _ = none => hn'; rename Heap.get? _ _ = some _ => hs'; (try dsimp only at st' hn' hs'); rename Fr _ _ _ _ => F8; rename News _ _ _ _ => N8; (have F' := fr_stays F8 st'); (have N' := news_cons F8 (news_stays N8 st') hn' hs'); (have l1 := allNe_of N8 hn'); (try dsimp only at F' N'); (try simp only [AllNe, and_true] at l1); (try k_sweep)))
section
theorem off_ends : True := by
  w_top off
  trivial
theorem PairR.tup {h : Heap} {v : Value} {p : Int × Int} (x : PairR (hp h) v p) : ∃ a t u, v = .ref a ∧ IsTup h a #[.int p.1 t, .int p.2 u] := by
  cases x with
  | mk x => exact ⟨_, _, _, rfl, _, x, rfl, _, rfl⟩
def endsOf (p : Int × Int) (g : Int) : Option (Int × Int) :=
  if g = 0 ∧ (p.1 = 0 ∨ p.2 = 0) then none else some (min (if p.1 = 0 then g else p.1) (if p.2 = 0 then g else p.2), max (if p.1 = 0 then g else p.1) (if p.2 = 0 then g else p.2))
theorem endsOf_some {x y g : Int} (h : ¬ (g = 0 ∧ (x = 0 ∨ y = 0))) {a b : Int} (ha : a = min (if x = 0 then g else x) (if y = 0 then g else y)) (hb : b = max (if x = 0 then g else x) (if y = 0 then g else y)) : endsOf (x, y) g = some (a, b) := by
  subst ha hb; exact if_neg h
theorem endsOf_none {x y g : Int} (h : g = 0 ∧ (x = 0 ∨ y = 0)) : endsOf (x, y) g = none := if_pos h
def endT (x : Int) : Str := if x = 0 then "*" else Str.ofString (toString x)
theorem endT_0 {x : Int} (h : x = 0) : endT x = "*" := if_pos h
theorem endT_1 {x : Int} (h : x ≠ 0) : endT x = Str.ofString (toString x) := if_neg h
section
variable {w : World} {mean : ExcName → Option Value} {mg mb : Str → Option Value} {dp un : Nat} {gd : Option (List Code)} {cn : Str} {cs : Scope} {a : Addr} {ccd : Value} {cl : List (Str × Addr)} {outer : List Env} {A₀ : Around} {base h₀ : Heap} {L : Addr} {m : Str → Option Value} {s : Shared} {Q E : Value → Shared → Prop}
   (B : Below A₀ base outer h₀) (F : Fr h₀ L s.heap m) (X : (hd.heap_39 w.params).In h₀) (T : TopH mean mg mb h₀) (hk : cs.kind = .function)
include B F X T hk
theorem c_law_end {x : Int} {tx : Tok} (hx : 0 ≤ x ∧ x ≤ 45) (hdp : dp + 10 < recursionLimit) (hu : un + 100 < cLine)
   (ret : ∀ t h' tk', s.heap.StaysIn h' → Q (.str (endT x) t) { s with heap := h', toks := tk' }) :
   wpAny (model PySem.Challenge.rw_no0356_01.row.prog w) (ktrTop dp un gd cn cs L a ccd cl outer) (call (.ref 143) [.int x tx]) Q E s := by
  revert X; k_fill; intro X
  refine wpAny_call ?_
  k_dflt (refine' code_pure (binds := [("number", .int x tx)]) ?k1 ?k2 ?k3 ?k5 ?kA ?kF ?kK ?k6 ?k7 ?k8 ?k9 ?kB ?_ ?c2 ?c3 ?c4 ?c5; (case kA => exact rfl); (case kF => exact rfl); (case kK => assumption); (case k1 => k_asm); (case k2 => k_asm); (case k3 => k_asm); (case k5 => k_asm); (case k6 => k_is); (case k7 => k_is); (case k8 => exact Nat.lt_of_le_of_lt (Nat.le_add_right _ _) hdp); (case k9 => exact BindsTo.of_eq rfl); (case c5 => decide); (case kB => exact locs rfl); (case c2 => exact rfl); (case c3 => exact rfl); (case c4 => exact rfl); k_whole; intro L' h' F' N' B' X' T'; (try dsimp only); (try dsimp only [List.reverse, List.reverseAux] at F'); (try k_lift B'); (try k_fold))
  (repeat' (first | (k_unfold; (try dsimp only)) | (k_end; wrow_close) | walk1 | (dsimp only; walk1) | (leave1; try dsimp only) | ((with_reducible show wpAny _ _ _ _ _ _); dsimp only)))
  · rw [← endT_0 (by assumption)]; exact ret _ _ _ (Fr.keep (by assumption))
  · rw [← endT_1 (by assumption)]; exact ret _ _ _ (Fr.keep (by assumption))
theorem c_show_end {x : Int} {tx : Tok} (hx : 0 ≤ x ∧ x ≤ 45) (hdp : dp + 10 < recursionLimit) (hu : un + 100 < cLine)
   (ret : ∀ t h' tk', s.heap.StaysIn h' → Q (.str (endT x) t) { s with heap := h', toks := tk' }) :
   wpAny (model PySem.Challenge.rw_no0356_01.row.prog w) (ktrTop dp un gd cn cs L a ccd cl outer) (call (.ref 82) [.int x tx]) Q E s := by
  revert X; k_fill; intro X
  refine wpAny_call ?_
  k_dflt (refine' code_pure (binds := [("number", .int x tx)]) ?k1 ?k2 ?k3 ?k5 ?kA ?kF ?kK ?k6 ?k7 ?k8 ?k9 ?kB ?_ ?c2 ?c3 ?c4 ?c5; (case kA => exact rfl); (case kF => exact rfl); (case kK => assumption); (case k1 => k_asm); (case k2 => k_asm); (case k3 => k_asm); (case k5 => k_asm); (case k6 => k_is); (case k7 => k_is); (case k8 => exact Nat.lt_of_le_of_lt (Nat.le_add_right _ _) hdp); (case k9 => exact BindsTo.of_eq rfl); (case c5 => decide); (case kB => exact locs rfl); (case c2 => exact rfl); (case c3 => exact rfl); (case c4 => exact rfl); k_whole; intro L' h' F' N' B' X' T'; (try dsimp only); (try dsimp only [List.reverse, List.reverseAux] at F'); (try k_lift B'); (try k_fold))
  (repeat' (first | (k_unfold; (try dsimp only)) | (k_end; wrow_close) | walk1 | (dsimp only; walk1) | (leave1; try dsimp only) | ((with_reducible show wpAny _ _ _ _ _ _); dsimp only)))
  · rw [← endT_0 (by assumption)]; exact ret _ _ _ (Fr.keep (by assumption))
  · rw [← endT_1 (by assumption)]; exact ret _ _ _ (Fr.keep (by assumption))
theorem c_ends_of {v : Value} {p : Int × Int} {g : Int} {tx : Tok} (hp' : PairR (hp s.heap) v p) (hdp : dp + 10 < recursionLimit) (hu : un + 100 < cLine)
   (ret0 : ∀ h' tk', s.heap.StaysIn h' → endsOf p g = none → Q .none { s with heap := h', toks := tk' })
   (ret1 : ∀ a x' y' t u n h' tk', s.heap.StaysIn h' → endsOf p g = some (x', y') → s.heap.get? a = none → h'.get? a = some (tupO [.int x' t, .int y' u] n) → Q (.ref a) { s with heap := h', toks := tk' }) :
   wpAny (model PySem.Challenge.rw_no0356_01.row.prog w) (ktrTop dp un gd cn cs L a ccd cl outer) (call (.ref 101) [v, .int g tx]) Q E s := by
  obtain ⟨x, y⟩ := p
  obtain ⟨pa, t, u, rfl, hT⟩ := hp'.tup
  dsimp only at hT
  revert X; k_fill; intro X
  refine wpAny_call ?_
  k_dflt (refine' code_pure (binds := [("pair", .ref pa), ("greatest", .int g tx)]) ?k1 ?k2 ?k3 ?k5 ?kA ?kF ?kK ?k6 ?k7 ?k8 ?k9 ?kB ?_ ?c2 ?c3 ?c4 ?c5; (case kA => exact rfl); (case kF => exact rfl); (case kK => assumption); (case k1 => k_asm); (case k2 => k_asm); (case k3 => k_asm); (case k5 => k_asm); (case k6 => k_is); (case k7 => k_is); (case k8 => exact Nat.lt_of_le_of_lt (Nat.le_add_right _ _) hdp); (case k9 => exact BindsTo.of_eq rfl); (case c5 => decide); (case kB => exact locs rfl); (case c2 => exact rfl); (case c3 => exact rfl); (case c4 => exact rfl); k_whole; intro L' h' F' N' B' X' T'; (try dsimp only); (try dsimp only [List.reverse, List.reverseAux] at F'); (try k_lift B'); (try k_fold))
  (repeat' (first | (k_unfold; (try dsimp only)) | (k_end; wrow_close) | ((with_reducible show wpAny _ _ (PySem.execs _ _) _ _ _); first | ((with_reducible show wpAny _ _ (PySem.execs (PySem.Stmt.If _ _ _ _ :: _) _) _ _ _); refine Stop.intro ?_)) | walk1 | (dsimp only; walk1) | (leave1; try dsimp only) | ((with_reducible show wpAny _ _ _ _ _ _); dsimp only)))
  rename Fr _ _ _ _ => F1
  rename News _ _ _ _ => N1
  by_cases hc : g = 0 ∧ (x = 0 ∨ y = 0)
  · refine Stop.out (wpAny_execs_cons ?_)
    (repeat' (first | (k_unfold; (try dsimp only)) | (k_end; wrow_close) | ((with_reducible show wpAny _ _ (PySem.execs _ _) _ _ _); first | ((with_reducible show wpAny _ _ (PySem.execs (PySem.Stmt.If _ _ _ _ :: _) _) _ _ _); refine Stop.intro ?_)) | walk1 | (dsimp only; walk1) | (leave1; try dsimp only) | ((with_reducible show wpAny _ _ _ _ _ _); dsimp only)))
    all_goals first
      | exact ret0 _ _ (Fr.keep (by assumption)) (endsOf_none hc)
      | (exfalso; omega)
  · refine Stop.out (execs_cut (fun s' => ∃ h' tk' m', s' = { s with heap := h', toks := tk' } ∧ Fr s.heap L' h' m' ∧ News s.heap L' h' [] ∧ Knows m' [("low", .int x t), ("high", .int y u), ("greatest", .int g tx)]) ?_ ?_)
    · (repeat' (first | (k_unfold; (try dsimp only)) | (k_end; wrow_close) | ((with_reducible show wpAny _ _ (PySem.execs _ _) _ _ _); first | ((with_reducible show wpAny _ _ (PySem.execs (PySem.Stmt.If _ _ _ _ :: _) _) _ _ _); refine Stop.intro ?_)) | walk1 | (dsimp only; walk1) | (leave1; try dsimp only) | ((with_reducible show wpAny _ _ _ _ _ _); dsimp only)))
      all_goals first
        | (exfalso; omega)
        | exact Stop.out ⟨(by first | exact rfl | exact trivial), _, _, _, rfl, F1, N1, by (repeat' (first | exact Knows.nil | refine Knows.cons (by with_unfolding_all rfl) ?_))⟩
    rintro _ ⟨h2, tk2, m2, rfl, F2, N2, kn2⟩
    replace F2 := fr_known F2 kn2
    clear F1 N1 kn2
    obtain ⟨A, hA⟩ : ∃ A, A = if x = 0 then g else x := ⟨_, rfl⟩
    obtain ⟨B, hB⟩ : ∃ B, B = if y = 0 then g else y := ⟨_, rfl⟩
    refine execs_cut (fun s' => ∃ h' tk' m', s' = { s with heap := h', toks := tk' } ∧ Fr s.heap L' h' m' ∧ News s.heap L' h' [] ∧ KInt m' "low" A ∧ Knows m' [("high", .int y u), ("greatest", .int g tx)]) ?_ ?_
    · clear hB
      (try dsimp only)
      (repeat' (first | (k_unfold; (try dsimp only)) | (k_end; wrow_close) | ((with_reducible show wpAny _ _ (PySem.execs _ _) _ _ _); first | ((with_reducible show wpAny _ _ (PySem.execs (PySem.Stmt.If _ _ _ _ :: _) _) _ _ _); refine Stop.intro ?_)) | walk1 | (dsimp only; walk1) | (leave1; try dsimp only) | ((with_reducible show wpAny _ _ _ _ _ _); dsimp only)))
      all_goals
        rename Fr _ _ _ _ => F9
        rename News _ _ _ _ => N9
        refine Stop.out ⟨(by first | exact rfl | exact trivial), _, _, _, rfl, F9, N9, ?_, by (repeat' (first | exact Knows.nil | refine Knows.cons (by with_unfolding_all rfl) ?_))⟩
        first
          | exact kint_of (z := g) (by with_unfolding_all rfl) (by rw [hA, if_pos (by assumption)])
          | exact kint_of (z := x) (by with_unfolding_all rfl) (by rw [hA, if_neg (by assumption)])
    rintro _ ⟨h3, tk3, m3, rfl, F3, N3, ⟨tA, kA⟩, kn3⟩
    replace F3 := fr_known F3 (.cons kA kn3)
    clear F2 N2 kA kn3
    refine execs_cut (fun s' => ∃ h' tk' m', s' = { s with heap := h', toks := tk' } ∧ Fr s.heap L' h' m' ∧ News s.heap L' h' [] ∧ KInt m' "high" B ∧ Knows m' [("low", .int A tA)]) ?_ ?_
    · clear hA
      (try dsimp only)
      (repeat' (first | (k_unfold; (try dsimp only)) | (k_end; wrow_close) | ((with_reducible show wpAny _ _ (PySem.execs _ _) _ _ _); first | ((with_reducible show wpAny _ _ (PySem.execs (PySem.Stmt.If _ _ _ _ :: _) _) _ _ _); refine Stop.intro ?_)) | walk1 | (dsimp only; walk1) | (leave1; try dsimp only) | ((with_reducible show wpAny _ _ _ _ _ _); dsimp only)))
      all_goals
        rename Fr _ _ _ _ => F9
        rename News _ _ _ _ => N9
        refine Stop.out ⟨(by first | exact rfl | exact trivial), _, _, _, rfl, F9, N9, ?_, by (repeat' (first | exact Knows.nil | refine Knows.cons (by with_unfolding_all rfl) ?_))⟩
        first
          | exact kint_of (z := g) (by with_unfolding_all rfl) (by rw [hB, if_pos (by assumption)])
          | exact kint_of (z := y) (by with_unfolding_all rfl) (by rw [hB, if_neg (by assumption)])
    rintro _ ⟨h4, tk4, m4, rfl, F4, N4, ⟨tB, kB⟩, kn4⟩
    replace F4 := fr_known F4 (.cons kB kn4)
    clear F3 N3 kB kn4
    (try dsimp only)
    (repeat' (first | (k_unfold; (try dsimp only)) | (k_end; wrow_close) | ((with_reducible show wpAny _ _ (PySem.execs _ _) _ _ _); first | ((with_reducible show wpAny _ _ (PySem.execs (PySem.Stmt.If _ _ _ _ :: _) _) _ _ _); refine Stop.intro ?_)) | walk1 | (dsimp only; walk1) | (leave1; try dsimp only) | ((with_reducible show wpAny _ _ _ _ _ _); dsimp only)))
    refine ret1 _ _ _ _ _ _ _ _ (Fr.keep (by assumption)) (endsOf_some hc ?e2 ?e3) (News.fresh (by assumption) (.head _)) (News.get (by assumption) (.head _))
    · rw [← hA, ← hB]; (repeat' split) <;> omega
    · rw [← hA, ← hB]; (repeat' split) <;> omega
end
end
section
theorem off_ksort : True := by
  w_top off
  trivial
/-- what a sort's questions come to, where they are answered by keys -/
def kW (N : Nat) (K : Nat → Int) {α : Type} : KasT α → (α → Prop) → Prop
  | .ret a, Q => Q a
  | .ask i j k, Q => i < N ∧ j < N ∧ kW N K (k (decide (K i < K j))) Q
section
variable {N : Nat} {K : Nat → Int} {α β : Type}
theorem kW_mono {Q Q' : α → Prop} (h : ∀ a, Q a → Q' a) : ∀ {t : KasT α}, kW N K t Q → kW N K t Q'
  | .ret _, q => h _ q
  | .ask _ _ _, q => ⟨q.1, q.2.1, kW_mono h q.2.2⟩
theorem kW_bind {f : α → KasT β} {Q : β → Prop} : ∀ {t : KasT α}, kW N K t (fun a => kW N K (f a) Q) → kW N K (t.bind f) Q
  | .ret _, q => q
  | .ask _ _ _, q => ⟨q.1, q.2.1, kW_bind q.2.2⟩
theorem kW_use {cmp : Nat → Nat → (Bool → Shared → Prop) → Shared → Prop} {I : Shared → Prop} (hc : ∀ i j C s, i < N → j < N → I s → (∀ s', I s' → C (decide (K i < K j)) s') → cmp i j C s) {Q : α → Prop} {G : α → Shared → Prop} (hG : ∀ a s, Q a → I s → G a s) :
    ∀ {t : KasT α} {s : Shared}, kW N K t Q → I s → t.kasWp cmp G s
  | .ret _, _, q, i => hG _ _ q i
  | .ask _ _ _, _, q, i => hc _ _ _ _ q.1 q.2.1 i fun _ i' => kW_use hc hG q.2.2 i'

def ky (K : Nat → Int) (p : Array Nat) (i : Nat) : Int := K (p.getD i 0)
structure Bp (N : Nat) (p : Array Nat) : Prop where
  perm : p.toList.Perm (List.range N)
theorem Bp.size {p : Array Nat} (b : Bp N p) : p.size = N := by have := b.perm.length_eq; simpa using this
theorem Bp.lt {p : Array Nat} (b : Bp N p) {i : Nat} (h : i < N) : p.getD i 0 < N := by
  have hs := b.size
  have hi : i < p.size := by lia
  have e : p.getD i 0 = p[i] := by simp [Array.getD, hi]
  rw [e]
  have := b.perm.mem_iff.mp (Array.getElem_mem_toList hi)
  simpa using this
theorem ky_of {p q : Array Nat} {i j : Nat} (h : p[i]? = q[j]?) : ky K p i = ky K q j := by
  unfold ky
  rw [Array.getD_eq_getD_getElem?, Array.getD_eq_getD_getElem?, h]
theorem ky_rev {p : Array Nat} {i j : Nat} (hj : j ≤ p.size) (k : Nat) : ky K (kas_rev p i j) k = if i ≤ k ∧ k < j then ky K p (i + j - 1 - k) else ky K p k := by
  have h := getElem?_mirror_all (i := i) hj k
  split
  · rename_i c; rw [if_pos c] at h; exact ky_of h
  · rename_i c; rw [if_neg c] at h; exact ky_of h
theorem ky_bubble {p : Array Nat} {src d : Nat} (hs : src < p.size) (hd : d ≤ src) (k : Nat) : ky K (bubble p src d) k = if k = src - d then ky K p src else if src - d < k ∧ k ≤ src then ky K p (k - 1) else ky K p k := by
  have h := getElem?_bubble hs d hd k
  split
  · rename_i c; rw [if_pos c] at h; exact ky_of h
  · rename_i c; rw [if_neg c] at h
    split
    · rename_i c; rw [if_pos c] at h; exact ky_of h
    · rename_i c; rw [if_neg c] at h; exact ky_of h
theorem Bp.rev {p : Array Nat} (b : Bp N p) (i j : Nat) : Bp N (kas_rev p i j) := ⟨(mirror_perm p i j _).toList.trans b.perm⟩
theorem Bp.bub {p : Array Nat} (b : Bp N p) (i j : Nat) : Bp N (bubble p i j) := ⟨(bubble_perm p i j).toList.trans b.perm⟩

def Asc (K : Nat → Int) (p : Array Nat) (n : Nat) : Prop := ∀ i j, i ≤ j → j < n → ky K p i ≤ ky K p j
def Dsc (K : Nat → Int) (p : Array Nat) (n : Nat) : Prop := ∀ i j, i ≤ j → j < n → ky K p j ≤ ky K p i
theorem Asc.succ {p : Array Nat} {n : Nat} (h : Asc K p n) (hn : 1 ≤ n) (e : ky K p (n - 1) ≤ ky K p n) : Asc K p (n + 1) := by
  intro i j hij hj
  by_cases h1 : j = n
  · subst h1
    by_cases h2 : i = j
    · subst h2; lia
    · have := h i (j - 1) (by lia) (by lia); lia
  · exact h i j hij (by lia)
theorem Dsc.succ {p : Array Nat} {n : Nat} (h : Dsc K p n) (hn : 1 ≤ n) (e : ky K p n ≤ ky K p (n - 1)) : Dsc K p (n + 1) := by
  intro i j hij hj
  by_cases h1 : j = n
  · subst h1
    by_cases h2 : i = j
    · subst h2; lia
    · have := h i (j - 1) (by lia) (by lia); lia
  · exact h i j hij (by lia)

theorem kw_asc {p : Array Nat} (b : Bp N p) : ∀ (f n : Nat), 1 ≤ n → n + f ≤ N → Asc K p n → kW N K (kas_asc p f n) (fun m => n ≤ m ∧ m ≤ n + f ∧ Asc K p m ∧ (m < n + f → ky K p m < ky K p (m - 1)))
  | 0, n, _, _, h => ⟨Nat.le_refl _, Nat.le_refl _, h, fun q => absurd q (Nat.lt_irrefl _)⟩
  | f + 1, n, h1, hf, h => by
    refine ⟨b.lt (by lia), b.lt (by lia), ?_⟩
    by_cases c : K (p.getD n 0) < K (p.getD (n - 1) 0)
    · rw [decide_eq_true c]
      exact ⟨Nat.le_refl _, by lia, h, fun _ => c⟩
    · rw [decide_eq_false c]
      refine kW_mono (fun m q => ?_) (kw_asc b f (n + 1) (by lia) (by lia) (h.succ h1 (Int.not_lt.mp c)))
      exact ⟨by lia, by lia, q.2.2.1, fun l => q.2.2.2 (by lia)⟩

def Eqb (K : Nat → Int) (p : Array Nat) (n q : Nat) : Prop := ∀ i, n - (q + 1) ≤ i → i < n → ky K p i = ky K p (n - 1)
theorem ky_eqb {p : Array Nat} {n q : Nat} (hn : n ≤ p.size) (hq : q + 1 ≤ n) (e : Eqb K p n q) (k : Nat) : ky K (kas_rev p (n - (q + 1)) n) k = ky K p k := by
  rw [ky_rev hn]
  split
  · rename_i c
    rw [e k c.1 c.2, e _ (by lia) (by lia)]
  · rfl
theorem kw_desc : ∀ (f : Nat) (p : Array Nat) (n q : Nat), Bp N p → 1 ≤ n → n + f ≤ N → q + 1 ≤ n → Dsc K p n → Eqb K p n q →
    kW N K (kas_desc f p n q) (fun r => Bp N r.1 ∧ 1 ≤ r.2.1 ∧ r.2.1 ≤ n + f ∧ r.2.2 + 1 ≤ r.2.1 ∧ Dsc K r.1 r.2.1 ∧ Eqb K r.1 r.2.1 r.2.2)
  | 0, p, n, q, b, h1, _, hq, hd, he => ⟨b, h1, Nat.le_refl _, hq, hd, he⟩
  | f + 1, p, n, q, b, h1, hf, hq, hd, he => by
    refine ⟨b.lt (by lia), b.lt (by lia), ?_⟩
    by_cases c : K (p.getD n 0) < K (p.getD (n - 1) 0)
    · rw [decide_eq_true c]; simp only [if_true]
      have one : ∀ p' : Array Nat, Eqb K p' (n + 1) 0 := fun p' i h1 h2 => by
        have : i = n + 1 - 1 := by lia
        rw [this]
      have hd' := hd.succ h1 (show ky K p n ≤ ky K p (n - 1) from Int.le_of_lt c)
      split
      · have e := ky_eqb (K := K) (by rw [b.size]; lia) hq he
        refine kW_mono (fun r x => ⟨x.1, x.2.1, by lia, x.2.2.2⟩) (kw_desc f _ (n + 1) 0 (b.rev _ _) (by lia) (by lia) (by lia) (fun i j hij hj => ?_) (one _))
        rw [e, e]; exact hd' i j hij hj
      · exact kW_mono (fun r x => ⟨x.1, x.2.1, by lia, x.2.2.2⟩) (kw_desc f _ (n + 1) 0 b (by lia) (by lia) (by lia) hd' (one _))
    · rw [decide_eq_false c]; simp only [Bool.false_eq_true, if_false]
      refine ⟨b.lt (by lia), b.lt (by lia), ?_⟩
      by_cases d : K (p.getD (n - 1) 0) < K (p.getD n 0)
      · rw [decide_eq_true d]; simp only [if_true]
        exact ⟨b, h1, (by show n ≤ n + (f + 1); lia), hq, hd, he⟩
      · rw [decide_eq_false d]; simp only [Bool.false_eq_true, if_false]
        have e : ky K p n = ky K p (n - 1) := Int.le_antisymm (Int.not_lt.mp d) (Int.not_lt.mp c)
        refine kW_mono (fun r x => ⟨x.1, x.2.1, by lia, x.2.2.2⟩) (kw_desc f _ (n + 1) (q + 1) b (by lia) (by lia) (by lia) (hd.succ h1 (by lia)) fun i h2 h3 => ?_)
        show ky K p i = ky K p n
        by_cases h4 : i = n
        · rw [h4]
        · rw [e]; exact he i (by lia) (by lia)
def Cnt (N : Nat) (K : Nat → Int) (nrem : Nat) (r : Nat × Array Nat) : Prop := Bp N r.2 ∧ Asc K r.2 r.1 ∧ 1 ≤ r.1 ∧ r.1 ≤ nrem
theorem asc_rev {p : Array Nat} {n : Nat} (hn : n ≤ p.size) (h : Dsc K p n) : Asc K (kas_rev p 0 n) n := by
  intro i j hij hj
  rw [ky_rev hn, ky_rev hn, if_pos ⟨Nat.zero_le _, by lia⟩, if_pos ⟨Nat.zero_le _, hj⟩]
  exact h _ _ (by lia) (by lia)
theorem kw_tail3 {p : Array Nat} {n nrem : Nat} (b : Bp N p) (h1 : 1 ≤ n) (hn : n ≤ nrem) (hN : nrem ≤ N) (h : Dsc K p n) : kW N K (kas_tail3 n nrem p) (Cnt N K nrem) := by
  unfold kas_tail3
  refine kW_bind (kW_mono (fun m q => ?_) (kw_asc (b.rev 0 n) (nrem - n) n h1 (by lia) (asc_rev (by rw [b.size]; lia) h)))
  exact ⟨b.rev 0 n, q.2.2.1, by lia, by lia⟩
theorem kw_descPart {p : Array Nat} {n nrem : Nat} (b : Bp N p) (h1 : 1 ≤ n) (hn : n + 1 ≤ nrem) (hN : nrem ≤ N) (h : Dsc K p (n + 1)) : kW N K (kas_descPart n nrem p) (Cnt N K nrem) := by
  unfold kas_descPart
  refine kW_bind (kW_mono (fun r q => ?_) (kw_desc (nrem - (n + 1)) p (n + 1) 0 b (by lia) (by lia) (by lia) h fun i h2 h3 => by
    have : i = n + 1 - 1 := by lia
    rw [this]))
  obtain ⟨b', h2, h3, h4, h5, h6⟩ := q
  split
  · have e := ky_eqb (K := K) (by rw [b'.size]; lia) h4 h6
    exact kw_tail3 (b'.rev _ _) h2 (by lia) hN fun i j hij hj => by rw [e, e]; exact h5 i j hij hj
  · exact kw_tail3 b' h2 (by lia) hN h5
theorem kw_count {p : Array Nat} {nrem : Nat} (b : Bp N p) (h1 : 1 ≤ nrem) (hN : nrem ≤ N) : kW N K (kas_count nrem p) (Cnt N K nrem) := by
  unfold kas_count
  refine kW_bind (kW_mono (fun n q => ?_) (kw_asc b (nrem - 1) 1 (Nat.le_refl _) (by lia) fun i j hij hj => by
    have : i = j := by lia
    rw [this]; exact Int.le_refl _))
  obtain ⟨h2, h3, h4, h5⟩ := q
  by_cases c1 : n = nrem
  · rw [if_pos (by simp [c1])]; exact ⟨b, h4, h2, by lia⟩
  rw [if_neg (by simp [c1])]
  have hlt := h5 (by lia)
  split
  · refine ⟨b.lt (by lia), b.lt (by lia), ?_⟩
    by_cases c : K (p.getD 0 0) < K (p.getD (n - 1) 0)
    · rw [decide_eq_true c]; simp only [if_true]; exact ⟨b, h4, h2, by lia⟩
    · rw [decide_eq_false c]; simp only [Bool.false_eq_true, if_false]
      have hc : ky K p (n - 1) ≤ ky K p 0 := Int.not_lt.mp c
      have all : ∀ i, i < n → ky K p i = ky K p 0 := fun i hi => by
        have := h4 0 i (by lia) hi
        have := h4 i (n - 1) (by lia) (by lia)
        lia
      refine kw_descPart (b.rev _ _) h2 (by lia) hN fun i j hij hj => ?_
      have e : ∀ k, ky K (kas_rev p 0 n) k = if k < n then ky K p 0 else ky K p k := fun k => by
        rw [ky_rev (by rw [b.size]; lia)]
        by_cases hk : k < n
        · rw [if_pos ⟨by lia, hk⟩, if_pos hk]; exact all _ (by lia)
        · rw [if_neg (by lia), if_neg hk]
      rw [e, e]
      have a1 := all (n - 1) (by lia)
      by_cases hj' : j < n
      · rw [if_pos hj', if_pos (by lia)]; exact Int.le_refl _
      · have : j = n := by lia
        subst this
        rw [if_neg hj']
        by_cases hi' : i < j
        · rw [if_pos hi']; lia
        · have : i = j := by lia
          subst this; rw [if_neg hi']; exact Int.le_refl _
  · have hn1 : n = 1 := by lia
    subst hn1
    refine kw_descPart b (Nat.le_refl _) (by lia) hN fun i j hij hj => ?_
    rcases Nat.lt_or_ge i j with h | h
    · have hi : i = 0 := by lia
      have hj : j = 1 := by lia
      subst hi; subst hj; exact Int.le_of_lt hlt
    · have : i = j := by lia
      rw [this]; exact Int.le_refl _
theorem kw_place {p : Array Nat} {k : Nat} (b : Bp N p) (hk : k < N) (h : Asc K p k) : ∀ (f l r : Nat), l ≤ r → r ≤ k → r - l ≤ f → (∀ i, i < l → ky K p i ≤ ky K p k) → (∀ i, r ≤ i → i < k → ky K p k < ky K p i) →
    kW N K (kas_place p k f l r) (fun l => l ≤ k ∧ (∀ i, i < l → ky K p i ≤ ky K p k) ∧ ∀ i, l ≤ i → i < k → ky K p k < ky K p i)
  | 0, l, r, h1, h2, h3, h4, h5 => ⟨by lia, h4, fun i q => h5 i (by lia)⟩
  | f + 1, l, r, h1, h2, h3, h4, h5 => by
    unfold kas_place
    by_cases c : l ≥ r
    · rw [if_pos c]; exact ⟨by lia, h4, fun i q => h5 i (by lia)⟩
    rw [if_neg c]
    refine ⟨b.lt hk, b.lt (by lia), ?_⟩
    by_cases d : K (p.getD k 0) < K (p.getD ((l + r) / 2) 0)
    · rw [decide_eq_true d]; simp only [if_true]
      refine kw_place b hk h f l ((l + r) / 2) (by lia) (by lia) (by lia) h4 fun i q1 q2 => ?_
      have : ky K p k < ky K p ((l + r) / 2) := d
      have := h _ i q1 q2
      lia
    · rw [decide_eq_false d]; simp only [Bool.false_eq_true, if_false]
      refine kw_place b hk h f ((l + r) / 2 + 1) r (by lia) (by lia) (by lia) (fun i q => ?_) h5
      have : ky K p ((l + r) / 2) ≤ ky K p k := Int.not_lt.mp d
      have := h i ((l + r) / 2) (by lia) (by lia)
      lia
theorem kw_bin : ∀ (f : Nat) (p : Array Nat) (k : Nat), Bp N p → k + f ≤ N → Asc K p k → kW N K (kas_bin f p k) (fun p => Bp N p ∧ Asc K p (k + f))
  | 0, p, k, b, _, h => ⟨b, h⟩
  | f + 1, p, k, b, hk, h => by
    unfold kas_bin
    refine kW_bind (kW_mono (fun l q => ?_) (kw_place b (by lia) h k 0 k (by lia) (by lia) (by lia) (fun i q => absurd q (Nat.not_lt_zero _)) fun i q1 q2 => by lia))
    obtain ⟨hl, ha, hb⟩ := q
    have e := ky_bubble (K := K) (p := p) (src := k) (d := k - l) (by rw [b.size]; lia) (by lia)
    refine kW_mono (fun p q => ⟨q.1, by rw [show k + (f + 1) = k + 1 + f by lia]; exact q.2⟩) (kw_bin f _ (k + 1) (b.bub _ _) (by lia) fun i j hij hj => ?_)
    rw [e, e]
    rw [show k - (k - l) = l by lia]
    by_cases i1 : i = l
    · rw [if_pos i1]
      by_cases j1 : j = l
      · rw [if_pos j1]; exact Int.le_refl _
      · rw [if_neg j1, if_pos (by lia)]
        exact Int.le_of_lt (hb _ (by lia) (by lia))
    · rw [if_neg i1]
      by_cases i2 : l < i ∧ i ≤ k
      · rw [if_pos i2, if_neg (by lia), if_pos (by lia)]
        exact h _ _ (by lia) (by lia)
      · rw [if_neg i2]
        by_cases j1 : j = l
        · rw [if_pos j1]; exact ha _ (by lia)
        · rw [if_neg j1]
          by_cases j2 : l < j ∧ j ≤ k
          · rw [if_pos j2]; exact h _ _ (by lia) (by lia)
          · rw [if_neg j2]; exact h _ _ hij (by lia)
theorem kw_sort (h1 : 1 ≤ N) : kW N K (kas_sort N) (fun p => Bp N p ∧ Asc K p N) := by
  unfold kas_sort
  refine kW_bind (kW_mono (fun r q => ?_) (kw_count (nrem := N) ⟨by simp⟩ h1 (Nat.le_refl _)))
  obtain ⟨b, ha, h2, h3⟩ := q
  split
  · refine kW_mono (fun p q => ⟨q.1, by rw [show N = max r.1 1 + (N - max r.1 1) by lia]; exact q.2⟩) (kw_bin (N - max r.1 1) r.2 (max r.1 1) b (by lia) fun i j hij hj => ha i j hij (by lia))
  · exact ⟨b, by rw [show N = r.1 by lia]; exact ha⟩
end
end
section
theorem off_sortp : True := by
  w_top off
  trivial
/-- pairs by their first, then by their second -/
def lk (p : Int × Int) : Int := p.1 * 1000 + p.2
theorem PairsR.tups {h : Heap} {vs : List Value} {ps : List (Int × Int)} (x : PairsR (hp h) vs ps) : ∃ fs, KatTups h vs fs ∧ fs.length = vs.length ∧ ∀ f ∈ fs, ∃ k t, f = .int k t := by
  induction x with
  | nil => exact ⟨[], trivial, rfl, fun _ h => nomatch h⟩
  | cons h _ ih =>
    obtain ⟨fs, a, b, c⟩ := ih
    cases h with
    | mk h =>
      refine ⟨_ :: fs, KatTups.cons h rfl rfl rfl a, by simp [b], fun f hf => ?_⟩
      rcases List.mem_cons.mp hf with rfl | hf
      · exact ⟨_, _, rfl⟩
      · exact c f hf
section
variable {prog : Program} {w : World} {A : Around} {E : Value → Shared → Prop} {s : Shared} {h₀ : Heap} {L a : Addr} {m : Str → Option Value} {news tl : List (Addr × Obj)} {vs : List Value} {ps : List (Int × Int)}
theorem key_lt {va vb : Value} {p q : Int × Int} {Q : Bool → Shared → Prop} (ha : PairR (hp s.heap) va p) (hb : PairR (hp s.heap) vb q) (h : Q (decide (p.1 < q.1 ∨ (p.1 = q.1 ∧ p.2 < q.2))) s) :
    wpAny (model prog w) A (keyLt' (tuples' true) va vb) Q E s := by
  cases ha with
  | mk ha =>
  cases hb with
  | mk hb =>
  rename_i x y _ _ _ _ u v _ _
  refine kat_lt ha rfl hb rfl ?_
  refine kat_cons (wpAny_eqBool_int ?_)
  by_cases e1 : x = u
  · rw [beq_iff_eq.mpr e1]
    refine kat_yes (kat_cons (wpAny_eqBool_int ?_))
    by_cases e2 : y = v
    · rw [beq_iff_eq.mpr e2]
      refine kat_yes (kat_nil ?_)
      rw [decide_eq_false (by (first | lia | omega))] at h
      exact h
    · rw [beq_eq_false_iff_ne.mpr e2]
      refine kat_no ?_
      refine kat_one _ _ ?_
      refine lt_int ?_
      have e : decide (y < v) = decide (x < u ∨ (x = u ∧ y < v)) := decide_eq_decide.mpr (by (first | lia | omega))
      show Q (decide (y < v)) s
      rw [e]; exact h
  · rw [beq_eq_false_iff_ne.mpr e1]
    refine kat_no (oneLt_int ?_)
    have e : decide (x < u) = decide (x < u ∨ (x = u ∧ y < v)) := decide_eq_decide.mpr (by (first | lia | omega))
    rw [e]; exact h

theorem sort_small {n : Nat} {P : PySem.Fin → Shared → Prop} (ho : s.heap.get? a = some (seqObj "list" vs.toArray n)) (hz : vs.length < 2)
    (h : P (.done (.ret .none)) { s with heap := sortedHeap s.heap a vs vs.toArray }) : wpAny (model prog w) A (Builtin.«list.sort» ⟨[.ref a], []⟩) P E s := by
  rw [list_sort_plain]
  have ha : a < s.heap.objs.size := Heap.lt_size ho
  refine wpAny_bind (listItems_at ho rfl ?_)
  refine wpAny_bind (listUpdate_at ho rfl ?_)
  obtain ⟨e1, ho1⟩ : ∃ e1, (s.heap.update a (Obj.mapSeq fun _ => #[])).get? a = some (seqObj "list" #[] e1) := ⟨_, get?_update_seq ho (fun _ => #[])⟩
  refine wpAny_bind (seqEpoch_at ho1 rfl ?_)
  refine wpAny_bind (wpAny_newTuple ?_)
  refine wpAny_bind (wpAny_newList ?_)
  refine wpAny_holding ?_
  have ho6 : (((s.heap.update a (Obj.mapSeq fun _ => #[])).push (seqObj "tuple" vs.toArray 0)).push (seqObj "list" #[] 0)).get? a = some (seqObj "list" #[] e1) := by
    rw [Heap.get?_push_ne _ _ _ (by rw [size_push', Heap.size_update]; exact Nat.ne_of_lt (Nat.lt_succ_of_lt ha)), Heap.get?_push_ne _ _ _ (by rw [Heap.size_update]; exact Nat.ne_of_lt ha)]
    exact ho1
  show wpAny (model prog w) A _ P E { s with heap := ((s.heap.update a (Obj.mapSeq fun _ => #[])).push (seqObj "tuple" vs.toArray 0)).push (seqObj "list" #[] 0) }
  dsimp only
  have h2 : vs.toArray.size < 2 := by simpa using hz
  rw [if_pos h2, if_pos h2]
  refine wpAny_bind (wpAny_pure ?_)
  rw [StateT.run_pure]
  refine wpAny_bind (wpAny_pure ?_)
  dsimp only
  refine wpAny_bind (seqEpoch_at ho6 rfl ?_)
  refine wpAny_bind (listUpdate_at ho6 rfl ?_ (hsz2 := by rw [Array.size_map]; show (pairsOf vs).size ≤ _; rw [pairsOf_size, sizeLine_eq]; (first | lia | omega)))
  simp only [bne_self_eq_false, Bool.false_eq_true, if_false]
  have e : (arrOf (SortSt.mk' general' (vs.toArray.zip vs.toArray) #[] 7 none)).map (·.2) = vs.toArray := by
    show (vs.toArray.zip vs.toArray).map (·.2) = vs.toArray
    apply Array.toList_inj.mp
    simp [List.map_snd_zip]
  rw [e]
  exact wpAny_pure h

theorem sort_pairs {D : Addr} {n : Nat} {Q : Value → Shared → Prop} (F : Fr h₀ L s.heap m) (N : News h₀ L s.heap ((D, W.listOf vs.toArray n) :: tl)) (hoff : ∀ p ∈ tl, p.1 ≠ D) (hps : PairsR (Bs h₀ tl) vs ps) (hb : ∀ p ∈ ps, 0 ≤ p.2 ∧ p.2 < 1000) (h64 : vs.length < 64)
    (h : ∀ vs' ps' k h' tk', Fr h₀ L h' m → News h₀ L h' ((D, W.listOf vs'.toArray k) :: tl) → PairsR (Bs h₀ tl) vs' ps' → ps'.Perm ps → ps'.Pairwise (fun p q => lk p ≤ lk q) → Q .none { s with heap := h', toks := tk' }) :
    wpAny (model prog w) A (call (.builtin "list.sort") [.ref D]) Q E s := by
  have nz := N (D, W.listOf vs.toArray n) (.head _)
  by_cases h2 : 2 ≤ vs.length
  · refine kat_lsort F N (.head hoff) rfl (by simpa using h2) (by simpa using h64) fun e1 h' F' N' => ?_
    have hps' : PairsR (hp h') vs ps := hps.mono (Bs.at F' fun p hp => N' p (.tail _ hp))
    obtain ⟨fs, hf, hfl, hfi⟩ := hps'.tups
    have hlen := hps.length
    refine kat_kind (T := .type "int") hf (by (first | lia | omega)) (fun v hv => ?_) (by decide) ?_
    · obtain ⟨k, t, rfl⟩ := hfi v hv
      exact Looks.of_pure rfl
    have hkT : ((Value.type "int") != Value.type "tuple") = true := by decide
    rw [hkT]
    dsimp only
    have hK : ∀ i, i < vs.length → lk (ps.getD i (0, 0)) = lk (ps.getD i (0, 0)) := fun _ _ => rfl
    refine kW_use (N := vs.length) (K := fun i => lk (ps.getD i (0, 0))) (I := fun s' => ∃ tk, s' = { s with heap := h', toks := tk }) ?_ ?_ (kw_sort (by (first | lia | omega))) ⟨s.toks, rfl⟩
    · rintro i j C s' hi hj ⟨tk, rfl⟩ hC
      obtain ⟨vi, hvi, hri⟩ := hps'.get' (i := i) (by (first | lia | omega))
      obtain ⟨vj, hvj, hrj⟩ := hps'.get' (i := j) (by (first | lia | omega))
      have ei : vs.getD i Value.none = vi := by rw [List.getD_eq_getElem?_getD, hvi]; rfl
      have ej : vs.getD j Value.none = vj := by rw [List.getD_eq_getElem?_getD, hvj]; rfl
      show wpAny _ _ (keyLt' _ (vs.getD i Value.none) (vs.getD j Value.none)) _ _ _
      rw [ei, ej]
      refine key_lt (p := ps[i]) (q := ps[j]) hri hrj ?_
      have pi : ps.getD i (0, 0) = ps[i] := by rw [List.getD_eq_getElem?_getD, List.getElem?_eq_getElem (by (first | lia | omega))]; rfl
      have pj : ps.getD j (0, 0) = ps[j] := by rw [List.getD_eq_getElem?_getD, List.getElem?_eq_getElem (by (first | lia | omega))]; rfl
      have bi := hb ps[i] (List.getElem_mem _)
      have bj := hb ps[j] (List.getElem_mem _)
      have := hC _ ⟨tk, rfl⟩
      rw [pi, pj] at this
      have e : decide (lk ps[i] < lk ps[j]) = decide (ps[i].1 < ps[j].1 ∨ (ps[i].1 = ps[j].1 ∧ ps[i].2 < ps[j].2)) := decide_eq_decide.mpr (by unfold lk; (first | lia | omega))
      rw [← e]; exact this
    · rintro p s' ⟨bp, hasc⟩ ⟨tk, rfl⟩
      refine KasFin.intro F' N' (.head hoff) fun h'' c F'' N'' => ?_
      have hmem : ∀ i ∈ p.toList, i < vs.length := fun i hi => by
        have := bp.perm.mem_iff.mp hi
        simpa using this
      refine h _ (p.toList.map fun i => ps.getD i (0, 0)) c h'' tk F'' N'' ?_ ?_ ?_
      · have go : ∀ l : List Nat, (∀ i ∈ l, i < vs.length) → PairsR (Bs h₀ tl) (l.map fun i => vs.getD i Value.none) (l.map fun i => ps.getD i (0, 0)) := by
          intro l
          induction l with
          | nil => intro _; exact .nil
          | cons i l ih =>
            intro hl
            have hi := hl i (.head _)
            obtain ⟨vi, hvi, hri⟩ := hps.get' (i := i) (by (first | lia | omega))
            refine .cons ?_ (ih fun j hj => hl j (.tail _ hj))
            show PairR (Bs h₀ tl) (vs.getD i Value.none) (ps.getD i (0, 0))
            rw [List.getD_eq_getElem?_getD, hvi, List.getD_eq_getElem?_getD, List.getElem?_eq_getElem (by (first | lia | omega))]
            exact hri
        exact go _ hmem
      · have e : (List.range vs.length).map (fun i => ps.getD i (0, 0)) = ps := by
          refine List.ext_getElem (by simp [hlen]) fun i h1 h2 => ?_
          rw [List.getElem_map, List.getElem_range, List.getD_eq_getElem?_getD, List.getElem?_eq_getElem h2]; rfl
        rw [← e]
        have := bp.perm.map (fun i => ps.getD i (0, 0))
        rw [e] at *
        exact this
      · rw [List.pairwise_iff_getElem]
        intro i j hi hj hij
        simp only [List.length_map] at hi hj
        rw [List.getElem_map, List.getElem_map]
        have hsz := bp.size
        have := hasc i j (Nat.le_of_lt hij) (by simpa [hsz] using hj)
        unfold ky at this
        have gi : p.getD i 0 = p.toList[i] := by
          have : i < p.size := by simpa using hi
          simp [Array.getD, this]
        have gj : p.getD j 0 = p.toList[j] := by
          have : j < p.size := by simpa using hj
          simp [Array.getD, this]
        rw [gi, gj] at this
        exact this
  · have hlen := hps.length
    refine wpAny_call_entry slot_list_sort ⟨_, nz.1, rfl⟩ entry_list_sort (sort_small nz.1 (by (first | lia | omega)) ?_) (args_list_sort _)
    obtain ⟨e, he⟩ := sortedHeap_at (out := vs.toArray) nz.1
    have old : ∀ b o, b ≠ D → s.heap.get? b = some o → (sortedHeap s.heap D vs vs.toArray).get? b = some o := fun b o hne q => (sortedHeap_old hne (Heap.lt_size q)).trans q
    refine ⟨_, rfl, h vs ps e _ _ ⟨F.ns.at' fun o q => old _ _ (Ne.symm nz.2.1) q, fun b o q => old b o (fun e' => ?_) (F.keep b o q), F.above⟩ ?_ hps (List.Perm.refl _) ?_⟩
    · have := nz.2.2; simp only at this; rw [← e', q] at this; cases this
    · intro p hp
      rcases List.mem_cons.mp hp with rfl | hp
      · exact ⟨he, nz.2⟩
      · exact ⟨old _ _ (hoff p hp) (N p (.tail _ hp)).1, (N p (.tail _ hp)).2⟩
    · match ps, hlen with
      | [], _ => exact .nil
      | [_], _ => exact List.pairwise_singleton _ _
      | _ :: _ :: _, e => simp at e; (first | lia | omega)
end
end
section
theorem off_loops : True := by
  w_top off
  trivial
/-- a list or a tuple at an address -/
def SeqO (o : Obj) (vs : List Value) : Prop := (o.cls = .type "list" ∨ o.cls = .type "tuple") ∧ ∃ n, o.data = .seq vs.toArray n
theorem seqO_tup (vs : List Value) (n : Nat) : SeqO (tupO vs n) vs := ⟨.inr rfl, n, rfl⟩
theorem seqO_list (vs : List Value) (n : Nat) : SeqO (W.listOf vs.toArray n) vs := ⟨.inl rfl, n, rfl⟩
theorem allLt_mem {d : Addr} : ∀ {l : List (Addr × Obj)}, AllLt d l → ∀ p ∈ l, p.1 < d
  | [], _, _, h => nomatch h
  | _ :: _, x, p, h => by
    rcases List.mem_cons.mp h with rfl | h
    · exact x.1
    · exact allLt_mem x.2 p h
theorem allNe_mem {d : Addr} : ∀ {l : List (Addr × Obj)}, AllNe d l → ∀ p ∈ l, p.1 ≠ d
  | [], _, _, h => nomatch h
  | _ :: _, x, p, h => by
    rcases List.mem_cons.mp h with rfl | h
    · exact x.1
    · exact allNe_mem x.2 p h
theorem ownOff_lt {d : Addr} {tl own : List (Addr × Obj)} {adr : List Addr} (h : AllLt d (tl ++ own)) (k : OwnOff own adr) : OwnOff own (d :: adr) := fun p hp b hb => by
  rcases List.mem_cons.mp hb with rfl | hb
  · exact Nat.ne_of_lt (allLt_mem h p (List.mem_append.mpr (.inr hp)))
  · exact k p hp b hb
theorem ownOff_ne {d : Addr} {tl own : List (Addr × Obj)} {adr : List Addr} (h : AllNe d (tl ++ own)) (k : OwnOff own adr) : OwnOff own (d :: adr) := fun p hp b hb => by
  rcases List.mem_cons.mp hb with rfl | hb
  · exact allNe_mem h p (List.mem_append.mpr (.inr hp))
  · exact k p hp b hb
theorem ownOff_nil {own : List (Addr × Obj)} : OwnOff own [] := fun _ _ _ h => nomatch h
section
variable {prog : Program} {w : World} {A : Around} {E : Value → Shared → Prop} {s : Shared} {env : Env} {h₀ : Heap} {target : Expr} {body : List Stmt} {Q : Flow → Shared → Prop}
theorem kturns_fin {I : Addr} {own : List (Addr × Obj)} {oI : Obj} (hI : (I, oI) ∈ own) {J : (Str → Option Value) → List (Addr × Obj) → Prop} {s₁ s₂ : Shared} {f : Flow} (hf : f = .next ∨ f = .cont) (p : InvEndG h₀ env.locals J own s₁ s₂) :
    LoopStepV h₀ env.locals [I] own J s₁ (fun v s' => Q (.ret v) s') (fun s' => Q .next s') f s₂ := by
  obtain ⟨h', tk, m', news', nx, e, F', N', hn, ho, ha, hm⟩ := p
  have fin : LoopStepU h₀ env.locals [I] own J s₁ .next s₂ := ⟨rfl, h', tk, m', nx, e, F', fun p hp => N' p ((List.mem_append.mp hp).elim (ho p) (hn p)), fun p hp hq => ha _ hI p.1 (List.mem_map.mpr ⟨p, hp, rfl⟩) (List.mem_singleton.mp hq).symm, hm⟩
  rcases hf with rfl | rfl <;> exact fin

theorem turns_seq {ax : Addr} {o : Obj} {vs : List Value} {m₀ : Str → Option Value} {news : List (Addr × Obj)} (J : Nat → (Str → Option Value) → List (Addr × Obj) → Prop)
    (hh : A.handled = none) (hs : SeqO o vs) (ho : Bs h₀ news ax o) (F : Fr h₀ env.locals s.heap m₀) (N : News h₀ env.locals s.heap news) (hj : J 0 m₀ news)
    (hax : ∀ i m nx, J i m nx → ∀ p ∈ news, p = (ax, o) → p ∈ nx)
    (turn : ∀ i v m₁ nx h tk own, vs[i]? = some v → OwnOff own (nx.map (·.1)) → J i m₁ nx → Fr h₀ env.locals h m₁ → News h₀ env.locals h (nx ++ own) →
      wpAny (model prog w) A (assign target env v) (fun _ s₃ => wpAny (model prog w) A (execs body env) (InvPostG h₀ env.locals (J (i + 1)) own { s with heap := h, toks := tk } Q) E s₃) E { s with heap := h, toks := tk })
    (done : ∀ m₁ nx h tk, J vs.length m₁ nx → Fr h₀ env.locals h m₁ → News h₀ env.locals h nx → Q .next { s with heap := h, toks := tk }) :
    wpAny (model prog w) A (pyIter (.ref ax)) (fun it s₂ => TurnsAt prog w A h₀ env target body Q E it s₂) E s := by
  have hol : s.heap.get? ax = some o := Bs.at F N _ _ ho
  have hne : ax ≠ s.heap.objs.size := Nat.ne_of_lt (Heap.lt_size hol)
  have hLx : env.locals ≠ ax := fun e => by
    rcases ho with hm | e'
    · exact (N _ hm).2.1 e.symm
    · exact absurd (Heap.lt_size e') (Nat.not_lt.mpr (e ▸ F.above))
  have core : ∀ (P Md : Nat → Value → Heap → Prop) (St : Nat → Heap → Prop) (it : Obj), it.isFreed = false → KTurns prog w A target s.heap.objs.size [s.heap.objs.size, ax] [s.heap.objs.size] vs.length P Md St →
      (∀ i v h, P i v h → vs[i]? = some v) → (∀ i h, St i h → ∃ oI, h.get? s.heap.objs.size = some oI) → St 0 (s.heap.push it) →
      TurnsAt prog w A h₀ env target body Q E (.ref s.heap.objs.size) { s with heap := s.heap.push it } := by
    intro P Md St it hfr W hP hSt h0
    refine ⟨_, _, _, vs.length, P, Md, St, m₀, news, J, rfl, W, ?_, ?_, ?_, h0, F.push _, (fun p hp => ⟨Heap.get?_push_of_some _ (N p hp).1, (N p hp).2⟩), hj, ?_, ?_⟩
    · intro hm
      rcases List.mem_cons.mp hm with e | hm
      · exact absurd F.ns.lt (e ▸ Nat.lt_irrefl _)
      · exact hLx (List.mem_singleton.mp hm)
    · intro b hb
      rw [List.mem_singleton.mp hb]
      exact next_is_new F
    · intro p hp hI
      exact absurd (Heap.lt_size (N p hp).1) ((List.mem_singleton.mp hI) ▸ Nat.lt_irrefl _)
    · intro i v m₁ nx h₁ tk₁ own hin hPv hJ hoff hown hget hfp hst F₁ N₁
      have hI0 : h₀.get? s.heap.objs.size = none := next_is_new F
      obtain ⟨oI, hoI⟩ := hSt _ _ hst
      have hIown : (s.heap.objs.size, oI) ∈ own := hfp _ (List.mem_cons.mpr (.inl rfl)) hI0 _ hoI
      have hIf : (s.heap.objs.size, oI) ∈ own.filter fun p => decide (p.1 = s.heap.objs.size) := List.mem_filter.mpr ⟨hIown, by simp⟩
      have hsep : OwnOff (own.filter fun p => decide (p.1 = s.heap.objs.size)) (nx.map (·.1)) := by
        intro p hp b hb e
        obtain ⟨q, hq, rfl⟩ := List.mem_map.mp hb
        have h1 : p.1 = s.heap.objs.size := by simpa using (List.mem_filter.mp hp).2
        exact hoff q hq (List.mem_singleton.mpr (e ▸ h1))
      have N₂ : News h₀ env.locals h₁ (nx ++ own.filter fun p => decide (p.1 = s.heap.objs.size)) := fun p hp => N₁ p ((List.mem_append.mp hp).elim (fun h => List.mem_append.mpr (.inr h)) fun h => List.mem_append.mpr (.inl ((List.mem_filter.mp h).1)))
      have hmore : ∀ p ∈ own, p ∈ own.filter (fun p => decide (p.1 = s.heap.objs.size)) ∨ p = (ax, o) := fun p hp => by
        rcases List.mem_cons.mp (hown p hp) with h1 | h1
        · exact .inl (List.mem_filter.mpr ⟨hp, by simpa using h1⟩)
        · right
          have h2 := List.mem_singleton.mp h1
          have h3 := (N₁ p (List.mem_append.mpr (.inl hp))).1
          rcases ho with hm | e'
          · have h4 := (N₁ _ (List.mem_append.mpr (.inr (hax _ _ _ hJ _ hm rfl)))).1
            rw [h2, h4] at h3
            exact Prod.ext h2 (Option.some.inj h3).symm
          · exact absurd (N₁ p (List.mem_append.mpr (.inl hp))).2.2 (by rw [h2, e']; exact fun q => nomatch q)
      refine wpAny_mono (turn i v m₁ nx h₁ tk₁ _ (hP _ _ _ hPv) hsep hJ F₁ N₂) (fun _ s₃ p => wpAny_mono p (fun f s₂ p => ?_) fun _ _ e => e) fun _ _ e => e
      have up : InvEndG h₀ env.locals (J (i + 1)) (own.filter fun p => decide (p.1 = s.heap.objs.size)) { s with heap := h₁, toks := tk₁ } s₂ → LoopStepU h₀ env.locals [s.heap.objs.size] own (J (i + 1)) { s with heap := h₁, toks := tk₁ } .next s₂ := by
        rintro ⟨h', tk, m', news', nx', e, F', N', hn, ho', ha, hm⟩
        refine ⟨rfl, h', tk, m', nx', e, F', fun p hp => ?_, fun p hp hq => ha _ hIf p.1 (List.mem_map.mpr ⟨p, hp, rfl⟩) (List.mem_singleton.mp hq).symm, hm⟩
        rcases List.mem_append.mp hp with hp | hp
        · rcases hmore p hp with q | rfl
          · exact N' p (ho' p q)
          · rcases ho with hm' | e'
            · exact N' _ (hn _ (hax _ _ _ hm _ hm' rfl))
            · exact absurd (N₁ _ (List.mem_append.mpr (.inl hp))).2.2 (by rw [e']; exact fun q => nomatch q)
        · exact N' p (hn p hp)
      cases f with
      | ret v => exact p
      | brk => exact p
      | next => exact up p
      | cont => exact up p
    · intro h' tk m' news' F' N' _ hJ
      exact done m' news' h' tk hJ F' N'
  obtain ⟨hc, n, hd⟩ := hs
  rcases hc with hc | hc
  · have hl : s.heap.IsList ax vs.toArray := ⟨o, hol, hc, n, hd⟩
    refine wpAny_pyIter_list hl ?_
    have W := KTurns.ofWalks (target := target) (Walks.list (prog := prog) (w := w) hh s.heap.objs.size ax hne vs.toArray) fun i v s Q E st q => letGo_listiter st.1 q
    rw [List.size_toArray] at W
    exact core _ _ _ _ rfl W (fun i v h hp => by simpa using hp) (fun i h st => by obtain ⟨o, e, _⟩ := st.1; exact ⟨o, e⟩) ⟨⟨_, Heap.get?_push_size _ rfl, rfl, rfl⟩, hl.at fun o e => Heap.get?_push_of_some _ e⟩
  · have hl : s.heap.IsTuple ax vs.toArray := ⟨o, hol, hc, n, hd⟩
    refine wpAny_pyIter_tuple hl ?_
    have W := KTurns.ofWalks (target := target) (Walks.tuple (prog := prog) (w := w) hh s.heap.objs.size ax hne vs.toArray) fun i v s Q E st q => letGo_tupleiter st.1 q
    rw [List.size_toArray] at W
    exact core _ _ _ _ rfl W (fun i v h hp => by simpa using hp) (fun i h st => by obtain ⟨o, e, _⟩ := st.1; exact ⟨o, e⟩) ⟨⟨_, Heap.get?_push_size _ rfl, rfl, rfl⟩, hl.at fun o e => Heap.get?_push_of_some _ e⟩

theorem loop_range {x : Str} {r : Addr} {a₀ b₀ : Int} {t₀ u₀ v₀ : Tok} {n : Nat} {m₀ : Str → Option Value} {news : List (Addr × Obj)} (J : Nat → (Str → Option Value) → List (Addr × Obj) → Prop)
    (hh : A.handled = none) (hr : IsRange s.heap r a₀ b₀ 1 t₀ u₀ v₀) (hsmall : Builtin.Range.small a₀ b₀ 1 = true) (hsz : Builtin.Range.rangeSize a₀ b₀ 1 = (n : Int)) (F : Fr h₀ env.locals s.heap m₀) (N : News h₀ env.locals s.heap news) (hj : J 0 m₀ news)
    (turn : ∀ i t m₁ nx h tk own, i < n → OwnOff own (nx.map (·.1)) → J i m₁ nx → Fr h₀ env.locals h (fun y => if y = x then some (.int (a₀ + (i : Int)) t) else m₁ y) → News h₀ env.locals h (nx ++ own) →
      wpAny (model prog w) A (execs body env) (InvPostG h₀ env.locals (J (i + 1)) own { s with heap := h, toks := tk } Q) E { s with heap := h, toks := tk })
    (done : ∀ m₁ nx h tk, J n m₁ nx → Fr h₀ env.locals h m₁ → News h₀ env.locals h nx → Q .next { s with heap := h, toks := tk }) :
    wpAny (model prog w) A (pyIter (.ref r)) (fun it s₂ => LoopAtV prog w A h₀ env x body Q E it s₂) E s := by
  refine wpAny_pyIter_range hr hsmall ?_
  have W : Walks prog w A s.heap.objs.size [s.heap.objs.size] [s.heap.objs.size] n (fun i v => i < n ∧ ∃ t, v = .int (a₀ + i * 1) t)
      (fun i h => IsRangeIter h s.heap.objs.size (a₀ + (i : Nat) * 1) ((n : Int) - (i : Nat)) 1) := (Walks.range hh _ a₀ 1 n).bound
  refine kdr_loop J W (fun _ h => h) (fun _ h => h) ?_ ?_ ?_ ?_ (by show IsRangeIter _ _ _ _ _; rw [hsz]; simpa using Heap.get?_push_size _ rfl) (F.push _) (fun p hp => ⟨Heap.get?_push_of_some _ (N p hp).1, (N p hp).2⟩) hj ?_ done
  · intro i h hi b hb
    rw [List.mem_singleton.mp hb]
    exact ⟨_, hi⟩
  · intro hm
    exact absurd F.ns.lt ((List.mem_singleton.mp hm) ▸ Nat.lt_irrefl _)
  · intro b hb
    rw [List.mem_singleton.mp hb]
    exact next_is_new F
  · intro p hp hI
    exact absurd (Heap.lt_size (N p hp).1) ((List.mem_singleton.mp hI) ▸ Nat.lt_irrefl _)
  · rintro i v m₁ nx h tk own hi ⟨_, t, rfl⟩ hoff hJ F₁ N₁
    have e1 : a₀ + (i : Int) * 1 = a₀ + (i : Int) := by (first | lia | omega)
    rw [e1] at F₁
    exact turn i t m₁ nx h tk own hi hoff hJ F₁ N₁
end
theorem rangeSize_up (a b : Int) : Builtin.Range.rangeSize a b 1 = ((b - a).toNat : Int) := by
  unfold Builtin.Range.rangeSize
  simp only [show ((1 : Int) > 0) by decide, if_true, Int.ediv_one]
  split <;> (first | lia | omega)
theorem small_up {a b : Int} (ha : -(2 ^ 62) ≤ a) (ha' : a < 2 ^ 62) (hb : -(2 ^ 62) ≤ b) (hb' : b < 2 ^ 62) : Builtin.Range.small a b 1 = true := by
  unfold Builtin.Range.small
  rw [rangeSize_up]
  simp only [Builtin.Range.rangeFitsLong, Bool.and_eq_true, Bool.or_eq_true, decide_eq_true_eq, beq_iff_eq, show ((1 : Int) > 0) by decide, if_true]
  (first | lia | omega)
end
section
theorem off_setneg : True := by
  w_top off
  trivial
section
variable {prog : Program} {w : World} {A : Around} {E : Value → Shared → Prop} {s : Shared} {h₀ : Heap} {L : Addr} {m : Str → Option Value} {news tl : List (Addr × Obj)}
theorem isTup_in {h : Heap} {a : Addr} {l : List Value} {n : Nat} (F : Fr h₀ L h m) (N : News h₀ L h news) (x : Bs h₀ tl a (tupO l n)) (s : ∀ q ∈ tl, q ∈ news) : IsTup h a l.toArray := ⟨_, Bs.at F N _ _ (Bs.mono s _ _ x), rfl, _, rfl⟩
theorem PairR.open {R : Rel} {v : Value} {x y : Int} (h : PairR R v (x, y)) : ∃ a n t u, v = .ref a ∧ R a (tupO [.int x t, .int y u] n) := by
  cases h with
  | mk h => exact ⟨_, _, _, _, rfl, h⟩
theorem set_neg {D : Addr} {vs : List Value} {n : Nat} {k : Int} {t : Tok} {v : Value} {g : Obj → List (Addr × Obj)} {Q : Unit → Shared → Prop} (F : Fr h₀ L s.heap m) (N : News h₀ L s.heap news) (U : UpdF D (W.listOf vs.toArray n) news g) (h0 : k < 0) (h1 : -(vs.length : Int) ≤ k) (hz : vs.length ≤ 1000)
    (h : ∀ h', Fr h₀ L h' m → News h₀ L h' (g (W.listOf (vs.set (k + vs.length).toNat v).toArray n)) → Q () { s with heap := h' }) : wpAny (model prog w) A (setItem (.ref D) (.int k t) v) Q E s := by
  obtain ⟨pre, post, rfl, hg, x1, x2⟩ := U.split
  have nz := N (D, W.listOf vs.toArray n) (List.mem_append_right _ (.head _))
  have ho : s.heap.get? D = some (W.listOf vs.toArray n) := nz.1
  have hl : s.heap.IsList D vs.toArray := ⟨_, ho, rfl, n, rfl⟩
  unfold setItem
  try with_reducible refine wpAny_holding ?_
  first | refine wpAny_bind (wpAny_pure ?_) | skip
  refine wpAny_bind (wpAny_sequenceKey hl.typeIs (by decide) ?_)
  refine wpAny_bind (wpAny_callSpecial?_slot (name := Str.ofString "__setitem__") hl.typeIs slot_list_setitem
    (wpAny_call_entry slot_list_setitem hl.typeIs entry_list_setitem ?_ (args_list_setitem _ _ _)))
  show wpAny _ _ (Builtin.List.listSubscript? (.int k t) >>= _) _ _ s
  refine wpAny_bind (wpAny_listSubscript_int (fitsIndex_neg h0 (by (first | lia | omega))) ?_)
  have hidx := seqIndex_neg h0 h1
  have hj : (k + vs.length).toNat < vs.length := by (first | lia | omega)
  generalize (k + vs.length).toNat = i at *
  obtain ⟨j, rfl⟩ : ∃ j : Nat, k = Int.negSucc j := by
    cases k with
    | ofNat n => exact absurd h0 (Int.not_lt.mpr (Int.natCast_nonneg n))
    | negSucc n => exact ⟨n, rfl⟩
  show wpAny _ _ ((Builtin.List.listItems (.ref D) >>= fun xs => pure ((seqIndex? (Int.negSucc j) xs.size).bind fun i => xs[i]?.map (i, ·))) >>= _) _ _ s
  refine wpAny_bind (wpAny_bind ?_)
  show wpAny _ _ (seqItems? (.ref D) >>= _) _ _ s
  refine wpAny_bind (wpAny_seqItems ho rfl (wpAny_pure (wpAny_pure ?_)))
  rw [List.size_toArray, hidx]
  have hx : vs.toArray[i]? = some vs[i] := by simp [hj]
  simp only [Option.bind_some, hx, Option.map_some]
  show wpAny _ _ (setSeqItemAt D i v >>= _) _ _ s
  have e : Obj.mapSeq (·.setIfInBounds i v) (W.listOf vs.toArray n) = W.listOf (vs.set i v).toArray n := by
    show (⟨_, _, Data.seq (vs.toArray.setIfInBounds i v) (if (vs.toArray.setIfInBounds i v).size == vs.toArray.size then n else n + 1), _⟩ : Obj) = ⟨_, _, _, _⟩
    rw [Array.size_setIfInBounds, if_pos (by simp)]
    congr 2
    apply Array.toList_inj.mp
    simp
  obtain ⟨F', N'⟩ := news_upd F N x1 x2 e rfl
  refine wpAny_bind (wpAny_setSeqItemAt ho rfl ?_)
  have fin := h _ F' (by rw [hg]; exact N')
  first
    | exact wpAny_bind (wpAny_pure (wpAny_pure ⟨.none, rfl, wpAny_pure fin⟩))
    | exact wpAny_pure ⟨.none, rfl, wpAny_pure fin⟩
theorem item_last {value slice : Expr} {l : Addr} {ws : List Value} {v : Value} {u : Tok} {Q : Value → Shared → Prop} (hl : s.heap.IsList l (ws ++ [v]).toArray) (hz : (ws ++ [v]).length ≤ 1000) (h : Q v s)
    (hs : subscripted slice false (.ref l) (.int (-1) u) = operate [.ref l, .int (-1) u] (getItem (.ref l) (.int (-1) u)) := by with_unfolding_all rfl) :
    wpAny (model prog w) A (subscriptTail value slice (.ref l) (.int (-1) u)) Q E s :=
  kde_neg (j := ws.length) hl (by decide) (by decide) (by
    rw [seqIndex_neg (by decide) (by rw [List.length_append, List.length_singleton]; (first | lia | omega))]
    rw [List.length_append, List.length_singleton]; congr 1; (first | lia | omega)) (by simp) h hs
end
end
section
theorem off_has : True := by
  w_top off
  trivial
def inP (p : Int × Int) (g k : Int) : Bool := match endsOf p g with
  | none => false
  | some (a, b) => decide (a ≤ k) && decide (k ≤ b)
theorem inP_none {p : Int × Int} {g k : Int} (h : endsOf p g = none) : inP p g k = false := by unfold inP; rw [h]
theorem inP_some {p : Int × Int} {g k a b : Int} (h : endsOf p g = some (a, b)) : inP p g k = (decide (a ≤ k) && decide (k ≤ b)) := by unfold inP; rw [h]
theorem inP_no1 {p : Int × Int} {g k a b : Int} (h : endsOf p g = some (a, b)) (n : ¬ a ≤ k) : inP p g k = false := by rw [inP_some h, decide_eq_false n]; rfl
theorem inP_no2 {p : Int × Int} {g k a b : Int} (h : endsOf p g = some (a, b)) (n : ¬ k ≤ b) : inP p g k = false := by rw [inP_some h, decide_eq_false n, Bool.and_false]
theorem inP_yes {p : Int × Int} {g k a b : Int} (h : endsOf p g = some (a, b)) (n1 : a ≤ k) (n2 : k ≤ b) : inP p g k = true := by rw [inP_some h, decide_eq_true n1, decide_eq_true n2]; rfl
def hasP (ps : List (Int × Int)) (g k : Int) : Bool := ps.any fun p => inP p g k
section
variable {w : World} {mean : ExcName → Option Value} {mg mb : Str → Option Value} {dp un : Nat} {gd : Option (List Code)} {cn : Str} {cs : Scope} {a : Addr} {ccd : Value} {cl : List (Str × Addr)} {outer : List Env} {A₀ : Around} {base h₀ : Heap} {L : Addr} {m : Str → Option Value} {s : Shared} {Q E : Value → Shared → Prop}
   (B : Below A₀ base outer h₀) (F : Fr h₀ L s.heap m) (X : (hd.heap_39 w.params).In h₀) (T : TopH mean mg mb h₀) (hk : cs.kind = .function)
include B F X T hk
theorem c_has {pa : Addr} {n : Nat} {vs : List Value} {ps : List (Int × Int)} {k g : Int} {tk1 tg : Tok} (hv : hp s.heap pa (tupO vs n)) (hps : PairsR (hp s.heap) vs ps)
   (hdp : dp + 30 < recursionLimit) (hu : un + 300 < cLine)
   (ret : ∀ h' tk', s.heap.StaysIn h' → Q (.bool (hasP ps g k)) { s with heap := h', toks := tk' }) :
   wpAny (model PySem.Challenge.rw_no0356_01.row.prog w) (ktrTop dp un gd cn cs L a ccd cl outer) (call (.ref 115) [.ref pa, .int k tk1, .int g tg]) Q E s := by
  revert X; k_fill; intro X
  refine wpAny_call ?_
  k_dflt (refine' code_pure (binds := [("some", .ref pa), ("number", .int k tk1), ("greatest", .int g tg)]) ?k1 ?k2 ?k3 ?k5 ?kA ?kF ?kK ?k6 ?k7 ?k8 ?k9 ?kB ?_ ?c2 ?c3 ?c4 ?c5; (case kA => exact rfl); (case kF => exact rfl); (case kK => assumption); (case k1 => k_asm); (case k2 => k_asm); (case k3 => k_asm); (case k5 => k_asm); (case k6 => k_is); (case k7 => k_is); (case k8 => exact Nat.lt_of_le_of_lt (Nat.le_add_right _ _) hdp); (case k9 => exact BindsTo.of_eq rfl); (case c5 => decide); (case kB => exact locs rfl); (case c2 => exact rfl); (case c3 => exact rfl); (case c4 => exact rfl); k_whole; intro L' h' F' N' B' X' T'; (try dsimp only); (try dsimp only [List.reverse, List.reverseAux] at F'); (try k_lift B'); (try k_fold))
  (repeat' (first | (k_unfold; (try dsimp only)) | (k_end; wrow_close) | ((with_reducible show wpAny _ _ (call _ _ _) _ _ _); first | ((with_reducible show wpAny _ _ (call (Value.ref 101) _) _ _ _); k_here; (k_dflt (refine' c_ends_of (by k_asm) (by k_asm) (by k_asm) (by k_asm) (by exact rfl) (by (first | assumption | exact pair_base (by k_asm) (by assumption) | exact pair_in (by k_asm) (by k_asm) (by assumption) (by ((intro q' hq'; first | exact hq' | (simp only [List.mem_cons, List.mem_append] at hq' ⊢; simp only [hq', true_or, or_true]; done)))))) (by (first | exact room_sub (by assumption) (by decide) | exact room_sub3 (by assumption) (by decide))) (by (first | exact room_sub (by assumption) (by decide) | exact room_sub3 (by assumption) (by decide))) ?_ ?_)); all_goals (first | (k_whole; intro _ _ _ _ _ _ _ _ _ _ _ _; walk_at "my_after2") | (k_whole; intro _ _ _ _; walk_at "my_after")))) | ((with_reducible show wpAny _ _ (PySem.pyIter _) _ _ _); first | ((with_reducible show wpAny _ _ (PySem.pyIter _) _ _ _); refine Stop.intro ?_)) | ((with_reducible show wpAny _ _ (PySem.exec _ _) _ _ _); first | ((with_reducible show wpAny _ _ (PySem.exec (PySem.Stmt.For _ _ _ _ _) _) _ _ _); refine Stop.intro ?_)) | walk1 | (dsimp only; walk1) | (leave1; try dsimp only) | ((with_reducible show wpAny _ _ _ _ _ _); dsimp only)))
  rename Fr _ _ _ _ => F1
  rename News _ _ _ _ => N1
  refine Stop.out (For_turns F1 ?_)
  (repeat' (first | (k_unfold; (try dsimp only)) | (k_end; wrow_close) | ((with_reducible show wpAny _ _ (call _ _ _) _ _ _); first | ((with_reducible show wpAny _ _ (call (Value.ref 101) _) _ _ _); k_here; (k_dflt (refine' c_ends_of (by k_asm) (by k_asm) (by k_asm) (by k_asm) (by exact rfl) (by (first | assumption | exact pair_base (by k_asm) (by assumption) | exact pair_in (by k_asm) (by k_asm) (by assumption) (by ((intro q' hq'; first | exact hq' | (simp only [List.mem_cons, List.mem_append] at hq' ⊢; simp only [hq', true_or, or_true]; done)))))) (by (first | exact room_sub (by assumption) (by decide) | exact room_sub3 (by assumption) (by decide))) (by (first | exact room_sub (by assumption) (by decide) | exact room_sub3 (by assumption) (by decide))) ?_ ?_)); all_goals (first | (k_whole; intro _ _ _ _ _ _ _ _ _ _ _ _; walk_at "my_after2") | (k_whole; intro _ _ _ _; walk_at "my_after")))) | ((with_reducible show wpAny _ _ (PySem.pyIter _) _ _ _); first | ((with_reducible show wpAny _ _ (PySem.pyIter _) _ _ _); refine Stop.intro ?_)) | ((with_reducible show wpAny _ _ (PySem.exec _ _) _ _ _); first | ((with_reducible show wpAny _ _ (PySem.exec (PySem.Stmt.For _ _ _ _ _) _) _ _ _); refine Stop.intro ?_)) | walk1 | (dsimp only; walk1) | (leave1; try dsimp only) | ((with_reducible show wpAny _ _ _ _ _ _); dsimp only)))
  refine Stop.out ?_
  refine turns_seq (fun i m nx => nx = [] ∧ hasP (ps.take i) g k = false ∧ Knows m [("some", .ref pa), ("number", .int k tk1), ("greatest", .int g tg)]) rfl (seqO_tup vs n) (.inr hv) F1 N1 ⟨rfl, rfl, by (repeat' (first | exact Knows.nil | refine Knows.cons (by with_unfolding_all rfl) ?_))⟩ (fun _ _ _ _ _ h => nomatch h) ?_ ?_
  · rintro i v m₁ nx h1 tk2 own hi hoff ⟨rfl, hb, hkn⟩ F2 N2
    obtain ⟨p, hpi, hr⟩ := hps.get hi
    rw [List.nil_append] at N2
    replace F2 := fr_known F2 hkn
    have hT : inP p g k = false → hasP (ps.take (i + 1)) g k = false := fun e => by
      rw [List.take_add_one, hpi, Option.toList_some]; unfold hasP at hb ⊢; rw [List.any_append, hb]; simp [e]
    have hY : inP p g k = true → true = hasP ps g k := fun e => (List.any_eq_true.mpr ⟨p, List.mem_of_getElem? hpi, e⟩).symm
    (repeat' (first | (k_unfold; (try dsimp only)) | (k_end; wrow_close) | ((with_reducible show wpAny _ _ (call _ _ _) _ _ _); first | ((with_reducible show wpAny _ _ (call (Value.ref 101) _) _ _ _); k_here; (k_dflt (refine' c_ends_of (by k_asm) (by k_asm) (by k_asm) (by k_asm) (by exact rfl) (by (first | assumption | exact pair_base (by k_asm) (by assumption) | exact pair_in (by k_asm) (by k_asm) (by assumption) (by ((intro q' hq'; first | exact hq' | (simp only [List.mem_cons, List.mem_append] at hq' ⊢; simp only [hq', true_or, or_true]; done)))))) (by (first | exact room_sub (by assumption) (by decide) | exact room_sub3 (by assumption) (by decide))) (by (first | exact room_sub (by assumption) (by decide) | exact room_sub3 (by assumption) (by decide))) ?_ ?_)); all_goals (first | (k_whole; intro _ _ _ _ _ _ _ _ _ _ _ _; walk_at "my_after2") | (k_whole; intro _ _ _ _; walk_at "my_after")))) | ((with_reducible show wpAny _ _ (PySem.pyIter _) _ _ _); first | ((with_reducible show wpAny _ _ (PySem.pyIter _) _ _ _); refine Stop.intro ?_)) | ((with_reducible show wpAny _ _ (PySem.exec _ _) _ _ _); first | ((with_reducible show wpAny _ _ (PySem.exec (PySem.Stmt.For _ _ _ _ _) _) _ _ _); refine Stop.intro ?_)) | walk1 | (dsimp only; walk1) | (leave1; try dsimp only) | ((with_reducible show wpAny _ _ _ _ _ _); dsimp only)))
    all_goals first
      | (rename News _ _ _ _ => N9; rename Fr _ _ _ _ => F9
         refine InvEndG.intro F9 N9 ⟨rfl, hT ?_, by (repeat' (first | exact Knows.nil | refine Knows.cons (by with_unfolding_all rfl) ?_))⟩ ownOff_nil (fun _ h => nomatch h) (by (first | ((intro q' hq'; simp only [List.mem_cons, List.mem_append] at hq' ⊢; first | (rcases hq' with hq' | hq' <;> (simp only [hq', true_or, or_true]; done)) | (rcases hq' with hq' | hq' | hq' <;> (simp only [hq', true_or, or_true]; done)) | (rcases hq' with hq' | hq' | hq' | hq' <;> (simp only [hq', true_or, or_true]; done)) | (rcases hq' with hq' | hq' | hq' | hq' | hq' <;> (simp only [hq', true_or, or_true]; done)) | (simp only [hq', true_or, or_true]; done))) | ((intro q' hq'; first | exact hq' | exact .tail _ hq' | exact .tail _ (.tail _ hq') | exact .tail _ (.tail _ (.tail _ hq')) | (simp only [List.mem_cons, List.mem_append] at hq' ⊢; simp only [hq', true_or, or_true]; done)))))
         first | exact inP_none (by assumption) | exact inP_no1 (by assumption) (by assumption) | exact inP_no2 (by assumption) (by assumption))
      | (rw [hY (inP_yes (by assumption) (by assumption) (by assumption))]; exact ret _ _ (Fr.keep (by assumption)))
  · rintro m₁ nx h1 tk2 ⟨rfl, hb, hkn⟩ F2 N2
    rw [hps.length, List.take_length] at hb
    (repeat' (first | (k_unfold; (try dsimp only)) | (k_end; wrow_close) | ((with_reducible show wpAny _ _ (call _ _ _) _ _ _); first | ((with_reducible show wpAny _ _ (call (Value.ref 101) _) _ _ _); k_here; (k_dflt (refine' c_ends_of (by k_asm) (by k_asm) (by k_asm) (by k_asm) (by exact rfl) (by (first | assumption | exact pair_base (by k_asm) (by assumption) | exact pair_in (by k_asm) (by k_asm) (by assumption) (by ((intro q' hq'; first | exact hq' | (simp only [List.mem_cons, List.mem_append] at hq' ⊢; simp only [hq', true_or, or_true]; done)))))) (by (first | exact room_sub (by assumption) (by decide) | exact room_sub3 (by assumption) (by decide))) (by (first | exact room_sub (by assumption) (by decide) | exact room_sub3 (by assumption) (by decide))) ?_ ?_)); all_goals (first | (k_whole; intro _ _ _ _ _ _ _ _ _ _ _ _; walk_at "my_after2") | (k_whole; intro _ _ _ _; walk_at "my_after")))) | ((with_reducible show wpAny _ _ (PySem.pyIter _) _ _ _); first | ((with_reducible show wpAny _ _ (PySem.pyIter _) _ _ _); refine Stop.intro ?_)) | ((with_reducible show wpAny _ _ (PySem.exec _ _) _ _ _); first | ((with_reducible show wpAny _ _ (PySem.exec (PySem.Stmt.For _ _ _ _ _) _) _ _ _); refine Stop.intro ?_)) | walk1 | (dsimp only; walk1) | (leave1; try dsimp only) | ((with_reducible show wpAny _ _ _ _ _ _); dsimp only)))
    rw [← hb]; exact ret _ _ (Fr.keep (by assumption))
end
end
section
theorem off_beyond : True := by
  w_top off
  trivial
theorem item_tupI {prog : Program} {w : World} {A : Around} {E : Value → Shared → Prop} {s : Shared} {value slice : Expr} {t : Addr} {l : List Value} {k : Int} {u : Tok} {i : Nat} {x : Value} {Q : Value → Shared → Prop} (ht : IsTup s.heap t l.toArray) (hx : l[i]? = some x) (hk : k = i) (hz : l.length ≤ 1000) (h : Q x s)
    (hs : subscripted slice false (.ref t) (.int k u) = operate [.ref t, .int k u] (getItem (.ref t) (.int k u)) := by with_unfolding_all rfl) :
    wpAny (model prog w) A (subscriptTail value slice (.ref t) (.int k u)) Q E s := by
  have hi : i < l.length := by
    rcases Nat.lt_or_ge i l.length with h | h
    · exact h
    · rw [List.getElem?_eq_none h] at hx; exact nomatch hx
  subst hk
  refine item_tupleT (j := i) ht (by (first | lia | omega)) (by (first | lia | omega)) ?_ hx h hs
  unfold seqIndex?
  have e : ¬ ((i : Int) < 0) := by (first | lia | omega)
  simp only [if_neg e]
  rw [if_pos (by simp only [Bool.and_eq_true, decide_eq_true_eq]; (first | lia | omega))]
  simp
theorem len_tupL {prog : Program} {w : World} {A : Around} {E : Value → Shared → Prop} {s : Shared} {t : Addr} {l : List Value} {Q : Value → Shared → Prop} (ht : IsTup s.heap t l.toArray) (hz : l.length ≤ 1000)
    (h : Q (.int l.length (s.toks + 1)) { s with toks := s.toks + 1 + 1 }) : wpAny (model prog w) A (call (.builtin "len") [.ref t]) Q E s :=
  len_tuple ht (by rw [List.size_toArray]; (first | lia | omega)) (by rw [List.size_toArray]; exact h)
def isB (p : Int × Int) (g : Int) : Bool := decide (g < max p.1 p.2) || decide (g = 0)
def firstB (ps : List (Int × Int)) (g : Int) : Int := match ps.findIdx? (isB · g) with
  | some i => i
  | none => -1
theorem firstB_some {ps : List (Int × Int)} {g : Int} {i : Nat} {p : Int × Int} (h : ∀ q ∈ ps.take i, isB q g = false) (hp : ps[i]? = some p) (hb : isB p g = true) : firstB ps g = i := by
  unfold firstB
  have : ps.findIdx? (isB · g) = some i := by
    rw [List.findIdx?_eq_some_iff_getElem]
    obtain ⟨hi, rfl⟩ := List.getElem?_eq_some_iff.mp hp
    refine ⟨hi, hb, fun j hj => ?_⟩
    rw [h _ (List.mem_take_iff_getElem.mpr ⟨j, by (first | lia | omega), rfl⟩)]; exact Bool.false_ne_true
  rw [this]
theorem firstB_none {ps : List (Int × Int)} {g : Int} (h : ∀ q ∈ ps, isB q g = false) : firstB ps g = -1 := by
  unfold firstB
  have : ps.findIdx? (isB · g) = none := by
    rw [List.findIdx?_eq_none_iff]; exact h
  rw [this]
section
variable {w : World} {mean : ExcName → Option Value} {mg mb : Str → Option Value} {dp un : Nat} {gd : Option (List Code)} {cn : Str} {cs : Scope} {a : Addr} {ccd : Value} {cl : List (Str × Addr)} {outer : List Env} {A₀ : Around} {base h₀ : Heap} {L : Addr} {m : Str → Option Value} {s : Shared} {Q E : Value → Shared → Prop}
   (B : Below A₀ base outer h₀) (F : Fr h₀ L s.heap m) (X : (hd.heap_39 w.params).In h₀) (T : TopH mean mg mb h₀) (hk : cs.kind = .function)
include B F X T hk
theorem c_first_beyond {pa : Addr} {n : Nat} {vs : List Value} {ps : List (Int × Int)} {g : Int} {tg : Tok} (hv : hp s.heap pa (tupO vs n)) (hps : PairsR (hp s.heap) vs ps) (hql : vs.length ≤ 1000)
   (hdp : dp + 30 < recursionLimit) (hu : un + 300 < cLine)
   (ret : ∀ t h' tk', s.heap.StaysIn h' → Q (.int (firstB ps g) t) { s with heap := h', toks := tk' }) :
   wpAny (model PySem.Challenge.rw_no0356_01.row.prog w) (ktrTop dp un gd cn cs L a ccd cl outer) (call (.ref 136) [.ref pa, .int g tg]) Q E s := by
  have hT : IsTup s.heap pa vs.toArray := ⟨_, hv, rfl, _, rfl⟩
  revert X; k_fill; intro X
  refine wpAny_call ?_
  k_dflt (refine' code_pure (binds := [("some", .ref pa), ("greatest", .int g tg)]) ?k1 ?k2 ?k3 ?k5 ?kA ?kF ?kK ?k6 ?k7 ?k8 ?k9 ?kB ?_ ?c2 ?c3 ?c4 ?c5; (case kA => exact rfl); (case kF => exact rfl); (case kK => assumption); (case k1 => k_asm); (case k2 => k_asm); (case k3 => k_asm); (case k5 => k_asm); (case k6 => k_is); (case k7 => k_is); (case k8 => exact Nat.lt_of_le_of_lt (Nat.le_add_right _ _) hdp); (case k9 => exact BindsTo.of_eq rfl); (case c5 => decide); (case kB => exact locs rfl); (case c2 => exact rfl); (case c3 => exact rfl); (case c4 => exact rfl); k_whole; intro L' h' F' N' B' X' T'; (try dsimp only); (try dsimp only [List.reverse, List.reverseAux] at F'); (try k_lift B'); (try k_fold))
  (repeat' (first | (k_unfold; (try dsimp only)) | (k_end; wrow_close) | ((with_reducible show wpAny _ _ (call _ _ _) _ _ _); first | ((with_reducible show wpAny _ _ (call (Value.builtin "len") [Value.ref _]) _ _ _); k_here; k_dflt (refine' len_tupL (by exact Fr.tup (by assumption) (by assumption)) (by assumption) ?_; k_whole))) | ((with_reducible show wpAny _ _ (subscriptTail _ _ _ _) _ _ _); first | ((with_reducible show wpAny _ _ (subscriptTail _ _ (Value.ref _) (Value.int _ _)) _ _ _); k_here; k_dflt (refine' item_tupI (by exact Fr.tup (by assumption) (by assumption)) (by assumption) (by first | rfl | omega) (by assumption) ?_ (by with_unfolding_all rfl); k_whole))) | ((with_reducible show wpAny _ _ (PySem.pyIter _) _ _ _); first | ((with_reducible show wpAny _ _ (PySem.pyIter _) _ _ _); refine Stop.intro ?_)) | ((with_reducible show wpAny _ _ (PySem.exec _ _) _ _ _); first | ((with_reducible show wpAny _ _ (PySem.exec (PySem.Stmt.For _ _ _ _ _) _) _ _ _); refine Stop.intro ?_)) | walk1 | (dsimp only; walk1) | (leave1; try dsimp only) | ((with_reducible show wpAny _ _ _ _ _ _); dsimp only)))
  rename Fr _ _ _ _ => F1
  refine Stop.out ?_
  k_dflt (refine' For_invVF F1 ?k1 ?k2 ?_; (case k1 => exact rfl); (case k2 => exact rfl))
  (repeat' (first | (k_unfold; (try dsimp only)) | (k_end; wrow_close) | ((with_reducible show wpAny _ _ (call _ _ _) _ _ _); first | ((with_reducible show wpAny _ _ (call (Value.builtin "len") [Value.ref _]) _ _ _); k_here; k_dflt (refine' len_tupL (by exact Fr.tup (by assumption) (by assumption)) (by assumption) ?_; k_whole))) | ((with_reducible show wpAny _ _ (subscriptTail _ _ _ _) _ _ _); first | ((with_reducible show wpAny _ _ (subscriptTail _ _ (Value.ref _) (Value.int _ _)) _ _ _); k_here; k_dflt (refine' item_tupI (by exact Fr.tup (by assumption) (by assumption)) (by assumption) (by first | rfl | omega) (by assumption) ?_ (by with_unfolding_all rfl); k_whole))) | ((with_reducible show wpAny _ _ (PySem.pyIter _) _ _ _); first | ((with_reducible show wpAny _ _ (PySem.pyIter _) _ _ _); refine Stop.intro ?_)) | ((with_reducible show wpAny _ _ (PySem.exec _ _) _ _ _); first | ((with_reducible show wpAny _ _ (PySem.exec (PySem.Stmt.For _ _ _ _ _) _) _ _ _); refine Stop.intro ?_)) | walk1 | (dsimp only; walk1) | (leave1; try dsimp only) | ((with_reducible show wpAny _ _ _ _ _ _); dsimp only)))
  rename Fr _ _ _ _ => F1
  rename News _ _ _ _ => N1
  refine Stop.out (loop_range (n := vs.length) (fun i m nx => nx = [] ∧ (∀ q ∈ ps.take i, isB q g = false) ∧ Knows m [("some", .ref pa), ("greatest", .int g tg)]) rfl (by assumption) (small_up (by (first | lia | omega)) (by (first | lia | omega)) (by (first | lia | omega)) (by (first | lia | omega))) (by rw [rangeSize_up]; simp) F1 N1 ⟨rfl, (fun _ h => nomatch h), by (repeat' (first | exact Knows.nil | refine Knows.cons (by with_unfolding_all rfl) ?_))⟩ ?_ ?_)
  · rintro i t m₁ nx h1 tk2 own hi hoff ⟨rfl, hb, hkn⟩ F2 N2
    obtain ⟨va, hva⟩ : ∃ va, vs[i]? = some va := ⟨_, List.getElem?_eq_getElem hi⟩
    obtain ⟨p, hpi, hr⟩ := hps.get hva
    obtain ⟨pb, t1, u1, rfl, hTb⟩ := hr.tup
    replace F2 := fr_knownS F2 hkn
    rw [List.nil_append] at N2
    have hY : isB p g = true → (0 + (i : Int)) = firstB ps g := fun e => by rw [firstB_some hb hpi e, Int.zero_add]
    have hN : isB p g = false → ∀ q ∈ ps.take (i + 1), isB q g = false := fun e q hq => by
      rw [List.take_add_one, hpi, Option.toList_some] at hq
      rcases List.mem_append.mp hq with hq | hq
      · exact hb q hq
      · rw [List.mem_singleton.mp hq]; exact e
    have hmax : (if p.2 > p.1 then p.2 else p.1) = max p.1 p.2 := by split <;> (first | lia | omega)
    (repeat' (first | (k_unfold; (try dsimp only)) | (k_end; wrow_close) | ((with_reducible show wpAny _ _ (call _ _ _) _ _ _); first | ((with_reducible show wpAny _ _ (call (Value.builtin "len") [Value.ref _]) _ _ _); k_here; k_dflt (refine' len_tupL (by exact Fr.tup (by assumption) (by assumption)) (by assumption) ?_; k_whole))) | ((with_reducible show wpAny _ _ (subscriptTail _ _ _ _) _ _ _); first | ((with_reducible show wpAny _ _ (subscriptTail _ _ (Value.ref _) (Value.int _ _)) _ _ _); k_here; k_dflt (refine' item_tupI (by exact Fr.tup (by assumption) (by assumption)) (by assumption) (by first | rfl | omega) (by assumption) ?_ (by with_unfolding_all rfl); k_whole))) | ((with_reducible show wpAny _ _ (PySem.pyIter _) _ _ _); first | ((with_reducible show wpAny _ _ (PySem.pyIter _) _ _ _); refine Stop.intro ?_)) | ((with_reducible show wpAny _ _ (PySem.exec _ _) _ _ _); first | ((with_reducible show wpAny _ _ (PySem.exec (PySem.Stmt.For _ _ _ _ _) _) _ _ _); refine Stop.intro ?_)) | walk1 | (dsimp only; walk1) | (leave1; try dsimp only) | ((with_reducible show wpAny _ _ _ _ _ _); dsimp only)))
    all_goals first
      | (rename News _ _ _ _ => N9; rename Fr _ _ _ _ => F9
         refine InvEndG.intro F9 N9 ⟨rfl, hN ?_, by (repeat' (first | exact Knows.nil | refine Knows.cons (by with_unfolding_all rfl) ?_))⟩ ownOff_nil (fun _ h => nomatch h) (by (first | ((intro q' hq'; simp only [List.mem_cons, List.mem_append] at hq' ⊢; first | (rcases hq' with hq' | hq' <;> (simp only [hq', true_or, or_true]; done)) | (rcases hq' with hq' | hq' | hq' <;> (simp only [hq', true_or, or_true]; done)) | (rcases hq' with hq' | hq' | hq' | hq' <;> (simp only [hq', true_or, or_true]; done)) | (rcases hq' with hq' | hq' | hq' | hq' | hq' <;> (simp only [hq', true_or, or_true]; done)) | (simp only [hq', true_or, or_true]; done))) | ((intro q' hq'; first | exact hq' | exact .tail _ hq' | exact .tail _ (.tail _ hq') | exact .tail _ (.tail _ (.tail _ hq')) | (simp only [List.mem_cons, List.mem_append] at hq' ⊢; simp only [hq', true_or, or_true]; done)))))
         unfold isB; rw [← hmax, decide_eq_false (by assumption), decide_eq_false (by assumption)]; rfl)
      | (rw [hY (by unfold isB; rw [← hmax, decide_eq_true (by assumption)]; rfl)]; exact ret _ _ _ (Fr.keep (by assumption)))
      | (rw [hY (by unfold isB; rw [decide_eq_true (p := g = 0) (by assumption), Bool.or_true])]; exact ret _ _ _ (Fr.keep (by assumption)))
  · rintro m₁ nx h1 tk2 ⟨rfl, hb, hkn⟩ F2 N2
    rw [hps.length, List.take_length] at hb
    (repeat' (first | (k_unfold; (try dsimp only)) | (k_end; wrow_close) | ((with_reducible show wpAny _ _ (call _ _ _) _ _ _); first | ((with_reducible show wpAny _ _ (call (Value.builtin "len") [Value.ref _]) _ _ _); k_here; k_dflt (refine' len_tupL (by exact Fr.tup (by assumption) (by assumption)) (by assumption) ?_; k_whole))) | ((with_reducible show wpAny _ _ (subscriptTail _ _ _ _) _ _ _); first | ((with_reducible show wpAny _ _ (subscriptTail _ _ (Value.ref _) (Value.int _ _)) _ _ _); k_here; k_dflt (refine' item_tupI (by exact Fr.tup (by assumption) (by assumption)) (by assumption) (by first | rfl | omega) (by assumption) ?_ (by with_unfolding_all rfl); k_whole))) | ((with_reducible show wpAny _ _ (PySem.pyIter _) _ _ _); first | ((with_reducible show wpAny _ _ (PySem.pyIter _) _ _ _); refine Stop.intro ?_)) | ((with_reducible show wpAny _ _ (PySem.exec _ _) _ _ _); first | ((with_reducible show wpAny _ _ (PySem.exec (PySem.Stmt.For _ _ _ _ _) _) _ _ _); refine Stop.intro ?_)) | walk1 | (dsimp only; walk1) | (leave1; try dsimp only) | ((with_reducible show wpAny _ _ _ _ _ _); dsimp only)))
    have e := firstB_none hb
    rw [← e]; exact ret _ _ _ (Fr.keep (by assumption))
end
end
section
theorem off_text : True := by
  w_top off
  trivial
def pairT (p : Int × Int) (long : Bool) : Str := if p.1 = p.2 ∧ long = false then endT p.1 else endT p.1 ++ ":" ++ endT p.2
theorem pairT_0 {x y : Int} {b : Bool} (h : x = y) (hb : b = false) : pairT (x, y) b = endT x := if_pos ⟨h, hb⟩
theorem pairT_1 {x y : Int} {b : Bool} (h : ¬ (x = y ∧ b = false)) : pairT (x, y) b = endT x ++ ":" ++ endT y := if_neg h
theorem endT_len {x : Int} (hx : 0 ≤ x ∧ x ≤ 45) : (endT x).length ≤ 2 := by
  obtain ⟨n, rfl⟩ : ∃ n : Nat, x = n := ⟨x.toNat, by omega⟩
  have h : ∀ n < 46, (endT (n : Nat)).length ≤ 2 := by decide +kernel
  exact h n (by omega)
section
variable {w : World} {mean : ExcName → Option Value} {mg mb : Str → Option Value} {dp un : Nat} {gd : Option (List Code)} {cn : Str} {cs : Scope} {a : Addr} {ccd : Value} {cl : List (Str × Addr)} {outer : List Env} {A₀ : Around} {base h₀ : Heap} {L : Addr} {m : Str → Option Value} {s : Shared} {Q E : Value → Shared → Prop}
   (B : Below A₀ base outer h₀) (F : Fr h₀ L s.heap m) (X : (hd.heap_39 w.params).In h₀) (T : TopH mean mg mb h₀) (hk : cs.kind = .function)
include B F X T hk
theorem c_law_text {v : Value} {x y : Int} {b : Bool} (hp' : PairR (hp s.heap) v (x, y)) (hx : 0 ≤ x ∧ x ≤ 45) (hy : 0 ≤ y ∧ y ≤ 45) (hdp : dp + 20 < recursionLimit) (hu : un + 200 < cLine)
   (ret : ∀ t h' tk', s.heap.StaysIn h' → Q (.str (pairT (x, y) b) t) { s with heap := h', toks := tk' }) :
   wpAny (model PySem.Challenge.rw_no0356_01.row.prog w) (ktrTop dp un gd cn cs L a ccd cl outer) (call (.ref 150) [v, .bool b]) Q E s := by
  obtain ⟨pa, t, u, rfl, hT⟩ := hp'.tup
  dsimp only at hT
  have hlx := endT_len hx
  have hly := endT_len hy
  revert X; k_fill; intro X
  refine wpAny_call ?_
  k_dflt (refine' code_pure (binds := [("pair", .ref pa), ("is_long", .bool b)]) ?k1 ?k2 ?k3 ?k5 ?kA ?kF ?kK ?k6 ?k7 ?k8 ?k9 ?kB ?_ ?c2 ?c3 ?c4 ?c5; (case kA => exact rfl); (case kF => exact rfl); (case kK => assumption); (case k1 => k_asm); (case k2 => k_asm); (case k3 => k_asm); (case k5 => k_asm); (case k6 => k_is); (case k7 => k_is); (case k8 => exact Nat.lt_of_le_of_lt (Nat.le_add_right _ _) hdp); (case k9 => exact BindsTo.of_eq rfl); (case c5 => decide); (case kB => exact locs rfl); (case c2 => exact rfl); (case c3 => exact rfl); (case c4 => exact rfl); k_whole; intro L' h' F' N' B' X' T'; (try dsimp only); (try dsimp only [List.reverse, List.reverseAux] at F'); (try k_lift B'); (try k_fold))
  (repeat' (first | (k_unfold; (try dsimp only)) | (k_end; wrow_close) | ((with_reducible show wpAny _ _ (call _ _ _) _ _ _); first | ((with_reducible show wpAny _ _ (call (Value.ref 82) _) _ _ _); k_here; (k_dflt (refine' c_show_end (by k_asm) (by k_asm) (by k_asm) (by k_asm) (by exact rfl) (by first | assumption | omega) (by (first | exact room_sub (by assumption) (by decide) | exact room_sub3 (by assumption) (by decide))) (by (first | exact room_sub (by assumption) (by decide) | exact room_sub3 (by assumption) (by decide))) ?_; k_whole)); intro _ _ _ _; walk_at "my_after") | ((with_reducible show wpAny _ _ (call (Value.ref 143) _) _ _ _); k_here; (k_dflt (refine' c_law_end (by k_asm) (by k_asm) (by k_asm) (by k_asm) (by exact rfl) (by first | assumption | omega) (by (first | exact room_sub (by assumption) (by decide) | exact room_sub3 (by assumption) (by decide))) (by (first | exact room_sub (by assumption) (by decide) | exact room_sub3 (by assumption) (by decide))) ?_; k_whole)); intro _ _ _ _; walk_at "my_after")) | walk1 | (dsimp only; walk1) | (leave1; try dsimp only) | ((with_reducible show wpAny _ _ _ _ _ _); dsimp only)))
  all_goals first
    | (rw [← pairT_0 (by assumption) (by assumption)]; exact ret _ _ _ (Fr.keep (by assumption)))
    | (rw [← pairT_0 (by assumption) rfl]; exact ret _ _ _ (Fr.keep (by assumption)))
    | (rw [← pairT_1 (x := x) (y := y) (b := b) (by simp_all)]; exact ret _ _ _ (Fr.keep (by assumption)))
theorem c_show_pair {v : Value} {x y : Int} (hp' : PairR (hp s.heap) v (x, y)) (hx : 0 ≤ x ∧ x ≤ 45) (hy : 0 ≤ y ∧ y ≤ 45) (hdp : dp + 20 < recursionLimit) (hu : un + 200 < cLine)
   (ret : ∀ t h' tk', s.heap.StaysIn h' → Q (.str (pairT (x, y) false) t) { s with heap := h', toks := tk' }) :
   wpAny (model PySem.Challenge.rw_no0356_01.row.prog w) (ktrTop dp un gd cn cs L a ccd cl outer) (call (.ref 89) [v]) Q E s := by
  obtain ⟨pa, t, u, rfl, hT⟩ := hp'.tup
  dsimp only at hT
  have hlx := endT_len hx
  have hly := endT_len hy
  revert X; k_fill; intro X
  refine wpAny_call ?_
  k_dflt (refine' code_pure (binds := [("pair", .ref pa)]) ?k1 ?k2 ?k3 ?k5 ?kA ?kF ?kK ?k6 ?k7 ?k8 ?k9 ?kB ?_ ?c2 ?c3 ?c4 ?c5; (case kA => exact rfl); (case kF => exact rfl); (case kK => assumption); (case k1 => k_asm); (case k2 => k_asm); (case k3 => k_asm); (case k5 => k_asm); (case k6 => k_is); (case k7 => k_is); (case k8 => exact Nat.lt_of_le_of_lt (Nat.le_add_right _ _) hdp); (case k9 => exact BindsTo.of_eq rfl); (case c5 => decide); (case kB => exact locs rfl); (case c2 => exact rfl); (case c3 => exact rfl); (case c4 => exact rfl); k_whole; intro L' h' F' N' B' X' T'; (try dsimp only); (try dsimp only [List.reverse, List.reverseAux] at F'); (try k_lift B'); (try k_fold))
  (repeat' (first | (k_unfold; (try dsimp only)) | (k_end; wrow_close) | ((with_reducible show wpAny _ _ (call _ _ _) _ _ _); first | ((with_reducible show wpAny _ _ (call (Value.ref 82) _) _ _ _); k_here; (k_dflt (refine' c_show_end (by k_asm) (by k_asm) (by k_asm) (by k_asm) (by exact rfl) (by first | assumption | omega) (by (first | exact room_sub (by assumption) (by decide) | exact room_sub3 (by assumption) (by decide))) (by (first | exact room_sub (by assumption) (by decide) | exact room_sub3 (by assumption) (by decide))) ?_; k_whole)); intro _ _ _ _; walk_at "my_after") | ((with_reducible show wpAny _ _ (call (Value.ref 143) _) _ _ _); k_here; (k_dflt (refine' c_law_end (by k_asm) (by k_asm) (by k_asm) (by k_asm) (by exact rfl) (by first | assumption | omega) (by (first | exact room_sub (by assumption) (by decide) | exact room_sub3 (by assumption) (by decide))) (by (first | exact room_sub (by assumption) (by decide) | exact room_sub3 (by assumption) (by decide))) ?_; k_whole)); intro _ _ _ _; walk_at "my_after")) | walk1 | (dsimp only; walk1) | (leave1; try dsimp only) | ((with_reducible show wpAny _ _ _ _ _ _); dsimp only)))
  all_goals first
    | (rw [← pairT_0 (by assumption) (by assumption)]; exact ret _ _ _ (Fr.keep (by assumption)))
    | (rw [← pairT_0 (by assumption) rfl]; exact ret _ _ _ (Fr.keep (by assumption)))
    | (rw [← pairT_1 (x := x) (y := y) (b := false) (by simp_all)]; exact ret _ _ _ (Fr.keep (by assumption)))
end
end
section
theorem off_comp : True := by
  w_top off
  trivial
section
variable {prog : Program} {w : World} {A : Around} {E : Value → Shared → Prop} {s : Shared} {h₀ : Heap} {L : Addr} {m : Str → Option Value} {env : Env}
theorem compEnd_mono {s₁ s₂ : Shared} {I C D : Addr} {oI oC oD : Obj} {S : List (Addr × Obj) → Prop} {r r' : Value → List (Addr × Obj) → Prop} {y : Value} (h : CompEnd h₀ L m s₁ I oI C oC D oD S r y s₂) (k : ∀ y nx, r y nx → r' y nx) : CompEnd h₀ L m s₁ I oI C oC D oD S r' y s₂ :=
  let ⟨h', tk, nx, a, b, c, d, e, f⟩ := h; ⟨h', tk, nx, a, b, c, d, e, k _ _ f⟩
theorem compRest_ind {elt : Expr} {x : Str} {scope : Scope} {cl : List (Str × Addr)} {S : List (Addr × Obj) → Prop} {P : Nat → Value → Prop} {Fin : List Value → List (Addr × Obj) → Prop} (n : Nat) (Inv : Nat → List Value → List (Addr × Obj) → Prop)
    (fin : ∀ ys nx, Inv n ys nx → Fin ys nx)
    (turn : ∀ i ys nx v I oI C oC D m₂ h tk (E' : Value → Shared → Prop), i < n → Inv i ys nx → P i v → NsObj oC m₂ → m₂ x = some v → Fr h₀ L h m → News h₀ L h ((I, oI) :: (C, oC) :: (D, lst ys) :: nx) → Off3 I C D nx → ((@Ne Nat I C) ∧ (@Ne Nat I D) ∧ (@Ne Nat C D)) →
      wpAny (model prog w) A (eval elt (compEnvC scope cl C env)) (CompEnd h₀ L m { s with heap := h, toks := tk } I oI C oC D (lst ys) S (fun y nx' => Inv (i + 1) (ys ++ [y]) nx')) E' { s with heap := h, toks := tk }) :
    ∀ k i ys nx, i + k = n → Inv i ys nx → CompRest prog w A h₀ L m env elt x scope cl s S P Fin k i ys nx
  | 0, i, ys, nx, e, h => fin _ _ (by rw [← e]; exact h)
  | k + 1, i, ys, nx, e, hI => by
    intro v I oI C oC D m₂ h tk E' hP hC hx F N o3 hne
    refine wpAny_mono (turn i ys nx v I oI C oC D m₂ h tk E' (by (first | lia | omega)) hI hP hC hx F N o3 hne) (fun y s₂ q => compEnd_mono q fun y nx' r => ?_) fun _ _ q => q
    exact compRest_ind n Inv fin turn k (i + 1) _ _ (by (first | lia | omega)) r
theorem compRestT_ind {ct elt : Expr} {x : Str} {scope : Scope} {cl : List (Str × Addr)} {S : List (Addr × Obj) → Prop} {P : Nat → Value → Prop} {Fin : List Value → List (Addr × Obj) → Prop} (n : Nat) (Inv : Nat → List Value → List (Addr × Obj) → Prop)
    (fin : ∀ ys nx, Inv n ys nx → Fin ys nx)
    (turn : ∀ i ys nx v I oI C oC D m₂ h tk (E' : Value → Shared → Prop), i < n → Inv i ys nx → P i v → NsObj oC m₂ → m₂ x = some v → Fr h₀ L h m → News h₀ L h ((I, oI) :: (C, oC) :: (D, lst ys) :: nx) → Off3 I C D nx → ((@Ne Nat I C) ∧ (@Ne Nat I D) ∧ (@Ne Nat C D)) →
      wpAny (model prog w) A (isTrue ct (compEnvC scope cl C env) (eval ct (compEnvC scope cl C env))) (fun ok s' => if ok = true then
        wpAny (model prog w) A (eval elt (compEnvC scope cl C env)) (CompEnd h₀ L m { s with heap := h, toks := tk } I oI C oC D (lst ys) S (fun y nx' => Inv (i + 1) (ys ++ [y]) nx')) E' s'
        else CompEnd h₀ L m { s with heap := h, toks := tk } I oI C oC D (lst ys) S (fun _ nx' => Inv (i + 1) ys nx') Value.none s') E' { s with heap := h, toks := tk }) :
    ∀ k i ys nx, i + k = n → Inv i ys nx → CompRestT prog w A h₀ L m env ct elt x scope cl s S P Fin k i ys nx
  | 0, i, ys, nx, e, h => fin _ _ (by rw [← e]; exact h)
  | k + 1, i, ys, nx, e, hI => by
    intro v I oI C oC D m₂ h tk E' hP hC hx F N o3 hne
    refine wpAny_mono (turn i ys nx v I oI C oC D m₂ h tk E' (by (first | lia | omega)) hI hP hC hx F N o3 hne) (fun ok s' q => ?_) fun _ _ q => q
    cases ok with
    | true =>
      simp only [if_true] at q ⊢
      exact wpAny_mono q (fun y s₂ q => compEnd_mono q fun y nx' r => compRestT_ind n Inv fin turn k (i + 1) _ _ (by (first | lia | omega)) r) fun _ _ q => q
    | false =>
      simp only [Bool.false_eq_true, if_false] at q ⊢
      exact compEnd_mono q fun y nx' r => compRestT_ind n Inv fin turn k (i + 1) _ _ (by (first | lia | omega)) r

/-- a tuple as a comprehension's source -/
def SrcTp (h₀ : Heap) (ax : Addr) (its : Array Value) (news : List (Addr × Obj)) : Prop := ∃ o, Bs h₀ news ax o ∧ o.cls = .type "tuple" ∧ ∃ n, o.data = .seq its n
theorem SrcTp.at {h : Heap} {ax : Addr} {its : Array Value} {news : List (Addr × Obj)} (x : SrcTp h₀ ax its news) (k : ∀ b o, h₀.get? b = some o → h.get? b = some o) (N : News h₀ L h news) : h.IsTuple ax its := by
  obtain ⟨o, hb, r⟩ := x
  rcases hb with hm | e
  · exact ⟨o, (N _ hm).1, r⟩
  · exact ⟨o, k _ _ e, r⟩
theorem tuple_st {ax I : Addr} {its : Array Value} : ∀ i (h h' : Heap) (o : Obj) (nw : List (Addr × Obj)), (h.IsTupleIter I ax i ∧ h.IsTuple ax its) → h.get? I = some o → h'.get? I = some o → (∀ b o, h₀.get? b = some o → h'.get? b = some o) → News h₀ L h' nw → SrcTp h₀ ax its nw → (h'.IsTupleIter I ax i ∧ h'.IsTuple ax its) :=
  fun i h h' o nw st e e' k N S => ⟨by obtain ⟨o', q, r⟩ := st.1; rw [e] at q; cases q; exact ⟨o, e', r⟩, S.at k N⟩
def CompTp (prog : Program) (w : World) (A : Around) (h₀ : Heap) (L : Addr) (m : Str → Option Value) (env : Env) (elt : Expr) (x : Str) (scope : Scope) (cl : List (Str × Addr)) (Fin : Shared → List Value → List (Addr × Obj) → Prop) (xv : Value) (s₁ : Shared) : Prop :=
  ∃ ax its news, xv = .ref ax ∧ A.handled = none ∧ Fr h₀ L s₁.heap m ∧ News h₀ L s₁.heap news ∧ SrcTp h₀ ax its news ∧ its.size ≤ sizeLine ∧
      ∀ g, CompRest prog w A h₀ L m env elt x scope cl { s₁ with heap := g } (SrcTp h₀ ax its) (fun i v => its[i]? = some v) (Fin { s₁ with heap := g }) its.size 0 [] news
theorem ListComp_Utup {elt iter : Expr} {x : Str} {px : Pos} {scope : Scope} {cl : List (Str × Addr)} {pos : Pos} {Q : Value → Shared → Prop} (F₀ : Fr h₀ L s.heap m)
    (hclos : closureFor scope env = pure cl) (hcell : ∀ y ∈ scope.names, y.2 ≠ .cell) (hkind : scope.kind = .function)
    (hnames : ∀ y ∈ scope.names, y.2 = .local → scope.names.lookup y.1 = some .local) (hx : scope.names.lookup x = some .local)
    (h : wpAny (model prog w) A (eval iter env) (CompTp prog w A h₀ L m env elt x scope cl (fun s₂ => FinE h₀ L m s₂ Q)) E s)
    (hs : ∀ x, foldedSetIterable iter env x = pure x := by intro _; rfl) :
    wpAny (model prog w) A (eval (.ListComp elt [⟨.Name x px, iter, [], 0⟩] scope pos) env) Q E s := by
  rw [eval_ListComp]
  refine wpAny_comprehension_free (use := none) rfl hs hclos hkind hnames (wpAny_mono h (fun xv s₁ h₁ => ?_) fun _ _ e => e)
  obtain ⟨ax, its, news, rfl, hh, F, N, S, hsz, R⟩ := h₁
  have hl := S.at F.keep N
  have hlt : ax < s₁.heap.objs.size := by obtain ⟨_, e, _⟩ := hl; exact Heap.lt_size e
  refine wpAny_pyIter_tuple hl ?_
  have up : ∀ b o, s₁.heap.get? b = some o → (s₁.heap.push { cls := .type "tuple_iterator", data := .fields #[.ref ax, .int 0 0] }).get? b = some o := fun b o e => Heap.get?_push_of_some _ e
  refine block_U (Walks.tuple hh s₁.heap.objs.size ax (Nat.ne_of_lt hlt) its) hsz (fun i h st => by obtain ⟨o, e, _⟩ := st.1; exact ⟨o, e⟩) tuple_st hcell hkind hx ⟨⟨_, Heap.get?_push_size _ rfl, rfl, rfl⟩, hl.at fun o e => up _ o e⟩ (fun b hb => ?_)
      (F.keeps up) (N.grown up) (Nat.ne_of_lt F.ns.lt) (next_is_new F) (fun p hp => Nat.ne_of_lt (Heap.lt_size (N p hp).1)) S (R _) ?_
  · show b < (s₁.heap.push _).objs.size
    rw [Heap.size_push]
    rcases List.mem_cons.mp hb with rfl | hb
    · exact Nat.lt_succ_self _
    · rw [List.mem_singleton.mp hb]; exact Nat.lt_succ_of_lt hlt
  · intro D C h tk m' ys news' F' N' o1 hn hC₀ hD₀ hCL hDL hCD offC fin
    refine ⟨m', hn, fun h'' hs'' => fin D h'' tk (F'.change hs'' hCL hC₀) (fun p hp => ?_) o1⟩
    refine ⟨hs''.extBut _ _ ?_ (N' p hp).1, (N' p hp).2⟩
    rcases List.mem_cons.mp hp with rfl | hp
    · exact Ne.symm hCD
    · exact offC p hp
end
end
section
theorem off_comp2 : True := by
  w_top off
  trivial
section
variable {prog : Program} {w : World} {A : Around} {E : Value → Shared → Prop} {s : Shared} {h₀ : Heap} {L : Addr} {m : Str → Option Value} {env : Env}
def CompTpT (prog : Program) (w : World) (A : Around) (h₀ : Heap) (L : Addr) (m : Str → Option Value) (env : Env) (ct elt : Expr) (x : Str) (scope : Scope) (cl : List (Str × Addr)) (Fin : Shared → List Value → List (Addr × Obj) → Prop) (xv : Value) (s₁ : Shared) : Prop :=
  ∃ ax its news, xv = .ref ax ∧ A.handled = none ∧ Fr h₀ L s₁.heap m ∧ News h₀ L s₁.heap news ∧ SrcTp h₀ ax its news ∧ its.size ≤ sizeLine ∧
      ∀ g, CompRestT prog w A h₀ L m env ct elt x scope cl { s₁ with heap := g } (SrcTp h₀ ax its) (fun i v => its[i]? = some v) (Fin { s₁ with heap := g }) its.size 0 [] news
theorem ListComp_Ttup {ct elt iter : Expr} {x : Str} {px : Pos} {scope : Scope} {cl : List (Str × Addr)} {pos : Pos} {Q : Value → Shared → Prop} (F₀ : Fr h₀ L s.heap m)
    (hclos : closureFor scope env = pure cl) (hcell : ∀ y ∈ scope.names, y.2 ≠ .cell) (hkind : scope.kind = .function)
    (hnames : ∀ y ∈ scope.names, y.2 = .local → scope.names.lookup y.1 = some .local) (hx : scope.names.lookup x = some .local)
    (h : wpAny (model prog w) A (eval iter env) (CompTpT prog w A h₀ L m env ct elt x scope cl (fun s₂ => FinE h₀ L m s₂ Q)) E s)
    (hs : ∀ x, foldedSetIterable iter env x = pure x := by intro _; rfl) :
    wpAny (model prog w) A (eval (.ListComp elt [⟨.Name x px, iter, [ct], 0⟩] scope pos) env) Q E s := by
  rw [eval_ListComp]
  refine wpAny_comprehension_free (use := none) rfl hs hclos hkind hnames (wpAny_mono h (fun xv s₁ h₁ => ?_) fun _ _ e => e)
  obtain ⟨ax, its, news, rfl, hh, F, N, S, hsz, R⟩ := h₁
  have hl := S.at F.keep N
  have hlt : ax < s₁.heap.objs.size := by obtain ⟨_, e, _⟩ := hl; exact Heap.lt_size e
  refine wpAny_pyIter_tuple hl ?_
  have up : ∀ b o, s₁.heap.get? b = some o → (s₁.heap.push { cls := .type "tuple_iterator", data := .fields #[.ref ax, .int 0 0] }).get? b = some o := fun b o e => Heap.get?_push_of_some _ e
  refine block_T (Walks.tuple hh s₁.heap.objs.size ax (Nat.ne_of_lt hlt) its) hsz (fun i h st => by obtain ⟨o, e, _⟩ := st.1; exact ⟨o, e⟩) tuple_st hcell hkind hx ⟨⟨_, Heap.get?_push_size _ rfl, rfl, rfl⟩, hl.at fun o e => up _ o e⟩ (fun b hb => ?_)
      (F.keeps up) (N.grown up) (Nat.ne_of_lt F.ns.lt) (next_is_new F) (fun p hp => Nat.ne_of_lt (Heap.lt_size (N p hp).1)) S (R _) ?_
  · show b < (s₁.heap.push _).objs.size
    rw [Heap.size_push]
    rcases List.mem_cons.mp hb with rfl | hb
    · exact Nat.lt_succ_self _
    · rw [List.mem_singleton.mp hb]; exact Nat.lt_succ_of_lt hlt
  · intro D C h tk m' ys news' F' N' o1 hn hC₀ hD₀ hCL hDL hCD offC fin
    refine ⟨m', hn, fun h'' hs'' => fin D h'' tk (F'.change hs'' hCL hC₀) (fun p hp => ?_) o1⟩
    refine ⟨hs''.extBut _ _ ?_ (N' p hp).1, (N' p hp).2⟩
    rcases List.mem_cons.mp hp with rfl | hp
    · exact Ne.symm hCD
    · exact offC p hp
theorem item_listI {value slice : Expr} {t : Addr} {l : List Value} {k : Int} {u : Tok} {i : Nat} {x : Value} {Q : Value → Shared → Prop} (ht : s.heap.IsList t l.toArray) (hx : l[i]? = some x) (hk : k = i) (hz : l.length ≤ 1000) (h : Q x s)
    (hs : subscripted slice false (.ref t) (.int k u) = operate [.ref t, .int k u] (getItem (.ref t) (.int k u)) := by with_unfolding_all rfl) :
    wpAny (model prog w) A (subscriptTail value slice (.ref t) (.int k u)) Q E s := by
  have hi : i < l.length := by
    rcases Nat.lt_or_ge i l.length with h | h
    · exact h
    · rw [List.getElem?_eq_none h] at hx; exact nomatch hx
  subst hk
  exact tail_any ht.typeIs slot_list_getitem.lookup (wpAny_getItem_list ht (by (first | lia | omega)) (by (first | lia | omega)) (by simpa using hx) h) hs
theorem len_listL {t : Addr} {l : List Value} {Q : Value → Shared → Prop} (ht : s.heap.IsList t l.toArray) (hz : l.length ≤ 1000)
    (h : Q (.int l.length (s.toks + 1)) { s with toks := s.toks + 1 + 1 }) : wpAny (model prog w) A (call (.builtin "len") [.ref t]) Q E s :=
  PyProof.Rows.len_list ht (by rw [List.size_toArray]; (first | lia | omega)) (by rw [List.size_toArray]; exact h)
end
end
section
theorem off_rend : True := by
  w_top off
  trivial
def dval (l : List Nat) : Nat := l.foldl (fun a d => a * 10 + d) 0
theorem dval_snoc (l : List Nat) (d : Nat) : dval (l ++ [d]) = dval l * 10 + d := by simp [dval]
theorem dval_take {ds : List Nat} {j : Nat} (h : j < ds.length) : dval (ds.take (j + 1)) = dval (ds.take j) * 10 + ds[j] := by
  rw [List.take_add_one, List.getElem?_eq_getElem h, Option.toList_some, dval_snoc]
theorem str_item_lt (a b : Nat) : (⟨#[a]⟩ : Str).cps.toList < (⟨#[b]⟩ : Str).cps.toList ↔ a < b := by
  show [a] < [b] ↔ a < b
  rw [List.cons_lt_cons_iff]; simp
section
variable {w : World} {mean : ExcName → Option Value} {mg mb : Str → Option Value} {dp un : Nat} {gd : Option (List Code)} {cn : Str} {cs : Scope} {a : Addr} {ccd : Value} {cl : List (Str × Addr)} {outer : List Env} {A₀ : Around} {base h₀ : Heap} {L : Addr} {m : Str → Option Value} {s : Shared} {Q E : Value → Shared → Prop}
   (B : Below A₀ base outer h₀) (F : Fr h₀ L s.heap m) (X : (hd.heap_39 w.params).In h₀) (T : TopH mean mg mb h₀) (hk : cs.kind = .function)
include B F X T hk
theorem c_read_star {t : Str} {tx : Tok} {i : Int} {ti : Tok} (hi : 0 ≤ i ∧ i < t.length) (hl : t.length ≤ 1000) (hs : (Txt.item t i == "*") = true) (hdp : dp + 20 < recursionLimit) (hu : un + 200 < cLine)
   (ret : ∀ a t u n h' tk', s.heap.StaysIn h' → s.heap.get? a = none → h'.get? a = some (tupO [.int 0 t, .int (i + 1) u] n) → Q (.ref a) { s with heap := h', toks := tk' }) :
   wpAny (model PySem.Challenge.rw_no0356_01.row.prog w) (ktrTop dp un gd cn cs L a ccd cl outer) (call (.ref 68) [.str t tx, .int i ti]) Q E s := by
  revert X; k_fill; intro X
  refine wpAny_call ?_
  k_dflt (refine' code_pure (binds := [("text", .str t tx), ("at", .int i ti)]) ?k1 ?k2 ?k3 ?k5 ?kA ?kF ?kK ?k6 ?k7 ?k8 ?k9 ?kB ?_ ?c2 ?c3 ?c4 ?c5; (case kA => exact rfl); (case kF => exact rfl); (case kK => assumption); (case k1 => k_asm); (case k2 => k_asm); (case k3 => k_asm); (case k5 => k_asm); (case k6 => k_is); (case k7 => k_is); (case k8 => exact Nat.lt_of_le_of_lt (Nat.le_add_right _ _) hdp); (case k9 => exact BindsTo.of_eq rfl); (case c5 => decide); (case kB => exact locs rfl); (case c2 => exact rfl); (case c3 => exact rfl); (case c4 => exact rfl); k_whole; intro L' h' F' N' B' X' T'; (try dsimp only); (try dsimp only [List.reverse, List.reverseAux] at F'); (try k_lift B'); (try k_fold))
  (repeat' (first | (k_unfold; (try dsimp only)) | (k_end; wrow_close) | ((with_reducible show wpAny _ _ (PySem.exec _ _) _ _ _); first | ((with_reducible show wpAny _ _ (PySem.exec (PySem.Stmt.While _ _ _ _) _) _ _ _); refine Stop.intro ?_)) | walk1 | (dsimp only; walk1) | (leave1; try dsimp only) | ((with_reducible show wpAny _ _ _ _ _ _); dsimp only)))
  · exact ret _ _ _ _ _ _ (Fr.keep (by assumption)) (News.fresh (by assumption) (.head _)) (News.get (by assumption) (.head _))
theorem c_read_num {t : Str} {tx : Tok} {i : Int} {ti : Tok} {ds : List Nat} (hi : 0 ≤ i) (hl : t.length ≤ 1000)
   (hd : ∀ j (h : j < ds.length), Txt.item t (i + j) = ⟨#[48 + ds[j]]⟩ ∧ ds[j] ≤ 9) (hd1 : 0 < ds.length ∧ ds.length ≤ 2) (hdv : dval ds ≤ 99) (hd0 : ∀ (h : 0 < ds.length), ds[0] ≠ 0)
   (he : i + ds.length = t.length ∨ (i + ds.length < t.length ∧ (Txt.item t (i + ds.length) = ⟨#[58]⟩ ∨ Txt.item t (i + ds.length) = ⟨#[44]⟩)))
   (hdp : dp + 20 < recursionLimit) (hu : un + 200 < cLine)
   (ret : ∀ a t u n h' tk', s.heap.StaysIn h' → s.heap.get? a = none → h'.get? a = some (tupO [.int (dval ds) t, .int (i + ds.length) u] n) → Q (.ref a) { s with heap := h', toks := tk' }) :
   wpAny (model PySem.Challenge.rw_no0356_01.row.prog w) (ktrTop dp un gd cn cs L a ccd cl outer) (call (.ref 68) [.str t tx, .int i ti]) Q E s := by
  have e0 : ("0" : Str) = ⟨#[48]⟩ := by decide +kernel
  have e9 : ("9" : Str) = ⟨#[57]⟩ := by decide +kernel
  have es : ("*" : Str) = ⟨#[42]⟩ := by decide +kernel
  have hfst := hd 0 hd1.1
  have hfst0 := hd0 hd1.1
  rw [Int.natCast_zero, Int.add_zero] at hfst
  have hs : (Txt.item t i == "*") = false := by
    rw [hfst.1, es]; refine beq_eq_false_iff_ne.mpr fun q => ?_
    have := congrArg (fun x : Str => x.cps.toList) q
    simp at this; (first | lia | omega)
  have hs0 : (Txt.item t i == "0") = false := by
    rw [hfst.1, e0]; refine beq_eq_false_iff_ne.mpr fun q => ?_
    have := congrArg (fun x : Str => x.cps.toList) q
    simp at this; (first | lia | omega)
  have hil : i < t.length := by (first | lia | omega)
  revert X; k_fill; intro X
  refine wpAny_call ?_
  k_dflt (refine' code_pure (binds := [("text", .str t tx), ("at", .int i ti)]) ?k1 ?k2 ?k3 ?k5 ?kA ?kF ?kK ?k6 ?k7 ?k8 ?k9 ?kB ?_ ?c2 ?c3 ?c4 ?c5; (case kA => exact rfl); (case kF => exact rfl); (case kK => assumption); (case k1 => k_asm); (case k2 => k_asm); (case k3 => k_asm); (case k5 => k_asm); (case k6 => k_is); (case k7 => k_is); (case k8 => exact Nat.lt_of_le_of_lt (Nat.le_add_right _ _) hdp); (case k9 => exact BindsTo.of_eq rfl); (case c5 => decide); (case kB => exact locs rfl); (case c2 => exact rfl); (case c3 => exact rfl); (case c4 => exact rfl); k_whole; intro L' h' F' N' B' X' T'; (try dsimp only); (try dsimp only [List.reverse, List.reverseAux] at F'); (try k_lift B'); (try k_fold))
  (repeat' (first | (k_unfold; (try dsimp only)) | (k_end; wrow_close) | ((with_reducible show wpAny _ _ (PySem.exec _ _) _ _ _); first | ((with_reducible show wpAny _ _ (PySem.exec (PySem.Stmt.While _ _ _ _) _) _ _ _); refine Stop.intro ?_)) | walk1 | (dsimp only; walk1) | (leave1; try dsimp only) | ((with_reducible show wpAny _ _ _ _ _ _); dsimp only)))
  rename Fr _ _ _ _ => F1
  rename News _ _ _ _ => N1
  refine Stop.out (wpAny_mono (Q := (fun f s' => Stop (f = .next ∧ ∃ h' tk' m', s' = { s with heap := h', toks := tk' } ∧ Fr s.heap L' h' m' ∧ News s.heap L' h' [] ∧ KInt m' "end" (i + (ds.length : Int)) ∧ KInt m' "number" (dval ds) ∧ Knows m' [("at", .int i ti), ("text", .str t tx)]))) (While_inv2 (fun n m nx => nx = [] ∧ ∃ (j : Nat), n = ds.length - j ∧ j ≤ ds.length ∧ ((j = 0 ∧ dval (ds.take j) = 0) ∨ (j = 1 ∧ dval (ds.take j) ≤ 9) ∨ (j = 2 ∧ dval (ds.take j) ≤ 99)) ∧ KInt m "end" (i + j) ∧ KInt m "number" (dval (ds.take j)) ∧ Knows m [("at", .int i ti), ("text", .str t tx)]) F1 N1 ⟨rfl, 0, rfl, Nat.zero_le _, .inl ⟨rfl, rfl⟩, ⟨_, by rw [Int.natCast_zero, Int.add_zero]; with_unfolding_all rfl⟩, ⟨_, by with_unfolding_all rfl⟩, by (repeat' (first | exact Knows.nil | refine Knows.cons (by with_unfolding_all rfl) ?_))⟩ ?_) ?_ (fun _ _ e => e))
  rotate_left
  · intro f s' hm
    obtain ⟨rfl, h', tk', m', rfl, F2, N2, ⟨t1, hk1⟩, ⟨t2, hk2⟩, hkn⟩ := Stop.intro hm
    replace F2 := fr_known F2 (.cons hk1 (.cons hk2 hkn))
    clear F1 N1 hd hfst he hs
    have hne : ¬ (i + (ds.length : Int) = i) := by omega
    have hvb : (0 : Int) ≤ dval ds ∧ (dval ds : Int) ≤ 100 := by omega
    (try dsimp only)
    (repeat' (first | (k_unfold; (try dsimp only)) | (k_end; wrow_close) | ((with_reducible show wpAny _ _ (PySem.exec _ _) _ _ _); first | ((with_reducible show wpAny _ _ (PySem.exec (PySem.Stmt.While _ _ _ _) _) _ _ _); refine Stop.intro ?_)) | walk1 | (dsimp only; walk1) | (leave1; try dsimp only) | ((with_reducible show wpAny _ _ _ _ _ _); dsimp only)))
    all_goals first
      | (exfalso; omega)
      | exact ret _ _ _ _ _ _ (Fr.keep (by assumption)) (News.fresh (by assumption) (.head _)) (News.get (by assumption) (.head _))
  rintro n m₁ nx h1 tk1 F2 N2 ⟨rfl, j, rfl, hj, hv, ⟨t1, hk1⟩, ⟨t2, hk2⟩, hkn⟩
  replace F2 := fr_known F2 (.cons hk1 (.cons hk2 hkn))
  clear F1 N1
  by_cases hjl : j < ds.length
  · obtain ⟨hc, hc9⟩ := hd j hjl
    have q1 : ¬ (Txt.item t (i + (j : Int))).cps.toList < ("0" : Str).cps.toList := by rw [hc, e0, str_item_lt]; (first | lia | omega)
    have q2 : ¬ ("9" : Str).cps.toList < (Txt.item t (i + (j : Int))).cps.toList := by rw [hc, e9, str_item_lt]; (first | lia | omega)
    have q3 : i + (j : Int) < t.length := by (first | lia | omega)
    have hget : (Txt.item t (i + (j : Int))).cps.getD 0 0 = 48 + ds[j] := by rw [hc]; rfl
    have htk := dval_take hjl
    have hval : (if 4294967295 + 1 < (dval (ds.take j) : Int) * 10 + ((Txt.item t (i + (j : Int))).cps.getD 0 0 : Int) - 48 then 4294967295 + 1 else (dval (ds.take j) : Int) * 10 + ((Txt.item t (i + (j : Int))).cps.getD 0 0 : Int) - 48) = (dval (ds.take (j + 1)) : Int) := by
      rw [hget, htk, if_neg (by (first | lia | omega))]; (first | lia | omega)
    have hend : i + (j : Int) + 1 = i + ((j + 1 : Nat) : Int) := by (first | lia | omega)
    have hvb : (0 : Int) ≤ dval (ds.take j) ∧ (dval (ds.take j) : Int) ≤ 100 := by (first | lia | omega)
    (repeat' (first | (k_unfold; (try dsimp only)) | (k_end; wrow_close) | ((with_reducible show wpAny _ _ (PySem.exec _ _) _ _ _); first | ((with_reducible show wpAny _ _ (PySem.exec (PySem.Stmt.While _ _ _ _) _) _ _ _); refine Stop.intro ?_)) | walk1 | (dsimp only; walk1) | (leave1; try dsimp only) | ((with_reducible show wpAny _ _ _ _ _ _); dsimp only)))
    rename Fr _ _ _ _ => F3
    rename News _ _ _ _ => N3
    refine ⟨_, _, _, _, ds.length - (j + 1), rfl, F3, N3, by (first | lia | omega), rfl, j + 1, rfl, by (first | lia | omega), by (first | lia | omega), ⟨_, by rw [← hend]; with_unfolding_all rfl⟩, ⟨_, by rw [← hval]; with_unfolding_all rfl⟩, by (repeat' (first | exact Knows.nil | refine Knows.cons (by with_unfolding_all rfl) ?_))⟩
  · have hje : j = ds.length := by (first | lia | omega)
    subst hje
    rw [List.take_length] at *
    have hne : ¬ (i + (ds.length : Int) = i) := by (first | lia | omega)
    rcases he with he | ⟨he, hx | hx⟩
    · have q3 : ¬ (i + (ds.length : Int) < t.length) := by (first | lia | omega)
      (repeat' (first | (k_unfold; (try dsimp only)) | (k_end; wrow_close) | ((with_reducible show wpAny _ _ (PySem.exec _ _) _ _ _); first | ((with_reducible show wpAny _ _ (PySem.exec (PySem.Stmt.While _ _ _ _) _) _ _ _); refine Stop.intro ?_)) | walk1 | (dsimp only; walk1) | (leave1; try dsimp only) | ((with_reducible show wpAny _ _ _ _ _ _); dsimp only)))
      rename Fr _ _ _ _ => F9
      rename News _ _ _ _ => N9
      exact Stop.out ⟨(by first | exact rfl | exact trivial), _, _, _, rfl, F9, N9, kint_of (by with_unfolding_all rfl) rfl, kint_of (by with_unfolding_all rfl) rfl, by (repeat' (first | exact Knows.nil | refine Knows.cons (by with_unfolding_all rfl) ?_))⟩
    · have q3 : i + (ds.length : Int) < t.length := by (first | lia | omega)
      have q1 : ¬ (Txt.item t (i + (ds.length : Int))).cps.toList < ("0" : Str).cps.toList := by rw [hx, e0, str_item_lt]; (first | lia | omega)
      have q2 : ("9" : Str).cps.toList < (Txt.item t (i + (ds.length : Int))).cps.toList := by rw [hx, e9, str_item_lt]; (first | lia | omega)
      (repeat' (first | (k_unfold; (try dsimp only)) | (k_end; wrow_close) | ((with_reducible show wpAny _ _ (PySem.exec _ _) _ _ _); first | ((with_reducible show wpAny _ _ (PySem.exec (PySem.Stmt.While _ _ _ _) _) _ _ _); refine Stop.intro ?_)) | walk1 | (dsimp only; walk1) | (leave1; try dsimp only) | ((with_reducible show wpAny _ _ _ _ _ _); dsimp only)))
      rename Fr _ _ _ _ => F9
      rename News _ _ _ _ => N9
      exact Stop.out ⟨(by first | exact rfl | exact trivial), _, _, _, rfl, F9, N9, kint_of (by with_unfolding_all rfl) rfl, kint_of (by with_unfolding_all rfl) rfl, by (repeat' (first | exact Knows.nil | refine Knows.cons (by with_unfolding_all rfl) ?_))⟩
    · have q3 : i + (ds.length : Int) < t.length := by (first | lia | omega)
      have q1 : (Txt.item t (i + (ds.length : Int))).cps.toList < ("0" : Str).cps.toList := by rw [hx, e0, str_item_lt]; (first | lia | omega)
      (repeat' (first | (k_unfold; (try dsimp only)) | (k_end; wrow_close) | ((with_reducible show wpAny _ _ (PySem.exec _ _) _ _ _); first | ((with_reducible show wpAny _ _ (PySem.exec (PySem.Stmt.While _ _ _ _) _) _ _ _); refine Stop.intro ?_)) | walk1 | (dsimp only; walk1) | (leave1; try dsimp only) | ((with_reducible show wpAny _ _ _ _ _ _); dsimp only)))
      rename Fr _ _ _ _ => F9
      rename News _ _ _ _ => N9
      exact Stop.out ⟨(by first | exact rfl | exact trivial), _, _, _, rfl, F9, N9, kint_of (by with_unfolding_all rfl) rfl, kint_of (by with_unfolding_all rfl) rfl, by (repeat' (first | exact Knows.nil | refine Knows.cons (by with_unfolding_all rfl) ?_))⟩
end
end
section
theorem off_rend2 : True := by
  w_top off
  trivial
theorem str_len (t : Str) : t.length = t.cps.toList.length := by show t.cps.size = _; simp
theorem item_at {t : Str} {pre rest : List Nat} {c : Nat} (h : t.cps.toList = pre ++ c :: rest) : Txt.item t (pre.length : Int) = ⟨#[c]⟩ := by
  have hl : t.length = pre.length + (rest.length + 1) := by rw [str_len, h]; simp
  have hs : seqIndex? (pre.length : Int) t.length = some pre.length := by
    unfold seqIndex?
    simp only [hl]
    have e : ¬ ((pre.length : Int) < 0) := by (first | lia | omega)
    simp only [if_neg e]
    rw [if_pos (by simp only [Bool.and_eq_true, decide_eq_true_eq]; (first | lia | omega))]
    simp
  have hc : t.cps[pre.length]? = some c := by
    rw [← Array.getElem?_toList, h]; simp
  unfold Txt.item Txt.charAt
  rw [hs, Option.bind_some, hc]; rfl
def dg (x : Nat) : List Nat := if x < 10 then [x] else [x / 10, x % 10]
theorem endT_dg {x : Int} (hx : 0 ≤ x ∧ x ≤ 45) (h0 : x ≠ 0) : ∃ ds : List Nat, (endT x).cps.toList = ds.map (48 + ·) ∧ (dval ds : Int) = x ∧ 0 < ds.length ∧ ds.length ≤ 2 ∧ (∀ d ∈ ds, d ≤ 9) ∧ ∀ h : 0 < ds.length, ds[0] ≠ 0 := by
  obtain ⟨n, rfl⟩ : ∃ n : Nat, x = n := ⟨x.toNat, by (first | lia | omega)⟩
  have h : ∀ n < 46, n ≠ 0 → (endT (n : Nat)).cps.toList = (dg n).map (48 + ·) ∧ dval (dg n) = n ∧ 0 < (dg n).length ∧ (dg n).length ≤ 2 ∧ (∀ d ∈ dg n, d ≤ 9) ∧ (dg n).head? ≠ some 0 := by decide +kernel
  obtain ⟨a, b, c, d, e, f⟩ := h n (by (first | lia | omega)) (by (first | lia | omega))
  refine ⟨dg n, a, by rw [b], c, d, e, fun h q => f ?_⟩
  rw [List.head?_eq_getElem?, List.getElem?_eq_getElem h, q]
section
variable {w : World} {mean : ExcName → Option Value} {mg mb : Str → Option Value} {dp un : Nat} {gd : Option (List Code)} {cn : Str} {cs : Scope} {a : Addr} {ccd : Value} {cl : List (Str × Addr)} {outer : List Env} {A₀ : Around} {base h₀ : Heap} {L : Addr} {m : Str → Option Value} {s : Shared} {Q E : Value → Shared → Prop}
   (B : Below A₀ base outer h₀) (F : Fr h₀ L s.heap m) (X : (hd.heap_39 w.params).In h₀) (T : TopH mean mg mb h₀) (hk : cs.kind = .function)
include B F X T hk
theorem c_read_end {t : Str} {tx : Tok} {x i : Int} {ti : Tok} {pre rest : List Nat} (ht : t.cps.toList = pre ++ ((endT x).cps.toList ++ rest)) (hip : i = pre.length) (hx : 0 ≤ x ∧ x ≤ 45) (hr : rest = [] ∨ (∃ r, rest = 58 :: r) ∨ ∃ r, rest = 44 :: r) (hl : t.length ≤ 1000)
   (hdp : dp + 20 < recursionLimit) (hu : un + 200 < cLine)
   (ret : ∀ a t u n h' tk', s.heap.StaysIn h' → s.heap.get? a = none → h'.get? a = some (tupO [.int x t, .int (i + (endT x).length) u] n) → Q (.ref a) { s with heap := h', toks := tk' }) :
   wpAny (model PySem.Challenge.rw_no0356_01.row.prog w) (ktrTop dp un gd cn cs L a ccd cl outer) (call (.ref 68) [.str t tx, .int i ti]) Q E s := by
  subst hip
  have hlen : t.length = pre.length + ((endT x).cps.toList.length + rest.length) := by rw [str_len, ht]; simp
  by_cases h0 : x = 0
  · subst h0
    have e : (endT 0).cps.toList = [42] := by decide +kernel
    have el : (endT 0).length = 1 := by decide +kernel
    rw [e] at ht hlen
    rw [el] at ret
    simp only [List.length_cons, List.length_nil] at hlen
    refine c_read_star B F X T hk (by (first | lia | omega)) hl ?_ hdp hu ret
    rw [item_at ht]; decide +kernel
  · obtain ⟨ds, e, hv, h1, h2, h3, h4⟩ := endT_dg hx h0
    have el : (endT x).length = ds.length := by rw [str_len, e]; simp
    rw [e] at ht hlen
    simp only [List.length_map] at hlen
    have hitem : ∀ j (h : j < ds.length), Txt.item t ((pre.length : Int) + j) = ⟨#[48 + ds[j]]⟩ ∧ ds[j] ≤ 9 := by
      intro j h
      refine ⟨?_, h3 _ (List.getElem_mem h)⟩
      have hs : ds.map (48 + ·) = (ds.take j).map (48 + ·) ++ (48 + ds[j]) :: (ds.drop (j + 1)).map (48 + ·) := by
        rw [← List.map_cons, ← List.map_append]
        congr 1
        rw [List.getElem_cons_drop, List.take_append_drop]
      have := item_at (t := t) (pre := pre ++ (ds.take j).map (48 + ·)) (c := 48 + ds[j]) (rest := (ds.drop (j + 1)).map (48 + ·) ++ rest) (by rw [ht, hs]; simp)
      rw [← this]
      congr 1
      simp; (first | lia | omega)
    refine c_read_num (ds := ds) B F X T hk (by (first | lia | omega)) hl hitem ⟨h1, h2⟩ (by omega) h4 ?_ hdp hu ?_
    · rcases hr with rfl | ⟨r, rfl⟩ | ⟨r, rfl⟩
      · left; simp at hlen; (first | lia | omega)
      · right; refine ⟨by simp at hlen; (first | lia | omega), .inl ?_⟩
        have := item_at (t := t) (pre := pre ++ ds.map (48 + ·)) (c := 58) (rest := r) (by rw [ht]; simp)
        rw [← this]; congr 1; simp
      · right; refine ⟨by simp at hlen; (first | lia | omega), .inr ?_⟩
        have := item_at (t := t) (pre := pre ++ ds.map (48 + ·)) (c := 44) (rest := r) (by rw [ht]; simp)
        rw [← this]; congr 1; simp
    · rw [hv, ← el]; exact ret
end
end
section
theorem off_rset : True := by
  w_top off
  trivial
def Nw (tl : List (Addr × Obj)) : Rel := fun a o => (a, o) ∈ tl
theorem Nw.mono {tl tl' : List (Addr × Obj)} (s : ∀ p ∈ tl, p ∈ tl') : ∀ a o, Nw tl a o → Nw tl' a o := fun _ _ h => s _ h
/-- the signs of a pair's text, of a set's -/
def pw (q : (Int × Int) × Bool) : List Nat := (pairT q.1 q.2).cps.toList
def jw : List ((Int × Int) × Bool) → List Nat
  | [] => []
  | [q] => pw q
  | q :: r => pw q ++ 44 :: jw r
def Small (p : Int × Int) : Prop := (0 ≤ p.1 ∧ p.1 ≤ 45) ∧ (0 ≤ p.2 ∧ p.2 ≤ 45)
theorem cps_app (a b : Str) : (a ++ b).cps.toList = a.cps.toList ++ b.cps.toList := by show (a.cps ++ b.cps).toList = _; simp
theorem cps_colon : (":" : Str).cps.toList = [58] := by decide +kernel
theorem item_at2 {t w : Str} {pre rest : List Nat} {c : Nat} (h : t.cps.toList = pre ++ (w.cps.toList ++ c :: rest)) : Txt.item t ((pre.length : Int) + (w.length : Int)) = ⟨#[c]⟩ := by
  have := item_at (t := t) (pre := pre ++ w.cps.toList) (c := c) (rest := rest) (by rw [h]; simp)
  rw [← this]; congr 1; rw [str_len]; simp
section
variable {w : World} {mean : ExcName → Option Value} {mg mb : Str → Option Value} {dp un : Nat} {gd : Option (List Code)} {cn : Str} {cs : Scope} {a : Addr} {ccd : Value} {cl : List (Str × Addr)} {outer : List Env} {A₀ : Around} {base h₀ : Heap} {L : Addr} {m : Str → Option Value} {s : Shared} {Q E : Value → Shared → Prop}
   (B : Below A₀ base outer h₀) (F : Fr h₀ L s.heap m) (X : (hd.heap_39 w.params).In h₀) (T : TopH mean mg mb h₀) (hk : cs.kind = .function)
include B F X T hk
theorem c_read_set {t : Str} {tx : Tok} {qs : List ((Int × Int) × Bool)} (ht : t.cps.toList = jw qs) (hne : qs ≠ []) (hq : ∀ q ∈ qs, Small q.1) (hl : t.length ≤ 1000) (hql : qs.length ≤ 100)
   (hdp : dp + 30 < recursionLimit) (hu : un + 300 < cLine)
   (ret : ∀ a vs n tl h' tk', s.heap.StaysIn h' → (∀ p ∈ tl, s.heap.get? p.1 = none ∧ h'.get? p.1 = some p.2) → s.heap.get? a = none → h'.get? a = some (tupO vs n) → PairsR (Nw tl) vs (qs.map (·.1)) → Q (.ref a) { s with heap := h', toks := tk' }) :
   wpAny (model PySem.Challenge.rw_no0356_01.row.prog w) (ktrTop dp un gd cn cs L a ccd cl outer) (call (.ref 75) [.str t tx]) Q E s := by
  revert X; k_fill; intro X
  refine wpAny_call ?_
  k_dflt (refine' code_pure (binds := [("text", .str t tx)]) ?k1 ?k2 ?k3 ?k5 ?kA ?kF ?kK ?k6 ?k7 ?k8 ?k9 ?kB ?_ ?c2 ?c3 ?c4 ?c5; (case kA => exact rfl); (case kF => exact rfl); (case kK => assumption); (case k1 => k_asm); (case k2 => k_asm); (case k3 => k_asm); (case k5 => k_asm); (case k6 => k_is); (case k7 => k_is); (case k8 => exact Nat.lt_of_le_of_lt (Nat.le_add_right _ _) hdp); (case k9 => exact BindsTo.of_eq rfl); (case c5 => decide); (case kB => exact locs rfl); (case c2 => exact rfl); (case c3 => exact rfl); (case c4 => exact rfl); k_whole; intro L' h' F' N' B' X' T'; (try dsimp only); (try dsimp only [List.reverse, List.reverseAux] at F'); (try k_lift B'); (try k_fold))
  (repeat' (first | (k_unfold; (try dsimp only)) | (k_end; wrow_close) | ((with_reducible show wpAny _ _ (PySem.execs _ _) _ _ _); first | ((with_reducible show wpAny _ _ (PySem.execs (PySem.Stmt.If _ _ _ _ :: _) _) _ _ _); refine Stop.intro ?_) | ((with_reducible show wpAny _ _ (PySem.execs (PySem.Stmt.Assign [PySem.Expr.Tuple _ _ _] _ _ :: _) _) _ _ _); refine Stop.intro ?_)) | ((with_reducible show wpAny _ _ (call _ _ _) _ _ _); first | ((with_reducible show wpAny _ _ (call (Value.type _) [Value.ref _]) _ _ _); k_here; k_dflt (refine' kde_tupleOf (by k_asm) (by k_asm) (by exact News.isList (by k_asm) (by k_mem)) (by (simp only [Array.size_push, List.size_toArray]; omega)) (by first | exact (Array.toList_push ..) | exact rfl) ?_; k_whole); intro _ _ _ _ l1; (try k_lt l1); (try k_sweep; revert l1; intro _)) | ((with_reducible show wpAny _ _ (call (Value.ref 68) _) _ _ _); k_here; (k_dflt (refine' c_read_end (by k_asm) (by k_asm) (by k_asm) (by k_asm) (by exact rfl) (by assumption) (by first | assumption | rfl) (by first | assumption | omega) (by assumption) (by assumption) (by (first | exact room_sub (by assumption) (by decide) | exact room_sub3 (by assumption) (by decide))) (by (first | exact room_sub (by assumption) (by decide) | exact room_sub3 (by assumption) (by decide))) ?_; k_whole)); intro _ _ _ _ _ _ _ _ _; walk_at "my_after2")) | ((with_reducible show wpAny _ _ (PySem.exec _ _) _ _ _); first | ((with_reducible show wpAny _ _ (PySem.exec (PySem.Stmt.While _ _ _ _) _) _ _ _); refine Stop.intro ?_)) | walk1 | (dsimp only; walk1) | (leave1; try dsimp only) | ((with_reducible show wpAny _ _ _ _ _ _); dsimp only)))
  rename Fr _ _ _ _ => F1
  rename News _ _ _ _ => N1
  obtain ⟨p, ep⟩ := led_name N1
  subst ep
  refine Stop.out (While_inv2 (fun n m nx => ∃ (dn td : List ((Int × Int) × Bool)) (vs : List Value) (k : Nat) (tl : List (Addr × Obj)) (pre : List Nat), n = td.length ∧ qs = dn ++ td ∧ td ≠ [] ∧ t.cps.toList = pre ++ jw td ∧
    nx = (p, W.listOf vs.toArray k) :: tl ∧ OwnOff tl [p] ∧ PairsR (Nw tl) vs (dn.map (·.1)) ∧ KInt m "at" pre.length ∧ Knows m [("some", .ref p), ("text", .str t tx)]) F1 N1
    ⟨[], qs, [], 0, [], [], rfl, rfl, hne, by simpa using ht, rfl, (fun _ h => nomatch h), .nil, ⟨_, by with_unfolding_all rfl⟩, by (repeat' (first | exact Knows.nil | refine Knows.cons (by with_unfolding_all rfl) ?_))⟩ ?_)
  rintro n m₁ nx h1 tk1 F2 N2 ⟨dn, td, vs, k, tl, pre, rfl, hqs, htd, htt, rfl, hoff, hR, ⟨t1, hk1⟩, hkn⟩
  replace F2 := fr_known F2 (.cons hk1 hkn)
  clear F1 N1
  have hvl : vs.length = dn.length := by rw [hR.length, List.length_map]
  have hvb : vs.length ≤ 100 := by rw [hqs, List.length_append] at hql; omega
  match td, htd with
  | ((x, y), b) :: r, _ =>
  obtain ⟨hx, hy⟩ : Small (x, y) := hq ((x, y), b) (by rw [hqs]; simp)
  dsimp only at hx hy
  obtain ⟨sep, hsep, hsc⟩ : ∃ sep, jw (((x, y), b) :: r) = pw ((x, y), b) ++ sep ∧ ((r = [] ∧ sep = []) ∨ (r ≠ [] ∧ sep = 44 :: jw r)) := by
    cases r with
    | nil => exact ⟨[], by rw [List.append_nil]; rfl, .inl ⟨rfl, rfl⟩⟩
    | cons q r => exact ⟨44 :: jw (q :: r), rfl, .inr ⟨by simp, rfl⟩⟩
  have hsp : sep = [] ∨ (∃ r, sep = 58 :: r) ∨ ∃ r, sep = 44 :: r := by
    rcases hsc with ⟨_, e⟩ | ⟨_, e⟩
    · exact .inl e
    · exact .inr (.inr ⟨_, e⟩)
  obtain ⟨rest, hrest, hrc⟩ : ∃ rest, pw ((x, y), b) ++ sep = (endT x).cps.toList ++ rest ∧ ((x = y ∧ (pw ((x, y), b)).length = (endT x).length ∧ rest = sep) ∨ ((pw ((x, y), b)).length = (endT x).length + 1 + (endT y).length ∧ rest = 58 :: ((endT y).cps.toList ++ sep))) := by
    by_cases hb : x = y ∧ b = false
    · exact ⟨sep, by rw [pw, pairT_0 hb.1 hb.2], .inl ⟨hb.1, by rw [pw, pairT_0 hb.1 hb.2, str_len], rfl⟩⟩
    · refine ⟨58 :: ((endT y).cps.toList ++ sep), by rw [pw, pairT_1 hb, cps_app, cps_app, cps_colon]; simp, .inr ⟨?_, rfl⟩⟩
      rw [pw, pairT_1 hb, cps_app, cps_app, cps_colon, str_len, str_len]; simp; omega
  have hr : rest = [] ∨ (∃ r, rest = 58 :: r) ∨ ∃ r, rest = 44 :: r := by
    rcases hrc with ⟨_, _, e⟩ | ⟨_, e⟩
    · rw [e]; exact hsp
    · exact .inr (.inl ⟨_, e⟩)
  have hall : t.cps.toList = pre ++ (pw ((x, y), b) ++ sep) := by rw [htt, hsep]
  have hln : (t.length : Int) = pre.length + (pw ((x, y), b)).length + sep.length := by rw [str_len, hall]; simp; omega
  have htx : t.cps.toList = pre ++ ((endT x).cps.toList ++ rest) := by rw [hall, hrest]
  clear htt hsep hrest
  (repeat' (first | (k_unfold; (try dsimp only)) | (k_end; wrow_close) | ((with_reducible show wpAny _ _ (PySem.execs _ _) _ _ _); first | ((with_reducible show wpAny _ _ (PySem.execs (PySem.Stmt.If _ _ _ _ :: _) _) _ _ _); refine Stop.intro ?_) | ((with_reducible show wpAny _ _ (PySem.execs (PySem.Stmt.Assign [PySem.Expr.Tuple _ _ _] _ _ :: _) _) _ _ _); refine Stop.intro ?_)) | ((with_reducible show wpAny _ _ (call _ _ _) _ _ _); first | ((with_reducible show wpAny _ _ (call (Value.type _) [Value.ref _]) _ _ _); k_here; k_dflt (refine' kde_tupleOf (by k_asm) (by k_asm) (by exact News.isList (by k_asm) (by k_mem)) (by (simp only [Array.size_push, List.size_toArray]; omega)) (by first | exact (Array.toList_push ..) | exact rfl) ?_; k_whole); intro _ _ _ _ l1; (try k_lt l1); (try k_sweep; revert l1; intro _)) | ((with_reducible show wpAny _ _ (call (Value.ref 68) _) _ _ _); k_here; (k_dflt (refine' c_read_end (by k_asm) (by k_asm) (by k_asm) (by k_asm) (by exact rfl) (by assumption) (by first | assumption | rfl) (by first | assumption | omega) (by assumption) (by assumption) (by (first | exact room_sub (by assumption) (by decide) | exact room_sub3 (by assumption) (by decide))) (by (first | exact room_sub (by assumption) (by decide) | exact room_sub3 (by assumption) (by decide))) ?_; k_whole)); intro _ _ _ _ _ _ _ _ _; walk_at "my_after2")) | ((with_reducible show wpAny _ _ (PySem.exec _ _) _ _ _); first | ((with_reducible show wpAny _ _ (PySem.exec (PySem.Stmt.While _ _ _ _) _) _ _ _); refine Stop.intro ?_)) | walk1 | (dsimp only; walk1) | (leave1; try dsimp only) | ((with_reducible show wpAny _ _ _ _ _ _); dsimp only)))
  refine Stop.out (execs_cut (fun s' => ∃ h' tk' m' tl', s' = { s with heap := h', toks := tk' } ∧ Fr s.heap L' h' m' ∧ News s.heap L' h' ((p, W.listOf vs.toArray k) :: tl') ∧ OwnOff tl' [p] ∧ (∀ q ∈ tl, q ∈ tl') ∧ KInt m' "low" x ∧ KInt m' "at" (pre.length + (endT x).length) ∧ Knows m' [("some", .ref p), ("text", .str t tx)]) ?_ ?_)
  · clear hall
    (repeat' (first | (k_unfold; (try dsimp only)) | (k_end; wrow_close) | ((with_reducible show wpAny _ _ (PySem.execs _ _) _ _ _); first | ((with_reducible show wpAny _ _ (PySem.execs (PySem.Stmt.If _ _ _ _ :: _) _) _ _ _); refine Stop.intro ?_) | ((with_reducible show wpAny _ _ (PySem.execs (PySem.Stmt.Assign [PySem.Expr.Tuple _ _ _] _ _ :: _) _) _ _ _); refine Stop.intro ?_)) | ((with_reducible show wpAny _ _ (call _ _ _) _ _ _); first | ((with_reducible show wpAny _ _ (call (Value.type _) [Value.ref _]) _ _ _); k_here; k_dflt (refine' kde_tupleOf (by k_asm) (by k_asm) (by exact News.isList (by k_asm) (by k_mem)) (by (simp only [Array.size_push, List.size_toArray]; omega)) (by first | exact (Array.toList_push ..) | exact rfl) ?_; k_whole); intro _ _ _ _ l1; (try k_lt l1); (try k_sweep; revert l1; intro _)) | ((with_reducible show wpAny _ _ (call (Value.ref 68) _) _ _ _); k_here; (k_dflt (refine' c_read_end (by k_asm) (by k_asm) (by k_asm) (by k_asm) (by exact rfl) (by assumption) (by first | assumption | rfl) (by first | assumption | omega) (by assumption) (by assumption) (by (first | exact room_sub (by assumption) (by decide) | exact room_sub3 (by assumption) (by decide))) (by (first | exact room_sub (by assumption) (by decide) | exact room_sub3 (by assumption) (by decide))) ?_; k_whole)); intro _ _ _ _ _ _ _ _ _; walk_at "my_after2")) | ((with_reducible show wpAny _ _ (PySem.exec _ _) _ _ _); first | ((with_reducible show wpAny _ _ (PySem.exec (PySem.Stmt.While _ _ _ _) _) _ _ _); refine Stop.intro ?_)) | walk1 | (dsimp only; walk1) | (leave1; try dsimp only) | ((with_reducible show wpAny _ _ _ _ _ _); dsimp only)))
    rename News _ _ _ _ => N9
    rename Fr _ _ _ _ => F9
    refine Stop.out ⟨(by first | exact rfl | exact trivial), _, _, _, _, rfl, F9, news_rot1 N9, off_cons (b := p) ?_ hoff, fun q hq => .tail _ hq, kint_of (by with_unfolding_all rfl) rfl, kint_of (by with_unfolding_all rfl) rfl, by (repeat' (first | exact Knows.nil | refine Knows.cons (by with_unfolding_all rfl) ?_))⟩
    rename ¬ _ ∧ AllNe _ _ => hap
    exact fun e => hap.1 e.symm
  rintro _ ⟨h2, tk2, m2, tl2, rfl, F3, N3, hoff2, hin2, ⟨tlo, klo⟩, ⟨tat, kat⟩, hkn2⟩
  replace F3 := fr_known F3 (.cons klo (.cons kat hkn2))
  clear F2 N2 hk1 hkn klo kat hkn2
  (try dsimp only)
  (repeat' (first | (k_unfold; (try dsimp only)) | (k_end; wrow_close) | ((with_reducible show wpAny _ _ (PySem.execs _ _) _ _ _); first | ((with_reducible show wpAny _ _ (PySem.execs (PySem.Stmt.If _ _ _ _ :: _) _) _ _ _); refine Stop.intro ?_) | ((with_reducible show wpAny _ _ (PySem.execs (PySem.Stmt.Assign [PySem.Expr.Tuple _ _ _] _ _ :: _) _) _ _ _); refine Stop.intro ?_)) | ((with_reducible show wpAny _ _ (call _ _ _) _ _ _); first | ((with_reducible show wpAny _ _ (call (Value.type _) [Value.ref _]) _ _ _); k_here; k_dflt (refine' kde_tupleOf (by k_asm) (by k_asm) (by exact News.isList (by k_asm) (by k_mem)) (by (simp only [Array.size_push, List.size_toArray]; omega)) (by first | exact (Array.toList_push ..) | exact rfl) ?_; k_whole); intro _ _ _ _ l1; (try k_lt l1); (try k_sweep; revert l1; intro _)) | ((with_reducible show wpAny _ _ (call (Value.ref 68) _) _ _ _); k_here; (k_dflt (refine' c_read_end (by k_asm) (by k_asm) (by k_asm) (by k_asm) (by exact rfl) (by assumption) (by first | assumption | rfl) (by first | assumption | omega) (by assumption) (by assumption) (by (first | exact room_sub (by assumption) (by decide) | exact room_sub3 (by assumption) (by decide))) (by (first | exact room_sub (by assumption) (by decide) | exact room_sub3 (by assumption) (by decide))) ?_; k_whole)); intro _ _ _ _ _ _ _ _ _; walk_at "my_after2")) | ((with_reducible show wpAny _ _ (PySem.exec _ _) _ _ _); first | ((with_reducible show wpAny _ _ (PySem.exec (PySem.Stmt.While _ _ _ _) _) _ _ _); refine Stop.intro ?_)) | walk1 | (dsimp only; walk1) | (leave1; try dsimp only) | ((with_reducible show wpAny _ _ _ _ _ _); dsimp only)))
  refine Stop.out (execs_cut (fun s' => ∃ h' tk' m' tl', s' = { s with heap := h', toks := tk' } ∧ Fr s.heap L' h' m' ∧ News s.heap L' h' ((p, W.listOf vs.toArray k) :: tl') ∧ OwnOff tl' [p] ∧ (∀ q ∈ tl, q ∈ tl') ∧ KInt m' "low" x ∧ KInt m' "high" y ∧ KInt m' "at" (pre.length + (pw ((x, y), b)).length) ∧ Knows m' [("some", .ref p), ("text", .str t tx)]) ?_ ?_)
  · rcases hrc with ⟨rfl, hpl, e⟩ | ⟨hpl, rfl⟩
    · replace e := e.symm
      subst e
      have hc1 : sep ≠ [] → (Txt.item t ((pre.length : Int) + (endT x).length) == ":") = false := fun hs => by
        rcases hsc with ⟨_, e⟩ | ⟨_, e⟩
        · exact absurd e hs
        · subst e; rw [item_at2 htx]; decide +kernel
      by_cases hs : sep = []
      · subst hs
        have q : ¬ ((pre.length : Int) + (endT x).length < t.length) := by rw [hln, hpl]; simp
        clear hall htx hln hc1
        (repeat' (first | (k_unfold; (try dsimp only)) | (k_end; wrow_close) | ((with_reducible show wpAny _ _ (PySem.execs _ _) _ _ _); first | ((with_reducible show wpAny _ _ (PySem.execs (PySem.Stmt.If _ _ _ _ :: _) _) _ _ _); refine Stop.intro ?_) | ((with_reducible show wpAny _ _ (PySem.execs (PySem.Stmt.Assign [PySem.Expr.Tuple _ _ _] _ _ :: _) _) _ _ _); refine Stop.intro ?_)) | ((with_reducible show wpAny _ _ (call _ _ _) _ _ _); first | ((with_reducible show wpAny _ _ (call (Value.type _) [Value.ref _]) _ _ _); k_here; k_dflt (refine' kde_tupleOf (by k_asm) (by k_asm) (by exact News.isList (by k_asm) (by k_mem)) (by (simp only [Array.size_push, List.size_toArray]; omega)) (by first | exact (Array.toList_push ..) | exact rfl) ?_; k_whole); intro _ _ _ _ l1; (try k_lt l1); (try k_sweep; revert l1; intro _)) | ((with_reducible show wpAny _ _ (call (Value.ref 68) _) _ _ _); k_here; (k_dflt (refine' c_read_end (by k_asm) (by k_asm) (by k_asm) (by k_asm) (by exact rfl) (by assumption) (by first | assumption | rfl) (by first | assumption | omega) (by assumption) (by assumption) (by (first | exact room_sub (by assumption) (by decide) | exact room_sub3 (by assumption) (by decide))) (by (first | exact room_sub (by assumption) (by decide) | exact room_sub3 (by assumption) (by decide))) ?_; k_whole)); intro _ _ _ _ _ _ _ _ _; walk_at "my_after2")) | ((with_reducible show wpAny _ _ (PySem.exec _ _) _ _ _); first | ((with_reducible show wpAny _ _ (PySem.exec (PySem.Stmt.While _ _ _ _) _) _ _ _); refine Stop.intro ?_)) | walk1 | (dsimp only; walk1) | (leave1; try dsimp only) | ((with_reducible show wpAny _ _ _ _ _ _); dsimp only)))
        rename News _ _ _ _ => N9
        rename Fr _ _ _ _ => F9
        exact Stop.out ⟨(by first | exact rfl | exact trivial), _, _, _, _, rfl, F9, N9, hoff2, hin2, kint_of (by with_unfolding_all rfl) rfl, kint_of (by with_unfolding_all rfl) rfl, kint_of (by with_unfolding_all rfl) (by rw [hpl]), by (repeat' (first | exact Knows.nil | refine Knows.cons (by with_unfolding_all rfl) ?_))⟩
      · replace hc1 := hc1 hs
        have hsl : 0 < sep.length := List.length_pos_iff.mpr hs
        have q : (pre.length : Int) + (endT x).length < t.length := by rw [hln, hpl]; omega
        clear hall htx hln
        (repeat' (first | (k_unfold; (try dsimp only)) | (k_end; wrow_close) | ((with_reducible show wpAny _ _ (PySem.execs _ _) _ _ _); first | ((with_reducible show wpAny _ _ (PySem.execs (PySem.Stmt.If _ _ _ _ :: _) _) _ _ _); refine Stop.intro ?_) | ((with_reducible show wpAny _ _ (PySem.execs (PySem.Stmt.Assign [PySem.Expr.Tuple _ _ _] _ _ :: _) _) _ _ _); refine Stop.intro ?_)) | ((with_reducible show wpAny _ _ (call _ _ _) _ _ _); first | ((with_reducible show wpAny _ _ (call (Value.type _) [Value.ref _]) _ _ _); k_here; k_dflt (refine' kde_tupleOf (by k_asm) (by k_asm) (by exact News.isList (by k_asm) (by k_mem)) (by (simp only [Array.size_push, List.size_toArray]; omega)) (by first | exact (Array.toList_push ..) | exact rfl) ?_; k_whole); intro _ _ _ _ l1; (try k_lt l1); (try k_sweep; revert l1; intro _)) | ((with_reducible show wpAny _ _ (call (Value.ref 68) _) _ _ _); k_here; (k_dflt (refine' c_read_end (by k_asm) (by k_asm) (by k_asm) (by k_asm) (by exact rfl) (by assumption) (by first | assumption | rfl) (by first | assumption | omega) (by assumption) (by assumption) (by (first | exact room_sub (by assumption) (by decide) | exact room_sub3 (by assumption) (by decide))) (by (first | exact room_sub (by assumption) (by decide) | exact room_sub3 (by assumption) (by decide))) ?_; k_whole)); intro _ _ _ _ _ _ _ _ _; walk_at "my_after2")) | ((with_reducible show wpAny _ _ (PySem.exec _ _) _ _ _); first | ((with_reducible show wpAny _ _ (PySem.exec (PySem.Stmt.While _ _ _ _) _) _ _ _); refine Stop.intro ?_)) | walk1 | (dsimp only; walk1) | (leave1; try dsimp only) | ((with_reducible show wpAny _ _ _ _ _ _); dsimp only)))
        rename News _ _ _ _ => N9
        rename Fr _ _ _ _ => F9
        exact Stop.out ⟨(by first | exact rfl | exact trivial), _, _, _, _, rfl, F9, N9, hoff2, hin2, kint_of (by with_unfolding_all rfl) rfl, kint_of (by with_unfolding_all rfl) rfl, kint_of (by with_unfolding_all rfl) (by rw [hpl]), by (repeat' (first | exact Knows.nil | refine Knows.cons (by with_unfolding_all rfl) ?_))⟩
    · have hc1 : (Txt.item t ((pre.length : Int) + (endT x).length) == ":") = true := by rw [item_at2 htx]; decide +kernel
      have hip2 : (pre.length : Int) + (endT x).length + 1 = ((pre ++ (endT x).cps.toList ++ [58]).length : Nat) := by simp [str_len]; omega
      have htx2 : t.cps.toList = (pre ++ (endT x).cps.toList ++ [58]) ++ ((endT y).cps.toList ++ sep) := by rw [htx]; simp
      have q : (pre.length : Int) + (endT x).length < t.length := by rw [hln, hpl]; omega
      have hlim : (pre.length : Int) + (endT x).length ≤ 1000 := by omega
      clear hall htx hln hr
      (repeat' (first | (k_unfold; (try dsimp only)) | (k_end; wrow_close) | ((with_reducible show wpAny _ _ (PySem.execs _ _) _ _ _); first | ((with_reducible show wpAny _ _ (PySem.execs (PySem.Stmt.If _ _ _ _ :: _) _) _ _ _); refine Stop.intro ?_) | ((with_reducible show wpAny _ _ (PySem.execs (PySem.Stmt.Assign [PySem.Expr.Tuple _ _ _] _ _ :: _) _) _ _ _); refine Stop.intro ?_)) | ((with_reducible show wpAny _ _ (call _ _ _) _ _ _); first | ((with_reducible show wpAny _ _ (call (Value.type _) [Value.ref _]) _ _ _); k_here; k_dflt (refine' kde_tupleOf (by k_asm) (by k_asm) (by exact News.isList (by k_asm) (by k_mem)) (by (simp only [Array.size_push, List.size_toArray]; omega)) (by first | exact (Array.toList_push ..) | exact rfl) ?_; k_whole); intro _ _ _ _ l1; (try k_lt l1); (try k_sweep; revert l1; intro _)) | ((with_reducible show wpAny _ _ (call (Value.ref 68) _) _ _ _); k_here; (k_dflt (refine' c_read_end (by k_asm) (by k_asm) (by k_asm) (by k_asm) (by exact rfl) (by assumption) (by first | assumption | rfl) (by first | assumption | omega) (by assumption) (by assumption) (by (first | exact room_sub (by assumption) (by decide) | exact room_sub3 (by assumption) (by decide))) (by (first | exact room_sub (by assumption) (by decide) | exact room_sub3 (by assumption) (by decide))) ?_; k_whole)); intro _ _ _ _ _ _ _ _ _; walk_at "my_after2")) | ((with_reducible show wpAny _ _ (PySem.exec _ _) _ _ _); first | ((with_reducible show wpAny _ _ (PySem.exec (PySem.Stmt.While _ _ _ _) _) _ _ _); refine Stop.intro ?_)) | walk1 | (dsimp only; walk1) | (leave1; try dsimp only) | ((with_reducible show wpAny _ _ _ _ _ _); dsimp only)))
      refine Stop.out (wpAny_execs_cons ?_)
      (repeat' (first | (k_unfold; (try dsimp only)) | (k_end; wrow_close) | ((with_reducible show wpAny _ _ (PySem.execs _ _) _ _ _); first | ((with_reducible show wpAny _ _ (PySem.execs (PySem.Stmt.If _ _ _ _ :: _) _) _ _ _); refine Stop.intro ?_) | ((with_reducible show wpAny _ _ (PySem.execs (PySem.Stmt.Assign [PySem.Expr.Tuple _ _ _] _ _ :: _) _) _ _ _); refine Stop.intro ?_)) | ((with_reducible show wpAny _ _ (call _ _ _) _ _ _); first | ((with_reducible show wpAny _ _ (call (Value.type _) [Value.ref _]) _ _ _); k_here; k_dflt (refine' kde_tupleOf (by k_asm) (by k_asm) (by exact News.isList (by k_asm) (by k_mem)) (by (simp only [Array.size_push, List.size_toArray]; omega)) (by first | exact (Array.toList_push ..) | exact rfl) ?_; k_whole); intro _ _ _ _ l1; (try k_lt l1); (try k_sweep; revert l1; intro _)) | ((with_reducible show wpAny _ _ (call (Value.ref 68) _) _ _ _); k_here; (k_dflt (refine' c_read_end (by k_asm) (by k_asm) (by k_asm) (by k_asm) (by exact rfl) (by assumption) (by first | assumption | rfl) (by first | assumption | omega) (by assumption) (by assumption) (by (first | exact room_sub (by assumption) (by decide) | exact room_sub3 (by assumption) (by decide))) (by (first | exact room_sub (by assumption) (by decide) | exact room_sub3 (by assumption) (by decide))) ?_; k_whole)); intro _ _ _ _ _ _ _ _ _; walk_at "my_after2")) | ((with_reducible show wpAny _ _ (PySem.exec _ _) _ _ _); first | ((with_reducible show wpAny _ _ (PySem.exec (PySem.Stmt.While _ _ _ _) _) _ _ _); refine Stop.intro ?_)) | walk1 | (dsimp only; walk1) | (leave1; try dsimp only) | ((with_reducible show wpAny _ _ _ _ _ _); dsimp only)))
      rename News _ _ _ _ => N9
      rename Fr _ _ _ _ => F9
      refine Stop.out ⟨(by first | exact rfl | exact trivial), _, _, _, _, rfl, F9, news_rot1 N9, off_cons (b := p) ?_ hoff2, fun q hq => .tail _ (hin2 q hq), kint_of (by with_unfolding_all rfl) rfl, kint_of (by with_unfolding_all rfl) rfl, kint_of (by with_unfolding_all rfl) (by rw [hpl]; omega), by (repeat' (first | exact Knows.nil | refine Knows.cons (by with_unfolding_all rfl) ?_))⟩
      rename ¬ _ ∧ AllNe _ _ => hap
      exact fun e => hap.1 e.symm
  rintro _ ⟨h3, tk3, m3, tl3, rfl, F4, N4, hoff3, hin3, ⟨tlo2, klo2⟩, ⟨thi, khi⟩, ⟨tat2, kat2⟩, hkn3⟩
  replace F4 := fr_known F4 (.cons klo2 (.cons khi (.cons kat2 hkn3)))
  clear klo2 khi kat2 hkn3 htx hr hrc hsp hoff2 hin2
  (try dsimp only)
  have hat0 : (pre.length : Int) + (pw ((x, y), b)).length ≤ 1000 := by omega
  (repeat' (first | (k_unfold; (try dsimp only)) | (k_end; wrow_close) | ((with_reducible show wpAny _ _ (PySem.execs _ _) _ _ _); first | ((with_reducible show wpAny _ _ (PySem.execs (PySem.Stmt.If _ _ _ _ :: _) _) _ _ _); refine Stop.intro ?_) | ((with_reducible show wpAny _ _ (PySem.execs (PySem.Stmt.Assign [PySem.Expr.Tuple _ _ _] _ _ :: _) _) _ _ _); refine Stop.intro ?_)) | ((with_reducible show wpAny _ _ (call _ _ _) _ _ _); first | ((with_reducible show wpAny _ _ (call (Value.type _) [Value.ref _]) _ _ _); k_here; k_dflt (refine' kde_tupleOf (by k_asm) (by k_asm) (by exact News.isList (by k_asm) (by k_mem)) (by (simp only [Array.size_push, List.size_toArray]; omega)) (by first | exact (Array.toList_push ..) | exact rfl) ?_; k_whole); intro _ _ _ _ l1; (try k_lt l1); (try k_sweep; revert l1; intro _)) | ((with_reducible show wpAny _ _ (call (Value.ref 68) _) _ _ _); k_here; (k_dflt (refine' c_read_end (by k_asm) (by k_asm) (by k_asm) (by k_asm) (by exact rfl) (by assumption) (by first | assumption | rfl) (by first | assumption | omega) (by assumption) (by assumption) (by (first | exact room_sub (by assumption) (by decide) | exact room_sub3 (by assumption) (by decide))) (by (first | exact room_sub (by assumption) (by decide) | exact room_sub3 (by assumption) (by decide))) ?_; k_whole)); intro _ _ _ _ _ _ _ _ _; walk_at "my_after2")) | ((with_reducible show wpAny _ _ (PySem.exec _ _) _ _ _); first | ((with_reducible show wpAny _ _ (PySem.exec (PySem.Stmt.While _ _ _ _) _) _ _ _); refine Stop.intro ?_)) | walk1 | (dsimp only; walk1) | (leave1; try dsimp only) | ((with_reducible show wpAny _ _ _ _ _ _); dsimp only)))
  refine Stop.out (wpAny_execs_cons ?_)
  rcases hsc with ⟨rfl, rfl⟩ | ⟨hr0, rfl⟩
  · have q : (pre.length : Int) + (pw ((x, y), b)).length = t.length := by rw [hln]; simp
    clear hall hln
    (repeat' (first | (k_unfold; (try dsimp only)) | (k_end; wrow_close) | ((with_reducible show wpAny _ _ (PySem.execs _ _) _ _ _); first | ((with_reducible show wpAny _ _ (PySem.execs (PySem.Stmt.If _ _ _ _ :: _) _) _ _ _); refine Stop.intro ?_) | ((with_reducible show wpAny _ _ (PySem.execs (PySem.Stmt.Assign [PySem.Expr.Tuple _ _ _] _ _ :: _) _) _ _ _); refine Stop.intro ?_)) | ((with_reducible show wpAny _ _ (call _ _ _) _ _ _); first | ((with_reducible show wpAny _ _ (call (Value.type _) [Value.ref _]) _ _ _); k_here; k_dflt (refine' kde_tupleOf (by k_asm) (by k_asm) (by exact News.isList (by k_asm) (by k_mem)) (by (simp only [Array.size_push, List.size_toArray]; omega)) (by first | exact (Array.toList_push ..) | exact rfl) ?_; k_whole); intro _ _ _ _ l1; (try k_lt l1); (try k_sweep; revert l1; intro _)) | ((with_reducible show wpAny _ _ (call (Value.ref 68) _) _ _ _); k_here; (k_dflt (refine' c_read_end (by k_asm) (by k_asm) (by k_asm) (by k_asm) (by exact rfl) (by assumption) (by first | assumption | rfl) (by first | assumption | omega) (by assumption) (by assumption) (by (first | exact room_sub (by assumption) (by decide) | exact room_sub3 (by assumption) (by decide))) (by (first | exact room_sub (by assumption) (by decide) | exact room_sub3 (by assumption) (by decide))) ?_; k_whole)); intro _ _ _ _ _ _ _ _ _; walk_at "my_after2")) | ((with_reducible show wpAny _ _ (PySem.exec _ _) _ _ _); first | ((with_reducible show wpAny _ _ (PySem.exec (PySem.Stmt.While _ _ _ _) _) _ _ _); refine Stop.intro ?_)) | walk1 | (dsimp only; walk1) | (leave1; try dsimp only) | ((with_reducible show wpAny _ _ _ _ _ _); dsimp only)))
    all_goals first
      | (exfalso; omega)
      | skip
    dsimp only [WhileStep2]
    (repeat' (first | (k_unfold; (try dsimp only)) | (k_end; wrow_close) | ((with_reducible show wpAny _ _ (PySem.execs _ _) _ _ _); first | ((with_reducible show wpAny _ _ (PySem.execs (PySem.Stmt.If _ _ _ _ :: _) _) _ _ _); refine Stop.intro ?_) | ((with_reducible show wpAny _ _ (PySem.execs (PySem.Stmt.Assign [PySem.Expr.Tuple _ _ _] _ _ :: _) _) _ _ _); refine Stop.intro ?_)) | ((with_reducible show wpAny _ _ (call _ _ _) _ _ _); first | ((with_reducible show wpAny _ _ (call (Value.type _) [Value.ref _]) _ _ _); k_here; k_dflt (refine' kde_tupleOf (by k_asm) (by k_asm) (by exact News.isList (by k_asm) (by k_mem)) (by (simp only [Array.size_push, List.size_toArray]; omega)) (by first | exact (Array.toList_push ..) | exact rfl) ?_; k_whole); intro _ _ _ _ l1; (try k_lt l1); (try k_sweep; revert l1; intro _)) | ((with_reducible show wpAny _ _ (call (Value.ref 68) _) _ _ _); k_here; (k_dflt (refine' c_read_end (by k_asm) (by k_asm) (by k_asm) (by k_asm) (by exact rfl) (by assumption) (by first | assumption | rfl) (by first | assumption | omega) (by assumption) (by assumption) (by (first | exact room_sub (by assumption) (by decide) | exact room_sub3 (by assumption) (by decide))) (by (first | exact room_sub (by assumption) (by decide) | exact room_sub3 (by assumption) (by decide))) ?_; k_whole)); intro _ _ _ _ _ _ _ _ _; walk_at "my_after2")) | ((with_reducible show wpAny _ _ (PySem.exec _ _) _ _ _); first | ((with_reducible show wpAny _ _ (PySem.exec (PySem.Stmt.While _ _ _ _) _) _ _ _); refine Stop.intro ?_)) | walk1 | (dsimp only; walk1) | (leave1; try dsimp only) | ((with_reducible show wpAny _ _ _ _ _ _); dsimp only)))
    rename News s.heap _ _ _ => N9
    refine ret _ _ _ _ _ _ (Fr.keep (by assumption)) (fun p hp => ⟨(N9 p hp).2.2, (N9 p hp).1⟩) (N9 _ (.head _)).2.2 (N9 _ (.head _)).1 ?_
    rw [hqs, List.map_append]
    refine (hR.mono (Nw.mono fun q hq => ?_)).append (.one (.mk (n := 0) (.tail _ (.head _))))
    exact .tail _ (.tail _ (.tail _ (hin3 q hq)))
  · have q : ¬ ((pre.length : Int) + (pw ((x, y), b)).length = t.length) := by rw [hln, List.length_cons]; omega
    have hc2 : (Txt.item t ((pre.length : Int) + (pw ((x, y), b)).length) != ",") = false := by
      have := item_at (t := t) (pre := pre ++ pw ((x, y), b)) (c := 44) (rest := jw r) (by rw [hall]; simp)
      rw [List.length_append] at this
      rw [show (pre.length : Int) + (pw ((x, y), b)).length = ((pre.length + (pw ((x, y), b)).length : Nat) : Int) from by omega, this]; decide +kernel
    have hat : ((pre ++ pw ((x, y), b) ++ [44] : List Nat).length : Int) = pre.length + (pw ((x, y), b)).length + 1 := by simp; omega
    have q2 : (pre.length : Int) + (pw ((x, y), b)).length < t.length := by rw [hln, List.length_cons]; omega
    clear hln
    (repeat' (first | (k_unfold; (try dsimp only)) | (k_end; wrow_close) | ((with_reducible show wpAny _ _ (PySem.execs _ _) _ _ _); first | ((with_reducible show wpAny _ _ (PySem.execs (PySem.Stmt.If _ _ _ _ :: _) _) _ _ _); refine Stop.intro ?_) | ((with_reducible show wpAny _ _ (PySem.execs (PySem.Stmt.Assign [PySem.Expr.Tuple _ _ _] _ _ :: _) _) _ _ _); refine Stop.intro ?_)) | ((with_reducible show wpAny _ _ (call _ _ _) _ _ _); first | ((with_reducible show wpAny _ _ (call (Value.type _) [Value.ref _]) _ _ _); k_here; k_dflt (refine' kde_tupleOf (by k_asm) (by k_asm) (by exact News.isList (by k_asm) (by k_mem)) (by (simp only [Array.size_push, List.size_toArray]; omega)) (by first | exact (Array.toList_push ..) | exact rfl) ?_; k_whole); intro _ _ _ _ l1; (try k_lt l1); (try k_sweep; revert l1; intro _)) | ((with_reducible show wpAny _ _ (call (Value.ref 68) _) _ _ _); k_here; (k_dflt (refine' c_read_end (by k_asm) (by k_asm) (by k_asm) (by k_asm) (by exact rfl) (by assumption) (by first | assumption | rfl) (by first | assumption | omega) (by assumption) (by assumption) (by (first | exact room_sub (by assumption) (by decide) | exact room_sub3 (by assumption) (by decide))) (by (first | exact room_sub (by assumption) (by decide) | exact room_sub3 (by assumption) (by decide))) ?_; k_whole)); intro _ _ _ _ _ _ _ _ _; walk_at "my_after2")) | ((with_reducible show wpAny _ _ (PySem.exec _ _) _ _ _); first | ((with_reducible show wpAny _ _ (PySem.exec (PySem.Stmt.While _ _ _ _) _) _ _ _); refine Stop.intro ?_)) | walk1 | (dsimp only; walk1) | (leave1; try dsimp only) | ((with_reducible show wpAny _ _ _ _ _ _); dsimp only)))
    all_goals first
      | (exfalso; omega)
      | skip
    refine Stop.out (wpAny_execs_cons ?_)
    (repeat' (first | (k_unfold; (try dsimp only)) | (k_end; wrow_close) | ((with_reducible show wpAny _ _ (PySem.execs _ _) _ _ _); first | ((with_reducible show wpAny _ _ (PySem.execs (PySem.Stmt.If _ _ _ _ :: _) _) _ _ _); refine Stop.intro ?_) | ((with_reducible show wpAny _ _ (PySem.execs (PySem.Stmt.Assign [PySem.Expr.Tuple _ _ _] _ _ :: _) _) _ _ _); refine Stop.intro ?_)) | ((with_reducible show wpAny _ _ (call _ _ _) _ _ _); first | ((with_reducible show wpAny _ _ (call (Value.type _) [Value.ref _]) _ _ _); k_here; k_dflt (refine' kde_tupleOf (by k_asm) (by k_asm) (by exact News.isList (by k_asm) (by k_mem)) (by (simp only [Array.size_push, List.size_toArray]; omega)) (by first | exact (Array.toList_push ..) | exact rfl) ?_; k_whole); intro _ _ _ _ l1; (try k_lt l1); (try k_sweep; revert l1; intro _)) | ((with_reducible show wpAny _ _ (call (Value.ref 68) _) _ _ _); k_here; (k_dflt (refine' c_read_end (by k_asm) (by k_asm) (by k_asm) (by k_asm) (by exact rfl) (by assumption) (by first | assumption | rfl) (by first | assumption | omega) (by assumption) (by assumption) (by (first | exact room_sub (by assumption) (by decide) | exact room_sub3 (by assumption) (by decide))) (by (first | exact room_sub (by assumption) (by decide) | exact room_sub3 (by assumption) (by decide))) ?_; k_whole)); intro _ _ _ _ _ _ _ _ _; walk_at "my_after2")) | ((with_reducible show wpAny _ _ (PySem.exec _ _) _ _ _); first | ((with_reducible show wpAny _ _ (PySem.exec (PySem.Stmt.While _ _ _ _) _) _ _ _); refine Stop.intro ?_)) | walk1 | (dsimp only; walk1) | (leave1; try dsimp only) | ((with_reducible show wpAny _ _ _ _ _ _); dsimp only)))
    rename News _ _ _ _ => N9
    rename Fr _ _ _ _ => F9
    simp only [List.push_toArray] at N9
    refine ⟨_, _, _, _, r.length, rfl, F9, news_rot1 N9, by simp, dn ++ [((x, y), b)], r, vs ++ [_], k + 1, _, pre ++ pw ((x, y), b) ++ [44], rfl, by rw [hqs]; simp, hr0, by rw [hall]; simp, rfl, ?_, ?_, kint_of (by with_unfolding_all rfl) hat.symm, by (repeat' (first | exact Knows.nil | refine Knows.cons (by with_unfolding_all rfl) ?_))⟩
    · refine off_cons (b := p) ?_ hoff3
      omega
    · rw [List.map_append]
      exact (hR.mono (Nw.mono fun q hq => .tail _ (hin3 q hq))).append (.one (.mk (n := 0) (.head _)))
end
end
section
theorem off_plain : True := by
  w_top off
  trivial
def mergeStep (acc : List (Int × Int)) (p : Int × Int) : List (Int × Int) := match acc.getLast? with
  | some q => if p.1 ≤ q.2 + 1 then acc.dropLast ++ [(q.1, max q.2 p.2)] else acc ++ [p]
  | none => acc ++ [p]
theorem mergeStep_nil {p : Int × Int} : mergeStep [] p = [p] := rfl
theorem mergeStep_1 {ps : List (Int × Int)} {q p : Int × Int} (h : p.1 ≤ q.2 + 1) : mergeStep (ps ++ [q]) p = ps ++ [(q.1, max q.2 p.2)] := by
  unfold mergeStep; simp [h]
theorem mergeStep_2 {ps : List (Int × Int)} {q p : Int × Int} (h : ¬ p.1 ≤ q.2 + 1) : mergeStep (ps ++ [q]) p = ps ++ [q] ++ [p] := by
  unfold mergeStep; simp [h]
theorem endsOf_b {p q : Int × Int} {g : Int} (h : endsOf p g = some q) (hp : Small p) (hg : 0 ≤ g ∧ g ≤ 100) : (0 ≤ q.1 ∧ q.1 ≤ 100) ∧ (0 ≤ q.2 ∧ q.2 ≤ 100) := by
  unfold endsOf at h
  split at h
  · exact nomatch h
  · cases h
    obtain ⟨h1, h2⟩ := hp
    dsimp only
    constructor <;> constructor <;> (repeat' split) <;> omega
theorem PairsR.snoc_inv {R : Rel} {vs : List Value} {ps : List (Int × Int)} {q : Int × Int} (h : PairsR R vs (ps ++ [q])) : ∃ ws v, vs = ws ++ [v] ∧ PairsR R ws ps ∧ PairR R v q := by
  induction ps generalizing vs with
  | nil => cases h with
    | cons h t => cases t; exact ⟨[], _, rfl, .nil, h⟩
  | cons p ps ih => cases h with
    | cons h t =>
      obtain ⟨ws, v, rfl, a, b⟩ := ih t
      exact ⟨_ :: ws, v, rfl, .cons h a, b⟩
theorem off_base {base h : Heap} {L : Addr} {news : List (Addr × Obj)} {ax : Addr} {o : Obj} (N : News base L h news) (hv : base.get? ax = some o) : ∀ q ∈ news, q = (ax, o) → False := fun q hq e => by
  have := (N q hq).2.2
  rw [e] at this
  rw [this] at hv
  exact nomatch hv
theorem ownOff_lt1 {d : Addr} {x : Nat} {tl : List (Addr × Obj)} (h : @LT.lt Nat _ x d ∧ AllLt d tl) : OwnOff tl [d] := fun p hp b hb => by
  rw [List.mem_singleton.mp hb]
  exact Nat.ne_of_lt (allLt_mem h.2 p hp)
theorem ownOff_ne2 {d : Addr} {x : Nat} {tl own : List (Addr × Obj)} {l : List Addr} (h : ¬ @Eq Nat x d ∧ AllNe d (tl ++ own)) (hoff : OwnOff own (x :: l)) : OwnOff own (x :: d :: l) := fun p hp b hb => by
  rcases List.mem_cons.mp hb with rfl | hb
  · exact hoff p hp _ (.head _)
  · rcases List.mem_cons.mp hb with rfl | hb
    · exact allNe_mem h.2 p (List.mem_append_right _ hp)
    · exact hoff p hp b (.tail _ hb)
theorem inv_end {h₀ : Heap} {L : Addr} {J : (Str → Option Value) → List (Addr × Obj) → Prop} {own nx : List (Addr × Obj)} {s₁ : Shared} {m' : Str → Option Value} {h' : Heap} {tk : Nat} (F : Fr h₀ L h' m') (N : News h₀ L h' (nx ++ own)) (hJ : J m' nx) (ho : OwnOff own (nx.map (·.1))) : InvEndG h₀ L J own s₁ { s₁ with heap := h', toks := tk } :=
  InvEndG.intro F N hJ ho (fun _ h => List.mem_append_left _ h) (fun _ h => List.mem_append_right _ h)
theorem news_sw {x y q : Addr × Obj} {tl : List (Addr × Obj)} (h : q ∈ x :: y :: tl) : q ∈ y :: x :: tl := by
  simp only [List.mem_cons] at h ⊢
  rcases h with h | h | h <;> simp [h]
theorem news_rl {h₀ h : Heap} {L : Addr} {x a b : Addr × Obj} {tl : List (Addr × Obj)} (N : News h₀ L h (x :: a :: b :: tl)) : News h₀ L h (a :: b :: x :: tl) := fun q hq => N q (by
  simp only [List.mem_cons] at hq ⊢; rcases hq with e | e | e | e <;> simp [e])
theorem len_listN {prog : Program} {w : World} {A : Around} {E : Value → Shared → Prop} {s : Shared} {t : Addr} {l : List Value} {n : Nat} {Q : Value → Shared → Prop} (ht : s.heap.IsList t l.toArray) (e : l.length = n) (hz : n ≤ 1000)
    (h : Q (.int n (s.toks + 1)) { s with toks := s.toks + 1 + 1 }) : wpAny (model prog w) A (call (.builtin "len") [.ref t]) Q E s := by
  subst e; exact len_listL ht hz h
theorem ownOff_3 {d : Addr} {x y : Nat} {tl own : List (Addr × Obj)} {l : List Addr} (h : @LT.lt Nat _ x d ∧ @LT.lt Nat _ y d ∧ AllLt d (tl ++ own)) (hoff : OwnOff own (x :: y :: l)) : OwnOff own (x :: y :: d :: l) := fun p hp b hb => by
  rcases List.mem_cons.mp hb with rfl | hb
  · exact hoff p hp _ (.head _)
  · rcases List.mem_cons.mp hb with rfl | hb
    · exact hoff p hp _ (.tail _ (.head _))
    · rcases List.mem_cons.mp hb with rfl | hb
      · exact Nat.ne_of_lt (allLt_mem h.2.2 p (List.mem_append_right _ hp))
      · exact hoff p hp b (.tail _ (.tail _ hb))
theorem ownOff_app {tl own : List (Addr × Obj)} {a : Addr} {l : List Addr} (h : OwnOff tl [a]) (k : OwnOff own (a :: l)) : OwnOff (tl ++ own) [a] := fun q hq b hb => by
  rcases List.mem_append.mp hq with hq | hq
  · exact h q hq b hb
  · exact k q hq b (by rw [List.mem_singleton.mp hb]; exact .head _)
theorem mergeStep_len (acc : List (Int × Int)) (p : Int × Int) : (mergeStep acc p).length ≤ acc.length + 1 := by
  unfold mergeStep
  split
  · split <;> simp
  · simp
theorem merge_len (qs : List (Int × Int)) : ∀ acc, (qs.foldl mergeStep acc).length ≤ acc.length + qs.length := by
  induction qs with
  | nil => intro acc; simp
  | cons q qs ih => intro acc; have := ih (mergeStep acc q); have := mergeStep_len acc q; simp only [List.foldl_cons, List.length_cons]; omega
section
variable {w : World} {mean : ExcName → Option Value} {mg mb : Str → Option Value} {dp un : Nat} {gd : Option (List Code)} {cn : Str} {cs : Scope} {a : Addr} {ccd : Value} {cl : List (Str × Addr)} {outer : List Env} {A₀ : Around} {base h₀ : Heap} {L : Addr} {m : Str → Option Value} {s : Shared} {Q E : Value → Shared → Prop}
   (B : Below A₀ base outer h₀) (F : Fr h₀ L s.heap m) (X : (hd.heap_39 w.params).In h₀) (T : TopH mean mg mb h₀) (hk : cs.kind = .function)
include B F X T hk
theorem c_plain_set {pa : Addr} {n : Nat} {vs : List Value} {ps : List (Int × Int)} {g : Int} {tg : Tok} (hv : hp s.heap pa (tupO vs n)) (hps : PairsR (hp s.heap) vs ps) (hsm : ∀ p ∈ ps, Small p) (hg : 0 ≤ g ∧ g ≤ 100) (hql : vs.length < 64)
   (hdp : dp + 30 < recursionLimit) (hu : un + 300 < cLine)
   (ret : ∀ a ws k tl (qs : List (Int × Int)) h' tk', s.heap.StaysIn h' → (∀ p ∈ tl, s.heap.get? p.1 = none ∧ h'.get? p.1 = some p.2) → s.heap.get? a = none → h'.get? a = some (tupO ws k) → PairsR (Nw tl) ws (qs.foldl mergeStep []) → qs.Perm (ps.filterMap (endsOf · g)) → qs.Pairwise (fun p q => lk p ≤ lk q) → Q (.ref a) { s with heap := h', toks := tk' }) :
   wpAny (model PySem.Challenge.rw_no0356_01.row.prog w) (ktrTop dp un gd cn cs L a ccd cl outer) (call (.ref 108) [.ref pa, .int g tg]) Q E s := by
  revert X; k_fill; intro X
  refine wpAny_call ?_
  k_dflt (refine' code_pure (binds := [("some", .ref pa), ("greatest", .int g tg)]) ?k1 ?k2 ?k3 ?k5 ?kA ?kF ?kK ?k6 ?k7 ?k8 ?k9 ?kB ?_ ?c2 ?c3 ?c4 ?c5; (case kA => exact rfl); (case kF => exact rfl); (case kK => assumption); (case k1 => k_asm); (case k2 => k_asm); (case k3 => k_asm); (case k5 => k_asm); (case k6 => k_is); (case k7 => k_is); (case k8 => exact Nat.lt_of_le_of_lt (Nat.le_add_right _ _) hdp); (case k9 => exact BindsTo.of_eq rfl); (case c5 => decide); (case kB => exact locs rfl); (case c2 => exact rfl); (case c3 => exact rfl); (case c4 => exact rfl); k_whole; intro L' h' F' N' B' X' T'; (try dsimp only); (try dsimp only [List.reverse, List.reverseAux] at F'); (try k_lift B'); (try k_fold))
  (repeat' (first | (k_unfold; (try dsimp only)) | (k_end; wrow_close) | ((with_reducible show wpAny _ _ (call _ _ _) _ _ _); first | ((with_reducible show wpAny _ _ (call (Value.builtin "list.sort") [Value.ref _]) _ _ _); refine Stop.intro ?_) | ((with_reducible show wpAny _ _ (call (Value.type _) [Value.ref _]) _ _ _); k_here; k_dflt (refine' kde_tupleOf (by k_asm) (by k_asm) (by exact News.isList (by k_asm) (by k_mem)) (by (simp only [List.size_toArray]; have := ‹List.length _ < 64›; omega)) (by exact rfl) ?_; k_whole); intro _ _ _ _ l1; (try k_lt l1); (try k_sweep; revert l1; intro _)) | ((with_reducible show wpAny _ _ (call (Value.builtin "len") [Value.ref _]) _ _ _); k_here; k_dflt (refine' len_listN (by exact News.isList (by k_asm) (by k_mem)) (by first | exact List.length_nil | exact List.length_append | exact rfl) (by (have := ‹List.length _ < 64›; (try simp only [List.length_append, List.length_singleton] at this); (try simp only [List.length_singleton]); omega)) ?_; k_whole); (try dsimp only); (try simp only [List.length_singleton])) | ((with_reducible show wpAny _ _ (call (Value.ref 101) _) _ _ _); k_here; (k_dflt (refine' c_ends_of (by k_asm) (by k_asm) (by k_asm) (by k_asm) (by exact rfl) (by (first | assumption | exact pair_base (by k_asm) (by assumption) | exact pair_in (by k_asm) (by k_asm) (by assumption) (by ((intro q' hq'; first | exact hq' | (simp only [List.mem_cons, List.mem_append] at hq' ⊢; simp only [hq', true_or, or_true]; done)))))) (by (first | exact room_sub (by assumption) (by decide) | exact room_sub3 (by assumption) (by decide))) (by (first | exact room_sub (by assumption) (by decide) | exact room_sub3 (by assumption) (by decide))) ?_ ?_)); all_goals (first | (k_whole; intro _ _ _ _ _ _ _ _ _ _ _ _; walk_at "my_after2") | (k_whole; intro _ _ _ _; walk_at "my_after")))) | ((with_reducible show wpAny _ _ (setItem _ _ _) _ _ _); first | ((with_reducible show wpAny _ _ (setItem (Value.ref _) (Value.int _ _) _) _ _ _); k_here; k_dflt (refine' set_neg (by k_asm) (by k_asm) (by k_updF) (by decide) (by (simp only [List.length_append, List.length_singleton]; omega)) (by (have := ‹List.length _ < 64›; omega)) ?_; k_whole); intro _ _ N'; (try dsimp only at N'); (try k_sweep; revert N'; intro _))) | ((with_reducible show wpAny _ _ (subscriptTail _ _ _ _) _ _ _); first | ((with_reducible show wpAny _ _ (subscriptTail _ _ (Value.ref _) (Value.int 1 _)) _ _ _); k_here; k_dflt (refine' item_tupI (i := 1) (by exact isTup_in (by k_asm) (by k_asm) (by assumption) (by ((intro q' hq'; first | exact hq' | (simp only [List.mem_cons, List.mem_append] at hq' ⊢; simp only [hq', true_or, or_true]; done))))) (by exact rfl) (by exact rfl) (by exact Nat.le_of_ble_eq_true rfl) ?_ (by with_unfolding_all rfl); k_whole); (try dsimp only)) | ((with_reducible show wpAny _ _ (subscriptTail _ _ (Value.ref _) (Value.int 0 _)) _ _ _); k_here; k_dflt (refine' item_tupI (i := 0) (by exact isTup_in (by k_asm) (by k_asm) (by assumption) (by ((intro q' hq'; first | exact hq' | (simp only [List.mem_cons, List.mem_append] at hq' ⊢; simp only [hq', true_or, or_true]; done))))) (by exact rfl) (by exact rfl) (by exact Nat.le_of_ble_eq_true rfl) ?_ (by with_unfolding_all rfl); k_whole); (try dsimp only)) | ((with_reducible show wpAny _ _ (subscriptTail _ _ (Value.ref _) (Value.int (-1) _)) _ _ _); k_here; k_dflt (refine' item_last (by exact News.isList (by k_asm) (by k_mem)) (by (have := ‹List.length _ < 64›; omega)) ?_ (by with_unfolding_all rfl); k_whole); (try dsimp only))) | ((with_reducible show wpAny _ _ (PySem.pyIter _) _ _ _); first | ((with_reducible show wpAny _ _ (PySem.pyIter _) _ _ _); refine Stop.intro ?_)) | ((with_reducible show wpAny _ _ (PySem.exec _ _) _ _ _); first | ((with_reducible show wpAny _ _ (PySem.exec (PySem.Stmt.For _ _ _ _ _) _) _ _ _); refine Stop.intro ?_)) | walk1 | (dsimp only; walk1) | (leave1; try dsimp only) | ((with_reducible show wpAny _ _ _ _ _ _); dsimp only)))
  rename Fr _ _ _ _ => F1
  rename News _ _ _ _ => N1
  obtain ⟨p, ep⟩ := led_name N1
  subst ep
  refine Stop.out (For_turns F1 ?_)
  (repeat' (first | (k_unfold; (try dsimp only)) | (k_end; wrow_close) | ((with_reducible show wpAny _ _ (call _ _ _) _ _ _); first | ((with_reducible show wpAny _ _ (call (Value.builtin "list.sort") [Value.ref _]) _ _ _); refine Stop.intro ?_) | ((with_reducible show wpAny _ _ (call (Value.type _) [Value.ref _]) _ _ _); k_here; k_dflt (refine' kde_tupleOf (by k_asm) (by k_asm) (by exact News.isList (by k_asm) (by k_mem)) (by (simp only [List.size_toArray]; have := ‹List.length _ < 64›; omega)) (by exact rfl) ?_; k_whole); intro _ _ _ _ l1; (try k_lt l1); (try k_sweep; revert l1; intro _)) | ((with_reducible show wpAny _ _ (call (Value.builtin "len") [Value.ref _]) _ _ _); k_here; k_dflt (refine' len_listN (by exact News.isList (by k_asm) (by k_mem)) (by first | exact List.length_nil | exact List.length_append | exact rfl) (by (have := ‹List.length _ < 64›; (try simp only [List.length_append, List.length_singleton] at this); (try simp only [List.length_singleton]); omega)) ?_; k_whole); (try dsimp only); (try simp only [List.length_singleton])) | ((with_reducible show wpAny _ _ (call (Value.ref 101) _) _ _ _); k_here; (k_dflt (refine' c_ends_of (by k_asm) (by k_asm) (by k_asm) (by k_asm) (by exact rfl) (by (first | assumption | exact pair_base (by k_asm) (by assumption) | exact pair_in (by k_asm) (by k_asm) (by assumption) (by ((intro q' hq'; first | exact hq' | (simp only [List.mem_cons, List.mem_append] at hq' ⊢; simp only [hq', true_or, or_true]; done)))))) (by (first | exact room_sub (by assumption) (by decide) | exact room_sub3 (by assumption) (by decide))) (by (first | exact room_sub (by assumption) (by decide) | exact room_sub3 (by assumption) (by decide))) ?_ ?_)); all_goals (first | (k_whole; intro _ _ _ _ _ _ _ _ _ _ _ _; walk_at "my_after2") | (k_whole; intro _ _ _ _; walk_at "my_after")))) | ((with_reducible show wpAny _ _ (setItem _ _ _) _ _ _); first | ((with_reducible show wpAny _ _ (setItem (Value.ref _) (Value.int _ _) _) _ _ _); k_here; k_dflt (refine' set_neg (by k_asm) (by k_asm) (by k_updF) (by decide) (by (simp only [List.length_append, List.length_singleton]; omega)) (by (have := ‹List.length _ < 64›; omega)) ?_; k_whole); intro _ _ N'; (try dsimp only at N'); (try k_sweep; revert N'; intro _))) | ((with_reducible show wpAny _ _ (subscriptTail _ _ _ _) _ _ _); first | ((with_reducible show wpAny _ _ (subscriptTail _ _ (Value.ref _) (Value.int 1 _)) _ _ _); k_here; k_dflt (refine' item_tupI (i := 1) (by exact isTup_in (by k_asm) (by k_asm) (by assumption) (by ((intro q' hq'; first | exact hq' | (simp only [List.mem_cons, List.mem_append] at hq' ⊢; simp only [hq', true_or, or_true]; done))))) (by exact rfl) (by exact rfl) (by exact Nat.le_of_ble_eq_true rfl) ?_ (by with_unfolding_all rfl); k_whole); (try dsimp only)) | ((with_reducible show wpAny _ _ (subscriptTail _ _ (Value.ref _) (Value.int 0 _)) _ _ _); k_here; k_dflt (refine' item_tupI (i := 0) (by exact isTup_in (by k_asm) (by k_asm) (by assumption) (by ((intro q' hq'; first | exact hq' | (simp only [List.mem_cons, List.mem_append] at hq' ⊢; simp only [hq', true_or, or_true]; done))))) (by exact rfl) (by exact rfl) (by exact Nat.le_of_ble_eq_true rfl) ?_ (by with_unfolding_all rfl); k_whole); (try dsimp only)) | ((with_reducible show wpAny _ _ (subscriptTail _ _ (Value.ref _) (Value.int (-1) _)) _ _ _); k_here; k_dflt (refine' item_last (by exact News.isList (by k_asm) (by k_mem)) (by (have := ‹List.length _ < 64›; omega)) ?_ (by with_unfolding_all rfl); k_whole); (try dsimp only))) | ((with_reducible show wpAny _ _ (PySem.pyIter _) _ _ _); first | ((with_reducible show wpAny _ _ (PySem.pyIter _) _ _ _); refine Stop.intro ?_)) | ((with_reducible show wpAny _ _ (PySem.exec _ _) _ _ _); first | ((with_reducible show wpAny _ _ (PySem.exec (PySem.Stmt.For _ _ _ _ _) _) _ _ _); refine Stop.intro ?_)) | walk1 | (dsimp only; walk1) | (leave1; try dsimp only) | ((with_reducible show wpAny _ _ _ _ _ _); dsimp only)))
  refine Stop.out ?_
  refine turns_seq (fun i m nx => ∃ (vs1 : List Value) (k : Nat) (tl : List (Addr × Obj)), nx = (p, W.listOf vs1.toArray k) :: tl ∧ OwnOff tl [p] ∧ PairsR (Bs s.heap tl) vs1 ((ps.take i).filterMap (endsOf · g)) ∧ Knows m [("pairs", .ref p), ("some", .ref pa), ("greatest", .int g tg)]) rfl (seqO_tup vs n) (.inr hv) F1 N1 ⟨[], 0, [], rfl, (fun _ h => nomatch h), .nil, by (repeat' (first | exact Knows.nil | refine Knows.cons (by with_unfolding_all rfl) ?_))⟩ ?_ ?_ ?_
  · exact fun _ _ _ _ q hq e => (off_base N1 hv q hq e).elim
  · rintro i v m₁ nx h1 tk2 own hi hoff ⟨vs1, k, tl, rfl, ho1, hR, hkn⟩ F2 N2
    obtain ⟨pp, hpi, hr⟩ := hps.get hi
    rw [List.cons_append] at N2
    replace F2 := fr_known F2 hkn
    have hvb : vs1.length < 64 := by
      have e1 := hR.length
      have e2 := List.length_filterMap_le (endsOf · g) (ps.take i)
      have e3 := hps.length
      rw [List.length_take] at e2; omega
    have hoo := ownOff_app ho1 hoff
    (repeat' (first | (k_unfold; (try dsimp only)) | (k_end; wrow_close) | ((with_reducible show wpAny _ _ (call _ _ _) _ _ _); first | ((with_reducible show wpAny _ _ (call (Value.builtin "list.sort") [Value.ref _]) _ _ _); refine Stop.intro ?_) | ((with_reducible show wpAny _ _ (call (Value.type _) [Value.ref _]) _ _ _); k_here; k_dflt (refine' kde_tupleOf (by k_asm) (by k_asm) (by exact News.isList (by k_asm) (by k_mem)) (by (simp only [List.size_toArray]; have := ‹List.length _ < 64›; omega)) (by exact rfl) ?_; k_whole); intro _ _ _ _ l1; (try k_lt l1); (try k_sweep; revert l1; intro _)) | ((with_reducible show wpAny _ _ (call (Value.builtin "len") [Value.ref _]) _ _ _); k_here; k_dflt (refine' len_listN (by exact News.isList (by k_asm) (by k_mem)) (by first | exact List.length_nil | exact List.length_append | exact rfl) (by (have := ‹List.length _ < 64›; (try simp only [List.length_append, List.length_singleton] at this); (try simp only [List.length_singleton]); omega)) ?_; k_whole); (try dsimp only); (try simp only [List.length_singleton])) | ((with_reducible show wpAny _ _ (call (Value.ref 101) _) _ _ _); k_here; (k_dflt (refine' c_ends_of (by k_asm) (by k_asm) (by k_asm) (by k_asm) (by exact rfl) (by (first | assumption | exact pair_base (by k_asm) (by assumption) | exact pair_in (by k_asm) (by k_asm) (by assumption) (by ((intro q' hq'; first | exact hq' | (simp only [List.mem_cons, List.mem_append] at hq' ⊢; simp only [hq', true_or, or_true]; done)))))) (by (first | exact room_sub (by assumption) (by decide) | exact room_sub3 (by assumption) (by decide))) (by (first | exact room_sub (by assumption) (by decide) | exact room_sub3 (by assumption) (by decide))) ?_ ?_)); all_goals (first | (k_whole; intro _ _ _ _ _ _ _ _ _ _ _ _; walk_at "my_after2") | (k_whole; intro _ _ _ _; walk_at "my_after")))) | ((with_reducible show wpAny _ _ (setItem _ _ _) _ _ _); first | ((with_reducible show wpAny _ _ (setItem (Value.ref _) (Value.int _ _) _) _ _ _); k_here; k_dflt (refine' set_neg (by k_asm) (by k_asm) (by k_updF) (by decide) (by (simp only [List.length_append, List.length_singleton]; omega)) (by (have := ‹List.length _ < 64›; omega)) ?_; k_whole); intro _ _ N'; (try dsimp only at N'); (try k_sweep; revert N'; intro _))) | ((with_reducible show wpAny _ _ (subscriptTail _ _ _ _) _ _ _); first | ((with_reducible show wpAny _ _ (subscriptTail _ _ (Value.ref _) (Value.int 1 _)) _ _ _); k_here; k_dflt (refine' item_tupI (i := 1) (by exact isTup_in (by k_asm) (by k_asm) (by assumption) (by ((intro q' hq'; first | exact hq' | (simp only [List.mem_cons, List.mem_append] at hq' ⊢; simp only [hq', true_or, or_true]; done))))) (by exact rfl) (by exact rfl) (by exact Nat.le_of_ble_eq_true rfl) ?_ (by with_unfolding_all rfl); k_whole); (try dsimp only)) | ((with_reducible show wpAny _ _ (subscriptTail _ _ (Value.ref _) (Value.int 0 _)) _ _ _); k_here; k_dflt (refine' item_tupI (i := 0) (by exact isTup_in (by k_asm) (by k_asm) (by assumption) (by ((intro q' hq'; first | exact hq' | (simp only [List.mem_cons, List.mem_append] at hq' ⊢; simp only [hq', true_or, or_true]; done))))) (by exact rfl) (by exact rfl) (by exact Nat.le_of_ble_eq_true rfl) ?_ (by with_unfolding_all rfl); k_whole); (try dsimp only)) | ((with_reducible show wpAny _ _ (subscriptTail _ _ (Value.ref _) (Value.int (-1) _)) _ _ _); k_here; k_dflt (refine' item_last (by exact News.isList (by k_asm) (by k_mem)) (by (have := ‹List.length _ < 64›; omega)) ?_ (by with_unfolding_all rfl); k_whole); (try dsimp only))) | ((with_reducible show wpAny _ _ (PySem.pyIter _) _ _ _); first | ((with_reducible show wpAny _ _ (PySem.pyIter _) _ _ _); refine Stop.intro ?_)) | ((with_reducible show wpAny _ _ (PySem.exec _ _) _ _ _); first | ((with_reducible show wpAny _ _ (PySem.exec (PySem.Stmt.For _ _ _ _ _) _) _ _ _); refine Stop.intro ?_)) | walk1 | (dsimp only; walk1) | (leave1; try dsimp only) | ((with_reducible show wpAny _ _ _ _ _ _); dsimp only)))
    · rename News _ _ _ _ => N9; rename Fr _ _ _ _ => F9
      refine InvEndG.intro F9 N9 ⟨vs1, k, tl, rfl, ho1, ?_, by (repeat' (first | exact Knows.nil | refine Knows.cons (by with_unfolding_all rfl) ?_))⟩ hoff (by (first | ((intro q' hq'; simp only [List.mem_cons, List.mem_append] at hq' ⊢; first | (rcases hq' with hq' | hq' <;> (simp only [hq', true_or, or_true]; done)) | (rcases hq' with hq' | hq' | hq' <;> (simp only [hq', true_or, or_true]; done)) | (rcases hq' with hq' | hq' | hq' | hq' <;> (simp only [hq', true_or, or_true]; done)) | (rcases hq' with hq' | hq' | hq' | hq' | hq' <;> (simp only [hq', true_or, or_true]; done)) | (simp only [hq', true_or, or_true]; done))) | ((intro q' hq'; first | exact hq' | exact .tail _ hq' | exact .tail _ (.tail _ hq') | exact .tail _ (.tail _ (.tail _ hq')) | (simp only [List.mem_cons, List.mem_append] at hq' ⊢; simp only [hq', true_or, or_true]; done))))) (by (first | ((intro q' hq'; simp only [List.mem_cons, List.mem_append] at hq' ⊢; first | (rcases hq' with hq' | hq' <;> (simp only [hq', true_or, or_true]; done)) | (rcases hq' with hq' | hq' | hq' <;> (simp only [hq', true_or, or_true]; done)) | (rcases hq' with hq' | hq' | hq' | hq' <;> (simp only [hq', true_or, or_true]; done)) | (rcases hq' with hq' | hq' | hq' | hq' | hq' <;> (simp only [hq', true_or, or_true]; done)) | (simp only [hq', true_or, or_true]; done))) | ((intro q' hq'; first | exact hq' | exact .tail _ hq' | exact .tail _ (.tail _ hq') | exact .tail _ (.tail _ (.tail _ hq')) | (simp only [List.mem_cons, List.mem_append] at hq' ⊢; simp only [hq', true_or, or_true]; done)))))
      rw [List.take_add_one, hpi, Option.toList_some, List.filterMap_append, List.filterMap_cons_none (by assumption), List.filterMap_nil, List.append_nil]
      exact hR
    · rename News _ _ _ _ => N9; rename Fr _ _ _ _ => F9
      simp only [List.push_toArray] at N9
      replace N9 := news_rot1 N9
      simp only [← List.cons_append] at N9
      refine inv_end F9 N9 ⟨_, _, _, rfl, ?_, ?_, by (repeat' (first | exact Knows.nil | refine Knows.cons (by with_unfolding_all rfl) ?_))⟩ ?_
      · exact off_cons (b := p) (by omega) ho1
      · rw [List.take_add_one, hpi, Option.toList_some, List.filterMap_append, List.filterMap_cons_some (by assumption), List.filterMap_nil]
        exact (hR.mono (Bs.mono fun q hq => .tail _ hq)).append (.one (.mk (.inl (.head _))))
      · exact ownOff_ne2 (by assumption) (hoff := hoff)
  · rintro m₁ nx h1 tk2 ⟨vs1, k, tl, rfl, ho1, hR, hkn⟩ F2 N2
    rw [hps.length, List.take_length] at hR
    replace F2 := fr_known F2 hkn
    have hvb : vs1.length < 64 := by
      have e1 := hR.length
      have e2 := List.length_filterMap_le (endsOf · g) ps
      have e3 := hps.length
      omega
    have hbd : ∀ q ∈ ps.filterMap (endsOf · g), (0 ≤ q.1 ∧ q.1 ≤ 100) ∧ (0 ≤ q.2 ∧ q.2 ≤ 100) := fun q hq => by
      obtain ⟨x, hx, e⟩ := List.mem_filterMap.mp hq
      exact endsOf_b e (hsm _ hx) hg
    (repeat' (first | (k_unfold; (try dsimp only)) | (k_end; wrow_close) | ((with_reducible show wpAny _ _ (call _ _ _) _ _ _); first | ((with_reducible show wpAny _ _ (call (Value.builtin "list.sort") [Value.ref _]) _ _ _); refine Stop.intro ?_) | ((with_reducible show wpAny _ _ (call (Value.type _) [Value.ref _]) _ _ _); k_here; k_dflt (refine' kde_tupleOf (by k_asm) (by k_asm) (by exact News.isList (by k_asm) (by k_mem)) (by (simp only [List.size_toArray]; have := ‹List.length _ < 64›; omega)) (by exact rfl) ?_; k_whole); intro _ _ _ _ l1; (try k_lt l1); (try k_sweep; revert l1; intro _)) | ((with_reducible show wpAny _ _ (call (Value.builtin "len") [Value.ref _]) _ _ _); k_here; k_dflt (refine' len_listN (by exact News.isList (by k_asm) (by k_mem)) (by first | exact List.length_nil | exact List.length_append | exact rfl) (by (have := ‹List.length _ < 64›; (try simp only [List.length_append, List.length_singleton] at this); (try simp only [List.length_singleton]); omega)) ?_; k_whole); (try dsimp only); (try simp only [List.length_singleton])) | ((with_reducible show wpAny _ _ (call (Value.ref 101) _) _ _ _); k_here; (k_dflt (refine' c_ends_of (by k_asm) (by k_asm) (by k_asm) (by k_asm) (by exact rfl) (by (first | assumption | exact pair_base (by k_asm) (by assumption) | exact pair_in (by k_asm) (by k_asm) (by assumption) (by ((intro q' hq'; first | exact hq' | (simp only [List.mem_cons, List.mem_append] at hq' ⊢; simp only [hq', true_or, or_true]; done)))))) (by (first | exact room_sub (by assumption) (by decide) | exact room_sub3 (by assumption) (by decide))) (by (first | exact room_sub (by assumption) (by decide) | exact room_sub3 (by assumption) (by decide))) ?_ ?_)); all_goals (first | (k_whole; intro _ _ _ _ _ _ _ _ _ _ _ _; walk_at "my_after2") | (k_whole; intro _ _ _ _; walk_at "my_after")))) | ((with_reducible show wpAny _ _ (setItem _ _ _) _ _ _); first | ((with_reducible show wpAny _ _ (setItem (Value.ref _) (Value.int _ _) _) _ _ _); k_here; k_dflt (refine' set_neg (by k_asm) (by k_asm) (by k_updF) (by decide) (by (simp only [List.length_append, List.length_singleton]; omega)) (by (have := ‹List.length _ < 64›; omega)) ?_; k_whole); intro _ _ N'; (try dsimp only at N'); (try k_sweep; revert N'; intro _))) | ((with_reducible show wpAny _ _ (subscriptTail _ _ _ _) _ _ _); first | ((with_reducible show wpAny _ _ (subscriptTail _ _ (Value.ref _) (Value.int 1 _)) _ _ _); k_here; k_dflt (refine' item_tupI (i := 1) (by exact isTup_in (by k_asm) (by k_asm) (by assumption) (by ((intro q' hq'; first | exact hq' | (simp only [List.mem_cons, List.mem_append] at hq' ⊢; simp only [hq', true_or, or_true]; done))))) (by exact rfl) (by exact rfl) (by exact Nat.le_of_ble_eq_true rfl) ?_ (by with_unfolding_all rfl); k_whole); (try dsimp only)) | ((with_reducible show wpAny _ _ (subscriptTail _ _ (Value.ref _) (Value.int 0 _)) _ _ _); k_here; k_dflt (refine' item_tupI (i := 0) (by exact isTup_in (by k_asm) (by k_asm) (by assumption) (by ((intro q' hq'; first | exact hq' | (simp only [List.mem_cons, List.mem_append] at hq' ⊢; simp only [hq', true_or, or_true]; done))))) (by exact rfl) (by exact rfl) (by exact Nat.le_of_ble_eq_true rfl) ?_ (by with_unfolding_all rfl); k_whole); (try dsimp only)) | ((with_reducible show wpAny _ _ (subscriptTail _ _ (Value.ref _) (Value.int (-1) _)) _ _ _); k_here; k_dflt (refine' item_last (by exact News.isList (by k_asm) (by k_mem)) (by (have := ‹List.length _ < 64›; omega)) ?_ (by with_unfolding_all rfl); k_whole); (try dsimp only))) | ((with_reducible show wpAny _ _ (PySem.pyIter _) _ _ _); first | ((with_reducible show wpAny _ _ (PySem.pyIter _) _ _ _); refine Stop.intro ?_)) | ((with_reducible show wpAny _ _ (PySem.exec _ _) _ _ _); first | ((with_reducible show wpAny _ _ (PySem.exec (PySem.Stmt.For _ _ _ _ _) _) _ _ _); refine Stop.intro ?_)) | walk1 | (dsimp only; walk1) | (leave1; try dsimp only) | ((with_reducible show wpAny _ _ _ _ _ _); dsimp only)))
    refine Stop.out (sort_pairs F2 N2 (fun q hq => ho1 q hq p (.head _)) hR (fun q hq => by have := hbd q hq; omega) hvb fun vs2 qs k2 h2 tk3 F3 N3 hR2 hperm hsort => ?_)
    clear F2 N2 F1 N1
    replace hbd : ∀ q ∈ qs, (0 ≤ q.1 ∧ q.1 ≤ 100) ∧ (0 ≤ q.2 ∧ q.2 ≤ 100) := fun q hq => hbd q (hperm.mem_iff.mp hq)
    have hvb2 : vs2.length < 64 := by
      have e1 := hR.length
      have e2 := hR2.length
      have e3 := hperm.length_eq
      omega
    (repeat' (first | (k_unfold; (try dsimp only)) | (k_end; wrow_close) | ((with_reducible show wpAny _ _ (call _ _ _) _ _ _); first | ((with_reducible show wpAny _ _ (call (Value.builtin "list.sort") [Value.ref _]) _ _ _); refine Stop.intro ?_) | ((with_reducible show wpAny _ _ (call (Value.type _) [Value.ref _]) _ _ _); k_here; k_dflt (refine' kde_tupleOf (by k_asm) (by k_asm) (by exact News.isList (by k_asm) (by k_mem)) (by (simp only [List.size_toArray]; have := ‹List.length _ < 64›; omega)) (by exact rfl) ?_; k_whole); intro _ _ _ _ l1; (try k_lt l1); (try k_sweep; revert l1; intro _)) | ((with_reducible show wpAny _ _ (call (Value.builtin "len") [Value.ref _]) _ _ _); k_here; k_dflt (refine' len_listN (by exact News.isList (by k_asm) (by k_mem)) (by first | exact List.length_nil | exact List.length_append | exact rfl) (by (have := ‹List.length _ < 64›; (try simp only [List.length_append, List.length_singleton] at this); (try simp only [List.length_singleton]); omega)) ?_; k_whole); (try dsimp only); (try simp only [List.length_singleton])) | ((with_reducible show wpAny _ _ (call (Value.ref 101) _) _ _ _); k_here; (k_dflt (refine' c_ends_of (by k_asm) (by k_asm) (by k_asm) (by k_asm) (by exact rfl) (by (first | assumption | exact pair_base (by k_asm) (by assumption) | exact pair_in (by k_asm) (by k_asm) (by assumption) (by ((intro q' hq'; first | exact hq' | (simp only [List.mem_cons, List.mem_append] at hq' ⊢; simp only [hq', true_or, or_true]; done)))))) (by (first | exact room_sub (by assumption) (by decide) | exact room_sub3 (by assumption) (by decide))) (by (first | exact room_sub (by assumption) (by decide) | exact room_sub3 (by assumption) (by decide))) ?_ ?_)); all_goals (first | (k_whole; intro _ _ _ _ _ _ _ _ _ _ _ _; walk_at "my_after2") | (k_whole; intro _ _ _ _; walk_at "my_after")))) | ((with_reducible show wpAny _ _ (setItem _ _ _) _ _ _); first | ((with_reducible show wpAny _ _ (setItem (Value.ref _) (Value.int _ _) _) _ _ _); k_here; k_dflt (refine' set_neg (by k_asm) (by k_asm) (by k_updF) (by decide) (by (simp only [List.length_append, List.length_singleton]; omega)) (by (have := ‹List.length _ < 64›; omega)) ?_; k_whole); intro _ _ N'; (try dsimp only at N'); (try k_sweep; revert N'; intro _))) | ((with_reducible show wpAny _ _ (subscriptTail _ _ _ _) _ _ _); first | ((with_reducible show wpAny _ _ (subscriptTail _ _ (Value.ref _) (Value.int 1 _)) _ _ _); k_here; k_dflt (refine' item_tupI (i := 1) (by exact isTup_in (by k_asm) (by k_asm) (by assumption) (by ((intro q' hq'; first | exact hq' | (simp only [List.mem_cons, List.mem_append] at hq' ⊢; simp only [hq', true_or, or_true]; done))))) (by exact rfl) (by exact rfl) (by exact Nat.le_of_ble_eq_true rfl) ?_ (by with_unfolding_all rfl); k_whole); (try dsimp only)) | ((with_reducible show wpAny _ _ (subscriptTail _ _ (Value.ref _) (Value.int 0 _)) _ _ _); k_here; k_dflt (refine' item_tupI (i := 0) (by exact isTup_in (by k_asm) (by k_asm) (by assumption) (by ((intro q' hq'; first | exact hq' | (simp only [List.mem_cons, List.mem_append] at hq' ⊢; simp only [hq', true_or, or_true]; done))))) (by exact rfl) (by exact rfl) (by exact Nat.le_of_ble_eq_true rfl) ?_ (by with_unfolding_all rfl); k_whole); (try dsimp only)) | ((with_reducible show wpAny _ _ (subscriptTail _ _ (Value.ref _) (Value.int (-1) _)) _ _ _); k_here; k_dflt (refine' item_last (by exact News.isList (by k_asm) (by k_mem)) (by (have := ‹List.length _ < 64›; omega)) ?_ (by with_unfolding_all rfl); k_whole); (try dsimp only))) | ((with_reducible show wpAny _ _ (PySem.pyIter _) _ _ _); first | ((with_reducible show wpAny _ _ (PySem.pyIter _) _ _ _); refine Stop.intro ?_)) | ((with_reducible show wpAny _ _ (PySem.exec _ _) _ _ _); first | ((with_reducible show wpAny _ _ (PySem.exec (PySem.Stmt.For _ _ _ _ _) _) _ _ _); refine Stop.intro ?_)) | walk1 | (dsimp only; walk1) | (leave1; try dsimp only) | ((with_reducible show wpAny _ _ _ _ _ _); dsimp only)))
    rename News _ _ _ _ => N4; rename Fr _ _ _ _ => F4
    obtain ⟨o, eo⟩ := led_name N4
    subst eo
    refine Stop.out (For_turns F4 ?_)
    (repeat' (first | (k_unfold; (try dsimp only)) | (k_end; wrow_close) | ((with_reducible show wpAny _ _ (call _ _ _) _ _ _); first | ((with_reducible show wpAny _ _ (call (Value.builtin "list.sort") [Value.ref _]) _ _ _); refine Stop.intro ?_) | ((with_reducible show wpAny _ _ (call (Value.type _) [Value.ref _]) _ _ _); k_here; k_dflt (refine' kde_tupleOf (by k_asm) (by k_asm) (by exact News.isList (by k_asm) (by k_mem)) (by (simp only [List.size_toArray]; have := ‹List.length _ < 64›; omega)) (by exact rfl) ?_; k_whole); intro _ _ _ _ l1; (try k_lt l1); (try k_sweep; revert l1; intro _)) | ((with_reducible show wpAny _ _ (call (Value.builtin "len") [Value.ref _]) _ _ _); k_here; k_dflt (refine' len_listN (by exact News.isList (by k_asm) (by k_mem)) (by first | exact List.length_nil | exact List.length_append | exact rfl) (by (have := ‹List.length _ < 64›; (try simp only [List.length_append, List.length_singleton] at this); (try simp only [List.length_singleton]); omega)) ?_; k_whole); (try dsimp only); (try simp only [List.length_singleton])) | ((with_reducible show wpAny _ _ (call (Value.ref 101) _) _ _ _); k_here; (k_dflt (refine' c_ends_of (by k_asm) (by k_asm) (by k_asm) (by k_asm) (by exact rfl) (by (first | assumption | exact pair_base (by k_asm) (by assumption) | exact pair_in (by k_asm) (by k_asm) (by assumption) (by ((intro q' hq'; first | exact hq' | (simp only [List.mem_cons, List.mem_append] at hq' ⊢; simp only [hq', true_or, or_true]; done)))))) (by (first | exact room_sub (by assumption) (by decide) | exact room_sub3 (by assumption) (by decide))) (by (first | exact room_sub (by assumption) (by decide) | exact room_sub3 (by assumption) (by decide))) ?_ ?_)); all_goals (first | (k_whole; intro _ _ _ _ _ _ _ _ _ _ _ _; walk_at "my_after2") | (k_whole; intro _ _ _ _; walk_at "my_after")))) | ((with_reducible show wpAny _ _ (setItem _ _ _) _ _ _); first | ((with_reducible show wpAny _ _ (setItem (Value.ref _) (Value.int _ _) _) _ _ _); k_here; k_dflt (refine' set_neg (by k_asm) (by k_asm) (by k_updF) (by decide) (by (simp only [List.length_append, List.length_singleton]; omega)) (by (have := ‹List.length _ < 64›; omega)) ?_; k_whole); intro _ _ N'; (try dsimp only at N'); (try k_sweep; revert N'; intro _))) | ((with_reducible show wpAny _ _ (subscriptTail _ _ _ _) _ _ _); first | ((with_reducible show wpAny _ _ (subscriptTail _ _ (Value.ref _) (Value.int 1 _)) _ _ _); k_here; k_dflt (refine' item_tupI (i := 1) (by exact isTup_in (by k_asm) (by k_asm) (by assumption) (by ((intro q' hq'; first | exact hq' | (simp only [List.mem_cons, List.mem_append] at hq' ⊢; simp only [hq', true_or, or_true]; done))))) (by exact rfl) (by exact rfl) (by exact Nat.le_of_ble_eq_true rfl) ?_ (by with_unfolding_all rfl); k_whole); (try dsimp only)) | ((with_reducible show wpAny _ _ (subscriptTail _ _ (Value.ref _) (Value.int 0 _)) _ _ _); k_here; k_dflt (refine' item_tupI (i := 0) (by exact isTup_in (by k_asm) (by k_asm) (by assumption) (by ((intro q' hq'; first | exact hq' | (simp only [List.mem_cons, List.mem_append] at hq' ⊢; simp only [hq', true_or, or_true]; done))))) (by exact rfl) (by exact rfl) (by exact Nat.le_of_ble_eq_true rfl) ?_ (by with_unfolding_all rfl); k_whole); (try dsimp only)) | ((with_reducible show wpAny _ _ (subscriptTail _ _ (Value.ref _) (Value.int (-1) _)) _ _ _); k_here; k_dflt (refine' item_last (by exact News.isList (by k_asm) (by k_mem)) (by (have := ‹List.length _ < 64›; omega)) ?_ (by with_unfolding_all rfl); k_whole); (try dsimp only))) | ((with_reducible show wpAny _ _ (PySem.pyIter _) _ _ _); first | ((with_reducible show wpAny _ _ (PySem.pyIter _) _ _ _); refine Stop.intro ?_)) | ((with_reducible show wpAny _ _ (PySem.exec _ _) _ _ _); first | ((with_reducible show wpAny _ _ (PySem.exec (PySem.Stmt.For _ _ _ _ _) _) _ _ _); refine Stop.intro ?_)) | walk1 | (dsimp only; walk1) | (leave1; try dsimp only) | ((with_reducible show wpAny _ _ _ _ _ _); dsimp only)))
    refine Stop.out ?_
    refine turns_seq (fun i m nx => ∃ (vs3 : List Value) (k3 : Nat) (tl3 : List (Addr × Obj)), nx = (o, W.listOf vs3.toArray k3) :: (p, W.listOf vs2.toArray k2) :: tl3 ∧ OwnOff tl3 [o] ∧ (∀ q ∈ tl, q ∈ tl3) ∧ PairsR (Nw tl3) vs3 ((qs.take i).foldl mergeStep []) ∧ Knows m [("out", .ref o), ("pairs", .ref p), ("some", .ref pa), ("greatest", .int g tg)]) rfl (seqO_list vs2 k2) (.inl (.tail _ (.head _))) F4 N4 ⟨[], 0, tl, rfl, ?_, fun _ h => h, .nil, by (repeat' (first | exact Knows.nil | refine Knows.cons (by with_unfolding_all rfl) ?_))⟩ ?_ ?_ ?_
    · exact ownOff_lt1 (by assumption)
    · rintro i m nx ⟨vs3, k3, tl3, rfl, _, _, _, _⟩ q hq rfl
      exact .tail _ (.head _)
    · rintro i v m₁ nx h1 tk2 own hi hoff ⟨vs3, k3, tl3, rfl, ho1, hin, hR3, hkn⟩ F5 N5
      obtain ⟨⟨x, y⟩, hpi, hr⟩ := hR2.get hi
      simp only [List.cons_append] at N5
      replace F5 := fr_known F5 hkn
      obtain ⟨b, nb, t1, u1, rfl, hb⟩ := hr.open
      have hTb := isTup_in F5 N5 hb (fun q hq => .tail _ (.tail _ (List.mem_append_left _ (hin q hq))))
      have hst : (qs.take (i + 1)).foldl mergeStep [] = mergeStep ((qs.take i).foldl mergeStep []) (x, y) := by
        rw [List.take_add_one, hpi, Option.toList_some, List.foldl_append]; rfl
      have hlen3 : vs3.length < 64 := by
        have e1 := hR3.length
        have e2 := merge_len (qs.take i) []
        have e3 := hR2.length
        rw [List.length_take, List.length_nil] at e2; omega
      have hoo := ownOff_app ho1 hoff
      generalize (qs.take i).foldl mergeStep [] = acc at hR3 hst
      have hcase : (acc = [] ∧ vs3 = []) ∨ ∃ ac x1 y1 ws a1, acc = ac ++ [(x1, y1)] ∧ vs3 = ws ++ [a1] ∧ PairsR (Nw tl3) ws ac ∧ PairR (Nw tl3) a1 (x1, y1) := by
        rcases List.eq_nil_or_concat acc with rfl | ⟨ac, q, e⟩
        · cases hR3; exact .inl ⟨rfl, rfl⟩
        · rw [List.concat_eq_append] at e; subst e
          obtain ⟨ws, v, rfl, a, b⟩ := hR3.snoc_inv
          exact .inr ⟨ac, q.1, q.2, ws, v, rfl, rfl, a, b⟩
      rcases hcase with ⟨rfl, rfl⟩ | ⟨ac, x1, y1, ws, a1, rfl, rfl, hRw, hr1⟩
      · (repeat' (first | (k_unfold; (try dsimp only)) | (k_end; wrow_close) | ((with_reducible show wpAny _ _ (call _ _ _) _ _ _); first | ((with_reducible show wpAny _ _ (call (Value.builtin "list.sort") [Value.ref _]) _ _ _); refine Stop.intro ?_) | ((with_reducible show wpAny _ _ (call (Value.type _) [Value.ref _]) _ _ _); k_here; k_dflt (refine' kde_tupleOf (by k_asm) (by k_asm) (by exact News.isList (by k_asm) (by k_mem)) (by (simp only [List.size_toArray]; have := ‹List.length _ < 64›; omega)) (by exact rfl) ?_; k_whole); intro _ _ _ _ l1; (try k_lt l1); (try k_sweep; revert l1; intro _)) | ((with_reducible show wpAny _ _ (call (Value.builtin "len") [Value.ref _]) _ _ _); k_here; k_dflt (refine' len_listN (by exact News.isList (by k_asm) (by k_mem)) (by first | exact List.length_nil | exact List.length_append | exact rfl) (by (have := ‹List.length _ < 64›; (try simp only [List.length_append, List.length_singleton] at this); (try simp only [List.length_singleton]); omega)) ?_; k_whole); (try dsimp only); (try simp only [List.length_singleton])) | ((with_reducible show wpAny _ _ (call (Value.ref 101) _) _ _ _); k_here; (k_dflt (refine' c_ends_of (by k_asm) (by k_asm) (by k_asm) (by k_asm) (by exact rfl) (by (first | assumption | exact pair_base (by k_asm) (by assumption) | exact pair_in (by k_asm) (by k_asm) (by assumption) (by ((intro q' hq'; first | exact hq' | (simp only [List.mem_cons, List.mem_append] at hq' ⊢; simp only [hq', true_or, or_true]; done)))))) (by (first | exact room_sub (by assumption) (by decide) | exact room_sub3 (by assumption) (by decide))) (by (first | exact room_sub (by assumption) (by decide) | exact room_sub3 (by assumption) (by decide))) ?_ ?_)); all_goals (first | (k_whole; intro _ _ _ _ _ _ _ _ _ _ _ _; walk_at "my_after2") | (k_whole; intro _ _ _ _; walk_at "my_after")))) | ((with_reducible show wpAny _ _ (setItem _ _ _) _ _ _); first | ((with_reducible show wpAny _ _ (setItem (Value.ref _) (Value.int _ _) _) _ _ _); k_here; k_dflt (refine' set_neg (by k_asm) (by k_asm) (by k_updF) (by decide) (by (simp only [List.length_append, List.length_singleton]; omega)) (by (have := ‹List.length _ < 64›; omega)) ?_; k_whole); intro _ _ N'; (try dsimp only at N'); (try k_sweep; revert N'; intro _))) | ((with_reducible show wpAny _ _ (subscriptTail _ _ _ _) _ _ _); first | ((with_reducible show wpAny _ _ (subscriptTail _ _ (Value.ref _) (Value.int 1 _)) _ _ _); k_here; k_dflt (refine' item_tupI (i := 1) (by exact isTup_in (by k_asm) (by k_asm) (by assumption) (by ((intro q' hq'; first | exact hq' | (simp only [List.mem_cons, List.mem_append] at hq' ⊢; simp only [hq', true_or, or_true]; done))))) (by exact rfl) (by exact rfl) (by exact Nat.le_of_ble_eq_true rfl) ?_ (by with_unfolding_all rfl); k_whole); (try dsimp only)) | ((with_reducible show wpAny _ _ (subscriptTail _ _ (Value.ref _) (Value.int 0 _)) _ _ _); k_here; k_dflt (refine' item_tupI (i := 0) (by exact isTup_in (by k_asm) (by k_asm) (by assumption) (by ((intro q' hq'; first | exact hq' | (simp only [List.mem_cons, List.mem_append] at hq' ⊢; simp only [hq', true_or, or_true]; done))))) (by exact rfl) (by exact rfl) (by exact Nat.le_of_ble_eq_true rfl) ?_ (by with_unfolding_all rfl); k_whole); (try dsimp only)) | ((with_reducible show wpAny _ _ (subscriptTail _ _ (Value.ref _) (Value.int (-1) _)) _ _ _); k_here; k_dflt (refine' item_last (by exact News.isList (by k_asm) (by k_mem)) (by (have := ‹List.length _ < 64›; omega)) ?_ (by with_unfolding_all rfl); k_whole); (try dsimp only))) | ((with_reducible show wpAny _ _ (PySem.pyIter _) _ _ _); first | ((with_reducible show wpAny _ _ (PySem.pyIter _) _ _ _); refine Stop.intro ?_)) | ((with_reducible show wpAny _ _ (PySem.exec _ _) _ _ _); first | ((with_reducible show wpAny _ _ (PySem.exec (PySem.Stmt.For _ _ _ _ _) _) _ _ _); refine Stop.intro ?_)) | walk1 | (dsimp only; walk1) | (leave1; try dsimp only) | ((with_reducible show wpAny _ _ _ _ _ _); dsimp only)))
        rename News _ _ _ _ => N9; rename Fr _ _ _ _ => F9
        replace N9 := news_rl N9
        simp only [List.push_toArray, ← List.cons_append] at N9
        refine inv_end F9 N9 ⟨_, _, _, rfl, ?_, ?_, ?_, by (repeat' (first | exact Knows.nil | refine Knows.cons (by with_unfolding_all rfl) ?_))⟩ ?_
        · exact off_cons (b := o) (by omega) ho1
        · exact fun q hq => .tail _ (hin q hq)
        · rw [hst, mergeStep_nil]
          exact .one (.mk (.head _))
        · exact ownOff_3 (by assumption) hoff
      · obtain ⟨b1, nb1, t2, u2, rfl, hb1⟩ := hr1.open
        replace hb1 : Bs s.heap tl3 _ _ := .inl hb1
        have hpos : (0 : Int) < ((ws ++ [Value.ref b1]).length : Int) := by rw [List.length_append, List.length_singleton]; omega
        have hset : ∀ v : Value, (ws ++ [Value.ref b1]).set (-1 + ((ws ++ [Value.ref b1]).length : Int)).toNat v = ws ++ [v] := fun v => by
          rw [show (-1 + ((ws ++ [Value.ref b1]).length : Int)).toNat = ws.length by simp; omega]
          simp
        have hmx : (if y > y1 then y else y1) = max y1 y := by split <;> omega
        by_cases hle : x ≤ y1 + 1
        · (repeat' (first | (k_unfold; (try dsimp only)) | (k_end; wrow_close) | ((with_reducible show wpAny _ _ (call _ _ _) _ _ _); first | ((with_reducible show wpAny _ _ (call (Value.builtin "list.sort") [Value.ref _]) _ _ _); refine Stop.intro ?_) | ((with_reducible show wpAny _ _ (call (Value.type _) [Value.ref _]) _ _ _); k_here; k_dflt (refine' kde_tupleOf (by k_asm) (by k_asm) (by exact News.isList (by k_asm) (by k_mem)) (by (simp only [List.size_toArray]; have := ‹List.length _ < 64›; omega)) (by exact rfl) ?_; k_whole); intro _ _ _ _ l1; (try k_lt l1); (try k_sweep; revert l1; intro _)) | ((with_reducible show wpAny _ _ (call (Value.builtin "len") [Value.ref _]) _ _ _); k_here; k_dflt (refine' len_listN (by exact News.isList (by k_asm) (by k_mem)) (by first | exact List.length_nil | exact List.length_append | exact rfl) (by (have := ‹List.length _ < 64›; (try simp only [List.length_append, List.length_singleton] at this); (try simp only [List.length_singleton]); omega)) ?_; k_whole); (try dsimp only); (try simp only [List.length_singleton])) | ((with_reducible show wpAny _ _ (call (Value.ref 101) _) _ _ _); k_here; (k_dflt (refine' c_ends_of (by k_asm) (by k_asm) (by k_asm) (by k_asm) (by exact rfl) (by (first | assumption | exact pair_base (by k_asm) (by assumption) | exact pair_in (by k_asm) (by k_asm) (by assumption) (by ((intro q' hq'; first | exact hq' | (simp only [List.mem_cons, List.mem_append] at hq' ⊢; simp only [hq', true_or, or_true]; done)))))) (by (first | exact room_sub (by assumption) (by decide) | exact room_sub3 (by assumption) (by decide))) (by (first | exact room_sub (by assumption) (by decide) | exact room_sub3 (by assumption) (by decide))) ?_ ?_)); all_goals (first | (k_whole; intro _ _ _ _ _ _ _ _ _ _ _ _; walk_at "my_after2") | (k_whole; intro _ _ _ _; walk_at "my_after")))) | ((with_reducible show wpAny _ _ (setItem _ _ _) _ _ _); first | ((with_reducible show wpAny _ _ (setItem (Value.ref _) (Value.int _ _) _) _ _ _); k_here; k_dflt (refine' set_neg (by k_asm) (by k_asm) (by k_updF) (by decide) (by (simp only [List.length_append, List.length_singleton]; omega)) (by (have := ‹List.length _ < 64›; omega)) ?_; k_whole); intro _ _ N'; (try dsimp only at N'); (try k_sweep; revert N'; intro _))) | ((with_reducible show wpAny _ _ (subscriptTail _ _ _ _) _ _ _); first | ((with_reducible show wpAny _ _ (subscriptTail _ _ (Value.ref _) (Value.int 1 _)) _ _ _); k_here; k_dflt (refine' item_tupI (i := 1) (by exact isTup_in (by k_asm) (by k_asm) (by assumption) (by ((intro q' hq'; first | exact hq' | (simp only [List.mem_cons, List.mem_append] at hq' ⊢; simp only [hq', true_or, or_true]; done))))) (by exact rfl) (by exact rfl) (by exact Nat.le_of_ble_eq_true rfl) ?_ (by with_unfolding_all rfl); k_whole); (try dsimp only)) | ((with_reducible show wpAny _ _ (subscriptTail _ _ (Value.ref _) (Value.int 0 _)) _ _ _); k_here; k_dflt (refine' item_tupI (i := 0) (by exact isTup_in (by k_asm) (by k_asm) (by assumption) (by ((intro q' hq'; first | exact hq' | (simp only [List.mem_cons, List.mem_append] at hq' ⊢; simp only [hq', true_or, or_true]; done))))) (by exact rfl) (by exact rfl) (by exact Nat.le_of_ble_eq_true rfl) ?_ (by with_unfolding_all rfl); k_whole); (try dsimp only)) | ((with_reducible show wpAny _ _ (subscriptTail _ _ (Value.ref _) (Value.int (-1) _)) _ _ _); k_here; k_dflt (refine' item_last (by exact News.isList (by k_asm) (by k_mem)) (by (have := ‹List.length _ < 64›; omega)) ?_ (by with_unfolding_all rfl); k_whole); (try dsimp only))) | ((with_reducible show wpAny _ _ (PySem.pyIter _) _ _ _); first | ((with_reducible show wpAny _ _ (PySem.pyIter _) _ _ _); refine Stop.intro ?_)) | ((with_reducible show wpAny _ _ (PySem.exec _ _) _ _ _); first | ((with_reducible show wpAny _ _ (PySem.exec (PySem.Stmt.For _ _ _ _ _) _) _ _ _); refine Stop.intro ?_)) | walk1 | (dsimp only; walk1) | (leave1; try dsimp only) | ((with_reducible show wpAny _ _ _ _ _ _); dsimp only)))
          rename News _ _ _ _ => N9; rename Fr _ _ _ _ => F9
          replace N9 := news_rl N9
          simp only [hset, ← List.cons_append] at N9
          refine inv_end F9 N9 ⟨_, _, _, rfl, ?_, ?_, ?_, by (repeat' (first | exact Knows.nil | refine Knows.cons (by with_unfolding_all rfl) ?_))⟩ ?_
          · exact off_cons (b := o) (by omega) ho1
          · exact fun q hq => .tail _ (hin q hq)
          · rw [hst, mergeStep_1 hle, ← hmx]
            exact (hRw.mono (Nw.mono fun q hq => .tail _ hq)).append (.one (.mk (.head _)))
          · exact ownOff_3 (by assumption) hoff
        · (repeat' (first | (k_unfold; (try dsimp only)) | (k_end; wrow_close) | ((with_reducible show wpAny _ _ (call _ _ _) _ _ _); first | ((with_reducible show wpAny _ _ (call (Value.builtin "list.sort") [Value.ref _]) _ _ _); refine Stop.intro ?_) | ((with_reducible show wpAny _ _ (call (Value.type _) [Value.ref _]) _ _ _); k_here; k_dflt (refine' kde_tupleOf (by k_asm) (by k_asm) (by exact News.isList (by k_asm) (by k_mem)) (by (simp only [List.size_toArray]; have := ‹List.length _ < 64›; omega)) (by exact rfl) ?_; k_whole); intro _ _ _ _ l1; (try k_lt l1); (try k_sweep; revert l1; intro _)) | ((with_reducible show wpAny _ _ (call (Value.builtin "len") [Value.ref _]) _ _ _); k_here; k_dflt (refine' len_listN (by exact News.isList (by k_asm) (by k_mem)) (by first | exact List.length_nil | exact List.length_append | exact rfl) (by (have := ‹List.length _ < 64›; (try simp only [List.length_append, List.length_singleton] at this); (try simp only [List.length_singleton]); omega)) ?_; k_whole); (try dsimp only); (try simp only [List.length_singleton])) | ((with_reducible show wpAny _ _ (call (Value.ref 101) _) _ _ _); k_here; (k_dflt (refine' c_ends_of (by k_asm) (by k_asm) (by k_asm) (by k_asm) (by exact rfl) (by (first | assumption | exact pair_base (by k_asm) (by assumption) | exact pair_in (by k_asm) (by k_asm) (by assumption) (by ((intro q' hq'; first | exact hq' | (simp only [List.mem_cons, List.mem_append] at hq' ⊢; simp only [hq', true_or, or_true]; done)))))) (by (first | exact room_sub (by assumption) (by decide) | exact room_sub3 (by assumption) (by decide))) (by (first | exact room_sub (by assumption) (by decide) | exact room_sub3 (by assumption) (by decide))) ?_ ?_)); all_goals (first | (k_whole; intro _ _ _ _ _ _ _ _ _ _ _ _; walk_at "my_after2") | (k_whole; intro _ _ _ _; walk_at "my_after")))) | ((with_reducible show wpAny _ _ (setItem _ _ _) _ _ _); first | ((with_reducible show wpAny _ _ (setItem (Value.ref _) (Value.int _ _) _) _ _ _); k_here; k_dflt (refine' set_neg (by k_asm) (by k_asm) (by k_updF) (by decide) (by (simp only [List.length_append, List.length_singleton]; omega)) (by (have := ‹List.length _ < 64›; omega)) ?_; k_whole); intro _ _ N'; (try dsimp only at N'); (try k_sweep; revert N'; intro _))) | ((with_reducible show wpAny _ _ (subscriptTail _ _ _ _) _ _ _); first | ((with_reducible show wpAny _ _ (subscriptTail _ _ (Value.ref _) (Value.int 1 _)) _ _ _); k_here; k_dflt (refine' item_tupI (i := 1) (by exact isTup_in (by k_asm) (by k_asm) (by assumption) (by ((intro q' hq'; first | exact hq' | (simp only [List.mem_cons, List.mem_append] at hq' ⊢; simp only [hq', true_or, or_true]; done))))) (by exact rfl) (by exact rfl) (by exact Nat.le_of_ble_eq_true rfl) ?_ (by with_unfolding_all rfl); k_whole); (try dsimp only)) | ((with_reducible show wpAny _ _ (subscriptTail _ _ (Value.ref _) (Value.int 0 _)) _ _ _); k_here; k_dflt (refine' item_tupI (i := 0) (by exact isTup_in (by k_asm) (by k_asm) (by assumption) (by ((intro q' hq'; first | exact hq' | (simp only [List.mem_cons, List.mem_append] at hq' ⊢; simp only [hq', true_or, or_true]; done))))) (by exact rfl) (by exact rfl) (by exact Nat.le_of_ble_eq_true rfl) ?_ (by with_unfolding_all rfl); k_whole); (try dsimp only)) | ((with_reducible show wpAny _ _ (subscriptTail _ _ (Value.ref _) (Value.int (-1) _)) _ _ _); k_here; k_dflt (refine' item_last (by exact News.isList (by k_asm) (by k_mem)) (by (have := ‹List.length _ < 64›; omega)) ?_ (by with_unfolding_all rfl); k_whole); (try dsimp only))) | ((with_reducible show wpAny _ _ (PySem.pyIter _) _ _ _); first | ((with_reducible show wpAny _ _ (PySem.pyIter _) _ _ _); refine Stop.intro ?_)) | ((with_reducible show wpAny _ _ (PySem.exec _ _) _ _ _); first | ((with_reducible show wpAny _ _ (PySem.exec (PySem.Stmt.For _ _ _ _ _) _) _ _ _); refine Stop.intro ?_)) | walk1 | (dsimp only; walk1) | (leave1; try dsimp only) | ((with_reducible show wpAny _ _ _ _ _ _); dsimp only)))
          rename News _ _ _ _ => N9; rename Fr _ _ _ _ => F9
          replace N9 := news_rl N9
          simp only [List.push_toArray, ← List.cons_append] at N9
          refine inv_end F9 N9 ⟨_, _, _, rfl, ?_, ?_, ?_, by (repeat' (first | exact Knows.nil | refine Knows.cons (by with_unfolding_all rfl) ?_))⟩ ?_
          · exact off_cons (b := o) (by omega) ho1
          · exact fun q hq => .tail _ (hin q hq)
          · rw [hst, mergeStep_2 hle]
            exact (hR3.mono (Nw.mono fun q hq => .tail _ hq)).append (.one (.mk (.head _)))
          · exact ownOff_3 (by assumption) hoff
    · rintro m₁ nx h1 tk2 ⟨vs3, k3, tl3, rfl, ho1, hin, hR3, hkn⟩ F5 N5
      rw [hR2.length, List.take_length] at hR3
      have hlen3 : vs3.length < 64 := by
        have e1 := hR3.length
        have e2 := merge_len qs []
        have e3 := hR2.length
        rw [List.length_nil] at e2; omega
      replace F5 := fr_known F5 hkn
      (repeat' (first | (k_unfold; (try dsimp only)) | (k_end; wrow_close) | ((with_reducible show wpAny _ _ (call _ _ _) _ _ _); first | ((with_reducible show wpAny _ _ (call (Value.builtin "list.sort") [Value.ref _]) _ _ _); refine Stop.intro ?_) | ((with_reducible show wpAny _ _ (call (Value.type _) [Value.ref _]) _ _ _); k_here; k_dflt (refine' kde_tupleOf (by k_asm) (by k_asm) (by exact News.isList (by k_asm) (by k_mem)) (by (simp only [List.size_toArray]; have := ‹List.length _ < 64›; omega)) (by exact rfl) ?_; k_whole); intro _ _ _ _ l1; (try k_lt l1); (try k_sweep; revert l1; intro _)) | ((with_reducible show wpAny _ _ (call (Value.builtin "len") [Value.ref _]) _ _ _); k_here; k_dflt (refine' len_listN (by exact News.isList (by k_asm) (by k_mem)) (by first | exact List.length_nil | exact List.length_append | exact rfl) (by (have := ‹List.length _ < 64›; (try simp only [List.length_append, List.length_singleton] at this); (try simp only [List.length_singleton]); omega)) ?_; k_whole); (try dsimp only); (try simp only [List.length_singleton])) | ((with_reducible show wpAny _ _ (call (Value.ref 101) _) _ _ _); k_here; (k_dflt (refine' c_ends_of (by k_asm) (by k_asm) (by k_asm) (by k_asm) (by exact rfl) (by (first | assumption | exact pair_base (by k_asm) (by assumption) | exact pair_in (by k_asm) (by k_asm) (by assumption) (by ((intro q' hq'; first | exact hq' | (simp only [List.mem_cons, List.mem_append] at hq' ⊢; simp only [hq', true_or, or_true]; done)))))) (by (first | exact room_sub (by assumption) (by decide) | exact room_sub3 (by assumption) (by decide))) (by (first | exact room_sub (by assumption) (by decide) | exact room_sub3 (by assumption) (by decide))) ?_ ?_)); all_goals (first | (k_whole; intro _ _ _ _ _ _ _ _ _ _ _ _; walk_at "my_after2") | (k_whole; intro _ _ _ _; walk_at "my_after")))) | ((with_reducible show wpAny _ _ (setItem _ _ _) _ _ _); first | ((with_reducible show wpAny _ _ (setItem (Value.ref _) (Value.int _ _) _) _ _ _); k_here; k_dflt (refine' set_neg (by k_asm) (by k_asm) (by k_updF) (by decide) (by (simp only [List.length_append, List.length_singleton]; omega)) (by (have := ‹List.length _ < 64›; omega)) ?_; k_whole); intro _ _ N'; (try dsimp only at N'); (try k_sweep; revert N'; intro _))) | ((with_reducible show wpAny _ _ (subscriptTail _ _ _ _) _ _ _); first | ((with_reducible show wpAny _ _ (subscriptTail _ _ (Value.ref _) (Value.int 1 _)) _ _ _); k_here; k_dflt (refine' item_tupI (i := 1) (by exact isTup_in (by k_asm) (by k_asm) (by assumption) (by ((intro q' hq'; first | exact hq' | (simp only [List.mem_cons, List.mem_append] at hq' ⊢; simp only [hq', true_or, or_true]; done))))) (by exact rfl) (by exact rfl) (by exact Nat.le_of_ble_eq_true rfl) ?_ (by with_unfolding_all rfl); k_whole); (try dsimp only)) | ((with_reducible show wpAny _ _ (subscriptTail _ _ (Value.ref _) (Value.int 0 _)) _ _ _); k_here; k_dflt (refine' item_tupI (i := 0) (by exact isTup_in (by k_asm) (by k_asm) (by assumption) (by ((intro q' hq'; first | exact hq' | (simp only [List.mem_cons, List.mem_append] at hq' ⊢; simp only [hq', true_or, or_true]; done))))) (by exact rfl) (by exact rfl) (by exact Nat.le_of_ble_eq_true rfl) ?_ (by with_unfolding_all rfl); k_whole); (try dsimp only)) | ((with_reducible show wpAny _ _ (subscriptTail _ _ (Value.ref _) (Value.int (-1) _)) _ _ _); k_here; k_dflt (refine' item_last (by exact News.isList (by k_asm) (by k_mem)) (by (have := ‹List.length _ < 64›; omega)) ?_ (by with_unfolding_all rfl); k_whole); (try dsimp only))) | ((with_reducible show wpAny _ _ (PySem.pyIter _) _ _ _); first | ((with_reducible show wpAny _ _ (PySem.pyIter _) _ _ _); refine Stop.intro ?_)) | ((with_reducible show wpAny _ _ (PySem.exec _ _) _ _ _); first | ((with_reducible show wpAny _ _ (PySem.exec (PySem.Stmt.For _ _ _ _ _) _) _ _ _); refine Stop.intro ?_)) | walk1 | (dsimp only; walk1) | (leave1; try dsimp only) | ((with_reducible show wpAny _ _ _ _ _ _); dsimp only)))
      rename News s.heap _ _ _ => N9
      refine ret _ _ _ ((o, W.listOf vs3.toArray k3) :: (p, W.listOf vs2.toArray k2) :: tl3) qs _ _ (Fr.keep (by assumption)) (fun q hq => ⟨(N9 q (.tail _ hq)).2.2, (N9 q (.tail _ hq)).1⟩) (N9 _ (.head _)).2.2 (N9 _ (.head _)).1 ?_ hperm hsort
      · exact hR3.mono (Nw.mono fun q hq => .tail _ (.tail _ hq))
end
end
section
theorem off_ext : True := by
  w_top off
  trivial
open F in
theorem walksS_shift {prog : Program} {w : World} {A : Around} {I : Addr} {fp wr : List Addr} {G : Array GenState → Array GenState → Prop} {n : Nat} {P : Nat → Value → Prop} {St : Nat → Shared → Prop} (W : WalksS prog w A I fp wr G n P St) (acc : Array Value) :
    WalksS prog w A I fp wr G (acc.size + n) (fun j v => if j < acc.size then acc[j]? = some v else P (j - acc.size) v) (fun j s => acc.size ≤ j ∧ St (j - acc.size) s) where
  sub := W.sub
  grefl := W.grefl
  gtrans := W.gtrans
  frame := fun i s h' tk st ht hf => ⟨st.1, W.frame _ s h' tk st.2 ht hf⟩
  item := fun i s Q E hi st hQ => W.item (i - acc.size) s Q E (by have := st.1; (first | lia | omega)) st.2 fun v s' hP hst hm => hQ v s' (by rw [if_neg (by have := st.1; (first | lia | omega))]; exact hP) ⟨by have := st.1; (first | lia | omega), by rw [show i + 1 - acc.size = i - acc.size + 1 by have := st.1; (first | lia | omega)]; exact hst⟩ hm
  done := fun s Q E st hQ => W.done s Q E (by have := st.2; rwa [Nat.add_sub_cancel_left] at this) hQ
  self := fun i s Q E st hQ => W.self _ s Q E st.2 hQ
section
variable {prog : Program} {w : World} {A : Around} {E : Value → Shared → Prop} {s : Shared}
theorem extend_rangeW {R : Result → Shared → Prop} {r : Addr} {a b : Int} {t u v : Tok} {n : Nat} {acc : Array Value} (hh : A.handled = none) (hr : IsRange s.heap r a b 1 t u v) (hsmall : Builtin.Range.small a b 1 = true)
    (hn : Builtin.Range.rangeSize a b 1 = n) (hlen : acc.size + n ≤ 100000) (S : Addr) (res : Value) (c₀ : Nat) (hS : s.heap.get? S = some { cls := .type "list", data := .seq acc c₀ })
    (hR : ∀ h' tk acc' c', (∀ b o, b ≠ S → s.heap.get? b = some o → h'.get? b = some o) → h'.get? S = some { cls := .type "list", dict := none, data := .seq acc' c', slots := #[] } →
      ItemsOf (fun j v => if j < acc.size then acc[j]? = some v else ∃ t, v = .int (a + ((j - acc.size : Nat) : Int) * 1) t) acc' (acc.size + n) → R (.ok (.ret res)) { s with heap := h', toks := tk }) :
    wpAny (model prog w) A.in1 (Builtin.List.listExtendWith (.ref S) (.ref r) res)
      (fun fin s' => match fin with | .done f => R (.ok f) s' | .again c' => c'.quiet = true ∧ codeAny (model prog w) A c' R s') (fun e s' => R (.error e) s') s := by
  have hSr : S ≠ r := fun e => by rw [e, hr] at hS; simp at hS
  have hSlt : S < s.heap.objs.size := Heap.lt_size hS
  have hSI : S ≠ s.heap.objs.size := Nat.ne_of_lt hSlt
  have hSf : S ∉ [s.heap.objs.size] := fun hm => hSI (List.mem_singleton.mp hm)
  have W := walksS_shift (Walks.range (prog := prog) (w := w) (A := A.in1) hh s.heap.objs.size a 1 n).toS acc

  have key : ∀ (h : Heap) (c₁ tk : Nat), IsRangeIter h s.heap.objs.size (a + ((0 : Nat) : Int) * 1) ((n : Int) - ((0 : Nat) : Int)) 1 → (∀ b o, b ≠ S → s.heap.get? b = some o → h.get? b = some o) →
      h.get? S = some { cls := .type "list", data := .seq acc c₁ } → codeAny (model prog w) A (.builtin "list.extend.loop" ⟨[.ref S, .ref s.heap.objs.size, res], []⟩) R { s with heap := h, toks := tk } := by
    intro h c₁ tk hit hk hS₁
    refine codeAny_extend_loopS W (by rw [sizeLine_eq]; (first | lia | omega)) S hSf res n acc.size _ acc c₁ (by (first | lia | omega)) (by (first | lia | omega)) ⟨Nat.le_refl _, by rw [Nat.sub_self]; exact hit⟩ hS₁ ⟨rfl, fun j v hj => ?_⟩ fun s' acc' c' hm hS' hacc => ?_
    · have : j < acc.size := by
        rcases Nat.lt_or_ge j acc.size with h | h
        · exact h
        · rw [Array.getElem?_eq_none h] at hj; exact nomatch hj
      show (if j < acc.size then _ else _)
      rw [if_pos this]; exact hj
    rw [Moved.eq_with hm]
    refine hR s'.heap s'.toks acc' c' (fun b o hb e => hm.heap b o (fun hmem => ?_) (hk b o hb e)) hS' hacc
    rcases List.mem_cons.mp hmem with e' | hmem
    · exact hb e'
    · exact absurd (Heap.lt_size e) (by rw [List.mem_singleton.mp hmem]; exact Nat.lt_irrefl _)
  unfold Builtin.List.listExtendWith
  refine wpAny_bind (wpAny_typeOf (T := "range") ⟨_, hr, rfl⟩ ?_)
  have h1 : Builtin.List.listSameRef (.ref S) (.ref r) = false := by simp [Builtin.List.listSameRef, hSr]
  have h2 : (Value.type "range" == Value.type "list") = false := by decide
  have h3 : (Value.type "range" == Value.type "tuple") = false := by decide
  simp only [h1, h2, h3, Bool.or_false, Bool.false_eq_true, if_false]
  refine wpAny_bind (wpAny_pyIter_range hr hsmall ?_)
  refine wpAny_bind (wpAny_holding (wpAny_hint_range (n := n) (Heap.get?_push_of_some _ hr) hn (by (first | lia | omega)) ?_))
  have hit₁ : IsRangeIter (s.heap.push { cls := .type "range_iterator", data := .fields #[rawInt a, rawInt (Builtin.Range.rangeSize a b 1), rawInt 1] }) s.heap.objs.size (a + ((0 : Nat) : Int) * 1) ((n : Int) - ((0 : Nat) : Int)) 1 := by
    show IsRangeIter _ _ _ _ _; rw [hn]; simpa using Heap.get?_push_size _ rfl
  have hS₁ := Heap.get?_push_of_some { cls := .type "range_iterator", data := .fields #[rawInt a, rawInt (Builtin.Range.rangeSize a b 1), rawInt 1] } hS
  refine wpAny_ite_split (fun _ => ?_) (fun _ => wpAny_pure ⟨plainId_quiet F.plain_extend_loop _, key _ c₀ _ hit₁ (fun b o _ e => Heap.get?_push_of_some _ e) hS₁⟩)
  refine wpAny_bind (wpAny_rule ?_)
  refine wpAny_bind ?_
  show wpAny _ _ (updateSeq S (·.push .none) >>= fun _ => updateSeq S (·.pop)) _ _ _
  refine wpAny_bind (wpAny_updateSeq hS₁ rfl ?_ (by rw [sizeLine_eq]; (first | lia | omega)) (by show (acc.push _).size ≤ _; rw [Array.size_push, sizeLine_eq]; (first | lia | omega)))
  have hS₂ := Heap.get?_update_self (Obj.mapSeq (·.push Value.none)) hS₁ rfl
  refine wpAny_updateSeq hS₂ rfl ?_ (by show (acc.push _).size ≤ _; rw [Array.size_push, sizeLine_eq]; (first | lia | omega)) (by show (acc.push _).pop.size ≤ _; rw [Array.size_pop, Array.size_push, sizeLine_eq]; (first | lia | omega))
  have hS₃ := Heap.get?_update_self (Obj.mapSeq (·.pop)) hS₂ rfl
  obtain ⟨c1, e3⟩ : ∃ c, Obj.mapSeq (·.pop) (Obj.mapSeq (·.push Value.none) { cls := .type "list", data := .seq acc c₀ }) = { cls := .type "list", data := .seq acc c } := by
    obtain ⟨c, hc⟩ : ∃ c, Obj.mapSeq (·.pop) (Obj.mapSeq (·.push Value.none) { cls := .type "list", data := .seq acc c₀ }) = { cls := .type "list", data := .seq (acc.push Value.none).pop c } := ⟨_, rfl⟩
    exact ⟨c, by rw [hc, Array.pop_push]⟩
  rw [e3] at hS₃
  refine wpAny_pure ⟨plainId_quiet F.plain_extend_loop _, key _ c1 _ ?_ (fun b o hb e => ?_) hS₃⟩
  · exact (Heap.get?_update_other _ _ hSI).trans ((Heap.get?_update_other _ _ hSI).trans hit₁)
  · exact (Heap.get?_update_other _ _ (Ne.symm hb)).trans ((Heap.get?_update_other _ _ (Ne.symm hb)).trans (Heap.get?_push_of_some _ e))
theorem items_ints {vs : List Value} {ns : List Int} {acc' : Array Value} {n : Nat} {a : Int} (hi : IntsAre vs ns)
    (h : ItemsOf (fun j v => if j < vs.toArray.size then vs.toArray[j]? = some v else ∃ t, v = .int (a + ((j - vs.toArray.size : Nat) : Int) * 1) t) acc' (vs.toArray.size + n)) : ∃ ws, acc' = (vs ++ ws).toArray ∧ IntsAre ws ((List.range n).map fun (i : Nat) => a + (i : Int)) := by
  obtain ⟨hz, hj⟩ := h
  replace hz : acc'.size = vs.length + n := by simpa using hz
  simp only [List.size_toArray] at hj
  refine ⟨acc'.toList.drop vs.length, ?_, ?_⟩
  · apply Array.toList_inj.mp
    apply List.ext_getElem?
    intro j
    rcases Nat.lt_or_ge j vs.length with hlt | hge
    · have hl : j < acc'.size := by (first | lia | omega)
      have := hj j acc'[j] (Array.getElem?_eq_getElem hl)
      rw [if_pos hlt] at this
      rw [List.getElem?_append_left hlt, Array.getElem?_toList, Array.getElem?_eq_getElem hl, ← this]
      simp
    · rw [List.getElem?_append_right hge, List.getElem?_drop]
      congr 1; (first | lia | omega)
  · have key : ∀ (k : Nat) (l : List Value), l.length = k → ∀ b : Int, (∀ (j : Nat) (v : Value), l[j]? = some v → ∃ t, v = Value.int (b + (j : Int)) t) → IntsAre l ((List.range k).map fun (i : Nat) => b + (i : Int)) := by
      intro k
      induction k with
      | zero => intro l hl b _; rw [List.length_eq_zero_iff] at hl; subst hl; exact .nil
      | succ k ih =>
        intro l hl b hb
        match l, hl with
        | v :: l, hl =>
          obtain ⟨t, rfl⟩ := hb 0 v rfl
          have e : (List.range (k + 1)).map (fun (i : Nat) => b + (i : Int)) = (b + ((0 : Nat) : Int)) :: (List.range k).map (fun (i : Nat) => (b + 1) + (i : Int)) := by
            rw [List.range_succ_eq_map, List.map_cons, List.map_map]
            congr 1
            apply List.map_congr_left
            intro i _
            simp only [Function.comp]; (first | lia | omega)
          rw [e]
          refine .cons _ _ (ih l (by simpa using hl) (b + 1) fun j v hv => ?_)
          obtain ⟨t, e⟩ := hb (j + 1) v (by simpa using hv)
          exact ⟨t, by rw [e]; congr 1; (first | lia | omega)⟩
    refine key n _ (by rw [List.length_drop, Array.length_toList]; (first | lia | omega)) a fun j v hv => ?_
    rw [List.getElem?_drop, Array.getElem?_toList] at hv
    have := hj _ _ hv
    rw [if_neg (by (first | lia | omega))] at this
    obtain ⟨t, e⟩ := this
    exact ⟨t, by rw [e]; congr 1; (first | lia | omega)⟩
theorem extend_range {h₀ : Heap} {L D r : Addr} {m : Str → Option Value} {news : List (Addr × Obj)} {g : Obj → List (Addr × Obj)} {vs : List Value} {ns : List Int} {k n : Nat} {a b : Int} {t u v : Tok} {Q : Value → Shared → Prop}
    (F : Fr h₀ L s.heap m) (N : News h₀ L s.heap news) (U : UpdF D (W.listOf vs.toArray k) news g) (hr : IsRange s.heap r a b 1 t u v) (hh : A.handled = none) (hi : IntsAre vs ns) (hsmall : Builtin.Range.small a b 1 = true) (hn : Builtin.Range.rangeSize a b 1 = n) (hz : vs.length + n ≤ 100000)
    (h : ∀ h' tk' vs' k', Fr h₀ L h' m → News h₀ L h' (g (W.listOf vs'.toArray k')) → IntsAre vs' (ns ++ (List.range n).map fun (i : Nat) => a + (i : Int)) → Q .none { s with heap := h', toks := tk' }) :
    wpAny (model prog w) A (call (.builtin "list.extend") [.ref D, .ref r]) Q E s := by
  obtain ⟨pre, post, rfl, hg, x1, x2⟩ := U.split
  have nz := N (D, W.listOf vs.toArray k) (List.mem_append_right _ (.head _))
  have ho : s.heap.get? D = some { cls := .type "list", data := .seq vs.toArray k } := nz.1
  refine wpAny_call (codeAny_call_builtin PySem.F.slot_list_extend.plain PySem.F.entry_list_extend (PySem.F.slot_list_extend.check _ _ _ _ _ _ _ _ ⟨_, ho, rfl⟩ (PySem.F.args_list_extend_2 _ _) ?_))
  refine extend_rangeW (R := wants Q E) hh hr hsmall hn (by rw [List.size_toArray]; exact hz) D .none k ho fun h' tk acc' c' hk hD hacc => ?_
  obtain ⟨ws, rfl, hws⟩ := items_ints hi hacc
  refine h h' tk (vs ++ ws) c' ?_ ?_ (hi.append hws)
  · obtain ⟨o, es, ep, x, rr⟩ := F.ns
    refine ⟨⟨o, es, ep, hk _ _ (Ne.symm nz.2.1) x, rr⟩, fun b o e => hk b o (fun e' => ?_) (F.keep b o e), F.above⟩
    subst e'; rw [nz.2.2] at e; exact nomatch e
  · rw [hg]
    intro q hq
    rcases List.mem_append.mp hq with hq' | hq'
    · have := N q (List.mem_append_left _ hq')
      exact ⟨hk _ _ (x1 q hq') this.1, this.2⟩
    · rcases List.mem_cons.mp hq' with rfl | hq'
      · exact ⟨hD, nz.2⟩
      · have := N q (List.mem_append_right _ (.tail _ hq'))
        exact ⟨hk _ _ (x2 q hq') this.1, this.2⟩
end
end
section
theorem off_nums : True := by
  w_top off
  trivial
def spanL (a b : Int) : List Int := (List.range (b + 1 - a).toNat).map fun (i : Nat) => a + (i : Int)
def numsIn (qs : List (Int × Int)) (g : Int) : List Int := qs.flatMap fun p => spanL p.1 (min p.2 g)
theorem spanL_len (a b : Int) : (spanL a b).length = (b + 1 - a).toNat := by unfold spanL; simp
theorem numsIn_len {g : Int} (hg : g ≤ 100) : ∀ {qs : List (Int × Int)}, (∀ q ∈ qs, 0 ≤ q.1) → (numsIn qs g).length ≤ 101 * qs.length
  | [], _ => by simp [numsIn]
  | q :: qs, h => by
    have ih := numsIn_len hg (qs := qs) fun p hp => h p (.tail _ hp)
    have h1 := h q (.head _)
    unfold numsIn at ih ⊢
    rw [List.flatMap_cons, List.length_append, spanL_len, List.length_cons]
    omega
theorem mergeStep_bd {acc : List (Int × Int)} {p : Int × Int} {C : Int} (h : ∀ q ∈ acc, (0 ≤ q.1 ∧ q.1 ≤ C) ∧ (0 ≤ q.2 ∧ q.2 ≤ C)) (hp : (0 ≤ p.1 ∧ p.1 ≤ C) ∧ (0 ≤ p.2 ∧ p.2 ≤ C)) : ∀ q ∈ mergeStep acc p, (0 ≤ q.1 ∧ q.1 ≤ C) ∧ (0 ≤ q.2 ∧ q.2 ≤ C) := by
  rcases List.eq_nil_or_concat acc with rfl | ⟨ac, x, e⟩
  · rw [mergeStep_nil]; intro q hq; rw [List.mem_singleton.mp hq]; exact hp
  · rw [List.concat_eq_append] at e
    subst e
    by_cases hle : p.1 ≤ x.2 + 1
    · rw [mergeStep_1 hle]
      intro q hq
      rcases List.mem_append.mp hq with hq | hq
      · exact h q (List.mem_append_left _ hq)
      · rw [List.mem_singleton.mp hq]
        have := h x (List.mem_append_right _ (.head _))
        dsimp only; omega
    · rw [mergeStep_2 hle]
      intro q hq
      rcases List.mem_append.mp hq with hq | hq
      · exact h q hq
      · rw [List.mem_singleton.mp hq]; exact hp
theorem merge_bd {C : Int} (qs : List (Int × Int)) : ∀ acc, (∀ q ∈ acc, (0 ≤ q.1 ∧ q.1 ≤ C) ∧ (0 ≤ q.2 ∧ q.2 ≤ C)) → (∀ q ∈ qs, (0 ≤ q.1 ∧ q.1 ≤ C) ∧ (0 ≤ q.2 ∧ q.2 ≤ C)) → ∀ q ∈ qs.foldl mergeStep acc, (0 ≤ q.1 ∧ q.1 ≤ C) ∧ (0 ≤ q.2 ∧ q.2 ≤ C) := by
  induction qs with
  | nil => intro acc h _; exact h
  | cons p qs ih => intro acc h hp; exact ih _ (mergeStep_bd h (hp p (.head _))) fun q hq => hp q (.tail _ hq)
theorem plain_bd {ps qs : List (Int × Int)} {g : Int} (hg : 0 ≤ g ∧ g ≤ 100) (hsm : ∀ p ∈ ps, Small p) (h : qs.Perm (ps.filterMap (endsOf · g))) : ∀ q ∈ qs.foldl mergeStep [], (0 ≤ q.1 ∧ q.1 ≤ 100) ∧ (0 ≤ q.2 ∧ q.2 ≤ 100) :=
  merge_bd qs [] (fun _ h => nomatch h) fun q hq => by
    obtain ⟨x, hx, e⟩ := List.mem_filterMap.mp (h.mem_iff.mp hq)
    exact endsOf_b e (hsm _ hx) hg
theorem plain_len {ps qs : List (Int × Int)} {g : Int} (h : qs.Perm (ps.filterMap (endsOf · g))) : (qs.foldl mergeStep []).length ≤ ps.length := by
  have e1 := merge_len qs []
  have e2 := h.length_eq
  have e3 := List.length_filterMap_le (endsOf · g) ps
  rw [List.length_nil] at e1; omega
theorem news_sub {h₀ h : Heap} {L : Addr} {l l' : List (Addr × Obj)} (N : News h₀ L h l) (s : ∀ q ∈ l', q ∈ l) : News h₀ L h l' := fun q hq => N q (s q hq)
theorem ownOff_new {h : Heap} {d : Addr} {o : Obj} {tl : List (Addr × Obj)} (hd : h.get? d = some o) (ht : ∀ p ∈ tl, h.get? p.1 = none) : OwnOff tl [d] := fun p hp b hb e => by
  rw [List.mem_singleton.mp hb] at e
  have := ht p hp
  rw [e, hd] at this
  exact nomatch this
section
variable {w : World} {mean : ExcName → Option Value} {mg mb : Str → Option Value} {dp un : Nat} {gd : Option (List Code)} {cn : Str} {cs : Scope} {a : Addr} {ccd : Value} {cl : List (Str × Addr)} {outer : List Env} {A₀ : Around} {base h₀ : Heap} {L : Addr} {m : Str → Option Value} {s : Shared} {Q E : Value → Shared → Prop}
   (B : Below A₀ base outer h₀) (F : Fr h₀ L s.heap m) (X : (hd.heap_39 w.params).In h₀) (T : TopH mean mg mb h₀) (hk : cs.kind = .function)
include B F X T hk
theorem c_numbers_in {pa : Addr} {n : Nat} {vs : List Value} {ps : List (Int × Int)} {g : Int} {tg : Tok} (hv : hp s.heap pa (tupO vs n)) (hps : PairsR (hp s.heap) vs ps) (hsm : ∀ p ∈ ps, Small p) (hg : 0 ≤ g ∧ g ≤ 100) (hql : vs.length < 64)
   (hdp : dp + 100 < recursionLimit) (hu : un + 400 < cLine)
   (ret : ∀ a ws k (qs : List (Int × Int)) h' tk', s.heap.StaysIn h' → s.heap.get? a = none → h'.get? a = some (W.listOf ws.toArray k) → IntsAre ws (numsIn (qs.foldl mergeStep []) g) → qs.Perm (ps.filterMap (endsOf · g)) → qs.Pairwise (fun p q => lk p ≤ lk q) → Q (.ref a) { s with heap := h', toks := tk' }) :
   wpAny (model PySem.Challenge.rw_no0356_01.row.prog w) (ktrTop dp un gd cn cs L a ccd cl outer) (call (.ref 129) [.ref pa, .int g tg]) Q E s := by
  revert X; k_fill; intro X
  refine wpAny_call ?_
  k_dflt (refine' code_pure (binds := [("some", .ref pa), ("greatest", .int g tg)]) ?k1 ?k2 ?k3 ?k5 ?kA ?kF ?kK ?k6 ?k7 ?k8 ?k9 ?kB ?_ ?c2 ?c3 ?c4 ?c5; (case kA => exact rfl); (case kF => exact rfl); (case kK => assumption); (case k1 => k_asm); (case k2 => k_asm); (case k3 => k_asm); (case k5 => k_asm); (case k6 => k_is); (case k7 => k_is); (case k8 => exact Nat.lt_of_le_of_lt (Nat.le_add_right _ _) hdp); (case k9 => exact BindsTo.of_eq rfl); (case c5 => decide); (case kB => exact locs rfl); (case c2 => exact rfl); (case c3 => exact rfl); (case c4 => exact rfl); k_whole; intro L' h' F' N' B' X' T'; (try dsimp only); (try dsimp only [List.reverse, List.reverseAux] at F'); (try k_lift B'); (try k_fold))
  (repeat' (first | (k_unfold; (try dsimp only)) | (k_end; wrow_close) | ((with_reducible show wpAny _ _ (call _ _ _) _ _ _); first | ((with_reducible show wpAny _ _ (call (Value.builtin "list.extend") [Value.ref _, Value.ref _]) _ _ _); k_here; (k_dflt (refine' extend_range (by k_asm) (by k_asm) (by k_updF) (by assumption) (by exact rfl) (by assumption) (by exact small_up (by omega) (by omega) (by omega) (by omega)) (by exact rangeSize_up _ _) (by omega) ?_; k_whole)); intro _ _ _ _ _ N' hi'; (try dsimp only at N'); (try k_sweep; revert N' hi'; intro _ _)) | ((with_reducible show wpAny _ _ (call (Value.ref 108) _) _ _ _); k_here; (k_dflt (refine' c_plain_set (by k_asm) (by k_asm) (by k_asm) (by k_asm) (by exact rfl) (by exact Fr.keep (by k_asm) _ _ (by assumption)) (by exact PairsR.mono (by assumption) (Fr.keep (by k_asm))) (by assumption) (by assumption) (by assumption) (by (first | exact room_sub (by assumption) (by decide) | exact room_sub3 (by assumption) (by decide))) (by (first | exact room_sub (by assumption) (by decide) | exact room_sub3 (by assumption) (by decide))) ?_; k_whole)); refine Stop.intro ?_)) | ((with_reducible show wpAny _ _ (PySem.exec _ _) _ _ _); first | ((with_reducible show wpAny _ _ (PySem.exec (PySem.Stmt.For _ _ _ _ _) _) _ _ _); refine Stop.intro ?_)) | walk1 | (dsimp only; walk1) | (leave1; try dsimp only) | ((with_reducible show wpAny _ _ _ _ _ _); dsimp only)))
  rename Fr _ _ _ _ => F1
  rename News _ _ _ _ => N1
  obtain ⟨o, eo⟩ := led_name N1
  subst eo
  refine Stop.out (For_turns F1 ?_)
  (repeat' (first | (k_unfold; (try dsimp only)) | (k_end; wrow_close) | ((with_reducible show wpAny _ _ (call _ _ _) _ _ _); first | ((with_reducible show wpAny _ _ (call (Value.builtin "list.extend") [Value.ref _, Value.ref _]) _ _ _); k_here; (k_dflt (refine' extend_range (by k_asm) (by k_asm) (by k_updF) (by assumption) (by exact rfl) (by assumption) (by exact small_up (by omega) (by omega) (by omega) (by omega)) (by exact rangeSize_up _ _) (by omega) ?_; k_whole)); intro _ _ _ _ _ N' hi'; (try dsimp only at N'); (try k_sweep; revert N' hi'; intro _ _)) | ((with_reducible show wpAny _ _ (call (Value.ref 108) _) _ _ _); k_here; (k_dflt (refine' c_plain_set (by k_asm) (by k_asm) (by k_asm) (by k_asm) (by exact rfl) (by exact Fr.keep (by k_asm) _ _ (by assumption)) (by exact PairsR.mono (by assumption) (Fr.keep (by k_asm))) (by assumption) (by assumption) (by assumption) (by (first | exact room_sub (by assumption) (by decide) | exact room_sub3 (by assumption) (by decide))) (by (first | exact room_sub (by assumption) (by decide) | exact room_sub3 (by assumption) (by decide))) ?_; k_whole)); refine Stop.intro ?_)) | ((with_reducible show wpAny _ _ (PySem.exec _ _) _ _ _); first | ((with_reducible show wpAny _ _ (PySem.exec (PySem.Stmt.For _ _ _ _ _) _) _ _ _); refine Stop.intro ?_)) | walk1 | (dsimp only; walk1) | (leave1; try dsimp only) | ((with_reducible show wpAny _ _ _ _ _ _); dsimp only)))
  refine Stop.out ?_
  intro ra ws kk tl qs h2 tk3 st hnew hn2 hs2 hR hperm hsort
  dsimp only at st hnew hn2 ⊢
  have F2 := fr_stays F1 st
  have hoT : OwnOff ((ra, tupO ws kk) :: tl) [o] := ownOff_new (N1 _ (.head _)).1 (List.forall_mem_cons.mpr ⟨hn2, fun p hp => (hnew p hp).1⟩)
  have N2 : News s.heap L' h2 ((o, W.listOf #[] 0) :: (ra, tupO ws kk) :: tl) := news_sub (news_cons F1 (news_app F1 (news_stays N1 st) hnew) hn2 hs2) (by
    intro q hq; simp only [List.mem_cons, List.mem_append, List.not_mem_nil, or_false] at hq ⊢; rcases hq with hq | hq | hq <;> simp only [hq, true_or, or_true])
  have hbd := plain_bd hg hsm hperm
  have hML := plain_len hperm
  have hvl := hps.length
  generalize hM : qs.foldl mergeStep [] = M at *
  clear F1 N1
  refine Stop.out ?_
  refine turns_seq (fun i m nx => ∃ vs3 k3, nx = (o, W.listOf vs3.toArray k3) :: (ra, tupO ws kk) :: tl ∧ IntsAre vs3 (numsIn (M.take i) g) ∧ Knows m [("out", .ref o), ("some", .ref pa), ("greatest", .int g tg)]) rfl (seqO_tup ws kk) (.inl (.tail _ (.head _))) F2 N2 ⟨[], 0, rfl, .nil, by (repeat' (first | exact Knows.nil | refine Knows.cons (by with_unfolding_all rfl) ?_))⟩ ?_ ?_ ?_
  · rintro i m nx ⟨vs3, k3, rfl, _, _⟩ q hq rfl
    exact .tail _ (.head _)
  · rintro i v m₁ nx h1 tk2 own hi hoff ⟨vs3, k3, rfl, hI, hkn⟩ F5 N5
    obtain ⟨⟨x, y⟩, hpi, hr⟩ := hR.get hi
    simp only [List.cons_append] at N5
    replace F5 := fr_known F5 hkn
    obtain ⟨b, nb, t1, u1, rfl, hb⟩ := hr.open
    have hTb := isTup_in (tl := tl) F5 N5 (.inl hb) (fun q hq => .tail _ (.tail _ (List.mem_append_left _ hq)))
    obtain ⟨hx, hy⟩ := hbd _ (List.mem_of_getElem? hpi)
    dsimp only at hx hy
    have hlen3 : vs3.length ≤ 101 * M.length := by
      rw [hI.length]
      refine Nat.le_trans (numsIn_len hg.2 fun q hq => (hbd q (List.mem_of_mem_take hq)).1.1) ?_
      rw [List.length_take]; omega
    have hoo := ownOff_app hoT hoff
    rw [List.cons_append] at hoo
    have hmn : (if g < y then g else y) = min y g := by split <;> omega
    have hst : numsIn (M.take (i + 1)) g = numsIn (M.take i) g ++ spanL x (min y g) := by
      rw [List.take_add_one, hpi, Option.toList_some]; unfold numsIn; rw [List.flatMap_append]; simp
    (repeat' (first | (k_unfold; (try dsimp only)) | (k_end; wrow_close) | ((with_reducible show wpAny _ _ (call _ _ _) _ _ _); first | ((with_reducible show wpAny _ _ (call (Value.builtin "list.extend") [Value.ref _, Value.ref _]) _ _ _); k_here; (k_dflt (refine' extend_range (by k_asm) (by k_asm) (by k_updF) (by assumption) (by exact rfl) (by assumption) (by exact small_up (by omega) (by omega) (by omega) (by omega)) (by exact rangeSize_up _ _) (by omega) ?_; k_whole)); intro _ _ _ _ _ N' hi'; (try dsimp only at N'); (try k_sweep; revert N' hi'; intro _ _)) | ((with_reducible show wpAny _ _ (call (Value.ref 108) _) _ _ _); k_here; (k_dflt (refine' c_plain_set (by k_asm) (by k_asm) (by k_asm) (by k_asm) (by exact rfl) (by exact Fr.keep (by k_asm) _ _ (by assumption)) (by exact PairsR.mono (by assumption) (Fr.keep (by k_asm))) (by assumption) (by assumption) (by assumption) (by (first | exact room_sub (by assumption) (by decide) | exact room_sub3 (by assumption) (by decide))) (by (first | exact room_sub (by assumption) (by decide) | exact room_sub3 (by assumption) (by decide))) ?_; k_whole)); refine Stop.intro ?_)) | ((with_reducible show wpAny _ _ (PySem.exec _ _) _ _ _); first | ((with_reducible show wpAny _ _ (PySem.exec (PySem.Stmt.For _ _ _ _ _) _) _ _ _); refine Stop.intro ?_)) | walk1 | (dsimp only; walk1) | (leave1; try dsimp only) | ((with_reducible show wpAny _ _ _ _ _ _); dsimp only)))
    rename IntsAre _ (_ ++ _) => hI9
    rename News _ _ _ _ => N9; rename Fr _ _ _ _ => F9
    simp only [← List.cons_append] at N9
    refine inv_end F9 N9 ⟨_, _, rfl, ?_, by (repeat' (first | exact Knows.nil | refine Knows.cons (by with_unfolding_all rfl) ?_))⟩ hoff
    rw [hst, ← hmn]
    exact hI9
  · rintro m₁ nx h1 tk2 ⟨vs3, k3, rfl, hI, hkn⟩ F5 N5
    rw [hR.length, List.take_length] at hI
    replace F5 := fr_known F5 hkn
    (repeat' (first | (k_unfold; (try dsimp only)) | (k_end; wrow_close) | ((with_reducible show wpAny _ _ (call _ _ _) _ _ _); first | ((with_reducible show wpAny _ _ (call (Value.builtin "list.extend") [Value.ref _, Value.ref _]) _ _ _); k_here; (k_dflt (refine' extend_range (by k_asm) (by k_asm) (by k_updF) (by assumption) (by exact rfl) (by assumption) (by exact small_up (by omega) (by omega) (by omega) (by omega)) (by exact rangeSize_up _ _) (by omega) ?_; k_whole)); intro _ _ _ _ _ N' hi'; (try dsimp only at N'); (try k_sweep; revert N' hi'; intro _ _)) | ((with_reducible show wpAny _ _ (call (Value.ref 108) _) _ _ _); k_here; (k_dflt (refine' c_plain_set (by k_asm) (by k_asm) (by k_asm) (by k_asm) (by exact rfl) (by exact Fr.keep (by k_asm) _ _ (by assumption)) (by exact PairsR.mono (by assumption) (Fr.keep (by k_asm))) (by assumption) (by assumption) (by assumption) (by (first | exact room_sub (by assumption) (by decide) | exact room_sub3 (by assumption) (by decide))) (by (first | exact room_sub (by assumption) (by decide) | exact room_sub3 (by assumption) (by decide))) ?_; k_whole)); refine Stop.intro ?_)) | ((with_reducible show wpAny _ _ (PySem.exec _ _) _ _ _); first | ((with_reducible show wpAny _ _ (PySem.exec (PySem.Stmt.For _ _ _ _ _) _) _ _ _); refine Stop.intro ?_)) | walk1 | (dsimp only; walk1) | (leave1; try dsimp only) | ((with_reducible show wpAny _ _ _ _ _ _); dsimp only)))
    rename News s.heap _ _ _ => N9
    exact ret _ _ _ qs _ _ (Fr.keep (by assumption)) (N9 _ (.head _)).2.2 (N9 _ (.head _)).1 (hM ▸ hI) hperm hsort
end
end
section
theorem off_laws : True := by
  w_top off
  trivial
/-- runs of numbers, apart and in order -/
def Runs (M : List (Int × Int)) : Prop := (∀ q ∈ M, q.1 ≤ q.2) ∧ M.Pairwise fun p q => p.2 + 1 < q.1
def Cov (M : List (Int × Int)) (k : Int) : Prop := ∃ q ∈ M, q.1 ≤ k ∧ k ≤ q.2
theorem sorted_eq : ∀ {l l' : List Int}, l.Pairwise (· < ·) → l'.Pairwise (· < ·) → (∀ k, k ∈ l ↔ k ∈ l') → l = l'
  | [], [], _, _, _ => rfl
  | [], b :: _, _, _, h => nomatch (h b).mpr (.head _)
  | a :: _, [], _, _, h => nomatch (h a).mp (.head _)
  | a :: l, b :: l', h1, h2, h => by
    obtain ⟨ha, ha'⟩ := List.pairwise_cons.mp h1
    obtain ⟨hb, hb'⟩ := List.pairwise_cons.mp h2
    have e : a = b := by
      rcases List.mem_cons.mp ((h a).mp (.head _)) with e | e
      · exact e
      · rcases List.mem_cons.mp ((h b).mpr (.head _)) with e' | e'
        · exact e'.symm
        · have := ha _ e'; have := hb _ e; lia
    subst e
    refine congrArg (a :: ·) (sorted_eq ha' hb' fun k => ?_)
    constructor
    · intro hk
      rcases List.mem_cons.mp ((h k).mp (.tail _ hk)) with e | e
      · subst e; have := ha _ hk; lia
      · exact e
    · intro hk
      rcases List.mem_cons.mp ((h k).mpr (.tail _ hk)) with e | e
      · subst e; have := hb _ hk; lia
      · exact e
theorem asc_of {l : List Int} (h : l.Pairwise (· ≤ ·)) (n : l.Nodup) : l.Pairwise (· < ·) := by
  refine List.Pairwise.imp₂ (fun _ _ h n => ?_) h n
  lia
theorem spanL_mem {a b k : Int} : k ∈ spanL a b ↔ a ≤ k ∧ k ≤ b := by
  unfold spanL
  rw [List.mem_map]
  constructor
  · rintro ⟨i, hi, rfl⟩
    rw [List.mem_range] at hi; lia
  · intro h
    exact ⟨(k - a).toNat, by rw [List.mem_range]; lia, by lia⟩
theorem spanL_asc {a b : Int} : (spanL a b).Pairwise (· < ·) := by
  unfold spanL
  rw [List.pairwise_map]
  exact List.pairwise_lt_range.imp fun h => by lia
theorem numsIn_mem {M : List (Int × Int)} {g k : Int} : k ∈ numsIn M g ↔ Cov M k ∧ k ≤ g := by
  unfold numsIn Cov
  rw [List.mem_flatMap]
  constructor
  · rintro ⟨q, hq, h⟩
    have := spanL_mem.mp h
    exact ⟨⟨q, hq, by lia⟩, by lia⟩
  · rintro ⟨⟨q, hq, h⟩, hk⟩
    exact ⟨q, hq, spanL_mem.mpr (by lia)⟩
theorem numsIn_asc {M : List (Int × Int)} {g : Int} (h : Runs M) : (numsIn M g).Pairwise (· < ·) := by
  unfold numsIn
  rw [List.pairwise_flatMap]
  refine ⟨fun q _ => spanL_asc, h.2.imp fun h x hx y hy => ?_⟩
  have := spanL_mem.mp hx
  have := spanL_mem.mp hy
  lia
theorem filter_asc {l : List Int} {p : Int → Bool} (h : l.Pairwise (· < ·)) : (l.filter p).Pairwise (· < ·) := h.filter _
theorem apart_uniq : ∀ {M : List (Int × Int)}, M.Pairwise (fun p q => p.2 + 1 < q.1) → ∀ {p q : Int × Int}, p ∈ M → q ∈ M → p = q ∨ p.2 + 1 < q.1 ∨ q.2 + 1 < p.1
  | a :: M, h, p, q, hp, hq => by
    obtain ⟨h1, h2⟩ := List.pairwise_cons.mp h
    rcases List.mem_cons.mp hp with e | hp'
    · rcases List.mem_cons.mp hq with e' | hq'
      · exact .inl (e.trans e'.symm)
      · subst e; exact .inr (.inl (h1 _ hq'))
    · rcases List.mem_cons.mp hq with e' | hq'
      · subst e'; exact .inr (.inr (h1 _ hp'))
      · exact apart_uniq h2 hp' hq'
theorem runs_uniq {M : List (Int × Int)} (h : Runs M) {p q : Int × Int} (hp : p ∈ M) (hq : q ∈ M) : p = q ∨ p.2 + 1 < q.1 ∨ q.2 + 1 < p.1 := apart_uniq h.2 hp hq
theorem runs_lows {M : List (Int × Int)} (h : Runs M) {S : List Int} (hS : S.Pairwise (· < ·)) (hm : ∀ k, k ∈ S ↔ Cov M k) : S.filter (fun k => !decide (k - 1 ∈ S)) = M.map (·.1) := by
  refine sorted_eq (hS.filter _) ?_ fun k => ?_
  · rw [List.pairwise_map]
    refine (List.Pairwise.and_mem.mp h.2).imp fun ⟨hp, hq, h'⟩ => ?_
    have := h.1 _ hp; lia
  · rw [List.mem_filter, hm k, List.mem_map]
    simp only [hm, Bool.not_eq_true', decide_eq_false_iff_not]
    constructor
    · rintro ⟨⟨q, hq, h1, h2⟩, hn⟩
      refine ⟨q, hq, ?_⟩
      rcases Int.lt_or_le q.1 k with hl | hl
      · exact absurd ⟨q, hq, by lia⟩ hn
      · lia
    · rintro ⟨q, hq, rfl⟩
      have h1 := h.1 _ hq
      refine ⟨⟨q, hq, by lia⟩, fun ⟨p, hp, h2⟩ => ?_⟩
      rcases runs_uniq h hp hq with rfl | h3 | h3 <;> lia
theorem runs_highs {M : List (Int × Int)} (h : Runs M) {S : List Int} (hS : S.Pairwise (· < ·)) (hm : ∀ k, k ∈ S ↔ Cov M k) : S.filter (fun k => !decide (k + 1 ∈ S)) = M.map (·.2) := by
  refine sorted_eq (hS.filter _) ?_ fun k => ?_
  · rw [List.pairwise_map]
    refine (List.Pairwise.and_mem.mp h.2).imp fun ⟨hp, hq, h'⟩ => ?_
    have := h.1 _ hq; lia
  · rw [List.mem_filter, hm k, List.mem_map]
    simp only [hm, Bool.not_eq_true', decide_eq_false_iff_not]
    constructor
    · rintro ⟨⟨q, hq, h1, h2⟩, hn⟩
      refine ⟨q, hq, ?_⟩
      rcases Int.lt_or_le k q.2 with hl | hl
      · exact absurd ⟨q, hq, by lia⟩ hn
      · lia
    · rintro ⟨q, hq, rfl⟩
      have h1 := h.1 _ hq
      refine ⟨⟨q, hq, by lia⟩, fun ⟨p, hp, h2⟩ => ?_⟩
      rcases runs_uniq h hp hq with rfl | h3 | h3 <;> lia
/-- the merge of an ordered list -/
theorem runs_snoc {M : List (Int × Int)} {p : Int × Int} : Runs (M ++ [p]) ↔ Runs M ∧ p.1 ≤ p.2 ∧ ∀ q ∈ M, q.2 + 1 < p.1 := by
  unfold Runs
  rw [List.pairwise_append]
  constructor
  · rintro ⟨h1, h2, _, h3⟩
    exact ⟨⟨fun q hq => h1 q (List.mem_append_left _ hq), h2⟩, h1 p (List.mem_append_right _ (.head _)), fun q hq => h3 q hq p (.head _)⟩
  · rintro ⟨⟨h1, h2⟩, h3, h4⟩
    refine ⟨fun q hq => ?_, h2, List.pairwise_singleton _ _, fun q hq r hr => by rw [List.mem_singleton.mp hr]; exact h4 q hq⟩
    rcases List.mem_append.mp hq with hq | hq
    · exact h1 q hq
    · rw [List.mem_singleton.mp hq]; exact h3
theorem cov_snoc {M : List (Int × Int)} {p : Int × Int} {k : Int} : Cov (M ++ [p]) k ↔ Cov M k ∨ (p.1 ≤ k ∧ k ≤ p.2) := by
  unfold Cov
  constructor
  · rintro ⟨q, hq, h⟩
    rcases List.mem_append.mp hq with hq | hq
    · exact .inl ⟨q, hq, h⟩
    · rw [List.mem_singleton.mp hq] at h; exact .inr h
  · rintro (⟨q, hq, h⟩ | h)
    · exact ⟨q, List.mem_append_left _ hq, h⟩
    · exact ⟨p, List.mem_append_right _ (.head _), h⟩
theorem merge_step_ok {M : List (Int × Int)} {p : Int × Int} (h : Runs M) (hp : p.1 ≤ p.2) (hl : ∀ q ∈ M, q.1 ≤ p.1) : Runs (mergeStep M p) ∧ (∀ k, Cov (mergeStep M p) k ↔ Cov M k ∨ (p.1 ≤ k ∧ k ≤ p.2)) ∧ ∀ q ∈ mergeStep M p, q.1 ≤ p.1 := by
  rcases List.eq_nil_or_concat M with rfl | ⟨M', x, e⟩
  · rw [mergeStep_nil]
    refine ⟨(runs_snoc (M := [])).mpr ⟨h, hp, fun _ h => nomatch h⟩, fun k => cov_snoc (M := []), fun q hq => by rw [List.mem_singleton.mp hq]; exact Int.le_refl _⟩
  · rw [List.concat_eq_append] at e
    subst e
    obtain ⟨h1, h2, h3⟩ := runs_snoc.mp h
    have hx := hl x (List.mem_append_right _ (.head _))
    by_cases hle : p.1 ≤ x.2 + 1
    · rw [mergeStep_1 hle]
      refine ⟨runs_snoc.mpr ⟨h1, by dsimp only; lia, h3⟩, fun k => ?_, fun q hq => ?_⟩
      · rw [cov_snoc, cov_snoc]
        dsimp only
        constructor
        · rintro (h | h)
          · exact .inl (.inl h)
          · by_cases hk : k ≤ x.2
            · exact .inl (.inr ⟨h.1, hk⟩)
            · exact .inr (by lia)
        · rintro ((h | h) | h)
          · exact .inl h
          · exact .inr (by lia)
          · exact .inr (by lia)
      · rcases List.mem_append.mp hq with hq | hq
        · exact hl q (List.mem_append_left _ hq)
        · rw [List.mem_singleton.mp hq]; exact hx
    · rw [mergeStep_2 hle]
      refine ⟨runs_snoc.mpr ⟨h, hp, fun q hq => ?_⟩, fun k => cov_snoc, fun q hq => ?_⟩
      · rcases List.mem_append.mp hq with hq | hq
        · have := h3 q hq; lia
        · rw [List.mem_singleton.mp hq]; lia
      · rcases List.mem_append.mp hq with hq | hq
        · exact hl q hq
        · rw [List.mem_singleton.mp hq]; exact Int.le_refl _
theorem merge_ok : ∀ (qs M : List (Int × Int)), Runs M → (∀ q ∈ qs, q.1 ≤ q.2) → qs.Pairwise (fun p q => p.1 ≤ q.1) → (∀ x ∈ M, ∀ q ∈ qs, x.1 ≤ q.1) → Runs (qs.foldl mergeStep M) ∧ ∀ k, Cov (qs.foldl mergeStep M) k ↔ Cov M k ∨ Cov qs k
  | [], M, h, _, _, _ => ⟨h, fun k => ⟨.inl, fun h => h.elim id fun ⟨_, h, _⟩ => nomatch h⟩⟩
  | p :: qs, M, h, hq, hs, hM => by
    obtain ⟨s1, s2⟩ := List.pairwise_cons.mp hs
    obtain ⟨a, b, c⟩ := merge_step_ok h (hq p (.head _)) fun q h => hM q h p (.head _)
    obtain ⟨d, e⟩ := merge_ok qs (mergeStep M p) a (fun q h => hq q (.tail _ h)) s2 fun x hx q hq' => Int.le_trans (c x hx) (s1 q hq')
    refine ⟨d, fun k => (e k).trans ?_⟩
    rw [b k]
    constructor
    · rintro ((h | h) | ⟨q, h1, h⟩)
      · exact .inl h
      · exact .inr ⟨p, .head _, h⟩
      · exact .inr ⟨q, .tail _ h1, h⟩
    · rintro (h | ⟨q, h1, h⟩)
      · exact .inl (.inl h)
      · rcases List.mem_cons.mp h1 with rfl | h1
        · exact .inl (.inr h)
        · exact .inr ⟨q, h1, h⟩
theorem endsOf_le {p q : Int × Int} {g : Int} (h : endsOf p g = some q) : q.1 ≤ q.2 := by
  unfold endsOf at h
  split at h
  · exact nomatch h
  · cases h; dsimp only; lia
theorem hasP_cov {ps qs : List (Int × Int)} {g k : Int} (h : qs.Perm (ps.filterMap (endsOf · g))) : hasP ps g k = true ↔ Cov qs k := by
  unfold hasP Cov
  rw [List.any_eq_true]
  constructor
  · rintro ⟨p, hp, e⟩
    unfold inP at e
    cases he : endsOf p g with
    | none => rw [he] at e; exact nomatch e
    | some q =>
      rw [he] at e
      simp only [Bool.and_eq_true, decide_eq_true_eq] at e
      exact ⟨q, h.mem_iff.mpr (List.mem_filterMap.mpr ⟨p, hp, he⟩), e⟩
  · rintro ⟨q, hq, e⟩
    obtain ⟨p, hp, he⟩ := List.mem_filterMap.mp (h.mem_iff.mp hq)
    refine ⟨p, hp, ?_⟩
    unfold inP; rw [he]
    simp only [Bool.and_eq_true, decide_eq_true_eq]
    exact e
/-- what plain_set gives -/
theorem plain_ok {ps qs : List (Int × Int)} {g : Int} (hg : 0 ≤ g ∧ g ≤ 100) (hsm : ∀ p ∈ ps, Small p) (h : qs.Perm (ps.filterMap (endsOf · g))) (hs : qs.Pairwise (fun p q => lk p ≤ lk q)) : Runs (qs.foldl mergeStep []) ∧ ∀ k, Cov (qs.foldl mergeStep []) k ↔ hasP ps g k = true := by
  have hq : ∀ q ∈ qs, q.1 ≤ q.2 ∧ (0 ≤ q.2 ∧ q.2 ≤ 100) := fun q hq => by
    obtain ⟨p, hp, he⟩ := List.mem_filterMap.mp (h.mem_iff.mp hq)
    exact ⟨endsOf_le he, (endsOf_b he (hsm p hp) hg).2⟩
  have r0 : Runs [] := ⟨fun _ h => (nomatch h), List.Pairwise.nil⟩
  obtain ⟨a, b⟩ := merge_ok qs [] r0 (fun q h => (hq q h).1) ((List.Pairwise.and_mem.mp hs).imp fun ⟨h1, h2, h3⟩ => by
    have := hq _ h1; have := hq _ h2; unfold lk at h3; lia) fun _ h => nomatch h
  refine ⟨a, fun k => (b k).trans ?_⟩
  rw [hasP_cov h]
  exact ⟨fun h => h.elim (fun ⟨_, h, _⟩ => nomatch h) id, .inr⟩
theorem nums_ok {M : List (Int × Int)} {g : Int} {S : List Int} (h : Runs M) (hS : S.Pairwise (· < ·)) (hm : ∀ k, k ∈ S ↔ Cov M k) : numsIn M g = S.filter (fun k => decide (k ≤ g)) := by
  refine sorted_eq (numsIn_asc h) (hS.filter _) fun k => ?_
  rw [numsIn_mem, List.mem_filter, hm k, decide_eq_true_eq]
theorem range_ok {p : Int → Bool} {S : List Int} (hS : S.Pairwise (· < ·)) (hm : ∀ k, k ∈ S ↔ p k = true) (hb : ∀ k ∈ S, 0 ≤ k ∧ k ≤ 50) : (spanL 0 50).filter p = S := by
  refine sorted_eq (spanL_asc.filter _) hS fun k => ?_
  rw [List.mem_filter, spanL_mem, ← hm k]
  exact ⟨fun h => h.2, fun h => ⟨hb k h, h⟩⟩
end
section
theorem off_setd : True := by
  w_top off
  trivial
open PyProof.V
/-- a dict whose keys are ints and whose values are True -/
abbrev ksD (ks : List Int) : List (PyData × PyData) := ks.map fun k => (PyData.int k, PyData.bool true)
def SetO (prog : Program) (w : World) (o : Obj) (ks : List Int) : Prop := ∃ kvs, o.IsDictOf (intKind prog w) kvs ∧ FlatPairs PyData.int kvs (ksD ks)
def ins (ks : List Int) (k : Int) : List Int := if k ∈ ks then ks else ks ++ [k]
theorem same_i (a b : Int) : PySem.Spec.same (PyData.int a) (PyData.int b) = decide (a = b) := by
  by_cases h : a = b <;> simp [PySem.Spec.same, h]
theorem ksD_any (ks : List Int) (k : Int) : (ksD ks).any (fun p => PySem.Spec.same p.1 (.int k)) = decide (k ∈ ks) := by
  induction ks with
  | nil => simp
  | cons a ks ih =>
    rw [show ksD (a :: ks) = (.int a, .bool true) :: ksD ks from rfl, List.any_cons, ih, same_i]
    by_cases h : a = k
    · simp [h]
    · have : ¬ k = a := fun e => h e.symm
      simp [h, this]
theorem putD_ins (ks : List Int) (k : Int) : putD (.int k) (.bool true) (ksD ks) = ksD (ins ks k) := by
  unfold putD ins
  rw [ksD_any]
  by_cases h : k ∈ ks
  · simp only [h, decide_true, if_true, List.map_map]
    apply List.map_congr_left
    intro a _
    simp only [Function.comp]
    split <;> rfl
  · simp only [h, decide_false, Bool.false_eq_true, if_false, List.map_append, List.map_cons, List.map_nil]
theorem lookup_ks (ks : List Int) (k : Int) : (PySem.Spec.lookup (.int k) (ksD ks)).isSome = decide (k ∈ ks) := by
  induction ks with
  | nil => rfl
  | cons a ks ih =>
    show (if PySem.Spec.same (PyData.int a) (PyData.int k) = true then some (PyData.bool true) else PySem.Spec.lookup (PyData.int k) (ksD ks)).isSome = _
    by_cases h : a = k
    · subst h
      simp [same_i]
    · have h' : ¬ k = a := fun e => h e.symm
      rw [same_i, decide_eq_false h, if_neg Bool.false_ne_true, ih]
      simp [h']
theorem mem_ins {ks : List Int} {a k : Int} : k ∈ ins ks a ↔ k ∈ ks ∨ k = a := by
  unfold ins
  split
  · exact ⟨.inl, fun h => h.elim id fun e => e ▸ (by assumption)⟩
  · simp
theorem nodup_ins {ks : List Int} {a : Int} (h : ks.Nodup) : (ins ks a).Nodup := by
  unfold ins
  split
  · exact h
  · rename_i hn
    rw [List.nodup_append]
    exact ⟨h, by simp, fun x hx y hy e => hn (by rw [← List.mem_singleton.mp hy, ← e]; exact hx)⟩
theorem nodup_len (a : Int) : ∀ (n : Nat) (l : List Int), l.Nodup → (∀ k ∈ l, a ≤ k ∧ k < a + n) → l.length ≤ n
  | 0, [], _, _ => Nat.le_refl _
  | 0, x :: l, _, h => by have := h x (.head _); (first | lia | omega)
  | n + 1, l, hd, h => by
    by_cases hm : a + (n : Int) ∈ l
    · have ih := nodup_len a n (l.erase (a + n)) (hd.erase _) fun k hk => by
        have h1 := (hd.mem_erase_iff.mp hk)
        have := h k h1.2
        have h2 : k ≠ a + n := h1.1
        (first | lia | omega)
      rw [List.length_erase_of_mem hm] at ih
      (first | lia | omega)
    · have ih := nodup_len a n l hd fun k hk => by
        have := h k hk
        have : k ≠ a + n := fun e => hm (e ▸ hk)
        (first | lia | omega)
      (first | lia | omega)
theorem inP_iff {x y g k A B : Int} (hA : A = if x = 0 then g else x) (hB : B = if y = 0 then g else y) (h0 : 0 ≤ x) (h1 : 0 ≤ y) (h2 : 0 ≤ g) : inP (x, y) g k = true ↔ (0 < A ∧ 0 < B) ∧ min A B ≤ k ∧ k ≤ max A B := by
  by_cases hc : g = 0 ∧ (x = 0 ∨ y = 0)
  · rw [inP_none (endsOf_none hc)]
    constructor
    · intro e; exact nomatch e
    · intro e
      have : A ≤ 0 ∨ B ≤ 0 := by
        rcases hc.2 with e | e
        · left; rw [hA, if_pos e]; (first | lia | omega)
        · right; rw [hB, if_pos e]; (first | lia | omega)
      (first | lia | omega)
  · rw [inP_some (endsOf_some hc rfl rfl), ← hA, ← hB]
    have : 0 < A ∧ 0 < B := by
      subst hA hB
      constructor <;> split <;> (first | lia | omega)
    simp [this]
theorem hasP_take {ps : List (Int × Int)} {i : Nat} {p : Int × Int} {g k : Int} (h : ps[i]? = some p) : hasP (ps.take (i + 1)) g k = (hasP (ps.take i) g k || inP p g k) := by
  rw [List.take_add_one, h, Option.toList_some]; unfold hasP; rw [List.any_append]; simp
theorem hasP_b {ps : List (Int × Int)} {g k : Int} (hs : ∀ p ∈ ps, Small p) (hg : 0 ≤ g ∧ g ≤ 45) (h : hasP ps g k = true) : 0 ≤ k ∧ k ≤ 45 := by
  obtain ⟨⟨x, y⟩, hp, e⟩ := List.any_eq_true.mp h
  obtain ⟨⟨h0, h1⟩, h2, h3⟩ := hs _ hp
  dsimp only at h0 h1 h2 h3
  have := (inP_iff (k := k) rfl rfl h0 h2 hg.1).mp e
  revert this
  (repeat' split) <;> (first | lia | omega)
theorem rg {h : Heap} {r : Addr} {a b c : Int} {t u v : Tok} (x : IsRange h r a b c t u v) : ∃ a0 b0, a0 = a ∧ b0 = b ∧ IsRange h r a0 b0 c t u v := ⟨_, _, rfl, rfl, x⟩
section
variable {prog : Program} {w : World} {A : Around} {E : Value → Shared → Prop} {s : Shared}
theorem set_S {h₀ : Heap} {L D : Addr} {m : Str → Option Value} {news : List (Addr × Obj)} {g : Obj → List (Addr × Obj)} {o : Obj} {ks : List Int} {k : Int} {t : Tok} {Q : Unit → Shared → Prop} (F : Fr h₀ L s.heap m) (N : News h₀ L s.heap news) (U : UpdF D o news g) (S : SetO prog w o ks) (hz : ks.length ≤ 100000)
    (h : ∀ h' o', Fr h₀ L h' m → News h₀ L h' (g o') → SetO prog w o' (ins ks k) → Q () { s with heap := h', toks := s.toks + 1 }) : wpAny (model prog w) A (setItem (.ref D) (.int k t) (.bool true)) Q E s := by
  obtain ⟨kvs, hd, hf⟩ := S
  refine setItem_K (knd := intKind prog w) (enc := PyData.int) (dv := .bool true) same_i (intKind_is prog w k t) (.bool _) F N U hd hf (fun h' o' F' N' hd' hf' => h h' o' F' N' ⟨_, hd', ?_⟩) (by rw [List.length_map, sizeLine_eq]; (first | lia | omega))
  rw [← putD_ins]; exact hf'
end
end
section
theorem off_dsort : True := by
  w_top off
  trivial
open PyProof.V
theorem intsAre_of : ∀ {vs : List Value} {ks : List Int}, vs.length = ks.length → (∀ (j : Nat) (v : Value), vs[j]? = some v → ∃ k t, ks[j]? = some k ∧ v = .int k t) → IntsAre vs ks
  | [], [], _, _ => .nil
  | [], _ :: _, h, _ => nomatch h
  | _ :: _, [], h, _ => nomatch h
  | v :: vs, k :: ks, hl, h => by
    obtain ⟨k', t, e, rfl⟩ := h 0 v rfl
    have e' : k = k' := Option.some.inj e
    subst e'
    exact .cons _ _ (intsAre_of (by simpa using hl) fun j u hu => h (j + 1) u (by simpa using hu))
theorem ksD_len (ks : List Int) : (ksD ks).length = ks.length := by simp [ksD]
theorem ksD_get (ks : List Int) (j : Nat) : (ksD ks)[j]? = (ks[j]?).map fun k => (PyData.int k, PyData.bool true) := by simp [ksD]
section
variable {prog : Program} {w : World} {A : Around} {E : Value → Shared → Prop} {s : Shared} {h₀ : Heap} {L d : Addr} {m : Str → Option Value} {news : List (Addr × Obj)} {o : Obj} {ks : List Int} {Q : Value → Shared → Prop}
theorem sorted_S (hh : A.handled = none) (F : Fr h₀ L s.heap m) (N : News h₀ L s.heap news) (hd : s.heap.get? d = some o) (hm : (d == sysModules) = false) (S : SetO prog w o ks) (hz : ks.length < 64)
    (h : ∀ D vs' ns' c h' tk', Fr h₀ L h' m → News h₀ L h' ((D, W.listOf vs'.toArray c) :: news) → (∀ q ∈ news, q.1 < D) → IntsAre vs' ns' → ns'.Perm ks → ns'.Pairwise (· ≤ ·) → Q (.ref D) { s with heap := h', toks := tk' }) :
    wpAny (model prog w) A (call (.builtin "sorted") [.ref d]) Q E s := by
  obtain ⟨kvs, hdo, hf⟩ := S
  have hD : s.heap.DictOf (intKind prog w) d kvs := Heap.dictOf_iff.mpr ⟨o, hd, hdo⟩
  obtain ⟨ep, hat⟩ := hD.dictAt
  have hlen : kvs.length = ks.length := by rw [← hf.length, ksD_len]
  refine kdu_sorted (kdl_dict (knd := intKind prog w) (kvs := kvs) (ep := ep) hm) hh F N hat (kdl_size (by omega)) fun B h' tk vs F' N' l1 hl hv => ?_
  have hi : IntsAre vs ks := intsAre_of (by omega) fun j v e => by
    obtain ⟨k, x, hx, hk⟩ := hv j v e
    obtain ⟨dv, hd, _⟩ := hf.at hx
    rw [ksD_get] at hd
    obtain ⟨t, rfl⟩ := Value.isInt_shape hk
    obtain ⟨k', e', e2⟩ := Option.map_eq_some_iff.mp hd
    cases e2
    exact ⟨_, _, e', rfl⟩
  refine ksk_lsort (s := { s with heap := h', toks := tk }) (news' := fun o => (B, o) :: news) F' N' (fun o => Upd.head fun q hq => Nat.ne_of_lt (l1 q hq)) rfl hi hz fun vs' ns' c h'' F'' N'' hi' _ hp hs _ => h B vs' ns' c h'' tk F'' N'' l1 hi' hp hs
theorem tab_S (hd : s.heap.get? d = some o) (hm : (d == sysModules) = false) (S : SetO prog w o ks) : TabAt (intKind prog w) PyData.int s.heap d (ksD ks) :=
  let ⟨kvs, hdo, hf⟩ := S; ⟨hm, kvs, Heap.dictOf_iff.mpr ⟨o, hd, hdo⟩, hf⟩
theorem in_S {k : Int} {t : Tok} (hd : s.heap.get? d = some o) (hm : (d == sysModules) = false) (S : SetO prog w o ks) (h : Q (.bool (decide (k ∈ ks))) { s with toks := s.toks + 1 }) :
    wpAny (model prog w) A (compareOp .In (.int k t) (.ref d)) Q E s := by
  refine in_tab (enc := PyData.int) same_i (intKind_is prog w k t) (tab_S hd hm S) ?_
  rw [lookup_ks]; exact h
theorem notin_S {k : Int} {t : Tok} (hd : s.heap.get? d = some o) (hm : (d == sysModules) = false) (S : SetO prog w o ks) (h : Q (.bool (!decide (k ∈ ks))) { s with toks := s.toks + 1 }) :
    wpAny (model prog w) A (compareOp .NotIn (.int k t) (.ref d)) Q E s := by
  refine notin_tab (enc := PyData.int) same_i (intKind_is prog w k t) (tab_S hd hm S) ?_
  rw [lookup_ks]; exact h
end
end
section
theorem off_runs : True := by
  w_top off
  trivial
open PyProof.V
theorem ints_get {vs : List Value} {ks : List Int} (h : IntsAre vs ks) : ∀ {i : Nat} {v : Value}, vs[i]? = some v → ∃ k t, ks[i]? = some k ∧ v = .int k t := by
  induction h with
  | nil => intro i v e; simp at e
  | cons k t _ ih =>
    intro i v e
    cases i with
    | zero => exact ⟨_, _, rfl, (Option.some.inj e).symm⟩
    | succ i => exact ih (by simpa using e)
theorem ints_at {vs : List Value} {ks : List Int} (h : IntsAre vs ks) : ∀ {i : Nat} {k : Int}, ks[i]? = some k → ∃ t, vs[i]? = some (.int k t) := by
  induction h with
  | nil => intro i v e; simp at e
  | cons k t _ ih =>
    intro i v e
    cases i with
    | zero => exact ⟨_, by rw [show k = v from Option.some.inj e]; rfl⟩
    | succ i => exact ih (by simpa using e)
theorem pick4 {h₀ h : Heap} {L : Addr} {x1 x2 x3 x4 x5 x6 x7 : Addr × Obj} (N : News h₀ L h [x1, x2, x3, x4, x5, x6, x7]) : News h₀ L h [x1, x3, x5, x6] := news_sub N (by
  intro q hq; simp only [List.mem_cons, List.not_mem_nil, or_false] at hq ⊢; rcases hq with e | e | e | e <;> simp [e])
theorem led_obj3 {h₀ h : Heap} {L : Addr} {a b : Addr × Obj} {c : Addr} {o : Obj} {tl : List (Addr × Obj)} (_ : News h₀ L h (a :: b :: (c, o) :: tl)) : ∃ p, p = o := ⟨_, rfl⟩
theorem pick5 {h₀ h : Heap} {L : Addr} {T I C D x1 x2 x3 x4 : Addr × Obj} {tl : List (Addr × Obj)} (N : News h₀ L h (T :: I :: C :: D :: x1 :: x2 :: x3 :: x4 :: tl)) : ∀ p ∈ I :: C :: D :: x1 :: x2 :: x3 :: x4 :: T :: tl, p ∈ T :: I :: C :: D :: x1 :: x2 :: x3 :: x4 :: tl := by
  intro q hq; simp only [List.mem_cons] at hq ⊢; rcases hq with e | e | e | e | e | e | e | e | e <;> simp [e]
section
variable {w : World} {mean : ExcName → Option Value} {mg mb : Str → Option Value} {dp un : Nat} {gd : Option (List Code)} {cn : Str} {cs : Scope} {a : Addr} {ccd : Value} {cl : List (Str × Addr)} {outer : List Env} {A₀ : Around} {base h₀ : Heap} {L : Addr} {m : Str → Option Value} {s : Shared} {Q E : Value → Shared → Prop}
   (B : Below A₀ base outer h₀) (F : Fr h₀ L s.heap m) (X : (hd.heap_39 w.params).In h₀) (T : TopH mean mg mb h₀) (hk : cs.kind = .function)
include B F X T hk
theorem c_law_runs {d : Addr} {o : Obj} {ks : List Int} {M : List (Int × Int)} (hd : hp s.heap d o) (hm : (d == sysModules) = false) (hS : SetO PySem.Challenge.rw_no0356_01.row.prog w o ks) (hnd : ks.Nodup) (hz : ks.length < 64) (hM : Runs M) (hc : ∀ k, k ∈ ks ↔ Cov M k) (hb : ∀ k ∈ ks, 0 ≤ k ∧ k ≤ 100)
   (hdp : dp + 100 < recursionLimit) (hu : un + 400 < cLine)
   (ret : ∀ a ws k tl h' tk', s.heap.StaysIn h' → (∀ p ∈ tl, s.heap.get? p.1 = none ∧ h'.get? p.1 = some p.2) → s.heap.get? a = none → h'.get? a = some (tupO ws k) → PairsR (Nw tl) ws M → Q (.ref a) { s with heap := h', toks := tk' }) :
   wpAny (model PySem.Challenge.rw_no0356_01.row.prog w) (ktrTop dp un gd cn cs L a ccd cl outer) (call (.ref 162) [.ref d]) Q E s := by
  revert X; k_fill; intro X
  refine wpAny_call ?_
  k_dflt (refine' code_pureC (binds := [("found", .ref d)]) ?k1 ?k2 ?k3 ?k5 ?kA ?kF ?kK ?k6 ?k7 ?k8 ?k9 ?kB ?kD ?_ ?c2 ?c3 ?c4; (case kA => exact rfl); (case kF => exact rfl); (case kK => assumption); (case k1 => k_asm); (case k2 => k_asm); (case k3 => k_asm); (case k5 => k_asm); (case k6 => k_is); (case k7 => k_is); (case k8 => exact Nat.lt_of_le_of_lt (Nat.le_add_right _ _) hdp); (case k9 => exact BindsTo.of_eq rfl); (case kB => exact rfl); (case kD => decide +kernel); (case c2 => exact rfl); (case c3 => exact rfl); (case c4 => exact rfl); k_whole; intro L' h' tk' cells' F' N' Y' B' X' T'; k_cells Y'; (try simp only [List.cons_append, List.nil_append] at N'); (try dsimp only); (try k_lift B'); (try k_fold))
  (repeat' (first | (k_unfold; (try dsimp only)) | (k_end; wrow_close) | ((with_reducible show wpAny _ _ (call _ _ _) _ _ _); first | ((with_reducible show wpAny _ _ (call (Value.type _) [Value.ref _]) _ _ _); k_here; k_dflt (refine' kde_tupleOf (by k_asm) (by k_asm) (by exact News.isList (by k_asm) (by k_mem)) (by (simp only [List.size_toArray]; omega)) (by exact rfl) ?_; k_whole); intro _ _ _ _ l1; (try k_lt l1); (try k_sweep; revert l1; intro _)) | ((with_reducible show wpAny _ _ (call (Value.builtin "len") [Value.ref _]) _ _ _); k_here; k_dflt (refine' len_listN (by exact News.isList (by k_asm) (by k_mem)) (by assumption) (by omega) ?_; k_whole); (try dsimp only)) | ((with_reducible show wpAny _ _ (call (Value.builtin "sorted") [Value.ref _]) _ _ _); k_here; (k_dflt (refine' sorted_S (by exact rfl) (by k_asm) (by k_asm) (by exact Fr.keep (by k_asm) _ _ (by assumption)) (by assumption) (by assumption) (by assumption) ?_; k_whole)); intro _ _ _ _ _ _ _ _ l1 _ _ _; (try k_lt l1); (try k_sweep; revert l1; intro _))) | ((with_reducible show CompSrc _ _ _ _ _ _ _ _ _ _ _ _ _ _); refine Stop.intro ?_) | ((with_reducible show wpAny _ _ (subscriptTail _ _ _ _) _ _ _); first | ((with_reducible show wpAny _ _ (subscriptTail _ _ (Value.ref _) (Value.int _ _)) _ _ _); k_here; k_dflt (refine' item_listI (by exact News.isList (by k_asm) (by k_mem)) (by assumption) (by first | rfl | omega) (by omega) ?_ (by with_unfolding_all rfl); k_whole))) | ((with_reducible show wpAny _ _ (compareOp _ _ _) _ _ _); first | ((with_reducible show wpAny _ _ (compareOp CmpOp.NotIn (Value.int _ _) (Value.ref _)) _ _ _); k_here; (k_dflt (refine' notin_S (by exact Fr.keep (by k_asm) _ _ (by assumption)) (by assumption) (by assumption) ?_; k_whole)); (try dsimp only))) | ((with_reducible show wpAny _ _ (PySem.exec _ _) _ _ _); first | ((with_reducible show wpAny _ _ (PySem.exec (PySem.Stmt.Assign [PySem.Expr.Name _ _] (PySem.Expr.ListComp _ _ _ _) _) _) _ _ _); refine Stop.intro ?_)) | ((with_reducible show wpAny _ _ (PySem.eval _ _) _ _ _); first | ((with_reducible show wpAny _ _ (PySem.eval (PySem.Expr.ListComp _ _ _ _) _) _ _ _); refine Stop.intro ?_)) | walk1 | (dsimp only; walk1) | (leave1; try dsimp only) | ((with_reducible show wpAny _ _ _ _ _ _); dsimp only)))
  rename Fr _ _ _ _ => F0
  rename News _ _ _ _ => N0
  obtain ⟨o3, o2, o1, e3, e2, e1, N1⟩ : ∃ o3 o2 o1 : Obj, o3.data = Data.cell none ∧ o2.data = Data.cell none ∧ o1.data = Data.cell (some (.ref d)) ∧ News s.heap L' _ [(L' + 1 + 1 + 1, o3), (L' + 1 + 1, o2), (L' + 1, o1)] := by
    refine ⟨_, _, _, ?_, ?_, ?_, N0⟩ <;> (with_unfolding_all assumption)
  clear N0
  have F1 : Fr s.heap L' h' (fun _ => none) := by with_unfolding_all exact F0
  clear F0
  rename_i x1 x2 x3 y1 y2 y3
  clear y1 y2 y3
  refine Stop.out ?_
  refine wpAny_Assign_Name ?_
  (repeat' (first | (k_unfold; (try dsimp only)) | (k_end; wrow_close) | ((with_reducible show wpAny _ _ (call _ _ _) _ _ _); first | ((with_reducible show wpAny _ _ (call (Value.type _) [Value.ref _]) _ _ _); k_here; k_dflt (refine' kde_tupleOf (by k_asm) (by k_asm) (by exact News.isList (by k_asm) (by k_mem)) (by (simp only [List.size_toArray]; omega)) (by exact rfl) ?_; k_whole); intro _ _ _ _ l1; (try k_lt l1); (try k_sweep; revert l1; intro _)) | ((with_reducible show wpAny _ _ (call (Value.builtin "len") [Value.ref _]) _ _ _); k_here; k_dflt (refine' len_listN (by exact News.isList (by k_asm) (by k_mem)) (by assumption) (by omega) ?_; k_whole); (try dsimp only)) | ((with_reducible show wpAny _ _ (call (Value.builtin "sorted") [Value.ref _]) _ _ _); k_here; (k_dflt (refine' sorted_S (by exact rfl) (by k_asm) (by k_asm) (by exact Fr.keep (by k_asm) _ _ (by assumption)) (by assumption) (by assumption) (by assumption) ?_; k_whole)); intro _ _ _ _ _ _ _ _ l1 _ _ _; (try k_lt l1); (try k_sweep; revert l1; intro _))) | ((with_reducible show CompSrc _ _ _ _ _ _ _ _ _ _ _ _ _ _); refine Stop.intro ?_) | ((with_reducible show wpAny _ _ (subscriptTail _ _ _ _) _ _ _); first | ((with_reducible show wpAny _ _ (subscriptTail _ _ (Value.ref _) (Value.int _ _)) _ _ _); k_here; k_dflt (refine' item_listI (by exact News.isList (by k_asm) (by k_mem)) (by assumption) (by first | rfl | omega) (by omega) ?_ (by with_unfolding_all rfl); k_whole))) | ((with_reducible show wpAny _ _ (compareOp _ _ _) _ _ _); first | ((with_reducible show wpAny _ _ (compareOp CmpOp.NotIn (Value.int _ _) (Value.ref _)) _ _ _); k_here; (k_dflt (refine' notin_S (by exact Fr.keep (by k_asm) _ _ (by assumption)) (by assumption) (by assumption) ?_; k_whole)); (try dsimp only))) | ((with_reducible show wpAny _ _ (PySem.exec _ _) _ _ _); first | ((with_reducible show wpAny _ _ (PySem.exec (PySem.Stmt.Assign [PySem.Expr.Name _ _] (PySem.Expr.ListComp _ _ _ _) _) _) _ _ _); refine Stop.intro ?_)) | ((with_reducible show wpAny _ _ (PySem.eval _ _) _ _ _); first | ((with_reducible show wpAny _ _ (PySem.eval (PySem.Expr.ListComp _ _ _ _) _) _ _ _); refine Stop.intro ?_)) | walk1 | (dsimp only; walk1) | (leave1; try dsimp only) | ((with_reducible show wpAny _ _ _ _ _ _); dsimp only)))
  refine Stop.out ?_
  k_dflt (refine LCt.ListComp_T (F₀ := by k_asm) (by with_unfolding_all rfl) (by decide) (by rfl) (by decide) (by rfl) ?_)
  (repeat' (first | (k_unfold; (try dsimp only)) | (k_end; wrow_close) | ((with_reducible show wpAny _ _ (call _ _ _) _ _ _); first | ((with_reducible show wpAny _ _ (call (Value.type _) [Value.ref _]) _ _ _); k_here; k_dflt (refine' kde_tupleOf (by k_asm) (by k_asm) (by exact News.isList (by k_asm) (by k_mem)) (by (simp only [List.size_toArray]; omega)) (by exact rfl) ?_; k_whole); intro _ _ _ _ l1; (try k_lt l1); (try k_sweep; revert l1; intro _)) | ((with_reducible show wpAny _ _ (call (Value.builtin "len") [Value.ref _]) _ _ _); k_here; k_dflt (refine' len_listN (by exact News.isList (by k_asm) (by k_mem)) (by assumption) (by omega) ?_; k_whole); (try dsimp only)) | ((with_reducible show wpAny _ _ (call (Value.builtin "sorted") [Value.ref _]) _ _ _); k_here; (k_dflt (refine' sorted_S (by exact rfl) (by k_asm) (by k_asm) (by exact Fr.keep (by k_asm) _ _ (by assumption)) (by assumption) (by assumption) (by assumption) ?_; k_whole)); intro _ _ _ _ _ _ _ _ l1 _ _ _; (try k_lt l1); (try k_sweep; revert l1; intro _))) | ((with_reducible show CompSrc _ _ _ _ _ _ _ _ _ _ _ _ _ _); refine Stop.intro ?_) | ((with_reducible show wpAny _ _ (subscriptTail _ _ _ _) _ _ _); first | ((with_reducible show wpAny _ _ (subscriptTail _ _ (Value.ref _) (Value.int _ _)) _ _ _); k_here; k_dflt (refine' item_listI (by exact News.isList (by k_asm) (by k_mem)) (by assumption) (by first | rfl | omega) (by omega) ?_ (by with_unfolding_all rfl); k_whole))) | ((with_reducible show wpAny _ _ (compareOp _ _ _) _ _ _); first | ((with_reducible show wpAny _ _ (compareOp CmpOp.NotIn (Value.int _ _) (Value.ref _)) _ _ _); k_here; (k_dflt (refine' notin_S (by exact Fr.keep (by k_asm) _ _ (by assumption)) (by assumption) (by assumption) ?_; k_whole)); (try dsimp only))) | ((with_reducible show wpAny _ _ (PySem.exec _ _) _ _ _); first | ((with_reducible show wpAny _ _ (PySem.exec (PySem.Stmt.Assign [PySem.Expr.Name _ _] (PySem.Expr.ListComp _ _ _ _) _) _) _ _ _); refine Stop.intro ?_)) | ((with_reducible show wpAny _ _ (PySem.eval _ _) _ _ _); first | ((with_reducible show wpAny _ _ (PySem.eval (PySem.Expr.ListComp _ _ _ _) _) _ _ _); refine Stop.intro ?_)) | walk1 | (dsimp only; walk1) | (leave1; try dsimp only) | ((with_reducible show wpAny _ _ _ _ _ _); dsimp only)))
  rename_i D1 vs1 ns1 c1 h1 tk1 F2 N2 hi2 hp2 hs2 l1
  have hzz : vs1.length ≤ sizeLine := by rw [hi2.length, hp2.length_eq]; exact Nat.le_trans (Nat.le_of_lt hz) (by decide)
  have has1 := asc_of hs2 (hp2.nodup_iff.mpr hnd)
  have hmem1 : ∀ k, k ∈ ns1 ↔ k ∈ ks := fun k => hp2.mem_iff
  have hlow := runs_lows hM has1 (fun k => (hmem1 k).trans (hc k))
  simp only [hmem1] at hlow
  refine .inl ⟨_, vs1.toArray, _, rfl, rfl, F2, N2, .inr ⟨_, .head _, rfl, _, rfl⟩, by rw [List.size_toArray]; exact hzz, ?_⟩
  rintro _ ⟨g1, rfl⟩
  refine compRestT_ind _ (fun i ys nx => nx = [(D1, W.listOf vs1.toArray c1), (L' + 1 + 1 + 1, o3), (L' + 1 + 1, o2), (L' + 1, o1)] ∧ IntsAre ys ((ns1.take i).filter (fun k => !decide (k - 1 ∈ ks)))) ?_ ?_ _ _ _ _ (Nat.zero_add _) ⟨rfl, .nil⟩
  · rintro ys nx ⟨rfl, hy⟩
    rw [List.size_toArray, hi2.length, List.take_length, hlow] at hy
    intro D2 h2 tk2 F3 N3 off2
    simp only [Off1, and_true] at off2
    clear F2 N2
    dsimp only
    (repeat' (first | (k_unfold; (try dsimp only)) | (k_end; wrow_close) | ((with_reducible show wpAny _ _ (call _ _ _) _ _ _); first | ((with_reducible show wpAny _ _ (call (Value.type _) [Value.ref _]) _ _ _); k_here; k_dflt (refine' kde_tupleOf (by k_asm) (by k_asm) (by exact News.isList (by k_asm) (by k_mem)) (by (simp only [List.size_toArray]; omega)) (by exact rfl) ?_; k_whole); intro _ _ _ _ l1; (try k_lt l1); (try k_sweep; revert l1; intro _)) | ((with_reducible show wpAny _ _ (call (Value.builtin "len") [Value.ref _]) _ _ _); k_here; k_dflt (refine' len_listN (by exact News.isList (by k_asm) (by k_mem)) (by assumption) (by omega) ?_; k_whole); (try dsimp only)) | ((with_reducible show wpAny _ _ (call (Value.builtin "sorted") [Value.ref _]) _ _ _); k_here; (k_dflt (refine' sorted_S (by exact rfl) (by k_asm) (by k_asm) (by exact Fr.keep (by k_asm) _ _ (by assumption)) (by assumption) (by assumption) (by assumption) ?_; k_whole)); intro _ _ _ _ _ _ _ _ l1 _ _ _; (try k_lt l1); (try k_sweep; revert l1; intro _))) | ((with_reducible show CompSrc _ _ _ _ _ _ _ _ _ _ _ _ _ _); refine Stop.intro ?_) | ((with_reducible show wpAny _ _ (subscriptTail _ _ _ _) _ _ _); first | ((with_reducible show wpAny _ _ (subscriptTail _ _ (Value.ref _) (Value.int _ _)) _ _ _); k_here; k_dflt (refine' item_listI (by exact News.isList (by k_asm) (by k_mem)) (by assumption) (by first | rfl | omega) (by omega) ?_ (by with_unfolding_all rfl); k_whole))) | ((with_reducible show wpAny _ _ (compareOp _ _ _) _ _ _); first | ((with_reducible show wpAny _ _ (compareOp CmpOp.NotIn (Value.int _ _) (Value.ref _)) _ _ _); k_here; (k_dflt (refine' notin_S (by exact Fr.keep (by k_asm) _ _ (by assumption)) (by assumption) (by assumption) ?_; k_whole)); (try dsimp only))) | ((with_reducible show wpAny _ _ (PySem.exec _ _) _ _ _); first | ((with_reducible show wpAny _ _ (PySem.exec (PySem.Stmt.Assign [PySem.Expr.Name _ _] (PySem.Expr.ListComp _ _ _ _) _) _) _ _ _); refine Stop.intro ?_)) | ((with_reducible show wpAny _ _ (PySem.eval _ _) _ _ _); first | ((with_reducible show wpAny _ _ (PySem.eval (PySem.Expr.ListComp _ _ _ _) _) _ _ _); refine Stop.intro ?_)) | walk1 | (dsimp only; walk1) | (leave1; try dsimp only) | ((with_reducible show wpAny _ _ _ _ _ _); dsimp only)))
    refine Stop.out ?_
    refine wpAny_Assign_Name ?_
    (repeat' (first | (k_unfold; (try dsimp only)) | (k_end; wrow_close) | ((with_reducible show wpAny _ _ (call _ _ _) _ _ _); first | ((with_reducible show wpAny _ _ (call (Value.type _) [Value.ref _]) _ _ _); k_here; k_dflt (refine' kde_tupleOf (by k_asm) (by k_asm) (by exact News.isList (by k_asm) (by k_mem)) (by (simp only [List.size_toArray]; omega)) (by exact rfl) ?_; k_whole); intro _ _ _ _ l1; (try k_lt l1); (try k_sweep; revert l1; intro _)) | ((with_reducible show wpAny _ _ (call (Value.builtin "len") [Value.ref _]) _ _ _); k_here; k_dflt (refine' len_listN (by exact News.isList (by k_asm) (by k_mem)) (by assumption) (by omega) ?_; k_whole); (try dsimp only)) | ((with_reducible show wpAny _ _ (call (Value.builtin "sorted") [Value.ref _]) _ _ _); k_here; (k_dflt (refine' sorted_S (by exact rfl) (by k_asm) (by k_asm) (by exact Fr.keep (by k_asm) _ _ (by assumption)) (by assumption) (by assumption) (by assumption) ?_; k_whole)); intro _ _ _ _ _ _ _ _ l1 _ _ _; (try k_lt l1); (try k_sweep; revert l1; intro _))) | ((with_reducible show CompSrc _ _ _ _ _ _ _ _ _ _ _ _ _ _); refine Stop.intro ?_) | ((with_reducible show wpAny _ _ (subscriptTail _ _ _ _) _ _ _); first | ((with_reducible show wpAny _ _ (subscriptTail _ _ (Value.ref _) (Value.int _ _)) _ _ _); k_here; k_dflt (refine' item_listI (by exact News.isList (by k_asm) (by k_mem)) (by assumption) (by first | rfl | omega) (by omega) ?_ (by with_unfolding_all rfl); k_whole))) | ((with_reducible show wpAny _ _ (compareOp _ _ _) _ _ _); first | ((with_reducible show wpAny _ _ (compareOp CmpOp.NotIn (Value.int _ _) (Value.ref _)) _ _ _); k_here; (k_dflt (refine' notin_S (by exact Fr.keep (by k_asm) _ _ (by assumption)) (by assumption) (by assumption) ?_; k_whole)); (try dsimp only))) | ((with_reducible show wpAny _ _ (PySem.exec _ _) _ _ _); first | ((with_reducible show wpAny _ _ (PySem.exec (PySem.Stmt.Assign [PySem.Expr.Name _ _] (PySem.Expr.ListComp _ _ _ _) _) _) _ _ _); refine Stop.intro ?_)) | ((with_reducible show wpAny _ _ (PySem.eval _ _) _ _ _); first | ((with_reducible show wpAny _ _ (PySem.eval (PySem.Expr.ListComp _ _ _ _) _) _ _ _); refine Stop.intro ?_)) | walk1 | (dsimp only; walk1) | (leave1; try dsimp only) | ((with_reducible show wpAny _ _ _ _ _ _); dsimp only)))
    refine Stop.out ?_
    k_dflt (refine LCt.ListComp_T (F₀ := by k_asm) (by with_unfolding_all rfl) (by decide) (by rfl) (by decide) (by rfl) ?_)
    (repeat' (first | (k_unfold; (try dsimp only)) | (k_end; wrow_close) | ((with_reducible show wpAny _ _ (call _ _ _) _ _ _); first | ((with_reducible show wpAny _ _ (call (Value.type _) [Value.ref _]) _ _ _); k_here; k_dflt (refine' kde_tupleOf (by k_asm) (by k_asm) (by exact News.isList (by k_asm) (by k_mem)) (by (simp only [List.size_toArray]; omega)) (by exact rfl) ?_; k_whole); intro _ _ _ _ l1; (try k_lt l1); (try k_sweep; revert l1; intro _)) | ((with_reducible show wpAny _ _ (call (Value.builtin "len") [Value.ref _]) _ _ _); k_here; k_dflt (refine' len_listN (by exact News.isList (by k_asm) (by k_mem)) (by assumption) (by omega) ?_; k_whole); (try dsimp only)) | ((with_reducible show wpAny _ _ (call (Value.builtin "sorted") [Value.ref _]) _ _ _); k_here; (k_dflt (refine' sorted_S (by exact rfl) (by k_asm) (by k_asm) (by exact Fr.keep (by k_asm) _ _ (by assumption)) (by assumption) (by assumption) (by assumption) ?_; k_whole)); intro _ _ _ _ _ _ _ _ l1 _ _ _; (try k_lt l1); (try k_sweep; revert l1; intro _))) | ((with_reducible show CompSrc _ _ _ _ _ _ _ _ _ _ _ _ _ _); refine Stop.intro ?_) | ((with_reducible show wpAny _ _ (subscriptTail _ _ _ _) _ _ _); first | ((with_reducible show wpAny _ _ (subscriptTail _ _ (Value.ref _) (Value.int _ _)) _ _ _); k_here; k_dflt (refine' item_listI (by exact News.isList (by k_asm) (by k_mem)) (by assumption) (by first | rfl | omega) (by omega) ?_ (by with_unfolding_all rfl); k_whole))) | ((with_reducible show wpAny _ _ (compareOp _ _ _) _ _ _); first | ((with_reducible show wpAny _ _ (compareOp CmpOp.NotIn (Value.int _ _) (Value.ref _)) _ _ _); k_here; (k_dflt (refine' notin_S (by exact Fr.keep (by k_asm) _ _ (by assumption)) (by assumption) (by assumption) ?_; k_whole)); (try dsimp only))) | ((with_reducible show wpAny _ _ (PySem.exec _ _) _ _ _); first | ((with_reducible show wpAny _ _ (PySem.exec (PySem.Stmt.Assign [PySem.Expr.Name _ _] (PySem.Expr.ListComp _ _ _ _) _) _) _ _ _); refine Stop.intro ?_)) | ((with_reducible show wpAny _ _ (PySem.eval _ _) _ _ _); first | ((with_reducible show wpAny _ _ (PySem.eval (PySem.Expr.ListComp _ _ _ _) _) _ _ _); refine Stop.intro ?_)) | walk1 | (dsimp only; walk1) | (leave1; try dsimp only) | ((with_reducible show wpAny _ _ _ _ _ _); dsimp only)))
    rename_i oL hoL D3 vs2 ns2 c2 h3 tk3 F4 N4 hi3 hp3 hs3 l2
    have hzz2 : vs2.length ≤ sizeLine := by rw [hi3.length, hp3.length_eq]; exact Nat.le_trans (Nat.le_of_lt hz) (by decide)
    have has2 := asc_of hs3 (hp3.nodup_iff.mpr hnd)
    have hmem2 : ∀ k, k ∈ ns2 ↔ k ∈ ks := fun k => hp3.mem_iff
    have hhigh := runs_highs hM has2 (fun k => (hmem2 k).trans (hc k))
    simp only [hmem2] at hhigh
    refine .inl ⟨_, vs2.toArray, _, rfl, rfl, F4, N4, .inr ⟨_, .head _, rfl, _, rfl⟩, by rw [List.size_toArray]; exact hzz2, ?_⟩
    rintro _ ⟨g2, rfl⟩
    refine compRestT_ind _ (fun i ys2 nx => nx = [(D3, W.listOf vs2.toArray c2), (D2, lst ys), (D1, W.listOf vs1.toArray c1), (L' + 1 + 1 + 1, o3), (L' + 1 + 1, oL), (L' + 1, o1)] ∧ IntsAre ys2 ((ns2.take i).filter (fun k => !decide (k + 1 ∈ ks)))) ?_ ?_ _ _ _ _ (Nat.zero_add _) ⟨rfl, .nil⟩
    · rintro ys2 nx ⟨rfl, hy2⟩
      rw [List.size_toArray, hi3.length, List.take_length, hhigh] at hy2
      intro D4 h4 tk4 F5 N5 off4
      simp only [Off1, and_true] at off4
      clear F4 N4
      have hl1 := hy.length
      have hl2 := hy2.length
      rw [List.length_map] at hl1 hl2
      have hMl : M.length < 64 := by
        have e1 := congrArg List.length hlow
        have e2 := List.length_filter_le (fun k => !decide (k - 1 ∈ ks)) ns1
        have e3 := hp2.length_eq
        rw [List.length_map] at e1; omega
      dsimp only
      (repeat' (first | (k_unfold; (try dsimp only)) | (k_end; wrow_close) | ((with_reducible show wpAny _ _ (call _ _ _) _ _ _); first | ((with_reducible show wpAny _ _ (call (Value.type _) [Value.ref _]) _ _ _); k_here; k_dflt (refine' kde_tupleOf (by k_asm) (by k_asm) (by exact News.isList (by k_asm) (by k_mem)) (by (simp only [List.size_toArray]; omega)) (by exact rfl) ?_; k_whole); intro _ _ _ _ l1; (try k_lt l1); (try k_sweep; revert l1; intro _)) | ((with_reducible show wpAny _ _ (call (Value.builtin "len") [Value.ref _]) _ _ _); k_here; k_dflt (refine' len_listN (by exact News.isList (by k_asm) (by k_mem)) (by assumption) (by omega) ?_; k_whole); (try dsimp only)) | ((with_reducible show wpAny _ _ (call (Value.builtin "sorted") [Value.ref _]) _ _ _); k_here; (k_dflt (refine' sorted_S (by exact rfl) (by k_asm) (by k_asm) (by exact Fr.keep (by k_asm) _ _ (by assumption)) (by assumption) (by assumption) (by assumption) ?_; k_whole)); intro _ _ _ _ _ _ _ _ l1 _ _ _; (try k_lt l1); (try k_sweep; revert l1; intro _))) | ((with_reducible show CompSrc _ _ _ _ _ _ _ _ _ _ _ _ _ _); refine Stop.intro ?_) | ((with_reducible show wpAny _ _ (subscriptTail _ _ _ _) _ _ _); first | ((with_reducible show wpAny _ _ (subscriptTail _ _ (Value.ref _) (Value.int _ _)) _ _ _); k_here; k_dflt (refine' item_listI (by exact News.isList (by k_asm) (by k_mem)) (by assumption) (by first | rfl | omega) (by omega) ?_ (by with_unfolding_all rfl); k_whole))) | ((with_reducible show wpAny _ _ (compareOp _ _ _) _ _ _); first | ((with_reducible show wpAny _ _ (compareOp CmpOp.NotIn (Value.int _ _) (Value.ref _)) _ _ _); k_here; (k_dflt (refine' notin_S (by exact Fr.keep (by k_asm) _ _ (by assumption)) (by assumption) (by assumption) ?_; k_whole)); (try dsimp only))) | ((with_reducible show wpAny _ _ (PySem.exec _ _) _ _ _); first | ((with_reducible show wpAny _ _ (PySem.exec (PySem.Stmt.Assign [PySem.Expr.Name _ _] (PySem.Expr.ListComp _ _ _ _) _) _) _ _ _); refine Stop.intro ?_)) | ((with_reducible show wpAny _ _ (PySem.eval _ _) _ _ _); first | ((with_reducible show wpAny _ _ (PySem.eval (PySem.Expr.ListComp _ _ _ _) _) _ _ _); refine Stop.intro ?_)) | walk1 | (dsimp only; walk1) | (leave1; try dsimp only) | ((with_reducible show wpAny _ _ _ _ _ _); dsimp only)))
      refine Stop.out ?_
      k_dflt (refine ListComp_U (F₀ := by k_asm) (by with_unfolding_all rfl) (by decide) (by rfl) (by decide) (by rfl) ?_)
      (repeat' (first | (k_unfold; (try dsimp only)) | (k_end; wrow_close) | ((with_reducible show wpAny _ _ (call _ _ _) _ _ _); first | ((with_reducible show wpAny _ _ (call (Value.type _) [Value.ref _]) _ _ _); k_here; k_dflt (refine' kde_tupleOf (by k_asm) (by k_asm) (by exact News.isList (by k_asm) (by k_mem)) (by (simp only [List.size_toArray]; omega)) (by exact rfl) ?_; k_whole); intro _ _ _ _ l1; (try k_lt l1); (try k_sweep; revert l1; intro _)) | ((with_reducible show wpAny _ _ (call (Value.builtin "len") [Value.ref _]) _ _ _); k_here; k_dflt (refine' len_listN (by exact News.isList (by k_asm) (by k_mem)) (by assumption) (by omega) ?_; k_whole); (try dsimp only)) | ((with_reducible show wpAny _ _ (call (Value.builtin "sorted") [Value.ref _]) _ _ _); k_here; (k_dflt (refine' sorted_S (by exact rfl) (by k_asm) (by k_asm) (by exact Fr.keep (by k_asm) _ _ (by assumption)) (by assumption) (by assumption) (by assumption) ?_; k_whole)); intro _ _ _ _ _ _ _ _ l1 _ _ _; (try k_lt l1); (try k_sweep; revert l1; intro _))) | ((with_reducible show CompSrc _ _ _ _ _ _ _ _ _ _ _ _ _ _); refine Stop.intro ?_) | ((with_reducible show wpAny _ _ (subscriptTail _ _ _ _) _ _ _); first | ((with_reducible show wpAny _ _ (subscriptTail _ _ (Value.ref _) (Value.int _ _)) _ _ _); k_here; k_dflt (refine' item_listI (by exact News.isList (by k_asm) (by k_mem)) (by assumption) (by first | rfl | omega) (by omega) ?_ (by with_unfolding_all rfl); k_whole))) | ((with_reducible show wpAny _ _ (compareOp _ _ _) _ _ _); first | ((with_reducible show wpAny _ _ (compareOp CmpOp.NotIn (Value.int _ _) (Value.ref _)) _ _ _); k_here; (k_dflt (refine' notin_S (by exact Fr.keep (by k_asm) _ _ (by assumption)) (by assumption) (by assumption) ?_; k_whole)); (try dsimp only))) | ((with_reducible show wpAny _ _ (PySem.exec _ _) _ _ _); first | ((with_reducible show wpAny _ _ (PySem.exec (PySem.Stmt.Assign [PySem.Expr.Name _ _] (PySem.Expr.ListComp _ _ _ _) _) _) _ _ _); refine Stop.intro ?_)) | ((with_reducible show wpAny _ _ (PySem.eval _ _) _ _ _); first | ((with_reducible show wpAny _ _ (PySem.eval (PySem.Expr.ListComp _ _ _ _) _) _ _ _); refine Stop.intro ?_)) | walk1 | (dsimp only; walk1) | (leave1; try dsimp only) | ((with_reducible show wpAny _ _ _ _ _ _); dsimp only)))
      rename Fr _ _ _ _ => F6
      rename News _ _ _ _ => N6
      rename IsRange _ _ _ _ _ _ _ _ => hr
      have N7 := pick4 N6
      obtain ⟨oH, eoH⟩ := led_obj3 N7
      subst eoH
      clear N6
      refine Stop.out (.inr ⟨_, _, _, _, _, _, M.length, _, rfl, rfl, F6, N7, hr, small_up (by omega) (by omega) (by omega) (by omega), by rw [rangeSize_up]; simp, Nat.le_trans (Nat.le_of_lt hMl) (by decide), ?_⟩)
      rintro _ ⟨g3, rfl⟩
      refine compRest_ind _ (fun i zs nx => ∃ tl, nx = (D4, lst ys2) :: (D2, lst ys) :: (L' + 1 + 1 + 1, oH) :: (L' + 1 + 1, oL) :: tl ∧ PairsR (Nw tl) zs (M.take i)) ?_ ?_ _ _ _ _ (Nat.zero_add _) ⟨[], rfl, .nil⟩
      · rintro zs nx ⟨tl, rfl, hR⟩
        rw [List.take_length] at hR
        have hzl := hR.length
        intro D5 h6 tk6 F8 N8 off7
        clear F6 N7
        dsimp only
        (repeat' (first | (k_unfold; (try dsimp only)) | (k_end; wrow_close) | ((with_reducible show wpAny _ _ (call _ _ _) _ _ _); first | ((with_reducible show wpAny _ _ (call (Value.type _) [Value.ref _]) _ _ _); k_here; k_dflt (refine' kde_tupleOf (by k_asm) (by k_asm) (by exact News.isList (by k_asm) (by k_mem)) (by (simp only [List.size_toArray]; omega)) (by exact rfl) ?_; k_whole); intro _ _ _ _ l1; (try k_lt l1); (try k_sweep; revert l1; intro _)) | ((with_reducible show wpAny _ _ (call (Value.builtin "len") [Value.ref _]) _ _ _); k_here; k_dflt (refine' len_listN (by exact News.isList (by k_asm) (by k_mem)) (by assumption) (by omega) ?_; k_whole); (try dsimp only)) | ((with_reducible show wpAny _ _ (call (Value.builtin "sorted") [Value.ref _]) _ _ _); k_here; (k_dflt (refine' sorted_S (by exact rfl) (by k_asm) (by k_asm) (by exact Fr.keep (by k_asm) _ _ (by assumption)) (by assumption) (by assumption) (by assumption) ?_; k_whole)); intro _ _ _ _ _ _ _ _ l1 _ _ _; (try k_lt l1); (try k_sweep; revert l1; intro _))) | ((with_reducible show CompSrc _ _ _ _ _ _ _ _ _ _ _ _ _ _); refine Stop.intro ?_) | ((with_reducible show wpAny _ _ (subscriptTail _ _ _ _) _ _ _); first | ((with_reducible show wpAny _ _ (subscriptTail _ _ (Value.ref _) (Value.int _ _)) _ _ _); k_here; k_dflt (refine' item_listI (by exact News.isList (by k_asm) (by k_mem)) (by assumption) (by first | rfl | omega) (by omega) ?_ (by with_unfolding_all rfl); k_whole))) | ((with_reducible show wpAny _ _ (compareOp _ _ _) _ _ _); first | ((with_reducible show wpAny _ _ (compareOp CmpOp.NotIn (Value.int _ _) (Value.ref _)) _ _ _); k_here; (k_dflt (refine' notin_S (by exact Fr.keep (by k_asm) _ _ (by assumption)) (by assumption) (by assumption) ?_; k_whole)); (try dsimp only))) | ((with_reducible show wpAny _ _ (PySem.exec _ _) _ _ _); first | ((with_reducible show wpAny _ _ (PySem.exec (PySem.Stmt.Assign [PySem.Expr.Name _ _] (PySem.Expr.ListComp _ _ _ _) _) _) _ _ _); refine Stop.intro ?_)) | ((with_reducible show wpAny _ _ (PySem.eval _ _) _ _ _); first | ((with_reducible show wpAny _ _ (PySem.eval (PySem.Expr.ListComp _ _ _ _) _) _ _ _); refine Stop.intro ?_)) | walk1 | (dsimp only; walk1) | (leave1; try dsimp only) | ((with_reducible show wpAny _ _ _ _ _ _); dsimp only)))
        rename News s.heap _ _ _ => N9
        rename Fr s.heap _ _ _ => F9
        refine ret _ zs _ ((D5, lst zs) :: (D4, lst ys2) :: (D2, lst ys) :: (L' + 1 + 1 + 1, oH) :: (L' + 1 + 1, oL) :: tl) _ _ (Fr.keep F9) (fun q hq => ⟨(N9 q (.tail _ hq)).2.2, (N9 q (.tail _ hq)).1⟩) (N9 _ (.head _)).2.2 (N9 _ (.head _)).1 ?_
        exact hR.mono (Nw.mono fun q hq => .tail _ (.tail _ (.tail _ (.tail _ (.tail _ hq)))))
      · rintro j zs nx v I oI C oC D m₂ h6 tk6 E' hj ⟨tl, rfl, hR⟩ ⟨tj, rfl⟩ hoC hx F8 N8 of3 hne
        obtain ⟨⟨x, y⟩, hMj⟩ : ∃ p, M[j]? = some p := ⟨_, List.getElem?_eq_getElem hj⟩
        obtain ⟨t1, hv1⟩ := ints_at hy (i := j) (k := x) (by simp [hMj])
        obtain ⟨t2, hv2⟩ := ints_at hy2 (i := j) (k := y) (by simp [hMj])
        clear F6 N7
        dsimp only
        (repeat' (first | (k_unfold; (try dsimp only)) | (k_end; wrow_close) | ((with_reducible show wpAny _ _ (call _ _ _) _ _ _); first | ((with_reducible show wpAny _ _ (call (Value.type _) [Value.ref _]) _ _ _); k_here; k_dflt (refine' kde_tupleOf (by k_asm) (by k_asm) (by exact News.isList (by k_asm) (by k_mem)) (by (simp only [List.size_toArray]; omega)) (by exact rfl) ?_; k_whole); intro _ _ _ _ l1; (try k_lt l1); (try k_sweep; revert l1; intro _)) | ((with_reducible show wpAny _ _ (call (Value.builtin "len") [Value.ref _]) _ _ _); k_here; k_dflt (refine' len_listN (by exact News.isList (by k_asm) (by k_mem)) (by assumption) (by omega) ?_; k_whole); (try dsimp only)) | ((with_reducible show wpAny _ _ (call (Value.builtin "sorted") [Value.ref _]) _ _ _); k_here; (k_dflt (refine' sorted_S (by exact rfl) (by k_asm) (by k_asm) (by exact Fr.keep (by k_asm) _ _ (by assumption)) (by assumption) (by assumption) (by assumption) ?_; k_whole)); intro _ _ _ _ _ _ _ _ l1 _ _ _; (try k_lt l1); (try k_sweep; revert l1; intro _))) | ((with_reducible show CompSrc _ _ _ _ _ _ _ _ _ _ _ _ _ _); refine Stop.intro ?_) | ((with_reducible show wpAny _ _ (subscriptTail _ _ _ _) _ _ _); first | ((with_reducible show wpAny _ _ (subscriptTail _ _ (Value.ref _) (Value.int _ _)) _ _ _); k_here; k_dflt (refine' item_listI (by exact News.isList (by k_asm) (by k_mem)) (by assumption) (by first | rfl | omega) (by omega) ?_ (by with_unfolding_all rfl); k_whole))) | ((with_reducible show wpAny _ _ (compareOp _ _ _) _ _ _); first | ((with_reducible show wpAny _ _ (compareOp CmpOp.NotIn (Value.int _ _) (Value.ref _)) _ _ _); k_here; (k_dflt (refine' notin_S (by exact Fr.keep (by k_asm) _ _ (by assumption)) (by assumption) (by assumption) ?_; k_whole)); (try dsimp only))) | ((with_reducible show wpAny _ _ (PySem.exec _ _) _ _ _); first | ((with_reducible show wpAny _ _ (PySem.exec (PySem.Stmt.Assign [PySem.Expr.Name _ _] (PySem.Expr.ListComp _ _ _ _) _) _) _ _ _); refine Stop.intro ?_)) | ((with_reducible show wpAny _ _ (PySem.eval _ _) _ _ _); first | ((with_reducible show wpAny _ _ (PySem.eval (PySem.Expr.ListComp _ _ _ _) _) _ _ _); refine Stop.intro ?_)) | walk1 | (dsimp only; walk1) | (leave1; try dsimp only) | ((with_reducible show wpAny _ _ _ _ _ _); dsimp only)))
        rename News _ _ _ _ => N9; rename Fr _ _ _ _ => F9
        rename _ ∧ _ ∧ _ ∧ _ ∧ _ ∧ _ ∧ _ ∧ AllLt _ _ => lt9
        refine CompEnd.intro F9 N9 ((D4, lst ys2) :: (D2, lst ys) :: (L' + 1 + 1 + 1, oH) :: (L' + 1 + 1, oL) :: _ :: tl) (pick5 N9) ?_ trivial ⟨_, rfl, ?_⟩
        · obtain ⟨a1, a2, a3, a4, a5⟩ := of3
          obtain ⟨b1, b2, b3, _⟩ := lt9
          exact ⟨a1, a2, a3, a4, ⟨Nat.ne_of_gt b1, Nat.ne_of_gt b2, Nat.ne_of_gt b3⟩, a5⟩
        · rw [List.take_add_one, hMj, Option.toList_some]
          exact (hR.mono (Nw.mono fun q hq => .tail _ hq)).append (.one (.mk (n := 0) (.head _)))
    · rintro j ys2 nx v I oI C oC D m₂ h4 tk4 E' hj ⟨rfl, hy2⟩ hP hoC hx F5 N5 of3 hne
      obtain ⟨kk, tt, hvk, rfl⟩ := ints_get hi3 (by simpa using hP)
      obtain ⟨hk0, hk1⟩ := hb kk ((hmem2 kk).mp (List.mem_of_getElem? hvk))
      clear F4 N4
      dsimp only
      (repeat' (first | (k_unfold; (try dsimp only)) | (k_end; wrow_close) | ((with_reducible show wpAny _ _ (call _ _ _) _ _ _); first | ((with_reducible show wpAny _ _ (call (Value.type _) [Value.ref _]) _ _ _); k_here; k_dflt (refine' kde_tupleOf (by k_asm) (by k_asm) (by exact News.isList (by k_asm) (by k_mem)) (by (simp only [List.size_toArray]; omega)) (by exact rfl) ?_; k_whole); intro _ _ _ _ l1; (try k_lt l1); (try k_sweep; revert l1; intro _)) | ((with_reducible show wpAny _ _ (call (Value.builtin "len") [Value.ref _]) _ _ _); k_here; k_dflt (refine' len_listN (by exact News.isList (by k_asm) (by k_mem)) (by assumption) (by omega) ?_; k_whole); (try dsimp only)) | ((with_reducible show wpAny _ _ (call (Value.builtin "sorted") [Value.ref _]) _ _ _); k_here; (k_dflt (refine' sorted_S (by exact rfl) (by k_asm) (by k_asm) (by exact Fr.keep (by k_asm) _ _ (by assumption)) (by assumption) (by assumption) (by assumption) ?_; k_whole)); intro _ _ _ _ _ _ _ _ l1 _ _ _; (try k_lt l1); (try k_sweep; revert l1; intro _))) | ((with_reducible show CompSrc _ _ _ _ _ _ _ _ _ _ _ _ _ _); refine Stop.intro ?_) | ((with_reducible show wpAny _ _ (subscriptTail _ _ _ _) _ _ _); first | ((with_reducible show wpAny _ _ (subscriptTail _ _ (Value.ref _) (Value.int _ _)) _ _ _); k_here; k_dflt (refine' item_listI (by exact News.isList (by k_asm) (by k_mem)) (by assumption) (by first | rfl | omega) (by omega) ?_ (by with_unfolding_all rfl); k_whole))) | ((with_reducible show wpAny _ _ (compareOp _ _ _) _ _ _); first | ((with_reducible show wpAny _ _ (compareOp CmpOp.NotIn (Value.int _ _) (Value.ref _)) _ _ _); k_here; (k_dflt (refine' notin_S (by exact Fr.keep (by k_asm) _ _ (by assumption)) (by assumption) (by assumption) ?_; k_whole)); (try dsimp only))) | ((with_reducible show wpAny _ _ (PySem.exec _ _) _ _ _); first | ((with_reducible show wpAny _ _ (PySem.exec (PySem.Stmt.Assign [PySem.Expr.Name _ _] (PySem.Expr.ListComp _ _ _ _) _) _) _ _ _); refine Stop.intro ?_)) | ((with_reducible show wpAny _ _ (PySem.eval _ _) _ _ _); first | ((with_reducible show wpAny _ _ (PySem.eval (PySem.Expr.ListComp _ _ _ _) _) _ _ _); refine Stop.intro ?_)) | walk1 | (dsimp only; walk1) | (leave1; try dsimp only) | ((with_reducible show wpAny _ _ _ _ _ _); dsimp only)))
      all_goals
        refine CompEnd.intro F5 N5 [(D3, W.listOf vs2.toArray c2), (D2, lst ys), (D1, W.listOf vs1.toArray c1), (L' + 1 + 1 + 1, o3), (L' + 1 + 1, oL), (L' + 1, o1)] (fun _ h => h) of3 (.inr ⟨_, .head _, rfl, _, rfl⟩) ⟨rfl, ?_⟩
        rw [List.take_add_one, hvk, Option.toList_some, List.filter_append]
      · rw [List.filter_cons_of_neg (by simpa using (by assumption : kk + 1 ∈ ks)), List.filter_nil, List.append_nil]
        exact hy2
      · rw [List.filter_cons_of_pos (by simpa using (by assumption : ¬ kk + 1 ∈ ks)), List.filter_nil]
        exact IntsAre.append hy2 (.cons _ _ .nil)
  · rintro j ys nx v I oI C oC D m₂ h2 tk3 E' hj ⟨rfl, hy⟩ hP hoC hx F3 N3 of3 hne
    obtain ⟨kk, tt, hvk, rfl⟩ := ints_get hi2 (by simpa using hP)
    obtain ⟨hk0, hk1⟩ := hb kk ((hmem1 kk).mp (List.mem_of_getElem? hvk))
    clear F2 N2
    dsimp only
    (repeat' (first | (k_unfold; (try dsimp only)) | (k_end; wrow_close) | ((with_reducible show wpAny _ _ (call _ _ _) _ _ _); first | ((with_reducible show wpAny _ _ (call (Value.type _) [Value.ref _]) _ _ _); k_here; k_dflt (refine' kde_tupleOf (by k_asm) (by k_asm) (by exact News.isList (by k_asm) (by k_mem)) (by (simp only [List.size_toArray]; omega)) (by exact rfl) ?_; k_whole); intro _ _ _ _ l1; (try k_lt l1); (try k_sweep; revert l1; intro _)) | ((with_reducible show wpAny _ _ (call (Value.builtin "len") [Value.ref _]) _ _ _); k_here; k_dflt (refine' len_listN (by exact News.isList (by k_asm) (by k_mem)) (by assumption) (by omega) ?_; k_whole); (try dsimp only)) | ((with_reducible show wpAny _ _ (call (Value.builtin "sorted") [Value.ref _]) _ _ _); k_here; (k_dflt (refine' sorted_S (by exact rfl) (by k_asm) (by k_asm) (by exact Fr.keep (by k_asm) _ _ (by assumption)) (by assumption) (by assumption) (by assumption) ?_; k_whole)); intro _ _ _ _ _ _ _ _ l1 _ _ _; (try k_lt l1); (try k_sweep; revert l1; intro _))) | ((with_reducible show CompSrc _ _ _ _ _ _ _ _ _ _ _ _ _ _); refine Stop.intro ?_) | ((with_reducible show wpAny _ _ (subscriptTail _ _ _ _) _ _ _); first | ((with_reducible show wpAny _ _ (subscriptTail _ _ (Value.ref _) (Value.int _ _)) _ _ _); k_here; k_dflt (refine' item_listI (by exact News.isList (by k_asm) (by k_mem)) (by assumption) (by first | rfl | omega) (by omega) ?_ (by with_unfolding_all rfl); k_whole))) | ((with_reducible show wpAny _ _ (compareOp _ _ _) _ _ _); first | ((with_reducible show wpAny _ _ (compareOp CmpOp.NotIn (Value.int _ _) (Value.ref _)) _ _ _); k_here; (k_dflt (refine' notin_S (by exact Fr.keep (by k_asm) _ _ (by assumption)) (by assumption) (by assumption) ?_; k_whole)); (try dsimp only))) | ((with_reducible show wpAny _ _ (PySem.exec _ _) _ _ _); first | ((with_reducible show wpAny _ _ (PySem.exec (PySem.Stmt.Assign [PySem.Expr.Name _ _] (PySem.Expr.ListComp _ _ _ _) _) _) _ _ _); refine Stop.intro ?_)) | ((with_reducible show wpAny _ _ (PySem.eval _ _) _ _ _); first | ((with_reducible show wpAny _ _ (PySem.eval (PySem.Expr.ListComp _ _ _ _) _) _ _ _); refine Stop.intro ?_)) | walk1 | (dsimp only; walk1) | (leave1; try dsimp only) | ((with_reducible show wpAny _ _ _ _ _ _); dsimp only)))
    all_goals
      refine CompEnd.intro F3 N3 [(D1, W.listOf vs1.toArray c1), (L' + 1 + 1 + 1, o3), (L' + 1 + 1, o2), (L' + 1, o1)] (fun _ h => h) of3 (.inr ⟨_, .head _, rfl, _, rfl⟩) ⟨rfl, ?_⟩
      rw [List.take_add_one, hvk, Option.toList_some, List.filter_append]
    · rw [List.filter_cons_of_neg (by simpa using (by assumption : kk - 1 ∈ ks)), List.filter_nil, List.append_nil]
      exact hy
    · rw [List.filter_cons_of_pos (by simpa using (by assumption : ¬ kk - 1 ∈ ks)), List.filter_nil]
      exact IntsAre.append hy (.cons _ _ .nil)
end
end
section
theorem off_members : True := by
  w_top off
  trivial
theorem ints_snoc {vs : List Value} {ns : List Int} {g : Int} (h : IntsAre vs (ns ++ [g])) : ∃ ws t, vs = ws ++ [.int g t] ∧ IntsAre ws ns := by
  induction ns generalizing vs with
  | nil => cases h with
    | cons _ t h => cases h; exact ⟨[], t, rfl, .nil⟩
  | cons a ns ih => cases h with
    | cons _ t h =>
      obtain ⟨ws, u, rfl, hw⟩ := ih h
      exact ⟨_ :: ws, u, rfl, .cons _ _ hw⟩
section
variable {M : List (Int × Int)} {p : Int → Bool} {k x y : Int} {i : Nat}
theorem cov_end (hc : ∀ k, Cov M k ↔ p k = true) (hl : ∀ q ∈ M.take i, q.2 < k) (hi : ¬ i < M.length) : p k = false := by
  rw [List.take_of_length_le (by (first | lia | omega))] at hl
  cases e : p k with
  | false => rfl
  | true =>
    obtain ⟨q, hq, h⟩ := (hc k).mpr e
    have := hl q hq; (first | lia | omega)
theorem cov_yes (hc : ∀ k, Cov M k ↔ p k = true) (hi : M[i]? = some (x, y)) (h1 : x ≤ k) (h2 : ¬ y < k) : p k = true := (hc k).mp ⟨(x, y), List.mem_of_getElem? hi, h1, by dsimp only; (first | lia | omega)⟩
theorem cov_no (hM : Runs M) (hc : ∀ k, Cov M k ↔ p k = true) (hl : ∀ q ∈ M.take i, q.2 < k) (hi : M[i]? = some (x, y)) (h1 : ¬ x ≤ k) : p k = false := by
  cases e : p k with
  | false => rfl
  | true =>
    obtain ⟨q, hq, h⟩ := (hc k).mpr e
    rw [← List.take_append_drop i M] at hq
    rcases List.mem_append.mp hq with hq | hq
    · have := hl q hq; (first | lia | omega)
    · obtain ⟨hlt, e'⟩ := List.getElem?_eq_some_iff.mp hi
      rw [List.drop_eq_getElem_cons hlt, e'] at hq
      rcases List.mem_cons.mp hq with rfl | hq
      · exact absurd h.1 h1
      · have hp := hM.2
        rw [← List.take_append_drop i M, List.drop_eq_getElem_cons hlt, e'] at hp
        have := (List.pairwise_cons.mp (List.pairwise_append.mp hp).2.1).1 q hq
        have := hM.1 _ (List.mem_of_getElem? hi)
        dsimp only at *
        (first | lia | omega)
end
theorem own2 {ra o : Addr} {x : Obj} {tl : List (Addr × Obj)} (h : @LT.lt Nat _ ra o ∧ AllLt o tl) : OwnOff ((ra, x) :: tl) [o] := fun p hp b hb => by
  rw [List.mem_singleton.mp hb]
  rcases List.mem_cons.mp hp with rfl | hp
  · exact Nat.ne_of_lt h.1
  · exact Nat.ne_of_lt (allLt_mem h.2 p hp)
theorem asc_get {ns : List Int} (h : ns.Pairwise (· < ·)) {i j : Nat} {a b : Int} (hij : i < j) (ha : ns[i]? = some a) (hb : ns[j]? = some b) : a < b := by
  obtain ⟨h1, rfl⟩ := List.getElem?_eq_some_iff.mp ha
  obtain ⟨h2, rfl⟩ := List.getElem?_eq_some_iff.mp hb
  exact List.pairwise_iff_getElem.mp h i j h1 h2 hij
theorem len_tupN {prog : Program} {w : World} {A : Around} {E : Value → Shared → Prop} {s : Shared} {t : Addr} {l : List Value} {n : Nat} {Q : Value → Shared → Prop} (ht : IsTup s.heap t l.toArray) (e : l.length = n) (hz : n ≤ 1000)
    (h : Q (.int n (s.toks + 1)) { s with toks := s.toks + 1 + 1 }) : wpAny (model prog w) A (call (.builtin "len") [.ref t]) Q E s := by
  subst e; exact len_tupL ht hz h
section
variable {w : World} {mean : ExcName → Option Value} {mg mb : Str → Option Value} {dp un : Nat} {gd : Option (List Code)} {cn : Str} {cs : Scope} {a : Addr} {ccd : Value} {cl : List (Str × Addr)} {outer : List Env} {A₀ : Around} {base h₀ : Heap} {L : Addr} {m : Str → Option Value} {s : Shared} {Q E : Value → Shared → Prop}
   (B : Below A₀ base outer h₀) (F : Fr h₀ L s.heap m) (X : (hd.heap_39 w.params).In h₀) (T : TopH mean mg mb h₀) (hk : cs.kind = .function)
include B F X T hk
theorem c_members {pa na : Addr} {n nn : Nat} {vs nvs : List Value} {ps : List (Int × Int)} {ns : List Int} (hv : hp s.heap pa (tupO vs n)) (hps : PairsR (hp s.heap) vs ps) (hsm : ∀ p ∈ ps, Small p) (hql : vs.length < 64)
   (hnv : hp s.heap na (W.listOf nvs.toArray nn)) (hin : IntsAre nvs ns) (hnl : ns.length ≤ 100) (hasc : ns.Pairwise (· < ·)) (hnb : ∀ k ∈ ns, 0 ≤ k ∧ k ≤ 100)
   (hdp : dp + 100 < recursionLimit) (hu : un + 400 < cLine)
   (ret : ∀ a ws k h' tk', s.heap.StaysIn h' → s.heap.get? a = none → h'.get? a = some (W.listOf ws.toArray k) → IntsAre ws (ns.filter (hasP ps (ns.getLastD 0))) → Q (.ref a) { s with heap := h', toks := tk' }) :
   wpAny (model PySem.Challenge.rw_no0356_01.row.prog w) (ktrTop dp un gd cn cs L a ccd cl outer) (call (.ref 122) [.ref pa, .ref na]) Q E s := by
  have hlen : nvs.length = ns.length := hin.length
  have hT : s.heap.IsList na nvs.toArray := ⟨_, hnv, rfl, _, rfl⟩
  revert X; k_fill; intro X
  refine wpAny_call ?_
  k_dflt (refine' code_pure (binds := [("some", .ref pa), ("numbers", .ref na)]) ?k1 ?k2 ?k3 ?k5 ?kA ?kF ?kK ?k6 ?k7 ?k8 ?k9 ?kB ?_ ?c2 ?c3 ?c4 ?c5; (case kA => exact rfl); (case kF => exact rfl); (case kK => assumption); (case k1 => k_asm); (case k2 => k_asm); (case k3 => k_asm); (case k5 => k_asm); (case k6 => k_is); (case k7 => k_is); (case k8 => exact Nat.lt_of_le_of_lt (Nat.le_add_right _ _) hdp); (case k9 => exact BindsTo.of_eq rfl); (case c5 => decide); (case kB => exact locs rfl); (case c2 => exact rfl); (case c3 => exact rfl); (case c4 => exact rfl); k_whole; intro L' h' F' N' B' X' T'; (try dsimp only); (try dsimp only [List.reverse, List.reverseAux] at F'); (try k_lift B'); (try k_fold))
  rcases List.eq_nil_or_concat ns with rfl | ⟨ns', g, e⟩
  · cases hin
    (repeat' (first | (k_unfold; (try dsimp only)) | (k_end; wrow_close) | ((with_reducible show wpAny _ _ (subscriptTail _ _ _ _) _ _ _); first | ((with_reducible show wpAny _ _ (subscriptTail _ _ (Value.ref _) (Value.int 1 _)) _ _ _); k_here; k_dflt (refine' item_tupI (i := 1) (by exact isTup_in (by k_asm) (by k_asm) (by assumption) (by first | ((intro q' hq'; first | exact hq' | (simp only [List.mem_cons, List.mem_append] at hq' ⊢; simp only [hq', true_or, or_true]; done))) | (first | ((intro q' hq'; simp only [List.mem_cons, List.mem_append] at hq' ⊢; first | (rcases hq' with hq' | hq' <;> (simp only [hq', true_or, or_true]; done)) | (rcases hq' with hq' | hq' | hq' <;> (simp only [hq', true_or, or_true]; done)) | (rcases hq' with hq' | hq' | hq' | hq' <;> (simp only [hq', true_or, or_true]; done)) | (rcases hq' with hq' | hq' | hq' | hq' | hq' <;> (simp only [hq', true_or, or_true]; done)) | (simp only [hq', true_or, or_true]; done))) | ((intro q' hq'; first | exact hq' | exact .tail _ hq' | exact .tail _ (.tail _ hq') | exact .tail _ (.tail _ (.tail _ hq')) | (simp only [List.mem_cons, List.mem_append] at hq' ⊢; simp only [hq', true_or, or_true]; done)))))) (by exact rfl) (by exact rfl) (by exact Nat.le_of_ble_eq_true rfl) ?_ (by with_unfolding_all rfl); k_whole); (try dsimp only)) | ((with_reducible show wpAny _ _ (subscriptTail _ _ (Value.ref _) (Value.int 0 _)) _ _ _); k_here; k_dflt (refine' item_tupI (i := 0) (by exact isTup_in (by k_asm) (by k_asm) (by assumption) (by first | ((intro q' hq'; first | exact hq' | (simp only [List.mem_cons, List.mem_append] at hq' ⊢; simp only [hq', true_or, or_true]; done))) | (first | ((intro q' hq'; simp only [List.mem_cons, List.mem_append] at hq' ⊢; first | (rcases hq' with hq' | hq' <;> (simp only [hq', true_or, or_true]; done)) | (rcases hq' with hq' | hq' | hq' <;> (simp only [hq', true_or, or_true]; done)) | (rcases hq' with hq' | hq' | hq' | hq' <;> (simp only [hq', true_or, or_true]; done)) | (rcases hq' with hq' | hq' | hq' | hq' | hq' <;> (simp only [hq', true_or, or_true]; done)) | (simp only [hq', true_or, or_true]; done))) | ((intro q' hq'; first | exact hq' | exact .tail _ hq' | exact .tail _ (.tail _ hq') | exact .tail _ (.tail _ (.tail _ hq')) | (simp only [List.mem_cons, List.mem_append] at hq' ⊢; simp only [hq', true_or, or_true]; done)))))) (by exact rfl) (by exact rfl) (by exact Nat.le_of_ble_eq_true rfl) ?_ (by with_unfolding_all rfl); k_whole); (try dsimp only)) | ((with_reducible show wpAny _ _ (subscriptTail _ _ (Value.ref _) (Value.int _ _)) _ _ _); k_here; k_dflt (refine' item_tupI (by exact isTup_in (by k_asm) (by k_asm) (by assumption) (by first | ((intro q' hq'; first | exact hq' | (simp only [List.mem_cons, List.mem_append] at hq' ⊢; simp only [hq', true_or, or_true]; done))) | (first | ((intro q' hq'; simp only [List.mem_cons, List.mem_append] at hq' ⊢; first | (rcases hq' with hq' | hq' <;> (simp only [hq', true_or, or_true]; done)) | (rcases hq' with hq' | hq' | hq' <;> (simp only [hq', true_or, or_true]; done)) | (rcases hq' with hq' | hq' | hq' | hq' <;> (simp only [hq', true_or, or_true]; done)) | (rcases hq' with hq' | hq' | hq' | hq' | hq' <;> (simp only [hq', true_or, or_true]; done)) | (simp only [hq', true_or, or_true]; done))) | ((intro q' hq'; first | exact hq' | exact .tail _ hq' | exact .tail _ (.tail _ hq') | exact .tail _ (.tail _ (.tail _ hq')) | (simp only [List.mem_cons, List.mem_append] at hq' ⊢; simp only [hq', true_or, or_true]; done)))))) (by first | assumption | exact rfl) (by first | rfl | omega) (by first | omega | exact Nat.le_of_ble_eq_true rfl) ?_ (by with_unfolding_all rfl); k_whole); (try dsimp only))) | ((with_reducible show wpAny _ _ (call _ _ _) _ _ _); first | ((with_reducible show wpAny _ _ (call (Value.builtin "len") [Value.ref _]) _ _ _); k_here; k_dflt (refine' len_tupN (by exact isTup_in (by k_asm) (by k_asm) (by assumption) (by first | ((intro q' hq'; first | exact hq' | (simp only [List.mem_cons, List.mem_append] at hq' ⊢; simp only [hq', true_or, or_true]; done))) | (first | ((intro q' hq'; simp only [List.mem_cons, List.mem_append] at hq' ⊢; first | (rcases hq' with hq' | hq' <;> (simp only [hq', true_or, or_true]; done)) | (rcases hq' with hq' | hq' | hq' <;> (simp only [hq', true_or, or_true]; done)) | (rcases hq' with hq' | hq' | hq' | hq' <;> (simp only [hq', true_or, or_true]; done)) | (rcases hq' with hq' | hq' | hq' | hq' | hq' <;> (simp only [hq', true_or, or_true]; done)) | (simp only [hq', true_or, or_true]; done))) | ((intro q' hq'; first | exact hq' | exact .tail _ hq' | exact .tail _ (.tail _ hq') | exact .tail _ (.tail _ (.tail _ hq')) | (simp only [List.mem_cons, List.mem_append] at hq' ⊢; simp only [hq', true_or, or_true]; done)))))) (by assumption) (by omega) ?_; k_whole); (try dsimp only)) | ((with_reducible show wpAny _ _ (call (Value.builtin "len") [Value.ref _]) _ _ _); k_here; k_dflt (refine' len_listN (by exact Fr.lst (by assumption) (by assumption)) (by assumption) (by omega) ?_; k_whole); (try dsimp only)) | ((with_reducible show wpAny _ _ (call (Value.ref 108) _) _ _ _); k_here; (k_dflt (refine' c_plain_set (by k_asm) (by k_asm) (by k_asm) (by k_asm) (by exact rfl) (by exact Fr.keep (by k_asm) _ _ (by assumption)) (by exact PairsR.mono (by assumption) (Fr.keep (by k_asm))) (by assumption) (by assumption) (by assumption) (by (first | exact room_sub (by assumption) (by decide) | exact room_sub3 (by assumption) (by decide))) (by (first | exact room_sub (by assumption) (by decide) | exact room_sub3 (by assumption) (by decide))) ?_; k_whole)); refine Stop.intro ?_)) | ((with_reducible show wpAny _ _ (PySem.pyIter _) _ _ _); first | ((with_reducible show wpAny _ _ (PySem.pyIter _) _ _ _); refine Stop.intro ?_)) | ((with_reducible show wpAny _ _ (PySem.exec _ _) _ _ _); first | ((with_reducible show wpAny _ _ (PySem.exec (PySem.Stmt.For _ _ _ _ _) _) _ _ _); refine Stop.intro ?_) | ((with_reducible show wpAny _ _ (PySem.exec (PySem.Stmt.While _ _ _ _) _) _ _ _); refine Stop.intro ?_)) | walk1 | (dsimp only; walk1) | (leave1; try dsimp only) | ((with_reducible show wpAny _ _ _ _ _ _); dsimp only)))
    rename News s.heap _ _ _ => N9
    exact ret _ [] _ _ _ (Fr.keep (by assumption)) (N9 _ (.head _)).2.2 (N9 _ (.head _)).1 .nil
  · rw [List.concat_eq_append] at e
    subst e
    obtain ⟨nws, tg, rfl, hin'⟩ := ints_snoc hin
    have hg : 0 ≤ g ∧ g ≤ 100 := hnb g (List.mem_append_right _ (.head _))
    have hlast : (ns' ++ [g]).getLastD 0 = g := by simp
    rw [hlast] at ret
    have hpos : (0 : Int) < ((ns' ++ [g]).length : Int) := by rw [List.length_append, List.length_singleton]; (first | lia | omega)
    have hgd : (ns' ++ [g]).getD (-1 + ((ns' ++ [g]).length : Int)).toNat 0 = g := by
      rw [show (-1 + ((ns' ++ [g]).length : Int)).toNat = ns'.length by rw [List.length_append, List.length_singleton]; (first | lia | omega)]
      simp
    generalize hN : ns' ++ [g] = ns at *
    generalize hNV : nws ++ [Value.int g tg] = nvs at *
    (repeat' (first | (k_unfold; (try dsimp only)) | (k_end; wrow_close) | ((with_reducible show wpAny _ _ (subscriptTail _ _ _ _) _ _ _); first | ((with_reducible show wpAny _ _ (subscriptTail _ _ (Value.ref _) (Value.int 1 _)) _ _ _); k_here; k_dflt (refine' item_tupI (i := 1) (by exact isTup_in (by k_asm) (by k_asm) (by assumption) (by first | ((intro q' hq'; first | exact hq' | (simp only [List.mem_cons, List.mem_append] at hq' ⊢; simp only [hq', true_or, or_true]; done))) | (first | ((intro q' hq'; simp only [List.mem_cons, List.mem_append] at hq' ⊢; first | (rcases hq' with hq' | hq' <;> (simp only [hq', true_or, or_true]; done)) | (rcases hq' with hq' | hq' | hq' <;> (simp only [hq', true_or, or_true]; done)) | (rcases hq' with hq' | hq' | hq' | hq' <;> (simp only [hq', true_or, or_true]; done)) | (rcases hq' with hq' | hq' | hq' | hq' | hq' <;> (simp only [hq', true_or, or_true]; done)) | (simp only [hq', true_or, or_true]; done))) | ((intro q' hq'; first | exact hq' | exact .tail _ hq' | exact .tail _ (.tail _ hq') | exact .tail _ (.tail _ (.tail _ hq')) | (simp only [List.mem_cons, List.mem_append] at hq' ⊢; simp only [hq', true_or, or_true]; done)))))) (by exact rfl) (by exact rfl) (by exact Nat.le_of_ble_eq_true rfl) ?_ (by with_unfolding_all rfl); k_whole); (try dsimp only)) | ((with_reducible show wpAny _ _ (subscriptTail _ _ (Value.ref _) (Value.int 0 _)) _ _ _); k_here; k_dflt (refine' item_tupI (i := 0) (by exact isTup_in (by k_asm) (by k_asm) (by assumption) (by first | ((intro q' hq'; first | exact hq' | (simp only [List.mem_cons, List.mem_append] at hq' ⊢; simp only [hq', true_or, or_true]; done))) | (first | ((intro q' hq'; simp only [List.mem_cons, List.mem_append] at hq' ⊢; first | (rcases hq' with hq' | hq' <;> (simp only [hq', true_or, or_true]; done)) | (rcases hq' with hq' | hq' | hq' <;> (simp only [hq', true_or, or_true]; done)) | (rcases hq' with hq' | hq' | hq' | hq' <;> (simp only [hq', true_or, or_true]; done)) | (rcases hq' with hq' | hq' | hq' | hq' | hq' <;> (simp only [hq', true_or, or_true]; done)) | (simp only [hq', true_or, or_true]; done))) | ((intro q' hq'; first | exact hq' | exact .tail _ hq' | exact .tail _ (.tail _ hq') | exact .tail _ (.tail _ (.tail _ hq')) | (simp only [List.mem_cons, List.mem_append] at hq' ⊢; simp only [hq', true_or, or_true]; done)))))) (by exact rfl) (by exact rfl) (by exact Nat.le_of_ble_eq_true rfl) ?_ (by with_unfolding_all rfl); k_whole); (try dsimp only)) | ((with_reducible show wpAny _ _ (subscriptTail _ _ (Value.ref _) (Value.int _ _)) _ _ _); k_here; k_dflt (refine' item_tupI (by exact isTup_in (by k_asm) (by k_asm) (by assumption) (by first | ((intro q' hq'; first | exact hq' | (simp only [List.mem_cons, List.mem_append] at hq' ⊢; simp only [hq', true_or, or_true]; done))) | (first | ((intro q' hq'; simp only [List.mem_cons, List.mem_append] at hq' ⊢; first | (rcases hq' with hq' | hq' <;> (simp only [hq', true_or, or_true]; done)) | (rcases hq' with hq' | hq' | hq' <;> (simp only [hq', true_or, or_true]; done)) | (rcases hq' with hq' | hq' | hq' | hq' <;> (simp only [hq', true_or, or_true]; done)) | (rcases hq' with hq' | hq' | hq' | hq' | hq' <;> (simp only [hq', true_or, or_true]; done)) | (simp only [hq', true_or, or_true]; done))) | ((intro q' hq'; first | exact hq' | exact .tail _ hq' | exact .tail _ (.tail _ hq') | exact .tail _ (.tail _ (.tail _ hq')) | (simp only [List.mem_cons, List.mem_append] at hq' ⊢; simp only [hq', true_or, or_true]; done)))))) (by first | assumption | exact rfl) (by first | rfl | omega) (by first | omega | exact Nat.le_of_ble_eq_true rfl) ?_ (by with_unfolding_all rfl); k_whole); (try dsimp only))) | ((with_reducible show wpAny _ _ (call _ _ _) _ _ _); first | ((with_reducible show wpAny _ _ (call (Value.builtin "len") [Value.ref _]) _ _ _); k_here; k_dflt (refine' len_tupN (by exact isTup_in (by k_asm) (by k_asm) (by assumption) (by first | ((intro q' hq'; first | exact hq' | (simp only [List.mem_cons, List.mem_append] at hq' ⊢; simp only [hq', true_or, or_true]; done))) | (first | ((intro q' hq'; simp only [List.mem_cons, List.mem_append] at hq' ⊢; first | (rcases hq' with hq' | hq' <;> (simp only [hq', true_or, or_true]; done)) | (rcases hq' with hq' | hq' | hq' <;> (simp only [hq', true_or, or_true]; done)) | (rcases hq' with hq' | hq' | hq' | hq' <;> (simp only [hq', true_or, or_true]; done)) | (rcases hq' with hq' | hq' | hq' | hq' | hq' <;> (simp only [hq', true_or, or_true]; done)) | (simp only [hq', true_or, or_true]; done))) | ((intro q' hq'; first | exact hq' | exact .tail _ hq' | exact .tail _ (.tail _ hq') | exact .tail _ (.tail _ (.tail _ hq')) | (simp only [List.mem_cons, List.mem_append] at hq' ⊢; simp only [hq', true_or, or_true]; done)))))) (by assumption) (by omega) ?_; k_whole); (try dsimp only)) | ((with_reducible show wpAny _ _ (call (Value.builtin "len") [Value.ref _]) _ _ _); k_here; k_dflt (refine' len_listN (by exact Fr.lst (by assumption) (by assumption)) (by assumption) (by omega) ?_; k_whole); (try dsimp only)) | ((with_reducible show wpAny _ _ (call (Value.ref 108) _) _ _ _); k_here; (k_dflt (refine' c_plain_set (by k_asm) (by k_asm) (by k_asm) (by k_asm) (by exact rfl) (by exact Fr.keep (by k_asm) _ _ (by assumption)) (by exact PairsR.mono (by assumption) (Fr.keep (by k_asm))) (by assumption) (by assumption) (by assumption) (by (first | exact room_sub (by assumption) (by decide) | exact room_sub3 (by assumption) (by decide))) (by (first | exact room_sub (by assumption) (by decide) | exact room_sub3 (by assumption) (by decide))) ?_; k_whole)); refine Stop.intro ?_)) | ((with_reducible show wpAny _ _ (PySem.pyIter _) _ _ _); first | ((with_reducible show wpAny _ _ (PySem.pyIter _) _ _ _); refine Stop.intro ?_)) | ((with_reducible show wpAny _ _ (PySem.exec _ _) _ _ _); first | ((with_reducible show wpAny _ _ (PySem.exec (PySem.Stmt.For _ _ _ _ _) _) _ _ _); refine Stop.intro ?_) | ((with_reducible show wpAny _ _ (PySem.exec (PySem.Stmt.While _ _ _ _) _) _ _ _); refine Stop.intro ?_)) | walk1 | (dsimp only; walk1) | (leave1; try dsimp only) | ((with_reducible show wpAny _ _ _ _ _ _); dsimp only)))
    · (first | lia | omega)
    rw [hgd]
    (repeat' (first | (k_unfold; (try dsimp only)) | (k_end; wrow_close) | ((with_reducible show wpAny _ _ (subscriptTail _ _ _ _) _ _ _); first | ((with_reducible show wpAny _ _ (subscriptTail _ _ (Value.ref _) (Value.int 1 _)) _ _ _); k_here; k_dflt (refine' item_tupI (i := 1) (by exact isTup_in (by k_asm) (by k_asm) (by assumption) (by first | ((intro q' hq'; first | exact hq' | (simp only [List.mem_cons, List.mem_append] at hq' ⊢; simp only [hq', true_or, or_true]; done))) | (first | ((intro q' hq'; simp only [List.mem_cons, List.mem_append] at hq' ⊢; first | (rcases hq' with hq' | hq' <;> (simp only [hq', true_or, or_true]; done)) | (rcases hq' with hq' | hq' | hq' <;> (simp only [hq', true_or, or_true]; done)) | (rcases hq' with hq' | hq' | hq' | hq' <;> (simp only [hq', true_or, or_true]; done)) | (rcases hq' with hq' | hq' | hq' | hq' | hq' <;> (simp only [hq', true_or, or_true]; done)) | (simp only [hq', true_or, or_true]; done))) | ((intro q' hq'; first | exact hq' | exact .tail _ hq' | exact .tail _ (.tail _ hq') | exact .tail _ (.tail _ (.tail _ hq')) | (simp only [List.mem_cons, List.mem_append] at hq' ⊢; simp only [hq', true_or, or_true]; done)))))) (by exact rfl) (by exact rfl) (by exact Nat.le_of_ble_eq_true rfl) ?_ (by with_unfolding_all rfl); k_whole); (try dsimp only)) | ((with_reducible show wpAny _ _ (subscriptTail _ _ (Value.ref _) (Value.int 0 _)) _ _ _); k_here; k_dflt (refine' item_tupI (i := 0) (by exact isTup_in (by k_asm) (by k_asm) (by assumption) (by first | ((intro q' hq'; first | exact hq' | (simp only [List.mem_cons, List.mem_append] at hq' ⊢; simp only [hq', true_or, or_true]; done))) | (first | ((intro q' hq'; simp only [List.mem_cons, List.mem_append] at hq' ⊢; first | (rcases hq' with hq' | hq' <;> (simp only [hq', true_or, or_true]; done)) | (rcases hq' with hq' | hq' | hq' <;> (simp only [hq', true_or, or_true]; done)) | (rcases hq' with hq' | hq' | hq' | hq' <;> (simp only [hq', true_or, or_true]; done)) | (rcases hq' with hq' | hq' | hq' | hq' | hq' <;> (simp only [hq', true_or, or_true]; done)) | (simp only [hq', true_or, or_true]; done))) | ((intro q' hq'; first | exact hq' | exact .tail _ hq' | exact .tail _ (.tail _ hq') | exact .tail _ (.tail _ (.tail _ hq')) | (simp only [List.mem_cons, List.mem_append] at hq' ⊢; simp only [hq', true_or, or_true]; done)))))) (by exact rfl) (by exact rfl) (by exact Nat.le_of_ble_eq_true rfl) ?_ (by with_unfolding_all rfl); k_whole); (try dsimp only)) | ((with_reducible show wpAny _ _ (subscriptTail _ _ (Value.ref _) (Value.int _ _)) _ _ _); k_here; k_dflt (refine' item_tupI (by exact isTup_in (by k_asm) (by k_asm) (by assumption) (by first | ((intro q' hq'; first | exact hq' | (simp only [List.mem_cons, List.mem_append] at hq' ⊢; simp only [hq', true_or, or_true]; done))) | (first | ((intro q' hq'; simp only [List.mem_cons, List.mem_append] at hq' ⊢; first | (rcases hq' with hq' | hq' <;> (simp only [hq', true_or, or_true]; done)) | (rcases hq' with hq' | hq' | hq' <;> (simp only [hq', true_or, or_true]; done)) | (rcases hq' with hq' | hq' | hq' | hq' <;> (simp only [hq', true_or, or_true]; done)) | (rcases hq' with hq' | hq' | hq' | hq' | hq' <;> (simp only [hq', true_or, or_true]; done)) | (simp only [hq', true_or, or_true]; done))) | ((intro q' hq'; first | exact hq' | exact .tail _ hq' | exact .tail _ (.tail _ hq') | exact .tail _ (.tail _ (.tail _ hq')) | (simp only [List.mem_cons, List.mem_append] at hq' ⊢; simp only [hq', true_or, or_true]; done)))))) (by first | assumption | exact rfl) (by first | rfl | omega) (by first | omega | exact Nat.le_of_ble_eq_true rfl) ?_ (by with_unfolding_all rfl); k_whole); (try dsimp only))) | ((with_reducible show wpAny _ _ (call _ _ _) _ _ _); first | ((with_reducible show wpAny _ _ (call (Value.builtin "len") [Value.ref _]) _ _ _); k_here; k_dflt (refine' len_tupN (by exact isTup_in (by k_asm) (by k_asm) (by assumption) (by first | ((intro q' hq'; first | exact hq' | (simp only [List.mem_cons, List.mem_append] at hq' ⊢; simp only [hq', true_or, or_true]; done))) | (first | ((intro q' hq'; simp only [List.mem_cons, List.mem_append] at hq' ⊢; first | (rcases hq' with hq' | hq' <;> (simp only [hq', true_or, or_true]; done)) | (rcases hq' with hq' | hq' | hq' <;> (simp only [hq', true_or, or_true]; done)) | (rcases hq' with hq' | hq' | hq' | hq' <;> (simp only [hq', true_or, or_true]; done)) | (rcases hq' with hq' | hq' | hq' | hq' | hq' <;> (simp only [hq', true_or, or_true]; done)) | (simp only [hq', true_or, or_true]; done))) | ((intro q' hq'; first | exact hq' | exact .tail _ hq' | exact .tail _ (.tail _ hq') | exact .tail _ (.tail _ (.tail _ hq')) | (simp only [List.mem_cons, List.mem_append] at hq' ⊢; simp only [hq', true_or, or_true]; done)))))) (by assumption) (by omega) ?_; k_whole); (try dsimp only)) | ((with_reducible show wpAny _ _ (call (Value.builtin "len") [Value.ref _]) _ _ _); k_here; k_dflt (refine' len_listN (by exact Fr.lst (by assumption) (by assumption)) (by assumption) (by omega) ?_; k_whole); (try dsimp only)) | ((with_reducible show wpAny _ _ (call (Value.ref 108) _) _ _ _); k_here; (k_dflt (refine' c_plain_set (by k_asm) (by k_asm) (by k_asm) (by k_asm) (by exact rfl) (by exact Fr.keep (by k_asm) _ _ (by assumption)) (by exact PairsR.mono (by assumption) (Fr.keep (by k_asm))) (by assumption) (by assumption) (by assumption) (by (first | exact room_sub (by assumption) (by decide) | exact room_sub3 (by assumption) (by decide))) (by (first | exact room_sub (by assumption) (by decide) | exact room_sub3 (by assumption) (by decide))) ?_; k_whole)); refine Stop.intro ?_)) | ((with_reducible show wpAny _ _ (PySem.pyIter _) _ _ _); first | ((with_reducible show wpAny _ _ (PySem.pyIter _) _ _ _); refine Stop.intro ?_)) | ((with_reducible show wpAny _ _ (PySem.exec _ _) _ _ _); first | ((with_reducible show wpAny _ _ (PySem.exec (PySem.Stmt.For _ _ _ _ _) _) _ _ _); refine Stop.intro ?_) | ((with_reducible show wpAny _ _ (PySem.exec (PySem.Stmt.While _ _ _ _) _) _ _ _); refine Stop.intro ?_)) | walk1 | (dsimp only; walk1) | (leave1; try dsimp only) | ((with_reducible show wpAny _ _ _ _ _ _); dsimp only)))
    refine Stop.out ?_
    intro ra ws kk tl qs h2 tk3 st hnew hn2 hs2 hR hperm hsort
    rename Fr s.heap _ _ _ => F1
    rename News s.heap _ _ _ => N1
    dsimp only at st hnew hn2 ⊢
    have F2 := fr_stays F1 st
    have N2 : News s.heap L' h2 ((ra, tupO ws kk) :: tl) := news_cons F1 (news_sub (news_app F1 (news_stays N1 st) hnew) (fun q hq => List.mem_append_left _ hq)) hn2 hs2
    have hbd := plain_bd hg hsm hperm
    have hML := plain_len hperm
    have hvl := hps.length
    obtain ⟨hM1, hM2⟩ := plain_ok hg hsm hperm hsort
    have hRl := hR.length
    generalize qs.foldl mergeStep [] = M at *
    clear F1 N1
    (repeat' (first | (k_unfold; (try dsimp only)) | (k_end; wrow_close) | ((with_reducible show wpAny _ _ (subscriptTail _ _ _ _) _ _ _); first | ((with_reducible show wpAny _ _ (subscriptTail _ _ (Value.ref _) (Value.int 1 _)) _ _ _); k_here; k_dflt (refine' item_tupI (i := 1) (by exact isTup_in (by k_asm) (by k_asm) (by assumption) (by first | ((intro q' hq'; first | exact hq' | (simp only [List.mem_cons, List.mem_append] at hq' ⊢; simp only [hq', true_or, or_true]; done))) | (first | ((intro q' hq'; simp only [List.mem_cons, List.mem_append] at hq' ⊢; first | (rcases hq' with hq' | hq' <;> (simp only [hq', true_or, or_true]; done)) | (rcases hq' with hq' | hq' | hq' <;> (simp only [hq', true_or, or_true]; done)) | (rcases hq' with hq' | hq' | hq' | hq' <;> (simp only [hq', true_or, or_true]; done)) | (rcases hq' with hq' | hq' | hq' | hq' | hq' <;> (simp only [hq', true_or, or_true]; done)) | (simp only [hq', true_or, or_true]; done))) | ((intro q' hq'; first | exact hq' | exact .tail _ hq' | exact .tail _ (.tail _ hq') | exact .tail _ (.tail _ (.tail _ hq')) | (simp only [List.mem_cons, List.mem_append] at hq' ⊢; simp only [hq', true_or, or_true]; done)))))) (by exact rfl) (by exact rfl) (by exact Nat.le_of_ble_eq_true rfl) ?_ (by with_unfolding_all rfl); k_whole); (try dsimp only)) | ((with_reducible show wpAny _ _ (subscriptTail _ _ (Value.ref _) (Value.int 0 _)) _ _ _); k_here; k_dflt (refine' item_tupI (i := 0) (by exact isTup_in (by k_asm) (by k_asm) (by assumption) (by first | ((intro q' hq'; first | exact hq' | (simp only [List.mem_cons, List.mem_append] at hq' ⊢; simp only [hq', true_or, or_true]; done))) | (first | ((intro q' hq'; simp only [List.mem_cons, List.mem_append] at hq' ⊢; first | (rcases hq' with hq' | hq' <;> (simp only [hq', true_or, or_true]; done)) | (rcases hq' with hq' | hq' | hq' <;> (simp only [hq', true_or, or_true]; done)) | (rcases hq' with hq' | hq' | hq' | hq' <;> (simp only [hq', true_or, or_true]; done)) | (rcases hq' with hq' | hq' | hq' | hq' | hq' <;> (simp only [hq', true_or, or_true]; done)) | (simp only [hq', true_or, or_true]; done))) | ((intro q' hq'; first | exact hq' | exact .tail _ hq' | exact .tail _ (.tail _ hq') | exact .tail _ (.tail _ (.tail _ hq')) | (simp only [List.mem_cons, List.mem_append] at hq' ⊢; simp only [hq', true_or, or_true]; done)))))) (by exact rfl) (by exact rfl) (by exact Nat.le_of_ble_eq_true rfl) ?_ (by with_unfolding_all rfl); k_whole); (try dsimp only)) | ((with_reducible show wpAny _ _ (subscriptTail _ _ (Value.ref _) (Value.int _ _)) _ _ _); k_here; k_dflt (refine' item_tupI (by exact isTup_in (by k_asm) (by k_asm) (by assumption) (by first | ((intro q' hq'; first | exact hq' | (simp only [List.mem_cons, List.mem_append] at hq' ⊢; simp only [hq', true_or, or_true]; done))) | (first | ((intro q' hq'; simp only [List.mem_cons, List.mem_append] at hq' ⊢; first | (rcases hq' with hq' | hq' <;> (simp only [hq', true_or, or_true]; done)) | (rcases hq' with hq' | hq' | hq' <;> (simp only [hq', true_or, or_true]; done)) | (rcases hq' with hq' | hq' | hq' | hq' <;> (simp only [hq', true_or, or_true]; done)) | (rcases hq' with hq' | hq' | hq' | hq' | hq' <;> (simp only [hq', true_or, or_true]; done)) | (simp only [hq', true_or, or_true]; done))) | ((intro q' hq'; first | exact hq' | exact .tail _ hq' | exact .tail _ (.tail _ hq') | exact .tail _ (.tail _ (.tail _ hq')) | (simp only [List.mem_cons, List.mem_append] at hq' ⊢; simp only [hq', true_or, or_true]; done)))))) (by first | assumption | exact rfl) (by first | rfl | omega) (by first | omega | exact Nat.le_of_ble_eq_true rfl) ?_ (by with_unfolding_all rfl); k_whole); (try dsimp only))) | ((with_reducible show wpAny _ _ (call _ _ _) _ _ _); first | ((with_reducible show wpAny _ _ (call (Value.builtin "len") [Value.ref _]) _ _ _); k_here; k_dflt (refine' len_tupN (by exact isTup_in (by k_asm) (by k_asm) (by assumption) (by first | ((intro q' hq'; first | exact hq' | (simp only [List.mem_cons, List.mem_append] at hq' ⊢; simp only [hq', true_or, or_true]; done))) | (first | ((intro q' hq'; simp only [List.mem_cons, List.mem_append] at hq' ⊢; first | (rcases hq' with hq' | hq' <;> (simp only [hq', true_or, or_true]; done)) | (rcases hq' with hq' | hq' | hq' <;> (simp only [hq', true_or, or_true]; done)) | (rcases hq' with hq' | hq' | hq' | hq' <;> (simp only [hq', true_or, or_true]; done)) | (rcases hq' with hq' | hq' | hq' | hq' | hq' <;> (simp only [hq', true_or, or_true]; done)) | (simp only [hq', true_or, or_true]; done))) | ((intro q' hq'; first | exact hq' | exact .tail _ hq' | exact .tail _ (.tail _ hq') | exact .tail _ (.tail _ (.tail _ hq')) | (simp only [List.mem_cons, List.mem_append] at hq' ⊢; simp only [hq', true_or, or_true]; done)))))) (by assumption) (by omega) ?_; k_whole); (try dsimp only)) | ((with_reducible show wpAny _ _ (call (Value.builtin "len") [Value.ref _]) _ _ _); k_here; k_dflt (refine' len_listN (by exact Fr.lst (by assumption) (by assumption)) (by assumption) (by omega) ?_; k_whole); (try dsimp only)) | ((with_reducible show wpAny _ _ (call (Value.ref 108) _) _ _ _); k_here; (k_dflt (refine' c_plain_set (by k_asm) (by k_asm) (by k_asm) (by k_asm) (by exact rfl) (by exact Fr.keep (by k_asm) _ _ (by assumption)) (by exact PairsR.mono (by assumption) (Fr.keep (by k_asm))) (by assumption) (by assumption) (by assumption) (by (first | exact room_sub (by assumption) (by decide) | exact room_sub3 (by assumption) (by decide))) (by (first | exact room_sub (by assumption) (by decide) | exact room_sub3 (by assumption) (by decide))) ?_; k_whole)); refine Stop.intro ?_)) | ((with_reducible show wpAny _ _ (PySem.pyIter _) _ _ _); first | ((with_reducible show wpAny _ _ (PySem.pyIter _) _ _ _); refine Stop.intro ?_)) | ((with_reducible show wpAny _ _ (PySem.exec _ _) _ _ _); first | ((with_reducible show wpAny _ _ (PySem.exec (PySem.Stmt.For _ _ _ _ _) _) _ _ _); refine Stop.intro ?_) | ((with_reducible show wpAny _ _ (PySem.exec (PySem.Stmt.While _ _ _ _) _) _ _ _); refine Stop.intro ?_)) | walk1 | (dsimp only; walk1) | (leave1; try dsimp only) | ((with_reducible show wpAny _ _ _ _ _ _); dsimp only)))
    rename Fr s.heap _ _ _ => F3
    rename News s.heap _ _ _ => N3
    obtain ⟨o, eo⟩ := led_name N3
    subst eo
    refine Stop.out (For_turns F3 ?_)
    (repeat' (first | (k_unfold; (try dsimp only)) | (k_end; wrow_close) | ((with_reducible show wpAny _ _ (subscriptTail _ _ _ _) _ _ _); first | ((with_reducible show wpAny _ _ (subscriptTail _ _ (Value.ref _) (Value.int 1 _)) _ _ _); k_here; k_dflt (refine' item_tupI (i := 1) (by exact isTup_in (by k_asm) (by k_asm) (by assumption) (by first | ((intro q' hq'; first | exact hq' | (simp only [List.mem_cons, List.mem_append] at hq' ⊢; simp only [hq', true_or, or_true]; done))) | (first | ((intro q' hq'; simp only [List.mem_cons, List.mem_append] at hq' ⊢; first | (rcases hq' with hq' | hq' <;> (simp only [hq', true_or, or_true]; done)) | (rcases hq' with hq' | hq' | hq' <;> (simp only [hq', true_or, or_true]; done)) | (rcases hq' with hq' | hq' | hq' | hq' <;> (simp only [hq', true_or, or_true]; done)) | (rcases hq' with hq' | hq' | hq' | hq' | hq' <;> (simp only [hq', true_or, or_true]; done)) | (simp only [hq', true_or, or_true]; done))) | ((intro q' hq'; first | exact hq' | exact .tail _ hq' | exact .tail _ (.tail _ hq') | exact .tail _ (.tail _ (.tail _ hq')) | (simp only [List.mem_cons, List.mem_append] at hq' ⊢; simp only [hq', true_or, or_true]; done)))))) (by exact rfl) (by exact rfl) (by exact Nat.le_of_ble_eq_true rfl) ?_ (by with_unfolding_all rfl); k_whole); (try dsimp only)) | ((with_reducible show wpAny _ _ (subscriptTail _ _ (Value.ref _) (Value.int 0 _)) _ _ _); k_here; k_dflt (refine' item_tupI (i := 0) (by exact isTup_in (by k_asm) (by k_asm) (by assumption) (by first | ((intro q' hq'; first | exact hq' | (simp only [List.mem_cons, List.mem_append] at hq' ⊢; simp only [hq', true_or, or_true]; done))) | (first | ((intro q' hq'; simp only [List.mem_cons, List.mem_append] at hq' ⊢; first | (rcases hq' with hq' | hq' <;> (simp only [hq', true_or, or_true]; done)) | (rcases hq' with hq' | hq' | hq' <;> (simp only [hq', true_or, or_true]; done)) | (rcases hq' with hq' | hq' | hq' | hq' <;> (simp only [hq', true_or, or_true]; done)) | (rcases hq' with hq' | hq' | hq' | hq' | hq' <;> (simp only [hq', true_or, or_true]; done)) | (simp only [hq', true_or, or_true]; done))) | ((intro q' hq'; first | exact hq' | exact .tail _ hq' | exact .tail _ (.tail _ hq') | exact .tail _ (.tail _ (.tail _ hq')) | (simp only [List.mem_cons, List.mem_append] at hq' ⊢; simp only [hq', true_or, or_true]; done)))))) (by exact rfl) (by exact rfl) (by exact Nat.le_of_ble_eq_true rfl) ?_ (by with_unfolding_all rfl); k_whole); (try dsimp only)) | ((with_reducible show wpAny _ _ (subscriptTail _ _ (Value.ref _) (Value.int _ _)) _ _ _); k_here; k_dflt (refine' item_tupI (by exact isTup_in (by k_asm) (by k_asm) (by assumption) (by first | ((intro q' hq'; first | exact hq' | (simp only [List.mem_cons, List.mem_append] at hq' ⊢; simp only [hq', true_or, or_true]; done))) | (first | ((intro q' hq'; simp only [List.mem_cons, List.mem_append] at hq' ⊢; first | (rcases hq' with hq' | hq' <;> (simp only [hq', true_or, or_true]; done)) | (rcases hq' with hq' | hq' | hq' <;> (simp only [hq', true_or, or_true]; done)) | (rcases hq' with hq' | hq' | hq' | hq' <;> (simp only [hq', true_or, or_true]; done)) | (rcases hq' with hq' | hq' | hq' | hq' | hq' <;> (simp only [hq', true_or, or_true]; done)) | (simp only [hq', true_or, or_true]; done))) | ((intro q' hq'; first | exact hq' | exact .tail _ hq' | exact .tail _ (.tail _ hq') | exact .tail _ (.tail _ (.tail _ hq')) | (simp only [List.mem_cons, List.mem_append] at hq' ⊢; simp only [hq', true_or, or_true]; done)))))) (by first | assumption | exact rfl) (by first | rfl | omega) (by first | omega | exact Nat.le_of_ble_eq_true rfl) ?_ (by with_unfolding_all rfl); k_whole); (try dsimp only))) | ((with_reducible show wpAny _ _ (call _ _ _) _ _ _); first | ((with_reducible show wpAny _ _ (call (Value.builtin "len") [Value.ref _]) _ _ _); k_here; k_dflt (refine' len_tupN (by exact isTup_in (by k_asm) (by k_asm) (by assumption) (by first | ((intro q' hq'; first | exact hq' | (simp only [List.mem_cons, List.mem_append] at hq' ⊢; simp only [hq', true_or, or_true]; done))) | (first | ((intro q' hq'; simp only [List.mem_cons, List.mem_append] at hq' ⊢; first | (rcases hq' with hq' | hq' <;> (simp only [hq', true_or, or_true]; done)) | (rcases hq' with hq' | hq' | hq' <;> (simp only [hq', true_or, or_true]; done)) | (rcases hq' with hq' | hq' | hq' | hq' <;> (simp only [hq', true_or, or_true]; done)) | (rcases hq' with hq' | hq' | hq' | hq' | hq' <;> (simp only [hq', true_or, or_true]; done)) | (simp only [hq', true_or, or_true]; done))) | ((intro q' hq'; first | exact hq' | exact .tail _ hq' | exact .tail _ (.tail _ hq') | exact .tail _ (.tail _ (.tail _ hq')) | (simp only [List.mem_cons, List.mem_append] at hq' ⊢; simp only [hq', true_or, or_true]; done)))))) (by assumption) (by omega) ?_; k_whole); (try dsimp only)) | ((with_reducible show wpAny _ _ (call (Value.builtin "len") [Value.ref _]) _ _ _); k_here; k_dflt (refine' len_listN (by exact Fr.lst (by assumption) (by assumption)) (by assumption) (by omega) ?_; k_whole); (try dsimp only)) | ((with_reducible show wpAny _ _ (call (Value.ref 108) _) _ _ _); k_here; (k_dflt (refine' c_plain_set (by k_asm) (by k_asm) (by k_asm) (by k_asm) (by exact rfl) (by exact Fr.keep (by k_asm) _ _ (by assumption)) (by exact PairsR.mono (by assumption) (Fr.keep (by k_asm))) (by assumption) (by assumption) (by assumption) (by (first | exact room_sub (by assumption) (by decide) | exact room_sub3 (by assumption) (by decide))) (by (first | exact room_sub (by assumption) (by decide) | exact room_sub3 (by assumption) (by decide))) ?_; k_whole)); refine Stop.intro ?_)) | ((with_reducible show wpAny _ _ (PySem.pyIter _) _ _ _); first | ((with_reducible show wpAny _ _ (PySem.pyIter _) _ _ _); refine Stop.intro ?_)) | ((with_reducible show wpAny _ _ (PySem.exec _ _) _ _ _); first | ((with_reducible show wpAny _ _ (PySem.exec (PySem.Stmt.For _ _ _ _ _) _) _ _ _); refine Stop.intro ?_) | ((with_reducible show wpAny _ _ (PySem.exec (PySem.Stmt.While _ _ _ _) _) _ _ _); refine Stop.intro ?_)) | walk1 | (dsimp only; walk1) | (leave1; try dsimp only) | ((with_reducible show wpAny _ _ _ _ _ _); dsimp only)))
    refine Stop.out ?_
    refine turns_seq (fun i m nx => ∃ (vs3 : List Value) (k3 i1 : Nat), nx = (o, W.listOf vs3.toArray k3) :: (ra, tupO ws kk) :: tl ∧ IntsAre vs3 ((ns.take i).filter (hasP ps g)) ∧ i1 ≤ M.length ∧ (∀ q ∈ M.take i1, ∀ j k, i ≤ j → ns[j]? = some k → q.2 < k) ∧ KInt m "at" i1 ∧ Knows m [("out", .ref o), ("pairs", .ref ra), ("numbers", .ref na), ("some", .ref pa)]) rfl (seqO_list nvs nn) (.inr hnv) F3 N3 ⟨[], 0, 0, rfl, .nil, Nat.zero_le _, (fun q hq => nomatch hq), ⟨_, by with_unfolding_all rfl⟩, by (repeat' (first | exact Knows.nil | refine Knows.cons (by with_unfolding_all rfl) ?_))⟩ ?_ ?_ ?_
    · exact fun _ _ _ _ q hq e => (off_base N3 hnv q hq e).elim
    · rintro i v m₁ nx h1 tk2 own hi hoff ⟨vs3, k3, i1, rfl, hI, hi1, hlw, ⟨ta, hka⟩, hkn⟩ F5 N5
      obtain ⟨k, tt, hki, rfl⟩ := ints_get hin hi
      obtain ⟨hk0, hk1⟩ := hnb k (List.mem_of_getElem? hki)
      have hlw' := fun q hq => hlw q hq i k (Nat.le_refl _) hki
      simp only [List.cons_append] at N5
      replace F5 := fr_known F5 (.cons hka hkn)
      have hoT : OwnOff ((ra, tupO ws kk) :: tl) [o] := own2 (by assumption)
      have hoo := ownOff_app hoT hoff
      rw [List.cons_append] at hoo
      have hvl3 : vs3.length ≤ 100 := by
        have e1 := hI.length
        have e2 := List.length_filter_le (hasP ps g) (ns.take i)
        rw [List.length_take] at e2; (first | lia | omega)
      clear F3 N3
      (repeat' (first | (k_unfold; (try dsimp only)) | (k_end; wrow_close) | ((with_reducible show wpAny _ _ (subscriptTail _ _ _ _) _ _ _); first | ((with_reducible show wpAny _ _ (subscriptTail _ _ (Value.ref _) (Value.int 1 _)) _ _ _); k_here; k_dflt (refine' item_tupI (i := 1) (by exact isTup_in (by k_asm) (by k_asm) (by assumption) (by first | ((intro q' hq'; first | exact hq' | (simp only [List.mem_cons, List.mem_append] at hq' ⊢; simp only [hq', true_or, or_true]; done))) | (first | ((intro q' hq'; simp only [List.mem_cons, List.mem_append] at hq' ⊢; first | (rcases hq' with hq' | hq' <;> (simp only [hq', true_or, or_true]; done)) | (rcases hq' with hq' | hq' | hq' <;> (simp only [hq', true_or, or_true]; done)) | (rcases hq' with hq' | hq' | hq' | hq' <;> (simp only [hq', true_or, or_true]; done)) | (rcases hq' with hq' | hq' | hq' | hq' | hq' <;> (simp only [hq', true_or, or_true]; done)) | (simp only [hq', true_or, or_true]; done))) | ((intro q' hq'; first | exact hq' | exact .tail _ hq' | exact .tail _ (.tail _ hq') | exact .tail _ (.tail _ (.tail _ hq')) | (simp only [List.mem_cons, List.mem_append] at hq' ⊢; simp only [hq', true_or, or_true]; done)))))) (by exact rfl) (by exact rfl) (by exact Nat.le_of_ble_eq_true rfl) ?_ (by with_unfolding_all rfl); k_whole); (try dsimp only)) | ((with_reducible show wpAny _ _ (subscriptTail _ _ (Value.ref _) (Value.int 0 _)) _ _ _); k_here; k_dflt (refine' item_tupI (i := 0) (by exact isTup_in (by k_asm) (by k_asm) (by assumption) (by first | ((intro q' hq'; first | exact hq' | (simp only [List.mem_cons, List.mem_append] at hq' ⊢; simp only [hq', true_or, or_true]; done))) | (first | ((intro q' hq'; simp only [List.mem_cons, List.mem_append] at hq' ⊢; first | (rcases hq' with hq' | hq' <;> (simp only [hq', true_or, or_true]; done)) | (rcases hq' with hq' | hq' | hq' <;> (simp only [hq', true_or, or_true]; done)) | (rcases hq' with hq' | hq' | hq' | hq' <;> (simp only [hq', true_or, or_true]; done)) | (rcases hq' with hq' | hq' | hq' | hq' | hq' <;> (simp only [hq', true_or, or_true]; done)) | (simp only [hq', true_or, or_true]; done))) | ((intro q' hq'; first | exact hq' | exact .tail _ hq' | exact .tail _ (.tail _ hq') | exact .tail _ (.tail _ (.tail _ hq')) | (simp only [List.mem_cons, List.mem_append] at hq' ⊢; simp only [hq', true_or, or_true]; done)))))) (by exact rfl) (by exact rfl) (by exact Nat.le_of_ble_eq_true rfl) ?_ (by with_unfolding_all rfl); k_whole); (try dsimp only)) | ((with_reducible show wpAny _ _ (subscriptTail _ _ (Value.ref _) (Value.int _ _)) _ _ _); k_here; k_dflt (refine' item_tupI (by exact isTup_in (by k_asm) (by k_asm) (by assumption) (by first | ((intro q' hq'; first | exact hq' | (simp only [List.mem_cons, List.mem_append] at hq' ⊢; simp only [hq', true_or, or_true]; done))) | (first | ((intro q' hq'; simp only [List.mem_cons, List.mem_append] at hq' ⊢; first | (rcases hq' with hq' | hq' <;> (simp only [hq', true_or, or_true]; done)) | (rcases hq' with hq' | hq' | hq' <;> (simp only [hq', true_or, or_true]; done)) | (rcases hq' with hq' | hq' | hq' | hq' <;> (simp only [hq', true_or, or_true]; done)) | (rcases hq' with hq' | hq' | hq' | hq' | hq' <;> (simp only [hq', true_or, or_true]; done)) | (simp only [hq', true_or, or_true]; done))) | ((intro q' hq'; first | exact hq' | exact .tail _ hq' | exact .tail _ (.tail _ hq') | exact .tail _ (.tail _ (.tail _ hq')) | (simp only [List.mem_cons, List.mem_append] at hq' ⊢; simp only [hq', true_or, or_true]; done)))))) (by first | assumption | exact rfl) (by first | rfl | omega) (by first | omega | exact Nat.le_of_ble_eq_true rfl) ?_ (by with_unfolding_all rfl); k_whole); (try dsimp only))) | ((with_reducible show wpAny _ _ (call _ _ _) _ _ _); first | ((with_reducible show wpAny _ _ (call (Value.builtin "len") [Value.ref _]) _ _ _); k_here; k_dflt (refine' len_tupN (by exact isTup_in (by k_asm) (by k_asm) (by assumption) (by first | ((intro q' hq'; first | exact hq' | (simp only [List.mem_cons, List.mem_append] at hq' ⊢; simp only [hq', true_or, or_true]; done))) | (first | ((intro q' hq'; simp only [List.mem_cons, List.mem_append] at hq' ⊢; first | (rcases hq' with hq' | hq' <;> (simp only [hq', true_or, or_true]; done)) | (rcases hq' with hq' | hq' | hq' <;> (simp only [hq', true_or, or_true]; done)) | (rcases hq' with hq' | hq' | hq' | hq' <;> (simp only [hq', true_or, or_true]; done)) | (rcases hq' with hq' | hq' | hq' | hq' | hq' <;> (simp only [hq', true_or, or_true]; done)) | (simp only [hq', true_or, or_true]; done))) | ((intro q' hq'; first | exact hq' | exact .tail _ hq' | exact .tail _ (.tail _ hq') | exact .tail _ (.tail _ (.tail _ hq')) | (simp only [List.mem_cons, List.mem_append] at hq' ⊢; simp only [hq', true_or, or_true]; done)))))) (by assumption) (by omega) ?_; k_whole); (try dsimp only)) | ((with_reducible show wpAny _ _ (call (Value.builtin "len") [Value.ref _]) _ _ _); k_here; k_dflt (refine' len_listN (by exact Fr.lst (by assumption) (by assumption)) (by assumption) (by omega) ?_; k_whole); (try dsimp only)) | ((with_reducible show wpAny _ _ (call (Value.ref 108) _) _ _ _); k_here; (k_dflt (refine' c_plain_set (by k_asm) (by k_asm) (by k_asm) (by k_asm) (by exact rfl) (by exact Fr.keep (by k_asm) _ _ (by assumption)) (by exact PairsR.mono (by assumption) (Fr.keep (by k_asm))) (by assumption) (by assumption) (by assumption) (by (first | exact room_sub (by assumption) (by decide) | exact room_sub3 (by assumption) (by decide))) (by (first | exact room_sub (by assumption) (by decide) | exact room_sub3 (by assumption) (by decide))) ?_; k_whole)); refine Stop.intro ?_)) | ((with_reducible show wpAny _ _ (PySem.pyIter _) _ _ _); first | ((with_reducible show wpAny _ _ (PySem.pyIter _) _ _ _); refine Stop.intro ?_)) | ((with_reducible show wpAny _ _ (PySem.exec _ _) _ _ _); first | ((with_reducible show wpAny _ _ (PySem.exec (PySem.Stmt.For _ _ _ _ _) _) _ _ _); refine Stop.intro ?_) | ((with_reducible show wpAny _ _ (PySem.exec (PySem.Stmt.While _ _ _ _) _) _ _ _); refine Stop.intro ?_)) | walk1 | (dsimp only; walk1) | (leave1; try dsimp only) | ((with_reducible show wpAny _ _ _ _ _ _); dsimp only)))
      rename Fr s.heap _ _ _ => F6
      rename News s.heap _ _ _ => N6
      refine Stop.out (While_inv2 (fun n m nx => ∃ i2 : Nat, n = M.length - i2 ∧ i2 ≤ M.length ∧ (∀ q ∈ M.take i2, q.2 < k) ∧ nx = (o, W.listOf vs3.toArray k3) :: (ra, tupO ws kk) :: (tl ++ own) ∧ KInt m "at" i2 ∧ Knows m [("number", .int k tt), ("out", .ref o), ("pairs", .ref ra), ("numbers", .ref na), ("some", .ref pa)]) F6 N6 ⟨i1, rfl, hi1, hlw', rfl, ⟨_, by with_unfolding_all rfl⟩, by (repeat' (first | exact Knows.nil | refine Knows.cons (by with_unfolding_all rfl) ?_))⟩ ?_)
      rintro n m₂ nx h3 tk3 F7 N7 ⟨i2, rfl, hi2, hl2, rfl, ⟨tb, hkb2⟩, hkn2⟩
      replace F7 := fr_known F7 (.cons hkb2 hkn2)
      clear F6 N6
      have hbr : Bs s.heap ((ra, tupO ws kk) :: tl) ra (tupO ws kk) := .inl (.head _)
      have hnext : ∀ q ∈ M.take i2, ∀ j k', i + 1 ≤ j → ns[j]? = some k' → q.2 < k' := fun q hq j k' hj e => Int.lt_trans (hl2 q hq) (asc_get hasc hj hki e)
      have hst : ns.take (i + 1) = ns.take i ++ [k] := by rw [List.take_add_one, hki, Option.toList_some]
      by_cases hlt : i2 < M.length
      · obtain ⟨va, hva⟩ : ∃ va, ws[i2]? = some va := ⟨_, List.getElem?_eq_getElem (by (first | lia | omega))⟩
        obtain ⟨⟨x, y⟩, hMi, hr⟩ := hR.get hva
        obtain ⟨b, nb, t1, u1, rfl, hb⟩ := hr.open
        replace hb : Bs s.heap ((ra, tupO ws kk) :: tl) _ _ := .inl (.tail _ hb)
        obtain ⟨hx, hy⟩ := hbd _ (List.mem_of_getElem? hMi)
        dsimp only at hx hy
        dsimp only
        (repeat' (first | (k_unfold; (try dsimp only)) | (k_end; wrow_close) | ((with_reducible show wpAny _ _ (subscriptTail _ _ _ _) _ _ _); first | ((with_reducible show wpAny _ _ (subscriptTail _ _ (Value.ref _) (Value.int 1 _)) _ _ _); k_here; k_dflt (refine' item_tupI (i := 1) (by exact isTup_in (by k_asm) (by k_asm) (by assumption) (by first | ((intro q' hq'; first | exact hq' | (simp only [List.mem_cons, List.mem_append] at hq' ⊢; simp only [hq', true_or, or_true]; done))) | (first | ((intro q' hq'; simp only [List.mem_cons, List.mem_append] at hq' ⊢; first | (rcases hq' with hq' | hq' <;> (simp only [hq', true_or, or_true]; done)) | (rcases hq' with hq' | hq' | hq' <;> (simp only [hq', true_or, or_true]; done)) | (rcases hq' with hq' | hq' | hq' | hq' <;> (simp only [hq', true_or, or_true]; done)) | (rcases hq' with hq' | hq' | hq' | hq' | hq' <;> (simp only [hq', true_or, or_true]; done)) | (simp only [hq', true_or, or_true]; done))) | ((intro q' hq'; first | exact hq' | exact .tail _ hq' | exact .tail _ (.tail _ hq') | exact .tail _ (.tail _ (.tail _ hq')) | (simp only [List.mem_cons, List.mem_append] at hq' ⊢; simp only [hq', true_or, or_true]; done)))))) (by exact rfl) (by exact rfl) (by exact Nat.le_of_ble_eq_true rfl) ?_ (by with_unfolding_all rfl); k_whole); (try dsimp only)) | ((with_reducible show wpAny _ _ (subscriptTail _ _ (Value.ref _) (Value.int 0 _)) _ _ _); k_here; k_dflt (refine' item_tupI (i := 0) (by exact isTup_in (by k_asm) (by k_asm) (by assumption) (by first | ((intro q' hq'; first | exact hq' | (simp only [List.mem_cons, List.mem_append] at hq' ⊢; simp only [hq', true_or, or_true]; done))) | (first | ((intro q' hq'; simp only [List.mem_cons, List.mem_append] at hq' ⊢; first | (rcases hq' with hq' | hq' <;> (simp only [hq', true_or, or_true]; done)) | (rcases hq' with hq' | hq' | hq' <;> (simp only [hq', true_or, or_true]; done)) | (rcases hq' with hq' | hq' | hq' | hq' <;> (simp only [hq', true_or, or_true]; done)) | (rcases hq' with hq' | hq' | hq' | hq' | hq' <;> (simp only [hq', true_or, or_true]; done)) | (simp only [hq', true_or, or_true]; done))) | ((intro q' hq'; first | exact hq' | exact .tail _ hq' | exact .tail _ (.tail _ hq') | exact .tail _ (.tail _ (.tail _ hq')) | (simp only [List.mem_cons, List.mem_append] at hq' ⊢; simp only [hq', true_or, or_true]; done)))))) (by exact rfl) (by exact rfl) (by exact Nat.le_of_ble_eq_true rfl) ?_ (by with_unfolding_all rfl); k_whole); (try dsimp only)) | ((with_reducible show wpAny _ _ (subscriptTail _ _ (Value.ref _) (Value.int _ _)) _ _ _); k_here; k_dflt (refine' item_tupI (by exact isTup_in (by k_asm) (by k_asm) (by assumption) (by first | ((intro q' hq'; first | exact hq' | (simp only [List.mem_cons, List.mem_append] at hq' ⊢; simp only [hq', true_or, or_true]; done))) | (first | ((intro q' hq'; simp only [List.mem_cons, List.mem_append] at hq' ⊢; first | (rcases hq' with hq' | hq' <;> (simp only [hq', true_or, or_true]; done)) | (rcases hq' with hq' | hq' | hq' <;> (simp only [hq', true_or, or_true]; done)) | (rcases hq' with hq' | hq' | hq' | hq' <;> (simp only [hq', true_or, or_true]; done)) | (rcases hq' with hq' | hq' | hq' | hq' | hq' <;> (simp only [hq', true_or, or_true]; done)) | (simp only [hq', true_or, or_true]; done))) | ((intro q' hq'; first | exact hq' | exact .tail _ hq' | exact .tail _ (.tail _ hq') | exact .tail _ (.tail _ (.tail _ hq')) | (simp only [List.mem_cons, List.mem_append] at hq' ⊢; simp only [hq', true_or, or_true]; done)))))) (by first | assumption | exact rfl) (by first | rfl | omega) (by first | omega | exact Nat.le_of_ble_eq_true rfl) ?_ (by with_unfolding_all rfl); k_whole); (try dsimp only))) | ((with_reducible show wpAny _ _ (call _ _ _) _ _ _); first | ((with_reducible show wpAny _ _ (call (Value.builtin "len") [Value.ref _]) _ _ _); k_here; k_dflt (refine' len_tupN (by exact isTup_in (by k_asm) (by k_asm) (by assumption) (by first | ((intro q' hq'; first | exact hq' | (simp only [List.mem_cons, List.mem_append] at hq' ⊢; simp only [hq', true_or, or_true]; done))) | (first | ((intro q' hq'; simp only [List.mem_cons, List.mem_append] at hq' ⊢; first | (rcases hq' with hq' | hq' <;> (simp only [hq', true_or, or_true]; done)) | (rcases hq' with hq' | hq' | hq' <;> (simp only [hq', true_or, or_true]; done)) | (rcases hq' with hq' | hq' | hq' | hq' <;> (simp only [hq', true_or, or_true]; done)) | (rcases hq' with hq' | hq' | hq' | hq' | hq' <;> (simp only [hq', true_or, or_true]; done)) | (simp only [hq', true_or, or_true]; done))) | ((intro q' hq'; first | exact hq' | exact .tail _ hq' | exact .tail _ (.tail _ hq') | exact .tail _ (.tail _ (.tail _ hq')) | (simp only [List.mem_cons, List.mem_append] at hq' ⊢; simp only [hq', true_or, or_true]; done)))))) (by assumption) (by omega) ?_; k_whole); (try dsimp only)) | ((with_reducible show wpAny _ _ (call (Value.builtin "len") [Value.ref _]) _ _ _); k_here; k_dflt (refine' len_listN (by exact Fr.lst (by assumption) (by assumption)) (by assumption) (by omega) ?_; k_whole); (try dsimp only)) | ((with_reducible show wpAny _ _ (call (Value.ref 108) _) _ _ _); k_here; (k_dflt (refine' c_plain_set (by k_asm) (by k_asm) (by k_asm) (by k_asm) (by exact rfl) (by exact Fr.keep (by k_asm) _ _ (by assumption)) (by exact PairsR.mono (by assumption) (Fr.keep (by k_asm))) (by assumption) (by assumption) (by assumption) (by (first | exact room_sub (by assumption) (by decide) | exact room_sub3 (by assumption) (by decide))) (by (first | exact room_sub (by assumption) (by decide) | exact room_sub3 (by assumption) (by decide))) ?_; k_whole)); refine Stop.intro ?_)) | ((with_reducible show wpAny _ _ (PySem.pyIter _) _ _ _); first | ((with_reducible show wpAny _ _ (PySem.pyIter _) _ _ _); refine Stop.intro ?_)) | ((with_reducible show wpAny _ _ (PySem.exec _ _) _ _ _); first | ((with_reducible show wpAny _ _ (PySem.exec (PySem.Stmt.For _ _ _ _ _) _) _ _ _); refine Stop.intro ?_) | ((with_reducible show wpAny _ _ (PySem.exec (PySem.Stmt.While _ _ _ _) _) _ _ _); refine Stop.intro ?_)) | walk1 | (dsimp only; walk1) | (leave1; try dsimp only) | ((with_reducible show wpAny _ _ _ _ _ _); dsimp only)))
        · rename News s.heap _ _ _ => N9; rename Fr s.heap _ _ _ => F9
          refine ⟨_, _, _, _, M.length - (i2 + 1), rfl, F9, N9, by (first | lia | omega), i2 + 1, rfl, by (first | lia | omega), ?_, rfl, ⟨_, by rw [show ((i2 + 1 : Nat) : Int) = (i2 : Int) + 1 from by (first | lia | omega)]; with_unfolding_all rfl⟩, by (repeat' (first | exact Knows.nil | refine Knows.cons (by with_unfolding_all rfl) ?_))⟩
          intro q hq
          rw [List.take_add_one, hMi, Option.toList_some] at hq
          rcases List.mem_append.mp hq with hq | hq
          · exact hl2 q hq
          · rw [List.mem_singleton.mp hq]; assumption
        · rename News s.heap _ _ _ => N9; rename Fr s.heap _ _ _ => F9
          simp only [List.push_toArray] at N9
          simp only [← List.cons_append] at N9
          refine inv_end F9 N9 ⟨_, _, i2, rfl, ?_, hi2, hnext, ⟨_, by with_unfolding_all rfl⟩, by (repeat' (first | exact Knows.nil | refine Knows.cons (by with_unfolding_all rfl) ?_))⟩ hoff
          rw [hst, List.filter_append, List.filter_cons_of_pos (cov_yes hM2 hMi (by assumption) (by assumption)), List.filter_nil]
          exact hI.append (.cons _ _ .nil)
        · rename News s.heap _ _ _ => N9; rename Fr s.heap _ _ _ => F9
          simp only [← List.cons_append] at N9
          refine inv_end F9 N9 ⟨_, _, i2, rfl, ?_, hi2, hnext, ⟨_, by with_unfolding_all rfl⟩, by (repeat' (first | exact Knows.nil | refine Knows.cons (by with_unfolding_all rfl) ?_))⟩ hoff
          rw [hst, List.filter_append, List.filter_cons_of_neg (by rw [cov_no hM1 hM2 hl2 hMi (by assumption)]; exact Bool.false_ne_true), List.filter_nil, List.append_nil]
          exact hI
      · dsimp only
        (repeat' (first | (k_unfold; (try dsimp only)) | (k_end; wrow_close) | ((with_reducible show wpAny _ _ (subscriptTail _ _ _ _) _ _ _); first | ((with_reducible show wpAny _ _ (subscriptTail _ _ (Value.ref _) (Value.int 1 _)) _ _ _); k_here; k_dflt (refine' item_tupI (i := 1) (by exact isTup_in (by k_asm) (by k_asm) (by assumption) (by first | ((intro q' hq'; first | exact hq' | (simp only [List.mem_cons, List.mem_append] at hq' ⊢; simp only [hq', true_or, or_true]; done))) | (first | ((intro q' hq'; simp only [List.mem_cons, List.mem_append] at hq' ⊢; first | (rcases hq' with hq' | hq' <;> (simp only [hq', true_or, or_true]; done)) | (rcases hq' with hq' | hq' | hq' <;> (simp only [hq', true_or, or_true]; done)) | (rcases hq' with hq' | hq' | hq' | hq' <;> (simp only [hq', true_or, or_true]; done)) | (rcases hq' with hq' | hq' | hq' | hq' | hq' <;> (simp only [hq', true_or, or_true]; done)) | (simp only [hq', true_or, or_true]; done))) | ((intro q' hq'; first | exact hq' | exact .tail _ hq' | exact .tail _ (.tail _ hq') | exact .tail _ (.tail _ (.tail _ hq')) | (simp only [List.mem_cons, List.mem_append] at hq' ⊢; simp only [hq', true_or, or_true]; done)))))) (by exact rfl) (by exact rfl) (by exact Nat.le_of_ble_eq_true rfl) ?_ (by with_unfolding_all rfl); k_whole); (try dsimp only)) | ((with_reducible show wpAny _ _ (subscriptTail _ _ (Value.ref _) (Value.int 0 _)) _ _ _); k_here; k_dflt (refine' item_tupI (i := 0) (by exact isTup_in (by k_asm) (by k_asm) (by assumption) (by first | ((intro q' hq'; first | exact hq' | (simp only [List.mem_cons, List.mem_append] at hq' ⊢; simp only [hq', true_or, or_true]; done))) | (first | ((intro q' hq'; simp only [List.mem_cons, List.mem_append] at hq' ⊢; first | (rcases hq' with hq' | hq' <;> (simp only [hq', true_or, or_true]; done)) | (rcases hq' with hq' | hq' | hq' <;> (simp only [hq', true_or, or_true]; done)) | (rcases hq' with hq' | hq' | hq' | hq' <;> (simp only [hq', true_or, or_true]; done)) | (rcases hq' with hq' | hq' | hq' | hq' | hq' <;> (simp only [hq', true_or, or_true]; done)) | (simp only [hq', true_or, or_true]; done))) | ((intro q' hq'; first | exact hq' | exact .tail _ hq' | exact .tail _ (.tail _ hq') | exact .tail _ (.tail _ (.tail _ hq')) | (simp only [List.mem_cons, List.mem_append] at hq' ⊢; simp only [hq', true_or, or_true]; done)))))) (by exact rfl) (by exact rfl) (by exact Nat.le_of_ble_eq_true rfl) ?_ (by with_unfolding_all rfl); k_whole); (try dsimp only)) | ((with_reducible show wpAny _ _ (subscriptTail _ _ (Value.ref _) (Value.int _ _)) _ _ _); k_here; k_dflt (refine' item_tupI (by exact isTup_in (by k_asm) (by k_asm) (by assumption) (by first | ((intro q' hq'; first | exact hq' | (simp only [List.mem_cons, List.mem_append] at hq' ⊢; simp only [hq', true_or, or_true]; done))) | (first | ((intro q' hq'; simp only [List.mem_cons, List.mem_append] at hq' ⊢; first | (rcases hq' with hq' | hq' <;> (simp only [hq', true_or, or_true]; done)) | (rcases hq' with hq' | hq' | hq' <;> (simp only [hq', true_or, or_true]; done)) | (rcases hq' with hq' | hq' | hq' | hq' <;> (simp only [hq', true_or, or_true]; done)) | (rcases hq' with hq' | hq' | hq' | hq' | hq' <;> (simp only [hq', true_or, or_true]; done)) | (simp only [hq', true_or, or_true]; done))) | ((intro q' hq'; first | exact hq' | exact .tail _ hq' | exact .tail _ (.tail _ hq') | exact .tail _ (.tail _ (.tail _ hq')) | (simp only [List.mem_cons, List.mem_append] at hq' ⊢; simp only [hq', true_or, or_true]; done)))))) (by first | assumption | exact rfl) (by first | rfl | omega) (by first | omega | exact Nat.le_of_ble_eq_true rfl) ?_ (by with_unfolding_all rfl); k_whole); (try dsimp only))) | ((with_reducible show wpAny _ _ (call _ _ _) _ _ _); first | ((with_reducible show wpAny _ _ (call (Value.builtin "len") [Value.ref _]) _ _ _); k_here; k_dflt (refine' len_tupN (by exact isTup_in (by k_asm) (by k_asm) (by assumption) (by first | ((intro q' hq'; first | exact hq' | (simp only [List.mem_cons, List.mem_append] at hq' ⊢; simp only [hq', true_or, or_true]; done))) | (first | ((intro q' hq'; simp only [List.mem_cons, List.mem_append] at hq' ⊢; first | (rcases hq' with hq' | hq' <;> (simp only [hq', true_or, or_true]; done)) | (rcases hq' with hq' | hq' | hq' <;> (simp only [hq', true_or, or_true]; done)) | (rcases hq' with hq' | hq' | hq' | hq' <;> (simp only [hq', true_or, or_true]; done)) | (rcases hq' with hq' | hq' | hq' | hq' | hq' <;> (simp only [hq', true_or, or_true]; done)) | (simp only [hq', true_or, or_true]; done))) | ((intro q' hq'; first | exact hq' | exact .tail _ hq' | exact .tail _ (.tail _ hq') | exact .tail _ (.tail _ (.tail _ hq')) | (simp only [List.mem_cons, List.mem_append] at hq' ⊢; simp only [hq', true_or, or_true]; done)))))) (by assumption) (by omega) ?_; k_whole); (try dsimp only)) | ((with_reducible show wpAny _ _ (call (Value.builtin "len") [Value.ref _]) _ _ _); k_here; k_dflt (refine' len_listN (by exact Fr.lst (by assumption) (by assumption)) (by assumption) (by omega) ?_; k_whole); (try dsimp only)) | ((with_reducible show wpAny _ _ (call (Value.ref 108) _) _ _ _); k_here; (k_dflt (refine' c_plain_set (by k_asm) (by k_asm) (by k_asm) (by k_asm) (by exact rfl) (by exact Fr.keep (by k_asm) _ _ (by assumption)) (by exact PairsR.mono (by assumption) (Fr.keep (by k_asm))) (by assumption) (by assumption) (by assumption) (by (first | exact room_sub (by assumption) (by decide) | exact room_sub3 (by assumption) (by decide))) (by (first | exact room_sub (by assumption) (by decide) | exact room_sub3 (by assumption) (by decide))) ?_; k_whole)); refine Stop.intro ?_)) | ((with_reducible show wpAny _ _ (PySem.pyIter _) _ _ _); first | ((with_reducible show wpAny _ _ (PySem.pyIter _) _ _ _); refine Stop.intro ?_)) | ((with_reducible show wpAny _ _ (PySem.exec _ _) _ _ _); first | ((with_reducible show wpAny _ _ (PySem.exec (PySem.Stmt.For _ _ _ _ _) _) _ _ _); refine Stop.intro ?_) | ((with_reducible show wpAny _ _ (PySem.exec (PySem.Stmt.While _ _ _ _) _) _ _ _); refine Stop.intro ?_)) | walk1 | (dsimp only; walk1) | (leave1; try dsimp only) | ((with_reducible show wpAny _ _ _ _ _ _); dsimp only)))
        rename News s.heap _ _ _ => N9; rename Fr s.heap _ _ _ => F9
        simp only [← List.cons_append] at N9
        refine inv_end F9 N9 ⟨_, _, i2, rfl, ?_, hi2, hnext, ⟨_, by with_unfolding_all rfl⟩, by (repeat' (first | exact Knows.nil | refine Knows.cons (by with_unfolding_all rfl) ?_))⟩ hoff
        rw [hst, List.filter_append, List.filter_cons_of_neg (by rw [cov_end hM2 hl2 hlt]; exact Bool.false_ne_true), List.filter_nil, List.append_nil]
        exact hI
    · rintro m₁ nx h1 tk2 ⟨vs3, k3, i1, rfl, hI, hi1, hlw, ⟨ta, hka⟩, hkn⟩ F5 N5
      rw [hlen, List.take_length] at hI
      replace F5 := fr_known F5 hkn
      (repeat' (first | (k_unfold; (try dsimp only)) | (k_end; wrow_close) | ((with_reducible show wpAny _ _ (subscriptTail _ _ _ _) _ _ _); first | ((with_reducible show wpAny _ _ (subscriptTail _ _ (Value.ref _) (Value.int 1 _)) _ _ _); k_here; k_dflt (refine' item_tupI (i := 1) (by exact isTup_in (by k_asm) (by k_asm) (by assumption) (by first | ((intro q' hq'; first | exact hq' | (simp only [List.mem_cons, List.mem_append] at hq' ⊢; simp only [hq', true_or, or_true]; done))) | (first | ((intro q' hq'; simp only [List.mem_cons, List.mem_append] at hq' ⊢; first | (rcases hq' with hq' | hq' <;> (simp only [hq', true_or, or_true]; done)) | (rcases hq' with hq' | hq' | hq' <;> (simp only [hq', true_or, or_true]; done)) | (rcases hq' with hq' | hq' | hq' | hq' <;> (simp only [hq', true_or, or_true]; done)) | (rcases hq' with hq' | hq' | hq' | hq' | hq' <;> (simp only [hq', true_or, or_true]; done)) | (simp only [hq', true_or, or_true]; done))) | ((intro q' hq'; first | exact hq' | exact .tail _ hq' | exact .tail _ (.tail _ hq') | exact .tail _ (.tail _ (.tail _ hq')) | (simp only [List.mem_cons, List.mem_append] at hq' ⊢; simp only [hq', true_or, or_true]; done)))))) (by exact rfl) (by exact rfl) (by exact Nat.le_of_ble_eq_true rfl) ?_ (by with_unfolding_all rfl); k_whole); (try dsimp only)) | ((with_reducible show wpAny _ _ (subscriptTail _ _ (Value.ref _) (Value.int 0 _)) _ _ _); k_here; k_dflt (refine' item_tupI (i := 0) (by exact isTup_in (by k_asm) (by k_asm) (by assumption) (by first | ((intro q' hq'; first | exact hq' | (simp only [List.mem_cons, List.mem_append] at hq' ⊢; simp only [hq', true_or, or_true]; done))) | (first | ((intro q' hq'; simp only [List.mem_cons, List.mem_append] at hq' ⊢; first | (rcases hq' with hq' | hq' <;> (simp only [hq', true_or, or_true]; done)) | (rcases hq' with hq' | hq' | hq' <;> (simp only [hq', true_or, or_true]; done)) | (rcases hq' with hq' | hq' | hq' | hq' <;> (simp only [hq', true_or, or_true]; done)) | (rcases hq' with hq' | hq' | hq' | hq' | hq' <;> (simp only [hq', true_or, or_true]; done)) | (simp only [hq', true_or, or_true]; done))) | ((intro q' hq'; first | exact hq' | exact .tail _ hq' | exact .tail _ (.tail _ hq') | exact .tail _ (.tail _ (.tail _ hq')) | (simp only [List.mem_cons, List.mem_append] at hq' ⊢; simp only [hq', true_or, or_true]; done)))))) (by exact rfl) (by exact rfl) (by exact Nat.le_of_ble_eq_true rfl) ?_ (by with_unfolding_all rfl); k_whole); (try dsimp only)) | ((with_reducible show wpAny _ _ (subscriptTail _ _ (Value.ref _) (Value.int _ _)) _ _ _); k_here; k_dflt (refine' item_tupI (by exact isTup_in (by k_asm) (by k_asm) (by assumption) (by first | ((intro q' hq'; first | exact hq' | (simp only [List.mem_cons, List.mem_append] at hq' ⊢; simp only [hq', true_or, or_true]; done))) | (first | ((intro q' hq'; simp only [List.mem_cons, List.mem_append] at hq' ⊢; first | (rcases hq' with hq' | hq' <;> (simp only [hq', true_or, or_true]; done)) | (rcases hq' with hq' | hq' | hq' <;> (simp only [hq', true_or, or_true]; done)) | (rcases hq' with hq' | hq' | hq' | hq' <;> (simp only [hq', true_or, or_true]; done)) | (rcases hq' with hq' | hq' | hq' | hq' | hq' <;> (simp only [hq', true_or, or_true]; done)) | (simp only [hq', true_or, or_true]; done))) | ((intro q' hq'; first | exact hq' | exact .tail _ hq' | exact .tail _ (.tail _ hq') | exact .tail _ (.tail _ (.tail _ hq')) | (simp only [List.mem_cons, List.mem_append] at hq' ⊢; simp only [hq', true_or, or_true]; done)))))) (by first | assumption | exact rfl) (by first | rfl | omega) (by first | omega | exact Nat.le_of_ble_eq_true rfl) ?_ (by with_unfolding_all rfl); k_whole); (try dsimp only))) | ((with_reducible show wpAny _ _ (call _ _ _) _ _ _); first | ((with_reducible show wpAny _ _ (call (Value.builtin "len") [Value.ref _]) _ _ _); k_here; k_dflt (refine' len_tupN (by exact isTup_in (by k_asm) (by k_asm) (by assumption) (by first | ((intro q' hq'; first | exact hq' | (simp only [List.mem_cons, List.mem_append] at hq' ⊢; simp only [hq', true_or, or_true]; done))) | (first | ((intro q' hq'; simp only [List.mem_cons, List.mem_append] at hq' ⊢; first | (rcases hq' with hq' | hq' <;> (simp only [hq', true_or, or_true]; done)) | (rcases hq' with hq' | hq' | hq' <;> (simp only [hq', true_or, or_true]; done)) | (rcases hq' with hq' | hq' | hq' | hq' <;> (simp only [hq', true_or, or_true]; done)) | (rcases hq' with hq' | hq' | hq' | hq' | hq' <;> (simp only [hq', true_or, or_true]; done)) | (simp only [hq', true_or, or_true]; done))) | ((intro q' hq'; first | exact hq' | exact .tail _ hq' | exact .tail _ (.tail _ hq') | exact .tail _ (.tail _ (.tail _ hq')) | (simp only [List.mem_cons, List.mem_append] at hq' ⊢; simp only [hq', true_or, or_true]; done)))))) (by assumption) (by omega) ?_; k_whole); (try dsimp only)) | ((with_reducible show wpAny _ _ (call (Value.builtin "len") [Value.ref _]) _ _ _); k_here; k_dflt (refine' len_listN (by exact Fr.lst (by assumption) (by assumption)) (by assumption) (by omega) ?_; k_whole); (try dsimp only)) | ((with_reducible show wpAny _ _ (call (Value.ref 108) _) _ _ _); k_here; (k_dflt (refine' c_plain_set (by k_asm) (by k_asm) (by k_asm) (by k_asm) (by exact rfl) (by exact Fr.keep (by k_asm) _ _ (by assumption)) (by exact PairsR.mono (by assumption) (Fr.keep (by k_asm))) (by assumption) (by assumption) (by assumption) (by (first | exact room_sub (by assumption) (by decide) | exact room_sub3 (by assumption) (by decide))) (by (first | exact room_sub (by assumption) (by decide) | exact room_sub3 (by assumption) (by decide))) ?_; k_whole)); refine Stop.intro ?_)) | ((with_reducible show wpAny _ _ (PySem.pyIter _) _ _ _); first | ((with_reducible show wpAny _ _ (PySem.pyIter _) _ _ _); refine Stop.intro ?_)) | ((with_reducible show wpAny _ _ (PySem.exec _ _) _ _ _); first | ((with_reducible show wpAny _ _ (PySem.exec (PySem.Stmt.For _ _ _ _ _) _) _ _ _); refine Stop.intro ?_) | ((with_reducible show wpAny _ _ (PySem.exec (PySem.Stmt.While _ _ _ _) _) _ _ _); refine Stop.intro ?_)) | walk1 | (dsimp only; walk1) | (leave1; try dsimp only) | ((with_reducible show wpAny _ _ _ _ _ _); dsimp only)))
      rename News s.heap _ _ _ => N9
      exact ret _ _ _ _ _ (Fr.keep (by assumption)) (N9 _ (.head _)).2.2 (N9 _ (.head _)).1 hI
end
end
section
theorem off_lbeyond : True := by
  w_top off
  trivial
theorem filt_isB {p : Int × Int} {g : Int} (h : g ≠ 0) : decide ([p.1, p.2].filter (fun e => decide (g < e)) = []) = !isB p g := by
  unfold isB
  rw [decide_eq_false h, Bool.or_false]
  by_cases h1 : g < p.1
  · rw [decide_eq_true (show g < max p.1 p.2 by omega)]; simp [h1]
  · by_cases h2 : g < p.2
    · rw [decide_eq_true (show g < max p.1 p.2 by omega)]; simp [h1, h2]
    · rw [decide_eq_false (show ¬ g < max p.1 p.2 by omega)]; simp [h1, h2]
section
variable {w : World} {mean : ExcName → Option Value} {mg mb : Str → Option Value} {dp un : Nat} {gd : Option (List Code)} {cn : Str} {cs : Scope} {a : Addr} {ccd : Value} {cl : List (Str × Addr)} {outer : List Env} {A₀ : Around} {base h₀ : Heap} {L : Addr} {m : Str → Option Value} {s : Shared} {Q E : Value → Shared → Prop}
   (B : Below A₀ base outer h₀) (F : Fr h₀ L s.heap m) (X : (hd.heap_39 w.params).In h₀) (T : TopH mean mg mb h₀) (hk : cs.kind = .function)
include B F X T hk
theorem c_law_beyond {pa : Addr} {n : Nat} {vs : List Value} {ps : List (Int × Int)} {g : Int} {tg : Tok} (hv : hp s.heap pa (W.listOf vs.toArray n)) (hps : PairsR (hp s.heap) vs ps) (hql : vs.length ≤ 1000)
   (hdp : dp + 30 < recursionLimit) (hu : un + 300 < cLine)
   (ret : ∀ t h' tk', s.heap.StaysIn h' → Q (.int (firstB ps g) t) { s with heap := h', toks := tk' }) :
   wpAny (model PySem.Challenge.rw_no0356_01.row.prog w) (ktrTop dp un gd cn cs L a ccd cl outer) (call (.ref 167) [.ref pa, .int g tg]) Q E s := by
  have hT : s.heap.IsList pa vs.toArray := ⟨_, hv, rfl, _, rfl⟩
  revert X; k_fill; intro X
  refine wpAny_call ?_
  k_dflt (refine' code_pureC (binds := [("pairs", .ref pa), ("greatest", .int g tg)]) ?k1 ?k2 ?k3 ?k5 ?kA ?kF ?kK ?k6 ?k7 ?k8 ?k9 ?kB ?kD ?_ ?c2 ?c3 ?c4; (case kA => exact rfl); (case kF => exact rfl); (case kK => assumption); (case k1 => k_asm); (case k2 => k_asm); (case k3 => k_asm); (case k5 => k_asm); (case k6 => k_is); (case k7 => k_is); (case k8 => exact Nat.lt_of_le_of_lt (Nat.le_add_right _ _) hdp); (case k9 => exact BindsTo.of_eq rfl); (case kB => exact rfl); (case kD => decide +kernel); (case c2 => exact rfl); (case c3 => exact rfl); (case c4 => exact rfl); k_whole; intro L' h' tk' cells' F' N' Y' B' X' T'; k_cells Y'; (try simp only [List.cons_append, List.nil_append] at N'); (try dsimp only); (try k_lift B'); (try k_fold))
  (repeat' (first | (k_unfold; (try dsimp only)) | (k_end; wrow_close) | ((with_reducible show wpAny _ _ (call _ _ _) _ _ _); first | ((with_reducible show wpAny _ _ (call (Value.builtin "len") [Value.ref _]) _ _ _); k_here; k_dflt (refine' len_listL (by exact Fr.lst (by assumption) (by assumption)) (by assumption) ?_; k_whole))) | ((with_reducible show wpAny _ _ (subscriptTail _ _ _ _) _ _ _); first | ((with_reducible show wpAny _ _ (subscriptTail _ _ (Value.ref _) (Value.int _ _)) _ _ _); k_here; k_dflt (refine' item_listI (by exact Fr.lst (by assumption) (by assumption)) (by assumption) (by first | rfl | omega) (by assumption) ?_ (by with_unfolding_all rfl); k_whole))) | ((with_reducible show wpAny _ _ (PySem.pyIter _) _ _ _); first | ((with_reducible show wpAny _ _ (PySem.pyIter _) _ _ _); refine Stop.intro ?_)) | ((with_reducible show wpAny _ _ (PySem.eval _ _) _ _ _); first | ((with_reducible show wpAny _ _ (PySem.eval (PySem.Expr.ListComp _ _ _ _) _) _ _ _); refine Stop.intro ?_)) | ((with_reducible show wpAny _ _ (PySem.exec _ _) _ _ _); first | ((with_reducible show wpAny _ _ (PySem.exec (PySem.Stmt.For _ _ _ _ _) _) _ _ _); refine Stop.intro ?_)) | walk1 | (dsimp only; walk1) | (leave1; try dsimp only) | ((with_reducible show wpAny _ _ _ _ _ _); dsimp only)))
  rename Fr _ _ _ _ => F1
  refine Stop.out ?_
  k_dflt (refine' For_invVF F1 ?k1 ?k2 ?_; (case k1 => exact rfl); (case k2 => exact rfl))
  (repeat' (first | (k_unfold; (try dsimp only)) | (k_end; wrow_close) | ((with_reducible show wpAny _ _ (call _ _ _) _ _ _); first | ((with_reducible show wpAny _ _ (call (Value.builtin "len") [Value.ref _]) _ _ _); k_here; k_dflt (refine' len_listL (by exact Fr.lst (by assumption) (by assumption)) (by assumption) ?_; k_whole))) | ((with_reducible show wpAny _ _ (subscriptTail _ _ _ _) _ _ _); first | ((with_reducible show wpAny _ _ (subscriptTail _ _ (Value.ref _) (Value.int _ _)) _ _ _); k_here; k_dflt (refine' item_listI (by exact Fr.lst (by assumption) (by assumption)) (by assumption) (by first | rfl | omega) (by assumption) ?_ (by with_unfolding_all rfl); k_whole))) | ((with_reducible show wpAny _ _ (PySem.pyIter _) _ _ _); first | ((with_reducible show wpAny _ _ (PySem.pyIter _) _ _ _); refine Stop.intro ?_)) | ((with_reducible show wpAny _ _ (PySem.eval _ _) _ _ _); first | ((with_reducible show wpAny _ _ (PySem.eval (PySem.Expr.ListComp _ _ _ _) _) _ _ _); refine Stop.intro ?_)) | ((with_reducible show wpAny _ _ (PySem.exec _ _) _ _ _); first | ((with_reducible show wpAny _ _ (PySem.exec (PySem.Stmt.For _ _ _ _ _) _) _ _ _); refine Stop.intro ?_)) | walk1 | (dsimp only; walk1) | (leave1; try dsimp only) | ((with_reducible show wpAny _ _ _ _ _ _); dsimp only)))
  rename Fr _ _ _ _ => F1
  rename News _ _ _ _ => N1
  rename _ = Data.cell _ => d1
  obtain ⟨oc, hoc, N1⟩ : ∃ oc : Obj, oc.data = Data.cell (some (.int g tg)) ∧ News s.heap L' _ [(L' + 1, oc)] := ⟨_, by with_unfolding_all exact d1, N1⟩
  refine Stop.out (loop_range (n := vs.length) (fun i m nx => nx = [(L' + 1, oc)] ∧ (∀ q ∈ ps.take i, isB q g = false) ∧ Knows m [("pairs", .ref pa)]) rfl (by assumption) (small_up (by omega) (by omega) (by omega) (by omega)) (by rw [rangeSize_up]; simp) F1 N1 ⟨rfl, (fun _ h => nomatch h), by (repeat' (first | exact Knows.nil | refine Knows.cons (by with_unfolding_all rfl) ?_))⟩ ?_ ?_)
  · rintro i t m₁ nx h1 tk2 own hi hoff ⟨rfl, hb, hkn⟩ F2 N2
    obtain ⟨va, hva⟩ : ∃ va, vs[i]? = some va := ⟨_, List.getElem?_eq_getElem hi⟩
    obtain ⟨p, hpi, hr⟩ := hps.get hva
    obtain ⟨pb, t1, u1, rfl, hTb⟩ := hr.tup
    replace F2 := fr_knownS F2 hkn
    simp only [List.cons_append, List.nil_append] at N2
    have hY : isB p g = true → (0 + (i : Int)) = firstB ps g := fun e => by rw [firstB_some hb hpi e, Int.zero_add]
    have hN : isB p g = false → ∀ q ∈ ps.take (i + 1), isB q g = false := fun e q hq => by
      rw [List.take_add_one, hpi, Option.toList_some] at hq
      rcases List.mem_append.mp hq with hq | hq
      · exact hb q hq
      · rw [List.mem_singleton.mp hq]; exact e
    (repeat' (first | (k_unfold; (try dsimp only)) | (k_end; wrow_close) | ((with_reducible show wpAny _ _ (call _ _ _) _ _ _); first | ((with_reducible show wpAny _ _ (call (Value.builtin "len") [Value.ref _]) _ _ _); k_here; k_dflt (refine' len_listL (by exact Fr.lst (by assumption) (by assumption)) (by assumption) ?_; k_whole))) | ((with_reducible show wpAny _ _ (subscriptTail _ _ _ _) _ _ _); first | ((with_reducible show wpAny _ _ (subscriptTail _ _ (Value.ref _) (Value.int _ _)) _ _ _); k_here; k_dflt (refine' item_listI (by exact Fr.lst (by assumption) (by assumption)) (by assumption) (by first | rfl | omega) (by assumption) ?_ (by with_unfolding_all rfl); k_whole))) | ((with_reducible show wpAny _ _ (PySem.pyIter _) _ _ _); first | ((with_reducible show wpAny _ _ (PySem.pyIter _) _ _ _); refine Stop.intro ?_)) | ((with_reducible show wpAny _ _ (PySem.eval _ _) _ _ _); first | ((with_reducible show wpAny _ _ (PySem.eval (PySem.Expr.ListComp _ _ _ _) _) _ _ _); refine Stop.intro ?_)) | ((with_reducible show wpAny _ _ (PySem.exec _ _) _ _ _); first | ((with_reducible show wpAny _ _ (PySem.exec (PySem.Stmt.For _ _ _ _ _) _) _ _ _); refine Stop.intro ?_)) | walk1 | (dsimp only; walk1) | (leave1; try dsimp only) | ((with_reducible show wpAny _ _ _ _ _ _); dsimp only)))
    · rw [hY (by unfold isB; rw [decide_eq_true (p := g = 0) (by assumption), Bool.or_true])]; exact ret _ _ _ (Fr.keep (by assumption))
    refine Stop.out ?_
    k_dflt (refine ListComp_Ttup (F₀ := by k_asm) (by rfl) (by decide) (by rfl) (by decide) (by rfl) ?_)
    (repeat' (first | (k_unfold; (try dsimp only)) | (k_end; wrow_close) | ((with_reducible show wpAny _ _ (call _ _ _) _ _ _); first | ((with_reducible show wpAny _ _ (call (Value.builtin "len") [Value.ref _]) _ _ _); k_here; k_dflt (refine' len_listL (by exact Fr.lst (by assumption) (by assumption)) (by assumption) ?_; k_whole))) | ((with_reducible show wpAny _ _ (subscriptTail _ _ _ _) _ _ _); first | ((with_reducible show wpAny _ _ (subscriptTail _ _ (Value.ref _) (Value.int _ _)) _ _ _); k_here; k_dflt (refine' item_listI (by exact Fr.lst (by assumption) (by assumption)) (by assumption) (by first | rfl | omega) (by assumption) ?_ (by with_unfolding_all rfl); k_whole))) | ((with_reducible show wpAny _ _ (PySem.pyIter _) _ _ _); first | ((with_reducible show wpAny _ _ (PySem.pyIter _) _ _ _); refine Stop.intro ?_)) | ((with_reducible show wpAny _ _ (PySem.eval _ _) _ _ _); first | ((with_reducible show wpAny _ _ (PySem.eval (PySem.Expr.ListComp _ _ _ _) _) _ _ _); refine Stop.intro ?_)) | ((with_reducible show wpAny _ _ (PySem.exec _ _) _ _ _); first | ((with_reducible show wpAny _ _ (PySem.exec (PySem.Stmt.For _ _ _ _ _) _) _ _ _); refine Stop.intro ?_)) | walk1 | (dsimp only; walk1) | (leave1; try dsimp only) | ((with_reducible show wpAny _ _ _ _ _ _); dsimp only)))
    obtain ⟨ob, hob, hobc, nb, hobd⟩ := id hTb
    refine ⟨_, _, _, rfl, rfl, F2, N2, ⟨ob, .inr hob, hobc, nb, hobd⟩, Nat.le_of_ble_eq_true rfl, fun g' => compRestT_ind _ (fun i ys nx => nx = (L' + 1, oc) :: own ∧ IntsAre ys (([p.1, p.2].take i).filter (fun e => decide (g < e)))) ?_ ?_ _ _ _ _ (Nat.zero_add _) ⟨rfl, .nil⟩⟩
    · rintro ys nx ⟨rfl, hy⟩
      replace hy : IntsAre ys ([p.1, p.2].filter (fun e => decide (g < e))) := hy
      have hfb := filt_isB (p := p) (g := g) (by assumption)
      intro D h2 tk2 F3 N3 o2
      (repeat' (first | (k_unfold; (try dsimp only)) | (k_end; wrow_close) | ((with_reducible show wpAny _ _ (call _ _ _) _ _ _); first | ((with_reducible show wpAny _ _ (call (Value.builtin "len") [Value.ref _]) _ _ _); k_here; k_dflt (refine' len_listL (by exact Fr.lst (by assumption) (by assumption)) (by assumption) ?_; k_whole))) | ((with_reducible show wpAny _ _ (subscriptTail _ _ _ _) _ _ _); first | ((with_reducible show wpAny _ _ (subscriptTail _ _ (Value.ref _) (Value.int _ _)) _ _ _); k_here; k_dflt (refine' item_listI (by exact Fr.lst (by assumption) (by assumption)) (by assumption) (by first | rfl | omega) (by assumption) ?_ (by with_unfolding_all rfl); k_whole))) | ((with_reducible show wpAny _ _ (PySem.pyIter _) _ _ _); first | ((with_reducible show wpAny _ _ (PySem.pyIter _) _ _ _); refine Stop.intro ?_)) | ((with_reducible show wpAny _ _ (PySem.eval _ _) _ _ _); first | ((with_reducible show wpAny _ _ (PySem.eval (PySem.Expr.ListComp _ _ _ _) _) _ _ _); refine Stop.intro ?_)) | ((with_reducible show wpAny _ _ (PySem.exec _ _) _ _ _); first | ((with_reducible show wpAny _ _ (PySem.exec (PySem.Stmt.For _ _ _ _ _) _) _ _ _); refine Stop.intro ?_)) | walk1 | (dsimp only; walk1) | (leave1; try dsimp only) | ((with_reducible show wpAny _ _ _ _ _ _); dsimp only)))
      · rename News _ _ _ _ => N9; rename Fr _ _ _ _ => F9
        refine InvEndG.intro F9 N9 ⟨rfl, hN ?_, by (repeat' (first | exact Knows.nil | refine Knows.cons (by with_unfolding_all rfl) ?_))⟩ hoff ?_ (by (first | ((intro q' hq'; simp only [List.mem_cons, List.mem_append] at hq' ⊢; first | (rcases hq' with hq' | hq' <;> (simp only [hq', true_or, or_true]; done)) | (rcases hq' with hq' | hq' | hq' <;> (simp only [hq', true_or, or_true]; done)) | (rcases hq' with hq' | hq' | hq' | hq' <;> (simp only [hq', true_or, or_true]; done)) | (rcases hq' with hq' | hq' | hq' | hq' | hq' <;> (simp only [hq', true_or, or_true]; done)) | (simp only [hq', true_or, or_true]; done))) | ((intro q' hq'; first | exact hq' | exact .tail _ hq' | exact .tail _ (.tail _ hq') | exact .tail _ (.tail _ (.tail _ hq')) | (simp only [List.mem_cons, List.mem_append] at hq' ⊢; simp only [hq', true_or, or_true]; done)))))
        · have e : (!isB p g) = true := hfb.symm.trans (by assumption)
          simpa using e
        · intro q hq
          rw [List.mem_singleton.mp hq]; simp
      · rw [hY]
        · exact ret _ _ _ (Fr.keep (by assumption))
        · have e : (!isB p g) = false := hfb.symm.trans (by assumption)
          simpa using e
    · rintro j ys nx v I oI C oC D m₂ h2 tk3 E' hj ⟨rfl, hy⟩ hP hoC hx F3 N3 o3 hne
      obtain ⟨kk, tt, hvk, rfl⟩ : ∃ kk tt, [p.1, p.2][j]? = some kk ∧ v = .int kk tt := by
        match j, hP with
        | 0, hP => exact ⟨_, _, rfl, (Option.some.inj hP).symm⟩
        | 1, hP => exact ⟨_, _, rfl, (Option.some.inj hP).symm⟩
      (repeat' (first | (k_unfold; (try dsimp only)) | (k_end; wrow_close) | ((with_reducible show wpAny _ _ (call _ _ _) _ _ _); first | ((with_reducible show wpAny _ _ (call (Value.builtin "len") [Value.ref _]) _ _ _); k_here; k_dflt (refine' len_listL (by exact Fr.lst (by assumption) (by assumption)) (by assumption) ?_; k_whole))) | ((with_reducible show wpAny _ _ (subscriptTail _ _ _ _) _ _ _); first | ((with_reducible show wpAny _ _ (subscriptTail _ _ (Value.ref _) (Value.int _ _)) _ _ _); k_here; k_dflt (refine' item_listI (by exact Fr.lst (by assumption) (by assumption)) (by assumption) (by first | rfl | omega) (by assumption) ?_ (by with_unfolding_all rfl); k_whole))) | ((with_reducible show wpAny _ _ (PySem.pyIter _) _ _ _); first | ((with_reducible show wpAny _ _ (PySem.pyIter _) _ _ _); refine Stop.intro ?_)) | ((with_reducible show wpAny _ _ (PySem.eval _ _) _ _ _); first | ((with_reducible show wpAny _ _ (PySem.eval (PySem.Expr.ListComp _ _ _ _) _) _ _ _); refine Stop.intro ?_)) | ((with_reducible show wpAny _ _ (PySem.exec _ _) _ _ _); first | ((with_reducible show wpAny _ _ (PySem.exec (PySem.Stmt.For _ _ _ _ _) _) _ _ _); refine Stop.intro ?_)) | walk1 | (dsimp only; walk1) | (leave1; try dsimp only) | ((with_reducible show wpAny _ _ _ _ _ _); dsimp only)))
      all_goals
        rename News _ _ _ _ => N9; rename Fr _ _ _ _ => F9
        refine CompEnd.intro F9 N9 ((L' + 1, oc) :: own) (fun _ h => h) o3 ⟨ob, .inr hob, hobc, nb, hobd⟩ ⟨rfl, ?_⟩
        rw [List.take_add_one, hvk, Option.toList_some, List.filter_append]
      · rw [List.filter_cons_of_pos (by simpa using (by assumption : g < kk)), List.filter_nil]
        exact IntsAre.append hy (.cons _ _ .nil)
      · rw [List.filter_cons_of_neg (by simpa using (by assumption : ¬ g < kk)), List.filter_nil, List.append_nil]
        exact hy
  · rintro m₁ nx h1 tk2 ⟨rfl, hb, hkn⟩ F2 N2
    rw [hps.length, List.take_length] at hb
    have e := firstB_none hb
    (repeat' (first | (k_unfold; (try dsimp only)) | (k_end; wrow_close) | ((with_reducible show wpAny _ _ (call _ _ _) _ _ _); first | ((with_reducible show wpAny _ _ (call (Value.builtin "len") [Value.ref _]) _ _ _); k_here; k_dflt (refine' len_listL (by exact Fr.lst (by assumption) (by assumption)) (by assumption) ?_; k_whole))) | ((with_reducible show wpAny _ _ (subscriptTail _ _ _ _) _ _ _); first | ((with_reducible show wpAny _ _ (subscriptTail _ _ (Value.ref _) (Value.int _ _)) _ _ _); k_here; k_dflt (refine' item_listI (by exact Fr.lst (by assumption) (by assumption)) (by assumption) (by first | rfl | omega) (by assumption) ?_ (by with_unfolding_all rfl); k_whole))) | ((with_reducible show wpAny _ _ (PySem.pyIter _) _ _ _); first | ((with_reducible show wpAny _ _ (PySem.pyIter _) _ _ _); refine Stop.intro ?_)) | ((with_reducible show wpAny _ _ (PySem.eval _ _) _ _ _); first | ((with_reducible show wpAny _ _ (PySem.eval (PySem.Expr.ListComp _ _ _ _) _) _ _ _); refine Stop.intro ?_)) | ((with_reducible show wpAny _ _ (PySem.exec _ _) _ _ _); first | ((with_reducible show wpAny _ _ (PySem.exec (PySem.Stmt.For _ _ _ _ _) _) _ _ _); refine Stop.intro ?_)) | walk1 | (dsimp only; walk1) | (leave1; try dsimp only) | ((with_reducible show wpAny _ _ _ _ _ _); dsimp only)))
    rw [← e]; exact ret _ _ _ (Fr.keep (by assumption))
end
end
section
theorem off_show : True := by
  w_top off
  trivial
theorem glue_wl : ∀ (ps : List (Int × Int)), (Txt.join "," (ps.map (pairT · false))).cps.toList = jw (ps.map (·, false))
  | [] => rfl
  | [q] => rfl
  | q :: r :: t => by
    have ih := glue_wl (r :: t)
    rw [show Txt.join "," ((q :: r :: t).map (pairT · false)) = pairT q false ++ "," ++ Txt.join "," ((r :: t).map (pairT · false)) from by
      show PySem.Builtin.Str.glued _ _ = _ ++ _ ++ PySem.Builtin.Str.glued _ _
      rw [StrLaws.glued_eq_join, StrLaws.glued_eq_join]; rfl]
    show (pairT q false ++ "," ++ Txt.join "," ((r :: t).map (pairT · false))).cps.toList = pw (q, false) ++ 44 :: jw ((r :: t).map (·, false))
    rw [cps_app, cps_app, ih, show (("," : Str).cps.toList) = [44] from by decide +kernel]
    simp [pw]
theorem pairT_len {x y : Int} {b : Bool} (hx : 0 ≤ x ∧ x ≤ 45) (hy : 0 ≤ y ∧ y ≤ 45) : (pairT (x, y) b).length ≤ 5 := by
  have h1 := endT_len hx
  have h2 := endT_len hy
  have h3 : (":" : Str).length = 1 := by decide +kernel
  by_cases h : x = y ∧ b = false
  · rw [pairT_0 h.1 h.2]; (first | lia | omega)
  · rw [pairT_1 h, Str.length_append, Str.length_append]; (first | lia | omega)
theorem pairT_len' {p : Int × Int} {b : Bool} (h : Small p) : (pairT p b).length ≤ 5 := pairT_len h.1 h.2
theorem jw_len : ∀ qs : List ((Int × Int) × Bool), (∀ q ∈ qs, Small q.1) → (jw qs).length ≤ 6 * qs.length
  | [], _ => by simp [jw]
  | [q], h => by
    have := pairT_len' (b := q.2) (h q (.head _))
    rw [str_len] at this
    simp only [jw, pw, List.length_cons, List.length_nil]; (first | lia | omega)
  | q :: r :: t, h => by
    have ih := jw_len (r :: t) fun p hp => h p (.tail _ hp)
    have := pairT_len' (b := q.2) (h q (.head _))
    rw [str_len] at this
    simp only [jw, pw, List.length_cons, List.length_append] at ih ⊢; (first | lia | omega)
theorem strs_sum {ps : List (Int × Int)} {b : Bool} (h : ∀ q ∈ ps, Small q) : ((ps.map (pairT · b)).map (·.length)).sum ≤ 5 * ps.length := by
  induction ps with
  | nil => simp
  | cons q r ih =>
    have := pairT_len' (b := b) (h q (.head _))
    have := ih fun p hp => h p (.tail _ hp)
    simp only [List.map_cons, List.sum_cons, List.length_cons]; (first | lia | omega)
section
variable {w : World} {mean : ExcName → Option Value} {mg mb : Str → Option Value} {dp un : Nat} {gd : Option (List Code)} {cn : Str} {cs : Scope} {a : Addr} {ccd : Value} {cl : List (Str × Addr)} {outer : List Env} {A₀ : Around} {base h₀ : Heap} {L : Addr} {m : Str → Option Value} {s : Shared} {Q E : Value → Shared → Prop}
   (B : Below A₀ base outer h₀) (F : Fr h₀ L s.heap m) (X : (hd.heap_39 w.params).In h₀) (T : TopH mean mg mb h₀) (hk : cs.kind = .function)
include B F X T hk
theorem c_show_set {pa : Addr} {n : Nat} {vs : List Value} {ps : List (Int × Int)} (hv : hp s.heap pa (tupO vs n)) (hps : PairsR (hp s.heap) vs ps) (hq : ∀ q ∈ ps, Small q) (hql : ps.length ≤ 100)
   (hdp : dp + 30 < recursionLimit) (hu : un + 300 < cLine)
   (ret : ∀ t T h' tk', s.heap.StaysIn h' → T.cps.toList = jw (ps.map (·, false)) → T.length ≤ 1000 → Q (.str T t) { s with heap := h', toks := tk' }) :
   wpAny (model PySem.Challenge.rw_no0356_01.row.prog w) (ktrTop dp un gd cn cs L a ccd cl outer) (call (.ref 94) [.ref pa]) Q E s := by
  revert X; k_fill; intro X
  refine wpAny_call ?_
  k_dflt (refine' code_pure (binds := [("some", .ref pa)]) ?k1 ?k2 ?k3 ?k5 ?kA ?kF ?kK ?k6 ?k7 ?k8 ?k9 ?kB ?_ ?c2 ?c3 ?c4 ?c5; (case kA => exact rfl); (case kF => exact rfl); (case kK => assumption); (case k1 => k_asm); (case k2 => k_asm); (case k3 => k_asm); (case k5 => k_asm); (case k6 => k_is); (case k7 => k_is); (case k8 => exact Nat.lt_of_le_of_lt (Nat.le_add_right _ _) hdp); (case k9 => exact BindsTo.of_eq rfl); (case c5 => decide); (case kB => exact locs rfl); (case c2 => exact rfl); (case c3 => exact rfl); (case c4 => exact rfl); k_whole; intro L' h' F' N' B' X' T'; (try dsimp only); (try dsimp only [List.reverse, List.reverseAux] at F'); (try k_lift B'); (try k_fold))
  (repeat' (first | (k_unfold; (try dsimp only)) | (k_end; wrow_close) | ((with_reducible show wpAny _ _ (call _ _ _) _ _ _); first | ((with_reducible show wpAny _ _ (call (Value.ref 89) _) _ _ _); k_here; (k_dflt (refine' c_show_pair (by k_asm) (by k_asm) (by k_asm) (by k_asm) (by exact rfl) (by (first | assumption | exact pair_base (by k_asm) (by assumption) | exact pair_in (by k_asm) (by k_asm) (by assumption) (by ((intro q' hq'; first | exact hq' | (simp only [List.mem_cons, List.mem_append] at hq' ⊢; simp only [hq', true_or, or_true]; done)))))) (by first | assumption | omega) (by first | assumption | omega) (by (first | exact room_sub (by assumption) (by decide) | exact room_sub3 (by assumption) (by decide))) (by (first | exact room_sub (by assumption) (by decide) | exact room_sub3 (by assumption) (by decide))) ?_; k_whole)); intro _ _ _ _; walk_at "my_after")) | ((with_reducible show wpAny _ _ (PySem.eval _ _) _ _ _); first | ((with_reducible show wpAny _ _ (PySem.eval (PySem.Expr.ListComp _ _ _ _) _) _ _ _); refine Stop.intro ?_)) | walk1 | (dsimp only; walk1) | (leave1; try dsimp only) | ((with_reducible show wpAny _ _ _ _ _ _); dsimp only)))
  refine Stop.out ?_
  k_dflt (refine ListComp_Utup (F₀ := by k_asm) (by rfl) (by decide) (by rfl) (by decide) (by rfl) ?_)
  (repeat' (first | (k_unfold; (try dsimp only)) | (k_end; wrow_close) | ((with_reducible show wpAny _ _ (call _ _ _) _ _ _); first | ((with_reducible show wpAny _ _ (call (Value.ref 89) _) _ _ _); k_here; (k_dflt (refine' c_show_pair (by k_asm) (by k_asm) (by k_asm) (by k_asm) (by exact rfl) (by (first | assumption | exact pair_base (by k_asm) (by assumption) | exact pair_in (by k_asm) (by k_asm) (by assumption) (by ((intro q' hq'; first | exact hq' | (simp only [List.mem_cons, List.mem_append] at hq' ⊢; simp only [hq', true_or, or_true]; done)))))) (by first | assumption | omega) (by first | assumption | omega) (by (first | exact room_sub (by assumption) (by decide) | exact room_sub3 (by assumption) (by decide))) (by (first | exact room_sub (by assumption) (by decide) | exact room_sub3 (by assumption) (by decide))) ?_; k_whole)); intro _ _ _ _; walk_at "my_after")) | ((with_reducible show wpAny _ _ (PySem.eval _ _) _ _ _); first | ((with_reducible show wpAny _ _ (PySem.eval (PySem.Expr.ListComp _ _ _ _) _) _ _ _); refine Stop.intro ?_)) | walk1 | (dsimp only; walk1) | (leave1; try dsimp only) | ((with_reducible show wpAny _ _ _ _ _ _); dsimp only)))
  rename Fr _ _ _ _ => F1
  rename News _ _ _ _ => N1
  refine ⟨_, vs.toArray, [], rfl, rfl, F1, N1, ⟨_, .inr hv, rfl, _, rfl⟩, ?_, fun g => compRest_ind _ (fun i ys nx => nx = [] ∧ StrsAre ys ((ps.take i).map (pairT · false))) ?_ ?_ _ _ _ _ (Nat.zero_add _) ⟨rfl, .nil⟩⟩
  · rw [List.size_toArray, hps.length]; exact Nat.le_trans hql (by decide)
  · rintro ys nx ⟨rfl, hy⟩
    rw [List.size_toArray, hps.length, List.take_length] at hy
    intro D h2 tk2 F2 N2 o2
    (repeat' (first | (k_unfold; (try dsimp only)) | (k_end; wrow_close) | ((with_reducible show wpAny _ _ (call _ _ _) _ _ _); first | ((with_reducible show wpAny _ _ (call (Value.ref 89) _) _ _ _); k_here; (k_dflt (refine' c_show_pair (by k_asm) (by k_asm) (by k_asm) (by k_asm) (by exact rfl) (by (first | assumption | exact pair_base (by k_asm) (by assumption) | exact pair_in (by k_asm) (by k_asm) (by assumption) (by ((intro q' hq'; first | exact hq' | (simp only [List.mem_cons, List.mem_append] at hq' ⊢; simp only [hq', true_or, or_true]; done)))))) (by first | assumption | omega) (by first | assumption | omega) (by (first | exact room_sub (by assumption) (by decide) | exact room_sub3 (by assumption) (by decide))) (by (first | exact room_sub (by assumption) (by decide) | exact room_sub3 (by assumption) (by decide))) ?_; k_whole)); intro _ _ _ _; walk_at "my_after")) | ((with_reducible show wpAny _ _ (PySem.eval _ _) _ _ _); first | ((with_reducible show wpAny _ _ (PySem.eval (PySem.Expr.ListComp _ _ _ _) _) _ _ _); refine Stop.intro ?_)) | walk1 | (dsimp only; walk1) | (leave1; try dsimp only) | ((with_reducible show wpAny _ _ _ _ _ _); dsimp only)))
    refine join_listW (News.isList N2 (.head _)) hy (by decide) ?_ fun t' k => ?_
    · have := strs_sum (b := false) hq
      rw [List.length_map]; (first | lia | omega)
    (repeat' (first | (k_unfold; (try dsimp only)) | (k_end; wrow_close) | ((with_reducible show wpAny _ _ (call _ _ _) _ _ _); first | ((with_reducible show wpAny _ _ (call (Value.ref 89) _) _ _ _); k_here; (k_dflt (refine' c_show_pair (by k_asm) (by k_asm) (by k_asm) (by k_asm) (by exact rfl) (by (first | assumption | exact pair_base (by k_asm) (by assumption) | exact pair_in (by k_asm) (by k_asm) (by assumption) (by ((intro q' hq'; first | exact hq' | (simp only [List.mem_cons, List.mem_append] at hq' ⊢; simp only [hq', true_or, or_true]; done)))))) (by first | assumption | omega) (by first | assumption | omega) (by (first | exact room_sub (by assumption) (by decide) | exact room_sub3 (by assumption) (by decide))) (by (first | exact room_sub (by assumption) (by decide) | exact room_sub3 (by assumption) (by decide))) ?_; k_whole)); intro _ _ _ _; walk_at "my_after")) | ((with_reducible show wpAny _ _ (PySem.eval _ _) _ _ _); first | ((with_reducible show wpAny _ _ (PySem.eval (PySem.Expr.ListComp _ _ _ _) _) _ _ _); refine Stop.intro ?_)) | walk1 | (dsimp only; walk1) | (leave1; try dsimp only) | ((with_reducible show wpAny _ _ _ _ _ _); dsimp only)))
    refine ret _ _ _ _ (Fr.keep (by assumption)) (glue_wl ps) ?_
    rw [str_len, glue_wl]
    have := jw_len (ps.map (·, false)) (by intro q hq'; obtain ⟨p, hp, rfl⟩ := List.mem_map.mp hq'; exact hq p hp)
    rw [List.length_map] at this; (first | lia | omega)
  · rintro i ys nx v I oI C oC D m₂ h1 tk E' hi ⟨rfl, hy⟩ hP hoC hx F2 N2 o3 hne
    obtain ⟨⟨x, y⟩, hpi, hr⟩ := hps.get (by simpa using hP)
    have hr1 : PairR (hp h1) v (x, y) := hr.mono fun a o e => F2.keep a o e
    obtain ⟨hqx, hqy⟩ : Small (x, y) := hq _ (List.mem_of_getElem? hpi)
    dsimp only at hqx hqy
    (repeat' (first | (k_unfold; (try dsimp only)) | (k_end; wrow_close) | ((with_reducible show wpAny _ _ (call _ _ _) _ _ _); first | ((with_reducible show wpAny _ _ (call (Value.ref 89) _) _ _ _); k_here; (k_dflt (refine' c_show_pair (by k_asm) (by k_asm) (by k_asm) (by k_asm) (by exact rfl) (by (first | assumption | exact pair_base (by k_asm) (by assumption) | exact pair_in (by k_asm) (by k_asm) (by assumption) (by ((intro q' hq'; first | exact hq' | (simp only [List.mem_cons, List.mem_append] at hq' ⊢; simp only [hq', true_or, or_true]; done)))))) (by first | assumption | omega) (by first | assumption | omega) (by (first | exact room_sub (by assumption) (by decide) | exact room_sub3 (by assumption) (by decide))) (by (first | exact room_sub (by assumption) (by decide) | exact room_sub3 (by assumption) (by decide))) ?_; k_whole)); intro _ _ _ _; walk_at "my_after")) | ((with_reducible show wpAny _ _ (PySem.eval _ _) _ _ _); first | ((with_reducible show wpAny _ _ (PySem.eval (PySem.Expr.ListComp _ _ _ _) _) _ _ _); refine Stop.intro ?_)) | walk1 | (dsimp only; walk1) | (leave1; try dsimp only) | ((with_reducible show wpAny _ _ _ _ _ _); dsimp only)))
    rename Fr _ _ _ _ => F3
    rename News _ _ _ _ => N3
    refine CompEnd.intro F3 N3 [] (fun _ h => h) trivial ⟨_, .inr hv, rfl, _, rfl⟩ ⟨rfl, ?_⟩
    rw [List.take_add_one, hpi, Option.toList_some, List.map_append]
    exact kct_snoc hy
end
end
section
theorem off_spread : True := by
  w_top off
  trivial
open PyProof.V
section
variable {w : World} {mean : ExcName → Option Value} {mg mb : Str → Option Value} {dp un : Nat} {gd : Option (List Code)} {cn : Str} {cs : Scope} {a : Addr} {ccd : Value} {cl : List (Str × Addr)} {outer : List Env} {A₀ : Around} {base h₀ : Heap} {L : Addr} {m : Str → Option Value} {s : Shared} {Q E : Value → Shared → Prop}
   (B : Below A₀ base outer h₀) (F : Fr h₀ L s.heap m) (X : (hd.heap_39 w.params).In h₀) (T : TopH mean mg mb h₀) (hk : cs.kind = .function)
include B F X T hk
theorem c_law_spread {pa : Addr} {n : Nat} {vs : List Value} {ps : List (Int × Int)} {g : Int} {tg : Tok} (hv : hp s.heap pa (W.listOf vs.toArray n)) (hps : PairsR (hp s.heap) vs ps) (hsm : ∀ p ∈ ps, Small p) (hg : 0 ≤ g ∧ g ≤ 45) (hql : vs.length < 64)
   (hdp : dp + 100 < recursionLimit) (hu : un + 400 < cLine)
   (ret : ∀ d o (ks : List Int) h' tk', s.heap.StaysIn h' → s.heap.get? d = none → (d == sysModules) = false → h'.get? d = some o → SetO PySem.Challenge.rw_no0356_01.row.prog w o ks → ks.Nodup → (∀ k, k ∈ ks ↔ hasP ps g k = true) → Q (.ref d) { s with heap := h', toks := tk' }) :
   wpAny (model PySem.Challenge.rw_no0356_01.row.prog w) (ktrTop dp un gd cn cs L a ccd cl outer) (call (.ref 157) [.ref pa, .int g tg]) Q E s := by
  revert X; k_fill; intro X
  refine wpAny_call ?_
  k_dflt (refine' code_pure (binds := [("pairs", .ref pa), ("greatest", .int g tg)]) ?k1 ?k2 ?k3 ?k5 ?kA ?kF ?kK ?k6 ?k7 ?k8 ?k9 ?kB ?_ ?c2 ?c3 ?c4 ?c5; (case kA => exact rfl); (case kF => exact rfl); (case kK => assumption); (case k1 => k_asm); (case k2 => k_asm); (case k3 => k_asm); (case k5 => k_asm); (case k6 => k_is); (case k7 => k_is); (case k8 => exact Nat.lt_of_le_of_lt (Nat.le_add_right _ _) hdp); (case k9 => exact BindsTo.of_eq rfl); (case c5 => decide); (case kB => exact locs rfl); (case c2 => exact rfl); (case c3 => exact rfl); (case c4 => exact rfl); k_whole; intro L' h' F' N' B' X' T'; (try dsimp only); (try dsimp only [List.reverse, List.reverseAux] at F'); (try k_lift B'); (try k_fold))
  (repeat' (first | (k_unfold; (try dsimp only)) | (k_end; wrow_close) | ((with_reducible show wpAny _ _ (PySem.execs _ _) _ _ _); first | ((with_reducible show wpAny _ _ (PySem.execs (PySem.Stmt.Assign [PySem.Expr.Name (PySem.Str.ofString "one") _] _ _ :: _) _) _ _ _); refine Stop.intro ?_)) | ((with_reducible show wpAny _ _ (setItem _ _ _) _ _ _); first | ((with_reducible show wpAny _ _ (setItem (Value.ref _) (Value.int _ _) _) _ _ _); k_here; k_dflt (refine' set_S (by k_asm) (by k_asm) (by k_updF) (by assumption) (by (have := ‹List.length _ ≤ 50000›; omega)) ?_; k_whole); intro _ _ _ N' hS'; (try dsimp only at N'); (try k_sweep; revert N' hS'; intro _ _))) | ((with_reducible show wpAny _ _ (PySem.pyIter _) _ _ _); first | ((with_reducible show wpAny _ _ (PySem.pyIter _) _ _ _); refine Stop.intro ?_)) | ((with_reducible show wpAny _ _ (PySem.exec _ _) _ _ _); first | ((with_reducible show wpAny _ _ (PySem.exec (PySem.Stmt.For _ _ _ _ _) _) _ _ _); refine Stop.intro ?_)) | walk1 | (dsimp only; walk1) | (leave1; try dsimp only) | ((with_reducible show wpAny _ _ _ _ _ _); dsimp only)))
  rename Fr _ _ _ _ => F1
  rename News _ _ _ _ => N1
  obtain ⟨d, ed⟩ := led_name N1
  subst ed
  rename (d == sysModules) = false => hmod
  refine Stop.out (For_turns F1 ?_)
  (repeat' (first | (k_unfold; (try dsimp only)) | (k_end; wrow_close) | ((with_reducible show wpAny _ _ (PySem.execs _ _) _ _ _); first | ((with_reducible show wpAny _ _ (PySem.execs (PySem.Stmt.Assign [PySem.Expr.Name (PySem.Str.ofString "one") _] _ _ :: _) _) _ _ _); refine Stop.intro ?_)) | ((with_reducible show wpAny _ _ (setItem _ _ _) _ _ _); first | ((with_reducible show wpAny _ _ (setItem (Value.ref _) (Value.int _ _) _) _ _ _); k_here; k_dflt (refine' set_S (by k_asm) (by k_asm) (by k_updF) (by assumption) (by (have := ‹List.length _ ≤ 50000›; omega)) ?_; k_whole); intro _ _ _ N' hS'; (try dsimp only at N'); (try k_sweep; revert N' hS'; intro _ _))) | ((with_reducible show wpAny _ _ (PySem.pyIter _) _ _ _); first | ((with_reducible show wpAny _ _ (PySem.pyIter _) _ _ _); refine Stop.intro ?_)) | ((with_reducible show wpAny _ _ (PySem.exec _ _) _ _ _); first | ((with_reducible show wpAny _ _ (PySem.exec (PySem.Stmt.For _ _ _ _ _) _) _ _ _); refine Stop.intro ?_)) | walk1 | (dsimp only; walk1) | (leave1; try dsimp only) | ((with_reducible show wpAny _ _ _ _ _ _); dsimp only)))
  refine Stop.out ?_
  refine turns_seq (fun i m nx => ∃ od ks, nx = [(d, od)] ∧ SetO PySem.Challenge.rw_no0356_01.row.prog w od ks ∧ ks.Nodup ∧ (∀ k, k ∈ ks ↔ hasP (ps.take i) g k = true) ∧ Knows m [("found", .ref d), ("pairs", .ref pa), ("greatest", .int g tg)]) rfl (seqO_list vs n) (.inr hv) F1 N1 ⟨_, [], rfl, ⟨_, by assumption, by assumption⟩, .nil, (fun k => by simp [hasP]), by (repeat' (first | exact Knows.nil | refine Knows.cons (by with_unfolding_all rfl) ?_))⟩ ?_ ?_ ?_
  · exact fun _ _ _ _ q hq e => (off_base N1 hv q hq e).elim
  · rintro i v m₁ nx h1 tk2 own hi hoff ⟨od, ks, rfl, hS, hnd, hks, hkn⟩ F5 N5
    obtain ⟨⟨x, y⟩, hpi, hr⟩ := hps.get hi
    simp only [List.cons_append, List.nil_append] at N5
    replace F5 := fr_known F5 hkn
    obtain ⟨pb, t1, u1, rfl, hTb⟩ := hr.tup
    obtain ⟨⟨hx0, hx1⟩, hy0, hy1⟩ := hsm _ (List.mem_of_getElem? hpi)
    dsimp only at hTb hx0 hx1 hy0 hy1
    have hst := fun k => hasP_take (g := g) (k := k) hpi
    obtain ⟨A, hA⟩ : ∃ A, A = if x = 0 then g else x := ⟨_, rfl⟩
    obtain ⟨B, hB⟩ : ∃ B, B = if y = 0 then g else y := ⟨_, rfl⟩
    have hin := fun k => inP_iff (k := k) hA hB hx0 hy0 hg.1
    replace hA : (x = 0 ∧ A = g) ∨ (x ≠ 0 ∧ A = x) := by
      by_cases h : x = 0
      · exact .inl ⟨h, by rw [hA, if_pos h]⟩
      · exact .inr ⟨h, by rw [hA, if_neg h]⟩
    replace hB : (y = 0 ∧ B = g) ∨ (y ≠ 0 ∧ B = y) := by
      by_cases h : y = 0
      · exact .inl ⟨h, by rw [hB, if_pos h]⟩
      · exact .inr ⟨h, by rw [hB, if_neg h]⟩
    have hno : ¬ (0 < A ∧ 0 < B) → ∀ k, k ∈ ks ↔ hasP (ps.take (i + 1)) g k = true := fun hn k => by
      rw [hst k, hks k, Bool.or_eq_true, hin k]
      exact ⟨.inl, fun h => h.elim id fun h => absurd h.1 hn⟩
    have hyes : 0 < A ∧ 0 < B → ∀ ks' : List Int, (∀ k, k ∈ ks' ↔ k ∈ ks ∨ (min A B ≤ k ∧ k < min A B + ((max A B + 1 - min A B).toNat : Int))) → ∀ k, k ∈ ks' ↔ hasP (ps.take (i + 1)) g k = true := fun hn ks' hk' k => by
      rw [hst k, hk' k, Bool.or_eq_true, hin k, hks k]
      have : min A B ≤ max A B := by omega
      constructor
      · rintro (h | h)
        · exact .inl h
        · exact .inr ⟨hn, by omega⟩
      · rintro (h | h)
        · exact .inl h
        · exact .inr ⟨h.2.1, by omega⟩
    have hrng : ∀ k ∈ ks, 0 ≤ k ∧ k ≤ 45 := fun k hk => hasP_b (fun p hp => hsm p (List.mem_of_mem_take hp)) hg ((hks k).mp hk)
    have hAb : 0 ≤ A ∧ A ≤ 45 := by omega
    have hBb : 0 ≤ B ∧ B ≤ 45 := by omega
    clear F1 N1 hst hin hks
    (repeat' (first | (k_unfold; (try dsimp only)) | (k_end; wrow_close) | ((with_reducible show wpAny _ _ (PySem.execs _ _) _ _ _); first | ((with_reducible show wpAny _ _ (PySem.execs (PySem.Stmt.Assign [PySem.Expr.Name (PySem.Str.ofString "one") _] _ _ :: _) _) _ _ _); refine Stop.intro ?_)) | ((with_reducible show wpAny _ _ (setItem _ _ _) _ _ _); first | ((with_reducible show wpAny _ _ (setItem (Value.ref _) (Value.int _ _) _) _ _ _); k_here; k_dflt (refine' set_S (by k_asm) (by k_asm) (by k_updF) (by assumption) (by (have := ‹List.length _ ≤ 50000›; omega)) ?_; k_whole); intro _ _ _ N' hS'; (try dsimp only at N'); (try k_sweep; revert N' hS'; intro _ _))) | ((with_reducible show wpAny _ _ (PySem.pyIter _) _ _ _); first | ((with_reducible show wpAny _ _ (PySem.pyIter _) _ _ _); refine Stop.intro ?_)) | ((with_reducible show wpAny _ _ (PySem.exec _ _) _ _ _); first | ((with_reducible show wpAny _ _ (PySem.exec (PySem.Stmt.For _ _ _ _ _) _) _ _ _); refine Stop.intro ?_)) | walk1 | (dsimp only; walk1) | (leave1; try dsimp only) | ((with_reducible show wpAny _ _ _ _ _ _); dsimp only)))
    refine Stop.out (execs_cut (fun s' => ∃ h' tk' m', s' = { s with heap := h', toks := tk' } ∧ Fr s.heap L' h' m' ∧ News s.heap L' h' ((d, od) :: own) ∧ KInt m' "one" A ∧ Knows m' [("low", .int x t1), ("high", .int y u1), ("found", .ref d), ("pairs", .ref pa), ("greatest", .int g tg)]) ?_ ?_)
    · clear hno hyes hB hrng
      (repeat' (first | (k_unfold; (try dsimp only)) | (k_end; wrow_close) | ((with_reducible show wpAny _ _ (PySem.execs _ _) _ _ _); first | ((with_reducible show wpAny _ _ (PySem.execs (PySem.Stmt.Assign [PySem.Expr.Name (PySem.Str.ofString "one") _] _ _ :: _) _) _ _ _); refine Stop.intro ?_)) | ((with_reducible show wpAny _ _ (setItem _ _ _) _ _ _); first | ((with_reducible show wpAny _ _ (setItem (Value.ref _) (Value.int _ _) _) _ _ _); k_here; k_dflt (refine' set_S (by k_asm) (by k_asm) (by k_updF) (by assumption) (by (have := ‹List.length _ ≤ 50000›; omega)) ?_; k_whole); intro _ _ _ N' hS'; (try dsimp only at N'); (try k_sweep; revert N' hS'; intro _ _))) | ((with_reducible show wpAny _ _ (PySem.pyIter _) _ _ _); first | ((with_reducible show wpAny _ _ (PySem.pyIter _) _ _ _); refine Stop.intro ?_)) | ((with_reducible show wpAny _ _ (PySem.exec _ _) _ _ _); first | ((with_reducible show wpAny _ _ (PySem.exec (PySem.Stmt.For _ _ _ _ _) _) _ _ _); refine Stop.intro ?_)) | walk1 | (dsimp only; walk1) | (leave1; try dsimp only) | ((with_reducible show wpAny _ _ _ _ _ _); dsimp only)))
      all_goals
        rename News _ _ _ _ => N9
        rename Fr _ _ _ _ => F9
        refine Stop.out ⟨rfl, _, _, _, rfl, F9, N9, ?_, by (repeat' (first | exact Knows.nil | refine Knows.cons (by with_unfolding_all rfl) ?_))⟩
        first
          | exact kint_of (z := g) (by with_unfolding_all rfl) (by omega)
          | exact kint_of (z := x) (by with_unfolding_all rfl) (by omega)
    rintro _ ⟨h2, tk3, m2, rfl, F6, N6, ⟨tA, kA⟩, kn2⟩
    replace F6 := fr_known F6 (.cons kA kn2)
    clear F5 N5 hkn hA
    refine execs_cut (fun s' => ∃ h' tk' m', s' = { s with heap := h', toks := tk' } ∧ Fr s.heap L' h' m' ∧ News s.heap L' h' ((d, od) :: own) ∧ KInt m' "two" B ∧ Knows m' (("one", .int A tA) :: [("low", .int x t1), ("high", .int y u1), ("found", .ref d), ("pairs", .ref pa), ("greatest", .int g tg)])) ?_ ?_
    · clear hno hyes hrng
      (try dsimp only)
      (repeat' (first | (k_unfold; (try dsimp only)) | (k_end; wrow_close) | ((with_reducible show wpAny _ _ (PySem.execs _ _) _ _ _); first | ((with_reducible show wpAny _ _ (PySem.execs (PySem.Stmt.Assign [PySem.Expr.Name (PySem.Str.ofString "one") _] _ _ :: _) _) _ _ _); refine Stop.intro ?_)) | ((with_reducible show wpAny _ _ (setItem _ _ _) _ _ _); first | ((with_reducible show wpAny _ _ (setItem (Value.ref _) (Value.int _ _) _) _ _ _); k_here; k_dflt (refine' set_S (by k_asm) (by k_asm) (by k_updF) (by assumption) (by (have := ‹List.length _ ≤ 50000›; omega)) ?_; k_whole); intro _ _ _ N' hS'; (try dsimp only at N'); (try k_sweep; revert N' hS'; intro _ _))) | ((with_reducible show wpAny _ _ (PySem.pyIter _) _ _ _); first | ((with_reducible show wpAny _ _ (PySem.pyIter _) _ _ _); refine Stop.intro ?_)) | ((with_reducible show wpAny _ _ (PySem.exec _ _) _ _ _); first | ((with_reducible show wpAny _ _ (PySem.exec (PySem.Stmt.For _ _ _ _ _) _) _ _ _); refine Stop.intro ?_)) | walk1 | (dsimp only; walk1) | (leave1; try dsimp only) | ((with_reducible show wpAny _ _ _ _ _ _); dsimp only)))
      all_goals
        rename News _ _ _ _ => N9
        rename Fr _ _ _ _ => F9
        refine Stop.out ⟨rfl, _, _, _, rfl, F9, N9, ?_, by (repeat' (first | exact Knows.nil | refine Knows.cons (by with_unfolding_all rfl) ?_))⟩
        first
          | exact kint_of (z := g) (by with_unfolding_all rfl) (by omega)
          | exact kint_of (z := y) (by with_unfolding_all rfl) (by omega)
    rintro _ ⟨h3, tk4, m3, rfl, F7, N7, ⟨tB, kB⟩, kn3⟩
    replace F7 := fr_known F7 (.cons kB kn3)
    clear F6 N6 kA kn2 hB
    (try dsimp only)
    (repeat' (first | (k_unfold; (try dsimp only)) | (k_end; wrow_close) | ((with_reducible show wpAny _ _ (PySem.execs _ _) _ _ _); first | ((with_reducible show wpAny _ _ (PySem.execs (PySem.Stmt.Assign [PySem.Expr.Name (PySem.Str.ofString "one") _] _ _ :: _) _) _ _ _); refine Stop.intro ?_)) | ((with_reducible show wpAny _ _ (setItem _ _ _) _ _ _); first | ((with_reducible show wpAny _ _ (setItem (Value.ref _) (Value.int _ _) _) _ _ _); k_here; k_dflt (refine' set_S (by k_asm) (by k_asm) (by k_updF) (by assumption) (by (have := ‹List.length _ ≤ 50000›; omega)) ?_; k_whole); intro _ _ _ N' hS'; (try dsimp only at N'); (try k_sweep; revert N' hS'; intro _ _))) | ((with_reducible show wpAny _ _ (PySem.pyIter _) _ _ _); first | ((with_reducible show wpAny _ _ (PySem.pyIter _) _ _ _); refine Stop.intro ?_)) | ((with_reducible show wpAny _ _ (PySem.exec _ _) _ _ _); first | ((with_reducible show wpAny _ _ (PySem.exec (PySem.Stmt.For _ _ _ _ _) _) _ _ _); refine Stop.intro ?_)) | walk1 | (dsimp only; walk1) | (leave1; try dsimp only) | ((with_reducible show wpAny _ _ _ _ _ _); dsimp only)))
    all_goals first
      | (rename News _ _ _ _ => N9; rename Fr _ _ _ _ => F9
         exact inv_end (nx := [(d, od)]) F9 N9 ⟨_, ks, rfl, hS, hnd, hno (by omega), by (repeat' (first | exact Knows.nil | refine Knows.cons (by with_unfolding_all rfl) ?_))⟩ hoff)
      | skip
    all_goals
      refine Stop.out ?_
      rename Fr _ _ _ _ => F6
      k_dflt (refine' For_invVF F6 ?k1 ?k2 ?_; (case k1 => exact rfl); (case k2 => exact rfl))
      (repeat' (first | (k_unfold; (try dsimp only)) | (k_end; wrow_close) | ((with_reducible show wpAny _ _ (PySem.execs _ _) _ _ _); first | ((with_reducible show wpAny _ _ (PySem.execs (PySem.Stmt.Assign [PySem.Expr.Name (PySem.Str.ofString "one") _] _ _ :: _) _) _ _ _); refine Stop.intro ?_)) | ((with_reducible show wpAny _ _ (setItem _ _ _) _ _ _); first | ((with_reducible show wpAny _ _ (setItem (Value.ref _) (Value.int _ _) _) _ _ _); k_here; k_dflt (refine' set_S (by k_asm) (by k_asm) (by k_updF) (by assumption) (by (have := ‹List.length _ ≤ 50000›; omega)) ?_; k_whole); intro _ _ _ N' hS'; (try dsimp only at N'); (try k_sweep; revert N' hS'; intro _ _))) | ((with_reducible show wpAny _ _ (PySem.pyIter _) _ _ _); first | ((with_reducible show wpAny _ _ (PySem.pyIter _) _ _ _); refine Stop.intro ?_)) | ((with_reducible show wpAny _ _ (PySem.exec _ _) _ _ _); first | ((with_reducible show wpAny _ _ (PySem.exec (PySem.Stmt.For _ _ _ _ _) _) _ _ _); refine Stop.intro ?_)) | walk1 | (dsimp only; walk1) | (leave1; try dsimp only) | ((with_reducible show wpAny _ _ _ _ _ _); dsimp only)))
      rename Fr _ _ _ _ => F7
      rename News _ _ _ _ => N7
      obtain ⟨a0, b0, ha0, hb0, hr0⟩ := rg (by assumption)
      have e0 : a0 = min A B := by rw [ha0]; (repeat' split) <;> omega
      have e1 : b0 = max A B + 1 := by rw [hb0]; (repeat' split) <;> omega
      clear ha0 hb0
      subst e0 e1
      refine Stop.out (loop_range (n := (max A B + 1 - min A B).toNat) (fun i' m nx => ∃ od' ks', nx = (d, od') :: own ∧ SetO PySem.Challenge.rw_no0356_01.row.prog w od' ks' ∧ ks'.Nodup ∧ (∀ k, k ∈ ks' ↔ k ∈ ks ∨ (min A B ≤ k ∧ k < min A B + (i' : Int))) ∧ Knows m [("found", .ref d), ("pairs", .ref pa), ("greatest", .int g tg)]) rfl hr0 (small_up (by omega) (by omega) (by omega) (by omega)) (rangeSize_up _ _) F7 N7 ⟨od, ks, rfl, hS, hnd, fun k => ⟨.inl, fun h => h.elim id fun h => by omega⟩, by (repeat' (first | exact Knows.nil | refine Knows.cons (by with_unfolding_all rfl) ?_))⟩ ?_ ?_)
      · rintro i' t m₂ nx h2 tk3 own2 hi' hoff2 ⟨od', ks', rfl, hS', hnd', hk', hkn'⟩ F8 N8
        simp only [List.cons_append] at N8
        replace F8 := fr_knownS F8 hkn'
        have hoo := ownOff_app hoff hoff2
        have hlen : ks'.length ≤ 50000 := Nat.le_trans (nodup_len 0 46 ks' hnd' fun k hk => by
          rcases (hk' k).mp hk with h | h
          · have := hrng k h; omega
          · omega) (by decide)
        (repeat' (first | (k_unfold; (try dsimp only)) | (k_end; wrow_close) | ((with_reducible show wpAny _ _ (PySem.execs _ _) _ _ _); first | ((with_reducible show wpAny _ _ (PySem.execs (PySem.Stmt.Assign [PySem.Expr.Name (PySem.Str.ofString "one") _] _ _ :: _) _) _ _ _); refine Stop.intro ?_)) | ((with_reducible show wpAny _ _ (setItem _ _ _) _ _ _); first | ((with_reducible show wpAny _ _ (setItem (Value.ref _) (Value.int _ _) _) _ _ _); k_here; k_dflt (refine' set_S (by k_asm) (by k_asm) (by k_updF) (by assumption) (by (have := ‹List.length _ ≤ 50000›; omega)) ?_; k_whole); intro _ _ _ N' hS'; (try dsimp only at N'); (try k_sweep; revert N' hS'; intro _ _))) | ((with_reducible show wpAny _ _ (PySem.pyIter _) _ _ _); first | ((with_reducible show wpAny _ _ (PySem.pyIter _) _ _ _); refine Stop.intro ?_)) | ((with_reducible show wpAny _ _ (PySem.exec _ _) _ _ _); first | ((with_reducible show wpAny _ _ (PySem.exec (PySem.Stmt.For _ _ _ _ _) _) _ _ _); refine Stop.intro ?_)) | walk1 | (dsimp only; walk1) | (leave1; try dsimp only) | ((with_reducible show wpAny _ _ _ _ _ _); dsimp only)))
        rename SetO _ _ _ _ => hS9
        rename News _ _ _ _ => N9; rename Fr _ _ _ _ => F9
        refine inv_end (nx := _ :: own) F9 N9 ⟨_, _, rfl, hS9, nodup_ins hnd', fun k => ?_, by (repeat' (first | exact Knows.nil | refine Knows.cons (by with_unfolding_all rfl) ?_))⟩ hoff2
        rw [mem_ins, hk' k]
        constructor
        · rintro ((h | h) | h)
          · exact .inl h
          · exact .inr (by omega)
          · exact .inr (by omega)
        · rintro (h | h)
          · exact .inl (.inl h)
          · by_cases e : k = min A B + (i' : Int)
            · exact .inr e
            · exact .inl (.inr (by omega))
      · rintro m₂ nx h2 tk3 ⟨od', ks', rfl, hS', hnd', hk', hkn'⟩ F8 N8
        replace F8 := fr_known F8 hkn'
        (repeat' (first | (k_unfold; (try dsimp only)) | (k_end; wrow_close) | ((with_reducible show wpAny _ _ (PySem.execs _ _) _ _ _); first | ((with_reducible show wpAny _ _ (PySem.execs (PySem.Stmt.Assign [PySem.Expr.Name (PySem.Str.ofString "one") _] _ _ :: _) _) _ _ _); refine Stop.intro ?_)) | ((with_reducible show wpAny _ _ (setItem _ _ _) _ _ _); first | ((with_reducible show wpAny _ _ (setItem (Value.ref _) (Value.int _ _) _) _ _ _); k_here; k_dflt (refine' set_S (by k_asm) (by k_asm) (by k_updF) (by assumption) (by (have := ‹List.length _ ≤ 50000›; omega)) ?_; k_whole); intro _ _ _ N' hS'; (try dsimp only at N'); (try k_sweep; revert N' hS'; intro _ _))) | ((with_reducible show wpAny _ _ (PySem.pyIter _) _ _ _); first | ((with_reducible show wpAny _ _ (PySem.pyIter _) _ _ _); refine Stop.intro ?_)) | ((with_reducible show wpAny _ _ (PySem.exec _ _) _ _ _); first | ((with_reducible show wpAny _ _ (PySem.exec (PySem.Stmt.For _ _ _ _ _) _) _ _ _); refine Stop.intro ?_)) | walk1 | (dsimp only; walk1) | (leave1; try dsimp only) | ((with_reducible show wpAny _ _ _ _ _ _); dsimp only)))
        rename News _ _ _ _ => N9; rename Fr _ _ _ _ => F9
        exact inv_end (nx := [(d, od')]) F9 N9 ⟨_, ks', rfl, hS', hnd', hyes (by omega) ks' hk', by (repeat' (first | exact Knows.nil | refine Knows.cons (by with_unfolding_all rfl) ?_))⟩ hoff
  · rintro m₁ nx h1 tk2 ⟨od, ks, rfl, hS, hnd, hks, hkn⟩ F5 N5
    rw [hps.length, List.take_length] at hks
    replace F5 := fr_known F5 hkn
    (repeat' (first | (k_unfold; (try dsimp only)) | (k_end; wrow_close) | ((with_reducible show wpAny _ _ (PySem.execs _ _) _ _ _); first | ((with_reducible show wpAny _ _ (PySem.execs (PySem.Stmt.Assign [PySem.Expr.Name (PySem.Str.ofString "one") _] _ _ :: _) _) _ _ _); refine Stop.intro ?_)) | ((with_reducible show wpAny _ _ (setItem _ _ _) _ _ _); first | ((with_reducible show wpAny _ _ (setItem (Value.ref _) (Value.int _ _) _) _ _ _); k_here; k_dflt (refine' set_S (by k_asm) (by k_asm) (by k_updF) (by assumption) (by (have := ‹List.length _ ≤ 50000›; omega)) ?_; k_whole); intro _ _ _ N' hS'; (try dsimp only at N'); (try k_sweep; revert N' hS'; intro _ _))) | ((with_reducible show wpAny _ _ (PySem.pyIter _) _ _ _); first | ((with_reducible show wpAny _ _ (PySem.pyIter _) _ _ _); refine Stop.intro ?_)) | ((with_reducible show wpAny _ _ (PySem.exec _ _) _ _ _); first | ((with_reducible show wpAny _ _ (PySem.exec (PySem.Stmt.For _ _ _ _ _) _) _ _ _); refine Stop.intro ?_)) | walk1 | (dsimp only; walk1) | (leave1; try dsimp only) | ((with_reducible show wpAny _ _ _ _ _ _); dsimp only)))
    rename News s.heap _ _ _ => N9
    exact ret _ _ ks _ _ (Fr.keep (by assumption)) (N9 _ (.head _)).2.2 hmod (N9 _ (.head _)).1 hS hnd hks
end
end
section
theorem off_law0 : True := by
  w_top off
  trivial
/-- the law's own statements, taken out of the program -/
def lawFn : Option (List Stmt × Scope) := match PySem.Challenge.pw_no0356_01.main.body.getLast? with
  | some (.FunctionDef _ _ body _ _ _ scope _ _ _) => some (body, scope)
  | _ => none
def lawBody : List Stmt := (lawFn.map (·.1)).getD []
def lawScope : Scope := (lawFn.map (·.2)).getD default
def lawSt (n : Nat) : Stmt := lawBody.getD n default
theorem lawBody_eq : lawBody = [lawSt 0, lawSt 1, lawSt 2, lawSt 3, lawSt 4, lawSt 5, lawSt 6, lawSt 7, lawSt 8, lawSt 9, lawSt 10, lawSt 11, lawSt 12, lawSt 13, lawSt 14, lawSt 15] := by with_unfolding_all rfl
abbrev lawA (L fa : Addr) (ccd : Value) : Around := callerA.deeper (envOfC "law" lawScope L fa ccd)
abbrev lawE (L fa : Addr) (ccd : Value) : Env := envOfC "law" lawScope L fa ccd
theorem pick_h {h₀ h : Heap} {L : Addr} {x1 x2 x3 x4 x5 x6 x7 x8 x9 : Addr × Obj} (N : News h₀ L h [x1, x2, x3, x4, x5, x6, x7, x8, x9]) : News h₀ L h [x2, x3, x6, x7, x8, x9] := news_sub N (by
  intro q hq; simp only [List.mem_cons, List.not_mem_nil, or_false] at hq ⊢; rcases hq with e | e | e | e | e | e <;> simp [e])
theorem fmod_b (x : Int) : 0 ≤ Int.fmod x 41 ∧ Int.fmod x 41 ≤ 40 := by
  rw [Int.fmod_eq_emod_of_nonneg _ (by decide)]; omega
section
variable {w : World} {mean : ExcName → Option Value} {mg mb : Str → Option Value} {fa L : Addr} {ccd : Value} {g : Heap} {s : Shared} {Q : Flow → Shared → Prop} {E : Value → Shared → Prop} {rest : List Stmt} {m : Str → Option Value}
   (B : Below callerA g [] g) (X : (hd.heap_39 w.params).In g) (T : TopH mean mg mb g)
include B X T
theorem l_head {c1 c2 c3 c4 : Obj} {ls : Addr} {vs : List Value} {ns : List Int} (hkn : Knows m [("script", .ref ls)]) (F : Fr g L s.heap m) (N : News g L s.heap [(L + 1 + 1 + 1 + 1, c4), (L + 1 + 1 + 1, c3), (L + 1 + 1, c2), (L + 1, c1)])
   (e1 : c1.data = .cell none) (e2 : c2.data = .cell none) (e3 : c3.data = .cell none) (e4 : c4.data = .cell none) (hl : g.IsList ls vs.toArray) (hi : IntsAre vs ns) (h63 : ns.length ≤ 63) (hlay : (PyData.list (ns.map PyData.int)).layable0 = true)
   (nxt : ∀ (G Mk : Int) (tG tM : Tok) (a b : Addr) (cG cM : Obj) (m' : Str → Option Value) h' tk', 0 ≤ G ∧ G ≤ 40 → cG.data = .cell (some (.int G tG)) → cM.data = .cell (some (.int Mk tM)) → (@LT.lt Nat _ (L + 1 + 1 + 1 + 1) a ∧ @LT.lt Nat _ a b) → Knows m' [("pairs", .ref a), ("texts", .ref b), ("script", .ref ls)] → Fr g L h' m' →
      News g L h' [(b, W.listOf #[] 0), (a, W.listOf #[] 0), (L + 1 + 1 + 1 + 1, c4), (L + 1 + 1 + 1, c3), (L + 1 + 1, cM), (L + 1, cG)] → wpAny (model PySem.Challenge.rw_no0356_01.row.prog w) (lawA L fa ccd) (execs rest (lawE L fa ccd)) Q E { s with heap := h', toks := tk' }) :
   wpAny (model PySem.Challenge.rw_no0356_01.row.prog w) (lawA L fa ccd) (execs (lawSt 0 :: lawSt 1 :: lawSt 2 :: lawSt 3 :: rest) (lawE L fa ccd)) Q E s := by
  revert X; k_fill; intro X
  conv in lawSt 0 => whnf
  conv in lawSt 1 => whnf
  conv in lawSt 2 => whnf
  conv in lawSt 3 => whnf
  simp only [lawA, lawE]
  conv in (occs := *) lawScope => all_goals whnf
  replace F := fr_known F hkn
  (repeat' (first | (k_unfold; (try dsimp only)) | (k_end; wrow_close) | walk1 | (dsimp only; walk1) | (leave1; try dsimp only) | ((with_reducible show wpAny _ _ _ _ _ _); dsimp only)))
  all_goals first
    | (exfalso
       have hne := of_decide_eq_false (by assumption : decide (ns = []) = false)
       have := List.length_pos_iff.mpr hne
       omega)
    | (rename Fr _ _ _ _ => F9; rename News _ _ _ _ => N9
       refine nxt _ _ _ _ _ _ _ _ _ _ _ ?_ (by assumption) (by assumption) ?_ (by (repeat' (first | exact Knows.nil | refine Knows.cons (by with_unfolding_all rfl) ?_))) F9 (pick_h N9)
       · first | decide | exact fmod_b _
       · omega)
end
end
section
theorem off_law1 : True := by
  w_top off
  trivial
theorem pairs_in {g h : Heap} {L : Addr} {vs : List Value} {ps : List (Int × Int)} {tl news : List (Addr × Obj)} (N : News g L h news) (x : PairsR (Nw tl) vs ps) (s : ∀ q ∈ tl, q ∈ news) : PairsR (hp h) vs ps := x.mono fun _ _ e => (N _ (s _ e)).1
def qOf (c : Int) : (Int × Int) × Bool := ((Int.fmod c 46, Int.fmod (Int.fdiv c 46) 46), Int.fmod (Int.fdiv c 2116) 2 == 1)
theorem fmod46 (x : Int) : 0 ≤ Int.fmod x 46 ∧ Int.fmod x 46 ≤ 45 := by
  rw [Int.fmod_eq_emod_of_nonneg _ (by decide)]; omega
section
variable {g h : Heap} {L S : Addr} {tl : List (Addr × Obj)}
theorem src3 {t1 t2 t3 : Tok} {k : Nat} (N : News g L h ((S, W.listOf #[.int 9 t1, .int 0 t2, .int 300 t3] k) :: tl)) : ∃ svs sk cs, News g L h ((S, W.listOf (List.toArray svs) sk) :: tl) ∧ IntsAre svs cs ∧ 0 < cs.length ∧ cs.length ≤ 8 :=
  ⟨[.int 9 t1, .int 0 t2, .int 300 t3], k, [9, 0, 300], N, .cons _ _ (.cons _ _ (.cons _ _ .nil)), by decide, by decide⟩
theorem srcS {ws : List Value} {cs : List Int} {k : Nat} (N : News g L h ((S, W.listOf ws.toArray k) :: tl)) (hI : IntsAre ws cs) (h0 : 0 < cs.length) (h8 : cs.length ≤ 8) : ∃ svs sk cs, News g L h ((S, W.listOf (List.toArray svs) sk) :: tl) ∧ IntsAre svs cs ∧ 0 < cs.length ∧ cs.length ≤ 8 :=
  ⟨ws, k, cs, N, hI, h0, h8⟩
theorem cut_b {ns : List Int} (h : (List.take (min 9 ns.length - 1) (List.drop 1 ns)).length = min (min 9 ns.length - 1) (ns.length - 1)) (h1 : (1 : Int) < (ns.length : Int)) : 0 < (List.take (min 9 ns.length - 1) (List.drop 1 ns)).length ∧ (List.take (min 9 ns.length - 1) (List.drop 1 ns)).length ≤ 8 := by
  have hn : 1 < ns.length := Int.ofNat_lt.mp h1
  rw [h]
  exact ⟨Nat.lt_min.mpr ⟨Nat.sub_pos_of_lt (Nat.lt_min.mpr ⟨by decide, hn⟩), Nat.sub_pos_of_lt hn⟩, Nat.le_trans (Nat.min_le_left _ _) (Nat.sub_le_sub_right (Nat.min_le_left 9 _) 1)⟩
theorem pick_l {P x1 x2 x3 x4 x5 x6 x7 : Addr × Obj} (N : News g L h (P :: x1 :: x2 :: x3 :: x4 :: x5 :: x6 :: x7 :: tl)) : News g L h (x1 :: x2 :: x3 :: x4 :: x5 :: x6 :: x7 :: P :: tl) := news_sub N (by
  intro q hq; simp only [List.mem_cons] at hq ⊢; rcases hq with e | e | e | e | e | e | e | e | e <;> simp [e])
theorem pick_n {x1 x2 x3 x4 x5 x6 x7 : Addr × Obj} (N : News g L h (x1 :: x2 :: x3 :: x4 :: x5 :: x6 :: x7 :: tl)) : News g L h (x1 :: x2 :: x4 :: x5 :: x6 :: x7 :: tl) := news_sub N (by
  intro q hq; simp only [List.mem_cons] at hq ⊢; rcases hq with e | e | e | e | e | e | e <;> simp [e])
theorem off_ins {own : List (Addr × Obj)} {P y1 y2 y3 y4 y5 y6 y7 : Addr} {l : List Addr} (h : OwnOff own (y1 :: y2 :: y3 :: y4 :: y5 :: y6 :: y7 :: l)) (hP : ∀ p ∈ own, p.1 ≠ P) : OwnOff own (y1 :: y2 :: y3 :: y4 :: y5 :: y6 :: y7 :: P :: l) := fun p hp q hq => by
  simp only [List.mem_cons] at hq
  rcases hq with e | e | e | e | e | e | e | e | e
  all_goals first
    | (subst e; exact hP p hp)
    | exact h p hp q (by simp [e])
theorem off_tl {l l' : List Addr} {own : List (Addr × Obj)} (h : OwnOff own l) (s : ∀ x ∈ l', x ∈ l) : OwnOff own l' := fun p hp q hq => h p hp q (s q hq)
theorem off_app2 {l : List Addr} {tl own : List (Addr × Obj)} (h : OwnOff tl l) (h' : OwnOff own l) : OwnOff (tl ++ own) l := fun p hp => (List.mem_append.mp hp).elim (h p) (h' p)
theorem off_new {P : Addr} {o : Obj} {l : List Addr} (h : OwnOff tl l) (s : ∀ x ∈ l, P ≠ x) : OwnOff ((P, o) :: tl) l := fun p hp q hq => by
  rcases List.mem_cons.mp hp with rfl | hp
  · exact s q hq
  · exact h p hp q hq
end
section
variable {w : World} {mean : ExcName → Option Value} {mg mb : Str → Option Value} {fa L : Addr} {ccd : Value} {g : Heap} {s : Shared} {Q : Flow → Shared → Prop} {E : Value → Shared → Prop} {rest : List Stmt} {m : Str → Option Value}
   (B : Below callerA g [] g) (X : (hd.heap_39 w.params).In g) (T : TopH mean mg mb g)
include B X T
theorem l_loop {cG cM c3 c4 : Obj} {ls a b : Addr} {vs : List Value} {ns : List Int} (hl : g.IsList ls vs.toArray) (hi : IntsAre vs ns) (h63 : ns.length ≤ 63) (hlay : (PyData.list (ns.map PyData.int)).layable0 = true) (hE : PassesOwn (model PySem.Challenge.rw_no0356_01.row.prog w) (lawA L fa ccd) (lawE L fa ccd) E)
   (hab : @LT.lt Nat _ (L + 1 + 1 + 1 + 1) a ∧ @LT.lt Nat _ a b) (hkn : Knows m [("pairs", .ref a), ("texts", .ref b), ("script", .ref ls)]) (F : Fr g L s.heap m) (N : News g L s.heap [(b, W.listOf #[] 0), (a, W.listOf #[] 0), (L + 1 + 1 + 1 + 1, c4), (L + 1 + 1 + 1, c3), (L + 1 + 1, cM), (L + 1, cG)])
   (nxt : ∀ (qs : List ((Int × Int) × Bool)) (pvs tvs : List Value) (k1 k2 : Nat) (tl : List (Addr × Obj)) (m' : Str → Option Value) h' tk', qs ≠ [] → qs.length ≤ 8 → (∀ q ∈ qs, Small q.1) → PairsR (Nw tl) pvs (qs.map (·.1)) → StrsAre tvs (qs.map fun q => pairT q.1 q.2) → OwnOff tl [b, a, L + 1 + 1 + 1 + 1, L + 1 + 1 + 1] → Knows m' [("pairs", .ref a), ("texts", .ref b)] → Fr g L h' m' →
      News g L h' ((b, W.listOf tvs.toArray k2) :: (a, W.listOf pvs.toArray k1) :: (L + 1 + 1 + 1 + 1, c4) :: (L + 1 + 1 + 1, c3) :: (L + 1 + 1, cM) :: (L + 1, cG) :: tl) → wpAny (model PySem.Challenge.rw_no0356_01.row.prog w) (lawA L fa ccd) (execs rest (lawE L fa ccd)) Q E { s with heap := h', toks := tk' }) :
   wpAny (model PySem.Challenge.rw_no0356_01.row.prog w) (lawA L fa ccd) (execs (lawSt 4 :: rest) (lawE L fa ccd)) Q E s := by
  revert X; k_fill; intro X
  conv in lawSt 4 => whnf
  simp only [lawA, lawE] at *
  conv in (occs := *) lawScope => all_goals whnf
  replace F := fr_known F hkn
  (repeat' (first | (k_unfold; (try dsimp only)) | (k_end; wrow_close) | ((with_reducible show wpAny _ _ (call _ _ _) _ _ _); first | ((with_reducible show wpAny _ _ (call (Value.ref 150) _) _ _ _); k_here; (k_dflt (refine' c_law_text (by k_asm) (by k_asm) (by k_asm) (by k_asm) (by exact rfl) (by first | exact PairR.mk (n := 0) (News.get (by k_asm) (by k_mem)) | (first | assumption | exact pair_base (by k_asm) (by assumption) | exact pair_in (by k_asm) (by k_asm) (by assumption) (by ((intro q' hq'; first | exact hq' | (simp only [List.mem_cons, List.mem_append] at hq' ⊢; simp only [hq', true_or, or_true]; done)))))) (by first | assumption | omega) (by first | assumption | omega) (by ktr_room) (by ktr_units) ?_; k_whole)); intro _ _ _ _; walk_at "my_after")) | ((with_reducible show wpAny _ _ (PySem.exec _ _) _ _ _); first | ((with_reducible show wpAny _ _ (PySem.exec (PySem.Stmt.For _ _ _ _ _) _) _ _ _); refine Stop.intro ?_)) | walk1 | (dsimp only; walk1) | (leave1; try dsimp only) | ((with_reducible show wpAny _ _ _ _ _ _); dsimp only)))
  refine Stop.out (For_turns F ?_ (hE := hE))
  refine wpAny_mono (Q := fun xv s' => Stop (∃ (S : Addr) (svs : List Value) (sk : Nat) (cs : List Int) (h' : Heap) (tk' : Nat), xv = .ref S ∧ s' = { s with heap := h', toks := tk' } ∧ @LT.lt Nat _ b S ∧ Fr g L h' (mapJ [("pairs", .ref a), ("texts", .ref b), ("script", .ref ls)] m) ∧ News g L h' [(S, W.listOf svs.toArray sk), (b, W.listOf #[] 0), (a, W.listOf #[] 0), (L + 1 + 1 + 1 + 1, c4), (L + 1 + 1 + 1, c3), (L + 1 + 1, cM), (L + 1, cG)] ∧ IntsAre svs cs ∧ 0 < cs.length ∧ cs.length ≤ 8)) ?_ ?_ (fun _ _ e => e)
  · (repeat' (first | (k_unfold; (try dsimp only)) | (k_end; wrow_close) | ((with_reducible show wpAny _ _ (call _ _ _) _ _ _); first | ((with_reducible show wpAny _ _ (call (Value.ref 150) _) _ _ _); k_here; (k_dflt (refine' c_law_text (by k_asm) (by k_asm) (by k_asm) (by k_asm) (by exact rfl) (by first | exact PairR.mk (n := 0) (News.get (by k_asm) (by k_mem)) | (first | assumption | exact pair_base (by k_asm) (by assumption) | exact pair_in (by k_asm) (by k_asm) (by assumption) (by ((intro q' hq'; first | exact hq' | (simp only [List.mem_cons, List.mem_append] at hq' ⊢; simp only [hq', true_or, or_true]; done)))))) (by first | assumption | omega) (by first | assumption | omega) (by ktr_room) (by ktr_units) ?_; k_whole)); intro _ _ _ _; walk_at "my_after")) | ((with_reducible show wpAny _ _ (PySem.exec _ _) _ _ _); first | ((with_reducible show wpAny _ _ (PySem.exec (PySem.Stmt.For _ _ _ _ _) _) _ _ _); refine Stop.intro ?_)) | walk1 | (dsimp only; walk1) | (leave1; try dsimp only) | ((with_reducible show wpAny _ _ _ _ _ _); dsimp only)))
    all_goals
      rename Fr _ _ _ _ => F1
      rename News _ _ _ _ => N1
      obtain ⟨S, eS⟩ := led_name N1
      subst eS
      have hSl : @LT.lt Nat _ b S := by omega
      first
        | (obtain ⟨svs, sk, cs, N2, hI, hc0, hc8⟩ := src3 N1
           exact Stop.out ⟨S, svs, sk, cs, _, _, rfl, rfl, hSl, F1, N2, hI, hc0, hc8⟩)
        | (obtain ⟨svs, sk, cs, N2, hI, hc0, hc8⟩ := srcS N1 (by assumption) (cut_b (by assumption) (by assumption)).1 (cut_b (by assumption) (by assumption)).2
           exact Stop.out ⟨S, svs, sk, cs, _, _, rfl, rfl, hSl, F1, N2, hI, hc0, hc8⟩)
  · intro xv s' hmid
    obtain ⟨S, svs, sk, cs, hh, tkk, rfl, rfl, hSl, F1, N2, hI, hc0, hc8⟩ := Stop.intro hmid
    replace N2 := news_rl N2
    refine turns_seq (fun i m nx => ∃ (pvs tvs : List Value) (k1 k2 : Nat) (qs : List ((Int × Int) × Bool)) (tl : List (Addr × Obj)), nx = (b, W.listOf tvs.toArray k2) :: (a, W.listOf pvs.toArray k1) :: (S, W.listOf svs.toArray sk) :: (L + 1 + 1 + 1 + 1, c4) :: (L + 1 + 1 + 1, c3) :: (L + 1 + 1, cM) :: (L + 1, cG) :: tl ∧ qs.length = i ∧ (∀ q ∈ qs, Small q.1) ∧ PairsR (Nw tl) pvs (qs.map (·.1)) ∧ StrsAre tvs (qs.map fun q => pairT q.1 q.2) ∧ OwnOff tl [b, a, L + 1 + 1 + 1 + 1, L + 1 + 1 + 1] ∧ Knows m [("pairs", .ref a), ("texts", .ref b), ("script", .ref ls)]) rfl (seqO_list svs sk) (.inl (.tail _ (.tail _ (.head _)))) F1 N2 ⟨[], [], 0, 0, [], [], rfl, rfl, (fun _ h => nomatch h), .nil, .nil, (fun _ h => nomatch h), by (repeat' (first | exact Knows.nil | refine Knows.cons (by with_unfolding_all rfl) ?_))⟩ ?_ ?_ ?_
    · rintro i m nx ⟨pvs, tvs, k1, k2, qs, tl, rfl, _, _, _, _, _, _⟩ q hq rfl
      exact .tail _ (.tail _ (.head _))
    · rintro i v m₁ nx h1 tk2 own hvi hoff ⟨pvs, tvs, k1, k2, qs, tl, rfl, hql, hsm, hR, hTs, ho1, hkn1⟩ F5 N5
      obtain ⟨c, tc, hci, rfl⟩ := ints_get hI hvi
      have hil : i < 8 := by
        have := (List.getElem?_eq_some_iff.mp hci).1
        omega
      simp only [List.cons_append] at N5
      replace F5 := fr_known F5 hkn1
      have hoo : OwnOff (tl ++ own) [b, a] := off_app2 (off_tl ho1 (by simp)) (off_tl hoff (by simp))
      have hpl : pvs.length < 64 := by rw [hR.length, List.length_map]; omega
      have htl : tvs.length < 64 := by rw [hTs.length, List.length_map]; omega
      obtain ⟨hx0, hx1⟩ := fmod46 c
      obtain ⟨hy0, hy1⟩ := fmod46 (Int.fdiv c 46)
      clear F1 N2
      (repeat' (first | (k_unfold; (try dsimp only)) | (k_end; wrow_close) | ((with_reducible show wpAny _ _ (call _ _ _) _ _ _); first | ((with_reducible show wpAny _ _ (call (Value.ref 150) _) _ _ _); k_here; (k_dflt (refine' c_law_text (by k_asm) (by k_asm) (by k_asm) (by k_asm) (by exact rfl) (by first | exact PairR.mk (n := 0) (News.get (by k_asm) (by k_mem)) | (first | assumption | exact pair_base (by k_asm) (by assumption) | exact pair_in (by k_asm) (by k_asm) (by assumption) (by ((intro q' hq'; first | exact hq' | (simp only [List.mem_cons, List.mem_append] at hq' ⊢; simp only [hq', true_or, or_true]; done)))))) (by first | assumption | omega) (by first | assumption | omega) (by ktr_room) (by ktr_units) ?_; k_whole)); intro _ _ _ _; walk_at "my_after")) | ((with_reducible show wpAny _ _ (PySem.exec _ _) _ _ _); first | ((with_reducible show wpAny _ _ (PySem.exec (PySem.Stmt.For _ _ _ _ _) _) _ _ _); refine Stop.intro ?_)) | walk1 | (dsimp only; walk1) | (leave1; try dsimp only) | ((with_reducible show wpAny _ _ _ _ _ _); dsimp only)))
      rename Fr _ _ _ _ => F9
      rename News _ _ _ _ => N9
      obtain ⟨P, eP⟩ := led_name N9
      subst eP
      rename _ ∧ _ ∧ _ ∧ _ ∧ _ ∧ _ ∧ _ ∧ AllLt _ _ => lP
      simp only [List.push_toArray] at N9
      replace N9 := pick_l N9
      simp only [← List.cons_append] at N9
      refine inv_end F9 N9 ⟨_, _, _, _, qs ++ [qOf c], _, rfl, by rw [List.length_append, hql]; rfl, ?_, ?_, ?_, ?_, by (repeat' (first | exact Knows.nil | refine Knows.cons (by with_unfolding_all rfl) ?_))⟩ ?_
      · intro q hq
        rcases List.mem_append.mp hq with hq | hq
        · exact hsm q hq
        · rw [List.mem_singleton.mp hq]; exact ⟨⟨hx0, hx1⟩, hy0, hy1⟩
      · rw [List.map_append]
        exact (hR.mono (Nw.mono fun q hq => .tail _ hq)).append (.one (.mk (n := 0) (.head _)))
      · rw [List.map_append]
        exact kct_snoc hTs
      · refine off_new ho1 fun x hx => ?_
        obtain ⟨l1, l2, l3, l4, l5, l6, l7, l8⟩ := lP
        simp only [List.mem_cons, List.not_mem_nil, or_false] at hx
        rcases hx with rfl | rfl | rfl | rfl
        · exact Nat.ne_of_gt l1
        · exact Nat.ne_of_gt l2
        · exact Nat.ne_of_gt l4
        · exact Nat.ne_of_gt l5
      · refine off_ins hoff fun p hp => ?_
        exact Nat.ne_of_lt (allLt_mem lP.2.2.2.2.2.2.2 p (List.mem_append_right _ hp))
    · rintro m₁ nx h1 tk2 ⟨pvs, tvs, k1, k2, qs, tl, rfl, hql, hsm, hR, hTs, ho1, hkn1⟩ F5 N5
      exact nxt qs pvs tvs k1 k2 tl m₁ h1 tk2 (fun e => by subst e; have := hI.length; simp at hql; omega) (by rw [hql, hI.length]; exact hc8) hsm hR hTs ho1 (fun p hp => hkn1 p (List.mem_of_mem_take (i := 2) hp)) F5 (pick_n N5)
end
end
section
theorem off_eqs : True := by
  w_top off
  trivial
open PyProof.V
/-- pairs as data -/
def pDs (ps : List (Int × Int)) : List PyData := ps.map fun p => .tuple [.int p.1, .int p.2]
theorem pDs_lay : ∀ ps, PyData.canLayAll0 (pDs ps) = true
  | [] => rfl
  | p :: ps => by
    have ih := pDs_lay ps
    unfold pDs at ih ⊢
    simp only [List.map_cons, PyData.canLayAll0, PyData.canLay0, ih, Bool.and_true]
theorem pDs_depth : ∀ ps, PyData.depthAll (pDs ps) ≤ 1
  | [] => Nat.zero_le _
  | p :: ps => by
    have ih := pDs_depth ps
    unfold pDs at ih ⊢
    simp only [List.map_cons, PyData.depthAll, PyData.depth]
    omega
theorem pDs_shaped (ps : List (Int × Int)) : SeqAt.shaped (.tuple (pDs ps)) = true := by
  have := pDs_depth ps
  simp only [SeqAt.shaped, PyData.canLay0, PyData.depth, pDs_lay, Bool.true_and]
  exact decide_eq_true (by omega)
theorem pDs_eqv : ∀ ps, PyData.eqvAll (pDs ps) (pDs ps) = true
  | [] => by simp [pDs, PyData.eqvAll]
  | p :: ps => by
    have ih := pDs_eqv ps
    unfold pDs at ih ⊢
    simp only [List.map_cons, PyData.eqvAll, PyData.eqv, ih, beq_self_eq_true, Bool.and_true]
theorem pDs_reads {h : Heap} {vs : List Value} {ps : List (Int × Int)} (R : PairsR (hp h) vs ps) : ∃ as, ReadsAll h vs (pDs ps) as := by
  induction R with
  | nil => exact ⟨_, .nil⟩
  | cons hv _ ih =>
    obtain ⟨as, ih⟩ := ih
    cases hv with
    | mk hv => exact ⟨_, .cons (.tuple hv rfl rfl (.cons (.int _ _) (.cons (.int _ _) .nil))) ih⟩
section
variable {prog : Program} {w : World} {A : Around} {E : Value → Shared → Prop} {s : Shared} {a b : Addr} {vs us : List Value} {ps : List (Int × Int)} {Q : Value → Shared → Prop}
theorem ne_pairs {na nb : Nat} (ha : hp s.heap a (tupO vs na)) (Ra : PairsR (hp s.heap) vs ps) (hb : hp s.heap b (tupO us nb)) (Rb : PairsR (hp s.heap) us ps) (hu : A.units + 64 < cLine) (h : Q (.bool false) s) :
    wpAny (model prog w) A (compareOp .NotEq (.ref a) (.ref b)) Q E s := by
  obtain ⟨as, ra⟩ := pDs_reads Ra
  obtain ⟨bs, rb⟩ := pDs_reads Rb
  refine ne_dataH (da := .tuple (pDs ps)) (db := .tuple (pDs ps)) (.tuple ha rfl rfl (by simpa using ra)) (.tuple hb rfl rfl (by simpa using rb)) (pDs_shaped ps) (pDs_shaped ps) hu ?_
  simp only [PyData.eqv, pDs_eqv]
  exact h
theorem ne_intsEq {xs ys : List Value} {ns ms : List Int} (ha : s.heap.IsList a xs.toArray) (hb : s.heap.IsList b ys.toArray) (hi : IntsAre xs ns) (hj : IntsAre ys ms) (e : ns = ms) (hu : A.units + 64 < cLine) (h : Q (.bool false) s) :
    wpAny (model prog w) A (compareOp .NotEq (.ref a) (.ref b)) Q E s := by
  subst e
  refine ke_ne_ints ha hb hi hj hu ?_
  simpa using h
theorem eq_intsEq {xs ys : List Value} {ns ms : List Int} (ha : s.heap.IsList a xs.toArray) (hb : s.heap.IsList b ys.toArray) (hi : IntsAre xs ns) (hj : IntsAre ys ms) (e : ns = ms) (hu : A.units + 64 < cLine) (h : Q (.bool true) s) :
    wpAny (model prog w) A (compareOp .Eq (.ref a) (.ref b)) Q E s := by
  subst e
  refine ke_eq_ints ha hb hi hj hu ?_
  simpa using h
end
end
section

theorem off_law2 : True := by
  w_top off
  trivial
theorem glue_q : ∀ (qs : List ((Int × Int) × Bool)), (Txt.join "," (qs.map fun q => pairT q.1 q.2)).cps.toList = jw qs
  | [] => rfl
  | [q] => rfl
  | q :: r :: t => by
    have ih := glue_q (r :: t)
    rw [show Txt.join "," ((q :: r :: t).map fun q => pairT q.1 q.2) = pairT q.1 q.2 ++ "," ++ Txt.join "," ((r :: t).map fun q => pairT q.1 q.2) from by
      show PySem.Builtin.Str.glued _ _ = _ ++ _ ++ PySem.Builtin.Str.glued _ _
      rw [StrLaws.glued_eq_join, StrLaws.glued_eq_join]; rfl]
    show (pairT q.1 q.2 ++ "," ++ Txt.join "," ((r :: t).map fun q => pairT q.1 q.2)).cps.toList = pw q ++ 44 :: jw (r :: t)
    rw [cps_app, cps_app, ih, show (("," : Str).cps.toList) = [44] from by decide +kernel]
    simp [pw]
theorem qs_sum {qs : List ((Int × Int) × Bool)} (h : ∀ q ∈ qs, Small q.1) : ((qs.map fun q => pairT q.1 q.2).map (·.length)).sum ≤ 5 * qs.length := by
  induction qs with
  | nil => simp
  | cons q r ih =>
    have := pairT_len' (b := q.2) (h q (.head _))
    have := ih fun p hp => h p (.tail _ hp)
    simp only [List.map_cons, List.sum_cons, List.length_cons]; omega
section
variable {g h h1 : Heap} {L S : Addr} {tl tl' : List (Addr × Obj)}
theorem off_newL {l : List Addr} (hx : ∀ x ∈ l, ∃ o, h.get? x = some o) (ht : ∀ p ∈ tl, h.get? p.1 = none) : OwnOff tl l := fun p hp x hx' e => by
  obtain ⟨o, ho⟩ := hx x hx'
  have := ht p hp
  rw [e, ho] at this
  exact nomatch this
theorem pick_s {sa x1 x2 x3 x4 x5 x6 : Addr × Obj} (N : News g L h (sa :: (tl' ++ (x1 :: x2 :: x3 :: x4 :: x5 :: x6 :: tl)))) : News g L h (sa :: x2 :: x3 :: x4 :: x5 :: x6 :: (tl' ++ tl)) := news_sub N (by
  intro q hq; simp only [List.mem_cons, List.mem_append] at hq ⊢; rcases hq with e | e | e | e | e | e | e | e <;> simp [e])
end
section
variable {w : World} {mean : ExcName → Option Value} {mg mb : Str → Option Value} {fa L : Addr} {ccd : Value} {g : Heap} {s : Shared} {Q : Flow → Shared → Prop} {E : Value → Shared → Prop} {rest : List Stmt} {m : Str → Option Value}
   (B : Below callerA g [] g) (X : (hd.heap_39 w.params).In g) (T : TopH mean mg mb g)
include B X T
theorem l_some {cG cM c3 c4 : Obj} {a b : Addr} {qs : List ((Int × Int) × Bool)} {pvs tvs : List Value} {k1 k2 : Nat} {tl : List (Addr × Obj)} (hne : qs ≠ []) (hq8 : qs.length ≤ 8) (hsm : ∀ q ∈ qs, Small q.1) (hR : PairsR (Nw tl) pvs (qs.map (·.1))) (hTs : StrsAre tvs (qs.map fun q => pairT q.1 q.2)) (ho : OwnOff tl [b, a, L + 1 + 1 + 1 + 1, L + 1 + 1 + 1])
   (e3 : c3.data = .cell none) (hab : @LT.lt Nat _ (L + 1 + 1 + 1 + 1) a ∧ @LT.lt Nat _ a b) (hkn : Knows m [("pairs", .ref a), ("texts", .ref b)]) (F : Fr g L s.heap m)
   (N : News g L s.heap ((b, W.listOf tvs.toArray k2) :: (a, W.listOf pvs.toArray k1) :: (L + 1 + 1 + 1 + 1, c4) :: (L + 1 + 1 + 1, c3) :: (L + 1 + 1, cM) :: (L + 1, cG) :: tl))
   (nxt : ∀ (sa : Addr) (svs : List Value) (sn : Nat) (cS : Obj) (tl' : List (Addr × Obj)) (m' : Str → Option Value) h' tk', PairsR (Nw tl') svs (qs.map (·.1)) → PairsR (Nw tl') pvs (qs.map (·.1)) → OwnOff tl' [L + 1 + 1 + 1 + 1] → ¬ @Eq Nat sa (L + 1 + 1 + 1 + 1) → cS.data = .cell (some (.ref sa)) → Knows m' [("pairs", .ref a)] → Fr g L h' m' →
      News g L h' ((sa, tupO svs sn) :: (a, W.listOf pvs.toArray k1) :: (L + 1 + 1 + 1 + 1, c4) :: (L + 1 + 1 + 1, cS) :: (L + 1 + 1, cM) :: (L + 1, cG) :: tl') → wpAny (model PySem.Challenge.rw_no0356_01.row.prog w) (lawA L fa ccd) (execs rest (lawE L fa ccd)) Q E { s with heap := h', toks := tk' }) :
   wpAny (model PySem.Challenge.rw_no0356_01.row.prog w) (lawA L fa ccd) (execs (lawSt 5 :: rest) (lawE L fa ccd)) Q E s := by
  revert X; k_fill; intro X
  conv in lawSt 5 => whnf
  simp only [lawA, lawE] at *
  conv in (occs := *) lawScope => all_goals whnf
  replace F := fr_known F hkn
  have hw : ((qs.map fun q => pairT q.1 q.2).map (·.length)).sum + (qs.map fun q => pairT q.1 q.2).length ≤ 1048576 := by
    have := qs_sum hsm
    rw [List.length_map]; omega
  have hjw := glue_q qs
  have hjl : (Txt.join "," (qs.map fun q => pairT q.1 q.2)).length ≤ 1000 := by
    rw [str_len, hjw]
    have := jw_len qs hsm
    omega
  (repeat' (first | (k_unfold; (try dsimp only)) | (k_end; wrow_close) | ((with_reducible show wpAny _ _ (call _ _ _) _ _ _); first | ((with_reducible show wpAny _ _ (call (Value.ref 75) _) _ _ _); k_here; (k_dflt (refine' c_read_set (by k_asm) (by k_asm) (by k_asm) (by k_asm) (by exact rfl) (by assumption) (by assumption) (by assumption) (by assumption) (by omega) (by ktr_room) (by ktr_units) ?_; k_whole)); refine Stop.intro ?_) | ((with_reducible show wpAny _ _ (call (Value.builtin "str.join") [Value.str _ _, Value.ref _]) _ _ _); k_here; k_dflt (refine' join_listW (by exact News.isList (by k_asm) (by k_mem)) (by assumption) (by decide) (by assumption) ?_; k_whole); intro _ _; (try dsimp only))) | walk1 | (dsimp only; walk1) | (leave1; try dsimp only) | ((with_reducible show wpAny _ _ _ _ _ _); dsimp only)))
  refine Stop.out ?_
  intro sa svs sn stl h2 tk3 st hnew hn2 hs2 hR2
  rename Fr _ _ _ _ => F1
  rename News _ _ _ _ => N1
  dsimp only at st hnew hn2 ⊢
  have F2 := fr_stays F1 st
  have N2 := pick_s (news_cons F1 (news_app F1 (news_stays N1 st) hnew) hn2 hs2)
  have g4 := (N1 (L + 1 + 1 + 1 + 1, c4) (.tail _ (.tail _ (.head _)))).1
  have g3 := (N1 (L + 1 + 1 + 1, c3) (.tail _ (.tail _ (.tail _ (.head _))))).1
  have ho2 : OwnOff (stl ++ tl) [L + 1 + 1 + 1 + 1, L + 1 + 1 + 1] := fun p hp => (List.mem_append.mp hp).elim (off_newL (h := s.heap) (fun x hx => by
    simp only [List.mem_cons, List.not_mem_nil, or_false] at hx
    rcases hx with rfl | rfl
    · exact ⟨_, g4⟩
    · exact ⟨_, g3⟩) (fun p hp => (hnew p hp).1) p) (off_tl ho (by simp) p)
  have n4 : ¬ @Eq Nat sa (L + 1 + 1 + 1 + 1) := fun e => by
    rw [show sa = L + 1 + 1 + 1 + 1 from e, g4] at hn2; exact nomatch hn2
  have n3 : ¬ @Eq Nat sa (L + 1 + 1 + 1) := fun e => by
    rw [show sa = L + 1 + 1 + 1 from e, g3] at hn2; exact nomatch hn2
  clear F1 N1
  (repeat' (first | (k_unfold; (try dsimp only)) | (k_end; wrow_close) | ((with_reducible show wpAny _ _ (call _ _ _) _ _ _); first | ((with_reducible show wpAny _ _ (call (Value.ref 75) _) _ _ _); k_here; (k_dflt (refine' c_read_set (by k_asm) (by k_asm) (by k_asm) (by k_asm) (by exact rfl) (by assumption) (by assumption) (by assumption) (by assumption) (by omega) (by ktr_room) (by ktr_units) ?_; k_whole)); refine Stop.intro ?_) | ((with_reducible show wpAny _ _ (call (Value.builtin "str.join") [Value.str _ _, Value.ref _]) _ _ _); k_here; k_dflt (refine' join_listW (by exact News.isList (by k_asm) (by k_mem)) (by assumption) (by decide) (by assumption) ?_; k_whole); intro _ _; (try dsimp only))) | walk1 | (dsimp only; walk1) | (leave1; try dsimp only) | ((with_reducible show wpAny _ _ _ _ _ _); dsimp only)))
  rename Fr _ _ _ _ => F9
  rename News _ _ _ _ => N9
  exact nxt sa svs sn _ _ _ _ _ (hR2.mono (Nw.mono fun q hq => List.mem_append_left _ hq)) (hR.mono (Nw.mono fun q hq => List.mem_append_right _ hq)) (off_tl ho2 (by simp)) n4 (by assumption) (by (repeat' (first | exact Knows.nil | refine Knows.cons (by with_unfolding_all rfl) ?_))) F9 N9
end
theorem off_law3 : True := by
  w_top off
  trivial
theorem str_ext {a b : Str} (h : a.cps.toList = b.cps.toList) : a = b := by
  cases a; cases b; congr 1; exact Array.toList_inj.mp h
theorem pick_c {g h : Heap} {L : Addr} {z x1 x2 x3 x4 x5 x6 : Addr × Obj} {tl : List (Addr × Obj)} (N : News g L h (z :: x1 :: x2 :: x3 :: x4 :: x5 :: x6 :: tl)) : News g L h (x1 :: x2 :: x3 :: x4 :: x5 :: x6 :: tl) := fun q hq => N q (.tail _ hq)
section
variable {w : World} {mean : ExcName → Option Value} {mg mb : Str → Option Value} {fa L : Addr} {ccd : Value} {g : Heap} {s : Shared} {Q : Flow → Shared → Prop} {E : Value → Shared → Prop} {rest : List Stmt} {m : Str → Option Value}
   (B : Below callerA g [] g) (X : (hd.heap_39 w.params).In g) (T : TopH mean mg mb g)
include B X T
theorem l_if1 {cG cM cS c4 : Obj} {a sa : Addr} {ps : List (Int × Int)} {pvs svs : List Value} {k1 sn : Nat} {tl : List (Addr × Obj)} (hp8 : ps.length ≤ 8) (hsm : ∀ q ∈ ps, Small q) (hR : PairsR (Nw tl) pvs ps) (hS : PairsR (Nw tl) svs ps)
   (eS : cS.data = .cell (some (.ref sa))) (hkn : Knows m [("pairs", .ref a)]) (F : Fr g L s.heap m)
   (N : News g L s.heap ((sa, tupO svs sn) :: (a, W.listOf pvs.toArray k1) :: (L + 1 + 1 + 1 + 1, c4) :: (L + 1 + 1 + 1, cS) :: (L + 1 + 1, cM) :: (L + 1, cG) :: tl))
   (nxt : ∀ (m' : Str → Option Value) h' tk', Knows m' [("pairs", .ref a)] → Fr g L h' m' →
      News g L h' ((sa, tupO svs sn) :: (a, W.listOf pvs.toArray k1) :: (L + 1 + 1 + 1 + 1, c4) :: (L + 1 + 1 + 1, cS) :: (L + 1 + 1, cM) :: (L + 1, cG) :: tl) → wpAny (model PySem.Challenge.rw_no0356_01.row.prog w) (lawA L fa ccd) (execs rest (lawE L fa ccd)) Q E { s with heap := h', toks := tk' }) :
   wpAny (model PySem.Challenge.rw_no0356_01.row.prog w) (lawA L fa ccd) (execs (lawSt 6 :: rest) (lawE L fa ccd)) Q E s := by
  revert X; k_fill; intro X
  conv in lawSt 6 => whnf
  simp only [lawA, lawE] at *
  conv in (occs := *) lawScope => all_goals whnf
  replace F := fr_known F hkn
  have hpl := hR.length
  have hsl := hS.length
  (repeat' (first | (k_unfold; (try dsimp only)) | (k_end; wrow_close) | ((with_reducible show CompSrc _ _ _ _ _ _ _ _ _ _ _ _ _ _); refine Stop.intro ?_) | ((with_reducible show wpAny _ _ (call _ _ _) _ _ _); first | ((with_reducible show wpAny _ _ (call (Value.ref 94) _) _ _ _); k_here; (k_dflt (refine' c_show_set (by k_asm) (by k_asm) (by k_asm) (by k_asm) (by exact rfl) (by exact News.get (by k_asm) (by k_mem)) (by exact pairs_in (by k_asm) (by assumption) (by ((intro q' hq'; first | exact hq' | (simp only [List.mem_cons, List.mem_append] at hq' ⊢; simp only [hq', true_or, or_true]; done))))) (by assumption) (by omega) (by ktr_room) (by ktr_units) ?_; k_whole)); refine Stop.intro ?_) | ((with_reducible show wpAny _ _ (call (Value.ref 150) _) _ _ _); k_here; (k_dflt (refine' c_law_text (by k_asm) (by k_asm) (by k_asm) (by k_asm) (by exact rfl) (by (first | assumption | exact pair_base (by k_asm) (by assumption) | exact pair_in (by k_asm) (by k_asm) (by assumption) (by ((intro q' hq'; first | exact hq' | (simp only [List.mem_cons, List.mem_append] at hq' ⊢; simp only [hq', true_or, or_true]; done)))))) (by first | assumption | omega) (by first | assumption | omega) (by ktr_room) (by ktr_units) ?_; k_whole)); intro _ _ _ _; walk_at "my_after") | ((with_reducible show wpAny _ _ (call (Value.type _) [Value.ref _]) _ _ _); k_here; k_dflt (refine' kde_tupleOf (by k_asm) (by k_asm) (by exact News.isList (by k_asm) (by k_mem)) (by (simp only [List.size_toArray]; omega)) (by exact rfl) ?_; k_whole); intro _ _ _ _ l1; (try k_lt l1); (try k_sweep; revert l1; intro _)) | ((with_reducible show wpAny _ _ (call (Value.builtin "str.join") [Value.str _ _, Value.ref _]) _ _ _); k_here; k_dflt (refine' join_listW (by exact News.isList (by k_asm) (by k_mem)) (by assumption) (by decide) (by assumption) ?_; k_whole); intro _ _; (try dsimp only))) | ((with_reducible show wpAny _ _ (compareOp _ _ _) _ _ _); first | ((with_reducible show wpAny _ _ (compareOp CmpOp.NotEq (Value.ref _) (Value.ref _)) _ _ _); refine Stop.intro ?_)) | ((with_reducible show wpAny _ _ (PySem.eval _ _) _ _ _); first | ((with_reducible show wpAny _ _ (PySem.eval (PySem.Expr.ListComp _ _ _ _) _) _ _ _); refine Stop.intro ?_)) | walk1 | (dsimp only; walk1) | (leave1; try dsimp only) | ((with_reducible show wpAny _ _ _ _ _ _); dsimp only)))
  rename Fr _ _ _ _ => F1
  rename News _ _ _ _ => N1
  refine Stop.out (ne_pairs (N1 _ (.tail _ (.head _))).1 (pairs_in N1 hS (by ((intro q' hq'; first | exact hq' | (simp only [List.mem_cons, List.mem_append] at hq' ⊢; simp only [hq', true_or, or_true]; done))))) (N1 _ (.head _)).1 (pairs_in N1 hR (by ((intro q' hq'; first | exact hq' | (simp only [List.mem_cons, List.mem_append] at hq' ⊢; simp only [hq', true_or, or_true]; done))))) (by ke_room) ?_)
  (repeat' (first | (k_unfold; (try dsimp only)) | (k_end; wrow_close) | ((with_reducible show CompSrc _ _ _ _ _ _ _ _ _ _ _ _ _ _); refine Stop.intro ?_) | ((with_reducible show wpAny _ _ (call _ _ _) _ _ _); first | ((with_reducible show wpAny _ _ (call (Value.ref 94) _) _ _ _); k_here; (k_dflt (refine' c_show_set (by k_asm) (by k_asm) (by k_asm) (by k_asm) (by exact rfl) (by exact News.get (by k_asm) (by k_mem)) (by exact pairs_in (by k_asm) (by assumption) (by ((intro q' hq'; first | exact hq' | (simp only [List.mem_cons, List.mem_append] at hq' ⊢; simp only [hq', true_or, or_true]; done))))) (by assumption) (by omega) (by ktr_room) (by ktr_units) ?_; k_whole)); refine Stop.intro ?_) | ((with_reducible show wpAny _ _ (call (Value.ref 150) _) _ _ _); k_here; (k_dflt (refine' c_law_text (by k_asm) (by k_asm) (by k_asm) (by k_asm) (by exact rfl) (by (first | assumption | exact pair_base (by k_asm) (by assumption) | exact pair_in (by k_asm) (by k_asm) (by assumption) (by ((intro q' hq'; first | exact hq' | (simp only [List.mem_cons, List.mem_append] at hq' ⊢; simp only [hq', true_or, or_true]; done)))))) (by first | assumption | omega) (by first | assumption | omega) (by ktr_room) (by ktr_units) ?_; k_whole)); intro _ _ _ _; walk_at "my_after") | ((with_reducible show wpAny _ _ (call (Value.type _) [Value.ref _]) _ _ _); k_here; k_dflt (refine' kde_tupleOf (by k_asm) (by k_asm) (by exact News.isList (by k_asm) (by k_mem)) (by (simp only [List.size_toArray]; omega)) (by exact rfl) ?_; k_whole); intro _ _ _ _ l1; (try k_lt l1); (try k_sweep; revert l1; intro _)) | ((with_reducible show wpAny _ _ (call (Value.builtin "str.join") [Value.str _ _, Value.ref _]) _ _ _); k_here; k_dflt (refine' join_listW (by exact News.isList (by k_asm) (by k_mem)) (by assumption) (by decide) (by assumption) ?_; k_whole); intro _ _; (try dsimp only))) | ((with_reducible show wpAny _ _ (compareOp _ _ _) _ _ _); first | ((with_reducible show wpAny _ _ (compareOp CmpOp.NotEq (Value.ref _) (Value.ref _)) _ _ _); refine Stop.intro ?_)) | ((with_reducible show wpAny _ _ (PySem.eval _ _) _ _ _); first | ((with_reducible show wpAny _ _ (PySem.eval (PySem.Expr.ListComp _ _ _ _) _) _ _ _); refine Stop.intro ?_)) | walk1 | (dsimp only; walk1) | (leave1; try dsimp only) | ((with_reducible show wpAny _ _ _ _ _ _); dsimp only)))
  refine Stop.out ?_
  intro t1 T1 h2 tk2 st hT1 hT1l
  rename Fr _ _ _ _ => F1
  rename News _ _ _ _ => N1
  dsimp only at st ⊢
  have F2 := fr_stays F1 st
  have N2 := pick_c (news_stays N1 st)
  clear F1 N1
  (repeat' (first | (k_unfold; (try dsimp only)) | (k_end; wrow_close) | ((with_reducible show CompSrc _ _ _ _ _ _ _ _ _ _ _ _ _ _); refine Stop.intro ?_) | ((with_reducible show wpAny _ _ (call _ _ _) _ _ _); first | ((with_reducible show wpAny _ _ (call (Value.ref 94) _) _ _ _); k_here; (k_dflt (refine' c_show_set (by k_asm) (by k_asm) (by k_asm) (by k_asm) (by exact rfl) (by exact News.get (by k_asm) (by k_mem)) (by exact pairs_in (by k_asm) (by assumption) (by ((intro q' hq'; first | exact hq' | (simp only [List.mem_cons, List.mem_append] at hq' ⊢; simp only [hq', true_or, or_true]; done))))) (by assumption) (by omega) (by ktr_room) (by ktr_units) ?_; k_whole)); refine Stop.intro ?_) | ((with_reducible show wpAny _ _ (call (Value.ref 150) _) _ _ _); k_here; (k_dflt (refine' c_law_text (by k_asm) (by k_asm) (by k_asm) (by k_asm) (by exact rfl) (by (first | assumption | exact pair_base (by k_asm) (by assumption) | exact pair_in (by k_asm) (by k_asm) (by assumption) (by ((intro q' hq'; first | exact hq' | (simp only [List.mem_cons, List.mem_append] at hq' ⊢; simp only [hq', true_or, or_true]; done)))))) (by first | assumption | omega) (by first | assumption | omega) (by ktr_room) (by ktr_units) ?_; k_whole)); intro _ _ _ _; walk_at "my_after") | ((with_reducible show wpAny _ _ (call (Value.type _) [Value.ref _]) _ _ _); k_here; k_dflt (refine' kde_tupleOf (by k_asm) (by k_asm) (by exact News.isList (by k_asm) (by k_mem)) (by (simp only [List.size_toArray]; omega)) (by exact rfl) ?_; k_whole); intro _ _ _ _ l1; (try k_lt l1); (try k_sweep; revert l1; intro _)) | ((with_reducible show wpAny _ _ (call (Value.builtin "str.join") [Value.str _ _, Value.ref _]) _ _ _); k_here; k_dflt (refine' join_listW (by exact News.isList (by k_asm) (by k_mem)) (by assumption) (by decide) (by assumption) ?_; k_whole); intro _ _; (try dsimp only))) | ((with_reducible show wpAny _ _ (compareOp _ _ _) _ _ _); first | ((with_reducible show wpAny _ _ (compareOp CmpOp.NotEq (Value.ref _) (Value.ref _)) _ _ _); refine Stop.intro ?_)) | ((with_reducible show wpAny _ _ (PySem.eval _ _) _ _ _); first | ((with_reducible show wpAny _ _ (PySem.eval (PySem.Expr.ListComp _ _ _ _) _) _ _ _); refine Stop.intro ?_)) | walk1 | (dsimp only; walk1) | (leave1; try dsimp only) | ((with_reducible show wpAny _ _ _ _ _ _); dsimp only)))
  refine Stop.out ?_
  k_dflt (refine ListComp_U (F₀ := by k_asm) (by with_unfolding_all rfl) (by decide) (by rfl) (by decide) (by rfl) ?_)
  (repeat' (first | (k_unfold; (try dsimp only)) | (k_end; wrow_close) | ((with_reducible show CompSrc _ _ _ _ _ _ _ _ _ _ _ _ _ _); refine Stop.intro ?_) | ((with_reducible show wpAny _ _ (call _ _ _) _ _ _); first | ((with_reducible show wpAny _ _ (call (Value.ref 94) _) _ _ _); k_here; (k_dflt (refine' c_show_set (by k_asm) (by k_asm) (by k_asm) (by k_asm) (by exact rfl) (by exact News.get (by k_asm) (by k_mem)) (by exact pairs_in (by k_asm) (by assumption) (by ((intro q' hq'; first | exact hq' | (simp only [List.mem_cons, List.mem_append] at hq' ⊢; simp only [hq', true_or, or_true]; done))))) (by assumption) (by omega) (by ktr_room) (by ktr_units) ?_; k_whole)); refine Stop.intro ?_) | ((with_reducible show wpAny _ _ (call (Value.ref 150) _) _ _ _); k_here; (k_dflt (refine' c_law_text (by k_asm) (by k_asm) (by k_asm) (by k_asm) (by exact rfl) (by (first | assumption | exact pair_base (by k_asm) (by assumption) | exact pair_in (by k_asm) (by k_asm) (by assumption) (by ((intro q' hq'; first | exact hq' | (simp only [List.mem_cons, List.mem_append] at hq' ⊢; simp only [hq', true_or, or_true]; done)))))) (by first | assumption | omega) (by first | assumption | omega) (by ktr_room) (by ktr_units) ?_; k_whole)); intro _ _ _ _; walk_at "my_after") | ((with_reducible show wpAny _ _ (call (Value.type _) [Value.ref _]) _ _ _); k_here; k_dflt (refine' kde_tupleOf (by k_asm) (by k_asm) (by exact News.isList (by k_asm) (by k_mem)) (by (simp only [List.size_toArray]; omega)) (by exact rfl) ?_; k_whole); intro _ _ _ _ l1; (try k_lt l1); (try k_sweep; revert l1; intro _)) | ((with_reducible show wpAny _ _ (call (Value.builtin "str.join") [Value.str _ _, Value.ref _]) _ _ _); k_here; k_dflt (refine' join_listW (by exact News.isList (by k_asm) (by k_mem)) (by assumption) (by decide) (by assumption) ?_; k_whole); intro _ _; (try dsimp only))) | ((with_reducible show wpAny _ _ (compareOp _ _ _) _ _ _); first | ((with_reducible show wpAny _ _ (compareOp CmpOp.NotEq (Value.ref _) (Value.ref _)) _ _ _); refine Stop.intro ?_)) | ((with_reducible show wpAny _ _ (PySem.eval _ _) _ _ _); first | ((with_reducible show wpAny _ _ (PySem.eval (PySem.Expr.ListComp _ _ _ _) _) _ _ _); refine Stop.intro ?_)) | walk1 | (dsimp only; walk1) | (leave1; try dsimp only) | ((with_reducible show wpAny _ _ _ _ _ _); dsimp only)))
  refine Stop.out ?_
  refine .inl ⟨_, pvs.toArray, _, rfl, rfl, F2, N2, .inr ⟨_, .tail _ (.head _), rfl, _, rfl⟩, by rw [List.size_toArray]; exact Nat.le_trans (show pvs.length ≤ 8 by omega) (by decide), ?_⟩
  rintro _ ⟨g1, rfl⟩
  refine compRest_ind _ (fun i ys nx => nx = ((sa, tupO svs sn) :: (a, W.listOf pvs.toArray k1) :: (L + 1 + 1 + 1 + 1, c4) :: (L + 1 + 1 + 1, cS) :: (L + 1 + 1, cM) :: (L + 1, cG) :: tl) ∧ StrsAre ys ((ps.take i).map (pairT · false))) ?_ ?_ _ _ _ _ (Nat.zero_add _) ⟨rfl, .nil⟩
  · rintro ys nx ⟨rfl, hy⟩
    rw [List.size_toArray, hR.length, List.take_length] at hy
    intro D2 h3 tk3 F3 N3 off2
    have hw : ((ps.map (pairT · false)).map (·.length)).sum + (ps.map (pairT · false)).length ≤ 1048576 := by
      have := strs_sum (b := false) hsm
      rw [List.length_map]; omega
    have hT : T1 = Txt.join "," (ps.map (pairT · false)) := str_ext (by rw [hT1, glue_wl])
    subst hT
    clear F2 N2
    dsimp only
    (repeat' (first | (k_unfold; (try dsimp only)) | (k_end; wrow_close) | ((with_reducible show CompSrc _ _ _ _ _ _ _ _ _ _ _ _ _ _); refine Stop.intro ?_) | ((with_reducible show wpAny _ _ (call _ _ _) _ _ _); first | ((with_reducible show wpAny _ _ (call (Value.ref 94) _) _ _ _); k_here; (k_dflt (refine' c_show_set (by k_asm) (by k_asm) (by k_asm) (by k_asm) (by exact rfl) (by exact News.get (by k_asm) (by k_mem)) (by exact pairs_in (by k_asm) (by assumption) (by ((intro q' hq'; first | exact hq' | (simp only [List.mem_cons, List.mem_append] at hq' ⊢; simp only [hq', true_or, or_true]; done))))) (by assumption) (by omega) (by ktr_room) (by ktr_units) ?_; k_whole)); refine Stop.intro ?_) | ((with_reducible show wpAny _ _ (call (Value.ref 150) _) _ _ _); k_here; (k_dflt (refine' c_law_text (by k_asm) (by k_asm) (by k_asm) (by k_asm) (by exact rfl) (by (first | assumption | exact pair_base (by k_asm) (by assumption) | exact pair_in (by k_asm) (by k_asm) (by assumption) (by ((intro q' hq'; first | exact hq' | (simp only [List.mem_cons, List.mem_append] at hq' ⊢; simp only [hq', true_or, or_true]; done)))))) (by first | assumption | omega) (by first | assumption | omega) (by ktr_room) (by ktr_units) ?_; k_whole)); intro _ _ _ _; walk_at "my_after") | ((with_reducible show wpAny _ _ (call (Value.type _) [Value.ref _]) _ _ _); k_here; k_dflt (refine' kde_tupleOf (by k_asm) (by k_asm) (by exact News.isList (by k_asm) (by k_mem)) (by (simp only [List.size_toArray]; omega)) (by exact rfl) ?_; k_whole); intro _ _ _ _ l1; (try k_lt l1); (try k_sweep; revert l1; intro _)) | ((with_reducible show wpAny _ _ (call (Value.builtin "str.join") [Value.str _ _, Value.ref _]) _ _ _); k_here; k_dflt (refine' join_listW (by exact News.isList (by k_asm) (by k_mem)) (by assumption) (by decide) (by assumption) ?_; k_whole); intro _ _; (try dsimp only))) | ((with_reducible show wpAny _ _ (compareOp _ _ _) _ _ _); first | ((with_reducible show wpAny _ _ (compareOp CmpOp.NotEq (Value.ref _) (Value.ref _)) _ _ _); refine Stop.intro ?_)) | ((with_reducible show wpAny _ _ (PySem.eval _ _) _ _ _); first | ((with_reducible show wpAny _ _ (PySem.eval (PySem.Expr.ListComp _ _ _ _) _) _ _ _); refine Stop.intro ?_)) | walk1 | (dsimp only; walk1) | (leave1; try dsimp only) | ((with_reducible show wpAny _ _ _ _ _ _); dsimp only)))
    · exfalso
      rename (_ != _) = true => hbad
      simp at hbad
    · exact nxt _ _ _ (by (repeat' (first | exact Knows.nil | refine Knows.cons (by with_unfolding_all rfl) ?_))) F3 (fun q hq => N3 q (.tail _ hq))
  · rintro j ys nx v I oI C oC D m₂ h3 tk3 E' hj ⟨rfl, hy⟩ hP hoC hx F3 N3 of3 hne
    obtain ⟨⟨x, y⟩, hpi, hr⟩ := hR.get (by simpa using hP)
    have hr' : PairR (Bs g tl) v (x, y) := hr.mono fun _ _ e => .inl e
    obtain ⟨hqx, hqy⟩ : Small (x, y) := hsm _ (List.mem_of_getElem? hpi)
    dsimp only at hqx hqy ⊢
    clear F2 N2
    (repeat' (first | (k_unfold; (try dsimp only)) | (k_end; wrow_close) | ((with_reducible show CompSrc _ _ _ _ _ _ _ _ _ _ _ _ _ _); refine Stop.intro ?_) | ((with_reducible show wpAny _ _ (call _ _ _) _ _ _); first | ((with_reducible show wpAny _ _ (call (Value.ref 94) _) _ _ _); k_here; (k_dflt (refine' c_show_set (by k_asm) (by k_asm) (by k_asm) (by k_asm) (by exact rfl) (by exact News.get (by k_asm) (by k_mem)) (by exact pairs_in (by k_asm) (by assumption) (by ((intro q' hq'; first | exact hq' | (simp only [List.mem_cons, List.mem_append] at hq' ⊢; simp only [hq', true_or, or_true]; done))))) (by assumption) (by omega) (by ktr_room) (by ktr_units) ?_; k_whole)); refine Stop.intro ?_) | ((with_reducible show wpAny _ _ (call (Value.ref 150) _) _ _ _); k_here; (k_dflt (refine' c_law_text (by k_asm) (by k_asm) (by k_asm) (by k_asm) (by exact rfl) (by (first | assumption | exact pair_base (by k_asm) (by assumption) | exact pair_in (by k_asm) (by k_asm) (by assumption) (by ((intro q' hq'; first | exact hq' | (simp only [List.mem_cons, List.mem_append] at hq' ⊢; simp only [hq', true_or, or_true]; done)))))) (by first | assumption | omega) (by first | assumption | omega) (by ktr_room) (by ktr_units) ?_; k_whole)); intro _ _ _ _; walk_at "my_after") | ((with_reducible show wpAny _ _ (call (Value.type _) [Value.ref _]) _ _ _); k_here; k_dflt (refine' kde_tupleOf (by k_asm) (by k_asm) (by exact News.isList (by k_asm) (by k_mem)) (by (simp only [List.size_toArray]; omega)) (by exact rfl) ?_; k_whole); intro _ _ _ _ l1; (try k_lt l1); (try k_sweep; revert l1; intro _)) | ((with_reducible show wpAny _ _ (call (Value.builtin "str.join") [Value.str _ _, Value.ref _]) _ _ _); k_here; k_dflt (refine' join_listW (by exact News.isList (by k_asm) (by k_mem)) (by assumption) (by decide) (by assumption) ?_; k_whole); intro _ _; (try dsimp only))) | ((with_reducible show wpAny _ _ (compareOp _ _ _) _ _ _); first | ((with_reducible show wpAny _ _ (compareOp CmpOp.NotEq (Value.ref _) (Value.ref _)) _ _ _); refine Stop.intro ?_)) | ((with_reducible show wpAny _ _ (PySem.eval _ _) _ _ _); first | ((with_reducible show wpAny _ _ (PySem.eval (PySem.Expr.ListComp _ _ _ _) _) _ _ _); refine Stop.intro ?_)) | walk1 | (dsimp only; walk1) | (leave1; try dsimp only) | ((with_reducible show wpAny _ _ _ _ _ _); dsimp only)))
    rename Fr _ _ _ _ => F9
    rename News _ _ _ _ => N9
    refine CompEnd.intro F9 N9 ((sa, tupO svs sn) :: (a, W.listOf pvs.toArray k1) :: (L + 1 + 1 + 1 + 1, c4) :: (L + 1 + 1 + 1, cS) :: (L + 1 + 1, cM) :: (L + 1, cG) :: tl) (fun _ h => h) of3 (.inr ⟨_, .tail _ (.head _), rfl, _, rfl⟩) ⟨rfl, ?_⟩
    rw [List.take_add_one, hpi, Option.toList_some, List.map_append]
    exact kct_snoc hy
end
theorem off_law4 : True := by
  w_top off
  trivial
theorem map_fst_false (ps : List (Int × Int)) : (ps.map (·, false)).map (·.1) = ps := by
  rw [List.map_map]; exact List.map_id ps
theorem app_right {g h : Heap} {L : Addr} {x : Addr × Obj} {l l' : List (Addr × Obj)} (N : News g L h (x :: (l ++ l'))) : News g L h l' := fun q hq => N q (.tail _ (List.mem_append_right _ hq))
section
variable {w : World} {mean : ExcName → Option Value} {mg mb : Str → Option Value} {fa L : Addr} {ccd : Value} {g : Heap} {s : Shared} {Q : Flow → Shared → Prop} {E : Value → Shared → Prop} {rest : List Stmt} {m : Str → Option Value}
   (B : Below callerA g [] g) (X : (hd.heap_39 w.params).In g) (T : TopH mean mg mb g)
include B X T
theorem l_if2 {cG cM cS c4 : Obj} {a sa : Addr} {ps : List (Int × Int)} {pvs svs : List Value} {k1 sn : Nat} {tl : List (Addr × Obj)} (hne : ps ≠ []) (hp8 : ps.length ≤ 8) (hsm : ∀ q ∈ ps, Small q) (hR : PairsR (Nw tl) pvs ps) (hS : PairsR (Nw tl) svs ps)
   (eS : cS.data = .cell (some (.ref sa))) (hkn : Knows m [("pairs", .ref a)]) (F : Fr g L s.heap m)
   (N : News g L s.heap ((sa, tupO svs sn) :: (a, W.listOf pvs.toArray k1) :: (L + 1 + 1 + 1 + 1, c4) :: (L + 1 + 1 + 1, cS) :: (L + 1 + 1, cM) :: (L + 1, cG) :: tl))
   (nxt : ∀ (m' : Str → Option Value) h' tk', Knows m' [("pairs", .ref a)] → Fr g L h' m' →
      News g L h' ((sa, tupO svs sn) :: (a, W.listOf pvs.toArray k1) :: (L + 1 + 1 + 1 + 1, c4) :: (L + 1 + 1 + 1, cS) :: (L + 1 + 1, cM) :: (L + 1, cG) :: tl) → wpAny (model PySem.Challenge.rw_no0356_01.row.prog w) (lawA L fa ccd) (execs rest (lawE L fa ccd)) Q E { s with heap := h', toks := tk' }) :
   wpAny (model PySem.Challenge.rw_no0356_01.row.prog w) (lawA L fa ccd) (execs (lawSt 7 :: rest) (lawE L fa ccd)) Q E s := by
  revert X; k_fill; intro X
  conv in lawSt 7 => whnf
  simp only [lawA, lawE] at *
  conv in (occs := *) lawScope => all_goals whnf
  replace F := fr_known F hkn
  have hsl := hS.length
  (repeat' (first | (k_unfold; (try dsimp only)) | (k_end; wrow_close) | ((with_reducible show wpAny _ _ (call _ _ _) _ _ _); first | ((with_reducible show wpAny _ _ (call (Value.ref 157) _) _ _ _); k_here; (k_dflt (refine' c_law_spread (by k_asm) (by k_asm) (by k_asm) (by k_asm) (by exact rfl) (by exact News.get (by k_asm) (by k_mem)) (by exact pairs_in (by k_asm) (by assumption) (by ((intro q' hq'; first | exact hq' | (simp only [List.mem_cons, List.mem_append] at hq' ⊢; simp only [hq', true_or, or_true]; done))))) (by assumption) (by omega) (by omega) (by ktr_room) (by ktr_units) ?_; k_whole)); refine Stop.intro ?_) | ((with_reducible show wpAny _ _ (call (Value.ref 94) _) _ _ _); k_here; (k_dflt (refine' c_show_set (by k_asm) (by k_asm) (by k_asm) (by k_asm) (by exact rfl) (by exact News.get (by k_asm) (by k_mem)) (by exact pairs_in (by k_asm) (by assumption) (by ((intro q' hq'; first | exact hq' | (simp only [List.mem_cons, List.mem_append] at hq' ⊢; simp only [hq', true_or, or_true]; done))))) (by assumption) (by omega) (by ktr_room) (by ktr_units) ?_; k_whole)); refine Stop.intro ?_) | ((with_reducible show wpAny _ _ (call (Value.ref 75) _) _ _ _); k_here; (k_dflt (refine' c_read_set (by k_asm) (by k_asm) (by k_asm) (by k_asm) (by exact rfl) (by assumption) (by assumption) (by assumption) (by assumption) (by omega) (by ktr_room) (by ktr_units) ?_; k_whole)); refine Stop.intro ?_)) | ((with_reducible show wpAny _ _ (compareOp _ _ _) _ _ _); first | ((with_reducible show wpAny _ _ (compareOp CmpOp.NotEq (Value.ref _) (Value.ref _)) _ _ _); refine Stop.intro ?_)) | walk1 | (dsimp only; walk1) | (leave1; try dsimp only) | ((with_reducible show wpAny _ _ _ _ _ _); dsimp only)))
  refine Stop.out ?_
  intro t1 T1 h2 tk2 st hT1 hT1l
  rename Fr _ _ _ _ => F1
  rename News _ _ _ _ => N1
  (try dsimp only at st); (try dsimp only)
  have F2 := fr_stays F1 st
  have N2 := news_stays N1 st
  clear F1 N1
  have hne' : ps.map (·, false) ≠ [] := fun e => hne (List.map_eq_nil_iff.mp e)
  have hsm' : ∀ q ∈ ps.map (·, false), Small q.1 := by
    intro q hq; obtain ⟨p, hp, rfl⟩ := List.mem_map.mp hq; exact hsm p hp
  have hl' : (ps.map (·, false)).length ≤ 8 := by rw [List.length_map]; exact hp8
  (repeat' (first | (k_unfold; (try dsimp only)) | (k_end; wrow_close) | ((with_reducible show wpAny _ _ (call _ _ _) _ _ _); first | ((with_reducible show wpAny _ _ (call (Value.ref 157) _) _ _ _); k_here; (k_dflt (refine' c_law_spread (by k_asm) (by k_asm) (by k_asm) (by k_asm) (by exact rfl) (by exact News.get (by k_asm) (by k_mem)) (by exact pairs_in (by k_asm) (by assumption) (by ((intro q' hq'; first | exact hq' | (simp only [List.mem_cons, List.mem_append] at hq' ⊢; simp only [hq', true_or, or_true]; done))))) (by assumption) (by omega) (by omega) (by ktr_room) (by ktr_units) ?_; k_whole)); refine Stop.intro ?_) | ((with_reducible show wpAny _ _ (call (Value.ref 94) _) _ _ _); k_here; (k_dflt (refine' c_show_set (by k_asm) (by k_asm) (by k_asm) (by k_asm) (by exact rfl) (by exact News.get (by k_asm) (by k_mem)) (by exact pairs_in (by k_asm) (by assumption) (by ((intro q' hq'; first | exact hq' | (simp only [List.mem_cons, List.mem_append] at hq' ⊢; simp only [hq', true_or, or_true]; done))))) (by assumption) (by omega) (by ktr_room) (by ktr_units) ?_; k_whole)); refine Stop.intro ?_) | ((with_reducible show wpAny _ _ (call (Value.ref 75) _) _ _ _); k_here; (k_dflt (refine' c_read_set (by k_asm) (by k_asm) (by k_asm) (by k_asm) (by exact rfl) (by assumption) (by assumption) (by assumption) (by assumption) (by omega) (by ktr_room) (by ktr_units) ?_; k_whole)); refine Stop.intro ?_)) | ((with_reducible show wpAny _ _ (compareOp _ _ _) _ _ _); first | ((with_reducible show wpAny _ _ (compareOp CmpOp.NotEq (Value.ref _) (Value.ref _)) _ _ _); refine Stop.intro ?_)) | walk1 | (dsimp only; walk1) | (leave1; try dsimp only) | ((with_reducible show wpAny _ _ _ _ _ _); dsimp only)))
  refine Stop.out ?_
  intro ra rvs rn stl h3 tk3 st3 hnew hn2 hs2 hR2
  rename Fr _ _ _ _ => F1
  rename News _ _ _ _ => N1
  (try dsimp only at st3 hnew hn2); (try dsimp only)
  rw [map_fst_false] at hR2
  have F3 := fr_stays F1 st3
  have N3 := news_cons F1 (news_app F1 (news_stays N1 st3) hnew) hn2 hs2
  have N4 := app_right N3
  clear F1 N1
  (repeat' (first | (k_unfold; (try dsimp only)) | (k_end; wrow_close) | ((with_reducible show wpAny _ _ (call _ _ _) _ _ _); first | ((with_reducible show wpAny _ _ (call (Value.ref 157) _) _ _ _); k_here; (k_dflt (refine' c_law_spread (by k_asm) (by k_asm) (by k_asm) (by k_asm) (by exact rfl) (by exact News.get (by k_asm) (by k_mem)) (by exact pairs_in (by k_asm) (by assumption) (by ((intro q' hq'; first | exact hq' | (simp only [List.mem_cons, List.mem_append] at hq' ⊢; simp only [hq', true_or, or_true]; done))))) (by assumption) (by omega) (by omega) (by ktr_room) (by ktr_units) ?_; k_whole)); refine Stop.intro ?_) | ((with_reducible show wpAny _ _ (call (Value.ref 94) _) _ _ _); k_here; (k_dflt (refine' c_show_set (by k_asm) (by k_asm) (by k_asm) (by k_asm) (by exact rfl) (by exact News.get (by k_asm) (by k_mem)) (by exact pairs_in (by k_asm) (by assumption) (by ((intro q' hq'; first | exact hq' | (simp only [List.mem_cons, List.mem_append] at hq' ⊢; simp only [hq', true_or, or_true]; done))))) (by assumption) (by omega) (by ktr_room) (by ktr_units) ?_; k_whole)); refine Stop.intro ?_) | ((with_reducible show wpAny _ _ (call (Value.ref 75) _) _ _ _); k_here; (k_dflt (refine' c_read_set (by k_asm) (by k_asm) (by k_asm) (by k_asm) (by exact rfl) (by assumption) (by assumption) (by assumption) (by assumption) (by omega) (by ktr_room) (by ktr_units) ?_; k_whole)); refine Stop.intro ?_)) | ((with_reducible show wpAny _ _ (compareOp _ _ _) _ _ _); first | ((with_reducible show wpAny _ _ (compareOp CmpOp.NotEq (Value.ref _) (Value.ref _)) _ _ _); refine Stop.intro ?_)) | walk1 | (dsimp only; walk1) | (leave1; try dsimp only) | ((with_reducible show wpAny _ _ _ _ _ _); dsimp only)))
  refine Stop.out (ne_pairs (N3 _ (.head _)).1 (hR2.mono fun a o e => (N3 _ (.tail _ (List.mem_append_left _ e))).1) (N4 _ (.head _)).1 (pairs_in N4 hS (by ((intro q' hq'; first | exact hq' | (simp only [List.mem_cons, List.mem_append] at hq' ⊢; simp only [hq', true_or, or_true]; done))))) (by ke_room) ?_)
  (repeat' (first | (k_unfold; (try dsimp only)) | (k_end; wrow_close) | ((with_reducible show wpAny _ _ (call _ _ _) _ _ _); first | ((with_reducible show wpAny _ _ (call (Value.ref 157) _) _ _ _); k_here; (k_dflt (refine' c_law_spread (by k_asm) (by k_asm) (by k_asm) (by k_asm) (by exact rfl) (by exact News.get (by k_asm) (by k_mem)) (by exact pairs_in (by k_asm) (by assumption) (by ((intro q' hq'; first | exact hq' | (simp only [List.mem_cons, List.mem_append] at hq' ⊢; simp only [hq', true_or, or_true]; done))))) (by assumption) (by omega) (by omega) (by ktr_room) (by ktr_units) ?_; k_whole)); refine Stop.intro ?_) | ((with_reducible show wpAny _ _ (call (Value.ref 94) _) _ _ _); k_here; (k_dflt (refine' c_show_set (by k_asm) (by k_asm) (by k_asm) (by k_asm) (by exact rfl) (by exact News.get (by k_asm) (by k_mem)) (by exact pairs_in (by k_asm) (by assumption) (by ((intro q' hq'; first | exact hq' | (simp only [List.mem_cons, List.mem_append] at hq' ⊢; simp only [hq', true_or, or_true]; done))))) (by assumption) (by omega) (by ktr_room) (by ktr_units) ?_; k_whole)); refine Stop.intro ?_) | ((with_reducible show wpAny _ _ (call (Value.ref 75) _) _ _ _); k_here; (k_dflt (refine' c_read_set (by k_asm) (by k_asm) (by k_asm) (by k_asm) (by exact rfl) (by assumption) (by assumption) (by assumption) (by assumption) (by omega) (by ktr_room) (by ktr_units) ?_; k_whole)); refine Stop.intro ?_)) | ((with_reducible show wpAny _ _ (compareOp _ _ _) _ _ _); first | ((with_reducible show wpAny _ _ (compareOp CmpOp.NotEq (Value.ref _) (Value.ref _)) _ _ _); refine Stop.intro ?_)) | walk1 | (dsimp only; walk1) | (leave1; try dsimp only) | ((with_reducible show wpAny _ _ _ _ _ _); dsimp only)))
  exact nxt _ _ _ (by (repeat' (first | exact Knows.nil | refine Knows.cons (by with_unfolding_all rfl) ?_))) F3 N4
theorem l_found {cG cM cS c4 : Obj} {a sa : Addr} {ps : List (Int × Int)} {pvs svs : List Value} {k1 sn : Nat} {tl : List (Addr × Obj)} {G : Int} {tG : Tok} (hG : 0 ≤ G ∧ G ≤ 40) (hp8 : ps.length ≤ 8) (hsm : ∀ q ∈ ps, Small q) (hR : PairsR (Nw tl) pvs ps)
   (eG : cG.data = .cell (some (.int G tG))) (hkn : Knows m [("pairs", .ref a)]) (F : Fr g L s.heap m)
   (N : News g L s.heap ((sa, tupO svs sn) :: (a, W.listOf pvs.toArray k1) :: (L + 1 + 1 + 1 + 1, c4) :: (L + 1 + 1 + 1, cS) :: (L + 1 + 1, cM) :: (L + 1, cG) :: tl))
   (nxt : ∀ (fd : Addr) (fo : Obj) (ks : List Int) (m' : Str → Option Value) h' tk', ¬ @Eq Nat fd (L + 1 + 1 + 1 + 1) → (fd == sysModules) = false → SetO PySem.Challenge.rw_no0356_01.row.prog w fo ks → ks.Nodup → (∀ k, k ∈ ks ↔ hasP ps G k = true) → Knows m' [("found", .ref fd), ("pairs", .ref a)] → Fr g L h' m' →
      News g L h' ((fd, fo) :: (sa, tupO svs sn) :: (a, W.listOf pvs.toArray k1) :: (L + 1 + 1 + 1 + 1, c4) :: (L + 1 + 1 + 1, cS) :: (L + 1 + 1, cM) :: (L + 1, cG) :: tl) → wpAny (model PySem.Challenge.rw_no0356_01.row.prog w) (lawA L fa ccd) (execs rest (lawE L fa ccd)) Q E { s with heap := h', toks := tk' }) :
   wpAny (model PySem.Challenge.rw_no0356_01.row.prog w) (lawA L fa ccd) (execs (lawSt 8 :: rest) (lawE L fa ccd)) Q E s := by
  revert X; k_fill; intro X
  conv in lawSt 8 => whnf
  simp only [lawA, lawE] at *
  conv in (occs := *) lawScope => all_goals whnf
  replace F := fr_known F hkn
  have hpl := hR.length
  (repeat' (first | (k_unfold; (try dsimp only)) | (k_end; wrow_close) | ((with_reducible show wpAny _ _ (call _ _ _) _ _ _); first | ((with_reducible show wpAny _ _ (call (Value.ref 157) _) _ _ _); k_here; (k_dflt (refine' c_law_spread (by k_asm) (by k_asm) (by k_asm) (by k_asm) (by exact rfl) (by exact News.get (by k_asm) (by k_mem)) (by exact pairs_in (by k_asm) (by assumption) (by ((intro q' hq'; first | exact hq' | (simp only [List.mem_cons, List.mem_append] at hq' ⊢; simp only [hq', true_or, or_true]; done))))) (by assumption) (by omega) (by omega) (by ktr_room) (by ktr_units) ?_; k_whole)); refine Stop.intro ?_) | ((with_reducible show wpAny _ _ (call (Value.ref 94) _) _ _ _); k_here; (k_dflt (refine' c_show_set (by k_asm) (by k_asm) (by k_asm) (by k_asm) (by exact rfl) (by exact News.get (by k_asm) (by k_mem)) (by exact pairs_in (by k_asm) (by assumption) (by ((intro q' hq'; first | exact hq' | (simp only [List.mem_cons, List.mem_append] at hq' ⊢; simp only [hq', true_or, or_true]; done))))) (by assumption) (by omega) (by ktr_room) (by ktr_units) ?_; k_whole)); refine Stop.intro ?_) | ((with_reducible show wpAny _ _ (call (Value.ref 75) _) _ _ _); k_here; (k_dflt (refine' c_read_set (by k_asm) (by k_asm) (by k_asm) (by k_asm) (by exact rfl) (by assumption) (by assumption) (by assumption) (by assumption) (by omega) (by ktr_room) (by ktr_units) ?_; k_whole)); refine Stop.intro ?_)) | ((with_reducible show wpAny _ _ (compareOp _ _ _) _ _ _); first | ((with_reducible show wpAny _ _ (compareOp CmpOp.NotEq (Value.ref _) (Value.ref _)) _ _ _); refine Stop.intro ?_)) | walk1 | (dsimp only; walk1) | (leave1; try dsimp only) | ((with_reducible show wpAny _ _ _ _ _ _); dsimp only)))
  refine Stop.out ?_
  intro fd fo ks h2 tk2 st hn2 hmod hs2 hSO hnd hks
  rename Fr _ _ _ _ => F1
  rename News _ _ _ _ => N1
  (try dsimp only at st hn2); (try dsimp only)
  have F2 := fr_stays F1 st
  have N2 := news_cons F1 (news_stays N1 st) hn2 hs2
  have n4 : ¬ @Eq Nat fd (L + 1 + 1 + 1 + 1) := fun e => by
    rw [show fd = L + 1 + 1 + 1 + 1 from e, (N1 _ (.tail _ (.tail _ (.head _)))).1] at hn2; exact nomatch hn2
  clear F1 N1
  (repeat' (first | (k_unfold; (try dsimp only)) | (k_end; wrow_close) | ((with_reducible show wpAny _ _ (call _ _ _) _ _ _); first | ((with_reducible show wpAny _ _ (call (Value.ref 157) _) _ _ _); k_here; (k_dflt (refine' c_law_spread (by k_asm) (by k_asm) (by k_asm) (by k_asm) (by exact rfl) (by exact News.get (by k_asm) (by k_mem)) (by exact pairs_in (by k_asm) (by assumption) (by ((intro q' hq'; first | exact hq' | (simp only [List.mem_cons, List.mem_append] at hq' ⊢; simp only [hq', true_or, or_true]; done))))) (by assumption) (by omega) (by omega) (by ktr_room) (by ktr_units) ?_; k_whole)); refine Stop.intro ?_) | ((with_reducible show wpAny _ _ (call (Value.ref 94) _) _ _ _); k_here; (k_dflt (refine' c_show_set (by k_asm) (by k_asm) (by k_asm) (by k_asm) (by exact rfl) (by exact News.get (by k_asm) (by k_mem)) (by exact pairs_in (by k_asm) (by assumption) (by ((intro q' hq'; first | exact hq' | (simp only [List.mem_cons, List.mem_append] at hq' ⊢; simp only [hq', true_or, or_true]; done))))) (by assumption) (by omega) (by ktr_room) (by ktr_units) ?_; k_whole)); refine Stop.intro ?_) | ((with_reducible show wpAny _ _ (call (Value.ref 75) _) _ _ _); k_here; (k_dflt (refine' c_read_set (by k_asm) (by k_asm) (by k_asm) (by k_asm) (by exact rfl) (by assumption) (by assumption) (by assumption) (by assumption) (by omega) (by ktr_room) (by ktr_units) ?_; k_whole)); refine Stop.intro ?_)) | ((with_reducible show wpAny _ _ (compareOp _ _ _) _ _ _); first | ((with_reducible show wpAny _ _ (compareOp CmpOp.NotEq (Value.ref _) (Value.ref _)) _ _ _); refine Stop.intro ?_)) | walk1 | (dsimp only; walk1) | (leave1; try dsimp only) | ((with_reducible show wpAny _ _ _ _ _ _); dsimp only)))
  rename Fr _ _ _ _ => F9
  rename News _ _ _ _ => N9
  exact nxt _ _ _ _ _ _ n4 hmod hSO hnd hks (by (repeat' (first | exact Knows.nil | refine Knows.cons (by with_unfolding_all rfl) ?_))) F9 N9
end
theorem off_law5 : True := by
  w_top off
  trivial
theorem ks_b {ps : List (Int × Int)} {G : Int} {ks : List Int} (hsm : ∀ q ∈ ps, Small q) (hG : 0 ≤ G ∧ G ≤ 40) (hks : ∀ k, k ∈ ks ↔ hasP ps G k = true) : ∀ k ∈ ks, 0 ≤ k ∧ k ≤ 45 := fun k hk => hasP_b hsm (by omega) ((hks k).mp hk)
theorem ks_len {ks : List Int} (hnd : ks.Nodup) (hb : ∀ k ∈ ks, 0 ≤ k ∧ k ≤ 45) : ks.length < 64 := Nat.lt_of_le_of_lt (nodup_len 0 46 ks hnd fun k hk => by have := hb k hk; omega) (by decide)
section
variable {w : World} {mean : ExcName → Option Value} {mg mb : Str → Option Value} {fa L : Addr} {ccd : Value} {g : Heap} {s : Shared} {Q : Flow → Shared → Prop} {E : Value → Shared → Prop} {rest : List Stmt} {m : Str → Option Value}
   (B : Below callerA g [] g) (X : (hd.heap_39 w.params).In g) (T : TopH mean mg mb g)
include B X T
theorem l_plain {cG cM cS c4 fo : Obj} {a sa fd : Addr} {ps : List (Int × Int)} {pvs svs : List Value} {k1 sn : Nat} {tl : List (Addr × Obj)} {G : Int} {tG : Tok} {ks : List Int} (hG : 0 ≤ G ∧ G ≤ 40) (hp8 : ps.length ≤ 8) (hsm : ∀ q ∈ ps, Small q) (hS : PairsR (Nw tl) svs ps)
   (hmod : (fd == sysModules) = false) (hSO : SetO PySem.Challenge.rw_no0356_01.row.prog w fo ks) (hnd : ks.Nodup) (hks : ∀ k, k ∈ ks ↔ hasP ps G k = true)
   (eG : cG.data = .cell (some (.int G tG))) (eS : cS.data = .cell (some (.ref sa))) (hkn : Knows m [("found", .ref fd), ("pairs", .ref a)]) (F : Fr g L s.heap m)
   (N : News g L s.heap ((fd, fo) :: (sa, tupO svs sn) :: (a, W.listOf pvs.toArray k1) :: (L + 1 + 1 + 1 + 1, c4) :: (L + 1 + 1 + 1, cS) :: (L + 1 + 1, cM) :: (L + 1, cG) :: tl))
   (nxt : ∀ (m' : Str → Option Value) h' tk', Knows m' [("found", .ref fd), ("pairs", .ref a)] → Fr g L h' m' →
      News g L h' ((fd, fo) :: (sa, tupO svs sn) :: (a, W.listOf pvs.toArray k1) :: (L + 1 + 1 + 1 + 1, c4) :: (L + 1 + 1 + 1, cS) :: (L + 1 + 1, cM) :: (L + 1, cG) :: tl) → wpAny (model PySem.Challenge.rw_no0356_01.row.prog w) (lawA L fa ccd) (execs rest (lawE L fa ccd)) Q E { s with heap := h', toks := tk' }) :
   wpAny (model PySem.Challenge.rw_no0356_01.row.prog w) (lawA L fa ccd) (execs (lawSt 9 :: rest) (lawE L fa ccd)) Q E s := by
  revert X; k_fill; intro X
  conv in lawSt 9 => whnf
  simp only [lawA, lawE] at *
  conv in (occs := *) lawScope => all_goals whnf
  replace F := fr_known F hkn
  have hsl := hS.length
  have hb := ks_b hsm hG hks
  have hz := ks_len hnd hb
  have hb100 : ∀ k ∈ ks, 0 ≤ k ∧ k ≤ 100 := fun k hk => by have := hb k hk; omega
  (repeat' (first | (k_unfold; (try dsimp only)) | (k_end; wrow_close) | ((with_reducible show wpAny _ _ (call _ _ _) _ _ _); first | ((with_reducible show wpAny _ _ (call (Value.ref 162) _) _ _ _); k_here; (k_dflt (refine' c_law_runs (by k_asm) (by k_asm) (by k_asm) (by k_asm) (by exact rfl) (by exact News.get (by k_asm) (by k_mem)) (by assumption) (by assumption) (by assumption) (by assumption) (by assumption) (by assumption) (by assumption) (by ktr_room) (by ktr_units) ?_; k_whole)); refine Stop.intro ?_) | ((with_reducible show wpAny _ _ (call (Value.ref 108) _) _ _ _); k_here; (k_dflt (refine' c_plain_set (by k_asm) (by k_asm) (by k_asm) (by k_asm) (by exact rfl) (by exact News.get (by k_asm) (by k_mem)) (by exact pairs_in (by k_asm) (by assumption) (by ((intro q' hq'; first | exact hq' | (simp only [List.mem_cons, List.mem_append] at hq' ⊢; simp only [hq', true_or, or_true]; done))))) (by assumption) (by omega) (by omega) (by ktr_room) (by ktr_units) ?_; k_whole)); refine Stop.intro ?_)) | ((with_reducible show wpAny _ _ (compareOp _ _ _) _ _ _); first | ((with_reducible show wpAny _ _ (compareOp CmpOp.NotEq (Value.ref _) (Value.ref _)) _ _ _); refine Stop.intro ?_)) | walk1 | (dsimp only; walk1) | (leave1; try dsimp only) | ((with_reducible show wpAny _ _ _ _ _ _); dsimp only)))
  refine Stop.out ?_
  intro ra ws kk tl1 qs h2 tk2 st hnew hn2 hs2 hR2 hperm hsort
  rename Fr _ _ _ _ => F1
  rename News _ _ _ _ => N1
  (try dsimp only at st hnew hn2); (try dsimp only)
  obtain ⟨hM1, hM2⟩ := plain_ok (by omega) hsm hperm hsort
  have hcov : ∀ k, k ∈ ks ↔ Cov (qs.foldl mergeStep []) k := fun k => (hks k).trans (hM2 k).symm
  have F2 := fr_stays F1 st
  have N2 := news_cons F1 (news_app F1 (news_stays N1 st) hnew) hn2 hs2
  generalize qs.foldl mergeStep [] = M at *
  have NA : News g L h2 ((ra, tupO ws kk) :: tl1) := news_sub N2 (fun q hq => by
    rcases List.mem_cons.mp hq with e | e
    · rw [e]; exact .head _
    · exact .tail _ (List.mem_append_left _ e))
  have N3 := app_right N2
  clear F1 N1 N2
  (repeat' (first | (k_unfold; (try dsimp only)) | (k_end; wrow_close) | ((with_reducible show wpAny _ _ (call _ _ _) _ _ _); first | ((with_reducible show wpAny _ _ (call (Value.ref 162) _) _ _ _); k_here; (k_dflt (refine' c_law_runs (by k_asm) (by k_asm) (by k_asm) (by k_asm) (by exact rfl) (by exact News.get (by k_asm) (by k_mem)) (by assumption) (by assumption) (by assumption) (by assumption) (by assumption) (by assumption) (by assumption) (by ktr_room) (by ktr_units) ?_; k_whole)); refine Stop.intro ?_) | ((with_reducible show wpAny _ _ (call (Value.ref 108) _) _ _ _); k_here; (k_dflt (refine' c_plain_set (by k_asm) (by k_asm) (by k_asm) (by k_asm) (by exact rfl) (by exact News.get (by k_asm) (by k_mem)) (by exact pairs_in (by k_asm) (by assumption) (by ((intro q' hq'; first | exact hq' | (simp only [List.mem_cons, List.mem_append] at hq' ⊢; simp only [hq', true_or, or_true]; done))))) (by assumption) (by omega) (by omega) (by ktr_room) (by ktr_units) ?_; k_whole)); refine Stop.intro ?_)) | ((with_reducible show wpAny _ _ (compareOp _ _ _) _ _ _); first | ((with_reducible show wpAny _ _ (compareOp CmpOp.NotEq (Value.ref _) (Value.ref _)) _ _ _); refine Stop.intro ?_)) | walk1 | (dsimp only; walk1) | (leave1; try dsimp only) | ((with_reducible show wpAny _ _ _ _ _ _); dsimp only)))
  refine Stop.out ?_
  intro rb ws2 kb tl2 h3 tk3 st3 hnew3 hn3 hs3 hR3
  (try dsimp only at st3 hnew3 hn3); (try dsimp only)
  have F4 := fr_stays F2 st3
  have N4 := news_stays N3 st3
  have NB := news_stays NA st3
  clear F2 N3 NA
  have ha : hp h3 ra (tupO ws kk) := (NB _ (.head _)).1
  have Ra : PairsR (hp h3) ws M := pairs_in NB hR2 (fun q hq => .tail _ hq)
  have Rb : PairsR (hp h3) ws2 M := hR3.mono fun x o e => (hnew3 _ e).2
  clear NB
  (repeat' (first | (k_unfold; (try dsimp only)) | (k_end; wrow_close) | ((with_reducible show wpAny _ _ (call _ _ _) _ _ _); first | ((with_reducible show wpAny _ _ (call (Value.ref 162) _) _ _ _); k_here; (k_dflt (refine' c_law_runs (by k_asm) (by k_asm) (by k_asm) (by k_asm) (by exact rfl) (by exact News.get (by k_asm) (by k_mem)) (by assumption) (by assumption) (by assumption) (by assumption) (by assumption) (by assumption) (by assumption) (by ktr_room) (by ktr_units) ?_; k_whole)); refine Stop.intro ?_) | ((with_reducible show wpAny _ _ (call (Value.ref 108) _) _ _ _); k_here; (k_dflt (refine' c_plain_set (by k_asm) (by k_asm) (by k_asm) (by k_asm) (by exact rfl) (by exact News.get (by k_asm) (by k_mem)) (by exact pairs_in (by k_asm) (by assumption) (by ((intro q' hq'; first | exact hq' | (simp only [List.mem_cons, List.mem_append] at hq' ⊢; simp only [hq', true_or, or_true]; done))))) (by assumption) (by omega) (by omega) (by ktr_room) (by ktr_units) ?_; k_whole)); refine Stop.intro ?_)) | ((with_reducible show wpAny _ _ (compareOp _ _ _) _ _ _); first | ((with_reducible show wpAny _ _ (compareOp CmpOp.NotEq (Value.ref _) (Value.ref _)) _ _ _); refine Stop.intro ?_)) | walk1 | (dsimp only; walk1) | (leave1; try dsimp only) | ((with_reducible show wpAny _ _ _ _ _ _); dsimp only)))
  refine Stop.out (ne_pairs ha Ra hs3 Rb (by ke_room) ?_)
  (repeat' (first | (k_unfold; (try dsimp only)) | (k_end; wrow_close) | ((with_reducible show wpAny _ _ (call _ _ _) _ _ _); first | ((with_reducible show wpAny _ _ (call (Value.ref 162) _) _ _ _); k_here; (k_dflt (refine' c_law_runs (by k_asm) (by k_asm) (by k_asm) (by k_asm) (by exact rfl) (by exact News.get (by k_asm) (by k_mem)) (by assumption) (by assumption) (by assumption) (by assumption) (by assumption) (by assumption) (by assumption) (by ktr_room) (by ktr_units) ?_; k_whole)); refine Stop.intro ?_) | ((with_reducible show wpAny _ _ (call (Value.ref 108) _) _ _ _); k_here; (k_dflt (refine' c_plain_set (by k_asm) (by k_asm) (by k_asm) (by k_asm) (by exact rfl) (by exact News.get (by k_asm) (by k_mem)) (by exact pairs_in (by k_asm) (by assumption) (by ((intro q' hq'; first | exact hq' | (simp only [List.mem_cons, List.mem_append] at hq' ⊢; simp only [hq', true_or, or_true]; done))))) (by assumption) (by omega) (by omega) (by ktr_room) (by ktr_units) ?_; k_whole)); refine Stop.intro ?_)) | ((with_reducible show wpAny _ _ (compareOp _ _ _) _ _ _); first | ((with_reducible show wpAny _ _ (compareOp CmpOp.NotEq (Value.ref _) (Value.ref _)) _ _ _); refine Stop.intro ?_)) | walk1 | (dsimp only; walk1) | (leave1; try dsimp only) | ((with_reducible show wpAny _ _ _ _ _ _); dsimp only)))
  exact nxt _ _ _ (by (repeat' (first | exact Knows.nil | refine Knows.cons (by with_unfolding_all rfl) ?_))) F4 N4
end
theorem off_law6 : True := by
  w_top off
  trivial
section
variable {w : World} {mean : ExcName → Option Value} {mg mb : Str → Option Value} {fa L : Addr} {ccd : Value} {g : Heap} {s : Shared} {Q : Flow → Shared → Prop} {E : Value → Shared → Prop} {rest : List Stmt} {m : Str → Option Value}
   (B : Below callerA g [] g) (X : (hd.heap_39 w.params).In g) (T : TopH mean mg mb g)
include B X T
theorem l_nums {cG cM cS c4 fo : Obj} {a sa fd : Addr} {ps : List (Int × Int)} {pvs svs : List Value} {k1 sn : Nat} {tl : List (Addr × Obj)} {G : Int} {tG : Tok} {ks : List Int} (hG : 0 ≤ G ∧ G ≤ 40) (hp8 : ps.length ≤ 8) (hsm : ∀ q ∈ ps, Small q) (hS : PairsR (Nw tl) svs ps)
   (hmod : (fd == sysModules) = false) (hSO : SetO PySem.Challenge.rw_no0356_01.row.prog w fo ks) (hnd : ks.Nodup) (hks : ∀ k, k ∈ ks ↔ hasP ps G k = true)
   (eG : cG.data = .cell (some (.int G tG))) (eS : cS.data = .cell (some (.ref sa))) (hkn : Knows m [("found", .ref fd), ("pairs", .ref a)]) (F : Fr g L s.heap m)
   (N : News g L s.heap ((fd, fo) :: (sa, tupO svs sn) :: (a, W.listOf pvs.toArray k1) :: (L + 1 + 1 + 1 + 1, c4) :: (L + 1 + 1 + 1, cS) :: (L + 1 + 1, cM) :: (L + 1, cG) :: tl))
   (nxt : ∀ (m' : Str → Option Value) h' tk', Knows m' [("found", .ref fd), ("pairs", .ref a)] → Fr g L h' m' →
      News g L h' ((fd, fo) :: (sa, tupO svs sn) :: (a, W.listOf pvs.toArray k1) :: (L + 1 + 1 + 1 + 1, c4) :: (L + 1 + 1 + 1, cS) :: (L + 1 + 1, cM) :: (L + 1, cG) :: tl) → wpAny (model PySem.Challenge.rw_no0356_01.row.prog w) (lawA L fa ccd) (execs rest (lawE L fa ccd)) Q E { s with heap := h', toks := tk' }) :
   wpAny (model PySem.Challenge.rw_no0356_01.row.prog w) (lawA L fa ccd) (execs (lawSt 10 :: rest) (lawE L fa ccd)) Q E s := by
  revert X; k_fill; intro X
  conv in lawSt 10 => whnf
  simp only [lawA, lawE] at *
  conv in (occs := *) lawScope => all_goals whnf
  replace F := fr_known F hkn
  have hsl := hS.length
  have hb := ks_b hsm hG hks
  have hz := ks_len hnd hb
  (repeat' (first | (k_unfold; (try dsimp only)) | (k_end; wrow_close) | ((with_reducible show LCt.CompSrcT _ _ _ _ _ _ _ _ _ _ _ _ _ _ _); refine Stop.intro ?_) | ((with_reducible show wpAny _ _ (call _ _ _) _ _ _); first | ((with_reducible show wpAny _ _ (call (Value.builtin "sorted") [Value.ref _]) _ _ _); k_here; (k_dflt (refine' sorted_S (by exact rfl) (by k_asm) (by k_asm) (by exact News.get (by k_asm) (by k_mem)) (by assumption) (by assumption) (by assumption) ?_; k_whole)); intro _ _ _ _ _ _ _ _ l1 _ _ _; (try k_lt l1); (try k_sweep; revert l1; intro _)) | ((with_reducible show wpAny _ _ (call (Value.ref 129) _) _ _ _); k_here; (k_dflt (refine' c_numbers_in (by k_asm) (by k_asm) (by k_asm) (by k_asm) (by exact rfl) (by exact News.get (by k_asm) (by k_mem)) (by exact pairs_in (by k_asm) (by assumption) (by ((intro q' hq'; first | exact hq' | (simp only [List.mem_cons, List.mem_append] at hq' ⊢; simp only [hq', true_or, or_true]; done))))) (by assumption) (by omega) (by omega) (by ktr_room) (by ktr_units) ?_; k_whole)); refine Stop.intro ?_)) | ((with_reducible show wpAny _ _ (compareOp _ _ _) _ _ _); first | ((with_reducible show wpAny _ _ (compareOp CmpOp.NotEq (Value.ref _) (Value.ref _)) _ _ _); refine Stop.intro ?_)) | ((with_reducible show wpAny _ _ (PySem.eval _ _) _ _ _); first | ((with_reducible show wpAny _ _ (PySem.eval (PySem.Expr.ListComp _ _ _ _) _) _ _ _); refine Stop.intro ?_)) | walk1 | (dsimp only; walk1) | (leave1; try dsimp only) | ((with_reducible show wpAny _ _ _ _ _ _); dsimp only)))
  refine Stop.out ?_
  intro ra ws kk qs h2 tk2 st hn2 hs2 hI2 hperm hsort
  rename Fr _ _ _ _ => F1
  rename News _ _ _ _ => N1
  (try dsimp only at st hn2); (try dsimp only)
  obtain ⟨hM1, hM2⟩ := plain_ok (by omega) hsm hperm hsort
  have hcov : ∀ k, k ∈ ks ↔ Cov (qs.foldl mergeStep []) k := fun k => (hks k).trans (hM2 k).symm
  have F2 := fr_stays F1 st
  have N2 := news_cons F1 (news_stays N1 st) hn2 hs2
  generalize qs.foldl mergeStep [] = M at *
  clear F1 N1
  (repeat' (first | (k_unfold; (try dsimp only)) | (k_end; wrow_close) | ((with_reducible show LCt.CompSrcT _ _ _ _ _ _ _ _ _ _ _ _ _ _ _); refine Stop.intro ?_) | ((with_reducible show wpAny _ _ (call _ _ _) _ _ _); first | ((with_reducible show wpAny _ _ (call (Value.builtin "sorted") [Value.ref _]) _ _ _); k_here; (k_dflt (refine' sorted_S (by exact rfl) (by k_asm) (by k_asm) (by exact News.get (by k_asm) (by k_mem)) (by assumption) (by assumption) (by assumption) ?_; k_whole)); intro _ _ _ _ _ _ _ _ l1 _ _ _; (try k_lt l1); (try k_sweep; revert l1; intro _)) | ((with_reducible show wpAny _ _ (call (Value.ref 129) _) _ _ _); k_here; (k_dflt (refine' c_numbers_in (by k_asm) (by k_asm) (by k_asm) (by k_asm) (by exact rfl) (by exact News.get (by k_asm) (by k_mem)) (by exact pairs_in (by k_asm) (by assumption) (by ((intro q' hq'; first | exact hq' | (simp only [List.mem_cons, List.mem_append] at hq' ⊢; simp only [hq', true_or, or_true]; done))))) (by assumption) (by omega) (by omega) (by ktr_room) (by ktr_units) ?_; k_whole)); refine Stop.intro ?_)) | ((with_reducible show wpAny _ _ (compareOp _ _ _) _ _ _); first | ((with_reducible show wpAny _ _ (compareOp CmpOp.NotEq (Value.ref _) (Value.ref _)) _ _ _); refine Stop.intro ?_)) | ((with_reducible show wpAny _ _ (PySem.eval _ _) _ _ _); first | ((with_reducible show wpAny _ _ (PySem.eval (PySem.Expr.ListComp _ _ _ _) _) _ _ _); refine Stop.intro ?_)) | walk1 | (dsimp only; walk1) | (leave1; try dsimp only) | ((with_reducible show wpAny _ _ _ _ _ _); dsimp only)))
  refine Stop.out ?_
  k_dflt (refine LCt.ListComp_T (F₀ := by k_asm) (by with_unfolding_all rfl) (by decide) (by rfl) (by decide) (by rfl) ?_)
  (repeat' (first | (k_unfold; (try dsimp only)) | (k_end; wrow_close) | ((with_reducible show LCt.CompSrcT _ _ _ _ _ _ _ _ _ _ _ _ _ _ _); refine Stop.intro ?_) | ((with_reducible show wpAny _ _ (call _ _ _) _ _ _); first | ((with_reducible show wpAny _ _ (call (Value.builtin "sorted") [Value.ref _]) _ _ _); k_here; (k_dflt (refine' sorted_S (by exact rfl) (by k_asm) (by k_asm) (by exact News.get (by k_asm) (by k_mem)) (by assumption) (by assumption) (by assumption) ?_; k_whole)); intro _ _ _ _ _ _ _ _ l1 _ _ _; (try k_lt l1); (try k_sweep; revert l1; intro _)) | ((with_reducible show wpAny _ _ (call (Value.ref 129) _) _ _ _); k_here; (k_dflt (refine' c_numbers_in (by k_asm) (by k_asm) (by k_asm) (by k_asm) (by exact rfl) (by exact News.get (by k_asm) (by k_mem)) (by exact pairs_in (by k_asm) (by assumption) (by ((intro q' hq'; first | exact hq' | (simp only [List.mem_cons, List.mem_append] at hq' ⊢; simp only [hq', true_or, or_true]; done))))) (by assumption) (by omega) (by omega) (by ktr_room) (by ktr_units) ?_; k_whole)); refine Stop.intro ?_)) | ((with_reducible show wpAny _ _ (compareOp _ _ _) _ _ _); first | ((with_reducible show wpAny _ _ (compareOp CmpOp.NotEq (Value.ref _) (Value.ref _)) _ _ _); refine Stop.intro ?_)) | ((with_reducible show wpAny _ _ (PySem.eval _ _) _ _ _); first | ((with_reducible show wpAny _ _ (PySem.eval (PySem.Expr.ListComp _ _ _ _) _) _ _ _); refine Stop.intro ?_)) | walk1 | (dsimp only; walk1) | (leave1; try dsimp only) | ((with_reducible show wpAny _ _ _ _ _ _); dsimp only)))
  refine Stop.out ?_
  rename_i D1 vs1 ns1 c1 h3 tk3 F4 N4 hi4 hp4 hs4 l4
  have has1 := asc_of hs4 (hp4.nodup_iff.mpr hnd)
  have heq := nums_ok (g := G) hM1 has1 (fun k => hp4.mem_iff.trans (hcov k))
  have hzz : vs1.length ≤ sizeLine := by rw [hi4.length, hp4.length_eq]; exact Nat.le_trans (Nat.le_of_lt hz) (by decide)
  refine .inl ⟨_, vs1.toArray, _, rfl, rfl, F4, N4, .inr ⟨_, .head _, rfl, _, rfl⟩, by rw [List.size_toArray]; exact hzz, ?_⟩
  rintro _ ⟨g1, rfl⟩
  refine compRestT_ind _ (fun i ys nx => nx = ((D1, W.listOf vs1.toArray c1) :: (ra, W.listOf ws.toArray kk) :: (fd, fo) :: (sa, tupO svs sn) :: (a, W.listOf pvs.toArray k1) :: (L + 1 + 1 + 1 + 1, c4) :: (L + 1 + 1 + 1, cS) :: (L + 1 + 1, cM) :: (L + 1, cG) :: tl) ∧ IntsAre ys ((ns1.take i).filter (fun k => decide (k ≤ G)))) ?_ ?_ _ _ _ _ (Nat.zero_add _) ⟨rfl, .nil⟩
  · rintro ys nx ⟨rfl, hy⟩
    rw [List.size_toArray, hi4.length, List.take_length, ← heq] at hy
    intro D2 h4 tk4 F5 N5 off2
    clear F4 N4
    have N6 : News g L h4 ((fd, fo) :: (sa, tupO svs sn) :: (a, W.listOf pvs.toArray k1) :: (L + 1 + 1 + 1 + 1, c4) :: (L + 1 + 1 + 1, cS) :: (L + 1 + 1, cM) :: (L + 1, cG) :: tl) := fun q hq => N5 q (.tail _ (.tail _ (.tail _ hq)))
    have hA : h4.IsList ra ws.toArray := ⟨_, (N5 _ (.tail _ (.tail _ (.head _)))).1, rfl, _, rfl⟩
    have hB : h4.IsList D2 ys.toArray := ⟨_, (N5 _ (.head _)).1, rfl, _, rfl⟩
    clear N5
    dsimp only
    (repeat' (first | (k_unfold; (try dsimp only)) | (k_end; wrow_close) | ((with_reducible show LCt.CompSrcT _ _ _ _ _ _ _ _ _ _ _ _ _ _ _); refine Stop.intro ?_) | ((with_reducible show wpAny _ _ (call _ _ _) _ _ _); first | ((with_reducible show wpAny _ _ (call (Value.builtin "sorted") [Value.ref _]) _ _ _); k_here; (k_dflt (refine' sorted_S (by exact rfl) (by k_asm) (by k_asm) (by exact News.get (by k_asm) (by k_mem)) (by assumption) (by assumption) (by assumption) ?_; k_whole)); intro _ _ _ _ _ _ _ _ l1 _ _ _; (try k_lt l1); (try k_sweep; revert l1; intro _)) | ((with_reducible show wpAny _ _ (call (Value.ref 129) _) _ _ _); k_here; (k_dflt (refine' c_numbers_in (by k_asm) (by k_asm) (by k_asm) (by k_asm) (by exact rfl) (by exact News.get (by k_asm) (by k_mem)) (by exact pairs_in (by k_asm) (by assumption) (by ((intro q' hq'; first | exact hq' | (simp only [List.mem_cons, List.mem_append] at hq' ⊢; simp only [hq', true_or, or_true]; done))))) (by assumption) (by omega) (by omega) (by ktr_room) (by ktr_units) ?_; k_whole)); refine Stop.intro ?_)) | ((with_reducible show wpAny _ _ (compareOp _ _ _) _ _ _); first | ((with_reducible show wpAny _ _ (compareOp CmpOp.NotEq (Value.ref _) (Value.ref _)) _ _ _); refine Stop.intro ?_)) | ((with_reducible show wpAny _ _ (PySem.eval _ _) _ _ _); first | ((with_reducible show wpAny _ _ (PySem.eval (PySem.Expr.ListComp _ _ _ _) _) _ _ _); refine Stop.intro ?_)) | walk1 | (dsimp only; walk1) | (leave1; try dsimp only) | ((with_reducible show wpAny _ _ _ _ _ _); dsimp only)))
    refine Stop.out (ne_intsEq hA hB hI2 hy rfl (by ke_room) ?_)
    (repeat' (first | (k_unfold; (try dsimp only)) | (k_end; wrow_close) | ((with_reducible show LCt.CompSrcT _ _ _ _ _ _ _ _ _ _ _ _ _ _ _); refine Stop.intro ?_) | ((with_reducible show wpAny _ _ (call _ _ _) _ _ _); first | ((with_reducible show wpAny _ _ (call (Value.builtin "sorted") [Value.ref _]) _ _ _); k_here; (k_dflt (refine' sorted_S (by exact rfl) (by k_asm) (by k_asm) (by exact News.get (by k_asm) (by k_mem)) (by assumption) (by assumption) (by assumption) ?_; k_whole)); intro _ _ _ _ _ _ _ _ l1 _ _ _; (try k_lt l1); (try k_sweep; revert l1; intro _)) | ((with_reducible show wpAny _ _ (call (Value.ref 129) _) _ _ _); k_here; (k_dflt (refine' c_numbers_in (by k_asm) (by k_asm) (by k_asm) (by k_asm) (by exact rfl) (by exact News.get (by k_asm) (by k_mem)) (by exact pairs_in (by k_asm) (by assumption) (by ((intro q' hq'; first | exact hq' | (simp only [List.mem_cons, List.mem_append] at hq' ⊢; simp only [hq', true_or, or_true]; done))))) (by assumption) (by omega) (by omega) (by ktr_room) (by ktr_units) ?_; k_whole)); refine Stop.intro ?_)) | ((with_reducible show wpAny _ _ (compareOp _ _ _) _ _ _); first | ((with_reducible show wpAny _ _ (compareOp CmpOp.NotEq (Value.ref _) (Value.ref _)) _ _ _); refine Stop.intro ?_)) | ((with_reducible show wpAny _ _ (PySem.eval _ _) _ _ _); first | ((with_reducible show wpAny _ _ (PySem.eval (PySem.Expr.ListComp _ _ _ _) _) _ _ _); refine Stop.intro ?_)) | walk1 | (dsimp only; walk1) | (leave1; try dsimp only) | ((with_reducible show wpAny _ _ _ _ _ _); dsimp only)))
    exact nxt _ _ _ (by (repeat' (first | exact Knows.nil | refine Knows.cons (by with_unfolding_all rfl) ?_))) F5 N6
  · rintro j ys nx v I oI C oC D m₂ h4 tk4 E' hj ⟨rfl, hy⟩ hP hoC hx F5 N5 of3 hne
    obtain ⟨kv, tt, hvk, rfl⟩ := ints_get hi4 (by simpa using hP)
    clear F4 N4
    dsimp only
    (repeat' (first | (k_unfold; (try dsimp only)) | (k_end; wrow_close) | ((with_reducible show LCt.CompSrcT _ _ _ _ _ _ _ _ _ _ _ _ _ _ _); refine Stop.intro ?_) | ((with_reducible show wpAny _ _ (call _ _ _) _ _ _); first | ((with_reducible show wpAny _ _ (call (Value.builtin "sorted") [Value.ref _]) _ _ _); k_here; (k_dflt (refine' sorted_S (by exact rfl) (by k_asm) (by k_asm) (by exact News.get (by k_asm) (by k_mem)) (by assumption) (by assumption) (by assumption) ?_; k_whole)); intro _ _ _ _ _ _ _ _ l1 _ _ _; (try k_lt l1); (try k_sweep; revert l1; intro _)) | ((with_reducible show wpAny _ _ (call (Value.ref 129) _) _ _ _); k_here; (k_dflt (refine' c_numbers_in (by k_asm) (by k_asm) (by k_asm) (by k_asm) (by exact rfl) (by exact News.get (by k_asm) (by k_mem)) (by exact pairs_in (by k_asm) (by assumption) (by ((intro q' hq'; first | exact hq' | (simp only [List.mem_cons, List.mem_append] at hq' ⊢; simp only [hq', true_or, or_true]; done))))) (by assumption) (by omega) (by omega) (by ktr_room) (by ktr_units) ?_; k_whole)); refine Stop.intro ?_)) | ((with_reducible show wpAny _ _ (compareOp _ _ _) _ _ _); first | ((with_reducible show wpAny _ _ (compareOp CmpOp.NotEq (Value.ref _) (Value.ref _)) _ _ _); refine Stop.intro ?_)) | ((with_reducible show wpAny _ _ (PySem.eval _ _) _ _ _); first | ((with_reducible show wpAny _ _ (PySem.eval (PySem.Expr.ListComp _ _ _ _) _) _ _ _); refine Stop.intro ?_)) | walk1 | (dsimp only; walk1) | (leave1; try dsimp only) | ((with_reducible show wpAny _ _ _ _ _ _); dsimp only)))
    all_goals
      refine CompEnd.intro F5 N5 ((D1, W.listOf vs1.toArray c1) :: (ra, W.listOf ws.toArray kk) :: (fd, fo) :: (sa, tupO svs sn) :: (a, W.listOf pvs.toArray k1) :: (L + 1 + 1 + 1 + 1, c4) :: (L + 1 + 1 + 1, cS) :: (L + 1 + 1, cM) :: (L + 1, cG) :: tl) (fun _ h => h) of3 (.inr ⟨_, .head _, rfl, _, rfl⟩) ⟨rfl, ?_⟩
      rw [List.take_add_one, hvk, Option.toList_some, List.filter_append]
      first
        | (rw [List.filter_cons_of_pos (by simpa using (by assumption : kv ≤ G)), List.filter_nil]
           exact IntsAre.append hy (.cons _ _ .nil))
        | (rw [List.filter_cons_of_neg (by simpa using (by assumption : ¬ kv ≤ G)), List.filter_nil, List.append_nil]
           exact hy)
end
theorem off_law7 : True := by
  w_top off
  trivial
section
variable {w : World} {mean : ExcName → Option Value} {mg mb : Str → Option Value} {fa L : Addr} {ccd : Value} {g : Heap} {s : Shared} {Q : Flow → Shared → Prop} {E : Value → Shared → Prop} {rest : List Stmt} {m : Str → Option Value}
   (B : Below callerA g [] g) (X : (hd.heap_39 w.params).In g) (T : TopH mean mg mb g)
include B X T
theorem l_has {cG cM cS c4 fo : Obj} {a sa fd : Addr} {ps : List (Int × Int)} {pvs svs : List Value} {k1 sn : Nat} {tl : List (Addr × Obj)} {G : Int} {tG : Tok} {ks : List Int} (hG : 0 ≤ G ∧ G ≤ 40) (hp8 : ps.length ≤ 8) (hsm : ∀ q ∈ ps, Small q) (hS : PairsR (Nw tl) svs ps)
   (hmod : (fd == sysModules) = false) (hSO : SetO PySem.Challenge.rw_no0356_01.row.prog w fo ks) (hnd : ks.Nodup) (hks : ∀ k, k ∈ ks ↔ hasP ps G k = true)
   (eG : cG.data = .cell (some (.int G tG))) (eS : cS.data = .cell (some (.ref sa))) (hkn : Knows m [("found", .ref fd), ("pairs", .ref a)]) (F : Fr g L s.heap m)
   (N : News g L s.heap ((fd, fo) :: (sa, tupO svs sn) :: (a, W.listOf pvs.toArray k1) :: (L + 1 + 1 + 1 + 1, c4) :: (L + 1 + 1 + 1, cS) :: (L + 1 + 1, cM) :: (L + 1, cG) :: tl))
   (nxt : ∀ (m' : Str → Option Value) h' tk', Knows m' [("found", .ref fd), ("pairs", .ref a)] → Fr g L h' m' →
      News g L h' ((fd, fo) :: (sa, tupO svs sn) :: (a, W.listOf pvs.toArray k1) :: (L + 1 + 1 + 1 + 1, c4) :: (L + 1 + 1 + 1, cS) :: (L + 1 + 1, cM) :: (L + 1, cG) :: tl) → wpAny (model PySem.Challenge.rw_no0356_01.row.prog w) (lawA L fa ccd) (execs rest (lawE L fa ccd)) Q E { s with heap := h', toks := tk' }) :
   wpAny (model PySem.Challenge.rw_no0356_01.row.prog w) (lawA L fa ccd) (execs (lawSt 11 :: rest) (lawE L fa ccd)) Q E s := by
  revert X; k_fill; intro X
  conv in lawSt 11 => whnf
  simp only [lawA, lawE] at *
  conv in (occs := *) lawScope => all_goals whnf
  replace F := fr_known F hkn
  have hsl := hS.length
  have hb := ks_b hsm hG hks
  have hz := ks_len hnd hb
  (repeat' (first | (k_unfold; (try dsimp only)) | (k_end; wrow_close) | ((with_reducible show wpAny _ _ (call _ _ _) _ _ _); first | ((with_reducible show wpAny _ _ (call (Value.ref 115) _) _ _ _); k_here; (k_dflt (refine' c_has (by k_asm) (by k_asm) (by k_asm) (by k_asm) (by exact rfl) (by exact News.get (by k_asm) (by k_mem)) (by exact pairs_in (by k_asm) (by assumption) (by first | ((intro q' hq'; first | exact hq' | (simp only [List.mem_cons, List.mem_append] at hq' ⊢; simp only [hq', true_or, or_true]; done))) | (first | ((intro q' hq'; simp only [List.mem_cons, List.mem_append] at hq' ⊢; first | (rcases hq' with hq' | hq' <;> (simp only [hq', true_or, or_true]; done)) | (rcases hq' with hq' | hq' | hq' <;> (simp only [hq', true_or, or_true]; done)) | (rcases hq' with hq' | hq' | hq' | hq' <;> (simp only [hq', true_or, or_true]; done)) | (rcases hq' with hq' | hq' | hq' | hq' | hq' <;> (simp only [hq', true_or, or_true]; done)) | (simp only [hq', true_or, or_true]; done))) | ((intro q' hq'; first | exact hq' | exact .tail _ hq' | exact .tail _ (.tail _ hq') | exact .tail _ (.tail _ (.tail _ hq')) | (simp only [List.mem_cons, List.mem_append] at hq' ⊢; simp only [hq', true_or, or_true]; done)))))) (by ktr_room) (by ktr_units) ?_; k_whole)); intro _ _ _; walk_at "my_after") | ((with_reducible show wpAny _ _ (call (Value.builtin "sorted") [Value.ref _]) _ _ _); k_here; (k_dflt (refine' sorted_S (by exact rfl) (by k_asm) (by k_asm) (by exact News.get (by k_asm) (by k_mem)) (by assumption) (by assumption) (by assumption) ?_; k_whole)); intro _ _ _ _ _ _ _ _ l1 _ _ _; (try k_lt l1); (try k_sweep; revert l1; intro _))) | ((with_reducible show LCt.CompSrcT _ _ _ _ _ _ _ _ _ _ _ _ _ _ _); refine Stop.intro ?_) | ((with_reducible show wpAny _ _ (compareOp _ _ _) _ _ _); first | ((with_reducible show wpAny _ _ (compareOp CmpOp.NotEq (Value.ref _) (Value.ref _)) _ _ _); refine Stop.intro ?_)) | ((with_reducible show wpAny _ _ (PySem.eval _ _) _ _ _); first | ((with_reducible show wpAny _ _ (PySem.eval (PySem.Expr.ListComp _ _ _ _) _) _ _ _); refine Stop.intro ?_)) | walk1 | (dsimp only; walk1) | (leave1; try dsimp only) | ((with_reducible show wpAny _ _ _ _ _ _); dsimp only)))
  refine Stop.out ?_
  k_dflt (refine LCt.ListComp_T (F₀ := by k_asm) (by with_unfolding_all rfl) (by decide) (by rfl) (by decide) (by rfl) ?_)
  (repeat' (first | (k_unfold; (try dsimp only)) | (k_end; wrow_close) | ((with_reducible show wpAny _ _ (call _ _ _) _ _ _); first | ((with_reducible show wpAny _ _ (call (Value.ref 115) _) _ _ _); k_here; (k_dflt (refine' c_has (by k_asm) (by k_asm) (by k_asm) (by k_asm) (by exact rfl) (by exact News.get (by k_asm) (by k_mem)) (by exact pairs_in (by k_asm) (by assumption) (by first | ((intro q' hq'; first | exact hq' | (simp only [List.mem_cons, List.mem_append] at hq' ⊢; simp only [hq', true_or, or_true]; done))) | (first | ((intro q' hq'; simp only [List.mem_cons, List.mem_append] at hq' ⊢; first | (rcases hq' with hq' | hq' <;> (simp only [hq', true_or, or_true]; done)) | (rcases hq' with hq' | hq' | hq' <;> (simp only [hq', true_or, or_true]; done)) | (rcases hq' with hq' | hq' | hq' | hq' <;> (simp only [hq', true_or, or_true]; done)) | (rcases hq' with hq' | hq' | hq' | hq' | hq' <;> (simp only [hq', true_or, or_true]; done)) | (simp only [hq', true_or, or_true]; done))) | ((intro q' hq'; first | exact hq' | exact .tail _ hq' | exact .tail _ (.tail _ hq') | exact .tail _ (.tail _ (.tail _ hq')) | (simp only [List.mem_cons, List.mem_append] at hq' ⊢; simp only [hq', true_or, or_true]; done)))))) (by ktr_room) (by ktr_units) ?_; k_whole)); intro _ _ _; walk_at "my_after") | ((with_reducible show wpAny _ _ (call (Value.builtin "sorted") [Value.ref _]) _ _ _); k_here; (k_dflt (refine' sorted_S (by exact rfl) (by k_asm) (by k_asm) (by exact News.get (by k_asm) (by k_mem)) (by assumption) (by assumption) (by assumption) ?_; k_whole)); intro _ _ _ _ _ _ _ _ l1 _ _ _; (try k_lt l1); (try k_sweep; revert l1; intro _))) | ((with_reducible show LCt.CompSrcT _ _ _ _ _ _ _ _ _ _ _ _ _ _ _); refine Stop.intro ?_) | ((with_reducible show wpAny _ _ (compareOp _ _ _) _ _ _); first | ((with_reducible show wpAny _ _ (compareOp CmpOp.NotEq (Value.ref _) (Value.ref _)) _ _ _); refine Stop.intro ?_)) | ((with_reducible show wpAny _ _ (PySem.eval _ _) _ _ _); first | ((with_reducible show wpAny _ _ (PySem.eval (PySem.Expr.ListComp _ _ _ _) _) _ _ _); refine Stop.intro ?_)) | walk1 | (dsimp only; walk1) | (leave1; try dsimp only) | ((with_reducible show wpAny _ _ _ _ _ _); dsimp only)))
  rename Fr _ _ _ _ => F1
  rename News _ _ _ _ => N1
  rename IsRange _ _ _ _ _ _ _ _ => hr
  refine Stop.out (.inr ⟨_, _, _, _, _, _, 51, _, rfl, rfl, F1, N1, hr, small_up (by omega) (by omega) (by omega) (by omega), by rw [rangeSize_up]; decide, by decide, ?_⟩)
  rintro _ ⟨g1, rfl⟩
  refine compRestT_ind _ (fun i ys nx => nx = ((fd, fo) :: (sa, tupO svs sn) :: (a, W.listOf pvs.toArray k1) :: (L + 1 + 1 + 1 + 1, c4) :: (L + 1 + 1 + 1, cS) :: (L + 1 + 1, cM) :: (L + 1, cG) :: tl) ∧ IntsAre ys (((List.range i).map fun (j : Nat) => (0 : Int) + (j : Int)).filter (hasP ps G))) ?_ ?_ _ _ _ _ (Nat.zero_add _) ⟨rfl, .nil⟩
  · rintro ys nx ⟨rfl, hy⟩
    intro D2 h4 tk4 F5 N5 off2
    clear F1 N1
    dsimp only
    (repeat' (first | (k_unfold; (try dsimp only)) | (k_end; wrow_close) | ((with_reducible show wpAny _ _ (call _ _ _) _ _ _); first | ((with_reducible show wpAny _ _ (call (Value.ref 115) _) _ _ _); k_here; (k_dflt (refine' c_has (by k_asm) (by k_asm) (by k_asm) (by k_asm) (by exact rfl) (by exact News.get (by k_asm) (by k_mem)) (by exact pairs_in (by k_asm) (by assumption) (by first | ((intro q' hq'; first | exact hq' | (simp only [List.mem_cons, List.mem_append] at hq' ⊢; simp only [hq', true_or, or_true]; done))) | (first | ((intro q' hq'; simp only [List.mem_cons, List.mem_append] at hq' ⊢; first | (rcases hq' with hq' | hq' <;> (simp only [hq', true_or, or_true]; done)) | (rcases hq' with hq' | hq' | hq' <;> (simp only [hq', true_or, or_true]; done)) | (rcases hq' with hq' | hq' | hq' | hq' <;> (simp only [hq', true_or, or_true]; done)) | (rcases hq' with hq' | hq' | hq' | hq' | hq' <;> (simp only [hq', true_or, or_true]; done)) | (simp only [hq', true_or, or_true]; done))) | ((intro q' hq'; first | exact hq' | exact .tail _ hq' | exact .tail _ (.tail _ hq') | exact .tail _ (.tail _ (.tail _ hq')) | (simp only [List.mem_cons, List.mem_append] at hq' ⊢; simp only [hq', true_or, or_true]; done)))))) (by ktr_room) (by ktr_units) ?_; k_whole)); intro _ _ _; walk_at "my_after") | ((with_reducible show wpAny _ _ (call (Value.builtin "sorted") [Value.ref _]) _ _ _); k_here; (k_dflt (refine' sorted_S (by exact rfl) (by k_asm) (by k_asm) (by exact News.get (by k_asm) (by k_mem)) (by assumption) (by assumption) (by assumption) ?_; k_whole)); intro _ _ _ _ _ _ _ _ l1 _ _ _; (try k_lt l1); (try k_sweep; revert l1; intro _))) | ((with_reducible show LCt.CompSrcT _ _ _ _ _ _ _ _ _ _ _ _ _ _ _); refine Stop.intro ?_) | ((with_reducible show wpAny _ _ (compareOp _ _ _) _ _ _); first | ((with_reducible show wpAny _ _ (compareOp CmpOp.NotEq (Value.ref _) (Value.ref _)) _ _ _); refine Stop.intro ?_)) | ((with_reducible show wpAny _ _ (PySem.eval _ _) _ _ _); first | ((with_reducible show wpAny _ _ (PySem.eval (PySem.Expr.ListComp _ _ _ _) _) _ _ _); refine Stop.intro ?_)) | walk1 | (dsimp only; walk1) | (leave1; try dsimp only) | ((with_reducible show wpAny _ _ _ _ _ _); dsimp only)))
    rename_i D1 vs1 ns1 c1 h5 tk5 F6 N6 hi4 hp4 hs4 l4
    have has1 := asc_of hs4 (hp4.nodup_iff.mpr hnd)
    have heq : ((List.range 51).map fun (j : Nat) => (0 : Int) + (j : Int)).filter (hasP ps G) = ns1 := range_ok has1 (fun k => hp4.mem_iff.trans (hks k)) fun k hk => by have := hb k (hp4.mem_iff.mp hk); omega
    rw [heq] at hy
    have N7 : News g L h5 ((fd, fo) :: (sa, tupO svs sn) :: (a, W.listOf pvs.toArray k1) :: (L + 1 + 1 + 1 + 1, c4) :: (L + 1 + 1 + 1, cS) :: (L + 1 + 1, cM) :: (L + 1, cG) :: tl) := fun q hq => N6 q (.tail _ (.tail _ hq))
    have hA : h5.IsList D2 ys.toArray := ⟨_, (N6 _ (.tail _ (.head _))).1, rfl, _, rfl⟩
    have hB : h5.IsList D1 vs1.toArray := ⟨_, (N6 _ (.head _)).1, rfl, _, rfl⟩
    clear N6
    refine Stop.out (ne_intsEq hA hB hy hi4 rfl (by ke_room) ?_)
    (repeat' (first | (k_unfold; (try dsimp only)) | (k_end; wrow_close) | ((with_reducible show wpAny _ _ (call _ _ _) _ _ _); first | ((with_reducible show wpAny _ _ (call (Value.ref 115) _) _ _ _); k_here; (k_dflt (refine' c_has (by k_asm) (by k_asm) (by k_asm) (by k_asm) (by exact rfl) (by exact News.get (by k_asm) (by k_mem)) (by exact pairs_in (by k_asm) (by assumption) (by first | ((intro q' hq'; first | exact hq' | (simp only [List.mem_cons, List.mem_append] at hq' ⊢; simp only [hq', true_or, or_true]; done))) | (first | ((intro q' hq'; simp only [List.mem_cons, List.mem_append] at hq' ⊢; first | (rcases hq' with hq' | hq' <;> (simp only [hq', true_or, or_true]; done)) | (rcases hq' with hq' | hq' | hq' <;> (simp only [hq', true_or, or_true]; done)) | (rcases hq' with hq' | hq' | hq' | hq' <;> (simp only [hq', true_or, or_true]; done)) | (rcases hq' with hq' | hq' | hq' | hq' | hq' <;> (simp only [hq', true_or, or_true]; done)) | (simp only [hq', true_or, or_true]; done))) | ((intro q' hq'; first | exact hq' | exact .tail _ hq' | exact .tail _ (.tail _ hq') | exact .tail _ (.tail _ (.tail _ hq')) | (simp only [List.mem_cons, List.mem_append] at hq' ⊢; simp only [hq', true_or, or_true]; done)))))) (by ktr_room) (by ktr_units) ?_; k_whole)); intro _ _ _; walk_at "my_after") | ((with_reducible show wpAny _ _ (call (Value.builtin "sorted") [Value.ref _]) _ _ _); k_here; (k_dflt (refine' sorted_S (by exact rfl) (by k_asm) (by k_asm) (by exact News.get (by k_asm) (by k_mem)) (by assumption) (by assumption) (by assumption) ?_; k_whole)); intro _ _ _ _ _ _ _ _ l1 _ _ _; (try k_lt l1); (try k_sweep; revert l1; intro _))) | ((with_reducible show LCt.CompSrcT _ _ _ _ _ _ _ _ _ _ _ _ _ _ _); refine Stop.intro ?_) | ((with_reducible show wpAny _ _ (compareOp _ _ _) _ _ _); first | ((with_reducible show wpAny _ _ (compareOp CmpOp.NotEq (Value.ref _) (Value.ref _)) _ _ _); refine Stop.intro ?_)) | ((with_reducible show wpAny _ _ (PySem.eval _ _) _ _ _); first | ((with_reducible show wpAny _ _ (PySem.eval (PySem.Expr.ListComp _ _ _ _) _) _ _ _); refine Stop.intro ?_)) | walk1 | (dsimp only; walk1) | (leave1; try dsimp only) | ((with_reducible show wpAny _ _ _ _ _ _); dsimp only)))
    exact nxt _ _ _ (by (repeat' (first | exact Knows.nil | refine Knows.cons (by with_unfolding_all rfl) ?_))) F6 N7
  · rintro j ys nx v I oI C oC D m₂ h4 tk4 E' hj ⟨rfl, hy⟩ ⟨tj, rfl⟩ hoC hx F5 N5 of3 hne
    clear F1 N1
    dsimp only
    (repeat' (first | (k_unfold; (try dsimp only)) | (k_end; wrow_close) | ((with_reducible show wpAny _ _ (call _ _ _) _ _ _); first | ((with_reducible show wpAny _ _ (call (Value.ref 115) _) _ _ _); k_here; (k_dflt (refine' c_has (by k_asm) (by k_asm) (by k_asm) (by k_asm) (by exact rfl) (by exact News.get (by k_asm) (by k_mem)) (by exact pairs_in (by k_asm) (by assumption) (by first | ((intro q' hq'; first | exact hq' | (simp only [List.mem_cons, List.mem_append] at hq' ⊢; simp only [hq', true_or, or_true]; done))) | (first | ((intro q' hq'; simp only [List.mem_cons, List.mem_append] at hq' ⊢; first | (rcases hq' with hq' | hq' <;> (simp only [hq', true_or, or_true]; done)) | (rcases hq' with hq' | hq' | hq' <;> (simp only [hq', true_or, or_true]; done)) | (rcases hq' with hq' | hq' | hq' | hq' <;> (simp only [hq', true_or, or_true]; done)) | (rcases hq' with hq' | hq' | hq' | hq' | hq' <;> (simp only [hq', true_or, or_true]; done)) | (simp only [hq', true_or, or_true]; done))) | ((intro q' hq'; first | exact hq' | exact .tail _ hq' | exact .tail _ (.tail _ hq') | exact .tail _ (.tail _ (.tail _ hq')) | (simp only [List.mem_cons, List.mem_append] at hq' ⊢; simp only [hq', true_or, or_true]; done)))))) (by ktr_room) (by ktr_units) ?_; k_whole)); intro _ _ _; walk_at "my_after") | ((with_reducible show wpAny _ _ (call (Value.builtin "sorted") [Value.ref _]) _ _ _); k_here; (k_dflt (refine' sorted_S (by exact rfl) (by k_asm) (by k_asm) (by exact News.get (by k_asm) (by k_mem)) (by assumption) (by assumption) (by assumption) ?_; k_whole)); intro _ _ _ _ _ _ _ _ l1 _ _ _; (try k_lt l1); (try k_sweep; revert l1; intro _))) | ((with_reducible show LCt.CompSrcT _ _ _ _ _ _ _ _ _ _ _ _ _ _ _); refine Stop.intro ?_) | ((with_reducible show wpAny _ _ (compareOp _ _ _) _ _ _); first | ((with_reducible show wpAny _ _ (compareOp CmpOp.NotEq (Value.ref _) (Value.ref _)) _ _ _); refine Stop.intro ?_)) | ((with_reducible show wpAny _ _ (PySem.eval _ _) _ _ _); first | ((with_reducible show wpAny _ _ (PySem.eval (PySem.Expr.ListComp _ _ _ _) _) _ _ _); refine Stop.intro ?_)) | walk1 | (dsimp only; walk1) | (leave1; try dsimp only) | ((with_reducible show wpAny _ _ _ _ _ _); dsimp only)))
    all_goals
      rename Fr _ _ _ _ => F9
      rename News _ _ _ _ => N9
      refine CompEnd.intro F9 N9 ((fd, fo) :: (sa, tupO svs sn) :: (a, W.listOf pvs.toArray k1) :: (L + 1 + 1 + 1 + 1, c4) :: (L + 1 + 1 + 1, cS) :: (L + 1 + 1, cM) :: (L + 1, cG) :: tl) (fun _ h => h) of3 trivial ⟨rfl, ?_⟩
      rw [List.range_succ, List.map_append, List.filter_append, List.map_cons, List.map_nil]
      first
        | (rw [List.filter_cons_of_pos (by assumption), List.filter_nil]
           exact IntsAre.append hy (.cons _ _ .nil))
        | (rw [List.filter_cons_of_neg (by rw [(by assumption : hasP ps G (0 + (j : Int)) = false)]; exact Bool.false_ne_true), List.filter_nil, List.append_nil]
           exact hy)
end
theorem off_law8 : True := by
  w_top off
  trivial
section
variable {w : World} {mean : ExcName → Option Value} {mg mb : Str → Option Value} {fa L : Addr} {ccd : Value} {g : Heap} {s : Shared} {Q : Flow → Shared → Prop} {E : Value → Shared → Prop} {rest : List Stmt} {m : Str → Option Value}
   (B : Below callerA g [] g) (X : (hd.heap_39 w.params).In g) (T : TopH mean mg mb g)
include B X T
theorem l_beyond {cG cM cS c4 fo : Obj} {a sa fd : Addr} {ps : List (Int × Int)} {pvs svs : List Value} {k1 sn : Nat} {tl : List (Addr × Obj)} {G : Int} {tG : Tok} (hp8 : ps.length ≤ 8) (hR : PairsR (Nw tl) pvs ps) (hS : PairsR (Nw tl) svs ps)
   (eG : cG.data = .cell (some (.int G tG))) (eS : cS.data = .cell (some (.ref sa))) (hkn : Knows m [("found", .ref fd), ("pairs", .ref a)]) (F : Fr g L s.heap m)
   (N : News g L s.heap ((fd, fo) :: (sa, tupO svs sn) :: (a, W.listOf pvs.toArray k1) :: (L + 1 + 1 + 1 + 1, c4) :: (L + 1 + 1 + 1, cS) :: (L + 1 + 1, cM) :: (L + 1, cG) :: tl))
   (nxt : ∀ (m' : Str → Option Value) h' tk', Knows m' [("found", .ref fd), ("pairs", .ref a)] → Fr g L h' m' → News g L h' ((fd, fo) :: (sa, tupO svs sn) :: (a, W.listOf pvs.toArray k1) :: (L + 1 + 1 + 1 + 1, c4) :: (L + 1 + 1 + 1, cS) :: (L + 1 + 1, cM) :: (L + 1, cG) :: tl) → wpAny (model PySem.Challenge.rw_no0356_01.row.prog w) (lawA L fa ccd) (execs rest (lawE L fa ccd)) Q E { s with heap := h', toks := tk' }) :
   wpAny (model PySem.Challenge.rw_no0356_01.row.prog w) (lawA L fa ccd) (execs (lawSt 12 :: rest) (lawE L fa ccd)) Q E s := by
  revert X; k_fill; intro X
  conv in lawSt 12 => whnf
  simp only [lawA, lawE] at *
  conv in (occs := *) lawScope => all_goals whnf
  replace F := fr_known F hkn
  have hsl := hS.length
  have hpl := hR.length
  (repeat' (first | (k_unfold; (try dsimp only)) | (k_end; wrow_close) | ((with_reducible show wpAny _ _ (call _ _ _) _ _ _); first | ((with_reducible show wpAny _ _ (call (Value.ref 167) _) _ _ _); k_here; (k_dflt (refine' c_law_beyond (by k_asm) (by k_asm) (by k_asm) (by k_asm) (by exact rfl) (by exact News.get (by k_asm) (by k_mem)) (by exact pairs_in (by k_asm) (by assumption) (by ((intro q' hq'; first | exact hq' | (simp only [List.mem_cons, List.mem_append] at hq' ⊢; simp only [hq', true_or, or_true]; done))))) (by omega) (by ktr_room) (by ktr_units) ?_; k_whole)); intro _ _ _ _; walk_at "my_after") | ((with_reducible show wpAny _ _ (call (Value.ref 136) _) _ _ _); k_here; (k_dflt (refine' c_first_beyond (by k_asm) (by k_asm) (by k_asm) (by k_asm) (by exact rfl) (by exact News.get (by k_asm) (by k_mem)) (by exact pairs_in (by k_asm) (by assumption) (by ((intro q' hq'; first | exact hq' | (simp only [List.mem_cons, List.mem_append] at hq' ⊢; simp only [hq', true_or, or_true]; done))))) (by omega) (by ktr_room) (by ktr_units) ?_; k_whole)); intro _ _ _ _; walk_at "my_after")) | ((with_reducible show LCt.CompSrcT _ _ _ _ _ _ _ _ _ _ _ _ _ _ _); refine Stop.intro ?_) | ((with_reducible show wpAny _ _ (PySem.exec _ _) _ _ _); first | ((with_reducible show wpAny _ _ (PySem.exec (PySem.Stmt.Assign [PySem.Expr.Name _ _] (PySem.Expr.ListComp _ _ _ _) _) _) _ _ _); refine Stop.intro ?_)) | walk1 | (dsimp only; walk1) | (leave1; try dsimp only) | ((with_reducible show wpAny _ _ _ _ _ _); dsimp only)))
  · exact absurd rfl (by assumption)
  · rename Fr _ _ _ _ => F9
    rename News _ _ _ _ => N9
    exact nxt _ _ _ (by (repeat' (first | exact Knows.nil | refine Knows.cons (by with_unfolding_all rfl) ?_))) F9 N9
theorem l_numbers {cG cM cS c4 fo : Obj} {a sa fd : Addr} {pvs svs : List Value} {k1 sn : Nat} {tl : List (Addr × Obj)} {Mk : Int} {tM : Tok}
   (eM : cM.data = .cell (some (.int Mk tM))) (hkn : Knows m [("found", .ref fd), ("pairs", .ref a)]) (F : Fr g L s.heap m)
   (N : News g L s.heap ((fd, fo) :: (sa, tupO svs sn) :: (a, W.listOf pvs.toArray k1) :: (L + 1 + 1 + 1 + 1, c4) :: (L + 1 + 1 + 1, cS) :: (L + 1 + 1, cM) :: (L + 1, cG) :: tl))
   (nxt : ∀ (na : Addr) (nvs : List Value) (nn : Nat) (ns : List Int) (m' : Str → Option Value) h' tk', IntsAre nvs ns → ns.Pairwise (· < ·) → (∀ k ∈ ns, 1 ≤ k ∧ k ≤ 30) → ns.length ≤ 30 → ¬ @Eq Nat na (L + 1 + 1 + 1 + 1) → Knows m' [("numbers", .ref na), ("pairs", .ref a)] → Fr g L h' m' → News g L h' ((na, W.listOf nvs.toArray nn) :: ((fd, fo) :: (sa, tupO svs sn) :: (a, W.listOf pvs.toArray k1) :: (L + 1 + 1 + 1 + 1, c4) :: (L + 1 + 1 + 1, cS) :: (L + 1 + 1, cM) :: (L + 1, cG) :: tl)) → wpAny (model PySem.Challenge.rw_no0356_01.row.prog w) (lawA L fa ccd) (execs rest (lawE L fa ccd)) Q E { s with heap := h', toks := tk' }) :
   wpAny (model PySem.Challenge.rw_no0356_01.row.prog w) (lawA L fa ccd) (execs (lawSt 13 :: rest) (lawE L fa ccd)) Q E s := by
  revert X; k_fill; intro X
  conv in lawSt 13 => whnf
  simp only [lawA, lawE] at *
  conv in (occs := *) lawScope => all_goals whnf
  replace F := fr_known F hkn
  (repeat' (first | (k_unfold; (try dsimp only)) | (k_end; wrow_close) | ((with_reducible show wpAny _ _ (call _ _ _) _ _ _); first | ((with_reducible show wpAny _ _ (call (Value.ref 167) _) _ _ _); k_here; (k_dflt (refine' c_law_beyond (by k_asm) (by k_asm) (by k_asm) (by k_asm) (by exact rfl) (by exact News.get (by k_asm) (by k_mem)) (by exact pairs_in (by k_asm) (by assumption) (by ((intro q' hq'; first | exact hq' | (simp only [List.mem_cons, List.mem_append] at hq' ⊢; simp only [hq', true_or, or_true]; done))))) (by omega) (by ktr_room) (by ktr_units) ?_; k_whole)); intro _ _ _ _; walk_at "my_after") | ((with_reducible show wpAny _ _ (call (Value.ref 136) _) _ _ _); k_here; (k_dflt (refine' c_first_beyond (by k_asm) (by k_asm) (by k_asm) (by k_asm) (by exact rfl) (by exact News.get (by k_asm) (by k_mem)) (by exact pairs_in (by k_asm) (by assumption) (by ((intro q' hq'; first | exact hq' | (simp only [List.mem_cons, List.mem_append] at hq' ⊢; simp only [hq', true_or, or_true]; done))))) (by omega) (by ktr_room) (by ktr_units) ?_; k_whole)); intro _ _ _ _; walk_at "my_after")) | ((with_reducible show LCt.CompSrcT _ _ _ _ _ _ _ _ _ _ _ _ _ _ _); refine Stop.intro ?_) | ((with_reducible show wpAny _ _ (PySem.exec _ _) _ _ _); first | ((with_reducible show wpAny _ _ (PySem.exec (PySem.Stmt.Assign [PySem.Expr.Name _ _] (PySem.Expr.ListComp _ _ _ _) _) _) _ _ _); refine Stop.intro ?_)) | walk1 | (dsimp only; walk1) | (leave1; try dsimp only) | ((with_reducible show wpAny _ _ _ _ _ _); dsimp only)))
  refine Stop.out ?_
  k_dflt (refine LCt.Assign_ListComp_T (F₀ := by k_asm) (by rfl) (by with_unfolding_all rfl) (by with_unfolding_all rfl) (by decide) (by rfl) (by decide) (by rfl) (by rfl) (by rfl) ?_)
  (repeat' (first | (k_unfold; (try dsimp only)) | (k_end; wrow_close) | ((with_reducible show wpAny _ _ (call _ _ _) _ _ _); first | ((with_reducible show wpAny _ _ (call (Value.ref 167) _) _ _ _); k_here; (k_dflt (refine' c_law_beyond (by k_asm) (by k_asm) (by k_asm) (by k_asm) (by exact rfl) (by exact News.get (by k_asm) (by k_mem)) (by exact pairs_in (by k_asm) (by assumption) (by ((intro q' hq'; first | exact hq' | (simp only [List.mem_cons, List.mem_append] at hq' ⊢; simp only [hq', true_or, or_true]; done))))) (by omega) (by ktr_room) (by ktr_units) ?_; k_whole)); intro _ _ _ _; walk_at "my_after") | ((with_reducible show wpAny _ _ (call (Value.ref 136) _) _ _ _); k_here; (k_dflt (refine' c_first_beyond (by k_asm) (by k_asm) (by k_asm) (by k_asm) (by exact rfl) (by exact News.get (by k_asm) (by k_mem)) (by exact pairs_in (by k_asm) (by assumption) (by ((intro q' hq'; first | exact hq' | (simp only [List.mem_cons, List.mem_append] at hq' ⊢; simp only [hq', true_or, or_true]; done))))) (by omega) (by ktr_room) (by ktr_units) ?_; k_whole)); intro _ _ _ _; walk_at "my_after")) | ((with_reducible show LCt.CompSrcT _ _ _ _ _ _ _ _ _ _ _ _ _ _ _); refine Stop.intro ?_) | ((with_reducible show wpAny _ _ (PySem.exec _ _) _ _ _); first | ((with_reducible show wpAny _ _ (PySem.exec (PySem.Stmt.Assign [PySem.Expr.Name _ _] (PySem.Expr.ListComp _ _ _ _) _) _) _ _ _); refine Stop.intro ?_)) | walk1 | (dsimp only; walk1) | (leave1; try dsimp only) | ((with_reducible show wpAny _ _ _ _ _ _); dsimp only)))
  rename Fr _ _ _ _ => F1
  rename News _ _ _ _ => N1
  rename IsRange _ _ _ _ _ _ _ _ => hr
  refine Stop.out (.inr ⟨_, _, _, _, _, _, 30, _, rfl, rfl, F1, N1, hr, small_up (by omega) (by omega) (by omega) (by omega), by rw [rangeSize_up]; decide, by decide, ?_⟩)
  rintro _ ⟨g1, rfl⟩
  refine compRestT_ind _ (fun i ys nx => nx = ((fd, fo) :: (sa, tupO svs sn) :: (a, W.listOf pvs.toArray k1) :: (L + 1 + 1 + 1 + 1, c4) :: (L + 1 + 1 + 1, cS) :: (L + 1 + 1, cM) :: (L + 1, cG) :: tl) ∧ ∃ ns, IntsAre ys ns ∧ ns.Pairwise (· < ·) ∧ (∀ k ∈ ns, 1 ≤ k ∧ k ≤ (i : Int)) ∧ ns.length ≤ i) ?_ ?_ _ _ _ _ (Nat.zero_add _) ⟨rfl, [], .nil, .nil, (fun _ h => nomatch h), Nat.le_refl _⟩
  · rintro ys nx ⟨rfl, ns, hy, hasc, hb, hnl⟩
    intro D2 h4 tk4 F5 N5 off2
    have n4 : ¬ @Eq Nat D2 (L + 1 + 1 + 1 + 1) := fun e => off2.2.2.2.1 e.symm
    clear F1 N1
    dsimp only
    (repeat' (first | (k_unfold; (try dsimp only)) | (k_end; wrow_close) | ((with_reducible show wpAny _ _ (call _ _ _) _ _ _); first | ((with_reducible show wpAny _ _ (call (Value.ref 167) _) _ _ _); k_here; (k_dflt (refine' c_law_beyond (by k_asm) (by k_asm) (by k_asm) (by k_asm) (by exact rfl) (by exact News.get (by k_asm) (by k_mem)) (by exact pairs_in (by k_asm) (by assumption) (by ((intro q' hq'; first | exact hq' | (simp only [List.mem_cons, List.mem_append] at hq' ⊢; simp only [hq', true_or, or_true]; done))))) (by omega) (by ktr_room) (by ktr_units) ?_; k_whole)); intro _ _ _ _; walk_at "my_after") | ((with_reducible show wpAny _ _ (call (Value.ref 136) _) _ _ _); k_here; (k_dflt (refine' c_first_beyond (by k_asm) (by k_asm) (by k_asm) (by k_asm) (by exact rfl) (by exact News.get (by k_asm) (by k_mem)) (by exact pairs_in (by k_asm) (by assumption) (by ((intro q' hq'; first | exact hq' | (simp only [List.mem_cons, List.mem_append] at hq' ⊢; simp only [hq', true_or, or_true]; done))))) (by omega) (by ktr_room) (by ktr_units) ?_; k_whole)); intro _ _ _ _; walk_at "my_after")) | ((with_reducible show LCt.CompSrcT _ _ _ _ _ _ _ _ _ _ _ _ _ _ _); refine Stop.intro ?_) | ((with_reducible show wpAny _ _ (PySem.exec _ _) _ _ _); first | ((with_reducible show wpAny _ _ (PySem.exec (PySem.Stmt.Assign [PySem.Expr.Name _ _] (PySem.Expr.ListComp _ _ _ _) _) _) _ _ _); refine Stop.intro ?_)) | walk1 | (dsimp only; walk1) | (leave1; try dsimp only) | ((with_reducible show wpAny _ _ _ _ _ _); dsimp only)))
    exact nxt _ _ _ ns _ _ _ hy hasc hb hnl n4 (by (repeat' (first | exact Knows.nil | refine Knows.cons (by with_unfolding_all rfl) ?_))) F5 N5
  · rintro j ys nx v I oI C oC D m₂ h4 tk4 E' hj ⟨rfl, ns, hy, hasc, hb, hnl⟩ ⟨tj, rfl⟩ hoC hx F5 N5 of3 hne
    clear F1 N1
    dsimp only
    (repeat' (first | (k_unfold; (try dsimp only)) | (k_end; wrow_close) | ((with_reducible show wpAny _ _ (call _ _ _) _ _ _); first | ((with_reducible show wpAny _ _ (call (Value.ref 167) _) _ _ _); k_here; (k_dflt (refine' c_law_beyond (by k_asm) (by k_asm) (by k_asm) (by k_asm) (by exact rfl) (by exact News.get (by k_asm) (by k_mem)) (by exact pairs_in (by k_asm) (by assumption) (by ((intro q' hq'; first | exact hq' | (simp only [List.mem_cons, List.mem_append] at hq' ⊢; simp only [hq', true_or, or_true]; done))))) (by omega) (by ktr_room) (by ktr_units) ?_; k_whole)); intro _ _ _ _; walk_at "my_after") | ((with_reducible show wpAny _ _ (call (Value.ref 136) _) _ _ _); k_here; (k_dflt (refine' c_first_beyond (by k_asm) (by k_asm) (by k_asm) (by k_asm) (by exact rfl) (by exact News.get (by k_asm) (by k_mem)) (by exact pairs_in (by k_asm) (by assumption) (by ((intro q' hq'; first | exact hq' | (simp only [List.mem_cons, List.mem_append] at hq' ⊢; simp only [hq', true_or, or_true]; done))))) (by omega) (by ktr_room) (by ktr_units) ?_; k_whole)); intro _ _ _ _; walk_at "my_after")) | ((with_reducible show LCt.CompSrcT _ _ _ _ _ _ _ _ _ _ _ _ _ _ _); refine Stop.intro ?_) | ((with_reducible show wpAny _ _ (PySem.exec _ _) _ _ _); first | ((with_reducible show wpAny _ _ (PySem.exec (PySem.Stmt.Assign [PySem.Expr.Name _ _] (PySem.Expr.ListComp _ _ _ _) _) _) _ _ _); refine Stop.intro ?_)) | walk1 | (dsimp only; walk1) | (leave1; try dsimp only) | ((with_reducible show wpAny _ _ _ _ _ _); dsimp only)))
    all_goals (try dsimp only)
    all_goals refine CompEnd.intro F5 N5 ((fd, fo) :: (sa, tupO svs sn) :: (a, W.listOf pvs.toArray k1) :: (L + 1 + 1 + 1 + 1, c4) :: (L + 1 + 1 + 1, cS) :: (L + 1 + 1, cM) :: (L + 1, cG) :: tl) (fun _ h => h) of3 trivial ⟨rfl, ?_⟩
    · refine ⟨ns ++ [1 + (j : Int)], hy.append (.cons _ _ .nil), ?_, fun k hk => ?_, by rw [List.length_append, List.length_singleton]; omega⟩
      · rw [List.pairwise_append]
        refine ⟨hasc, List.pairwise_singleton _ _, fun x hx y hy => ?_⟩
        rw [List.mem_singleton.mp hy]
        have := hb x hx
        omega
      · rcases List.mem_append.mp hk with hk | hk
        · have := hb k hk; omega
        · rw [List.mem_singleton.mp hk]; omega
    · exact ⟨ns, hy, hasc, fun k hk => by have := hb k hk; omega, by omega⟩
end
theorem off_law9 : True := by
  w_top off
  trivial
theorem drop2 {g h : Heap} {L : Addr} {x z : Addr × Obj} {l : List (Addr × Obj)} (N : News g L h (x :: z :: l)) : News g L h (x :: l) := news_sub N (by
  intro q hq; simp only [List.mem_cons] at hq ⊢; rcases hq with e | e <;> simp [e])
section
variable {w : World} {mean : ExcName → Option Value} {mg mb : Str → Option Value} {fa L : Addr} {ccd : Value} {g : Heap} {s : Shared} {Q : Flow → Shared → Prop} {E : Value → Shared → Prop} {rest : List Stmt} {m : Str → Option Value}
   (B : Below callerA g [] g) (X : (hd.heap_39 w.params).In g) (T : TopH mean mg mb g)
include B X T
theorem l_there {cG cM cS c4 fo : Obj} {a sa fd na : Addr} {ps : List (Int × Int)} {pvs svs nvs : List Value} {k1 sn nn : Nat} {tl : List (Addr × Obj)} {ns : List Int} (hp8 : ps.length ≤ 8) (hsm : ∀ q ∈ ps, Small q) (hR : PairsR (Nw tl) pvs ps)
   (hin : IntsAre nvs ns) (hasc : ns.Pairwise (· < ·)) (hnb : ∀ k ∈ ns, 1 ≤ k ∧ k ≤ 30) (hnl : ns.length ≤ 30) (e4 : c4.data = .cell none) (hoff : OwnOff tl [L + 1 + 1 + 1 + 1]) (n4 : ¬ @Eq Nat na (L + 1 + 1 + 1 + 1)) (f4 : ¬ @Eq Nat fd (L + 1 + 1 + 1 + 1)) (s4 : ¬ @Eq Nat sa (L + 1 + 1 + 1 + 1)) (a4 : @LT.lt Nat _ (L + 1 + 1 + 1 + 1) a)
   (hkn : Knows m [("numbers", .ref na), ("pairs", .ref a)]) (F : Fr g L s.heap m)
   (N : News g L s.heap ((na, W.listOf nvs.toArray nn) :: ((fd, fo) :: (sa, tupO svs sn) :: (a, W.listOf pvs.toArray k1) :: (L + 1 + 1 + 1 + 1, c4) :: (L + 1 + 1 + 1, cS) :: (L + 1 + 1, cM) :: (L + 1, cG) :: tl)))
   (nxt : ∀ (td : Addr) (c4 to : Obj) (ts : List Int) (m' : Str → Option Value) h' tk', (td == sysModules) = false → SetO PySem.Challenge.rw_no0356_01.row.prog w to ts → (ns ≠ [] → ∀ k, k ∈ ts ↔ hasP ps (ns.getLastD 0) k = true) → c4.data = .cell (some (.ref td)) → Knows m' [("numbers", .ref na)] → Fr g L h' m' →
      News g L h' ((td, to) :: (na, W.listOf nvs.toArray nn) :: ((fd, fo) :: (sa, tupO svs sn) :: (a, W.listOf pvs.toArray k1) :: (L + 1 + 1 + 1 + 1, c4) :: (L + 1 + 1 + 1, cS) :: (L + 1 + 1, cM) :: (L + 1, cG) :: tl)) → wpAny (model PySem.Challenge.rw_no0356_01.row.prog w) (lawA L fa ccd) (execs rest (lawE L fa ccd)) Q E { s with heap := h', toks := tk' }) :
   wpAny (model PySem.Challenge.rw_no0356_01.row.prog w) (lawA L fa ccd) (execs (lawSt 14 :: rest) (lawE L fa ccd)) Q E s := by
  revert X; k_fill; intro X
  conv in lawSt 14 => whnf
  simp only [lawA, lawE] at *
  conv in (occs := *) lawScope => all_goals whnf
  replace F := fr_known F hkn
  have hpl := hR.length
  have hlen := hin.length
  (repeat' (first | (k_unfold; (try dsimp only)) | (k_end; wrow_close) | ((with_reducible show wpAny _ _ (compareOp _ _ _) _ _ _); first | ((with_reducible show wpAny _ _ (compareOp CmpOp.In (Value.int _ _) (Value.ref _)) _ _ _); k_here; (k_dflt (refine' in_S (by exact News.get (by k_asm) (by k_mem)) (by assumption) (by assumption) ?_; k_whole)); (try dsimp only)) | ((with_reducible show wpAny _ _ (compareOp CmpOp.Eq (Value.ref _) (Value.ref _)) _ _ _); refine Stop.intro ?_) | ((with_reducible show wpAny _ _ (compareOp CmpOp.NotEq (Value.ref _) (Value.ref _)) _ _ _); refine Stop.intro ?_)) | ((with_reducible show wpAny _ _ (call _ _ _) _ _ _); first | ((with_reducible show wpAny _ _ (call (Value.ref 122) _) _ _ _); k_here; (k_dflt (refine' c_members (by k_asm) (by k_asm) (by k_asm) (by k_asm) (by exact rfl) (by exact News.get (by k_asm) (by k_mem)) (by exact pairs_in (by k_asm) (by assumption) (by ((intro q' hq'; first | exact hq' | (simp only [List.mem_cons, List.mem_append] at hq' ⊢; simp only [hq', true_or, or_true]; done))))) (by assumption) (by omega) (by exact News.get (by k_asm) (by k_mem)) (by assumption) (by omega) (by assumption) (by assumption) (by ktr_room) (by ktr_units) ?_; k_whole)); refine Stop.intro ?_) | ((with_reducible show wpAny _ _ (call (Value.ref 157) _) _ _ _); k_here; (k_dflt (refine' c_law_spread (by k_asm) (by k_asm) (by k_asm) (by k_asm) (by exact rfl) (by exact News.get (by k_asm) (by k_mem)) (by exact pairs_in (by k_asm) (by assumption) (by ((intro q' hq'; first | exact hq' | (simp only [List.mem_cons, List.mem_append] at hq' ⊢; simp only [hq', true_or, or_true]; done))))) (by assumption) (by omega) (by omega) (by ktr_room) (by ktr_units) ?_; k_whole)); refine Stop.intro ?_)) | ((with_reducible show LCt.CompSrcT _ _ _ _ _ _ _ _ _ _ _ _ _ _ _); refine Stop.intro ?_) | ((with_reducible show wpAny _ _ (PySem.eval _ _) _ _ _); first | ((with_reducible show wpAny _ _ (PySem.eval (PySem.Expr.ListComp _ _ _ _) _) _ _ _); refine Stop.intro ?_)) | walk1 | (dsimp only; walk1) | (leave1; try dsimp only) | ((with_reducible show wpAny _ _ _ _ _ _); dsimp only)))
  rename Fr _ _ _ _ => F1
  rename News _ _ _ _ => N1
  obtain ⟨Z, eZ⟩ := led_name N1
  subst eZ
  have hA : (_ : Heap).IsList na nvs.toArray := ⟨_, (N1 _ (.tail _ (.head _))).1, rfl, _, rfl⟩
  have hB : (_ : Heap).IsList Z ([] : List Value).toArray := ⟨_, (N1 _ (.head _)).1, rfl, _, rfl⟩
  refine Stop.out (ke_ne_ints hA hB hin .nil (by ke_room) ?_)
  rcases List.eq_nil_or_concat ns with e | ⟨ns', gg, e⟩
  · subst e
    (repeat' (first | (k_unfold; (try dsimp only)) | (k_end; wrow_close) | ((with_reducible show wpAny _ _ (compareOp _ _ _) _ _ _); first | ((with_reducible show wpAny _ _ (compareOp CmpOp.In (Value.int _ _) (Value.ref _)) _ _ _); k_here; (k_dflt (refine' in_S (by exact News.get (by k_asm) (by k_mem)) (by assumption) (by assumption) ?_; k_whole)); (try dsimp only)) | ((with_reducible show wpAny _ _ (compareOp CmpOp.Eq (Value.ref _) (Value.ref _)) _ _ _); refine Stop.intro ?_) | ((with_reducible show wpAny _ _ (compareOp CmpOp.NotEq (Value.ref _) (Value.ref _)) _ _ _); refine Stop.intro ?_)) | ((with_reducible show wpAny _ _ (call _ _ _) _ _ _); first | ((with_reducible show wpAny _ _ (call (Value.ref 122) _) _ _ _); k_here; (k_dflt (refine' c_members (by k_asm) (by k_asm) (by k_asm) (by k_asm) (by exact rfl) (by exact News.get (by k_asm) (by k_mem)) (by exact pairs_in (by k_asm) (by assumption) (by ((intro q' hq'; first | exact hq' | (simp only [List.mem_cons, List.mem_append] at hq' ⊢; simp only [hq', true_or, or_true]; done))))) (by assumption) (by omega) (by exact News.get (by k_asm) (by k_mem)) (by assumption) (by omega) (by assumption) (by assumption) (by ktr_room) (by ktr_units) ?_; k_whole)); refine Stop.intro ?_) | ((with_reducible show wpAny _ _ (call (Value.ref 157) _) _ _ _); k_here; (k_dflt (refine' c_law_spread (by k_asm) (by k_asm) (by k_asm) (by k_asm) (by exact rfl) (by exact News.get (by k_asm) (by k_mem)) (by exact pairs_in (by k_asm) (by assumption) (by ((intro q' hq'; first | exact hq' | (simp only [List.mem_cons, List.mem_append] at hq' ⊢; simp only [hq', true_or, or_true]; done))))) (by assumption) (by omega) (by omega) (by ktr_room) (by ktr_units) ?_; k_whole)); refine Stop.intro ?_)) | ((with_reducible show LCt.CompSrcT _ _ _ _ _ _ _ _ _ _ _ _ _ _ _); refine Stop.intro ?_) | ((with_reducible show wpAny _ _ (PySem.eval _ _) _ _ _); first | ((with_reducible show wpAny _ _ (PySem.eval (PySem.Expr.ListComp _ _ _ _) _) _ _ _); refine Stop.intro ?_)) | walk1 | (dsimp only; walk1) | (leave1; try dsimp only) | ((with_reducible show wpAny _ _ _ _ _ _); dsimp only)))
    rename Fr _ _ _ _ => F9
    rename News _ _ _ _ => N9
    exact nxt _ _ _ [] _ _ _ (by assumption) ⟨[], by assumption, by assumption⟩ (fun h => absurd rfl h) (by assumption) (by (repeat' (first | exact Knows.nil | refine Knows.cons (by with_unfolding_all rfl) ?_))) F9 (drop2 N9)
  · rw [List.concat_eq_append] at e
    have hgd : ns.getD (-1 + (ns.length : Int)).toNat 0 = gg := by
      rw [e, show (-1 + ((ns' ++ [gg]).length : Int)).toNat = ns'.length by rw [List.length_append, List.length_singleton]; omega]
      simp
    have hne : ns ≠ [] := by rw [e]; simp
    have hpos : 0 < ns.length := List.length_pos_iff.mpr hne
    have hgb := hnb gg (by rw [e]; simp)
    rw [decide_eq_false hne]
    (try simp only [Bool.not_false])
    have hlast : ns.getLastD 0 = gg := by rw [e]; simp
    (repeat' (first | (k_unfold; (try dsimp only)) | (k_end; wrow_close) | ((with_reducible show wpAny _ _ (compareOp _ _ _) _ _ _); first | ((with_reducible show wpAny _ _ (compareOp CmpOp.In (Value.int _ _) (Value.ref _)) _ _ _); k_here; (k_dflt (refine' in_S (by exact News.get (by k_asm) (by k_mem)) (by assumption) (by assumption) ?_; k_whole)); (try dsimp only)) | ((with_reducible show wpAny _ _ (compareOp CmpOp.Eq (Value.ref _) (Value.ref _)) _ _ _); refine Stop.intro ?_) | ((with_reducible show wpAny _ _ (compareOp CmpOp.NotEq (Value.ref _) (Value.ref _)) _ _ _); refine Stop.intro ?_)) | ((with_reducible show wpAny _ _ (call _ _ _) _ _ _); first | ((with_reducible show wpAny _ _ (call (Value.ref 122) _) _ _ _); k_here; (k_dflt (refine' c_members (by k_asm) (by k_asm) (by k_asm) (by k_asm) (by exact rfl) (by exact News.get (by k_asm) (by k_mem)) (by exact pairs_in (by k_asm) (by assumption) (by ((intro q' hq'; first | exact hq' | (simp only [List.mem_cons, List.mem_append] at hq' ⊢; simp only [hq', true_or, or_true]; done))))) (by assumption) (by omega) (by exact News.get (by k_asm) (by k_mem)) (by assumption) (by omega) (by assumption) (by assumption) (by ktr_room) (by ktr_units) ?_; k_whole)); refine Stop.intro ?_) | ((with_reducible show wpAny _ _ (call (Value.ref 157) _) _ _ _); k_here; (k_dflt (refine' c_law_spread (by k_asm) (by k_asm) (by k_asm) (by k_asm) (by exact rfl) (by exact News.get (by k_asm) (by k_mem)) (by exact pairs_in (by k_asm) (by assumption) (by ((intro q' hq'; first | exact hq' | (simp only [List.mem_cons, List.mem_append] at hq' ⊢; simp only [hq', true_or, or_true]; done))))) (by assumption) (by omega) (by omega) (by ktr_room) (by ktr_units) ?_; k_whole)); refine Stop.intro ?_)) | ((with_reducible show LCt.CompSrcT _ _ _ _ _ _ _ _ _ _ _ _ _ _ _); refine Stop.intro ?_) | ((with_reducible show wpAny _ _ (PySem.eval _ _) _ _ _); first | ((with_reducible show wpAny _ _ (PySem.eval (PySem.Expr.ListComp _ _ _ _) _) _ _ _); refine Stop.intro ?_)) | walk1 | (dsimp only; walk1) | (leave1; try dsimp only) | ((with_reducible show wpAny _ _ _ _ _ _); dsimp only)))
    refine Stop.out ?_
    intro td to ts h2 tk2 st hn2 hmod hs2 hSO hnd hks
    (try dsimp only at st hn2); (try dsimp only)
    rw [hgd] at hks
    have F2 := fr_stays F1 st
    have N2 := news_cons F1 (news_stays N1 st) hn2 hs2
    have t4 : ¬ @Eq Nat td (L + 1 + 1 + 1 + 1) := fun e => by
      rw [show td = L + 1 + 1 + 1 + 1 from e, (N1 _ (.tail _ (.tail _ (.tail _ (.tail _ (.tail _ (.head _))))))).1] at hn2; exact nomatch hn2
    clear F1 N1 hA hB
    (repeat' (first | (k_unfold; (try dsimp only)) | (k_end; wrow_close) | ((with_reducible show wpAny _ _ (compareOp _ _ _) _ _ _); first | ((with_reducible show wpAny _ _ (compareOp CmpOp.In (Value.int _ _) (Value.ref _)) _ _ _); k_here; (k_dflt (refine' in_S (by exact News.get (by k_asm) (by k_mem)) (by assumption) (by assumption) ?_; k_whole)); (try dsimp only)) | ((with_reducible show wpAny _ _ (compareOp CmpOp.Eq (Value.ref _) (Value.ref _)) _ _ _); refine Stop.intro ?_) | ((with_reducible show wpAny _ _ (compareOp CmpOp.NotEq (Value.ref _) (Value.ref _)) _ _ _); refine Stop.intro ?_)) | ((with_reducible show wpAny _ _ (call _ _ _) _ _ _); first | ((with_reducible show wpAny _ _ (call (Value.ref 122) _) _ _ _); k_here; (k_dflt (refine' c_members (by k_asm) (by k_asm) (by k_asm) (by k_asm) (by exact rfl) (by exact News.get (by k_asm) (by k_mem)) (by exact pairs_in (by k_asm) (by assumption) (by ((intro q' hq'; first | exact hq' | (simp only [List.mem_cons, List.mem_append] at hq' ⊢; simp only [hq', true_or, or_true]; done))))) (by assumption) (by omega) (by exact News.get (by k_asm) (by k_mem)) (by assumption) (by omega) (by assumption) (by assumption) (by ktr_room) (by ktr_units) ?_; k_whole)); refine Stop.intro ?_) | ((with_reducible show wpAny _ _ (call (Value.ref 157) _) _ _ _); k_here; (k_dflt (refine' c_law_spread (by k_asm) (by k_asm) (by k_asm) (by k_asm) (by exact rfl) (by exact News.get (by k_asm) (by k_mem)) (by exact pairs_in (by k_asm) (by assumption) (by ((intro q' hq'; first | exact hq' | (simp only [List.mem_cons, List.mem_append] at hq' ⊢; simp only [hq', true_or, or_true]; done))))) (by assumption) (by omega) (by omega) (by ktr_room) (by ktr_units) ?_; k_whole)); refine Stop.intro ?_)) | ((with_reducible show LCt.CompSrcT _ _ _ _ _ _ _ _ _ _ _ _ _ _ _); refine Stop.intro ?_) | ((with_reducible show wpAny _ _ (PySem.eval _ _) _ _ _); first | ((with_reducible show wpAny _ _ (PySem.eval (PySem.Expr.ListComp _ _ _ _) _) _ _ _); refine Stop.intro ?_)) | walk1 | (dsimp only; walk1) | (leave1; try dsimp only) | ((with_reducible show wpAny _ _ _ _ _ _); dsimp only)))
    rename Fr _ _ _ _ => F9
    rename News _ _ _ _ => N9
    exact nxt _ _ _ ts _ _ _ hmod hSO (fun _ => by rw [hlast]; exact hks) (by assumption) (by (repeat' (first | exact Knows.nil | refine Knows.cons (by with_unfolding_all rfl) ?_))) F9 (drop2 N9)
theorem l_last {cG cM cS c4 fo to : Obj} {a sa fd na td : Addr} {ps : List (Int × Int)} {pvs svs nvs : List Value} {k1 sn nn : Nat} {tl : List (Addr × Obj)} {ns ts : List Int} (hp8 : ps.length ≤ 8) (hsm : ∀ q ∈ ps, Small q) (hS : PairsR (Nw tl) svs ps)
   (hin : IntsAre nvs ns) (hasc : ns.Pairwise (· < ·)) (hnb : ∀ k ∈ ns, 1 ≤ k ∧ k ≤ 30) (hnl : ns.length ≤ 30) (hmod : (td == sysModules) = false) (hSO : SetO PySem.Challenge.rw_no0356_01.row.prog w to ts) (hts : ns ≠ [] → ∀ k, k ∈ ts ↔ hasP ps (ns.getLastD 0) k = true)
   (eS : cS.data = .cell (some (.ref sa))) (e4 : c4.data = .cell (some (.ref td))) (hkn : Knows m [("numbers", .ref na)]) (F : Fr g L s.heap m)
   (N : News g L s.heap ((td, to) :: (na, W.listOf nvs.toArray nn) :: ((fd, fo) :: (sa, tupO svs sn) :: (a, W.listOf pvs.toArray k1) :: (L + 1 + 1 + 1 + 1, c4) :: (L + 1 + 1 + 1, cS) :: (L + 1 + 1, cM) :: (L + 1, cG) :: tl)))
   (fin : ∀ (m' : Str → Option Value) h' tk', Fr g L h' m' → News g L h' [] → Q (.ret (.bool true)) { s with heap := h', toks := tk' }) :
   wpAny (model PySem.Challenge.rw_no0356_01.row.prog w) (lawA L fa ccd) (execs [lawSt 15] (lawE L fa ccd)) Q E s := by
  revert X; k_fill; intro X
  conv in lawSt 15 => whnf
  simp only [lawA, lawE] at *
  conv in (occs := *) lawScope => all_goals whnf
  replace F := fr_known F hkn
  have hsl := hS.length
  have hnb' : ∀ k ∈ ns, 0 ≤ k ∧ k ≤ 100 := fun k hk => by have := hnb k hk; omega
  (repeat' (first | (k_unfold; (try dsimp only)) | (k_end; wrow_close) | ((with_reducible show wpAny _ _ (compareOp _ _ _) _ _ _); first | ((with_reducible show wpAny _ _ (compareOp CmpOp.In (Value.int _ _) (Value.ref _)) _ _ _); k_here; (k_dflt (refine' in_S (by exact News.get (by k_asm) (by k_mem)) (by assumption) (by assumption) ?_; k_whole)); (try dsimp only)) | ((with_reducible show wpAny _ _ (compareOp CmpOp.Eq (Value.ref _) (Value.ref _)) _ _ _); refine Stop.intro ?_) | ((with_reducible show wpAny _ _ (compareOp CmpOp.NotEq (Value.ref _) (Value.ref _)) _ _ _); refine Stop.intro ?_)) | ((with_reducible show wpAny _ _ (call _ _ _) _ _ _); first | ((with_reducible show wpAny _ _ (call (Value.ref 122) _) _ _ _); k_here; (k_dflt (refine' c_members (by k_asm) (by k_asm) (by k_asm) (by k_asm) (by exact rfl) (by exact News.get (by k_asm) (by k_mem)) (by exact pairs_in (by k_asm) (by assumption) (by ((intro q' hq'; first | exact hq' | (simp only [List.mem_cons, List.mem_append] at hq' ⊢; simp only [hq', true_or, or_true]; done))))) (by assumption) (by omega) (by exact News.get (by k_asm) (by k_mem)) (by assumption) (by omega) (by assumption) (by assumption) (by ktr_room) (by ktr_units) ?_; k_whole)); refine Stop.intro ?_) | ((with_reducible show wpAny _ _ (call (Value.ref 157) _) _ _ _); k_here; (k_dflt (refine' c_law_spread (by k_asm) (by k_asm) (by k_asm) (by k_asm) (by exact rfl) (by exact News.get (by k_asm) (by k_mem)) (by exact pairs_in (by k_asm) (by assumption) (by ((intro q' hq'; first | exact hq' | (simp only [List.mem_cons, List.mem_append] at hq' ⊢; simp only [hq', true_or, or_true]; done))))) (by assumption) (by omega) (by omega) (by ktr_room) (by ktr_units) ?_; k_whole)); refine Stop.intro ?_)) | ((with_reducible show LCt.CompSrcT _ _ _ _ _ _ _ _ _ _ _ _ _ _ _); refine Stop.intro ?_) | ((with_reducible show wpAny _ _ (PySem.eval _ _) _ _ _); first | ((with_reducible show wpAny _ _ (PySem.eval (PySem.Expr.ListComp _ _ _ _) _) _ _ _); refine Stop.intro ?_)) | walk1 | (dsimp only; walk1) | (leave1; try dsimp only) | ((with_reducible show wpAny _ _ _ _ _ _); dsimp only)))
  refine Stop.out ?_
  intro ra ws kk h2 tk2 st hn2 hs2 hI2
  rename Fr _ _ _ _ => F1
  rename News _ _ _ _ => N1
  (try dsimp only at st hn2); (try dsimp only)
  have F2 := fr_stays F1 st
  have N2 := news_cons F1 (news_stays N1 st) hn2 hs2
  have heq : ns.filter (hasP ps (ns.getLastD 0)) = ns.filter (fun k => decide (k ∈ ts)) := by
    by_cases hne : ns = []
    · rw [hne]; rfl
    · apply List.filter_congr
      intro k _
      have := hts hne k
      cases hb : hasP ps (ns.getLastD 0) k with
      | true => exact (decide_eq_true (this.mpr hb)).symm
      | false => exact (decide_eq_false fun hk => by rw [this.mp hk] at hb; exact nomatch hb).symm
  rw [heq] at hI2
  clear F1 N1
  (repeat' (first | (k_unfold; (try dsimp only)) | (k_end; wrow_close) | ((with_reducible show wpAny _ _ (compareOp _ _ _) _ _ _); first | ((with_reducible show wpAny _ _ (compareOp CmpOp.In (Value.int _ _) (Value.ref _)) _ _ _); k_here; (k_dflt (refine' in_S (by exact News.get (by k_asm) (by k_mem)) (by assumption) (by assumption) ?_; k_whole)); (try dsimp only)) | ((with_reducible show wpAny _ _ (compareOp CmpOp.Eq (Value.ref _) (Value.ref _)) _ _ _); refine Stop.intro ?_) | ((with_reducible show wpAny _ _ (compareOp CmpOp.NotEq (Value.ref _) (Value.ref _)) _ _ _); refine Stop.intro ?_)) | ((with_reducible show wpAny _ _ (call _ _ _) _ _ _); first | ((with_reducible show wpAny _ _ (call (Value.ref 122) _) _ _ _); k_here; (k_dflt (refine' c_members (by k_asm) (by k_asm) (by k_asm) (by k_asm) (by exact rfl) (by exact News.get (by k_asm) (by k_mem)) (by exact pairs_in (by k_asm) (by assumption) (by ((intro q' hq'; first | exact hq' | (simp only [List.mem_cons, List.mem_append] at hq' ⊢; simp only [hq', true_or, or_true]; done))))) (by assumption) (by omega) (by exact News.get (by k_asm) (by k_mem)) (by assumption) (by omega) (by assumption) (by assumption) (by ktr_room) (by ktr_units) ?_; k_whole)); refine Stop.intro ?_) | ((with_reducible show wpAny _ _ (call (Value.ref 157) _) _ _ _); k_here; (k_dflt (refine' c_law_spread (by k_asm) (by k_asm) (by k_asm) (by k_asm) (by exact rfl) (by exact News.get (by k_asm) (by k_mem)) (by exact pairs_in (by k_asm) (by assumption) (by ((intro q' hq'; first | exact hq' | (simp only [List.mem_cons, List.mem_append] at hq' ⊢; simp only [hq', true_or, or_true]; done))))) (by assumption) (by omega) (by omega) (by ktr_room) (by ktr_units) ?_; k_whole)); refine Stop.intro ?_)) | ((with_reducible show LCt.CompSrcT _ _ _ _ _ _ _ _ _ _ _ _ _ _ _); refine Stop.intro ?_) | ((with_reducible show wpAny _ _ (PySem.eval _ _) _ _ _); first | ((with_reducible show wpAny _ _ (PySem.eval (PySem.Expr.ListComp _ _ _ _) _) _ _ _); refine Stop.intro ?_)) | walk1 | (dsimp only; walk1) | (leave1; try dsimp only) | ((with_reducible show wpAny _ _ _ _ _ _); dsimp only)))
  refine Stop.out ?_
  k_dflt (refine LCt.ListComp_T (F₀ := by k_asm) (by with_unfolding_all rfl) (by decide) (by rfl) (by decide) (by rfl) ?_)
  (repeat' (first | (k_unfold; (try dsimp only)) | (k_end; wrow_close) | ((with_reducible show wpAny _ _ (compareOp _ _ _) _ _ _); first | ((with_reducible show wpAny _ _ (compareOp CmpOp.In (Value.int _ _) (Value.ref _)) _ _ _); k_here; (k_dflt (refine' in_S (by exact News.get (by k_asm) (by k_mem)) (by assumption) (by assumption) ?_; k_whole)); (try dsimp only)) | ((with_reducible show wpAny _ _ (compareOp CmpOp.Eq (Value.ref _) (Value.ref _)) _ _ _); refine Stop.intro ?_) | ((with_reducible show wpAny _ _ (compareOp CmpOp.NotEq (Value.ref _) (Value.ref _)) _ _ _); refine Stop.intro ?_)) | ((with_reducible show wpAny _ _ (call _ _ _) _ _ _); first | ((with_reducible show wpAny _ _ (call (Value.ref 122) _) _ _ _); k_here; (k_dflt (refine' c_members (by k_asm) (by k_asm) (by k_asm) (by k_asm) (by exact rfl) (by exact News.get (by k_asm) (by k_mem)) (by exact pairs_in (by k_asm) (by assumption) (by ((intro q' hq'; first | exact hq' | (simp only [List.mem_cons, List.mem_append] at hq' ⊢; simp only [hq', true_or, or_true]; done))))) (by assumption) (by omega) (by exact News.get (by k_asm) (by k_mem)) (by assumption) (by omega) (by assumption) (by assumption) (by ktr_room) (by ktr_units) ?_; k_whole)); refine Stop.intro ?_) | ((with_reducible show wpAny _ _ (call (Value.ref 157) _) _ _ _); k_here; (k_dflt (refine' c_law_spread (by k_asm) (by k_asm) (by k_asm) (by k_asm) (by exact rfl) (by exact News.get (by k_asm) (by k_mem)) (by exact pairs_in (by k_asm) (by assumption) (by ((intro q' hq'; first | exact hq' | (simp only [List.mem_cons, List.mem_append] at hq' ⊢; simp only [hq', true_or, or_true]; done))))) (by assumption) (by omega) (by omega) (by ktr_room) (by ktr_units) ?_; k_whole)); refine Stop.intro ?_)) | ((with_reducible show LCt.CompSrcT _ _ _ _ _ _ _ _ _ _ _ _ _ _ _); refine Stop.intro ?_) | ((with_reducible show wpAny _ _ (PySem.eval _ _) _ _ _); first | ((with_reducible show wpAny _ _ (PySem.eval (PySem.Expr.ListComp _ _ _ _) _) _ _ _); refine Stop.intro ?_)) | walk1 | (dsimp only; walk1) | (leave1; try dsimp only) | ((with_reducible show wpAny _ _ _ _ _ _); dsimp only)))
  refine Stop.out ?_
  refine .inl ⟨_, nvs.toArray, _, rfl, rfl, F2, N2, .inr ⟨_, .tail _ (.tail _ (.head _)), rfl, _, rfl⟩, by rw [List.size_toArray, hin.length]; exact Nat.le_trans hnl (by decide), ?_⟩
  rintro _ ⟨g1, rfl⟩
  refine compRestT_ind _ (fun i ys nx => nx = ((ra, W.listOf ws.toArray kk) :: (td, to) :: (na, W.listOf nvs.toArray nn) :: ((fd, fo) :: (sa, tupO svs sn) :: (a, W.listOf pvs.toArray k1) :: (L + 1 + 1 + 1 + 1, c4) :: (L + 1 + 1 + 1, cS) :: (L + 1 + 1, cM) :: (L + 1, cG) :: tl)) ∧ IntsAre ys ((ns.take i).filter (fun k => decide (k ∈ ts)))) ?_ ?_ _ _ _ _ (Nat.zero_add _) ⟨rfl, .nil⟩
  · rintro ys nx ⟨rfl, hy⟩
    rw [List.size_toArray, hin.length, List.take_length] at hy
    intro D2 h4 tk4 F5 N5 off2
    clear F2 N2
    have hA : h4.IsList ra ws.toArray := ⟨_, (N5 _ (.tail _ (.head _))).1, rfl, _, rfl⟩
    have hB : h4.IsList D2 ys.toArray := ⟨_, (N5 _ (.head _)).1, rfl, _, rfl⟩
    dsimp only
    (repeat' (first | (k_unfold; (try dsimp only)) | (k_end; wrow_close) | ((with_reducible show wpAny _ _ (compareOp _ _ _) _ _ _); first | ((with_reducible show wpAny _ _ (compareOp CmpOp.In (Value.int _ _) (Value.ref _)) _ _ _); k_here; (k_dflt (refine' in_S (by exact News.get (by k_asm) (by k_mem)) (by assumption) (by assumption) ?_; k_whole)); (try dsimp only)) | ((with_reducible show wpAny _ _ (compareOp CmpOp.Eq (Value.ref _) (Value.ref _)) _ _ _); refine Stop.intro ?_) | ((with_reducible show wpAny _ _ (compareOp CmpOp.NotEq (Value.ref _) (Value.ref _)) _ _ _); refine Stop.intro ?_)) | ((with_reducible show wpAny _ _ (call _ _ _) _ _ _); first | ((with_reducible show wpAny _ _ (call (Value.ref 122) _) _ _ _); k_here; (k_dflt (refine' c_members (by k_asm) (by k_asm) (by k_asm) (by k_asm) (by exact rfl) (by exact News.get (by k_asm) (by k_mem)) (by exact pairs_in (by k_asm) (by assumption) (by ((intro q' hq'; first | exact hq' | (simp only [List.mem_cons, List.mem_append] at hq' ⊢; simp only [hq', true_or, or_true]; done))))) (by assumption) (by omega) (by exact News.get (by k_asm) (by k_mem)) (by assumption) (by omega) (by assumption) (by assumption) (by ktr_room) (by ktr_units) ?_; k_whole)); refine Stop.intro ?_) | ((with_reducible show wpAny _ _ (call (Value.ref 157) _) _ _ _); k_here; (k_dflt (refine' c_law_spread (by k_asm) (by k_asm) (by k_asm) (by k_asm) (by exact rfl) (by exact News.get (by k_asm) (by k_mem)) (by exact pairs_in (by k_asm) (by assumption) (by ((intro q' hq'; first | exact hq' | (simp only [List.mem_cons, List.mem_append] at hq' ⊢; simp only [hq', true_or, or_true]; done))))) (by assumption) (by omega) (by omega) (by ktr_room) (by ktr_units) ?_; k_whole)); refine Stop.intro ?_)) | ((with_reducible show LCt.CompSrcT _ _ _ _ _ _ _ _ _ _ _ _ _ _ _); refine Stop.intro ?_) | ((with_reducible show wpAny _ _ (PySem.eval _ _) _ _ _); first | ((with_reducible show wpAny _ _ (PySem.eval (PySem.Expr.ListComp _ _ _ _) _) _ _ _); refine Stop.intro ?_)) | walk1 | (dsimp only; walk1) | (leave1; try dsimp only) | ((with_reducible show wpAny _ _ _ _ _ _); dsimp only)))
    refine Stop.out (eq_intsEq hA hB hI2 hy rfl (by ke_room) ?_)
    (repeat' (first | (k_unfold; (try dsimp only)) | (k_end; wrow_close) | ((with_reducible show wpAny _ _ (compareOp _ _ _) _ _ _); first | ((with_reducible show wpAny _ _ (compareOp CmpOp.In (Value.int _ _) (Value.ref _)) _ _ _); k_here; (k_dflt (refine' in_S (by exact News.get (by k_asm) (by k_mem)) (by assumption) (by assumption) ?_; k_whole)); (try dsimp only)) | ((with_reducible show wpAny _ _ (compareOp CmpOp.Eq (Value.ref _) (Value.ref _)) _ _ _); refine Stop.intro ?_) | ((with_reducible show wpAny _ _ (compareOp CmpOp.NotEq (Value.ref _) (Value.ref _)) _ _ _); refine Stop.intro ?_)) | ((with_reducible show wpAny _ _ (call _ _ _) _ _ _); first | ((with_reducible show wpAny _ _ (call (Value.ref 122) _) _ _ _); k_here; (k_dflt (refine' c_members (by k_asm) (by k_asm) (by k_asm) (by k_asm) (by exact rfl) (by exact News.get (by k_asm) (by k_mem)) (by exact pairs_in (by k_asm) (by assumption) (by ((intro q' hq'; first | exact hq' | (simp only [List.mem_cons, List.mem_append] at hq' ⊢; simp only [hq', true_or, or_true]; done))))) (by assumption) (by omega) (by exact News.get (by k_asm) (by k_mem)) (by assumption) (by omega) (by assumption) (by assumption) (by ktr_room) (by ktr_units) ?_; k_whole)); refine Stop.intro ?_) | ((with_reducible show wpAny _ _ (call (Value.ref 157) _) _ _ _); k_here; (k_dflt (refine' c_law_spread (by k_asm) (by k_asm) (by k_asm) (by k_asm) (by exact rfl) (by exact News.get (by k_asm) (by k_mem)) (by exact pairs_in (by k_asm) (by assumption) (by ((intro q' hq'; first | exact hq' | (simp only [List.mem_cons, List.mem_append] at hq' ⊢; simp only [hq', true_or, or_true]; done))))) (by assumption) (by omega) (by omega) (by ktr_room) (by ktr_units) ?_; k_whole)); refine Stop.intro ?_)) | ((with_reducible show LCt.CompSrcT _ _ _ _ _ _ _ _ _ _ _ _ _ _ _); refine Stop.intro ?_) | ((with_reducible show wpAny _ _ (PySem.eval _ _) _ _ _); first | ((with_reducible show wpAny _ _ (PySem.eval (PySem.Expr.ListComp _ _ _ _) _) _ _ _); refine Stop.intro ?_)) | walk1 | (dsimp only; walk1) | (leave1; try dsimp only) | ((with_reducible show wpAny _ _ _ _ _ _); dsimp only)))
    exact fin _ _ _ F5 (fun _ h => nomatch h)
  · rintro j ys nx v I oI C oC D m₂ h4 tk4 E' hj ⟨rfl, hy⟩ hP hoC hx F5 N5 of3 hne
    obtain ⟨kv, tt, hvk, rfl⟩ := ints_get hin (by simpa using hP)
    clear F2 N2
    dsimp only
    (repeat' (first | (k_unfold; (try dsimp only)) | (k_end; wrow_close) | ((with_reducible show wpAny _ _ (compareOp _ _ _) _ _ _); first | ((with_reducible show wpAny _ _ (compareOp CmpOp.In (Value.int _ _) (Value.ref _)) _ _ _); k_here; (k_dflt (refine' in_S (by exact News.get (by k_asm) (by k_mem)) (by assumption) (by assumption) ?_; k_whole)); (try dsimp only)) | ((with_reducible show wpAny _ _ (compareOp CmpOp.Eq (Value.ref _) (Value.ref _)) _ _ _); refine Stop.intro ?_) | ((with_reducible show wpAny _ _ (compareOp CmpOp.NotEq (Value.ref _) (Value.ref _)) _ _ _); refine Stop.intro ?_)) | ((with_reducible show wpAny _ _ (call _ _ _) _ _ _); first | ((with_reducible show wpAny _ _ (call (Value.ref 122) _) _ _ _); k_here; (k_dflt (refine' c_members (by k_asm) (by k_asm) (by k_asm) (by k_asm) (by exact rfl) (by exact News.get (by k_asm) (by k_mem)) (by exact pairs_in (by k_asm) (by assumption) (by ((intro q' hq'; first | exact hq' | (simp only [List.mem_cons, List.mem_append] at hq' ⊢; simp only [hq', true_or, or_true]; done))))) (by assumption) (by omega) (by exact News.get (by k_asm) (by k_mem)) (by assumption) (by omega) (by assumption) (by assumption) (by ktr_room) (by ktr_units) ?_; k_whole)); refine Stop.intro ?_) | ((with_reducible show wpAny _ _ (call (Value.ref 157) _) _ _ _); k_here; (k_dflt (refine' c_law_spread (by k_asm) (by k_asm) (by k_asm) (by k_asm) (by exact rfl) (by exact News.get (by k_asm) (by k_mem)) (by exact pairs_in (by k_asm) (by assumption) (by ((intro q' hq'; first | exact hq' | (simp only [List.mem_cons, List.mem_append] at hq' ⊢; simp only [hq', true_or, or_true]; done))))) (by assumption) (by omega) (by omega) (by ktr_room) (by ktr_units) ?_; k_whole)); refine Stop.intro ?_)) | ((with_reducible show LCt.CompSrcT _ _ _ _ _ _ _ _ _ _ _ _ _ _ _); refine Stop.intro ?_) | ((with_reducible show wpAny _ _ (PySem.eval _ _) _ _ _); first | ((with_reducible show wpAny _ _ (PySem.eval (PySem.Expr.ListComp _ _ _ _) _) _ _ _); refine Stop.intro ?_)) | walk1 | (dsimp only; walk1) | (leave1; try dsimp only) | ((with_reducible show wpAny _ _ _ _ _ _); dsimp only)))
    all_goals (try dsimp only)
    all_goals
      refine CompEnd.intro F5 N5 ((ra, W.listOf ws.toArray kk) :: (td, to) :: (na, W.listOf nvs.toArray nn) :: ((fd, fo) :: (sa, tupO svs sn) :: (a, W.listOf pvs.toArray k1) :: (L + 1 + 1 + 1 + 1, c4) :: (L + 1 + 1 + 1, cS) :: (L + 1 + 1, cM) :: (L + 1, cG) :: tl)) (fun _ h => h) of3 (.inr ⟨_, .tail _ (.tail _ (.head _)), rfl, _, rfl⟩) ⟨rfl, ?_⟩
      rw [List.take_add_one, hvk, Option.toList_some, List.filter_append]
      first
        | (rw [List.filter_cons_of_pos (by simpa using (by assumption : kv ∈ ts)), List.filter_nil]
           exact IntsAre.append hy (.cons _ _ .nil))
        | (rw [List.filter_cons_of_neg (by simpa using (by assumption : ¬ kv ∈ ts)), List.filter_nil, List.append_nil]
           exact hy)
end
end
section
theorem off_lawx : True := by
  w_top off
  trivial
section
variable {w : World} {mean : ExcName → Option Value} {mg mb : Str → Option Value} {fa L : Addr} {ccd : Value} {g : Heap} {s : Shared} {Q : Flow → Shared → Prop} {E : Value → Shared → Prop} {rest : List Stmt} {m : Str → Option Value}
   (B : Below callerA g [] g) (X : (hd.heap_39 w.params).In g) (T : TopH mean mg mb g)
include B X T
theorem law_ok {c1 c2 c3 c4 : Obj} {ls : Addr} {vs : List Value} {ns : List Int} (hkn : Knows m [("script", .ref ls)]) (F : Fr g L s.heap m) (N : News g L s.heap [(L + 1 + 1 + 1 + 1, c4), (L + 1 + 1 + 1, c3), (L + 1 + 1, c2), (L + 1, c1)])
   (e1 : c1.data = .cell none) (e2 : c2.data = .cell none) (e3 : c3.data = .cell none) (e4 : c4.data = .cell none) (hl : g.IsList ls vs.toArray) (hi : IntsAre vs ns) (h63 : ns.length ≤ 63) (hlay : (PyData.list (ns.map PyData.int)).layable0 = true) (hE : PassesOwn (model PySem.Challenge.rw_no0356_01.row.prog w) (lawA L fa ccd) (lawE L fa ccd) E)
   (fin : ∀ (m' : Str → Option Value) h' tk', Fr g L h' m' → News g L h' [] → Q (.ret (.bool true)) { s with heap := h', toks := tk' }) :
   wpAny (model PySem.Challenge.rw_no0356_01.row.prog w) (lawA L fa ccd) (execs lawBody (lawE L fa ccd)) Q E s := by
  rw [lawBody_eq]
  refine l_head B X T hkn F N e1 e2 e3 e4 hl hi h63 hlay ?_
  intro G Mk tG tM a b cG cM m1 h1 tk1 hG eG eM hab hk1 F1 N1
  refine l_loop B X T hl hi h63 hlay hE hab hk1 F1 N1 ?_
  intro qs pvs tvs k1 k2 tl m2 h2 tk2 hne hq8 hsm hR hTs ho hk2 F2 N2
  refine l_some B X T hne hq8 hsm hR hTs ho e3 hab hk2 F2 N2 ?_
  intro sa svs sn cS tl3 m3 h3 tk3 hS3 hR3 ho3 n4 eS hk3 F3 N3
  have hp8 : (qs.map (·.1)).length ≤ 8 := by rw [List.length_map]; exact hq8
  have hsm' : ∀ q ∈ qs.map (·.1), Small q := by
    intro q hq; obtain ⟨p, hp, rfl⟩ := List.mem_map.mp hq; exact hsm p hp
  have hne' : qs.map (·.1) ≠ [] := fun e => hne (List.map_eq_nil_iff.mp e)
  generalize qs.map (·.1) = ps at *
  refine l_if1 B X T hp8 hsm' hR3 hS3 eS hk3 F3 N3 ?_
  intro m4 h4 tk4 hk4 F4 N4
  refine l_if2 B X T hne' hp8 hsm' hR3 hS3 eS hk4 F4 N4 ?_
  intro m5 h5 tk5 hk5 F5 N5
  refine l_found B X T hG hp8 hsm' hR3 eG hk5 F5 N5 ?_
  intro fd fo ks m6 h6 tk6 f4 hmod hSO hnd hks hk6 F6 N6
  refine l_plain B X T hG hp8 hsm' hS3 hmod hSO hnd hks eG eS hk6 F6 N6 ?_
  intro m7 h7 tk7 hk7 F7 N7
  refine l_nums B X T hG hp8 hsm' hS3 hmod hSO hnd hks eG eS hk7 F7 N7 ?_
  intro m8 h8 tk8 hk8 F8 N8
  refine l_has B X T hG hp8 hsm' hS3 hmod hSO hnd hks eG eS hk8 F8 N8 ?_
  intro m9 h9 tk9 hk9 F9 N9
  refine l_beyond B X T hp8 hR3 hS3 eG eS hk9 F9 N9 ?_
  intro mA hA tkA hkA FA NA
  refine l_numbers B X T eM hkA FA NA ?_
  intro na nvs nn ns' mB hB tkB hin hasc hnb hnl na4 hkB FB NB
  refine l_there B X T hp8 hsm' hR3 hin hasc hnb hnl e4 ho3 na4 f4 n4 hab.1 hkB FB NB ?_
  intro td c4' to ts mC hC tkC hmodT hSOT hts e4' hkC FC NC
  exact l_last B X T hp8 hsm' hS3 hin hasc hnb hnl hmodT hSOT hts eS e4' hkC FC NC fun mD hD tkD FD ND => fin mD hD tkD FD ND
end
end
section
theorem off_main : True := by
  w_top off
  trivial
theorem law_holds : PySem.Challenge.rw_no0356_01.Holds := hd (by
  k_go0
  rename Fr _ _ _ _ => F0
  rename News _ _ _ _ => N0
  refine' law_ok (below_caller _) ?X ?T (hkn := ?hkn) F0 N0 ?e1 ?e2 ?e3 ?e4 ?hl ?hi ?h63 ?hlay ?hE ?fin
  case X => first | assumption | k_asm
  case T => first | assumption | k_asm
  case hl => assumption
  case hi => assumption
  case h63 => omega
  case hlay => assumption
  case hkn => (repeat' (first | exact Knows.nil | refine Knows.cons (by with_unfolding_all rfl) ?_))
  case e1 => with_unfolding_all assumption
  case e2 => with_unfolding_all assumption
  case e3 => with_unfolding_all assumption
  case e4 => with_unfolding_all assumption
  case hE => passes_own
  case fin =>
    intro m' h' tk' F9 N9
    (try dsimp only)
    (repeat' (first | (k_unfold; (try dsimp only)) | (k_end; wrow_close) | walk1 | (dsimp only; walk1) | (leave1; try dsimp only) | ((with_reducible show wpAny _ _ _ _ _ _); dsimp only))))
end
end Mine
theorem PySem.Challenge.cw_no0356_01_holds : PySem.Challenge.rw_no0356_01.Holds := by
  exact Mine.law_holds
