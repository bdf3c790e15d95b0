import PyProof.Rows.All
import Wide.All
import OpenK.AllK
import Wide.FinOn
import Lean
import PySem.Challenge.RW_pf0128_01
set_option Elab.async false
set_option rowWalk.seconds 0
namespace Mine
section
open PySem PySem.W PyProof.Rows
/-- hands a fragment on -/
structure Giver (H : (Params → Frag) × List Addr) (p : Prop) : Prop where
  go : ∀ H' : (Params → Frag) × List Addr, H' = H → p
theorem Giver.use {H : (Params → Frag) × List Addr} {p : Prop} (g : Giver H p) (H' : (Params → Frag) × List Addr) (e : H' = H) : p := g.go H' e
def pick (H : (Params → Frag) × List Addr) (_ : Giver H (Challenge.rw_pf0128_01.row.Holds) → Challenge.rw_pf0128_01.row.Holds) : (Params → Frag) × List Addr := H
section
local macro_rules | `(tactic| o_head ($_ $K $as $_)) => `(tactic| exact Giver.use (by assumption) ($K, $as) rfl)
set_option maxRecDepth 100000 in
noncomputable def frag : (Params → Frag) × List Addr := pick _ (fun g => by k_head)
end
/-- the program without the rows that set its parts' names -/
noncomputable def view : Program := { Challenge.rw_pf0128_01.row.prog with main := { Challenge.rw_pf0128_01.row.prog.main with body := (Challenge.rw_pf0128_01.row.prog.main.body.zipIdx.filter (fun x => !([0, 4, 20, 31, 48, 50].contains x.2))).map (·.1) } }
end
-- text B0
section
open PySem PySem.W PyProof.Rows PySem.Spec PySem.Calls

noncomputable abbrev LO : List Str := looseW view [Str.ofString "WHOLE", Str.ofString "TYPES", Str.ofString "BEGINS"]
noncomputable abbrev PG : Program := Challenge.rw_pf0128_01.row.prog

abbrev AA (dp un : Nat) (gd : Option (List Code)) (fr : Option (List Env)) : Around := { handled := none, depth := dp, frames := fr, guards := gd, units := un }

/-- what a walked def promises: it ends, the heap only grows, and the result is `res i` for an `i` with `post`. -/
def Ctr (w : World) (d : Nat) (f : Addr) (args : List Value) (pre : Heap → Prop) {ι : Type} (res : ι → Value) (post : ι → Heap → Heap → Prop) : Prop :=
  ∀ (dp un : Nat) (gd : Option (List Code)) (fr : Option (List Env)) (mean : ExcName → Option Value) (mg mb : Str → Option Value) (s : Shared) (Q E : Value → Shared → Prop),
    dp + d < 900 → un + 8 * d < 9000 → (frag.heap_1 w.params).In s.heap → Top view LO mean mg mb s.heap → pre s.heap →
    (∀ i h' tk, s.heap.StaysIn h' → post i s.heap h' → Q (res i) { s with heap := h', toks := tk }) →
    wpAny (model PG w) (AA dp un gd fr) (call (.ref f) args) Q E s

def flv : Flow → Value
  | .ret v => v
  | _ => .none
inductive Ret (s : Shared) {ι : Type} (res : ι → Value) (post : ι → Heap → Heap → Prop) (fl : Flow) (s' : Shared) : Prop
  | mk (i : _) (h' : _) (tk : _) (q0 : flv fl = res i) (q1 : s' = { s with heap := h', toks := tk }) (q2 : s.heap.StaysIn h') (q3 : post i s.heap h') : Ret s res post fl s'

theorem Ctr.enter {w : World} {d : Nat} {f : Addr} {args : List Value} {pre : Heap → Prop} {ι : Type} {res : ι → Value} {post : ι → Heap → Heap → Prop}
    {name qual : Str} {params : Arguments} {body : List Stmt} {scope : Scope} {dV kV doc pm cdv ct oc : Value} {an od : Option Addr} {osl : Array (Option Value)} {lk : List (Str × Value)}
    (ho : (frag.heap_1 w.params).lookup f = some ⟨oc, od, .func (fnOf name qual params body scope dV kV doc pm an cdv ct), osl⟩)
    (hcd : codeIn (frag.heap_1 w.params) cdv qual = true)
    (hbind : bindArgs (fnOf name qual params body scope dV kV doc pm an cdv ct) ⟨args, []⟩ = pure ((params.args.map (·.arg)).zip args)) (hlk : ((params.args.map (·.arg)).zip args).reverse = lk)
    (hloc : ∀ y ∈ (params.args.map (·.arg)).zip args, scope.names.lookup y.1 = some .local)
    (hco : scope.isCoroutine = false) (hgen : scope.isGenerator = false) (hk : scope.kind = .function) (hcell : ∀ x ∈ scope.names, x.2 ≠ .cell)
    (h : ∀ (dp un : Nat) (gd : Option (List Code)) (fr : Option (List Env)) (mean : ExcName → Option Value) (mg mb : Str → Option Value) (s : Shared) (L : Addr) (h₁ : Heap) (tk : Nat),
      dp + d < 900 → un + 8 * d < 9000 → (frag.heap_1 w.params).In s.heap → Top view LO mean mg mb s.heap → pre s.heap →
      Fr s.heap L h₁ (fun y => lk.lookup y) → News s.heap L h₁ [] →
      wpAny (model PG w) (AA dp un gd fr) (execs body (envOf qual scope L f cdv)) (Ret s res post) (fun _ _ => False) { s with heap := h₁, toks := tk }) :
    Ctr w (d + 1) f args pre res post := by
  intro dp un gd fr mean mg mb s Q E hdp hun X T hpre hQ
  refine wpAny_call (codeAny_call_def (fd := fnOf name qual params body scope dV kV doc pm an cdv ct) (body := body) (binds := (params.args.map (·.arg)).zip args)
    (by show dp < 1000; omega) (X _ _ ho) rfl T.nolimit (codeRec_of X hcd) rfl (.of_eq hbind) hcell hloc (fun h₁ hns hk₁ => ?_) hco hgen hk)
  rw [hlk] at hns
  refine wpAny_mono (h (dp + 1) (un + 3) gd (fr.map (callEnv (fnOf name qual params body scope dV kV doc pm an cdv ct) s.heap.objs.size f :: ·)) mean mg mb s s.heap.objs.size h₁ _ (by omega) (by omega) X T hpre
    ⟨hns, hk₁, Nat.le_refl _⟩ News.nil) (fun fl s' hr => ?_) (fun _ _ x => x.elim)
  obtain ⟨i, h', tk, e, rfl, hst, hp⟩ := hr
  have q := hQ i h' tk hst hp
  cases fl <;> (rw [← e] at q; exact q)

theorem stays_fr {h₀ h h' : Heap} {L : Addr} {m : Str → Option Value} (F : Fr h₀ L h m) (k : h.StaysIn h') : Fr h₀ L h' m :=
  ⟨F.ns.keeps k, fun b o e => k b o (F.keep b o e), F.above⟩
theorem stays_news {h₀ h h' : Heap} {L : Addr} {news : List (Addr × Obj)} (N : News h₀ L h news) (k : h.StaysIn h') : News h₀ L h' news :=
  fun p hp => ⟨k _ _ (N p hp).1, (N p hp).2⟩

theorem Ctr.use {w : World} {d : Nat} {f : Addr} {args : List Value} {pre : Heap → Prop} {ι : Type} {res : ι → Value} {post : ι → Heap → Heap → Prop}
    (C : Ctr w d f args pre res post) {dp un : Nat} {gd : Option (List Code)} {fr : Option (List Env)} {mean : ExcName → Option Value} {mg mb : Str → Option Value} {s : Shared} {Q E : Value → Shared → Prop}
    {h₀ : Heap} {L : Addr} {m : Str → Option Value} {news : List (Addr × Obj)}
    (F : Fr h₀ L s.heap m) (N : News h₀ L s.heap news) (X : (frag.heap_1 w.params).In h₀) (T : Top view LO mean mg mb h₀)
    (hdp : dp + d < 900) (hun : un + 8 * d < 9000) (hpre : pre s.heap)
    (k : ∀ i h' tk, Fr h₀ L h' m → News h₀ L h' news → s.heap.StaysIn h' → post i s.heap h' → Q (res i) { s with heap := h', toks := tk }) :
    wpAny (model PG w) (AA dp un gd fr) (call (.ref f) args) Q E s :=
  C dp un gd fr mean mg mb s Q E hdp hun (X.keeps F.keep) (T.keeps F.keep) hpre fun i h' tk hs hp => k i h' tk (stays_fr F hs) (stays_news N hs) hs hp

theorem lt_room {a b c n : Nat} (h : a + b < n) (e : c ≤ b) : a + c < n := Nat.lt_of_le_of_lt (Nat.add_le_add_left e a) h
theorem known {h₀ h : Heap} {L : Addr} {m : Str → Option Value} {x : Str} {v : Value} (F : Fr h₀ L h m) (e : m x = some v) : Fr h₀ L h (fun y => if y = x then some v else m y) := by
  have : (fun y => if y = x then some v else m y) = m := by
    funext y
    by_cases hy : y = x
    · rw [if_pos hy, hy, e]
    · rw [if_neg hy]
  rw [this]; exact F

end

-- text B1
section
open PySem PySem.W PyProof.Rows PySem.Spec PySem.Calls
open Sem (wp)

def Has (m : Str → Option Value) : List (Str × Value) → Prop
  | [] => True
  | (x, v) :: r => m x = some v ∧ Has m r
def kn : List (Str × Value) → (Str → Option Value) → Str → Option Value
  | [], m => m
  | (x, v) :: r, m => fun y => if y = x then some v else kn r m y
theorem kn_eq {m : Str → Option Value} : ∀ {ps : List (Str × Value)}, Has m ps → kn ps m = m
  | [], _ => rfl
  | (x, v) :: r, h => by
    funext y
    show (if y = x then some v else kn r m y) = m y
    rw [kn_eq h.2]
    by_cases hy : y = x
    · rw [if_pos hy, hy, h.1]
    · rw [if_neg hy]
theorem knows {h₀ h : Heap} {L : Addr} {m : Str → Option Value} {ps : List (Str × Value)} (F : Fr h₀ L h m) (e : Has m ps) : Fr h₀ L h (kn ps m) := by rw [kn_eq e]; exact F

structure SealS (w : World) (A : Around) (rest : List Stmt) (env : Env) (Q : Flow → Shared → Prop) (E : Value → Shared → Prop) (K : Flow → Shared → Prop) : Prop where
  go : ∀ f s', (match f with | .next => wpAny (model PG w) A (execs rest env) Q E s' | f => Q f s') → K f s'
theorem execs_seal {w : World} {A : Around} {st : Stmt} {rest : List Stmt} {env : Env} {E : Value → Shared → Prop} {Q : Flow → Shared → Prop} {s : Shared}
    (h : ∀ K : Flow → Shared → Prop, SealS w A rest env Q E K → wpAny (model PG w) A (exec st env) K E s) : wpAny (model PG w) A (execs (st :: rest) env) Q E s :=
  wpAny_execs_cons (h _ ⟨fun _ _ x => x⟩)
section
variable {w : World} {A : Around} {rest : List Stmt} {env : Env} {E : Value → Shared → Prop} {Q K : Flow → Shared → Prop} {s : Shared} (h : SealS w A rest env Q E K)
include h
theorem SealS.next (x : wpAny (model PG w) A (execs rest env) Q E s) : K .next s := h.go _ _ x
theorem SealS.ret {v : Value} (x : Q (.ret v) s) : K (.ret v) s := h.go _ _ x
theorem SealS.brk (x : Q .brk s) : K .brk s := h.go _ _ x
theorem SealS.cont (x : Q .cont s) : K .cont s := h.go _ _ x
end
theorem sub_step {n i : Nat} (h : i < n) : n - i = n - (i + 1) + 1 := by omega
theorem sub_less {n k : Nat} (h : (k : Int) < (n : Int)) : n - (k + 1) < n - k := by omega
theorem add_less {n a i : Nat} (h : i < n - a) : a + i < n := by omega
theorem small_int {a n : Nat} (h : a < n) (h2 : n ≤ 100000) : (a : Int) < 2 ^ 63 := by omega
theorem ne_by {f : Nat → Bool} {c : Nat} (k : Nat) (h : f c = true) (hk : f k = false) : c ≠ k := fun q => by rw [q, hk] at h; cases h
def Stop (P : Prop) : Prop := P
theorem stop_here {P : Prop} (h : Stop P) : P := h

section
variable {prog : Program} {w : World} {A : Around} {E : Value → Shared → Prop} {s : Shared} {env : Env} {h₀ : Heap} {L : Addr} {tgt iter : Expr} {body : List Stmt} {Q : Flow → Shared → Prop}

theorem forLoop_go {R : Result → Shared → Prop} {target : Expr} {it : Value} {body orelse : List Stmt} {env : Env} (I : Nat → Shared → Prop)
    (turn : ∀ n s, I n s → wpAny (model prog w) A (pyNext it) (fun r s₁ => match r with
      | none => wpAny (model prog w) A (execs orelse env) (fun f s₃ => R (.ok f) s₃) (notedBy (model prog w) A env fun e s' => R (.error e) s') s₁
      | some v => wpAny (model prog w) A (letOwnedTupleGo target it v) (fun _ s₀ => wpAny (model prog w) A (assign target env v) (fun _ s₂ => wpAny (model prog w) A (execs body env) (fun f s₃ => match f with
          | .next | .cont => ∃ m, m < n ∧ I m s₃
          | .brk => R (.ok .next) s₃
          | .ret v => R (.ok (.ret v)) s₃) (notedBy (model prog w) A env fun e s' => R (.error e) s') s₂) (notedBy (model prog w) A env fun e s' => R (.error e) s') s₀)
          (notedBy (model prog w) A env fun e s' => R (.error e) s') s₁) (notedBy (model prog w) A env fun e s' => R (.error e) s') s)
    (n : Nat) (h : I n s) : codeAny (model prog w) A (.forLoop target it body orelse env) R s := by
  refine codeAny_loop' rfl I (fun n s hI => ?_) n h
  show wpAny _ _ ((forTurn target it body orelse env).onRaise (fun x => do noteFrame x env; theTreesLotGoes x)) _ _ s
  refine wpAny_noted ?_
  simp only [forTurn]
  refine wpAny_bind (wpAny_standAt (wpAny_bind (wpAny_onRaise (wpAny_mono (turn n s hI) (fun r s₁ h₁ => ?_) fun _ _ h' => wpAny_standAt h'))))
  cases r with
  | none => exact wpAny_pure (.inr ⟨rfl, codeAny_block h₁⟩)
  | some v =>
    refine wpAny_bind (wpAny_mono h₁ (fun _ s₀ h₀ => ?_) fun _ _ h' => h')
    refine wpAny_bind (wpAny_mono h₀ (fun _ s₂ h₂ => wpAny_bind (wpAny_mono h₂ (fun f s₃ h₃ => ?_) fun _ _ h' => h')) fun _ _ h' => h')
    cases f with
    | next => exact wpAny_pure (.inl ⟨rfl, h₃⟩)
    | cont => exact wpAny_pure (.inl ⟨rfl, h₃⟩)
    | brk => exact wpAny_pure h₃
    | ret v => exact wpAny_pure h₃

def ForGo (prog : Program) (w : World) (A : Around) (tgt : Expr) (body : List Stmt) (env : Env) (Q : Flow → Shared → Prop) (E : Value → Shared → Prop) (it : Value) (s₂ : Shared) : Prop :=
  codeAny (model prog w) A (.forLoop tgt it body [] env) (fun r s' => match r with | .ok f => Q f s' | .error e => cameBackBy (model prog w) A env E e s') s₂
theorem for_start {pos : Pos} (h : wpAny (model prog w) A (eval iter env) (fun xv s₁ => wpAny (model prog w) A (pyIter xv) (fun it s₂ => ForGo prog w A tgt body env Q E it s₂) E s₁) E s)
    (hs : ∀ x, foldedSetIterable iter env x = pure x := by intro _; rfl) : wpAny (model prog w) A (exec (.For tgt iter body [] pos) env) Q E s := wpAny_For h hs

inductive ForEndI (h₀ : Heap) (L : Addr) (gs : Array GenState) (dr : Drawn) (os : OsState) (I : Addr) (oI : Obj) (Jn : (Str → Option Value) → List (Addr × Obj) → Prop) (s₃ : Shared) : Prop
  | mk (h' : _) (tk : _) (m' : _) (nx' : _) (q0 : s₃ = ⟨h', gs, dr, tk, os⟩) (q1 : Fr h₀ L h' m') (q2 : News h₀ L h' ((I, oI) :: nx')) (q3 : (∀ p ∈ nx', p.1 ≠ I)) (q4 : Jn m' nx') : ForEndI h₀ L gs dr os I oI Jn s₃
def ForEnd (h₀ : Heap) (L : Addr) (s : Shared) (I : Addr) (oI : Obj) (Jn : (Str → Option Value) → List (Addr × Obj) → Prop) (s₃ : Shared) : Prop := ForEndI h₀ L s.gens s.drawn s.os I oI Jn s₃
def ForStep (h₀ : Heap) (L : Addr) (s : Shared) (I : Addr) (oI : Obj) (Jn : (Str → Option Value) → List (Addr × Obj) → Prop) (Q : Flow → Shared → Prop) (f : Flow) (s₃ : Shared) : Prop :=
  match f with
  | .ret v => Q (.ret v) s₃
  | .brk => Q .next s₃
  | _ => ForEnd h₀ L s I oI Jn s₃

theorem for_core {I : Addr} {fp : List Addr} {n : Nat} {P : Nat → Value → Prop} {St : Nat → Heap → Prop} {m₀ : Str → Option Value} {news : List (Addr × Obj)}
    (W : Walks prog w A I fp [I] n P St) (hst : St 0 s.heap) (hIL : L ≠ I) (hI : h₀.get? I = none) (hlive : ∀ i h, St i h → ∃ oI, h.get? I = some oI)
    (go : ∀ i v (s : Shared) (Q : Unit → Shared → Prop) (E : Value → Shared → Prop), St (i + 1) s.heap → P i v → Q () s → wpAny (model prog w) A (letOwnedTupleGo tgt (.ref I) v) Q E s)
    (F : Fr h₀ L s.heap m₀) (N : News h₀ L s.heap news) (hnI : ∀ p ∈ news, p.1 ≠ I) (J : Nat → (Str → Option Value) → List (Addr × Obj) → Prop) (hJ : J 0 m₀ news)
    (hfp : ∀ b ∈ fp, b = I ∨ (∃ o, h₀.get? b = some o) ∨ (∃ o, ∀ i m nx, J i m nx → (b, o) ∈ nx))
    (turn : ∀ i v m₁ nx h tk oI, i < n → P i v → J i m₁ nx → (∀ p ∈ nx, p.1 ≠ I) → Fr h₀ L h m₁ → News h₀ L h ((I, oI) :: nx) →
      wpAny (model prog w) A (assign tgt env v) (fun _ s₂ => wpAny (model prog w) A (execs body env) (ForStep h₀ L s I oI (J (i + 1)) Q) E s₂) E { s with heap := h, toks := tk })
    (done : ∀ m₁ nx h tk, J n m₁ nx → (∀ p ∈ nx, p.1 ≠ I) → Fr h₀ L h m₁ → News h₀ L h nx → Q .next { s with heap := h, toks := tk })
    (hE : PassesOwn (model prog w) A env E) : ForGo prog w A tgt body env Q E (.ref I) s := by
  unfold ForGo
  have old : ∀ b o, h₀.get? b = some o → b ∉ [I] := fun b o e hb => by rw [List.mem_singleton.mp hb, hI] at e; cases e
  refine forLoop_go (R := fun r s' => match r with | .ok f => Q f s' | .error e => cameBackBy (model prog w) A env E e s')
    (fun k s' => ∃ h' tk m' nx i, s' = { s with heap := h', toks := tk } ∧ St i h' ∧ Fr h₀ L h' m' ∧ News h₀ L h' nx ∧ (∀ p ∈ nx, p.1 ≠ I) ∧ J i m' nx ∧ i ≤ n ∧ k = n + 1 - i) ?_ (n + 1)
    ⟨s.heap, s.toks, m₀, news, 0, rfl, hst, F, N, hnI, hJ, Nat.zero_le _, rfl⟩
  rintro k s' ⟨h', tk, m', nx, i, rfl, hst', F', N', hn', hJ', hi, rfl⟩
  have next : ∀ h₁ : Heap, (∀ b o, b ∉ [I] → h'.get? b = some o → h₁.get? b = some o) → Fr h₀ L h₁ m' ∧ News h₀ L h₁ nx := fun h₁ hk₁ =>
    ⟨⟨F'.ns.at' fun o e => hk₁ _ o (fun q => hIL (List.mem_singleton.mp q)) e, fun b o e => hk₁ b o (old b o e) (F'.keep b o e), F'.above⟩, fun p hp => ⟨hk₁ _ _ (fun q => hn' p hp (List.mem_singleton.mp q)) (N' p hp).1, (N' p hp).2⟩⟩
  by_cases hlt : i < n
  · refine W.item i _ _ _ hlt hst' fun v h₁ tk₁ hP hst₁ hk₁ => ?_
    obtain ⟨F₁, N₁⟩ := next h₁ hk₁
    obtain ⟨oI, hoI⟩ := hlive _ _ hst₁
    refine go i v _ _ _ hst₁ hP ?_
    have NI : News h₀ L h₁ ((I, oI) :: nx) := fun p hp => by
      rcases List.mem_cons.mp hp with rfl | hp
      · exact ⟨hoI, fun q => hIL q.symm, hI⟩
      · exact N₁ p hp
    refine wpAny_mono (wpAny_passesOwn hE (wpAny_mono (turn i v m' nx h₁ tk₁ oI hlt hP hJ' hn' F₁ NI) (fun _ s₂ h₂ => wpAny_passesOwn hE h₂) fun _ _ e => e)) (fun _ s₂ h₂ => wpAny_mono h₂ (fun f s₃ h₃ => ?_) fun _ _ e => e) fun _ _ e => e
    have fin : ForEnd h₀ L s I oI (J (i + 1)) s₃ → ∃ m, m < n + 1 - i ∧ ∃ h' tk m' nx i, s₃ = { s with heap := h', toks := tk } ∧ St i h' ∧ Fr h₀ L h' m' ∧ News h₀ L h' nx ∧ (∀ p ∈ nx, p.1 ≠ I) ∧ J i m' nx ∧ i ≤ n ∧ m = n + 1 - i := by
      rintro ⟨h₃', tk₃, m₂, nx₂, rfl, F₃, N₃, hn₃, hJ₃⟩
      refine ⟨n + 1 - (i + 1), by omega, h₃', tk₃, m₂, nx₂, i + 1, rfl, ?_, F₃, fun p hp => N₃ p (List.mem_cons_of_mem _ hp), hn₃, hJ₃, hlt, rfl⟩
      refine W.frame _ _ _ hst₁ fun b hb o e => ?_
      rcases hfp b hb with rfl | ⟨o₀, ho₀⟩ | ⟨o₀, ho₀⟩
      · rw [hoI] at e; cases e
        exact (N₃ _ (List.mem_cons_self ..)).1
      · have q := F₁.keep b o₀ ho₀
        rw [e] at q; cases q
        exact F₃.keep b _ ho₀
      · have q := (N₁ _ (ho₀ _ _ _ hJ')).1
        dsimp only at q
        rw [e] at q; cases q
        exact (N₃ _ (List.mem_cons_of_mem _ (ho₀ _ _ _ hJ₃))).1
    cases f with
    | ret v => exact h₃
    | brk => exact h₃
    | next => exact fin h₃
    | cont => exact fin h₃
  · have hin : i = n := by omega
    subst hin
    refine W.done _ _ _ hst' fun h₁ tk₁ hk₁ => wpAny_execs_nil ?_
    obtain ⟨F₁, N₁⟩ := next h₁ hk₁
    exact done m' nx h₁ tk₁ hJ' hn' F₁ N₁

theorem fresh_I {h₀ h : Heap} {L : Addr} {m : Str → Option Value} {news : List (Addr × Obj)} (F : Fr h₀ L h m) (N : News h₀ L h news) :
    L ≠ h.objs.size ∧ h₀.get? h.objs.size = none ∧ ∀ p ∈ news, p.1 ≠ h.objs.size := by
  refine ⟨Nat.ne_of_lt F.ns.lt, ?_, fun p hp => Nat.ne_of_lt (Heap.lt_size (N p hp).1)⟩
  cases q : h₀.get? h.objs.size with
  | none => rfl
  | some o => exact absurd (Heap.lt_size (F.keep _ o q)) (Nat.lt_irrefl _)

/-- a for over a text, sign by sign -/
theorem for_str {x : Str} {t : Tok} {m₀ : Str → Option Value} {news : List (Addr × Obj)} {nm : Str} {px : Pos}
    (hh : A.handled = none) (F : Fr h₀ L s.heap m₀) (N : News h₀ L s.heap news) (J : Nat → (Str → Option Value) → List (Addr × Obj) → Prop) (hJ : J 0 m₀ news)
    (turn : ∀ i c u m₁ nx h tk I oI, x.cps[i]? = some c → J i m₁ nx → (∀ p ∈ nx, p.1 ≠ I) → Fr h₀ L h m₁ → News h₀ L h ((I, oI) :: nx) →
      wpAny (model prog w) A (assign (.Name nm px) env (.str ⟨#[c]⟩ u)) (fun _ s₂ => wpAny (model prog w) A (execs body env) (ForStep h₀ L s I oI (J (i + 1)) Q) E s₂) E { s with heap := h, toks := tk })
    (done : ∀ m₁ nx h tk, J x.cps.size m₁ nx → Fr h₀ L h m₁ → News h₀ L h nx → Q .next { s with heap := h, toks := tk })
    (hE : PassesOwn (model prog w) A env E) :
    wpAny (model prog w) A (pyIter (.str x t)) (fun it s₂ => ForGo prog w A (.Name nm px) body env Q E it s₂) E s := by
  obtain ⟨f1, f2, f3⟩ := fresh_I F N
  have go : ∀ (I : Addr) (v : Value) (s : Shared) (Q : Unit → Shared → Prop) (E : Value → Shared → Prop), Q () s → wpAny (model prog w) A (letOwnedTupleGo (.Name nm px) (.ref I) v) Q E s := fun I v s Q E h => wpAny_of_eq (a := ()) rfl h
  have core : ∀ (o : Obj) (ty : String) (St : Nat → Heap → Prop), (∀ i h, St i h → h.IsStrIter s.heap.objs.size ty x t i) → Walks prog w A s.heap.objs.size [s.heap.objs.size] [s.heap.objs.size] x.cps.size (SignAt x) St → St 0 (s.heap.push o) →
      ForGo prog w A (.Name nm px) body env Q E (.ref s.heap.objs.size) { s with heap := s.heap.push o } := fun o ty St hS W h0 => by
    refine for_core (h₀ := h₀) (L := L) W h0 f1 f2 (fun i h hs => let ⟨o, ho, _⟩ := hS i h hs; ⟨o, ho⟩) (fun i v s Q E _ _ h => go _ v s Q E h) (F.push _) (fun p hp => ⟨Heap.get?_push_of_some _ (N p hp).1, (N p hp).2⟩) f3 J hJ
      (fun b hb => .inl (List.mem_singleton.mp hb)) ?_ (fun m₁ nx h tk hJ _ F N => done m₁ nx h tk hJ F N) hE
    rintro i v m₁ nx h tk oI hi ⟨c, u, hc, rfl⟩ hJ hn F₁ N₁
    exact turn i c u m₁ nx h tk _ oI hc hJ hn F₁ N₁
  cases ha : x.cps.all (· < 128)
  · exact wpAny_pyIter_wide ha (core _ "str_iterator" _ (fun _ _ h => h) (Walks.strWide hh _ x t) ⟨_, Heap.get?_push_size _ rfl, rfl, rfl⟩)
  · exact wpAny_pyIter_ascii ha (core _ "str_ascii_iterator" _ (fun _ _ h => h) (Walks.strAscii hh _ x t) ⟨_, Heap.get?_push_size _ rfl, rfl, rfl⟩)

/-- a for over range(a, b) -/
theorem for_range {r : Addr} {a b : Int} {t u v : Tok} {n : Nat} {m₀ : Str → Option Value} {news : List (Addr × Obj)} {nm : Str} {px : Pos}
    (hh : A.handled = none) (hr : IsRange s.heap r a b 1 t u v) (hsmall : Builtin.Range.small a b 1 = true) (hn : Builtin.Range.rangeSize a b 1 = (n : Int))
    (F : Fr h₀ L s.heap m₀) (N : News h₀ L s.heap news) (J : Nat → (Str → Option Value) → List (Addr × Obj) → Prop) (hJ : J 0 m₀ news)
    (turn : ∀ (i : Nat) u m₁ nx h tk I oI, i < n → J i m₁ nx → (∀ p ∈ nx, p.1 ≠ I) → Fr h₀ L h m₁ → News h₀ L h ((I, oI) :: nx) →
      wpAny (model prog w) A (assign (.Name nm px) env (.int (a + i) u)) (fun _ s₂ => wpAny (model prog w) A (execs body env) (ForStep h₀ L s I oI (J (i + 1)) Q) E s₂) E { s with heap := h, toks := tk })
    (done : ∀ m₁ nx h tk, J n m₁ nx → Fr h₀ L h m₁ → News h₀ L h nx → Q .next { s with heap := h, toks := tk })
    (hE : PassesOwn (model prog w) A env E) :
    wpAny (model prog w) A (pyIter (.ref r)) (fun it s₂ => ForGo prog w A (.Name nm px) body env Q E it s₂) E s := by
  obtain ⟨f1, f2, f3⟩ := fresh_I F N
  refine wpAny_pyIter_range hr hsmall ?_
  refine for_core (h₀ := h₀) (L := L) (Walks.range hh s.heap.objs.size a 1 n) ?_ f1 f2 (fun i h hs => ⟨_, hs⟩) (fun i v s Q E _ _ h => wpAny_of_eq (a := ()) rfl h) (F.push _) (fun p hp => ⟨Heap.get?_push_of_some _ (N p hp).1, (N p hp).2⟩) f3 J hJ
      (fun b hb => .inl (List.mem_singleton.mp hb)) ?_ (fun m₁ nx h tk hJ _ F N => done m₁ nx h tk hJ F N) hE
  · show IsRangeIter _ _ _ _ _
    rw [hn]; simpa using Heap.get?_push_size _ rfl
  · rintro i v m₁ nx h tk oI hi ⟨u, rfl⟩ hJ hn F₁ N₁
    rw [Int.mul_one]
    exact turn i u m₁ nx h tk _ oI hi hJ hn F₁ N₁

/-- a for over a list that stands in the base or, unchanged by every turn, in the ledger -/
theorem for_list {l : Addr} {items : Array Value} {m₀ : Str → Option Value} {news : List (Addr × Obj)}
    (hh : A.handled = none) (hl : s.heap.IsList l items)
    (go : ∀ I i v (s : Shared) (Q : Unit → Shared → Prop) (E : Value → Shared → Prop), s.heap.IsListIter I l i → v ∈ items → Q () s → wpAny (model prog w) A (letOwnedTupleGo tgt (.ref I) v) Q E s)
    (F : Fr h₀ L s.heap m₀) (N : News h₀ L s.heap news) (J : Nat → (Str → Option Value) → List (Addr × Obj) → Prop) (hJ : J 0 m₀ news)
    (hfp : (∃ o, h₀.get? l = some o) ∨ (∃ o, ∀ i m nx, J i m nx → (l, o) ∈ nx))
    (turn : ∀ i v m₁ nx h tk I oI, items[i]? = some v → J i m₁ nx → (∀ p ∈ nx, p.1 ≠ I) → Fr h₀ L h m₁ → News h₀ L h ((I, oI) :: nx) →
      wpAny (model prog w) A (assign tgt env v) (fun _ s₂ => wpAny (model prog w) A (execs body env) (ForStep h₀ L s I oI (J (i + 1)) Q) E s₂) E { s with heap := h, toks := tk })
    (done : ∀ m₁ nx h tk, J items.size m₁ nx → Fr h₀ L h m₁ → News h₀ L h nx → Q .next { s with heap := h, toks := tk })
    (hE : PassesOwn (model prog w) A env E) :
    wpAny (model prog w) A (pyIter (.ref l)) (fun it s₂ => ForGo prog w A tgt body env Q E it s₂) E s := by
  obtain ⟨f1, f2, f3⟩ := fresh_I F N
  obtain ⟨ol, hol, _⟩ := id hl
  have hne : l ≠ s.heap.objs.size := Nat.ne_of_lt (Heap.lt_size hol)
  refine wpAny_pyIter_list hl ?_
  refine for_core (h₀ := h₀) (L := L) (Walks.list (prog := prog) (w := w) hh s.heap.objs.size l hne items) ⟨⟨_, Heap.get?_push_size _ rfl, rfl, rfl⟩, hl.at fun o e => Heap.get?_push_of_some _ e⟩ f1 f2
      (fun i h hs => let ⟨o, ho, _⟩ := hs.1; ⟨o, ho⟩) (fun i v s Q E hs hP h => go _ _ v s Q E hs.1 (Array.mem_of_getElem? hP) h) (F.push _) (fun p hp => ⟨Heap.get?_push_of_some _ (N p hp).1, (N p hp).2⟩) f3 J hJ
      (fun b hb => ?_) ?_ (fun m₁ nx h tk hJ _ F N => done m₁ nx h tk hJ F N) hE
  · rcases List.mem_cons.mp hb with e | hb
    · exact .inl e
    · rw [List.mem_singleton.mp hb]; exact .inr hfp
  · rintro i v m₁ nx h tk oI hi hP hJ hn F₁ N₁
    exact turn i v m₁ nx h tk _ oI hP hJ hn F₁ N₁

theorem go_name {l : Addr} {items : Array Value} {nm : Str} {px : Pos} : ∀ I i v (s : Shared) (Q : Unit → Shared → Prop) (E : Value → Shared → Prop), s.heap.IsListIter I l i → v ∈ items → Q () s → wpAny (model prog w) A (letOwnedTupleGo (.Name nm px) (.ref I) v) Q E s :=
  fun _ _ _ _ _ _ _ _ h => wpAny_of_eq (a := ()) rfl h
theorem go_tuple {l : Addr} {items : Array Value} {elts : List Expr} {k : Nat} {px : Pos} (hit : ∀ v ∈ items, ∃ T, v = .ref T) : ∀ I i v (s : Shared) (Q : Unit → Shared → Prop) (E : Value → Shared → Prop), s.heap.IsListIter I l i → v ∈ items → Q () s → wpAny (model prog w) A (letOwnedTupleGo (.Tuple elts k px) (.ref I) v) Q E s :=
  fun _ _ v _ _ _ hs hv h => by
    obtain ⟨T, rfl⟩ := hit v hv
    exact wpAny_letOwnedTupleGo_listiter hs h
theorem assign_name {m : Str → Option Value} {news : List (Addr × Obj)} {nm : Str} {px : Pos} {v : Value} {name : Str} {scope : Scope} {a : Addr} {cd : Value} {Q : Unit → Shared → Prop} (F : Fr h₀ L s.heap m) (N : News h₀ L s.heap news)
    (hk : scope.kind = .function) (hl : (envOf name scope L a cd).kindOf nm = some .local)
    (h : ∀ h', Fr h₀ L h' (fun y => if y = nm then some v else m y) → News h₀ L h' news → Q () { s with heap := h', toks := s.toks + 1 }) :
    wpAny (model prog w) A (assign (.Name nm px) (envOf name scope L a cd) v) Q E s := wpAny_assign_Name (stN F N h hk hl)
end

end

-- text B2
section
open PySem PySem.W PyProof.Rows PySem.Spec PySem.Calls
theorem one_beq (c : Nat) {y : Str} {k : Nat} (h : y = ⟨#[k]⟩ := by decide) : ((⟨#[c]⟩ : Str) == y) = decide (c = k) := by
  subst h
  by_cases e : c = k
  · subst e; simp
  · have : ¬ ((⟨#[c]⟩ : Str) = ⟨#[k]⟩) := fun q => e (by injection q with q; simpa using q)
    simp [this, e]
section
variable {P Q : Prop} {c : Nat}
theorem split_one {y : Str} {k : Nat} (h : y = ⟨#[k]⟩) (h1 : c = k → P) (h2 : c ≠ k → Q) : if ((⟨#[c]⟩ : Str) == y) = true then P else Q := by
  rw [one_beq c h]
  exact PyProof.Rows.split_dec h1 h2
theorem split_39 (h1 : c = 39 → P) (h2 : c ≠ 39 → Q) : if ((⟨#[c]⟩ : Str) == Str.ofString "'") = true then P else Q := split_one (by decide) h1 h2
theorem split_40 (h1 : c = 40 → P) (h2 : c ≠ 40 → Q) : if ((⟨#[c]⟩ : Str) == Str.ofString "(") = true then P else Q := split_one (by decide) h1 h2
theorem split_41 (h1 : c = 41 → P) (h2 : c ≠ 41 → Q) : if ((⟨#[c]⟩ : Str) == Str.ofString ")") = true then P else Q := split_one (by decide) h1 h2
theorem split_44 (h1 : c = 44 → P) (h2 : c ≠ 44 → Q) : if ((⟨#[c]⟩ : Str) == Str.ofString ",") = true then P else Q := split_one (by decide) h1 h2
theorem split_61 (h1 : c = 61 → P) (h2 : c ≠ 61 → Q) : if ((⟨#[c]⟩ : Str) == Str.ofString "=") = true then P else Q := split_one (by decide) h1 h2
theorem split_32 (h1 : c = 32 → P) (h2 : c ≠ 32 → Q) : if ((⟨#[c]⟩ : Str) == Str.ofString " ") = true then P else Q := split_one (by decide) h1 h2
theorem split_nb {b : Bool} (h1 : b = false → P) (h2 : b = true → Q) : if (!b) = true then P else Q := by cases b <;> simp_all
theorem dec_pos {p : Prop} [Decidable p] (h : p) (hp : P) : if decide p = true then P else Q := by rw [if_pos (decide_eq_true h)]; exact hp
theorem dec_neg {p : Prop} [Decidable p] (h : ¬ p) (hq : Q) : if decide p = true then P else Q := by rw [if_neg (by rw [decide_eq_false h]; decide)]; exact hq
end
section
variable {env : Env} {rest : List Expr} {pos : Pos}
theorem st_Name {x : Str} {p : Pos} : starEach (.Name x p :: rest) env = (false, eval (.Name x p) env) :: starEach rest env := rfl
theorem st_Constant {a b p} : starEach (.Constant a b p :: rest) env = (false, eval (.Constant a b p) env) :: starEach rest env := rfl
theorem st_UnaryOp {a b p} : starEach (.UnaryOp a b p :: rest) env = (false, eval (.UnaryOp a b p) env) :: starEach rest env := rfl
theorem st_BinOp {a b c p} : starEach (.BinOp a b c p :: rest) env = (false, eval (.BinOp a b c p) env) :: starEach rest env := rfl
theorem st_Call {a b c p} : starEach (.Call a b c p :: rest) env = (false, eval (.Call a b c p) env) :: starEach rest env := rfl
theorem st_Subscript {a b p} : starEach (.Subscript a b p :: rest) env = (false, eval (.Subscript a b p) env) :: starEach rest env := rfl
theorem st_Attribute {a b p} : starEach (.Attribute a b p :: rest) env = (false, eval (.Attribute a b p) env) :: starEach rest env := rfl
theorem st_Tuple {a b p} : starEach (.Tuple a b p :: rest) env = (false, eval (.Tuple a b p) env) :: starEach rest env := rfl
theorem st_List {a p} : starEach (.List a p :: rest) env = (false, eval (.List a p) env) :: starEach rest env := rfl
theorem pl_nil : (backTo pos (starEach [] env)).any (·.1) = false := rfl
theorem pl_cons {e : Expr} (h : starEach (e :: rest) env = (false, eval e env) :: starEach rest env) (r : (backTo pos (starEach rest env)).any (·.1) = false) : (backTo pos (starEach (e :: rest) env)).any (·.1) = false := by
  rw [h]; show (false || (backTo pos (starEach rest env)).any (·.1)) = false; rw [r]; rfl
end

section
variable {M : Model} {A : Around} {E : Value → Shared → Prop} {s : Shared} {name : Str} {scope : Scope} {L a : Addr} {cd : Value} {h₀ : Heap} {m : Str → Option Value}
theorem ld_fast {x : Str} {pos : Pos} {v : Value} {Q : Value → Shared → Prop} (F : Fr h₀ L s.heap m) (hv : m x = some v) (hk : scope.kind = .function) (hl : (envOf name scope L a cd).kindOf x = some .local)
    (hd : (x == ("__debug__" : Str)) = false) (h : Q v s) :
    wpAny M A (eval (.Name x pos) (envOf name scope L a cd)) Q E s := ld F hv h hk hl hd
end
theorem take_snoc' {x : Str} {i c : Nat} (h : x.cps[i]? = some c) : x.cps.toList.take (i + 1) = x.cps.toList.take i ++ [c] := by
  rw [List.take_add_one]
  simp [h]
theorem ints_snoc {vs : List Value} {ns : List Int} (h : IntsAre vs ns) (k : Int) (t : Tok) : IntsAre (vs ++ [.int k t]) (ns ++ [k]) := h.append (.cons _ _ .nil)

end

-- text B3
section
open PySem PySem.W PyProof.Rows PySem.Spec PySem.Calls
open Builtin Builtin.Str
/-- a text by its signs -/
abbrev tx (l : List Nat) : Str := ⟨l.toArray⟩
abbrev sg (x : Str) : List Nat := x.cps.toList
theorem tx_sg (x : Str) : tx (sg x) = x := by obtain ⟨a⟩ := x; simp
theorem sg_tx (l : List Nat) : sg (tx l) = l := by simp
theorem len_sg (x : Str) : (sg x).length = x.length := by simp [Str.length]
theorem len_tx (l : List Nat) : (tx l).length = l.length := by simp [Str.length]
theorem sg_append (x y : Str) : sg (x ++ y) = sg x ++ sg y := by show (x.cps ++ y.cps).toList = _; simp
theorem sg_get {x : Str} {k c : Nat} (h : x.cps[k]? = some c) : (sg x)[k]? = some c := by simpa using h
theorem tx_append (a b : List Nat) : tx a ++ tx b = tx (a ++ b) := by show (⟨a.toArray ++ b.toArray⟩ : Str) = _; simp

theorem nonneg {k : Nat} : ¬ (k : Int) < 0 := Int.not_lt.mpr (Int.natCast_nonneg k)
theorem clip_e (k n : Nat) : max 0 (min (if (k : Int) < 0 then (k : Int) + n else (k : Int)) (n : Int)) = max 0 (min (if ((min k n : Nat) : Int) < 0 then ((min k n : Nat) : Int) + n else ((min k n : Nat) : Int)) (n : Int)) := by
  rw [if_neg nonneg, if_neg nonneg]
  rcases Nat.le_total k n with h | h
  · rw [Nat.min_eq_left h]
  · rw [Nat.min_eq_right h, Int.min_eq_right (Int.ofNat_le.mpr h), Int.min_eq_right (Int.le_refl _)]
theorem slice_clip (lo hi : Nat) (n : Nat) : strSliceIndices (some (lo : Int)) (some (hi : Int)) 1 n = strSliceIndices (some ((min lo n : Nat) : Int)) (some ((min hi n : Nat) : Int)) 1 n := by
  unfold strSliceIndices
  simp only [show (1 : Int) > 0 by decide, if_true]
  have e (k : Nat) := clip_e k n
  rw [e lo, e hi]
theorem slice_clip0 (hi : Nat) (n : Nat) : strSliceIndices none (some (hi : Int)) 1 n = strSliceIndices none (some ((min hi n : Nat) : Int)) 1 n := by
  unfold strSliceIndices
  simp only [show (1 : Int) > 0 by decide, if_true]
  have e (k : Nat) := clip_e k n
  rw [e hi]
theorem slice_clip1 (lo : Nat) (n : Nat) : strSliceIndices (some (lo : Int)) none 1 n = strSliceIndices (some ((min lo n : Nat) : Int)) none 1 n := by
  unfold strSliceIndices
  simp only [show (1 : Int) > 0 by decide, if_true]
  have e (k : Nat) := clip_e k n
  rw [e lo]

theorem slice_ss (x : Str) (a b : Nat) (h : a ≤ b) : Txt.slice x (some (a : Int)) (some (b : Int)) = tx (((sg x).drop a).take (b - a)) := by
  have e : Txt.slice x (some (a : Int)) (some (b : Int)) = Txt.slice x (some ((min a x.length : Nat) : Int)) (some ((min b x.length : Nat) : Int)) := by
    unfold Txt.slice; rw [slice_clip]
  rw [e]
  have q := eq_of_beq (slice_closesL (x := x) (i := ((min a x.length : Nat) : Int)) (j := ((min b x.length : Nat) : Int)) (by omega) (by omega) (by omega))
  rw [q]
  congr 2
  rw [Int.toNat_natCast, show (((min b x.length : Nat) : Int) - ((min a x.length : Nat) : Int)).toNat = min b x.length - min a x.length from Int.toNat_sub _ _]
  show List.take _ (List.drop _ (sg x)) = _
  rcases Nat.le_total a x.length with ha | ha
  · rw [Nat.min_eq_left ha]
    rcases Nat.le_total b x.length with hb | hb
    · rw [Nat.min_eq_left hb]
    · rw [Nat.min_eq_right hb, List.take_of_length_le, List.take_of_length_le] <;> rw [List.length_drop, len_sg] <;> omega
  · rw [List.drop_of_length_le (by rw [len_sg]; omega), List.drop_of_length_le (by rw [len_sg]; omega)]; simp
theorem slice_ns (x : Str) (b : Nat) : Txt.slice x none (some (b : Int)) = tx ((sg x).take b) := by
  have e : Txt.slice x none (some (b : Int)) = Txt.slice x none (some ((min b x.length : Nat) : Int)) := by
    unfold Txt.slice; rw [slice_clip0]
  rw [e]
  have q := eq_of_beq (slice_closes_toL (x := x) (j := ((min b x.length : Nat) : Int)) (by omega) (by omega))
  rw [q]
  congr 2
  rw [show (((min b x.length : Nat) : Int) - 0).toNat = min b x.length from Int.toNat_sub (min b x.length) 0]
  show List.take _ (List.drop 0 (sg x)) = _
  rw [List.drop_zero, ← len_sg]
  rcases Nat.le_total b (sg x).length with hb | hb
  · rw [Nat.min_eq_left hb]
  · rw [Nat.min_eq_right hb, List.take_length, List.take_of_length_le hb]
theorem slice_sn (x : Str) (a : Nat) : Txt.slice x (some (a : Int)) none = tx ((sg x).drop a) := by
  have e : Txt.slice x (some (a : Int)) none = Txt.slice x (some ((min a x.length : Nat) : Int)) none := by
    unfold Txt.slice; rw [slice_clip1]
  rw [e]
  have q := eq_of_beq (slice_closes_fromL (x := x) (i := ((min a x.length : Nat) : Int)) (b := (x.length : Int)) (by omega) (by omega) rfl)
  rw [q]
  congr 2
  rw [Int.toNat_natCast, show ((x.length : Int) - ((min a x.length : Nat) : Int)).toNat = x.length - min a x.length from Int.toNat_sub _ _]
  show List.take _ (List.drop _ (sg x)) = _
  rw [List.take_of_length_le (by rw [List.length_drop, len_sg]; omega), ← len_sg]
  rcases Nat.le_total a (sg x).length with ha | ha
  · rw [Nat.min_eq_left ha]
  · rw [Nat.min_eq_right ha, List.drop_length, List.drop_of_length_le ha]

/-- a contract whose answer is a new object -/
def CtrN (w : World) (d : Nat) (f : Addr) (args : List Value) (pre : Heap → Prop) {σ : Type} (O : σ → Obj) (R : σ → Prop) : Prop :=
  Ctr w d f args pre (fun i : Addr × σ => .ref i.1) (fun i h h' => h.get? i.1 = none ∧ h'.get? i.1 = some (O i.2) ∧ R i.2)
theorem CtrN.use {w : World} {d : Nat} {f : Addr} {args : List Value} {pre : Heap → Prop} {σ : Type} {O : σ → Obj} {R : σ → Prop}
    (C : CtrN w d f args pre O R) {dp un : Nat} {gd : Option (List Code)} {fr : Option (List Env)} {mean : ExcName → Option Value} {mg mb : Str → Option Value} {s : Shared} {Q E : Value → Shared → Prop}
    {h₀ : Heap} {L : Addr} {m : Str → Option Value} {news : List (Addr × Obj)}
    (F : Fr h₀ L s.heap m) (N : News h₀ L s.heap news) (X : (frag.heap_1 w.params).In h₀) (T : Top view LO mean mg mb h₀)
    (hdp : dp + d < 900) (hun : un + 8 * d < 9000) (hpre : pre s.heap)
    (k : ∀ (l : Addr) (i : σ) h' tk, Fr h₀ L h' m → News h₀ L h' ((l, O i) :: news) → (∀ p ∈ news, p.1 ≠ l) → R i → Q (.ref l) { s with heap := h', toks := tk }) :
    wpAny (model PG w) (AA dp un gd fr) (call (.ref f) args) Q E s := by
  refine Ctr.use C F N X T hdp hun hpre fun i h' tk F' N' hs hp => ?_
  obtain ⟨hn, ho, hR⟩ := hp
  refine k i.1 i.2 h' tk F' (fun p hp => ?_) (fun p hp q => ?_) hR
  · rcases List.mem_cons.mp hp with rfl | hp
    · refine ⟨ho, fun q => ?_, ?_⟩
      · obtain ⟨o, _, _, e, _⟩ := F.ns
        rw [← q, hn] at e; cases e
      · cases q : h₀.get? i.1 with
        | none => rfl
        | some o => have := F.keep _ _ q; rw [hn] at this; cases this
    · exact N' p hp
  · have := (N p hp).1
    rw [q, hn] at this; cases this

theorem for_rangeN {prog : Program} {w : World} {A : Around} {E : Value → Shared → Prop} {s : Shared} {env : Env} {h₀ : Heap} {L : Addr} {body : List Stmt} {Q : Flow → Shared → Prop}
    {r : Addr} (a b : Nat) {t u v : Tok} {m₀ : Str → Option Value} {news : List (Addr × Obj)} {nm : Str} {px : Pos}
    (hh : A.handled = none) (hr : IsRange s.heap r (a : Int) (b : Int) 1 t u v) (ha : a ≤ 1000000) (hb : b ≤ 1000000)
    (F : Fr h₀ L s.heap m₀) (N : News h₀ L s.heap news) (J : Nat → (Str → Option Value) → List (Addr × Obj) → Prop) (hJ : J 0 m₀ news)
    (turn : ∀ (i : Nat) u m₁ nx h tk I oI, i < b - a → J i m₁ nx → (∀ p ∈ nx, p.1 ≠ I) → Fr h₀ L h m₁ → News h₀ L h ((I, oI) :: nx) →
      wpAny (model prog w) A (assign (.Name nm px) env (.int ((a + i : Nat) : Int) u)) (fun _ s₂ => wpAny (model prog w) A (execs body env) (ForStep h₀ L s I oI (J (i + 1)) Q) E s₂) E { s with heap := h, toks := tk })
    (done : ∀ m₁ nx h tk, J (b - a) m₁ nx → Fr h₀ L h m₁ → News h₀ L h nx → Q .next { s with heap := h, toks := tk })
    (hE : PassesOwn (model prog w) A env E) :
    wpAny (model prog w) A (pyIter (.ref r)) (fun it s₂ => ForGo prog w A (.Name nm px) body env Q E it s₂) E s := by
  have e : Builtin.Range.rangeSize (a : Int) (b : Int) 1 = ((b - a : Nat) : Int) := by
    unfold Builtin.Range.rangeSize
    rw [if_pos (by decide)]
    split
    · rw [Int.ediv_one]; omega
    · omega
  refine for_range (n := b - a) hh hr ?_ e F N J hJ turn done hE
  unfold Builtin.Range.small
  rw [e]
  have f (z : Int) (h1 : -10000000 ≤ z) (h2 : z ≤ 10000000) : Builtin.Range.rangeFitsLong z = true := by
    unfold Builtin.Range.rangeFitsLong
    rw [Bool.and_eq_true, decide_eq_true_eq, decide_eq_true_eq]; omega
  rw [f _ (by omega) (by omega), f _ (by omega) (by omega), f _ (by decide) (by decide), f _ (by omega) (by omega), if_pos (by decide), f _ (by omega) (by omega)]
  simp

section
variable {prog : Program} {w : World} {A : Around} {E : Value → Shared → Prop} {s : Shared} {u : Tok} {Q : Value → Shared → Prop}
theorem item_ints {value slice : Expr} {l : Addr} {vs : List Value} {ns : List Int} {k : Nat} (hl : s.heap.IsList l vs.toArray) (hI : IntsAre vs ns) (hn : ns.length ≤ 100000) (hk : k < ns.length)
    (h : ∀ v t, ns[k]? = some v → Q (.int v t) s)
    (hs : subscripted slice false (.ref l) (.int (k : Int) u) = operate [.ref l, .int (k : Int) u] (getItem (.ref l) (.int (k : Int) u)))
    (hg : ∀ r, letTemporaryGo value (.ref l) r = pure ()) :
    wpAny (model prog w) A (subscriptTail value slice (.ref l) (.int (k : Int) u)) Q E s := by
  have hlen := hI.length
  have hlt : k < vs.length := by omega
  obtain ⟨v, t, e1, e2⟩ := hI.at k vs[k] (List.getElem?_eq_getElem hlt)
  refine item_listL hl (by omega) (by omega) (x := vs[k]) (by rw [Int.toNat_natCast]; exact List.getElem?_eq_getElem hlt) ?_ hs hg
  rw [e1]
  exact h v t e2
end

section
variable {s : Shared} {t : Tok} {h' : Heap} {tk : Nat}
theorem ret_str {X V : Str} (k : s.heap.StaysIn h') (e : X = V) : Ret s (fun t' : Tok => .str X t') (fun _ _ _ => True) (.ret (.str V t)) { s with heap := h', toks := tk } := by
  subst e; exact ⟨t, _, _, rfl, rfl, k, trivial⟩
theorem ret_int {X V : Int} (k : s.heap.StaysIn h') (e : X = V) : Ret s (fun t' : Tok => .int X t') (fun _ _ _ => True) (.ret (.int V t)) { s with heap := h', toks := tk } := by
  subst e; exact ⟨t, _, _, rfl, rfl, k, trivial⟩
theorem ret_bool {X V : Bool} (k : s.heap.StaysIn h') (e : X = V) : Ret s (fun _ : Tok => .bool X) (fun _ _ _ => True) (.ret (.bool V)) { s with heap := h', toks := tk } := by
  subst e; exact ⟨(0 : Nat), _, _, rfl, rfl, k, trivial⟩
theorem if_no {α : Sort _} {b : Bool} {x y : α} (h : b = false) : (if b = true then x else y) = y := by subst h; rfl
end

/-- kinds of signs -/
def isL (c : Nat) : Bool := decide (65 ≤ c ∧ c ≤ 90)
def isS (c : Nat) : Bool := decide (97 ≤ c ∧ c ≤ 122)
def isD (c : Nat) : Bool := decide (48 ≤ c ∧ c ≤ 57)
theorem mem_letters (c : Nat) : decide (c ∈ sg (Str.ofString "ABCDEFGHIJKLMNOPQRSTUVWXYZ")) = isL c := by
  have h1 : ∀ c, c < 128 → decide (c ∈ sg (Str.ofString "ABCDEFGHIJKLMNOPQRSTUVWXYZ")) = isL c := by decide +kernel
  have h2 : ∀ c ∈ sg (Str.ofString "ABCDEFGHIJKLMNOPQRSTUVWXYZ"), c < 128 := by decide +kernel
  rcases Nat.lt_or_ge c 128 with h | h
  · exact h1 c h
  · rw [decide_eq_false fun q => absurd (h2 c q) (Nat.not_lt.mpr h)]
    unfold isL
    exact (decide_eq_false fun q => by omega).symm
theorem mem_digits (c : Nat) : decide (c ∈ sg (Str.ofString "0123456789")) = isD c := by
  have h1 : ∀ c, c < 128 → decide (c ∈ sg (Str.ofString "0123456789")) = isD c := by decide +kernel
  have h2 : ∀ c ∈ sg (Str.ofString "0123456789"), c < 128 := by decide +kernel
  rcases Nat.lt_or_ge c 128 with h | h
  · exact h1 c h
  · rw [decide_eq_false fun q => absurd (h2 c q) (Nat.not_lt.mpr h)]
    unfold isD
    exact (decide_eq_false fun q => by omega).symm
def isA (c : Nat) : Bool := decide (c = 40 ∨ c = 44 ∨ c = 47 ∨ c = 58)
theorem mem_ahead (c : Nat) : decide (c ∈ sg (Str.ofString "(,/:")) = isA c := by
  rw [show Str.ofString "(,/:" = ⟨#[40,44,47,58]⟩ from by decide +kernel]
  unfold isA
  rw [decide_eq_decide]
  show c ∈ ([40,44,47,58] : List Nat) ↔ _
  simp only [List.mem_cons, List.not_mem_nil, or_false]

section
variable {prog : Program} {w : World} {A : Around} {E : Value → Shared → Prop} {s : Shared} {c : Nat} {t u : Tok} {Q : Value → Shared → Prop}
theorem in_letters (h : Q (.bool (isL c)) s) : wpAny (model prog w) A (compareOp .In (.str ⟨#[c]⟩ t) (.str (Str.ofString "ABCDEFGHIJKLMNOPQRSTUVWXYZ") u)) Q E s := by
  refine P.in_str ?_
  rw [StrLaws.found_one, mem_letters]; exact h
theorem in_digits (h : Q (.bool (isD c)) s) : wpAny (model prog w) A (compareOp .In (.str ⟨#[c]⟩ t) (.str (Str.ofString "0123456789") u)) Q E s := by
  refine P.in_str ?_
  rw [StrLaws.found_one, mem_digits]; exact h
theorem in_ahead (h : Q (.bool (isA c)) s) : wpAny (model prog w) A (compareOp .In (.str ⟨#[c]⟩ t) (.str (Str.ofString "(,/:") u)) Q E s := by
  refine P.in_str ?_
  rw [StrLaws.found_one, mem_ahead]; exact h
theorem notin_letters (h : Q (.bool (!isL c)) s) : wpAny (model prog w) A (compareOp .NotIn (.str ⟨#[c]⟩ t) (.str (Str.ofString "ABCDEFGHIJKLMNOPQRSTUVWXYZ") u)) Q E s := by
  refine P.notIn_str ?_
  rw [StrLaws.found_one, mem_letters]; exact h

theorem item_at {value slice : Expr} {x : Str} {k : Nat} (hc : x.cps[k]? = some c) (hx : x.length ≤ 100000) (h : Q (.str ⟨#[c]⟩ s.toks) { s with toks := s.toks + 1 })
    (hs : subscripted slice false (.str x t) (.int (k : Int) u) = operate [.str x t, .int (k : Int) u] (getItem (.str x t) (.int (k : Int) u)))
    (ht : ∀ r, letTemporaryGo value (.str x t) r = pure ()) :
    wpAny (model prog w) A (subscriptTail value slice (.str x t) (.int (k : Int) u)) Q E s := by
  have hk : k < x.length := (Array.getElem?_eq_some_iff.mp hc).1
  refine item_str (fitsSsize_of (N := 9223372036854775808) (by omega) (by omega) (Int.le_refl _)) (by omega) (by omega) (fun _ => ?_) hs ht
  rw [item_meets (by omega) (by rw [Int.toNat_natCast]; exact hc)]
  exact h
theorem item_lt {value slice : Expr} {x : Str} {k : Nat} (hk : k < x.length) (hx : x.length ≤ 100000) (h : ∀ c, x.cps[k]? = some c → Q (.str ⟨#[c]⟩ s.toks) { s with toks := s.toks + 1 })
    (hs : subscripted slice false (.str x t) (.int (k : Int) u) = operate [.str x t, .int (k : Int) u] (getItem (.str x t) (.int (k : Int) u)))
    (ht : ∀ r, letTemporaryGo value (.str x t) r = pure ()) :
    wpAny (model prog w) A (subscriptTail value slice (.str x t) (.int (k : Int) u)) Q E s := by
  have e : x.cps[k]? = some x.cps[k] := Array.getElem?_eq_some_iff.mpr ⟨hk, rfl⟩
  exact item_at e hx (h _ e) hs ht
end
section
variable {P Q : Prop} {x : Str} {k : Nat}
theorem one_none (h : x.length ≤ k) : Txt.slice x (some (k : Int)) (some ((k : Int) + 1)) = tx [] := by
  have e := slice_ss x k (k + 1) (by omega)
  rw [show ((k + 1 : Nat) : Int) = (k : Int) + 1 from rfl] at e
  rw [e, List.drop_of_length_le (by rw [len_sg]; omega)]; simp
theorem one_some {c : Nat} (h : x.cps[k]? = some c) : Txt.slice x (some (k : Int)) (some ((k : Int) + 1)) = ⟨#[c]⟩ := by
  have e := slice_ss x k (k + 1) (by omega)
  rw [show ((k + 1 : Nat) : Int) = (k : Int) + 1 from rfl] at e
  have hk : k < (sg x).length := by rw [len_sg]; exact (Array.getElem?_eq_some_iff.mp h).1
  have hg : (sg x)[k] = c := by
    have := (Array.getElem?_eq_some_iff.mp h).2
    simpa using this
  rw [e, List.drop_eq_getElem_cons hk, show k + 1 - k = 1 from by omega, hg]
  rfl
theorem split_emp {y : Str} (h1 : y.length = 0 → P) (h2 : 0 < y.length → Q) : if (y == Str.ofString "") = true then P else Q := by
  rcases Nat.eq_zero_or_pos y.length with h | h
  · have e : y = Str.ofString "" := by
      rw [show Str.ofString "" = ⟨#[]⟩ from by decide +kernel]
      obtain ⟨a⟩ := y
      have : a = #[] := Array.eq_empty_of_size_eq_zero h
      rw [this]
    rw [if_pos (by rw [e]; exact beq_self_eq_true _)]
    exact h1 h
  · rw [if_neg]
    · exact h2 h
    · intro q
      rw [eq_of_beq q] at h
      exact absurd h (by decide +kernel)
theorem split_end (h1 : x.length ≤ k → P) (h2 : ∀ c, k < x.length → x.cps[k]? = some c → Q) : if (Txt.slice x (some (k : Int)) (some ((k : Int) + 1)) == Str.ofString "") = true then P else Q := by
  rcases Nat.lt_or_ge k x.length with h | h
  · have e : x.cps[k]? = some x.cps[k] := Array.getElem?_eq_some_iff.mpr ⟨h, rfl⟩
    rw [one_some e, if_neg]
    · exact h2 _ h e
    · rw [show Str.ofString "" = tx [] from by decide +kernel]
      intro q
      exact absurd (congrArg Str.length (eq_of_beq q)) (by show ¬ (1 = 0); omega)
  · rw [one_none h, if_pos (by decide +kernel)]
    exact h1 h
end
section
variable {prog : Program} {w : World} {A : Around} {E : Value → Shared → Prop} {s : Shared} {x y : Str} {t u : Tok} {Q : Value → Shared → Prop}
theorem add_txt (hx : x.length ≤ 4000000) (hy : y.length ≤ 4000000) (h : ∀ t' k, (x ++ y).length = x.length + y.length → Q (.str (x ++ y) t') { s with toks := k }) : wpAny (model prog w) A (binaryOp .Add (.str x t) (.str y u)) Q E s :=
  SBL.add (fun t' k _ => h t' k (PySem.Str.length_append ..)) (by rw [sizeLine_eq]; omega)
theorem iadd_txt (hx : x.length ≤ 4000000) (hy : y.length ≤ 4000000) (h : ∀ t' k, (x ++ y).length = x.length + y.length → Q (.str (x ++ y) t') { s with toks := k }) : wpAny (model prog w) A (inplaceOp .Add (.str x t) (.str y u)) Q E s :=
  SBL.iadd (fun t' k _ => h t' k (PySem.Str.length_append ..)) (by rw [sizeLine_eq]; omega)
end

end

-- text B4
section
open PySem PySem.W PyProof.Rows PySem.Spec PySem.Calls
def wipe (h : Heap) (a : Addr) : Heap := h.update a (fun _ => ⟨.none, none, .freed, #[]⟩)
theorem wipe_size (h : Heap) (a : Addr) : (wipe h a).objs.size = h.objs.size := by
  obtain ⟨o, l⟩ := h
  show (o.modify a _).size = o.size
  rw [Array.size_modify]
theorem wipe_self (h : Heap) (a : Addr) : (wipe h a).get? a = none := by
  obtain ⟨o, l⟩ := h
  unfold wipe Heap.update Heap.get?
  simp only [Array.getElem?_modify, if_true]
  cases o[a]? <;> rfl
theorem wipe_other (h : Heap) {a b : Addr} (e : b ≠ a) : (wipe h a).get? b = h.get? b := Heap.get?_update_other h _ (fun q => e q.symm)
/-- the heap without the purse -/
def bare (h : Heap) (pd pl : Addr) : Heap := wipe (wipe h pd) pl
theorem bare_size (h : Heap) (pd pl : Addr) : (bare h pd pl).objs.size = h.objs.size := by unfold bare; rw [wipe_size, wipe_size]
theorem bare_pd (h : Heap) (pd pl : Addr) : (bare h pd pl).get? pd = none := by
  unfold bare
  by_cases e : pd = pl
  · rw [e]; exact wipe_self _ _
  · rw [wipe_other _ e]; exact wipe_self _ _
theorem bare_pl (h : Heap) (pd pl : Addr) : (bare h pd pl).get? pl = none := wipe_self _ _
theorem bare_other (h : Heap) {pd pl b : Addr} (e1 : b ≠ pd) (e2 : b ≠ pl) : (bare h pd pl).get? b = h.get? b := by
  unfold bare; rw [wipe_other _ e2, wipe_other _ e1]
theorem bare_some {h : Heap} {pd pl b : Addr} {o : Obj} (e : (bare h pd pl).get? b = some o) : b ≠ pd ∧ b ≠ pl ∧ h.get? b = some o := by
  have h1 : b ≠ pd := fun q => by rw [q, bare_pd] at e; cases e
  have h2 : b ≠ pl := fun q => by rw [q, bare_pl] at e; cases e
  rw [bare_other _ h1 h2] at e
  exact ⟨h1, h2, e⟩

/-- the purse: its dict, its list -/
inductive Pu (w : World) (pl : Addr) (B : Nat) (od ol : Obj) : Prop
  | mk (t : Tok) (k : Nat) (vs : List Value) (ns : List Int) (n : Nat) (q0 : ol = listOf vs.toArray n) (q1 : Obj.IsDictOf (strKind PG w) od [(Str.ofString "left", .ref pl), (Str.ofString "turn", .int k t)]) (q2 : IntsAre vs ns) (q3 : ns.length ≤ 40) (q4 : k ≤ B) : Pu w pl B od ol

def CtrP (w : World) (d : Nat) (f : Addr) (pd pl : Addr) (args : List Value) (B B' : Nat) {ι : Type} (res : ι → Value) (post : ι → Heap → Heap → Prop) : Prop :=
  ∀ (dp un : Nat) (gd : Option (List Code)) (fr : Option (List Env)) (mean : ExcName → Option Value) (mg mb : Str → Option Value) (s : Shared) (Q E : Value → Shared → Prop) (g : Heap) (od ol : Obj),
    dp + d < 900 → un + 8 * d < 9000 → (frag.heap_1 w.params).In g → Top view LO mean mg mb g → (∀ b o, g.get? b = some o → s.heap.get? b = some o) →
    g.get? pd = none → g.get? pl = none → pd ≠ pl → s.heap.get? pd = some od → s.heap.get? pl = some ol → Pu w pl B od ol →
    (∀ i h' tk od' ol', (∀ b o, b ≠ pd → b ≠ pl → s.heap.get? b = some o → h'.get? b = some o) → h'.get? pd = some od' → h'.get? pl = some ol' → Pu w pl B' od' ol' → post i s.heap h' → Q (res i) { s with heap := h', toks := tk }) →
    wpAny (model PG w) (AA dp un gd fr) (call (.ref f) args) Q E s

inductive RetP (w : World) (s : Shared) (pd pl : Addr) (B : Nat) {ι : Type} (res : ι → Value) (post : ι → Heap → Heap → Prop) (fl : Flow) (s' : Shared) : Prop
  | mk (i : _) (h' : _) (tk : _) (od' : _) (ol' : _) (q0 : flv fl = res i) (q1 : s' = { s with heap := h', toks := tk }) (q2 : (∀ b o, b ≠ pd → b ≠ pl → s.heap.get? b = some o → h'.get? b = some o)) (q3 : h'.get? pd = some od') (q4 : h'.get? pl = some ol') (q5 : Pu w pl B od' ol') (q6 : post i s.heap h') : RetP w s pd pl B res post fl s'

theorem CtrP.enter {w : World} {d : Nat} {f pd pl : Addr} {args : List Value} {B B' : Nat} {ι : Type} {res : ι → Value} {post : ι → Heap → Heap → Prop}
    {name qual : Str} {params : Arguments} {body : List Stmt} {scope : Scope} {dV kV doc pm cdv ct oc : Value} {an od : Option Addr} {osl : Array (Option Value)} {lk : List (Str × Value)}
    (ho : (frag.heap_1 w.params).lookup f = some ⟨oc, od, .func (fnOf name qual params body scope dV kV doc pm an cdv ct), osl⟩)
    (hcd : codeIn (frag.heap_1 w.params) cdv qual = true)
    (hbind : bindArgs (fnOf name qual params body scope dV kV doc pm an cdv ct) ⟨args, []⟩ = pure ((params.args.map (·.arg)).zip args)) (hlk : ((params.args.map (·.arg)).zip args).reverse = lk)
    (hloc : ∀ y ∈ (params.args.map (·.arg)).zip args, scope.names.lookup y.1 = some .local)
    (hco : scope.isCoroutine = false) (hgen : scope.isGenerator = false) (hk : scope.kind = .function) (hcell : ∀ x ∈ scope.names, x.2 ≠ .cell)
    (h : ∀ (dp un : Nat) (gd : Option (List Code)) (fr : Option (List Env)) (mean : ExcName → Option Value) (mg mb : Str → Option Value) (s : Shared) (L : Addr) (h₁ : Heap) (tk : Nat) (g : Heap) (od ol : Obj),
      dp + d < 900 → un + 8 * d < 9000 → (frag.heap_1 w.params).In g → Top view LO mean mg mb g → g = bare s.heap pd pl → pd ≠ pl → Pu w pl B od ol → pd < L ∧ pl < L →
      Fr g L h₁ (fun y => lk.lookup y) → News g L h₁ [(pd, od), (pl, ol)] →
      wpAny (model PG w) (AA dp un gd fr) (execs body (envOf qual scope L f cdv)) (RetP w s pd pl B' res post) (fun _ _ => False) { s with heap := h₁, toks := tk }) :
    CtrP w (d + 1) f pd pl args B B' res post := by
  intro dp un gd fr mean mg mb s Q E g od ol hdp hun X T hg gd0 gl0 hne hpd hpl hP hQ
  have kg : ∀ b o, g.get? b = some o → (bare s.heap pd pl).get? b = some o := fun b o e => by
    rw [bare_other _ (fun q => by rw [q, gd0] at e; cases e) (fun q => by rw [q, gl0] at e; cases e)]; exact hg b o e
  refine wpAny_call (codeAny_call_def (fd := fnOf name qual params body scope dV kV doc pm an cdv ct) (body := body) (binds := (params.args.map (·.arg)).zip args)
    (by show dp < 1000; omega) (hg _ _ (X _ _ ho)) rfl (T.keeps hg).nolimit (codeRec_of (X.keeps hg) hcd) rfl (.of_eq hbind) hcell hloc (fun h₁ hns hk₁ => ?_) hco hgen hk)
  rw [hlk] at hns
  have sd : pd < s.heap.objs.size := Heap.lt_size hpd
  have sl : pl < s.heap.objs.size := Heap.lt_size hpl
  refine wpAny_mono (h (dp + 1) (un + 3) gd (fr.map (callEnv (fnOf name qual params body scope dV kV doc pm an cdv ct) s.heap.objs.size f :: ·)) mean mg mb s s.heap.objs.size h₁ _ (bare s.heap pd pl) od ol (by omega) (by omega) (X.keeps kg) (T.keeps kg) rfl hne hP ⟨sd, sl⟩
    ⟨hns, fun b o e => hk₁ b o (bare_some e).2.2, by rw [bare_size]; exact Nat.le_refl _⟩ (fun p hp => ?_)) (fun fl s' hr => ?_) (fun _ _ x => x.elim)
  · rcases List.mem_cons.mp hp with rfl | hp
    · exact ⟨hk₁ _ _ hpd, Nat.ne_of_lt sd, bare_pd ..⟩
    · rw [List.mem_singleton.mp hp]
      exact ⟨hk₁ _ _ hpl, Nat.ne_of_lt sl, bare_pl ..⟩
  obtain ⟨i, h', tk, od', ol', e, rfl, hst, h1, h2, h3, hp⟩ := hr
  have q := hQ i h' tk od' ol' hst h1 h2 h3 hp
  cases fl <;> (rw [← e] at q; exact q)

theorem CtrP.use {w : World} {d : Nat} {f pd pl : Addr} {args : List Value} {B B' : Nat} {ι : Type} {res : ι → Value} {post : ι → Heap → Heap → Prop}
    (C : CtrP w d f pd pl args B B' res post) {dp un : Nat} {gd : Option (List Code)} {fr : Option (List Env)} {mean : ExcName → Option Value} {mg mb : Str → Option Value} {s : Shared} {Q E : Value → Shared → Prop}
    {h₀ : Heap} {L : Addr} {m : Str → Option Value} {od ol : Obj} (A : List (Addr × Obj))
    (F : Fr h₀ L s.heap m) (N : News h₀ L s.heap (A ++ [(pd, od), (pl, ol)])) (X : (frag.heap_1 w.params).In h₀) (T : Top view LO mean mg mb h₀)
    (hdp : dp + d < 900) (hun : un + 8 * d < 9000) (hne : pd ≠ pl) (hP : Pu w pl B od ol) (hA : ∀ p ∈ A, p.1 ≠ pd ∧ p.1 ≠ pl)
    (k : ∀ i h' tk od' ol', Fr h₀ L h' m → News h₀ L h' (A ++ [(pd, od'), (pl, ol')]) → Pu w pl B' od' ol' → post i s.heap h' → Q (res i) { s with heap := h', toks := tk }) :
    wpAny (model PG w) (AA dp un gd fr) (call (.ref f) args) Q E s := by
  obtain ⟨d1, d2, d3⟩ := N (pd, od) (List.mem_append_right _ (List.mem_cons_self ..))
  obtain ⟨l1, l2, l3⟩ := N (pl, ol) (List.mem_append_right _ (List.mem_cons_of_mem _ (List.mem_cons_self ..)))
  dsimp only at *
  refine C dp un gd fr mean mg mb s Q E h₀ od ol hdp hun X T F.keep d3 l3 hne d1 l1 hP fun i h' tk od' ol' hs h1 h2 h3 hp => ?_
  refine k i h' tk od' ol' ⟨F.ns.at' fun o e => hs _ _ (Ne.symm d2) (Ne.symm l2) e, fun b o e => hs b o (fun q => by rw [q, d3] at e; cases e) (fun q => by rw [q, l3] at e; cases e) (F.keep b o e), F.above⟩ (fun p hp => ?_) h3 hp
  rcases List.mem_append.mp hp with hp | hp
  · obtain ⟨n1, n2, n3⟩ := N p (List.mem_append_left _ hp)
    exact ⟨hs _ _ (hA p hp).1 (hA p hp).2 n1, n2, n3⟩
  · rcases List.mem_cons.mp hp with rfl | hp
    · exact ⟨h1, d2, d3⟩
    · rw [List.mem_singleton.mp hp]
      exact ⟨h2, l2, l3⟩

section
variable {w : World} {d : Nat} {f pd pl : Addr} {args : List Value} {B B' : Nat} {ι : Type} {res : ι → Value} {post : ι → Heap → Heap → Prop} {dp un : Nat} {gd : Option (List Code)} {fr : Option (List Env)} {mean : ExcName → Option Value} {mg mb : Str → Option Value} {s : Shared} {Q E : Value → Shared → Prop}
    {h₀ : Heap} {L : Addr} {m : Str → Option Value} {od ol : Obj} {p1 p2 p3 : Addr × Obj}
theorem CtrP.use0 (C : CtrP w d f pd pl args B B' res post)
    (F : Fr h₀ L s.heap m) (N : News h₀ L s.heap [(pd, od), (pl, ol)]) (X : (frag.heap_1 w.params).In h₀) (T : Top view LO mean mg mb h₀)
    (hdp : dp + d < 900) (hun : un + 8 * d < 9000) (hne : pd ≠ pl) (hP : Pu w pl B od ol)
    (k : ∀ i h' tk od' ol', Fr h₀ L h' m → News h₀ L h' [(pd, od'), (pl, ol')] → Pu w pl B' od' ol' → post i s.heap h' → Q (res i) { s with heap := h', toks := tk }) :
    wpAny (model PG w) (AA dp un gd fr) (call (.ref f) args) Q E s := CtrP.use C [] F N X T hdp hun hne hP (fun _ hp => nomatch hp) k
theorem CtrP.use1 (C : CtrP w d f pd pl args B B' res post)
    (F : Fr h₀ L s.heap m) (N : News h₀ L s.heap [p1, (pd, od), (pl, ol)]) (X : (frag.heap_1 w.params).In h₀) (T : Top view LO mean mg mb h₀)
    (hdp : dp + d < 900) (hun : un + 8 * d < 9000) (hne : pd ≠ pl) (hP : Pu w pl B od ol) (h1 : p1.1 ≠ pd ∧ p1.1 ≠ pl)
    (k : ∀ i h' tk od' ol', Fr h₀ L h' m → News h₀ L h' [p1, (pd, od'), (pl, ol')] → Pu w pl B' od' ol' → post i s.heap h' → Q (res i) { s with heap := h', toks := tk }) :
    wpAny (model PG w) (AA dp un gd fr) (call (.ref f) args) Q E s := CtrP.use C [p1] F N X T hdp hun hne hP (fun p hp => by rw [List.mem_singleton.mp hp]; exact h1) k
theorem CtrP.use2 (C : CtrP w d f pd pl args B B' res post)
    (F : Fr h₀ L s.heap m) (N : News h₀ L s.heap [p1, p2, (pd, od), (pl, ol)]) (X : (frag.heap_1 w.params).In h₀) (T : Top view LO mean mg mb h₀)
    (hdp : dp + d < 900) (hun : un + 8 * d < 9000) (hne : pd ≠ pl) (hP : Pu w pl B od ol) (h1 : p1.1 ≠ pd ∧ p1.1 ≠ pl) (h2 : p2.1 ≠ pd ∧ p2.1 ≠ pl)
    (k : ∀ i h' tk od' ol', Fr h₀ L h' m → News h₀ L h' [p1, p2, (pd, od'), (pl, ol')] → Pu w pl B' od' ol' → post i s.heap h' → Q (res i) { s with heap := h', toks := tk }) :
    wpAny (model PG w) (AA dp un gd fr) (call (.ref f) args) Q E s := CtrP.use C [p1, p2] F N X T hdp hun hne hP (fun p hp => by
      rcases List.mem_cons.mp hp with rfl | hp
      · exact h1
      · rw [List.mem_singleton.mp hp]; exact h2) k
theorem CtrP.use3 (C : CtrP w d f pd pl args B B' res post)
    (F : Fr h₀ L s.heap m) (N : News h₀ L s.heap [p1, p2, p3, (pd, od), (pl, ol)]) (X : (frag.heap_1 w.params).In h₀) (T : Top view LO mean mg mb h₀)
    (hdp : dp + d < 900) (hun : un + 8 * d < 9000) (hne : pd ≠ pl) (hP : Pu w pl B od ol) (h1 : p1.1 ≠ pd ∧ p1.1 ≠ pl) (h2 : p2.1 ≠ pd ∧ p2.1 ≠ pl) (h3 : p3.1 ≠ pd ∧ p3.1 ≠ pl)
    (k : ∀ i h' tk od' ol', Fr h₀ L h' m → News h₀ L h' [p1, p2, p3, (pd, od'), (pl, ol')] → Pu w pl B' od' ol' → post i s.heap h' → Q (res i) { s with heap := h', toks := tk }) :
    wpAny (model PG w) (AA dp un gd fr) (call (.ref f) args) Q E s := CtrP.use C [p1, p2, p3] F N X T hdp hun hne hP (fun p hp => by
      rcases List.mem_cons.mp hp with rfl | hp
      · exact h1
      · rcases List.mem_cons.mp hp with rfl | hp
        · exact h2
        · rw [List.mem_singleton.mp hp]; exact h3) k
end
/-- leave a function that had the purse -/
theorem retP {w : World} {s : Shared} {pd pl : Addr} {B : Nat} {ι : Type} {res : ι → Value} {post : ι → Heap → Heap → Prop} {fl : Flow} {L : Addr} {m : Str → Option Value} {h' : Heap} {tk : Nat} {nx : List (Addr × Obj)} {od ol : Obj} (i : ι)
    (F : Fr (bare s.heap pd pl) L h' m) (N : News (bare s.heap pd pl) L h' nx) (hd : (pd, od) ∈ nx) (hl : (pl, ol) ∈ nx) (hP : Pu w pl B od ol) (e : flv fl = res i) (hp : post i s.heap h') :
    RetP w s pd pl B res post fl { s with heap := h', toks := tk } :=
  ⟨i, h', tk, od, ol, e, rfl, fun b o h1 h2 hb => F.keep b o (by rw [bare_other _ h1 h2]; exact hb), (N _ hd).1, (N _ hl).1, hP, hp⟩

end

-- text B5
section
open PySem PySem.W PyProof.Rows PySem.Spec PySem.Calls
/-- what a body of an `__init__` leaves -/
inductive RetI (s : Shared) (x : Addr) {ι : Type} (res : ι → Value) (post : ι → Heap → Heap → Prop) (fl : Flow) (s' : Shared) : Prop
  | mk (p0 : flv fl = .none) (i : _) (h' : _) (tk : _) (q0 : res i = .ref x) (q1 : s' = { s with heap := h', toks := tk }) (q2 : s.heap.StaysIn h') (q3 : post i s.heap h') : RetI s x res post fl s'

theorem call_weight (C : Addr) (args : List Value) : (Code.builtin "type.__call__" ⟨.ref C :: args, []⟩).weight = 1 := rfl
theorem call_units (C : Addr) (args : List Value) : (Code.builtin "type.__call__" ⟨.ref C :: args, []⟩).cUnits = 1 := rfl

theorem Ctr.ctor {w : World} {d : Nat} {C fI : Addr} {args : List Value} {pre : Heap → Prop} {ι : Type} {res : ι → Value} {post : ι → Heap → Heap → Prop}
    {name qual : Str} {params : Arguments} {body : List Stmt} {scope : Scope} {dV kV doc pm cdv ct oc : Value} {an od : Option Addr} {osl : Array (Option Value)} (lk : Addr → List (Str × Value)) (binds : Addr → List (Str × Value))
    (hm : makesIn (frag.heap_1 w.params) C = true) (hi : findIn (frag.heap_1 w.params) (.ref C) "__init__" = some (some (.ref fI))) (hf : isFn (frag.heap_1 w.params) (.ref fI) = true)
    (ho : (frag.heap_1 w.params).lookup fI = some ⟨oc, od, .func (fnOf name qual params body scope dV kV doc pm an cdv ct), osl⟩)
    (hcd : codeIn (frag.heap_1 w.params) cdv qual = true)
    (hbind : ∀ x s, (frag.heap_1 w.params).In s.heap → BindsTo s (fnOf name qual params body scope dV kV doc pm an cdv ct) ⟨.ref x :: args, []⟩ (binds x)) (hlk : ∀ x, (binds x).reverse = lk x)
    (hloc : ∀ x, ∀ y ∈ binds x, scope.names.lookup y.1 = some .local)
    (hco : scope.isCoroutine = false) (hgen : scope.isGenerator = false) (hk : scope.kind = .function) (hcell : ∀ x ∈ scope.names, x.2 ≠ .cell)
    (h : ∀ (dp un : Nat) (gd : Option (List Code)) (fr : Option (List Env)) (mean : ExcName → Option Value) (mg mb : Str → Option Value) (s : Shared) (x dx L : Addr) (h₁ : Heap) (tk : Nat),
      dp + d < 900 → un + 8 * d < 9000 → (frag.heap_1 w.params).In s.heap → Top view LO mean mg mb s.heap → pre s.heap → dx < x ∧ x < L →
      Fr s.heap L h₁ (fun y => (lk x).lookup y) → News s.heap L h₁ [(x, instObj C dx), (dx, dictOf [] 0)] →
      wpAny (model PG w) (AA dp un gd fr) (execs body (envOf qual scope L fI cdv)) (RetI s x res post) (fun _ _ => False) { s with heap := h₁, toks := tk }) :
    Ctr w (d + 2) C args pre res post := by
  intro dp un gd fr mean mg mb s Q E hdp hun X T hpre hQ
  refine wpAny_call ?_
  obtain ⟨hh, g, dr, t, os⟩ := s
  dsimp only at *
  refine make_core (makes_of X hm) (looks_findIn X hi) (fun self => bind_fn X self (beq_iff_eq.mp hf)) (.inl rfl) ?_
  have kx : ∀ b o, hh.get? b = some o → ((hh.push emptyDict).push (instObj C hh.objs.size)).get? b = some o := fun b o e => Heap.get?_push_of_some _ (Heap.get?_push_of_some _ e)
  have hw := call_weight C args
  have hu := call_units C args
  refine codeAny_call_def (fd := fnOf name qual params body scope dV kV doc pm an cdv ct) (body := body) (binds := binds (hh.objs.size + 1))
    (by show dp + _ < 1000; omega) (kx _ _ (X _ _ ho)) rfl (T.keeps kx).nolimit (codeRec_of (X.keeps kx) hcd) rfl (hbind _ _ (X.keeps kx)) hcell (hloc _) (fun h₁ hns hk₁ => ?_) hco hgen hk
  rw [hlk] at hns
  have sz : ((hh.push emptyDict).push (instObj C hh.objs.size)).objs.size = hh.objs.size + 1 + 1 := by rw [Heap.size_push, Heap.size_push]
  have g1 : ((hh.push emptyDict).push (instObj C hh.objs.size)).get? (hh.objs.size + 1) = some (instObj C hh.objs.size) := by heap_get
  have g2 : ((hh.push emptyDict).push (instObj C hh.objs.size)).get? hh.objs.size = some emptyDict := by heap_get
  refine wpAny_mono (h (dp + (Code.builtin "type.__call__" ⟨.ref C :: args, []⟩).weight + 1) (un + (Code.builtin "type.__call__" ⟨.ref C :: args, []⟩).cUnits + 3) _ _ mean mg mb ⟨hh, g, dr, t, os⟩ (hh.objs.size + 1) hh.objs.size _ h₁ _ (by omega) (by omega) X T hpre ⟨Nat.lt_succ_self _, by rw [sz]; exact Nat.lt_succ_self _⟩
    ⟨hns, fun b o e => hk₁ b o (kx b o e), by rw [sz]; show hh.objs.size ≤ _; omega⟩ (fun p hp => ?_)) (fun fl s' hr => ?_) (fun _ _ x => x.elim)
  · have fresh : ∀ b, hh.objs.size ≤ b → hh.get? b = none := fun b hb => by
      cases q : hh.get? b with
      | none => rfl
      | some o => exact absurd (Heap.lt_size q) (Nat.not_lt.mpr hb)
    rcases List.mem_cons.mp hp with rfl | hp
    · exact ⟨hk₁ _ _ g1, by rw [sz]; exact Nat.ne_of_lt (Nat.lt_succ_self _), fresh _ (Nat.le_succ _)⟩
    · rw [List.mem_singleton.mp hp]
      exact ⟨hk₁ _ _ g2, by rw [sz]; exact Nat.ne_of_lt (by show hh.objs.size < _; omega), fresh _ (Nat.le_refl _)⟩
  · obtain ⟨hfl, i, h', tk, hres, rfl, hst, hp⟩ := hr
    have q := hQ i h' tk hst hp
    rw [hres] at q
    cases fl
    · exact ⟨rfl, q⟩
    · exact ⟨rfl, q⟩
    · exact ⟨rfl, q⟩
    · exact ⟨hfl, q⟩
theorem Ctr.enterT {w : World} {d : Nat} {f : Addr} {args : List Value} {pre : Heap → Prop} {ι : Type} {res : ι → Value} {post : ι → Heap → Heap → Prop}
    {name qual : Str} {params : Arguments} {body : List Stmt} {scope : Scope} {dV kV doc pm cdv ct oc : Value} {an od : Option Addr} {osl : Array (Option Value)} {lk : List (Str × Value)}
    (ho : (frag.heap_1 w.params).lookup f = some ⟨oc, od, .func (fnOf name qual params body scope dV kV doc pm an cdv ct), osl⟩)
    (hcd : codeIn (frag.heap_1 w.params) cdv qual = true)
    (hbind : bindArgs (fnOf name qual params body scope dV kV doc pm an cdv ct) ⟨args, []⟩ = pure ((params.args.map (·.arg)).zip args)) (hlk : ((params.args.map (·.arg)).zip args).reverse = lk)
    (hloc : ∀ y ∈ (params.args.map (·.arg)).zip args, scope.names.lookup y.1 = some .local)
    (hco : scope.isCoroutine = false) (hgen : scope.isGenerator = false) (hk : scope.kind = .function) (hcell : ∀ x ∈ scope.names, x.2 ≠ .cell)
    (h : ∀ (dp un : Nat) (gd : Option (List Code)) (fr : Option (List Env)) (mean : ExcName → Option Value) (mg mb : Str → Option Value) (s : Shared) (L : Addr) (h₁ : Heap) (tk : Nat),
      dp + d < 900 → un + 8 * d < 9000 → (frag.heap_1 w.params).In s.heap → Top view LO mean mg mb s.heap → pre s.heap → ((params.args.map (·.arg)).zip args).length ≤ tk →
      Fr s.heap L h₁ (fun y => lk.lookup y) → News s.heap L h₁ [] →
      wpAny (model PG w) (AA dp un gd fr) (execs body (envOf qual scope L f cdv)) (Ret s res post) (fun _ _ => False) { s with heap := h₁, toks := tk }) :
    Ctr w (d + 1) f args pre res post := by
  intro dp un gd fr mean mg mb s Q E hdp hun X T hpre hQ
  refine wpAny_call (codeAny_call_def (fd := fnOf name qual params body scope dV kV doc pm an cdv ct) (body := body) (binds := (params.args.map (·.arg)).zip args)
    (by show dp < 1000; omega) (X _ _ ho) rfl T.nolimit (codeRec_of X hcd) rfl (.of_eq hbind) hcell hloc (fun h₁ hns hk₁ => ?_) hco hgen hk)
  rw [hlk] at hns
  refine wpAny_mono (h (dp + 1) (un + 3) gd (fr.map (callEnv (fnOf name qual params body scope dV kV doc pm an cdv ct) s.heap.objs.size f :: ·)) mean mg mb s s.heap.objs.size h₁ _ (by omega) (by omega) X T hpre (Nat.le_add_left _ _)
    ⟨hns, hk₁, Nat.le_refl _⟩ News.nil) (fun fl s' hr => ?_) (fun _ _ x => x.elim)
  obtain ⟨i, h', tk, e, rfl, hst, hp⟩ := hr
  have q := hQ i h' tk hst hp
  cases fl <;> (rw [← e] at q; exact q)

theorem inst_base {h₀ h : Heap} {L x C : Addr} {ox : Obj} {od : Option Obj} {m : Str → Option Value} (I : InstAt h₀ x ox C od) (F : Fr h₀ L h m) : InstAt h x ox C od := by
  obtain ⟨a, b, c, d⟩ := I
  refine ⟨F.keep _ _ a, b, c, ?_⟩
  revert d
  cases ox.dict <;> cases od <;> intro d <;> first | trivial | exact d.elim | exact F.keep _ _ d

end

-- text B6
section
open PySem PySem.W PyProof.Rows PySem.Spec PySem.Calls
/-- as CtrP.enter, for a def that has cells -/
theorem CtrP.enterC {w : World} {d : Nat} {f pd pl : Addr} {args : List Value} {B B' : Nat} {ι : Type} {res : ι → Value} {post : ι → Heap → Heap → Prop}
    {name qual : Str} {params : Arguments} {body : List Stmt} {scope : Scope} {dV kV doc pm cdv ct oc : Value} {an od : Option Addr} {osl : Array (Option Value)} {binds : List (Str × Value)}
    (ho : (frag.heap_1 w.params).lookup f = some ⟨oc, od, .func (fnOf name qual params body scope dV kV doc pm an cdv ct), osl⟩)
    (hcd : codeIn (frag.heap_1 w.params) cdv qual = true)
    (hbind : bindArgs (fnOf name qual params body scope dV kV doc pm an cdv ct) ⟨args, []⟩ = pure binds)
    (hkind : (binds.all fun y => scope.names.lookup y.1 == some .local || scope.names.lookup y.1 == some .cell) = true)
    (hnd : ((cellsFrom 0 scope.names []).map (·.1)).Nodup)
    (hco : scope.isCoroutine = false) (hgen : scope.isGenerator = false) (hk : scope.kind = .function)
    (h : ∀ (dp un : Nat) (gd : Option (List Code)) (fr : Option (List Env)) (mean : ExcName → Option Value) (mg mb : Str → Option Value) (s : Shared) (L : Addr) (h₁ : Heap) (tk : Nat) (g : Heap) (od ol : Obj) (cells : List (Addr × Obj)),
      dp + d < 900 → un + 8 * d < 9000 → (frag.heap_1 w.params).In g → Top view LO mean mg mb g → g = bare s.heap pd pl → pd ≠ pl → Pu w pl B od ol → pd < L ∧ pl < L →
      Fr g L h₁ (bindL (envOfC qual scope L f cdv).kindOf binds fun _ => none) → News g L h₁ (cells ++ [(pd, od), (pl, ol)]) →
      CellsAre (bindC (envOfC qual scope L f cdv).kindOf binds fun _ => none) (cellsFrom (L + 1) scope.names []) cells →
      wpAny (model PG w) (AA dp un gd fr) (execs body (envOfC qual scope L f cdv)) (RetP w s pd pl B' res post) (fun _ _ => False) { s with heap := h₁, toks := tk }) :
    CtrP w (d + 1) f pd pl args B B' res post := by
  intro dp un gd fr mean mg mb s Q E g od ol hdp hun X T hg gd0 gl0 hne hpd hpl hP hQ
  have kg : ∀ b o, g.get? b = some o → (bare s.heap pd pl).get? b = some o := fun b o e => by
    rw [bare_other _ (fun q => by rw [q, gd0] at e; cases e) (fun q => by rw [q, gl0] at e; cases e)]; exact hg b o e
  refine wpAny_call (codeAny_call_function (by show dp < 1000; omega) (hg _ _ (X _ _ ho)) rfl hco hgen rfl (codeRec_of (X.keeps hg) hcd) ((BindsTo.of_eq (s := s) hbind) _ _ _ _ ?_))
  refine wpAny_newFunctionEnv_cells hk (kindsX hkind _) fun env' he s' x => ?_
  subst he
  refine ⟨(T.keeps hg).nolimit.keeps x.toInCall.keep, codeAny_func ?_⟩
  obtain ⟨h₁, tk, rfl, _⟩ := x.done
  have hk₁ := x.toInCall.keep
  obtain ⟨cells, NC, Y⟩ := Cl.news (h₀ := s.heap) (Nat.le_refl _) fun n c hm => ⟨x.cell n c (lookup_of_mem_nodup (cellsFrom_names scope.names 0 (s.heap.objs.size + 1) [] [] rfl ▸ hnd) hm), x.above n c hm⟩
  have sd : pd < s.heap.objs.size := Heap.lt_size hpd
  have sl : pl < s.heap.objs.size := Heap.lt_size hpl
  refine wpAny_mono (h (dp + 1) (un + 3) gd (fr.map (_ :: ·)) mean mg mb s s.heap.objs.size h₁ tk (bare s.heap pd pl) od ol cells (by omega) (by omega) (X.keeps kg) (T.keeps kg) rfl hne hP ⟨sd, sl⟩
    ⟨x.toInCall.ns, fun b o e => hk₁ b o (bare_some e).2.2, by rw [bare_size]; exact Nat.le_refl _⟩ (fun p hp => ?_) Y) (fun fl s' hr => ?_) (fun _ _ x => x.elim)
  · rcases List.mem_append.mp hp with hp | hp
    · refine ⟨(NC p hp).1, (NC p hp).2.1, ?_⟩
      cases q : (bare s.heap pd pl).get? p.1 with
      | none => rfl
      | some o => have := (bare_some q).2.2; rw [(NC p hp).2.2] at this; cases this
    · rcases List.mem_cons.mp hp with rfl | hp
      · exact ⟨hk₁ _ _ hpd, Nat.ne_of_lt sd, bare_pd ..⟩
      · rw [List.mem_singleton.mp hp]
        exact ⟨hk₁ _ _ hpl, Nat.ne_of_lt sl, bare_pl ..⟩
  obtain ⟨i, h', tk, od', ol', e, rfl, hst, h1, h2, h3, hp⟩ := hr
  have q := hQ i h' tk od' ol' hst h1 h2 h3 hp
  cases fl <;> (rw [← e] at q; exact q)

end

-- text B7
section
open PySem PySem.W PyProof.Rows PySem.Spec PySem.Calls Builtin Builtin.ObjectAttr
set_option maxRecDepth 100000
set_option maxHeartbeats 400000
section
variable {prog : Program} {w : World} {A : Around} {E : Value → Shared → Prop} {s : Shared} {K : Frag} {x C : Addr} {ox : Obj} {od : Option Obj} {name : Str} {expr : Bool} {Q : Value → Shared → Prop}
theorem bga_kind : builtinKind "BaseException.__getattribute__" = some .slot := by decide +kernel
theorem bga_split : splitId "BaseException.__getattribute__" = some ("BaseException", "__getattribute__") := by decide +kernel
theorem bga_plain : plainId "BaseException.__getattribute__" = true := by decide +kernel
theorem bga_bind (self : Value) : bindSpecial (.builtin "BaseException.__getattribute__") self = pure (.builtin "BaseException.__getattribute__", [self]) :=
  (Slot.of (T := "Exception") (name := "__getattribute__") (owner := "BaseException") (n := "__getattribute__") (by rw [typeLookup_type, builtinLookup_eq_fast]; kernel_rfl) bga_split (by decide +kernel) (by decide +kernel)
    (.inl (by decide +kernel)) (by rw [isSubtype_type]; kernel_rfl)).bind self
/-- a field that an exception's own dict holds -/
theorem exc_get {v : Value} (X : K.In s.heap) (I : InstAt s.heap x ox C od) (hga : findIn K (.ref C) "__getattribute__" = some (some (.builtin "BaseException.__getattribute__")))
    (hb : mroIn K C (.type "BaseException") = some true) (hk : findIn K (.ref C) "__getattr__" = some none)
    (hf : findObj K C od name = some (.value v)) (hh : handedIn v = true) (h : Q v { s with toks := s.toks + 1 }) : wpAny (model prog w) A (getAttr (.ref x) name expr) Q E s := by
  obtain ⟨hp, g, d, t, os⟩ := s
  have L0 := I.type (M := model prog w)
  have L1 := looks_findIn (M := model prog w) X hga
  have L2 := looks_findIn (M := model prog w) X hk
  have L3 := looks_find (M := model prog w) X I hf
  have L4 : Looks (model prog w) hp (isInstance (.ref x) (.type "BaseException")) true := L0.andThen (looks_mroIn X hb)
  have e0 : (expr && onTheHeap (Value.builtin "BaseException.__getattribute__")) = false := by cases expr <;> rfl
  unfold getAttr getAttrBy
  refine wpAny_bind (wpAny_mkText (wpAny_holding (wpAny_bind (L0.at (wpAny_bind (L1.at ?_))))))
  show wpAny _ _ (getAttrByItsOwn _ _ _ _ _ _) _ _ _
  unfold getAttrByItsOwn
  refine wpAny_bind ?_
  show wpAny _ _ (typeLookup _ _) _ _ _
  refine L2.at ?_
  refine wpAny_bind (wpAny_attempt (wpAny_holding ?_))
  unfold callGetattribute
  rw [e0]
  show wpAny _ _ (boundAndCalled _ _ _) _ _ _
  unfold boundAndCalled
  rw [bga_bind]
  refine wpAny_bind (wpAny_pure (wpAny_call ?_))
  refine codeAny_call_builtin bga_plain F.entry_bexc_ga (@check_slot (model prog w) _ _ _ "BaseException.__getattribute__" "BaseException" "__getattribute__" (.ref x) [.str name t] [] _ bga_kind bga_split L4 (F.args_bexc_ga (.ref x) (.str name t)) ?_)
  unfold Builtin.«object.__getattribute__»
  refine wpAny_bind (wpAny_pure (wpAny_bind (wpAny_pure (wpAny_bind (L0.at (wpAny_bind (L3.at ?_)))))))
  refine wpAny_pure ?_
  show wpAny _ _ (handedOut v) _ _ _
  rw [handedOut_of hh]; exact wpAny_pure h
end

abbrev exO (C t : Addr) (d : Option Addr) : Obj := { cls := .ref C, dict := d, data := .fields #[.ref t, .none, .none, .none, .bool false, .none] }
abbrev tupO (vs : List Value) : Obj := { cls := .type "tuple", data := .seq vs.toArray }
section
variable {prog : Program} {w : World} {A : Around} {E : Value → Shared → Prop} {h : Heap} {g : Array GenState} {d : Drawn} {t : Nat} {os : OsState}
variable {nm q : Str} {C N : Addr} {bs bm : List Value} {hdct : Bool} {sn : List Str} {sub : List Value} {ab : Bool} {col : Option Bool} {dd : Option Addr} {k0 k1 k2 k3 k5 : Option Value} {newId : String}
theorem check_initX {M : Model} {e : Addr} {oe : Obj} {rest : List Value} {Q : Unit → Shared → Prop}
    (hC : h.get? C = some (excClassObj nm q C N bs bm hdct sn sub ab col dd k0 k1 k2 k3 k5 newId)) (hB : bm.contains (.type "Exception") = true) (he : h.get? e = some oe) (hcls : oe.cls = .ref C) (hq : Q () ⟨h, g, d, t, os⟩) :
    wpAny M A (checkBuiltinCall "Exception.__init__" ⟨.ref e :: rest, []⟩) Q E ⟨h, g, d, t, os⟩ := by
  have F := PySem.F.excBase_Exception
  have hcB : (Value.ref C :: bm).contains (.type "Exception") = true := by rw [List.contains_cons, hB, Bool.or_true]
  have hshort := F.noStar
  simp only [checkBuiltinCall, F.initKind, F.initSplit, F.initRow]
  repeat (first | (with_reducible refine wpAny_loadPart_at he ?_; rw [hcls]) | with_reducible refine wpAny_loadPart_at hC ?_ | (with_reducible refine wpAny_isSubtype_exc hC ?_; rw [hcB]) | wp_step)
  refine wpAny_onRaise ?_
  rw [show ∀ (a b : String) (n : Nat), Bind.check ⟨.positional, "*", "Exception", .self, [⟨"args", .varPos, false⟩]⟩ a b n (List.map (fun x => x.fst) ({ pos := Value.ref e :: rest } : Args).kw) = pure () from
    fun a b n => check_star_args _ _ _ _ _ _]
  exact wpAny_pure hq
end
section
variable {prog : Program} {w : World} {A : Around} {E : Value → Shared → Prop} {s : Shared} {K : Frag} {e C t0 L : Addr} {h₀ : Heap} {m : Str → Option Value} {dx : Option Addr} {pre post : List (Addr × Obj)} {rest : List Value} {Q : Value → Shared → Prop}
/-- Exception.__init__ upon an own exception -/
theorem exc_init (F : Fr h₀ L s.heap m) (N : News h₀ L s.heap (pre ++ (e, exO C t0 dx) :: post)) (h1 : ∀ p ∈ pre, p.1 ≠ e) (h2 : ∀ p ∈ post, p.1 ≠ e) (X : K.In s.heap) (hb : ktsIn K C "Exception" = true)
    (h : ∀ h' t', Fr h₀ L h' m → News h₀ L h' ((t', tupO rest) :: (pre ++ (e, exO C t' dx) :: post)) → Q .none { s with heap := h' }) (hrest : rest.length ≤ 1000) :
    wpAny (model prog w) A (call (.builtin "Exception.__init__") (.ref e :: rest)) Q E s := by
  obtain ⟨nm, qn, Nn, bs, bm, hdct, sn, sub, ab, col, dd, k0, k1, k2, k3, k5, newId, hC, -, hB⟩ := kts_cls X hb
  have XF := PySem.F.excBase_Exception
  have he := (N (e, exO C t0 dx) (by simp)).1
  obtain ⟨hp, g, d, t, os⟩ := s
  refine wpAny_call (codeAny_call_builtin XF.init.plain XF.initEntry (check_initX hC hB he rfl ?_))
  unfold Builtin.«BaseException.__init__»
  dsimp only
  rw [if_neg (by simp)]
  unfold newTuple Builtin.BaseException.bexcPut
  have N1 : News h₀ L (hp.push (tupO rest)) (((hp.objs.size, tupO rest) :: pre) ++ (e, exO C t0 dx) :: post) := N.push F (tupO rest)
  have hlt : e ≠ hp.objs.size := Nat.ne_of_lt (Heap.lt_size he)
  have h1' : ∀ p ∈ (hp.objs.size, tupO rest) :: pre, p.1 ≠ e := List.forall_mem_cons.mpr ⟨Ne.symm hlt, h1⟩
  obtain ⟨F2, N2⟩ := news_upd (f := Obj.mapFields (·.setIfInBounds 0 (.ref hp.objs.size))) (F.push (tupO rest)) N1 h1' h2 (o' := exO C hp.objs.size dx) rfl rfl
  have he₁ := (N1 (e, exO C t0 dx) (by simp)).1
  refine wpAny_bind (wpAny_newObj_type (wpAny_bind (wpAny_bind (wpAny_field he₁ rfl (by rfl) (wpAny_bind (wpAny_setField he₁ rfl (by show 0 < 6; omega) ?_))))) (by show rest.toArray.size ≤ sizeLine; rw [List.size_toArray, sizeLine_eq]; omega))
  exact wpAny_letGo (wpAny_pure (h _ _ F2 N2))
end
section
variable {prog : Program} {w : World} {A : Around} {s : Shared} {R : Result → Shared → Prop} {K : Frag} {x C dx L : Addr} {h₀ : Heap} {m : Str → Option Value} {ox : Obj} {od : Option Obj} {name : Str} {v : Value} {cd : ClassData} {tk : Tok}
def passIn (K : Frag) (C : Addr) : Bool := (clsIn K C).any fun cd => cd.mro == [.ref 51, .ref 31, .type "Exception", .type "BaseException", .type "object"]
theorem pass_of (e : passIn K C = true) : ∃ cd, clsIn K C = some cd ∧ cd.mro.isEmpty = false ∧ cd.mro.contains (.type "object") = true ∧ ∀ self, refuseLoop self "__setattr__" cd.mro = pure () := by
  obtain ⟨cd, hc, ho⟩ := any_some e
  have hm := eq_of_beq ho
  refine ⟨cd, hc, by rw [hm]; rfl, by rw [hm]; decide +kernel, fun self => ?_⟩
  rw [hm, refuseLoop_ref, refuseLoop_ref]
  exact PySem.F.store_Exception.passes self
theorem exc_osa (X : K.In s.heap) (I : InstAt s.heap x ox C od) (hp : passIn K C = true) (ht : takerIn K C name = some none)
    (h : ∀ b, wpAny (model prog w) A.in1 (storeInOwnDict (.ref x) (.ref C) (.str name tk) name v b)
      (fun fin s' => match fin with | .done f => R (.ok f) s' | .again c' => c'.quiet = true ∧ codeAny (model prog w) A c' R s') (fun e s' => R (.error e) s') s) :
    codeAny (model prog w) A (.call (.builtin "object.__setattr__") ⟨[.ref x, .str name tk, v], []⟩) R s := by
  have SF := PySem.F.store_object
  obtain ⟨cd, hc, ne, ho, hr⟩ := pass_of hp
  have sub : Looks (model prog w) s.heap (isInstance (.ref x) (.type "object")) true := I.type.andThen (looks_mroIn X (by unfold mroIn; rw [hc, Option.bind_some, if_neg (by rw [ne]; decide), ho]))
  refine codeAny_call_builtin SF.slot.plain SF.entry (@check_slot (model prog w) _ _ s "object.__setattr__" "object" "__setattr__" (.ref x) [.str name tk, v] [] _ SF.kind SF.split sub (SF.args (.ref x) (.str name tk) v) ?_)
  obtain ⟨attr, ha, hr'⟩ := Option.bind_eq_some_iff.mp ht
  have hm : Looks (model prog w) s.heap (mroOf (.ref C)) cd.mro := (looks_clsIn X hc).andThen .now
  have L3 : Looks (model prog w) s.heap (storeTaker? attr) none := by
    cases attr with
    | none => exact .now
    | some a =>
      obtain ⟨b, hb, hb2⟩ := Option.map_eq_some_iff.mp hr'
      refine (looks_takesIn X hb).andThen ?_
      cases b
      · exact .now
      · cases hb2
  rw [osa_eq, refuse_eq]
  refine wpAny_bind (wpAny_bind (I.type.here (wpAny_bind (hm.here ?_))))
  rw [hr]
  refine wpAny_pure (wpAny_bind (I.type.here (wpAny_bind ((looks_findIn X ha).here (wpAny_bind (L3.here ?_))))))
  exact h _

theorem exc_set_first {E : Value → Shared → Prop} {A : Around} {Q : Unit → Shared → Prop} {t0 : Addr} {pre post : List (Addr × Obj)} (F : Fr h₀ L s.heap m) (N : News h₀ L s.heap (pre ++ (x, exO C t0 none) :: post)) (h1 : ∀ p ∈ pre, p.1 ≠ x) (h2 : ∀ p ∈ post, p.1 ≠ x) (X : K.In s.heap)
    (hs : findIn K (.ref C) "__setattr__" = some (some (.builtin "object.__setattr__"))) (hp : passIn K C = true) (ht : takerIn K C name = some none) (hh : (clsIn K C).any (·.hasDict) = true)
    (h : ∀ h' dx tk k, Fr h₀ L h' m → News h₀ L h' ((dx, dictOf [⟨PyData.keyHash w.params name, .str name tk, v⟩] 1) :: (pre ++ (x, exO C t0 (some dx)) :: post)) → Q () { s with heap := h', toks := k }) :
    wpAny (model prog w) A (setAttr (.ref x) name v) Q E s := by
  have hx := (N (x, exO C t0 none) (by simp)).1
  have I : InstAt s.heap x (exO C t0 none) C none := ⟨hx, rfl, rfl, trivial⟩
  obtain ⟨cd, hc, hd'⟩ := any_some hh
  have Lc : Looks (model prog w) ({ s with toks := s.toks + 1 } : Shared).heap (classData C) cd := looks_clsIn X hc
  refine set_plain X I hs (exc_osa (s := { s with toks := s.toks + 1 }) X I hp ht fun b => ?_)
  refine wpAny_bind (wpAny_pure (wpAny_bind (wpAny_bind (wpAny_loadPart hx (wpAny_bind (Lc.here (s := { s with toks := s.toks + 1 }) ?_))))))
  rw [hd']
  have lt : x ≠ s.heap.objs.size := Nat.ne_of_lt (Heap.lt_size hx)
  have N1 := N.push F emptyDict
  have N1' : News h₀ L (s.heap.push emptyDict) (((s.heap.objs.size, emptyDict) :: pre) ++ (x, exO C t0 none) :: post) := N1
  have h1' : ∀ p ∈ (s.heap.objs.size, emptyDict) :: pre, p.1 ≠ x := List.forall_mem_cons.mpr ⟨Ne.symm lt, h1⟩
  obtain ⟨F2, N2⟩ := news_upd (f := fun o => { o with dict := some s.heap.objs.size }) (F.push emptyDict) N1' h1' h2 (o' := exO C t0 (some s.heap.objs.size)) rfl rfl
  have hall : ∀ p ∈ pre ++ (x, exO C t0 (some s.heap.objs.size)) :: post, p.1 ≠ s.heap.objs.size := by
    intro p hp
    rcases List.mem_append.mp hp with q | q
    · exact Nat.ne_of_lt (Heap.lt_size (N p (List.mem_append_left _ q)).1)
    · rcases List.mem_cons.mp q with rfl | q
      · exact lt
      · exact Nat.ne_of_lt (Heap.lt_size (N p (List.mem_append_right _ (.tail _ q))).1)
  obtain ⟨F3, N3⟩ := news_upd (pre := []) (f := Obj.putName name (PyData.keyHash w.params name) (.str name (s.toks + 1)) v) F2 N2 (fun _ hp => nomatch hp) hall (o' := dictOf [⟨PyData.keyHash w.params name, .str name (s.toks + 1), v⟩] 1) (putName_dict name _ _ v [] 0) rfl
  have hx₁ := Heap.get?_push_of_some emptyDict hx
  show wpAny _ _ ((alloc emptyDict >>= fun d => update x (fun o => { o with dict := some d }) >>= fun _ => dictMade (.ref C) x d)) _ _ _
  refine wpAny_bind (wpAny_alloc (wpAny_bind (wpAny_update hx₁ ?_)))
  refine wpAny_pure (a := some s.heap.objs.size) ?_
  refine wpAny_bind (wpAny_pure (wpAny_bind ?_))
  unfold nsSet
  have D := (N2 (s.heap.objs.size, emptyDict) (by simp)).1
  have D' := (N3 (s.heap.objs.size, dictOf [⟨PyData.keyHash w.params name, .str name (s.toks + 1), v⟩] 1) (by simp)).1
  refine wpAny_bind (wpAny_bind (wpAny_askSetting (wpAny_pure (wpAny_bind (wpAny_mkText (wpAny_bind (wpAny_loadPart D ?_)))))))
  dsimp only
  have c : (!(#[] : Array DictEntry).any (·.key.isStr name) && (#[] : Array DictEntry).any (·.refKey)) = false := by simp
  rw [aRefKeyMayBeTheName_at, c]
  refine wpAny_updatePart D ?_
  refine wpAny_bind (wpAny_lookBehind D' (by exact pastItsLine_dict (by rw [sizeLine_eq, List.size_toArray, List.length_singleton]; omega)) ?_)
  exact wpAny_pure (h _ _ _ _ F3 N3)
theorem exc_set_more {E : Value → Shared → Prop} {A : Around} {Q : Unit → Shared → Prop} {t0 dx : Addr} {pre post : List (Addr × Obj)} {es es' : List DictEntry} {n n' : Nat} (F : Fr h₀ L s.heap m) (N : News h₀ L s.heap (pre ++ (dx, dictOf es n) :: post)) (h1 : ∀ p ∈ pre, p.1 ≠ dx) (h2 : ∀ p ∈ post, p.1 ≠ dx) (X : K.In s.heap)
    (hx : s.heap.get? x = some (exO C t0 (some dx)))
    (hs : findIn K (.ref C) "__setattr__" = some (some (.builtin "object.__setattr__"))) (hp : passIn K C = true) (ht : takerIn K C name = some none) (hh : (clsIn K C).any (·.hasDict) = true) (hl : (getL name es).isSome = true)
    (e : (putL name (PyData.keyHash w.params name) (.str name (s.toks + 1)) v es, putN name es n) = (es', n')) (hz : es'.length ≤ 1000)
    (h : ∀ h' k, Fr h₀ L h' m → News h₀ L h' (pre ++ (dx, dictOf es' n') :: post) → Q () { s with heap := h', toks := k }) :
    wpAny (model prog w) A (setAttr (.ref x) name v) Q E s := by
  have D := (N (dx, dictOf es n) (by simp)).1
  have I : InstAt s.heap x (exO C t0 (some dx)) C (some (dictOf es n)) := ⟨hx, rfl, rfl, D⟩
  obtain ⟨cd, hc, hd'⟩ := any_some hh
  obtain ⟨e1, e2⟩ := Prod.mk.inj e
  have Lc : Looks (model prog w) ({ s with toks := s.toks + 1 } : Shared).heap (classData C) cd := looks_clsIn X hc
  refine set_plain X I hs (exc_osa (s := { s with toks := s.toks + 1 }) X I hp ht fun b => ?_)
  refine wpAny_bind (wpAny_pure (wpAny_bind (wpAny_bind (wpAny_loadPart hx (wpAny_bind (Lc.here (s := { s with toks := s.toks + 1 }) ?_))))))
  rw [hd']
  obtain ⟨F3, N3⟩ := news_upd (f := Obj.putName name (PyData.keyHash w.params name) (.str name (s.toks + 1)) v) F N h1 h2 (o' := dictOf es' n') (by rw [putName_dict, e1, e2]) rfl
  have D' := (N3 (dx, dictOf es' n') (by simp)).1
  refine wpAny_pure (a := some dx) (wpAny_bind (wpAny_pure (wpAny_bind ?_)))
  unfold nsSet
  refine wpAny_bind (wpAny_bind (wpAny_askSetting (wpAny_pure (wpAny_bind (wpAny_mkText (wpAny_bind (wpAny_loadPart D ?_)))))))
  dsimp only
  have c : (!es.toArray.any (·.key.isStr name) && es.toArray.any (·.refKey)) = false := by
    rw [← Array.any_toList, ← Array.any_toList]
    unfold getL at hl
    split at hl
    · rename_i en he
      rw [List.any_eq_true.mpr ⟨en, List.mem_of_find?_eq_some he, List.find?_some he⟩]; rfl
    · split at hl
      · cases hl
      · rename_i z; rw [Bool.not_eq_true] at z; rw [z, Bool.and_false]
  rw [aRefKeyMayBeTheName_at, c]
  refine wpAny_updatePart D ?_
  refine wpAny_bind (wpAny_lookBehind D' (by exact pastItsLine_dict (by rw [List.size_toArray, sizeLine_eq]; omega)) ?_)
  exact wpAny_pure (h _ _ F3 N3)
end

end

-- text B8
section
open PySem PySem.W PyProof.Rows PySem.Spec PySem.Calls
set_option maxRecDepth 100000
set_option maxHeartbeats 400000
/-- the law's own class of exceptions, read off the heap -/
inductive xIn (K : Frag) (C : Addr) (bm : List Value) : Prop
  | mk (nm : Str) (qn : Str) (N : Addr) (bs : List Value) (hdct : Bool) (sn : List Str) (sub : List Value) (ab : Bool) (col : Option Bool) (dd : Option Addr) (k0 k1 k2 k3 k5 : Option Value) (e : K.lookup C = some (excClassObj nm qn C N bs bm hdct sn sub ab col dd k0 k1 k2 k3 k5 "Exception.__new__")) : xIn K C bm
inductive XCls (h : Heap) (C : Addr) (bm : List Value) : Prop
  | mk (nm : Str) (qn : Str) (N : Addr) (bs : List Value) (hdct : Bool) (sn : List Str) (sub : List Value) (ab : Bool) (col : Option Bool) (dd : Option Addr) (k0 k1 k2 k3 k5 : Option Value) (e : h.get? C = some (excClassObj nm qn C N bs bm hdct sn sub ab col dd k0 k1 k2 k3 k5 "Exception.__new__")) : XCls h C bm
theorem xcls {K : Frag} {h : Heap} {C : Addr} {bm : List Value} (X : K.In h) (q : xIn K C bm) : XCls h C bm := by
  obtain ⟨nm, qn, N, bs, hdct, sn, sub, ab, col, dd, k0, k1, k2, k3, k5, e⟩ := q
  exact ⟨nm, qn, N, bs, hdct, sn, sub, ab, col, dd, k0, k1, k2, k3, k5, X _ _ e⟩

section
variable {M : Model} {A : Around} {E : Value → Shared → Prop} {h : Heap} {g : Array GenState} {d : Drawn} {t : Nat} {os : OsState}
variable {nm q : Str} {C N : Addr} {bs bm : List Value} {hdct : Bool} {sn : List Str} {sub : List Value} {ab : Bool} {col : Option Bool} {dd : Option Addr} {k0 k1 k2 k3 k5 : Option Value}
theorem xnew_check (hB : bm.contains (.type "Exception") = true) {rest : List Value} {Q : Unit → Shared → Prop} (hC : h.get? C = some (excClassObj nm q C N bs bm hdct sn sub ab col dd k0 k1 k2 k3 k5 "Exception.__new__"))
    (hq : Q () ⟨h, g, d, t, os⟩) : wpAny M A (checkBuiltinCall "Exception.__new__" ⟨.ref C :: rest, []⟩) Q E ⟨h, g, d, t, os⟩ := by
  have F := PySem.F.excBase_Exception
  have hc : (Value.ref C :: bm).contains (.type "Exception") = true := by rw [List.contains_cons, hB, Bool.or_true]
  have hs := F.noStar
  simp only [checkBuiltinCall, F.newKind, F.newSplit, F.newRow]
  repeat (first | refine wpAny_loadPart_at hC ?_ | (refine wpAny_isSubtype_exc hC ?_; rw [hc]) | refine wpAny_staticBase_exc hC ?_ | refine wpAny_madeBy_exc hC ?_ | simp only [bne_self_eq_false, Bool.false_eq_true, if_false] | wp_step)
  exact hq
end
section
variable {prog : Program} {w : World} {A : Around} {R : Result → Shared → Prop} {E : Value → Shared → Prop} {h : Heap} {g : Array GenState} {d : Drawn} {t : Nat} {os : OsState}
variable {nm q : Str} {C N : Addr} {bs bm : List Value} {hdct : Bool} {sn : List Str} {sub : List Value} {ab : Bool} {col : Option Bool} {dd : Option Addr} {k0 k1 k2 k3 k5 : Option Value}
theorem xnew (hB : bm.contains (.type "Exception") = true) (hA : bm.contains (.type "AttributeError") = false) (hN : bm.contains (.type "NameError") = false) {rest : List Value}
    (hC : h.get? C = some (excClassObj nm q C N bs bm hdct sn sub ab col dd k0 k1 k2 k3 k5 "Exception.__new__"))
    (hq : R (.ok (.ret (.ref (h.objs.size + 1)))) ⟨(h.push (tupO rest)).push (exO C h.objs.size none), g, d, t, os⟩) (hrest : rest.length ≤ sizeLine) :
    codeAny (model prog w) A (.builtin "Exception.__new__" ⟨.ref C :: rest, []⟩) R ⟨h, g, d, t, os⟩ := by
  have F := PySem.F.excBase_Exception
  have hends := F.ends
  have hcB : (Value.ref C :: bm).contains (.type "Exception") = true := by rw [List.contains_cons, hB, Bool.or_true]
  have hcA : (Value.ref C :: bm).contains (.type "AttributeError") = false := by rw [List.contains_cons, hA]; rfl
  have hcN : (Value.ref C :: bm).contains (.type "NameError") = false := by rw [List.contains_cons, hN]; rfl
  refine codeAny_builtinAt F.entry ?_
  unfold Builtin.«BaseException.__new__»
  refine PySem.wpAt_bind ?_
  show PySem.wpAt _ _ _ (stack >>= _) _ _ _
  refine PySem.wpAt_bind (PySem.wpAt_stack fun p below => PySem.wpAt_of_wpAny ?_)
  wp_walk
  refine PySem.wpAt_of_wpAny ?_
  rw [F.owner]
  repeat (first | with_reducible refine wpAny_madeHere_exc F.canon hC ?_ | with_reducible refine wpAny_loadPart_at hC ?_ | (with_reducible refine wpAny_isSubtype_exc hC ?_; first | rw [hcB] | rw [hcA] | rw [hcN]) | wp_step)
  show R _ _
  rw [Heap.size_push]
  exact hq

/-- a call of an own class of exceptions with an `__init__` in Python -/
theorem xcall {K : Frag} {fI : Addr} {rest : List Value} {Q : Value → Shared → Prop} (X : K.In h) (q : xIn K C bm) (hB : bm.contains (.type "Exception") = true) (hA : bm.contains (.type "AttributeError") = false) (hN : bm.contains (.type "NameError") = false)
    (hi : findIn K (.ref C) "__init__" = some (some (.ref fI))) (hf : isFn K (.ref fI) = true) (hrest : rest.length ≤ sizeLine)
    (hq : wpAny (model prog w) (A.under (.builtin "type.__call__" ⟨.ref C :: rest, []⟩)) (call (.ref fI) (.ref (h.objs.size + 1) :: rest)) (fun r s' => r = .none ∧ Q (.ref (h.objs.size + 1)) s') E ⟨(h.push (tupO rest)).push (exO C h.objs.size none), g, d, t, os⟩) :
    wpAny (model prog w) A (call (.ref C) rest) Q E ⟨h, g, d, t, os⟩ := by
  obtain ⟨nm, qn, N, bs, hdct, sn, sub, ab, col, dd, k0, k1, k2, k3, k5, hC⟩ := xcls X q
  have FE := PySem.F.excBase_Exception
  have f1 := tc_lookup
  have f2 := tc_bind (.ref C)
  have hT : (⟨h, g, d, t, os⟩ : Shared).TypeIs (.ref C) "type" := ⟨_, hC, rfl⟩
  refine wpAny_call (codeAny_of_tree ?_)
  show wpAny _ _ (callAny (.ref C) _) _ _ _
  repeat (any_goals (first | assumption | with_reducible refine wpAny_loadPart_at hC ?_ | wp_step))
  refine ⟨rfl, ?_⟩
  refine codeAny_call_builtin_at (Code.quiet_builtin _ (by decide +kernel)) entry_typeCall (wpAny_check_type_call_sub hC ?_)
  repeat (first | with_reducible refine wpAny_loadPart_at hC ?_ | with_reducible refine wpAny_madeBy_exc hC ?_ | wp_step)
  refine codeAny_call_builtin_code (Code.quiet_builtin _ FE.quiet) (xnew_check hB hC ?_)
  refine xnew hB hA hN hC ?_ hrest
  show wpAny _ _ _ _ _ ⟨(h.push (tupO rest)).push (exO C h.objs.size none), g, d, t, os⟩
  have kx : ∀ b o, h.get? b = some o → ((h.push (tupO rest)).push (exO C h.objs.size none)).get? b = some o := fun b o e => Heap.get?_push_of_some _ (Heap.get?_push_of_some _ e)
  have hC₁ := kx _ _ hC
  have hget : ((h.push (tupO rest)).push (exO C h.objs.size none)).get? (h.objs.size + 1) = some { cls := .ref C, data := .fields #[.ref h.objs.size, .none, .none, .none, .bool false, .none] } := by heap_get
  have hcC : (Value.ref C :: bm).contains (.ref C) = true := by simp
  unfold isInstance
  repeat (first | with_reducible refine wpAny_loadPart_at hget ?_ | (with_reducible refine wpAny_isSubtype_exc hC₁ ?_; rw [hcC]) | wp_step)
  show wpAny _ _ (typeLookup (.ref C) _) _ _ _
  refine (looks_findIn (X.keeps kx) hi).at ?_
  refine wpAny_holding (wpAny_bind ?_)
  refine (bind_fn (X.keeps kx) _ (beq_iff_eq.mp hf)).at ?_
  refine wpAny_bind (wpAny_mono hq (fun r s' hr => ?_) fun _ _ x => x)
  obtain ⟨rfl, hQ⟩ := hr
  wp_walk
  exact hQ

/-- the raise of an own exception that was just made, with a dict of its own -/
theorem xraise {env : Env} {s : Shared} {x : Sem Value} {Q : Flow → Shared → Prop} (hbase : bm.contains (.type "BaseException") = true) (hh : A.handled = none)
    (hx : wpAny (model prog w) A x (fun v s₁ => ∃ e t dx, v = .ref e ∧ s₁.heap.get? C = some (excClassObj nm q C N bs bm hdct sn sub ab col dd k0 k1 k2 k3 k5 "Exception.__new__") ∧
      s₁.heap.get? e = some (exO C t dx) ∧ E (.ref e) s₁) E s) :
    wpAny (model prog w) A (raiseStmt env (some x) none) Q E s := by
  have hcB : (Value.ref C :: bm).contains (.type "BaseException") = true := by rw [List.contains_cons, hbase, Bool.or_true]
  unfold raiseStmt
  refine wpAny_bind (wpAny_mono hx (fun v s₁ h₁ => ?_) fun _ _ x => x)
  obtain ⟨e, t, dx, rfl, hC, he, hE⟩ := h₁
  obtain ⟨hp, g, d, tk, os⟩ := s₁
  repeat (first | with_reducible refine wpAny_loadPart_at he ?_ | with_reducible refine wpAny_loadPart_at hC ?_ | (with_reducible refine wpAny_isSubtype_exc hC ?_; rw [hcB]) | wp_step)
  exact wpAny_raiseNew_none hh hE
end

end

-- text B9
section
open PySem PySem.W PyProof.Rows PySem.Spec PySem.Calls
set_option maxRecDepth 100000
set_option maxHeartbeats 400000
abbrev frs (l : List Env) : List Addr := l.filterMap (·.frame)
/-- all objects but those of `Y` stay, those of `fs` up to their slots -/
structure Kx (fs Y : List Addr) (h h' : Heap) : Prop where
  slot : ∀ b o, h.get? b = some o → b ∉ Y → ∃ sl, h'.get? b = some { o with slots := sl }
  keep : ∀ b o, h.get? b = some o → b ∉ Y → b ∉ fs → h'.get? b = some o
theorem Kx.trans {fs Y : List Addr} {h₁ h₂ h₃ : Heap} (x : Kx fs Y h₁ h₂) (y : Kx fs Y h₂ h₃) : Kx fs Y h₁ h₃ :=
  ⟨fun b o e n => by
    obtain ⟨s1, e1⟩ := x.slot b o e n
    obtain ⟨s2, e2⟩ := y.slot b _ e1 n
    exact ⟨s2, e2⟩, fun b o e n m => y.keep b o (x.keep b o e n m) n m⟩
theorem Kx.of_slots {fs Y : List Addr} {h h' : Heap} (x : Heap.SlotsOnly fs h h') : Kx fs Y h h' :=
  ⟨fun b o e _ => x.2.2 b o e, fun b o e _ m => (x.2.1 b m).trans e⟩
theorem Kx.of_keeps {fs Y : List Addr} {h h' : Heap} (x : ∀ b o, h.get? b = some o → h'.get? b = some o) : Kx fs Y h h' :=
  ⟨fun b o e _ => ⟨o.slots, x b o e⟩, fun b o e _ _ => x b o e⟩
theorem Kx.upd {fs Y : List Addr} {h : Heap} {a : Addr} {f : Obj → Obj} (ha : a ∈ Y) : Kx fs Y h (h.update a f) := by
  have other : ∀ b, b ∉ Y → (h.update a f).get? b = h.get? b := fun b n => Heap.get?_update_other _ _ (fun q => n (q ▸ ha))
  exact ⟨fun b o e n => ⟨o.slots, (other b n).trans e⟩, fun b o e n _ => (other b n).trans e⟩
theorem Kx.more {fs Y Z : List Addr} {h h' : Heap} (x : Kx fs Y h h') (m : ∀ a ∈ Y, a ∈ Z) : Kx fs Z h h' :=
  ⟨fun b o e n => x.slot b o e fun q => n (m b q), fun b o e n => x.keep b o e fun q => n (m b q)⟩
/-- an exception with a dict of its own, and the entry of its traceback -/
inductive ExI (h : Heap) (C e dx T : Addr) (fl : Value) : Prop
  | mk (oe : _) (vs : _) (oT : _) (ts : _) (q0 : h.get? e = some oe) (q1 : oe.cls = .ref C) (q2 : oe.dict = some dx) (q3 : oe.data = .fields vs) (q4 : vs[1]? = some (.ref T)) (q5 : T ≠ e) (q6 : h.get? T = some oT) (q7 : oT.data = .fields ts) (q8 : ts[3]? = some fl) : ExI h C e dx T fl
structure ExAt (h : Heap) (C e dx T : Addr) (fl : Value) : Prop where
  ex : ExI h C e dx T fl
theorem dict_map (o : Obj) (f) : (Obj.mapFields f o).dict = o.dict := by
  obtain ⟨_, _, dt, _⟩ := o
  cases dt <;> rfl
section
variable {M : Model} {A : Around} {E : Value → Shared → Prop} {s : Shared} {base : Heap} {env : Env} {outer : List Env} {L C e dx T : Addr} {oe : Obj} {vs : Array Value} {Q : Unit → Shared → Prop}
theorem notIn {h : Heap} {l : List Env} {a : Addr} {o : Obj} (hl : h.FunFrames base l) (ha : h.get? a = some o) (hd : o.data = .fields vs) : a ∉ frs l := fun hm => by
  obtain ⟨_, o', ho, hnf⟩ := hl.mem hm
  rw [ha] at ho; cases ho; exact hnf vs hd
theorem note_new {head : Value} {b : Bool} (hfr : A.frames = some (env :: outer)) (hl : s.heap.FunFrames base (env :: outer)) (hf : env.frame = some L)
    (he : s.heap.get? e = some oe) (hc : oe.cls = .ref C) (hx : oe.dict = some dx) (hd : oe.data = .fields vs) (hsz : 1 < vs.size)
    (h : ∀ h' T, Kx (frs (env :: outer)) [e] s.heap h' → s.heap.get? T = none → ExAt h' C e dx T (rawInt L) → Q () { s with heap := h' }) :
    wpAny M A (do let a ← frameOf env; let pl ← entryPlaceOf L b; let x ← EntryCells.newEntry head a .none (rawInt L) .none pl; setField (.ref e) 1 x) Q E s := by
  refine wpAny_bind (wpAny_frameOf_fun hfr hl hf fun h₁ k₁ => wpAny_bind (wpAny_entryPlaceOf fun pl hpl => ?_))
  unfold EntryCells.newEntry newFields
  refine wpAny_bind (wpAny_newObj_type ?_ (hpl.sizeOk5 _ _ _ _ _))
  have e1 : h₁.get? e = some oe := (k₁.2.1 e (notIn hl he hd)).trans he
  generalize hN : ({ cls := .type "traceback", dict := none, data := .fields ([head, .ref L, .none, rawInt L, .none] ++ (if pl.isEmpty then List.replicate 6 Value.none else pl)).toArray } : Obj) = oN
  have e2 := Heap.get?_push_of_some (h := h₁) oN e1
  refine wpAny_setField e2 hd hsz (h _ h₁.objs.size ?_ ?_ ?_)
  · exact ((Kx.of_slots k₁).trans (.of_keeps fun b o q => Heap.get?_push_of_some _ q)).trans (.upd (List.mem_singleton.mpr rfl))
  · cases q : s.heap.get? h₁.objs.size with
    | none => rfl
    | some o =>
      obtain ⟨sl, q2⟩ := k₁.2.2 _ _ q
      exact absurd (Heap.lt_size q2) (Nat.lt_irrefl _)
  · have d3 := Obj.data_mapFields hd (·.setIfInBounds 1 (Value.ref h₁.objs.size))
    have hTe : h₁.objs.size ≠ e := Nat.ne_of_gt (Heap.lt_size e1)
    subst hN
    refine ⟨_, _, _, _, Heap.get?_update_self _ e2 (Obj.isFreed_of_fields d3), (Obj.cls_mapFields _ _).trans hc, (dict_map _ _).trans hx, d3, by simp [hsz], hTe,
      (Heap.get?_update_other _ _ (Ne.symm hTe)).trans (Heap.get?_push_size h₁ rfl), rfl, by first | (simp; done) | (rcases hpl with rfl | ⟨_, _, _, _, _, _, _, rfl⟩ <;> simp)⟩
theorem note_first (hfr : A.frames = some (env :: outer)) (hl : s.heap.FunFrames base (env :: outer)) (hf : env.frame = some L)
    (he : s.heap.get? e = some oe) (hc : oe.cls = .ref C) (hx : oe.dict = some dx) (hd : oe.data = .fields vs) (h1 : vs[1]? = some .none)
    (h : ∀ h' T, Kx (frs (env :: outer)) [e] s.heap h' → s.heap.get? T = none → ExAt h' C e dx T (rawInt L) → Q () { s with heap := h' }) :
    wpAny M A (noteFrame (.ref e) env) Q E s := by
  unfold noteFrame
  simp only [hf]
  refine wpAny_bind (wpAny_field he hd h1 ?_)
  rw [if_neg (by decide)]
  exact note_new hfr hl hf he hc hx hd (Array.getElem?_eq_some_iff.mp h1).1 h
theorem note_next (hfr : A.frames = some (env :: outer)) (hl : s.heap.FunFrames base (env :: outer)) (hf : env.frame = some L) (x : ExAt s.heap C e dx T .none)
    (h : ∀ h' T', Kx (frs (env :: outer)) [e, T] s.heap h' → s.heap.get? T' = none → ExAt h' C e dx T' (rawInt L) → Q () { s with heap := h' }) :
    wpAny M A (noteFrame (.ref e) env) Q E s := by
  obtain ⟨oe, vs, oT, ts, he, hc, hx, hd, h1, hTe, hT, hdT, h3⟩ := x.ex
  unfold noteFrame
  simp only [hf]
  refine wpAny_bind (wpAny_field he hd h1 ?_)
  rw [if_pos (show (Value.ref T != Value.none) = true from by simp)]
  refine wpAny_bind (wpAny_field hT hdT h3 ?_)
  rw [if_neg (show ¬ ((Value.none == rawInt L) = true) from by simp [rawInt])]
  refine wpAny_bind (wpAny_setField hT hdT (Array.getElem?_eq_some_iff.mp h3).1 ?_)
  have other : ∀ b, b ≠ T → (s.heap.update T (Obj.mapFields (·.setIfInBounds 3 Value.none))).get? b = s.heap.get? b := fun b hb => Heap.get?_update_other _ _ (Ne.symm hb)
  have nT := notIn hl hT hdT
  refine note_new hfr (hl.of_keeps fun b o hb hn => ⟨o, (other b fun q => ?_).trans hb, rfl⟩) hf ((other e (Ne.symm hTe)).trans he) hc hx hd (Array.getElem?_eq_some_iff.mp h1).1
    fun h' T' k n y => h h' T' ((Kx.upd (by simp)).trans (k.more (by simp))) ?_ y
  · rw [q, hT] at hb; cases hb; exact hn ts hdT
  · cases q : s.heap.get? T' with
    | none => rfl
    | some o =>
      by_cases hq : T' = T
      · rw [hq, Heap.get?_update_self _ hT (Obj.isFreed_of_fields (Obj.data_mapFields hdT _))] at n; cases n
      · rw [other _ hq, q] at n; cases n
theorem land {fl : Value} {fs : List Addr} (x : ExAt s.heap C e dx T fl) (h : ∀ h', Kx fs [e, T] s.heap h' → ExAt h' C e dx T .none → Q () { s with heap := h' }) :
    wpAny M A (setFlight (.ref e) none) Q E s := by
  obtain ⟨oe, vs, oT, ts, he, hc, hx, hd, h1, hTe, hT, hdT, h3⟩ := x.ex
  have h3s := (Array.getElem?_eq_some_iff.mp h3).1
  unfold setFlight
  refine wpAny_bind (wpAny_field he hd h1 ?_)
  rw [if_pos (show (Value.ref T != Value.none) = true from by simp)]
  refine wpAny_setField hT hdT h3s (h _ (.upd (by simp)) ?_)
  exact ⟨oe, vs, _, _, (Heap.get?_update_other _ _ hTe).trans he, hc, hx, hd, h1, hTe, Heap.get?_update_self _ hT (Obj.isFreed_of_fields (Obj.data_mapFields hdT _)), Obj.data_mapFields hdT _, by simp [h3s]⟩
end
/-- an own exception on its way, seen from the heap `h` that it started in -/
structure Fly (fs : List Addr) (C e dx T : Addr) (od : Obj) (fl : Value) (h h' : Heap) : Prop where
  kx : Kx fs [] h h'
  e0 : h.get? e = none
  d0 : h.get? dx = none
  T0 : h.get? T = none
  d : h'.get? dx = some od
  hd : ∀ vs, od.data ≠ .fields vs
  hf : dx ∉ fs
  x : ExAt h' C e dx T fl
theorem Fly.on {fs : List Addr} {C e dx T T' : Addr} {od : Obj} {fl fl' : Value} {h h' h'' : Heap} (x : Fly fs C e dx T od fl h h') (k : Kx fs [e, T] h' h'') (n : T' = T ∨ h'.get? T' = none) (y : ExAt h'' C e dx T' fl') : Fly fs C e dx T' od fl' h h'' := by
  have nz : ∀ a, h.get? a = none → ∀ b o, h.get? b = some o → b ≠ a := fun a ha b o hb q => by rw [q, ha] at hb; cases hb
  have ny : ∀ b o, h.get? b = some o → b ∉ [e, T] := fun b o hb q => by
    rcases List.mem_cons.mp q with q | q
    · exact nz e x.e0 b o hb q
    · exact nz T x.T0 b o hb (List.mem_singleton.mp q)
  refine ⟨⟨fun b o hb _ => ?_, fun b o hb _ m => k.keep b o (x.kx.keep b o hb (fun q => nomatch q) m) (ny b o hb) m⟩, x.e0, x.d0, ?_, ?_, x.hd, x.hf, y⟩
  · obtain ⟨s1, e1⟩ := x.kx.slot b o hb fun q => nomatch q
    obtain ⟨s2, e2⟩ := k.slot b _ e1 (ny b o hb)
    exact ⟨s2, e2⟩
  · rcases n with rfl | n
    · exact x.T0
    · cases q : h.get? T' with
      | none => rfl
      | some o =>
        obtain ⟨s1, e1⟩ := x.kx.slot _ _ q fun z => nomatch z
        rw [n] at e1; cases e1
  · refine k.keep _ _ x.d (fun q => ?_) x.hf
    obtain ⟨oe, vs, oT, ts, he, hc, hx, hd, h1, hTe, hT, hdT, h3⟩ := x.x.ex
    rcases List.mem_cons.mp q with q | q
    · have := x.d; rw [q, he] at this; cases this; exact x.hd _ hd
    · have := x.d; rw [List.mem_singleton.mp q, hT] at this; cases this; exact x.hd _ hdT
section
variable {M : Model} {A : Around} {E : Value → Shared → Prop} {s : Shared} {base h : Heap} {env : Env} {outer : List Env} {L C e dx T : Addr} {od : Obj} {Q : Unit → Shared → Prop}
theorem fly_note (hfr : A.frames = some (env :: outer)) (hl : s.heap.FunFrames base (env :: outer)) (hf : env.frame = some L) (x : Fly (frs (env :: outer)) C e dx T od .none h s.heap)
    (k : ∀ h' T', Fly (frs (env :: outer)) C e dx T' od (rawInt L) h h' → h'.FunFrames base (env :: outer) → Q () { s with heap := h' }) : wpAny M A (noteFrame (.ref e) env) Q E s := by
  obtain ⟨oe, vs, oT, ts, he, hc, hx, hd, h1, hTe, hT, hdT, h3⟩ := x.x.ex
  refine note_next hfr hl hf x.x fun h' T' kx n y => k h' T' (x.on kx (.inr n) y) (hl.of_keeps fun b o hb hn => ?_)
  obtain ⟨sl, e1⟩ := kx.slot b o hb fun q => by
    rcases List.mem_cons.mp q with q | q
    · rw [q, he] at hb; cases hb; exact hn _ hd
    · rw [List.mem_singleton.mp q, hT] at hb; cases hb; exact hn _ hdT
  exact ⟨_, e1, rfl⟩
theorem fly_land {fs : List Addr} {l : List Env} {fl : Value} (hl : s.heap.FunFrames base l) (x : Fly fs C e dx T od fl h s.heap)
    (k : ∀ h', Fly fs C e dx T od .none h h' → h'.FunFrames base l → Q () { s with heap := h' }) : wpAny M A (setFlight (.ref e) none) Q E s := by
  obtain ⟨oe, vs, oT, ts, he, hc, hx, hd, h1, hTe, hT, hdT, h3⟩ := x.x.ex
  refine land (fs := fs) x.x fun h' kx y => k h' (x.on kx (.inl rfl) y) (hl.of_keeps fun b o hb hn => ?_)
  obtain ⟨sl, e1⟩ := kx.slot b o hb fun q => by
    rcases List.mem_cons.mp q with q | q
    · rw [q, he] at hb; cases hb; exact hn _ hd
    · rw [List.mem_singleton.mp q, hT] at hb; cases hb; exact hn _ hdT
  exact ⟨_, e1, rfl⟩
theorem fly_leave (hfr : A.frames = some (env :: outer)) (hl : s.heap.FunFrames base (env :: outer)) (hf : env.frame = some L) (x : Fly (frs (env :: outer)) C e dx T od .none h s.heap)
    (k : ∀ h' T', Fly (frs (env :: outer)) C e dx T' od .none h h' → h'.FunFrames base (env :: outer) → Q () { s with heap := h' }) : wpAny M A (leaving env (.ref e)) Q E s := by
  unfold leaving
  exact wpAny_bind (fly_note hfr hl hf x fun h' T' y z => fly_land z y fun h'' y' z' => k h'' T' y' z')
theorem fly_first {oe : Obj} {vs : Array Value} (hfr : A.frames = some (env :: outer)) (hl : s.heap.FunFrames base (env :: outer)) (hf : env.frame = some L)
    (he : s.heap.get? e = some oe) (hc : oe.cls = .ref C) (hx : oe.dict = some dx) (hd : oe.data = .fields vs) (h1 : vs[1]? = some .none) (hdx : s.heap.get? dx = some od) (hod : ∀ vs, od.data ≠ .fields vs)
    (h0 : ∀ b o, h.get? b = some o → s.heap.get? b = some o) (e0 : h.get? e = none) (d0 : h.get? dx = none) (hdf : dx ∉ frs (env :: outer))
    (k : ∀ h' T', Fly (frs (env :: outer)) C e dx T' od .none h h' → h'.FunFrames base (env :: outer) → Q () { s with heap := h' }) : wpAny M A (leaving env (.ref e)) Q E s := by
  unfold leaving
  refine wpAny_bind (note_first hfr hl hf he hc hx hd h1 fun h' T' kx n y => ?_)
  have hde : dx ≠ e := fun q => by rw [q, he] at hdx; cases hdx; exact hod _ hd
  have ne : ∀ b o, h.get? b = some o → b ∉ [e] := fun b o hb q => by rw [List.mem_singleton.mp q, e0] at hb; cases hb
  have z : Fly (frs (env :: outer)) C e dx T' od (rawInt L) h h' := by
    refine ⟨⟨fun b o hb _ => kx.slot b o (h0 b o hb) (ne b o hb), fun b o hb _ m => kx.keep b o (h0 b o hb) (ne b o hb) m⟩, e0, d0, ?_, kx.keep _ _ hdx (fun q => hde (List.mem_singleton.mp q)) hdf, hod, hdf, y⟩
    cases q : h.get? T' with
    | none => rfl
    | some o => rw [h0 _ _ q] at n; cases n
  have z2 : h'.FunFrames base (env :: outer) := hl.of_keeps fun b o hb hn => by
    obtain ⟨sl, e1⟩ := kx.slot b o hb fun q => by
      rw [List.mem_singleton.mp q, he] at hb; cases hb; exact hn _ hd
    exact ⟨_, e1, rfl⟩
  exact fly_land z2 z fun h'' y' z' => k h'' T' y' z'
end
/-- seen from a caller that does not know the innermost frame -/
theorem Fly.out {env : Env} {outer : List Env} {L C e dx T : Addr} {od : Obj} {fl : Value} {h h' : Heap} (x : Fly (frs (env :: outer)) C e dx T od fl h h') (hf : env.frame = some L) (hL : h.get? L = none) : Fly (frs outer) C e dx T od fl h h' := by
  have hm : ∀ b o, h.get? b = some o → b ∉ frs outer → b ∉ frs (env :: outer) := fun b o hb n q => by
    unfold frs at q
    rw [List.filterMap_cons, hf] at q
    rcases List.mem_cons.mp q with q | q
    · rw [q, hL] at hb; cases hb
    · exact n q
  refine ⟨⟨x.kx.slot, fun b o hb n m => x.kx.keep b o hb n (hm b o hb m)⟩, x.e0, x.d0, x.T0, x.d, x.hd, fun q => x.hf ?_, x.x⟩
  unfold frs
  rw [List.filterMap_cons, hf]
  exact List.mem_cons_of_mem _ q

end

-- text B10
section
open PySem PySem.W PyProof.Rows PySem.Spec PySem.Calls
set_option maxRecDepth 100000
set_option maxHeartbeats 400000
/-- contract of a def that changes one object `e` of the caller -/
def CtrE (w : World) (d : Nat) (f : Addr) (args : List Value) (e : Addr) (oe : Obj) {ι : Type} (oe' : ι → Obj) (led : ι → List (Addr × Obj)) : Prop :=
  ∀ (dp un : Nat) (gd : Option (List Code)) (fr : Option (List Env)) (mean : ExcName → Option Value) (mg mb : Str → Option Value) (s : Shared) (Q E : Value → Shared → Prop) (g : Heap),
    dp + d < 900 → un + 8 * d < 9000 → (frag.heap_1 w.params).In g → Top view LO mean mg mb g → (∀ b o, g.get? b = some o → s.heap.get? b = some o) → g.get? e = none → s.heap.get? e = some oe →
    (∀ i h' tk, (∀ b o, b ≠ e → s.heap.get? b = some o → h'.get? b = some o) → h'.get? e = some (oe' i) → (∀ p ∈ led i, s.heap.get? p.1 = none ∧ h'.get? p.1 = some p.2) → Q .none { s with heap := h', toks := tk }) →
    wpAny (model PG w) (AA dp un gd fr) (call (.ref f) args) Q E s
inductive RetE (s : Shared) (e : Addr) {ι : Type} (oe' : ι → Obj) (led : ι → List (Addr × Obj)) (fl : Flow) (s' : Shared) : Prop
  | mk (i : _) (h' : _) (tk : _) (q0 : flv fl = .none) (q1 : s' = { s with heap := h', toks := tk }) (q2 : (∀ b o, b ≠ e → s.heap.get? b = some o → h'.get? b = some o)) (q3 : h'.get? e = some (oe' i)) (q4 : ∀ p ∈ led i, s.heap.get? p.1 = none ∧ h'.get? p.1 = some p.2) : RetE s e oe' led fl s'
theorem wipe_some {h : Heap} {a b : Addr} {o : Obj} (e : (wipe h a).get? b = some o) : b ≠ a ∧ h.get? b = some o := by
  have h1 : b ≠ a := fun q => by rw [q, wipe_self] at e; cases e
  rw [wipe_other _ h1] at e
  exact ⟨h1, e⟩
theorem CtrE.enter {w : World} {d : Nat} {f e : Addr} {oe : Obj} {args : List Value} {ι : Type} {oe' : ι → Obj} {led : ι → List (Addr × Obj)}
    {name qual : Str} {params : Arguments} {body : List Stmt} {scope : Scope} {dV kV doc pm cdv ct oc : Value} {an od : Option Addr} {osl : Array (Option Value)} {lk : List (Str × Value)}
    (ho : (frag.heap_1 w.params).lookup f = some ⟨oc, od, .func (fnOf name qual params body scope dV kV doc pm an cdv ct), osl⟩)
    (hcd : codeIn (frag.heap_1 w.params) cdv qual = true)
    (hbind : bindArgs (fnOf name qual params body scope dV kV doc pm an cdv ct) ⟨args, []⟩ = pure ((params.args.map (·.arg)).zip args)) (hlk : ((params.args.map (·.arg)).zip args).reverse = lk)
    (hloc : ∀ y ∈ (params.args.map (·.arg)).zip args, scope.names.lookup y.1 = some .local)
    (hco : scope.isCoroutine = false) (hgen : scope.isGenerator = false) (hk : scope.kind = .function) (hcell : ∀ x ∈ scope.names, x.2 ≠ .cell)
    (h : ∀ (dp un : Nat) (gd : Option (List Code)) (fr : Option (List Env)) (mean : ExcName → Option Value) (mg mb : Str → Option Value) (s : Shared) (L : Addr) (h₁ : Heap) (tk : Nat) (g : Heap),
      dp + d < 900 → un + 8 * d < 9000 → (frag.heap_1 w.params).In g → Top view LO mean mg mb g → g = wipe s.heap e → e < L →
      Fr g L h₁ (fun y => lk.lookup y) → News g L h₁ [(e, oe)] →
      wpAny (model PG w) (AA dp un gd fr) (execs body (envOf qual scope L f cdv)) (RetE s e oe' led) (fun _ _ => False) { s with heap := h₁, toks := tk }) :
    CtrE w (d + 1) f args e oe oe' led := by
  intro dp un gd fr mean mg mb s Q E g hdp hun X T hg ge0 hpe hQ
  have kg : ∀ b o, g.get? b = some o → (wipe s.heap e).get? b = some o := fun b o q => by
    rw [wipe_other _ (fun z => by rw [z, ge0] at q; cases q)]; exact hg b o q
  refine wpAny_call (codeAny_call_def (fd := fnOf name qual params body scope dV kV doc pm an cdv ct) (body := body) (binds := (params.args.map (·.arg)).zip args)
    (by show dp < 1000; omega) (hg _ _ (X _ _ ho)) rfl (T.keeps hg).nolimit (codeRec_of (X.keeps hg) hcd) rfl (.of_eq hbind) hcell hloc (fun h₁ hns hk₁ => ?_) hco hgen hk)
  rw [hlk] at hns
  have se : e < s.heap.objs.size := Heap.lt_size hpe
  refine wpAny_mono (h (dp + 1) (un + 3) gd (fr.map (callEnv (fnOf name qual params body scope dV kV doc pm an cdv ct) s.heap.objs.size f :: ·)) mean mg mb s s.heap.objs.size h₁ _ (wipe s.heap e) (by omega) (by omega) (X.keeps kg) (T.keeps kg) rfl se
    ⟨hns, fun b o q => hk₁ b o (wipe_some q).2, by rw [wipe_size]; exact Nat.le_refl _⟩ (fun p hp => ?_)) (fun fl s' hr => ?_) (fun _ _ x => x.elim)
  · rw [List.mem_singleton.mp hp]
    exact ⟨hk₁ _ _ hpe, Nat.ne_of_lt se, wipe_self ..⟩
  obtain ⟨i, h', tk, hf, rfl, hst, h1, h2⟩ := hr
  have q := hQ i h' tk hst h1 h2
  cases fl <;> first | exact q | (rw [← hf] at q; exact q)
theorem CtrE.use {w : World} {d : Nat} {f e : Addr} {oe : Obj} {args : List Value} {ι : Type} {oe' : ι → Obj} {led : ι → List (Addr × Obj)}
    (C : CtrE w d f args e oe oe' led) {dp un : Nat} {gd : Option (List Code)} {fr : Option (List Env)} {mean : ExcName → Option Value} {mg mb : Str → Option Value} {s : Shared} {Q E : Value → Shared → Prop}
    {h₀ : Heap} {L : Addr} {m : Str → Option Value} {nx : List (Addr × Obj)}
    (F : Fr h₀ L s.heap m) (N : News h₀ L s.heap ((e, oe) :: nx)) (X : (frag.heap_1 w.params).In h₀) (T : Top view LO mean mg mb h₀)
    (hdp : dp + d < 900) (hun : un + 8 * d < 9000) (hA : ∀ p ∈ nx, p.1 ≠ e)
    (k : ∀ i h' tk, Fr h₀ L h' m → News h₀ L h' (led i ++ (e, oe' i) :: nx) → Q .none { s with heap := h', toks := tk }) :
    wpAny (model PG w) (AA dp un gd fr) (call (.ref f) args) Q E s := by
  obtain ⟨d1, d2, d3⟩ := N (e, oe) (List.mem_cons_self ..)
  dsimp only at *
  refine C dp un gd fr mean mg mb s Q E h₀ hdp hun X T F.keep d3 d1 fun i h' tk hs h1 h2 => ?_
  refine k i h' tk ⟨F.ns.at' fun o q => hs _ _ (Ne.symm d2) q, fun b o q => hs b o (fun z => by rw [z, d3] at q; cases q) (F.keep b o q), F.above⟩ fun p hp => ?_
  rcases List.mem_append.mp hp with hp | hp
  · obtain ⟨a1, a2⟩ := h2 p hp
    refine ⟨a2, fun q => ?_, ?_⟩
    · obtain ⟨o, _, _, z, _⟩ := F.ns
      rw [← q, a1] at z; cases z
    · cases q : h₀.get? p.1 with
      | none => rfl
      | some o => have := F.keep _ _ q; rw [a1] at this; cases this
  · rcases List.mem_cons.mp hp with rfl | hp
    · exact ⟨h1, d2, d3⟩
    · obtain ⟨n1, n2, n3⟩ := N p (List.mem_cons_of_mem _ hp)
      exact ⟨hs _ _ (hA p hp) n1, n2, n3⟩

end

section
open PySem PySem.W PyProof.Rows PySem.Spec PySem.Calls
set_option maxRecDepth 100000
set_option maxHeartbeats 8000000
local macro_rules | `(tactic| k_ne) => `(tactic| (refine neN ?_; (try dsimp only); first | assumption | exact Ne.symm (by assumption) | exact Nat.ne_of_lt (by k_extra "m lt") | exact Nat.ne_of_gt (by k_extra "m lt") | omega))
local macro_rules | `(tactic| walk_at $s:str) => `(tactic| k_extra $s)
theorem reg0 : True := by
  k_with "m cases" => ((case zqho => k_is); (case zqhcd => k_is); (case zqhb => exact rfl); (case zqhlk => simp only [List.map_cons, List.map_nil, List.zip_cons_cons, List.zip_nil_left, List.zip_nil_right, List.reverse_cons, List.reverse_nil, List.nil_append, List.cons_append]; exact rfl); (case zqhl => exact locs rfl); (case zqc1 => exact rfl); (case zqc2 => exact rfl); (case zqc3 => exact rfl); (case zqc4 => decide))
  k_with "m room" => first | with_reducible assumption | exact lt_room (by with_reducible assumption) (by decide) | omega
  k_with "m nat" => first | with_reducible assumption | exact Nat.le_refl _ | exact Nat.le_succ _ | exact Nat.le_trans (by with_reducible assumption) (by decide) | exact Nat.le_trans (Nat.add_le_add_right (by with_reducible assumption) _) (by decide) | decide | omega
  k_with "m lt" => first | assumption | exact And.left (by assumption) | exact And.left (And.right (by assumption)) | exact And.left (And.right (And.right (by assumption))) | exact And.left (And.right (And.right (And.right (by assumption)))) | exact And.left (And.right (And.right (And.right (And.right (by assumption))))) | exact And.left (And.right (And.right (And.right (And.right (And.right (by assumption)))))) | exact And.left (And.right (And.right (And.right (And.right (And.right (And.right (by assumption))))))) | exact And.left (And.right (And.right (And.right (And.right (And.right (And.right (And.right (by assumption)))))))) | exact And.right (by assumption) | exact And.right (And.right (by assumption)) | exact And.right (And.right (And.right (by assumption))) | exact And.right (And.right (And.right (And.right (by assumption)))) | exact And.right (And.right (And.right (And.right (And.right (by assumption))))) | exact And.right (And.right (And.right (And.right (And.right (And.right (by assumption)))))) | exact And.right (And.right (And.right (And.right (And.right (And.right (And.right (by assumption)))))))
  k_with "m enter" => (refine' Ctr.enter ?zqho ?zqhcd ?zqhb ?zqhlk ?zqhl ?zqc1 ?zqc2 ?zqc3 ?zqc4 ?_; (k_extra "m cases"))
  k_with "m enterP" => (refine' CtrP.enter ?zqho ?zqhcd ?zqhb ?zqhlk ?zqhl ?zqc1 ?zqc2 ?zqc3 ?zqc4 ?_; (k_extra "m cases"))
  k_with "m enterT" => (refine' Ctr.enterT ?zqho ?zqhcd ?zqhb ?zqhlk ?zqhl ?zqc1 ?zqc2 ?zqc3 ?zqc4 ?_; (k_extra "m cases"))
  k_with "m init" => ((case zqhm => k_is); (case zqhi => k_is); (case zqhf => k_is); (case zqho => k_is); (case zqhcd => k_is); (case zqhb => (intro _ _ zX; first | exact BindsTo.of_eq rfl | exact binds_K zX rfl (by k_is) rfl rfl rfl)); (case zqhlk => (intro _; exact rfl)); (case zqhl => (intro _; exact locs rfl)); (case zqc1 => exact rfl); (case zqc2 => exact rfl); (case zqc3 => exact rfl); (case zqc4 => decide))
  k_with "m star" => with_reducible (first | exact st_Name | exact st_Constant | exact st_BinOp | exact st_Call | exact st_Subscript | exact st_Attribute | exact st_UnaryOp | exact st_Tuple | exact st_List)
  k_with "m plain" => first | with_reducible exact pl_nil | (with_reducible refine' pl_cons ?zqp1 ?zqp2; (case zqp1 => k_extra "m star"); (case zqp2 => k_extra "m plain"))
  k_with "execs cons" => (refine execs_seal ?_; intro _ _)
  k_with "exec If" => with_reducible refine wpAny_If ?_
  k_with "execs nil" => with_reducible refine wpAny_execs_nil ?_
  k_with "m open" => with_reducible (first | refine SealS.next (by assumption) ?_ | refine SealS.ret (by assumption) ?_ | refine SealS.brk (by assumption) ?_ | refine SealS.cont (by assumption) ?_)
  k_with "m steps" => ((repeat' (first | (k_unfold; (try dsimp only)) | walk1 | k_extra "m open" | (dsimp only; walk1) | fail "no step")) <;> (try dsimp only) <;> (try k_unfold) <;> (try dsimp only [ForStep, WhileStep2]) <;> (repeat (with_reducible refine SealS.ret (by assumption) ?_)))
  k_with "exec For Name Name cons nil" => ((with_reducible refine' for_start ?_ ?zqhs); (case zqhs => (intro _; k_dflt (exact rfl))))
  k_with "exec For Name Call cons nil" => ((with_reducible refine' for_start ?_ ?zqhs); (case zqhs => (intro _; k_dflt (exact rfl))))
  k_with "exec For Tuple Name cons nil" => ((with_reducible refine' for_start ?_ ?zqhs); (case zqhs => (intro _; k_dflt (exact rfl))))
  k_with "exec For Tuple Call cons nil" => ((with_reducible refine' for_start ?_ ?zqhs); (case zqhs => (intro _; k_dflt (exact rfl))))
  k_with "pyIter ref" => ((with_reducible show wpAny _ _ (pyIter _) (fun it s₂ => ForGo _ _ _ _ _ _ _ _ it s₂) _ _); refine stop_here ?_)
  k_with "pyIter str" => ((with_reducible show wpAny _ _ (pyIter _) (fun it s₂ => ForGo _ _ _ _ _ _ _ _ it s₂) _ _); refine stop_here ?_)
  k_with "exec While Compare cons nil" => refine stop_here ?_
  k_with "exec While BoolOp cons nil" => refine stop_here ?_
  k_with "callWith" => ((with_reducible refine' callWith_method1 ?_ ?zqm2 ?zqm3); (case zqm2 => k_extra "m star"); (case zqm3 => k_extra "m plain"))
  k_with "callWith" => ((with_reducible refine' PyProof.Rows.callWith_builtin1 ?_ ?zqm2 ?zqm3); (case zqm2 => k_extra "m star"); (case zqm3 => k_extra "m plain"))
  k_with "callWith" => with_reducible refine callWith_method0 ?_
  k_with "eval Call Attribute" => ((with_reducible refine' MethodCall_ ?_ ?zqm2); (case zqm2 => k_dflt (exact rfl)))
  k_with "eval Call Name" => ((with_reducible refine' Call_ ?_ ?zqm2); (case zqm2 => k_dflt (exact rfl)))
  k_with "exec Assign cons" => ((with_reducible refine' wpAny_Assign_Name ?_ ?zqm2); (case zqm2 => k_dflt (exact rfl)))
  k_with "ite" => first | with_reducible refine ite_tt ?_ | with_reducible refine ite_ff ?_ | (with_reducible refine split_39 ?_ ?_ <;> intro _) | (with_reducible refine split_40 ?_ ?_ <;> intro _) | (with_reducible refine split_41 ?_ ?_ <;> intro _) | (with_reducible refine split_44 ?_ ?_ <;> intro _) | (with_reducible refine split_61 ?_ ?_ <;> intro _) | (with_reducible refine split_32 ?_ ?_ <;> intro _) | with_reducible refine split_end (fun _ => ?_) (fun _ _ _ => ?_) | with_reducible refine split_emp (fun _ => ?_) (fun _ => ?_) | (with_reducible refine split_nb ?_ ?_ <;> intro _) | (with_reducible refine dec_pos (by omega) ?_) | (with_reducible refine dec_neg (by omega) ?_) | (with_reducible refine PyProof.Rows.split_dec ?_ ?_ <;> intro _) | (with_reducible refine ite_pos (by with_reducible assumption) ?_) | (with_reducible refine ite_isFalse (by with_reducible assumption) ?_) | (with_reducible refine PyProof.Rows.split_bool ?_ ?_ <;> intro _)
  k_with "eval Name" => ((with_reducible refine' ld_fast ?zqk1 ?zqk2 ?zqk3 ?zqk4 ?zqk5 ?_); (case zqk1 => with_reducible assumption); (case zqk2 => k_dflt (exact rfl)); (case zqk3 => k_dflt (exact rfl)); (case zqk4 => k_dflt (exact rfl)); (case zqk5 => k_dflt (exact rfl)))
  k_with "compareOp In str str" => with_reducible (first | refine in_letters ?_ | refine in_digits ?_ | refine in_ahead ?_)
  k_with "compareOp NotIn str str" => with_reducible (refine notin_letters ?_)
  k_with "m item" => ((with_reducible show wpAny _ _ (subscriptTail _ _ (Value.str _ _) (Value.int _ _)) _ _ _); first | ((with_reducible refine' item_at ?zqm1 ?zqm2 ?_ ?zqm3 ?zqm4); (case zqm1 => with_reducible assumption); (case zqm2 => first | assumption | omega); (case zqm3 => with_unfolding_all exact rfl); (case zqm4 => (intro _; with_unfolding_all exact rfl))) | ((with_reducible refine' item_lt ?zqm1 ?zqm2 ?_ ?zqm3 ?zqm4); (case zqm1 => first | assumption | omega); (case zqm2 => first | assumption | omega); (case zqm3 => with_unfolding_all exact rfl); (case zqm4 => (intro _; with_unfolding_all exact rfl)); (intro _ _)))
  k_with "subscriptTail Name Name str int" => k_extra "m item"
  k_with "subscriptTail Name BinOp str int" => k_extra "m item"
  k_with "m ret" => ((repeat (with_reducible refine SealS.ret (by assumption) ?_)); (with_reducible rename Fr _ _ _ _ => zF'); first | exact ⟨_, _, _, rfl, rfl, Fr.keep zF', trivial⟩ | exact ⟨(0 : Nat), _, _, rfl, rfl, Fr.keep zF', trivial⟩)
  k_with "subscriptTail Name Name ref int" => ((with_reducible show wpAny _ _ (subscriptTail _ _ (Value.ref _) (Value.int _ _)) _ _ _); (with_reducible rename IntsAre _ _ => zhI'); (refine' item_ints (News.isList (by with_reducible assumption) (by k_mem)) zhI' ?zqm1 ?zqm2 ?_ ?zqm3 ?zqm4); (case zqm1 => first | assumption | omega); (case zqm2 => first | assumption | omega); (case zqm3 => with_unfolding_all exact rfl); (case zqm4 => (intro _; with_unfolding_all exact rfl)); (intro _ _ _))
  k_with "m cl" => (simp only [Nat.zero_add, Int.toNat_natCast, beq_iff_eq, beq_eq_false_iff_ne, ne_eq, bne_iff_ne, bne_eq_false_iff_eq, Bool.not_eq_true] at *)
  k_with "m ifs" => ((repeat (first | rw [if_pos (by with_reducible assumption)] | rw [if_no (by with_reducible assumption)] | rw [if_neg (by with_reducible assumption)])); try (first | rfl | with_reducible assumption | (symm; with_reducible assumption)))
  k_with "m fin" => ((repeat (with_reducible refine SealS.ret (by assumption) ?_)); (with_reducible rename Fr _ _ _ _ => zF'); first | refine ret_str (Fr.keep zF') ?_ | refine ret_bool (Fr.keep zF') ?_ | refine ret_int (Fr.keep zF') ?_)
  k_with "m len" => first | exact Nat.le_trans (by with_reducible assumption) (by decide) | omega | (decide +kernel) | ((try simp only [Str.length_append, len_tx]); omega)
  k_with "binaryOp Add str str" => ((with_reducible show wpAny _ _ (binaryOp Operator.Add (Value.str _ _) (Value.str _ _)) _ _ _); (refine' add_txt ?zqkxaa ?zqkxab ?_; (case zqkxaa => k_extra "m len"); (case zqkxab => k_extra "m len")); intro _ _ _)
  k_with "inplaceOp Add str str" => ((with_reducible show wpAny _ _ (inplaceOp Operator.Add (Value.str _ _) (Value.str _ _)) _ _ _); (refine' iadd_txt ?zqkxaa ?zqkxab ?_; (case zqkxaa => k_extra "m len"); (case zqkxab => k_extra "m len")); intro _ _ _)
  k_with "setAttr ref" => (k_dflt (refine' set_dict ?zqk1 ?zqk2 ?zqk3 ?zqk4 ?zqk5 ?zqk6 ?zqk7 ?zqk8 ?zqk9 ?zqk10 ?zqk11 ?zqk12 ?zqk13 ?_; (case zqk1 => k_asm); (case zqk2 => k_asm); (case zqk3 => k_asm); (case zqk4 => k_inst); (case zqk5 => exact rfl); (case zqk6 => k_is); (case zqk7 => k_is); (case zqk8 => k_is); (case zqk9 => k_is); (case zqk10 => k_get); (case zqk11 => k_put); (case zqk12 => k_upd); (case zqk13 => exact Nat.le_of_ble_eq_true rfl); k_whole; intro _ _ _; (try k_sweep)))
  k_with "getAttr ref" => (k_dflt (refine' get_own ?zqk1 ?zqk2 ?zqk3 ?zqk4 ?zqk5 ?zqk6 ?zqk7 ?zqk8 ?zqk9 ?_; (case zqk1 => k_asm); (case zqk2 => k_asm); (case zqk3 => first | exact inst_base (by with_reducible assumption) (by k_asm) | k_inst); (case zqk4 => k_is); (case zqk5 => k_is); (case zqk6 => k_is); (case zqk7 => k_is); (case zqk8 => k_get); (case zqk9 => k_handed); k_whole))
  trivial

-- text C1
section
theorem warm_C1 (w : World) (h : Heap) : (frag.heap_1 w.params).In h → (Challenge.rw_pf0128_01.wellSaid = Challenge.rw_pf0128_01.wellSaid) → True := by k_fill; intros; trivial
def dstep (s : List Int × Int × Bool) (c : Nat) : List Int × Int × Bool :=
  if c = 39 then (s.1 ++ [-1], s.2.1, !s.2.2)
  else if s.2.2 = true then (s.1 ++ [-1], s.2.1, s.2.2)
  else if c = 40 ∧ 0 ≤ s.2.1 then (s.1 ++ [s.2.1], s.2.1 + 1, s.2.2)
  else if c = 41 ∧ 0 < s.2.1 then (s.1 ++ [s.2.1 - 1], s.2.1 - 1, s.2.2)
  else if c = 41 then (s.1 ++ [-2], -2, s.2.2) else (s.1 ++ [s.2.1], s.2.1, s.2.2)
def dfold (l : List Nat) : List Int × Int × Bool := l.foldl dstep ([], 0, false)
def depthsF (x : Str) : List Int := (dfold x.cps.toList).1
theorem dfold_snoc (l : List Nat) (c : Nat) : dfold (l ++ [c]) = dstep (dfold l) c := by simp [dfold]

inductive J1 (x : Str) (i : Nat) (m : Str → Option Value) (nx : List (Addr × Obj)) : Prop
  | mk (o : Addr) (vs : List Value) (n : Nat) (td : Tok) (q0 : nx = [(o, listOf vs.toArray n)]) (q1 : IntsAre vs (dfold (x.cps.toList.take i)).1) (q2 : vs.length = i) (q3 : Has m [(Str.ofString "out", .ref o), (Str.ofString "depth", .int (dfold (x.cps.toList.take i)).2.1 td), (Str.ofString "is_inside", .bool (dfold (x.cps.toList.take i)).2.2)]) : J1 x i m nx
theorem dstep_q {ds : List Int} {dd : Int} {q : Bool} {c : Nat} (h : c = 39) : dstep (ds, dd, q) c = (ds ++ [-1], dd, !q) := by unfold dstep; rw [if_pos h]
theorem dstep_in {ds : List Int} {dd : Int} {c : Nat} (h : c ≠ 39) : dstep (ds, dd, true) c = (ds ++ [-1], dd, true) := by unfold dstep; rw [if_neg h, if_pos rfl]
theorem dstep_op {ds : List Int} {dd : Int} {c : Nat} (h : c = 40) (h2 : 0 ≤ dd) : dstep (ds, dd, false) c = (ds ++ [dd], dd + 1, false) := by unfold dstep; rw [if_neg (by omega), if_neg Bool.false_ne_true, if_pos ⟨h, h2⟩]
theorem dstep_cl {ds : List Int} {dd : Int} {c : Nat} (h : c = 41) (h2 : 0 < dd) : dstep (ds, dd, false) c = (ds ++ [dd - 1], dd - 1, false) := by unfold dstep; rw [if_neg (by omega), if_neg Bool.false_ne_true, if_neg (by omega), if_pos ⟨h, h2⟩]
theorem dstep_bad {ds : List Int} {dd : Int} {c : Nat} (h : c = 41) (h2 : ¬ 0 < dd) : dstep (ds, dd, false) c = (ds ++ [-2], -2, false) := by unfold dstep; rw [if_neg (by omega), if_neg Bool.false_ne_true, if_neg (by omega), if_neg (fun q => h2 q.2), if_pos h]
theorem dstep_else {ds : List Int} {dd : Int} {c : Nat} (h : c ≠ 39) (h1 : ¬ (c = 40 ∧ 0 ≤ dd)) (h2 : c ≠ 41) : dstep (ds, dd, false) c = (ds ++ [dd], dd, false) := by unfold dstep; rw [if_neg h, if_neg Bool.false_ne_true, if_neg h1, if_neg (fun q => h2 q.1), if_neg h2]
theorem dfold_next {x : Str} {i c : Nat} (hc : x.cps[i]? = some c) : dfold (x.cps.toList.take (i + 1)) = dstep (dfold (x.cps.toList.take i)) c := by rw [take_snoc' hc, dfold_snoc]
theorem J1.step {x : Str} {i n' : Nat} {g h' : Heap} {L I o : Addr} {s : Shared} {tk : Nat} {oI : Obj} {m : Str → Option Value} {vs : List Value} {v : Int} {tv : Tok} {ds : List Int} {e : List Int × Int × Bool} {d : Int} {q : Bool} {td : Tok} (hT : dfold (x.cps.toList.take (i + 1)) = e) (he : e = (ds ++ [v], d, q)) (hI : IntsAre vs ds) (hl : vs.length = i) (hne : o ≠ I)
    (F : Fr g L h' m) (N : News g L h' [(I, oI), (o, listOf (vs.toArray.push (.int v tv)) n')]) (hm : Has m [(Str.ofString "out", .ref o), (Str.ofString "depth", .int d td), (Str.ofString "is_inside", .bool q)]) : ForEnd g L s I oI (J1 x (i + 1)) { s with heap := h', toks := tk } := by
  rw [List.push_toArray] at N
  refine ⟨_, _, _, _, rfl, F, N, fun p hp => by (rw [List.mem_singleton.mp hp]; exact hne), _, _, _, td, rfl, ?_, ?_, ?_⟩
  · rw [hT, he]; exact ints_snoc hI _ _
  · rw [List.length_append, hl]; rfl
  · rw [hT, he]; exact hm
theorem c_depths (w : World) (x : Str) (t : Tok) (hx : x.length ≤ 100000) : CtrN w 1 219 [.str x t] (fun _ => True) (fun i : List Value × Nat => listOf i.1.toArray i.2) (fun i => IntsAre i.1 (depthsF x)) := by
  walk_at "m enter"
  intro dp un gd fr mean mg mb s L h₁ tk hdp hun X T hpre F N
  walk_at "m steps"
  rename Fr _ _ _ _ => F
  rename News _ _ _ _ => N
  refine for_str (h₀ := s.heap) (L := L) rfl F N (J1 x) ?_ ?_ ?_ PassesOwn.never
  · exact ⟨_, [], 0, _, rfl, .nil, rfl, rfl, rfl, rfl, trivial⟩
  · rintro i c u m nx h tk I oI hc ⟨o, vs, n, td, rfl, hI, hlen, hm⟩ hn F N
    have hT := dfold_next hc
    generalize dfold (x.cps.toList.take i) = D at *
    obtain ⟨ds, dd, dq⟩ := D
    dsimp only at *
    have hil : i < 100000 := Nat.lt_of_lt_of_le (Array.getElem?_eq_some_iff.mp hc).1 hx
    have hne := neN (hn _ (List.mem_singleton.mpr rfl))
    have F := knows F hm
    refine assign_name F N rfl rfl fun h' F N => ?_
    k_fold
    cases dq
    all_goals walk_at "m steps"
    all_goals (
      rename Fr _ _ _ _ => F'
      rename News _ _ _ _ => N'
      first
       | (exfalso; omega)
       | exact J1.step hT (dstep_q (by assumption)) hI hlen hne F' N' ⟨rfl, rfl, rfl, trivial⟩
       | exact J1.step hT (dstep_in (by assumption)) hI hlen hne F' N' ⟨rfl, rfl, rfl, trivial⟩
       | exact J1.step hT (dstep_op (by assumption) (by omega)) hI hlen hne F' N' ⟨rfl, rfl, rfl, trivial⟩
       | exact J1.step hT (dstep_cl (by assumption) (by omega)) hI hlen hne F' N' ⟨rfl, rfl, rfl, trivial⟩
       | exact J1.step hT (dstep_bad (by assumption) (by omega)) hI hlen hne F' N' ⟨rfl, rfl, rfl, trivial⟩
       | exact J1.step hT (dstep_else (by assumption) (by omega) (by assumption)) hI hlen hne F' N' ⟨rfl, rfl, rfl, trivial⟩)
  · rintro m nx h tk ⟨o, vs, n, td, rfl, hI, hlen, hm⟩ F N
    have F := knows F hm
    walk_at "m steps"
    rename Fr _ _ _ _ => F'
    have e : x.cps.toList.take x.cps.size = x.cps.toList := by rw [← Array.length_toList, List.take_length]
    rw [e] at hI
    have := N _ (List.mem_singleton.mpr rfl)
    exact ⟨(o, vs, n), _, _, rfl, rfl, F'.keep, this.2.2, this.1, hI⟩
def scan (p : Nat → Bool) : List Nat → Nat
  | [] => 0
  | c :: r => if p c = true then scan p r + 1 else 0
theorem scan_at (p : Nat → Bool) {l : List Nat} {k c : Nat} (h : l[k]? = some c) : scan p (l.drop k) = if p c = true then scan p (l.drop (k + 1)) + 1 else 0 := by
  obtain ⟨hk, hc⟩ := List.getElem?_eq_some_iff.mp h
  rw [List.drop_eq_getElem_cons hk, hc]; rfl
theorem scan_end (p : Nat → Bool) {l : List Nat} {k : Nat} (h : l.length ≤ k) : scan p (l.drop k) = 0 := by rw [List.drop_of_length_le h]; rfl
def isLD (c : Nat) : Bool := isL c || isD c
def nameEnd (l : List Nat) (k : Nat) : Nat := if (l[k]?.any isL) = true then k + scan isLD (l.drop k) else k
def digitsEnd (l : List Nat) (k : Nat) : Nat := k + scan isD (l.drop k)

inductive J2 (x : Str) (k : Nat) (t : Tok) (n : Nat) (m : Str → Option Value) (nx : List (Addr × Obj)) : Prop
  | mk (p0 : nx = []) (e : Nat) (te : Tok) (q0 : k ≤ e) (q1 : n = x.length - e) (q2 : e + scan isD ((sg x).drop e) = digitsEnd (sg x) k) (q3 : Has m [(Str.ofString "end", .int e te), (Str.ofString "row", .str x t)]) : J2 x k t n m nx
theorem c_digits_end (w : World) (x : Str) (k : Nat) (t u : Tok) (hx : x.length ≤ 100000) : Ctr w 1 281 [.str x t, .int k u] (fun _ => True) (fun t' : Tok => .int (digitsEnd (sg x) k : Nat) t') (fun _ _ _ => True) := by
  walk_at "m enter"
  intro dp un gd fr mean mg mb s L h₁ tk hdp hun X T hpre F N
  walk_at "m steps"
  rename Fr _ _ _ _ => F
  rename News _ _ _ _ => N
  refine While_inv2 (J2 x k t) F N ⟨rfl, k, u, Nat.le_refl _, rfl, rfl, rfl, rfl, trivial⟩ ?_ PassesOwn.never
  rintro n m nx h tk F N ⟨rfl, e, te, hke, rfl, he, hm⟩
  have F := knows F hm
  walk_at "m steps"
  · rename (x.cps[_]? = some _) => c2
    rename (isD _ = true) => c3
    rename Fr _ _ _ _ => F'
    rename News _ _ _ _ => N'
    rw [scan_at _ (sg_get c2), if_pos c3] at he
    exact ⟨_, _, _, _, _, rfl, F', N', (sub_less (by assumption) : x.length - (e + 1) < _), rfl, e + 1, _, by omega, rfl, by omega, rfl, rfl, trivial⟩
  · rename (x.cps[_]? = some _) => c2
    rename (isD _ = false) => c3
    rw [scan_at _ (sg_get c2), if_neg (by rw [c3]; decide)] at he
    rw [← he]
    walk_at "m ret"
  · rw [scan_end _ (by rw [len_sg]; omega)] at he
    rw [← he]
    walk_at "m ret"
inductive J3 (x : Str) (k : Nat) (t : Tok) (n : Nat) (m : Str → Option Value) (nx : List (Addr × Obj)) : Prop
  | mk (p0 : nx = []) (e : Nat) (te : Tok) (q0 : k ≤ e) (q1 : n = x.length - e) (q2 : e + scan isLD ((sg x).drop e) = k + scan isLD ((sg x).drop k)) (q3 : Has m [(Str.ofString "end", .int e te), (Str.ofString "row", .str x t)]) : J3 x k t n m nx
theorem c_name_end (w : World) (x : Str) (k : Nat) (t u : Tok) (hx : x.length ≤ 100000) : Ctr w 1 274 [.str x t, .int k u] (fun _ => True) (fun t' : Tok => .int (nameEnd (sg x) k : Nat) t') (fun _ _ _ => True) := by
  walk_at "m enter"
  intro dp un gd fr mean mg mb s L h₁ tk hdp hun X T hpre F N
  walk_at "m steps"
  · have e : nameEnd (sg x) k = k := by
      unfold nameEnd; rw [List.getElem?_eq_none (by rw [len_sg]; assumption), if_neg (by decide)]
    rw [e]
    walk_at "m ret"
  · rename (x.cps[_]? = some _) => hc
    rename (isL _ = false) => hL
    have e : nameEnd (sg x) k = k := by
      unfold nameEnd; rw [sg_get hc, if_neg (by rw [Option.any_some, hL]; decide)]
    rw [e]
    walk_at "m ret"
  · rename (x.cps[_]? = some _) => hc
    rename (isL _ = true) => hL
    rename Fr _ _ _ _ => F
    rename News _ _ _ _ => N
    have e9 : nameEnd (sg x) k = k + scan isLD ((sg x).drop k) := by
      unfold nameEnd; rw [sg_get hc, if_pos (by rw [Option.any_some, hL])]
    refine While_inv2 (J3 x k t) F N ⟨rfl, k, u, Nat.le_refl _, rfl, rfl, rfl, rfl, trivial⟩ ?_ PassesOwn.never
    rintro n m nx h tk F N ⟨rfl, e, te, hke, rfl, he, hm⟩
    have F := knows F hm
    walk_at "m steps"
    · rename (x.cps[e]? = some _) => c2
      rename (isL _ = true) => c3
      rename Fr _ _ _ _ => F'
      rename News _ _ _ _ => N'
      rw [scan_at _ (sg_get c2), if_pos (by unfold isLD; rw [c3]; rfl)] at he
      exact ⟨_, _, _, _, _, rfl, F', N', (sub_less (by assumption) : x.length - (e + 1) < _), rfl, e + 1, _, by omega, rfl, by omega, rfl, rfl, trivial⟩
    · rename (x.cps[e]? = some _) => c2
      rename (isD _ = true) => c3
      rename Fr _ _ _ _ => F'
      rename News _ _ _ _ => N'
      rw [scan_at _ (sg_get c2), if_pos (by unfold isLD; rw [c3, Bool.or_true])] at he
      exact ⟨_, _, _, _, _, rfl, F', N', (sub_less (by assumption) : x.length - (e + 1) < _), rfl, e + 1, _, by omega, rfl, by omega, rfl, rfl, trivial⟩
    · rename (x.cps[e]? = some _) => c2
      rename (isL _ = false) => c3
      rename (isD _ = false) => c4
      rw [scan_at _ (sg_get c2), if_neg (by unfold isLD; rw [c3, c4]; decide)] at he
      rw [e9, ← he]
      walk_at "m ret"
    · rw [scan_end _ (by rw [len_sg]; omega)] at he
      rw [e9, ← he]
      walk_at "m ret"

end

theorem regc1 : True := by
  k_with "m side" => first | with_reducible assumption | decide | exact Nat.le_trans (by with_reducible assumption) (by decide) | omega | trivial | (simp only [Str.length_append, len_tx] at *; omega)
  k_with "m ctr" => ((case zqF => with_reducible assumption); (case zqN => with_reducible assumption); (case zqX => with_reducible assumption); (case zqT => with_reducible assumption); (case zqd => k_extra "m room"); (case zqu => k_extra "m room"))
  k_with "call ref" => ((with_reducible show wpAny _ _ (call (Value.ref 219) _) _ _ _); refine' CtrN.use (c_depths _ _ _ ?zqh) ?zqF ?zqN ?zqX ?zqT ?zqd ?zqu ?zqp ?_; (case zqh => (k_extra "m side")); (case zqp => trivial); (k_extra "m ctr"); intro _ ⟨_, _⟩ _ _ _ zN' zhne' zhR'; (try dsimp only at zN' zhR' zhne'))
  k_with "call ref" => ((with_reducible show wpAny _ _ (call (Value.ref 281) _) _ _ _); refine' Ctr.use (c_digits_end _ _ _ _ _ ?zqh) ?zqF ?zqN ?zqX ?zqT ?zqd ?zqu ?zqp ?_; (case zqh => (k_extra "m side")); (case zqp => trivial); (k_extra "m ctr"); intro _ _ _ _ _ _ _)
  k_with "call ref" => ((with_reducible show wpAny _ _ (call (Value.ref 274) _) _ _ _); refine' Ctr.use (c_name_end _ _ _ _ _ ?zqh) ?zqF ?zqN ?zqX ?zqT ?zqd ?zqu ?zqp ?_; (case zqh => (k_extra "m side")); (case zqp => trivial); (k_extra "m ctr"); intro _ _ _ _ _ _ _)
  trivial

-- text C2
section
def firstP (p : Nat → Bool) : Nat → Nat → Option Nat
  | _, 0 => none
  | e, n + 1 => if p e = true then some e else firstP p (e + 1) n
def closeP (x : Str) (a e : Nat) : Bool := ((sg x)[e]? == some 41) && ((depthsF x).getD e 0 == (depthsF x).getD a 0)
def closeF (x : Str) (a : Nat) : Int := match firstP (closeP x a) (a + 1) (x.length - (a + 1)) with
  | some e => (e : Int)
  | none => -1
theorem dstep_len (s : List Int × Int × Bool) (c : Nat) : (dstep s c).1.length = s.1.length + 1 := by
  unfold dstep; (repeat' split) <;> simp
theorem dfold_len (l : List Nat) : (dfold l).1.length = l.length := by
  unfold dfold
  suffices h : ∀ (l : List Nat) (s : List Int × Int × Bool), (l.foldl dstep s).1.length = s.1.length + l.length by simpa using h l ([], 0, false)
  intro l
  induction l with
  | nil => intro s; simp
  | cons c r ih => intro s; simp only [List.foldl_cons, List.length_cons, ih, dstep_len]; omega
theorem depthsF_len (x : Str) : (depthsF x).length = x.length := by unfold depthsF; rw [dfold_len, len_sg]

inductive J4 (x : Str) (k : Nat) (t u : Tok) (i : Nat) (m : Str → Option Value) (nx : List (Addr × Obj)) : Prop
  | mk (l : Addr) (vs : List Value) (n : Nat) (q0 : nx = [(l, listOf vs.toArray n)]) (q1 : IntsAre vs (depthsF x)) (q2 : closeF x k = (match firstP (closeP x k) (k + 1 + i) (x.length - (k + 1) - i) with | some e => (e : Int) | none => -1)) (q3 : Has m [(Str.ofString "row", .str x t), (Str.ofString "levels", .ref l), (Str.ofString "at", .int k u)]) : J4 x k t u i m nx
theorem c_closing (w : World) (x : Str) (k : Nat) (t u : Tok) (hx : x.length ≤ 100000) (hk : k ≤ 100000) : Ctr w 2 226 [.str x t, .int k u] (fun _ => True) (fun t' : Tok => .int (closeF x k) t') (fun _ _ _ => True) := by
  walk_at "m enter"
  intro dp un gd fr mean mg mb s L h₁ tk hdp hun X T hpre F N
  walk_at "m steps"
  rename IsRange _ _ _ _ _ _ _ _ => R
  rename Fr _ _ _ _ => F
  rename News _ _ _ _ => N
  rename IntsAre _ _ => hI
  have hdl := depthsF_len x
  refine for_rangeN (k + 1) x.length (h₀ := s.heap) (L := L) rfl R (by omega) (by omega) F N (J4 x k t u) ?_ ?_ ?_ PassesOwn.never
  · exact ⟨_, _, _, rfl, hI, rfl, rfl, rfl, rfl, trivial⟩
  · rintro i v m nx h tk I oI hi ⟨l, vs, n, rfl, hI, hP, hm⟩ hn F N
    have hne := neN (hn _ (List.mem_singleton.mpr rfl))
    have f1 : k + 1 + i < x.length := add_less hi
    have f2 : ((k + 1 + i : Nat) : Int) < 2 ^ 63 := small_int f1 hx
    have f3 : ((k + 1 + i : Nat) : Int) < ((depthsF x).length : Nat) := by rw [hdl]; exact Int.ofNat_lt.mpr f1
    have f4 : (k : Int) < ((depthsF x).length : Nat) := Int.lt_of_le_of_lt (Int.ofNat_le.mpr (Nat.le_trans (Nat.le_succ k) (Nat.le_add_right _ i))) f3
    have F := knows F hm
    refine assign_name F N rfl rfl fun h' F N => ?_
    k_fold
    walk_at "m steps"
    all_goals (
      (try rename (x.cps[k + 1 + i]? = some _) => hc)
      (with_reducible rename Fr _ _ _ _ => F)
      (with_reducible rename News _ _ _ _ => N)
      rw [sub_step hi] at hP
      unfold firstP at hP)
    · rename (_ = 41) => h41
      rename ((_ == _) = true) => hq
      rw [if_pos (by unfold closeP; rw [sg_get hc, h41]; rw [Int.toNat_natCast, Int.toNat_natCast] at hq; rw [hq]; rfl)] at hP
      rw [hP]
      walk_at "m ret"
    · rename (_ = 41) => h41
      rename ((_ == _) = false) => hq
      rw [if_neg (by unfold closeP; rw [Int.toNat_natCast, Int.toNat_natCast] at hq; rw [hq, Bool.and_false]; decide)] at hP
      exact ⟨_, _, _, _, rfl, F, N, fun p hp => by (rw [List.mem_singleton.mp hp]; exact hne), _, _, _, rfl, hI, hP, rfl, rfl, rfl, trivial⟩
    · rename (_ ≠ 41) => h41
      rw [if_neg (by unfold closeP; rw [sg_get hc]; simp [h41])] at hP
      exact ⟨_, _, _, _, rfl, F, N, fun p hp => by (rw [List.mem_singleton.mp hp]; exact hne), _, _, _, rfl, hI, hP, rfl, rfl, rfl, trivial⟩
  · rintro m nx h tk ⟨l, vs, n, rfl, hI, hP, hm⟩ F N
    have F := knows F hm
    rw [Nat.sub_self] at hP
    walk_at "m steps"
    rw [hP]
    walk_at "m ret"

end

theorem regc2 : True := by
  k_with "call ref" => ((with_reducible show wpAny _ _ (call (Value.ref 226) _) _ _ _); refine' Ctr.use (c_closing _ _ _ _ _ ?zqh ?zqg) ?zqF ?zqN ?zqX ?zqT ?zqd ?zqu ?zqp ?_; (case zqh => (k_extra "m side")); (case zqg => (k_extra "m side")); (case zqp => trivial); (k_extra "m ctr"); intro _ _ _ _ _ _ _)
  trivial

-- text C3
section

def closeN (x : Str) (a : Nat) : Nat := (closeF x a + 1).toNat
theorem firstP_lt {p : Nat → Bool} : ∀ {n e r : Nat}, firstP p e n = some r → e ≤ r ∧ r < e + n ∧ p r = true
  | 0, _, _, h => by cases h
  | n + 1, e, r, h => by
    unfold firstP at h
    by_cases hp : p e = true
    · rw [if_pos hp] at h; cases h; exact ⟨Nat.le_refl _, by omega, hp⟩
    · rw [if_neg hp] at h
      obtain ⟨a, b, c⟩ := firstP_lt h
      exact ⟨by omega, by omega, c⟩
theorem closeF_bound (x : Str) (a : Nat) : -1 ≤ closeF x a ∧ closeF x a < x.length := by
  unfold closeF
  cases h : firstP (closeP x a) (a + 1) (x.length - (a + 1)) with
  | none => exact ⟨by show (-1 : Int) ≤ -1; omega, by show (-1 : Int) < _; omega⟩
  | some e => have := firstP_lt h; exact ⟨by dsimp only; omega, by dsimp only; omega⟩
theorem closeN_eq (x : Str) (a : Nat) : closeF x a + 1 = (closeN x a : Int) := by unfold closeN; have := closeF_bound x a; omega
theorem closeN_le (x : Str) (a : Nat) : closeN x a ≤ x.length := by unfold closeN; have := closeF_bound x a; omega
theorem scan_le (p : Nat → Bool) : ∀ l : List Nat, scan p l ≤ l.length
  | [] => Nat.le_refl _
  | c :: r => by unfold scan; have := scan_le p r; split <;> simp only [List.length_cons] <;> omega
theorem nameEnd_le {l : List Nat} {k : Nat} (h : k ≤ l.length) : nameEnd l k ≤ l.length := by
  unfold nameEnd
  split
  · have := scan_le isLD (l.drop k); rw [List.length_drop] at this; omega
  · exact h
theorem slice_one_eq {x : Str} {b k : Nat} {y : Str} (hy : y = ⟨#[k]⟩) : (Txt.slice x (some (b : Int)) (some ((b : Int) + 1)) == y) = decide ((sg x)[b]? = some k) := by
  subst hy
  rcases Nat.lt_or_ge b x.length with h | h
  · have e : x.cps[b]? = some x.cps[b] := Array.getElem?_eq_some_iff.mpr ⟨h, rfl⟩
    rw [one_some e, sg_get e, one_beq _ rfl]
    simp
  · rw [one_none h, List.getElem?_eq_none (by rw [len_sg]; exact h)]
    rw [decide_eq_false (by simp)]
    exact beq_eq_false_iff_ne.mpr (fun q => absurd (congrArg Str.length q) (by show ¬ (0 = 1); decide))
def tgtGo (x : Str) : Nat → Nat → Bool
  | 0, b => (b : Int) == (x.length : Int)
  | n + 1, b => if (sg x)[b]? = some 40 then (if closeN x b = 0 then false else tgtGo x n (closeN x b)) else tgtGo x n b
def isTarget (x : Str) : Bool := if nameEnd (sg x) 0 = 0 then false else tgtGo x 2 (nameEnd (sg x) 0)
inductive J5 (x : Str) (t : Tok) (i : Nat) (m : Str → Option Value) (nx : List (Addr × Obj)) : Prop
  | mk (p0 : nx = []) (b : Nat) (tb : Tok) (q0 : b ≤ x.length) (q1 : tgtGo x (2 - i) b = isTarget x) (q2 : Has m [(Str.ofString "text", .str x t), (Str.ofString "at", .int b tb)]) : J5 x t i m nx
theorem c_is_target (w : World) (x : Str) (t : Tok) (hx : x.length ≤ 100000) : Ctr w 3 288 [.str x t] (fun _ => True) (fun _ : Tok => .bool (isTarget x)) (fun _ _ _ => True) := by
  walk_at "m enter"
  intro dp un gd fr mean mg mb s L h₁ tk hdp hun X T hpre F N
  walk_at "m steps"
  · rename ((_ == _) = true) => hq
    have e : isTarget x = false := by unfold isTarget; rw [if_pos (by simpa using hq)]
    rw [e]
    walk_at "m ret"
  · rename ((_ == _) = false) => hq
    have e : isTarget x = tgtGo x 2 (nameEnd (sg x) 0) := by unfold isTarget; rw [if_neg (by simpa using hq)]
    rename IsRange _ _ _ _ _ _ _ _ => R
    rename Fr _ _ _ _ => F
    rename News _ _ _ _ => N
    refine for_rangeN 0 2 (h₀ := s.heap) (L := L) rfl R (by omega) (by omega) F N (J5 x t) ?_ ?_ ?_ PassesOwn.never
    · exact ⟨rfl, _, _, by have := nameEnd_le (l := sg x) (k := 0) (Nat.zero_le _); rwa [len_sg] at this, e.symm, rfl, rfl, trivial⟩
    · rintro i v m nx h tk I oI hi ⟨rfl, b, tb, hb, hP, hm⟩ hn F N
      have F := knows F hm
      rw [sub_step (n := 2) hi] at hP
      unfold tgtGo at hP
      refine assign_name F N rfl rfl fun h' F N => ?_
      k_fold
      walk_at "m steps"
      all_goals (
        (with_reducible rename Fr _ _ _ _ => F)
        (with_reducible rename News _ _ _ _ => N))
      · rename ((closeF x b + 1 == 0) = true) => h0
        rename ((Txt.slice _ _ _ == _) = true) => h1
        rw [slice_one_eq (k := 40) (by decide), decide_eq_true_eq] at h1
        rw [closeN_eq] at h0
        rw [if_pos h1, if_pos (by simpa using h0)] at hP
        rw [← hP]
        walk_at "m ret"
      · rename ((closeF x b + 1 == 0) = false) => h0
        rename ((Txt.slice _ _ _ == _) = true) => h1
        rw [slice_one_eq (k := 40) (by decide), decide_eq_true_eq] at h1
        rw [closeN_eq] at h0 F
        rw [if_pos h1, if_neg (by simpa using h0)] at hP
        exact ⟨_, _, _, _, rfl, F, N, (fun p hp => nomatch hp), rfl, closeN x b, _, closeN_le x b, hP, rfl, rfl, trivial⟩
      · rename ((Txt.slice _ _ _ == _) = false) => h1
        rw [slice_one_eq (k := 40) (by decide), decide_eq_false_iff_not] at h1
        rw [if_neg h1] at hP
        exact ⟨_, _, _, _, rfl, F, N, (fun p hp => nomatch hp), rfl, b, _, hb, hP, rfl, rfl, trivial⟩
    · rintro m nx h tk ⟨rfl, b, tb, hb, hP, hm⟩ F N
      have F := knows F hm
      walk_at "m steps"
      rw [← hP]
      walk_at "m ret"

def balGo (cs : List Nat) (lv : List Int) : Nat → Nat → Int → Bool
  | 0, _, d => d == 0
  | n + 1, i, d => if lv.getD i 0 = -2 then false else balGo cs lv n (i + 1) (if 0 ≤ lv.getD i 0 ∧ cs[i]? = some 40 then d + 1 else if 0 ≤ lv.getD i 0 ∧ cs[i]? = some 41 then d - 1 else d)
def isBal (x : Str) : Bool := balGo (sg x) (depthsF x) x.length 0 0
inductive J6 (x : Str) (t : Tok) (l : Addr) (i : Nat) (m : Str → Option Value) (nx : List (Addr × Obj)) : Prop
  | mk (p0 : nx = []) (d : Int) (td : Tok) (q0 : balGo (sg x) (depthsF x) (x.length - i) i d = isBal x) (q1 : Has m [(Str.ofString "row", .str x t), (Str.ofString "levels", .ref l), (Str.ofString "depth", .int d td)]) : J6 x t l i m nx
theorem c_is_balanced (w : World) (x : Str) (l : Addr) (t : Tok) (vs : List Value) (n : Nat) (hI : IntsAre vs (depthsF x)) (hx : x.length ≤ 100000) : Ctr w 1 295 [.str x t, .ref l] (fun h => h.get? l = some (listOf vs.toArray n)) (fun _ : Tok => .bool (isBal x)) (fun _ _ _ => True) := by
  walk_at "m enter"
  intro dp un gd fr mean mg mb s L h₁ tk hdp hun X T hpre F N
  have hl : s.heap.IsList l vs.toArray := ⟨_, hpre, rfl, _, rfl⟩
  have hdl := depthsF_len x
  walk_at "m steps"
  rename IsRange _ _ _ _ _ _ _ _ => R
  rename Fr _ _ _ _ => F
  rename News _ _ _ _ => N
  refine for_rangeN 0 x.length (h₀ := s.heap) (L := L) rfl R (by omega) (by omega) F N (J6 x t l) ?_ ?_ ?_ PassesOwn.never
  · exact ⟨rfl, _, _, rfl, rfl, rfl, rfl, trivial⟩
  · rintro i v m nx h tk I oI hi ⟨rfl, d, td, hP, hm⟩ hn F N
    have F := knows F hm
    have f1 : i < x.length := hi
    clear hi
    have f2 : (i : Int) < 2 ^ 63 := small_int f1 hx
    have f3 : (i : Int) < ((depthsF x).length : Nat) := by rw [hdl]; exact Int.ofNat_lt.mpr f1
    have f4 : 0 + i < x.length := by rw [Nat.zero_add]; exact f1
    rw [sub_step f1] at hP
    unfold balGo at hP
    refine assign_name F N rfl rfl fun h' F N => ?_
    k_fold
    walk_at "m steps"
    all_goals (
      (try rename (x.cps[_]? = some _) => hcc)
      (try replace hcc := sg_get hcc)
      (with_reducible rename Fr _ _ _ _ => F)
      (with_reducible rename News _ _ _ _ => N)
      (walk_at "m cl")
      (try rw [hcc] at hP))
    all_goals first
      | (exfalso; omega)
      | (rw [if_pos (by assumption)] at hP; rw [← hP]; walk_at "m ret")
      | (rw [if_neg (by assumption)] at hP; refine ⟨_, _, _, _, rfl, F, N, (fun p hp => nomatch hp), rfl, _, _, ?_, rfl, rfl, rfl, trivial⟩; rw [← hP]; congr 1; (repeat' split) <;> simp_all <;> omega)
  · rintro m nx h tk ⟨rfl, d, td, hP, hm⟩ F N
    have F := knows F hm
    rw [Nat.sub_zero, Nat.sub_self] at hP
    walk_at "m steps"
    rw [← hP]
    walk_at "m ret"


end

theorem regc3 : True := by
  k_with "call ref" => ((with_reducible show wpAny _ _ (call (Value.ref 288) _) _ _ _); refine' Ctr.use (c_is_target _ _ _ ?zqh) ?zqF ?zqN ?zqX ?zqT ?zqd ?zqu ?zqp ?_; (case zqh => (k_extra "m side")); (case zqp => trivial); (k_extra "m ctr"); intro _ _ _ _ _ _ _)
  k_with "call ref" => ((with_reducible show wpAny _ _ (call (Value.ref 295) _) _ _ _); (with_reducible rename IntsAre _ _ => zhI'); refine' Ctr.use (c_is_balanced _ _ _ _ _ _ zhI' ?zqh) ?zqF ?zqN ?zqX ?zqT ?zqd ?zqu ?zqp ?_; (case zqh => (k_extra "m side")); (case zqp => exact News.get (by with_reducible assumption) (by k_mem)); (k_extra "m ctr"); intro _ _ _ _ _ _ _)
  trivial

-- text C4
section
def eqGo (cs : List Nat) (lv : List Int) : Nat → Nat → Int → Int × Bool
  | 0, _, f => (f, false)
  | n + 1, i, f => if lv.getD i 0 = 0 ∧ cs[i]? = some 44 ∧ 0 ≤ (if lv.getD i 0 = 0 ∧ cs[i]? = some 61 ∧ f < 0 then (i : Int) else f) then ((if lv.getD i 0 = 0 ∧ cs[i]? = some 61 ∧ f < 0 then (i : Int) else f), true)
    else eqGo cs lv n (i + 1) (if lv.getD i 0 = 0 ∧ cs[i]? = some 61 ∧ f < 0 then (i : Int) else f)
def eqAt (x : Str) : Int × Bool := eqGo (sg x) (depthsF x) x.length 0 (-1)
inductive J7 (x : Str) (t : Tok) (l : Addr) (i : Nat) (m : Str → Option Value) (nx : List (Addr × Obj)) : Prop
  | mk (p0 : nx = []) (d : Int) (td : Tok) (q0 : eqGo (sg x) (depthsF x) (x.length - i) i d = eqAt x) (q1 : Has m [(Str.ofString "row", .str x t), (Str.ofString "levels", .ref l), (Str.ofString "found", .int d td)]) : J7 x t l i m nx
theorem c_equals_at (w : World) (x : Str) (l : Addr) (t : Tok) (vs : List Value) (n : Nat) (hI : IntsAre vs (depthsF x)) (hx : x.length ≤ 100000) : CtrN w 1 302 [.str x t, .ref l] (fun h => h.get? l = some (listOf vs.toArray n))
    (fun tt : Tok => { cls := .type "tuple", data := .seq #[.int (eqAt x).1 tt, .bool (eqAt x).2] }) (fun _ => True) := by
  walk_at "m enter"
  intro dp un gd fr mean mg mb s L h₁ tk hdp hun X T hpre F N
  have hl : s.heap.IsList l vs.toArray := ⟨_, hpre, rfl, _, rfl⟩
  have hdl := depthsF_len x
  walk_at "m steps"
  rename IsRange _ _ _ _ _ _ _ _ => R
  rename Fr _ _ _ _ => F
  rename News _ _ _ _ => N
  refine for_rangeN 0 x.length (h₀ := s.heap) (L := L) rfl R (by omega) (by omega) F N (J7 x t l) ?_ ?_ ?_ PassesOwn.never
  · exact ⟨rfl, _, _, rfl, rfl, rfl, rfl, trivial⟩
  · rintro i v m nx h tk I oI hi ⟨rfl, d, td, hP, hm⟩ hn F N
    have F := knows F hm
    have f1 : i < x.length := hi
    clear hi
    have f2 : (i : Int) < 2 ^ 63 := small_int f1 hx
    have f3 : (i : Int) < ((depthsF x).length : Nat) := by rw [hdl]; exact Int.ofNat_lt.mpr f1
    have f4 : 0 + i < x.length := by rw [Nat.zero_add]; exact f1
    rw [sub_step f1] at hP
    unfold eqGo at hP
    refine assign_name F N rfl rfl fun h' F N => ?_
    k_fold
    walk_at "m steps"
    all_goals (
      (try rename (x.cps[_]? = some _) => hcc)
      (try replace hcc := sg_get hcc)
      (with_reducible rename Fr _ _ _ _ => F)
      (with_reducible rename News _ _ _ _ => N)
      (walk_at "m cl")
      (try rw [hcc] at hP)
      (try simp only [Option.some.injEq] at hP)
      (repeat' split at hP))
    all_goals first
      | (exfalso; omega)
      | (exact ⟨_, _, _, _, rfl, F, N, (fun p hp => nomatch hp), rfl, _, _, hP, rfl, rfl, rfl, trivial⟩)
      | (have hD := N _ (List.mem_cons_self ..); have e1 := congrArg Prod.fst hP; have e2 := congrArg Prod.snd hP; dsimp only at e1 e2 hD; rw [e1, e2] at hD; (try k_unfold); (try dsimp only [ForStep]); exact ⟨(_, _), _, _, rfl, rfl, F.keep, hD.2.2, hD.1, trivial⟩)
      | (exfalso; simp_all; done)
  · rintro m nx h tk ⟨rfl, d, td, hP, hm⟩ F N
    have F := knows F hm
    rw [Nat.sub_zero, Nat.sub_self] at hP
    walk_at "m steps"
    with_reducible rename Fr _ _ _ _ => F
    with_reducible rename News _ _ _ _ => N
    have hD := N _ (List.mem_cons_self ..)
    rw [← hP]
    exact ⟨(_, _), _, _, rfl, rfl, F.keep, hD.2.2, hD.1, trivial⟩

end

theorem regc4 : True := by
  k_with "call ref" => ((with_reducible show wpAny _ _ (call (Value.ref 302) _) _ _ _); (with_reducible rename IntsAre _ _ => zhI'); refine' CtrN.use (c_equals_at _ _ _ _ _ _ zhI' ?zqh) ?zqF ?zqN ?zqX ?zqT ?zqd ?zqu ?zqp ?_; (case zqh => (k_extra "m side")); (case zqp => exact News.get (by with_reducible assumption) (by k_mem)); (k_extra "m ctr"); intro _ _ _ _ _ zN' zhne' _; (try dsimp only at zN' zhne'))
  trivial

-- text C5
section
def isDoHead (x : Str) : Bool :=
  if (Txt.slice x none (some 2) != Str.ofString "DO") = true then false
  else if ((digitsEnd (sg x) 2 : Int) == 2) = true then false
  else if (Txt.slice x (some (digitsEnd (sg x) 2 : Int)) (some ((digitsEnd (sg x) 2 : Int) + 1)) == Str.ofString ",") = true then
    (if ((nameEnd (sg x) (digitsEnd (sg x) 2 + 1) : Int) == (x.length : Int)) = true then decide ((digitsEnd (sg x) 2 : Int) + 1 < x.length) else false)
  else (if ((nameEnd (sg x) (digitsEnd (sg x) 2) : Int) == (x.length : Int)) = true then decide ((digitsEnd (sg x) 2 : Int) < x.length) else false)
theorem c_is_do_head (w : World) (x : Str) (t : Tok) (hx : x.length ≤ 100000) : Ctr w 3 309 [.str x t] (fun _ => True) (fun _ : Tok => .bool (isDoHead x)) (fun _ _ _ => True) := by
  walk_at "m enter"
  intro dp un gd fr mean mg mb s L h₁ tk hdp hun X T hpre F N
  walk_at "m steps"
  all_goals (walk_at "m fin"; unfold isDoHead; walk_at "m ifs")
def wordOfGoto (x : Str) : Str :=
  if (Txt.slice x (some 4) (some 5) == Str.ofString "(") = true then Str.ofString "cgoto"
  else if (Txt.slice x (some 4) (some 5) != Str.ofString "") = true then
    (if ((digitsEnd (sg x) 4 : Int) == (x.length : Int)) = true then Str.ofString "goto" else if (4 : Int) < (nameEnd (sg x) 4 : Int) then Str.ofString "agoto" else Str.ofString "")
  else if (4 : Int) < (nameEnd (sg x) 4 : Int) then Str.ofString "agoto" else Str.ofString ""
theorem c_word_of_goto (w : World) (x : Str) (t : Tok) (hx : x.length ≤ 100000) : Ctr w 3 323 [.str x t] (fun _ => True) (fun t' : Tok => .str (wordOfGoto x) t') (fun _ _ _ => True) := by
  walk_at "m enter"
  intro dp un gd fr mean mg mb s L h₁ tk hdp hun X T hpre F N
  walk_at "m steps"
  all_goals (walk_at "m fin"; unfold wordOfGoto; walk_at "m ifs")
def figAt (x : Str) : Bool := (Builtin.Str.occurrences (Str.ofString "0123456789") (Txt.item x 0) 0 (Str.ofString "0123456789").length 1).isEmpty
def wordOfIf (x : Str) : Str :=
  if (Txt.slice x (some (closeF x 2 + 1)) none == Str.ofString "THEN") = true then Str.ofString "if"
  else if (Txt.slice x (some (closeF x 2 + 1)) none).length = 0 then Str.ofString ""
  else if figAt (Txt.slice x (some (closeF x 2 + 1)) none) = true then Str.ofString "lif" else Str.ofString "aif"
theorem c_word_of_if (w : World) (x : Str) (t : Tok) (hx : x.length ≤ 100000) : Ctr w 3 316 [.str x t] (fun _ => True) (fun t' : Tok => .str (wordOfIf x) t') (fun _ _ _ => True) := by
  walk_at "m enter"
  intro dp un gd fr mean mg mb s L h₁ tk hdp hun X T hpre F N
  walk_at "m steps"
  all_goals ((try ((with_reducible rename (0 < _) => hpos); have hpos' := Nat.ne_of_gt hpos)); walk_at "m fin"; unfold wordOfIf figAt; walk_at "m ifs")

end

theorem regc5 : True := by
  k_with "call ref" => ((with_reducible show wpAny _ _ (call (Value.ref 309) _) _ _ _); refine' Ctr.use (c_is_do_head _ _ _ ?zqh) ?zqF ?zqN ?zqX ?zqT ?zqd ?zqu ?zqp ?_; (case zqh => (k_extra "m side")); (case zqp => trivial); (k_extra "m ctr"); intro _ _ _ _ _ _ _)
  k_with "call ref" => ((with_reducible show wpAny _ _ (call (Value.ref 323) _) _ _ _); refine' Ctr.use (c_word_of_goto _ _ _ ?zqh) ?zqF ?zqN ?zqX ?zqT ?zqd ?zqu ?zqp ?_; (case zqh => (k_extra "m side")); (case zqp => trivial); (k_extra "m ctr"); intro _ _ _ _ _ _ _)
  k_with "call ref" => ((with_reducible show wpAny _ _ (call (Value.ref 316) _) _ _ _); refine' Ctr.use (c_word_of_if _ _ _ ?zqh) ?zqF ?zqN ?zqX ?zqT ?zqd ?zqu ?zqp ?_; (case zqh => (k_extra "m side")); (case zqp => trivial); (k_extra "m ctr"); intro _ _ _ _ _ _ _)
  trivial

-- text C6
section
def sIF : Str := Str.ofString "IF("
def wbOk (x : Str) : Bool := (x == Str.ofString "ELSE") == false && (x == Str.ofString "ENDIF") == false && (x == Str.ofString "END") == false && (x == Str.ofString "CONTINUE") == false &&
  ((Txt.slice x none (some 3) == Str.ofString "IF(") || (Txt.slice x none (some 7) == Str.ofString "ELSEIF(") || (Txt.slice x none (some 4) == Str.ofString "GOTO") || ((Txt.slice x none (some 6) == Str.ofString "ASSIGN") && decide ((6 : Int) < (digitsEnd (sg x) 6 : Int))))
def wordByBegin (x : Str) : Str :=
  if (Txt.slice x none (some 3) == Str.ofString "IF(") = true then wordOfIf x
  else if (Txt.slice x none (some 7) == Str.ofString "ELSEIF(") = true then
    (if (Txt.slice x (some (closeF x 6 + 1)) none == Str.ofString "THEN") = true then Str.ofString "elseif" else Str.ofString "")
  else if (Txt.slice x none (some 4) == Str.ofString "GOTO") = true then wordOfGoto x
  else Str.ofString "setlabel"
theorem whole_K (w : World) : (frag.heap_1 w.params).lookup 231 = some (listOf #[.ref 227, .ref 228, .ref 229, .ref 230] 0) := by k_is
theorem c_word_by_begin (w : World) (x : Str) (t : Tok) (hx : x.length ≤ 100000) (hok : wbOk x = true) : Ctr w 4 337 [.str x t] (fun _ => True) (fun t' : Tok => .str (wordByBegin x) t') (fun _ _ _ => True) := by
  have hok' := hok
  unfold wbOk at hok'
  simp only [Bool.and_eq_true, beq_iff_eq] at hok'
  walk_at "m enter"
  intro dp un gd fr mean mg mb s L h₁ tk hdp hun X T hpre F N
  have hW : s.heap.IsList 231 #[.ref 227, .ref 228, .ref 229, .ref 230] := ⟨_, X _ _ (whole_K w), rfl, _, rfl⟩
  have hT : ∀ v ∈ (#[.ref 227, .ref 228, .ref 229, .ref 230] : Array Value), ∃ T a ta b tb, v = .ref T ∧ IsTup s.heap T #[.str a ta, .str b tb] ∧ (x == a) = false := by
    intro v hv
    have hv' : v ∈ ([.ref 227, .ref 228, .ref 229, .ref 230] : List Value) := by simpa using hv
    simp only [List.mem_cons, List.not_mem_nil, or_false] at hv'
    rcases hv' with rfl | rfl | rfl | rfl
    · exact ⟨227, _, _, _, _, rfl, tupK (l := [_, _]) X (by k_is), hok'.1.1.1.1⟩
    · exact ⟨228, _, _, _, _, rfl, tupK (l := [_, _]) X (by k_is), hok'.1.1.1.2⟩
    · exact ⟨229, _, _, _, _, rfl, tupK (l := [_, _]) X (by k_is), hok'.1.1.2⟩
    · exact ⟨230, _, _, _, _, rfl, tupK (l := [_, _]) X (by k_is), hok'.1.2⟩
  walk_at "m steps"
  refine for_list (h₀ := s.heap) (L := L) rfl (hW.at fun o e => F.keep _ _ e) (go_tuple fun v hv => by obtain ⟨T, _, _, _, _, h, _⟩ := hT v hv; exact ⟨T, h⟩) F N
    (fun i m nx => nx = [] ∧ Has m [(Str.ofString "row", .str x t)]) ⟨rfl, rfl, trivial⟩ (.inl ⟨_, X _ _ (whole_K w)⟩) ?_ ?_ PassesOwn.never
  · rintro i v m nx h tk I oI hv ⟨rfl, hm⟩ hn F N
    obtain ⟨T, a, ta, b, tb, rfl, hTT, hne⟩ := hT v (Array.mem_of_getElem? hv)
    have F := knows F hm
    walk_at "m steps"
    with_reducible rename Fr _ _ _ _ => F
    with_reducible rename News _ _ _ _ => N
    exact ⟨_, _, _, _, rfl, F, N, (fun p hp => nomatch hp), rfl, rfl, trivial⟩
  · rintro m nx h tk ⟨rfl, hm⟩ F N
    have F := knows F hm
    walk_at "m steps"
    · walk_at "m fin"; unfold wordByBegin; walk_at "m ifs"
    · walk_at "m fin"; unfold wordByBegin; walk_at "m ifs"
    · walk_at "m fin"; unfold wordByBegin; walk_at "m ifs"
    · walk_at "m fin"; unfold wordByBegin; walk_at "m ifs"
    · walk_at "m fin"; unfold wordByBegin; walk_at "m ifs"
    all_goals (exfalso; have h5 := hok'.2; simp_all; done)

end

theorem regc6 : True := by
  k_with "call ref" => ((with_reducible show wpAny _ _ (call (Value.ref 337) _) _ _ _); refine' Ctr.use (c_word_by_begin _ _ _ ?zqh ?zqg) ?zqF ?zqN ?zqX ?zqT ?zqd ?zqu ?zqp ?_; (case zqh => (k_extra "m side")); (case zqg => (k_extra "m wb")); (case zqp => trivial); (k_extra "m ctr"); intro _ _ _ _ _ _ _)
  trivial

-- text C7
section
def classifyF (x : Str) : Str :=
  if isBal x = true then
    (if (eqAt x).1 < 0 then wordByBegin x
     else if (eqAt x).2 = true then (if isDoHead (Txt.slice x none (some (eqAt x).1)) = true then Str.ofString "do" else Str.ofString "")
     else if isTarget (Txt.slice x none (some (eqAt x).1)) = true then Str.ofString "assign"
     else if (Txt.slice x none (some 3) == Str.ofString "IF(") = true then
       (if isTarget (Txt.slice x (some (closeF x 2 + 1)) (some (eqAt x).1)) = true then Str.ofString "lif" else Str.ofString "")
     else Str.ofString "")
  else Str.ofString ""
def clsOk (x : Str) : Prop := isBal x = true → (eqAt x).1 < 0 → wbOk x = true
theorem reg_C7_0 : True := by
  k_with "m wb" => (exact (by with_reducible assumption : clsOk _) (by with_reducible assumption) (by with_reducible assumption))
  trivial
theorem c_classify (w : World) (x : Str) (t : Tok) (hx : x.length ≤ 100000) (hok : clsOk x) : Ctr w 5 344 [.str x t] (fun _ => True) (fun t' : Tok => .str (classifyF x) t') (fun _ _ _ => True) := by
  walk_at "m enter"
  intro dp un gd fr mean mg mb s L h₁ tk hdp hun X T hpre F N
  walk_at "m steps"
  all_goals (walk_at "m fin"; unfold classifyF; walk_at "m ifs")

end

theorem regc7 : True := by
  k_with_none
  k_with "m cases" => ((case zqho => k_is); (case zqhcd => k_is); (case zqhb => exact rfl); (case zqhlk => simp only [List.map_cons, List.map_nil, List.zip_cons_cons, List.zip_nil_left, List.zip_nil_right, List.reverse_cons, List.reverse_nil, List.nil_append, List.cons_append]; exact rfl); (case zqhl => exact locs rfl); (case zqc1 => exact rfl); (case zqc2 => exact rfl); (case zqc3 => exact rfl); (case zqc4 => decide))
  k_with "m room" => first | with_reducible assumption | exact lt_room (by with_reducible assumption) (by decide) | omega
  k_with "m nat" => first | with_reducible assumption | exact Nat.le_refl _ | exact Nat.le_succ _ | exact Nat.le_trans (by with_reducible assumption) (by decide) | exact Nat.le_trans (Nat.add_le_add_right (by with_reducible assumption) _) (by decide) | decide | omega
  k_with "m lt" => first | assumption | exact And.left (by assumption) | exact And.left (And.right (by assumption)) | exact And.left (And.right (And.right (by assumption))) | exact And.left (And.right (And.right (And.right (by assumption)))) | exact And.left (And.right (And.right (And.right (And.right (by assumption))))) | exact And.left (And.right (And.right (And.right (And.right (And.right (by assumption)))))) | exact And.left (And.right (And.right (And.right (And.right (And.right (And.right (by assumption))))))) | exact And.left (And.right (And.right (And.right (And.right (And.right (And.right (And.right (by assumption)))))))) | exact And.right (by assumption) | exact And.right (And.right (by assumption)) | exact And.right (And.right (And.right (by assumption))) | exact And.right (And.right (And.right (And.right (by assumption)))) | exact And.right (And.right (And.right (And.right (And.right (by assumption))))) | exact And.right (And.right (And.right (And.right (And.right (And.right (by assumption)))))) | exact And.right (And.right (And.right (And.right (And.right (And.right (And.right (by assumption)))))))
  k_with "m enter" => (refine' Ctr.enter ?zqho ?zqhcd ?zqhb ?zqhlk ?zqhl ?zqc1 ?zqc2 ?zqc3 ?zqc4 ?_; (k_extra "m cases"))
  k_with "m enterP" => (refine' CtrP.enter ?zqho ?zqhcd ?zqhb ?zqhlk ?zqhl ?zqc1 ?zqc2 ?zqc3 ?zqc4 ?_; (k_extra "m cases"))
  k_with "m enterT" => (refine' Ctr.enterT ?zqho ?zqhcd ?zqhb ?zqhlk ?zqhl ?zqc1 ?zqc2 ?zqc3 ?zqc4 ?_; (k_extra "m cases"))
  k_with "m init" => ((case zqhm => k_is); (case zqhi => k_is); (case zqhf => k_is); (case zqho => k_is); (case zqhcd => k_is); (case zqhb => (intro _ _ zX; first | exact BindsTo.of_eq rfl | exact binds_K zX rfl (by k_is) rfl rfl rfl)); (case zqhlk => (intro _; exact rfl)); (case zqhl => (intro _; exact locs rfl)); (case zqc1 => exact rfl); (case zqc2 => exact rfl); (case zqc3 => exact rfl); (case zqc4 => decide))
  k_with "m star" => with_reducible (first | exact st_Name | exact st_Constant | exact st_BinOp | exact st_Call | exact st_Subscript | exact st_Attribute | exact st_UnaryOp | exact st_Tuple | exact st_List)
  k_with "m plain" => first | with_reducible exact pl_nil | (with_reducible refine' pl_cons ?zqp1 ?zqp2; (case zqp1 => k_extra "m star"); (case zqp2 => k_extra "m plain"))
  k_with "execs cons" => (refine execs_seal ?_; intro _ _)
  k_with "exec If" => with_reducible refine wpAny_If ?_
  k_with "execs nil" => with_reducible refine wpAny_execs_nil ?_
  k_with "m open" => with_reducible (first | refine SealS.next (by assumption) ?_ | refine SealS.ret (by assumption) ?_ | refine SealS.brk (by assumption) ?_ | refine SealS.cont (by assumption) ?_)
  k_with "m steps" => ((repeat' (first | (k_unfold; (try dsimp only)) | walk1 | k_extra "m open" | (dsimp only; walk1) | fail "no step")) <;> (try dsimp only) <;> (try k_unfold) <;> (try dsimp only [ForStep, WhileStep2]) <;> (repeat (with_reducible refine SealS.ret (by assumption) ?_)))
  k_with "exec For Name Name cons nil" => ((with_reducible refine' for_start ?_ ?zqhs); (case zqhs => (intro _; k_dflt (exact rfl))))
  k_with "exec For Name Call cons nil" => ((with_reducible refine' for_start ?_ ?zqhs); (case zqhs => (intro _; k_dflt (exact rfl))))
  k_with "exec For Tuple Name cons nil" => ((with_reducible refine' for_start ?_ ?zqhs); (case zqhs => (intro _; k_dflt (exact rfl))))
  k_with "exec For Tuple Call cons nil" => ((with_reducible refine' for_start ?_ ?zqhs); (case zqhs => (intro _; k_dflt (exact rfl))))
  k_with "pyIter ref" => ((with_reducible show wpAny _ _ (pyIter _) (fun it s₂ => ForGo _ _ _ _ _ _ _ _ it s₂) _ _); refine stop_here ?_)
  k_with "pyIter str" => ((with_reducible show wpAny _ _ (pyIter _) (fun it s₂ => ForGo _ _ _ _ _ _ _ _ it s₂) _ _); refine stop_here ?_)
  k_with "exec While Compare cons nil" => refine stop_here ?_
  k_with "exec While BoolOp cons nil" => refine stop_here ?_
  k_with "callWith" => ((with_reducible refine' callWith_method1 ?_ ?zqm2 ?zqm3); (case zqm2 => k_extra "m star"); (case zqm3 => k_extra "m plain"))
  k_with "callWith" => ((with_reducible refine' PyProof.Rows.callWith_builtin1 ?_ ?zqm2 ?zqm3); (case zqm2 => k_extra "m star"); (case zqm3 => k_extra "m plain"))
  k_with "callWith" => with_reducible refine callWith_method0 ?_
  k_with "eval Call Attribute" => ((with_reducible refine' MethodCall_ ?_ ?zqm2); (case zqm2 => k_dflt (exact rfl)))
  k_with "eval Call Name" => ((with_reducible refine' Call_ ?_ ?zqm2); (case zqm2 => k_dflt (exact rfl)))
  k_with "exec Assign cons" => ((with_reducible refine' wpAny_Assign_Name ?_ ?zqm2); (case zqm2 => k_dflt (exact rfl)))
  k_with "ite" => first | with_reducible refine ite_tt ?_ | with_reducible refine ite_ff ?_ | (with_reducible refine split_39 ?_ ?_ <;> intro _) | (with_reducible refine split_40 ?_ ?_ <;> intro _) | (with_reducible refine split_41 ?_ ?_ <;> intro _) | (with_reducible refine split_44 ?_ ?_ <;> intro _) | (with_reducible refine split_61 ?_ ?_ <;> intro _) | (with_reducible refine split_32 ?_ ?_ <;> intro _) | with_reducible refine split_end (fun _ => ?_) (fun _ _ _ => ?_) | with_reducible refine split_emp (fun _ => ?_) (fun _ => ?_) | (with_reducible refine split_nb ?_ ?_ <;> intro _) | (with_reducible refine dec_pos (by omega) ?_) | (with_reducible refine dec_neg (by omega) ?_) | (with_reducible refine PyProof.Rows.split_dec ?_ ?_ <;> intro _) | (with_reducible refine ite_pos (by with_reducible assumption) ?_) | (with_reducible refine ite_isFalse (by with_reducible assumption) ?_) | (with_reducible refine PyProof.Rows.split_bool ?_ ?_ <;> intro _)
  k_with "eval Name" => ((with_reducible refine' ld_fast ?zqk1 ?zqk2 ?zqk3 ?zqk4 ?zqk5 ?_); (case zqk1 => with_reducible assumption); (case zqk2 => k_dflt (exact rfl)); (case zqk3 => k_dflt (exact rfl)); (case zqk4 => k_dflt (exact rfl)); (case zqk5 => k_dflt (exact rfl)))
  k_with "compareOp In str str" => with_reducible (first | refine in_letters ?_ | refine in_digits ?_ | refine in_ahead ?_)
  k_with "compareOp NotIn str str" => with_reducible (refine notin_letters ?_)
  k_with "m item" => ((with_reducible show wpAny _ _ (subscriptTail _ _ (Value.str _ _) (Value.int _ _)) _ _ _); first | ((with_reducible refine' item_at ?zqm1 ?zqm2 ?_ ?zqm3 ?zqm4); (case zqm1 => with_reducible assumption); (case zqm2 => first | assumption | omega); (case zqm3 => with_unfolding_all exact rfl); (case zqm4 => (intro _; with_unfolding_all exact rfl))) | ((with_reducible refine' item_lt ?zqm1 ?zqm2 ?_ ?zqm3 ?zqm4); (case zqm1 => first | assumption | omega); (case zqm2 => first | assumption | omega); (case zqm3 => with_unfolding_all exact rfl); (case zqm4 => (intro _; with_unfolding_all exact rfl)); (intro _ _)))
  k_with "subscriptTail Name Name str int" => k_extra "m item"
  k_with "subscriptTail Name BinOp str int" => k_extra "m item"
  k_with "m ret" => ((repeat (with_reducible refine SealS.ret (by assumption) ?_)); (with_reducible rename Fr _ _ _ _ => zF'); first | exact ⟨_, _, _, rfl, rfl, Fr.keep zF', trivial⟩ | exact ⟨(0 : Nat), _, _, rfl, rfl, Fr.keep zF', trivial⟩)
  k_with "subscriptTail Name Name ref int" => ((with_reducible show wpAny _ _ (subscriptTail _ _ (Value.ref _) (Value.int _ _)) _ _ _); (with_reducible rename IntsAre _ _ => zhI'); (refine' item_ints (News.isList (by with_reducible assumption) (by k_mem)) zhI' ?zqm1 ?zqm2 ?_ ?zqm3 ?zqm4); (case zqm1 => first | assumption | omega); (case zqm2 => first | assumption | omega); (case zqm3 => with_unfolding_all exact rfl); (case zqm4 => (intro _; with_unfolding_all exact rfl)); (intro _ _ _))
  k_with "m cl" => (simp only [Nat.zero_add, Int.toNat_natCast, beq_iff_eq, beq_eq_false_iff_ne, ne_eq, bne_iff_ne, bne_eq_false_iff_eq, Bool.not_eq_true] at *)
  k_with "m ifs" => ((repeat (first | rw [if_pos (by with_reducible assumption)] | rw [if_no (by with_reducible assumption)] | rw [if_neg (by with_reducible assumption)])); try (first | rfl | with_reducible assumption | (symm; with_reducible assumption)))
  k_with "m fin" => ((repeat (with_reducible refine SealS.ret (by assumption) ?_)); (with_reducible rename Fr _ _ _ _ => zF'); first | refine ret_str (Fr.keep zF') ?_ | refine ret_bool (Fr.keep zF') ?_ | refine ret_int (Fr.keep zF') ?_)
  k_with "m len" => first | exact Nat.le_trans (by with_reducible assumption) (by decide) | omega | (decide +kernel) | ((try simp only [Str.length_append, len_tx]); omega)
  k_with "binaryOp Add str str" => ((with_reducible show wpAny _ _ (binaryOp Operator.Add (Value.str _ _) (Value.str _ _)) _ _ _); (refine' add_txt ?zqkxaa ?zqkxab ?_; (case zqkxaa => k_extra "m len"); (case zqkxab => k_extra "m len")); intro _ _ _)
  k_with "inplaceOp Add str str" => ((with_reducible show wpAny _ _ (inplaceOp Operator.Add (Value.str _ _) (Value.str _ _)) _ _ _); (refine' iadd_txt ?zqkxaa ?zqkxab ?_; (case zqkxaa => k_extra "m len"); (case zqkxab => k_extra "m len")); intro _ _ _)
  k_with "setAttr ref" => (k_dflt (refine' set_dict ?zqk1 ?zqk2 ?zqk3 ?zqk4 ?zqk5 ?zqk6 ?zqk7 ?zqk8 ?zqk9 ?zqk10 ?zqk11 ?zqk12 ?zqk13 ?_; (case zqk1 => k_asm); (case zqk2 => k_asm); (case zqk3 => k_asm); (case zqk4 => k_inst); (case zqk5 => exact rfl); (case zqk6 => k_is); (case zqk7 => k_is); (case zqk8 => k_is); (case zqk9 => k_is); (case zqk10 => k_get); (case zqk11 => k_put); (case zqk12 => k_upd); (case zqk13 => exact Nat.le_of_ble_eq_true rfl); k_whole; intro _ _ _; (try k_sweep)))
  k_with "getAttr ref" => (k_dflt (refine' get_own ?zqk1 ?zqk2 ?zqk3 ?zqk4 ?zqk5 ?zqk6 ?zqk7 ?zqk8 ?zqk9 ?_; (case zqk1 => k_asm); (case zqk2 => k_asm); (case zqk3 => first | exact inst_base (by with_reducible assumption) (by k_asm) | k_inst); (case zqk4 => k_is); (case zqk5 => k_is); (case zqk6 => k_is); (case zqk7 => k_is); (case zqk8 => k_get); (case zqk9 => k_handed); k_whole))
  k_with "m side" => first | with_reducible assumption | decide | exact Nat.le_trans (by with_reducible assumption) (by decide) | omega | trivial | (simp only [Str.length_append, len_tx] at *; omega)
  k_with "m ctr" => ((case zqF => with_reducible assumption); (case zqN => with_reducible assumption); (case zqX => with_reducible assumption); (case zqT => with_reducible assumption); (case zqd => k_extra "m room"); (case zqu => k_extra "m room"))
  k_with "call ref" => ((with_reducible show wpAny _ _ (call (Value.ref 219) _) _ _ _); refine' CtrN.use (c_depths _ _ _ ?zqh) ?zqF ?zqN ?zqX ?zqT ?zqd ?zqu ?zqp ?_; (case zqh => (k_extra "m side")); (case zqp => trivial); (k_extra "m ctr"); intro _ ⟨_, _⟩ _ _ _ zN' zhne' zhR'; (try dsimp only at zN' zhR' zhne'))
  k_with "call ref" => ((with_reducible show wpAny _ _ (call (Value.ref 281) _) _ _ _); refine' Ctr.use (c_digits_end _ _ _ _ _ ?zqh) ?zqF ?zqN ?zqX ?zqT ?zqd ?zqu ?zqp ?_; (case zqh => (k_extra "m side")); (case zqp => trivial); (k_extra "m ctr"); intro _ _ _ _ _ _ _)
  k_with "call ref" => ((with_reducible show wpAny _ _ (call (Value.ref 274) _) _ _ _); refine' Ctr.use (c_name_end _ _ _ _ _ ?zqh) ?zqF ?zqN ?zqX ?zqT ?zqd ?zqu ?zqp ?_; (case zqh => (k_extra "m side")); (case zqp => trivial); (k_extra "m ctr"); intro _ _ _ _ _ _ _)
  k_with "call ref" => ((with_reducible show wpAny _ _ (call (Value.ref 226) _) _ _ _); refine' Ctr.use (c_closing _ _ _ _ _ ?zqh ?zqg) ?zqF ?zqN ?zqX ?zqT ?zqd ?zqu ?zqp ?_; (case zqh => (k_extra "m side")); (case zqg => (k_extra "m side")); (case zqp => trivial); (k_extra "m ctr"); intro _ _ _ _ _ _ _)
  k_with "call ref" => ((with_reducible show wpAny _ _ (call (Value.ref 288) _) _ _ _); refine' Ctr.use (c_is_target _ _ _ ?zqh) ?zqF ?zqN ?zqX ?zqT ?zqd ?zqu ?zqp ?_; (case zqh => (k_extra "m side")); (case zqp => trivial); (k_extra "m ctr"); intro _ _ _ _ _ _ _)
  k_with "call ref" => ((with_reducible show wpAny _ _ (call (Value.ref 295) _) _ _ _); (with_reducible rename IntsAre _ _ => zhI'); refine' Ctr.use (c_is_balanced _ _ _ _ _ _ zhI' ?zqh) ?zqF ?zqN ?zqX ?zqT ?zqd ?zqu ?zqp ?_; (case zqh => (k_extra "m side")); (case zqp => exact News.get (by with_reducible assumption) (by k_mem)); (k_extra "m ctr"); intro _ _ _ _ _ _ _)
  k_with "call ref" => ((with_reducible show wpAny _ _ (call (Value.ref 302) _) _ _ _); (with_reducible rename IntsAre _ _ => zhI'); refine' CtrN.use (c_equals_at _ _ _ _ _ _ zhI' ?zqh) ?zqF ?zqN ?zqX ?zqT ?zqd ?zqu ?zqp ?_; (case zqh => (k_extra "m side")); (case zqp => exact News.get (by with_reducible assumption) (by k_mem)); (k_extra "m ctr"); intro _ _ _ _ _ zN' zhne' _; (try dsimp only at zN' zhne'))
  k_with "call ref" => ((with_reducible show wpAny _ _ (call (Value.ref 309) _) _ _ _); refine' Ctr.use (c_is_do_head _ _ _ ?zqh) ?zqF ?zqN ?zqX ?zqT ?zqd ?zqu ?zqp ?_; (case zqh => (k_extra "m side")); (case zqp => trivial); (k_extra "m ctr"); intro _ _ _ _ _ _ _)
  k_with "call ref" => ((with_reducible show wpAny _ _ (call (Value.ref 323) _) _ _ _); refine' Ctr.use (c_word_of_goto _ _ _ ?zqh) ?zqF ?zqN ?zqX ?zqT ?zqd ?zqu ?zqp ?_; (case zqh => (k_extra "m side")); (case zqp => trivial); (k_extra "m ctr"); intro _ _ _ _ _ _ _)
  k_with "call ref" => ((with_reducible show wpAny _ _ (call (Value.ref 316) _) _ _ _); refine' Ctr.use (c_word_of_if _ _ _ ?zqh) ?zqF ?zqN ?zqX ?zqT ?zqd ?zqu ?zqp ?_; (case zqh => (k_extra "m side")); (case zqp => trivial); (k_extra "m ctr"); intro _ _ _ _ _ _ _)
  k_with "call ref" => ((with_reducible show wpAny _ _ (call (Value.ref 337) _) _ _ _); refine' Ctr.use (c_word_by_begin _ _ _ ?zqh ?zqg) ?zqF ?zqN ?zqX ?zqT ?zqd ?zqu ?zqp ?_; (case zqh => (k_extra "m side")); (case zqg => (k_extra "m wb")); (case zqp => trivial); (k_extra "m ctr"); intro _ _ _ _ _ _ _)
  k_with "call ref" => ((with_reducible show wpAny _ _ (call (Value.ref 344) _) _ _ _); refine' Ctr.use (c_classify _ _ _ ?zqh ?zqg) ?zqF ?zqN ?zqX ?zqT ?zqd ?zqu ?zqp ?_; (case zqh => (k_extra "m side")); (case zqg => (k_extra "m cls")); (case zqp => trivial); (k_extra "m ctr"); intro _ _ _ _ _ _ _)
  trivial

-- text PL1
section
def dv (dd : Int) (dq : Bool) (c : Nat) : Int :=
  if c = 39 then -1 else if dq = true then -1 else if c = 40 ∧ 0 ≤ dd then dd else if c = 41 ∧ 0 < dd then dd - 1 else if c = 41 then -2 else dd
def dn (dd : Int) (dq : Bool) (c : Nat) : Int :=
  if c = 39 then dd else if dq = true then dd else if c = 40 ∧ 0 ≤ dd then dd + 1 else if c = 41 ∧ 0 < dd then dd - 1 else if c = 41 then -2 else dd
def dq' (dq : Bool) (c : Nat) : Bool := if c = 39 then !dq else dq
theorem dfold_step (l : List Nat) (c : Nat) : dfold (l ++ [c]) = ((dfold l).1 ++ [dv (dfold l).2.1 (dfold l).2.2 c], dn (dfold l).2.1 (dfold l).2.2 c, dq' (dfold l).2.2 c) := by
  rw [dfold_snoc]
  unfold dstep dv dn dq'
  (repeat' split) <;> first | rfl | contradiction | (exfalso; omega)
theorem firstP_snoc (p : Nat → Bool) : ∀ (n e : Nat), firstP p e (n + 1) = match firstP p e n with
    | some k => some k
    | none => if p (e + n) = true then some (e + n) else none
  | 0, e => by unfold firstP firstP; rfl
  | n + 1, e => by
    have ih := firstP_snoc p n (e + 1)
    rw [show e + (n + 1) = e + 1 + n from by omega]
    show (if p e = true then some e else firstP p (e + 1) (n + 1)) = _
    rw [ih]
    show _ = match (if p e = true then some e else firstP p (e + 1) n) with | some k => some k | none => _
    cases p e <;> simp
theorem firstP_congr {p q : Nat → Bool} : ∀ (n e : Nat), (∀ k, e ≤ k → k < e + n → p k = q k) → firstP p e n = firstP q e n
  | 0, _, _ => rfl
  | n + 1, e, h => by
    unfold firstP
    rw [h e (Nat.le_refl _) (by omega), firstP_congr n (e + 1) fun k h1 h2 => h k (by omega) (by omega)]
theorem levels_len (l : List Nat) : (dfold l).1.length = l.length := dfold_len l
theorem closeP_old {l : List Nat} {c a e : Nat} (ha : a < l.length) (he : e < l.length) : closeP (tx (l ++ [c])) a e = closeP (tx l) a e := by
  unfold closeP depthsF
  rw [sg_tx, sg_tx]
  show (((l ++ [c])[e]? == some 41) && ((dfold (l ++ [c])).1.getD e 0 == (dfold (l ++ [c])).1.getD a 0)) = _
  rw [dfold_step, List.getElem?_append_left he]
  have hl := levels_len l
  rw [List.getD_eq_getElem?_getD, List.getD_eq_getElem?_getD, List.getElem?_append_left (by omega), List.getElem?_append_left (by omega), ← List.getD_eq_getElem?_getD, ← List.getD_eq_getElem?_getD]
theorem closeP_new {l : List Nat} {c a : Nat} (ha : a < l.length) : closeP (tx (l ++ [c])) a l.length = ((c == 41) && (dv (dfold l).2.1 (dfold l).2.2 c == (dfold l).1.getD a 0)) := by
  unfold closeP depthsF
  rw [sg_tx]
  show (((l ++ [c])[l.length]? == some 41) && ((dfold (l ++ [c])).1.getD l.length 0 == (dfold (l ++ [c])).1.getD a 0)) = _
  rw [dfold_step]
  have hl := levels_len l
  have q1 : ((dfold l).1 ++ [dv (dfold l).2.1 (dfold l).2.2 c]).getD l.length 0 = dv (dfold l).2.1 (dfold l).2.2 c := by
    rw [List.getD_eq_getElem?_getD, ← hl]; simp
  have q2 : ((dfold l).1 ++ [dv (dfold l).2.1 (dfold l).2.2 c]).getD a 0 = (dfold l).1.getD a 0 := by
    rw [List.getD_eq_getElem?_getD, List.getElem?_append_left (by omega), ← List.getD_eq_getElem?_getD]
  dsimp only
  rw [q1, q2]
  simp
theorem closeF_snoc {l : List Nat} {c a : Nat} (ha : a < l.length) : closeF (tx (l ++ [c])) a =
    if closeF (tx l) a = -1 then (if c = 41 ∧ dv (dfold l).2.1 (dfold l).2.2 c = (dfold l).1.getD a 0 then (l.length : Int) else -1) else closeF (tx l) a := by
  have e1 : (tx (l ++ [c])).length - (a + 1) = (l.length - (a + 1)) + 1 := by rw [len_tx, List.length_append, List.length_singleton]; omega
  have e2 : (tx l).length - (a + 1) = l.length - (a + 1) := by rw [len_tx]
  unfold closeF
  rw [e1, e2, firstP_snoc, firstP_congr (q := closeP (tx l) a) _ _ fun k h1 h2 => closeP_old ha (by omega)]
  cases firstP (closeP (tx l) a) (a + 1) (l.length - (a + 1)) with
  | some k =>
    show (k : Int) = if (k : Int) = -1 then _ else (k : Int)
    rw [if_neg (by omega)]
  | none =>
    show (match (if closeP (tx (l ++ [c])) a (a + 1 + (l.length - (a + 1))) = true then some (a + 1 + (l.length - (a + 1))) else none) with | some e => (e : Int) | none => -1) = if (-1 : Int) = -1 then _ else _
    rw [if_pos rfl, show a + 1 + (l.length - (a + 1)) = l.length from by omega, closeP_new ha]
    by_cases h : c = 41 ∧ dv (dfold l).2.1 (dfold l).2.2 c = (dfold l).1.getD a 0
    · rw [if_pos h, if_pos (by simp [h.1]; rw [← h.1]; exact h.2)]
    · rw [if_neg h, if_neg (by simpa using h)]
theorem closeF_at_end (l : List Nat) (c : Nat) : closeF (tx (l ++ [c])) l.length = -1 := by
  unfold closeF
  rw [show (tx (l ++ [c])).length - (l.length + 1) = 0 from by rw [len_tx, List.length_append, List.length_singleton]; omega]
  rfl
def balZ : List (Nat × Int) → Int → Option Int
  | [], d => some d
  | (c, v) :: r, d => if v = -2 then none else balZ r (if 0 ≤ v ∧ c = 40 then d + 1 else if 0 ≤ v ∧ c = 41 then d - 1 else d)
theorem balZ_append : ∀ (a b : List (Nat × Int)) (d : Int), balZ (a ++ b) d = (balZ a d).bind (balZ b)
  | [], _, _ => rfl
  | (c, v) :: r, b, d => by
    show (if v = -2 then none else balZ (r ++ b) _) = (if v = -2 then none else balZ r _).bind (balZ b)
    split
    · rfl
    · exact balZ_append r b _
theorem balGo_Z (cs : List Nat) (lv : List Int) (hl : lv.length = cs.length) : ∀ (n i : Nat) (d : Int), i + n = cs.length → balGo cs lv n i d = (balZ ((cs.zip lv).drop i) d == some 0)
  | 0, i, d, h => by
    rw [List.drop_of_length_le (by rw [List.length_zip]; omega)]
    show (d == 0) = (some d == some 0)
    simp
  | n + 1, i, d, h => by
    have hi : i < (cs.zip lv).length := by rw [List.length_zip]; omega
    rw [List.drop_eq_getElem_cons hi, List.getElem_zip]
    have e1 : cs[i]? = some cs[i] := List.getElem?_eq_getElem (by omega)
    have e2 : lv.getD i 0 = lv[i] := by rw [List.getD_eq_getElem?_getD, List.getElem?_eq_getElem (by omega)]; rfl
    show (if lv.getD i 0 = -2 then false else balGo cs lv n (i + 1) _) = ((if lv[i] = -2 then none else balZ ((cs.zip lv).drop (i + 1)) _) == some 0)
    rw [e1, e2, balGo_Z cs lv hl n (i + 1) _ (by omega)]
    simp only [Option.some.injEq]
    split
    · rfl
    · rfl
theorem zip_snoc {a : List Nat} {b : List Int} (h : b.length = a.length) (c : Nat) (v : Int) : (a ++ [c]).zip (b ++ [v]) = a.zip b ++ [(c, v)] := by
  rw [List.zip_append h.symm]; rfl
theorem bal_step (l : List Nat) : ∀ n, n ≤ l.length → (0 ≤ (dfold (l.take n)).2.1 ∧ balZ ((l.take n).zip (dfold (l.take n)).1) 0 = some (dfold (l.take n)).2.1) ∨ ((dfold (l.take n)).2.1 = -2 ∧ balZ ((l.take n).zip (dfold (l.take n)).1) 0 = none)
  | 0, _ => .inl ⟨Int.le_refl _, rfl⟩
  | n + 1, h => by
    have ih := bal_step l n (by omega)
    rw [List.take_succ_eq_append_getElem (by omega), dfold_step]
    generalize l.take n = a at *
    generalize l[n] = c at *
    dsimp only
    rw [zip_snoc (levels_len a), balZ_append]
    rcases ih with ⟨h1, h2⟩ | ⟨h1, h2⟩
    · rw [h2]
      show (0 ≤ dn _ _ c ∧ (if dv _ _ c = -2 then none else some _) = some _) ∨ (dn _ _ c = -2 ∧ (if dv _ _ c = -2 then none else some _) = none)
      generalize (dfold a).2.1 = dd at *
      generalize (dfold a).2.2 = dq at *
      by_cases c1 : c = 39
      · left; simp [dn, dv, c1, h1]
      · cases dq
        · by_cases c2 : c = 40
          · left; simp [dn, dv, c2, h1]; omega
          · by_cases c3 : c = 41
            · by_cases c4 : 0 < dd
              · left
                simp [dn, dv, c3, c4]
                refine ⟨by omega, by omega, ?_⟩
                intro _; omega
              · right
                simp [dn, dv, c3, c4]
            · left
              simp [dn, dv, c1, c2, c3, h1]; omega
        · left; simp [dn, dv, c1, h1]
    · right
      rw [h2]
      refine ⟨?_, rfl⟩
      rw [h1]
      unfold dn
      (repeat' split) <;> first | rfl | omega
theorem isBal_depth (l : List Nat) : isBal (tx l) = ((dfold l).2.1 == 0) := by
  have h := bal_step l l.length (Nat.le_refl _)
  rw [List.take_length] at h
  unfold isBal depthsF
  rw [sg_tx, balGo_Z l _ (levels_len l) _ 0 0 (by rw [len_tx]; omega), List.drop_zero]
  rcases h with ⟨h1, h2⟩ | ⟨h1, h2⟩
  · show (balZ (l.zip (dfold l).1) 0 == some 0) = _
    rw [h2]; simp
  · show (balZ (l.zip (dfold l).1) 0 == some 0) = _
    rw [h2, h1]; rfl

end

-- text PL2
section
/-- what the law's bracket loop keeps: signs, open places, ends, inside a constant, bad -/
structure Br (l ps : List Nat) (es : List (Int × Int)) (q bad : Bool) : Prop where
  qu : (dfold l).2.2 = q
  b1 : bad = true → (dfold l).2.1 = -2
  b0 : bad = false → (dfold l).2.1 = (ps.length : Int)
  pl : ∀ k a : Nat, ps[k]? = some a → a < l.length ∧ (dfold l).1.getD a 0 = (k : Int) ∧ closeF (tx l) a = -1
  en : ∀ e ∈ es, ∃ a : Nat, e.1 = (a : Int) ∧ a < l.length ∧ 0 ≤ (dfold l).1.getD a 0 ∧ closeF (tx l) a = e.2
  op : ∀ e ∈ es, e.2 = -1 → ∃ k a : Nat, e.1 = (a : Int) ∧ ps[k]? = some a
theorem Br.nil : Br [] [] [] false false :=
  ⟨rfl, fun h => (by cases h), fun _ => rfl, fun k a h => (by simp at h), (fun e he => nomatch he), (fun e he => nomatch he)⟩
theorem lv_old {l : List Nat} {c a : Nat} (ha : a < l.length) : (dfold (l ++ [c])).1.getD a 0 = (dfold l).1.getD a 0 := by
  rw [dfold_step]
  dsimp only
  rw [List.getD_eq_getElem?_getD, List.getElem?_append_left (by rw [levels_len]; exact ha), ← List.getD_eq_getElem?_getD]
theorem lv_new (l : List Nat) (c : Nat) : (dfold (l ++ [c])).1.getD l.length 0 = dv (dfold l).2.1 (dfold l).2.2 c := by
  rw [dfold_step]
  dsimp only
  rw [List.getD_eq_getElem?_getD, ← levels_len l]; simp
/-- a sign that closes nothing and opens nothing -/
theorem Br.same {l ps : List Nat} {es : List (Int × Int)} {q bad q' bad' : Bool} {c : Nat} (H : Br l ps es q bad) (hc : c ≠ 41 ∨ dv (dfold l).2.1 q c < 0)
    (h1 : dq' q c = q') (h2 : bad' = true → dn (dfold l).2.1 q c = -2) (h3 : bad' = false → dn (dfold l).2.1 q c = (ps.length : Int)) : Br (l ++ [c]) ps es q' bad' := by
  obtain ⟨a1, a2, a3, a4, a5, a6⟩ := H
  refine ⟨?_, fun h => ?_, fun h => ?_, fun k a h => ?_, fun e he => ?_, a6⟩
  · rw [dfold_step]; dsimp only; rw [a1]; exact h1
  · rw [dfold_step]; dsimp only; rw [a1]; exact h2 h
  · rw [dfold_step]; dsimp only; rw [a1]; exact h3 h
  · obtain ⟨x1, x2, x3⟩ := a4 k a h
    refine ⟨by rw [List.length_append, List.length_singleton]; omega, by rw [lv_old x1]; exact x2, ?_⟩
    rw [closeF_snoc x1, if_pos x3, if_neg]
    rintro ⟨z1, z2⟩
    rw [a1] at z2
    rcases hc with hc | hc
    · exact hc z1
    · omega
  · obtain ⟨a, y1, y2, y3, y4⟩ := a5 e he
    refine ⟨a, y1, by rw [List.length_append, List.length_singleton]; omega, by rw [lv_old y2]; exact y3, ?_⟩
    rw [closeF_snoc y2, y4]
    split
    · rename_i hm
      rw [if_neg ?_, hm]
      rintro ⟨z1, z2⟩
      rw [a1] at z2
      rcases hc with hc | hc
      · exact hc z1
      · omega
    · rfl
/-- an opening bracket -/
theorem Br.opened {l ps : List Nat} {es : List (Int × Int)} (H : Br l ps es false false) : Br (l ++ [40]) (ps ++ [l.length]) (es ++ [((l.length : Int), -1)]) false false := by
  obtain ⟨a1, a2, a3, a4, a5, a6⟩ := H
  have hd := a3 rfl
  have hdv : dv (dfold l).2.1 (dfold l).2.2 40 = (ps.length : Int) := by rw [a1, hd]; unfold dv; simp
  refine ⟨?_, fun h => (by cases h), fun _ => ?_, fun k a h => ?_, fun e he => ?_, fun e he hm => ?_⟩
  · rw [dfold_step]; dsimp only; rw [a1]; rfl
  · rw [dfold_step]; dsimp only; rw [a1, hd]; unfold dn; simp
  · rw [List.length_append, List.length_singleton]
    by_cases hk : k < ps.length
    · rw [List.getElem?_append_left hk] at h
      obtain ⟨x1, x2, x3⟩ := a4 k a h
      exact ⟨by omega, by rw [lv_old x1]; exact x2, by rw [closeF_snoc x1, if_pos x3, if_neg (by rintro ⟨z, _⟩; exact absurd z (by decide))]⟩
    · rw [List.getElem?_append_right (by omega)] at h
      have hk0 : k - ps.length = 0 := by
        rcases Nat.eq_zero_or_pos (k - ps.length) with z | z
        · exact z
        · rw [List.getElem?_eq_none (by simp; omega)] at h; cases h
      rw [hk0] at h
      have ha : l.length = a := by simpa using h
      subst ha
      exact ⟨by omega, by rw [lv_new, hdv]; omega, closeF_at_end l 40⟩
  · rcases List.mem_append.mp he with he | he
    · obtain ⟨a, y1, y2, y3, y4⟩ := a5 e he
      refine ⟨a, y1, by rw [List.length_append, List.length_singleton]; omega, by rw [lv_old y2]; exact y3, ?_⟩
      rw [closeF_snoc y2, y4]
      split
      · rename_i hm; rw [if_neg (by rintro ⟨z, _⟩; exact absurd z (by decide)), hm]
      · rfl
    · rw [List.mem_singleton.mp he]
      exact ⟨l.length, rfl, by rw [List.length_append, List.length_singleton]; omega, by rw [lv_new, hdv]; omega, closeF_at_end l 40⟩
  · rcases List.mem_append.mp he with he | he
    · obtain ⟨k, a, z1, z2⟩ := a6 e he hm
      exact ⟨k, a, z1, by rw [List.getElem?_append_left (List.getElem?_eq_some_iff.mp z2).1]; exact z2⟩
    · rw [List.mem_singleton.mp he]
      exact ⟨ps.length, l.length, rfl, by simp⟩
/-- the pairs with one changed -/
def upd (es : List (Int × Int)) (a v : Int) : List (Int × Int) := es.map fun e => if e.1 = a then (e.1, v) else e
/-- a closing bracket of an open one -/
theorem Br.closed {l ps : List Nat} {a : Nat} {es : List (Int × Int)} (H : Br l (ps ++ [a]) es false false) : Br (l ++ [41]) ps (upd es a l.length) false false := by
  obtain ⟨a1, a2, a3, a4, a5, a6⟩ := H
  have hd : (dfold l).2.1 = (ps.length : Int) + 1 := by rw [a3 rfl, List.length_append, List.length_singleton]; omega
  have hdv : dv (dfold l).2.1 (dfold l).2.2 41 = (ps.length : Int) := by
    rw [a1, hd]; unfold dv; simp; try (intro h; omega)
  obtain ⟨t1, t2, t3⟩ := a4 ps.length a (by simp)
  refine ⟨?_, fun h => (by cases h), fun _ => ?_, fun k b h => ?_, fun e he => ?_, fun e he hm => ?_⟩
  · rw [dfold_step]; dsimp only; rw [a1]; rfl
  · rw [dfold_step]; dsimp only; rw [a1, hd]; unfold dn; simp; try (intro h; omega)
  · rw [List.length_append, List.length_singleton]
    have hkl := (List.getElem?_eq_some_iff.mp h).1
    obtain ⟨x1, x2, x3⟩ := a4 k b (by rw [List.getElem?_append_left hkl]; exact h)
    refine ⟨by omega, by rw [lv_old x1]; exact x2, ?_⟩
    rw [closeF_snoc x1, if_pos x3, if_neg]
    rintro ⟨_, z2⟩
    rw [hdv, x2] at z2
    omega
  · obtain ⟨e0, he0, rfl⟩ := List.mem_map.mp he
    obtain ⟨b, y1, y2, y3, y4⟩ := a5 e0 he0
    have hlb : (l ++ [41]).length = l.length + 1 := by rw [List.length_append, List.length_singleton]
    by_cases hab : e0.1 = (a : Int)
    · rw [if_pos hab]
      have hba : b = a := by omega
      subst hba
      refine ⟨b, y1, by omega, by rw [lv_old y2]; exact y3, ?_⟩
      rw [closeF_snoc t1, if_pos t3, if_pos ⟨rfl, by rw [hdv, t2]⟩]
    · rw [if_neg hab]
      refine ⟨b, y1, by omega, by rw [lv_old y2]; exact y3, ?_⟩
      rw [closeF_snoc y2, y4]
      split
      · rename_i hm
        rw [if_neg ?_, hm]
        rintro ⟨_, z2⟩
        rw [hdv] at z2
        obtain ⟨k, b', w1, w2⟩ := a6 e0 he0 hm
        have : b' = b := by omega
        subst this
        obtain ⟨_, w4, _⟩ := a4 k b' w2
        rw [w4] at z2
        have hk : k = ps.length := by omega
        subst hk
        have : a = b' := by simpa using w2
        subst this
        exact hab y1
      · rfl
  · obtain ⟨e0, he0, rfl⟩ := List.mem_map.mp he
    by_cases hab : e0.1 = (a : Int)
    · rw [if_pos hab] at hm
      exfalso
      dsimp only at hm
      omega
    · rw [if_neg hab] at hm ⊢
      obtain ⟨k, b, z1, z2⟩ := a6 e0 he0 hm
      refine ⟨k, b, z1, ?_⟩
      by_cases hk : k < ps.length
      · rwa [List.getElem?_append_left hk] at z2
      · exfalso
        rw [List.getElem?_append_right (by omega)] at z2
        have hk0 : k - ps.length = 0 := by
          rcases Nat.eq_zero_or_pos (k - ps.length) with z | z
          · exact z
          · rw [List.getElem?_eq_none (by simp; omega)] at z2; cases z2
        rw [hk0] at z2
        have : a = b := by simpa using z2
        subst this
        exact hab z1

end

-- text PL3
section
abbrev fT (t : Int × Int × Tok) : Int × Value := (t.1, .int t.2.1 t.2.2)
abbrev gT (t : Int × Int × Tok) : Int × Int := (t.1, t.2.1)
def updT (ts : List (Int × Int × Tok)) (a v : Int) (u : Tok) : List (Int × Int × Tok) := ts.map fun t => if t.1 = a then (t.1, v, u) else t
theorem st_new {ts : List (Int × Int × Tok)} {k v : Int} {u : Tok} (h : ∀ t ∈ ts, t.1 ≠ k) : stored (ts.map fT) k (.int v u) = (ts ++ [(k, v, u)]).map fT := by
  unfold stored
  rw [if_neg, List.map_append]; rfl
  intro q
  obtain ⟨e, he, hk⟩ := List.any_eq_true.mp q
  obtain ⟨t, ht, rfl⟩ := List.mem_map.mp he
  exact h t ht (of_decide_eq_true hk)
theorem st_old {ts : List (Int × Int × Tok)} {k v : Int} {u : Tok} (h : ∃ t ∈ ts, t.1 = k) : stored (ts.map fT) k (.int v u) = (updT ts k v u).map fT := by
  unfold stored updT
  rw [if_pos, List.map_map, List.map_map]
  · refine List.map_congr_left fun t _ => ?_
    simp only [Function.comp]
    split <;> rfl
  · obtain ⟨t, ht, hk⟩ := h
    exact List.any_eq_true.mpr ⟨_, List.mem_map.mpr ⟨t, ht, rfl⟩, decide_eq_true hk⟩
theorem gT_upd {ts : List (Int × Int × Tok)} {k v : Int} {u : Tok} : (updT ts k v u).map gT = upd (ts.map gT) k v := by
  unfold updT upd
  rw [List.map_map, List.map_map]
  refine List.map_congr_left fun t _ => ?_
  simp only [Function.comp]
  split <;> rfl
theorem key_upd {ts : List (Int × Int × Tok)} {k v b : Int} {u : Tok} (h : ∃ t ∈ ts, t.1 = b) : ∃ t ∈ updT ts k v u, t.1 = b := by
  obtain ⟨t, ht, e⟩ := h
  refine ⟨_, List.mem_map.mpr ⟨t, ht, rfl⟩, ?_⟩
  split <;> exact e
theorem key_new {l ps : List Nat} {ts : List (Int × Int × Tok)} {q bad : Bool} (H : Br l ps (ts.map gT) q bad) : ∀ t ∈ ts, t.1 ≠ (l.length : Int) := by
  intro t ht e
  obtain ⟨a, h1, h2, _⟩ := H.en _ (List.mem_map.mpr ⟨t, ht, rfl⟩)
  dsimp only at h1
  omega
/-- the levels after one more sign -/
theorem lv_snoc {l : List Nat} {vl : List Value} {c : Nat} {x : Int} {t : Tok} (h : IntsAre vl (dfold l).1) (e : dv (dfold l).2.1 (dfold l).2.2 c = x) : IntsAre (vl ++ [.int x t]) (dfold (l ++ [c])).1 := by
  rw [dfold_step]
  dsimp only
  rw [e]
  exact ints_snoc h _ _
theorem dv39 {d : Int} {q : Bool} : dv d q 39 = -1 := rfl

end

-- text C8
section
def capN (c : Nat) : Nat := if isS c = true then c - 32 else c
theorem lt_one (a b : Nat) : (([a] : List Nat) < [b]) ↔ a < b := by
  constructor
  · intro h
    rcases h with _ | h | h
    · assumption
    · exact absurd h (List.not_lt_nil _)
  · exact fun h => List.Lex.rel h
theorem lt_a (c : Nat) {i : Decidable (([c] : List Nat) < (Str.ofString "a").cps.toList)} : @decide _ i = decide (c < 97) := by
  refine decide_eq_decide.mpr ?_
  rw [show Str.ofString "a" = ⟨#[97]⟩ from by decide +kernel]; exact lt_one c 97
theorem lt_z (c : Nat) {i : Decidable ((Str.ofString "z").cps.toList < ([c] : List Nat))} : @decide _ i = decide (122 < c) := by
  refine decide_eq_decide.mpr ?_
  rw [show Str.ofString "z" = ⟨#[122]⟩ from by decide +kernel]; exact lt_one 122 c
theorem one_congr {a b : Nat} (h : a = b) : (⟨#[a]⟩ : Str) = ⟨#[b]⟩ := by rw [h]
theorem c_capital (w : World) (c : Nat) (t : Tok) : Ctr w 1 177 [.str ⟨#[c]⟩ t] (fun _ => True) (fun t' : Tok => .str ⟨#[capN c]⟩ t') (fun _ _ _ => True) := by
  walk_at "m enter"
  intro dp un gd fr mean mg mb s L h₁ tk hdp hun X T hpre F N
  walk_at "m steps"
  all_goals (simp only [lt_a, lt_z, decide_eq_true_eq, decide_eq_false_iff_not] at *)
  · refine chr_of_range (by omega) (by omega) ?_
    walk_at "m fin"
    refine one_congr ?_
    unfold capN
    rw [if_pos (by unfold isS; rw [decide_eq_true_eq]; omega)]; exact (Int.toNat_sub c 32).symm
  · walk_at "m fin"
    refine one_congr ?_
    unfold capN
    rw [if_neg (by unfold isS; rw [decide_eq_true_eq]; omega)]
  · walk_at "m fin"
    refine one_congr ?_
    unfold capN
    rw [if_neg (by unfold isS; rw [decide_eq_true_eq]; omega)]
theorem reg_C8_0 : True := by
  k_with "call ref" => ((with_reducible show wpAny _ _ (call (Value.ref 177) _) _ _ _); refine' Ctr.use (c_capital _ _ _) ?zqF ?zqN ?zqX ?zqT ?zqd ?zqu ?zqp ?_; (case zqp => trivial); (k_extra "m ctr"); intro _ _ _ _ _ _ _)
  trivial

def CtrL (w : World) (d : Nat) (f : Addr) (args : List Value) (pre : Heap → Prop) {σ : Type} (A : σ → Addr) (led : σ → List (Addr × Obj)) (R : σ → Prop) : Prop :=
  Ctr w d f args pre (fun i => .ref (A i)) (fun i h h' => (∀ p ∈ led i, h.get? p.1 = none ∧ h'.get? p.1 = some p.2) ∧ R i)
theorem CtrL.use {w : World} {d : Nat} {f : Addr} {args : List Value} {pre : Heap → Prop} {σ : Type} {Ad : σ → Addr} {led : σ → List (Addr × Obj)} {R : σ → Prop}
    (C : CtrL w d f args pre Ad led R) {dp un : Nat} {gd : Option (List Code)} {fr : Option (List Env)} {mean : ExcName → Option Value} {mg mb : Str → Option Value} {s : Shared} {Q E : Value → Shared → Prop}
    {h₀ : Heap} {L : Addr} {m : Str → Option Value} {news : List (Addr × Obj)}
    (F : Fr h₀ L s.heap m) (N : News h₀ L s.heap news) (X : (frag.heap_1 w.params).In h₀) (T : Top view LO mean mg mb h₀)
    (hdp : dp + d < 900) (hun : un + 8 * d < 9000) (hpre : pre s.heap)
    (k : ∀ (i : σ) h' tk, Fr h₀ L h' m → News h₀ L h' (led i ++ news) → (∀ p ∈ led i, ∀ q ∈ news, q.1 ≠ p.1) → R i → Q (.ref (Ad i)) { s with heap := h', toks := tk }) :
    wpAny (model PG w) (AA dp un gd fr) (call (.ref f) args) Q E s := by
  refine Ctr.use C F N X T hdp hun hpre fun i h' tk F' N' hs hp => ?_
  obtain ⟨hl, hR⟩ := hp
  refine k i h' tk F' (fun p hp => ?_) (fun p hp q hq e => ?_) hR
  · rcases List.mem_append.mp hp with hp | hp
    · obtain ⟨hn, ho⟩ := hl p hp
      refine ⟨ho, fun q => ?_, ?_⟩
      · obtain ⟨o, _, _, e, _⟩ := F.ns
        rw [← q, hn] at e; cases e
      · cases q : h₀.get? p.1 with
        | none => rfl
        | some o => have := F.keep _ _ q; rw [hn] at this; cases this
    · exact N' p hp
  · have := (N q hq).1
    rw [e, (hl p hp).1] at this; cases this

def sqGo : Bool → List Nat → Bool
  | _, [] => true
  | b, c :: r => if c = 32 then sqGo b r else if c = 39 then false else if isD c = true ∧ b = true then false else sqGo (isA c) r
def sqF (l : List Nat) : List Nat := (l.filter (fun c => c != 32)).map capN
structure Sq where
  a : Addr
  c : Nat
  t : Tok
abbrev Sq.row (p : Sq) : Addr × Obj := (p.a, { cls := .type "tuple", data := .seq #[.str ⟨#[p.c]⟩ p.t, .bool false] })
theorem one_emp (c : Nat) : ((⟨#[c]⟩ : Str) == Str.ofString "") = false := by
  rw [show Str.ofString "" = ⟨#[]⟩ from by decide +kernel]
  rw [beq_eq_false_iff_ne]
  intro q; injection q with q; exact absurd (congrArg Array.size q) (by show ¬ (1 = 0); decide)
theorem ite_nemp {P Q : Prop} {c : Nat} (h : P) : if (!((⟨#[c]⟩ : Str) == Str.ofString "")) = true then P else Q := by rw [one_emp]; exact h
theorem reg_C8_1 : True := by
  k_with "ite" => with_reducible refine ite_nemp ?_
  trivial
theorem ite_ee {P Q : Prop} (h : P) : if (Str.ofString "" == Str.ofString "") = true then P else Q := by rw [if_pos (by decide +kernel)]; exact h
theorem ite_nee {P Q : Prop} (h : Q) : if (Str.ofString "" != Str.ofString "") = true then P else Q := by rw [if_neg (by decide +kernel)]; exact h
theorem reg_C8_2 : True := by
  k_with "ite" => with_reducible (first | refine ite_ee ?_ | refine ite_nee ?_)
  trivial
local macro_rules | `(tactic| k_all) => `(tactic| with_reducible assumption)
theorem drop_at {x : Str} {k c : Nat} (h : x.cps[k]? = some c) : (sg x).drop k = c :: (sg x).drop (k + 1) := by
  obtain ⟨hk, hc⟩ := List.getElem?_eq_some_iff.mp (sg_get h)
  rw [List.drop_eq_getElem_cons hk, hc]
theorem sqGo_one {b : Bool} {c : Nat} {r : List Nat} (h : sqGo b (c :: r) = true) (hc : c ≠ 32) : c ≠ 39 ∧ (isD c = true → b = false) ∧ sqGo (isA c) r = true := by
  unfold sqGo at h
  rw [if_neg hc] at h
  split at h
  · cases h
  · split at h
    · cases h
    · rename_i h1 h2
      refine ⟨h1, fun e => ?_, h⟩
      cases b
      · rfl
      · exact absurd ⟨e, rfl⟩ h2
theorem sqF_one {c : Nat} {r : List Nat} (hc : c ≠ 32) : sqF (c :: r) = capN c :: sqF r := by
  unfold sqF; rw [List.filter_cons, if_pos (by simp [hc])]; rfl
theorem sqF_32 {r : List Nat} : sqF (32 :: r) = sqF r := rfl
theorem news_rot {h₀ : Heap} {L : Addr} {h : Heap} {a b : Addr × Obj} {rs : List (Addr × Obj)} (N : News h₀ L h (a :: b :: rs)) : News h₀ L h (b :: (rs ++ [a])) :=
  fun p hp => N p (by simpa [or_left_comm, or_comm, or_assoc] using hp)
theorem cutQ {w : World} {A : Around} {s₁ : Shared} {E : Value → Shared → Prop} {Q : Flow → Shared → Prop} {x : Sem Flow} (M : Flow → Shared → Prop) (h1 : wpAny (model PG w) A x M E s₁) (h2 : ∀ v s', M v s' → Q v s') : wpAny (model PG w) A x Q E s₁ := wpAny_mono h1 h2 (fun _ _ z => z)
/-- a statement that goes on, with the ledger as it was and a known frame -/
inductive MidS (g : Heap) (L : Addr) (s : Shared) (nx : List (Addr × Obj)) (hb : Tok → Tok → List (Str × Value)) (f : Flow) (s' : Shared) : Prop
  | mk (p0 : f = .next) (h' : _) (tk : _) (m' : _) (tS : _) (tC : _) (q0 : s' = { s with heap := h', toks := tk }) (q1 : Fr g L h' m') (q2 : News g L h' nx) (q3 : Has m' (hb tS tC)) : MidS g L s nx hb f s'
theorem cutS {w : World} {A : Around} {g h : Heap} {L : Addr} {s s₁ : Shared} {m : Str → Option Value} {nx : List (Addr × Obj)} {E : Value → Shared → Prop} {Q : Flow → Shared → Prop} {x : Sem Flow} {y : Str} {k c : Nat} (_ : y.cps[k]? = some c) (hb : Nat → Tok → Tok → List (Str × Value)) (_ : Fr g L h m) (_ : News g L h nx)
    (h1 : wpAny (model PG w) A x (MidS g L s nx (hb c)) E s₁) (h2 : ∀ v s', MidS g L s nx (hb c) v s' → Q v s') : wpAny (model PG w) A x Q E s₁ := wpAny_mono h1 h2 (fun _ _ z => z)
section
theorem reg_C8_3 : True := by
  k_with "exec If" => refine stop_here ?_
  k_with "m dummy" => skip
  k_with "m walk" => (repeat' (first | (k_unfold; (try dsimp only)) | walk1 | k_extra "m open" | (dsimp only; walk1) | fail "no step"))
  trivial
inductive J8 (x : Str) (t : Tok) (n : Nat) (m : Str → Option Value) (nx : List (Addr × Obj)) : Prop
  | mk (k : Nat) (tk' tl : Tok) (o : Addr) (n' : Nat) (ps : List Sq) (vs : List Value) (rs : List (Addr × Obj)) (las : Str) (b : Bool) (q0 : n = x.length - k) (q1 : k ≤ x.length) (q2 : nx = (o, listOf vs.toArray n') :: rs) (q3 : vs = ps.map (fun p => Value.ref p.a)) (q4 : rs = ps.map Sq.row) (q5 : (∀ p ∈ rs, p.1 ≠ o)) (q6 : sqGo b ((sg x).drop k) = true) (q7 : ps.map Sq.c ++ sqF ((sg x).drop k) = sqF (sg x)) (q8 : ((las = Str.ofString "" ∧ b = false) ∨ ∃ c, las = ⟨#[c]⟩ ∧ isA c = b)) (q9 : vs.length ≤ k) (q10 : Has m [(Str.ofString "text", .str x t), (Str.ofString "at", .int k tk'), (Str.ofString "out", .ref o), (Str.ofString "last", .str las tl)]) : J8 x t n m nx
theorem c_squeeze (w : World) (x : Str) (t : Tok) (hx : x.length ≤ 100000) (hok : sqGo false (sg x) = true) : CtrL w 2 205 [.str x t] (fun _ => True)
    (fun i : Addr × List Sq × Nat => i.1) (fun i => (i.1, listOf (i.2.1.map (fun p => Value.ref p.a)).toArray i.2.2) :: i.2.1.map Sq.row) (fun i => i.2.1.map Sq.c = sqF (sg x)) := by
  walk_at "m enter"
  intro dp un gd fr mean mg mb s L h₁ tk hdp hun X T hpre F N
  walk_at "m steps"
  rename Fr _ _ _ _ => F
  rename News _ _ _ _ => N
  refine While_inv2 (J8 x t) F N
    ⟨0, _, _, _, _, [], [], [], _, false, rfl, Nat.zero_le _, rfl, rfl, rfl, (fun p hp => nomatch hp), hok, rfl, .inl ⟨rfl, rfl⟩, Nat.zero_le _, rfl, rfl, rfl, rfl, trivial⟩ ?_ PassesOwn.never
  rintro n m nx h tk F N ⟨k, tk', tl, o, n', ps, vs, rs, las, b, rfl, hk, rfl, hvs, hrs, hno, hq, hP, hl, hpl, hm⟩
  have F := knows F hm
  have hvl : vs.length < 100000 ∨ x.length ≤ k := by omega
  walk_at "m walk"
  all_goals first
    | (with_reducible rename Fr _ _ _ _ => F'
       with_reducible rename News _ _ _ _ => N'
       have e : (sg x).drop k = [] := List.drop_of_length_le (by rw [len_sg]; omega)
       rw [e, show sqF [] = [] from rfl, List.append_nil] at hP
       subst hvs hrs
       exact ⟨(o, ps, _), _, _, rfl, rfl, F'.keep, fun p hp => ⟨(N' p hp).2.2, (N' p hp).1⟩, hP⟩)
    | skip
  rename (x.cps[_]? = some _) => hcc
  rw [drop_at hcc] at hq hP
  refine wpAny_If ?_
  walk_at "m walk"
  · dsimp only [WhileStep2]
    rename (_ = 32) => h32
    with_reducible rename Fr _ _ _ _ => F'
    with_reducible rename News _ _ _ _ => N'
    rw [h32] at hq hP
    exact ⟨_, _, _, _, _, rfl, F', N', (sub_less (by assumption) : x.length - (k + 1) < _), k + 1, _, _, _, _, ps, vs, rs, _, _, rfl, by omega, rfl, hvs, hrs, hno, hq, hP, hl, by omega, rfl, rfl, rfl, rfl, trivial⟩
  · rename (_ ≠ 32) => h32
    with_reducible rename Fr _ _ _ _ => F
    with_reducible rename News _ _ _ _ => N
    have ha1 := sqGo_one hq h32
    have q1 := ha1.1
    have q2 := ha1.2.1
    have q3 := ha1.2.2
    rw [sqF_one h32] at hP
    refine cutS (s := s) hcc (fun c tS tC => [(Str.ofString "text", .str x t), (Str.ofString "at", .int k tk'), (Str.ofString "out", .ref o), (Str.ofString "sign", .str ⟨#[c]⟩ tS), (Str.ofString "constant", .str (Str.ofString "") tC)]) F N ?_ fun f s' hf => ?_
    · refine wpAny_If ?_
      walk_at "m steps"
      · exact absurd (by with_reducible assumption) q1
      · refine wpAny_If ?_
        rcases hl with ⟨rfl, rfl⟩ | ⟨c', rfl, rfl⟩
        all_goals walk_at "m steps"
        all_goals first
          | (with_reducible rename Fr _ _ _ _ => F'
             with_reducible rename News _ _ _ _ => N'
             exact ⟨rfl, _, _, _, _, _, rfl, F', N', rfl, rfl, rfl, rfl, rfl, trivial⟩)
          | (exfalso; have := q2 (by with_reducible assumption); simp_all; done)
    clear F N
    obtain ⟨rfl, h', tk, m', tS, tC, rfl, F, N, hm⟩ := hf
    have F := knows F hm
    walk_at "m walk"
    refine wpAny_If ?_
    walk_at "m steps"
    with_reducible rename Fr _ _ _ _ => F'
    with_reducible rename News _ _ _ _ => N'
    simp only [List.push_toArray] at N'
    rename (_ < _ ∧ AllLt _ _) => hlt
    have N2 := news_rot N'
    refine ⟨_, _, _, _, _, rfl, F', N2, (sub_less (by assumption) : x.length - (k + 1) < _), k + 1, _, _, o, _, ps ++ [⟨_, _, _⟩], _, rs ++ [(_, _)], _, _, rfl, by omega, rfl, by (rw [hvs, List.map_append]; rfl), by (rw [hrs, List.map_append]; rfl), ?_, q3, by (rw [← hP, List.map_append, List.append_assoc]; rfl), .inr ⟨_, rfl, rfl⟩, by (rw [List.length_append, List.length_singleton]; omega), rfl, rfl, rfl, rfl, trivial⟩
    intro p hp
    rcases List.mem_append.mp hp with hp | hp
    · exact hno p hp
    · rw [List.mem_singleton.mp hp]; exact Nat.ne_of_gt hlt.1
end

theorem reg_C8_4 : True := by
  k_with "call ref" => ((with_reducible show wpAny _ _ (call (Value.ref 205) _) _ _ _); refine' CtrL.use (c_squeeze _ _ _ ?zqh ?zqg) ?zqF ?zqN ?zqX ?zqT ?zqd ?zqu ?zqp ?_; (case zqh => (k_extra "m side")); (case zqg => (k_extra "m sq")); (case zqp => trivial); (k_extra "m ctr"); intro _ _ _ _ _ _ _)
  k_with "m sq" => with_reducible assumption
  trivial
theorem tx_snoc (l : List Nat) (c : Nat) : tx l ++ ⟨#[c]⟩ = tx (l ++ [c]) := tx_append l [c]
inductive J9 (o : Addr) (n : Nat) (ps : List Sq) (i : Nat) (m : Str → Option Value) (nx : List (Addr × Obj)) : Prop
  | mk (tr : _) (q0 : nx = (o, listOf (ps.map (fun p => Value.ref p.a)).toArray n) :: ps.map Sq.row) (q1 : Has m [(Str.ofString "row", .str (tx ((ps.take i).map Sq.c)) tr)]) : J9 o n ps i m nx
theorem c_squeezed (w : World) (x : Str) (t : Tok) (hx : x.length ≤ 100000) (hok : sqGo false (sg x) = true) : Ctr w 3 212 [.str x t] (fun _ => True)
    (fun t' : Tok => .str (tx (sqF (sg x))) t') (fun _ _ _ => True) := by
  walk_at "m enter"
  intro dp un gd fr mean mg mb s L h₁ tk hdp hun X T hpre F N
  walk_at "m steps"
  rename (_ = sqF _) => hR
  rename Fr _ _ _ _ => F
  rename News _ _ _ _ => N
  rename (Addr × List Sq × Nat) => i
  obtain ⟨o, ps, n⟩ := i
  dsimp only at *
  rw [List.append_nil] at N
  refine for_list (h₀ := s.heap) (L := L) (items := (ps.map (fun p => Value.ref p.a)).toArray) rfl (News.isList N (List.mem_cons_self ..)) (go_tuple fun v hv => by (rw [List.mem_toArray] at hv; obtain ⟨p, _, rfl⟩ := List.mem_map.mp hv; exact ⟨_, rfl⟩)) F N
    (J9 o n ps) ⟨_, rfl, rfl, trivial⟩ (.inr ⟨_, fun i m nx hj => by (obtain ⟨_, rfl, _⟩ := hj; exact List.mem_cons_self ..)⟩) ?_ ?_ PassesOwn.never
  · rintro i v m nx h tk I oI hv ⟨tr, rfl, hm⟩ hn F N
    have hi : i < ps.length := by
      have := (Array.getElem?_eq_some_iff.mp hv).1
      simpa using this
    have hv' : v = .ref ps[i].a := by
      have := (Array.getElem?_eq_some_iff.mp hv).2
      simpa using this.symm
    subst hv'
    have hmem : ps[i].row ∈ ps.map Sq.row := List.mem_map.mpr ⟨_, List.getElem_mem _, rfl⟩
    have hTT : IsTup h ps[i].a #[.str ⟨#[ps[i].c]⟩ ps[i].t, .bool false] := ⟨_, (N _ (List.mem_cons_of_mem _ (List.mem_cons_of_mem _ hmem))).1, rfl, _, rfl⟩
    have hcut : tx ((ps.take (i + 1)).map Sq.c) = tx ((ps.take i).map Sq.c) ++ ⟨#[ps[i].c]⟩ := by
      rw [tx_snoc, List.take_succ_eq_append_getElem hi, List.map_append]; rfl
    have hl1 : (tx ((ps.take i).map Sq.c)).length = i := by rw [len_tx, List.length_map, List.length_take]; omega
    have hl2 : Str.length ⟨#[ps[i].c]⟩ = 1 := rfl
    have hl3 : ps.length ≤ 100000 := by
      have := congrArg List.length hR
      unfold sqF at this
      rw [List.length_map, List.length_map] at this
      have := List.length_filter_le (fun c => c != 32) (sg x)
      have := len_sg x
      omega
    have F := knows F hm
    walk_at "m steps"
    with_reducible rename Fr _ _ _ _ => F
    with_reducible rename News _ _ _ _ => N
    exact ⟨_, _, _, _, rfl, F, N, hn, _, rfl, by rw [hcut]; exact ⟨rfl, trivial⟩⟩
  · rintro m nx h tk ⟨tr, rfl, hm⟩ F N
    have F := knows F hm
    walk_at "m steps"
    walk_at "m fin"
    rw [← hR]; simp

end

theorem regc8 : True := by
  k_with_none
  k_with "m cases" => ((case zqho => k_is); (case zqhcd => k_is); (case zqhb => exact rfl); (case zqhlk => simp only [List.map_cons, List.map_nil, List.zip_cons_cons, List.zip_nil_left, List.zip_nil_right, List.reverse_cons, List.reverse_nil, List.nil_append, List.cons_append]; exact rfl); (case zqhl => exact locs rfl); (case zqc1 => exact rfl); (case zqc2 => exact rfl); (case zqc3 => exact rfl); (case zqc4 => decide))
  k_with "m room" => first | with_reducible assumption | exact lt_room (by with_reducible assumption) (by decide) | omega
  k_with "m nat" => first | with_reducible assumption | exact Nat.le_refl _ | exact Nat.le_succ _ | exact Nat.le_trans (by with_reducible assumption) (by decide) | exact Nat.le_trans (Nat.add_le_add_right (by with_reducible assumption) _) (by decide) | decide | omega
  k_with "m lt" => first | assumption | exact And.left (by assumption) | exact And.left (And.right (by assumption)) | exact And.left (And.right (And.right (by assumption))) | exact And.left (And.right (And.right (And.right (by assumption)))) | exact And.left (And.right (And.right (And.right (And.right (by assumption))))) | exact And.left (And.right (And.right (And.right (And.right (And.right (by assumption)))))) | exact And.left (And.right (And.right (And.right (And.right (And.right (And.right (by assumption))))))) | exact And.left (And.right (And.right (And.right (And.right (And.right (And.right (And.right (by assumption)))))))) | exact And.right (by assumption) | exact And.right (And.right (by assumption)) | exact And.right (And.right (And.right (by assumption))) | exact And.right (And.right (And.right (And.right (by assumption)))) | exact And.right (And.right (And.right (And.right (And.right (by assumption))))) | exact And.right (And.right (And.right (And.right (And.right (And.right (by assumption)))))) | exact And.right (And.right (And.right (And.right (And.right (And.right (And.right (by assumption)))))))
  k_with "m enter" => (refine' Ctr.enter ?zqho ?zqhcd ?zqhb ?zqhlk ?zqhl ?zqc1 ?zqc2 ?zqc3 ?zqc4 ?_; (k_extra "m cases"))
  k_with "m enterP" => (refine' CtrP.enter ?zqho ?zqhcd ?zqhb ?zqhlk ?zqhl ?zqc1 ?zqc2 ?zqc3 ?zqc4 ?_; (k_extra "m cases"))
  k_with "m enterT" => (refine' Ctr.enterT ?zqho ?zqhcd ?zqhb ?zqhlk ?zqhl ?zqc1 ?zqc2 ?zqc3 ?zqc4 ?_; (k_extra "m cases"))
  k_with "m init" => ((case zqhm => k_is); (case zqhi => k_is); (case zqhf => k_is); (case zqho => k_is); (case zqhcd => k_is); (case zqhb => (intro _ _ zX; first | exact BindsTo.of_eq rfl | exact binds_K zX rfl (by k_is) rfl rfl rfl)); (case zqhlk => (intro _; exact rfl)); (case zqhl => (intro _; exact locs rfl)); (case zqc1 => exact rfl); (case zqc2 => exact rfl); (case zqc3 => exact rfl); (case zqc4 => decide))
  k_with "m star" => with_reducible (first | exact st_Name | exact st_Constant | exact st_BinOp | exact st_Call | exact st_Subscript | exact st_Attribute | exact st_UnaryOp | exact st_Tuple | exact st_List)
  k_with "m plain" => first | with_reducible exact pl_nil | (with_reducible refine' pl_cons ?zqp1 ?zqp2; (case zqp1 => k_extra "m star"); (case zqp2 => k_extra "m plain"))
  k_with "execs cons" => (refine execs_seal ?_; intro _ _)
  k_with "exec If" => with_reducible refine wpAny_If ?_
  k_with "execs nil" => with_reducible refine wpAny_execs_nil ?_
  k_with "m open" => with_reducible (first | refine SealS.next (by assumption) ?_ | refine SealS.ret (by assumption) ?_ | refine SealS.brk (by assumption) ?_ | refine SealS.cont (by assumption) ?_)
  k_with "m steps" => ((repeat' (first | (k_unfold; (try dsimp only)) | walk1 | k_extra "m open" | (dsimp only; walk1) | fail "no step")) <;> (try dsimp only) <;> (try k_unfold) <;> (try dsimp only [ForStep, WhileStep2]) <;> (repeat (with_reducible refine SealS.ret (by assumption) ?_)))
  k_with "exec For Name Name cons nil" => ((with_reducible refine' for_start ?_ ?zqhs); (case zqhs => (intro _; k_dflt (exact rfl))))
  k_with "exec For Name Call cons nil" => ((with_reducible refine' for_start ?_ ?zqhs); (case zqhs => (intro _; k_dflt (exact rfl))))
  k_with "exec For Tuple Name cons nil" => ((with_reducible refine' for_start ?_ ?zqhs); (case zqhs => (intro _; k_dflt (exact rfl))))
  k_with "exec For Tuple Call cons nil" => ((with_reducible refine' for_start ?_ ?zqhs); (case zqhs => (intro _; k_dflt (exact rfl))))
  k_with "pyIter ref" => ((with_reducible show wpAny _ _ (pyIter _) (fun it s₂ => ForGo _ _ _ _ _ _ _ _ it s₂) _ _); refine stop_here ?_)
  k_with "pyIter str" => ((with_reducible show wpAny _ _ (pyIter _) (fun it s₂ => ForGo _ _ _ _ _ _ _ _ it s₂) _ _); refine stop_here ?_)
  k_with "exec While Compare cons nil" => refine stop_here ?_
  k_with "exec While BoolOp cons nil" => refine stop_here ?_
  k_with "callWith" => ((with_reducible refine' callWith_method1 ?_ ?zqm2 ?zqm3); (case zqm2 => k_extra "m star"); (case zqm3 => k_extra "m plain"))
  k_with "callWith" => ((with_reducible refine' PyProof.Rows.callWith_builtin1 ?_ ?zqm2 ?zqm3); (case zqm2 => k_extra "m star"); (case zqm3 => k_extra "m plain"))
  k_with "callWith" => with_reducible refine callWith_method0 ?_
  k_with "eval Call Attribute" => ((with_reducible refine' MethodCall_ ?_ ?zqm2); (case zqm2 => k_dflt (exact rfl)))
  k_with "eval Call Name" => ((with_reducible refine' Call_ ?_ ?zqm2); (case zqm2 => k_dflt (exact rfl)))
  k_with "exec Assign cons" => ((with_reducible refine' wpAny_Assign_Name ?_ ?zqm2); (case zqm2 => k_dflt (exact rfl)))
  k_with "ite" => first | with_reducible refine ite_tt ?_ | with_reducible refine ite_ff ?_ | (with_reducible refine split_39 ?_ ?_ <;> intro _) | (with_reducible refine split_40 ?_ ?_ <;> intro _) | (with_reducible refine split_41 ?_ ?_ <;> intro _) | (with_reducible refine split_44 ?_ ?_ <;> intro _) | (with_reducible refine split_61 ?_ ?_ <;> intro _) | (with_reducible refine split_32 ?_ ?_ <;> intro _) | with_reducible refine split_end (fun _ => ?_) (fun _ _ _ => ?_) | with_reducible refine split_emp (fun _ => ?_) (fun _ => ?_) | (with_reducible refine split_nb ?_ ?_ <;> intro _) | (with_reducible refine dec_pos (by omega) ?_) | (with_reducible refine dec_neg (by omega) ?_) | (with_reducible refine PyProof.Rows.split_dec ?_ ?_ <;> intro _) | (with_reducible refine ite_pos (by with_reducible assumption) ?_) | (with_reducible refine ite_isFalse (by with_reducible assumption) ?_) | (with_reducible refine PyProof.Rows.split_bool ?_ ?_ <;> intro _)
  k_with "eval Name" => ((with_reducible refine' ld_fast ?zqk1 ?zqk2 ?zqk3 ?zqk4 ?zqk5 ?_); (case zqk1 => with_reducible assumption); (case zqk2 => k_dflt (exact rfl)); (case zqk3 => k_dflt (exact rfl)); (case zqk4 => k_dflt (exact rfl)); (case zqk5 => k_dflt (exact rfl)))
  k_with "compareOp In str str" => with_reducible (first | refine in_letters ?_ | refine in_digits ?_ | refine in_ahead ?_)
  k_with "compareOp NotIn str str" => with_reducible (refine notin_letters ?_)
  k_with "m item" => ((with_reducible show wpAny _ _ (subscriptTail _ _ (Value.str _ _) (Value.int _ _)) _ _ _); first | ((with_reducible refine' item_at ?zqm1 ?zqm2 ?_ ?zqm3 ?zqm4); (case zqm1 => with_reducible assumption); (case zqm2 => first | assumption | omega); (case zqm3 => with_unfolding_all exact rfl); (case zqm4 => (intro _; with_unfolding_all exact rfl))) | ((with_reducible refine' item_lt ?zqm1 ?zqm2 ?_ ?zqm3 ?zqm4); (case zqm1 => first | assumption | omega); (case zqm2 => first | assumption | omega); (case zqm3 => with_unfolding_all exact rfl); (case zqm4 => (intro _; with_unfolding_all exact rfl)); (intro _ _)))
  k_with "subscriptTail Name Name str int" => k_extra "m item"
  k_with "subscriptTail Name BinOp str int" => k_extra "m item"
  k_with "m ret" => ((repeat (with_reducible refine SealS.ret (by assumption) ?_)); (with_reducible rename Fr _ _ _ _ => zF'); first | exact ⟨_, _, _, rfl, rfl, Fr.keep zF', trivial⟩ | exact ⟨(0 : Nat), _, _, rfl, rfl, Fr.keep zF', trivial⟩)
  k_with "subscriptTail Name Name ref int" => ((with_reducible show wpAny _ _ (subscriptTail _ _ (Value.ref _) (Value.int _ _)) _ _ _); (with_reducible rename IntsAre _ _ => zhI'); (refine' item_ints (News.isList (by with_reducible assumption) (by k_mem)) zhI' ?zqm1 ?zqm2 ?_ ?zqm3 ?zqm4); (case zqm1 => first | assumption | omega); (case zqm2 => first | assumption | omega); (case zqm3 => with_unfolding_all exact rfl); (case zqm4 => (intro _; with_unfolding_all exact rfl)); (intro _ _ _))
  k_with "m cl" => (simp only [Nat.zero_add, Int.toNat_natCast, beq_iff_eq, beq_eq_false_iff_ne, ne_eq, bne_iff_ne, bne_eq_false_iff_eq, Bool.not_eq_true] at *)
  k_with "m ifs" => ((repeat (first | rw [if_pos (by with_reducible assumption)] | rw [if_no (by with_reducible assumption)] | rw [if_neg (by with_reducible assumption)])); try (first | rfl | with_reducible assumption | (symm; with_reducible assumption)))
  k_with "m fin" => ((repeat (with_reducible refine SealS.ret (by assumption) ?_)); (with_reducible rename Fr _ _ _ _ => zF'); first | refine ret_str (Fr.keep zF') ?_ | refine ret_bool (Fr.keep zF') ?_ | refine ret_int (Fr.keep zF') ?_)
  k_with "m len" => first | exact Nat.le_trans (by with_reducible assumption) (by decide) | omega | (decide +kernel) | ((try simp only [Str.length_append, len_tx]); omega)
  k_with "binaryOp Add str str" => ((with_reducible show wpAny _ _ (binaryOp Operator.Add (Value.str _ _) (Value.str _ _)) _ _ _); (refine' add_txt ?zqkxaa ?zqkxab ?_; (case zqkxaa => k_extra "m len"); (case zqkxab => k_extra "m len")); intro _ _ _)
  k_with "inplaceOp Add str str" => ((with_reducible show wpAny _ _ (inplaceOp Operator.Add (Value.str _ _) (Value.str _ _)) _ _ _); (refine' iadd_txt ?zqkxaa ?zqkxab ?_; (case zqkxaa => k_extra "m len"); (case zqkxab => k_extra "m len")); intro _ _ _)
  k_with "setAttr ref" => (k_dflt (refine' set_dict ?zqk1 ?zqk2 ?zqk3 ?zqk4 ?zqk5 ?zqk6 ?zqk7 ?zqk8 ?zqk9 ?zqk10 ?zqk11 ?zqk12 ?zqk13 ?_; (case zqk1 => k_asm); (case zqk2 => k_asm); (case zqk3 => k_asm); (case zqk4 => k_inst); (case zqk5 => exact rfl); (case zqk6 => k_is); (case zqk7 => k_is); (case zqk8 => k_is); (case zqk9 => k_is); (case zqk10 => k_get); (case zqk11 => k_put); (case zqk12 => k_upd); (case zqk13 => exact Nat.le_of_ble_eq_true rfl); k_whole; intro _ _ _; (try k_sweep)))
  k_with "getAttr ref" => (k_dflt (refine' get_own ?zqk1 ?zqk2 ?zqk3 ?zqk4 ?zqk5 ?zqk6 ?zqk7 ?zqk8 ?zqk9 ?_; (case zqk1 => k_asm); (case zqk2 => k_asm); (case zqk3 => first | exact inst_base (by with_reducible assumption) (by k_asm) | k_inst); (case zqk4 => k_is); (case zqk5 => k_is); (case zqk6 => k_is); (case zqk7 => k_is); (case zqk8 => k_get); (case zqk9 => k_handed); k_whole))
  k_with "m side" => first | with_reducible assumption | decide | exact Nat.le_trans (by with_reducible assumption) (by decide) | omega | trivial | (simp only [Str.length_append, len_tx] at *; omega)
  k_with "m ctr" => ((case zqF => with_reducible assumption); (case zqN => with_reducible assumption); (case zqX => with_reducible assumption); (case zqT => with_reducible assumption); (case zqd => k_extra "m room"); (case zqu => k_extra "m room"))
  k_with "call ref" => ((with_reducible show wpAny _ _ (call (Value.ref 219) _) _ _ _); refine' CtrN.use (c_depths _ _ _ ?zqh) ?zqF ?zqN ?zqX ?zqT ?zqd ?zqu ?zqp ?_; (case zqh => (k_extra "m side")); (case zqp => trivial); (k_extra "m ctr"); intro _ ⟨_, _⟩ _ _ _ zN' zhne' zhR'; (try dsimp only at zN' zhR' zhne'))
  k_with "call ref" => ((with_reducible show wpAny _ _ (call (Value.ref 281) _) _ _ _); refine' Ctr.use (c_digits_end _ _ _ _ _ ?zqh) ?zqF ?zqN ?zqX ?zqT ?zqd ?zqu ?zqp ?_; (case zqh => (k_extra "m side")); (case zqp => trivial); (k_extra "m ctr"); intro _ _ _ _ _ _ _)
  k_with "call ref" => ((with_reducible show wpAny _ _ (call (Value.ref 274) _) _ _ _); refine' Ctr.use (c_name_end _ _ _ _ _ ?zqh) ?zqF ?zqN ?zqX ?zqT ?zqd ?zqu ?zqp ?_; (case zqh => (k_extra "m side")); (case zqp => trivial); (k_extra "m ctr"); intro _ _ _ _ _ _ _)
  k_with "call ref" => ((with_reducible show wpAny _ _ (call (Value.ref 226) _) _ _ _); refine' Ctr.use (c_closing _ _ _ _ _ ?zqh ?zqg) ?zqF ?zqN ?zqX ?zqT ?zqd ?zqu ?zqp ?_; (case zqh => (k_extra "m side")); (case zqg => (k_extra "m side")); (case zqp => trivial); (k_extra "m ctr"); intro _ _ _ _ _ _ _)
  k_with "call ref" => ((with_reducible show wpAny _ _ (call (Value.ref 288) _) _ _ _); refine' Ctr.use (c_is_target _ _ _ ?zqh) ?zqF ?zqN ?zqX ?zqT ?zqd ?zqu ?zqp ?_; (case zqh => (k_extra "m side")); (case zqp => trivial); (k_extra "m ctr"); intro _ _ _ _ _ _ _)
  k_with "call ref" => ((with_reducible show wpAny _ _ (call (Value.ref 295) _) _ _ _); (with_reducible rename IntsAre _ _ => zhI'); refine' Ctr.use (c_is_balanced _ _ _ _ _ _ zhI' ?zqh) ?zqF ?zqN ?zqX ?zqT ?zqd ?zqu ?zqp ?_; (case zqh => (k_extra "m side")); (case zqp => exact News.get (by with_reducible assumption) (by k_mem)); (k_extra "m ctr"); intro _ _ _ _ _ _ _)
  k_with "call ref" => ((with_reducible show wpAny _ _ (call (Value.ref 302) _) _ _ _); (with_reducible rename IntsAre _ _ => zhI'); refine' CtrN.use (c_equals_at _ _ _ _ _ _ zhI' ?zqh) ?zqF ?zqN ?zqX ?zqT ?zqd ?zqu ?zqp ?_; (case zqh => (k_extra "m side")); (case zqp => exact News.get (by with_reducible assumption) (by k_mem)); (k_extra "m ctr"); intro _ _ _ _ _ zN' zhne' _; (try dsimp only at zN' zhne'))
  k_with "call ref" => ((with_reducible show wpAny _ _ (call (Value.ref 309) _) _ _ _); refine' Ctr.use (c_is_do_head _ _ _ ?zqh) ?zqF ?zqN ?zqX ?zqT ?zqd ?zqu ?zqp ?_; (case zqh => (k_extra "m side")); (case zqp => trivial); (k_extra "m ctr"); intro _ _ _ _ _ _ _)
  k_with "call ref" => ((with_reducible show wpAny _ _ (call (Value.ref 323) _) _ _ _); refine' Ctr.use (c_word_of_goto _ _ _ ?zqh) ?zqF ?zqN ?zqX ?zqT ?zqd ?zqu ?zqp ?_; (case zqh => (k_extra "m side")); (case zqp => trivial); (k_extra "m ctr"); intro _ _ _ _ _ _ _)
  k_with "call ref" => ((with_reducible show wpAny _ _ (call (Value.ref 316) _) _ _ _); refine' Ctr.use (c_word_of_if _ _ _ ?zqh) ?zqF ?zqN ?zqX ?zqT ?zqd ?zqu ?zqp ?_; (case zqh => (k_extra "m side")); (case zqp => trivial); (k_extra "m ctr"); intro _ _ _ _ _ _ _)
  k_with "call ref" => ((with_reducible show wpAny _ _ (call (Value.ref 337) _) _ _ _); refine' Ctr.use (c_word_by_begin _ _ _ ?zqh ?zqg) ?zqF ?zqN ?zqX ?zqT ?zqd ?zqu ?zqp ?_; (case zqh => (k_extra "m side")); (case zqg => (k_extra "m wb")); (case zqp => trivial); (k_extra "m ctr"); intro _ _ _ _ _ _ _)
  k_with "call ref" => ((with_reducible show wpAny _ _ (call (Value.ref 344) _) _ _ _); refine' Ctr.use (c_classify _ _ _ ?zqh ?zqg) ?zqF ?zqN ?zqX ?zqT ?zqd ?zqu ?zqp ?_; (case zqh => (k_extra "m side")); (case zqg => (k_extra "m cls")); (case zqp => trivial); (k_extra "m ctr"); intro _ _ _ _ _ _ _)
  k_with "ite" => with_reducible (first | refine ite_nemp ?_ | refine ite_ee ?_ | refine ite_nee ?_)
  k_with "call ref" => ((with_reducible show wpAny _ _ (call (Value.ref 212) _) _ _ _); refine' Ctr.use (c_squeezed _ _ _ ?zqh ?zqg) ?zqF ?zqN ?zqX ?zqT ?zqd ?zqu ?zqp ?_; (case zqh => (k_extra "m side")); (case zqg => (k_extra "m sq")); (case zqp => trivial); (k_extra "m ctr"); intro _ _ _ _ _ _ _)
  trivial

-- text C9
section
theorem stored_turn {a b v : Value} : stored [(Str.ofString "left", a), (Str.ofString "turn", b)] (Str.ofString "turn") v = [(Str.ofString "left", a), (Str.ofString "turn", v)] := by
  have e : ¬ (Str.ofString "left" = Str.ofString "turn") := by decide +kernel
  simp [stored, e]
theorem reg_C9_0 : True := by
  k_with "setItem ref str" => (k_dflt (refine' kda_set (knd := PySem.strKind _ _) ?zqF ?zqN ?zqU ?zqd (strKind_is _ _ _ _) ?zqz ?_; (case zqF => k_asm); (case zqN => k_asm); (case zqU => k_updF); (case zqd => k_asm); (case zqz => rw [sizeLine_eq]; exact Nat.le_of_ble_eq_true (by with_unfolding_all rfl))); intro _ _ _ zN' zhd'; (try dsimp only at zN'); (try rw [stored_turn] at zhd'))
  trivial
theorem retP_fig {w : World} {s : Shared} {pd pl : Addr} {B many : Nat} {L : Addr} {m : Str → Option Value} {h' : Heap} {tk : Nat} {nx : List (Addr × Obj)} {od ol : Obj} {V : Int} {t : Tok} (h0 : 0 ≤ V) (h1 : V < many)
    (F : Fr (bare s.heap pd pl) L h' m) (N : News (bare s.heap pd pl) L h' nx) (hd : (pd, od) ∈ nx) (hl : (pl, ol) ∈ nx) (hP : Pu w pl B od ol) :
    RetP w s pd pl B (fun i : Nat × Tok => .int i.1 i.2) (fun i _ _ => i.1 < many) (.ret (.int V t)) { s with heap := h', toks := tk } :=
  retP (V.toNat, t) F N hd hl hP (by show Value.int _ _ = Value.int _ _; rw [Int.toNat_of_nonneg h0]) (by show Int.toNat _ < _; omega)
theorem c_fig (w : World) (pd pl : Addr) (many : Nat) (u : Tok) (B : Nat) (hm : 0 < many) (hm2 : many ≤ 100000) (hB : B ≤ 100000) : CtrP w 1 373 pd pl [.ref pd, .int many u] B (B + 1) (fun i : Nat × Tok => .int i.1 i.2) (fun i _ _ => i.1 < many) := by
  walk_at "m enterP"
  intro dp un gd fr mean mg mb s L h₁ tk g od ol hdp hun X T hg hne hP hlt F N
  obtain ⟨t, k, vs, ns, n, rfl, hD, hI, hn, hk⟩ := hP
  have hneN := neN hne
  have hneN' := neN (Ne.symm hne)
  cases hI with
  | nil =>
    walk_at "m steps"
    all_goals first
      | (exfalso; rename (decide _ = false) => hc; exact absurd hc (by decide))
      | skip
    with_reducible rename Fr _ _ _ _ => F'
    with_reducible rename News _ _ _ _ => N'
    subst hg
    have h0 : (0 : Int) ≤ ((((k : Int) + 1) * (↑k + 1 + 5)).fdiv 2).fmod ↑many := Int.fmod_nonneg_of_pos _ (by omega)
    have h1 : ((((k : Int) + 1) * (↑k + 1 + 5)).fdiv 2).fmod ↑many < many := Int.fmod_lt_of_pos _ (by omega)
    refine retP_fig h0 h1 F' N' (by k_mem) (by k_mem) ⟨_, k + 1, [], [], _, rfl, (by rename Obj.IsDictOf _ _ _ => q; exact q), .nil, by decide, by omega⟩
  | @cons z zt vr zr hI' =>
    walk_at "m steps"
    all_goals first
      | (exfalso; rename (decide _ = true) => hc; exact absurd hc (by simp))
      | skip
    with_reducible rename Fr _ _ _ _ => F'
    with_reducible rename News _ _ _ _ => N'
    have hlen := hI'.length
    refine' kl_popAt (its := (Value.int z zt :: vr).toArray) (k := 0) (p := []) (y := .int z zt) (q := vr) F' N' ?f ?k ?e ?U ?z ?_
    case f => rfl
    case e => rfl
    case U => k_upd
    case z => rw [sizeLine_eq]; simp only [List.length_cons] at *; omega
    case k => unfold seqIndex?; simp
    intro h' F N
    clear F' N'
    walk_at "m steps"
    with_reducible rename Fr _ _ _ _ => F'
    with_reducible rename News _ _ _ _ => N'
    subst hg
    have h0 : (0 : Int) ≤ z.fmod ↑many := Int.fmod_nonneg_of_pos _ (by omega)
    have h1 : z.fmod ↑many < many := Int.fmod_lt_of_pos _ (by omega)
    refine retP_fig h0 h1 F' N' (by k_mem) (by k_mem) ⟨_, k + 1, _, zr, _, rfl, (by rename Obj.IsDictOf _ _ _ => q; exact q), hI', by simp only [List.length_cons] at hn; omega, by omega⟩
theorem c_figI (w : World) (pd pl : Addr) (many : Int) (u : Tok) (B : Nat) (hm : 0 < many) (hm2 : many ≤ 100000) (hB : B ≤ 100000) : CtrP w 1 373 pd pl [.ref pd, .int many u] B (B + 1) (fun i : Nat × Tok => .int i.1 i.2) (fun i _ _ => (i.1 : Int) < many) := by
  have e : many = (many.toNat : Int) := by omega
  rw [e]
  have C := c_fig w pd pl many.toNat u B (by omega) (by omega) hB
  intro dp un gd fr mean mg mb s Q E g od ol h1 h2 h3 h4 h5 h6 h7 h8 h9 h10 h11 h12
  exact C dp un gd fr mean mg mb s Q E g od ol h1 h2 h3 h4 h5 h6 h7 h8 h9 h10 h11 fun i h' tk od' ol' a b c d e => h12 i h' tk od' ol' a b c d (by omega)
theorem Pu.mono {w : World} {pl : Addr} {B B' : Nat} {od ol : Obj} (h : B ≤ B') (P : Pu w pl B od ol) : Pu w pl B' od ol := by
  obtain ⟨t, k, vs, ns, n, a, b, c, d, e⟩ := P
  exact ⟨t, k, vs, ns, n, a, b, c, d, Nat.le_trans e h⟩

end

theorem regc9 : True := by
  k_with_none
  k_with "m cases" => ((case zqho => k_is); (case zqhcd => k_is); (case zqhb => exact rfl); (case zqhlk => simp only [List.map_cons, List.map_nil, List.zip_cons_cons, List.zip_nil_left, List.zip_nil_right, List.reverse_cons, List.reverse_nil, List.nil_append, List.cons_append]; exact rfl); (case zqhl => exact locs rfl); (case zqc1 => exact rfl); (case zqc2 => exact rfl); (case zqc3 => exact rfl); (case zqc4 => decide))
  k_with "m room" => first | with_reducible assumption | exact lt_room (by with_reducible assumption) (by decide) | omega
  k_with "m nat" => first | with_reducible assumption | exact Nat.le_refl _ | exact Nat.le_succ _ | exact Nat.le_trans (by with_reducible assumption) (by decide) | exact Nat.le_trans (Nat.add_le_add_right (by with_reducible assumption) _) (by decide) | decide | omega
  k_with "m lt" => first | assumption | exact And.left (by assumption) | exact And.left (And.right (by assumption)) | exact And.left (And.right (And.right (by assumption))) | exact And.left (And.right (And.right (And.right (by assumption)))) | exact And.left (And.right (And.right (And.right (And.right (by assumption))))) | exact And.left (And.right (And.right (And.right (And.right (And.right (by assumption)))))) | exact And.left (And.right (And.right (And.right (And.right (And.right (And.right (by assumption))))))) | exact And.left (And.right (And.right (And.right (And.right (And.right (And.right (And.right (by assumption)))))))) | exact And.right (by assumption) | exact And.right (And.right (by assumption)) | exact And.right (And.right (And.right (by assumption))) | exact And.right (And.right (And.right (And.right (by assumption)))) | exact And.right (And.right (And.right (And.right (And.right (by assumption))))) | exact And.right (And.right (And.right (And.right (And.right (And.right (by assumption)))))) | exact And.right (And.right (And.right (And.right (And.right (And.right (And.right (by assumption)))))))
  k_with "m enter" => (refine' Ctr.enter ?zqho ?zqhcd ?zqhb ?zqhlk ?zqhl ?zqc1 ?zqc2 ?zqc3 ?zqc4 ?_; (k_extra "m cases"))
  k_with "m enterP" => (refine' CtrP.enter ?zqho ?zqhcd ?zqhb ?zqhlk ?zqhl ?zqc1 ?zqc2 ?zqc3 ?zqc4 ?_; (k_extra "m cases"))
  k_with "m enterT" => (refine' Ctr.enterT ?zqho ?zqhcd ?zqhb ?zqhlk ?zqhl ?zqc1 ?zqc2 ?zqc3 ?zqc4 ?_; (k_extra "m cases"))
  k_with "m init" => ((case zqhm => k_is); (case zqhi => k_is); (case zqhf => k_is); (case zqho => k_is); (case zqhcd => k_is); (case zqhb => (intro _ _ zX; first | exact BindsTo.of_eq rfl | exact binds_K zX rfl (by k_is) rfl rfl rfl)); (case zqhlk => (intro _; exact rfl)); (case zqhl => (intro _; exact locs rfl)); (case zqc1 => exact rfl); (case zqc2 => exact rfl); (case zqc3 => exact rfl); (case zqc4 => decide))
  k_with "m star" => with_reducible (first | exact st_Name | exact st_Constant | exact st_BinOp | exact st_Call | exact st_Subscript | exact st_Attribute | exact st_UnaryOp | exact st_Tuple | exact st_List)
  k_with "m plain" => first | with_reducible exact pl_nil | (with_reducible refine' pl_cons ?zqp1 ?zqp2; (case zqp1 => k_extra "m star"); (case zqp2 => k_extra "m plain"))
  k_with "execs cons" => (refine execs_seal ?_; intro _ _)
  k_with "exec If" => with_reducible refine wpAny_If ?_
  k_with "execs nil" => with_reducible refine wpAny_execs_nil ?_
  k_with "m open" => with_reducible (first | refine SealS.next (by assumption) ?_ | refine SealS.ret (by assumption) ?_ | refine SealS.brk (by assumption) ?_ | refine SealS.cont (by assumption) ?_)
  k_with "m steps" => ((repeat' (first | (k_unfold; (try dsimp only)) | walk1 | k_extra "m open" | (dsimp only; walk1) | fail "no step")) <;> (try dsimp only) <;> (try k_unfold) <;> (try dsimp only [ForStep, WhileStep2]) <;> (repeat (with_reducible refine SealS.ret (by assumption) ?_)))
  k_with "exec For Name Name cons nil" => ((with_reducible refine' for_start ?_ ?zqhs); (case zqhs => (intro _; k_dflt (exact rfl))))
  k_with "exec For Name Call cons nil" => ((with_reducible refine' for_start ?_ ?zqhs); (case zqhs => (intro _; k_dflt (exact rfl))))
  k_with "exec For Tuple Name cons nil" => ((with_reducible refine' for_start ?_ ?zqhs); (case zqhs => (intro _; k_dflt (exact rfl))))
  k_with "exec For Tuple Call cons nil" => ((with_reducible refine' for_start ?_ ?zqhs); (case zqhs => (intro _; k_dflt (exact rfl))))
  k_with "pyIter ref" => ((with_reducible show wpAny _ _ (pyIter _) (fun it s₂ => ForGo _ _ _ _ _ _ _ _ it s₂) _ _); refine stop_here ?_)
  k_with "pyIter str" => ((with_reducible show wpAny _ _ (pyIter _) (fun it s₂ => ForGo _ _ _ _ _ _ _ _ it s₂) _ _); refine stop_here ?_)
  k_with "exec While Compare cons nil" => refine stop_here ?_
  k_with "exec While BoolOp cons nil" => refine stop_here ?_
  k_with "callWith" => ((with_reducible refine' callWith_method1 ?_ ?zqm2 ?zqm3); (case zqm2 => k_extra "m star"); (case zqm3 => k_extra "m plain"))
  k_with "callWith" => ((with_reducible refine' PyProof.Rows.callWith_builtin1 ?_ ?zqm2 ?zqm3); (case zqm2 => k_extra "m star"); (case zqm3 => k_extra "m plain"))
  k_with "callWith" => with_reducible refine callWith_method0 ?_
  k_with "eval Call Attribute" => ((with_reducible refine' MethodCall_ ?_ ?zqm2); (case zqm2 => k_dflt (exact rfl)))
  k_with "eval Call Name" => ((with_reducible refine' Call_ ?_ ?zqm2); (case zqm2 => k_dflt (exact rfl)))
  k_with "exec Assign cons" => ((with_reducible refine' wpAny_Assign_Name ?_ ?zqm2); (case zqm2 => k_dflt (exact rfl)))
  k_with "ite" => first | with_reducible refine ite_tt ?_ | with_reducible refine ite_ff ?_ | (with_reducible refine split_39 ?_ ?_ <;> intro _) | (with_reducible refine split_40 ?_ ?_ <;> intro _) | (with_reducible refine split_41 ?_ ?_ <;> intro _) | (with_reducible refine split_44 ?_ ?_ <;> intro _) | (with_reducible refine split_61 ?_ ?_ <;> intro _) | (with_reducible refine split_32 ?_ ?_ <;> intro _) | with_reducible refine split_end (fun _ => ?_) (fun _ _ _ => ?_) | with_reducible refine split_emp (fun _ => ?_) (fun _ => ?_) | (with_reducible refine split_nb ?_ ?_ <;> intro _) | (with_reducible refine dec_pos (by omega) ?_) | (with_reducible refine dec_neg (by omega) ?_) | (with_reducible refine PyProof.Rows.split_dec ?_ ?_ <;> intro _) | (with_reducible refine ite_pos (by with_reducible assumption) ?_) | (with_reducible refine ite_isFalse (by with_reducible assumption) ?_) | (with_reducible refine PyProof.Rows.split_bool ?_ ?_ <;> intro _)
  k_with "eval Name" => ((with_reducible refine' ld_fast ?zqk1 ?zqk2 ?zqk3 ?zqk4 ?zqk5 ?_); (case zqk1 => with_reducible assumption); (case zqk2 => k_dflt (exact rfl)); (case zqk3 => k_dflt (exact rfl)); (case zqk4 => k_dflt (exact rfl)); (case zqk5 => k_dflt (exact rfl)))
  k_with "compareOp In str str" => with_reducible (first | refine in_letters ?_ | refine in_digits ?_ | refine in_ahead ?_)
  k_with "compareOp NotIn str str" => with_reducible (refine notin_letters ?_)
  k_with "m item" => ((with_reducible show wpAny _ _ (subscriptTail _ _ (Value.str _ _) (Value.int _ _)) _ _ _); first | ((with_reducible refine' item_at ?zqm1 ?zqm2 ?_ ?zqm3 ?zqm4); (case zqm1 => with_reducible assumption); (case zqm2 => first | assumption | omega); (case zqm3 => with_unfolding_all exact rfl); (case zqm4 => (intro _; with_unfolding_all exact rfl))) | ((with_reducible refine' item_lt ?zqm1 ?zqm2 ?_ ?zqm3 ?zqm4); (case zqm1 => first | assumption | omega); (case zqm2 => first | assumption | omega); (case zqm3 => with_unfolding_all exact rfl); (case zqm4 => (intro _; with_unfolding_all exact rfl)); (intro _ _)))
  k_with "subscriptTail Name Name str int" => k_extra "m item"
  k_with "subscriptTail Name BinOp str int" => k_extra "m item"
  k_with "m ret" => ((repeat (with_reducible refine SealS.ret (by assumption) ?_)); (with_reducible rename Fr _ _ _ _ => zF'); first | exact ⟨_, _, _, rfl, rfl, Fr.keep zF', trivial⟩ | exact ⟨(0 : Nat), _, _, rfl, rfl, Fr.keep zF', trivial⟩)
  k_with "subscriptTail Name Name ref int" => ((with_reducible show wpAny _ _ (subscriptTail _ _ (Value.ref _) (Value.int _ _)) _ _ _); (with_reducible rename IntsAre _ _ => zhI'); (refine' item_ints (News.isList (by with_reducible assumption) (by k_mem)) zhI' ?zqm1 ?zqm2 ?_ ?zqm3 ?zqm4); (case zqm1 => first | assumption | omega); (case zqm2 => first | assumption | omega); (case zqm3 => with_unfolding_all exact rfl); (case zqm4 => (intro _; with_unfolding_all exact rfl)); (intro _ _ _))
  k_with "m cl" => (simp only [Nat.zero_add, Int.toNat_natCast, beq_iff_eq, beq_eq_false_iff_ne, ne_eq, bne_iff_ne, bne_eq_false_iff_eq, Bool.not_eq_true] at *)
  k_with "m ifs" => ((repeat (first | rw [if_pos (by with_reducible assumption)] | rw [if_no (by with_reducible assumption)] | rw [if_neg (by with_reducible assumption)])); try (first | rfl | with_reducible assumption | (symm; with_reducible assumption)))
  k_with "m fin" => ((repeat (with_reducible refine SealS.ret (by assumption) ?_)); (with_reducible rename Fr _ _ _ _ => zF'); first | refine ret_str (Fr.keep zF') ?_ | refine ret_bool (Fr.keep zF') ?_ | refine ret_int (Fr.keep zF') ?_)
  k_with "m len" => first | exact Nat.le_trans (by with_reducible assumption) (by decide) | omega | (decide +kernel) | ((try simp only [Str.length_append, len_tx]); omega)
  k_with "binaryOp Add str str" => ((with_reducible show wpAny _ _ (binaryOp Operator.Add (Value.str _ _) (Value.str _ _)) _ _ _); (refine' add_txt ?zqkxaa ?zqkxab ?_; (case zqkxaa => k_extra "m len"); (case zqkxab => k_extra "m len")); intro _ _ _)
  k_with "inplaceOp Add str str" => ((with_reducible show wpAny _ _ (inplaceOp Operator.Add (Value.str _ _) (Value.str _ _)) _ _ _); (refine' iadd_txt ?zqkxaa ?zqkxab ?_; (case zqkxaa => k_extra "m len"); (case zqkxab => k_extra "m len")); intro _ _ _)
  k_with "setAttr ref" => (k_dflt (refine' set_dict ?zqk1 ?zqk2 ?zqk3 ?zqk4 ?zqk5 ?zqk6 ?zqk7 ?zqk8 ?zqk9 ?zqk10 ?zqk11 ?zqk12 ?zqk13 ?_; (case zqk1 => k_asm); (case zqk2 => k_asm); (case zqk3 => k_asm); (case zqk4 => k_inst); (case zqk5 => exact rfl); (case zqk6 => k_is); (case zqk7 => k_is); (case zqk8 => k_is); (case zqk9 => k_is); (case zqk10 => k_get); (case zqk11 => k_put); (case zqk12 => k_upd); (case zqk13 => exact Nat.le_of_ble_eq_true rfl); k_whole; intro _ _ _; (try k_sweep)))
  k_with "getAttr ref" => (k_dflt (refine' get_own ?zqk1 ?zqk2 ?zqk3 ?zqk4 ?zqk5 ?zqk6 ?zqk7 ?zqk8 ?zqk9 ?_; (case zqk1 => k_asm); (case zqk2 => k_asm); (case zqk3 => first | exact inst_base (by with_reducible assumption) (by k_asm) | k_inst); (case zqk4 => k_is); (case zqk5 => k_is); (case zqk6 => k_is); (case zqk7 => k_is); (case zqk8 => k_get); (case zqk9 => k_handed); k_whole))
  k_with "m side" => first | with_reducible assumption | decide | exact Nat.le_trans (by with_reducible assumption) (by decide) | omega | trivial | (simp only [Str.length_append, len_tx] at *; omega)
  k_with "m ctr" => ((case zqF => with_reducible assumption); (case zqN => with_reducible assumption); (case zqX => with_reducible assumption); (case zqT => with_reducible assumption); (case zqd => k_extra "m room"); (case zqu => k_extra "m room"))
  k_with "call ref" => ((with_reducible show wpAny _ _ (call (Value.ref 219) _) _ _ _); refine' CtrN.use (c_depths _ _ _ ?zqh) ?zqF ?zqN ?zqX ?zqT ?zqd ?zqu ?zqp ?_; (case zqh => (k_extra "m side")); (case zqp => trivial); (k_extra "m ctr"); intro _ ⟨_, _⟩ _ _ _ zN' zhne' zhR'; (try dsimp only at zN' zhR' zhne'))
  k_with "call ref" => ((with_reducible show wpAny _ _ (call (Value.ref 281) _) _ _ _); refine' Ctr.use (c_digits_end _ _ _ _ _ ?zqh) ?zqF ?zqN ?zqX ?zqT ?zqd ?zqu ?zqp ?_; (case zqh => (k_extra "m side")); (case zqp => trivial); (k_extra "m ctr"); intro _ _ _ _ _ _ _)
  k_with "call ref" => ((with_reducible show wpAny _ _ (call (Value.ref 274) _) _ _ _); refine' Ctr.use (c_name_end _ _ _ _ _ ?zqh) ?zqF ?zqN ?zqX ?zqT ?zqd ?zqu ?zqp ?_; (case zqh => (k_extra "m side")); (case zqp => trivial); (k_extra "m ctr"); intro _ _ _ _ _ _ _)
  k_with "call ref" => ((with_reducible show wpAny _ _ (call (Value.ref 226) _) _ _ _); refine' Ctr.use (c_closing _ _ _ _ _ ?zqh ?zqg) ?zqF ?zqN ?zqX ?zqT ?zqd ?zqu ?zqp ?_; (case zqh => (k_extra "m side")); (case zqg => (k_extra "m side")); (case zqp => trivial); (k_extra "m ctr"); intro _ _ _ _ _ _ _)
  k_with "call ref" => ((with_reducible show wpAny _ _ (call (Value.ref 288) _) _ _ _); refine' Ctr.use (c_is_target _ _ _ ?zqh) ?zqF ?zqN ?zqX ?zqT ?zqd ?zqu ?zqp ?_; (case zqh => (k_extra "m side")); (case zqp => trivial); (k_extra "m ctr"); intro _ _ _ _ _ _ _)
  k_with "call ref" => ((with_reducible show wpAny _ _ (call (Value.ref 295) _) _ _ _); (with_reducible rename IntsAre _ _ => zhI'); refine' Ctr.use (c_is_balanced _ _ _ _ _ _ zhI' ?zqh) ?zqF ?zqN ?zqX ?zqT ?zqd ?zqu ?zqp ?_; (case zqh => (k_extra "m side")); (case zqp => exact News.get (by with_reducible assumption) (by k_mem)); (k_extra "m ctr"); intro _ _ _ _ _ _ _)
  k_with "call ref" => ((with_reducible show wpAny _ _ (call (Value.ref 302) _) _ _ _); (with_reducible rename IntsAre _ _ => zhI'); refine' CtrN.use (c_equals_at _ _ _ _ _ _ zhI' ?zqh) ?zqF ?zqN ?zqX ?zqT ?zqd ?zqu ?zqp ?_; (case zqh => (k_extra "m side")); (case zqp => exact News.get (by with_reducible assumption) (by k_mem)); (k_extra "m ctr"); intro _ _ _ _ _ zN' zhne' _; (try dsimp only at zN' zhne'))
  k_with "call ref" => ((with_reducible show wpAny _ _ (call (Value.ref 309) _) _ _ _); refine' Ctr.use (c_is_do_head _ _ _ ?zqh) ?zqF ?zqN ?zqX ?zqT ?zqd ?zqu ?zqp ?_; (case zqh => (k_extra "m side")); (case zqp => trivial); (k_extra "m ctr"); intro _ _ _ _ _ _ _)
  k_with "call ref" => ((with_reducible show wpAny _ _ (call (Value.ref 323) _) _ _ _); refine' Ctr.use (c_word_of_goto _ _ _ ?zqh) ?zqF ?zqN ?zqX ?zqT ?zqd ?zqu ?zqp ?_; (case zqh => (k_extra "m side")); (case zqp => trivial); (k_extra "m ctr"); intro _ _ _ _ _ _ _)
  k_with "call ref" => ((with_reducible show wpAny _ _ (call (Value.ref 316) _) _ _ _); refine' Ctr.use (c_word_of_if _ _ _ ?zqh) ?zqF ?zqN ?zqX ?zqT ?zqd ?zqu ?zqp ?_; (case zqh => (k_extra "m side")); (case zqp => trivial); (k_extra "m ctr"); intro _ _ _ _ _ _ _)
  k_with "call ref" => ((with_reducible show wpAny _ _ (call (Value.ref 337) _) _ _ _); refine' Ctr.use (c_word_by_begin _ _ _ ?zqh ?zqg) ?zqF ?zqN ?zqX ?zqT ?zqd ?zqu ?zqp ?_; (case zqh => (k_extra "m side")); (case zqg => (k_extra "m wb")); (case zqp => trivial); (k_extra "m ctr"); intro _ _ _ _ _ _ _)
  k_with "call ref" => ((with_reducible show wpAny _ _ (call (Value.ref 344) _) _ _ _); refine' Ctr.use (c_classify _ _ _ ?zqh ?zqg) ?zqF ?zqN ?zqX ?zqT ?zqd ?zqu ?zqp ?_; (case zqh => (k_extra "m side")); (case zqg => (k_extra "m cls")); (case zqp => trivial); (k_extra "m ctr"); intro _ _ _ _ _ _ _)
  k_with "ite" => with_reducible (first | refine ite_nemp ?_ | refine ite_ee ?_ | refine ite_nee ?_)
  k_with "call ref" => ((with_reducible show wpAny _ _ (call (Value.ref 212) _) _ _ _); refine' Ctr.use (c_squeezed _ _ _ ?zqh ?zqg) ?zqF ?zqN ?zqX ?zqT ?zqd ?zqu ?zqp ?_; (case zqh => (k_extra "m side")); (case zqg => (k_extra "m sq")); (case zqp => trivial); (k_extra "m ctr"); intro _ _ _ _ _ _ _)
  k_with "m ctrP" => ((case zqF => with_reducible assumption); (case zqN => with_reducible assumption); (case zqX => with_reducible assumption); (case zqT => with_reducible assumption); (case zqd => k_extra "m room"); (case zqu => k_extra "m room"); (case zqn => with_reducible assumption); (case zqP => with_reducible assumption))
  k_with "m ne2" => (exact ⟨by k_ne, by k_ne⟩)
  k_with "call ref" => ((with_reducible show wpAny _ _ (call (Value.ref 373) _) _ _ _); (first | (refine' CtrP.use0 (c_figI _ _ _ _ _ _ ?zqa ?zqb ?zqc) ?zqF ?zqN ?zqX ?zqT ?zqd ?zqu ?zqn ?zqP ?_; (k_extra "m ctrP")) | (refine' CtrP.use1 (c_figI _ _ _ _ _ _ ?zqa ?zqb ?zqc) ?zqF ?zqN ?zqX ?zqT ?zqd ?zqu ?zqn ?zqP ?zqh1 ?_; (k_extra "m ctrP"); (case zqh1 => k_extra "m ne2")) | (refine' CtrP.use2 (c_figI _ _ _ _ _ _ ?zqa ?zqb ?zqc) ?zqF ?zqN ?zqX ?zqT ?zqd ?zqu ?zqn ?zqP ?zqh1 ?zqh2 ?_; (k_extra "m ctrP"); (case zqh1 => k_extra "m ne2"); (case zqh2 => k_extra "m ne2")) | (refine' CtrP.use3 (c_figI _ _ _ _ _ _ ?zqa ?zqb ?zqc) ?zqF ?zqN ?zqX ?zqT ?zqd ?zqu ?zqn ?zqP ?zqh1 ?zqh2 ?zqh3 ?_; (k_extra "m ctrP"); (case zqh1 => k_extra "m ne2"); (case zqh2 => k_extra "m ne2"); (case zqh3 => k_extra "m ne2"))); (case zqa => k_extra "m nat"); (case zqb => k_extra "m nat"); (case zqc => k_extra "m nat"); intro ⟨_, _⟩ _ _ _ _ _ _ _ zhR'; (dsimp only at zhR'); (try dsimp only))
  trivial

-- text C10
section
theorem len_great : (Str.ofString "ABCDEFGHIJKLMNOPQRSTUVWXYZ").length = 26 := by decide +kernel
theorem len_small : (Str.ofString "abcdefghijklmnopqrstuvwxyz").length = 26 := by decide +kernel
theorem len_figs : (Str.ofString "0123456789").length = 10 := by decide +kernel
theorem great_at {k c : Nat} (h : (Str.ofString "ABCDEFGHIJKLMNOPQRSTUVWXYZ").cps[k]? = some c) : k < 26 ∧ c = 65 + k := by
  have hk : k < 26 := by rw [← len_great]; exact (Array.getElem?_eq_some_iff.mp h).1
  have : ∀ k, k < 26 → (Str.ofString "ABCDEFGHIJKLMNOPQRSTUVWXYZ").cps[k]? = some (65 + k) := by decide +kernel
  rw [this k hk] at h
  cases h; exact ⟨hk, rfl⟩
theorem small_at {k c : Nat} (h : (Str.ofString "abcdefghijklmnopqrstuvwxyz").cps[k]? = some c) : k < 26 ∧ c = 97 + k := by
  have hk : k < 26 := by rw [← len_small]; exact (Array.getElem?_eq_some_iff.mp h).1
  have : ∀ k, k < 26 → (Str.ofString "abcdefghijklmnopqrstuvwxyz").cps[k]? = some (97 + k) := by decide +kernel
  rw [this k hk] at h
  cases h; exact ⟨hk, rfl⟩
section
variable {prog : Program} {w : World} {A : Around} {E : Value → Shared → Prop} {s : Shared} {u : Tok} {Q : Value → Shared → Prop}
theorem item_two {value slice : Expr} {l : Addr} {a b : Value} {n : Nat} {k : Nat} (hl : s.heap.IsList l #[a, b]) (hk : (k : Int) < 2) (h0 : k = 0 → Q a s) (h1 : k = 1 → Q b s)
    (hs : subscripted slice false (.ref l) (.int (k : Int) u) = operate [.ref l, .int (k : Int) u] (getItem (.ref l) (.int (k : Int) u)))
    (hg : ∀ r, letTemporaryGo value (.ref l) r = pure ()) :
    wpAny (model prog w) A (subscriptTail value slice (.ref l) (.int (k : Int) u)) Q E s := by
  have hk' : k = 0 ∨ k = 1 := by omega
  rcases hk' with rfl | rfl
  · exact item_listL hl (by decide) (by decide) (x := a) rfl (h0 rfl) hs hg
  · exact item_listL hl (by decide) (by decide) (x := b) rfl (h1 rfl) hs hg
end
theorem reg_C10_0 : True := by
  k_with "subscriptTail List Call ref int" => ((refine' item_two (News.isList (by with_reducible assumption) (by k_mem)) ?zqm2 ?_ ?_ ?zqm3 ?zqm4); (case zqm2 => omega); (case zqm3 => with_unfolding_all exact rfl); (case zqm4 => (intro _; with_unfolding_all exact rfl)); all_goals (intro _))
  k_with "subscriptTail Subscript Name str int" => k_extra "m item"
  k_with "subscriptTail BinOp Name str int" => k_extra "m item"
  trivial
def spS (k : Nat) : Nat := if k < 26 then 97 + k else 48 + (k - 26)
def spG (k : Nat) : Nat := if k < 26 then 65 + k else 48 + (k - 26)
theorem item_sf {k : Nat} (hk : (k : Int) < 36) : Txt.item (Str.ofString "abcdefghijklmnopqrstuvwxyz0123456789") k = tx [spS k] := by
  have : ∀ k, k < 36 → Txt.item (Str.ofString "abcdefghijklmnopqrstuvwxyz0123456789") (k : Nat) = tx [spS k] := by decide +kernel
  exact this k (by omega)
theorem item_gf {k : Nat} (hk : (k : Int) < 36) : Txt.item (Str.ofString "ABCDEFGHIJKLMNOPQRSTUVWXYZ0123456789") k = tx [spG k] := by
  have : ∀ k, k < 36 → Txt.item (Str.ofString "ABCDEFGHIJKLMNOPQRSTUVWXYZ0123456789") (k : Nat) = tx [spG k] := by decide +kernel
  exact this k (by omega)
theorem item_great {k : Nat} (hk : (k : Int) < 26) : Txt.item (Str.ofString "ABCDEFGHIJKLMNOPQRSTUVWXYZ") k = tx [65 + k] := by
  have : ∀ k, k < 26 → Txt.item (Str.ofString "ABCDEFGHIJKLMNOPQRSTUVWXYZ") (k : Nat) = tx [65 + k] := by decide +kernel
  exact this k (by omega)
theorem item_small {k : Nat} (hk : (k : Int) < 26) : Txt.item (Str.ofString "abcdefghijklmnopqrstuvwxyz") k = tx [97 + k] := by
  have : ∀ k, k < 26 → Txt.item (Str.ofString "abcdefghijklmnopqrstuvwxyz") (k : Nat) = tx [97 + k] := by decide +kernel
  exact this k (by omega)
def isLSD (c : Nat) : Bool := isL c || isS c || isD c
def isLS (c : Nat) : Bool := isL c || isS c
/-- a name: a letter, then letters and figures -/
def Nm (a : List Nat) : Prop := ∃ c r, a = c :: r ∧ isLS c = true ∧ ∀ d ∈ r, isLSD d = true
theorem capN_L {k : Nat} (h : k < 26) : capN (65 + k) = 65 + k ∧ capN (97 + k) = 65 + k ∧ isLS (65 + k) = true ∧ isLS (97 + k) = true := by
  have : ∀ k, k < 26 → capN (65 + k) = 65 + k ∧ capN (97 + k) = 65 + k ∧ isLS (65 + k) = true ∧ isLS (97 + k) = true := by decide +kernel
  exact this k h
theorem spot_ok {k : Nat} (h : (k : Int) < 36) : capN (spS k) = spG k ∧ isLSD (spS k) = true := by
  have : ∀ k, k < 36 → capN (spS k) = spG k ∧ isLSD (spS k) = true := by decide +kernel
  exact this k (by omega)
theorem nm_snoc {a : List Nat} {c : Nat} (h : Nm a) (hc : isLSD c = true) : Nm (a ++ [c]) := by
  obtain ⟨d, r, rfl, h1, h2⟩ := h
  refine ⟨d, r ++ [c], rfl, h1, fun e he => ?_⟩
  rcases List.mem_append.mp he with he | he
  · exact h2 e he
  · rw [List.mem_singleton.mp he]; exact hc
theorem bare_none {h : Heap} {pd pl a : Addr} (e : (bare h pd pl).get? a = none) (h1 : a ≠ pd) (h2 : a ≠ pl) : True ∧ h.get? a = none := ⟨trivial, by rw [bare_other _ h1 h2] at e; exact e⟩
inductive J10 (w : World) (pd pl : Addr) (B : Nat) (i : Nat) (m : Str → Option Value) (nx : List (Addr × Obj)) : Prop
  | mk (a : _) (od : _) (ol : _) (t1 : _) (t2 : _) (q0 : nx = [(pd, od), (pl, ol)]) (q1 : Pu w pl (B + 3 + i) od ol) (q2 : Nm a) (q3 : a.length = i + 1) (q4 : Has m [(Str.ofString "purse", .ref pd), (Str.ofString "text", .str (tx a) t1), (Str.ofString "told", .str (tx (a.map capN)) t2)]) : J10 w pd pl B i m nx
theorem lt_ext {n i : Nat} (h : (n : Int) < 4) (h2 : i < n - 0) : i < 4 := by omega
theorem sum3 {B i : Nat} (h : B ≤ 90000) (h2 : i < 4) : B + 3 + i ≤ 100000 := by omega
theorem fin3 {B n : Nat} (h : (n : Int) < 4) : B + 3 + (n - 0) ≤ B + 6 := by omega
theorem len4 {n k : Nat} (h : (n : Int) < 4) (h2 : k = n - 0 + 1) : k ≤ 4 := by omega
theorem c_called (w : World) (pd pl : Addr) (B : Nat) (hB : B ≤ 90000) : CtrP w 2 380 pd pl [.ref pd] B (B + 6) (fun i : Addr × List Nat × Tok × Tok => .ref i.1)
    (fun i h h' => h.get? i.1 = none ∧ h'.get? i.1 = some { cls := .type "tuple", data := .seq #[.str (tx i.2.1) i.2.2.1, .str (tx (i.2.1.map capN)) i.2.2.2] } ∧ Nm i.2.1 ∧ i.2.1.length ≤ 4 ∧ i.1 ≠ pd ∧ i.1 ≠ pl) := by
  walk_at "m enterP"
  intro dp un gd fr mean mg mb s L h₁ tk g od ol hdp hun X T hg hne hP hlt F N
  have hneN := neN hne
  have hneN' := neN (Ne.symm hne)
  have lg := len_great
  have ls := len_small
  have lf := len_figs
  walk_at "m steps"
  all_goals (
    rename IsRange _ _ _ _ _ _ _ _ => R
    with_reducible rename Fr _ _ _ _ => F
    with_reducible rename News _ _ _ _ => N
    with_reducible rename Pu _ _ _ _ _ => P
    rename ((Str.cps (Str.ofString "ABCDEFGHIJKLMNOPQRSTUVWXYZ"))[_]? = some _) => hc
    obtain ⟨hl26, rfl⟩ := great_at hc
    have ha2 := capN_L hl26
    have q1 := ha2.1
    have q2 := ha2.2.1
    have q3 := ha2.2.2.1
    have q4 := ha2.2.2.2
    have N2 : News _ _ _ [_, _] := fun p hp => N p (List.mem_cons_of_mem _ hp)
    clear N
    (first | rw [item_great (by omega)] at F | rw [item_small (by omega)] at F)
    refine for_rangeN 0 _ (h₀ := g) (L := L) rfl R (by omega) (by omega) F N2 (J10 w pd pl B) ?_ ?_ ?_ PassesOwn.never)
  all_goals first
    | (first
       | (have e : tx (List.map capN [65 + _]) = ⟨#[_]⟩ := (by rw [List.map_singleton, q1])
          exact ⟨_, _, _, _, _, rfl, P, ⟨65 + _, [], rfl, q3, fun d hd => nomatch hd⟩, rfl, rfl, rfl, (by rw [e]; rfl), trivial⟩)
       | (have e : tx (List.map capN [97 + _]) = ⟨#[_]⟩ := (by rw [List.map_singleton, q2])
          exact ⟨_, _, _, _, _, rfl, P, ⟨97 + _, [], rfl, q4, fun d hd => nomatch hd⟩, rfl, rfl, rfl, (by rw [e]; rfl), trivial⟩))
    | (rintro i v m nx h tk I oI hi ⟨a, od, ol, t1, t2, rfl, P, hNm, hla, hm⟩ hn F N
       have hn1 := neN (hn _ (List.mem_cons_self ..))
       have hn2 := neN (hn _ (List.mem_cons_of_mem _ (List.mem_cons_self ..)))
       dsimp only at hn1 hn2
       have F := knows F hm
       have hi4 := lt_ext (by assumption) hi
       clear hi
       have hl1 : (tx a).length ≤ 4 := by rw [len_tx, hla]; exact hi4
       have hl2 : (tx (a.map capN)).length ≤ 4 := by rw [len_tx, List.length_map, hla]; exact hi4
       have hB4 := sum3 hB hi4
       refine assign_name F N rfl rfl fun h' F N => ?_
       k_fold
       walk_at "m steps"
       all_goals (
         with_reducible rename Fr _ _ _ _ => F
         with_reducible rename News _ _ _ _ => N
         with_reducible rename Pu _ _ _ _ _ => P
         rename (_ < (36 : Int)) => h36
         rw [item_sf h36, item_gf h36, tx_append, tx_append] at F
         have ha3 := spot_ok h36
         have r1 := ha3.1
         have r2 := ha3.2
         rw [← r1] at F
         exact ⟨_, _, _, _, rfl, F, N, (fun p hp => by (rcases List.mem_cons.mp hp with rfl | hp; exact Ne.symm (Ne.symm hn1); rw [List.mem_singleton.mp hp]; exact hn2)), a ++ [_], _, _, _, _, rfl, P.mono (by walk_at "m nat"), nm_snoc hNm r2, (by rw [List.length_append, hla]; rfl), rfl, rfl, (by rw [List.map_append]; rfl), trivial⟩))
    | (rintro m nx h tk ⟨a, od, ol, t1, t2, rfl, P, hNm, hla, hm⟩ F N
       have F := knows F hm
       walk_at "m steps"
       with_reducible rename Fr _ _ _ _ => F
       with_reducible rename News _ _ _ _ => N
       subst hg
       have hD := N _ (List.mem_cons_self ..)
       rename (_ < _ ∧ _) => hlt2
       have ha4 := bare_none hD.2.2 (by k_ne) (by k_ne)
       have e1 := ha4.1
       have e2 := ha4.2
       exact retP (_, a, t1, t2) F N (by k_mem) (by k_mem) (P.mono (fin3 (by assumption))) rfl ⟨e2, hD.1, hNm, len4 (by assumption) hla, by k_ne, by k_ne⟩)

end

theorem regc10 : True := by
  k_with_none
  k_with "m cases" => ((case zqho => k_is); (case zqhcd => k_is); (case zqhb => exact rfl); (case zqhlk => simp only [List.map_cons, List.map_nil, List.zip_cons_cons, List.zip_nil_left, List.zip_nil_right, List.reverse_cons, List.reverse_nil, List.nil_append, List.cons_append]; exact rfl); (case zqhl => exact locs rfl); (case zqc1 => exact rfl); (case zqc2 => exact rfl); (case zqc3 => exact rfl); (case zqc4 => decide))
  k_with "m room" => first | with_reducible assumption | exact lt_room (by with_reducible assumption) (by decide) | omega
  k_with "m nat" => first | with_reducible assumption | exact Nat.le_refl _ | exact Nat.le_succ _ | exact Nat.le_trans (by with_reducible assumption) (by decide) | exact Nat.le_trans (Nat.add_le_add_right (by with_reducible assumption) _) (by decide) | decide | omega
  k_with "m lt" => first | assumption | exact And.left (by assumption) | exact And.left (And.right (by assumption)) | exact And.left (And.right (And.right (by assumption))) | exact And.left (And.right (And.right (And.right (by assumption)))) | exact And.left (And.right (And.right (And.right (And.right (by assumption))))) | exact And.left (And.right (And.right (And.right (And.right (And.right (by assumption)))))) | exact And.left (And.right (And.right (And.right (And.right (And.right (And.right (by assumption))))))) | exact And.left (And.right (And.right (And.right (And.right (And.right (And.right (And.right (by assumption)))))))) | exact And.right (by assumption) | exact And.right (And.right (by assumption)) | exact And.right (And.right (And.right (by assumption))) | exact And.right (And.right (And.right (And.right (by assumption)))) | exact And.right (And.right (And.right (And.right (And.right (by assumption))))) | exact And.right (And.right (And.right (And.right (And.right (And.right (by assumption)))))) | exact And.right (And.right (And.right (And.right (And.right (And.right (And.right (by assumption)))))))
  k_with "m enter" => (refine' Ctr.enter ?zqho ?zqhcd ?zqhb ?zqhlk ?zqhl ?zqc1 ?zqc2 ?zqc3 ?zqc4 ?_; (k_extra "m cases"))
  k_with "m enterP" => (refine' CtrP.enter ?zqho ?zqhcd ?zqhb ?zqhlk ?zqhl ?zqc1 ?zqc2 ?zqc3 ?zqc4 ?_; (k_extra "m cases"))
  k_with "m enterT" => (refine' Ctr.enterT ?zqho ?zqhcd ?zqhb ?zqhlk ?zqhl ?zqc1 ?zqc2 ?zqc3 ?zqc4 ?_; (k_extra "m cases"))
  k_with "m init" => ((case zqhm => k_is); (case zqhi => k_is); (case zqhf => k_is); (case zqho => k_is); (case zqhcd => k_is); (case zqhb => (intro _ _ zX; first | exact BindsTo.of_eq rfl | exact binds_K zX rfl (by k_is) rfl rfl rfl)); (case zqhlk => (intro _; exact rfl)); (case zqhl => (intro _; exact locs rfl)); (case zqc1 => exact rfl); (case zqc2 => exact rfl); (case zqc3 => exact rfl); (case zqc4 => decide))
  k_with "m star" => with_reducible (first | exact st_Name | exact st_Constant | exact st_BinOp | exact st_Call | exact st_Subscript | exact st_Attribute | exact st_UnaryOp | exact st_Tuple | exact st_List)
  k_with "m plain" => first | with_reducible exact pl_nil | (with_reducible refine' pl_cons ?zqp1 ?zqp2; (case zqp1 => k_extra "m star"); (case zqp2 => k_extra "m plain"))
  k_with "execs cons" => (refine execs_seal ?_; intro _ _)
  k_with "exec If" => with_reducible refine wpAny_If ?_
  k_with "execs nil" => with_reducible refine wpAny_execs_nil ?_
  k_with "m open" => with_reducible (first | refine SealS.next (by assumption) ?_ | refine SealS.ret (by assumption) ?_ | refine SealS.brk (by assumption) ?_ | refine SealS.cont (by assumption) ?_)
  k_with "m steps" => ((repeat' (first | (k_unfold; (try dsimp only)) | walk1 | k_extra "m open" | (dsimp only; walk1) | fail "no step")) <;> (try dsimp only) <;> (try k_unfold) <;> (try dsimp only [ForStep, WhileStep2]) <;> (repeat (with_reducible refine SealS.ret (by assumption) ?_)))
  k_with "exec For Name Name cons nil" => ((with_reducible refine' for_start ?_ ?zqhs); (case zqhs => (intro _; k_dflt (exact rfl))))
  k_with "exec For Name Call cons nil" => ((with_reducible refine' for_start ?_ ?zqhs); (case zqhs => (intro _; k_dflt (exact rfl))))
  k_with "exec For Tuple Name cons nil" => ((with_reducible refine' for_start ?_ ?zqhs); (case zqhs => (intro _; k_dflt (exact rfl))))
  k_with "exec For Tuple Call cons nil" => ((with_reducible refine' for_start ?_ ?zqhs); (case zqhs => (intro _; k_dflt (exact rfl))))
  k_with "pyIter ref" => ((with_reducible show wpAny _ _ (pyIter _) (fun it s₂ => ForGo _ _ _ _ _ _ _ _ it s₂) _ _); refine stop_here ?_)
  k_with "pyIter str" => ((with_reducible show wpAny _ _ (pyIter _) (fun it s₂ => ForGo _ _ _ _ _ _ _ _ it s₂) _ _); refine stop_here ?_)
  k_with "exec While Compare cons nil" => refine stop_here ?_
  k_with "exec While BoolOp cons nil" => refine stop_here ?_
  k_with "callWith" => ((with_reducible refine' callWith_method1 ?_ ?zqm2 ?zqm3); (case zqm2 => k_extra "m star"); (case zqm3 => k_extra "m plain"))
  k_with "callWith" => ((with_reducible refine' PyProof.Rows.callWith_builtin1 ?_ ?zqm2 ?zqm3); (case zqm2 => k_extra "m star"); (case zqm3 => k_extra "m plain"))
  k_with "callWith" => with_reducible refine callWith_method0 ?_
  k_with "eval Call Attribute" => ((with_reducible refine' MethodCall_ ?_ ?zqm2); (case zqm2 => k_dflt (exact rfl)))
  k_with "eval Call Name" => ((with_reducible refine' Call_ ?_ ?zqm2); (case zqm2 => k_dflt (exact rfl)))
  k_with "exec Assign cons" => ((with_reducible refine' wpAny_Assign_Name ?_ ?zqm2); (case zqm2 => k_dflt (exact rfl)))
  k_with "ite" => first | with_reducible refine ite_tt ?_ | with_reducible refine ite_ff ?_ | (with_reducible refine split_39 ?_ ?_ <;> intro _) | (with_reducible refine split_40 ?_ ?_ <;> intro _) | (with_reducible refine split_41 ?_ ?_ <;> intro _) | (with_reducible refine split_44 ?_ ?_ <;> intro _) | (with_reducible refine split_61 ?_ ?_ <;> intro _) | (with_reducible refine split_32 ?_ ?_ <;> intro _) | with_reducible refine split_end (fun _ => ?_) (fun _ _ _ => ?_) | with_reducible refine split_emp (fun _ => ?_) (fun _ => ?_) | (with_reducible refine split_nb ?_ ?_ <;> intro _) | (with_reducible refine dec_pos (by omega) ?_) | (with_reducible refine dec_neg (by omega) ?_) | (with_reducible refine PyProof.Rows.split_dec ?_ ?_ <;> intro _) | (with_reducible refine ite_pos (by with_reducible assumption) ?_) | (with_reducible refine ite_isFalse (by with_reducible assumption) ?_) | (with_reducible refine PyProof.Rows.split_bool ?_ ?_ <;> intro _)
  k_with "eval Name" => ((with_reducible refine' ld_fast ?zqk1 ?zqk2 ?zqk3 ?zqk4 ?zqk5 ?_); (case zqk1 => with_reducible assumption); (case zqk2 => k_dflt (exact rfl)); (case zqk3 => k_dflt (exact rfl)); (case zqk4 => k_dflt (exact rfl)); (case zqk5 => k_dflt (exact rfl)))
  k_with "compareOp In str str" => with_reducible (first | refine in_letters ?_ | refine in_digits ?_ | refine in_ahead ?_)
  k_with "compareOp NotIn str str" => with_reducible (refine notin_letters ?_)
  k_with "m item" => ((with_reducible show wpAny _ _ (subscriptTail _ _ (Value.str _ _) (Value.int _ _)) _ _ _); first | ((with_reducible refine' item_at ?zqm1 ?zqm2 ?_ ?zqm3 ?zqm4); (case zqm1 => with_reducible assumption); (case zqm2 => first | assumption | omega); (case zqm3 => with_unfolding_all exact rfl); (case zqm4 => (intro _; with_unfolding_all exact rfl))) | ((with_reducible refine' item_lt ?zqm1 ?zqm2 ?_ ?zqm3 ?zqm4); (case zqm1 => first | assumption | omega); (case zqm2 => first | assumption | omega); (case zqm3 => with_unfolding_all exact rfl); (case zqm4 => (intro _; with_unfolding_all exact rfl)); (intro _ _)))
  k_with "subscriptTail Name Name str int" => k_extra "m item"
  k_with "subscriptTail Name BinOp str int" => k_extra "m item"
  k_with "m ret" => ((repeat (with_reducible refine SealS.ret (by assumption) ?_)); (with_reducible rename Fr _ _ _ _ => zF'); first | exact ⟨_, _, _, rfl, rfl, Fr.keep zF', trivial⟩ | exact ⟨(0 : Nat), _, _, rfl, rfl, Fr.keep zF', trivial⟩)
  k_with "subscriptTail Name Name ref int" => ((with_reducible show wpAny _ _ (subscriptTail _ _ (Value.ref _) (Value.int _ _)) _ _ _); (with_reducible rename IntsAre _ _ => zhI'); (refine' item_ints (News.isList (by with_reducible assumption) (by k_mem)) zhI' ?zqm1 ?zqm2 ?_ ?zqm3 ?zqm4); (case zqm1 => first | assumption | omega); (case zqm2 => first | assumption | omega); (case zqm3 => with_unfolding_all exact rfl); (case zqm4 => (intro _; with_unfolding_all exact rfl)); (intro _ _ _))
  k_with "m cl" => (simp only [Nat.zero_add, Int.toNat_natCast, beq_iff_eq, beq_eq_false_iff_ne, ne_eq, bne_iff_ne, bne_eq_false_iff_eq, Bool.not_eq_true] at *)
  k_with "m ifs" => ((repeat (first | rw [if_pos (by with_reducible assumption)] | rw [if_no (by with_reducible assumption)] | rw [if_neg (by with_reducible assumption)])); try (first | rfl | with_reducible assumption | (symm; with_reducible assumption)))
  k_with "m fin" => ((repeat (with_reducible refine SealS.ret (by assumption) ?_)); (with_reducible rename Fr _ _ _ _ => zF'); first | refine ret_str (Fr.keep zF') ?_ | refine ret_bool (Fr.keep zF') ?_ | refine ret_int (Fr.keep zF') ?_)
  k_with "m len" => first | exact Nat.le_trans (by with_reducible assumption) (by decide) | omega | (decide +kernel) | ((try simp only [Str.length_append, len_tx]); omega)
  k_with "binaryOp Add str str" => ((with_reducible show wpAny _ _ (binaryOp Operator.Add (Value.str _ _) (Value.str _ _)) _ _ _); (refine' add_txt ?zqkxaa ?zqkxab ?_; (case zqkxaa => k_extra "m len"); (case zqkxab => k_extra "m len")); intro _ _ _)
  k_with "inplaceOp Add str str" => ((with_reducible show wpAny _ _ (inplaceOp Operator.Add (Value.str _ _) (Value.str _ _)) _ _ _); (refine' iadd_txt ?zqkxaa ?zqkxab ?_; (case zqkxaa => k_extra "m len"); (case zqkxab => k_extra "m len")); intro _ _ _)
  k_with "setAttr ref" => (k_dflt (refine' set_dict ?zqk1 ?zqk2 ?zqk3 ?zqk4 ?zqk5 ?zqk6 ?zqk7 ?zqk8 ?zqk9 ?zqk10 ?zqk11 ?zqk12 ?zqk13 ?_; (case zqk1 => k_asm); (case zqk2 => k_asm); (case zqk3 => k_asm); (case zqk4 => k_inst); (case zqk5 => exact rfl); (case zqk6 => k_is); (case zqk7 => k_is); (case zqk8 => k_is); (case zqk9 => k_is); (case zqk10 => k_get); (case zqk11 => k_put); (case zqk12 => k_upd); (case zqk13 => exact Nat.le_of_ble_eq_true rfl); k_whole; intro _ _ _; (try k_sweep)))
  k_with "getAttr ref" => (k_dflt (refine' get_own ?zqk1 ?zqk2 ?zqk3 ?zqk4 ?zqk5 ?zqk6 ?zqk7 ?zqk8 ?zqk9 ?_; (case zqk1 => k_asm); (case zqk2 => k_asm); (case zqk3 => first | exact inst_base (by with_reducible assumption) (by k_asm) | k_inst); (case zqk4 => k_is); (case zqk5 => k_is); (case zqk6 => k_is); (case zqk7 => k_is); (case zqk8 => k_get); (case zqk9 => k_handed); k_whole))
  k_with "m side" => first | with_reducible assumption | decide | exact Nat.le_trans (by with_reducible assumption) (by decide) | omega | trivial | (simp only [Str.length_append, len_tx] at *; omega)
  k_with "m ctr" => ((case zqF => with_reducible assumption); (case zqN => with_reducible assumption); (case zqX => with_reducible assumption); (case zqT => with_reducible assumption); (case zqd => k_extra "m room"); (case zqu => k_extra "m room"))
  k_with "call ref" => ((with_reducible show wpAny _ _ (call (Value.ref 219) _) _ _ _); refine' CtrN.use (c_depths _ _ _ ?zqh) ?zqF ?zqN ?zqX ?zqT ?zqd ?zqu ?zqp ?_; (case zqh => (k_extra "m side")); (case zqp => trivial); (k_extra "m ctr"); intro _ ⟨_, _⟩ _ _ _ zN' zhne' zhR'; (try dsimp only at zN' zhR' zhne'))
  k_with "call ref" => ((with_reducible show wpAny _ _ (call (Value.ref 281) _) _ _ _); refine' Ctr.use (c_digits_end _ _ _ _ _ ?zqh) ?zqF ?zqN ?zqX ?zqT ?zqd ?zqu ?zqp ?_; (case zqh => (k_extra "m side")); (case zqp => trivial); (k_extra "m ctr"); intro _ _ _ _ _ _ _)
  k_with "call ref" => ((with_reducible show wpAny _ _ (call (Value.ref 274) _) _ _ _); refine' Ctr.use (c_name_end _ _ _ _ _ ?zqh) ?zqF ?zqN ?zqX ?zqT ?zqd ?zqu ?zqp ?_; (case zqh => (k_extra "m side")); (case zqp => trivial); (k_extra "m ctr"); intro _ _ _ _ _ _ _)
  k_with "call ref" => ((with_reducible show wpAny _ _ (call (Value.ref 226) _) _ _ _); refine' Ctr.use (c_closing _ _ _ _ _ ?zqh ?zqg) ?zqF ?zqN ?zqX ?zqT ?zqd ?zqu ?zqp ?_; (case zqh => (k_extra "m side")); (case zqg => (k_extra "m side")); (case zqp => trivial); (k_extra "m ctr"); intro _ _ _ _ _ _ _)
  k_with "call ref" => ((with_reducible show wpAny _ _ (call (Value.ref 288) _) _ _ _); refine' Ctr.use (c_is_target _ _ _ ?zqh) ?zqF ?zqN ?zqX ?zqT ?zqd ?zqu ?zqp ?_; (case zqh => (k_extra "m side")); (case zqp => trivial); (k_extra "m ctr"); intro _ _ _ _ _ _ _)
  k_with "call ref" => ((with_reducible show wpAny _ _ (call (Value.ref 295) _) _ _ _); (with_reducible rename IntsAre _ _ => zhI'); refine' Ctr.use (c_is_balanced _ _ _ _ _ _ zhI' ?zqh) ?zqF ?zqN ?zqX ?zqT ?zqd ?zqu ?zqp ?_; (case zqh => (k_extra "m side")); (case zqp => exact News.get (by with_reducible assumption) (by k_mem)); (k_extra "m ctr"); intro _ _ _ _ _ _ _)
  k_with "call ref" => ((with_reducible show wpAny _ _ (call (Value.ref 302) _) _ _ _); (with_reducible rename IntsAre _ _ => zhI'); refine' CtrN.use (c_equals_at _ _ _ _ _ _ zhI' ?zqh) ?zqF ?zqN ?zqX ?zqT ?zqd ?zqu ?zqp ?_; (case zqh => (k_extra "m side")); (case zqp => exact News.get (by with_reducible assumption) (by k_mem)); (k_extra "m ctr"); intro _ _ _ _ _ zN' zhne' _; (try dsimp only at zN' zhne'))
  k_with "call ref" => ((with_reducible show wpAny _ _ (call (Value.ref 309) _) _ _ _); refine' Ctr.use (c_is_do_head _ _ _ ?zqh) ?zqF ?zqN ?zqX ?zqT ?zqd ?zqu ?zqp ?_; (case zqh => (k_extra "m side")); (case zqp => trivial); (k_extra "m ctr"); intro _ _ _ _ _ _ _)
  k_with "call ref" => ((with_reducible show wpAny _ _ (call (Value.ref 323) _) _ _ _); refine' Ctr.use (c_word_of_goto _ _ _ ?zqh) ?zqF ?zqN ?zqX ?zqT ?zqd ?zqu ?zqp ?_; (case zqh => (k_extra "m side")); (case zqp => trivial); (k_extra "m ctr"); intro _ _ _ _ _ _ _)
  k_with "call ref" => ((with_reducible show wpAny _ _ (call (Value.ref 316) _) _ _ _); refine' Ctr.use (c_word_of_if _ _ _ ?zqh) ?zqF ?zqN ?zqX ?zqT ?zqd ?zqu ?zqp ?_; (case zqh => (k_extra "m side")); (case zqp => trivial); (k_extra "m ctr"); intro _ _ _ _ _ _ _)
  k_with "call ref" => ((with_reducible show wpAny _ _ (call (Value.ref 337) _) _ _ _); refine' Ctr.use (c_word_by_begin _ _ _ ?zqh ?zqg) ?zqF ?zqN ?zqX ?zqT ?zqd ?zqu ?zqp ?_; (case zqh => (k_extra "m side")); (case zqg => (k_extra "m wb")); (case zqp => trivial); (k_extra "m ctr"); intro _ _ _ _ _ _ _)
  k_with "call ref" => ((with_reducible show wpAny _ _ (call (Value.ref 344) _) _ _ _); refine' Ctr.use (c_classify _ _ _ ?zqh ?zqg) ?zqF ?zqN ?zqX ?zqT ?zqd ?zqu ?zqp ?_; (case zqh => (k_extra "m side")); (case zqg => (k_extra "m cls")); (case zqp => trivial); (k_extra "m ctr"); intro _ _ _ _ _ _ _)
  k_with "ite" => with_reducible (first | refine ite_nemp ?_ | refine ite_ee ?_ | refine ite_nee ?_)
  k_with "call ref" => ((with_reducible show wpAny _ _ (call (Value.ref 212) _) _ _ _); refine' Ctr.use (c_squeezed _ _ _ ?zqh ?zqg) ?zqF ?zqN ?zqX ?zqT ?zqd ?zqu ?zqp ?_; (case zqh => (k_extra "m side")); (case zqg => (k_extra "m sq")); (case zqp => trivial); (k_extra "m ctr"); intro _ _ _ _ _ _ _)
  k_with "m ctrP" => ((case zqF => with_reducible assumption); (case zqN => with_reducible assumption); (case zqX => with_reducible assumption); (case zqT => with_reducible assumption); (case zqd => k_extra "m room"); (case zqu => k_extra "m room"); (case zqn => with_reducible assumption); (case zqP => with_reducible assumption))
  k_with "m ne2" => (exact ⟨by k_ne, by k_ne⟩)
  k_with "call ref" => ((with_reducible show wpAny _ _ (call (Value.ref 373) _) _ _ _); (first | (refine' CtrP.use0 (c_figI _ _ _ _ _ _ ?zqa ?zqb ?zqc) ?zqF ?zqN ?zqX ?zqT ?zqd ?zqu ?zqn ?zqP ?_; (k_extra "m ctrP")) | (refine' CtrP.use1 (c_figI _ _ _ _ _ _ ?zqa ?zqb ?zqc) ?zqF ?zqN ?zqX ?zqT ?zqd ?zqu ?zqn ?zqP ?zqh1 ?_; (k_extra "m ctrP"); (case zqh1 => k_extra "m ne2")) | (refine' CtrP.use2 (c_figI _ _ _ _ _ _ ?zqa ?zqb ?zqc) ?zqF ?zqN ?zqX ?zqT ?zqd ?zqu ?zqn ?zqP ?zqh1 ?zqh2 ?_; (k_extra "m ctrP"); (case zqh1 => k_extra "m ne2"); (case zqh2 => k_extra "m ne2")) | (refine' CtrP.use3 (c_figI _ _ _ _ _ _ ?zqa ?zqb ?zqc) ?zqF ?zqN ?zqX ?zqT ?zqd ?zqu ?zqn ?zqP ?zqh1 ?zqh2 ?zqh3 ?_; (k_extra "m ctrP"); (case zqh1 => k_extra "m ne2"); (case zqh2 => k_extra "m ne2"); (case zqh3 => k_extra "m ne2"))); (case zqa => k_extra "m nat"); (case zqb => k_extra "m nat"); (case zqc => k_extra "m nat"); intro ⟨_, _⟩ _ _ _ _ _ _ _ zhR'; (dsimp only at zhR'); (try dsimp only))
  trivial

-- text C11
section
abbrev limD (P : Params) (a b c d e f g h : Tok) : Obj := dictOf [{ hash := PyData.keyHash P (Str.ofString "width"), key := .str (Str.ofString "width") a, val := .int 32 703 }, { hash := PyData.keyHash P (Str.ofString "real_digits"), key := .str (Str.ofString "real_digits") b, val := .int 7 704 }, { hash := PyData.keyHash P (Str.ofString "double_digits"), key := .str (Str.ofString "double_digits") c, val := .int 15 705 }, { hash := PyData.keyHash P (Str.ofString "top_exponent"), key := .str (Str.ofString "top_exponent") d, val := .int 38 706 }, { hash := PyData.keyHash P (Str.ofString "steps"), key := .str (Str.ofString "steps") e, val := .int 1000000 707 }, { hash := PyData.keyHash P (Str.ofString "continuations"), key := .str (Str.ofString "continuations") f, val := .int 19 708 }, { hash := PyData.keyHash P (Str.ofString "columns"), key := .str (Str.ofString "columns") g, val := .int 72 709 }, { hash := PyData.keyHash P (Str.ofString "depth"), key := .str (Str.ofString "depth") h, val := .int 40 710 }] 8
structure LimT where
  (a b c d e f g h : Tok)
abbrev LimT.obj (P : Params) (t : LimT) : Obj := limD P t.a t.b t.c t.d t.e t.f t.g t.h
structure CardT where
  (a b c d : Tok)
abbrev cardD (P : Params) (a b c d : Tok) (x1 x2 x3 x4 : Value) : Obj := dictOf [{ hash := PyData.keyHash P (Str.ofString "line"), key := .str (Str.ofString "line") a, val := x1 }, { hash := PyData.keyHash P (Str.ofString "label"), key := .str (Str.ofString "label") b, val := x2 }, { hash := PyData.keyHash P (Str.ofString "mark"), key := .str (Str.ofString "mark") c, val := x3 }, { hash := PyData.keyHash P (Str.ofString "body"), key := .str (Str.ofString "body") d, val := x4 }] 4
theorem c_Limits (w : World) : CtrL w 2 362 [] (fun _ => True) (fun i : Addr × Addr × LimT => i.1) (fun i => [(i.1, instObj 362 i.2.1), (i.2.1, i.2.2.obj w.params)]) (fun i => True) := by
  unfold CtrL
  refine' Ctr.ctor (fun x => [(Str.ofString "depth", .int 40 710), (Str.ofString "columns", .int 72 709), (Str.ofString "continuations", .int 19 708), (Str.ofString "steps", .int 1000000 707), (Str.ofString "top_exponent", .int 38 706), (Str.ofString "double_digits", .int 15 705), (Str.ofString "real_digits", .int 7 704), (Str.ofString "width", .int 32 703), (Str.ofString "self", .ref x)])
    (fun x => [(Str.ofString "self", .ref x), (Str.ofString "width", .int 32 703), (Str.ofString "real_digits", .int 7 704), (Str.ofString "double_digits", .int 15 705), (Str.ofString "top_exponent", .int 38 706), (Str.ofString "steps", .int 1000000 707), (Str.ofString "continuations", .int 19 708), (Str.ofString "columns", .int 72 709), (Str.ofString "depth", .int 40 710)]) ?zqhm ?zqhi ?zqhf ?zqho ?zqhcd ?zqhb ?zqhlk ?zqhl ?zqc1 ?zqc2 ?zqc3 ?zqc4 ?_
  walk_at "m init"
  intro dp un gd fr mean mg mb s x dx L h₁ tk hdp hun X T hpre hlt F N
  have hlt1 := ltN hlt.1
  have hlt2 := ltN hlt.2
  walk_at "m steps"
  with_reducible rename Fr _ _ _ _ => F'
  with_reducible rename News _ _ _ _ => N'
  exact ⟨rfl, (x, dx, ⟨_, _, _, _, _, _, _, _⟩), _, _, rfl, rfl, F'.keep, fun p hp => ⟨(N' p hp).2.2, (N' p hp).1⟩, trivial⟩
theorem c_Card (w : World) (v1 v2 v3 v4 : Value) : CtrL w 2 89 [v1, v2, v3, v4] (fun _ => True) (fun i : Addr × Addr × CardT => i.1) (fun i => [(i.1, instObj 89 i.2.1), (i.2.1, cardD w.params i.2.2.a i.2.2.b i.2.2.c i.2.2.d v1 v2 v3 v4)]) (fun i => True) := by
  unfold CtrL
  refine' Ctr.ctor (fun x => [(Str.ofString "body", v4), (Str.ofString "mark", v3), (Str.ofString "label", v2), (Str.ofString "line", v1), (Str.ofString "self", .ref x)])
    (fun x => [(Str.ofString "self", .ref x), (Str.ofString "line", v1), (Str.ofString "label", v2), (Str.ofString "mark", v3), (Str.ofString "body", v4)]) ?zqhm ?zqhi ?zqhf ?zqho ?zqhcd ?zqhb ?zqhlk ?zqhl ?zqc1 ?zqc2 ?zqc3 ?zqc4 ?_
  walk_at "m init"
  intro dp un gd fr mean mg mb s x dx L h₁ tk hdp hun X T hpre hlt F N
  have hlt1 := ltN hlt.1
  have hlt2 := ltN hlt.2
  walk_at "m steps"
  with_reducible rename Fr _ _ _ _ => F'
  with_reducible rename News _ _ _ _ => N'
  exact ⟨rfl, (x, dx, ⟨_, _, _, _⟩), _, _, rfl, rfl, F'.keep, fun p hp => ⟨(N' p hp).2.2, (N' p hp).1⟩, trivial⟩
theorem neMap {A B : List (Addr × Obj)} (h : ∀ p ∈ A, ∀ q ∈ B, q.1 ≠ p.1) : ∀ a ∈ A.map (·.1), ∀ b ∈ B.map (·.1), b ≠ a := by
  intro a ha b hb
  obtain ⟨p, hp, rfl⟩ := List.mem_map.mp ha
  obtain ⟨q, hq, rfl⟩ := List.mem_map.mp hb
  exact h p hp q hq

end

theorem regc11 : True := by
  k_with "call ref" => ((with_reducible show wpAny _ _ (call (Value.ref 362) _) _ _ _); refine' CtrL.use (c_Limits _) ?zqF ?zqN ?zqX ?zqT ?zqd ?zqu ?zqp ?_; (case zqp => trivial); (k_extra "m ctr"); intro ⟨_, _, _⟩ _ _ _ zN' zhne' _; (dsimp only [List.cons_append, List.nil_append] at zN'); (try (have za1 := neN (zhne' _ (List.mem_cons_self ..) _ (List.mem_cons_self ..)); try dsimp only at za1)); (try (have za2 := neN (zhne' _ (List.mem_cons_self ..) _ (List.mem_cons_of_mem _ (List.mem_cons_self ..))); try dsimp only at za2)); (try (have za3 := neN (zhne' _ (List.mem_cons_of_mem _ (List.mem_cons_self ..)) _ (List.mem_cons_self ..)); try dsimp only at za3)); (try (have za4 := neN (zhne' _ (List.mem_cons_of_mem _ (List.mem_cons_self ..)) _ (List.mem_cons_of_mem _ (List.mem_cons_self ..))); try dsimp only at za4)); (try dsimp only))
  k_with "call ref" => ((with_reducible show wpAny _ _ (call (Value.ref 89) _) _ _ _); refine' CtrL.use (c_Card _ _ _ _ _) ?zqF ?zqN ?zqX ?zqT ?zqd ?zqu ?zqp ?_; (case zqp => trivial); (k_extra "m ctr"); intro ⟨_, _, _⟩ _ _ _ zN' zhne' _; (dsimp only [List.cons_append, List.nil_append] at zN'); (try (have za1 := neN (zhne' _ (List.mem_cons_self ..) _ (List.mem_cons_self ..)); try dsimp only at za1)); (try (have za2 := neN (zhne' _ (List.mem_cons_self ..) _ (List.mem_cons_of_mem _ (List.mem_cons_self ..))); try dsimp only at za2)); (try (have za3 := neN (zhne' _ (List.mem_cons_of_mem _ (List.mem_cons_self ..)) _ (List.mem_cons_self ..)); try dsimp only at za3)); (try (have za4 := neN (zhne' _ (List.mem_cons_of_mem _ (List.mem_cons_self ..)) _ (List.mem_cons_of_mem _ (List.mem_cons_self ..))); try dsimp only at za4)); (try dsimp only))
  trivial

-- text C12
def wbF (x : Str) : Str := tx ((sg x).filter (· != 32))
theorem rep_blank (x : Str) : Txt.replace x (Str.ofString " ") (Str.ofString "") = wbF x := by
  have e := replace_strikes x 32
  rw [show Str.ofString " " = ⟨#[32]⟩ from by decide +kernel, show Str.ofString "" = ⟨#[]⟩ from by decide +kernel]
  have := congrArg tx e
  rwa [tx_sg] at this
theorem c_wb (w : World) (x : Str) (t : Tok) (hx : x.length ≤ 100000) : Ctr w 1 107 [.str x t] (fun _ => True) (fun t' : Tok => .str (wbF x) t') (fun _ _ _ => True) := by
  walk_at "m enterT"
  intro dp un gd fr mean mg mb s L h₁ tk hdp hun X T hpre htk F N
  have htk' : 1 ≤ tk := htk
  walk_at "m steps"
  refine SC.replaceW (by show @Ne Nat _ _; omega) (by show @Ne Nat _ _; omega) (by show @Ne Nat _ _; omega) (by decide +kernel) (by omega) (by decide +kernel) fun t' k => ?_
  rw [rep_blank]
  walk_at "m fin"
  rfl
theorem wbF_len (x : Str) : (wbF x).length ≤ x.length := by
  unfold wbF; rw [len_tx, ← len_sg]; exact List.length_filter_le _ _
theorem reg_C12_0 : True := by
  k_with "call ref" => ((with_reducible show wpAny _ _ (call (Value.ref 107) _) _ _ _); refine' Ctr.use (c_wb _ _ _ ?zqh) ?zqF ?zqN ?zqX ?zqT ?zqd ?zqu ?zqp ?_; (case zqh => (k_extra "m side")); (case zqp => trivial); (k_extra "m ctr"); intro _ _ _ _ _ _ _)
  trivial
def isCom (x : Str) : Bool := if (Txt.slice x none (some 1) == Str.ofString "C") = true then true else if (Txt.slice x none (some 1) == Str.ofString "c") = true then true else if (Txt.slice x none (some 1) == Str.ofString "*") = true then true else (wbF (Txt.slice x none (some 72)) == Str.ofString "")
theorem c_is_comment (w : World) (x : Str) (t u : Tok) (hx : x.length ≤ 100000) : Ctr w 2 114 [.str x t, .int 72 u] (fun _ => True) (fun _ : Tok => .bool (isCom x)) (fun _ _ _ => True) := by
  walk_at "m enter"
  intro dp un gd fr mean mg mb s L h₁ tk hdp hun X T hpre F N
  walk_at "m steps"
  · walk_at "m fin"; unfold isCom; walk_at "m ifs"
  · walk_at "m fin"; unfold isCom; walk_at "m ifs"
  · walk_at "m fin"; unfold isCom; walk_at "m ifs"
  · walk_at "m fin"; unfold isCom; walk_at "m ifs"
def padF (x : Str) : Str := if (x.length : Int) < 66 then x ++ Txt.mul (Str.ofString " ") (66 - x.length) else x
theorem c_padded (w : World) (x : Str) (t u : Tok) (hx : x.length ≤ 100000) : Ctr w 1 142 [.str x t, .int 66 u] (fun _ => True) (fun t' : Tok => .str (padF x) t') (fun _ _ _ => True) := by
  walk_at "m enter"
  intro dp un gd fr mean mg mb s L h₁ tk hdp hun X T hpre F N
  walk_at "m steps"
  · walk_at "m fin"; unfold padF; walk_at "m ifs"
  · walk_at "m fin"; unfold padF; walk_at "m ifs"
structure Rw where
  a : Addr
  n : Nat
  s : Str
  t : Tok
  u : Tok
abbrev Rw.row (p : Rw) : Addr × Obj := (p.a, { cls := .type "tuple", data := .seq #[.int p.n p.u, .str p.s p.t] })
local macro_rules | `(tactic| k_all) => `(tactic| with_reducible assumption)
local macro_rules | `(tactic| k_all) => `(tactic| first | exact List.forall_mem_nil _ | (refine' List.forall_mem_cons.mpr ⟨?a, ?b⟩; (case a => k_ne); (case b => first | with_reducible assumption | k_all)))
theorem news_rot3 {h₀ : Heap} {L : Addr} {h : Heap} {I a b c : Addr × Obj} {rs : List (Addr × Obj)} (N : News h₀ L h (a :: I :: b :: c :: rs)) : News h₀ L h (I :: b :: c :: (rs ++ [a])) :=
  fun p hp => N p (by simpa [or_left_comm, or_comm, or_assoc] using hp)
theorem news_rot2 {h₀ : Heap} {L : Addr} {h : Heap} {a b c : Addr × Obj} {rs : List (Addr × Obj)} (N : News h₀ L h (a :: b :: c :: rs)) : News h₀ L h (b :: c :: (rs ++ [a])) :=
  fun p hp => N p (by simpa [or_left_comm, or_comm, or_assoc] using hp)
def cardNo (R : List Str) : List (Nat × Str) := (R.zipIdx 1).map (fun p => (p.2, p.1))
theorem cardNo_len (R : List Str) : (cardNo R).length = R.length := by unfold cardNo; simp
section
variable {prog : Program} {w : World} {A : Around} {E : Value → Shared → Prop} {s : Shared} {Q : Value → Shared → Prop}
theorem len_newsL {l : Addr} {vs : List Value} {n : Nat} {h₀ : Heap} {L : Addr} {news : List (Addr × Obj)} (N : News h₀ L s.heap news) (hm : (l, listOf vs.toArray n) ∈ news) (hb : vs.length ≤ 1000000) (h : Q (.int vs.length (s.toks + 1)) { s with toks := s.toks + 1 + 1 }) :
    wpAny (model prog w) A (call (.builtin "len") [.ref l]) Q E s := by
  refine len_list (News.isList N hm) ?_ ?_
  · rw [List.size_toArray]; omega
  · rw [List.size_toArray]; exact h
end
theorem reg_C12_1 : True := by
  k_with "call builtin:len" => ((with_reducible show wpAny _ _ (call (Value.builtin "len") [Value.ref _]) _ _ _); (refine' len_newsL ?zqn ?zqm ?zqb ?_; (case zqn => with_reducible assumption); (case zqm => k_mem); (case zqb => k_extra "m nat")))
  trivial
theorem cardNo_take {R : List Str} {i : Nat} {s : Str} (h : R[i]? = some s) : (cardNo R).take (i + 1) = (cardNo R).take i ++ [(i + 1, s)] := by
  have e : (cardNo R)[i]? = some (i + 1, s) := by
    unfold cardNo
    rw [List.getElem?_map, List.getElem?_zipIdx, h]
    simp [Nat.add_comm]
  rw [List.take_add_one, e]; rfl
inductive J11 (R : List Str) (h₁ : Heap) (l0 : List (Str × Tok)) (i : Nat) (m : Str → Option Value) (nx : List (Addr × Obj)) : Prop
  | mk (o : Addr) (n' : Nat) (ps : List Rw) (vs : List Value) (rs : List (Addr × Obj)) (q0 : nx = (o, listOf vs.toArray n') :: (h₁.objs.size, listOf (strValues l0).toArray 1) :: rs) (q1 : vs = ps.map (fun p => Value.ref p.a)) (q2 : rs = ps.map Rw.row) (q3 : (∀ p ∈ rs, p.1 ≠ o)) (q4 : o ≠ h₁.objs.size) (q5 : ps.map (fun p => (p.n, p.s)) = (cardNo R).take i) (q6 : vs.length = i) (q7 : Has m [(Str.ofString "out", .ref o)]) : J11 R h₁ l0 i m nx
theorem c_cards_of (w : World) (x : Str) (t : Tok) (R : List Str) (hR : Txt.split x (Str.ofString "\n") = R ++ [Str.ofString ""]) (hx : x.length ≤ 100000) (hRl : R.length ≤ 1000) : CtrL w 2 100 [.str x t] (fun _ => True)
    (fun i : Addr × List Rw × Nat => i.1) (fun i => (i.1, listOf (i.2.1.map (fun p => Value.ref p.a)).toArray i.2.2) :: i.2.1.map Rw.row) (fun i => i.2.1.map (fun p => (p.n, p.s)) = cardNo R) := by
  walk_at "m enter"
  intro dp un gd fr mean mg mb s L h₁ tk hdp hun X T hpre F N
  walk_at "m steps"
  rename (List.map _ _ = Txt.split _ _) => hl
  rw [hR] at hl
  obtain ⟨l0, l1, rfl, h0, h1⟩ := List.map_eq_append_iff.mp hl
  obtain ⟨⟨e, te⟩, rfl, he⟩ := List.map_eq_singleton_iff.mp h1
  dsimp only at he
  subst he
  have hl0 : l0.length = R.length := by rw [← h0, List.length_map]
  have hsv : strValues (l0 ++ [(Str.ofString "", te)]) = strValues l0 ++ [.str (Str.ofString "") te] := by simp [strValues]
  with_reducible rename News _ _ _ _ => N
  with_reducible rename Fr _ _ _ _ => F
  rw [hsv] at N
  have hsl : (strValues l0).length = l0.length := by simp [strValues]
  refine item_listL (News.isList N (List.mem_cons_self ..)) (by simp only [List.length_append, List.length_singleton]; omega) (by simp only [List.length_append, List.length_singleton]; omega) (x := .str (Str.ofString "") te)
    (by rw [List.length_append, List.length_singleton, show ((l0.length + 1 : Nat) : Int) - 1 = (l0.length : Int) from by omega, Int.toNat_natCast, ← hsl]; simp) ?_ (by with_unfolding_all exact rfl) (by intro _; with_unfolding_all exact rfl)
  walk_at "m steps"
  refine' kl_pop (its := (strValues l0 ++ [Value.str (Str.ofString "") te]).toArray) (n := 0) (p := strValues l0) (y := Value.str (Str.ofString "") te) F N ?e ?U ?z ?_
  case e => exact kpa_last _ _
  case U => k_upd
  case z => rw [sizeLine_eq]; simp only [List.length_append, List.length_singleton]; omega
  clear F N
  intro h' F N
  walk_at "m steps"
  rename Fr _ _ _ _ => F
  rename News _ _ _ _ => N
  rename (_ < _) => hlt
  have hltN := ltN hlt
  have hRl' : (cardNo R).length = R.length := cardNo_len R
  refine for_list (h₀ := s.heap) (L := L) (items := (strValues l0).toArray) rfl (News.isList N (List.mem_cons_of_mem _ (List.mem_cons_self ..))) go_name F N
    (J11 R h₁ l0) ⟨_, _, [], [], [], rfl, rfl, rfl, (fun p hp => nomatch hp), (by k_ne), rfl, rfl, rfl, trivial⟩ (.inr ⟨_, fun i m nx hj => by (obtain ⟨_, _, _, _, _, rfl, _⟩ := hj; exact List.mem_cons_of_mem _ (List.mem_cons_self ..))⟩) ?_ ?_ PassesOwn.never
  · rintro i v m nx h tk I oI hv ⟨o, n', ps, vs, rs, rfl, hvs, hrs, hno, hor, hps, hvl, hm⟩ hn F N
    have hi : i < l0.length := by
      have := (Array.getElem?_eq_some_iff.mp hv).1
      simpa [strValues] using this
    have hv' : v = .str l0[i].1 l0[i].2 := by
      have := (Array.getElem?_eq_some_iff.mp hv).2
      simpa [strValues] using this.symm
    subst hv'
    have hRi : R[i]? = some l0[i].1 := by
      rw [← h0, List.getElem?_map, List.getElem?_eq_getElem hi]; rfl
    have hoI := neN (hn _ (List.mem_cons_self ..))
    have horN := neN hor
    have hnoI : ∀ p ∈ rs, p.1 ≠ I := fun p hp => hn p (List.mem_cons_of_mem _ (List.mem_cons_of_mem _ hp))
    have F := knows F hm
    refine assign_name F N rfl rfl fun h' F N => ?_
    k_fold
    walk_at "m steps"
    with_reducible rename Fr _ _ _ _ => F
    with_reducible rename News _ _ _ _ => N
    rename (_ < _ ∧ _) => hlt3
    simp only [List.push_toArray] at N
    have N2 := news_rot3 N
    have d1 := neN (Nat.ne_of_gt hlt3.1)
    have d2 := neN (Nat.ne_of_gt hlt3.2.1)
    refine ⟨_, _, _, _, rfl, F, N2, ?_, o, _, ps ++ [⟨_, vs.length + 1, _, _, _⟩], _, rs ++ [(_, _)], rfl, by (rw [hvs, List.map_append]; rfl), by (rw [hrs, List.map_append]; rfl), ?_, hor, ?_, by (rw [List.length_append, hvl]; rfl), rfl, trivial⟩
    · intro p hp
      rcases List.mem_cons.mp hp with rfl | hp
      · exact hoI
      · rcases List.mem_cons.mp hp with rfl | hp
        · exact hn _ (List.mem_cons_of_mem _ (List.mem_cons_self ..))
        · rcases List.mem_append.mp hp with hp | hp
          · exact hnoI p hp
          · rw [List.mem_singleton.mp hp]; exact d1
    · intro p hp
      rcases List.mem_append.mp hp with hp | hp
      · exact hno p hp
      · rw [List.mem_singleton.mp hp]; exact d2
    · rw [cardNo_take hRi, List.map_append, hps, hvl]; rfl
  · rintro m nx h tk ⟨o, n', ps, vs, rs, rfl, hvs, hrs, hno, hor, hps, hvl, hm⟩ F N
    have F := knows F hm
    walk_at "m steps"
    with_reducible rename Fr _ _ _ _ => F'
    with_reducible rename News _ _ _ _ => N'
    rw [List.take_of_length_le (by rw [hRl', List.size_toArray, hsl, hl0]; exact Nat.le_refl _)] at hps
    subst hvs hrs
    refine ⟨(o, ps, n'), _, _, rfl, rfl, F'.keep, fun p hp => ?_, hps⟩
    rcases List.mem_cons.mp hp with rfl | hp
    · exact ⟨(N' _ (List.mem_cons_self ..)).2.2, (N' _ (List.mem_cons_self ..)).1⟩
    · have q := N' p (List.mem_cons_of_mem _ (List.mem_cons_of_mem _ hp))
      exact ⟨q.2.2, q.1⟩


theorem regc12 : True := by
  k_with "call ref" => ((with_reducible show wpAny _ _ (call (Value.ref 114) _) _ _ _); refine' Ctr.use (c_is_comment _ _ _ _ ?zqh) ?zqF ?zqN ?zqX ?zqT ?zqd ?zqu ?zqp ?_; (case zqh => (k_extra "m side")); (case zqp => trivial); (k_extra "m ctr"); intro _ _ _ _ _ _ _)
  k_with "call ref" => ((with_reducible show wpAny _ _ (call (Value.ref 142) _) _ _ _); refine' Ctr.use (c_padded _ _ _ _ ?zqh) ?zqF ?zqN ?zqX ?zqT ?zqd ?zqu ?zqp ?_; (case zqh => (k_extra "m side")); (case zqp => trivial); (k_extra "m ctr"); intro _ _ _ _ _ _ _)
  k_with "call ref" => ((with_reducible show wpAny _ _ (call (Value.ref 100) _) _ _ _); refine' CtrL.use (c_cards_of _ _ _ _ ?zqg ?zqh ?zqe) ?zqF ?zqN ?zqX ?zqT ?zqd ?zqu ?zqp ?_; (case zqg => with_reducible assumption); (case zqh => (k_extra "m side")); (case zqe => with_reducible assumption); (case zqp => trivial); (k_extra "m ctr"); intro _ _ _ _ _ _ _)
  trivial

-- text C13
section
structure CV where
  n : Nat
  label : Str
  mark : Str
  body : Str
def cardOf (p : Nat × Str) : CV := ⟨p.1, Txt.slice (Txt.slice p.2 none (some 72)) none (some 5), Txt.item (Txt.slice p.2 none (some 72)) 5, Txt.slice (Txt.slice p.2 none (some 72)) (some 6) none⟩
def cardsGo (l : List (Nat × Str)) : List CV := (l.filter (fun p => !isCom p.2)).map cardOf
structure Cd where
  x : Addr
  dx : Addr
  v : CV
  k : CardT
  u : Tok
  t1 : Tok
  t2 : Tok
  t3 : Tok
abbrev Cd.dict (P : Params) (p : Cd) : Obj := cardD P p.k.a p.k.b p.k.c p.k.d (.int p.v.n p.u) (.str p.v.label p.t1) (.str p.v.mark p.t2) (.str p.v.body p.t3)
def Cd.rows (P : Params) (p : Cd) : List (Addr × Obj) := [(p.x, instObj 89 p.dx), (p.dx, p.dict P)]
theorem cardNo_mem {R : List Str} {i n : Nat} {s : Str} (h : (cardNo R)[i]? = some (n, s)) : s ∈ R := by
  unfold cardNo at h
  rw [List.getElem?_map, List.getElem?_zipIdx] at h
  cases e : R[i]? with
  | none => rw [e] at h; cases h
  | some r =>
    rw [e] at h
    simp at h
    rw [← h.2]
    exact List.mem_of_getElem? e
theorem news_rot4 {h₀ : Heap} {L : Addr} {h : Heap} {I a b c : Addr × Obj} {K rs : List (Addr × Obj)} (N : News h₀ L h (a :: b :: I :: c :: (K ++ rs))) : News h₀ L h (I :: c :: (K ++ (rs ++ [a, b]))) :=
  fun p hp => N p (by simp only [List.mem_cons, List.mem_append, List.not_mem_nil, or_false] at hp ⊢; rcases hp with e | e | e | e | e | e <;> simp [e])
theorem news_last {h₀ : Heap} {L : Addr} {h : Heap} {a : Addr × Obj} {K : List (Addr × Obj)} (N : News h₀ L h (K ++ [a])) : News h₀ L h (a :: (K ++ [])) :=
  fun p hp => N p (by simpa [or_comm] using hp)
inductive J12 (w : World) (K : List (Addr × Obj)) (R : List Str) (lx : Addr) (i : Nat) (m : Str → Option Value) (nx : List (Addr × Obj)) : Prop
  | mk (o : Addr) (n' : Nat) (cs : List Cd) (vs : List Value) (rs : List (Addr × Obj)) (q0 : nx = (o, listOf vs.toArray n') :: (K ++ rs)) (q1 : vs = cs.map (fun p => Value.ref p.x)) (q2 : rs = (cs.map (Cd.rows w.params)).flatten) (q3 : (∀ p ∈ K ++ rs, p.1 ≠ o)) (q4 : cs.map Cd.v = cardsGo ((cardNo R).take i)) (q5 : vs.length ≤ i) (q6 : Has m [(Str.ofString "cards", .ref o), (Str.ofString "limits", .ref lx)]) : J12 w K R lx i m nx
theorem c_read_cards (w : World) (x : Str) (t : Tok) (lx ld : Addr) (lt : LimT) (R : List Str) (hR : Txt.split x (Str.ofString "\n") = R ++ [Str.ofString ""]) (hx : x.length ≤ 100000) (hRl : R.length ≤ 1000)
    (hrow : ∀ r ∈ R, r.length ≤ 100000 ∧ (isCom r = false → 6 ≤ (Txt.slice r none (some 72)).length)) : CtrL w 3 121 [.str x t, .ref lx] (fun h => InstAt h lx (instObj 362 ld) 362 (some (lt.obj w.params)))
    (fun i : Addr × List Cd × Nat => i.1) (fun i => (i.1, listOf (i.2.1.map (fun p => Value.ref p.x)).toArray i.2.2) :: (i.2.1.map (Cd.rows w.params)).flatten) (fun i => i.2.1.map Cd.v = cardsGo (cardNo R)) := by
  walk_at "m enter"
  intro dp un gd fr mean mg mb s L h₁ tk hdp hun X T hpre F N
  walk_at "m steps"
  rename (_ = cardNo R) => hps
  rename (Addr × List Rw × Nat) => i
  obtain ⟨l1, rw, n1⟩ := i
  with_reducible rename Fr _ _ _ _ => F
  with_reducible rename News _ _ _ _ => N
  dsimp only at *
  rename (∀ (p : Addr × Obj), p ∈ _ → ∀ (q : Addr × Obj), q ∈ _ → q.1 ≠ p.1) => hne1
  generalize hK : (l1, listOf (List.map (fun p => Value.ref p.a) rw).toArray n1) :: List.map Rw.row rw = K at N hne1
  have hl1 : (l1, listOf (List.map (fun p => Value.ref p.a) rw).toArray n1) ∈ K := by rw [← hK]; exact List.mem_cons_self ..
  have hrw : rw.length = R.length := by
    have := congrArg List.length hps
    rwa [List.length_map, cardNo_len] at this
  refine for_list (h₀ := s.heap) (L := L) (items := (rw.map (fun p => Value.ref p.a)).toArray) rfl (News.isList N (List.mem_append_left _ hl1)) (go_tuple fun v hv => by (rw [List.mem_toArray] at hv; obtain ⟨p, _, rfl⟩ := List.mem_map.mp hv; exact ⟨_, rfl⟩)) F (news_last N)
    (J12 w K R lx) ⟨_, _, [], [], [], rfl, rfl, rfl, (fun p hp => Ne.symm (hne1 p (by simpa using hp) _ (List.mem_singleton.mpr rfl))), rfl, Nat.le_refl _, rfl, rfl, trivial⟩
    (.inr ⟨_, fun i m nx hj => by (obtain ⟨_, _, _, _, _, rfl, _⟩ := hj; exact List.mem_cons_of_mem _ (List.mem_append_left _ hl1))⟩) ?_ ?_ PassesOwn.never
  · rintro i v m nx h tk I oI hv ⟨o, n', cs, vs, rs, rfl, hvs, hrs, hno, hcs, hvl, hm⟩ hn F N
    have hi : i < rw.length := by
      have := (Array.getElem?_eq_some_iff.mp hv).1
      simpa using this
    have hv' : v = .ref rw[i].a := by
      have := (Array.getElem?_eq_some_iff.mp hv).2
      simpa using this.symm
    subst hv'
    have hmem : rw[i].row ∈ K := by rw [← hK]; exact List.mem_cons_of_mem _ (List.mem_map.mpr ⟨_, List.getElem_mem _, rfl⟩)
    have hTT : IsTup h rw[i].a #[.int rw[i].n rw[i].u, .str rw[i].s rw[i].t] := ⟨_, (N _ (List.mem_cons_of_mem _ (List.mem_cons_of_mem _ (List.mem_append_left _ hmem)))).1, rfl, _, rfl⟩
    have hci : (cardNo R)[i]? = some (rw[i].n, rw[i].s) := by rw [← hps, List.getElem?_map, List.getElem?_eq_getElem hi]; rfl
    have hsR : rw[i].s ∈ R := cardNo_mem hci
    have ha5 := hrow _ hsR
    have hrl := ha5.1
    have hr6 := ha5.2
    have hoI := neN (hn _ (List.mem_cons_self ..))
    have hKI : ∀ p ∈ K ++ rs, p.1 ≠ I := fun p hp => hn p (List.mem_cons_of_mem _ hp)
    have htk : (cardNo R).take (i + 1) = (cardNo R).take i ++ [(rw[i].n, rw[i].s)] := by rw [List.take_add_one, hci]; rfl
    have hi1 : i < 1000 := by omega
    generalize rw[i] = q at *
    have F := knows F hm
    rcases hcom : isCom q.s
    · have h6 := hr6 hcom
      walk_at "m steps"
      with_reducible rename Fr _ _ _ _ => F
      with_reducible rename News _ _ _ _ => N
      rename (∀ (p : Addr × Obj), p ∈ _ → ∀ (q : Addr × Obj), q ∈ _ → q.1 ≠ p.1) => hne2
      (try simp only [List.push_toArray] at N)
      have e1 := hne2 _ (List.mem_cons_self ..) _ (List.mem_cons_self ..)
      have e2 := hne2 _ (List.mem_cons_self ..) _ (List.mem_cons_of_mem _ (List.mem_cons_self ..))
      have e3 := hne2 _ (List.mem_cons_of_mem _ (List.mem_cons_self ..)) _ (List.mem_cons_self ..)
      have e4 := hne2 _ (List.mem_cons_of_mem _ (List.mem_cons_self ..)) _ (List.mem_cons_of_mem _ (List.mem_cons_self ..))
      have N2 := news_rot4 N
      have hv2 : cardsGo ((cardNo R).take i ++ [(q.n, q.s)]) = cardsGo ((cardNo R).take i) ++ [cardOf (q.n, q.s)] := by
        unfold cardsGo; rw [List.filter_append, List.map_append]; simp [hcom]
      refine ⟨_, _, _, _, rfl, F, N2, ?_, o, _, cs ++ [⟨_, _, cardOf (q.n, q.s), _, _, _, _, _⟩], _, rs ++ [_, _], rfl, by (rw [hvs, List.map_append]; rfl), by (rw [hrs, List.map_append, List.flatten_append]; rfl), ?_, by (rw [htk, hv2, List.map_append, hcs]; rfl), by (rw [List.length_append]; exact Nat.succ_le_succ hvl), rfl, rfl, trivial⟩
      · intro p hp
        rcases List.mem_cons.mp hp with rfl | hp
        · exact hoI
        · rw [← List.append_assoc] at hp
          rcases List.mem_append.mp hp with hp | hp
          · exact hKI p hp
          · rcases List.mem_cons.mp hp with rfl | hp
            · exact Ne.symm e1
            · rw [List.mem_singleton.mp hp]; exact Ne.symm e3
      · intro p hp
        rw [← List.append_assoc] at hp
        rcases List.mem_append.mp hp with hp | hp
        · exact hno p hp
        · rcases List.mem_cons.mp hp with rfl | hp
          · exact Ne.symm e2
          · rw [List.mem_singleton.mp hp]; exact Ne.symm e4
    · walk_at "m steps"
      with_reducible rename Fr _ _ _ _ => F
      with_reducible rename News _ _ _ _ => N
      refine ⟨_, _, _, _, rfl, F, N, hn, o, n', cs, vs, rs, rfl, hvs, hrs, hno, ?_, by omega, rfl, rfl, trivial⟩
      rw [htk, hcs]; unfold cardsGo; rw [List.filter_append]; simp [hcom]
  · rintro m nx h tk ⟨o, n', cs, vs, rs, rfl, hvs, hrs, hno, hcs, hvl, hm⟩ F N
    have F := knows F hm
    walk_at "m steps"
    with_reducible rename Fr _ _ _ _ => F'
    with_reducible rename News _ _ _ _ => N'
    rw [List.take_of_length_le (by rw [cardNo_len, List.size_toArray, List.length_map, hrw]; exact Nat.le_refl _)] at hcs
    subst hvs hrs
    refine ⟨(o, cs, n'), _, _, rfl, rfl, F'.keep, fun p hp => ?_, hcs⟩
    rcases List.mem_cons.mp hp with rfl | hp
    · exact ⟨(N' _ (List.mem_cons_self ..)).2.2, (N' _ (List.mem_cons_self ..)).1⟩
    · have q := N' p (List.mem_cons_of_mem _ (List.mem_append_right _ hp))
      exact ⟨q.2.2, q.1⟩

end

theorem regc13 : True := by
  k_with "call ref" => ((with_reducible show wpAny _ _ (call (Value.ref 121) _) _ _ _); refine' CtrL.use (c_read_cards _ _ _ _ _ _ _ ?zqg ?zqh ?zqe ?zqr) ?zqF ?zqN ?zqX ?zqT ?zqd ?zqu ?zqp ?_; (case zqg => with_reducible assumption); (case zqh => (k_extra "m side")); (case zqe => with_reducible assumption); (case zqr => with_reducible assumption); (case zqp => k_extra "m inst"); (k_extra "m ctr"); intro _ _ _ _ _ _ _)
  k_with "m inst" => first | with_reducible assumption | exact inst_base (by with_reducible assumption) (by k_asm) | k_inst
  trivial

-- text C14
section
def Cd.At (P : Params) (h : Heap) (p : Cd) : Prop := InstAt h p.x (instObj 89 p.dx) 89 (some (p.dict P))
def isCont (v : CV) : Bool := if (v.mark != Str.ofString " ") = true then (v.mark != Str.ofString "0") else false
theorem c_is_continuation (w : World) (p : Cd) : Ctr w 1 128 [.ref p.x] (Cd.At w.params · p) (fun _ : Tok => .bool (isCont p.v)) (fun _ _ _ => True) := by
  walk_at "m enter"
  intro dp un gd fr mean mg mb s L h₁ tk hdp hun X T hpre F N
  have hI : InstAt s.heap p.x (instObj 89 p.dx) 89 (some (p.dict w.params)) := hpre
  walk_at "m steps"
  all_goals (walk_at "m fin"; unfold isCont; walk_at "m ifs")
def labF (l : List Nat) : Nat := l.foldl (fun a c => a * 10 + (c - 48)) 0
theorem labF_snoc (l : List Nat) (c : Nat) : ((labF (l ++ [c]) : Nat) : Int) = (labF l : Int) * 10 + ((c - 48 : Nat) : Int) := by
  have : labF (l ++ [c]) = labF l * 10 + (c - 48) := by unfold labF; rw [List.foldl_append]; rfl
  rw [this]; omega
theorem find_digit {c : Nat} (h : isD c = true) : Txt.find (Str.ofString "0123456789") ⟨#[c]⟩ = ((c - 48 : Nat) : Int) := by
  have : ∀ c, c < 58 → 48 ≤ c → Txt.find (Str.ofString "0123456789") ⟨#[c]⟩ = ((c - 48 : Nat) : Int) := by decide +kernel
  unfold isD at h
  rw [decide_eq_true_eq] at h
  exact this c (by omega) h.1
inductive J13 (p : Cd) (X' : Str) (i : Nat) (m : Str → Option Value) (nx : List (Addr × Obj)) : Prop
  | mk (p0 : nx = []) (tl : _) (q0 : Has m [(Str.ofString "card", .ref p.x), (Str.ofString "label", .int (labF ((sg X').take i) : Nat) tl)]) : J13 p X' i m nx
theorem c_read_label (w : World) (p : Cd) (hl : p.v.label.length ≤ 100000) (hd : ∀ c ∈ sg (wbF p.v.label), isD c = true) (h0 : 0 < (wbF p.v.label).length → labF (sg (wbF p.v.label)) ≠ 0) : Ctr w 2 135 [.ref p.x] (Cd.At w.params · p) (fun t : Tok => .int (labF (sg (wbF p.v.label)) : Nat) t) (fun _ _ _ => True) := by
  walk_at "m enter"
  intro dp un gd fr mean mg mb s L h₁ tk hdp hun X T hpre F N
  have hI : InstAt s.heap p.x (instObj 89 p.dx) 89 (some (p.dict w.params)) := hpre
  walk_at "m steps"
  · rename (Str.length _ = 0) => hz
    walk_at "m fin"
    have e : sg (wbF p.v.label) = [] := List.eq_nil_of_length_eq_zero (by rw [len_sg]; exact hz)
    rw [e]; rfl
  · rename (0 < Str.length _) => hz
    have h0' := h0 hz
    have hwl := wbF_len p.v.label
    with_reducible rename Fr _ _ _ _ => F
    with_reducible rename News _ _ _ _ => N
    generalize hX : wbF p.v.label = X' at *
    refine for_str (h₀ := s.heap) (L := L) rfl F N (J13 p X') ⟨rfl, _, rfl, rfl, trivial⟩ ?_ ?_ PassesOwn.never
    · rintro i c u m nx h tk I oI hc ⟨rfl, tl, hm⟩ hn F N
      have F := knows F hm
      have hcd : isD c = true := hd c (List.mem_of_getElem? (sg_get hc))
      refine assign_name F N rfl rfl fun h' F N => ?_
      k_fold
      have hf := find_digit hcd
      walk_at "m steps"
      with_reducible rename Fr _ _ _ _ => F
      with_reducible rename News _ _ _ _ => N
      rw [hf, ← labF_snoc] at F
      exact ⟨_, _, _, _, rfl, F, N, (fun p hp => nomatch hp), rfl, _, by (rw [show sg X' = X'.cps.toList from rfl, take_snoc' hc]; exact ⟨rfl, rfl, trivial⟩)⟩
    · rintro m nx h tk ⟨rfl, tl, hm⟩ F N
      have F := knows F hm
      have e : (sg X').take X'.cps.size = sg X' := by rw [← Array.length_toList, List.take_length]
      rw [e] at F
      walk_at "m steps"
      · exfalso; rename ((_ == (0 : Int)) = true) => hc; simp at hc; omega
      · walk_at "m fin"; rfl
def Rd (p : Cd) : Prop := p.v.label.length ≤ 100000 ∧ (∀ c ∈ sg (wbF p.v.label), isD c = true) ∧ (0 < (wbF p.v.label).length → labF (sg (wbF p.v.label)) ≠ 0)
theorem c_read_label' (w : World) (p : Cd) (h : Rd p) : Ctr w 2 135 [.ref p.x] (Cd.At w.params · p) (fun t : Tok => .int (labF (sg (wbF p.v.label)) : Nat) t) (fun _ _ _ => True) := c_read_label w p h.1 h.2.1 h.2.2
section
variable {prog : Program} {w : World} {A : Around} {E : Value → Shared → Prop} {s : Shared} {Q : Value → Shared → Prop} {h₀ : Heap} {L l : Addr} {m : Str → Option Value} {vs : List Value} {u : Tok}
theorem base_list (hl : h₀.IsList l vs.toArray) (F : Fr h₀ L s.heap m) : s.heap.IsList l vs.toArray := hl.at fun o e => F.keep _ _ e
theorem len_base (hl : h₀.IsList l vs.toArray) (F : Fr h₀ L s.heap m) (hb : vs.length ≤ 1000000) (h : Q (.int vs.length (s.toks + 1)) { s with toks := s.toks + 1 + 1 }) :
    wpAny (model prog w) A (call (.builtin "len") [.ref l]) Q E s := by
  refine len_list (base_list hl F) ?_ ?_
  · rw [List.size_toArray]; omega
  · rw [List.size_toArray]; exact h
theorem item_base {value slice : Expr} {k : Nat} {v : Value} (hl : h₀.IsList l vs.toArray) (F : Fr h₀ L s.heap m) (hb : vs.length ≤ 1000000) (hv : vs[k]? = some v) (h : Q v s)
    (hs : subscripted slice false (.ref l) (.int (k : Int) u) = operate [.ref l, .int (k : Int) u] (getItem (.ref l) (.int (k : Int) u)))
    (hg : ∀ r, letTemporaryGo value (.ref l) r = pure ()) :
    wpAny (model prog w) A (subscriptTail value slice (.ref l) (.int (k : Int) u)) Q E s := by
  have := (List.getElem?_eq_some_iff.mp hv).1
  exact item_listL (base_list hl F) (by omega) (by omega) (x := v) (by rw [Int.toNat_natCast]; exact hv) h hs hg
theorem item_base0 {value slice : Expr} {v : Value} (hl : h₀.IsList l vs.toArray) (F : Fr h₀ L s.heap m) (hv : vs[0]? = some v) (h : Q v s)
    (hs : subscripted slice false (.ref l) (.int 0 u) = operate [.ref l, .int 0 u] (getItem (.ref l) (.int 0 u)))
    (hg : ∀ r, letTemporaryGo value (.ref l) r = pure ()) :
    wpAny (model prog w) A (subscriptTail value slice (.ref l) (.int 0 u)) Q E s :=
  item_listL (base_list hl F) (by decide) (by decide) (x := v) hv h hs hg
end
theorem reg_C14_0 : True := by
  k_with "call builtin:len" => ((with_reducible show wpAny _ _ (call (Value.builtin "len") [Value.ref _]) _ _ _); (refine' len_base ?zqn ?zqm ?zqb ?_; (case zqn => with_reducible assumption); (case zqm => k_asm); (case zqb => k_extra "m nat")))
  k_with "subscriptTail Name Name ref int" => ((refine' item_base ?zqn ?zqm ?zqb ?zqv ?_ ?zqs ?zqg); (case zqn => with_reducible assumption); (case zqm => k_asm); (case zqb => k_extra "m nat"); (case zqv => with_reducible assumption); (case zqs => with_unfolding_all exact rfl); (case zqg => (intro _; with_unfolding_all exact rfl)))
  k_with "subscriptTail Name Constant ref int" => ((refine' item_base0 ?zqn ?zqm ?zqv ?_ ?zqs ?zqg); (case zqn => with_reducible assumption); (case zqm => k_asm); (case zqv => with_reducible assumption); (case zqs => with_unfolding_all exact rfl); (case zqg => (intro _; with_unfolding_all exact rfl)))
  k_with "m inst" => first | with_reducible assumption | exact inst_base (by with_reducible assumption) (by k_asm) | k_inst
  k_with "call ref" => ((with_reducible show wpAny _ _ (call (Value.ref 135) _) _ _ _); refine' Ctr.use (c_read_label' _ _ ?zqh) ?zqF ?zqN ?zqX ?zqT ?zqd ?zqu ?zqp ?_; (case zqh => with_reducible assumption); (case zqp => k_extra "m inst"); (k_extra "m ctr"); intro _ _ _ _ _ _ _)
  trivial
def joinGo : List Str → Str → Str
  | [], acc => acc
  | [b], acc => acc ++ b
  | b :: r, acc => joinGo r (acc ++ padF b)
def joinF (l : List Str) : Str := joinGo l (Str.ofString "")
theorem padF_eq (x : Str) : padF x = tx (sg x ++ List.replicate (66 - x.length) 32) := by
  unfold padF
  have hb : ∀ n : Int, Txt.mul (Str.ofString " ") n = tx (List.replicate n.toNat 32) := fun n => by
    have e := mul_one_list 32 n
    rw [show Str.ofString " " = ⟨#[32]⟩ from by decide +kernel]
    have := congrArg tx e
    rwa [tx_sg] at this
  split
  · rw [hb, show x = tx (sg x) from (tx_sg x).symm, tx_append, sg_tx]
    congr 3
    have := len_sg x
    rw [len_tx]; omega
  · rw [show 66 - x.length = 0 from by omega, List.replicate_zero, List.append_nil, tx_sg]
theorem padF_len {x : Str} (h : x.length ≤ 66) : (padF x).length = 66 := by
  rw [padF_eq, len_tx, List.length_append, List.length_replicate, len_sg]; omega
theorem joinGo_more {b c : Str} {r : List Str} {acc : Str} : joinGo (b :: c :: r) acc = joinGo (c :: r) (acc ++ padF b) := rfl
theorem joinGo_one {b : Str} {acc : Str} : joinGo [b] acc = acc ++ b := rfl
inductive J14 (bs : List Str) (u : Tok) (l : Addr) (p0 : Cd) (i : Nat) (m : Str → Option Value) (nx : List (Addr × Obj)) : Prop
  | mk (pz : nx = []) (acc : _) (ta : _) (q0 : joinGo (bs.drop i) acc = joinF bs) (q1 : acc.length ≤ 66 * i) (q2 : Has m [(Str.ofString "width", .int 66 u), (Str.ofString "rows", .ref l), (Str.ofString "first", .ref p0.x), (Str.ofString "text", .str acc ta)]) : J14 bs u l p0 i m nx
theorem acc_le {a i n : Nat} (h : a ≤ 66 * i) (h2 : i < n + 1) (h3 : n ≤ 1000) : a ≤ 70000 := by omega
theorem app_le {x y z i : Nat} (h : z = x + y) (hx : x ≤ 66 * i) (hy : y ≤ 66) : z ≤ 66 * (i + 1) := by omega
theorem c_joined (w : World) (l : Addr) (n : Nat) (u : Tok) (p0 : Cd) (cs : List Cd) (hc : cs.length ≤ 1000) (hb : ∀ c ∈ p0 :: cs, c.v.body.length ≤ 66) (hr : Rd p0) (h1 : 0 < (wbF (joinF ((p0 :: cs).map (fun c => c.v.body)))).length) (h2 : 0 < cs.length → (wbF (joinF ((p0 :: cs).map (fun c => c.v.body))) == Str.ofString "END") = false) :
    CtrN w 3 149 [.ref l, .int 66 u] (fun h => h.get? l = some (listOf ((p0 :: cs).map (fun p => Value.ref p.x)).toArray n) ∧ ∀ c ∈ p0 :: cs, c.At w.params h)
    (fun i : Tok × Tok × Tok => { cls := .type "tuple", data := .seq #[.int p0.v.n i.1, .int (labF (sg (wbF p0.v.label))) i.2.1, .str (joinF ((p0 :: cs).map (fun c => c.v.body))) i.2.2] }) (fun _ => True) := by
  walk_at "m enter"
  intro dp un gd fr mean mg mb s L h₁ tk hdp hun X T hpre F N
  have hl := hpre.1
  have hcs := hpre.2
  generalize hvs : (p0 :: cs).map (fun p => Value.ref p.x) = vs at hl
  have hL : s.heap.IsList l vs.toArray := ⟨_, hl, rfl, _, rfl⟩
  have hvl : vs.length = cs.length + 1 := by rw [← hvs, List.length_map]; rfl
  have hv0 : vs[0]? = some (.ref p0.x) := by rw [← hvs]; rfl
  have hI0 : InstAt s.heap p0.x (instObj 89 p0.dx) 89 (some (p0.dict w.params)) := hcs p0 (List.mem_cons_self ..)
  walk_at "m steps"
  rename IsRange _ _ _ _ _ _ _ _ => R
  with_reducible rename Fr _ _ _ _ => F
  with_reducible rename News _ _ _ _ => N
  generalize hbs : (p0 :: cs).map (fun c => c.v.body) = bs at *
  have hbl : bs.length = cs.length + 1 := by rw [← hbs, List.length_map]; rfl
  refine for_rangeN 0 vs.length (h₀ := s.heap) (L := L) rfl R (by omega) (by omega) F N (J14 bs u l p0) ⟨rfl, _, _, rfl, by decide +kernel, rfl, rfl, rfl, rfl, trivial⟩ ?_ ?_ PassesOwn.never
  · rintro i v m nx h tk I oI hi ⟨rfl, acc, ta, hj, hal, hm⟩ hn F N
    rw [Nat.sub_zero, hvl] at hi
    have hal2 := acc_le hal hi hc
    have hvl2 : vs.length ≤ 1001 := by rw [hvl]; exact Nat.succ_le_succ hc
    obtain ⟨c, hc'⟩ : ∃ c, (p0 :: cs)[i]? = some c := ⟨_, List.getElem?_eq_getElem (by simpa using hi)⟩
    have hcm : c ∈ p0 :: cs := List.mem_of_getElem? hc'
    have hIc : InstAt s.heap c.x (instObj 89 c.dx) 89 (some (c.dict w.params)) := hcs c hcm
    have hvi : vs[0 + i]? = some (.ref c.x) := by rw [← hvs, List.getElem?_map, Nat.zero_add, hc']; rfl
    have hbi : bs[i]? = some c.v.body := by rw [← hbs, List.getElem?_map, hc']; rfl
    have hcb := hb c hcm
    have hpl := padF_len hcb
    obtain ⟨hib, hbe⟩ := List.getElem?_eq_some_iff.mp hbi
    have hdr : bs.drop i = c.v.body :: bs.drop (i + 1) := by rw [List.drop_eq_getElem_cons hib, hbe]
    rw [hdr] at hj
    have F := knows F hm
    refine assign_name F N rfl rfl fun h' F N => ?_
    k_fold
    walk_at "m steps"
    · with_reducible rename Fr _ _ _ _ => F
      with_reducible rename News _ _ _ _ => N
      cases hd2 : bs.drop (i + 1) with
      | nil =>
        exfalso
        have := congrArg List.length hd2
        rw [List.length_drop] at this
        simp only [List.length_nil] at this
        omega
      | cons c' r =>
        rw [hd2, joinGo_more] at hj
        exact ⟨_, _, _, _, rfl, F, N, (fun p hp => nomatch hp), rfl, _, _, (by rw [hd2]; exact hj), (app_le (by assumption) hal (Nat.le_of_eq hpl)), rfl, rfl, rfl, rfl, trivial⟩
    · with_reducible rename Fr _ _ _ _ => F
      with_reducible rename News _ _ _ _ => N
      have hd2 : bs.drop (i + 1) = [] := List.drop_of_length_le (by omega)
      rw [hd2, joinGo_one] at hj
      exact ⟨_, _, _, _, rfl, F, N, (fun p hp => nomatch hp), rfl, _, _, (by rw [hd2]; exact hj), (app_le (by assumption) hal hcb), rfl, rfl, rfl, rfl, trivial⟩
  · rintro m nx h tk ⟨rfl, acc, ta, hj, hal, hm⟩ F N
    have F := knows F hm
    rw [Nat.sub_zero, List.drop_of_length_le (by omega)] at hj
    have hj' : acc = joinF bs := hj
    subst hj'
    walk_at "m steps"
    all_goals first
      | (exfalso; omega)
      | (exfalso; rename ((_ == _) = true) => hq; have := h2 (by omega); rw [hq] at this; cases this)
      | (with_reducible rename Fr _ _ _ _ => F
         with_reducible rename News _ _ _ _ => N
         have hD := N _ (List.mem_cons_self ..)
         exact ⟨(_, _, _, _), _, _, rfl, rfl, F.keep, hD.2.2, hD.1, trivial⟩)

end

theorem regc14 : True := by
  k_with "call ref" => ((with_reducible show wpAny _ _ (call (Value.ref 128) _) _ _ _); refine' Ctr.use (c_is_continuation _ _) ?zqF ?zqN ?zqX ?zqT ?zqd ?zqu ?zqp ?_; (case zqp => k_extra "m inst"); (k_extra "m ctr"); intro _ _ _ _ _ _ _)
  trivial

-- text C15
section
theorem c_check (w : World) (p p0 : Cd) (l lx ld : Addr) (lt : LimT) (n : Nat) (cs : List Cd) (hc : cs.length + 1 ≤ 19) (hpl : p.v.label.length ≤ 100000) (hp : (wbF p.v.label).length = 0) (hb : p0.v.body.length ≤ 100000) (he : (wbF p0.v.body == Str.ofString "END") = false) :
    Ctr w 3 156 [.ref p.x, .ref l, .ref lx] (fun h => h.get? l = some (listOf ((p0 :: cs).map (fun p => Value.ref p.x)).toArray n) ∧ p0.At w.params h ∧ p.At w.params h ∧ InstAt h lx (instObj 362 ld) 362 (some (lt.obj w.params)))
    (fun _ : Tok => .none) (fun _ _ _ => True) := by
  walk_at "m enter"
  intro dp un gd fr mean mg mb s L h₁ tk hdp hun X T hpre F N
  have hl := hpre.1
  have hI0 := hpre.2.1
  have hIp := hpre.2.2.1
  have hIl := hpre.2.2.2
  have hI0' : InstAt s.heap p0.x (instObj 89 p0.dx) 89 (some (p0.dict w.params)) := hI0
  have hIp' : InstAt s.heap p.x (instObj 89 p.dx) 89 (some (p.dict w.params)) := hIp
  generalize hvs : (p0 :: cs).map (fun p => Value.ref p.x) = vs at hl
  have hL : s.heap.IsList l vs.toArray := ⟨_, hl, rfl, _, rfl⟩
  have hvl : vs.length = cs.length + 1 := by rw [← hvs, List.length_map]; rfl
  have hv0 : vs[0]? = some (.ref p0.x) := by rw [← hvs]; rfl
  have hz : ((vs.length : Int) == 0) = false := by rw [beq_eq_false_iff_ne]; omega
  have hpe : (wbF p.v.label != Str.ofString "") = false := by
    have e : sg (wbF p.v.label) = [] := List.eq_nil_of_length_eq_zero (by rw [len_sg]; exact hp)
    have e2 : wbF p.v.label = tx [] := by rw [← e, tx_sg]
    rw [e2]; decide +kernel
  walk_at "m steps"
  with_reducible rename Fr _ _ _ _ => F'
  exact ⟨(0 : Nat), _, _, rfl, rfl, F'.keep, trivial⟩
theorem news_out {h₀ : Heap} {L : Addr} {h : Heap} {a : Addr × Obj} {nx : List (Addr × Obj)} (N : News h₀ L h (a :: nx)) : News h₀ L h nx := fun p hp => N p (List.mem_cons_of_mem _ hp)
/-- the tuple that joined gives -/
structure Jn where
  a : Addr
  t1 : Tok
  t2 : Tok
  t3 : Tok
def Jn.row (p0 : Cd) (cs : List Cd) (j : Jn) : Addr × Obj := (j.a, { cls := .type "tuple", data := .seq #[.int p0.v.n j.t1, .int (labF (sg (wbF p0.v.label))) j.t2, .str (joinF ((p0 :: cs).map (fun c => c.v.body))) j.t3] })
theorem news_sw {h₀ : Heap} {L : Addr} {h : Heap} {a I b c : Addr × Obj} {rs : List (Addr × Obj)} (N : News h₀ L h (a :: I :: b :: c :: rs)) : News h₀ L h (I :: b :: a :: c :: rs) :=
  fun p hp => N p (by simp only [List.mem_cons] at hp ⊢; rcases hp with e | e | e | e | e <;> simp [e])
theorem news_sw2 {h₀ : Heap} {L : Addr} {h : Heap} {a I b c t : Addr × Obj} {rs : List (Addr × Obj)} (N : News h₀ L h (a :: t :: I :: b :: c :: rs)) : News h₀ L h (I :: b :: a :: c :: t :: rs) :=
  fun p hp => N p (by simp only [List.mem_cons] at hp ⊢; rcases hp with e | e | e | e | e | e <;> simp [e])
theorem allLt_mem {d : Nat} : ∀ {l : List (Addr × Obj)}, AllLt d l → ∀ {p}, p ∈ l → p.1 < d
  | [], _, _, h => nomatch h
  | a :: r, H, p, h => by
    rcases List.mem_cons.mp h with rfl | h
    · exact H.1
    · exact allLt_mem H.2 h
inductive J15 (c0 c1 : Cd) (ks : List Cd) (lx : Addr) (i : Nat) (m : Str → Option Value) (nx : List (Addr × Obj)) : Prop
  | mk (o r : Addr) (n' n'' : Nat) (rv ov : List Value) (rs : List (Addr × Obj)) (u : Tok) (q0 : nx = (o, listOf ov.toArray n') :: (r, listOf rv.toArray n'') :: rs) (q1 : r ≠ o) (q2 : (∀ p ∈ rs, p.1 ≠ o)) (q3 : (∀ p ∈ rs, p.1 ≠ r)) (q4 : ((i = 0 ∧ rv = [] ∧ ov = []) ∨ (∃ j, i = j + 1 ∧ j ≤ ks.length ∧ rv = (c0 :: ks.take j).map (fun p => Value.ref p.x) ∧ ov = []) ∨ (i = ks.length + 2 ∧ rv = [.ref c1.x] ∧ ∃ T0 : Jn, ov = [.ref T0.a] ∧ T0.row c0 ks ∈ rs))) (q5 : Has m [(Str.ofString "limits", .ref lx), (Str.ofString "width", .int 66 u), (Str.ofString "rows", .ref r), (Str.ofString "out", .ref o)]) : J15 c0 c1 ks lx i m nx
theorem c_statements (w : World) (l lx ld : Addr) (lt : LimT) (n : Nat) (c0 c1 : Cd) (ks : List Cd) (hk : ks.length ≤ 19)
    (h0 : isCont c0.v = false) (h1 : isCont c1.v = false) (hks : ∀ c ∈ ks, isCont c.v = true ∧ c.v.label.length ≤ 100000 ∧ (wbF c.v.label).length = 0)
    (hb : ∀ c ∈ c0 :: (ks ++ [c1]), c.v.body.length ≤ 66) (hr0 : Rd c0) (hr1 : Rd c1) (he0 : (wbF c0.v.body == Str.ofString "END") = false)
    (hj0 : 0 < (wbF (joinF ((c0 :: ks).map (fun c => c.v.body)))).length) (hj0' : 0 < ks.length → (wbF (joinF ((c0 :: ks).map (fun c => c.v.body))) == Str.ofString "END") = false)
    (hj1 : 0 < (wbF (joinF ([c1].map (fun c => c.v.body)))).length) :
    CtrL w 4 163 [.ref l, .ref lx] (fun h => h.get? l = some (listOf ((c0 :: (ks ++ [c1])).map (fun p => Value.ref p.x)).toArray n) ∧ (∀ c ∈ c0 :: (ks ++ [c1]), c.At w.params h) ∧ InstAt h lx (instObj 362 ld) 362 (some (lt.obj w.params)))
      (fun i : Addr × Nat × Jn × Jn => i.1) (fun i => [(i.1, listOf #[.ref i.2.2.1.a, .ref i.2.2.2.a] i.2.1), i.2.2.1.row c0 ks, i.2.2.2.row c1 []]) (fun _ => True) := by
  walk_at "m enter"
  intro dp un gd fr mean mg mb s L h₁ tk hdp hun X T hpre F N
  have hl := hpre.1
  have hAt := hpre.2.1
  have hIl := hpre.2.2
  generalize hvs : (c0 :: (ks ++ [c1])).map (fun p => Value.ref p.x) = vs at hl
  have hL : s.heap.IsList l vs.toArray := ⟨_, hl, rfl, _, rfl⟩
  have hvl : vs.length = ks.length + 2 := by rw [← hvs, List.length_map, List.length_cons, List.length_append]; rfl
  walk_at "m steps"
  with_reducible rename Fr _ _ _ _ => F
  with_reducible rename News _ _ _ _ => N
  rename (_ < _) => hlt
  have hltN := ltN hlt
  refine for_list (h₀ := s.heap) (L := L) (items := vs.toArray) rfl (base_list hL F) go_name F (fun p hp => N p (by simpa [or_comm] using hp))
    (J15 c0 c1 ks lx)
    ⟨_, _, _, _, [], [], [], _, rfl, (by k_ne), (fun p hp => nomatch hp), (fun p hp => nomatch hp), .inl ⟨rfl, rfl, rfl⟩, rfl, rfl, rfl, rfl, trivial⟩ (.inl ⟨_, hl⟩) ?_ ?_ PassesOwn.never
  · rintro i v m nx h tk I oI hv ⟨o, r, n', n'', rv, ov, rs, u, rfl, hro, hno, hnr, hst, hm⟩ hn F N
    have hoI := neN (hn _ (List.mem_cons_self ..))
    have hrI := neN (hn _ (List.mem_cons_of_mem _ (List.mem_cons_self ..)))
    have hroN := neN hro
    have hRI : ∀ p ∈ rs, p.1 ≠ I := fun p hp => hn p (List.mem_cons_of_mem _ (List.mem_cons_of_mem _ hp))
    dsimp only at hoI hrI
    have hv' : ((c0 :: (ks ++ [c1])).map (fun p => Value.ref p.x))[i]? = some v := by rw [hvs]; simpa using hv
    rw [List.getElem?_map] at hv'
    obtain ⟨c, hc, rfl⟩ := Option.map_eq_some_iff.mp hv'
    have hcm : c ∈ c0 :: (ks ++ [c1]) := List.mem_of_getElem? hc
    have hIc : InstAt s.heap c.x (instObj 89 c.dx) 89 (some (c.dict w.params)) := hAt c hcm
    have hIc' : c.At w.params s.heap := hIc
    have F := knows F hm
    refine assign_name F N rfl rfl fun h' F N => ?_
    k_fold
    rcases hst with ⟨rfl, rfl, rfl⟩ | ⟨j, rfl, hj, rfl, rfl⟩ | ⟨rfl, rfl, T0, rfl, hT0⟩
    · have hcc : c = c0 := by simpa using hc.symm
      subst hcc
      walk_at "m steps"
      with_reducible rename Fr _ _ _ _ => F
      with_reducible rename News _ _ _ _ => N
      rename (I < _ ∧ _) => hlt3
      have d1 := neN (Nat.ne_of_gt hlt3.1)
      have d2 := neN (Nat.ne_of_gt hlt3.2.1)
      have d3 := neN (Nat.ne_of_gt hlt3.2.2.1)
      have hall := hlt3.2.2.2
      refine ⟨_, _, _, _, rfl, F, news_sw N, ?_, o, _, n', _, [.ref c.x], [], (r, listOf #[] n'') :: rs, u, rfl, d2, ?_, ?_, .inr (.inl ⟨0, rfl, Nat.zero_le _, rfl, rfl⟩), rfl, rfl, rfl, rfl, trivial⟩
      · exact List.forall_mem_cons.mpr ⟨hoI, List.forall_mem_cons.mpr ⟨d1, List.forall_mem_cons.mpr ⟨hrI, hRI⟩⟩⟩
      · exact List.forall_mem_cons.mpr ⟨hro, hno⟩
      · exact List.forall_mem_cons.mpr ⟨Ne.symm d3, fun p hp => Nat.ne_of_lt (allLt_mem hall hp)⟩
    · rcases Nat.lt_or_ge j ks.length with hjl | hjl
      · have hck : c ∈ ks := by
          rw [List.getElem?_cons_succ, List.getElem?_append_left hjl] at hc
          exact List.mem_of_getElem? hc
        have ha9 := hks c hck
        have k1 := ha9.1
        have k2 := ha9.2.1
        have k3 := ha9.2.2
        have hkj : ks.take (j + 1) = ks.take j ++ [c] := by
          rw [List.getElem?_cons_succ, List.getElem?_append_left hjl] at hc
          rw [List.take_add_one, hc]; rfl
        have hrvl : ((c0 :: ks.take j).map (fun p => Value.ref p.x)).length = j + 1 := by rw [List.length_map, List.length_cons, List.length_take, Nat.min_eq_left (by omega)]
        generalize hrv : (c0 :: ks.take j).map (fun p => Value.ref p.x) = rv at *
        have hj100 : j < 100 := by omega
        walk_at "m steps"
        with_reducible rename Fr _ _ _ _ => F
        with_reducible rename News _ _ _ _ => N
        refine Ctr.use (c_check w c c0 r lx ld lt n'' (ks.take j) (by rw [List.length_take]; exact Nat.succ_le_of_lt (Nat.lt_of_le_of_lt (Nat.min_le_left _ _) (Nat.lt_of_lt_of_le (by assumption) hk))) k2 k3 (by have := hb c0 (List.mem_cons_self ..); omega) he0) F N X T (by walk_at "m room") (by walk_at "m room")
          ⟨by rw [hrv]; exact (N _ (List.mem_cons_of_mem _ (List.mem_cons_of_mem _ (List.mem_cons_self ..)))).1, inst_base (hAt c0 (List.mem_cons_self ..)) F, inst_base hIc F, inst_base hIl F⟩ fun i' h' tk' F N hs hR => ?_
        walk_at "m steps"
        with_reducible rename Fr _ _ _ _ => F
        with_reducible rename News _ _ _ _ => N
        simp only [List.push_toArray] at N
        refine ⟨_, _, _, _, rfl, F, N, List.forall_mem_cons.mpr ⟨hoI, List.forall_mem_cons.mpr ⟨hrI, hRI⟩⟩, o, r, n', _, rv ++ [.ref c.x], [], rs, u, rfl, hro, hno, hnr, .inr (.inl ⟨j + 1, rfl, hjl, ?_, rfl⟩), rfl, rfl, rfl, rfl, trivial⟩
        rw [hkj, ← hrv]; simp
      · have hcc : c = c1 := by
          rw [List.getElem?_cons_succ, List.getElem?_append_right hjl, show j - ks.length = 0 from by omega] at hc
          simpa using hc.symm
        subst hcc
        have hkj : ks.take j = ks := List.take_of_length_le hjl
        rw [hkj] at N
        have hrvl : ((c0 :: ks).map (fun p => Value.ref p.x)).length = ks.length + 1 := by rw [List.length_map, List.length_cons]
        generalize hrv : (c0 :: ks).map (fun p => Value.ref p.x) = rv at N hrvl
        walk_at "m steps"
        with_reducible rename Fr _ _ _ _ => F
        with_reducible rename News _ _ _ _ => N
        refine CtrN.use (c_joined w r n'' u c0 ks (by omega) (fun c hc => hb c (by rcases List.mem_cons.mp hc with rfl | hc; exact List.mem_cons_self ..; exact List.mem_cons_of_mem _ (List.mem_append_left _ hc))) hr0 hj0 hj0') F N X T (by walk_at "m room") (by walk_at "m room")
          ⟨by rw [hrv]; exact (N _ (List.mem_cons_of_mem _ (List.mem_cons_of_mem _ (List.mem_cons_self ..)))).1, fun c hc => inst_base (hAt c (by rcases List.mem_cons.mp hc with rfl | hc; exact List.mem_cons_self ..; exact List.mem_cons_of_mem _ (List.mem_append_left _ hc))) F⟩ fun lT i' h' tk' F N hne hR => ?_
        obtain ⟨i1, i2, i3⟩ := i'
        have g1 := neN (hne _ (List.mem_cons_self ..))
        have g2 := neN (hne _ (List.mem_cons_of_mem _ (List.mem_cons_self ..)))
        have g3 := neN (hne _ (List.mem_cons_of_mem _ (List.mem_cons_of_mem _ (List.mem_cons_self ..))))
        have g4 : ∀ p ∈ rs, p.1 ≠ lT := fun p hp => hne p (List.mem_cons_of_mem _ (List.mem_cons_of_mem _ (List.mem_cons_of_mem _ hp)))
        dsimp only at g1 g2 g3 N
        walk_at "m steps"
        with_reducible rename Fr _ _ _ _ => F
        with_reducible rename News _ _ _ _ => N
        rename (lT < _ ∧ _) => hlt3
        have e0 := neN (Nat.ne_of_gt hlt3.1)
        have e1 := neN (Nat.ne_of_gt hlt3.2.1)
        have e2 := neN (Nat.ne_of_gt hlt3.2.2.1)
        have e3 := neN (Nat.ne_of_gt hlt3.2.2.2.1)
        have hall := hlt3.2.2.2.2
        refine ⟨_, _, _, _, rfl, F, news_sw2 N, ?_, o, _, _, _, [.ref c.x], [.ref lT], (r, listOf rv.toArray n'') :: (lT, _) :: rs, u, rfl, e2, ?_, ?_, .inr (.inr ⟨by omega, rfl, ⟨lT, i1, i2, i3⟩, rfl, List.mem_cons_of_mem _ (List.mem_cons_self ..)⟩), rfl, rfl, rfl, rfl, trivial⟩
        · exact List.forall_mem_cons.mpr ⟨hoI, List.forall_mem_cons.mpr ⟨e1, List.forall_mem_cons.mpr ⟨hrI, List.forall_mem_cons.mpr ⟨Ne.symm g1, hRI⟩⟩⟩⟩
        · exact List.forall_mem_cons.mpr ⟨hro, List.forall_mem_cons.mpr ⟨Ne.symm g2, hno⟩⟩
        · exact List.forall_mem_cons.mpr ⟨Ne.symm e3, List.forall_mem_cons.mpr ⟨Ne.symm e0, fun p hp => Nat.ne_of_lt (allLt_mem hall hp)⟩⟩
    · exfalso
      rw [List.getElem?_eq_none (by simp)] at hc
      cases hc
  · rintro m nx h tk ⟨o, r, n', n'', rv, ov, rs, u, rfl, hro, hno, hnr, hst, hm⟩ F N
    have F := knows F hm
    rw [List.size_toArray, hvl] at hst
    have hroN := neN hro
    obtain ⟨rfl, T0, rfl, hT0⟩ : rv = [.ref c1.x] ∧ ∃ T0 : Jn, ov = [.ref T0.a] ∧ T0.row c0 ks ∈ rs := by
      rcases hst with ⟨h, _⟩ | ⟨j, h, h2, _⟩ | ⟨_, h⟩
      · omega
      · omega
      · exact h
    walk_at "m steps"
    with_reducible rename Fr _ _ _ _ => F
    with_reducible rename News _ _ _ _ => N
    refine CtrN.use (c_joined w r n'' u c1 [] (by decide) (fun c hc => hb c (by rw [List.mem_singleton.mp hc]; simp)) hr1 hj1 (fun h => absurd h (by decide))) F N X T (by walk_at "m room") (by walk_at "m room")
      ⟨(N _ (List.mem_cons_of_mem _ (List.mem_cons_self ..))).1, fun c hc => inst_base (hAt c (by rw [List.mem_singleton.mp hc]; simp)) F⟩ fun lT i' h' tk' F N hne hR => ?_
    obtain ⟨i1, i2, i3⟩ := i'
    have g1 := neN (hne _ (List.mem_cons_self ..))
    have g2 := neN (hne _ (List.mem_cons_of_mem _ (List.mem_cons_self ..)))
    dsimp only at g1 g2 N
    walk_at "m steps"
    with_reducible rename Fr _ _ _ _ => F
    with_reducible rename News _ _ _ _ => N
    refine ⟨(o, n' + 1, T0, ⟨lT, i1, i2, i3⟩), _, _, rfl, rfl, F.keep, fun p hp => ?_, trivial⟩
    rcases List.mem_cons.mp hp with rfl | hp
    · have q := N _ (List.mem_cons_of_mem _ (List.mem_cons_self ..)); exact ⟨q.2.2, q.1⟩
    · rcases List.mem_cons.mp hp with rfl | hp
      · have q := N _ (List.mem_cons_of_mem _ (List.mem_cons_of_mem _ (List.mem_cons_of_mem _ hT0))); exact ⟨q.2.2, q.1⟩
      · rw [List.mem_singleton.mp hp]
        have q := N _ (List.mem_cons_self ..); exact ⟨q.2.2, q.1⟩

end

-- text C16
section
/-- what the rows of a text must be for statements_of to end well -/
structure Good (v0 v1 : CV) (kv : List CV) : Prop where
  len : kv.length ≤ 19
  n0 : isCont v0 = false
  n1 : isCont v1 = false
  ks : ∀ v ∈ kv, isCont v = true ∧ v.label.length ≤ 100000 ∧ (wbF v.label).length = 0
  body : ∀ v ∈ v0 :: (kv ++ [v1]), v.body.length ≤ 66
  r0 : v0.label.length ≤ 100000 ∧ (∀ c ∈ sg (wbF v0.label), isD c = true) ∧ (0 < (wbF v0.label).length → labF (sg (wbF v0.label)) ≠ 0)
  r1 : v1.label.length ≤ 100000 ∧ (∀ c ∈ sg (wbF v1.label), isD c = true) ∧ (0 < (wbF v1.label).length → labF (sg (wbF v1.label)) ≠ 0)
  e0 : (wbF v0.body == Str.ofString "END") = false
  j0 : 0 < (wbF (joinF ((v0 :: kv).map CV.body))).length
  j0' : 0 < kv.length → (wbF (joinF ((v0 :: kv).map CV.body)) == Str.ofString "END") = false
  j1 : 0 < (wbF (joinF [v1.body])).length
def Jn.tup (v0 : CV) (kv : List CV) (j : Jn) : Addr × Obj := (j.a, { cls := .type "tuple", data := .seq #[.int v0.n j.t1, .int (labF (sg (wbF v0.label))) j.t2, .str (joinF ((v0 :: kv).map CV.body)) j.t3] })
theorem map_split {cs : List Cd} {v0 v1 : CV} {kv : List CV} (h : cs.map Cd.v = v0 :: (kv ++ [v1])) : ∃ c0 ks c1, cs = c0 :: (ks ++ [c1]) ∧ c0.v = v0 ∧ ks.map Cd.v = kv ∧ c1.v = v1 := by
  cases cs with
  | nil => cases h
  | cons c0 r =>
    rw [List.map_cons, List.cons.injEq] at h
    obtain ⟨h0, h1⟩ := h
    obtain ⟨ks, l1, rfl, h2, h3⟩ := List.map_eq_append_iff.mp h1
    obtain ⟨c1, rfl, h4⟩ := List.map_eq_singleton_iff.mp h3
    exact ⟨c0, ks, c1, rfl, h0, h2, h4⟩
theorem bodies {ks : List Cd} : ks.map (fun c => c.v.body) = (ks.map Cd.v).map CV.body := by rw [List.map_map]; rfl
theorem c_statementsV (w : World) (l lx ld : Addr) (lt : LimT) (n : Nat) (cs : List Cd) (v0 v1 : CV) (kv : List CV) (hcs : cs.map Cd.v = v0 :: (kv ++ [v1])) (G : Good v0 v1 kv) :
    CtrL w 4 163 [.ref l, .ref lx] (fun h => h.get? l = some (listOf (cs.map (fun p => Value.ref p.x)).toArray n) ∧ (∀ c ∈ cs, c.At w.params h) ∧ InstAt h lx (instObj 362 ld) 362 (some (lt.obj w.params)))
      (fun i : Addr × Nat × Jn × Jn => i.1) (fun i => [(i.1, listOf #[.ref i.2.2.1.a, .ref i.2.2.2.a] i.2.1), i.2.2.1.tup v0 kv, i.2.2.2.tup v1 []]) (fun _ => True) := by
  obtain ⟨c0, ks, c1, rfl, rfl, rfl, rfl⟩ := map_split hcs
  obtain ⟨a1, a2, a3, a4, a5, a6, a7, a8, a9, a10, a11⟩ := G
  have C := c_statements w l lx ld lt n c0 c1 ks (by rw [List.length_map] at a1; exact a1) a2 a3 (fun c hc => a4 c.v (List.mem_map.mpr ⟨c, hc, rfl⟩))
    (fun c hc => a5 c.v (by
      rcases List.mem_cons.mp hc with rfl | hc
      · exact List.mem_cons_self ..
      · rcases List.mem_append.mp hc with hc | hc
        · exact List.mem_cons_of_mem _ (List.mem_append_left _ (List.mem_map.mpr ⟨c, hc, rfl⟩))
        · rw [List.mem_singleton.mp hc]; exact List.mem_cons_of_mem _ (List.mem_append_right _ (List.mem_singleton.mpr rfl)))) a6 a7 a8 (by rw [bodies]; exact a9) (fun h => by rw [bodies]; exact a10 (by rw [List.length_map]; exact h)) (by rw [bodies]; exact a11)
  unfold Jn.row at C
  simp only [bodies] at C
  exact C
theorem cd_at {P : Params} {h₀ h : Heap} {L : Addr} {a : Addr × Obj} {r : List (Addr × Obj)} {cs : List Cd} {c : Cd} (N : News h₀ L h ((a :: (cs.map (Cd.rows P)).flatten) ++ r)) (hc : c ∈ cs) : c.At P h := by
  have hm : ∀ p ∈ c.rows P, h.get? p.1 = some p.2 := fun p hp => (N p (List.mem_append_left _ (List.mem_cons_of_mem _ (List.mem_flatten.mpr ⟨_, List.mem_map.mpr ⟨c, hc, rfl⟩, hp⟩)))).1
  exact ⟨hm _ (List.mem_cons_self ..), rfl, rfl, hm _ (List.mem_cons_of_mem _ (List.mem_cons_self ..))⟩
theorem c_read_statements (w : World) (x : Str) (t : Tok) (lx ld : Addr) (lt : LimT) (R : List Str) (v0 v1 : CV) (kv : List CV) (hR : Txt.split x (Str.ofString "\n") = R ++ [Str.ofString ""]) (hx : x.length ≤ 100000) (hRl : R.length ≤ 1000)
    (hrow : ∀ r ∈ R, r.length ≤ 100000 ∧ (isCom r = false → 6 ≤ (Txt.slice r none (some 72)).length)) (hcards : cardsGo (cardNo R) = v0 :: (kv ++ [v1])) (G : Good v0 v1 kv) :
    CtrL w 5 170 [.str x t, .ref lx] (fun h => InstAt h lx (instObj 362 ld) 362 (some (lt.obj w.params)))
      (fun i : Addr × Nat × Jn × Jn => i.1) (fun i => [(i.1, listOf #[.ref i.2.2.1.a, .ref i.2.2.2.a] i.2.1), i.2.2.1.tup v0 kv, i.2.2.2.tup v1 []]) (fun _ => True) := by
  walk_at "m enter"
  intro dp un gd fr mean mg mb s L h₁ tk hdp hun X T hpre F N
  have hI : InstAt s.heap lx (instObj 362 ld) 362 (some (lt.obj w.params)) := hpre
  walk_at "m steps"
  with_reducible rename Fr _ _ _ _ => F
  with_reducible rename News _ _ _ _ => N
  rename (Addr × List Cd × Nat) => i
  rename (_ = cardsGo _) => hcv
  obtain ⟨l, cs, n⟩ := i
  dsimp only at N hcv
  rw [hcards] at hcv
  have hat : ∀ c ∈ cs, c.At w.params _ := fun c hc => cd_at N hc
  refine CtrL.use (c_statementsV w l lx ld lt n cs v0 v1 kv hcv G) F N X T (by walk_at "m room") (by walk_at "m room") ⟨(N _ (List.mem_append_left _ (List.mem_cons_self ..))).1, hat, inst_base hI F⟩ fun i h' tk' F N hne hR => ?_
  repeat (walk_at "m open")
  exact ⟨i, _, _, rfl, rfl, F.keep, fun p hp => ⟨(N p (List.mem_append_left _ hp)).2.2, (N p (List.mem_append_left _ hp)).1⟩, trivial⟩

theorem c_heard (w : World) (x : Str) (t : Tok) (R : List Str) (v0 v1 : CV) (kv : List CV) (hR : Txt.split x (Str.ofString "\n") = R ++ [Str.ofString ""]) (hx : x.length ≤ 100000) (hRl : R.length ≤ 1000)
    (hrow : ∀ r ∈ R, r.length ≤ 100000 ∧ (isCom r = false → 6 ≤ (Txt.slice r none (some 72)).length)) (hcards : cardsGo (cardNo R) = v0 :: (kv ++ [v1])) (G : Good v0 v1 kv) :
    CtrL w 6 387 [.str x t] (fun _ => True)
      (fun i : Addr × Nat × Jn × Jn => i.1) (fun i => [(i.1, listOf #[.ref i.2.2.1.a, .ref i.2.2.2.a] i.2.1), i.2.2.1.tup v0 kv, i.2.2.2.tup v1 []]) (fun _ => True) := by
  walk_at "m enter"
  intro dp un gd fr mean mg mb s L h₁ tk hdp hun X T hpre F N
  walk_at "m steps"
  with_reducible rename Fr _ _ _ _ => F
  with_reducible rename News _ _ _ _ => N
  have hI := InstAt.of_news N (List.mem_cons_self ..) (List.mem_cons_of_mem _ (List.mem_cons_self ..))
  refine CtrL.use (c_read_statements w x t _ _ _ R v0 v1 kv hR hx hRl hrow hcards G) F N X T (by walk_at "m room") (by walk_at "m room") hI fun i h' tk' F N hne hR => ?_
  repeat (walk_at "m open")
  exact ⟨i, _, _, rfl, rfl, F.keep, fun p hp => ⟨(N p (List.mem_append_left _ hp)).2.2, (N p (List.mem_append_left _ hp)).1⟩, trivial⟩

end

-- text C17
section
theorem reg_C17_0 : True := by
  k_with "m cls" => first | with_reducible assumption | (unfold clsOk; decide +kernel)
  k_with "m sq" => first | with_reducible assumption | decide +kernel
  trivial
theorem ite_no {P Q : Prop} {b : Bool} (e : b = false) (h : Q) : if b = true then P else Q := by subst e; exact h
theorem ite_yes {P Q : Prop} {b : Bool} (e : b = true) (h : P) : if b = true then P else Q := by subst e; exact h
theorem reg_C17_1 : True := by
  k_with "ite" => first | with_reducible refine ite_no (by decide +kernel) ?_ | with_reducible refine ite_yes (by decide +kernel) ?_
  trivial
abbrev fgS (k : Int) : Str := Txt.item (Str.ofString "0123456789") k
theorem fig_facts {k : Nat} (h : (k : Int) < 10) : (clsOk (Str.ofString "IF(X)" ++ fgS k ++ Str.ofString ",1,2") ∧ (classifyF (Str.ofString "IF(X)" ++ fgS k ++ Str.ofString ",1,2") != Str.ofString "aif") = false ∧ (Str.ofString "IF(X)" ++ fgS k ++ Str.ofString ",1,2").length ≤ 100000) ∧ (clsOk (fgS k ++ Str.ofString "X=1") ∧ (classifyF (fgS k ++ Str.ofString "X=1") != Str.ofString "") = false ∧ (fgS k ++ Str.ofString "X=1").length ≤ 100000) ∧ (clsOk (Str.ofString "IF(X)X" ++ fgS k ++ Str.ofString "=2") ∧ (classifyF (Str.ofString "IF(X)X" ++ fgS k ++ Str.ofString "=2") != Str.ofString "lif") = false ∧ (Str.ofString "IF(X)X" ++ fgS k ++ Str.ofString "=2").length ≤ 100000) := by
  unfold clsOk
  have hk : k < 10 := by omega
  have h0 : ∀ k : Nat, k < 10 → ((isBal (Str.ofString "IF(X)" ++ fgS k ++ Str.ofString ",1,2") = true → (eqAt (Str.ofString "IF(X)" ++ fgS k ++ Str.ofString ",1,2")).1 < 0 → wbOk (Str.ofString "IF(X)" ++ fgS k ++ Str.ofString ",1,2") = true) ∧ (classifyF (Str.ofString "IF(X)" ++ fgS k ++ Str.ofString ",1,2") != Str.ofString "aif") = false ∧ (Str.ofString "IF(X)" ++ fgS k ++ Str.ofString ",1,2").length ≤ 100000) := by decide +kernel
  have h1 : ∀ k : Nat, k < 10 → ((isBal (fgS k ++ Str.ofString "X=1") = true → (eqAt (fgS k ++ Str.ofString "X=1")).1 < 0 → wbOk (fgS k ++ Str.ofString "X=1") = true) ∧ (classifyF (fgS k ++ Str.ofString "X=1") != Str.ofString "") = false ∧ (fgS k ++ Str.ofString "X=1").length ≤ 100000) := by decide +kernel
  have h2 : ∀ k : Nat, k < 10 → ((isBal (Str.ofString "IF(X)X" ++ fgS k ++ Str.ofString "=2") = true → (eqAt (Str.ofString "IF(X)X" ++ fgS k ++ Str.ofString "=2")).1 < 0 → wbOk (Str.ofString "IF(X)X" ++ fgS k ++ Str.ofString "=2") = true) ∧ (classifyF (Str.ofString "IF(X)X" ++ fgS k ++ Str.ofString "=2") != Str.ofString "lif") = false ∧ (Str.ofString "IF(X)X" ++ fgS k ++ Str.ofString "=2").length ≤ 100000) := by decide +kernel
  exact ⟨h0 k hk, h1 k hk, h2 k hk⟩
abbrev bsS (k : Int) : Str := Txt.item (Str.ofString "\x40[`{_$#&/:") k
theorem side_facts {k : Nat} (h : (k : Int) < 10) : (sqGo false (sg (bsS k ++ Str.ofString " =1")) = true ∧ (tx (sqF (sg (bsS k ++ Str.ofString " =1"))) != (bsS k ++ Str.ofString "=1")) = false ∧ (bsS k ++ Str.ofString " =1").length ≤ 100000) ∧ (clsOk (bsS k ++ Str.ofString "=1") ∧ (classifyF (bsS k ++ Str.ofString "=1") != Str.ofString "") = false ∧ (bsS k ++ Str.ofString "=1").length ≤ 100000) ∧ (clsOk (Str.ofString "X" ++ bsS k ++ Str.ofString "=1") ∧ (classifyF (Str.ofString "X" ++ bsS k ++ Str.ofString "=1") != Str.ofString "") = false ∧ (Str.ofString "X" ++ bsS k ++ Str.ofString "=1").length ≤ 100000) ∧ (clsOk (Str.ofString "GOTO" ++ bsS k) ∧ (classifyF (Str.ofString "GOTO" ++ bsS k) != Str.ofString "") = false ∧ (Str.ofString "GOTO" ++ bsS k).length ≤ 100000) ∧ (clsOk (Str.ofString "DO" ++ bsS k ++ Str.ofString "I=1,2") ∧ (classifyF (Str.ofString "DO" ++ bsS k ++ Str.ofString "I=1,2") != Str.ofString "") = false ∧ (Str.ofString "DO" ++ bsS k ++ Str.ofString "I=1,2").length ≤ 100000) := by
  unfold clsOk
  have hk : k < 10 := by omega
  have h0 : ∀ k : Nat, k < 10 → (sqGo false (sg (bsS k ++ Str.ofString " =1")) = true ∧ (tx (sqF (sg (bsS k ++ Str.ofString " =1"))) != (bsS k ++ Str.ofString "=1")) = false ∧ (bsS k ++ Str.ofString " =1").length ≤ 100000) := by decide +kernel
  have h1 : ∀ k : Nat, k < 10 → ((isBal (bsS k ++ Str.ofString "=1") = true → (eqAt (bsS k ++ Str.ofString "=1")).1 < 0 → wbOk (bsS k ++ Str.ofString "=1") = true) ∧ (classifyF (bsS k ++ Str.ofString "=1") != Str.ofString "") = false ∧ (bsS k ++ Str.ofString "=1").length ≤ 100000) := by decide +kernel
  have h2 : ∀ k : Nat, k < 10 → ((isBal (Str.ofString "X" ++ bsS k ++ Str.ofString "=1") = true → (eqAt (Str.ofString "X" ++ bsS k ++ Str.ofString "=1")).1 < 0 → wbOk (Str.ofString "X" ++ bsS k ++ Str.ofString "=1") = true) ∧ (classifyF (Str.ofString "X" ++ bsS k ++ Str.ofString "=1") != Str.ofString "") = false ∧ (Str.ofString "X" ++ bsS k ++ Str.ofString "=1").length ≤ 100000) := by decide +kernel
  have h3 : ∀ k : Nat, k < 10 → ((isBal (Str.ofString "GOTO" ++ bsS k) = true → (eqAt (Str.ofString "GOTO" ++ bsS k)).1 < 0 → wbOk (Str.ofString "GOTO" ++ bsS k) = true) ∧ (classifyF (Str.ofString "GOTO" ++ bsS k) != Str.ofString "") = false ∧ (Str.ofString "GOTO" ++ bsS k).length ≤ 100000) := by decide +kernel
  have h4 : ∀ k : Nat, k < 10 → ((isBal (Str.ofString "DO" ++ bsS k ++ Str.ofString "I=1,2") = true → (eqAt (Str.ofString "DO" ++ bsS k ++ Str.ofString "I=1,2")).1 < 0 → wbOk (Str.ofString "DO" ++ bsS k ++ Str.ofString "I=1,2") = true) ∧ (classifyF (Str.ofString "DO" ++ bsS k ++ Str.ofString "I=1,2") != Str.ofString "") = false ∧ (Str.ofString "DO" ++ bsS k ++ Str.ofString "I=1,2").length ≤ 100000) := by decide +kernel
  exact ⟨h0 k hk, h1 k hk, h2 k hk, h3 k hk, h4 k hk⟩
inductive J16 (w : World) (pd pl : Addr) (B : Nat) (i : Nat) (m : Str → Option Value) (nx : List (Addr × Obj)) : Prop
  | mk (od : _) (ol : _) (q0 : nx = [(pd, od), (pl, ol)]) (q1 : Pu w pl (B + 1 + i) od ol) (q2 : Has m [(Str.ofString "purse", .ref pd)]) : J16 w pd pl B i m nx
structure SealQ {α : Type} (Q K : α → Shared → Prop) : Prop where
  go : ∀ v s, Q v s → K v s
theorem seal_q {w : World} {A : Around} {α : Type} {x : Sem α} {Q : α → Shared → Prop} {E : Value → Shared → Prop} {s : Shared} (h : ∀ K : α → Shared → Prop, SealQ Q K → wpAny (model PG w) A x K E s) : wpAny (model PG w) A x Q E s := h _ ⟨fun _ _ z => z⟩
theorem SealQ.use {α : Type} {Q K : α → Shared → Prop} {v : α} {s : Shared} (h : SealQ Q K) (x : Q v s) : K v s := h.go _ _ x
theorem reg_C17_2 : True := by
  k_with "isTrue Compare" => (refine seal_q ?_; intro _ _; with_reducible refine wpAny_isTrue_Compare1 ?_)
  k_with "m open" => with_reducible (refine SealQ.use (by assumption) ?_)
  trivial
theorem c_signs (w : World) (pd pl : Addr) (B : Nat) (hB : B ≤ 90000) : CtrP w 7 401 pd pl [.ref pd] B (B + 4) (fun _ : Tok => .bool true) (fun _ _ _ => True) := by
  walk_at "m enterP"
  intro dp un gd fr mean mg mb s L h₁ tk g od ol hdp hun X T hg hne hP hlt F N
  have hneN := neN hne
  have hneN' := neN (Ne.symm hne)
  walk_at "m steps"
  rename (_ < (10 : Int)) => h10
  have ha10 := fig_facts h10
  have f1 := ha10.1.1
  have f2 := ha10.1.2.1
  have g1 := ha10.1.2.2
  have f3 := ha10.2.1.1
  have f4 := ha10.2.1.2.1
  have g2 := ha10.2.1.2.2
  have f5 := ha10.2.2.1
  have f6 := ha10.2.2.2.1
  have g3 := ha10.2.2.2.2
  walk_at "m steps"
  rename IsRange _ _ _ _ _ _ _ _ => R
  with_reducible rename Fr _ _ _ _ => F
  with_reducible rename News _ _ _ _ => N
  with_reducible rename Pu _ _ _ _ _ => P
  refine for_rangeN 0 3 (h₀ := g) (L := L) rfl R (by omega) (by omega) F N (J16 w pd pl B) ⟨_, _, rfl, P, rfl, trivial⟩ ?_ ?_ PassesOwn.never
  · rintro i v m nx h tk I oI hi ⟨od, ol, rfl, P, hm⟩ hn F N
    have hn1 := neN (hn _ (List.mem_cons_self ..))
    have hn2 := neN (hn _ (List.mem_cons_of_mem _ (List.mem_cons_self ..)))
    dsimp only at hn1 hn2
    have F := knows F hm
    refine assign_name F N rfl rfl fun h' F N => ?_
    k_fold
    walk_at "m steps"
    rename (_ < (10 : Int)) => h10'
    have ha11 := side_facts h10'
    have e1 := ha11.1.1
    have e2 := ha11.1.2.1
    have e3 := ha11.1.2.2
    have e4 := ha11.2.1.1
    have e5 := ha11.2.1.2.1
    have e6 := ha11.2.1.2.2
    have e7 := ha11.2.2.1.1
    have e8 := ha11.2.2.1.2.1
    have e9 := ha11.2.2.1.2.2
    have e10 := ha11.2.2.2.1.1
    have e11 := ha11.2.2.2.1.2.1
    have e12 := ha11.2.2.2.1.2.2
    have e13 := ha11.2.2.2.2.1
    have e14 := ha11.2.2.2.2.2.1
    have e15 := ha11.2.2.2.2.2.2
    walk_at "m steps"
    with_reducible rename Fr _ _ _ _ => F
    with_reducible rename News _ _ _ _ => N
    with_reducible rename Pu _ _ _ _ _ => P
    exact ⟨_, _, _, _, rfl, F, N, List.forall_mem_cons.mpr ⟨hn1, List.forall_mem_cons.mpr ⟨hn2, List.forall_mem_nil _⟩⟩, _, _, rfl, P.mono (by omega), rfl, trivial⟩
  · rintro m nx h tk ⟨od, ol, rfl, P, hm⟩ F N
    have F := knows F hm
    walk_at "m steps"
    with_reducible rename Fr _ _ _ _ => F
    with_reducible rename News _ _ _ _ => N
    subst hg
    exact retP (0 : Nat) F N (by k_mem) (by k_mem) (P.mono (by omega)) rfl trivial

end

theorem regc15 : True := by
  k_with_none
  k_with "m cases" => ((case zqho => k_is); (case zqhcd => k_is); (case zqhb => exact rfl); (case zqhlk => simp only [List.map_cons, List.map_nil, List.zip_cons_cons, List.zip_nil_left, List.zip_nil_right, List.reverse_cons, List.reverse_nil, List.nil_append, List.cons_append]; exact rfl); (case zqhl => exact locs rfl); (case zqc1 => exact rfl); (case zqc2 => exact rfl); (case zqc3 => exact rfl); (case zqc4 => decide))
  k_with "m room" => first | with_reducible assumption | exact lt_room (by with_reducible assumption) (by decide) | omega
  k_with "m nat" => first | with_reducible assumption | exact Nat.le_refl _ | exact Nat.le_succ _ | exact Nat.le_trans (by with_reducible assumption) (by decide) | exact Nat.le_trans (Nat.add_le_add_right (by with_reducible assumption) _) (by decide) | decide | omega
  k_with "m lt" => first | assumption | exact And.left (by assumption) | exact And.left (And.right (by assumption)) | exact And.left (And.right (And.right (by assumption))) | exact And.left (And.right (And.right (And.right (by assumption)))) | exact And.left (And.right (And.right (And.right (And.right (by assumption))))) | exact And.left (And.right (And.right (And.right (And.right (And.right (by assumption)))))) | exact And.left (And.right (And.right (And.right (And.right (And.right (And.right (by assumption))))))) | exact And.left (And.right (And.right (And.right (And.right (And.right (And.right (And.right (by assumption)))))))) | exact And.right (by assumption) | exact And.right (And.right (by assumption)) | exact And.right (And.right (And.right (by assumption))) | exact And.right (And.right (And.right (And.right (by assumption)))) | exact And.right (And.right (And.right (And.right (And.right (by assumption))))) | exact And.right (And.right (And.right (And.right (And.right (And.right (by assumption)))))) | exact And.right (And.right (And.right (And.right (And.right (And.right (And.right (by assumption)))))))
  k_with "m enter" => (refine' Ctr.enter ?zqho ?zqhcd ?zqhb ?zqhlk ?zqhl ?zqc1 ?zqc2 ?zqc3 ?zqc4 ?_; (k_extra "m cases"))
  k_with "m enterP" => (refine' CtrP.enter ?zqho ?zqhcd ?zqhb ?zqhlk ?zqhl ?zqc1 ?zqc2 ?zqc3 ?zqc4 ?_; (k_extra "m cases"))
  k_with "m enterT" => (refine' Ctr.enterT ?zqho ?zqhcd ?zqhb ?zqhlk ?zqhl ?zqc1 ?zqc2 ?zqc3 ?zqc4 ?_; (k_extra "m cases"))
  k_with "m init" => ((case zqhm => k_is); (case zqhi => k_is); (case zqhf => k_is); (case zqho => k_is); (case zqhcd => k_is); (case zqhb => (intro _ _ zX; first | exact BindsTo.of_eq rfl | exact binds_K zX rfl (by k_is) rfl rfl rfl)); (case zqhlk => (intro _; exact rfl)); (case zqhl => (intro _; exact locs rfl)); (case zqc1 => exact rfl); (case zqc2 => exact rfl); (case zqc3 => exact rfl); (case zqc4 => decide))
  k_with "m star" => with_reducible (first | exact st_Name | exact st_Constant | exact st_BinOp | exact st_Call | exact st_Subscript | exact st_Attribute | exact st_UnaryOp | exact st_Tuple | exact st_List)
  k_with "m plain" => first | with_reducible exact pl_nil | (with_reducible refine' pl_cons ?zqp1 ?zqp2; (case zqp1 => k_extra "m star"); (case zqp2 => k_extra "m plain"))
  k_with "execs cons" => (refine execs_seal ?_; intro _ _)
  k_with "exec If" => with_reducible refine wpAny_If ?_
  k_with "execs nil" => with_reducible refine wpAny_execs_nil ?_
  k_with "m open" => with_reducible (first | refine SealS.next (by assumption) ?_ | refine SealS.ret (by assumption) ?_ | refine SealS.brk (by assumption) ?_ | refine SealS.cont (by assumption) ?_)
  k_with "m steps" => ((repeat' (first | (k_unfold; (try dsimp only)) | walk1 | k_extra "m open" | (dsimp only; walk1) | fail "no step")) <;> (try dsimp only) <;> (try k_unfold) <;> (try dsimp only [ForStep, WhileStep2]) <;> (repeat (with_reducible refine SealS.ret (by assumption) ?_)))
  k_with "exec For Name Name cons nil" => ((with_reducible refine' for_start ?_ ?zqhs); (case zqhs => (intro _; k_dflt (exact rfl))))
  k_with "exec For Name Call cons nil" => ((with_reducible refine' for_start ?_ ?zqhs); (case zqhs => (intro _; k_dflt (exact rfl))))
  k_with "exec For Tuple Name cons nil" => ((with_reducible refine' for_start ?_ ?zqhs); (case zqhs => (intro _; k_dflt (exact rfl))))
  k_with "exec For Tuple Call cons nil" => ((with_reducible refine' for_start ?_ ?zqhs); (case zqhs => (intro _; k_dflt (exact rfl))))
  k_with "pyIter ref" => ((with_reducible show wpAny _ _ (pyIter _) (fun it s₂ => ForGo _ _ _ _ _ _ _ _ it s₂) _ _); refine stop_here ?_)
  k_with "pyIter str" => ((with_reducible show wpAny _ _ (pyIter _) (fun it s₂ => ForGo _ _ _ _ _ _ _ _ it s₂) _ _); refine stop_here ?_)
  k_with "exec While Compare cons nil" => refine stop_here ?_
  k_with "exec While BoolOp cons nil" => refine stop_here ?_
  k_with "callWith" => ((with_reducible refine' callWith_method1 ?_ ?zqm2 ?zqm3); (case zqm2 => k_extra "m star"); (case zqm3 => k_extra "m plain"))
  k_with "callWith" => ((with_reducible refine' PyProof.Rows.callWith_builtin1 ?_ ?zqm2 ?zqm3); (case zqm2 => k_extra "m star"); (case zqm3 => k_extra "m plain"))
  k_with "callWith" => with_reducible refine callWith_method0 ?_
  k_with "eval Call Attribute" => ((with_reducible refine' MethodCall_ ?_ ?zqm2); (case zqm2 => k_dflt (exact rfl)))
  k_with "eval Call Name" => ((with_reducible refine' Call_ ?_ ?zqm2); (case zqm2 => k_dflt (exact rfl)))
  k_with "exec Assign cons" => ((with_reducible refine' wpAny_Assign_Name ?_ ?zqm2); (case zqm2 => k_dflt (exact rfl)))
  k_with "ite" => first | with_reducible refine ite_tt ?_ | with_reducible refine ite_ff ?_ | (with_reducible refine split_39 ?_ ?_ <;> intro _) | (with_reducible refine split_40 ?_ ?_ <;> intro _) | (with_reducible refine split_41 ?_ ?_ <;> intro _) | (with_reducible refine split_44 ?_ ?_ <;> intro _) | (with_reducible refine split_61 ?_ ?_ <;> intro _) | (with_reducible refine split_32 ?_ ?_ <;> intro _) | with_reducible refine split_end (fun _ => ?_) (fun _ _ _ => ?_) | with_reducible refine split_emp (fun _ => ?_) (fun _ => ?_) | (with_reducible refine split_nb ?_ ?_ <;> intro _) | (with_reducible refine dec_pos (by omega) ?_) | (with_reducible refine dec_neg (by omega) ?_) | (with_reducible refine PyProof.Rows.split_dec ?_ ?_ <;> intro _) | (with_reducible refine ite_pos (by with_reducible assumption) ?_) | (with_reducible refine ite_isFalse (by with_reducible assumption) ?_) | (with_reducible refine PyProof.Rows.split_bool ?_ ?_ <;> intro _)
  k_with "eval Name" => ((with_reducible refine' ld_fast ?zqk1 ?zqk2 ?zqk3 ?zqk4 ?zqk5 ?_); (case zqk1 => with_reducible assumption); (case zqk2 => k_dflt (exact rfl)); (case zqk3 => k_dflt (exact rfl)); (case zqk4 => k_dflt (exact rfl)); (case zqk5 => k_dflt (exact rfl)))
  k_with "compareOp In str str" => with_reducible (first | refine in_letters ?_ | refine in_digits ?_ | refine in_ahead ?_)
  k_with "compareOp NotIn str str" => with_reducible (refine notin_letters ?_)
  k_with "m item" => ((with_reducible show wpAny _ _ (subscriptTail _ _ (Value.str _ _) (Value.int _ _)) _ _ _); first | ((with_reducible refine' item_at ?zqm1 ?zqm2 ?_ ?zqm3 ?zqm4); (case zqm1 => with_reducible assumption); (case zqm2 => first | assumption | omega); (case zqm3 => with_unfolding_all exact rfl); (case zqm4 => (intro _; with_unfolding_all exact rfl))) | ((with_reducible refine' item_lt ?zqm1 ?zqm2 ?_ ?zqm3 ?zqm4); (case zqm1 => first | assumption | omega); (case zqm2 => first | assumption | omega); (case zqm3 => with_unfolding_all exact rfl); (case zqm4 => (intro _; with_unfolding_all exact rfl)); (intro _ _)))
  k_with "subscriptTail Name Name str int" => k_extra "m item"
  k_with "subscriptTail Name BinOp str int" => k_extra "m item"
  k_with "m ret" => ((repeat (with_reducible refine SealS.ret (by assumption) ?_)); (with_reducible rename Fr _ _ _ _ => zF'); first | exact ⟨_, _, _, rfl, rfl, Fr.keep zF', trivial⟩ | exact ⟨(0 : Nat), _, _, rfl, rfl, Fr.keep zF', trivial⟩)
  k_with "subscriptTail Name Name ref int" => ((with_reducible show wpAny _ _ (subscriptTail _ _ (Value.ref _) (Value.int _ _)) _ _ _); (with_reducible rename IntsAre _ _ => zhI'); (refine' item_ints (News.isList (by with_reducible assumption) (by k_mem)) zhI' ?zqm1 ?zqm2 ?_ ?zqm3 ?zqm4); (case zqm1 => first | assumption | omega); (case zqm2 => first | assumption | omega); (case zqm3 => with_unfolding_all exact rfl); (case zqm4 => (intro _; with_unfolding_all exact rfl)); (intro _ _ _))
  k_with "m cl" => (simp only [Nat.zero_add, Int.toNat_natCast, beq_iff_eq, beq_eq_false_iff_ne, ne_eq, bne_iff_ne, bne_eq_false_iff_eq, Bool.not_eq_true] at *)
  k_with "m ifs" => ((repeat (first | rw [if_pos (by with_reducible assumption)] | rw [if_no (by with_reducible assumption)] | rw [if_neg (by with_reducible assumption)])); try (first | rfl | with_reducible assumption | (symm; with_reducible assumption)))
  k_with "m fin" => ((repeat (with_reducible refine SealS.ret (by assumption) ?_)); (with_reducible rename Fr _ _ _ _ => zF'); first | refine ret_str (Fr.keep zF') ?_ | refine ret_bool (Fr.keep zF') ?_ | refine ret_int (Fr.keep zF') ?_)
  k_with "m len" => first | exact Nat.le_trans (by with_reducible assumption) (by decide) | omega | (decide +kernel) | ((try simp only [Str.length_append, len_tx]); omega)
  k_with "binaryOp Add str str" => ((with_reducible show wpAny _ _ (binaryOp Operator.Add (Value.str _ _) (Value.str _ _)) _ _ _); (refine' add_txt ?zqkxaa ?zqkxab ?_; (case zqkxaa => k_extra "m len"); (case zqkxab => k_extra "m len")); intro _ _ _)
  k_with "inplaceOp Add str str" => ((with_reducible show wpAny _ _ (inplaceOp Operator.Add (Value.str _ _) (Value.str _ _)) _ _ _); (refine' iadd_txt ?zqkxaa ?zqkxab ?_; (case zqkxaa => k_extra "m len"); (case zqkxab => k_extra "m len")); intro _ _ _)
  k_with "setAttr ref" => (k_dflt (refine' set_dict ?zqk1 ?zqk2 ?zqk3 ?zqk4 ?zqk5 ?zqk6 ?zqk7 ?zqk8 ?zqk9 ?zqk10 ?zqk11 ?zqk12 ?zqk13 ?_; (case zqk1 => k_asm); (case zqk2 => k_asm); (case zqk3 => k_asm); (case zqk4 => k_inst); (case zqk5 => exact rfl); (case zqk6 => k_is); (case zqk7 => k_is); (case zqk8 => k_is); (case zqk9 => k_is); (case zqk10 => k_get); (case zqk11 => k_put); (case zqk12 => k_upd); (case zqk13 => exact Nat.le_of_ble_eq_true rfl); k_whole; intro _ _ _; (try k_sweep)))
  k_with "getAttr ref" => (k_dflt (refine' get_own ?zqk1 ?zqk2 ?zqk3 ?zqk4 ?zqk5 ?zqk6 ?zqk7 ?zqk8 ?zqk9 ?_; (case zqk1 => k_asm); (case zqk2 => k_asm); (case zqk3 => first | exact inst_base (by with_reducible assumption) (by k_asm) | k_inst); (case zqk4 => k_is); (case zqk5 => k_is); (case zqk6 => k_is); (case zqk7 => k_is); (case zqk8 => k_get); (case zqk9 => k_handed); k_whole))
  k_with "m side" => first | with_reducible assumption | decide | exact Nat.le_trans (by with_reducible assumption) (by decide) | omega | trivial | (simp only [Str.length_append, len_tx] at *; omega)
  k_with "m ctr" => ((case zqF => with_reducible assumption); (case zqN => with_reducible assumption); (case zqX => with_reducible assumption); (case zqT => with_reducible assumption); (case zqd => k_extra "m room"); (case zqu => k_extra "m room"))
  k_with "call ref" => ((with_reducible show wpAny _ _ (call (Value.ref 219) _) _ _ _); refine' CtrN.use (c_depths _ _ _ ?zqh) ?zqF ?zqN ?zqX ?zqT ?zqd ?zqu ?zqp ?_; (case zqh => (k_extra "m side")); (case zqp => trivial); (k_extra "m ctr"); intro _ ⟨_, _⟩ _ _ _ zN' zhne' zhR'; (try dsimp only at zN' zhR' zhne'))
  k_with "call ref" => ((with_reducible show wpAny _ _ (call (Value.ref 281) _) _ _ _); refine' Ctr.use (c_digits_end _ _ _ _ _ ?zqh) ?zqF ?zqN ?zqX ?zqT ?zqd ?zqu ?zqp ?_; (case zqh => (k_extra "m side")); (case zqp => trivial); (k_extra "m ctr"); intro _ _ _ _ _ _ _)
  k_with "call ref" => ((with_reducible show wpAny _ _ (call (Value.ref 274) _) _ _ _); refine' Ctr.use (c_name_end _ _ _ _ _ ?zqh) ?zqF ?zqN ?zqX ?zqT ?zqd ?zqu ?zqp ?_; (case zqh => (k_extra "m side")); (case zqp => trivial); (k_extra "m ctr"); intro _ _ _ _ _ _ _)
  k_with "call ref" => ((with_reducible show wpAny _ _ (call (Value.ref 226) _) _ _ _); refine' Ctr.use (c_closing _ _ _ _ _ ?zqh ?zqg) ?zqF ?zqN ?zqX ?zqT ?zqd ?zqu ?zqp ?_; (case zqh => (k_extra "m side")); (case zqg => (k_extra "m side")); (case zqp => trivial); (k_extra "m ctr"); intro _ _ _ _ _ _ _)
  k_with "call ref" => ((with_reducible show wpAny _ _ (call (Value.ref 288) _) _ _ _); refine' Ctr.use (c_is_target _ _ _ ?zqh) ?zqF ?zqN ?zqX ?zqT ?zqd ?zqu ?zqp ?_; (case zqh => (k_extra "m side")); (case zqp => trivial); (k_extra "m ctr"); intro _ _ _ _ _ _ _)
  k_with "call ref" => ((with_reducible show wpAny _ _ (call (Value.ref 295) _) _ _ _); (with_reducible rename IntsAre _ _ => zhI'); refine' Ctr.use (c_is_balanced _ _ _ _ _ _ zhI' ?zqh) ?zqF ?zqN ?zqX ?zqT ?zqd ?zqu ?zqp ?_; (case zqh => (k_extra "m side")); (case zqp => exact News.get (by with_reducible assumption) (by k_mem)); (k_extra "m ctr"); intro _ _ _ _ _ _ _)
  k_with "call ref" => ((with_reducible show wpAny _ _ (call (Value.ref 302) _) _ _ _); (with_reducible rename IntsAre _ _ => zhI'); refine' CtrN.use (c_equals_at _ _ _ _ _ _ zhI' ?zqh) ?zqF ?zqN ?zqX ?zqT ?zqd ?zqu ?zqp ?_; (case zqh => (k_extra "m side")); (case zqp => exact News.get (by with_reducible assumption) (by k_mem)); (k_extra "m ctr"); intro _ _ _ _ _ zN' zhne' _; (try dsimp only at zN' zhne'))
  k_with "call ref" => ((with_reducible show wpAny _ _ (call (Value.ref 309) _) _ _ _); refine' Ctr.use (c_is_do_head _ _ _ ?zqh) ?zqF ?zqN ?zqX ?zqT ?zqd ?zqu ?zqp ?_; (case zqh => (k_extra "m side")); (case zqp => trivial); (k_extra "m ctr"); intro _ _ _ _ _ _ _)
  k_with "call ref" => ((with_reducible show wpAny _ _ (call (Value.ref 323) _) _ _ _); refine' Ctr.use (c_word_of_goto _ _ _ ?zqh) ?zqF ?zqN ?zqX ?zqT ?zqd ?zqu ?zqp ?_; (case zqh => (k_extra "m side")); (case zqp => trivial); (k_extra "m ctr"); intro _ _ _ _ _ _ _)
  k_with "call ref" => ((with_reducible show wpAny _ _ (call (Value.ref 316) _) _ _ _); refine' Ctr.use (c_word_of_if _ _ _ ?zqh) ?zqF ?zqN ?zqX ?zqT ?zqd ?zqu ?zqp ?_; (case zqh => (k_extra "m side")); (case zqp => trivial); (k_extra "m ctr"); intro _ _ _ _ _ _ _)
  k_with "call ref" => ((with_reducible show wpAny _ _ (call (Value.ref 337) _) _ _ _); refine' Ctr.use (c_word_by_begin _ _ _ ?zqh ?zqg) ?zqF ?zqN ?zqX ?zqT ?zqd ?zqu ?zqp ?_; (case zqh => (k_extra "m side")); (case zqg => (k_extra "m wb")); (case zqp => trivial); (k_extra "m ctr"); intro _ _ _ _ _ _ _)
  k_with "call ref" => ((with_reducible show wpAny _ _ (call (Value.ref 344) _) _ _ _); refine' Ctr.use (c_classify _ _ _ ?zqh ?zqg) ?zqF ?zqN ?zqX ?zqT ?zqd ?zqu ?zqp ?_; (case zqh => (k_extra "m side")); (case zqg => (k_extra "m cls")); (case zqp => trivial); (k_extra "m ctr"); intro _ _ _ _ _ _ _)
  k_with "ite" => with_reducible (first | refine ite_nemp ?_ | refine ite_ee ?_ | refine ite_nee ?_)
  k_with "call ref" => ((with_reducible show wpAny _ _ (call (Value.ref 212) _) _ _ _); refine' Ctr.use (c_squeezed _ _ _ ?zqh ?zqg) ?zqF ?zqN ?zqX ?zqT ?zqd ?zqu ?zqp ?_; (case zqh => (k_extra "m side")); (case zqg => (k_extra "m sq")); (case zqp => trivial); (k_extra "m ctr"); intro _ _ _ _ _ _ _)
  k_with "m ctrP" => ((case zqF => with_reducible assumption); (case zqN => with_reducible assumption); (case zqX => with_reducible assumption); (case zqT => with_reducible assumption); (case zqd => k_extra "m room"); (case zqu => k_extra "m room"); (case zqn => with_reducible assumption); (case zqP => with_reducible assumption))
  k_with "m ne2" => (exact ⟨by k_ne, by k_ne⟩)
  k_with "call ref" => ((with_reducible show wpAny _ _ (call (Value.ref 373) _) _ _ _); (first | (refine' CtrP.use0 (c_figI _ _ _ _ _ _ ?zqa ?zqb ?zqc) ?zqF ?zqN ?zqX ?zqT ?zqd ?zqu ?zqn ?zqP ?_; (k_extra "m ctrP")) | (refine' CtrP.use1 (c_figI _ _ _ _ _ _ ?zqa ?zqb ?zqc) ?zqF ?zqN ?zqX ?zqT ?zqd ?zqu ?zqn ?zqP ?zqh1 ?_; (k_extra "m ctrP"); (case zqh1 => k_extra "m ne2")) | (refine' CtrP.use2 (c_figI _ _ _ _ _ _ ?zqa ?zqb ?zqc) ?zqF ?zqN ?zqX ?zqT ?zqd ?zqu ?zqn ?zqP ?zqh1 ?zqh2 ?_; (k_extra "m ctrP"); (case zqh1 => k_extra "m ne2"); (case zqh2 => k_extra "m ne2")) | (refine' CtrP.use3 (c_figI _ _ _ _ _ _ ?zqa ?zqb ?zqc) ?zqF ?zqN ?zqX ?zqT ?zqd ?zqu ?zqn ?zqP ?zqh1 ?zqh2 ?zqh3 ?_; (k_extra "m ctrP"); (case zqh1 => k_extra "m ne2"); (case zqh2 => k_extra "m ne2"); (case zqh3 => k_extra "m ne2"))); (case zqa => k_extra "m nat"); (case zqb => k_extra "m nat"); (case zqc => k_extra "m nat"); intro ⟨_, _⟩ _ _ _ _ _ _ _ zhR'; (dsimp only at zhR'); (try dsimp only))
  k_with "call ref" => ((with_reducible show wpAny _ _ (call (Value.ref 362) _) _ _ _); refine' CtrL.use (c_Limits _) ?zqF ?zqN ?zqX ?zqT ?zqd ?zqu ?zqp ?_; (case zqp => trivial); (k_extra "m ctr"); intro ⟨_, _, _⟩ _ _ _ zN' zhne' _; (dsimp only [List.cons_append, List.nil_append] at zN'); (try (have za1 := neN (zhne' _ (List.mem_cons_self ..) _ (List.mem_cons_self ..)); try dsimp only at za1)); (try (have za2 := neN (zhne' _ (List.mem_cons_self ..) _ (List.mem_cons_of_mem _ (List.mem_cons_self ..))); try dsimp only at za2)); (try (have za3 := neN (zhne' _ (List.mem_cons_of_mem _ (List.mem_cons_self ..)) _ (List.mem_cons_self ..)); try dsimp only at za3)); (try (have za4 := neN (zhne' _ (List.mem_cons_of_mem _ (List.mem_cons_self ..)) _ (List.mem_cons_of_mem _ (List.mem_cons_self ..))); try dsimp only at za4)); (try dsimp only))
  k_with "call ref" => ((with_reducible show wpAny _ _ (call (Value.ref 89) _) _ _ _); refine' CtrL.use (c_Card _ _ _ _ _) ?zqF ?zqN ?zqX ?zqT ?zqd ?zqu ?zqp ?_; (case zqp => trivial); (k_extra "m ctr"); intro ⟨_, _, _⟩ _ _ _ zN' zhne' _; (dsimp only [List.cons_append, List.nil_append] at zN'); (try (have za1 := neN (zhne' _ (List.mem_cons_self ..) _ (List.mem_cons_self ..)); try dsimp only at za1)); (try (have za2 := neN (zhne' _ (List.mem_cons_self ..) _ (List.mem_cons_of_mem _ (List.mem_cons_self ..))); try dsimp only at za2)); (try (have za3 := neN (zhne' _ (List.mem_cons_of_mem _ (List.mem_cons_self ..)) _ (List.mem_cons_self ..)); try dsimp only at za3)); (try (have za4 := neN (zhne' _ (List.mem_cons_of_mem _ (List.mem_cons_self ..)) _ (List.mem_cons_of_mem _ (List.mem_cons_self ..))); try dsimp only at za4)); (try dsimp only))
  k_with "call ref" => ((with_reducible show wpAny _ _ (call (Value.ref 107) _) _ _ _); refine' Ctr.use (c_wb _ _ _ ?zqh) ?zqF ?zqN ?zqX ?zqT ?zqd ?zqu ?zqp ?_; (case zqh => (k_extra "m side")); (case zqp => trivial); (k_extra "m ctr"); intro _ _ _ _ _ _ _)
  k_with "call builtin:len" => ((with_reducible show wpAny _ _ (call (Value.builtin "len") [Value.ref _]) _ _ _); (refine' len_newsL ?zqn ?zqm ?zqb ?_; (case zqn => with_reducible assumption); (case zqm => k_mem); (case zqb => k_extra "m nat")))
  k_with "call ref" => ((with_reducible show wpAny _ _ (call (Value.ref 114) _) _ _ _); refine' Ctr.use (c_is_comment _ _ _ _ ?zqh) ?zqF ?zqN ?zqX ?zqT ?zqd ?zqu ?zqp ?_; (case zqh => (k_extra "m side")); (case zqp => trivial); (k_extra "m ctr"); intro _ _ _ _ _ _ _)
  k_with "call ref" => ((with_reducible show wpAny _ _ (call (Value.ref 142) _) _ _ _); refine' Ctr.use (c_padded _ _ _ _ ?zqh) ?zqF ?zqN ?zqX ?zqT ?zqd ?zqu ?zqp ?_; (case zqh => (k_extra "m side")); (case zqp => trivial); (k_extra "m ctr"); intro _ _ _ _ _ _ _)
  k_with "call ref" => ((with_reducible show wpAny _ _ (call (Value.ref 100) _) _ _ _); refine' CtrL.use (c_cards_of _ _ _ _ ?zqg ?zqh ?zqe) ?zqF ?zqN ?zqX ?zqT ?zqd ?zqu ?zqp ?_; (case zqg => with_reducible assumption); (case zqh => (k_extra "m side")); (case zqe => with_reducible assumption); (case zqp => trivial); (k_extra "m ctr"); intro _ _ _ _ _ _ _)
  k_with "call ref" => ((with_reducible show wpAny _ _ (call (Value.ref 121) _) _ _ _); refine' CtrL.use (c_read_cards _ _ _ _ _ _ _ ?zqg ?zqh ?zqe ?zqr) ?zqF ?zqN ?zqX ?zqT ?zqd ?zqu ?zqp ?_; (case zqg => with_reducible assumption); (case zqh => (k_extra "m side")); (case zqe => with_reducible assumption); (case zqr => with_reducible assumption); (case zqp => k_extra "m inst"); (k_extra "m ctr"); intro _ _ _ _ _ _ _)
  k_with "m inst" => first | with_reducible assumption | exact inst_base (by with_reducible assumption) (by k_asm) | k_inst
  k_with "call builtin:len" => ((with_reducible show wpAny _ _ (call (Value.builtin "len") [Value.ref _]) _ _ _); (refine' len_base ?zqn ?zqm ?zqb ?_; (case zqn => with_reducible assumption); (case zqm => k_asm); (case zqb => k_extra "m nat")))
  k_with "subscriptTail Name Name ref int" => ((refine' item_base ?zqn ?zqm ?zqb ?zqv ?_ ?zqs ?zqg); (case zqn => with_reducible assumption); (case zqm => k_asm); (case zqb => k_extra "m nat"); (case zqv => with_reducible assumption); (case zqs => with_unfolding_all exact rfl); (case zqg => (intro _; with_unfolding_all exact rfl)))
  k_with "subscriptTail Name Constant ref int" => ((refine' item_base0 ?zqn ?zqm ?zqv ?_ ?zqs ?zqg); (case zqn => with_reducible assumption); (case zqm => k_asm); (case zqv => with_reducible assumption); (case zqs => with_unfolding_all exact rfl); (case zqg => (intro _; with_unfolding_all exact rfl)))
  k_with "m inst" => first | with_reducible assumption | exact inst_base (by with_reducible assumption) (by k_asm) | k_inst
  k_with "call ref" => ((with_reducible show wpAny _ _ (call (Value.ref 135) _) _ _ _); refine' Ctr.use (c_read_label' _ _ ?zqh) ?zqF ?zqN ?zqX ?zqT ?zqd ?zqu ?zqp ?_; (case zqh => with_reducible assumption); (case zqp => k_extra "m inst"); (k_extra "m ctr"); intro _ _ _ _ _ _ _)
  k_with "call ref" => ((with_reducible show wpAny _ _ (call (Value.ref 128) _) _ _ _); refine' Ctr.use (c_is_continuation _ _) ?zqF ?zqN ?zqX ?zqT ?zqd ?zqu ?zqp ?_; (case zqp => k_extra "m inst"); (k_extra "m ctr"); intro _ _ _ _ _ _ _)
  trivial

-- text C18
section
theorem reg_C18_0 : True := by
  k_with "m enterC" => (refine' CtrP.enterC ?zqho ?zqhcd ?zqhb ?zqhkd ?zqhnd ?zqc1 ?zqc2 ?zqc3 ?_; (case zqho => k_is); (case zqhcd => k_is); (case zqhb => exact rfl); (case zqhkd => exact rfl); (case zqhnd => decide +kernel); (case zqc1 => exact rfl); (case zqc2 => exact rfl); (case zqc3 => exact rfl))
  k_with "eval Name" => (with_reducible show wpAny _ _ (eval (Expr.Name _ _) (envOfC _ _ _ _ _)) _ _ _); first | k_dflt (refine' nameX_L ?zqF ?zqv ?_ ?zqa ?zqb ?zqc; (case zqa => rfl); (case zqb => rfl); (case zqc => rfl); (case zqF => k_asm); (case zqv => rfl)) | k_dflt (refine' nameX_C ?zqN ?zqc ?zqm ?zqd ?_ ?zqa ?zqb ?zqe; (case zqa => rfl); (case zqb => rfl); (case zqe => rfl); (case zqN => k_asm); (case zqc => rfl); (case zqm => k_mem); (case zqd => k_asm))
  k_with "storeName" => (with_reducible show wpAny _ _ (storeName (envOfC _ _ _ _ _) _ _) _ _ _); first | (k_dflt (refine' storeX_L ?zqF ?zqN ?_ ?zqa ?zqb; (case zqa => rfl); (case zqb => rfl); (case zqF => k_asm); (case zqN => k_asm)); intro _ _ zN') | (k_dflt (refine' storeX_C ?zqF ?zqN ?zqc ?zqU ?zqd ?_ ?zqa ?zqb; (case zqa => rfl); (case zqb => rfl); (case zqF => k_asm); (case zqN => k_asm); (case zqc => rfl); (case zqU => k_updF); (case zqd => k_asm)); intro _ _ _ zN' _; (try dsimp only at zN'))
  k_with "m apart" => (repeat' (first | exact List.forall_mem_nil _ | refine List.forall_mem_cons.mpr ⟨⟨by k_ne, by k_ne⟩, ?_⟩))
  k_with "m ctrQ" => ((case zqF => with_reducible assumption); (case zqN => ((with_reducible rename News _ _ _ _ => znz); exact znz)); (case zqX => with_reducible assumption); (case zqT => with_reducible assumption); (case zqd => k_extra "m room"); (case zqu => k_extra "m room"); (case zqn => with_reducible assumption); (case zqP => with_reducible assumption); (case zqh => k_extra "m apart"))
  k_with "call ref" => ((with_reducible show wpAny _ _ (call (Value.ref 373) _) _ _ _); (refine' CtrP.use (c_figI _ _ _ _ _ _ ?zqa ?zqb ?zqc) [_, _, _, _, _] ?zqF ?zqN ?zqX ?zqT ?zqd ?zqu ?zqn ?zqP ?zqh ?_; (k_extra "m ctrQ")); (case zqa => k_extra "m nat"); (case zqb => k_extra "m nat"); (case zqc => k_extra "m nat"); intro ⟨_, _⟩ _ _ _ _ _ zN' _ zhR'; (dsimp only at zhR'); (dsimp only [List.cons_append, List.nil_append] at zN'); (try dsimp only))
  k_with "call ref" => ((with_reducible show wpAny _ _ (call (Value.ref 373) _) _ _ _); (refine' CtrP.use (c_figI _ _ _ _ _ _ ?zqa ?zqb ?zqc) [_, _, _, _, _, _] ?zqF ?zqN ?zqX ?zqT ?zqd ?zqu ?zqn ?zqP ?zqh ?_; (k_extra "m ctrQ")); (case zqa => k_extra "m nat"); (case zqb => k_extra "m nat"); (case zqc => k_extra "m nat"); intro ⟨_, _⟩ _ _ _ _ _ zN' _ zhR'; (dsimp only at zhR'); (dsimp only [List.cons_append, List.nil_append] at zN'); (try dsimp only); refine stop_here ?_)
  k_with "ite" => first | with_reducible refine ite_no (by with_reducible assumption) ?_ | with_reducible refine ite_yes (by with_reducible assumption) ?_ | with_reducible refine ite_no (by decide +kernel) ?_ | with_reducible refine ite_yes (by decide +kernel) ?_
  k_with "loadName" => (with_reducible show wpAny _ _ (loadName (envOfC _ _ _ _ _) _) _ _ _); first | k_dflt (refine' ldnLoc ?zqF ?zqv ?_ ?zqa ?zqb; (case zqa => rfl); (case zqb => rfl); (case zqF => k_asm); (case zqv => rfl)) | k_dflt (refine' ldnCN ?zqN ?zqc ?zqm ?zqd ?_ ?zqa ?zqb; (case zqa => rfl); (case zqb => rfl); (case zqN => k_asm); (case zqc => rfl); (case zqm => k_mem); (case zqd => k_asm))
  trivial
/-- what the turns of the brackets' loop keep -/
inductive BI (w : World) (L pd pl : Addr) (B : Nat) (i : Nat) (m : Str → Option Value) (nx : List (Addr × Obj)) : Prop
  | mk (d p v : Addr) (oe oE oR : Obj) (n1 n2 : Nat) (vp vl : List Value) (ts : List (Int × Int × Tok)) (l ps : List Nat) (q bad : Bool) (tr : Tok) (od ol : Obj) (q0 : nx = [(d, oe), (p, listOf vp.toArray n1), (v, listOf vl.toArray n2), (L + 1 + 1, oE), (L + 1, oR), (pd, od), (pl, ol)]) (q1 : oE.data = .cell (some (.ref d))) (q2 : oR.data = .cell (some (.str (tx l) tr))) (q3 : Pu w pl (B + 1 + i) od ol) (q4 : (d == sysModules) = false) (q5 : Obj.IsDictOf (intKind PG w) oe (ts.map fT)) (q6 : IntsAre vp (ps.map (fun k : Nat => (k : Int)))) (q7 : IntsAre vl (dfold l).1) (q8 : l.length = i) (q9 : Br l ps (ts.map gT) q bad) (q10 : ps.length ≤ i) (q11 : ts.length ≤ i) (q12 : (∀ a ∈ ps, ∃ t ∈ ts, t.1 = (a : Int))) (q13 : (@LT.lt Nat _ v p ∧ @LT.lt Nat _ p d ∧ @LT.lt Nat _ (L + 1 + 1) v)) (q14 : Has m [(Str.ofString "purse", .ref pd), (Str.ofString "levels", .ref v), (Str.ofString "pile", .ref p), (Str.ofString "is_quoted", .bool q), (Str.ofString "is_bad", .bool bad)]) : BI w L pd pl B i m nx
theorem bi_end {w : World} {g h : Heap} {s : Shared} {L pd pl I d p v : Addr} {oI oe oE oR od ol : Obj} {B i n1 n2 : Nat} {m : Str → Option Value} {vp vl : List Value} {ts : List (Int × Int × Tok)} {l ps : List Nat} {c : Nat} {q bad : Bool} {tr tk : Tok} {x : Int} {u : Tok}
    (F : Fr g L h m) (N : News g L h [(I, oI), (d, oe), (p, listOf vp.toArray n1), (v, listOf (vl.toArray.push (.int x u)) n2), (L + 1 + 1, oE), (L + 1, oR), (pd, od), (pl, ol)])
    (hn : d ≠ I ∧ p ≠ I ∧ v ≠ I ∧ L + 1 + 1 ≠ I ∧ L + 1 ≠ I ∧ pd ≠ I ∧ pl ≠ I) (h1 : oE.data = .cell (some (.ref d))) (h2 : oR.data = .cell (some (.str (tx l ++ ⟨#[c]⟩) tr))) (P : Pu w pl (B + 1 + i + 1) od ol) (hd : (d == sysModules) = false)
    (hD : Obj.IsDictOf (intKind PG w) oe (ts.map fT)) (hvp : IntsAre vp (ps.map (fun k : Nat => (k : Int)))) (hvl : IntsAre vl (dfold l).1) (e : dv (dfold l).2.1 (dfold l).2.2 c = x) (hl : l.length = i) (hB : Br (l ++ [c]) ps (ts.map gT) q bad)
    (h3 : ps.length ≤ i + 1) (h4 : ts.length ≤ i + 1) (hk : ∀ a ∈ ps, ∃ t ∈ ts, t.1 = (a : Int)) (o : @LT.lt Nat _ v p ∧ @LT.lt Nat _ p d ∧ @LT.lt Nat _ (L + 1 + 1) v)
    (hm : Has m [(Str.ofString "purse", .ref pd), (Str.ofString "levels", .ref v), (Str.ofString "pile", .ref p), (Str.ofString "is_quoted", .bool q), (Str.ofString "is_bad", .bool bad)]) :
    ForEnd g L s I oI (BI w L pd pl B (i + 1)) { s with heap := h, toks := tk } := by
  have ex : tx l ++ (⟨#[c]⟩ : Str) = tx (l ++ [c]) := tx_append l [c]
  rw [ex] at h2
  rw [List.push_toArray] at N
  obtain ⟨z1, z2, z3, z4, z5, z6, z7⟩ := hn
  refine ⟨h, tk, m, _, rfl, F, N, ?_, d, p, v, oe, oE, oR, n1, n2, vp, vl ++ [.int x u], ts, l ++ [c], ps, q, bad, tr, od, ol, rfl, h1, h2, P, hd, hD, hvp, lv_snoc hvl e, by rw [List.length_append, hl]; rfl, hB, h3, h4, hk, o, hm⟩
  intro a ha
  simp only [List.mem_cons, List.not_mem_nil, or_false] at ha
  rcases ha with rfl | rfl | rfl | rfl | rfl | rfl | rfl <;> assumption
theorem dvq {d : Int} {c : Nat} : dv d true c = -1 := by unfold dv; split <;> rfl
theorem dnq {d : Int} {c : Nat} : dn d true c = d := by unfold dn; split <;> rfl
theorem dvb {c : Nat} (h : c ≠ 39) : dv (-2) false c = -2 := by unfold dv; (repeat' split) <;> first | rfl | omega | contradiction
theorem dnb {c : Nat} : dn (-2) false c = -2 := by unfold dn; (repeat' split) <;> first | rfl | omega | contradiction
theorem dvo {d : Int} {c : Nat} (h1 : c ≠ 39) (h2 : c ≠ 40) (h3 : c ≠ 41) : dv d false c = d := by unfold dv; (repeat' split) <;> first | rfl | omega | contradiction
theorem dno {d : Int} {c : Nat} (h2 : c ≠ 40) (h3 : c ≠ 41) : dn d false c = d := by unfold dn; (repeat' split) <;> first | rfl | omega | contradiction
theorem dv40 {d : Int} (h : 0 ≤ d) : dv d false 40 = d := by unfold dv; simp [h]
theorem nil_or_snoc : ∀ l : List Nat, l = [] ∨ ∃ r a, l = r ++ [a]
  | [] => .inl rfl
  | x :: r => .inr (by
    rcases nil_or_snoc r with rfl | ⟨q, a, rfl⟩
    · exact ⟨[], x, rfl⟩
    · exact ⟨x :: q, a, rfl⟩)
theorem last_snoc (y : Value) : ∀ p : List Value, kl_last (p ++ [y]) = some (p, y)
  | [] => rfl
  | x :: r => by
    show (match kl_last (r ++ [y]) with | some (p, z) => some (x :: p, z) | none => some ([], x)) = _
    rw [last_snoc y r]
theorem key_open {ps : List Nat} {ts : List (Int × Int × Tok)} {n : Nat} {v : Int} {u : Tok} (h : ∀ a ∈ ps, ∃ t ∈ ts, t.1 = (a : Int)) : ∀ a ∈ ps ++ [n], ∃ t ∈ ts ++ [((n : Int), v, u)], t.1 = (a : Int) := by
  intro a ha
  rcases List.mem_append.mp ha with ha | ha
  · obtain ⟨t, ht, e⟩ := h a ha
    exact ⟨t, List.mem_append_left _ ht, e⟩
  · rw [List.mem_singleton.mp ha]
    exact ⟨_, List.mem_append_right _ (List.mem_singleton.mpr rfl), rfl⟩
theorem dv41 {n k : Nat} : dv ((n + [k].length : Nat) : Int) false 41 = n := by unfold dv; simp
theorem dn39 {d : Int} {q : Bool} : dn d q 39 = d := rfl
theorem dq_39 {q : Bool} : dq' q 39 = !q := rfl
theorem dq_no {q : Bool} {c : Nat} (h : c ≠ 39) : dq' q c = q := if_neg h
/-- a sign of a constant, or its end -/
theorem Br.inner {l ps : List Nat} {es : List (Int × Int)} {bad : Bool} {c : Nat} (H : Br l ps es true bad) (h : c ≠ 39) : Br (l ++ [c]) ps es true bad :=
  H.same (.inr (by rw [dvq]; decide)) (dq_no h) (fun e => by rw [dnq]; exact H.b1 e) (fun e => by rw [dnq]; exact H.b0 e)
theorem Br.tick {l ps : List Nat} {es : List (Int × Int)} {q bad : Bool} (H : Br l ps es q bad) : Br (l ++ [39]) ps es (!q) bad :=
  H.same (.inl (by decide)) dq_39 (fun e => by rw [dn39]; exact H.b1 e) (fun e => by rw [dn39]; exact H.b0 e)
theorem Br.worse {l ps : List Nat} {es : List (Int × Int)} {c : Nat} (H : Br l ps es false true) (h : c ≠ 39) : Br (l ++ [c]) ps es false true := by
  have e := H.b1 rfl
  exact H.same (.inr (by rw [e, dvb h]; decide)) (dq_no h) (fun _ => by rw [e, dnb]) (fun q => by cases q)
theorem Br.over {l : List Nat} {es : List (Int × Int)} (H : Br l [] es false false) : Br (l ++ [41]) [] es false true := by
  have e := H.b0 rfl
  exact H.same (.inr (by rw [e]; decide)) rfl (fun _ => by rw [e]; rfl) (fun q => by cases q)
theorem Br.plain {l ps : List Nat} {es : List (Int × Int)} {c : Nat} (H : Br l ps es false false) (h1 : c ≠ 39) (h2 : c ≠ 40) (h3 : c ≠ 41) : Br (l ++ [c]) ps es false false := by
  have e := H.b0 rfl
  exact H.same (.inl h3) (dq_no h1) (fun q => by cases q) (fun _ => by rw [e, dno h2 h3])
theorem ints_last {vp : List Value} {ns : List Int} {k : Int} (h : IntsAre vp (ns ++ [k])) : ∃ vs t, vp = vs ++ [.int k t] ∧ IntsAre vs ns := by
  induction ns generalizing vp with
  | nil =>
    cases h with
    | cons k t h => cases h; exact ⟨[], t, rfl, .nil⟩
  | cons n r ih =>
    cases h with
    | cons n t h =>
      obtain ⟨vs, t', rfl, h2⟩ := ih h
      exact ⟨.int n t :: vs, t', rfl, .cons n t h2⟩
theorem char_no {c k : Nat} {y : Str} (hy : y = ⟨#[k]⟩) (h : c ≠ k) : ((⟨#[c]⟩ : Str) == y) = false := by rw [one_beq c hy, decide_eq_false h]
theorem reg_C18_1 : True := by
  k_with "m ints" => first | with_reducible assumption | exact IntsAre.nil
  k_with "compareOp Eq ref ref" => ((with_reducible show wpAny _ _ (compareOp CmpOp.Eq (Value.ref _) (Value.ref _)) _ _ _); (with_unfolding_all refine' eq_intsK (vs := ?zqv1) (ns := ?zqn1) (us := []) (ms := []) ?zqk1 ?zqk2 ?zqk3 ?zqk4 ?zqk5 ?_; (case zqk1 => exact News.isList (by with_reducible assumption) (by k_mem)); (case zqk2 => k_extra "m ints"); (case zqk3 => exact News.isList (by with_reducible assumption) (by k_mem)); (case zqk4 => exact IntsAre.nil); (case zqk5 => units_room)))
  trivial
section
variable {M : Model} {A : Around} {E : Value → Shared → Prop} {s : Shared} {h₀ : Heap} {C L a : Addr} {m mg mb : Str → Option Value} {news : List (Addr × Obj)} {x name : Str} {pos : Pos} {v cd : Value} {Q : Value → Shared → Prop} {c : Addr} {o : Obj} {scope : Scope} {cl : List (Str × Addr)} {env : Env} {K : Frag} {p : Program} {loose : List Str} {mean : ExcName → Option Value}
theorem cm_L (F : Fr h₀ C s.heap m) (hv : m x = some v) (h : Q v s) (hk : (compEnvC scope cl C env).scope.kind = .function) (hx : (compEnvC scope cl C env).kindOf x = some .local) (hd : (x == ("__debug__" : Str)) = false := by decide) :
    wpAny M A (eval (.Name x pos) (compEnvC scope cl C env)) Q E s := wpAny_Name (wpAny_loadName_local hk hx F.ns hv h) hd
theorem cm_C (N : News h₀ C s.heap news) (hc : cl.lookup x = some c) (hm : (c, o) ∈ news) (hd : o.data = .cell (some v)) (h : Q v s) (hk : (compEnvC scope cl C env).scope.kind = .function) (hx : (compEnvC scope cl C env).kindOf x = some .cell) (hb : (x == ("__debug__" : Str)) = false := by decide) :
    wpAny M A (eval (.Name x pos) (compEnvC scope cl C env)) Q E s := wpAny_Name (wpAny_loadName_cell hk hx hc ⟨o, N.get hm, hd⟩ h) hb
theorem cm_K (F : Fr h₀ C s.heap m) (X : K.In h₀) (T : Top p loose mean mg mb h₀) (e : nsIn K mainGlobals x = some (some v)) (h : Q v s) (hk : (compEnvC scope cl C env).scope.kind = .function) (hx : (compEnvC scope cl C env).kindOf x = some .globalImplicit) (hg : env.globals = mainGlobals) (hd : (x == ("__debug__" : Str)) = false := by decide) :
    wpAny M A (eval (.Name x pos) (compEnvC scope cl C env)) Q E s :=
  Name_function_global hk hx (loadGlobal_global (env := compEnvC scope cl C env) (by show s.heap.Ns env.globals mg; rw [hg]; exact T.g.keeps F.keep) (mg_of X T.g e) h) hd
end
theorem value_in {kvs : List (Int × Value)} {k : Int} {x : Value} (h : (k, x) ∈ kvs) : ∃ y, valueAt kvs k = some y ∧ (k, y) ∈ kvs := by
  unfold valueAt
  cases e : kvs.find? (fun kv => kv.1 = k) with
  | none =>
    have := List.find?_eq_none.mp e _ h
    simp at this
  | some kv =>
    have h1 := List.find?_some e
    have h2 := List.mem_of_find?_eq_some e
    simp at h1
    exact ⟨kv.2, rfl, by rw [← h1]; exact h2⟩
theorem reg_C18_2 : True := by
  k_with "eval Name" => ((with_reducible show wpAny _ _ (eval (Expr.Name _ _) (compEnvC _ _ _ _)) _ _ _); k_dflt (first | (refine' cm_L ?zqF ?zqv ?_ ?zqa ?zqb; (case zqa => rfl); (case zqb => rfl); (case zqF => with_reducible assumption); (case zqv => exact if_pos rfl)) | (refine' cm_C ?zqN ?zqc ?zqm ?zqd ?_ ?zqa ?zqb; (case zqa => rfl); (case zqb => rfl); (case zqN => with_reducible assumption); (case zqc => rfl); (case zqm => k_mem); (case zqd => with_reducible assumption)) | (refine' cm_K ?zqF ?zqX ?zqT ?zqe ?_ ?zqa ?zqb ?zqg; (case zqa => rfl); (case zqb => rfl); (case zqg => rfl); (case zqF => with_reducible assumption); (case zqX => with_reducible assumption); (case zqT => with_reducible assumption); (case zqe => k_is))))
  trivial
theorem comp_I {h : Heap} {b : Addr} {o : Obj} (e : h.get? b = some o) : b ∉ [h.objs.size] := fun q => Nat.lt_irrefl _ (by rw [List.mem_singleton.mp q] at e; exact Heap.lt_size e)
theorem comp_F {g H h₃ : Heap} {L C : Addr} {m m₃ : Str → Option Value} {x : Obj} (F : Fr g L H m) (hC : (H.push x).objs.size ≤ C) (hn : h₃.Ns C m₃) (hk : ∀ b o, b ∉ [H.objs.size] → (H.push x).get? b = some o → h₃.get? b = some o) : Fr g C h₃ m₃ := by
  rw [Heap.size_push] at hC
  exact ⟨hn, fun b o e => hk b o (comp_I (F.keep b o e)) (Heap.get?_push_of_some _ (F.keep b o e)), Nat.le_trans F.above (Nat.le_trans (Nat.le_of_lt F.ns.lt) (Nat.le_of_succ_le hC))⟩
theorem comp_N {g H h₃ : Heap} {L C : Addr} {nx : List (Addr × Obj)} {x : Obj} (N : News g L H nx) (hC : (H.push x).objs.size ≤ C) (hk : ∀ b o, b ∉ [H.objs.size] → (H.push x).get? b = some o → h₃.get? b = some o) : News g C h₃ nx := fun p hp => by
  rw [Heap.size_push] at hC
  exact ⟨hk p.1 p.2 (comp_I (N p hp).1) (Heap.get?_push_of_some _ (N p hp).1), Nat.ne_of_lt (Nat.lt_of_lt_of_le (Heap.lt_size (N p hp).1) (Nat.le_of_succ_le hC)), (N p hp).2.2⟩
theorem comp_F2 {g H h' : Heap} {L : Addr} {m : Str → Option Value} {x : Obj} (F : Fr g L H m) (hk : ∀ b o, b ∉ [H.objs.size] → (H.push x).get? b = some o → h'.get? b = some o) : Fr g L h' m :=
  stays_fr F fun b o e => hk b o (comp_I e) (Heap.get?_push_of_some _ e)
theorem comp_N2 {g H h' : Heap} {L D : Addr} {m : Str → Option Value} {nx : List (Addr × Obj)} {x : Obj} {n : Nat} (F : Fr g L H m) (N : News g L H nx) (hD : (H.push x).get? D = none) (hl : h'.get? D = some (listOf ([] : List Value).toArray n)) (hk : ∀ b o, b ∉ [H.objs.size] → (H.push x).get? b = some o → h'.get? b = some o) :
    News g L h' ((D, listOf ([] : List Value).toArray n) :: nx) := fun p hp => by
  have up : ∀ b o, H.get? b = some o → h'.get? b = some o := fun b o e => hk b o (comp_I e) (Heap.get?_push_of_some _ e)
  have old : ∀ b o, H.get? b = some o → b ≠ D := fun b o e q => by
    have := Heap.get?_push_of_some x e
    rw [q, hD] at this; cases this
  rcases List.mem_cons.mp hp with rfl | hp
  · refine ⟨hl, fun q => ?_, ?_⟩
    · obtain ⟨o, _, _, e, _⟩ := F.ns
      exact old _ _ e q.symm
    · cases q : g.get? D with
      | none => rfl
      | some o => exact absurd rfl (old _ _ (F.keep _ _ q))
  · exact ⟨up _ _ (N p hp).1, (N p hp).2⟩
theorem comp_nil {vs : List Value} {ys : Array Value} {F : Value → Value → Prop} (h : Paired F (vs.filter fun _ => false) ys.toList) : ys = #[] := by
  have e : vs.filter (fun _ => false) = [] := by induction vs <;> simp_all
  rw [e] at h
  obtain ⟨l⟩ := ys
  cases l with
  | nil => rfl
  | cons a r => cases h
theorem reg_C18_3 : True := by
  k_with "m cls" => with_reducible assumption
  k_with "eval ListComp" => refine stop_here ?_
  k_with "subscriptTail Name Name ref int" => ((refine' kda_item (knd := PySem.intKind _ _) ?zqn ?zqm ?zqd (intKind_is _ _ _ _) ?zqv ?_ ?zqs ?zqg); (case zqn => with_reducible assumption); (case zqm => k_mem); (case zqd => with_reducible assumption); (case zqv => with_reducible assumption); (case zqs => with_unfolding_all exact rfl); (case zqg => (intro _; with_unfolding_all exact rfl)))
  k_with "compareOp NotEq ref ref" => ((with_reducible show wpAny _ _ (compareOp CmpOp.NotEq (Value.ref _) (Value.ref _)) _ _ _); (with_unfolding_all refine' ne_intsK ?zqk1 ?zqk2 ?zqk3 ?zqk4 ?zqk5 ?_; (case zqk1 => exact News.isList (by with_reducible assumption) (by k_mem)); (case zqk2 => with_reducible assumption); (case zqk3 => exact News.isList (by with_reducible assumption) (by k_mem)); (case zqk4 => with_reducible assumption); (case zqk5 => units_room)))
  k_with "compareOp NotEq ref ref" => ((with_reducible show wpAny _ _ (compareOp CmpOp.NotEq (Value.ref _) (Value.ref _)) _ _ _); (with_unfolding_all refine' ne_intsK (us := []) (ms := []) ?zqk1 ?zqk2 ?zqk3 ?zqk4 ?zqk5 ?_; (case zqk1 => exact News.isList (by with_reducible assumption) (by k_mem)); (case zqk2 => with_reducible assumption); (case zqk3 => exact News.isList (by with_reducible assumption) (by k_mem)); (case zqk4 => exact IntsAre.nil); (case zqk5 => units_room)))
  k_with "call builtin:list.pop" => (k_dflt (refine' kl_pop ?zqF ?zqN ?zqe ?zqU ?zqz ?_; (case zqF => k_asm); (case zqN => k_asm); (case zqU => k_upd); (case zqe => exact last_snoc _ _); (case zqz => (rw [sizeLine_eq]; exact Nat.le_trans (m := 100) (by assumption) (by decide)))); intro _ _ zN'; (try dsimp only at zN'))
  k_with "setItem ref int" => (k_dflt (refine' kda_set (knd := PySem.intKind _ _) ?zqF ?zqN ?zqU ?zqd (intKind_is _ _ _ _) ?zqz ?_; (case zqF => k_asm); (case zqN => k_asm); (case zqU => k_updF); (case zqd => k_asm); (case zqz => (rw [List.length_map, sizeLine_eq]; first | exact Nat.le_trans (by with_reducible assumption) (by decide) | omega))); intro _ _ _ zN' _; (try dsimp only at zN'))
  trivial
theorem cutF {w : World} {A : Around} {s₁ : Shared} {E : Value → Shared → Prop} {Q : Flow → Shared → Prop} {x : Sem Flow} (M : Flow → Shared → Prop) (h1 : wpAny (model PG w) A x M E s₁) (h2 : ∀ v s', M v s' → Q v s') : wpAny (model PG w) A x Q E s₁ := wpAny_mono h1 h2 (fun _ _ z => z)
theorem cutV {w : World} {A : Around} {s₁ : Shared} {E Q : Value → Shared → Prop} {x : Sem Value} (M : Value → Shared → Prop) (h1 : wpAny (model PG w) A x M E s₁) (h2 : ∀ v s', M v s' → Q v s') : wpAny (model PG w) A x Q E s₁ := wpAny_mono h1 h2 (fun _ _ z => z)
/-- a statement that goes on, with the ledger as it was and a known frame -/
inductive MidA (g : Heap) (L : Addr) (s : Shared) (nx : List (Addr × Obj)) (hb : Tok → List (Str × Value)) (f : Flow) (s' : Shared) : Prop
  | mk (p0 : f = .next) (h' : _) (tk : _) (m' : _) (tS : _) (q0 : s' = { s with heap := h', toks := tk }) (q1 : Fr g L h' m') (q2 : News g L h' nx) (q3 : Has m' (hb tS)) : MidA g L s nx hb f s'
inductive MidI (g : Heap) (L : Addr) (s : Shared) (m : Str → Option Value) (nx : List (Addr × Obj)) (z : Int) (v : Value) (s' : Shared) : Prop
  | mk (t' : _) (h' : _) (tk : _) (q0 : v = .int z t') (q1 : s' = { s with heap := h', toks := tk }) (q2 : Fr g L h' m) (q3 : News g L h' nx) : MidI g L s m nx z v s'
theorem cutI {w : World} {A : Around} {g h : Heap} {L : Addr} {s s₁ : Shared} {m : Str → Option Value} {nx : List (Addr × Obj)} {E Q : Value → Shared → Prop} {x : Sem Value} (z : Int) (_ : Fr g L h m) (_ : News g L h nx) (h1 : wpAny (model PG w) A x (MidI g L s m nx z) E s₁) (h2 : ∀ v s', MidI g L s m nx z v s' → Q v s') : wpAny (model PG w) A x Q E s₁ := wpAny_mono h1 h2 (fun _ _ z => z)
theorem cutA {w : World} {A : Around} {g h : Heap} {L : Addr} {s s₁ : Shared} {m : Str → Option Value} {nx : List (Addr × Obj)} {E : Value → Shared → Prop} {Q : Flow → Shared → Prop} {x : Sem Flow} (hb : Tok → List (Str × Value)) (_ : Fr g L h m) (_ : News g L h nx) (h1 : wpAny (model PG w) A x (MidA g L s nx hb) E s₁) (h2 : ∀ v s', MidA g L s nx hb v s' → Q v s') : wpAny (model PG w) A x Q E s₁ := wpAny_mono h1 h2 (fun _ _ z => z)
def badN (bad q : Bool) (c : Nat) (ps : List Nat) : Bool := bad || (decide (c = 41) && (!q && decide (ps = [])))
def lvN (q : Bool) (c : Nat) (bad : Bool) (n : Int) : Int := if q = true ∨ c = 39 then -1 else if bad = true then -2 else n
theorem bad_yes {bad q : Bool} {c : Nat} {ps : List Nat} (h1 : c = 41) (h2 : (!q) = true) (h3 : decide (List.map (fun k : Nat => (k : Int)) ps = []) = true) : badN bad q c ps = true := by
  have : ps = [] := List.map_eq_nil_iff.mp (of_decide_eq_true h3)
  unfold badN; rw [h1, h2, this]; simp
theorem bad_no1 {bad q : Bool} {c : Nat} {ps : List Nat} (h1 : c ≠ 41) : badN bad q c ps = bad := by unfold badN; rw [decide_eq_false h1]; simp
theorem bad_no2 {bad q : Bool} {c : Nat} {ps : List Nat} (h2 : (!q) = false) : badN bad q c ps = bad := by unfold badN; rw [h2]; simp
theorem bad_no3 {bad q : Bool} {c : Nat} {ps : List Nat} (h3 : decide (List.map (fun k : Nat => (k : Int)) ps = []) = false) : badN bad q c ps = bad := by
  have : ps ≠ [] := fun e => of_decide_eq_false h3 (by rw [e]; rfl)
  unfold badN; rw [decide_eq_false this]; simp
theorem bad_yes' {bad q : Bool} {c : Nat} {ps : List Nat} (h1 : c = 41) (h2 : q = false) (h3 : decide (List.map (fun k : Nat => (k : Int)) ps = []) = true) : badN bad q c ps = true := bad_yes h1 (by rw [h2]; rfl) h3
theorem bad_no2' {bad q : Bool} {c : Nat} {ps : List Nat} (h2 : q = true) : badN bad q c ps = bad := bad_no2 (by rw [h2]; rfl)
theorem br_still {l ps : List Nat} {es : List (Int × Int)} {q bad : Bool} {c : Nat} (H : Br l ps es q bad) (h : dq' q c = true ∨ badN bad (dq' q c) c ps = true ∨ (c ≠ 40 ∧ c ≠ 41)) :
    Br (l ++ [c]) ps es (dq' q c) (badN bad (dq' q c) c ps) ∧ dv (dfold l).2.1 (dfold l).2.2 c = lvN (dq' q c) c (badN bad (dq' q c) c ps) ps.length := by
  by_cases c39 : c = 39
  · subst c39
    rw [bad_no1 (by decide), dq_39]
    exact ⟨H.tick, by unfold lvN; rw [if_pos (.inr rfl)]; exact dv39⟩
  · rw [dq_no c39] at h ⊢
    rw [H.qu]
    cases q
    · cases bad
      · by_cases ho : c = 41 ∧ ps = []
        · obtain ⟨rfl, rfl⟩ := ho
          have e : badN false false 41 [] = true := rfl
          rw [e]
          exact ⟨H.over, by rw [H.b0 rfl]; rfl⟩
        · have e : badN false false c ps = false := by
            unfold badN
            by_cases h1 : c = 41
            · rw [decide_eq_false (fun q => ho ⟨h1, q⟩)]; simp
            · rw [decide_eq_false h1]; simp
          rw [e] at h ⊢
          obtain ⟨h1, h2⟩ : c ≠ 40 ∧ c ≠ 41 := by
            rcases h with h | h | h
            · cases h
            · cases h
            · exact h
          refine ⟨H.plain c39 h1 h2, ?_⟩
          rw [H.b0 rfl, dvo c39 h1 h2]
          unfold lvN
          rw [if_neg (by simp [c39]), if_neg (by decide)]
      · have e : badN true false c ps = true := rfl
        rw [e]
        refine ⟨H.worse c39, ?_⟩
        rw [H.b1 rfl, dvb c39]
        unfold lvN
        rw [if_neg (by simp [c39]), if_pos rfl]
    · rw [bad_no2 rfl]
      exact ⟨H.inner c39, by rw [dvq]; unfold lvN; rw [if_pos (.inl rfl)]⟩
theorem calm {q bad : Bool} {c : Nat} {ps : List Nat} (h39 : c ≠ 39) (h1 : dq' q c = false) (h2 : badN bad (dq' q c) c ps = false) : q = false ∧ bad = false := by
  rw [dq_no h39] at h1
  subst h1
  refine ⟨rfl, ?_⟩
  unfold badN at h2
  cases bad
  · rfl
  · cases h2
theorem br_open {l ps : List Nat} {es : List (Int × Int)} {q bad : Bool} {c : Nat} (H : Br l ps es q bad) (hc : c = 40) (h1 : dq' q c = false) (h2 : badN bad (dq' q c) c ps = false) :
    Br (l ++ [c]) (ps ++ [l.length]) (es ++ [((l.length : Int), -1)]) (dq' q c) (badN bad (dq' q c) c ps) ∧ dv (dfold l).2.1 (dfold l).2.2 c = lvN (dq' q c) c (badN bad (dq' q c) c ps) ps.length := by
  subst hc
  obtain ⟨rfl, rfl⟩ := calm (by decide) h1 h2
  rw [h2, h1]
  refine ⟨H.opened, ?_⟩
  rw [H.qu, H.b0 rfl]
  exact dv40 (by omega)
theorem br_close {l ps : List Nat} {es : List (Int × Int)} {q bad : Bool} {c : Nat} (H : Br l ps es q bad) (hc : c = 41) (h1 : dq' q c = false) (h2 : badN bad (dq' q c) c ps = false) :
    ∃ (ps0 : List Nat) (a : Nat), ps = ps0 ++ [a] ∧ Br (l ++ [c]) ps0 (upd es a l.length) (dq' q c) (badN bad (dq' q c) c ps) ∧ dv (dfold l).2.1 (dfold l).2.2 c = lvN (dq' q c) c (badN bad (dq' q c) c ps) ps0.length := by
  subst hc
  obtain ⟨rfl, rfl⟩ := calm (by decide) h1 h2
  rcases nil_or_snoc ps with rfl | ⟨ps0, a, rfl⟩
  · cases h2
  · rw [h2, h1]
    refine ⟨ps0, a, rfl, H.closed, ?_⟩
    rw [H.qu, H.b0 rfl, List.length_append]
    exact dv41
theorem not_t {b : Bool} (h : (!b) = true) : b = false := by cases b <;> simp_all
theorem not_f {b : Bool} (h : (!b) = false) : b = true := by cases b <;> simp_all
inductive MidB (w : World) (g : Heap) (L I d p : Addr) (s : Shared) (oI : Obj) (rest : List (Addr × Obj)) (l : List Nat) (c i : Nat) (q bad : Bool) (z : Int) (hb : Tok → List (Str × Value)) (f : Flow) (s' : Shared) : Prop
  | mk (p0 : f = .next) (h' : Heap) (tk : Tok) (m' : Str → Option Value) (oe' : Obj) (vp' : List Value) (n1' : Nat) (ts' : List (Int × Int × Tok)) (ps' : List Nat) (lev : Int) (tl tS : Tok) (q0 : s' = { s with heap := h', toks := tk }) (q1 : Fr g L h' m') (q2 : News g L h' ((I, oI) :: (d, oe') :: (p, listOf vp'.toArray n1') :: rest)) (q3 : Obj.IsDictOf (intKind PG w) oe' (ts'.map fT)) (q4 : IntsAre vp' (ps'.map (fun k : Nat => (k : Int)))) (q5 : Br (l ++ [c]) ps' (ts'.map gT) q bad) (q6 : z = lvN q c bad lev) (q7 : ps'.length ≤ i + 1) (q8 : ts'.length ≤ i + 1) (q9 : (∀ a ∈ ps', ∃ t ∈ ts', t.1 = (a : Int))) (q10 : Has m' ((Str.ofString "level", .int lev tl) :: hb tS)) : MidB w g L I d p s oI rest l c i q bad z hb f s'
theorem cutB {w : World} {A : Around} {g h : Heap} {L I d p : Addr} {s s₁ : Shared} {oI oe op : Obj} {m : Str → Option Value} {rest : List (Addr × Obj)} {E : Value → Shared → Prop} {Q : Flow → Shared → Prop} {x : Sem Flow} (l : List Nat) (c i : Nat) (q bad : Bool) (hb : Tok → List (Str × Value)) (_ : Fr g L h m) (_ : News g L h ((I, oI) :: (d, oe) :: (p, op) :: rest)) (h1 : wpAny (model PG w) A x (MidB w g L I d p s oI rest l c i q bad (dv (dfold l).2.1 (dfold l).2.2 c) hb) E s₁) (h2 : ∀ v s', MidB w g L I d p s oI rest l c i q bad (dv (dfold l).2.1 (dfold l).2.2 c) hb v s' → Q v s') : wpAny (model PG w) A x Q E s₁ := wpAny_mono h1 h2 (fun _ _ z => z)
theorem lv_q {q b : Bool} {c : Nat} {n : Int} (h : q = true) : (-1 : Int) = lvN q c b n := by unfold lvN; rw [if_pos (.inl h)]
theorem lv_39 {q b : Bool} {c : Nat} {n : Int} (h : c = 39) : (-1 : Int) = lvN q c b n := by unfold lvN; rw [if_pos (.inr h)]
theorem int_eq {a b : Int} {t : Tok} (h : a = b) : Value.int a t = Value.int b t := by rw [h]
theorem no_q {q : Bool} {c : Nat} (h1 : q = false) (h2 : c ≠ 39) : ¬ (q = true ∨ c = 39) := by
  rintro (h | h)
  · rw [h1] at h; cases h
  · exact h2 h
theorem lv_b {q b : Bool} {c : Nat} {n : Int} (h1 : q = false) (h2 : c ≠ 39) (h3 : b = true) : (-2 : Int) = lvN q c b n := by
  unfold lvN; rw [if_neg (no_q h1 h2), if_pos h3]
theorem lv_n {q b : Bool} {c : Nat} {n : Int} (h1 : q = false) (h2 : c ≠ 39) (h3 : b = false) : n = lvN q c b n := by
  unfold lvN; rw [if_neg (no_q h1 h2), if_neg (by rw [h3]; decide)]
theorem reg_C18_4 : True := by
  k_with "exec If" => refine stop_here ?_
  k_with "eval IfExp" => refine stop_here ?_
  trivial
theorem lt12 {n i : Nat} (h : (n : Int) < 9) (h2 : i < 2 + n - 0) : i < 12 := by omega
theorem sum_le {B i : Nat} (h : B ≤ 90000) (h2 : i ≤ 20) : B + 1 + i ≤ 100000 := by omega
theorem c_brackets (w : World) (pd pl : Addr) (B : Nat) (hB : B ≤ 90000) : CtrP w 7 406 pd pl [.ref pd] B (B + 40) (fun _ : Tok => .bool true) (fun _ _ _ => True) := by
  walk_at "m enterC"
  intro dp un gd fr mean mg mb s L h₁ tk g od ol cells hdp hun X T hg hne hP hlt F N Y
  have hneN := neN hne
  have hneN' := neN (Ne.symm hne)
  have hlt1 := ltN hlt.1
  have hlt2 := ltN hlt.2
  k_cells Y
  simp only [List.cons_append, List.nil_append] at N
  have F : Fr g L h₁ (fun y => if y = Str.ofString "purse" then some (.ref pd) else none) := F
  walk_at "m steps"
  rename IsRange _ _ _ _ _ _ _ _ => R
  with_reducible rename Fr _ _ _ _ => F
  with_reducible rename News _ _ _ _ => N
  with_reducible rename Pu _ _ _ _ _ => P
  rename (_ < (9 : Int)) => h9
  rename Obj.IsDictOf _ _ _ => hD
  have lb : (Str.ofString "()'A)(=,").length = 8 := by decide +kernel
  refine for_rangeN 0 (2 + _) (h₀ := g) (L := L) rfl R (by omega) (by omega) F N (BI w L pd pl B)
    ⟨_, _, _, _, _, _, _, _, [], [], [], [], [], false, false, _, _, _, rfl, by assumption, by assumption, P, by assumption, hD, .nil, .nil, rfl, Br.nil, Nat.le_refl _, Nat.le_refl _, (fun _ h => nomatch h), ⟨by omega, by omega, by omega⟩, rfl, rfl, rfl, rfl, rfl, trivial⟩ ?_ ?_ PassesOwn.never
  · rintro i u m nx h tk I oI hi ⟨d, p, v, oe, oE, oR, n1, n2, vp, vl, ts, l, ps, q, bad, tr, od, ol, rfl, hE, hR, P, hds, hD, hvp, hvl, hli, hBr, hpsl, htsl, hky, ho, hm⟩ hn F N
    have o1 := ho.1
    have o2 := ho.2.1
    have o3 := ho.2.2
    have hn' := hn
    simp only [List.forall_mem_cons] at hn'
    have m1 := neN hn'.1
    have m2 := neN hn'.2.1
    have m3 := neN hn'.2.2.1
    have m4 := neN hn'.2.2.2.1
    have m5 := neN hn'.2.2.2.2.1
    have m6 := neN hn'.2.2.2.2.2.1
    have m7 := neN hn'.2.2.2.2.2.2.1
    (try dsimp only at m1 m2 m3 m4 m5 m6 m7)
    have hnI : d ≠ I ∧ p ≠ I ∧ v ≠ I ∧ L + 1 + 1 ≠ I ∧ L + 1 ≠ I ∧ pd ≠ I ∧ pl ≠ I := ⟨m1, m2, m3, m4, m5, m6, m7⟩
    have hi9 : i < 12 := lt12 h9 hi
    clear hi
    have hlx : (tx l).length = l.length := len_tx l
    have p1 : @LT.lt Nat _ v d := Nat.lt_trans o1 o2
    have p2 : @LT.lt Nat _ (L + 1) v := Nat.lt_trans (Nat.lt_succ_self _) o3
    have p3 : @LT.lt Nat _ pd (L + 1) := Nat.lt_succ_of_lt hlt1
    have p4 : @LT.lt Nat _ pl (L + 1) := Nat.lt_succ_of_lt hlt2
    have p5 : @LT.lt Nat _ pd (L + 1 + 1) := Nat.lt_succ_of_lt p3
    have p6 : @LT.lt Nat _ pl (L + 1 + 1) := Nat.lt_succ_of_lt p4
    have p7 : @LT.lt Nat _ pd v := Nat.lt_trans p5 o3
    have p8 : @LT.lt Nat _ pl v := Nat.lt_trans p6 o3
    have p9 : @LT.lt Nat _ pd p := Nat.lt_trans p7 o1
    have p10 : @LT.lt Nat _ pl p := Nat.lt_trans p8 o1
    have p11 : @LT.lt Nat _ pd d := Nat.lt_trans p7 p1
    have p12 : @LT.lt Nat _ pl d := Nat.lt_trans p8 p1
    have p13 : @LT.lt Nat _ (L + 1 + 1) p := Nat.lt_trans o3 o1
    have p14 : @LT.lt Nat _ (L + 1 + 1) d := Nat.lt_trans o3 p1
    have p15 : @LT.lt Nat _ (L + 1) p := Nat.lt_trans p2 o1
    have p16 : @LT.lt Nat _ (L + 1) d := Nat.lt_trans p2 p1
    have p17 : @LT.lt Nat _ (L + 1) (L + 1 + 1) := Nat.lt_succ_self _
    have hvpl := hvp.length
    rw [List.length_map] at hvpl
    have hvll : vl.length = l.length := by rw [hvl.length, levels_len]
    have hqu := hBr.qu
    have b0 : i ≤ 20 := Nat.le_trans (Nat.le_of_lt hi9) (by decide)
    have b1 : l.length ≤ 20 := by rw [hli]; exact b0
    have b2 : (tx l).length ≤ 20 := by rw [hlx]; exact b1
    have b3 : ps.length ≤ 20 := Nat.le_trans hpsl b0
    have b4 : ts.length ≤ 20 := Nat.le_trans htsl b0
    have b5 : vp.length ≤ 20 := by rw [hvpl]; exact b3
    have b6 : vl.length ≤ 20 := by rw [hvll]; exact b1
    have b7 : B + 1 + i ≤ 100000 := sum_le hB b0
    have F := knows F hm
    refine wpAny_assign_Name (storeX_L F N (fun h' F N => ?_) rfl rfl)
    k_fold
    walk_at "m steps"
    rename (_ < (8 : Int)) => h8
    with_reducible rename Fr _ _ _ _ => F
    with_reducible rename News _ _ _ _ => N
    with_reducible rename Pu _ _ _ _ _ => P
    refine item_lt (by rw [lb]; exact Int.ofNat_lt.mp h8) (by rw [lb]; decide) (fun c hc => ?_) (by with_unfolding_all exact rfl) (by intro _; with_unfolding_all exact rfl)
    clear hc h8
    walk_at "m steps"
    with_reducible rename Fr _ _ _ _ => F
    with_reducible rename News _ _ _ _ => N
    refine cutA (s := s) (fun tS => [(Str.ofString "sign", .str ⟨#[c]⟩ tS), (Str.ofString "purse", .ref pd), (Str.ofString "levels", .ref v), (Str.ofString "pile", .ref p), (Str.ofString "is_quoted", .bool (dq' q c)), (Str.ofString "is_bad", .bool bad)]) F N ?_ fun f s' hf => ?_
    · refine wpAny_If ?_
      walk_at "m steps"
      · with_reducible rename Fr _ _ _ _ => F
        with_reducible rename News _ _ _ _ => N
        rename (c = 39) => hc
        rw [show dq' q c = !q from by rw [hc]; rfl]
        exact ⟨rfl, _, _, _, _, rfl, F, N, rfl, rfl, rfl, rfl, rfl, rfl, trivial⟩
      · rename (c ≠ 39) => hc
        rw [dq_no hc]
        exact ⟨rfl, _, _, _, _, rfl, F, N, rfl, rfl, rfl, rfl, rfl, rfl, trivial⟩
    clear F N
    obtain ⟨rfl, h', tk, m', tS, rfl, F, N, hm⟩ := hf
    have F := knows F hm
    generalize hq' : dq' q c = q' at *
    walk_at "m steps"
    refine cutA (s := s) (fun tS => [(Str.ofString "sign", .str ⟨#[c]⟩ tS), (Str.ofString "purse", .ref pd), (Str.ofString "levels", .ref v), (Str.ofString "pile", .ref p), (Str.ofString "is_quoted", .bool q'), (Str.ofString "is_bad", .bool (badN bad q' c ps))]) F N ?_ fun f s' hf => ?_
    · refine wpAny_If ?_
      walk_at "m steps"
      all_goals (with_reducible rename Fr _ _ _ _ => F)
      all_goals (with_reducible rename News _ _ _ _ => N)
      all_goals first
        | (rw [bad_yes' (by assumption) (by assumption) (by assumption)]; first | exact ⟨rfl, _, _, _, _, rfl, F, N, rfl, rfl, rfl, rfl, rfl, rfl, trivial⟩ | exact ⟨rfl, _, _, _, _, rfl, F, news_out N, rfl, rfl, rfl, rfl, rfl, rfl, trivial⟩)
        | (rw [bad_no1 (by assumption)]; exact ⟨rfl, _, _, _, _, rfl, F, N, rfl, rfl, rfl, rfl, rfl, rfl, trivial⟩)
        | (rw [bad_no2' (by assumption)]; exact ⟨rfl, _, _, _, _, rfl, F, N, rfl, rfl, rfl, rfl, rfl, rfl, trivial⟩)
        | (rw [bad_no3 (by assumption)]; first | exact ⟨rfl, _, _, _, _, rfl, F, N, rfl, rfl, rfl, rfl, rfl, rfl, trivial⟩ | exact ⟨rfl, _, _, _, _, rfl, F, news_out N, rfl, rfl, rfl, rfl, rfl, rfl, trivial⟩)
    clear F N
    obtain ⟨rfl, h', tk, m', tS, rfl, F, N, hm⟩ := hf
    have F := knows F hm
    generalize hb' : badN bad q' c ps = bad' at *
    walk_at "m steps"
    with_reducible rename Fr _ _ _ _ => F
    with_reducible rename News _ _ _ _ => N
    (first | rw [List.length_map] at F | rw [hvpl] at F)
    refine cutB (s := s) l c i q' bad' (fun tS => [(Str.ofString "sign", .str ⟨#[c]⟩ tS), (Str.ofString "purse", .ref pd), (Str.ofString "levels", .ref v), (Str.ofString "pile", .ref p), (Str.ofString "is_quoted", .bool q'), (Str.ofString "is_bad", .bool bad')]) F N ?_ fun f s' hf => ?_
    · refine wpAny_If ?_
      have still : q' = true ∨ bad' = true ∨ (c ≠ 40 ∧ c ≠ 41) → Br (l ++ [c]) ps (ts.map gT) q' bad' ∧ dv (dfold l).2.1 (dfold l).2.2 c = lvN q' c bad' ps.length := fun h => by
        have := br_still hBr (c := c) (by rw [hq', hb']; exact h)
        rwa [hq', hb'] at this
      cases q'
      · cases bad'
        · by_cases c40 : c = 40
          · obtain ⟨b1, b2⟩ := br_open hBr c40 hq' (by rw [hq']; exact hb')
            rw [hq', hb'] at b1 b2
            clear still
            subst c40
            walk_at "m steps"
            refine wpAny_If ?_
            walk_at "m steps"
            with_reducible rename Fr _ _ _ _ => F
            with_reducible rename News _ _ _ _ => N
            rename (Obj.IsDictOf _ _ (stored _ _ _)) => hD2
            rw [hlx] at hD2 N
            rw [st_new (key_new hBr)] at hD2
            rw [List.push_toArray vp] at N
            exact ⟨rfl, _, _, _, _, _, _, _, ps ++ [l.length], _, _, _, rfl, F, N, hD2, by rw [List.map_append]; exact ints_snoc hvp _ _, by rw [List.map_append]; exact b1, b2, by rw [List.length_append, List.length_singleton]; exact Nat.succ_le_succ hpsl, by rw [List.length_append, List.length_singleton]; exact Nat.succ_le_succ htsl, key_open hky, rfl, rfl, rfl, rfl, rfl, rfl, rfl, trivial⟩
          · have e40 := char_no (y := Str.ofString "(") (by decide +kernel) c40
            by_cases c41 : c = 41
            · obtain ⟨ps0, a, rfl, b1, b2⟩ := br_close hBr c41 hq' (by rw [hq']; exact hb')
              rw [hq', hb'] at b1 b2
              have hvp2 : IntsAre vp (ps0.map (fun k : Nat => (k : Int)) ++ [(a : Int)]) := by rw [List.map_append] at hvp; exact hvp
              obtain ⟨vp0, ta, rfl, hvp0⟩ := ints_last hvp2
              clear hvp2 still
              have hv0 : (vp0 ++ [Value.int a ta]).length ≤ 100 := Nat.le_trans b5 (by decide)
              have hv1 : vp0.length ≤ 100 := by rw [List.length_append] at hv0; exact Nat.le_trans (Nat.le_add_right _ _) hv0
              have hv3 : ps0.length ≤ 20 := by rw [List.length_append] at b3; exact Nat.le_trans (Nat.le_add_right _ _) b3
              have hv2 := hvp0.length
              rw [List.length_map] at hv2
              have hka := hky a (by simp)
              subst c41
              walk_at "m steps"
              refine wpAny_If ?_
              walk_at "m steps"
              refine wpAny_If ?_
              walk_at "m steps"
              with_reducible rename Fr _ _ _ _ => F
              with_reducible rename News _ _ _ _ => N
              rename (Obj.IsDictOf _ _ (stored _ _ _)) => hD2
              rw [hlx] at hD2
              rw [st_old hka] at hD2
              (first | rw [hv2] at F | rw [List.length_map] at F)
              exact ⟨rfl, _, _, _, _, _, _, _, ps0, _, _, _, rfl, F, N, hD2, hvp0, by rw [gT_upd]; exact b1, b2, by rw [List.length_append, List.length_singleton] at hpsl; exact Nat.le_succ_of_le (Nat.le_of_succ_le hpsl), by unfold updT; rw [List.length_map]; exact Nat.le_succ_of_le htsl, fun b hb => key_upd (hky b (List.mem_append_left _ hb)), rfl, rfl, rfl, rfl, rfl, rfl, rfl, trivial⟩
            · have e41 := char_no (y := Str.ofString ")") (by decide +kernel) c41
              have ha14 := still (.inr (.inr ⟨c40, c41⟩))
              have b1 := ha14.1
              have b2 := ha14.2
              walk_at "m steps"
              refine wpAny_If ?_
              walk_at "m steps"
              refine wpAny_If ?_
              walk_at "m steps"
              exact ⟨rfl, _, _, _, _, _, _, _, ps, _, _, _, rfl, F, N, hD, hvp, b1, b2, Nat.le_succ_of_le hpsl, Nat.le_succ_of_le htsl, hky, rfl, rfl, rfl, rfl, rfl, rfl, rfl, trivial⟩
        · have ha15 := still (.inr (.inl rfl))
          have b1 := ha15.1
          have b2 := ha15.2
          walk_at "m steps"
          exact ⟨rfl, _, _, _, _, _, _, _, ps, _, _, _, rfl, F, N, hD, hvp, b1, b2, Nat.le_succ_of_le hpsl, Nat.le_succ_of_le htsl, hky, rfl, rfl, rfl, rfl, rfl, rfl, rfl, trivial⟩
      · have ha16 := still (.inl rfl)
        have b1 := ha16.1
        have b2 := ha16.2
        walk_at "m steps"
        exact ⟨rfl, _, _, _, _, _, _, _, ps, _, _, _, rfl, F, N, hD, hvp, b1, b2, Nat.le_succ_of_le hpsl, Nat.le_succ_of_le htsl, hky, rfl, rfl, rfl, rfl, rfl, rfl, rfl, trivial⟩
    clear F N hm
    obtain ⟨rfl, h', tk, m', oe', vp', n1', ts', ps', lev, tl, tS, rfl, F, N, hD', hvp', hB', hz, hps', hts', hky', hm⟩ := hf
    have F := knows F hm
    walk_at "m steps"
    with_reducible rename Fr _ _ _ _ => F
    with_reducible rename News _ _ _ _ => N
    refine cutI (s := s) (lvN q' c bad' lev) F N ?_ fun v' s' hv => ?_
    · refine IfExp_ ?_
      walk_at "m steps"
      all_goals first
        | ((with_reducible rename Fr _ _ _ _ => F); (with_reducible rename News _ _ _ _ => N); exact ⟨_, _, _, int_eq (lv_q (by assumption)), rfl, F, N⟩)
        | ((with_reducible rename Fr _ _ _ _ => F); (with_reducible rename News _ _ _ _ => N); exact ⟨_, _, _, int_eq (lv_39 (by assumption)), rfl, F, N⟩)
        | (refine IfExp_ ?_
           walk_at "m steps"
           all_goals (with_reducible rename Fr _ _ _ _ => F)
           all_goals (with_reducible rename News _ _ _ _ => N)
           all_goals first
             | exact ⟨_, _, _, int_eq (lv_b (by assumption) (by assumption) (by assumption)), rfl, F, N⟩
             | exact ⟨_, _, _, int_eq (lv_n (by assumption) (by assumption) (by assumption)), rfl, F, N⟩)
    clear F N
    obtain ⟨t', h', tk, rfl, rfl, F, N⟩ := hv
    walk_at "m steps"
    with_reducible rename Fr _ _ _ _ => F
    with_reducible rename News _ _ _ _ => N
    rename (_ = Data.cell (some (Value.str _ _))) => hR'
    exact bi_end F N hnI hE hR' P hds hD' hvp' hvl hz hli hB' hps' hts' hky' ho ⟨rfl, rfl, rfl, rfl, rfl, trivial⟩
  · rintro m nx h tk ⟨d, p, v, oe, oE, oR, n1, n2, vp, vl, ts, l, ps, q, bad, tr, od, ol, rfl, hE, hR, P, hds, hD, hvp, hvl, hli, hBr, hpsl, htsl, hky, ho, hm⟩ F N
    have o1 := ho.1
    have o2 := ho.2.1
    have o3 := ho.2.2
    have hlx : (tx l).length = l.length := len_tx l
    have F := knows F hm
    have hne0 : (!decide (depthsF (tx l) = (dfold l).1)) = false := by unfold depthsF; rw [show (tx l).cps.toList = l from sg_tx l]; simp
    have hlen : (tx l).length ≤ 1000 := by omega
    have key : (bad = false ∧ ps = []) ∨ (isBal (tx l) = false ∧ (bad = false → (!decide (List.map (fun k : Nat => (k : Int)) ps = [])) = true)) := by
      rw [isBal_depth]
      cases bad
      · cases ps with
        | nil => exact .inl ⟨rfl, rfl⟩
        | cons a r =>
          have e := hBr.b0 rfl
          rw [List.length_cons] at e
          exact .inr ⟨by rw [beq_eq_false_iff_ne]; omega, fun _ => by simp⟩
      · have e := hBr.b1 rfl
        exact .inr ⟨by rw [beq_eq_false_iff_ne, e]; decide, fun h => by cases h⟩
    have hcls : isBal (tx l) = false → clsOk (tx l) ∧ (classifyF (tx l) != Str.ofString "") = false := fun h => by
      refine ⟨fun q => absurd q (by rw [h]; decide), ?_⟩
      unfold classifyF
      rw [if_neg (by rw [h]; decide)]
      decide +kernel
    walk_at "m steps"
    with_reducible rename Fr _ _ _ _ => F
    with_reducible rename News _ _ _ _ => N
    refine cutA (s := s) (fun _ => []) F N ?_ fun f s' hf => ?_
    · refine wpAny_If ?_
      rcases key with ⟨rfl, rfl⟩ | ⟨hb, hp⟩
      · have hpe : (!decide (List.map (fun k : Nat => (k : Int)) [] = [])) = false := rfl
        walk_at "m steps"
        with_reducible rename Fr _ _ _ _ => F
        with_reducible rename News _ _ _ _ => N
        exact ⟨rfl, _, _, _, (0 : Nat), rfl, F, by (first | exact N | exact news_out N | exact news_out (news_out N) | exact news_out (news_out (news_out N)) | exact news_out (news_out (news_out (news_out N)))), trivial⟩
      · have ha17 := hcls hb
        have hc1 := ha17.1
        have hc2 := ha17.2
        cases bad
        · have hpe := hp rfl
          walk_at "m steps"
          with_reducible rename Fr _ _ _ _ => F
          with_reducible rename News _ _ _ _ => N
          exact ⟨rfl, _, _, _, (0 : Nat), rfl, F, by (first | exact N | exact news_out N | exact news_out (news_out N) | exact news_out (news_out (news_out N)) | exact news_out (news_out (news_out (news_out N)))), trivial⟩
        · walk_at "m steps"
          with_reducible rename Fr _ _ _ _ => F
          with_reducible rename News _ _ _ _ => N
          exact ⟨rfl, _, _, _, (0 : Nat), rfl, F, by (first | exact N | exact news_out N | exact news_out (news_out N) | exact news_out (news_out (news_out N)) | exact news_out (news_out (news_out (news_out N)))), trivial⟩
    clear F N
    obtain ⟨rfl, h', tk, m', tS, rfl, F, N, -⟩ := hf
    walk_at "m steps"
    refine' wpAny_ListComp_free (fun _ => false) (fun _ _ => True) ?hclos1 ?hcell1 ?hkind1 ?hnames1 ?hx1 ?_ ?hs1
    (case hclos1 => with_unfolding_all exact rfl)
    (case hcell1 => decide)
    (case hkind1 => rfl)
    (case hnames1 => decide)
    (case hx1 => rfl)
    (case hs1 => (intro _; rfl))
    refine nameX_C N rfl (by k_mem) hE ?_ rfl rfl
    obtain ⟨ep, hDA⟩ := Heap.DictOf.dictAt (Heap.dictOf_iff.mpr ⟨oe, (N (d, oe) (by simp)).1, hD⟩)
    refine wpAny_pyIter_dict hds hDA ?_
    have hdI := Nat.ne_of_lt hDA.lt_size
    refine ⟨_, _, _, _, _, _, rfl, Walks.dictKeys rfl _ d hdI (ts.map fT) ep, ?_, ⟨⟨_, Heap.get?_push_size _ rfl, rfl, rfl⟩, hDA.push _⟩, ?_, ⟨?_, ?_⟩, ?_⟩
    · rw [List.length_map, sizeLine_eq]; first | exact Nat.le_trans (by with_reducible assumption) (by decide) | omega
    · intro b hb
      have := hDA.lt_size
      dsimp only at this
      rw [Heap.size_push]
      rcases List.mem_cons.mp hb with rfl | hb
      · exact Nat.lt_succ_self _
      · rw [List.mem_singleton.mp hb]; exact Nat.lt_succ_of_lt this
    · intro C i v s₃ m₃ E' hC ⟨k, xx, hkx, hkey⟩ hn hm hk htk
      obtain ⟨t, rfl⟩ := Value.isInt_shape hkey
      obtain ⟨y, hy1, hy2⟩ := value_in (List.mem_of_getElem? hkx)
      obtain ⟨t0, ht0, e0⟩ := List.mem_map.mp hy2
      obtain ⟨a, ha1, ha2, ha3, ha4⟩ := hBr.en _ (List.mem_map.mpr ⟨t0, ht0, rfl⟩)
      cases e0
      dsimp only at ha1 ha4
      rw [ha1] at hm hy1
      have F3 := comp_F F hC hn hk
      have N3 := comp_N N hC hk
      have F4 := known F3 hm
      clear F3 F N
      have hcl : (closeF (tx l) a != t0.2.1) = false := by rw [ha4]; simp
      refine wpAny_tests_one ?_
      walk_at "m steps"
      rename Heap.StaysIn _ _ => hst
      exact ⟨_, _, rfl, hst⟩
    · intro C i v s₃ m₃ E' hC hP hpv
      cases hpv
    · intro D h' tk ys vs hD0 hl hpl hlen hP hF hk
      have hy := comp_nil hF
      subst hy
      obtain ⟨nD, hpD⟩ := hpl
      have F5 := comp_F2 F hk
      have N5 := comp_N2 F N hD0 hpD hk
      clear F N
      walk_at "m steps"
      with_reducible rename Fr _ _ _ _ => F
      with_reducible rename News _ _ _ _ => N
      subst hg
      exact retP (0 : Nat) F N (by k_mem) (by k_mem) (P.mono (by omega)) (by rfl) trivial

end

theorem regc16 : True := by
  k_with_none
  k_with "m cases" => ((case zqho => k_is); (case zqhcd => k_is); (case zqhb => exact rfl); (case zqhlk => simp only [List.map_cons, List.map_nil, List.zip_cons_cons, List.zip_nil_left, List.zip_nil_right, List.reverse_cons, List.reverse_nil, List.nil_append, List.cons_append]; exact rfl); (case zqhl => exact locs rfl); (case zqc1 => exact rfl); (case zqc2 => exact rfl); (case zqc3 => exact rfl); (case zqc4 => decide))
  k_with "m room" => first | with_reducible assumption | exact lt_room (by with_reducible assumption) (by decide) | omega
  k_with "m nat" => first | with_reducible assumption | exact Nat.le_refl _ | exact Nat.le_succ _ | exact Nat.le_trans (by with_reducible assumption) (by decide) | exact Nat.le_trans (Nat.add_le_add_right (by with_reducible assumption) _) (by decide) | decide | omega
  k_with "m lt" => first | assumption | exact And.left (by assumption) | exact And.left (And.right (by assumption)) | exact And.left (And.right (And.right (by assumption))) | exact And.left (And.right (And.right (And.right (by assumption)))) | exact And.left (And.right (And.right (And.right (And.right (by assumption))))) | exact And.left (And.right (And.right (And.right (And.right (And.right (by assumption)))))) | exact And.left (And.right (And.right (And.right (And.right (And.right (And.right (by assumption))))))) | exact And.left (And.right (And.right (And.right (And.right (And.right (And.right (And.right (by assumption)))))))) | exact And.right (by assumption) | exact And.right (And.right (by assumption)) | exact And.right (And.right (And.right (by assumption))) | exact And.right (And.right (And.right (And.right (by assumption)))) | exact And.right (And.right (And.right (And.right (And.right (by assumption))))) | exact And.right (And.right (And.right (And.right (And.right (And.right (by assumption)))))) | exact And.right (And.right (And.right (And.right (And.right (And.right (And.right (by assumption)))))))
  k_with "m enter" => (refine' Ctr.enter ?zqho ?zqhcd ?zqhb ?zqhlk ?zqhl ?zqc1 ?zqc2 ?zqc3 ?zqc4 ?_; (k_extra "m cases"))
  k_with "m enterP" => (refine' CtrP.enter ?zqho ?zqhcd ?zqhb ?zqhlk ?zqhl ?zqc1 ?zqc2 ?zqc3 ?zqc4 ?_; (k_extra "m cases"))
  k_with "m enterT" => (refine' Ctr.enterT ?zqho ?zqhcd ?zqhb ?zqhlk ?zqhl ?zqc1 ?zqc2 ?zqc3 ?zqc4 ?_; (k_extra "m cases"))
  k_with "m init" => ((case zqhm => k_is); (case zqhi => k_is); (case zqhf => k_is); (case zqho => k_is); (case zqhcd => k_is); (case zqhb => (intro _ _ zX; first | exact BindsTo.of_eq rfl | exact binds_K zX rfl (by k_is) rfl rfl rfl)); (case zqhlk => (intro _; exact rfl)); (case zqhl => (intro _; exact locs rfl)); (case zqc1 => exact rfl); (case zqc2 => exact rfl); (case zqc3 => exact rfl); (case zqc4 => decide))
  k_with "m star" => with_reducible (first | exact st_Name | exact st_Constant | exact st_BinOp | exact st_Call | exact st_Subscript | exact st_Attribute | exact st_UnaryOp | exact st_Tuple | exact st_List)
  k_with "m plain" => first | with_reducible exact pl_nil | (with_reducible refine' pl_cons ?zqp1 ?zqp2; (case zqp1 => k_extra "m star"); (case zqp2 => k_extra "m plain"))
  k_with "execs cons" => (refine execs_seal ?_; intro _ _)
  k_with "exec If" => with_reducible refine wpAny_If ?_
  k_with "execs nil" => with_reducible refine wpAny_execs_nil ?_
  k_with "m open" => with_reducible (first | refine SealS.next (by assumption) ?_ | refine SealS.ret (by assumption) ?_ | refine SealS.brk (by assumption) ?_ | refine SealS.cont (by assumption) ?_)
  k_with "m steps" => ((repeat' (first | (k_unfold; (try dsimp only)) | walk1 | k_extra "m open" | (dsimp only; walk1) | fail "no step")) <;> (try dsimp only) <;> (try k_unfold) <;> (try dsimp only [ForStep, WhileStep2]) <;> (repeat (with_reducible refine SealS.ret (by assumption) ?_)))
  k_with "exec For Name Name cons nil" => ((with_reducible refine' for_start ?_ ?zqhs); (case zqhs => (intro _; k_dflt (exact rfl))))
  k_with "exec For Name Call cons nil" => ((with_reducible refine' for_start ?_ ?zqhs); (case zqhs => (intro _; k_dflt (exact rfl))))
  k_with "exec For Tuple Name cons nil" => ((with_reducible refine' for_start ?_ ?zqhs); (case zqhs => (intro _; k_dflt (exact rfl))))
  k_with "exec For Tuple Call cons nil" => ((with_reducible refine' for_start ?_ ?zqhs); (case zqhs => (intro _; k_dflt (exact rfl))))
  k_with "pyIter ref" => ((with_reducible show wpAny _ _ (pyIter _) (fun it s₂ => ForGo _ _ _ _ _ _ _ _ it s₂) _ _); refine stop_here ?_)
  k_with "pyIter str" => ((with_reducible show wpAny _ _ (pyIter _) (fun it s₂ => ForGo _ _ _ _ _ _ _ _ it s₂) _ _); refine stop_here ?_)
  k_with "exec While Compare cons nil" => refine stop_here ?_
  k_with "exec While BoolOp cons nil" => refine stop_here ?_
  k_with "callWith" => ((with_reducible refine' callWith_method1 ?_ ?zqm2 ?zqm3); (case zqm2 => k_extra "m star"); (case zqm3 => k_extra "m plain"))
  k_with "callWith" => ((with_reducible refine' PyProof.Rows.callWith_builtin1 ?_ ?zqm2 ?zqm3); (case zqm2 => k_extra "m star"); (case zqm3 => k_extra "m plain"))
  k_with "callWith" => with_reducible refine callWith_method0 ?_
  k_with "eval Call Attribute" => ((with_reducible refine' MethodCall_ ?_ ?zqm2); (case zqm2 => k_dflt (exact rfl)))
  k_with "eval Call Name" => ((with_reducible refine' Call_ ?_ ?zqm2); (case zqm2 => k_dflt (exact rfl)))
  k_with "exec Assign cons" => ((with_reducible refine' wpAny_Assign_Name ?_ ?zqm2); (case zqm2 => k_dflt (exact rfl)))
  k_with "ite" => first | with_reducible refine ite_tt ?_ | with_reducible refine ite_ff ?_ | (with_reducible refine split_39 ?_ ?_ <;> intro _) | (with_reducible refine split_40 ?_ ?_ <;> intro _) | (with_reducible refine split_41 ?_ ?_ <;> intro _) | (with_reducible refine split_44 ?_ ?_ <;> intro _) | (with_reducible refine split_61 ?_ ?_ <;> intro _) | (with_reducible refine split_32 ?_ ?_ <;> intro _) | with_reducible refine split_end (fun _ => ?_) (fun _ _ _ => ?_) | with_reducible refine split_emp (fun _ => ?_) (fun _ => ?_) | (with_reducible refine split_nb ?_ ?_ <;> intro _) | (with_reducible refine dec_pos (by omega) ?_) | (with_reducible refine dec_neg (by omega) ?_) | (with_reducible refine PyProof.Rows.split_dec ?_ ?_ <;> intro _) | (with_reducible refine ite_pos (by with_reducible assumption) ?_) | (with_reducible refine ite_isFalse (by with_reducible assumption) ?_) | (with_reducible refine PyProof.Rows.split_bool ?_ ?_ <;> intro _)
  k_with "eval Name" => ((with_reducible refine' ld_fast ?zqk1 ?zqk2 ?zqk3 ?zqk4 ?zqk5 ?_); (case zqk1 => with_reducible assumption); (case zqk2 => k_dflt (exact rfl)); (case zqk3 => k_dflt (exact rfl)); (case zqk4 => k_dflt (exact rfl)); (case zqk5 => k_dflt (exact rfl)))
  k_with "compareOp In str str" => with_reducible (first | refine in_letters ?_ | refine in_digits ?_ | refine in_ahead ?_)
  k_with "compareOp NotIn str str" => with_reducible (refine notin_letters ?_)
  k_with "m item" => ((with_reducible show wpAny _ _ (subscriptTail _ _ (Value.str _ _) (Value.int _ _)) _ _ _); first | ((with_reducible refine' item_at ?zqm1 ?zqm2 ?_ ?zqm3 ?zqm4); (case zqm1 => with_reducible assumption); (case zqm2 => first | assumption | omega); (case zqm3 => with_unfolding_all exact rfl); (case zqm4 => (intro _; with_unfolding_all exact rfl))) | ((with_reducible refine' item_lt ?zqm1 ?zqm2 ?_ ?zqm3 ?zqm4); (case zqm1 => first | assumption | omega); (case zqm2 => first | assumption | omega); (case zqm3 => with_unfolding_all exact rfl); (case zqm4 => (intro _; with_unfolding_all exact rfl)); (intro _ _)))
  k_with "subscriptTail Name Name str int" => k_extra "m item"
  k_with "subscriptTail Name BinOp str int" => k_extra "m item"
  k_with "m ret" => ((repeat (with_reducible refine SealS.ret (by assumption) ?_)); (with_reducible rename Fr _ _ _ _ => zF'); first | exact ⟨_, _, _, rfl, rfl, Fr.keep zF', trivial⟩ | exact ⟨(0 : Nat), _, _, rfl, rfl, Fr.keep zF', trivial⟩)
  k_with "subscriptTail Name Name ref int" => ((with_reducible show wpAny _ _ (subscriptTail _ _ (Value.ref _) (Value.int _ _)) _ _ _); (with_reducible rename IntsAre _ _ => zhI'); (refine' item_ints (News.isList (by with_reducible assumption) (by k_mem)) zhI' ?zqm1 ?zqm2 ?_ ?zqm3 ?zqm4); (case zqm1 => first | assumption | omega); (case zqm2 => first | assumption | omega); (case zqm3 => with_unfolding_all exact rfl); (case zqm4 => (intro _; with_unfolding_all exact rfl)); (intro _ _ _))
  k_with "m cl" => (simp only [Nat.zero_add, Int.toNat_natCast, beq_iff_eq, beq_eq_false_iff_ne, ne_eq, bne_iff_ne, bne_eq_false_iff_eq, Bool.not_eq_true] at *)
  k_with "m ifs" => ((repeat (first | rw [if_pos (by with_reducible assumption)] | rw [if_no (by with_reducible assumption)] | rw [if_neg (by with_reducible assumption)])); try (first | rfl | with_reducible assumption | (symm; with_reducible assumption)))
  k_with "m fin" => ((repeat (with_reducible refine SealS.ret (by assumption) ?_)); (with_reducible rename Fr _ _ _ _ => zF'); first | refine ret_str (Fr.keep zF') ?_ | refine ret_bool (Fr.keep zF') ?_ | refine ret_int (Fr.keep zF') ?_)
  k_with "m len" => first | exact Nat.le_trans (by with_reducible assumption) (by decide) | omega | (decide +kernel) | ((try simp only [Str.length_append, len_tx]); omega)
  k_with "binaryOp Add str str" => ((with_reducible show wpAny _ _ (binaryOp Operator.Add (Value.str _ _) (Value.str _ _)) _ _ _); (refine' add_txt ?zqkxaa ?zqkxab ?_; (case zqkxaa => k_extra "m len"); (case zqkxab => k_extra "m len")); intro _ _ _)
  k_with "inplaceOp Add str str" => ((with_reducible show wpAny _ _ (inplaceOp Operator.Add (Value.str _ _) (Value.str _ _)) _ _ _); (refine' iadd_txt ?zqkxaa ?zqkxab ?_; (case zqkxaa => k_extra "m len"); (case zqkxab => k_extra "m len")); intro _ _ _)
  k_with "setAttr ref" => (k_dflt (refine' set_dict ?zqk1 ?zqk2 ?zqk3 ?zqk4 ?zqk5 ?zqk6 ?zqk7 ?zqk8 ?zqk9 ?zqk10 ?zqk11 ?zqk12 ?zqk13 ?_; (case zqk1 => k_asm); (case zqk2 => k_asm); (case zqk3 => k_asm); (case zqk4 => k_inst); (case zqk5 => exact rfl); (case zqk6 => k_is); (case zqk7 => k_is); (case zqk8 => k_is); (case zqk9 => k_is); (case zqk10 => k_get); (case zqk11 => k_put); (case zqk12 => k_upd); (case zqk13 => exact Nat.le_of_ble_eq_true rfl); k_whole; intro _ _ _; (try k_sweep)))
  k_with "getAttr ref" => (k_dflt (refine' get_own ?zqk1 ?zqk2 ?zqk3 ?zqk4 ?zqk5 ?zqk6 ?zqk7 ?zqk8 ?zqk9 ?_; (case zqk1 => k_asm); (case zqk2 => k_asm); (case zqk3 => first | exact inst_base (by with_reducible assumption) (by k_asm) | k_inst); (case zqk4 => k_is); (case zqk5 => k_is); (case zqk6 => k_is); (case zqk7 => k_is); (case zqk8 => k_get); (case zqk9 => k_handed); k_whole))
  k_with "m side" => first | with_reducible assumption | decide | exact Nat.le_trans (by with_reducible assumption) (by decide) | omega | trivial | (simp only [Str.length_append, len_tx] at *; omega)
  k_with "m ctr" => ((case zqF => with_reducible assumption); (case zqN => with_reducible assumption); (case zqX => with_reducible assumption); (case zqT => with_reducible assumption); (case zqd => k_extra "m room"); (case zqu => k_extra "m room"))
  k_with "call ref" => ((with_reducible show wpAny _ _ (call (Value.ref 219) _) _ _ _); refine' CtrN.use (c_depths _ _ _ ?zqh) ?zqF ?zqN ?zqX ?zqT ?zqd ?zqu ?zqp ?_; (case zqh => (k_extra "m side")); (case zqp => trivial); (k_extra "m ctr"); intro _ ⟨_, _⟩ _ _ _ zN' zhne' zhR'; (try dsimp only at zN' zhR' zhne'))
  k_with "call ref" => ((with_reducible show wpAny _ _ (call (Value.ref 281) _) _ _ _); refine' Ctr.use (c_digits_end _ _ _ _ _ ?zqh) ?zqF ?zqN ?zqX ?zqT ?zqd ?zqu ?zqp ?_; (case zqh => (k_extra "m side")); (case zqp => trivial); (k_extra "m ctr"); intro _ _ _ _ _ _ _)
  k_with "call ref" => ((with_reducible show wpAny _ _ (call (Value.ref 274) _) _ _ _); refine' Ctr.use (c_name_end _ _ _ _ _ ?zqh) ?zqF ?zqN ?zqX ?zqT ?zqd ?zqu ?zqp ?_; (case zqh => (k_extra "m side")); (case zqp => trivial); (k_extra "m ctr"); intro _ _ _ _ _ _ _)
  k_with "call ref" => ((with_reducible show wpAny _ _ (call (Value.ref 226) _) _ _ _); refine' Ctr.use (c_closing _ _ _ _ _ ?zqh ?zqg) ?zqF ?zqN ?zqX ?zqT ?zqd ?zqu ?zqp ?_; (case zqh => (k_extra "m side")); (case zqg => (k_extra "m side")); (case zqp => trivial); (k_extra "m ctr"); intro _ _ _ _ _ _ _)
  k_with "call ref" => ((with_reducible show wpAny _ _ (call (Value.ref 288) _) _ _ _); refine' Ctr.use (c_is_target _ _ _ ?zqh) ?zqF ?zqN ?zqX ?zqT ?zqd ?zqu ?zqp ?_; (case zqh => (k_extra "m side")); (case zqp => trivial); (k_extra "m ctr"); intro _ _ _ _ _ _ _)
  k_with "call ref" => ((with_reducible show wpAny _ _ (call (Value.ref 295) _) _ _ _); (with_reducible rename IntsAre _ _ => zhI'); refine' Ctr.use (c_is_balanced _ _ _ _ _ _ zhI' ?zqh) ?zqF ?zqN ?zqX ?zqT ?zqd ?zqu ?zqp ?_; (case zqh => (k_extra "m side")); (case zqp => exact News.get (by with_reducible assumption) (by k_mem)); (k_extra "m ctr"); intro _ _ _ _ _ _ _)
  k_with "call ref" => ((with_reducible show wpAny _ _ (call (Value.ref 302) _) _ _ _); (with_reducible rename IntsAre _ _ => zhI'); refine' CtrN.use (c_equals_at _ _ _ _ _ _ zhI' ?zqh) ?zqF ?zqN ?zqX ?zqT ?zqd ?zqu ?zqp ?_; (case zqh => (k_extra "m side")); (case zqp => exact News.get (by with_reducible assumption) (by k_mem)); (k_extra "m ctr"); intro _ _ _ _ _ zN' zhne' _; (try dsimp only at zN' zhne'))
  k_with "call ref" => ((with_reducible show wpAny _ _ (call (Value.ref 309) _) _ _ _); refine' Ctr.use (c_is_do_head _ _ _ ?zqh) ?zqF ?zqN ?zqX ?zqT ?zqd ?zqu ?zqp ?_; (case zqh => (k_extra "m side")); (case zqp => trivial); (k_extra "m ctr"); intro _ _ _ _ _ _ _)
  k_with "call ref" => ((with_reducible show wpAny _ _ (call (Value.ref 323) _) _ _ _); refine' Ctr.use (c_word_of_goto _ _ _ ?zqh) ?zqF ?zqN ?zqX ?zqT ?zqd ?zqu ?zqp ?_; (case zqh => (k_extra "m side")); (case zqp => trivial); (k_extra "m ctr"); intro _ _ _ _ _ _ _)
  k_with "call ref" => ((with_reducible show wpAny _ _ (call (Value.ref 316) _) _ _ _); refine' Ctr.use (c_word_of_if _ _ _ ?zqh) ?zqF ?zqN ?zqX ?zqT ?zqd ?zqu ?zqp ?_; (case zqh => (k_extra "m side")); (case zqp => trivial); (k_extra "m ctr"); intro _ _ _ _ _ _ _)
  k_with "call ref" => ((with_reducible show wpAny _ _ (call (Value.ref 337) _) _ _ _); refine' Ctr.use (c_word_by_begin _ _ _ ?zqh ?zqg) ?zqF ?zqN ?zqX ?zqT ?zqd ?zqu ?zqp ?_; (case zqh => (k_extra "m side")); (case zqg => (k_extra "m wb")); (case zqp => trivial); (k_extra "m ctr"); intro _ _ _ _ _ _ _)
  k_with "call ref" => ((with_reducible show wpAny _ _ (call (Value.ref 344) _) _ _ _); refine' Ctr.use (c_classify _ _ _ ?zqh ?zqg) ?zqF ?zqN ?zqX ?zqT ?zqd ?zqu ?zqp ?_; (case zqh => (k_extra "m side")); (case zqg => (k_extra "m cls")); (case zqp => trivial); (k_extra "m ctr"); intro _ _ _ _ _ _ _)
  k_with "ite" => with_reducible (first | refine ite_nemp ?_ | refine ite_ee ?_ | refine ite_nee ?_)
  k_with "call ref" => ((with_reducible show wpAny _ _ (call (Value.ref 212) _) _ _ _); refine' Ctr.use (c_squeezed _ _ _ ?zqh ?zqg) ?zqF ?zqN ?zqX ?zqT ?zqd ?zqu ?zqp ?_; (case zqh => (k_extra "m side")); (case zqg => (k_extra "m sq")); (case zqp => trivial); (k_extra "m ctr"); intro _ _ _ _ _ _ _)
  k_with "m ctrP" => ((case zqF => with_reducible assumption); (case zqN => with_reducible assumption); (case zqX => with_reducible assumption); (case zqT => with_reducible assumption); (case zqd => k_extra "m room"); (case zqu => k_extra "m room"); (case zqn => with_reducible assumption); (case zqP => with_reducible assumption))
  k_with "m ne2" => (exact ⟨by k_ne, by k_ne⟩)
  k_with "call ref" => ((with_reducible show wpAny _ _ (call (Value.ref 373) _) _ _ _); (first | (refine' CtrP.use0 (c_figI _ _ _ _ _ _ ?zqa ?zqb ?zqc) ?zqF ?zqN ?zqX ?zqT ?zqd ?zqu ?zqn ?zqP ?_; (k_extra "m ctrP")) | (refine' CtrP.use1 (c_figI _ _ _ _ _ _ ?zqa ?zqb ?zqc) ?zqF ?zqN ?zqX ?zqT ?zqd ?zqu ?zqn ?zqP ?zqh1 ?_; (k_extra "m ctrP"); (case zqh1 => k_extra "m ne2")) | (refine' CtrP.use2 (c_figI _ _ _ _ _ _ ?zqa ?zqb ?zqc) ?zqF ?zqN ?zqX ?zqT ?zqd ?zqu ?zqn ?zqP ?zqh1 ?zqh2 ?_; (k_extra "m ctrP"); (case zqh1 => k_extra "m ne2"); (case zqh2 => k_extra "m ne2")) | (refine' CtrP.use3 (c_figI _ _ _ _ _ _ ?zqa ?zqb ?zqc) ?zqF ?zqN ?zqX ?zqT ?zqd ?zqu ?zqn ?zqP ?zqh1 ?zqh2 ?zqh3 ?_; (k_extra "m ctrP"); (case zqh1 => k_extra "m ne2"); (case zqh2 => k_extra "m ne2"); (case zqh3 => k_extra "m ne2"))); (case zqa => k_extra "m nat"); (case zqb => k_extra "m nat"); (case zqc => k_extra "m nat"); intro ⟨_, _⟩ _ _ _ _ _ _ _ zhR'; (dsimp only at zhR'); (try dsimp only))
  k_with "call ref" => ((with_reducible show wpAny _ _ (call (Value.ref 362) _) _ _ _); refine' CtrL.use (c_Limits _) ?zqF ?zqN ?zqX ?zqT ?zqd ?zqu ?zqp ?_; (case zqp => trivial); (k_extra "m ctr"); intro ⟨_, _, _⟩ _ _ _ zN' zhne' _; (dsimp only [List.cons_append, List.nil_append] at zN'); (try (have za1 := neN (zhne' _ (List.mem_cons_self ..) _ (List.mem_cons_self ..)); try dsimp only at za1)); (try (have za2 := neN (zhne' _ (List.mem_cons_self ..) _ (List.mem_cons_of_mem _ (List.mem_cons_self ..))); try dsimp only at za2)); (try (have za3 := neN (zhne' _ (List.mem_cons_of_mem _ (List.mem_cons_self ..)) _ (List.mem_cons_self ..)); try dsimp only at za3)); (try (have za4 := neN (zhne' _ (List.mem_cons_of_mem _ (List.mem_cons_self ..)) _ (List.mem_cons_of_mem _ (List.mem_cons_self ..))); try dsimp only at za4)); (try dsimp only))
  k_with "call ref" => ((with_reducible show wpAny _ _ (call (Value.ref 89) _) _ _ _); refine' CtrL.use (c_Card _ _ _ _ _) ?zqF ?zqN ?zqX ?zqT ?zqd ?zqu ?zqp ?_; (case zqp => trivial); (k_extra "m ctr"); intro ⟨_, _, _⟩ _ _ _ zN' zhne' _; (dsimp only [List.cons_append, List.nil_append] at zN'); (try (have za1 := neN (zhne' _ (List.mem_cons_self ..) _ (List.mem_cons_self ..)); try dsimp only at za1)); (try (have za2 := neN (zhne' _ (List.mem_cons_self ..) _ (List.mem_cons_of_mem _ (List.mem_cons_self ..))); try dsimp only at za2)); (try (have za3 := neN (zhne' _ (List.mem_cons_of_mem _ (List.mem_cons_self ..)) _ (List.mem_cons_self ..)); try dsimp only at za3)); (try (have za4 := neN (zhne' _ (List.mem_cons_of_mem _ (List.mem_cons_self ..)) _ (List.mem_cons_of_mem _ (List.mem_cons_self ..))); try dsimp only at za4)); (try dsimp only))
  k_with "call ref" => ((with_reducible show wpAny _ _ (call (Value.ref 107) _) _ _ _); refine' Ctr.use (c_wb _ _ _ ?zqh) ?zqF ?zqN ?zqX ?zqT ?zqd ?zqu ?zqp ?_; (case zqh => (k_extra "m side")); (case zqp => trivial); (k_extra "m ctr"); intro _ _ _ _ _ _ _)
  k_with "call builtin:len" => ((with_reducible show wpAny _ _ (call (Value.builtin "len") [Value.ref _]) _ _ _); (refine' len_newsL ?zqn ?zqm ?zqb ?_; (case zqn => with_reducible assumption); (case zqm => k_mem); (case zqb => k_extra "m nat")))
  k_with "call ref" => ((with_reducible show wpAny _ _ (call (Value.ref 114) _) _ _ _); refine' Ctr.use (c_is_comment _ _ _ _ ?zqh) ?zqF ?zqN ?zqX ?zqT ?zqd ?zqu ?zqp ?_; (case zqh => (k_extra "m side")); (case zqp => trivial); (k_extra "m ctr"); intro _ _ _ _ _ _ _)
  k_with "call ref" => ((with_reducible show wpAny _ _ (call (Value.ref 142) _) _ _ _); refine' Ctr.use (c_padded _ _ _ _ ?zqh) ?zqF ?zqN ?zqX ?zqT ?zqd ?zqu ?zqp ?_; (case zqh => (k_extra "m side")); (case zqp => trivial); (k_extra "m ctr"); intro _ _ _ _ _ _ _)
  k_with "call ref" => ((with_reducible show wpAny _ _ (call (Value.ref 100) _) _ _ _); refine' CtrL.use (c_cards_of _ _ _ _ ?zqg ?zqh ?zqe) ?zqF ?zqN ?zqX ?zqT ?zqd ?zqu ?zqp ?_; (case zqg => with_reducible assumption); (case zqh => (k_extra "m side")); (case zqe => with_reducible assumption); (case zqp => trivial); (k_extra "m ctr"); intro _ _ _ _ _ _ _)
  k_with "call ref" => ((with_reducible show wpAny _ _ (call (Value.ref 121) _) _ _ _); refine' CtrL.use (c_read_cards _ _ _ _ _ _ _ ?zqg ?zqh ?zqe ?zqr) ?zqF ?zqN ?zqX ?zqT ?zqd ?zqu ?zqp ?_; (case zqg => with_reducible assumption); (case zqh => (k_extra "m side")); (case zqe => with_reducible assumption); (case zqr => with_reducible assumption); (case zqp => k_extra "m inst"); (k_extra "m ctr"); intro _ _ _ _ _ _ _)
  k_with "m inst" => first | with_reducible assumption | exact inst_base (by with_reducible assumption) (by k_asm) | k_inst
  k_with "call builtin:len" => ((with_reducible show wpAny _ _ (call (Value.builtin "len") [Value.ref _]) _ _ _); (refine' len_base ?zqn ?zqm ?zqb ?_; (case zqn => with_reducible assumption); (case zqm => k_asm); (case zqb => k_extra "m nat")))
  k_with "subscriptTail Name Name ref int" => ((refine' item_base ?zqn ?zqm ?zqb ?zqv ?_ ?zqs ?zqg); (case zqn => with_reducible assumption); (case zqm => k_asm); (case zqb => k_extra "m nat"); (case zqv => with_reducible assumption); (case zqs => with_unfolding_all exact rfl); (case zqg => (intro _; with_unfolding_all exact rfl)))
  k_with "subscriptTail Name Constant ref int" => ((refine' item_base0 ?zqn ?zqm ?zqv ?_ ?zqs ?zqg); (case zqn => with_reducible assumption); (case zqm => k_asm); (case zqv => with_reducible assumption); (case zqs => with_unfolding_all exact rfl); (case zqg => (intro _; with_unfolding_all exact rfl)))
  k_with "m inst" => first | with_reducible assumption | exact inst_base (by with_reducible assumption) (by k_asm) | k_inst
  k_with "call ref" => ((with_reducible show wpAny _ _ (call (Value.ref 135) _) _ _ _); refine' Ctr.use (c_read_label' _ _ ?zqh) ?zqF ?zqN ?zqX ?zqT ?zqd ?zqu ?zqp ?_; (case zqh => with_reducible assumption); (case zqp => k_extra "m inst"); (k_extra "m ctr"); intro _ _ _ _ _ _ _)
  k_with "call ref" => ((with_reducible show wpAny _ _ (call (Value.ref 128) _) _ _ _); refine' Ctr.use (c_is_continuation _ _) ?zqF ?zqN ?zqX ?zqT ?zqd ?zqu ?zqp ?_; (case zqp => k_extra "m inst"); (k_extra "m ctr"); intro _ _ _ _ _ _ _)
  trivial

-- text C19
section
theorem reg_C19_0 : True := by
  k_with "m enterE" => (refine' CtrE.enter ?zqho ?zqhcd ?zqhb ?zqhlk ?zqhl ?zqc1 ?zqc2 ?zqc3 ?zqc4 ?_; (k_extra "m cases"))
  trivial
theorem meta_exc : typeOf (.type "Exception") = pure (.type "type") := by first | rfl | kernel_rfl
theorem reg_C19_1 : True := by
  k_with "getMethod type:Exception" => (refine' method_type ?zqF ?zqX ?zqm (by decide +kernel) ?zqe ?zqh ?_; (case zqF => with_reducible assumption); (case zqX => with_reducible assumption); (case zqm => exact meta_exc); (case zqe => k_dflt k_is); (case zqh => k_handed))
  k_with "call builtin:Exception.__init__" => refine stop_here ?_
  trivial
abbrev excT (P : Params) (v : Value) (k : Tok) : Obj := dictOf [⟨PyData.keyHash P (Str.ofString "text"), .str (Str.ofString "text") k, v⟩] 1
abbrev excD (P : Params) (v u : Value) (k j : Tok) : Obj := dictOf [⟨PyData.keyHash P (Str.ofString "text"), .str (Str.ofString "text") k, v⟩, ⟨PyData.keyHash P (Str.ofString "line"), .str (Str.ofString "line") j, u⟩] 2
theorem k51_kts (w : World) : ktsIn (frag.heap_1 w.params) 51 "Exception" = true := by
  unfold ktsIn
  rw [show (frag.heap_1 w.params).lookup 51 = some _ from by k_is]
  rfl
theorem k51_pass (w : World) : passIn (frag.heap_1 w.params) 51 = true := by
  unfold passIn clsIn
  rw [show (frag.heap_1 w.params).lookup 51 = some _ from by k_is]
  rfl
theorem k51_dict (w : World) : (clsIn (frag.heap_1 w.params) 51).any (·.hasDict) = true := by
  unfold clsIn
  rw [show (frag.heap_1 w.params).lookup 51 = some _ from by k_is]
  rfl
theorem k51_x (w : World) : xIn (frag.heap_1 w.params) 51 [.ref 31, .type "Exception", .type "BaseException", .type "object"] :=
  xIn.mk _ _ _ _ _ _ _ _ _ _ _ _ _ _ _ (show (frag.heap_1 w.params).lookup 51 = some _ from by k_is)
theorem reg_C19_2 : True := by
  k_with "setAttr ref" => refine stop_here ?_
  trivial
theorem c_err28 (w : World) (e t0 : Addr) (v : Value) : CtrE w 1 28 [.ref e, v] e (exO 51 t0 none) (fun i : Addr × Addr × Tok => exO 51 i.1 (some i.2.1)) (fun i => [(i.2.1, excT w.params v i.2.2)]) := by
  walk_at "m enterE"
  intro dp un gd fr mean mg mb s L h₁ tk g hdp hun X T hg hlt F N
  walk_at "m steps"
  refine exc_init (pre := []) (post := []) F N (fun _ h => nomatch h) (fun _ h => nomatch h) (X.keeps F.keep) (k51_kts w) (fun h' t' F N => ?_) (by simp)
  dsimp only [List.nil_append] at N
  have hte := neN (fun q : t' = e => by
    have a := (N _ (List.mem_cons_self ..)).1
    have b := (N _ (List.mem_cons_of_mem _ (List.mem_cons_self ..))).1
    dsimp only at a b
    rw [q, b] at a; cases a)
  walk_at "m steps"
  with_reducible rename Fr _ _ _ _ => F
  with_reducible rename News _ _ _ _ => N
  refine exc_set_first (pre := [_]) (post := []) F N (fun p hp => by rw [List.mem_singleton.mp hp]; exact hte) (fun _ h => nomatch h) (X.keeps F.keep) (by k_is) (k51_pass w) (by k_is) (k51_dict w) (fun h' dx tk k F N => ?_)
  dsimp only [List.cons_append, List.nil_append] at N
  walk_at "m steps"
  subst hg
  have d0 := N _ (List.mem_cons_self ..)
  have d2 := N _ (List.mem_cons_of_mem _ (List.mem_cons_of_mem _ (List.mem_cons_self ..)))
  have hde : dx ≠ e := fun q => by
    have a := d0.1
    have b := d2.1
    dsimp only at a b
    rw [q, b] at a; cases a
  refine ⟨(t', dx, tk), h', k, rfl, rfl, fun b o hb hbe => F.keep b o (by rw [wipe_other _ hb]; exact hbe), d2.1, fun p hp => ?_⟩
  rw [List.mem_singleton.mp hp]
  refine ⟨?_, d0.1⟩
  have := d0.2.2
  rwa [wipe_other _ hde] at this
theorem retE_mk {s : Shared} {e L dx t' : Addr} {h' : Heap} {m : Str → Option Value} {P : Params} {u v : Value} {k1 k2 : Tok} {k : Nat} (F : Fr (wipe s.heap e) L h' m) (N : News (wipe s.heap e) L h' [(dx, excD P v u k1 k2), (e, exO 51 t' (some dx))]) (hde : dx ≠ e) :
    RetE s e (fun i : Addr × Addr × Tok × Tok => exO 51 i.1 (some i.2.1)) (fun i => [(i.2.1, excD P v u i.2.2.1 i.2.2.2)]) Flow.next { s with heap := h', toks := k } := by
  have d0 := N _ (List.mem_cons_self ..)
  have d2 := N _ (List.mem_cons_of_mem _ (List.mem_cons_self ..))
  refine ⟨(t', dx, k1, k2), h', k, rfl, rfl, fun b o hb hbe => F.keep b o (by rw [wipe_other _ hb]; exact hbe), d2.1, fun p hp => ?_⟩
  rw [List.mem_singleton.mp hp]
  refine ⟨?_, d0.1⟩
  have := d0.2.2
  rwa [wipe_other _ hde] at this
theorem reg_C19_3 : True := by
  k_with "call ref" => ((with_reducible show wpAny _ _ (call (Value.ref 28) _) _ _ _); refine stop_here ?_)
  trivial
theorem c_err48 (w : World) (e t0 : Addr) (u v : Value) : CtrE w 2 48 [.ref e, u, v] e (exO 51 t0 none) (fun i : Addr × Addr × Tok × Tok => exO 51 i.1 (some i.2.1)) (fun i => [(i.2.1, excD w.params v u i.2.2.1 i.2.2.2)]) := by
  walk_at "m enterE"
  intro dp un gd fr mean mg mb s L h₁ tk g hdp hun X T hg hlt F N
  walk_at "m steps"
  refine CtrE.use (c_err28 w e t0 v) F N X T (by walk_at "m room") (by walk_at "m room") (fun _ h => nomatch h) fun i h' tk F N => ?_
  obtain ⟨t', dx, tk1⟩ := i
  dsimp only [List.cons_append, List.nil_append] at N
  have hde := neN (fun q : dx = e => by
    have a := (N _ (List.mem_cons_self ..)).1
    have b := (N _ (List.mem_cons_of_mem _ (List.mem_cons_self ..))).1
    dsimp only at a b
    rw [q, b] at a; cases a)
  walk_at "m steps"
  with_reducible rename Fr _ _ _ _ => F
  with_reducible rename News _ _ _ _ => N
  have hx := (N _ (List.mem_cons_of_mem _ (List.mem_cons_self ..))).1
  refine exc_set_more (es' := [⟨PyData.keyHash w.params (Str.ofString "text"), .str (Str.ofString "text") tk1, v⟩, ⟨PyData.keyHash w.params (Str.ofString "line"), .str (Str.ofString "line") _, u⟩]) (n' := 2) (pre := []) (post := [_]) F N (fun _ h => nomatch h) (fun p hp => by rw [List.mem_singleton.mp hp]; exact Ne.symm hde) (X.keeps F.keep) hx (by k_is) (k51_pass w) (by k_is) (k51_dict w) rfl (by rfl) (Nat.le_of_ble_eq_true rfl) (fun h' k F N => ?_)
  dsimp only [List.cons_append, List.nil_append] at N
  walk_at "m steps"
  subst hg
  exact retE_mk F N hde
/-- a made SourceError -/
theorem src_call {w : World} {dp un : Nat} {gd : Option (List Code)} {fr : Option (List Env)} {mean : ExcName → Option Value} {mg mb : Str → Option Value} {s : Shared} {Q E : Value → Shared → Prop} {h₀ : Heap} {L : Addr} {m : Str → Option Value} {nx : List (Addr × Obj)} {u v : Value}
    (F : Fr h₀ L s.heap m) (N : News h₀ L s.heap nx) (X : (frag.heap_1 w.params).In h₀) (T : Top view LO mean mg mb h₀) (hdp : dp + 4 < 900) (hun : un + 40 < 9000)
    (k : ∀ e dx t k1 k2 h' tk, Fr h₀ L h' m → News h₀ L h' ((dx, excD w.params v u k1 k2) :: (e, exO 51 t (some dx)) :: nx) → s.heap.get? e = none → s.heap.get? dx = none → (∀ b o, s.heap.get? b = some o → h'.get? b = some o) → Q (.ref e) { s with heap := h', toks := tk }) :
    wpAny (model PG w) (AA dp un gd fr) (call (.ref 51) [u, v]) Q E s := by
  obtain ⟨hp, g, d, t, os⟩ := s
  dsimp only at *
  refine xcall (X.keeps F.keep) (k51_x w) (by decide +kernel) (by decide +kernel) (by decide +kernel) (fI := 48) (by k_is) (by k_is) (by show [u, v].length ≤ sizeLine; rw [sizeLine_eq]; exact Nat.le_of_ble_eq_true rfl) ?_
  have kx : ∀ b o, hp.get? b = some o → ((hp.push (tupO [u, v])).push (exO 51 hp.objs.size none)).get? b = some o := fun b o e => Heap.get?_push_of_some _ (Heap.get?_push_of_some _ e)
  have hget : ((hp.push (tupO [u, v])).push (exO 51 hp.objs.size none)).get? (hp.objs.size + 1) = some (exO 51 hp.objs.size none) := by heap_get
  have fresh : ∀ b, hp.objs.size ≤ b → hp.get? b = none := fun b hb => by
    cases q : hp.get? b with
    | none => rfl
    | some o => exact absurd (Heap.lt_size q) (Nat.not_lt.mpr hb)
  have e0 : h₀.get? (hp.objs.size + 1) = none := by
    cases q : h₀.get? (hp.objs.size + 1) with
    | none => rfl
    | some o => have := F.keep _ _ q; rw [fresh _ (Nat.le_succ _)] at this; cases this
  refine c_err48 w (hp.objs.size + 1) hp.objs.size u v (dp + (Code.builtin "type.__call__" ⟨.ref 51 :: [u, v], []⟩).weight) (un + (Code.builtin "type.__call__" ⟨.ref 51 :: [u, v], []⟩).cUnits) _ fr mean mg mb ⟨(hp.push (tupO [u, v])).push (exO 51 hp.objs.size none), g, d, t, os⟩ _ _ h₀
    (by rw [call_weight]; omega) (by rw [call_units]; omega) X T (fun b o e => kx b o (F.keep b o e)) e0 hget fun i h' tk hs he hl => ⟨rfl, ?_⟩
  obtain ⟨t', dx, k1, k2⟩ := i
  dsimp only at *
  obtain ⟨dn, dl⟩ := hl _ (List.mem_singleton.mpr rfl)
  dsimp only at dn dl
  have up : ∀ b o, hp.get? b = some o → h'.get? b = some o := fun b o e => hs b o (fun q => by rw [q, fresh _ (Nat.le_succ _)] at e; cases e) (kx b o e)
  have dn0 : hp.get? dx = none := by
    cases q : hp.get? dx with
    | none => rfl
    | some o => rw [kx _ _ q] at dn; cases dn
  obtain ⟨oL, _, _, hL, _⟩ := id F.ns
  have nL : ∀ a, hp.get? a = none → a ≠ L ∧ h₀.get? a = none := fun a ha => by
    refine ⟨fun q => ?_, ?_⟩
    · rw [q, hL] at ha; cases ha
    · cases q : h₀.get? a with
      | none => rfl
      | some o => have := F.keep _ _ q; rw [ha] at this; cases this
  refine k _ dx t' k1 k2 h' tk (stays_fr F up) (fun p hp' => ?_) (fresh _ (Nat.le_succ _)) dn0 up
  rcases List.mem_cons.mp hp' with rfl | hp'
  · exact ⟨dl, nL _ dn0⟩
  · rcases List.mem_cons.mp hp' with rfl | hp'
    · exact ⟨he, nL _ (fresh _ (Nat.le_succ _))⟩
    · exact ⟨up _ _ (N p hp').1, (N p hp').2⟩

end

theorem regc17 : True := by
  k_with_none
  k_with "m cases" => ((case zqho => k_is); (case zqhcd => k_is); (case zqhb => exact rfl); (case zqhlk => simp only [List.map_cons, List.map_nil, List.zip_cons_cons, List.zip_nil_left, List.zip_nil_right, List.reverse_cons, List.reverse_nil, List.nil_append, List.cons_append]; exact rfl); (case zqhl => exact locs rfl); (case zqc1 => exact rfl); (case zqc2 => exact rfl); (case zqc3 => exact rfl); (case zqc4 => decide))
  k_with "m room" => first | with_reducible assumption | exact lt_room (by with_reducible assumption) (by decide) | omega
  k_with "m nat" => first | with_reducible assumption | exact Nat.le_refl _ | exact Nat.le_succ _ | exact Nat.le_trans (by with_reducible assumption) (by decide) | exact Nat.le_trans (Nat.add_le_add_right (by with_reducible assumption) _) (by decide) | decide | omega
  k_with "m lt" => first | assumption | exact And.left (by assumption) | exact And.left (And.right (by assumption)) | exact And.left (And.right (And.right (by assumption))) | exact And.left (And.right (And.right (And.right (by assumption)))) | exact And.left (And.right (And.right (And.right (And.right (by assumption))))) | exact And.left (And.right (And.right (And.right (And.right (And.right (by assumption)))))) | exact And.left (And.right (And.right (And.right (And.right (And.right (And.right (by assumption))))))) | exact And.left (And.right (And.right (And.right (And.right (And.right (And.right (And.right (by assumption)))))))) | exact And.right (by assumption) | exact And.right (And.right (by assumption)) | exact And.right (And.right (And.right (by assumption))) | exact And.right (And.right (And.right (And.right (by assumption)))) | exact And.right (And.right (And.right (And.right (And.right (by assumption))))) | exact And.right (And.right (And.right (And.right (And.right (And.right (by assumption)))))) | exact And.right (And.right (And.right (And.right (And.right (And.right (And.right (by assumption)))))))
  k_with "m enter" => (refine' Ctr.enter ?zqho ?zqhcd ?zqhb ?zqhlk ?zqhl ?zqc1 ?zqc2 ?zqc3 ?zqc4 ?_; (k_extra "m cases"))
  k_with "m enterP" => (refine' CtrP.enter ?zqho ?zqhcd ?zqhb ?zqhlk ?zqhl ?zqc1 ?zqc2 ?zqc3 ?zqc4 ?_; (k_extra "m cases"))
  k_with "m enterT" => (refine' Ctr.enterT ?zqho ?zqhcd ?zqhb ?zqhlk ?zqhl ?zqc1 ?zqc2 ?zqc3 ?zqc4 ?_; (k_extra "m cases"))
  k_with "m init" => ((case zqhm => k_is); (case zqhi => k_is); (case zqhf => k_is); (case zqho => k_is); (case zqhcd => k_is); (case zqhb => (intro _ _ zX; first | exact BindsTo.of_eq rfl | exact binds_K zX rfl (by k_is) rfl rfl rfl)); (case zqhlk => (intro _; exact rfl)); (case zqhl => (intro _; exact locs rfl)); (case zqc1 => exact rfl); (case zqc2 => exact rfl); (case zqc3 => exact rfl); (case zqc4 => decide))
  k_with "m star" => with_reducible (first | exact st_Name | exact st_Constant | exact st_BinOp | exact st_Call | exact st_Subscript | exact st_Attribute | exact st_UnaryOp | exact st_Tuple | exact st_List)
  k_with "m plain" => first | with_reducible exact pl_nil | (with_reducible refine' pl_cons ?zqp1 ?zqp2; (case zqp1 => k_extra "m star"); (case zqp2 => k_extra "m plain"))
  k_with "execs cons" => (refine execs_seal ?_; intro _ _)
  k_with "exec If" => with_reducible refine wpAny_If ?_
  k_with "execs nil" => with_reducible refine wpAny_execs_nil ?_
  k_with "m open" => with_reducible (first | refine SealS.next (by assumption) ?_ | refine SealS.ret (by assumption) ?_ | refine SealS.brk (by assumption) ?_ | refine SealS.cont (by assumption) ?_)
  k_with "m steps" => ((repeat' (first | (k_unfold; (try dsimp only)) | walk1 | k_extra "m open" | (dsimp only; walk1) | fail "no step")) <;> (try dsimp only) <;> (try k_unfold) <;> (try dsimp only [ForStep, WhileStep2]) <;> (repeat (with_reducible refine SealS.ret (by assumption) ?_)))
  k_with "exec For Name Name cons nil" => ((with_reducible refine' for_start ?_ ?zqhs); (case zqhs => (intro _; k_dflt (exact rfl))))
  k_with "exec For Name Call cons nil" => ((with_reducible refine' for_start ?_ ?zqhs); (case zqhs => (intro _; k_dflt (exact rfl))))
  k_with "exec For Tuple Name cons nil" => ((with_reducible refine' for_start ?_ ?zqhs); (case zqhs => (intro _; k_dflt (exact rfl))))
  k_with "exec For Tuple Call cons nil" => ((with_reducible refine' for_start ?_ ?zqhs); (case zqhs => (intro _; k_dflt (exact rfl))))
  k_with "pyIter ref" => ((with_reducible show wpAny _ _ (pyIter _) (fun it s₂ => ForGo _ _ _ _ _ _ _ _ it s₂) _ _); refine stop_here ?_)
  k_with "pyIter str" => ((with_reducible show wpAny _ _ (pyIter _) (fun it s₂ => ForGo _ _ _ _ _ _ _ _ it s₂) _ _); refine stop_here ?_)
  k_with "exec While Compare cons nil" => refine stop_here ?_
  k_with "exec While BoolOp cons nil" => refine stop_here ?_
  k_with "callWith" => ((with_reducible refine' callWith_method1 ?_ ?zqm2 ?zqm3); (case zqm2 => k_extra "m star"); (case zqm3 => k_extra "m plain"))
  k_with "callWith" => ((with_reducible refine' PyProof.Rows.callWith_builtin1 ?_ ?zqm2 ?zqm3); (case zqm2 => k_extra "m star"); (case zqm3 => k_extra "m plain"))
  k_with "callWith" => with_reducible refine callWith_method0 ?_
  k_with "eval Call Attribute" => ((with_reducible refine' MethodCall_ ?_ ?zqm2); (case zqm2 => k_dflt (exact rfl)))
  k_with "eval Call Name" => ((with_reducible refine' Call_ ?_ ?zqm2); (case zqm2 => k_dflt (exact rfl)))
  k_with "exec Assign cons" => ((with_reducible refine' wpAny_Assign_Name ?_ ?zqm2); (case zqm2 => k_dflt (exact rfl)))
  k_with "ite" => first | with_reducible refine ite_tt ?_ | with_reducible refine ite_ff ?_ | (with_reducible refine split_39 ?_ ?_ <;> intro _) | (with_reducible refine split_40 ?_ ?_ <;> intro _) | (with_reducible refine split_41 ?_ ?_ <;> intro _) | (with_reducible refine split_44 ?_ ?_ <;> intro _) | (with_reducible refine split_61 ?_ ?_ <;> intro _) | (with_reducible refine split_32 ?_ ?_ <;> intro _) | with_reducible refine split_end (fun _ => ?_) (fun _ _ _ => ?_) | with_reducible refine split_emp (fun _ => ?_) (fun _ => ?_) | (with_reducible refine split_nb ?_ ?_ <;> intro _) | (with_reducible refine dec_pos (by omega) ?_) | (with_reducible refine dec_neg (by omega) ?_) | (with_reducible refine PyProof.Rows.split_dec ?_ ?_ <;> intro _) | (with_reducible refine ite_pos (by with_reducible assumption) ?_) | (with_reducible refine ite_isFalse (by with_reducible assumption) ?_) | (with_reducible refine PyProof.Rows.split_bool ?_ ?_ <;> intro _)
  k_with "eval Name" => ((with_reducible refine' ld_fast ?zqk1 ?zqk2 ?zqk3 ?zqk4 ?zqk5 ?_); (case zqk1 => with_reducible assumption); (case zqk2 => k_dflt (exact rfl)); (case zqk3 => k_dflt (exact rfl)); (case zqk4 => k_dflt (exact rfl)); (case zqk5 => k_dflt (exact rfl)))
  k_with "compareOp In str str" => with_reducible (first | refine in_letters ?_ | refine in_digits ?_ | refine in_ahead ?_)
  k_with "compareOp NotIn str str" => with_reducible (refine notin_letters ?_)
  k_with "m item" => ((with_reducible show wpAny _ _ (subscriptTail _ _ (Value.str _ _) (Value.int _ _)) _ _ _); first | ((with_reducible refine' item_at ?zqm1 ?zqm2 ?_ ?zqm3 ?zqm4); (case zqm1 => with_reducible assumption); (case zqm2 => first | assumption | omega); (case zqm3 => with_unfolding_all exact rfl); (case zqm4 => (intro _; with_unfolding_all exact rfl))) | ((with_reducible refine' item_lt ?zqm1 ?zqm2 ?_ ?zqm3 ?zqm4); (case zqm1 => first | assumption | omega); (case zqm2 => first | assumption | omega); (case zqm3 => with_unfolding_all exact rfl); (case zqm4 => (intro _; with_unfolding_all exact rfl)); (intro _ _)))
  k_with "subscriptTail Name Name str int" => k_extra "m item"
  k_with "subscriptTail Name BinOp str int" => k_extra "m item"
  k_with "m ret" => ((repeat (with_reducible refine SealS.ret (by assumption) ?_)); (with_reducible rename Fr _ _ _ _ => zF'); first | exact ⟨_, _, _, rfl, rfl, Fr.keep zF', trivial⟩ | exact ⟨(0 : Nat), _, _, rfl, rfl, Fr.keep zF', trivial⟩)
  k_with "subscriptTail Name Name ref int" => ((with_reducible show wpAny _ _ (subscriptTail _ _ (Value.ref _) (Value.int _ _)) _ _ _); (with_reducible rename IntsAre _ _ => zhI'); (refine' item_ints (News.isList (by with_reducible assumption) (by k_mem)) zhI' ?zqm1 ?zqm2 ?_ ?zqm3 ?zqm4); (case zqm1 => first | assumption | omega); (case zqm2 => first | assumption | omega); (case zqm3 => with_unfolding_all exact rfl); (case zqm4 => (intro _; with_unfolding_all exact rfl)); (intro _ _ _))
  k_with "m cl" => (simp only [Nat.zero_add, Int.toNat_natCast, beq_iff_eq, beq_eq_false_iff_ne, ne_eq, bne_iff_ne, bne_eq_false_iff_eq, Bool.not_eq_true] at *)
  k_with "m ifs" => ((repeat (first | rw [if_pos (by with_reducible assumption)] | rw [if_no (by with_reducible assumption)] | rw [if_neg (by with_reducible assumption)])); try (first | rfl | with_reducible assumption | (symm; with_reducible assumption)))
  k_with "m fin" => ((repeat (with_reducible refine SealS.ret (by assumption) ?_)); (with_reducible rename Fr _ _ _ _ => zF'); first | refine ret_str (Fr.keep zF') ?_ | refine ret_bool (Fr.keep zF') ?_ | refine ret_int (Fr.keep zF') ?_)
  k_with "m len" => first | exact Nat.le_trans (by with_reducible assumption) (by decide) | omega | (decide +kernel) | ((try simp only [Str.length_append, len_tx]); omega)
  k_with "binaryOp Add str str" => ((with_reducible show wpAny _ _ (binaryOp Operator.Add (Value.str _ _) (Value.str _ _)) _ _ _); (refine' add_txt ?zqkxaa ?zqkxab ?_; (case zqkxaa => k_extra "m len"); (case zqkxab => k_extra "m len")); intro _ _ _)
  k_with "inplaceOp Add str str" => ((with_reducible show wpAny _ _ (inplaceOp Operator.Add (Value.str _ _) (Value.str _ _)) _ _ _); (refine' iadd_txt ?zqkxaa ?zqkxab ?_; (case zqkxaa => k_extra "m len"); (case zqkxab => k_extra "m len")); intro _ _ _)
  k_with "setAttr ref" => (k_dflt (refine' set_dict ?zqk1 ?zqk2 ?zqk3 ?zqk4 ?zqk5 ?zqk6 ?zqk7 ?zqk8 ?zqk9 ?zqk10 ?zqk11 ?zqk12 ?zqk13 ?_; (case zqk1 => k_asm); (case zqk2 => k_asm); (case zqk3 => k_asm); (case zqk4 => k_inst); (case zqk5 => exact rfl); (case zqk6 => k_is); (case zqk7 => k_is); (case zqk8 => k_is); (case zqk9 => k_is); (case zqk10 => k_get); (case zqk11 => k_put); (case zqk12 => k_upd); (case zqk13 => exact Nat.le_of_ble_eq_true rfl); k_whole; intro _ _ _; (try k_sweep)))
  k_with "getAttr ref" => (k_dflt (refine' get_own ?zqk1 ?zqk2 ?zqk3 ?zqk4 ?zqk5 ?zqk6 ?zqk7 ?zqk8 ?zqk9 ?_; (case zqk1 => k_asm); (case zqk2 => k_asm); (case zqk3 => first | exact inst_base (by with_reducible assumption) (by k_asm) | k_inst); (case zqk4 => k_is); (case zqk5 => k_is); (case zqk6 => k_is); (case zqk7 => k_is); (case zqk8 => k_get); (case zqk9 => k_handed); k_whole))
  k_with "m side" => first | with_reducible assumption | decide | exact Nat.le_trans (by with_reducible assumption) (by decide) | omega | trivial | (simp only [Str.length_append, len_tx] at *; omega)
  k_with "m ctr" => ((case zqF => with_reducible assumption); (case zqN => with_reducible assumption); (case zqX => with_reducible assumption); (case zqT => with_reducible assumption); (case zqd => k_extra "m room"); (case zqu => k_extra "m room"))
  k_with "call ref" => ((with_reducible show wpAny _ _ (call (Value.ref 219) _) _ _ _); refine' CtrN.use (c_depths _ _ _ ?zqh) ?zqF ?zqN ?zqX ?zqT ?zqd ?zqu ?zqp ?_; (case zqh => (k_extra "m side")); (case zqp => trivial); (k_extra "m ctr"); intro _ ⟨_, _⟩ _ _ _ zN' zhne' zhR'; (try dsimp only at zN' zhR' zhne'))
  k_with "call ref" => ((with_reducible show wpAny _ _ (call (Value.ref 281) _) _ _ _); refine' Ctr.use (c_digits_end _ _ _ _ _ ?zqh) ?zqF ?zqN ?zqX ?zqT ?zqd ?zqu ?zqp ?_; (case zqh => (k_extra "m side")); (case zqp => trivial); (k_extra "m ctr"); intro _ _ _ _ _ _ _)
  k_with "call ref" => ((with_reducible show wpAny _ _ (call (Value.ref 274) _) _ _ _); refine' Ctr.use (c_name_end _ _ _ _ _ ?zqh) ?zqF ?zqN ?zqX ?zqT ?zqd ?zqu ?zqp ?_; (case zqh => (k_extra "m side")); (case zqp => trivial); (k_extra "m ctr"); intro _ _ _ _ _ _ _)
  k_with "call ref" => ((with_reducible show wpAny _ _ (call (Value.ref 226) _) _ _ _); refine' Ctr.use (c_closing _ _ _ _ _ ?zqh ?zqg) ?zqF ?zqN ?zqX ?zqT ?zqd ?zqu ?zqp ?_; (case zqh => (k_extra "m side")); (case zqg => (k_extra "m side")); (case zqp => trivial); (k_extra "m ctr"); intro _ _ _ _ _ _ _)
  k_with "call ref" => ((with_reducible show wpAny _ _ (call (Value.ref 288) _) _ _ _); refine' Ctr.use (c_is_target _ _ _ ?zqh) ?zqF ?zqN ?zqX ?zqT ?zqd ?zqu ?zqp ?_; (case zqh => (k_extra "m side")); (case zqp => trivial); (k_extra "m ctr"); intro _ _ _ _ _ _ _)
  k_with "call ref" => ((with_reducible show wpAny _ _ (call (Value.ref 295) _) _ _ _); (with_reducible rename IntsAre _ _ => zhI'); refine' Ctr.use (c_is_balanced _ _ _ _ _ _ zhI' ?zqh) ?zqF ?zqN ?zqX ?zqT ?zqd ?zqu ?zqp ?_; (case zqh => (k_extra "m side")); (case zqp => exact News.get (by with_reducible assumption) (by k_mem)); (k_extra "m ctr"); intro _ _ _ _ _ _ _)
  k_with "call ref" => ((with_reducible show wpAny _ _ (call (Value.ref 302) _) _ _ _); (with_reducible rename IntsAre _ _ => zhI'); refine' CtrN.use (c_equals_at _ _ _ _ _ _ zhI' ?zqh) ?zqF ?zqN ?zqX ?zqT ?zqd ?zqu ?zqp ?_; (case zqh => (k_extra "m side")); (case zqp => exact News.get (by with_reducible assumption) (by k_mem)); (k_extra "m ctr"); intro _ _ _ _ _ zN' zhne' _; (try dsimp only at zN' zhne'))
  k_with "call ref" => ((with_reducible show wpAny _ _ (call (Value.ref 309) _) _ _ _); refine' Ctr.use (c_is_do_head _ _ _ ?zqh) ?zqF ?zqN ?zqX ?zqT ?zqd ?zqu ?zqp ?_; (case zqh => (k_extra "m side")); (case zqp => trivial); (k_extra "m ctr"); intro _ _ _ _ _ _ _)
  k_with "call ref" => ((with_reducible show wpAny _ _ (call (Value.ref 323) _) _ _ _); refine' Ctr.use (c_word_of_goto _ _ _ ?zqh) ?zqF ?zqN ?zqX ?zqT ?zqd ?zqu ?zqp ?_; (case zqh => (k_extra "m side")); (case zqp => trivial); (k_extra "m ctr"); intro _ _ _ _ _ _ _)
  k_with "call ref" => ((with_reducible show wpAny _ _ (call (Value.ref 316) _) _ _ _); refine' Ctr.use (c_word_of_if _ _ _ ?zqh) ?zqF ?zqN ?zqX ?zqT ?zqd ?zqu ?zqp ?_; (case zqh => (k_extra "m side")); (case zqp => trivial); (k_extra "m ctr"); intro _ _ _ _ _ _ _)
  k_with "call ref" => ((with_reducible show wpAny _ _ (call (Value.ref 337) _) _ _ _); refine' Ctr.use (c_word_by_begin _ _ _ ?zqh ?zqg) ?zqF ?zqN ?zqX ?zqT ?zqd ?zqu ?zqp ?_; (case zqh => (k_extra "m side")); (case zqg => (k_extra "m wb")); (case zqp => trivial); (k_extra "m ctr"); intro _ _ _ _ _ _ _)
  k_with "call ref" => ((with_reducible show wpAny _ _ (call (Value.ref 344) _) _ _ _); refine' Ctr.use (c_classify _ _ _ ?zqh ?zqg) ?zqF ?zqN ?zqX ?zqT ?zqd ?zqu ?zqp ?_; (case zqh => (k_extra "m side")); (case zqg => (k_extra "m cls")); (case zqp => trivial); (k_extra "m ctr"); intro _ _ _ _ _ _ _)
  k_with "ite" => with_reducible (first | refine ite_nemp ?_ | refine ite_ee ?_ | refine ite_nee ?_)
  k_with "call ref" => ((with_reducible show wpAny _ _ (call (Value.ref 212) _) _ _ _); refine' Ctr.use (c_squeezed _ _ _ ?zqh ?zqg) ?zqF ?zqN ?zqX ?zqT ?zqd ?zqu ?zqp ?_; (case zqh => (k_extra "m side")); (case zqg => (k_extra "m sq")); (case zqp => trivial); (k_extra "m ctr"); intro _ _ _ _ _ _ _)
  k_with "m ctrP" => ((case zqF => with_reducible assumption); (case zqN => with_reducible assumption); (case zqX => with_reducible assumption); (case zqT => with_reducible assumption); (case zqd => k_extra "m room"); (case zqu => k_extra "m room"); (case zqn => with_reducible assumption); (case zqP => with_reducible assumption))
  k_with "m ne2" => (exact ⟨by k_ne, by k_ne⟩)
  k_with "call ref" => ((with_reducible show wpAny _ _ (call (Value.ref 373) _) _ _ _); (first | (refine' CtrP.use0 (c_figI _ _ _ _ _ _ ?zqa ?zqb ?zqc) ?zqF ?zqN ?zqX ?zqT ?zqd ?zqu ?zqn ?zqP ?_; (k_extra "m ctrP")) | (refine' CtrP.use1 (c_figI _ _ _ _ _ _ ?zqa ?zqb ?zqc) ?zqF ?zqN ?zqX ?zqT ?zqd ?zqu ?zqn ?zqP ?zqh1 ?_; (k_extra "m ctrP"); (case zqh1 => k_extra "m ne2")) | (refine' CtrP.use2 (c_figI _ _ _ _ _ _ ?zqa ?zqb ?zqc) ?zqF ?zqN ?zqX ?zqT ?zqd ?zqu ?zqn ?zqP ?zqh1 ?zqh2 ?_; (k_extra "m ctrP"); (case zqh1 => k_extra "m ne2"); (case zqh2 => k_extra "m ne2")) | (refine' CtrP.use3 (c_figI _ _ _ _ _ _ ?zqa ?zqb ?zqc) ?zqF ?zqN ?zqX ?zqT ?zqd ?zqu ?zqn ?zqP ?zqh1 ?zqh2 ?zqh3 ?_; (k_extra "m ctrP"); (case zqh1 => k_extra "m ne2"); (case zqh2 => k_extra "m ne2"); (case zqh3 => k_extra "m ne2"))); (case zqa => k_extra "m nat"); (case zqb => k_extra "m nat"); (case zqc => k_extra "m nat"); intro ⟨_, _⟩ _ _ _ _ _ _ _ zhR'; (dsimp only at zhR'); (try dsimp only))
  k_with "call ref" => ((with_reducible show wpAny _ _ (call (Value.ref 362) _) _ _ _); refine' CtrL.use (c_Limits _) ?zqF ?zqN ?zqX ?zqT ?zqd ?zqu ?zqp ?_; (case zqp => trivial); (k_extra "m ctr"); intro ⟨_, _, _⟩ _ _ _ zN' zhne' _; (dsimp only [List.cons_append, List.nil_append] at zN'); (try (have za1 := neN (zhne' _ (List.mem_cons_self ..) _ (List.mem_cons_self ..)); try dsimp only at za1)); (try (have za2 := neN (zhne' _ (List.mem_cons_self ..) _ (List.mem_cons_of_mem _ (List.mem_cons_self ..))); try dsimp only at za2)); (try (have za3 := neN (zhne' _ (List.mem_cons_of_mem _ (List.mem_cons_self ..)) _ (List.mem_cons_self ..)); try dsimp only at za3)); (try (have za4 := neN (zhne' _ (List.mem_cons_of_mem _ (List.mem_cons_self ..)) _ (List.mem_cons_of_mem _ (List.mem_cons_self ..))); try dsimp only at za4)); (try dsimp only))
  k_with "call ref" => ((with_reducible show wpAny _ _ (call (Value.ref 89) _) _ _ _); refine' CtrL.use (c_Card _ _ _ _ _) ?zqF ?zqN ?zqX ?zqT ?zqd ?zqu ?zqp ?_; (case zqp => trivial); (k_extra "m ctr"); intro ⟨_, _, _⟩ _ _ _ zN' zhne' _; (dsimp only [List.cons_append, List.nil_append] at zN'); (try (have za1 := neN (zhne' _ (List.mem_cons_self ..) _ (List.mem_cons_self ..)); try dsimp only at za1)); (try (have za2 := neN (zhne' _ (List.mem_cons_self ..) _ (List.mem_cons_of_mem _ (List.mem_cons_self ..))); try dsimp only at za2)); (try (have za3 := neN (zhne' _ (List.mem_cons_of_mem _ (List.mem_cons_self ..)) _ (List.mem_cons_self ..)); try dsimp only at za3)); (try (have za4 := neN (zhne' _ (List.mem_cons_of_mem _ (List.mem_cons_self ..)) _ (List.mem_cons_of_mem _ (List.mem_cons_self ..))); try dsimp only at za4)); (try dsimp only))
  k_with "call ref" => ((with_reducible show wpAny _ _ (call (Value.ref 107) _) _ _ _); refine' Ctr.use (c_wb _ _ _ ?zqh) ?zqF ?zqN ?zqX ?zqT ?zqd ?zqu ?zqp ?_; (case zqh => (k_extra "m side")); (case zqp => trivial); (k_extra "m ctr"); intro _ _ _ _ _ _ _)
  k_with "call builtin:len" => ((with_reducible show wpAny _ _ (call (Value.builtin "len") [Value.ref _]) _ _ _); (refine' len_newsL ?zqn ?zqm ?zqb ?_; (case zqn => with_reducible assumption); (case zqm => k_mem); (case zqb => k_extra "m nat")))
  k_with "call ref" => ((with_reducible show wpAny _ _ (call (Value.ref 114) _) _ _ _); refine' Ctr.use (c_is_comment _ _ _ _ ?zqh) ?zqF ?zqN ?zqX ?zqT ?zqd ?zqu ?zqp ?_; (case zqh => (k_extra "m side")); (case zqp => trivial); (k_extra "m ctr"); intro _ _ _ _ _ _ _)
  k_with "call ref" => ((with_reducible show wpAny _ _ (call (Value.ref 142) _) _ _ _); refine' Ctr.use (c_padded _ _ _ _ ?zqh) ?zqF ?zqN ?zqX ?zqT ?zqd ?zqu ?zqp ?_; (case zqh => (k_extra "m side")); (case zqp => trivial); (k_extra "m ctr"); intro _ _ _ _ _ _ _)
  k_with "call ref" => ((with_reducible show wpAny _ _ (call (Value.ref 100) _) _ _ _); refine' CtrL.use (c_cards_of _ _ _ _ ?zqg ?zqh ?zqe) ?zqF ?zqN ?zqX ?zqT ?zqd ?zqu ?zqp ?_; (case zqg => with_reducible assumption); (case zqh => (k_extra "m side")); (case zqe => with_reducible assumption); (case zqp => trivial); (k_extra "m ctr"); intro _ _ _ _ _ _ _)
  k_with "call ref" => ((with_reducible show wpAny _ _ (call (Value.ref 121) _) _ _ _); refine' CtrL.use (c_read_cards _ _ _ _ _ _ _ ?zqg ?zqh ?zqe ?zqr) ?zqF ?zqN ?zqX ?zqT ?zqd ?zqu ?zqp ?_; (case zqg => with_reducible assumption); (case zqh => (k_extra "m side")); (case zqe => with_reducible assumption); (case zqr => with_reducible assumption); (case zqp => k_extra "m inst"); (k_extra "m ctr"); intro _ _ _ _ _ _ _)
  k_with "m inst" => first | with_reducible assumption | exact inst_base (by with_reducible assumption) (by k_asm) | k_inst
  k_with "call builtin:len" => ((with_reducible show wpAny _ _ (call (Value.builtin "len") [Value.ref _]) _ _ _); (refine' len_base ?zqn ?zqm ?zqb ?_; (case zqn => with_reducible assumption); (case zqm => k_asm); (case zqb => k_extra "m nat")))
  k_with "subscriptTail Name Name ref int" => ((refine' item_base ?zqn ?zqm ?zqb ?zqv ?_ ?zqs ?zqg); (case zqn => with_reducible assumption); (case zqm => k_asm); (case zqb => k_extra "m nat"); (case zqv => with_reducible assumption); (case zqs => with_unfolding_all exact rfl); (case zqg => (intro _; with_unfolding_all exact rfl)))
  k_with "subscriptTail Name Constant ref int" => ((refine' item_base0 ?zqn ?zqm ?zqv ?_ ?zqs ?zqg); (case zqn => with_reducible assumption); (case zqm => k_asm); (case zqv => with_reducible assumption); (case zqs => with_unfolding_all exact rfl); (case zqg => (intro _; with_unfolding_all exact rfl)))
  k_with "m inst" => first | with_reducible assumption | exact inst_base (by with_reducible assumption) (by k_asm) | k_inst
  k_with "call ref" => ((with_reducible show wpAny _ _ (call (Value.ref 135) _) _ _ _); refine' Ctr.use (c_read_label' _ _ ?zqh) ?zqF ?zqN ?zqX ?zqT ?zqd ?zqu ?zqp ?_; (case zqh => with_reducible assumption); (case zqp => k_extra "m inst"); (k_extra "m ctr"); intro _ _ _ _ _ _ _)
  k_with "call ref" => ((with_reducible show wpAny _ _ (call (Value.ref 128) _) _ _ _); refine' Ctr.use (c_is_continuation _ _) ?zqF ?zqN ?zqX ?zqT ?zqd ?zqu ?zqp ?_; (case zqp => k_extra "m inst"); (k_extra "m ctr"); intro _ _ _ _ _ _ _)
  trivial

-- text C20
section
theorem Fly.base {fs : List Addr} {C e dx T : Addr} {od : Obj} {fl : Value} {g h h' : Heap} (x : Fly fs C e dx T od fl h h') (k : ∀ b o, g.get? b = some o → h.get? b = some o) : Fly fs C e dx T od fl g h' := by
  have nz : ∀ a, h.get? a = none → g.get? a = none := fun a ha => by
    cases q : g.get? a with
    | none => rfl
    | some o => rw [k _ _ q] at ha; cases ha
  exact ⟨⟨fun b o e n => x.kx.slot b o (k b o e) n, fun b o e n m => x.kx.keep b o (k b o e) n m⟩, nz _ x.e0, nz _ x.d0, nz _ x.T0, x.d, x.hd, x.hf, x.x⟩
section
variable {M : Model} {A : Around} {E : Value → Shared → Prop} {s : Shared} {base h : Heap} {env : Env} {outer : List Env} {L C e dx T : Addr} {od : Obj} {fl : Value} {Q : Unit → Shared → Prop}
theorem fly_set {fs : List Addr} {l : List Env} (fo : Option Addr) (hl : s.heap.FunFrames base l) (x : Fly fs C e dx T od fl h s.heap)
    (k : ∀ h', Fly fs C e dx T od (fo.elim .none fun f => rawInt f) h h' → h'.FunFrames base l → Q () { s with heap := h' }) : wpAny M A (setFlight (.ref e) fo) Q E s := by
  obtain ⟨oe, vs, oT, ts, he, hc, hx, hd, h1, hTe, hT, hdT, h3⟩ := x.x.ex
  have h3s := (Array.getElem?_eq_some_iff.mp h3).1
  unfold setFlight
  refine wpAny_bind (wpAny_field he hd h1 ?_)
  rw [if_pos (show (Value.ref T != Value.none) = true from by simp)]
  refine wpAny_setField hT hdT h3s (k _ (x.on (.upd (by simp)) (.inl rfl) ?_) (hl.of_keeps fun b o hb hn => ⟨o, (Heap.get?_update_other _ _ (fun q => ?_)).trans hb, rfl⟩))
  · exact ⟨oe, vs, _, _, (Heap.get?_update_other _ _ hTe).trans he, hc, hx, hd, h1, hTe, Heap.get?_update_self _ hT (Obj.isFreed_of_fields (Obj.data_mapFields hdT _)), Obj.data_mapFields hdT _, by simp [h3s]⟩
  · rw [← q, hT] at hb; cases hb; exact hn _ hdT
theorem fly_note_any (hfr : A.frames = some (env :: outer)) (hl : s.heap.FunFrames base (env :: outer)) (hf : env.frame = some L) (hfl : fl = .none ∨ fl = rawInt L) (x : Fly (frs (env :: outer)) C e dx T od fl h s.heap)
    (k : ∀ h' T', Fly (frs (env :: outer)) C e dx T' od (rawInt L) h h' → h'.FunFrames base (env :: outer) → Q () { s with heap := h' }) : wpAny M A (noteFrame (.ref e) env) Q E s := by
  rcases hfl with rfl | rfl
  · exact fly_note hfr hl hf x k
  · obtain ⟨oe, vs, oT, ts, he, hc, hx, hd, h1, hTe, hT, hdT, h3⟩ := id x.x.ex
    exact wpAny_noteFrame_inFlight hf he hd h1 hT hdT h3 (k s.heap T x hl)
end
def LineIs (w : World) (od : Obj) (n : Nat) : Prop := (∀ vs, od.data ≠ .fields vs) ∧ ∃ t, findObj (frag.heap_1 w.params) 51 (some od) (Str.ofString "line") = some (.value (.int n t))
theorem line_is (w : World) (v : Value) (n : Nat) (t : Tok) (k1 k2 : Tok) : LineIs w (excD w.params v (.int n t) k1 k2) n := by
  refine ⟨(fun vs q => by cases q), t, ?_⟩
  refine' findObj_own ?h ?a ?n ?l
  (case h => k_is)
  (case a => k_is)
  (case n => k_is)
  (case l => (show lookIn _ (dictOf _ _) = _; rfl))
/-- an exception on its way through a frame -/
inductive FlyE (w : World) (base g : Heap) (l : List Env) (L : Addr) (s : Shared) (n : Nat) (x : Value) (s' : Shared) : Prop
  | mk (e : _) (dx : _) (T : _) (od : _) (fl : _) (h' : _) (tk : _) (q0 : x = .ref e) (q1 : s' = { s with heap := h', toks := tk }) (q2 : (fl = .none ∨ fl = rawInt L)) (q3 : Fly (frs l) 51 e dx T od fl g h') (q4 : h'.FunFrames base l) (q5 : LineIs w od n) : FlyE w base g l L s n x s'
/-- an exception that was just made -/
inductive NewE (w : World) (base g : Heap) (l : List Env) (s : Shared) (n : Nat) (x : Value) (s' : Shared) : Prop
  | mk (e : _) (dx : _) (t : _) (od : _) (h' : _) (tk : _) (q0 : x = .ref e) (q1 : s' = { s with heap := h', toks := tk }) (q2 : h'.get? e = some (exO 51 t (some dx))) (q3 : h'.get? dx = some od) (q4 : (∀ b o, g.get? b = some o → h'.get? b = some o)) (q5 : g.get? e = none) (q6 : g.get? dx = none) (q7 : dx ∉ frs l) (q8 : h'.FunFrames base l) (q9 : LineIs w od n) : NewE w base g l s n x s'
theorem fly_passes {w : World} {M : Model} {A : Around} {base g : Heap} {env : Env} {outer : List Env} {L : Addr} {s : Shared} {n : Nat} (hfr : A.frames = some (env :: outer)) (hf : env.frame = some L) : PassesOwn M A env (FlyE w base g (env :: outer) L s n) := by
  rintro x s' ⟨e, dx, T, od, fl, h', tk, rfl, rfl, hfl, hF, hl, hn⟩
  unfold notedBy
  refine fly_note_any hfr hl hf hfl hF fun h₁ T' F₁ l₁ => ?_
  unfold cameBackBy
  obtain ⟨oe, vs, oT, ts, he, hc, hx, hd, h1, hTe, hT, hdT, h3⟩ := id F₁.x.ex
  refine wpAny_bind (wpAny_field he hd h1 ?_)
  rw [if_neg (show ¬ ((Value.ref T' == Value.none) = true) from by simp)]
  refine fly_set env.frame l₁ F₁ fun h₂ F₂ l₂ => ⟨e, dx, T', od, _, h₂, _, rfl, rfl, .inr ?_, F₂, l₂, hn⟩
  rw [hf]; rfl
/-- contract of a def that raises a SourceError of line n -/
def CtrX (w : World) (d : Nat) (f : Addr) (args : List Value) (pre : Heap → Prop) (n : Nat) : Prop :=
  ∀ (dp un : Nat) (gd : Option (List Code)) (outer : List Env) (mean : ExcName → Option Value) (mg mb : Str → Option Value) (base : Heap) (s : Shared) (Q E : Value → Shared → Prop),
    dp + d < 900 → un + 8 * d < 9000 → (frag.heap_1 w.params).In base → Top view LO mean mg mb base → base.StaysIn s.heap → s.heap.FunFrames base outer → pre s.heap →
    (∀ e dx T od h' tk, Fly (frs outer) 51 e dx T od .none s.heap h' → h'.FunFrames base outer → LineIs w od n → E (.ref e) { s with heap := h', toks := tk }) →
    wpAny (model PG w) (AA dp un gd (some outer)) (call (.ref f) args) Q E s
theorem CtrX.enter {w : World} {d : Nat} {f : Addr} {args : List Value} {pre : Heap → Prop} {n : Nat}
    {name qual : Str} {params : Arguments} {body : List Stmt} {scope : Scope} {dV kV doc pm cdv ct oc : Value} {an od : Option Addr} {osl : Array (Option Value)} {lk : List (Str × Value)}
    (ho : (frag.heap_1 w.params).lookup f = some ⟨oc, od, .func (fnOf name qual params body scope dV kV doc pm an cdv ct), osl⟩)
    (hcd : codeIn (frag.heap_1 w.params) cdv qual = true)
    (hbind : bindArgs (fnOf name qual params body scope dV kV doc pm an cdv ct) ⟨args, []⟩ = pure ((params.args.map (·.arg)).zip args)) (hlk : ((params.args.map (·.arg)).zip args).reverse = lk)
    (hloc : ∀ y ∈ (params.args.map (·.arg)).zip args, scope.names.lookup y.1 = some .local)
    (hco : scope.isCoroutine = false) (hgen : scope.isGenerator = false) (hk : scope.kind = .function) (hcell : ∀ x ∈ scope.names, x.2 ≠ .cell)
    (h : ∀ (dp un : Nat) (gd : Option (List Code)) (outer : List Env) (mean : ExcName → Option Value) (mg mb : Str → Option Value) (base : Heap) (s : Shared) (L : Addr) (h₁ : Heap) (tk : Nat),
      dp + d < 900 → un + 8 * d < 9000 → (frag.heap_1 w.params).In base → Top view LO mean mg mb base → base.StaysIn s.heap → (frag.heap_1 w.params).In s.heap → Top view LO mean mg mb s.heap → s.heap.FunFrames base outer → pre s.heap →
      Fr s.heap L h₁ (fun y => lk.lookup y) → News s.heap L h₁ [] →
      wpAny (model PG w) (AA dp un gd (some (envOf qual scope L f cdv :: outer))) (execs body (envOf qual scope L f cdv)) (fun _ _ => False)
        (fun x s' => NewE w base s.heap (envOf qual scope L f cdv :: outer) s n x s' ∨ FlyE w base s.heap (envOf qual scope L f cdv :: outer) L s n x s') { s with heap := h₁, toks := tk }) :
    CtrX w (d + 1) f args pre n := by
  intro dp un gd outer mean mg mb base s Q E hdp hun X T hb hff hpre hE
  have Xs := X.keeps hb
  have Ts := T.keeps hb
  refine wpAny_call (codeAny_call_def (fd := fnOf name qual params body scope dV kV doc pm an cdv ct) (body := body) (binds := (params.args.map (·.arg)).zip args)
    (by show dp < 1000; omega) (Xs _ _ ho) rfl Ts.nolimit (codeRec_of Xs hcd) rfl (.of_eq hbind) hcell hloc (fun h₁ hns hk₁ => ?_) hco hgen hk)
  rw [hlk] at hns
  have hL0 : s.heap.get? s.heap.objs.size = none := by
    cases q : s.heap.get? s.heap.objs.size with
    | none => rfl
    | some o => exact absurd (Heap.lt_size q) (Nat.lt_irrefl _)
  refine wpAny_mono (h (dp + 1) (un + 3) gd outer mean mg mb base s s.heap.objs.size h₁ _ (by omega) (by omega) X T hb Xs Ts hff hpre ⟨hns, hk₁, Nat.le_refl _⟩ News.nil) (fun _ _ x => x.elim) fun x s' hx => ?_
  have fin : ∀ e dx T' od' h' tk, Fly (frs (envOf qual scope s.heap.objs.size f cdv :: outer)) 51 e dx T' od' .none s.heap h' → h'.FunFrames base (envOf qual scope s.heap.objs.size f cdv :: outer) → LineIs w od' n → E (.ref e) { s with heap := h', toks := tk } :=
    fun e dx T' od' h' tk hF hl hn => hE e dx T' od' h' tk (hF.out rfl hL0) hl.2.2 hn
  rcases hx with ⟨e, dx, t, od', h', tk, rfl, rfl, he, hdx, hg, e0, d0, hdf, hl, hn⟩ | ⟨e, dx, T', od', fl, h', tk, rfl, rfl, hfl, hF, hl, hn⟩
  · exact fly_first (env := envOf qual scope s.heap.objs.size f cdv) (outer := outer) rfl hl rfl he rfl rfl rfl rfl hdx hn.1 hg e0 d0 hdf fun h'' T' y z => fin e dx T' od' h'' tk y z hn
  · show wpAny _ _ (leaving (envOf qual scope s.heap.objs.size f cdv) (.ref e)) _ _ _
    unfold leaving
    exact wpAny_bind (fly_note_any rfl hl rfl hfl hF fun h₂ T₂ F₂ l₂ => fly_set none l₂ F₂ fun h₃ F₃ l₃ => fin e dx T₂ od' h₃ tk F₃ l₃ hn)
/-- a call that raises, within a frame -/
theorem CtrX.use {w : World} {d : Nat} {f : Addr} {args : List Value} {pre : Heap → Prop} {n : Nat} (C : CtrX w d f args pre n)
    {dp un : Nat} {gd : Option (List Code)} {mean : ExcName → Option Value} {mg mb : Str → Option Value} {s s₀ : Shared} {Q : Value → Shared → Prop} {g base : Heap} {outer : List Env} {L a : Addr} {cd : Value} {name : Str} {scope : Scope} {m : Str → Option Value}
    (F : Fr g L s.heap m) (X : (frag.heap_1 w.params).In base) (T : Top view LO mean mg mb base) (hb : base.StaysIn g) (hff : g.FunFrames base outer) (hk : scope.kind = .function)
    (hdp : dp + d < 900) (hun : un + 8 * d < 9000) (hpre : pre s.heap) {g' : Heap} (hg' : ∀ b o, g'.get? b = some o → s.heap.get? b = some o) (hs : ∀ h' tk, ({ s with heap := h', toks := tk } : Shared) = { s₀ with heap := h', toks := tk }) :
    wpAny (model PG w) (AA dp un gd (some (envOf name scope L a cd :: outer))) (call (.ref f) args) Q (FlyE w base g' (envOf name scope L a cd :: outer) L s₀ n) s := by
  have hbL : base.get? L = none := by
    cases q : base.get? L with
    | none => rfl
    | some o => exact absurd (Nat.lt_of_lt_of_le (Heap.lt_size (hb _ _ q)) F.above) (Nat.lt_irrefl _)
  refine C dp un gd (envOf name scope L a cd :: outer) mean mg mb base s Q _ hdp hun X T (fun b o e => F.keep _ _ (hb _ _ e)) (.cons (by show scope.kind ≠ _; rw [hk]; decide) rfl F.ns hbL (hff.of_keeps fun b o e _ => ⟨o, F.keep _ _ e, rfl⟩)) hpre ?_
  intro e dx T' od h' tk hF hl hn
  exact ⟨e, dx, T', od, .none, h', tk, rfl, hs h' tk, .inl rfl, hF.base hg', hl, hn⟩

end

-- text C21
section
theorem reg_C21_0 : True := by
  k_with "m enterX" => (refine' CtrX.enter ?zqho ?zqhcd ?zqhb ?zqhlk ?zqhl ?zqc1 ?zqc2 ?zqc3 ?zqc4 ?_; (k_extra "m cases"))
  trivial
inductive Rz (base : Heap) (E : Value → Shared → Prop) (v : Value) (s₁ : Shared) : Prop
  | mk (e : _) (t : _) (dx : _) (q0 : v = .ref e) (q1 : (∀ b o, base.get? b = some o → s₁.heap.get? b = some o)) (q2 : s₁.heap.get? e = some (exO 51 t (some dx))) (q3 : E (.ref e) s₁) : Rz base E v s₁
theorem raise_own {w : World} {base : Heap} {prog : Program} {A : Around} {E : Value → Shared → Prop} {s : Shared} {env : Env} {e : Expr} {pos : Pos} {Q : Flow → Shared → Prop} (X : (frag.heap_1 w.params).In base) (hh : A.handled = none)
    (h : wpAny (model prog w) A (eval e env) (Rz base E) E s) : wpAny (model prog w) A (exec (.Raise (some e) none pos) env) Q E s := by
  obtain ⟨nm, qn, N, bs, hdct, sn, sub, ab, col, dd, k0, k1, k2, k3, k5, hC⟩ := xcls X (k51_x w)
  show wpAny (model prog w) A (do standAt pos; raiseStmt env (some (do let v ← eval e env; standAt pos; pure v)) none) Q E s
  refine wpAny_bind (wpAny_standAt (xraise (bm := [.ref 31, .type "Exception", .type "BaseException", .type "object"]) (nm := nm) (q := qn) (C := 51) (N := N) (bs := bs) (hdct := hdct) (sn := sn) (sub := sub) (ab := ab) (col := col) (dd := dd) (k0 := k0) (k1 := k1) (k2 := k2) (k3 := k3) (k5 := k5) (by decide +kernel) hh (wpAny_bind (wpAny_mono h (fun v s₁ h₁ => wpAny_bind (wpAny_standAt (wpAny_pure ?_))) fun _ _ x => x))))
  obtain ⟨e, t, dx, rfl, hk, he, hE⟩ := h₁
  exact ⟨e, t, dx, rfl, hk _ _ hC, he, hE⟩
theorem reg_C21_1 : True := by
  k_with "exec Raise some none" => refine raise_own (by with_reducible assumption) rfl ?_
  k_with "call ref" => ((with_reducible show wpAny _ _ (call (Value.ref 51) _) _ _ _); refine stop_here ?_)
  trivial
theorem new_frames {base g h : Heap} {outer : List Env} {L a : Addr} {cd : Value} {name : Str} {scope : Scope} {m : Str → Option Value} (hb : base.StaysIn g) (hff : g.FunFrames base outer) (F : Fr g L h m) (hk : scope.kind = .function) : h.FunFrames base (envOf name scope L a cd :: outer) := by
  have hbL : base.get? L = none := by
    cases q : base.get? L with
    | none => rfl
    | some o => exact absurd (Nat.lt_of_lt_of_le (Heap.lt_size (hb _ _ q)) F.above) (Nat.lt_irrefl _)
  exact .cons (by show scope.kind ≠ _; rw [hk]; decide) rfl F.ns hbL (hff.of_keeps fun b o e _ => ⟨o, F.keep _ _ e, rfl⟩)
theorem dx_out {base g h : Heap} {outer : List Env} {L a dx : Addr} {cd : Value} {name : Str} {scope : Scope} {m : Str → Option Value} (hff : g.FunFrames base outer) (F : Fr g L h m) (hd : dx ≠ L ∧ g.get? dx = none) : dx ∉ frs (envOf name scope L a cd :: outer) := fun q => by
  unfold frs at q
  rw [List.filterMap_cons, show (envOf name scope L a cd).frame = some L from rfl] at q
  rcases List.mem_cons.mp q with q | q
  · exact hd.1 q
  · obtain ⟨_, o, ho, _⟩ := hff.mem q
    rw [hd.2] at ho; cases ho
theorem c_checkX (w : World) (p p0 : Cd) (l lx ld : Addr) (lt : LimT) (n : Nat) (cs : List Cd) (hc : cs.length + 1 = 20) (hpl : p.v.label.length ≤ 100000) (hp : (wbF p.v.label).length = 0) :
    CtrX w 6 156 [.ref p.x, .ref l, .ref lx] (fun h => h.get? l = some (listOf ((p0 :: cs).map (fun p => Value.ref p.x)).toArray n) ∧ p.At w.params h ∧ InstAt h lx (instObj 362 ld) 362 (some (lt.obj w.params))) p.v.n := by
  walk_at "m enterX"
  intro dp un gd outer mean mg mb base s L h₁ tk hdp hun XB TB hb X T hff hpre F N
  have hl := hpre.1
  have hIp := hpre.2.1
  have hIl := hpre.2.2
  have hIp' : InstAt s.heap p.x (instObj 89 p.dx) 89 (some (p.dict w.params)) := hIp
  generalize hvs : (p0 :: cs).map (fun p => Value.ref p.x) = vs at hl
  have hL : s.heap.IsList l vs.toArray := ⟨_, hl, rfl, _, rfl⟩
  have hvl : vs.length = cs.length + 1 := by rw [← hvs, List.length_map]; rfl
  have hz : ((vs.length : Int) == 0) = false := by rw [beq_eq_false_iff_ne]; omega
  have hpe : (wbF p.v.label != Str.ofString "") = false := by
    have e : sg (wbF p.v.label) = [] := List.eq_nil_of_length_eq_zero (by rw [len_sg]; exact hp)
    have e2 : wbF p.v.label = tx [] := by rw [← e, tx_sg]
    rw [e2]; decide +kernel
  walk_at "m steps"
  with_reducible rename Fr _ _ _ _ => F
  with_reducible rename News _ _ _ _ => N
  refine src_call F N X T (by walk_at "m room") (by walk_at "m room") fun e dx t k1 k2 h' tk F N e0 d0 up => ?_
  have q1 := N _ (List.mem_cons_of_mem _ (List.mem_cons_self ..))
  have q2 := N _ (List.mem_cons_self ..)
  refine ⟨e, t, dx, rfl, F.keep, q1.1, .inl ⟨e, dx, t, _, h', tk, rfl, rfl, q1.1, q2.1, F.keep, q1.2.2, q2.2.2, ?_, new_frames hb hff F rfl, line_is ..⟩⟩
  exact dx_out hff F q2.2
theorem fly_only {w : World} {base g : Heap} {l : List Env} {L : Addr} {s : Shared} {n : Nat} {prog : Program} {A : Around} {α : Type} {x : Sem α} {Q : α → Shared → Prop} {s₁ : Shared} (h : wpAny (model prog w) A x Q (FlyE w base g l L s n) s₁) :
    wpAny (model prog w) A x Q (fun v s' => NewE w base g l s n v s' ∨ FlyE w base g l L s n v s') s₁ := wpAny_mono h (fun _ _ z => z) fun _ _ z => .inr z
inductive J17 (c0 : Cd) (ks : List Cd) (lx : Addr) (i : Nat) (m : Str → Option Value) (nx : List (Addr × Obj)) : Prop
  | mk (o r : Addr) (n' n'' : Nat) (rv ov : List Value) (rs : List (Addr × Obj)) (u : Tok) (q0 : nx = (o, listOf ov.toArray n') :: (r, listOf rv.toArray n'') :: rs) (q1 : r ≠ o) (q2 : (∀ p ∈ rs, p.1 ≠ o)) (q3 : (∀ p ∈ rs, p.1 ≠ r)) (q4 : ((i = 0 ∧ rv = [] ∧ ov = []) ∨ (∃ j, i = j + 1 ∧ j ≤ 19 ∧ rv = (c0 :: ks.take j).map (fun p => Value.ref p.x) ∧ ov = []))) (q5 : Has m [(Str.ofString "limits", .ref lx), (Str.ofString "width", .int 66 u), (Str.ofString "rows", .ref r), (Str.ofString "out", .ref o)]) : J17 c0 ks lx i m nx
theorem c_statementsX (w : World) (l lx ld : Addr) (lt : LimT) (n : Nat) (c0 k : Cd) (ks rest : List Cd) (hk : ks.length = 19)
    (h0 : isCont c0.v = false) (hks : ∀ c ∈ ks ++ [k], isCont c.v = true ∧ c.v.label.length ≤ 100000 ∧ (wbF c.v.label).length = 0)
    (hb0 : c0.v.body.length ≤ 66) (hr0 : Rd c0) (he0 : (wbF c0.v.body == Str.ofString "END") = false) (hrest : rest.length ≤ 1000) :
    CtrX w 8 163 [.ref l, .ref lx] (fun h => h.get? l = some (listOf ((c0 :: (ks ++ k :: rest)).map (fun p => Value.ref p.x)).toArray n) ∧ (∀ c ∈ c0 :: (ks ++ k :: rest), c.At w.params h) ∧ InstAt h lx (instObj 362 ld) 362 (some (lt.obj w.params))) k.v.n := by
  walk_at "m enterX"
  intro dp un gd outer mean mg mb base s L h₁ tk hdp hun XB TB hbs X T hff hpre F N
  have hl := hpre.1
  have hAt := hpre.2.1
  have hIl := hpre.2.2
  generalize hvs : (c0 :: (ks ++ k :: rest)).map (fun p => Value.ref p.x) = vs at hl
  have hL : s.heap.IsList l vs.toArray := ⟨_, hl, rfl, _, rfl⟩
  have hvl : vs.length = 21 + rest.length := by rw [← hvs, List.length_map, List.length_cons, List.length_append, List.length_cons]; omega
  refine fly_only ?_
  walk_at "m steps"
  with_reducible rename Fr _ _ _ _ => F
  with_reducible rename News _ _ _ _ => N
  rename (_ < _) => hlt
  have hltN := ltN hlt
  refine for_list (h₀ := s.heap) (L := L) (items := vs.toArray) rfl (base_list hL F) go_name F (fun p hp => N p (by simpa [or_comm] using hp))
    (J17 c0 ks lx)
    ⟨_, _, _, _, [], [], [], _, rfl, (by k_ne), (fun p hp => nomatch hp), (fun p hp => nomatch hp), .inl ⟨rfl, rfl, rfl⟩, rfl, rfl, rfl, rfl, trivial⟩ (.inl ⟨_, hl⟩) ?_ ?_ (fly_passes rfl rfl)
  · rintro i v m nx h tk I oI hv ⟨o, r, n', n'', rv, ov, rs, u, rfl, hro, hno, hnr, hst, hm⟩ hn F N
    have hoI := neN (hn _ (List.mem_cons_self ..))
    have hrI := neN (hn _ (List.mem_cons_of_mem _ (List.mem_cons_self ..)))
    have hroN := neN hro
    have hRI : ∀ p ∈ rs, p.1 ≠ I := fun p hp => hn p (List.mem_cons_of_mem _ (List.mem_cons_of_mem _ hp))
    dsimp only at hoI hrI
    have hv' : ((c0 :: (ks ++ k :: rest)).map (fun p => Value.ref p.x))[i]? = some v := by rw [hvs]; simpa using hv
    rw [List.getElem?_map] at hv'
    obtain ⟨c, hc, rfl⟩ := Option.map_eq_some_iff.mp hv'
    have hcm : c ∈ c0 :: (ks ++ k :: rest) := List.mem_of_getElem? hc
    have hIc : InstAt s.heap c.x (instObj 89 c.dx) 89 (some (c.dict w.params)) := hAt c hcm
    have hIc' : c.At w.params s.heap := hIc
    have F := knows F hm
    refine assign_name F N rfl rfl fun h' F N => ?_
    k_fold
    rcases hst with ⟨rfl, rfl, rfl⟩ | ⟨j, rfl, hj, rfl, rfl⟩
    · have hcc : c = c0 := by simpa using hc.symm
      subst hcc
      walk_at "m steps"
      with_reducible rename Fr _ _ _ _ => F
      with_reducible rename News _ _ _ _ => N
      rename (I < _ ∧ _) => hlt3
      have d1 := neN (Nat.ne_of_gt hlt3.1)
      have d2 := neN (Nat.ne_of_gt hlt3.2.1)
      have d3 := neN (Nat.ne_of_gt hlt3.2.2.1)
      have hall := hlt3.2.2.2
      refine ⟨_, _, _, _, rfl, F, news_sw N, ?_, o, _, n', _, [.ref c.x], [], (r, listOf #[] n'') :: rs, u, rfl, d2, ?_, ?_, .inr ⟨0, rfl, Nat.zero_le _, rfl, rfl⟩, rfl, rfl, rfl, rfl, trivial⟩
      · exact List.forall_mem_cons.mpr ⟨hoI, List.forall_mem_cons.mpr ⟨d1, List.forall_mem_cons.mpr ⟨hrI, hRI⟩⟩⟩
      · exact List.forall_mem_cons.mpr ⟨hro, hno⟩
      · exact List.forall_mem_cons.mpr ⟨Ne.symm d3, fun p hp => Nat.ne_of_lt (allLt_mem hall hp)⟩
    · have hcj : c ∈ ks ++ [k] ∧ (j < 19 → ks.take (j + 1) = ks.take j ++ [c]) ∧ (j = 19 → c = k) := by
        rw [List.getElem?_cons_succ] at hc
        rcases Nat.lt_or_ge j 19 with hjl | hjl
        · rw [List.getElem?_append_left (by omega)] at hc
          refine ⟨List.mem_append_left _ (List.mem_of_getElem? hc), fun _ => ?_, fun h => by omega⟩
          rw [List.take_add_one, hc]; rfl
        · rw [List.getElem?_append_right (by omega), show j - ks.length = 0 from by omega] at hc
          have : c = k := by simpa using hc.symm
          exact ⟨List.mem_append_right _ (List.mem_singleton.mpr this), fun h => by omega, fun _ => this⟩
      have hck := hcj.1
      have hkj := hcj.2.1
      have hc19 := hcj.2.2
      have ha21 := hks c hck
      have k1 := ha21.1
      have k2 := ha21.2.1
      have k3 := ha21.2.2
      have hrvl : ((c0 :: ks.take j).map (fun p => Value.ref p.x)).length = j + 1 := by rw [List.length_map, List.length_cons, List.length_take, Nat.min_eq_left (by omega)]
      generalize hrv : (c0 :: ks.take j).map (fun p => Value.ref p.x) = rv at *
      have hj100 : j < 100 := by omega
      walk_at "m steps"
      with_reducible rename Fr _ _ _ _ => F
      with_reducible rename News _ _ _ _ => N
      rcases Nat.lt_or_ge j 19 with hjl | hjl
      · refine Ctr.use (c_check w c c0 r lx ld lt n'' (ks.take j) (by rw [List.length_take]; omega) k2 k3 (by omega) he0) F N X T (by walk_at "m room") (by walk_at "m room")
          ⟨by rw [hrv]; exact (N _ (List.mem_cons_of_mem _ (List.mem_cons_of_mem _ (List.mem_cons_self ..)))).1, inst_base (hAt c0 (List.mem_cons_self ..)) F, inst_base hIc F, inst_base hIl F⟩ fun i' h' tk' F N hs hR => ?_
        walk_at "m steps"
        with_reducible rename Fr _ _ _ _ => F
        with_reducible rename News _ _ _ _ => N
        simp only [List.push_toArray] at N
        refine ⟨_, _, _, _, rfl, F, N, List.forall_mem_cons.mpr ⟨hoI, List.forall_mem_cons.mpr ⟨hrI, hRI⟩⟩, o, r, n', _, rv ++ [.ref c.x], [], rs, u, rfl, hro, hno, hnr, .inr ⟨j + 1, rfl, hjl, ?_, rfl⟩, rfl, rfl, rfl, rfl, trivial⟩
        rw [hkj hjl, ← hrv]; simp
      · have hj19 : j = 19 := by omega
        have hcc := hc19 hj19
        subst hcc
        exact CtrX.use (c_checkX w c c0 r lx ld lt n'' (ks.take j) (by rw [List.length_take]; omega) k2 k3) F XB TB hbs hff rfl (by walk_at "m room") (by walk_at "m room")
          ⟨by rw [hrv]; exact (N _ (List.mem_cons_of_mem _ (List.mem_cons_of_mem _ (List.mem_cons_self ..)))).1, inst_base hIc F, inst_base hIl F⟩ F.keep (fun _ _ => rfl)
  · rintro m nx h tk ⟨o, r, n', n'', rv, ov, rs, u, rfl, hro, hno, hnr, hst, hm⟩ F N
    exfalso
    rw [List.size_toArray, hvl] at hst
    rcases hst with ⟨h, _⟩ | ⟨j, h, h2, _⟩ <;> omega
theorem map_splitX {cs : List Cd} {v0 vk : CV} {kv rv : List CV} (h : cs.map Cd.v = v0 :: (kv ++ vk :: rv)) : ∃ c0 ks k rest, cs = c0 :: (ks ++ k :: rest) ∧ c0.v = v0 ∧ ks.map Cd.v = kv ∧ k.v = vk ∧ rest.map Cd.v = rv := by
  cases cs with
  | nil => cases h
  | cons c0 r =>
    rw [List.map_cons, List.cons.injEq] at h
    obtain ⟨h0, h1⟩ := h
    obtain ⟨ks, l1, rfl, h2, h3⟩ := List.map_eq_append_iff.mp h1
    cases l1 with
    | nil => cases h3
    | cons k rest =>
      rw [List.map_cons, List.cons.injEq] at h3
      exact ⟨c0, ks, k, rest, rfl, h0, h2, h3.1, h3.2⟩
/-- what the rows of a text must be for statements_of to refuse the row of vk -/
structure Bad (v0 vk : CV) (kv rv : List CV) : Prop where
  len : kv.length = 19
  n0 : isCont v0 = false
  ks : ∀ v ∈ kv ++ [vk], isCont v = true ∧ v.label.length ≤ 100000 ∧ (wbF v.label).length = 0
  b0 : v0.body.length ≤ 66
  r0 : v0.label.length ≤ 100000 ∧ (∀ c ∈ sg (wbF v0.label), isD c = true) ∧ (0 < (wbF v0.label).length → labF (sg (wbF v0.label)) ≠ 0)
  e0 : (wbF v0.body == Str.ofString "END") = false
theorem c_statementsXV (w : World) (l lx ld : Addr) (lt : LimT) (n : Nat) (cs : List Cd) (v0 vk : CV) (kv rv : List CV) (hcs : cs.map Cd.v = v0 :: (kv ++ vk :: rv)) (hrl : rv.length ≤ 1000) (G : Bad v0 vk kv rv) :
    CtrX w 8 163 [.ref l, .ref lx] (fun h => h.get? l = some (listOf (cs.map (fun p => Value.ref p.x)).toArray n) ∧ (∀ c ∈ cs, c.At w.params h) ∧ InstAt h lx (instObj 362 ld) 362 (some (lt.obj w.params))) vk.n := by
  obtain ⟨c0, ks, k, rest, rfl, rfl, rfl, rfl, rfl⟩ := map_splitX hcs
  obtain ⟨a1, a2, a3, a4, a5, a6⟩ := G
  exact c_statementsX w l lx ld lt n c0 k ks rest (by rw [List.length_map] at a1; exact a1) a2 (fun c hc => a3 c.v (by
      rcases List.mem_append.mp hc with hc | hc
      · exact List.mem_append_left _ (List.mem_map.mpr ⟨c, hc, rfl⟩)
      · rw [List.mem_singleton.mp hc]; exact List.mem_append_right _ (List.mem_singleton.mpr rfl))) a4 a5 a6 (by rw [List.length_map] at hrl; exact hrl)
theorem c_read_statementsX (w : World) (x : Str) (t : Tok) (lx ld : Addr) (lt : LimT) (R : List Str) (v0 vk : CV) (kv rv : List CV) (hR : Txt.split x (Str.ofString "\n") = R ++ [Str.ofString ""]) (hx : x.length ≤ 100000) (hRl : R.length ≤ 1000)
    (hrow : ∀ r ∈ R, r.length ≤ 100000 ∧ (isCom r = false → 6 ≤ (Txt.slice r none (some 72)).length)) (hcards : cardsGo (cardNo R) = v0 :: (kv ++ vk :: rv)) (hrl : rv.length ≤ 1000) (G : Bad v0 vk kv rv) :
    CtrX w 9 170 [.str x t, .ref lx] (fun h => InstAt h lx (instObj 362 ld) 362 (some (lt.obj w.params))) vk.n := by
  walk_at "m enterX"
  intro dp un gd outer mean mg mb base s L h₁ tk hdp hun XB TB hbs X T hff hpre F N
  have hI : InstAt s.heap lx (instObj 362 ld) 362 (some (lt.obj w.params)) := hpre
  refine fly_only ?_
  walk_at "m steps"
  with_reducible rename Fr _ _ _ _ => F
  with_reducible rename News _ _ _ _ => N
  rename (Addr × List Cd × Nat) => i
  rename (_ = cardsGo _) => hcv
  obtain ⟨l, cs, n⟩ := i
  dsimp only at N hcv
  rw [hcards] at hcv
  have hat : ∀ c ∈ cs, c.At w.params _ := fun c hc => cd_at N hc
  exact CtrX.use (c_statementsXV w l lx ld lt n cs v0 vk kv rv hcv hrl G) F XB TB hbs hff rfl (by walk_at "m room") (by walk_at "m room") ⟨(N _ (List.mem_append_left _ (List.mem_cons_self ..))).1, hat, inst_base hI F⟩ F.keep (fun _ _ => rfl)
/-- contract of a def that catches it -/
def CtrH (w : World) (d : Nat) (f : Addr) (args : List Value) (n : Nat) : Prop :=
  ∀ (dp un : Nat) (gd : Option (List Code)) (outer : List Env) (mean : ExcName → Option Value) (mg mb : Str → Option Value) (base : Heap) (s : Shared) (Q E : Value → Shared → Prop),
    dp + d < 900 → un + 8 * d < 9000 → (frag.heap_1 w.params).In base → Top view LO mean mg mb base → base.StaysIn s.heap → s.heap.FunFrames base outer →
    (∀ t h' tk, Kx (frs outer) [] s.heap h' → h'.FunFrames base outer → Q (.int n t) { s with heap := h', toks := tk }) →
    wpAny (model PG w) (AA dp un gd (some outer)) (call (.ref f) args) Q E s
inductive RetH (base : Heap) (outer : List Env) (s : Shared) (n : Nat) (fl : Flow) (s' : Shared) : Prop
  | mk (t : _) (h' : _) (tk : _) (q0 : fl = .ret (.int n t)) (q1 : s' = { s with heap := h', toks := tk }) (q2 : Kx (frs outer) [] s.heap h') (q3 : h'.FunFrames base outer) : RetH base outer s n fl s'
theorem CtrH.enter {w : World} {d : Nat} {f : Addr} {args : List Value} {n : Nat}
    {name qual : Str} {params : Arguments} {body : List Stmt} {scope : Scope} {dV kV doc pm cdv ct oc : Value} {an od : Option Addr} {osl : Array (Option Value)} {lk : List (Str × Value)}
    (ho : (frag.heap_1 w.params).lookup f = some ⟨oc, od, .func (fnOf name qual params body scope dV kV doc pm an cdv ct), osl⟩)
    (hcd : codeIn (frag.heap_1 w.params) cdv qual = true)
    (hbind : bindArgs (fnOf name qual params body scope dV kV doc pm an cdv ct) ⟨args, []⟩ = pure ((params.args.map (·.arg)).zip args)) (hlk : ((params.args.map (·.arg)).zip args).reverse = lk)
    (hloc : ∀ y ∈ (params.args.map (·.arg)).zip args, scope.names.lookup y.1 = some .local)
    (hco : scope.isCoroutine = false) (hgen : scope.isGenerator = false) (hk : scope.kind = .function) (hcell : ∀ x ∈ scope.names, x.2 ≠ .cell)
    (h : ∀ (dp un : Nat) (gd : Option (List Code)) (outer : List Env) (mean : ExcName → Option Value) (mg mb : Str → Option Value) (base : Heap) (s : Shared) (L : Addr) (h₁ : Heap) (tk : Nat),
      dp + d < 900 → un + 8 * d < 9000 → (frag.heap_1 w.params).In base → Top view LO mean mg mb base → base.StaysIn s.heap → (frag.heap_1 w.params).In s.heap → Top view LO mean mg mb s.heap → s.heap.FunFrames base outer →
      Fr s.heap L h₁ (fun y => lk.lookup y) → News s.heap L h₁ [] →
      wpAny (model PG w) (AA dp un gd (some (envOf qual scope L f cdv :: outer))) (execs body (envOf qual scope L f cdv)) (RetH base outer s n) (fun _ _ => False) { s with heap := h₁, toks := tk }) :
    CtrH w (d + 1) f args n := by
  intro dp un gd outer mean mg mb base s Q E hdp hun X T hb hff hQ
  have Xs := X.keeps hb
  have Ts := T.keeps hb
  refine wpAny_call (codeAny_call_def (fd := fnOf name qual params body scope dV kV doc pm an cdv ct) (body := body) (binds := (params.args.map (·.arg)).zip args)
    (by show dp < 1000; omega) (Xs _ _ ho) rfl Ts.nolimit (codeRec_of Xs hcd) rfl (.of_eq hbind) hcell hloc (fun h₁ hns hk₁ => ?_) hco hgen hk)
  rw [hlk] at hns
  refine wpAny_mono (h (dp + 1) (un + 3) gd outer mean mg mb base s s.heap.objs.size h₁ _ (by omega) (by omega) X T hb Xs Ts hff ⟨hns, hk₁, Nat.le_refl _⟩ News.nil) (fun fl s' hr => ?_) fun _ _ x => x.elim
  obtain ⟨t, h', tk, rfl, rfl, hK, hF⟩ := hr
  exact hQ t h' tk hK hF

end

theorem regc18 : True := by
  k_with_none
  k_with "m cases" => ((case zqho => k_is); (case zqhcd => k_is); (case zqhb => exact rfl); (case zqhlk => simp only [List.map_cons, List.map_nil, List.zip_cons_cons, List.zip_nil_left, List.zip_nil_right, List.reverse_cons, List.reverse_nil, List.nil_append, List.cons_append]; exact rfl); (case zqhl => exact locs rfl); (case zqc1 => exact rfl); (case zqc2 => exact rfl); (case zqc3 => exact rfl); (case zqc4 => decide))
  k_with "m room" => first | with_reducible assumption | exact lt_room (by with_reducible assumption) (by decide) | omega
  k_with "m nat" => first | with_reducible assumption | exact Nat.le_refl _ | exact Nat.le_succ _ | exact Nat.le_trans (by with_reducible assumption) (by decide) | exact Nat.le_trans (Nat.add_le_add_right (by with_reducible assumption) _) (by decide) | decide | omega
  k_with "m lt" => first | assumption | exact And.left (by assumption) | exact And.left (And.right (by assumption)) | exact And.left (And.right (And.right (by assumption))) | exact And.left (And.right (And.right (And.right (by assumption)))) | exact And.left (And.right (And.right (And.right (And.right (by assumption))))) | exact And.left (And.right (And.right (And.right (And.right (And.right (by assumption)))))) | exact And.left (And.right (And.right (And.right (And.right (And.right (And.right (by assumption))))))) | exact And.left (And.right (And.right (And.right (And.right (And.right (And.right (And.right (by assumption)))))))) | exact And.right (by assumption) | exact And.right (And.right (by assumption)) | exact And.right (And.right (And.right (by assumption))) | exact And.right (And.right (And.right (And.right (by assumption)))) | exact And.right (And.right (And.right (And.right (And.right (by assumption))))) | exact And.right (And.right (And.right (And.right (And.right (And.right (by assumption)))))) | exact And.right (And.right (And.right (And.right (And.right (And.right (And.right (by assumption)))))))
  k_with "m enter" => (refine' Ctr.enter ?zqho ?zqhcd ?zqhb ?zqhlk ?zqhl ?zqc1 ?zqc2 ?zqc3 ?zqc4 ?_; (k_extra "m cases"))
  k_with "m enterP" => (refine' CtrP.enter ?zqho ?zqhcd ?zqhb ?zqhlk ?zqhl ?zqc1 ?zqc2 ?zqc3 ?zqc4 ?_; (k_extra "m cases"))
  k_with "m enterT" => (refine' Ctr.enterT ?zqho ?zqhcd ?zqhb ?zqhlk ?zqhl ?zqc1 ?zqc2 ?zqc3 ?zqc4 ?_; (k_extra "m cases"))
  k_with "m init" => ((case zqhm => k_is); (case zqhi => k_is); (case zqhf => k_is); (case zqho => k_is); (case zqhcd => k_is); (case zqhb => (intro _ _ zX; first | exact BindsTo.of_eq rfl | exact binds_K zX rfl (by k_is) rfl rfl rfl)); (case zqhlk => (intro _; exact rfl)); (case zqhl => (intro _; exact locs rfl)); (case zqc1 => exact rfl); (case zqc2 => exact rfl); (case zqc3 => exact rfl); (case zqc4 => decide))
  k_with "m star" => with_reducible (first | exact st_Name | exact st_Constant | exact st_BinOp | exact st_Call | exact st_Subscript | exact st_Attribute | exact st_UnaryOp | exact st_Tuple | exact st_List)
  k_with "m plain" => first | with_reducible exact pl_nil | (with_reducible refine' pl_cons ?zqp1 ?zqp2; (case zqp1 => k_extra "m star"); (case zqp2 => k_extra "m plain"))
  k_with "execs cons" => (refine execs_seal ?_; intro _ _)
  k_with "exec If" => with_reducible refine wpAny_If ?_
  k_with "execs nil" => with_reducible refine wpAny_execs_nil ?_
  k_with "m open" => with_reducible (first | refine SealS.next (by assumption) ?_ | refine SealS.ret (by assumption) ?_ | refine SealS.brk (by assumption) ?_ | refine SealS.cont (by assumption) ?_)
  k_with "m steps" => ((repeat' (first | (k_unfold; (try dsimp only)) | walk1 | k_extra "m open" | (dsimp only; walk1) | fail "no step")) <;> (try dsimp only) <;> (try k_unfold) <;> (try dsimp only [ForStep, WhileStep2]) <;> (repeat (with_reducible refine SealS.ret (by assumption) ?_)))
  k_with "exec For Name Name cons nil" => ((with_reducible refine' for_start ?_ ?zqhs); (case zqhs => (intro _; k_dflt (exact rfl))))
  k_with "exec For Name Call cons nil" => ((with_reducible refine' for_start ?_ ?zqhs); (case zqhs => (intro _; k_dflt (exact rfl))))
  k_with "exec For Tuple Name cons nil" => ((with_reducible refine' for_start ?_ ?zqhs); (case zqhs => (intro _; k_dflt (exact rfl))))
  k_with "exec For Tuple Call cons nil" => ((with_reducible refine' for_start ?_ ?zqhs); (case zqhs => (intro _; k_dflt (exact rfl))))
  k_with "pyIter ref" => ((with_reducible show wpAny _ _ (pyIter _) (fun it s₂ => ForGo _ _ _ _ _ _ _ _ it s₂) _ _); refine stop_here ?_)
  k_with "pyIter str" => ((with_reducible show wpAny _ _ (pyIter _) (fun it s₂ => ForGo _ _ _ _ _ _ _ _ it s₂) _ _); refine stop_here ?_)
  k_with "exec While Compare cons nil" => refine stop_here ?_
  k_with "exec While BoolOp cons nil" => refine stop_here ?_
  k_with "callWith" => ((with_reducible refine' callWith_method1 ?_ ?zqm2 ?zqm3); (case zqm2 => k_extra "m star"); (case zqm3 => k_extra "m plain"))
  k_with "callWith" => ((with_reducible refine' PyProof.Rows.callWith_builtin1 ?_ ?zqm2 ?zqm3); (case zqm2 => k_extra "m star"); (case zqm3 => k_extra "m plain"))
  k_with "callWith" => with_reducible refine callWith_method0 ?_
  k_with "eval Call Attribute" => ((with_reducible refine' MethodCall_ ?_ ?zqm2); (case zqm2 => k_dflt (exact rfl)))
  k_with "eval Call Name" => ((with_reducible refine' Call_ ?_ ?zqm2); (case zqm2 => k_dflt (exact rfl)))
  k_with "exec Assign cons" => ((with_reducible refine' wpAny_Assign_Name ?_ ?zqm2); (case zqm2 => k_dflt (exact rfl)))
  k_with "ite" => first | with_reducible refine ite_tt ?_ | with_reducible refine ite_ff ?_ | (with_reducible refine split_39 ?_ ?_ <;> intro _) | (with_reducible refine split_40 ?_ ?_ <;> intro _) | (with_reducible refine split_41 ?_ ?_ <;> intro _) | (with_reducible refine split_44 ?_ ?_ <;> intro _) | (with_reducible refine split_61 ?_ ?_ <;> intro _) | (with_reducible refine split_32 ?_ ?_ <;> intro _) | with_reducible refine split_end (fun _ => ?_) (fun _ _ _ => ?_) | with_reducible refine split_emp (fun _ => ?_) (fun _ => ?_) | (with_reducible refine split_nb ?_ ?_ <;> intro _) | (with_reducible refine dec_pos (by omega) ?_) | (with_reducible refine dec_neg (by omega) ?_) | (with_reducible refine PyProof.Rows.split_dec ?_ ?_ <;> intro _) | (with_reducible refine ite_pos (by with_reducible assumption) ?_) | (with_reducible refine ite_isFalse (by with_reducible assumption) ?_) | (with_reducible refine PyProof.Rows.split_bool ?_ ?_ <;> intro _)
  k_with "eval Name" => ((with_reducible refine' ld_fast ?zqk1 ?zqk2 ?zqk3 ?zqk4 ?zqk5 ?_); (case zqk1 => with_reducible assumption); (case zqk2 => k_dflt (exact rfl)); (case zqk3 => k_dflt (exact rfl)); (case zqk4 => k_dflt (exact rfl)); (case zqk5 => k_dflt (exact rfl)))
  k_with "compareOp In str str" => with_reducible (first | refine in_letters ?_ | refine in_digits ?_ | refine in_ahead ?_)
  k_with "compareOp NotIn str str" => with_reducible (refine notin_letters ?_)
  k_with "m item" => ((with_reducible show wpAny _ _ (subscriptTail _ _ (Value.str _ _) (Value.int _ _)) _ _ _); first | ((with_reducible refine' item_at ?zqm1 ?zqm2 ?_ ?zqm3 ?zqm4); (case zqm1 => with_reducible assumption); (case zqm2 => first | assumption | omega); (case zqm3 => with_unfolding_all exact rfl); (case zqm4 => (intro _; with_unfolding_all exact rfl))) | ((with_reducible refine' item_lt ?zqm1 ?zqm2 ?_ ?zqm3 ?zqm4); (case zqm1 => first | assumption | omega); (case zqm2 => first | assumption | omega); (case zqm3 => with_unfolding_all exact rfl); (case zqm4 => (intro _; with_unfolding_all exact rfl)); (intro _ _)))
  k_with "subscriptTail Name Name str int" => k_extra "m item"
  k_with "subscriptTail Name BinOp str int" => k_extra "m item"
  k_with "m ret" => ((repeat (with_reducible refine SealS.ret (by assumption) ?_)); (with_reducible rename Fr _ _ _ _ => zF'); first | exact ⟨_, _, _, rfl, rfl, Fr.keep zF', trivial⟩ | exact ⟨(0 : Nat), _, _, rfl, rfl, Fr.keep zF', trivial⟩)
  k_with "subscriptTail Name Name ref int" => ((with_reducible show wpAny _ _ (subscriptTail _ _ (Value.ref _) (Value.int _ _)) _ _ _); (with_reducible rename IntsAre _ _ => zhI'); (refine' item_ints (News.isList (by with_reducible assumption) (by k_mem)) zhI' ?zqm1 ?zqm2 ?_ ?zqm3 ?zqm4); (case zqm1 => first | assumption | omega); (case zqm2 => first | assumption | omega); (case zqm3 => with_unfolding_all exact rfl); (case zqm4 => (intro _; with_unfolding_all exact rfl)); (intro _ _ _))
  k_with "m cl" => (simp only [Nat.zero_add, Int.toNat_natCast, beq_iff_eq, beq_eq_false_iff_ne, ne_eq, bne_iff_ne, bne_eq_false_iff_eq, Bool.not_eq_true] at *)
  k_with "m ifs" => ((repeat (first | rw [if_pos (by with_reducible assumption)] | rw [if_no (by with_reducible assumption)] | rw [if_neg (by with_reducible assumption)])); try (first | rfl | with_reducible assumption | (symm; with_reducible assumption)))
  k_with "m fin" => ((repeat (with_reducible refine SealS.ret (by assumption) ?_)); (with_reducible rename Fr _ _ _ _ => zF'); first | refine ret_str (Fr.keep zF') ?_ | refine ret_bool (Fr.keep zF') ?_ | refine ret_int (Fr.keep zF') ?_)
  k_with "m len" => first | exact Nat.le_trans (by with_reducible assumption) (by decide) | omega | (decide +kernel) | ((try simp only [Str.length_append, len_tx]); omega)
  k_with "binaryOp Add str str" => ((with_reducible show wpAny _ _ (binaryOp Operator.Add (Value.str _ _) (Value.str _ _)) _ _ _); (refine' add_txt ?zqkxaa ?zqkxab ?_; (case zqkxaa => k_extra "m len"); (case zqkxab => k_extra "m len")); intro _ _ _)
  k_with "inplaceOp Add str str" => ((with_reducible show wpAny _ _ (inplaceOp Operator.Add (Value.str _ _) (Value.str _ _)) _ _ _); (refine' iadd_txt ?zqkxaa ?zqkxab ?_; (case zqkxaa => k_extra "m len"); (case zqkxab => k_extra "m len")); intro _ _ _)
  k_with "setAttr ref" => (k_dflt (refine' set_dict ?zqk1 ?zqk2 ?zqk3 ?zqk4 ?zqk5 ?zqk6 ?zqk7 ?zqk8 ?zqk9 ?zqk10 ?zqk11 ?zqk12 ?zqk13 ?_; (case zqk1 => k_asm); (case zqk2 => k_asm); (case zqk3 => k_asm); (case zqk4 => k_inst); (case zqk5 => exact rfl); (case zqk6 => k_is); (case zqk7 => k_is); (case zqk8 => k_is); (case zqk9 => k_is); (case zqk10 => k_get); (case zqk11 => k_put); (case zqk12 => k_upd); (case zqk13 => exact Nat.le_of_ble_eq_true rfl); k_whole; intro _ _ _; (try k_sweep)))
  k_with "getAttr ref" => (k_dflt (refine' get_own ?zqk1 ?zqk2 ?zqk3 ?zqk4 ?zqk5 ?zqk6 ?zqk7 ?zqk8 ?zqk9 ?_; (case zqk1 => k_asm); (case zqk2 => k_asm); (case zqk3 => first | exact inst_base (by with_reducible assumption) (by k_asm) | k_inst); (case zqk4 => k_is); (case zqk5 => k_is); (case zqk6 => k_is); (case zqk7 => k_is); (case zqk8 => k_get); (case zqk9 => k_handed); k_whole))
  k_with "m side" => first | with_reducible assumption | decide | exact Nat.le_trans (by with_reducible assumption) (by decide) | omega | trivial | (simp only [Str.length_append, len_tx] at *; omega)
  k_with "m ctr" => ((case zqF => with_reducible assumption); (case zqN => with_reducible assumption); (case zqX => with_reducible assumption); (case zqT => with_reducible assumption); (case zqd => k_extra "m room"); (case zqu => k_extra "m room"))
  k_with "call ref" => ((with_reducible show wpAny _ _ (call (Value.ref 219) _) _ _ _); refine' CtrN.use (c_depths _ _ _ ?zqh) ?zqF ?zqN ?zqX ?zqT ?zqd ?zqu ?zqp ?_; (case zqh => (k_extra "m side")); (case zqp => trivial); (k_extra "m ctr"); intro _ ⟨_, _⟩ _ _ _ zN' zhne' zhR'; (try dsimp only at zN' zhR' zhne'))
  k_with "call ref" => ((with_reducible show wpAny _ _ (call (Value.ref 281) _) _ _ _); refine' Ctr.use (c_digits_end _ _ _ _ _ ?zqh) ?zqF ?zqN ?zqX ?zqT ?zqd ?zqu ?zqp ?_; (case zqh => (k_extra "m side")); (case zqp => trivial); (k_extra "m ctr"); intro _ _ _ _ _ _ _)
  k_with "call ref" => ((with_reducible show wpAny _ _ (call (Value.ref 274) _) _ _ _); refine' Ctr.use (c_name_end _ _ _ _ _ ?zqh) ?zqF ?zqN ?zqX ?zqT ?zqd ?zqu ?zqp ?_; (case zqh => (k_extra "m side")); (case zqp => trivial); (k_extra "m ctr"); intro _ _ _ _ _ _ _)
  k_with "call ref" => ((with_reducible show wpAny _ _ (call (Value.ref 226) _) _ _ _); refine' Ctr.use (c_closing _ _ _ _ _ ?zqh ?zqg) ?zqF ?zqN ?zqX ?zqT ?zqd ?zqu ?zqp ?_; (case zqh => (k_extra "m side")); (case zqg => (k_extra "m side")); (case zqp => trivial); (k_extra "m ctr"); intro _ _ _ _ _ _ _)
  k_with "call ref" => ((with_reducible show wpAny _ _ (call (Value.ref 288) _) _ _ _); refine' Ctr.use (c_is_target _ _ _ ?zqh) ?zqF ?zqN ?zqX ?zqT ?zqd ?zqu ?zqp ?_; (case zqh => (k_extra "m side")); (case zqp => trivial); (k_extra "m ctr"); intro _ _ _ _ _ _ _)
  k_with "call ref" => ((with_reducible show wpAny _ _ (call (Value.ref 295) _) _ _ _); (with_reducible rename IntsAre _ _ => zhI'); refine' Ctr.use (c_is_balanced _ _ _ _ _ _ zhI' ?zqh) ?zqF ?zqN ?zqX ?zqT ?zqd ?zqu ?zqp ?_; (case zqh => (k_extra "m side")); (case zqp => exact News.get (by with_reducible assumption) (by k_mem)); (k_extra "m ctr"); intro _ _ _ _ _ _ _)
  k_with "call ref" => ((with_reducible show wpAny _ _ (call (Value.ref 302) _) _ _ _); (with_reducible rename IntsAre _ _ => zhI'); refine' CtrN.use (c_equals_at _ _ _ _ _ _ zhI' ?zqh) ?zqF ?zqN ?zqX ?zqT ?zqd ?zqu ?zqp ?_; (case zqh => (k_extra "m side")); (case zqp => exact News.get (by with_reducible assumption) (by k_mem)); (k_extra "m ctr"); intro _ _ _ _ _ zN' zhne' _; (try dsimp only at zN' zhne'))
  k_with "call ref" => ((with_reducible show wpAny _ _ (call (Value.ref 309) _) _ _ _); refine' Ctr.use (c_is_do_head _ _ _ ?zqh) ?zqF ?zqN ?zqX ?zqT ?zqd ?zqu ?zqp ?_; (case zqh => (k_extra "m side")); (case zqp => trivial); (k_extra "m ctr"); intro _ _ _ _ _ _ _)
  k_with "call ref" => ((with_reducible show wpAny _ _ (call (Value.ref 323) _) _ _ _); refine' Ctr.use (c_word_of_goto _ _ _ ?zqh) ?zqF ?zqN ?zqX ?zqT ?zqd ?zqu ?zqp ?_; (case zqh => (k_extra "m side")); (case zqp => trivial); (k_extra "m ctr"); intro _ _ _ _ _ _ _)
  k_with "call ref" => ((with_reducible show wpAny _ _ (call (Value.ref 316) _) _ _ _); refine' Ctr.use (c_word_of_if _ _ _ ?zqh) ?zqF ?zqN ?zqX ?zqT ?zqd ?zqu ?zqp ?_; (case zqh => (k_extra "m side")); (case zqp => trivial); (k_extra "m ctr"); intro _ _ _ _ _ _ _)
  k_with "call ref" => ((with_reducible show wpAny _ _ (call (Value.ref 337) _) _ _ _); refine' Ctr.use (c_word_by_begin _ _ _ ?zqh ?zqg) ?zqF ?zqN ?zqX ?zqT ?zqd ?zqu ?zqp ?_; (case zqh => (k_extra "m side")); (case zqg => (k_extra "m wb")); (case zqp => trivial); (k_extra "m ctr"); intro _ _ _ _ _ _ _)
  k_with "call ref" => ((with_reducible show wpAny _ _ (call (Value.ref 344) _) _ _ _); refine' Ctr.use (c_classify _ _ _ ?zqh ?zqg) ?zqF ?zqN ?zqX ?zqT ?zqd ?zqu ?zqp ?_; (case zqh => (k_extra "m side")); (case zqg => (k_extra "m cls")); (case zqp => trivial); (k_extra "m ctr"); intro _ _ _ _ _ _ _)
  k_with "ite" => with_reducible (first | refine ite_nemp ?_ | refine ite_ee ?_ | refine ite_nee ?_)
  k_with "call ref" => ((with_reducible show wpAny _ _ (call (Value.ref 212) _) _ _ _); refine' Ctr.use (c_squeezed _ _ _ ?zqh ?zqg) ?zqF ?zqN ?zqX ?zqT ?zqd ?zqu ?zqp ?_; (case zqh => (k_extra "m side")); (case zqg => (k_extra "m sq")); (case zqp => trivial); (k_extra "m ctr"); intro _ _ _ _ _ _ _)
  k_with "m ctrP" => ((case zqF => with_reducible assumption); (case zqN => with_reducible assumption); (case zqX => with_reducible assumption); (case zqT => with_reducible assumption); (case zqd => k_extra "m room"); (case zqu => k_extra "m room"); (case zqn => with_reducible assumption); (case zqP => with_reducible assumption))
  k_with "m ne2" => (exact ⟨by k_ne, by k_ne⟩)
  k_with "call ref" => ((with_reducible show wpAny _ _ (call (Value.ref 373) _) _ _ _); (first | (refine' CtrP.use0 (c_figI _ _ _ _ _ _ ?zqa ?zqb ?zqc) ?zqF ?zqN ?zqX ?zqT ?zqd ?zqu ?zqn ?zqP ?_; (k_extra "m ctrP")) | (refine' CtrP.use1 (c_figI _ _ _ _ _ _ ?zqa ?zqb ?zqc) ?zqF ?zqN ?zqX ?zqT ?zqd ?zqu ?zqn ?zqP ?zqh1 ?_; (k_extra "m ctrP"); (case zqh1 => k_extra "m ne2")) | (refine' CtrP.use2 (c_figI _ _ _ _ _ _ ?zqa ?zqb ?zqc) ?zqF ?zqN ?zqX ?zqT ?zqd ?zqu ?zqn ?zqP ?zqh1 ?zqh2 ?_; (k_extra "m ctrP"); (case zqh1 => k_extra "m ne2"); (case zqh2 => k_extra "m ne2")) | (refine' CtrP.use3 (c_figI _ _ _ _ _ _ ?zqa ?zqb ?zqc) ?zqF ?zqN ?zqX ?zqT ?zqd ?zqu ?zqn ?zqP ?zqh1 ?zqh2 ?zqh3 ?_; (k_extra "m ctrP"); (case zqh1 => k_extra "m ne2"); (case zqh2 => k_extra "m ne2"); (case zqh3 => k_extra "m ne2"))); (case zqa => k_extra "m nat"); (case zqb => k_extra "m nat"); (case zqc => k_extra "m nat"); intro ⟨_, _⟩ _ _ _ _ _ _ _ zhR'; (dsimp only at zhR'); (try dsimp only))
  k_with "call ref" => ((with_reducible show wpAny _ _ (call (Value.ref 362) _) _ _ _); refine' CtrL.use (c_Limits _) ?zqF ?zqN ?zqX ?zqT ?zqd ?zqu ?zqp ?_; (case zqp => trivial); (k_extra "m ctr"); intro ⟨_, _, _⟩ _ _ _ zN' zhne' _; (dsimp only [List.cons_append, List.nil_append] at zN'); (try (have za1 := neN (zhne' _ (List.mem_cons_self ..) _ (List.mem_cons_self ..)); try dsimp only at za1)); (try (have za2 := neN (zhne' _ (List.mem_cons_self ..) _ (List.mem_cons_of_mem _ (List.mem_cons_self ..))); try dsimp only at za2)); (try (have za3 := neN (zhne' _ (List.mem_cons_of_mem _ (List.mem_cons_self ..)) _ (List.mem_cons_self ..)); try dsimp only at za3)); (try (have za4 := neN (zhne' _ (List.mem_cons_of_mem _ (List.mem_cons_self ..)) _ (List.mem_cons_of_mem _ (List.mem_cons_self ..))); try dsimp only at za4)); (try dsimp only))
  k_with "call ref" => ((with_reducible show wpAny _ _ (call (Value.ref 89) _) _ _ _); refine' CtrL.use (c_Card _ _ _ _ _) ?zqF ?zqN ?zqX ?zqT ?zqd ?zqu ?zqp ?_; (case zqp => trivial); (k_extra "m ctr"); intro ⟨_, _, _⟩ _ _ _ zN' zhne' _; (dsimp only [List.cons_append, List.nil_append] at zN'); (try (have za1 := neN (zhne' _ (List.mem_cons_self ..) _ (List.mem_cons_self ..)); try dsimp only at za1)); (try (have za2 := neN (zhne' _ (List.mem_cons_self ..) _ (List.mem_cons_of_mem _ (List.mem_cons_self ..))); try dsimp only at za2)); (try (have za3 := neN (zhne' _ (List.mem_cons_of_mem _ (List.mem_cons_self ..)) _ (List.mem_cons_self ..)); try dsimp only at za3)); (try (have za4 := neN (zhne' _ (List.mem_cons_of_mem _ (List.mem_cons_self ..)) _ (List.mem_cons_of_mem _ (List.mem_cons_self ..))); try dsimp only at za4)); (try dsimp only))
  k_with "call ref" => ((with_reducible show wpAny _ _ (call (Value.ref 107) _) _ _ _); refine' Ctr.use (c_wb _ _ _ ?zqh) ?zqF ?zqN ?zqX ?zqT ?zqd ?zqu ?zqp ?_; (case zqh => (k_extra "m side")); (case zqp => trivial); (k_extra "m ctr"); intro _ _ _ _ _ _ _)
  k_with "call builtin:len" => ((with_reducible show wpAny _ _ (call (Value.builtin "len") [Value.ref _]) _ _ _); (refine' len_newsL ?zqn ?zqm ?zqb ?_; (case zqn => with_reducible assumption); (case zqm => k_mem); (case zqb => k_extra "m nat")))
  k_with "call ref" => ((with_reducible show wpAny _ _ (call (Value.ref 114) _) _ _ _); refine' Ctr.use (c_is_comment _ _ _ _ ?zqh) ?zqF ?zqN ?zqX ?zqT ?zqd ?zqu ?zqp ?_; (case zqh => (k_extra "m side")); (case zqp => trivial); (k_extra "m ctr"); intro _ _ _ _ _ _ _)
  k_with "call ref" => ((with_reducible show wpAny _ _ (call (Value.ref 142) _) _ _ _); refine' Ctr.use (c_padded _ _ _ _ ?zqh) ?zqF ?zqN ?zqX ?zqT ?zqd ?zqu ?zqp ?_; (case zqh => (k_extra "m side")); (case zqp => trivial); (k_extra "m ctr"); intro _ _ _ _ _ _ _)
  k_with "call ref" => ((with_reducible show wpAny _ _ (call (Value.ref 100) _) _ _ _); refine' CtrL.use (c_cards_of _ _ _ _ ?zqg ?zqh ?zqe) ?zqF ?zqN ?zqX ?zqT ?zqd ?zqu ?zqp ?_; (case zqg => with_reducible assumption); (case zqh => (k_extra "m side")); (case zqe => with_reducible assumption); (case zqp => trivial); (k_extra "m ctr"); intro _ _ _ _ _ _ _)
  k_with "call ref" => ((with_reducible show wpAny _ _ (call (Value.ref 121) _) _ _ _); refine' CtrL.use (c_read_cards _ _ _ _ _ _ _ ?zqg ?zqh ?zqe ?zqr) ?zqF ?zqN ?zqX ?zqT ?zqd ?zqu ?zqp ?_; (case zqg => with_reducible assumption); (case zqh => (k_extra "m side")); (case zqe => with_reducible assumption); (case zqr => with_reducible assumption); (case zqp => k_extra "m inst"); (k_extra "m ctr"); intro _ _ _ _ _ _ _)
  k_with "m inst" => first | with_reducible assumption | exact inst_base (by with_reducible assumption) (by k_asm) | k_inst
  k_with "call builtin:len" => ((with_reducible show wpAny _ _ (call (Value.builtin "len") [Value.ref _]) _ _ _); (refine' len_base ?zqn ?zqm ?zqb ?_; (case zqn => with_reducible assumption); (case zqm => k_asm); (case zqb => k_extra "m nat")))
  k_with "subscriptTail Name Name ref int" => ((refine' item_base ?zqn ?zqm ?zqb ?zqv ?_ ?zqs ?zqg); (case zqn => with_reducible assumption); (case zqm => k_asm); (case zqb => k_extra "m nat"); (case zqv => with_reducible assumption); (case zqs => with_unfolding_all exact rfl); (case zqg => (intro _; with_unfolding_all exact rfl)))
  k_with "subscriptTail Name Constant ref int" => ((refine' item_base0 ?zqn ?zqm ?zqv ?_ ?zqs ?zqg); (case zqn => with_reducible assumption); (case zqm => k_asm); (case zqv => with_reducible assumption); (case zqs => with_unfolding_all exact rfl); (case zqg => (intro _; with_unfolding_all exact rfl)))
  k_with "m inst" => first | with_reducible assumption | exact inst_base (by with_reducible assumption) (by k_asm) | k_inst
  k_with "call ref" => ((with_reducible show wpAny _ _ (call (Value.ref 135) _) _ _ _); refine' Ctr.use (c_read_label' _ _ ?zqh) ?zqF ?zqN ?zqX ?zqT ?zqd ?zqu ?zqp ?_; (case zqh => with_reducible assumption); (case zqp => k_extra "m inst"); (k_extra "m ctr"); intro _ _ _ _ _ _ _)
  k_with "call ref" => ((with_reducible show wpAny _ _ (call (Value.ref 128) _) _ _ _); refine' Ctr.use (c_is_continuation _ _) ?zqF ?zqN ?zqX ?zqT ?zqd ?zqu ?zqp ?_; (case zqp => k_extra "m inst"); (k_extra "m ctr"); intro _ _ _ _ _ _ _)
  trivial

-- text C22
section
theorem reg_C22_0 : True := by
  k_with "m enterH" => (refine' CtrH.enter ?zqho ?zqhcd ?zqhb ?zqhlk ?zqhl ?zqc1 ?zqc2 ?zqc3 ?zqc4 ?_; (k_extra "m cases"))
  k_with "exec Try" => refine stop_here ?_
  k_with "getAttr ref" => refine stop_here ?_
  trivial
theorem funFrames_but {base h h' : Heap} {L : Addr} : ∀ {l : List Env}, h.FunFrames base l → L ∉ frs l → (∀ b, b ≠ L → h'.get? b = h.get? b) → h'.FunFrames base l
  | [], _, _, _ => trivial
  | env :: rest, ⟨hk, ⟨L', o, hf, hn, ho, hd⟩, hr⟩, hL, k => by
    have hne : L' ≠ L := fun q => hL (by unfold frs; rw [List.filterMap_cons, hf, q]; exact List.mem_cons_self ..)
    refine ⟨hk, ⟨L', o, hf, hn, (k _ hne).trans ho, hd⟩, funFrames_but hr (fun q => hL ?_) k⟩
    unfold frs
    rw [List.filterMap_cons, hf]
    exact List.mem_cons_of_mem _ q
theorem FlyE.off {w : World} {base g h : Heap} {l : List Env} {L : Addr} {s : Shared} {k n : Nat} {x : Value} {s' : Shared} (z : FlyE w base g l L { s with heap := h, toks := k } n x s') : FlyE w base g l L s n x s' := by
  obtain ⟨e, dx, T, od, fl, h', tk, rfl, rfl, a, b, c, d⟩ := z
  exact ⟨_, _, _, _, _, _, _, rfl, rfl, a, b, c, d⟩
inductive FlyC (w : World) (base g : Heap) (l : List Env) (L : Addr) (m : Str → Option Value) (s : Shared) (n : Nat) (x : Value) (s' : Shared) : Prop
  | mk (hc : _) (q0 : Fr g L hc m) (q1 : FlyE w base hc l L s n x s') : FlyC w base g l L m s n x s'
theorem try_fly {w : World} {dp un : Nat} {gd : Option (List Code)} {base g : Heap} {outer : List Env} {L a : Addr} {cd : Value} {name : Str} {scope : Scope} (m : Str → Option Value) {s s₀ : Shared} {n : Nat} {Q : Flow → Shared → Prop} {E : Value → Shared → Prop} {body orelse : List Stmt} {h₀ : ExceptHandler} {hs : List ExceptHandler} {pos : Pos}
    (hb : wpAny (model PG w) (AA dp un gd (some (envOf name scope L a cd :: outer))) (execs body (envOf name scope L a cd)) (fun _ _ => False) (FlyC w base g (envOf name scope L a cd :: outer) L m s₀ n) s)
    (hc : ∀ x s₁, FlyC w base g (envOf name scope L a cd :: outer) L m s₀ n x s₁ → wpAny (model PG w) (AA dp un gd (some (envOf name scope L a cd :: outer))) (noteFrame x (envOf name scope L a cd)) (fun _ s₂ => wpAny (model PG w) (AA dp un gd (some (envOf name scope L a cd :: outer))) (setFlight x none)
      (fun _ s₃ => wpAny (model PG w) (AA dp un gd (some (envOf name scope L a cd :: outer))) (handleBy x (envOf name scope L a cd) (h₀ :: hs)) Q E s₃) E s₂) E s₁) :
    wpAny (model PG w) (AA dp un gd (some (envOf name scope L a cd :: outer))) (exec (.Try body (h₀ :: hs) orelse [] pos) (envOf name scope L a cd)) Q E s :=
  wpAny_Try_except (wpAny_mono hb (fun _ _ x => x.elim) hc)
theorem frs_self {name : Str} {scope : Scope} {L a : Addr} {cd : Value} {outer : List Env} : L ∈ frs (envOf name scope L a cd :: outer) := List.mem_cons_self (a := L) (l := frs outer)
theorem nm_K {M : Model} {A : Around} {E : Value → Shared → Prop} {s : Shared} {base : Heap} {L a : Addr} {mg mb : Str → Option Value} {K : Frag} {p : Program} {loose : List Str} {mean : ExcName → Option Value} {x name : Str} {pos : Pos} {v cd : Value} {Q : Value → Shared → Prop} {scope : Scope}
    (k : ∀ b o, base.get? b = some o → s.heap.get? b = some o) (X : K.In base) (T : Top p loose mean mg mb base) (e : nsIn K mainGlobals x = some (some v)) (h : Q v s) (hk : scope.kind = .function) (hx : (envOf name scope L a cd).kindOf x = some .globalImplicit) (hd : (x == ("__debug__" : Str)) = false := by decide) :
    wpAny M A (eval (.Name x pos) (envOf name scope L a cd)) Q E s := Name_function_global hk hx (loadGlobal_global (env := envOf name scope L a cd) (T.g.keeps k) (mg_of X T.g e) h) hd
theorem c_heardX (w : World) (x : Str) (t : Tok) (R : List Str) (v0 vk : CV) (kv rv : List CV) (hR : Txt.split x (Str.ofString "\n") = R ++ [Str.ofString ""]) (hx : x.length ≤ 100000) (hRl : R.length ≤ 1000)
    (hrow : ∀ r ∈ R, r.length ≤ 100000 ∧ (isCom r = false → 6 ≤ (Txt.slice r none (some 72)).length)) (hcards : cardsGo (cardNo R) = v0 :: (kv ++ vk :: rv)) (hrl : rv.length ≤ 1000) (G : Bad v0 vk kv rv) :
    CtrH w 10 387 [.str x t] vk.n := by
  walk_at "m enterH"
  intro dp un gd outer mean mg mb base s L h₁ tk hdp hun XB TB hbs X T hff F N
  walk_at "m steps"
  refine try_fly (base := base) (g := s.heap) (n := vk.n) (s₀ := s) (fun y => [(Str.ofString "text", Value.str x t)].lookup y) ?_ fun x s₁ hx => ?_
  · walk_at "m steps"
    with_reducible rename Fr _ _ _ _ => F
    with_reducible rename News _ _ _ _ => N
    have hI := InstAt.of_news N (List.mem_cons_self ..) (List.mem_cons_of_mem _ (List.mem_cons_self ..))
    exact wpAny_mono (CtrX.use (c_read_statementsX w _ _ _ _ _ R v0 vk kv rv hR hx hRl hrow hcards hrl G) F XB TB hbs hff rfl (by walk_at "m room") (by walk_at "m room") hI (fun _ _ q => q) (fun _ _ => rfl)) (fun _ _ z => z) fun _ _ z => ⟨_, F, z.off⟩
  · obtain ⟨hc, Fc, e, dx, Tr, od, fl, h', tk', rfl, rfl, hfl, hF, hl, hn⟩ := hx
    refine fly_note_any rfl hl rfl hfl hF fun h₁ T₁ F₁ l₁ => ?_
    refine fly_set none l₁ F₁ fun h₂ F₂ l₂ => ?_
    obtain ⟨oL, es, ep, hL, hLr⟩ := id Fc.ns
    obtain ⟨sl, hsl⟩ := F₂.kx.slot L oL hL (fun q => nomatch q)
    have kb : ∀ b o, base.get? b = some o → h₂.get? b = some o := fun b o eb => F₂.kx.keep b o (Fc.keep _ _ (hbs _ _ eb)) (fun q => nomatch q) (fun q => by rw [(l₂.mem q).1] at eb; cases eb)
    obtain ⟨nm, qn, Nn, bs, hdct, sn, sub, ab, col, dd, k0, k1, k2, k3, k5, hC⟩ := xcls (XB.keeps kb) (k51_x w)
    obtain ⟨oe, vs, oT, ts, he, hcl, hxd, hd, h1, hTe, hT, hdT, h3⟩ := id F₂.x.ex
    refine wpAny_handleBy_cons (codeAny_handlers_test (nm_K kb XB TB (by k_is) ?_ rfl rfl)) (by intro q; cases q)
    refine wpAny_excMatches_sub_self hC he hcl (by decide +kernel) (codeAny_handlers_suite_as ?_)
    refine fly_set none l₂ F₂ fun h₃ F₃ l₃ => ?_
    obtain ⟨sl₃, hsl₃⟩ := F₃.kx.slot L oL hL (fun q => nomatch q)
    have ns₃ : h₃.Ns L _ := ⟨_, es, ep, hsl₃, hLr⟩
    refine wpAny_storeName_local rfl ns₃ (fun h₄ ns₄ hs₄ => ?_) rfl
    have hs₄ : Heap.SameBut L h₃ h₄ := hs₄
    have F4 : Fr {} L h₄ _ := ⟨ns₄, fun b o q => (by cases q), Nat.zero_le _⟩
    walk_at "m steps"
    obtain ⟨oe₃, vs₃, oT₃, ts₃, he₃, hcl₃, hxd₃, hd₃, -⟩ := id F₃.x.ex
    have heL : e ≠ L := fun q => by rw [q, hsl₃] at he₃; cases he₃; rw [hLr.1] at hd₃; cases hd₃
    have hdL : dx ≠ L := fun q => F₃.hf (by rw [q]; exact frs_self)
    have k4 : ∀ b o, base.get? b = some o → h₄.get? b = some o := fun b o eb => (hs₄.2 b (fun q => by rw [q, (l₃.mem frs_self).1] at eb; cases eb)).trans (F₃.kx.keep b o (Fc.keep _ _ (hbs _ _ eb)) (fun q => nomatch q) (fun q => by rw [(l₃.mem q).1] at eb; cases eb))
    have I4 : InstAt h₄ e oe₃ 51 (some _) := ⟨(hs₄.2 e heL).trans he₃, hcl₃, by unfold notCls; rw [hd₃], by rw [hxd₃]; exact (hs₄.2 dx hdL).trans F₃.d⟩
    obtain ⟨_, tl, hfo⟩ := hn
    refine exc_get (XB.keeps k4) I4 (by k_is) (by k_is) (by k_is) hfo rfl ?_
    walk_at "m open"
    refine wpAny_nameGoes rfl ns₄ rfl fun h₅ m₅ ns₅ hs₅ => ?_
    have hs₅ : Heap.SameBut L h₄ h₅ := hs₅
    have hL0 : s.heap.get? L = none := by
      cases q : s.heap.get? L with
      | none => rfl
      | some o => exact absurd (Nat.lt_of_lt_of_le (Heap.lt_size q) Fc.above) (Nat.lt_irrefl _)
    have bL : ∀ b o, s.heap.get? b = some o → b ≠ L := fun b o eb q => by rw [q, hL0] at eb; cases eb
    have hLo : L ∉ frs outer := fun q => by
      obtain ⟨_, o, ho, _⟩ := hff.mem q
      rw [hL0] at ho; cases ho
    repeat (walk_at "m open")
    refine ⟨tl, h₅, _, rfl, rfl, ⟨fun b o eb _ => ?_, fun b o eb _ hm => ?_⟩, funFrames_but (funFrames_but l₃.2.2 hLo hs₄.2) hLo hs₅.2⟩
    · obtain ⟨sl', e1⟩ := F₃.kx.slot b o (Fc.keep _ _ eb) (fun q => nomatch q)
      exact ⟨sl', (hs₅.2 b (bL b o eb)).trans ((hs₄.2 b (bL b o eb)).trans e1)⟩
    · refine (hs₅.2 b (bL b o eb)).trans ((hs₄.2 b (bL b o eb)).trans (F₃.kx.keep b o (Fc.keep _ _ eb) (fun q => nomatch q) fun q => ?_))
      unfold frs at q
      rw [List.filterMap_cons] at q
      rcases List.mem_cons.mp q with q | q
      · exact bL b o eb q
      · exact hm q

end

theorem regc19 : True := by
  k_with_none
  k_with "m cases" => ((case zqho => k_is); (case zqhcd => k_is); (case zqhb => exact rfl); (case zqhlk => simp only [List.map_cons, List.map_nil, List.zip_cons_cons, List.zip_nil_left, List.zip_nil_right, List.reverse_cons, List.reverse_nil, List.nil_append, List.cons_append]; exact rfl); (case zqhl => exact locs rfl); (case zqc1 => exact rfl); (case zqc2 => exact rfl); (case zqc3 => exact rfl); (case zqc4 => decide))
  k_with "m room" => first | with_reducible assumption | exact lt_room (by with_reducible assumption) (by decide) | omega
  k_with "m nat" => first | with_reducible assumption | exact Nat.le_refl _ | exact Nat.le_succ _ | exact Nat.le_trans (by with_reducible assumption) (by decide) | exact Nat.le_trans (Nat.add_le_add_right (by with_reducible assumption) _) (by decide) | decide | omega
  k_with "m lt" => first | assumption | exact And.left (by assumption) | exact And.left (And.right (by assumption)) | exact And.left (And.right (And.right (by assumption))) | exact And.left (And.right (And.right (And.right (by assumption)))) | exact And.left (And.right (And.right (And.right (And.right (by assumption))))) | exact And.left (And.right (And.right (And.right (And.right (And.right (by assumption)))))) | exact And.left (And.right (And.right (And.right (And.right (And.right (And.right (by assumption))))))) | exact And.left (And.right (And.right (And.right (And.right (And.right (And.right (And.right (by assumption)))))))) | exact And.right (by assumption) | exact And.right (And.right (by assumption)) | exact And.right (And.right (And.right (by assumption))) | exact And.right (And.right (And.right (And.right (by assumption)))) | exact And.right (And.right (And.right (And.right (And.right (by assumption))))) | exact And.right (And.right (And.right (And.right (And.right (And.right (by assumption)))))) | exact And.right (And.right (And.right (And.right (And.right (And.right (And.right (by assumption)))))))
  k_with "m enter" => (refine' Ctr.enter ?zqho ?zqhcd ?zqhb ?zqhlk ?zqhl ?zqc1 ?zqc2 ?zqc3 ?zqc4 ?_; (k_extra "m cases"))
  k_with "m enterP" => (refine' CtrP.enter ?zqho ?zqhcd ?zqhb ?zqhlk ?zqhl ?zqc1 ?zqc2 ?zqc3 ?zqc4 ?_; (k_extra "m cases"))
  k_with "m enterT" => (refine' Ctr.enterT ?zqho ?zqhcd ?zqhb ?zqhlk ?zqhl ?zqc1 ?zqc2 ?zqc3 ?zqc4 ?_; (k_extra "m cases"))
  k_with "m init" => ((case zqhm => k_is); (case zqhi => k_is); (case zqhf => k_is); (case zqho => k_is); (case zqhcd => k_is); (case zqhb => (intro _ _ zX; first | exact BindsTo.of_eq rfl | exact binds_K zX rfl (by k_is) rfl rfl rfl)); (case zqhlk => (intro _; exact rfl)); (case zqhl => (intro _; exact locs rfl)); (case zqc1 => exact rfl); (case zqc2 => exact rfl); (case zqc3 => exact rfl); (case zqc4 => decide))
  k_with "m star" => with_reducible (first | exact st_Name | exact st_Constant | exact st_BinOp | exact st_Call | exact st_Subscript | exact st_Attribute | exact st_UnaryOp | exact st_Tuple | exact st_List)
  k_with "m plain" => first | with_reducible exact pl_nil | (with_reducible refine' pl_cons ?zqp1 ?zqp2; (case zqp1 => k_extra "m star"); (case zqp2 => k_extra "m plain"))
  k_with "execs cons" => (refine execs_seal ?_; intro _ _)
  k_with "exec If" => with_reducible refine wpAny_If ?_
  k_with "execs nil" => with_reducible refine wpAny_execs_nil ?_
  k_with "m open" => with_reducible (first | refine SealS.next (by assumption) ?_ | refine SealS.ret (by assumption) ?_ | refine SealS.brk (by assumption) ?_ | refine SealS.cont (by assumption) ?_)
  k_with "m steps" => ((repeat' (first | (k_unfold; (try dsimp only)) | walk1 | k_extra "m open" | (dsimp only; walk1) | fail "no step")) <;> (try dsimp only) <;> (try k_unfold) <;> (try dsimp only [ForStep, WhileStep2]) <;> (repeat (with_reducible refine SealS.ret (by assumption) ?_)))
  k_with "exec For Name Name cons nil" => ((with_reducible refine' for_start ?_ ?zqhs); (case zqhs => (intro _; k_dflt (exact rfl))))
  k_with "exec For Name Call cons nil" => ((with_reducible refine' for_start ?_ ?zqhs); (case zqhs => (intro _; k_dflt (exact rfl))))
  k_with "exec For Tuple Name cons nil" => ((with_reducible refine' for_start ?_ ?zqhs); (case zqhs => (intro _; k_dflt (exact rfl))))
  k_with "exec For Tuple Call cons nil" => ((with_reducible refine' for_start ?_ ?zqhs); (case zqhs => (intro _; k_dflt (exact rfl))))
  k_with "pyIter ref" => ((with_reducible show wpAny _ _ (pyIter _) (fun it s₂ => ForGo _ _ _ _ _ _ _ _ it s₂) _ _); refine stop_here ?_)
  k_with "pyIter str" => ((with_reducible show wpAny _ _ (pyIter _) (fun it s₂ => ForGo _ _ _ _ _ _ _ _ it s₂) _ _); refine stop_here ?_)
  k_with "exec While Compare cons nil" => refine stop_here ?_
  k_with "exec While BoolOp cons nil" => refine stop_here ?_
  k_with "callWith" => ((with_reducible refine' callWith_method1 ?_ ?zqm2 ?zqm3); (case zqm2 => k_extra "m star"); (case zqm3 => k_extra "m plain"))
  k_with "callWith" => ((with_reducible refine' PyProof.Rows.callWith_builtin1 ?_ ?zqm2 ?zqm3); (case zqm2 => k_extra "m star"); (case zqm3 => k_extra "m plain"))
  k_with "callWith" => with_reducible refine callWith_method0 ?_
  k_with "eval Call Attribute" => ((with_reducible refine' MethodCall_ ?_ ?zqm2); (case zqm2 => k_dflt (exact rfl)))
  k_with "eval Call Name" => ((with_reducible refine' Call_ ?_ ?zqm2); (case zqm2 => k_dflt (exact rfl)))
  k_with "exec Assign cons" => ((with_reducible refine' wpAny_Assign_Name ?_ ?zqm2); (case zqm2 => k_dflt (exact rfl)))
  k_with "ite" => first | with_reducible refine ite_tt ?_ | with_reducible refine ite_ff ?_ | (with_reducible refine split_39 ?_ ?_ <;> intro _) | (with_reducible refine split_40 ?_ ?_ <;> intro _) | (with_reducible refine split_41 ?_ ?_ <;> intro _) | (with_reducible refine split_44 ?_ ?_ <;> intro _) | (with_reducible refine split_61 ?_ ?_ <;> intro _) | (with_reducible refine split_32 ?_ ?_ <;> intro _) | with_reducible refine split_end (fun _ => ?_) (fun _ _ _ => ?_) | with_reducible refine split_emp (fun _ => ?_) (fun _ => ?_) | (with_reducible refine split_nb ?_ ?_ <;> intro _) | (with_reducible refine dec_pos (by omega) ?_) | (with_reducible refine dec_neg (by omega) ?_) | (with_reducible refine PyProof.Rows.split_dec ?_ ?_ <;> intro _) | (with_reducible refine ite_pos (by with_reducible assumption) ?_) | (with_reducible refine ite_isFalse (by with_reducible assumption) ?_) | (with_reducible refine PyProof.Rows.split_bool ?_ ?_ <;> intro _)
  k_with "eval Name" => ((with_reducible refine' ld_fast ?zqk1 ?zqk2 ?zqk3 ?zqk4 ?zqk5 ?_); (case zqk1 => with_reducible assumption); (case zqk2 => k_dflt (exact rfl)); (case zqk3 => k_dflt (exact rfl)); (case zqk4 => k_dflt (exact rfl)); (case zqk5 => k_dflt (exact rfl)))
  k_with "compareOp In str str" => with_reducible (first | refine in_letters ?_ | refine in_digits ?_ | refine in_ahead ?_)
  k_with "compareOp NotIn str str" => with_reducible (refine notin_letters ?_)
  k_with "m item" => ((with_reducible show wpAny _ _ (subscriptTail _ _ (Value.str _ _) (Value.int _ _)) _ _ _); first | ((with_reducible refine' item_at ?zqm1 ?zqm2 ?_ ?zqm3 ?zqm4); (case zqm1 => with_reducible assumption); (case zqm2 => first | assumption | omega); (case zqm3 => with_unfolding_all exact rfl); (case zqm4 => (intro _; with_unfolding_all exact rfl))) | ((with_reducible refine' item_lt ?zqm1 ?zqm2 ?_ ?zqm3 ?zqm4); (case zqm1 => first | assumption | omega); (case zqm2 => first | assumption | omega); (case zqm3 => with_unfolding_all exact rfl); (case zqm4 => (intro _; with_unfolding_all exact rfl)); (intro _ _)))
  k_with "subscriptTail Name Name str int" => k_extra "m item"
  k_with "subscriptTail Name BinOp str int" => k_extra "m item"
  k_with "m ret" => ((repeat (with_reducible refine SealS.ret (by assumption) ?_)); (with_reducible rename Fr _ _ _ _ => zF'); first | exact ⟨_, _, _, rfl, rfl, Fr.keep zF', trivial⟩ | exact ⟨(0 : Nat), _, _, rfl, rfl, Fr.keep zF', trivial⟩)
  k_with "subscriptTail Name Name ref int" => ((with_reducible show wpAny _ _ (subscriptTail _ _ (Value.ref _) (Value.int _ _)) _ _ _); (with_reducible rename IntsAre _ _ => zhI'); (refine' item_ints (News.isList (by with_reducible assumption) (by k_mem)) zhI' ?zqm1 ?zqm2 ?_ ?zqm3 ?zqm4); (case zqm1 => first | assumption | omega); (case zqm2 => first | assumption | omega); (case zqm3 => with_unfolding_all exact rfl); (case zqm4 => (intro _; with_unfolding_all exact rfl)); (intro _ _ _))
  k_with "m cl" => (simp only [Nat.zero_add, Int.toNat_natCast, beq_iff_eq, beq_eq_false_iff_ne, ne_eq, bne_iff_ne, bne_eq_false_iff_eq, Bool.not_eq_true] at *)
  k_with "m ifs" => ((repeat (first | rw [if_pos (by with_reducible assumption)] | rw [if_no (by with_reducible assumption)] | rw [if_neg (by with_reducible assumption)])); try (first | rfl | with_reducible assumption | (symm; with_reducible assumption)))
  k_with "m fin" => ((repeat (with_reducible refine SealS.ret (by assumption) ?_)); (with_reducible rename Fr _ _ _ _ => zF'); first | refine ret_str (Fr.keep zF') ?_ | refine ret_bool (Fr.keep zF') ?_ | refine ret_int (Fr.keep zF') ?_)
  k_with "m len" => first | exact Nat.le_trans (by with_reducible assumption) (by decide) | omega | (decide +kernel) | ((try simp only [Str.length_append, len_tx]); omega)
  k_with "binaryOp Add str str" => ((with_reducible show wpAny _ _ (binaryOp Operator.Add (Value.str _ _) (Value.str _ _)) _ _ _); (refine' add_txt ?zqkxaa ?zqkxab ?_; (case zqkxaa => k_extra "m len"); (case zqkxab => k_extra "m len")); intro _ _ _)
  k_with "inplaceOp Add str str" => ((with_reducible show wpAny _ _ (inplaceOp Operator.Add (Value.str _ _) (Value.str _ _)) _ _ _); (refine' iadd_txt ?zqkxaa ?zqkxab ?_; (case zqkxaa => k_extra "m len"); (case zqkxab => k_extra "m len")); intro _ _ _)
  k_with "setAttr ref" => (k_dflt (refine' set_dict ?zqk1 ?zqk2 ?zqk3 ?zqk4 ?zqk5 ?zqk6 ?zqk7 ?zqk8 ?zqk9 ?zqk10 ?zqk11 ?zqk12 ?zqk13 ?_; (case zqk1 => k_asm); (case zqk2 => k_asm); (case zqk3 => k_asm); (case zqk4 => k_inst); (case zqk5 => exact rfl); (case zqk6 => k_is); (case zqk7 => k_is); (case zqk8 => k_is); (case zqk9 => k_is); (case zqk10 => k_get); (case zqk11 => k_put); (case zqk12 => k_upd); (case zqk13 => exact Nat.le_of_ble_eq_true rfl); k_whole; intro _ _ _; (try k_sweep)))
  k_with "getAttr ref" => (k_dflt (refine' get_own ?zqk1 ?zqk2 ?zqk3 ?zqk4 ?zqk5 ?zqk6 ?zqk7 ?zqk8 ?zqk9 ?_; (case zqk1 => k_asm); (case zqk2 => k_asm); (case zqk3 => first | exact inst_base (by with_reducible assumption) (by k_asm) | k_inst); (case zqk4 => k_is); (case zqk5 => k_is); (case zqk6 => k_is); (case zqk7 => k_is); (case zqk8 => k_get); (case zqk9 => k_handed); k_whole))
  k_with "m side" => first | with_reducible assumption | decide | exact Nat.le_trans (by with_reducible assumption) (by decide) | omega | trivial | (simp only [Str.length_append, len_tx] at *; omega)
  k_with "m ctr" => ((case zqF => with_reducible assumption); (case zqN => with_reducible assumption); (case zqX => with_reducible assumption); (case zqT => with_reducible assumption); (case zqd => k_extra "m room"); (case zqu => k_extra "m room"))
  k_with "call ref" => ((with_reducible show wpAny _ _ (call (Value.ref 219) _) _ _ _); refine' CtrN.use (c_depths _ _ _ ?zqh) ?zqF ?zqN ?zqX ?zqT ?zqd ?zqu ?zqp ?_; (case zqh => (k_extra "m side")); (case zqp => trivial); (k_extra "m ctr"); intro _ ⟨_, _⟩ _ _ _ zN' zhne' zhR'; (try dsimp only at zN' zhR' zhne'))
  k_with "call ref" => ((with_reducible show wpAny _ _ (call (Value.ref 281) _) _ _ _); refine' Ctr.use (c_digits_end _ _ _ _ _ ?zqh) ?zqF ?zqN ?zqX ?zqT ?zqd ?zqu ?zqp ?_; (case zqh => (k_extra "m side")); (case zqp => trivial); (k_extra "m ctr"); intro _ _ _ _ _ _ _)
  k_with "call ref" => ((with_reducible show wpAny _ _ (call (Value.ref 274) _) _ _ _); refine' Ctr.use (c_name_end _ _ _ _ _ ?zqh) ?zqF ?zqN ?zqX ?zqT ?zqd ?zqu ?zqp ?_; (case zqh => (k_extra "m side")); (case zqp => trivial); (k_extra "m ctr"); intro _ _ _ _ _ _ _)
  k_with "call ref" => ((with_reducible show wpAny _ _ (call (Value.ref 226) _) _ _ _); refine' Ctr.use (c_closing _ _ _ _ _ ?zqh ?zqg) ?zqF ?zqN ?zqX ?zqT ?zqd ?zqu ?zqp ?_; (case zqh => (k_extra "m side")); (case zqg => (k_extra "m side")); (case zqp => trivial); (k_extra "m ctr"); intro _ _ _ _ _ _ _)
  k_with "call ref" => ((with_reducible show wpAny _ _ (call (Value.ref 288) _) _ _ _); refine' Ctr.use (c_is_target _ _ _ ?zqh) ?zqF ?zqN ?zqX ?zqT ?zqd ?zqu ?zqp ?_; (case zqh => (k_extra "m side")); (case zqp => trivial); (k_extra "m ctr"); intro _ _ _ _ _ _ _)
  k_with "call ref" => ((with_reducible show wpAny _ _ (call (Value.ref 295) _) _ _ _); (with_reducible rename IntsAre _ _ => zhI'); refine' Ctr.use (c_is_balanced _ _ _ _ _ _ zhI' ?zqh) ?zqF ?zqN ?zqX ?zqT ?zqd ?zqu ?zqp ?_; (case zqh => (k_extra "m side")); (case zqp => exact News.get (by with_reducible assumption) (by k_mem)); (k_extra "m ctr"); intro _ _ _ _ _ _ _)
  k_with "call ref" => ((with_reducible show wpAny _ _ (call (Value.ref 302) _) _ _ _); (with_reducible rename IntsAre _ _ => zhI'); refine' CtrN.use (c_equals_at _ _ _ _ _ _ zhI' ?zqh) ?zqF ?zqN ?zqX ?zqT ?zqd ?zqu ?zqp ?_; (case zqh => (k_extra "m side")); (case zqp => exact News.get (by with_reducible assumption) (by k_mem)); (k_extra "m ctr"); intro _ _ _ _ _ zN' zhne' _; (try dsimp only at zN' zhne'))
  k_with "call ref" => ((with_reducible show wpAny _ _ (call (Value.ref 309) _) _ _ _); refine' Ctr.use (c_is_do_head _ _ _ ?zqh) ?zqF ?zqN ?zqX ?zqT ?zqd ?zqu ?zqp ?_; (case zqh => (k_extra "m side")); (case zqp => trivial); (k_extra "m ctr"); intro _ _ _ _ _ _ _)
  k_with "call ref" => ((with_reducible show wpAny _ _ (call (Value.ref 323) _) _ _ _); refine' Ctr.use (c_word_of_goto _ _ _ ?zqh) ?zqF ?zqN ?zqX ?zqT ?zqd ?zqu ?zqp ?_; (case zqh => (k_extra "m side")); (case zqp => trivial); (k_extra "m ctr"); intro _ _ _ _ _ _ _)
  k_with "call ref" => ((with_reducible show wpAny _ _ (call (Value.ref 316) _) _ _ _); refine' Ctr.use (c_word_of_if _ _ _ ?zqh) ?zqF ?zqN ?zqX ?zqT ?zqd ?zqu ?zqp ?_; (case zqh => (k_extra "m side")); (case zqp => trivial); (k_extra "m ctr"); intro _ _ _ _ _ _ _)
  k_with "call ref" => ((with_reducible show wpAny _ _ (call (Value.ref 337) _) _ _ _); refine' Ctr.use (c_word_by_begin _ _ _ ?zqh ?zqg) ?zqF ?zqN ?zqX ?zqT ?zqd ?zqu ?zqp ?_; (case zqh => (k_extra "m side")); (case zqg => (k_extra "m wb")); (case zqp => trivial); (k_extra "m ctr"); intro _ _ _ _ _ _ _)
  k_with "call ref" => ((with_reducible show wpAny _ _ (call (Value.ref 344) _) _ _ _); refine' Ctr.use (c_classify _ _ _ ?zqh ?zqg) ?zqF ?zqN ?zqX ?zqT ?zqd ?zqu ?zqp ?_; (case zqh => (k_extra "m side")); (case zqg => (k_extra "m cls")); (case zqp => trivial); (k_extra "m ctr"); intro _ _ _ _ _ _ _)
  k_with "ite" => with_reducible (first | refine ite_nemp ?_ | refine ite_ee ?_ | refine ite_nee ?_)
  k_with "call ref" => ((with_reducible show wpAny _ _ (call (Value.ref 212) _) _ _ _); refine' Ctr.use (c_squeezed _ _ _ ?zqh ?zqg) ?zqF ?zqN ?zqX ?zqT ?zqd ?zqu ?zqp ?_; (case zqh => (k_extra "m side")); (case zqg => (k_extra "m sq")); (case zqp => trivial); (k_extra "m ctr"); intro _ _ _ _ _ _ _)
  k_with "m ctrP" => ((case zqF => with_reducible assumption); (case zqN => with_reducible assumption); (case zqX => with_reducible assumption); (case zqT => with_reducible assumption); (case zqd => k_extra "m room"); (case zqu => k_extra "m room"); (case zqn => with_reducible assumption); (case zqP => with_reducible assumption))
  k_with "m ne2" => (exact ⟨by k_ne, by k_ne⟩)
  k_with "call ref" => ((with_reducible show wpAny _ _ (call (Value.ref 373) _) _ _ _); (first | (refine' CtrP.use0 (c_figI _ _ _ _ _ _ ?zqa ?zqb ?zqc) ?zqF ?zqN ?zqX ?zqT ?zqd ?zqu ?zqn ?zqP ?_; (k_extra "m ctrP")) | (refine' CtrP.use1 (c_figI _ _ _ _ _ _ ?zqa ?zqb ?zqc) ?zqF ?zqN ?zqX ?zqT ?zqd ?zqu ?zqn ?zqP ?zqh1 ?_; (k_extra "m ctrP"); (case zqh1 => k_extra "m ne2")) | (refine' CtrP.use2 (c_figI _ _ _ _ _ _ ?zqa ?zqb ?zqc) ?zqF ?zqN ?zqX ?zqT ?zqd ?zqu ?zqn ?zqP ?zqh1 ?zqh2 ?_; (k_extra "m ctrP"); (case zqh1 => k_extra "m ne2"); (case zqh2 => k_extra "m ne2")) | (refine' CtrP.use3 (c_figI _ _ _ _ _ _ ?zqa ?zqb ?zqc) ?zqF ?zqN ?zqX ?zqT ?zqd ?zqu ?zqn ?zqP ?zqh1 ?zqh2 ?zqh3 ?_; (k_extra "m ctrP"); (case zqh1 => k_extra "m ne2"); (case zqh2 => k_extra "m ne2"); (case zqh3 => k_extra "m ne2"))); (case zqa => k_extra "m nat"); (case zqb => k_extra "m nat"); (case zqc => k_extra "m nat"); intro ⟨_, _⟩ _ _ _ _ _ _ _ zhR'; (dsimp only at zhR'); (try dsimp only))
  k_with "call ref" => ((with_reducible show wpAny _ _ (call (Value.ref 362) _) _ _ _); refine' CtrL.use (c_Limits _) ?zqF ?zqN ?zqX ?zqT ?zqd ?zqu ?zqp ?_; (case zqp => trivial); (k_extra "m ctr"); intro ⟨_, _, _⟩ _ _ _ zN' zhne' _; (dsimp only [List.cons_append, List.nil_append] at zN'); (try (have za1 := neN (zhne' _ (List.mem_cons_self ..) _ (List.mem_cons_self ..)); try dsimp only at za1)); (try (have za2 := neN (zhne' _ (List.mem_cons_self ..) _ (List.mem_cons_of_mem _ (List.mem_cons_self ..))); try dsimp only at za2)); (try (have za3 := neN (zhne' _ (List.mem_cons_of_mem _ (List.mem_cons_self ..)) _ (List.mem_cons_self ..)); try dsimp only at za3)); (try (have za4 := neN (zhne' _ (List.mem_cons_of_mem _ (List.mem_cons_self ..)) _ (List.mem_cons_of_mem _ (List.mem_cons_self ..))); try dsimp only at za4)); (try dsimp only))
  k_with "call ref" => ((with_reducible show wpAny _ _ (call (Value.ref 89) _) _ _ _); refine' CtrL.use (c_Card _ _ _ _ _) ?zqF ?zqN ?zqX ?zqT ?zqd ?zqu ?zqp ?_; (case zqp => trivial); (k_extra "m ctr"); intro ⟨_, _, _⟩ _ _ _ zN' zhne' _; (dsimp only [List.cons_append, List.nil_append] at zN'); (try (have za1 := neN (zhne' _ (List.mem_cons_self ..) _ (List.mem_cons_self ..)); try dsimp only at za1)); (try (have za2 := neN (zhne' _ (List.mem_cons_self ..) _ (List.mem_cons_of_mem _ (List.mem_cons_self ..))); try dsimp only at za2)); (try (have za3 := neN (zhne' _ (List.mem_cons_of_mem _ (List.mem_cons_self ..)) _ (List.mem_cons_self ..)); try dsimp only at za3)); (try (have za4 := neN (zhne' _ (List.mem_cons_of_mem _ (List.mem_cons_self ..)) _ (List.mem_cons_of_mem _ (List.mem_cons_self ..))); try dsimp only at za4)); (try dsimp only))
  k_with "call ref" => ((with_reducible show wpAny _ _ (call (Value.ref 107) _) _ _ _); refine' Ctr.use (c_wb _ _ _ ?zqh) ?zqF ?zqN ?zqX ?zqT ?zqd ?zqu ?zqp ?_; (case zqh => (k_extra "m side")); (case zqp => trivial); (k_extra "m ctr"); intro _ _ _ _ _ _ _)
  k_with "call builtin:len" => ((with_reducible show wpAny _ _ (call (Value.builtin "len") [Value.ref _]) _ _ _); (refine' len_newsL ?zqn ?zqm ?zqb ?_; (case zqn => with_reducible assumption); (case zqm => k_mem); (case zqb => k_extra "m nat")))
  k_with "call ref" => ((with_reducible show wpAny _ _ (call (Value.ref 114) _) _ _ _); refine' Ctr.use (c_is_comment _ _ _ _ ?zqh) ?zqF ?zqN ?zqX ?zqT ?zqd ?zqu ?zqp ?_; (case zqh => (k_extra "m side")); (case zqp => trivial); (k_extra "m ctr"); intro _ _ _ _ _ _ _)
  k_with "call ref" => ((with_reducible show wpAny _ _ (call (Value.ref 142) _) _ _ _); refine' Ctr.use (c_padded _ _ _ _ ?zqh) ?zqF ?zqN ?zqX ?zqT ?zqd ?zqu ?zqp ?_; (case zqh => (k_extra "m side")); (case zqp => trivial); (k_extra "m ctr"); intro _ _ _ _ _ _ _)
  k_with "call ref" => ((with_reducible show wpAny _ _ (call (Value.ref 100) _) _ _ _); refine' CtrL.use (c_cards_of _ _ _ _ ?zqg ?zqh ?zqe) ?zqF ?zqN ?zqX ?zqT ?zqd ?zqu ?zqp ?_; (case zqg => with_reducible assumption); (case zqh => (k_extra "m side")); (case zqe => with_reducible assumption); (case zqp => trivial); (k_extra "m ctr"); intro _ _ _ _ _ _ _)
  k_with "call ref" => ((with_reducible show wpAny _ _ (call (Value.ref 121) _) _ _ _); refine' CtrL.use (c_read_cards _ _ _ _ _ _ _ ?zqg ?zqh ?zqe ?zqr) ?zqF ?zqN ?zqX ?zqT ?zqd ?zqu ?zqp ?_; (case zqg => with_reducible assumption); (case zqh => (k_extra "m side")); (case zqe => with_reducible assumption); (case zqr => with_reducible assumption); (case zqp => k_extra "m inst"); (k_extra "m ctr"); intro _ _ _ _ _ _ _)
  k_with "m inst" => first | with_reducible assumption | exact inst_base (by with_reducible assumption) (by k_asm) | k_inst
  k_with "call builtin:len" => ((with_reducible show wpAny _ _ (call (Value.builtin "len") [Value.ref _]) _ _ _); (refine' len_base ?zqn ?zqm ?zqb ?_; (case zqn => with_reducible assumption); (case zqm => k_asm); (case zqb => k_extra "m nat")))
  k_with "subscriptTail Name Name ref int" => ((refine' item_base ?zqn ?zqm ?zqb ?zqv ?_ ?zqs ?zqg); (case zqn => with_reducible assumption); (case zqm => k_asm); (case zqb => k_extra "m nat"); (case zqv => with_reducible assumption); (case zqs => with_unfolding_all exact rfl); (case zqg => (intro _; with_unfolding_all exact rfl)))
  k_with "subscriptTail Name Constant ref int" => ((refine' item_base0 ?zqn ?zqm ?zqv ?_ ?zqs ?zqg); (case zqn => with_reducible assumption); (case zqm => k_asm); (case zqv => with_reducible assumption); (case zqs => with_unfolding_all exact rfl); (case zqg => (intro _; with_unfolding_all exact rfl)))
  k_with "m inst" => first | with_reducible assumption | exact inst_base (by with_reducible assumption) (by k_asm) | k_inst
  k_with "call ref" => ((with_reducible show wpAny _ _ (call (Value.ref 135) _) _ _ _); refine' Ctr.use (c_read_label' _ _ ?zqh) ?zqF ?zqN ?zqX ?zqT ?zqd ?zqu ?zqp ?_; (case zqh => with_reducible assumption); (case zqp => k_extra "m inst"); (k_extra "m ctr"); intro _ _ _ _ _ _ _)
  k_with "call ref" => ((with_reducible show wpAny _ _ (call (Value.ref 128) _) _ _ _); refine' Ctr.use (c_is_continuation _ _) ?zqF ?zqN ?zqX ?zqT ?zqd ?zqu ?zqp ?_; (case zqp => k_extra "m inst"); (k_extra "m ctr"); intro _ _ _ _ _ _ _)
  trivial

-- text B12
section
set_option maxRecDepth 100000
set_option maxHeartbeats 400000
theorem bool_index : typeLookup (.type "bool") "__index__" = pure (some (.builtin "int.__index__")) := by rw [typeLookup_type, builtinLookup_eq_fast]; kernel_rfl
section
variable {prog : Program} {w : World} {A : Around} {E : Value → Shared → Prop} {s : Shared}
theorem getItem_bool {l : Addr} {items : Array Value} {b : Bool} {x : Value} {Q : Value → Shared → Prop} (hl : s.heap.IsList l items)
    (hx : items[if b = true then 1 else 0]? = some x) (h : Q x s) : wpAny (model prog w) A (getItem (.ref l) (.bool b)) Q E s := by
  obtain ⟨o, ho, hc, ne, hd⟩ := id hl
  unfold getItem
  try with_reducible refine wpAny_holding ?_
  first | refine wpAny_bind (wpAny_pure ?_) | skip
  refine wpAny_bind (wpAny_sequenceKey hl.typeIs (by decide) ?_)
  refine wpAny_bind (wpAny_callSpecial?_slot (name := Str.ofString "__getitem__") hl.typeIs slot_list_getitem
    (wpAny_call_entry slot_list_getitem hl.typeIs entry_list_getitem ?_ (args_list_getitem _ _)))
  show wpAny _ _ (Builtin.List.listSubscript? (.bool b) >>= _) _ _ s
  refine wpAny_bind ?_
  unfold Builtin.List.listSubscript?
  refine wpAny_bind (wpAny_specialOf (T := "bool") (PySem.typeIs_bool s b) bool_index ?_)
  show wpAny _ _ (asIndex (.bool b) >>= _) _ _ s
  refine wpAny_bind (wpAny_of_eq (a := if b = true then 1 else 0) (by cases b <;> rfl) ?_)
  show wpAny _ _ (if (!Builtin.List.listFitsIndex (if b = true then 1 else 0)) = true then _ else _) _ _ s
  rw [if_neg (by cases b <;> decide)]
  refine wpAny_pure ?_
  have e : (if b = true then (1 : Int) else 0) = ((if b = true then 1 else 0 : Nat) : Int) := by cases b <;> rfl
  rw [e]
  show wpAny _ _ ((seqItemAt l (if b = true then 1 else 0) >>= fun r => pure (r.map ((if b = true then 1 else 0), ·))) >>= _) _ _ s
  refine wpAny_bind (wpAny_bind (wpAny_seqItemAt ho hd (wpAny_pure ?_)))
  rw [hx]
  first
    | exact wpAny_bind (wpAny_pure (wpAny_pure ⟨x, rfl, wpAny_pure h⟩))
    | exact wpAny_pure ⟨x, rfl, wpAny_pure h⟩
theorem item_bool {value slice : Expr} {l : Addr} {y z : Value} {b : Bool} {Q : Value → Shared → Prop} (hl : s.heap.IsList l #[y, z]) (h : Q (if b = true then z else y) s)
    (hs : subscripted slice false (.ref l) (.bool b) = operate [.ref l, .bool b] (getItem (.ref l) (.bool b))) :
    wpAny (model prog w) A (subscriptTail value slice (.ref l) (.bool b)) Q E s :=
  tail_any hl.typeIs slot_list_getitem.lookup (getItem_bool hl (x := if b = true then z else y) (by cases b <;> rfl) h) hs
theorem item_some {value slice : Expr} {l : Addr} {vs : List Value} {k : Nat} {u : Tok} {Q : Value → Shared → Prop} (hl : s.heap.IsList l vs.toArray) (hk : (k : Int) < vs.length) (hb : vs.length ≤ 1000000) (h : ∀ v, vs[k]? = some v → Q v s)
    (hs : subscripted slice false (.ref l) (.int (k : Int) u) = operate [.ref l, .int (k : Int) u] (getItem (.ref l) (.int (k : Int) u))) :
    wpAny (model prog w) A (subscriptTail value slice (.ref l) (.int (k : Int) u)) Q E s := by
  have e : vs[k]? = some vs[k] := List.getElem?_eq_getElem (by omega)
  exact tail_any hl.typeIs slot_list_getitem.lookup (wpAny_getItem_list hl (by omega) (by omega) (by simpa using e) (h _ e)) hs
end

end

-- text PL4
section
/-- join as lists, with one sign between -/
def jn (c : Nat) : List (List Nat) → List Nat
  | [] => []
  | [x] => x
  | x :: r => x ++ c :: jn c r
theorem jn_cons {c : Nat} {x : List Nat} {r : List (List Nat)} (h : r ≠ []) : jn c (x :: r) = x ++ c :: jn c r := by
  cases r with
  | nil => exact absurd rfl h
  | cons y r => rfl
theorem sg_join (c : Nat) : ∀ R : List Str, sg (Str.join ⟨#[c]⟩ R) = jn c (R.map sg)
  | [] => rfl
  | [x] => rfl
  | x :: y :: r => by
    show sg (x ++ (⟨#[c]⟩ : Str) ++ Str.join ⟨#[c]⟩ (y :: r)) = _
    rw [sg_append, sg_append, sg_join c (y :: r)]
    show _ = sg x ++ c :: jn c ((y :: r).map sg)
    rw [List.append_assoc]; rfl
theorem free_cut {c : Nat} : ∀ {x y a b : List Nat}, c ∉ x → c ∉ y → x ++ c :: a = y ++ c :: b → x = y ∧ a = b
  | [], [], a, b, _, _, h => ⟨rfl, (List.cons.inj h).2⟩
  | [], d :: y, a, b, _, hy, h => absurd (List.mem_cons.mpr (.inl (List.cons.inj h).1)) hy
  | d :: x, [], a, b, hx, _, h => absurd (List.mem_cons.mpr (.inl (List.cons.inj h).1.symm)) hx
  | d :: x, e :: y, a, b, hx, hy, h => by
    obtain ⟨h1, h2⟩ := List.cons.inj h
    obtain ⟨r1, r2⟩ := free_cut (fun q => hx (List.mem_cons_of_mem _ q)) (fun q => hy (List.mem_cons_of_mem _ q)) h2
    exact ⟨by rw [h1, r1], r2⟩
theorem jn_inj {c : Nat} : ∀ {R S : List (List Nat)}, R ≠ [] → S ≠ [] → (∀ x ∈ R, c ∉ x) → (∀ x ∈ S, c ∉ x) → jn c R = jn c S → R = S
  | [x], [y], _, _, _, _, h => by rw [show x = y from h]
  | [x], y :: z :: s, _, _, hR, _, h => by
    exfalso
    have h' : x = y ++ c :: jn c (z :: s) := h
    exact hR x (List.mem_cons_self ..) (by rw [h']; simp)
  | x :: z :: r, [y], _, _, _, hS, h => by
    exfalso
    have h' : x ++ c :: jn c (z :: r) = y := h
    exact hS y (List.mem_cons_self ..) (by rw [← h']; simp)
  | x :: z :: r, y :: u :: s, _, _, hR, hS, h => by
    have h' : x ++ c :: jn c (z :: r) = y ++ c :: jn c (u :: s) := h
    obtain ⟨r1, r2⟩ := free_cut (hR x (List.mem_cons_self ..)) (hS y (List.mem_cons_self ..)) h'
    rw [r1, jn_inj (List.cons_ne_nil _ _) (List.cons_ne_nil _ _) (fun q hq => hR q (List.mem_cons_of_mem _ hq)) (fun q hq => hS q (List.mem_cons_of_mem _ hq)) r2]
theorem map_sg_inj : ∀ {R S : List Str}, R.map sg = S.map sg → R = S
  | [], [], _ => rfl
  | [], _ :: _, h => by cases h
  | _ :: _, [], h => by cases h
  | x :: r, y :: s, h => by
    obtain ⟨h1, h2⟩ := List.cons.inj h
    have : x = y := by rw [← tx_sg x, ← tx_sg y, h1]
    rw [this, map_sg_inj h2]
theorem split_join (c : Nat) {R : List Str} (h0 : R ≠ []) (hf : ∀ x ∈ R, c ∉ sg x) : Txt.split (Str.join ⟨#[c]⟩ R) ⟨#[c]⟩ = R := by
  have e := StrLaws.join_split (Str.join ⟨#[c]⟩ R) ⟨#[c]⟩
  have n : Txt.split (Str.join ⟨#[c]⟩ R) ⟨#[c]⟩ ≠ [] := fun q => by
    have := PyProof.Rows.split_pos (Str.join ⟨#[c]⟩ R) ⟨#[c]⟩
    rw [q] at this; exact absurd this (by decide)
  have e2 := congrArg sg e
  rw [sg_join, sg_join] at e2
  refine map_sg_inj (jn_inj (fun q => n (List.map_eq_nil_iff.mp q)) (fun q => h0 (List.map_eq_nil_iff.mp q)) (fun x hx => ?_) (fun x hx => ?_) e2)
  · obtain ⟨p, hp, rfl⟩ := List.mem_map.mp hx
    exact StrLaws.split_free _ c p hp
  · obtain ⟨p, hp, rfl⟩ := List.mem_map.mp hx
    exact hf p hp
theorem jn_snoc {c : Nat} {a : List Nat} : ∀ {R : List (List Nat)}, R ≠ [] → jn c (R ++ [a]) = jn c R ++ c :: a
  | [], h => absurd rfl h
  | [x], _ => rfl
  | x :: y :: r, _ => by
    show x ++ c :: jn c ((y :: r) ++ [a]) = (x ++ c :: jn c (y :: r)) ++ c :: a
    rw [jn_snoc (List.cons_ne_nil _ _)]; simp
/-- the text that the law hands over -/
theorem told_split {R : List Str} (h0 : R ≠ []) (hf : ∀ x ∈ R, 10 ∉ sg x) : Txt.split (Txt.join (Str.ofString "\n") R ++ Str.ofString "\n      END\n") (Str.ofString "\n") = (R ++ [Str.ofString "      END"]) ++ [Str.ofString ""] := by
  have e1 : Str.ofString "\n" = ⟨#[10]⟩ := by decide +kernel
  have e2 : sg (Str.ofString "\n      END\n") = 10 :: (sg (Str.ofString "      END") ++ 10 :: sg (Str.ofString "")) := by decide +kernel
  have e3 : Txt.join (Str.ofString "\n") R = Str.join ⟨#[10]⟩ R := by rw [e1]; exact StrLaws.glued_eq_join _ _
  rw [e3, e1]
  have key : Str.join ⟨#[10]⟩ R ++ Str.ofString "\n      END\n" = Str.join ⟨#[10]⟩ ((R ++ [Str.ofString "      END"]) ++ [Str.ofString ""]) := by
    have : sg (Str.join ⟨#[10]⟩ R ++ Str.ofString "\n      END\n") = sg (Str.join ⟨#[10]⟩ ((R ++ [Str.ofString "      END"]) ++ [Str.ofString ""])) := by
      rw [sg_append, sg_join, sg_join, List.map_append, List.map_append, List.map_singleton, List.map_singleton, jn_snoc (by simp), jn_snoc (fun q => h0 (List.map_eq_nil_iff.mp q)), e2]
      simp
    rw [← tx_sg (Str.join ⟨#[10]⟩ R ++ Str.ofString "\n      END\n"), this, tx_sg]
  rw [key]
  refine split_join 10 (by simp) fun x hx => ?_
  rcases List.mem_append.mp hx with hx | hx
  · rcases List.mem_append.mp hx with hx | hx
    · exact hf x hx
    · rw [List.mem_singleton.mp hx]; decide +kernel
  · rw [List.mem_singleton.mp hx]; decide +kernel

end

-- text PL5
section
/-- a turn of the law's loop: the signs of the body but its last, and the mark -/
abbrev Tn := List Nat × Nat
def tailC (count j : Nat) : Nat := if j < count then 32 else 55
def bodyF (count j : Nat) (u : List Nat) : List Nat := u ++ [tailC count j]
def seenF (count j : Nat) (u : List Nat) : List Nat := (bodyF count j u).take 66
def greatF (count j : Nat) (u : List Nat) : List Nat := if j < count then (u.map capN).take 66 else ((u.map capN).take 66 ++ [55]).take 66
def padL (count j : Nat) (l : List Nat) : List Nat := if j < count then l ++ List.replicate (66 - l.length) 32 else l
def rowF (lb : List Nat) (count j : Nat) (t : Tn) : Str := tx ((if j = 0 then lb else [32, 32, 32, 32, 32]) ++ t.2 :: bodyF count j t.1)
def more : Str := Str.ofString "C MORE"
def rowsG (lb : List Nat) (count gap : Nat) : Nat → List Tn → List Str
  | _, [] => []
  | j, t :: r => (if j = gap then [more] else []) ++ rowF lb count j t :: rowsG lb count gap (j + 1) r
def wholeG (count : Nat) : Nat → List Tn → List Nat
  | _, [] => []
  | j, t :: r => padL count j (seenF count j t.1) ++ wholeG count (j + 1) r
def toldG (count : Nat) : Nat → List Tn → List Nat
  | _, [] => []
  | j, t :: r => greatF count j t.1 ++ toldG count (j + 1) r
theorem rowsG_snoc {lb : List Nat} {count gap : Nat} {t : Tn} : ∀ {ts : List Tn} {j : Nat}, rowsG lb count gap j (ts ++ [t]) = rowsG lb count gap j ts ++ ((if j + ts.length = gap then [more] else []) ++ [rowF lb count (j + ts.length) t])
  | [], j => by simp [rowsG]
  | a :: r, j => by
    show (if j = gap then [more] else []) ++ rowF lb count j a :: rowsG lb count gap (j + 1) (r ++ [t]) = ((if j = gap then [more] else []) ++ rowF lb count j a :: rowsG lb count gap (j + 1) r) ++ _
    rw [rowsG_snoc, show j + 1 + r.length = j + (a :: r).length from by rw [List.length_cons]; omega]
    simp
theorem wholeG_snoc {count : Nat} {t : Tn} : ∀ {ts : List Tn} {j : Nat}, wholeG count j (ts ++ [t]) = wholeG count j ts ++ padL count (j + ts.length) (seenF count (j + ts.length) t.1)
  | [], j => by simp [wholeG]
  | a :: r, j => by
    show padL count j (seenF count j a.1) ++ wholeG count (j + 1) (r ++ [t]) = (padL count j (seenF count j a.1) ++ wholeG count (j + 1) r) ++ _
    rw [wholeG_snoc, show j + 1 + r.length = j + (a :: r).length from by rw [List.length_cons]; omega]
    simp
theorem toldG_snoc {count : Nat} {t : Tn} : ∀ {ts : List Tn} {j : Nat}, toldG count j (ts ++ [t]) = toldG count j ts ++ greatF count (j + ts.length) t.1
  | [], j => by simp [toldG]
  | a :: r, j => by
    show greatF count j a.1 ++ toldG count (j + 1) (r ++ [t]) = (greatF count j a.1 ++ toldG count (j + 1) r) ++ _
    rw [toldG_snoc, show j + 1 + r.length = j + (a :: r).length from by rw [List.length_cons]; omega]
    simp
def extOk (c : Nat) : Bool := isD c || decide (c = 46) || decide (c = 43)
structure OkU (j : Nat) (u : List Nat) : Prop where
  shape : ∃ nm ext, u = nm ++ (if j = 0 then 61 else 43) :: ext ∧ Nm nm ∧ (∀ c ∈ ext, extOk c = true) ∧ nm.length ≤ 4
  len : u.length ≤ 70
def okM (j m : Nat) : Bool := if j = 0 then decide (m = 32 ∨ m = 48) else decide (m ∈ [43, 49, 65, 39, 42, 57, 90, 122, 41, 38])
structure OkT (j : Nat) (t : Tn) : Prop where
  u : OkU j t.1
  m : okM j t.2 = true
def AllT : Nat → List Tn → Prop
  | _, [] => True
  | j, t :: r => OkT j t ∧ AllT (j + 1) r
theorem allT_snoc {t : Tn} : ∀ {ts : List Tn} {j : Nat}, AllT j ts → OkT (j + ts.length) t → AllT j (ts ++ [t])
  | [], _, _, h => ⟨h, trivial⟩
  | a :: r, j, ⟨h1, h2⟩, h => ⟨h1, allT_snoc h2 (by rw [show j + 1 + r.length = j + (a :: r).length from by rw [List.length_cons]; omega]; exact h)⟩
theorem wholeG_len {count : Nat} : ∀ {ts : List Tn} {j : Nat}, (wholeG count j ts).length ≤ 66 * ts.length
  | [], _ => Nat.le_refl _
  | a :: r, j => by
    show (padL count j (seenF count j a.1) ++ wholeG count (j + 1) r).length ≤ _
    have ih := wholeG_len (count := count) (ts := r) (j := j + 1)
    have h1 : (seenF count j a.1).length ≤ 66 := by unfold seenF; rw [List.length_take]; omega
    have : (padL count j (seenF count j a.1)).length ≤ 66 := by
      unfold padL
      split
      · rw [List.length_append, List.length_replicate]; omega
      · exact h1
    rw [List.length_append, List.length_cons]; omega
theorem toldG_len {count : Nat} : ∀ {ts : List Tn} {j : Nat}, (toldG count j ts).length ≤ 66 * ts.length
  | [], _ => Nat.le_refl _
  | a :: r, j => by
    show (greatF count j a.1 ++ toldG count (j + 1) r).length ≤ _
    have ih := toldG_len (count := count) (ts := r) (j := j + 1)
    have : (greatF count j a.1).length ≤ 66 := by
      unfold greatF
      split <;> (rw [List.length_take]; omega)
    rw [List.length_append, List.length_cons]; omega
theorem rowsG_len {lb : List Nat} {count gap : Nat} : ∀ {ts : List Tn} {j : Nat}, (rowsG lb count gap j ts).length ≤ 2 * ts.length
  | [], _ => Nat.le_refl _
  | a :: r, j => by
    show ((if j = gap then [more] else []) ++ rowF lb count j a :: rowsG lb count gap (j + 1) r).length ≤ _
    have ih := rowsG_len (lb := lb) (count := count) (gap := gap) (ts := r) (j := j + 1)
    rw [List.length_append, List.length_cons, List.length_cons]
    split <;> (simp only [List.length_cons, List.length_nil]; omega)

end

-- text PL6
section
set_option maxRecDepth 100000
abbrev figs70 : Str := Str.ofString "0123456789012345678901234567890123456789012345678901234567890123456789"
def spC (i : Nat) : Nat := if i = 0 then 61 else 43
def spT (i : Nat) : Str := if i = 0 then Str.ofString "=" else Str.ofString "+"
theorem spT_eq (i : Nat) : spT i = tx [spC i] := by
  unfold spT spC
  split <;> decide +kernel
theorem capN_sp (i : Nat) : capN (spC i) = spC i := by
  unfold spC
  split <;> decide
theorem isD_cap {c : Nat} (h : isD c = true) : capN c = c := by
  unfold isD at h
  rw [decide_eq_true_eq] at h
  unfold capN isS
  rw [if_neg]
  intro q
  rw [decide_eq_true_eq] at q
  omega
theorem ext_cap {c : Nat} (h : extOk c = true) : capN c = c := by
  unfold extOk at h
  rw [Bool.or_eq_true, Bool.or_eq_true, decide_eq_true_eq, decide_eq_true_eq] at h
  rcases h with (h | rfl) | rfl
  · exact isD_cap h
  · decide
  · decide
theorem figs_dig : ∀ c ∈ sg figs70, isD c = true := by decide +kernel
theorem figs_len : (sg figs70).length = 70 := by decide +kernel
theorem more_of {n : Nat} {z : Int} (h : z = (n : Int)) : Txt.slice figs70 none (some z) = tx ((sg figs70).take n) := by rw [h, slice_ns]
def uW (i : Nat) (a M : List Nat) : List Nat := a ++ spC i :: ([49, 46, 48, 43] ++ M ++ [53])
theorem uw_ok {i : Nat} {a : List Nat} {f : Nat} (hn : Nm a) (ha : a.length ≤ 4) (hf : (f : Int) < 7) : ∃ u, OkU i u ∧
    tx a ++ spT i ++ (Str.ofString "1.0+" ++ Txt.slice figs70 none (some (59 + (f : Int) - ((tx a ++ spT i).length : Int))) ++ Str.ofString "5") = tx u ∧
    Txt.slice (tx (a.map capN) ++ spT i ++ Str.ofString "1.0+" ++ Txt.slice figs70 none (some (59 + (f : Int) - ((tx a ++ spT i).length : Int))) ++ Str.ofString "5") none (some 66) = tx ((u.map capN).take 66) := by
  have hl : (spT i).length = 1 := by rw [spT_eq, len_tx]; rfl
  have e0 : 59 + (f : Int) - ((tx a ++ spT i).length : Int) = ((58 + f - a.length : Nat) : Int) := by rw [PySem.Str.length_append, hl, len_tx]; omega
  rw [more_of e0]
  have hd : ∀ c ∈ (sg figs70).take (58 + f - a.length), isD c = true := fun c hc => figs_dig c (List.mem_of_mem_take hc)
  have hml : ((sg figs70).take (58 + f - a.length)).length = 58 + f - a.length := by rw [List.length_take, figs_len]; omega
  generalize (sg figs70).take (58 + f - a.length) = M at *
  have h1 : Str.ofString "1.0+" = tx [49, 46, 48, 43] := by decide +kernel
  have h5 : Str.ofString "5" = tx [53] := by decide +kernel
  refine ⟨uW i a M, ⟨⟨a, [49, 46, 48, 43] ++ M ++ [53], rfl, hn, fun c hc => ?_, ha⟩, ?_⟩, ?_, ?_⟩
  · rcases List.mem_append.mp hc with hc | hc
    · rcases List.mem_append.mp hc with hc | hc
      · exact (by decide : ∀ c ∈ [49, 46, 48, 43], extOk c = true) c hc
      · unfold extOk; rw [hd c hc]; rfl
    · rw [List.mem_singleton.mp hc]; decide
  · unfold uW
    simp only [List.length_append, List.length_cons, List.length_nil]
    omega
  · rw [h1, h5, spT_eq]
    simp only [tx_append]
    unfold uW
    simp
  · rw [h1, h5, spT_eq]
    simp only [tx_append]
    have := slice_ns (tx (a.map capN ++ [spC i] ++ [49, 46, 48, 43] ++ M ++ [53])) 66
    rw [show ((66 : Nat) : Int) = (66 : Int) from rfl] at this
    rw [this, sg_tx]
    unfold uW
    have hM : M.map capN = M := (List.map_congr_left fun c hc => (isD_cap (hd c hc) : capN c = id c)).trans (List.map_id M)
    have k : (a ++ spC i :: ([49, 46, 48, 43] ++ M ++ [53])).map capN = a.map capN ++ [spC i] ++ [49, 46, 48, 43] ++ M ++ [53] := by
      rw [List.map_append, List.map_cons, List.map_append, List.map_append, hM, capN_sp]
      simp
      decide
    rw [k]
theorem un_ok {i : Nat} {a : List Nat} (hn : Nm a) (ha : a.length ≤ 4) : ∃ u, OkU i u ∧ tx a ++ spT i = tx u ∧ tx (a.map capN) ++ spT i = tx ((u.map capN).take 66) := by
  refine ⟨a ++ [spC i], ⟨⟨a, [], rfl, hn, (fun c hc => nomatch hc), ha⟩, ?_⟩, ?_, ?_⟩
  · rw [List.length_append, List.length_singleton]; omega
  · rw [spT_eq, tx_append]
  · rw [spT_eq, tx_append, List.map_append, List.take_of_length_le]
    · rw [List.map_cons, capN_sp]; rfl
    · rw [List.length_append, List.length_map, List.length_map, List.length_singleton]; omega

end

-- text PL7
section
set_option maxRecDepth 100000
theorem sp_eq : Str.ofString " " = tx [32] := by decide +kernel
theorem sv_eq : Str.ofString "7" = tx [55] := by decide +kernel
theorem nl_eq : Str.ofString "" = tx [] := by decide +kernel
theorem seen_lt {count i : Nat} {u : List Nat} (h : i < count) : Txt.slice (tx u ++ Str.ofString " ") none (some 66) = tx (seenF count i u) := by
  have := slice_ns (tx (u ++ [32])) 66
  rw [show ((66 : Nat) : Int) = (66 : Int) from rfl, sg_tx] at this
  rw [sp_eq, tx_append, this]
  unfold seenF bodyF tailC
  rw [if_pos h]
theorem seen_ge {count i : Nat} {u : List Nat} (h : count ≤ i) : Txt.slice (tx u ++ Str.ofString "7") none (some 66) = tx (seenF count i u) := by
  have := slice_ns (tx (u ++ [55])) 66
  rw [show ((66 : Nat) : Int) = (66 : Int) from rfl, sg_tx] at this
  rw [sv_eq, tx_append, this]
  unfold seenF bodyF tailC
  rw [if_neg (by omega)]
theorem whole_lt {count i mk : Nat} {u : List Nat} {ts : List Tn} {y : Str} (hi : ts.length = i) (h : i < count) (hy : y = tx (List.replicate (66 - ((Txt.slice (tx u ++ Str.ofString " ") none (some 66)).length : Int)).toNat 32)) :
    tx (wholeG count 0 ts) ++ (Txt.slice (tx u ++ Str.ofString " ") none (some 66) ++ y) = tx (wholeG count 0 (ts ++ [(u, mk)])) := by
  rw [hy, seen_lt h, tx_append, tx_append, wholeG_snoc, Nat.zero_add, hi]
  unfold padL
  rw [if_pos h, len_tx, show (66 - ((seenF count i u).length : Int)).toNat = 66 - (seenF count i u).length from Int.toNat_sub 66 _]
theorem whole_ge {count i mk : Nat} {u : List Nat} {ts : List Tn} (hi : ts.length = i) (h : count ≤ i) :
    tx (wholeG count 0 ts) ++ (Txt.slice (tx u ++ Str.ofString "7") none (some 66) ++ Str.ofString "") = tx (wholeG count 0 (ts ++ [(u, mk)])) := by
  rw [seen_ge h, nl_eq, tx_append, tx_append, wholeG_snoc, Nat.zero_add, hi, List.append_nil]
  unfold padL
  rw [if_neg (by omega)]
theorem told_lt {count i mk : Nat} {u : List Nat} {ts : List Tn} (hi : ts.length = i) (h : i < count) :
    tx (toldG count 0 ts) ++ tx ((u.map capN).take 66) = tx (toldG count 0 (ts ++ [(u, mk)])) := by
  rw [tx_append, toldG_snoc, Nat.zero_add, hi]
  unfold greatF
  rw [if_pos h]
theorem told_ge {count i mk : Nat} {u : List Nat} {ts : List Tn} (hi : ts.length = i) (h : count ≤ i) :
    tx (toldG count 0 ts) ++ Txt.slice (tx ((u.map capN).take 66) ++ Str.ofString "7") none (some 66) = tx (toldG count 0 (ts ++ [(u, mk)])) := by
  have := slice_ns (tx ((u.map capN).take 66 ++ [55])) 66
  rw [show ((66 : Nat) : Int) = (66 : Int) from rfl, sg_tx] at this
  rw [sv_eq, tx_append ((u.map capN).take 66) [55], this, tx_append, toldG_snoc, Nat.zero_add, hi]
  unfold greatF
  rw [if_neg (by omega)]
def lbS (lab : Nat) : Str := Str.ofString (toString (1 + (lab : Int)))
def lbF (lab : Nat) : List Nat := sg (lbS lab) ++ List.replicate (5 - (lbS lab).length) 32
def mk0 (k : Nat) : Nat := if k = 0 then 32 else 48
def mk1 (k : Nat) : Nat := [43, 49, 65, 39, 42, 57, 90, 122, 41, 38].getD k 0
theorem item_m0 {k : Nat} (h : (k : Int) < 2) : Txt.item (Str.ofString " 0") (k : Nat) = tx [mk0 k] ∧ okM 0 (mk0 k) = true := by
  have : ∀ k, k < 2 → Txt.item (Str.ofString " 0") (k : Nat) = tx [mk0 k] ∧ okM 0 (mk0 k) = true := by decide +kernel
  exact this k (by omega)
theorem item_m1 {k : Nat} (h : (k : Int) < 10) : Txt.item (Str.ofString "+1A'*9Zz)&") (k : Nat) = tx [mk1 k] ∧ ∀ i, i ≠ 0 → okM i (mk1 k) = true := by
  have h1 : ∀ k, k < 10 → Txt.item (Str.ofString "+1A'*9Zz)&") (k : Nat) = tx [mk1 k] := by decide +kernel
  have h2 : ∀ k, k < 10 → mk1 k ∈ [43, 49, 65, 39, 42, 57, 90, 122, 41, 38] := by decide +kernel
  refine ⟨h1 k (by omega), fun i hi => ?_⟩
  unfold okM
  rw [if_neg hi]
  exact decide_eq_true (h2 k (by omega))
theorem body_lt {count i : Nat} {u : List Nat} (h : i < count) : tx u ++ Str.ofString " " = tx (bodyF count i u) := by
  rw [sp_eq, tx_append]; unfold bodyF tailC; rw [if_pos h]
theorem body_ge {count i : Nat} {u : List Nat} (h : count ≤ i) : tx u ++ Str.ofString "7" = tx (bodyF count i u) := by
  rw [sv_eq, tx_append]; unfold bodyF tailC; rw [if_neg (by omega)]
theorem row_0 {lab count k : Nat} {u : List Nat} {x x2 y b : Str} (hx : x = lbS lab) (hx2 : x2 = lbS lab) (hy : y = tx (List.replicate (5 - (x2.length : Int)).toNat 32)) (hk : (k : Int) < 2) (hb : b = tx (bodyF count 0 u)) :
    x ++ y ++ Txt.item (Str.ofString " 0") (k : Nat) ++ b = rowF (lbF lab) count 0 (u, mk0 k) := by
  rw [hy, hx2, hx, (item_m0 hk).1, hb, ← tx_sg (lbS lab), tx_append, tx_append, tx_append]
  unfold rowF lbF
  rw [if_pos rfl, tx_sg, show (5 - ((lbS lab).length : Int)).toNat = 5 - (lbS lab).length from Int.toNat_sub 5 _]
  simp
theorem row_1 {lab count i k : Nat} {u : List Nat} {b : Str} (hi : i ≠ 0) (hk : (k : Int) < 10) (hb : b = tx (bodyF count i u)) :
    Str.ofString "     " ++ Txt.item (Str.ofString "+1A'*9Zz)&") (k : Nat) ++ b = rowF (lbF lab) count i (u, mk1 k) := by
  rw [(item_m1 hk).1, hb, show Str.ofString "     " = tx [32, 32, 32, 32, 32] from by decide +kernel, tx_append, tx_append]
  unfold rowF
  rw [if_neg hi]
  simp
def lastF (lb : List Nat) (count gap : Nat) (P : List Str) (ts : List Tn) : Nat := if 21 ≤ ts.length then (P ++ rowsG lb count gap 0 (ts.take 21)).length else 0
theorem last_same {lb : List Nat} {count gap : Nat} {P : List Str} {ts : List Tn} {t : Tn} (h : ts.length ≠ 20) : lastF lb count gap P (ts ++ [t]) = lastF lb count gap P ts := by
  unfold lastF
  rw [List.length_append, List.length_singleton]
  by_cases h2 : 21 ≤ ts.length
  · rw [if_pos h2, if_pos (by omega), List.take_append_of_le_length h2]
  · rw [if_neg h2, if_neg (by omega)]
theorem last_20 {lb : List Nat} {count gap : Nat} {P : List Str} {ts : List Tn} {t : Tn} (h : ts.length = 20) : lastF lb count gap P (ts ++ [t]) = (P ++ rowsG lb count gap 0 (ts ++ [t])).length := by
  unfold lastF
  rw [List.length_append, List.length_singleton, if_pos (by omega), List.take_of_length_le (by rw [List.length_append, List.length_singleton]; omega)]
theorem strs_append : ∀ {a b : List Value} {x y : List Str}, StrsAre a x → StrsAre b y → StrsAre (a ++ b) (x ++ y)
  | _, _, _, _, .nil, h => h
  | _, _, _, _, .cons z t r, h => .cons z t (strs_append r h)
/-- the rows behind one more turn -/
theorem rows_next {lb : List Nat} {count gap : Nat} {P : List Str} {ts : List Tn} {t : Tn} {vs mv : List Value} {row : Str} {tr : Tok} (h : StrsAre vs (P ++ rowsG lb count gap 0 ts)) (hm : (ts.length = gap ∧ ∃ tq, mv = vs ++ [.str more tq]) ∨ (ts.length ≠ gap ∧ mv = vs)) (hr : row = rowF lb count ts.length t) :
    StrsAre (mv ++ [.str row tr]) (P ++ rowsG lb count gap 0 (ts ++ [t])) := by
  rw [rowsG_snoc, Nat.zero_add, ← List.append_assoc, ← List.append_assoc, hr]
  refine strs_append ?_ (.cons _ _ .nil)
  rcases hm with ⟨hg, tq, rfl⟩ | ⟨hg, rfl⟩
  · rw [if_pos hg]; exact strs_append h (.cons _ _ .nil)
  · rw [if_neg hg, List.append_nil]; exact h

end

-- text PL8
section
set_option maxRecDepth 100000
/-- the label's signs -/
def dg (lab : Nat) : List Nat := sg (lbS lab)
theorem dg_eq (lab : Nat) : dg lab = (Nat.toDigits 10 (1 + lab)).map Char.toNat := by
  have := KIN.signs_num (1 + lab)
  rw [show ((1 + lab : Nat) : Int) = 1 + (lab : Int) from by omega] at this
  exact this
theorem dg_dig (lab : Nat) : ∀ c ∈ dg lab, isD c = true := fun c hc => by
  rw [dg_eq] at hc
  obtain ⟨ch, hch, e⟩ := List.mem_map.mp hc
  have r := digit_range (Nat.isDigit_of_mem_toDigits (by decide) (by decide) hch)
  rw [← e]
  exact decide_eq_true r
theorem dg_lab (lab : Nat) : labF (dg lab) = 1 + lab := by
  rw [dg_eq]; exact KIN.val_back (1 + lab)
theorem lbS_len' {lab : Nat} (h : (lab : Int) < 99999) : (lbS lab).length ≤ 5 := toString_length_le (by omega) (by decide) (by omega)
theorem dg_pos (lab : Nat) : 1 ≤ (dg lab).length := by
  rw [dg_eq, List.length_map]; exact toDigits_len_ge 10 (1 + lab)
theorem dg_len {lab : Nat} (h : (lab : Int) < 99999) : (dg lab).length ≤ 5 := by
  unfold dg; rw [len_sg]; exact lbS_len' h
theorem lbF_eq (lab : Nat) : lbF lab = dg lab ++ List.replicate (5 - (dg lab).length) 32 := by
  unfold lbF dg; rw [len_sg]
theorem lbF_len {lab : Nat} (h : (lab : Int) < 99999) : (lbF lab).length = 5 := by
  have := dg_len h
  rw [lbF_eq, List.length_append, List.length_replicate]; omega
theorem no32 {c : Nat} (h : isD c = true) : (c != 32) = true := by
  unfold isD at h; rw [decide_eq_true_eq] at h
  rw [bne_iff_ne]; omega
theorem lbF_wb (lab : Nat) : (lbF lab).filter (· != 32) = dg lab := by
  rw [lbF_eq, List.filter_append, List.filter_eq_self.mpr fun c hc => no32 (dg_dig lab c hc), List.filter_eq_nil_iff.mpr fun c hc => ?_, List.append_nil]
  rw [List.eq_of_mem_replicate hc]; decide
theorem lbF_sgn (lab : Nat) : ∀ c ∈ lbF lab, isD c = true ∨ c = 32 := fun c hc => by
  rw [lbF_eq] at hc
  rcases List.mem_append.mp hc with hc | hc
  · exact .inl (dg_dig lab c hc)
  · exact .inr (List.eq_of_mem_replicate hc)
theorem tx_inj {a b : List Nat} (h : tx a = tx b) : a = b := by
  have := congrArg sg h
  rwa [sg_tx, sg_tx] at this
/-- a row of five signs, a mark and a body -/
theorem row_cut {a b : List Nat} {m : Nat} (ha : a.length = 5) : Txt.slice (tx (a ++ m :: b)) none (some 72) = tx (a ++ m :: b.take 66) := by
  have := slice_ns (tx (a ++ m :: b)) 72
  rw [show ((72 : Nat) : Int) = (72 : Int) from rfl, sg_tx] at this
  rw [this, List.take_append, ha, List.take_of_length_le (l := a) (by omega)]
  rfl
theorem card_row {a b : List Nat} {m n : Nat} (ha : a.length = 5) : cardOf (n, tx (a ++ m :: b)) = ⟨n, tx a, tx [m], tx (b.take 66)⟩ := by
  unfold cardOf
  dsimp only
  rw [row_cut ha]
  have e1 := slice_ns (tx (a ++ m :: b.take 66)) 5
  rw [show ((5 : Nat) : Int) = (5 : Int) from rfl, sg_tx, List.take_append, ha, List.take_of_length_le (l := a) (by omega)] at e1
  have e2 := slice_sn (tx (a ++ m :: b.take 66)) 6
  rw [show ((6 : Nat) : Int) = (6 : Int) from rfl, sg_tx, List.drop_append, ha, List.drop_of_length_le (l := a) (by omega)] at e2
  have e3 : Txt.item (tx (a ++ m :: b.take 66)) 5 = ⟨#[m]⟩ := by
    refine PyProof.Rows.item_meets (by decide) ?_
    show (a ++ m :: b.take 66).toArray[5]? = some m
    rw [List.getElem?_toArray, List.getElem?_append_right (by omega), ha]; rfl
  rw [e1, e2, e3]
  simp
theorem row_len {a b : List Nat} {m : Nat} (ha : a.length = 5) : 6 ≤ (Txt.slice (tx (a ++ m :: b)) none (some 72)).length := by
  rw [row_cut ha, len_tx, List.length_append, List.length_cons]; omega
theorem row_nc {a b : List Nat} {d m : Nat} (ha : (d :: a).length = 5) (h1 : d ≠ 67) (h2 : d ≠ 99) (h3 : d ≠ 42) (hn : ∃ c ∈ (d :: a) ++ m :: b.take 66, c ≠ 32) : isCom (tx (d :: a ++ m :: b)) = false := by
  unfold isCom
  have e1 := slice_ns (tx (d :: a ++ m :: b)) 1
  rw [show ((1 : Nat) : Int) = (1 : Int) from rfl, sg_tx, List.cons_append, List.take_succ_cons, List.take_zero] at e1
  have q (k : Nat) (h : d ≠ k) : ((tx [d]) == (tx [k])) = false := beq_eq_false_iff_ne.mpr fun e => h (List.cons.inj (tx_inj e)).1
  rw [List.cons_append, e1, ← List.cons_append, row_cut ha, if_neg (by rw [show Str.ofString "C" = tx [67] from by decide +kernel, q _ h1]; decide), if_neg (by rw [show Str.ofString "c" = tx [99] from by decide +kernel, q _ h2]; decide), if_neg (by rw [show Str.ofString "*" = tx [42] from by decide +kernel, q _ h3]; decide)]
  rw [show Str.ofString "" = tx [] from by decide +kernel]
  refine beq_eq_false_iff_ne.mpr fun e => ?_
  obtain ⟨c, hc, hc32⟩ := hn
  have := tx_inj e
  rw [sg_tx] at this
  exact List.filter_eq_nil_iff.mp this c hc (by simpa using hc32)

end

-- text PL9
section
set_option maxRecDepth 100000
def okS (c : Nat) : Bool := isLSD c || decide (c = 61) || decide (c = 43) || decide (c = 46)
theorem okS_lt {c : Nat} (h : okS c = true) : c < 128 := by
  unfold okS isLSD isL isS isD at h
  simp only [Bool.or_eq_true, decide_eq_true_eq] at h
  omega
theorem okS_ne {c : Nat} (h : okS c = true) : c ≠ 10 ∧ c ≠ 32 ∧ c ≠ 39 ∧ isA c = false := by
  exact ⟨ne_by 10 h rfl, ne_by 32 h rfl, ne_by 39 h rfl, (by decide +kernel : ∀ c, c < 128 → okS c = true → isA c = false) c (okS_lt h) h⟩
theorem okU_sgn {j : Nat} {u : List Nat} (h : OkU j u) : ∀ c ∈ u, okS c = true := by
  obtain ⟨⟨nm, ext, rfl, ⟨d, r, rfl, h1, h2⟩, h3, _⟩, _⟩ := h
  intro c hc
  rcases List.mem_append.mp hc with hc | hc
  · have : isLSD c = true := by
      rcases List.mem_cons.mp hc with rfl | hc
      · unfold isLS at h1; unfold isLSD; rw [h1]; rfl
      · exact h2 c hc
    unfold okS; rw [this]; rfl
  · rcases List.mem_cons.mp hc with rfl | hc
    · by_cases hj : j = 0
      · rw [if_pos hj]; decide
      · rw [if_neg hj]; decide
    · have := h3 c hc
      unfold extOk at this
      unfold okS isLSD
      simp only [Bool.or_eq_true, decide_eq_true_eq] at this ⊢
      rcases this with (h | h) | h
      · exact .inl (.inl (.inl (.inr h)))
      · exact .inr h
      · exact .inl (.inr h)
theorem tail_or (count j : Nat) : tailC count j = 32 ∨ okS (tailC count j) = true := by
  unfold tailC
  split
  · exact .inl rfl
  · exact .inr (by decide)
theorem seen_sgn {count j : Nat} {u : List Nat} (h : OkU j u) : ∀ c ∈ seenF count j u, c = 32 ∨ okS c = true := fun c hc => by
  have hc := List.mem_of_mem_take hc
  rcases List.mem_append.mp hc with hc | hc
  · exact .inr (okU_sgn h c hc)
  · rw [List.mem_singleton.mp hc]; exact tail_or ..
theorem pad_sgn {count j : Nat} {l : List Nat} (h : ∀ c ∈ l, c = 32 ∨ okS c = true) : ∀ c ∈ padL count j l, c = 32 ∨ okS c = true := fun c hc => by
  unfold padL at hc
  split at hc
  · rcases List.mem_append.mp hc with hc | hc
    · exact h c hc
    · exact .inl (List.eq_of_mem_replicate hc)
  · exact h c hc
theorem whole_sgn {count : Nat} : ∀ {ts : List Tn} {j : Nat}, AllT j ts → ∀ c ∈ wholeG count j ts, c = 32 ∨ okS c = true
  | [], _, _, c, hc => nomatch hc
  | a :: r, j, ⟨h1, h2⟩, c, hc => by
    rcases List.mem_append.mp (show c ∈ padL count j (seenF count j a.1) ++ wholeG count (j + 1) r from hc) with hc | hc
    · exact pad_sgn (seen_sgn h1.u) c hc
    · exact whole_sgn h2 c hc
theorem sqGo_plain : ∀ {l : List Nat}, (∀ c ∈ l, c = 32 ∨ okS c = true) → sqGo false l = true
  | [], _ => rfl
  | c :: r, h => by
    have ih := sqGo_plain fun d hd => h d (List.mem_cons_of_mem _ hd)
    unfold sqGo
    rcases h c (List.mem_cons_self ..) with rfl | hc
    · exact ih
    · obtain ⟨_, n2, n3, n4⟩ := okS_ne hc
      rw [if_neg n2, if_neg n3, if_neg (fun q => nomatch q.2), n4]
      exact ih
theorem sqF_append (a b : List Nat) : sqF (a ++ b) = sqF a ++ sqF b := by unfold sqF; rw [List.filter_append, List.map_append]
theorem sqF_u {l : List Nat} (h : ∀ c ∈ l, okS c = true) : sqF l = l.map capN := by
  unfold sqF
  rw [List.filter_eq_self.mpr fun c hc => by rw [bne_iff_ne]; exact (okS_ne (h c hc)).2.1]
theorem sqF_rep (n : Nat) : sqF (List.replicate n 32) = [] := by
  unfold sqF
  rw [List.filter_eq_nil_iff.mpr fun c hc => ?_]
  · rfl
  · rw [List.eq_of_mem_replicate hc]; decide
theorem sq_turn {count j : Nat} {u : List Nat} (h : OkU j u) : sqF (padL count j (seenF count j u)) = greatF count j u := by
  have hu := okU_sgn h
  unfold padL seenF bodyF tailC greatF
  by_cases hj : j < count
  · simp only [if_pos hj]
    rw [sqF_append, sqF_rep, List.append_nil, List.take_append, sqF_append, sqF_u fun c hc => hu c (List.mem_of_mem_take hc), List.map_take]
    have : ∀ n, sqF (([32] : List Nat).take n) = [] := fun n => by
      cases n with
      | zero => rfl
      | succ n => rw [List.take_succ_cons, List.take_nil]; rfl
    rw [this, List.append_nil]
  · simp only [if_neg hj]
    rw [sqF_u fun c hc => ?_, List.map_take, List.map_append, List.take_append, List.take_append, List.take_take, Nat.min_self, List.length_take, List.length_map]
    · congr 2
      omega
    · rcases List.mem_append.mp (List.mem_of_mem_take hc) with hc | hc
      · exact hu c hc
      · rw [List.mem_singleton.mp hc]; decide
theorem sq_whole {count : Nat} : ∀ {ts : List Tn} {j : Nat}, AllT j ts → sqF (wholeG count j ts) = toldG count j ts
  | [], _, _ => rfl
  | a :: r, j, ⟨h1, h2⟩ => by
    show sqF (padL count j (seenF count j a.1) ++ wholeG count (j + 1) r) = greatF count j a.1 ++ toldG count (j + 1) r
    rw [sqF_append, sq_turn h1.u, sq_whole h2]
/- the cards -/
def cardsN (n : Nat) (R : List Str) : List CV := (((R.zipIdx n).map (fun p => (p.2, p.1))).filter (fun p => !isCom p.2)).map cardOf
theorem cardsN_one (R : List Str) : cardsGo (cardNo R) = cardsN 1 R := rfl
theorem cardsN_append (n : Nat) (A B : List Str) : cardsN n (A ++ B) = cardsN n A ++ cardsN (n + A.length) B := by
  unfold cardsN; rw [List.zipIdx_append]; simp
theorem cardsN_com {n : Nat} {r : Str} {R : List Str} (h : isCom r = true) : cardsN n (r :: R) = cardsN (n + 1) R := by unfold cardsN; simp [h]
theorem cardsN_row {n : Nat} {r : Str} {R : List Str} (h : isCom r = false) : cardsN n (r :: R) = cardOf (n, r) :: cardsN (n + 1) R := by unfold cardsN; simp [h]
theorem cardsN_coms {n : Nat} : ∀ {R : List Str}, (∀ r ∈ R, isCom r = true) → cardsN n R = []
  | [], _ => rfl
  | a :: r, h => by rw [cardsN_com (h a (List.mem_cons_self ..))]; exact cardsN_coms fun q hq => h q (List.mem_cons_of_mem _ hq)
def fiveF (lb : List Nat) (j : Nat) : List Nat := if j = 0 then lb else [32, 32, 32, 32, 32]
def cvG (lb : List Nat) (count gap : Nat) : Nat → Nat → List Tn → List CV
  | _, _, [] => []
  | n, j, t :: r => ⟨n + (if j = gap then 1 else 0), tx (fiveF lb j), tx [t.2], tx (seenF count j t.1)⟩ :: cvG lb count gap (n + (if j = gap then 1 else 0) + 1) (j + 1) r
def LbOk (lb : List Nat) : Prop := ∃ d a, lb = d :: a ∧ lb.length = 5 ∧ isD d = true
theorem okM_1 {j m : Nat} (hj : j ≠ 0) (h : okM j m = true) : m ≠ 32 ∧ m ≠ 48 ∧ m ≠ 10 := by
  unfold okM at h
  rw [if_neg hj, decide_eq_true_eq] at h
  exact (by decide : ∀ m ∈ [43, 49, 65, 39, 42, 57, 90, 122, 41, 38], m ≠ 32 ∧ m ≠ 48 ∧ m ≠ 10) m h
theorem okM_0 {m : Nat} (h : okM 0 m = true) : m = 32 ∨ m = 48 := by
  unfold okM at h
  rwa [if_pos rfl, decide_eq_true_eq] at h
theorem five_len {lb : List Nat} (hl : LbOk lb) (j : Nat) : (fiveF lb j).length = 5 := by
  obtain ⟨d, a, rfl, h, _⟩ := hl
  unfold fiveF
  split
  · exact h
  · rfl
theorem rowF_eq (lb : List Nat) (count j : Nat) (t : Tn) : rowF lb count j t = tx (fiveF lb j ++ t.2 :: bodyF count j t.1) := rfl
theorem rowF_nc {lb : List Nat} {count j : Nat} {t : Tn} (hl : LbOk lb) (ht : OkT j t) : isCom (rowF lb count j t) = false := by
  rw [rowF_eq]
  by_cases hj : j = 0
  · obtain ⟨d, a, rfl, h, hd⟩ := hl
    subst hj
    unfold fiveF
    rw [if_pos rfl]
    unfold isD at hd
    rw [decide_eq_true_eq] at hd
    exact row_nc h (by omega) (by omega) (by omega) ⟨d, by simp, by omega⟩
  · unfold fiveF
    rw [if_neg hj]
    exact row_nc rfl (by decide) (by decide) (by decide) ⟨t.2, by simp, (okM_1 hj ht.m).1⟩
theorem rowF_card {lb : List Nat} {count j n : Nat} {t : Tn} (hl : LbOk lb) : cardOf (n, rowF lb count j t) = ⟨n, tx (fiveF lb j), tx [t.2], tx (seenF count j t.1)⟩ := by
  rw [rowF_eq, card_row (five_len hl j)]; rfl
theorem more_com : isCom more = true := by decide +kernel
theorem cards_rows {lb : List Nat} {count gap : Nat} (hl : LbOk lb) : ∀ {ts : List Tn} {n j : Nat}, AllT j ts → cardsN n (rowsG lb count gap j ts) = cvG lb count gap n j ts
  | [], _, _, _ => rfl
  | t :: r, n, j, ⟨h1, h2⟩ => by
    show cardsN n ((if j = gap then [more] else []) ++ rowF lb count j t :: rowsG lb count gap (j + 1) r) = ⟨n + (if j = gap then 1 else 0), _, _, _⟩ :: cvG lb count gap (n + (if j = gap then 1 else 0) + 1) (j + 1) r
    by_cases hg : j = gap
    · rw [if_pos hg, if_pos hg, List.singleton_append, cardsN_com more_com, cardsN_row (rowF_nc hl h1), cards_rows hl h2, rowF_card hl]
    · rw [if_neg hg, if_neg hg, List.nil_append, cardsN_row (rowF_nc hl h1), cards_rows hl h2, rowF_card hl]; rfl
theorem rowsG_length {lb : List Nat} {count gap j : Nat} {t : Tn} {r : List Tn} : (rowsG lb count gap j (t :: r)).length = (if j = gap then 1 else 0) + 1 + (rowsG lb count gap (j + 1) r).length := by
  show ((if j = gap then [more] else []) ++ rowF lb count j t :: rowsG lb count gap (j + 1) r).length = _
  rw [List.length_append, List.length_cons]
  split <;> simp <;> omega
theorem cvG_append {lb : List Nat} {count gap : Nat} : ∀ {a b : List Tn} {n j : Nat}, cvG lb count gap n j (a ++ b) = cvG lb count gap n j a ++ cvG lb count gap (n + (rowsG lb count gap j a).length) (j + a.length) b
  | [], b, n, j => rfl
  | t :: a, b, n, j => by
    show _ :: cvG lb count gap (n + (if j = gap then 1 else 0) + 1) (j + 1) (a ++ b) = _ :: cvG lb count gap (n + (if j = gap then 1 else 0) + 1) (j + 1) a ++ _
    rw [cvG_append, rowsG_length, List.length_cons, show n + ((if j = gap then 1 else 0) + 1 + (rowsG lb count gap (j + 1) a).length) = n + (if j = gap then 1 else 0) + 1 + (rowsG lb count gap (j + 1) a).length from by omega, show j + (a.length + 1) = j + 1 + a.length from by omega]
    rfl
theorem cvG_length {lb : List Nat} {count gap : Nat} : ∀ {ts : List Tn} {n j : Nat}, (cvG lb count gap n j ts).length = ts.length
  | [], _, _ => rfl
  | t :: r, n, j => congrArg (· + 1) (cvG_length (ts := r))
theorem seen_len (count j : Nat) (u : List Nat) : (seenF count j u).length ≤ 66 := by unfold seenF; rw [List.length_take]; omega
theorem cvG_body {lb : List Nat} {count gap : Nat} : ∀ {ts : List Tn} {n j : Nat}, ∀ v ∈ cvG lb count gap n j ts, v.body.length ≤ 66
  | t :: r, n, j, v, hv => by
    rcases List.mem_cons.mp (show v ∈ _ :: cvG lb count gap _ (j + 1) r from hv) with rfl | hv
    · show (tx (seenF count j t.1)).length ≤ 66
      rw [len_tx]; exact seen_len ..
    · exact cvG_body v hv
theorem wb_five : (wbF (tx [32, 32, 32, 32, 32])).length = 0 := by decide +kernel
theorem cvG_cont {lb : List Nat} {count gap : Nat} : ∀ {ts : List Tn} {n j : Nat}, j ≠ 0 → AllT j ts → ∀ v ∈ cvG lb count gap n j ts, isCont v = true ∧ v.label.length ≤ 100000 ∧ (wbF v.label).length = 0
  | t :: r, n, j, hj, ⟨h1, h2⟩, v, hv => by
    rcases List.mem_cons.mp (show v ∈ _ :: cvG lb count gap _ (j + 1) r from hv) with rfl | hv
    · obtain ⟨m1, m2, _⟩ := okM_1 hj h1.m
      have e : fiveF lb j = [32, 32, 32, 32, 32] := if_neg hj
      have q (k : Nat) (h : t.2 ≠ k) : ((tx [t.2]) != (tx [k])) = true := bne_iff_ne.mpr fun e => h (List.cons.inj (tx_inj e)).1
      refine ⟨?_, ?_, ?_⟩
      · show (if (tx [t.2] != Str.ofString " ") = true then tx [t.2] != Str.ofString "0" else false) = true
        rw [show Str.ofString " " = tx [32] from by decide +kernel, show Str.ofString "0" = tx [48] from by decide +kernel, if_pos (q _ m1), q _ m2]
      · show (tx (fiveF lb j)).length ≤ _
        rw [e]; decide
      · show (wbF (tx (fiveF lb j))).length = 0
        rw [e]; exact wb_five
    · exact cvG_cont (Nat.succ_ne_zero j) h2 v hv
theorem join_cv {lb : List Nat} {count gap : Nat} : ∀ {ts : List Tn} {n j : Nat} {acc : Str}, ts ≠ [] → j + ts.length = count + 1 → joinGo ((cvG lb count gap n j ts).map CV.body) acc = acc ++ tx (wholeG count j ts)
  | [], _, _, _, h, _ => absurd rfl h
  | [t], n, j, acc, _, hj => by
    rw [List.length_singleton] at hj
    show acc ++ tx (seenF count j t.1) = acc ++ tx (padL count j (seenF count j t.1) ++ [])
    rw [List.append_nil]
    unfold padL
    rw [if_neg (by omega)]
  | t :: t' :: r, n, j, acc, _, hj => by
    have ih := join_cv (lb := lb) (count := count) (gap := gap) (ts := t' :: r) (n := n + (if j = gap then 1 else 0) + 1) (j := j + 1) (acc := acc ++ padF (tx (seenF count j t.1))) (List.cons_ne_nil _ _) (by simp only [List.length_cons] at hj ⊢; omega)
    show joinGo ((cvG lb count gap (n + (if j = gap then 1 else 0) + 1) (j + 1) (t' :: r)).map CV.body) (acc ++ padF (tx (seenF count j t.1))) = _
    rw [ih]
    show _ = acc ++ tx (padL count j (seenF count j t.1) ++ wholeG count (j + 1) (t' :: r))
    have e : padF (tx (seenF count j t.1)) = tx (padL count j (seenF count j t.1)) := by
      rw [padF_eq, sg_tx, len_tx]
      unfold padL
      rw [if_pos (by simp only [List.length_cons] at hj; omega)]
    rw [e, ← tx_sg acc, tx_append, tx_append, tx_append, List.append_assoc]

end

-- text PL10
section
set_option maxRecDepth 100000
theorem jn_len {c B : Nat} : ∀ {R : List (List Nat)}, (∀ x ∈ R, x.length ≤ B) → (jn c R).length ≤ (B + 1) * R.length
  | [], _ => Nat.zero_le _
  | [x], h => by
    show x.length ≤ _
    have := h x (List.mem_cons_self ..)
    rw [List.length_singleton]; omega
  | x :: y :: r, h => by
    show (x ++ c :: jn c (y :: r)).length ≤ (B + 1) * ((y :: r).length + 1)
    have ih := jn_len (c := c) (R := y :: r) fun q hq => h q (List.mem_cons_of_mem _ hq)
    have := h x (List.mem_cons_self ..)
    rw [List.length_append, List.length_cons, Nat.mul_succ]; omega
theorem join_len {B : Nat} {R : List Str} (h : ∀ x ∈ R, x.length ≤ B) : (Txt.join (Str.ofString "\n") R).length ≤ (B + 1) * R.length := by
  have e3 : Txt.join (Str.ofString "\n") R = Str.join ⟨#[10]⟩ R := by rw [show Str.ofString "\n" = ⟨#[10]⟩ from by decide +kernel]; exact StrLaws.glued_eq_join _ _
  rw [e3, ← len_sg, sg_join]
  have := jn_len (c := 10) (B := B) (R := R.map sg) fun x hx => by
    obtain ⟨p, hp, rfl⟩ := List.mem_map.mp hx
    rw [len_sg]; exact h p hp
  rwa [List.length_map] at this
abbrev heads : List Str := [Str.ofString "C", Str.ofString "*", Str.ofString ""]
abbrev endRow : Str := Str.ofString "      END"
theorem heads_com : ∀ p ∈ heads, isCom p = true := by decide +kernel
theorem heads_10 : ∀ p ∈ heads, 10 ∉ sg p := by decide +kernel
theorem heads_len : ∀ p ∈ heads, p.length ≤ 1 := by decide +kernel
theorem end_nc : isCom endRow = false := by decide +kernel
theorem end_six : 6 ≤ (Txt.slice endRow none (some 72)).length := by decide +kernel
theorem end_len : endRow.length ≤ 100 := by decide +kernel
def endV (n : Nat) : CV := ⟨n, Str.ofString "     ", Str.ofString " ", Str.ofString "END"⟩
theorem end_card (n : Nat) : cardOf (n, endRow) = endV n := by
  unfold cardOf endV
  have h1 : Txt.slice (Txt.slice endRow none (some 72)) none (some 5) = Str.ofString "     " := by decide +kernel
  have h2 : Txt.item (Txt.slice endRow none (some 72)) 5 = Str.ofString " " := by decide +kernel
  have h3 : Txt.slice (Txt.slice endRow none (some 72)) (some 6) none = Str.ofString "END" := by decide +kernel
  dsimp only
  rw [h1, h2, h3]
theorem lb_ok {lab : Nat} (h : (lab : Int) < 99999) : LbOk (lbF lab) := by
  have h1 := dg_pos lab
  have h2 := dg_dig lab
  have e := lbF_eq lab
  have h5 := lbF_len h
  cases hd : dg lab with
  | nil => rw [hd] at h1; exact absurd h1 (by decide)
  | cons d r =>
    rw [hd] at e h2
    exact ⟨d, _, e, h5, h2 d (List.mem_cons_self ..)⟩
theorem five_10 {lab : Nat} (j : Nat) : 10 ∉ fiveF (lbF lab) j := by
  unfold fiveF
  split
  · intro h
    rcases lbF_sgn lab 10 h with h | h
    · exact absurd h (by decide)
    · exact absurd h (by decide)
  · decide
theorem row_10 {lab count j : Nat} {t : Tn} (ht : OkT j t) : 10 ∉ sg (rowF (lbF lab) count j t) := by
  rw [rowF_eq, sg_tx]
  intro h
  rcases List.mem_append.mp h with h | h
  · exact five_10 j h
  · rcases List.mem_cons.mp h with h | h
    · by_cases hj : j = 0
      · subst hj
        rcases okM_0 ht.m with q | q <;> omega
      · exact (okM_1 hj ht.m).2.2 h.symm
    · rcases List.mem_append.mp h with h | h
      · exact (okS_ne (okU_sgn ht.u 10 h)).1 rfl
      · rcases tail_or count j with q | q
        · rw [q] at h; exact absurd h (by decide)
        · rw [← List.mem_singleton.mp h] at q
          exact (okS_ne q).1 rfl
theorem row_short {lab count j : Nat} {t : Tn} (hl : LbOk (lbF lab)) (ht : OkT j t) : (rowF (lbF lab) count j t).length ≤ 100 := by
  rw [rowF_eq, len_tx, List.length_append, five_len hl, List.length_cons]
  unfold bodyF
  have := ht.u.len
  rw [List.length_append, List.length_singleton]; omega
theorem rows_all {lb : List Nat} {count gap : Nat} {p : Str → Prop} (hm : p more) : ∀ {ts : List Tn} {j : Nat}, (∀ j t, OkT j t → p (rowF lb count j t)) → AllT j ts → ∀ x ∈ rowsG lb count gap j ts, p x
  | [], _, _, _, x, hx => nomatch hx
  | t :: r, j, h, ⟨h1, h2⟩, x, hx => by
    rcases List.mem_append.mp (show x ∈ (if j = gap then [more] else []) ++ rowF lb count j t :: rowsG lb count gap (j + 1) r from hx) with hx | hx
    · split at hx
      · rw [List.mem_singleton.mp hx]; exact hm
      · cases hx
    · rcases List.mem_cons.mp hx with rfl | hx
      · exact h j t h1
      · exact rows_all hm h h2 x hx
/-- what the joined text must be -/
structure TextOk (x : Str) (R : List Str) : Prop where
  split : Txt.split x (Str.ofString "\n") = R ++ [Str.ofString ""]
  len : x.length ≤ 100000
  rows : R.length ≤ 1000
  each : ∀ r ∈ R, r.length ≤ 100000 ∧ (isCom r = false → 6 ≤ (Txt.slice r none (some 72)).length)
theorem text_ok {lab count gap : Nat} {P : List Str} {ts : List Tn} (hlab : (lab : Int) < 99999) (hP : ∀ p ∈ P, p ∈ heads) (hP3 : P.length ≤ 3) (hts : ts.length ≤ 22) (h0 : ts ≠ []) (hT : AllT 0 ts) :
    TextOk (Txt.join (Str.ofString "\n") (P ++ rowsG (lbF lab) count gap 0 ts) ++ Str.ofString "\n      END\n") ((P ++ rowsG (lbF lab) count gap 0 ts) ++ [endRow]) := by
  have hl := lb_ok hlab
  have hrl := rowsG_len (lb := lbF lab) (count := count) (gap := gap) (ts := ts) (j := 0)
  have hlen : (P ++ rowsG (lbF lab) count gap 0 ts).length ≤ 50 := by rw [List.length_append]; omega
  have hsh : ∀ x ∈ P ++ rowsG (lbF lab) count gap 0 ts, x.length ≤ 100 := fun x hx => by
    rcases List.mem_append.mp hx with hx | hx
    · exact Nat.le_trans (heads_len x (hP x hx)) (by decide)
    · exact rows_all (p := fun x => x.length ≤ 100) (by decide +kernel) (fun j t h => row_short hl h) hT x hx
  refine ⟨told_split (fun q => h0 ?_) (fun x hx => ?_), ?_, ?_, fun x hx => ?_⟩
  · have := (List.append_eq_nil_iff.mp q).2
    cases ts with
    | nil => rfl
    | cons t r => exact absurd (congrArg List.length this) (by rw [rowsG_length, List.length_nil]; omega)
  · rcases List.mem_append.mp hx with hx | hx
    · exact heads_10 x (hP x hx)
    · exact rows_all (p := fun x => 10 ∉ sg x) (by decide +kernel) (fun j t h => row_10 h) hT x hx
  · have h1 := join_len hsh
    have h2 : (Str.ofString "\n      END\n").length ≤ 20 := by decide +kernel
    have h3 : (100 + 1) * (P ++ rowsG (lbF lab) count gap 0 ts).length ≤ (100 + 1) * 50 := Nat.mul_le_mul_left _ hlen
    rw [PySem.Str.length_append]; omega
  · rw [List.length_append, List.length_singleton]; omega
  · rcases List.mem_append.mp hx with hx | hx
    · refine ⟨Nat.le_trans (hsh x hx) (by decide), fun hc => ?_⟩
      rcases List.mem_append.mp hx with hx | hx
      · rw [heads_com x (hP x hx)] at hc; cases hc
      · exact rows_all (p := fun x => isCom x = false → 6 ≤ (Txt.slice x none (some 72)).length) (fun q => by rw [more_com] at q; cases q) (fun j t h _ => by rw [rowF_eq]; exact row_len (five_len hl j)) hT x hx hc
    · rw [List.mem_singleton.mp hx]
      exact ⟨by decide +kernel, fun _ => end_six⟩
theorem cards_all {lab count gap : Nat} {P : List Str} {ts : List Tn} (hlab : (lab : Int) < 99999) (hP : ∀ p ∈ P, p ∈ heads) (hT : AllT 0 ts) :
    cardsGo (cardNo ((P ++ rowsG (lbF lab) count gap 0 ts) ++ [endRow])) = cvG (lbF lab) count gap (1 + P.length) 0 ts ++ [endV (1 + (P ++ rowsG (lbF lab) count gap 0 ts).length)] := by
  rw [cardsN_one, cardsN_append, cardsN_append, cardsN_coms fun r hr => heads_com r (hP r hr), List.nil_append, cards_rows (lb_ok hlab) hT, cardsN_row end_nc, end_card]; rfl
theorem has_61 {count : Nat} {u : List Nat} (h : OkU 0 u) : 61 ∈ seenF count 0 u := by
  obtain ⟨⟨nm, ext, rfl, _, _, h4⟩, _⟩ := h
  unfold seenF bodyF
  rw [if_pos rfl, List.append_assoc, List.take_append, List.cons_append, show 66 - nm.length = (65 - nm.length) + 1 from Nat.succ_sub (by omega), List.take_succ_cons]
  simp
theorem wb_61 {l : List Nat} (h : 61 ∈ l) : 0 < (wbF (tx l)).length ∧ (wbF (tx l) == Str.ofString "END") = false := by
  have hm : 61 ∈ l.filter (· != 32) := List.mem_filter.mpr ⟨h, by decide⟩
  refine ⟨?_, ?_⟩
  · unfold wbF
    rw [len_tx, sg_tx]
    exact List.length_pos_of_mem hm
  · rw [show Str.ofString "END" = tx [69, 78, 68] from by decide +kernel]
    refine beq_eq_false_iff_ne.mpr fun q => ?_
    unfold wbF at q
    rw [sg_tx] at q
    have := tx_inj q
    rw [this] at hm
    exact absurd hm (by decide)
theorem whole_61 {count : Nat} {t : Tn} {r : List Tn} (h : OkU 0 t.1) : 61 ∈ wholeG count 0 (t :: r) := by
  have := has_61 (count := count) h
  refine List.mem_append_left _ (?_ : 61 ∈ padL count 0 (seenF count 0 t.1))
  unfold padL
  split
  · exact List.mem_append_left _ this
  · exact this
theorem cont_0 {n m : Nat} {a b : Str} (h : okM 0 m = true) : isCont ⟨n, a, tx [m], b⟩ = false := by
  have e1 : Str.ofString " " = tx [32] := by decide +kernel
  have e2 : Str.ofString "0" = tx [48] := by decide +kernel
  show (if (tx [m] != Str.ofString " ") = true then tx [m] != Str.ofString "0" else false) = false
  rw [e1, e2]
  rcases okM_0 h with rfl | rfl
  · decide +kernel
  · decide +kernel
theorem lab_r0 {lab : Nat} (hlab : (lab : Int) < 99999) : (tx (lbF lab)).length ≤ 100000 ∧ (∀ c ∈ sg (wbF (tx (lbF lab))), isD c = true) ∧ (0 < (wbF (tx (lbF lab))).length → labF (sg (wbF (tx (lbF lab)))) ≠ 0) ∧ labF (sg (wbF (tx (lbF lab)))) = 1 + lab := by
  have e : sg (wbF (tx (lbF lab))) = dg lab := by unfold wbF; rw [sg_tx, sg_tx, lbF_wb]
  rw [e]
  refine ⟨?_, dg_dig lab, fun _ => ?_, dg_lab lab⟩
  · rw [len_tx, lbF_len hlab]; decide
  · rw [dg_lab]; omega
theorem endV_cont (n : Nat) : isCont (endV n) = false := (by decide +kernel : (if (Str.ofString " " != Str.ofString " ") = true then (Str.ofString " " != Str.ofString "0") else false) = false)
theorem endV_lab (n : Nat) : (endV n).label.length ≤ 100000 ∧ (∀ c ∈ sg (wbF (endV n).label), isD c = true) ∧ (0 < (wbF (endV n).label).length → labF (sg (wbF (endV n).label)) ≠ 0) :=
  (by decide +kernel : (Str.ofString "     ").length ≤ 100000 ∧ (∀ c ∈ sg (wbF (Str.ofString "     ")), isD c = true) ∧ (0 < (wbF (Str.ofString "     ")).length → labF (sg (wbF (Str.ofString "     "))) ≠ 0))
theorem endV_lab0 (n : Nat) : labF (sg (wbF (endV n).label)) = 0 := (by decide +kernel : labF (sg (wbF (Str.ofString "     "))) = 0)
theorem endV_join (n : Nat) : joinF ([endV n].map CV.body) = Str.ofString "END" := (by decide +kernel : joinF [Str.ofString "END"] = Str.ofString "END")
theorem endV_j1 (n : Nat) : 0 < (wbF (joinF [(endV n).body])).length := (by decide +kernel : 0 < (wbF (joinF [Str.ofString "END"])).length)
theorem endV_body (n : Nat) : (endV n).body.length ≤ 66 := (by decide +kernel : (Str.ofString "END").length ≤ 66)
theorem good_ok {lab count gap : Nat} {P : List Str} {ts : List Tn} (hlab : (lab : Int) < 99999) (hP : ∀ p ∈ P, p ∈ heads) (hc : count ≤ 19) (hts : ts.length = count + 1) (hT : AllT 0 ts) :
    ∃ v0 v1 kv, cardsGo (cardNo ((P ++ rowsG (lbF lab) count gap 0 ts) ++ [endRow])) = v0 :: (kv ++ [v1]) ∧ Good v0 v1 kv ∧ v0.n = P.length + 1 + (if 0 = gap then 1 else 0) ∧ labF (sg (wbF v0.label)) = 1 + lab ∧ joinF ((v0 :: kv).map CV.body) = tx (wholeG count 0 ts) ∧
      v1.n = (P ++ rowsG (lbF lab) count gap 0 ts).length + 1 ∧ labF (sg (wbF v1.label)) = 0 ∧ joinF ([v1].map CV.body) = Str.ofString "END" := by
  cases ts with
  | nil => cases hts
  | cons t r =>
    have hT' := hT
    obtain ⟨h1, h2⟩ := hT'
    obtain ⟨l1, l2, l3, l4⟩ := lab_r0 hlab
    have hj : joinF ((cvG (lbF lab) count gap (1 + P.length) 0 (t :: r)).map CV.body) = tx (wholeG count 0 (t :: r)) := by
      unfold joinF
      rw [join_cv (List.cons_ne_nil _ _) (by omega), show Str.ofString "" = tx [] from by decide +kernel, tx_append]; rfl
    have h61 := wb_61 (whole_61 (count := count) (r := r) h1.u)
    refine ⟨_, _, _, cards_all hlab hP hT, ⟨?_, cont_0 h1.m, endV_cont _, cvG_cont (Nat.succ_ne_zero 0) h2, fun v hv => ?_, ⟨l1, l2, l3⟩, endV_lab _, (wb_61 (has_61 h1.u)).2, ?_, fun _ => ?_, endV_j1 _⟩, ?_, l4, hj, ?_, endV_lab0 _, endV_join _⟩
    · show (cvG _ _ _ _ _ r).length ≤ 19
      rw [cvG_length]; rw [List.length_cons] at hts; omega
    · rw [← List.cons_append] at hv
      rcases List.mem_append.mp hv with hv | hv
      · exact cvG_body (ts := t :: r) v hv
      · rw [List.mem_singleton.mp hv]; exact endV_body _
    · exact hj ▸ h61.1
    · exact hj ▸ h61.2
    · show 1 + P.length + _ = _
      omega
    · show 1 + _ = _
      omega
theorem bad_ok {lab count gap : Nat} {P : List Str} {ts : List Tn} (hlab : (lab : Int) < 99999) (hP : ∀ p ∈ P, p ∈ heads) (hc : 19 < count) (hc2 : count ≤ 21) (hts : ts.length = count + 1) (hT : AllT 0 ts) :
    ∃ v0 vk kv rv, cardsGo (cardNo ((P ++ rowsG (lbF lab) count gap 0 ts) ++ [endRow])) = v0 :: (kv ++ vk :: rv) ∧ rv.length ≤ 1000 ∧ Bad v0 vk kv rv ∧ vk.n = lastF (lbF lab) count gap P ts := by
  have hs : ∃ t a b r, ts = t :: (a ++ b :: r) ∧ a.length = 19 := by
    cases ts with
    | nil => cases hts
    | cons t q =>
      rw [List.length_cons] at hts
      refine ⟨t, q.take 19, q[19]'(by omega), q.drop 20, ?_, by rw [List.length_take]; omega⟩
      rw [← List.drop_eq_getElem_cons (by omega), List.take_append_drop]
  obtain ⟨t, a, b, r, rfl, ha⟩ := hs
  have hT' := hT
  obtain ⟨h1, h2⟩ := hT'
  obtain ⟨l1, l2, l3, l4⟩ := lab_r0 hlab
  have hcv : cvG (lbF lab) count gap (1 + P.length) 0 (t :: (a ++ b :: r)) = ⟨1 + P.length + (if 0 = gap then 1 else 0), tx (lbF lab), tx [t.2], tx (seenF count 0 t.1)⟩ :: (cvG (lbF lab) count gap (1 + P.length + (if 0 = gap then 1 else 0) + 1) 1 a ++ cvG (lbF lab) count gap (1 + P.length + (if 0 = gap then 1 else 0) + 1 + (rowsG (lbF lab) count gap 1 a).length) 20 (b :: r)) := by
    have := cvG_append (lb := lbF lab) (count := count) (gap := gap) (a := a) (b := b :: r) (n := 1 + P.length + (if 0 = gap then 1 else 0) + 1) (j := 1)
    rw [ha] at this
    exact congrArg _ this
  have hall := cvG_cont (lb := lbF lab) (count := count) (gap := gap) (n := 1 + P.length + (if 0 = gap then 1 else 0) + 1) (Nat.succ_ne_zero 0) h2
  have hsp := cvG_append (lb := lbF lab) (count := count) (gap := gap) (a := a) (b := b :: r) (n := 1 + P.length + (if 0 = gap then 1 else 0) + 1) (j := 1)
  rw [ha] at hsp
  rw [hsp] at hall
  have hca := cards_all (count := count) (gap := gap) hlab hP hT
  rw [hcv, List.cons_append] at hca
  have hca := hca.trans (congrArg (List.cons _) (List.append_assoc ..))
  refine ⟨_, ⟨1 + P.length + (if 0 = gap then 1 else 0) + 1 + (rowsG (lbF lab) count gap 1 a).length + (if 20 = gap then 1 else 0), tx (fiveF (lbF lab) 20), tx [b.2], tx (seenF count 20 b.1)⟩, _, cvG (lbF lab) count gap (1 + P.length + (if 0 = gap then 1 else 0) + 1 + (rowsG (lbF lab) count gap 1 a).length + (if 20 = gap then 1 else 0) + 1) 21 r ++ [endV _], hca, ?_, ⟨?_, cont_0 h1.m, fun v hv => hall v ?_, ?_, ⟨l1, l2, l3⟩, (wb_61 (has_61 h1.u)).2⟩, ?_⟩
  · rw [List.length_append, cvG_length, List.length_singleton]
    simp only [List.length_cons, List.length_append] at hts; omega
  · rw [cvG_length, ha]
  · rcases List.mem_append.mp hv with hv | hv
    · exact List.mem_append_left _ hv
    · rw [List.mem_singleton.mp hv]; exact List.mem_append_right _ (List.mem_cons_self ..)
  · show (tx (seenF count 0 t.1)).length ≤ 66
    rw [len_tx]; exact seen_len ..
  · show 1 + P.length + (if 0 = gap then 1 else 0) + 1 + (rowsG (lbF lab) count gap 1 a).length + (if 20 = gap then 1 else 0) = _
    unfold lastF
    have e : (t :: (a ++ b :: r)).take 21 = t :: (a ++ [b]) := by
      rw [List.take_succ_cons, List.take_append, ha, List.take_of_length_le (by omega)]; rfl
    have h21 : 21 ≤ (t :: (a ++ b :: r)).length := by simp only [List.length_cons, List.length_append]; omega
    rw [if_pos h21, e, List.length_append, rowsG_length, rowsG_snoc, List.length_append, List.length_append, ha]
    by_cases hg : 20 = gap
    · rw [if_pos hg, if_pos (show 0 + 1 + 19 = gap from hg)]
      simp only [List.length_cons, List.length_nil, Nat.zero_add]; omega
    · rw [if_neg hg, if_neg (show ¬ 0 + 1 + 19 = gap from hg)]
      simp only [List.length_cons, List.length_nil, Nat.zero_add]; omega

end

-- text PL11
section
set_option maxRecDepth 100000
def okT (c : Nat) : Bool := isL c || isD c || decide (c = 43) || decide (c = 46)
theorem okT_ne {c : Nat} (h : okT c = true) : c ≠ 39 ∧ c ≠ 40 ∧ c ≠ 41 ∧ c ≠ 44 ∧ c ≠ 61 := by
  exact ⟨ne_by 39 h rfl, ne_by 40 h rfl, ne_by 41 h rfl, ne_by 44 h rfl, ne_by 61 h rfl⟩
theorem cap_S {c : Nat} (h : okS c = true) (h61 : c ≠ 61) : okT (capN c) = true := by
  exact (by decide +kernel : ∀ c, c < 128 → okS c = true → c ≠ 61 → okT (capN c) = true) c (okS_lt h) h h61
theorem cap_LS {c : Nat} (h : isLS c = true) : isL (capN c) = true := by
  exact (by decide +kernel : ∀ c, c < 128 → isLS c = true → isL (capN c) = true) c (okS_lt (by unfold isLS at h; unfold okS isLSD; rw [h]; rfl)) h
theorem cap_LSD {c : Nat} (h : isLSD c = true) : isLD (capN c) = true := by
  exact (by decide +kernel : ∀ c, c < 128 → isLSD c = true → isLD (capN c) = true) c (okS_lt (by unfold okS; rw [h]; rfl)) h
theorem flat_fold : ∀ {l : List Nat}, (∀ c ∈ l, okT c = true ∨ c = 61) → ∀ (ds : List Int), l.foldl dstep (ds, 0, false) = (ds ++ List.replicate l.length 0, 0, false)
  | [], _, ds => by simp
  | c :: r, h, ds => by
    have hc : c ≠ 39 ∧ c ≠ 40 ∧ c ≠ 41 := by
      rcases h c (List.mem_cons_self ..) with q | q
      · obtain ⟨a, b, d, _⟩ := okT_ne q; exact ⟨a, b, d⟩
      · omega
    have e : dstep (ds, 0, false) c = (ds ++ [0], 0, false) := by
      unfold dstep
      rw [if_neg hc.1, if_neg (show ¬ (false = true) from by decide), if_neg (fun q => hc.2.1 q.1), if_neg (fun q => hc.2.2 q.1), if_neg hc.2.2]
    rw [List.foldl_cons, e, flat_fold (fun d hd => h d (List.mem_cons_of_mem _ hd)), List.append_assoc, List.length_cons, List.replicate_succ]; rfl
theorem flat_dfold {l : List Nat} (h : ∀ c ∈ l, okT c = true ∨ c = 61) : dfold l = (List.replicate l.length 0, 0, false) := by
  unfold dfold; rw [flat_fold h]; rfl
theorem getD_rep (n i : Nat) : (List.replicate n (0 : Int)).getD i 0 = 0 := by
  rw [List.getD_eq_getElem?_getD, List.getElem?_replicate]
  split <;> rfl
theorem eqGo_found {cs : List Nat} {m : Nat} (h44 : 44 ∉ cs) : ∀ (n i : Nat) (f : Int), 0 ≤ f → eqGo cs (List.replicate m 0) n i f = (f, false)
  | 0, _, _, _ => rfl
  | n + 1, i, f, hf => by
    have e : (if (List.replicate m (0 : Int)).getD i 0 = 0 ∧ cs[i]? = some 61 ∧ f < 0 then (i : Int) else f) = f := if_neg fun q => by omega
    unfold eqGo
    rw [e, if_neg (fun q => h44 (List.mem_of_getElem? q.2.1))]
    exact eqGo_found h44 n (i + 1) f hf
theorem eqGo_seek {a b : List Nat} {m : Nat} (h44 : 44 ∉ a ++ 61 :: b) (h61 : 61 ∉ a) : ∀ (n i : Nat), i ≤ a.length → i + n = (a ++ 61 :: b).length → eqGo (a ++ 61 :: b) (List.replicate m 0) n i (-1) = ((a.length : Int), false)
  | 0, i, h1, h2 => by rw [List.length_append, List.length_cons] at h2; omega
  | n + 1, i, h1, h2 => by
    unfold eqGo
    rcases Nat.lt_or_ge i a.length with h | h
    · have e : (if (List.replicate m (0 : Int)).getD i 0 = 0 ∧ (a ++ 61 :: b)[i]? = some 61 ∧ (-1 : Int) < 0 then (i : Int) else -1) = -1 := if_neg fun q => by
        have := q.2.1
        rw [List.getElem?_append_left h] at this
        exact h61 (List.mem_of_getElem? this)
      rw [e, if_neg (fun q => h44 (List.mem_of_getElem? q.2.1))]
      exact eqGo_seek h44 h61 n (i + 1) h (by omega)
    · have hi : i = a.length := by omega
      have e : (if (List.replicate m (0 : Int)).getD i 0 = 0 ∧ (a ++ 61 :: b)[i]? = some 61 ∧ (-1 : Int) < 0 then (i : Int) else -1) = (i : Int) := if_pos ⟨getD_rep .., by rw [hi]; simp, by decide⟩
      rw [e, if_neg (fun q => h44 (List.mem_of_getElem? q.2.1)), eqGo_found h44 n (i + 1) _ (by omega), hi]
theorem scan_all {p : Nat → Bool} : ∀ {l : List Nat}, (∀ c ∈ l, p c = true) → scan p l = l.length
  | [], _ => rfl
  | c :: r, h => by
    unfold scan
    rw [if_pos (h c (List.mem_cons_self ..)), scan_all fun d hd => h d (List.mem_cons_of_mem _ hd)]; rfl
theorem target_name {c : Nat} {r : List Nat} (h1 : isL c = true) (h2 : ∀ d ∈ r, isLD d = true) : isTarget (tx (c :: r)) = true := by
  have hc : isLD c = true := by unfold isLD; rw [h1]; rfl
  have e : nameEnd (sg (tx (c :: r))) 0 = (c :: r).length := by
    unfold nameEnd
    rw [sg_tx, if_pos (by simpa using h1), List.drop_zero, Nat.zero_add, scan_all]
    exact List.forall_mem_cons.mpr ⟨hc, h2⟩
  have n : (sg (tx (c :: r)))[(c :: r).length]? = none := by rw [sg_tx]; exact List.getElem?_eq_none (Nat.le_refl _)
  unfold isTarget
  rw [e, if_neg (by rw [List.length_cons]; omega)]
  unfold tgtGo
  rw [n, if_neg (by decide)]
  unfold tgtGo
  rw [n, if_neg (by decide)]
  unfold tgtGo
  rw [len_tx]
  exact beq_self_eq_true _
theorem assign_of {a b : List Nat} (hb : ∀ c ∈ b, okT c = true) {c : Nat} {r : List Nat} (ha : a = c :: r) (h1 : isL c = true) (h2 : ∀ d ∈ r, isLD d = true) : clsOk (tx (a ++ 61 :: b)) ∧ classifyF (tx (a ++ 61 :: b)) = Str.ofString "assign" := by
  have hLD : ∀ d ∈ a, isLD d = true := by
    rw [ha]
    refine List.forall_mem_cons.mpr ⟨by unfold isLD; rw [h1]; rfl, h2⟩
  have hA : ∀ d ∈ a, okT d = true := fun d hd => by
    have := hLD d hd
    unfold isLD at this
    unfold okT; rw [this]; rfl
  have hall : ∀ d ∈ a ++ 61 :: b, okT d = true ∨ d = 61 := fun d hd => by
    rcases List.mem_append.mp hd with hd | hd
    · exact .inl (hA d hd)
    · rcases List.mem_cons.mp hd with hd | hd
      · exact .inr hd
      · exact .inl (hb d hd)
  have h44 : 44 ∉ a ++ 61 :: b := fun q => by
    rcases hall 44 q with q | q
    · exact (okT_ne q).2.2.2.1 rfl
    · exact absurd q (by decide)
  have h61 : 61 ∉ a := fun q => (okT_ne (hA 61 q)).2.2.2.2 rfl
  have hd := flat_dfold hall
  have e : eqAt (tx (a ++ 61 :: b)) = ((a.length : Int), false) := by
    unfold eqAt depthsF
    rw [sg_tx]
    show eqGo (a ++ 61 :: b) (dfold (a ++ 61 :: b)).1 (tx (a ++ 61 :: b)).length 0 (-1) = _
    rw [hd, len_tx]
    exact eqGo_seek h44 h61 _ 0 (Nat.zero_le _) (Nat.zero_add _)
  have hb' : isBal (tx (a ++ 61 :: b)) = true := by
    rw [isBal_depth, hd]; rfl
  have hs : Txt.slice (tx (a ++ 61 :: b)) none (some (a.length : Int)) = tx a := by
    rw [slice_ns, sg_tx, List.take_append_of_le_length (Nat.le_refl _), List.take_length]
  refine ⟨fun _ q => ?_, ?_⟩
  · rw [e] at q; dsimp only at q; omega
  · unfold classifyF
    rw [if_pos hb', e, if_neg (by dsimp only; omega), if_neg (by dsimp only; decide), hs, if_pos (by rw [ha]; exact target_name h1 h2)]
theorem great_sgn {count j : Nat} {l : List Nat} (h : ∀ c ∈ l, okS c = true ∧ c ≠ 61) : ∀ c ∈ greatF count j l, okT c = true := fun c hc => by
  have key : ∀ c ∈ (l.map capN).take 66, okT c = true := fun c hc => by
    obtain ⟨d, hd, rfl⟩ := List.mem_map.mp (List.mem_of_mem_take hc)
    exact cap_S (h d hd).1 (h d hd).2
  unfold greatF at hc
  split at hc
  · exact key c hc
  · rcases List.mem_append.mp (List.mem_of_mem_take hc) with hc | hc
    · exact key c hc
    · rw [List.mem_singleton.mp hc]; decide
theorem okU_no61 {j : Nat} {u : List Nat} (hj : j ≠ 0) (h : OkU j u) : ∀ c ∈ u, okS c = true ∧ c ≠ 61 := fun c hc => by
  refine ⟨okU_sgn h c hc, ?_⟩
  obtain ⟨⟨nm, ext, rfl, ⟨d, r, rfl, h1, h2⟩, h3, _⟩, _⟩ := h
  rcases List.mem_append.mp hc with hc | hc
  · rcases List.mem_cons.mp hc with rfl | hc
    · unfold isLS isL isS at h1
      simp only [Bool.or_eq_true, decide_eq_true_eq] at h1; omega
    · have := h2 c hc
      unfold isLSD isL isS isD at this
      simp only [Bool.or_eq_true, decide_eq_true_eq] at this; omega
  · rcases List.mem_cons.mp hc with rfl | hc
    · rw [if_neg hj]; decide
    · have := h3 c hc
      unfold extOk isD at this
      simp only [Bool.or_eq_true, decide_eq_true_eq] at this; omega
theorem told_sgn {count : Nat} : ∀ {ts : List Tn} {j : Nat}, j ≠ 0 → AllT j ts → ∀ c ∈ toldG count j ts, okT c = true
  | [], _, _, _, c, hc => nomatch hc
  | t :: r, j, hj, ⟨h1, h2⟩, c, hc => by
    rcases List.mem_append.mp (show c ∈ greatF count j t.1 ++ toldG count (j + 1) r from hc) with hc | hc
    · exact great_sgn (okU_no61 hj h1.u) c hc
    · exact told_sgn (Nat.succ_ne_zero j) h2 c hc
theorem told_ok {count : Nat} {ts : List Tn} (h0 : ts ≠ []) (hT : AllT 0 ts) : clsOk (tx (toldG count 0 ts)) ∧ classifyF (tx (toldG count 0 ts)) = Str.ofString "assign" := by
  cases ts with
  | nil => exact absurd rfl h0
  | cons t r =>
    obtain ⟨h1, h2⟩ := hT
    obtain ⟨⟨nm, ext, hu, ⟨d, q, rfl, n1, n2⟩, h3, h4⟩, h5⟩ := h1.u
    rw [if_pos rfl] at hu
    have hext : ∀ c ∈ ext, okS c = true ∧ c ≠ 61 := fun c hc => by
      have := h3 c hc
      unfold extOk isD at this
      unfold okS isLSD isD
      simp only [Bool.or_eq_true, decide_eq_true_eq] at this ⊢
      omega
    have hcap : ∀ c ∈ ext.map capN, okT c = true := fun c hc => by
      obtain ⟨e, he, rfl⟩ := List.mem_map.mp hc
      exact cap_S (hext e he).1 (hext e he).2
    have e : ∃ b, greatF count 0 t.1 = (d :: q).map capN ++ 61 :: b ∧ ∀ c ∈ b, okT c = true := by
      have e1 : ((t.1.map capN).take 66) = (d :: q).map capN ++ 61 :: (ext.map capN).take (65 - (d :: q).length) := by
        rw [hu, List.map_append, List.take_append, List.length_map, List.take_of_length_le (by rw [List.length_map]; omega), show (61 :: ext).map capN = 61 :: ext.map capN from rfl, show 66 - (d :: q).length = (65 - (d :: q).length) + 1 from Nat.succ_sub (by omega), List.take_succ_cons]
      unfold greatF
      split
      · exact ⟨_, e1, fun c hc => hcap c (List.mem_of_mem_take hc)⟩
      · rw [e1, List.append_assoc, List.take_append, List.length_map, List.take_of_length_le (by rw [List.length_map]; omega), show 66 - (d :: q).length = (65 - (d :: q).length) + 1 from Nat.succ_sub (by omega), List.cons_append, List.take_succ_cons]
        refine ⟨_, rfl, fun c hc => ?_⟩
        rcases List.mem_append.mp (List.mem_of_mem_take hc) with hc | hc
        · exact hcap c (List.mem_of_mem_take hc)
        · rw [List.mem_singleton.mp hc]; decide
    obtain ⟨b, e2, e3⟩ := e
    have e4 : toldG count 0 (t :: r) = (d :: q).map capN ++ 61 :: (b ++ toldG count 1 r) := by
      show greatF count 0 t.1 ++ toldG count 1 r = _
      rw [e2, List.append_assoc]; rfl
    rw [e4]
    refine assign_of (c := capN d) (r := q.map capN) (fun c hc => ?_) rfl (cap_LS n1) (fun c hc => ?_)
    · rcases List.mem_append.mp hc with hc | hc
      · exact e3 c hc
      · exact told_sgn (Nat.succ_ne_zero 0) h2 c hc
    · obtain ⟨f, hf, rfl⟩ := List.mem_map.mp hc
      exact cap_LSD (n2 f hf)

end

-- text C23
section
/-- contract of a def that has the purse, where a callee may note frames -/
def CtrS (w : World) (d : Nat) (f pd pl : Addr) (args : List Value) (B B' : Nat) : Prop :=
  ∀ (dp un : Nat) (gd : Option (List Code)) (outer : List Env) (mean : ExcName → Option Value) (mg mb : Str → Option Value) (base : Heap) (s : Shared) (Q E : Value → Shared → Prop) (od ol : Obj),
    dp + d < 900 → un + 8 * d < 9000 → (frag.heap_1 w.params).In base → Top view LO mean mg mb base → base.StaysIn (bare s.heap pd pl) → (bare s.heap pd pl).FunFrames base outer →
    pd ≠ pl → s.heap.get? pd = some od → s.heap.get? pl = some ol → Pu w pl B od ol →
    (∀ g' h' tk od' ol', KtsTurn (frs outer) (bare s.heap pd pl) g' → (∀ b o, g'.get? b = some o → h'.get? b = some o) → h'.get? pd = some od' → h'.get? pl = some ol' → Pu w pl B' od' ol' → Q (.bool true) { s with heap := h', toks := tk }) →
    wpAny (model PG w) (AA dp un gd (some outer)) (call (.ref f) args) Q E s
inductive RetS (w : World) (outer : List Env) (s : Shared) (pd pl : Addr) (B : Nat) (fl : Flow) (s' : Shared) : Prop
  | mk (g' : _) (h' : _) (tk : _) (od' : _) (ol' : _) (q0 : fl = .ret (.bool true)) (q1 : s' = { s with heap := h', toks := tk }) (q2 : KtsTurn (frs outer) (bare s.heap pd pl) g') (q3 : (∀ b o, g'.get? b = some o → h'.get? b = some o)) (q4 : h'.get? pd = some od') (q5 : h'.get? pl = some ol') (q6 : Pu w pl B od' ol') : RetS w outer s pd pl B fl s'
theorem CtrS.enter {w : World} {d : Nat} {f pd pl : Addr} {args : List Value} {B B' : Nat}
    {name qual : Str} {params : Arguments} {body : List Stmt} {scope : Scope} {dV kV doc pm cdv ct oc : Value} {an od : Option Addr} {osl : Array (Option Value)} {lk : List (Str × Value)}
    (ho : (frag.heap_1 w.params).lookup f = some ⟨oc, od, .func (fnOf name qual params body scope dV kV doc pm an cdv ct), osl⟩)
    (hcd : codeIn (frag.heap_1 w.params) cdv qual = true)
    (hbind : bindArgs (fnOf name qual params body scope dV kV doc pm an cdv ct) ⟨args, []⟩ = pure ((params.args.map (·.arg)).zip args)) (hlk : ((params.args.map (·.arg)).zip args).reverse = lk)
    (hloc : ∀ y ∈ (params.args.map (·.arg)).zip args, scope.names.lookup y.1 = some .local)
    (hco : scope.isCoroutine = false) (hgen : scope.isGenerator = false) (hk : scope.kind = .function) (hcell : ∀ x ∈ scope.names, x.2 ≠ .cell)
    (h : ∀ (dp un : Nat) (gd : Option (List Code)) (outer : List Env) (mean : ExcName → Option Value) (mg mb : Str → Option Value) (base : Heap) (s : Shared) (L : Addr) (h₁ : Heap) (tk : Nat) (g : Heap) (od ol : Obj),
      dp + d < 900 → un + 8 * d < 9000 → (frag.heap_1 w.params).In base → Top view LO mean mg mb base → base.StaysIn g → g.FunFrames base outer → (frag.heap_1 w.params).In g → Top view LO mean mg mb g → g = bare s.heap pd pl → pd ≠ pl → Pu w pl B od ol → pd < L ∧ pl < L →
      ((params.args.map (·.arg)).zip args).length ≤ tk → Fr g L h₁ (fun y => lk.lookup y) → News g L h₁ [(pd, od), (pl, ol)] →
      wpAny (model PG w) (AA dp un gd (some (envOf qual scope L f cdv :: outer))) (execs body (envOf qual scope L f cdv)) (RetS w outer s pd pl B') (fun _ _ => False) { s with heap := h₁, toks := tk }) :
    CtrS w (d + 1) f pd pl args B B' := by
  intro dp un gd outer mean mg mb base s Q E od ol hdp hun X T hb hff hne hpd hpl hP hQ
  have kg : ∀ b o, base.get? b = some o → s.heap.get? b = some o := fun b o e => (bare_some (hb b o e)).2.2
  refine wpAny_call (codeAny_call_def (fd := fnOf name qual params body scope dV kV doc pm an cdv ct) (body := body) (binds := (params.args.map (·.arg)).zip args)
    (by show dp < 1000; omega) (kg _ _ (X _ _ ho)) rfl (T.keeps kg).nolimit (codeRec_of (X.keeps kg) hcd) rfl (.of_eq hbind) hcell hloc (fun h₁ hns hk₁ => ?_) hco hgen hk)
  rw [hlk] at hns
  have sd : pd < s.heap.objs.size := Heap.lt_size hpd
  have sl : pl < s.heap.objs.size := Heap.lt_size hpl
  refine wpAny_mono (h (dp + 1) (un + 3) gd outer mean mg mb base s s.heap.objs.size h₁ _ (bare s.heap pd pl) od ol (by omega) (by omega) X T hb hff (X.keeps hb) (T.keeps hb) rfl hne hP ⟨sd, sl⟩ (Nat.le_add_left _ _)
    ⟨hns, fun b o e => hk₁ b o (bare_some e).2.2, by rw [bare_size]; exact Nat.le_refl _⟩ (fun p hp => ?_)) (fun fl s' hr => ?_) (fun _ _ x => x.elim)
  · rcases List.mem_cons.mp hp with rfl | hp
    · exact ⟨hk₁ _ _ hpd, Nat.ne_of_lt sd, bare_pd ..⟩
    · rw [List.mem_singleton.mp hp]
      exact ⟨hk₁ _ _ hpl, Nat.ne_of_lt sl, bare_pl ..⟩
  obtain ⟨g', h', tk, od', ol', rfl, rfl, h1, h2, h3, h4, h5⟩ := hr
  exact hQ g' h' tk od' ol' h1 h2 h3 h4 h5
theorem CtrH.use {w : World} {d : Nat} {f : Addr} {args : List Value} {n : Nat} (C : CtrH w d f args n)
    {dp un : Nat} {gd : Option (List Code)} {mean : ExcName → Option Value} {mg mb : Str → Option Value} {s : Shared} {Q E : Value → Shared → Prop} {g base : Heap} {outer : List Env} {L a : Addr} {cd : Value} {name : Str} {scope : Scope} {m : Str → Option Value} {nx : List (Addr × Obj)}
    (F : Fr g L s.heap m) (N : News g L s.heap nx) (X : (frag.heap_1 w.params).In base) (T : Top view LO mean mg mb base) (hb : base.StaysIn g) (hff : g.FunFrames base outer) (hk : scope.kind = .function)
    (hdp : dp + d < 900) (hun : un + 8 * d < 9000)
    (k : ∀ t g' h' tk, KtsTurn (frs outer) g g' → (frag.heap_1 w.params).In g' → Top view LO mean mg mb g' → Fr g' L h' m → News g' L h' nx → Q (.int n t) { s with heap := h', toks := tk }) :
    wpAny (model PG w) (AA dp un gd (some (envOf name scope L a cd :: outer))) (call (.ref f) args) Q E s := by
  have hbL : base.get? L = none := by
    cases q : base.get? L with
    | none => rfl
    | some o => exact absurd (Nat.lt_of_lt_of_le (Heap.lt_size (hb _ _ q)) F.above) (Nat.lt_irrefl _)
  have hgL : g.get? L = none := by
    cases q : g.get? L with
    | none => rfl
    | some o => exact absurd (Nat.lt_of_lt_of_le (Heap.lt_size q) F.above) (Nat.lt_irrefl _)
  refine C dp un gd (envOf name scope L a cd :: outer) mean mg mb base s Q _ hdp hun X T (fun b o e => F.keep _ _ (hb _ _ e)) (.cons (by show scope.kind ≠ _; rw [hk]; decide) rfl F.ns hbL (hff.of_keeps fun b o e _ => ⟨o, F.keep _ _ e, rfl⟩)) fun t h' tk K hF => ?_
  have out : ∀ b, b ≠ L → b ∉ frs outer → b ∉ frs (envOf name scope L a cd :: outer) := fun b h1 h2 q => by
    rcases List.mem_cons.mp (show b ∈ L :: frs outer from q) with q | q
    · exact h1 q
    · exact h2 q
  have gL : ∀ b o, g.get? b = some o → b ≠ L := fun b o e q => by rw [q, hgL] at e; cases e
  obtain ⟨Tn, S⟩ := kts_turn_at (h := h') (fs := frs outer) (g := g) (fun b hb' => let ⟨_, o, ho, _⟩ := hff.mem hb'; ⟨o, ho⟩)
    (fun b o e nm => K.keep b o (F.keep b o e) (fun q => nomatch q) (out b (gL b o e) nm)) (fun b o e _ => K.slot b o (F.keep b o e) (fun q => nomatch q))
  obtain ⟨oL, es, ep, hL, hLr⟩ := id F.ns
  obtain ⟨sl, hsl⟩ := K.slot L oL hL (fun q => nomatch q)
  have kb : ∀ b o, base.get? b = some o → (ktsHeap h' (frs outer) g).get? b = some o := fun b o e => Tn.other b o (hb b o e) fun q => by rw [(hff.mem q).1] at e; cases e
  refine k t _ h' tk Tn (X.keeps kb) (T.keeps kb) ⟨⟨_, es, ep, hsl, hLr⟩, S, by rw [Tn.size]; exact F.above⟩ fun p hp => ?_
  obtain ⟨n1, n2, n3⟩ := N p hp
  refine ⟨K.keep _ _ n1 (fun q => nomatch q) (out _ n2 fun q => ?_), n2, Tn.none_ _ n3⟩
  obtain ⟨_, o, ho, _⟩ := hff.mem q
  rw [n3] at ho; cases ho
theorem reg_C23_0 : True := by
  k_with "m enterS" => (refine' CtrS.enter ?zqho ?zqhcd ?zqhb ?zqhlk ?zqhl ?zqc1 ?zqc2 ?zqc3 ?zqc4 ?_; (k_extra "m cases"))
  trivial
def cnts : List Nat := [18, 1, 0, 2, 19, 20, 21]
theorem item_cnt {prog : Program} {w : World} {A : Around} {E : Value → Shared → Prop} {s : Shared} {value slice : Expr} {l : Addr} {k : Nat} {u : Tok} {Q : Value → Shared → Prop} {a b c d e f g : Tok}
    (hl : s.heap.IsList l #[.int 18 a, .int 1 b, .int 0 c, .int 2 d, .int 19 e, .int 20 f, .int 21 g]) (hk : (k : Int) < 7) (h : ∀ n t, n ∈ cnts → Q (.int (n : Nat) t) s)
    (hs : subscripted slice false (.ref l) (.int (k : Int) u) = operate [.ref l, .int (k : Int) u] (getItem (.ref l) (.int (k : Int) u))) :
    wpAny (model prog w) A (subscriptTail value slice (.ref l) (.int (k : Int) u)) Q E s := by
  refine item_some (vs := [.int 18 a, .int 1 b, .int 0 c, .int 2 d, .int 19 e, .int 20 f, .int 21 g]) hl hk (Nat.le_of_ble_eq_true rfl) (fun v hv => ?_) hs
  have hk' : k < 7 := by omega
  have : k = 0 ∨ k = 1 ∨ k = 2 ∨ k = 3 ∨ k = 4 ∨ k = 5 ∨ k = 6 := by omega
  rcases this with rfl | rfl | rfl | rfl | rfl | rfl | rfl <;> (cases hv; exact h _ _ (by decide))
theorem reg_C23_1 : True := by
  k_with "subscriptTail" => ((with_reducible show wpAny _ _ (subscriptTail _ _ (Value.ref _) (Value.int _ _)) _ _ _); (k_dflt (refine' item_cnt (News.isList ?zqm0 ?zqm1) ?zqm2 ?_ ?zqm3; (case zqm0 => with_reducible assumption); (case zqm1 => k_mem); (case zqm2 => omega); (case zqm3 => with_unfolding_all exact rfl))); (intro _ _ _))
  k_with "subscriptTail List Slice ref ref" => refine stop_here ?_
  k_with "subscriptTail Name Slice ref ref" => refine stop_here ?_
  trivial
theorem pick3 {a b c : Value} {k : Nat} (h : k < 4) : slicePick #[a, b, c] none (some (k : Int)) none = ([a, b, c].take k).toArray := by
  have : k = 0 ∨ k = 1 ∨ k = 2 ∨ k = 3 := by omega
  rcases this with rfl | rfl | rfl | rfl <;> rfl
theorem slice3 {prog : Program} {w : World} {A : Around} {E : Value → Shared → Prop} {hp : Heap} {gs : Array GenState} {dr : Drawn} {tk : Nat} {os : OsState} {value slice : Expr} {l L : Addr} {k : Nat} {u t1 t2 t3 : Tok} {Q : Value → Shared → Prop} {x y z : Str} {h₀ : Heap} {m : Str → Option Value} {nx : List (Addr × Obj)}
    (F : Fr h₀ L hp m) (N : News h₀ L hp nx) (hl : hp.IsList l #[.str x t1, .str y t2, .str z t3]) (hk : (k : Int) < 4)
    (h : ∀ (o : Addr) h' vs, StrsAre vs ([x, y, z].take k) → vs.length ≤ 3 → Fr h₀ L h' m → News h₀ L h' ((o, listOf vs.toArray 0) :: nx) → (∀ p ∈ nx, p.1 < o) → Q (.ref o) ⟨h', gs, dr, tk, os⟩)
    (hs' : subscripted slice false (.ref l) (.ref hp.objs.size) = operate [.ref hp.objs.size, .ref l] (getItem (.ref l) (.ref hp.objs.size))) :
    wpAny (model prog w) A (subscriptTail value slice (.ref l) (.ref hp.objs.size)) Q E ⟨hp.push { cls := .type "slice", data := .fields #[.none, .int (k : Int) u, .none] }, gs, dr, tk, os⟩ := by
  have hl' := hl.push { cls := .type "slice", data := .fields #[.none, .int (k : Int) u, .none] }
  refine tail_any (Heap.IsList.typeIs (s := ⟨hp.push { cls := .type "slice", data := .fields #[.none, .int (k : Int) u, .none] }, gs, dr, tk, os⟩) hl') slot_list_getitem.lookup (wpAny_getItem_list_slice hl' (Heap.IsSliceOf.new ..) .none (.int _ _) .none (by simp) ?_ (by show 3 ≤ sizeLine; rw [sizeLine_eq]; decide)) hs'
  rw [pick3 (by omega)]
  have hk' : k = 0 ∨ k = 1 ∨ k = 2 ∨ k = 3 := by omega
  have F1 := F.push { cls := .type "slice", data := .fields #[.none, .int (k : Int) u, .none] }
  have N1 := (N.push F { cls := .type "slice", data := .fields #[.none, .int (k : Int) u, .none] })
  refine h _ _ ([Value.str x t1, .str y t2, .str z t3].take k) ?_ ?_ (F1.push _) (fun p hp' => (N1.push F1 _) p ?_) (fun p hp' => ?_)
  · rcases hk' with rfl | rfl | rfl | rfl <;> repeat constructor
  · rw [List.length_take]; exact Nat.min_le_right ..
  · rcases List.mem_cons.mp hp' with rfl | hp'
    · exact List.mem_cons_self ..
    · exact List.mem_cons_of_mem _ (List.mem_cons_of_mem _ hp')
  · rw [Heap.size_push]
    exact Nat.lt_succ_of_lt (Heap.lt_size (N p hp').1)
theorem called_use {w : World} {pd pl : Addr} {B : Nat} (hB : B ≤ 90000) {dp un : Nat} {gd : Option (List Code)} {fr : Option (List Env)} {mean : ExcName → Option Value} {mg mb : Str → Option Value} {s : Shared} {Q E : Value → Shared → Prop}
    {h₀ : Heap} {L : Addr} {m : Str → Option Value} {od ol : Obj} {p1 p2 : Addr × Obj}
    (F : Fr h₀ L s.heap m) (N : News h₀ L s.heap [p1, p2, (pd, od), (pl, ol)]) (X : (frag.heap_1 w.params).In h₀) (T : Top view LO mean mg mb h₀)
    (hdp : dp + 2 < 900) (hun : un + 16 < 9000) (hne : pd ≠ pl) (hP : Pu w pl B od ol) (h1 : p1.1 ≠ pd ∧ p1.1 ≠ pl) (h2 : p2.1 ≠ pd ∧ p2.1 ≠ pl)
    (k : ∀ (D : Addr) (a : List Nat) (t1 t2 : Tok) h' tk od' ol', Fr h₀ L h' m → News h₀ L h' [(D, { cls := .type "tuple", data := .seq #[.str (tx a) t1, .str (tx (a.map capN)) t2] }), p1, p2, (pd, od'), (pl, ol')] → Pu w pl (B + 6) od' ol' → (tx a).length ≤ 4 → (tx (a.map capN)).length ≤ 4 → Nm a → a.length ≤ 4 → D ≠ p1.1 → D ≠ p2.1 → D ≠ pd → D ≠ pl → Q (.ref D) { s with heap := h', toks := tk }) :
    wpAny (model PG w) (AA dp un gd fr) (call (.ref 380) [.ref pd]) Q E s := by
  refine CtrP.use2 (c_called w pd pl B hB) F N X T hdp hun hne hP h1 h2 fun i h' tk od' ol' F' N' P' hp => ?_
  obtain ⟨D, a, t1, t2⟩ := i
  obtain ⟨q1, q2, q3, q4, q5, q6⟩ := hp
  dsimp only at *
  have hD : ∀ p ∈ [p1, p2, (pd, od), (pl, ol)], D ≠ p.1 := fun p hp e => by rw [e, (N p hp).1] at q1; cases q1
  refine k D a t1 t2 h' tk od' ol' F' (fun p hp => ?_) P' (by rw [len_tx]; exact q4) (by rw [len_tx, List.length_map]; exact q4) q3 q4 (hD _ (by simp)) (hD _ (by simp)) q5 q6
  rcases List.mem_cons.mp hp with rfl | hp
  · refine ⟨q2, fun e => ?_, ?_⟩
    · obtain ⟨o, _, _, z, _⟩ := F.ns
      rw [← e, q1] at z; cases z
    · cases q : h₀.get? D with
      | none => rfl
      | some o => have := F.keep _ _ q; rw [q1] at this; cases this
  · exact N' p hp
theorem reg_C23_2 : True := by
  k_with "call ref" => ((with_reducible show wpAny _ _ (call (Value.ref 380) _) _ _ _); (refine' called_use ?zqb ?zqF ?zqN ?zqX ?zqT ?zqd ?zqu ?zqn ?zqP ?zqh1 ?zqh2 ?_; (k_extra "m ctrP"); (case zqb => k_extra "m nat"); (case zqh1 => k_extra "m ne2"); (case zqh2 => k_extra "m ne2")); (intro _ _ _ _ _ _ _ _ _ _ _ _ _ _ _ _ _ _ _))
  trivial
theorem item_dec {prog : Program} {w : World} {A : Around} {E : Value → Shared → Prop} {s : Shared} {value slice : Expr} {l : Addr} {y z : Value} {p : Prop} [Decidable p] {Q : Value → Shared → Prop} (hl : s.heap.IsList l #[y, z]) (h1 : p → Q z s) (h0 : ¬ p → Q y s)
    (hs : subscripted slice false (.ref l) (.bool (decide p)) = operate [.ref l, .bool (decide p)] (getItem (.ref l) (.bool (decide p)))) :
    wpAny (model prog w) A (subscriptTail value slice (.ref l) (.bool (decide p))) Q E s := by
  refine item_bool hl ?_ hs
  by_cases h : p
  · rw [if_pos (decide_eq_true h)]; exact h1 h
  · rw [if_neg (by rw [decide_eq_false h]; decide)]; exact h0 h
theorem reg_C23_3 : True := by
  k_with "subscriptTail" => ((with_reducible show wpAny _ _ (subscriptTail _ _ (Value.ref _) (Value.bool _)) _ _ _); (k_dflt (refine' item_dec (News.isList ?zqm0 ?zqm1) ?zqt1 ?zqt0 ?zqm3; (case zqm0 => with_reducible assumption); (case zqm1 => k_mem); (case zqm3 => with_unfolding_all exact rfl))); first | ((case zqt1 => (intro zhdec; exact absurd zhdec (by omega))); intro zhdec) | ((case zqt0 => (intro zhdec; exact absurd zhdec (by omega))); intro zhdec))
  k_with "subscriptTail Name Compare ref bool" => ((with_reducible show wpAny _ _ (subscriptTail _ _ (Value.ref _) (Value.bool _)) _ _ _); (k_dflt (refine' item_dec (News.isList ?zqm0 ?zqm1) ?zqt1 ?zqt0 ?zqm3; (case zqm0 => with_reducible assumption); (case zqm1 => k_mem); (case zqm3 => with_unfolding_all exact rfl))); first | ((case zqt1 => (intro zhdec; exact absurd zhdec (by omega))); intro zhdec) | ((case zqt0 => (intro zhdec; exact absurd zhdec (by omega))); intro zhdec))
  k_with "exec If" => refine stop_here ?_
  trivial
abbrev SB (pd o : Addr) (count lab np wide gap last : Nat) (W T : List Nat) (tc tb tn tw tg t1 t2 t3 : Tok) : List (Str × Value) :=
  [(Str.ofString "purse", .ref pd), (Str.ofString "count", .int count tc), (Str.ofString "label", .int (1 + (lab : Int)) tb), (Str.ofString "rows", .ref o), (Str.ofString "line", .int ((np : Int) + 1) tn), (Str.ofString "wide", .int wide tw), (Str.ofString "gap", .int gap tg),
      (Str.ofString "whole", .str (tx W) t1), (Str.ofString "told", .str (tx T) t2), (Str.ofString "last", .int last t3)]
/-- what the turns of the statement's loop keep -/
inductive SI (w : World) (pd pl : Addr) (B count lab wide gap : Nat) (P : List Str) (tc tb tn tw tg : Tok) (i : Nat) (m : Str → Option Value) (nx : List (Addr × Obj)) : Prop
  | mk (ts : List Tn) (o : Addr) (vs : List Value) (n : Nat) (od ol : Obj) (t1 t2 t3 : Tok) (q0 : nx = [(o, listOf vs.toArray n), (pd, od), (pl, ol)]) (q1 : (@LT.lt Nat _ pd o ∧ @LT.lt Nat _ pl o)) (q2 : StrsAre vs (P ++ rowsG (lbF lab) count gap 0 ts)) (q3 : ts.length = i) (q4 : AllT 0 ts) (q5 : Pu w pl (B + 20 * i) od ol) (q6 : Has m (SB pd o count lab P.length wide gap (lastF (lbF lab) count gap P ts) (wholeG count 0 ts) (toldG count 0 ts) tc tb tn tw tg t1 t2 t3)) : SI w pd pl B count lab wide gap P tc tb tn tw tg i m nx
inductive Mid4 (w : World) (g : Heap) (L pl : Addr) (s : Shared) (pre : List (Addr × Obj)) (B i : Nat) (pd : Addr) (hb : List (Str × Value)) (f : Flow) (s' : Shared) : Prop
  | mk (p0 : f = .next) (h' : _) (tk : _) (m' : _) (od' : _) (ol' : _) (u : _) (tb : _) (tg : _) (q0 : s' = { s with heap := h', toks := tk }) (q1 : Fr g L h' m') (q2 : News g L h' (pre ++ [(pd, od'), (pl, ol')])) (q3 : Pu w pl B od' ol') (q4 : OkU i u) (q5 : Has m' ((Str.ofString "body", .str (tx u) tb) :: (Str.ofString "great", .str (tx ((u.map capN).take 66)) tg) :: hb)) : Mid4 w g L pl s pre B i pd hb f s'
theorem em_cnt {x : Nat} (_ : x ∈ cnts) (i : Nat) : i < x ∨ x ≤ i := Nat.lt_or_ge i x
theorem em_gap {x : Nat} (_ : (x : Int) < 24) (i : Nat) : i = x ∨ i ≠ x := Decidable.em _
theorem sums_len {x : Nat} (_ : x ∈ cnts) {ts : List Tn} (h : ts.length ≤ 22) : (tx (wholeG x 0 ts)).length ≤ 1500 ∧ (tx (toldG x 0 ts)).length ≤ 1500 := by
  rw [len_tx, len_tx]
  have h1 := wholeG_len (count := x) (ts := ts) (j := 0)
  have h2 := toldG_len (count := x) (ts := ts) (j := 0)
  omega
theorem reg_C23_4 : True := by
  k_with "subscriptTail" => ((with_reducible show wpAny _ _ (subscriptTail _ (Expr.Slice none (some _) none _) (Value.str _ _) _) _ _ _); (with_reducible rename Fr _ _ _ _ => zF'); (with_reducible rename News _ _ _ _ => zN'); refine slice_strN_ns_len (s := ⟨_, _, _, _, _⟩) zF' zN' ?_; intro _ _ _ _ _ _)
  trivial
theorem len_strS {prog : Program} {w : World} {A : Around} {E : Value → Shared → Prop} {s : Shared} {x : Str} {t : Tok} {Q : Value → Shared → Prop} (h0 : x.length ≤ 4000000) (h : Q (.int x.length (s.toks + 1)) { s with toks := s.toks + 1 + 1 }) : wpAny (model prog w) A (call (.builtin "len") [.str x t]) Q E s :=
  P.len_str (by omega) h
theorem lbS_len {lab : Nat} (h : (lab : Int) < 99999) : (lbS lab).length ≤ 5 := lbS_len' h
theorem str_lab {prog : Program} {w : World} {A : Around} {E : Value → Shared → Prop} {s : Shared} {lab : Nat} {t : Tok} {Q : Value → Shared → Prop} (hl : (lab : Int) < 99999)
    (h : ∀ x t' k, x = lbS lab → x.length ≤ 5 → Q (.str x t') { s with toks := k }) : wpAny (model prog w) A (call (.type "str") [.int (1 + (lab : Int)) t]) Q E s := by
  refine PyProof.Rows.str_of_int_fit (N := 1000000) (by split <;> omega) (by decide) fun _ => ?_
  exact h (lbS lab) _ _ rfl (lbS_len hl)
theorem mul_sp {prog : Program} {w : World} {A : Around} {E : Value → Shared → Prop} {s : Shared} {n : Int} {t u : Tok} {Q : Value → Shared → Prop} (h1 : n ≤ 66) (h2 : -1000000 ≤ n)
    (h : ∀ y t' k, y = tx (List.replicate n.toNat 32) → y.length ≤ 66 → Q (.str y t') { s with toks := k }) : wpAny (model prog w) A (binaryOp .Mult (.str (Str.ofString " ") t) (.int n u)) Q E s := by
  have hb : Txt.mul (Str.ofString " ") n = tx (List.replicate n.toNat 32) := by
    have e := mul_one_list 32 n
    rw [show Str.ofString " " = ⟨#[32]⟩ from by decide +kernel]
    have := congrArg tx e
    rwa [tx_sg] at this
  have hl : (Str.ofString " ").length ≤ 1 := by decide +kernel
  refine SB.mul (mulOk_of 1 66 hl (by omega) (by omega) (by decide) (by decide)) fun t' k => ?_
  rw [hb]
  exact h _ t' k rfl (by rw [len_tx, List.length_replicate]; omega)
theorem reg_C23_5 : True := by
  k_with "call type:str" => ((with_reducible show wpAny _ _ (call (Value.type "str") [Value.int _ _]) _ _ _); (refine' str_lab ?zqa ?_; (case zqa => with_reducible assumption)); intro _ _ _ _ _)
  k_with "binaryOp Mult str int" => ((with_reducible show wpAny _ _ (binaryOp Operator.Mult (Value.str (Str.ofString " ") _) (Value.int _ _)) _ _ _); (refine' mul_sp ?zqa ?zqb ?_; (case zqa => k_extra "m nat"); (case zqb => k_extra "m nat")); intro _ _ _ _ _)
  k_with "call builtin:len" => ((with_reducible show wpAny _ _ (call (Value.builtin "len") [Value.str _ _]) _ _ _); (refine' len_strS ?zqb ?_; (case zqb => k_extra "m len")))
  k_with "call builtin:list.append" => ((with_reducible show wpAny _ _ (call (Value.builtin "list.append") [Value.ref _, _]) _ _ _); k_dflt (refine' append_K ?zqk1 ?zqk2 ?zqk3 ?_ ?zqz; (case zqk1 => with_reducible assumption); (case zqk2 => with_reducible assumption); (case zqk3 => k_upd); (case zqz => (rw [sizeLine_eq]; simp only [List.push_toArray, List.size_toArray, List.length_append, List.length_cons, List.length_nil]; omega))); intro _ _ _)
  trivial
theorem newList2 {M : Model} {A : Around} {E : Value → Shared → Prop} {s : Shared} {h₀ : Heap} {L : Addr} {m : Str → Option Value} {nx : List (Addr × Obj)} {x y : Value} {Q : Value → Shared → Prop} (F : Fr h₀ L s.heap m) (N : News h₀ L s.heap nx)
    (h : ∀ (l : Addr) h', Fr h₀ L h' m → News h₀ L h' ((l, listOf #[x, y] 0) :: nx) → AllLt l nx → Q (.ref l) { s with heap := h' }) : wpAny M A (newList [x, y]) Q E s :=
  newList_N F N (fun h' F' N' => h _ h' F' N' (allLt_of fun p hp => Heap.lt_size (N p hp).1)) (Nat.le_of_ble_eq_true rfl)
theorem reg_C23_6 : True := by
  k_with "newList" => ((with_reducible show wpAny _ _ (newList [_, _]) _ _ _); (refine' newList2 ?zqF ?zqN ?_; (case zqF => with_reducible assumption); (case zqN => with_reducible assumption)); (intro _ _ _ _ zl1'); (simp only [AllLt] at zl1'))
  trivial
theorem strs_bound {vs : List Value} {P : List Str} {lb : List Nat} {c g : Nat} {ts : List Tn} (h : StrsAre vs (P ++ rowsG lb c g 0 ts)) (hP : P.length ≤ 3) (ht : ts.length ≤ 22) : vs.length ≤ 60 := by
  have e : vs.length = (P ++ rowsG lb c g 0 ts).length := h.length
  have := rowsG_len (lb := lb) (count := c) (gap := g) (ts := ts) (j := 0)
  rw [e, List.length_append]; omega
/-- the end of a turn -/
theorem si_end {w : World} {g h : Heap} {s : Shared} {L pd pl I o : Addr} {oI od ol : Obj} {B count lab wide gap n : Nat} {P0 : List Str} {ts : List Tn} {u' : List Nat} {mk i : Nat} {vs mv : List Value} {row W' T' : Str} {last' : Nat} {tr tk : Tok} {tc tb tn tw tg t1 t2 t3 : Tok} {m : Str → Option Value} (hi : ts.length = i)
    (F : Fr g L h m) (N : News g L h [(I, oI), (o, listOf (mv ++ [Value.str row tr] : List Value).toArray n), (pd, od), (pl, ol)]) (hI : o ≠ I ∧ pd ≠ I ∧ pl ≠ I) (ho : @LT.lt Nat _ pd o ∧ @LT.lt Nat _ pl o) (hvs : StrsAre vs (P0 ++ rowsG (lbF lab) count gap 0 ts))
    (hmv : (i = gap ∧ ∃ tq, mv = vs ++ [.str more tq]) ∨ (i ≠ gap ∧ mv = vs)) (hrow : row = rowF (lbF lab) count i (u', mk)) (hu : OkU i u') (hmk : okM i mk = true) (hok : AllT 0 ts) (P : Pu w pl (B + 20 * (i + 1)) od ol)
    (hW : W' = tx (wholeG count 0 (ts ++ [(u', mk)]))) (hT : T' = tx (toldG count 0 (ts ++ [(u', mk)]))) (hL : last' = lastF (lbF lab) count gap P0 (ts ++ [(u', mk)]))
    (hm : Has m [(Str.ofString "purse", .ref pd), (Str.ofString "count", .int count tc), (Str.ofString "label", .int (1 + (lab : Int)) tb), (Str.ofString "rows", .ref o), (Str.ofString "line", .int ((P0.length : Int) + 1) tn), (Str.ofString "wide", .int wide tw), (Str.ofString "gap", .int gap tg),
      (Str.ofString "whole", .str W' t1), (Str.ofString "told", .str T' t2), (Str.ofString "last", .int last' t3)]) :
    ForEnd g L s I oI (SI w pd pl B count lab wide gap P0 tc tb tn tw tg (i + 1)) { s with heap := h, toks := tk } := by
  subst hW hT hL hi
  obtain ⟨z1, z2, z3⟩ := hI
  refine ⟨h, tk, m, [(o, listOf (mv ++ [Value.str row tr] : List Value).toArray n), (pd, od), (pl, ol)], rfl, F, N, ?_, ts ++ [(u', mk)], o, (mv ++ [Value.str row tr] : List Value), n, od, ol, t1, t2, t3, rfl, ho, rows_next hvs hmv hrow, by rw [List.length_append]; rfl, allT_snoc hok ⟨by rw [Nat.zero_add]; exact hu, by rw [Nat.zero_add]; exact hmk⟩, P, hm⟩
  exact List.forall_mem_cons.mpr ⟨z1, List.forall_mem_cons.mpr ⟨z2, List.forall_mem_cons.mpr ⟨z3, List.forall_mem_nil _⟩⟩⟩
theorem cut4 {w : World} {A : Around} {g : Heap} {L pd pl o : Addr} {s s₁ : Shared} {E : Value → Shared → Prop} {Q : Flow → Shared → Prop} {x : Sem Flow} {m : Str → Option Value} {count lab np wide gap last : Nat} {W T : List Nat} {tc tb tn tw tg t1 t2 t3 : Tok}
    (hm : Has m (SB pd o count lab np wide gap last W T tc tb tn tw tg t1 t2 t3)) (pre : List (Addr × Obj)) (B i : Nat) (u : Tok)
    (h1 : wpAny (model PG w) A x (Mid4 w g L pl s pre B i pd ((Str.ofString "turn", .int ((0 + i : Nat) : Int) u) :: SB pd o count lab np wide gap last W T tc tb tn tw tg t1 t2 t3)) E s₁)
    (h2 : ∀ f s', Mid4 w g L pl s pre B i pd ((Str.ofString "turn", .int ((0 + i : Nat) : Int) u) :: SB pd o count lab np wide gap last W T tc tb tn tw tg t1 t2 t3) f s' → Q f s') : wpAny (model PG w) A x Q E s₁ := wpAny_mono h1 h2 (fun _ _ z => z)

end

-- text C24
section
/-- the text that the law hands over -/
def textF (lab count gap : Nat) (P : List Str) (ts : List Tn) : Str := Txt.join (Str.ofString "\n") (P ++ rowsG (lbF lab) count gap 0 ts) ++ Str.ofString "\n      END\n"
/-- what is known of the rows behind the loop -/
structure Facts (lab count gap : Nat) (P : List Str) (ts : List Tn) : Prop where
  lab : (lab : Int) < 99999
  heads : ∀ p ∈ P, p ∈ heads
  three : P.length ≤ 3
  len : ts.length = count + 1
  most : count ≤ 21
  all : AllT 0 ts
theorem Facts.text {lab count gap : Nat} {P : List Str} {ts : List Tn} (K : Facts lab count gap P ts) : TextOk (textF lab count gap P ts) ((P ++ rowsG (lbF lab) count gap 0 ts) ++ [endRow]) := by
  have h1 := K.len
  have h2 := K.most
  exact text_ok K.lab K.heads K.three (by omega) (fun q => by rw [q] at h1; cases h1) K.all
theorem sum_len {B : Nat} : ∀ {R : List Str}, (∀ x ∈ R, x.length ≤ B) → (R.map (·.length)).sum ≤ B * R.length
  | [], _ => Nat.zero_le _
  | a :: r, h => by
    have ih := sum_len fun x hx => h x (List.mem_cons_of_mem _ hx)
    have := h a (List.mem_cons_self ..)
    rw [List.map_cons, List.sum_cons, List.length_cons, Nat.mul_succ]; omega
theorem Facts.sum {lab count gap : Nat} {P : List Str} {ts : List Tn} (K : Facts lab count gap P ts) : ((P ++ rowsG (lbF lab) count gap 0 ts).map (·.length)).sum + (P ++ rowsG (lbF lab) count gap 0 ts).length * 64 ≤ 16777216 := by
  have hrl := rowsG_len (lb := lbF lab) (count := count) (gap := gap) (ts := ts) (j := 0)
  have h1 := K.len
  have h2 := K.most
  have h3 := K.three
  have hlen : (P ++ rowsG (lbF lab) count gap 0 ts).length ≤ 50 := by rw [List.length_append]; omega
  have hs := sum_len (B := 100) (R := P ++ rowsG (lbF lab) count gap 0 ts) fun x hx => by
    rcases List.mem_append.mp hx with hx | hx
    · exact Nat.le_trans (heads_len x (K.heads x hx)) (by decide)
    · exact rows_all (p := fun x => x.length ≤ 100) (by decide +kernel) (fun j t h => row_short (lb_ok K.lab) h) K.all x hx
  omega
theorem Facts.joined {lab count gap : Nat} {P : List Str} {ts : List Tn} (K : Facts lab count gap P ts) : (Txt.join (Str.ofString "\n") (P ++ rowsG (lbF lab) count gap 0 ts)).length ≤ 100000 := by
  have := K.text.len
  unfold textF at this
  rw [PySem.Str.length_append] at this; omega
theorem join_rows {prog : Program} {w : World} {A : Around} {E : Value → Shared → Prop} {s : Shared} {D : Addr} {vs : List Value} {lab count gap : Nat} {P : List Str} {ts : List Tn} {t : Tok} {Q : Value → Shared → Prop} (K : Facts lab count gap P ts)
    (hl : s.heap.IsList D vs.toArray) (hi : StrsAre vs (P ++ rowsG (lbF lab) count gap 0 ts)) (h : ∀ x t' k, x ++ Str.ofString "\n      END\n" = textF lab count gap P ts → x.length ≤ 100000 → Q (.str x t') { s with toks := k }) :
    wpAny (model prog w) A (call (.builtin "str.join") [.str (Str.ofString "\n") t, .ref D]) Q E s :=
  join_listC hl (by simpa using hi) (by decide +kernel) K.sum fun t' k => h _ t' k rfl K.joined
abbrev tup3 (z1 z2 : Int) (x : Str) (t1 t2 t3 : Tok) : Obj := { cls := .type "tuple", data := .seq #[.int z1 t1, .int z2 t2, .str x t3] }
/-- what is heard of rows that are not too many -/
theorem heard_ok (w : World) (t : Tok) {lab count gap nR : Nat} {P : List Str} {ts : List Tn} (K : Facts lab count gap P ts) (hc : count ≤ 19) (hn : nR = (P ++ rowsG (lbF lab) count gap 0 ts).length) : CtrL w 6 387 [.str (textF lab count gap P ts) t] (fun _ => True)
    (fun i : Addr × Nat × Jn × Jn => i.1) (fun i => [(i.1, listOf #[.ref i.2.2.1.a, .ref i.2.2.2.a] i.2.1), (i.2.2.1.a, tup3 ((P.length : Int) + 1 + (if 0 = gap then 1 else 0)) (1 + (lab : Int)) (tx (wholeG count 0 ts)) i.2.2.1.t1 i.2.2.1.t2 i.2.2.1.t3),
      (i.2.2.2.a, tup3 ((nR : Int) + 1) 0 (Str.ofString "END") i.2.2.2.t1 i.2.2.2.t2 i.2.2.2.t3)]) (fun _ => True) := by
  subst hn
  obtain ⟨v0, v1, kv, hcards, G, e1, e2, e3, e4, e5, e6⟩ := good_ok K.lab K.heads hc K.len K.all
  have T := K.text
  have C := c_heard w (textF lab count gap P ts) t _ v0 v1 kv T.split T.len T.rows T.each hcards G
  unfold Jn.tup at C
  have e6' : joinF ((v1 :: []).map CV.body) = Str.ofString "END" := e6
  rw [e1, e2, e3, e4, e5, e6'] at C
  have z1 : ((P.length + 1 + (if 0 = gap then 1 else 0) : Nat) : Int) = (P.length : Int) + 1 + (if 0 = gap then 1 else 0) := by split <;> omega
  have z2 : ((1 + lab : Nat) : Int) = 1 + (lab : Int) := by omega
  have z3 : (((P ++ rowsG (lbF lab) count gap 0 ts).length + 1 : Nat) : Int) = ((P ++ rowsG (lbF lab) count gap 0 ts).length : Int) + 1 := by omega
  rw [z1, z2, z3] at C
  exact C
theorem heard_bad (w : World) (t : Tok) {lab count gap : Nat} {P : List Str} {ts : List Tn} (K : Facts lab count gap P ts) (hc : 19 < count) : CtrH w 10 387 [.str (textF lab count gap P ts) t] (lastF (lbF lab) count gap P ts) := by
  obtain ⟨v0, vk, kv, rv, hcards, hrl, G, e⟩ := bad_ok (gap := gap) K.lab K.heads hc K.most K.len K.all
  have T := K.text
  have C := c_heardX w (textF lab count gap P ts) t _ v0 vk kv rv T.split T.len T.rows T.each hcards hrl G
  rw [e] at C
  exact C
theorem Facts.whole {lab count gap : Nat} {P : List Str} {ts : List Tn} (K : Facts lab count gap P ts) : (tx (wholeG count 0 ts)).length ≤ 1500 ∧ (tx (toldG count 0 ts)).length ≤ 1500 := by
  have h1 := K.len
  have h2 := K.most
  have h3 := wholeG_len (count := count) (ts := ts) (j := 0)
  have h4 := toldG_len (count := count) (ts := ts) (j := 0)
  rw [len_tx, len_tx]; omega
theorem squeezed_ok (w : World) (t : Tok) {lab count gap : Nat} {P : List Str} {ts : List Tn} (K : Facts lab count gap P ts) : Ctr w 3 212 [.str (tx (wholeG count 0 ts)) t] (fun _ => True) (fun t' : Tok => .str (tx (toldG count 0 ts)) t') (fun _ _ _ => True) := by
  have C := c_squeezed w (tx (wholeG count 0 ts)) t (Nat.le_trans K.whole.1 (by decide)) (by rw [sg_tx]; exact sqGo_plain (whole_sgn K.all))
  rw [sg_tx, sq_whole K.all] at C
  exact C
theorem classify_ok (w : World) (t : Tok) {lab count gap : Nat} {P : List Str} {ts : List Tn} (K : Facts lab count gap P ts) : Ctr w 5 344 [.str (tx (toldG count 0 ts)) t] (fun _ => True) (fun t' : Tok => .str (Str.ofString "assign") t') (fun _ _ _ => True) := by
  have h1 := K.len
  obtain ⟨o1, o2⟩ := told_ok (count := count) (fun q => by rw [q] at h1; cases h1) K.all
  have C := c_classify w (tx (toldG count 0 ts)) t (Nat.le_trans K.whole.2 (by decide)) o1
  rw [o2] at C
  exact C
theorem str_ok {l : List Nat} (h : ∀ c ∈ l, c = 32 ∨ okS c = true) : PyData.strOk (tx l) = true := by
  unfold PyData.strOk
  rw [Array.all_eq_true']
  intro c hc
  rw [decide_eq_true_eq]
  have hc' : c ∈ l := by simpa using hc
  rcases h c hc' with rfl | h
  · decide
  · unfold okS isLSD isL isS isD at h
    simp only [Bool.or_eq_true, decide_eq_true_eq] at h; omega
abbrev datF (z1 z2 : Int) (x : Str) (z3 z4 : Int) (y : Str) : PyData := .list [.tuple [.int z1, .int z2, .str x], .tuple [.int z3, .int z4, .str y]]
theorem dat_at {h h₀ : Heap} {L : Addr} {nx : List (Addr × Obj)} {a a1 a2 : Addr} {n : Nat} {z1 z2 z3 z4 : Int} {x y : Str} {t1 t2 t3 t4 t5 t6 : Tok} (N : News h₀ L h nx)
    (m0 : (a, listOf #[.ref a1, .ref a2] n) ∈ nx) (m1 : (a1, tup3 z1 z2 x t1 t2 t3) ∈ nx) (m2 : (a2, tup3 z3 z4 y t4 t5 t6) ∈ nx) : ∃ as, Reads h (.ref a) (datF z1 z2 x z3 z4 y) as :=
  ⟨_, reads_list_at (News.get N m0) rfl rfl (.cons (reads_tuple_at (News.get N m1) rfl rfl (.cons (.int _ _) (.cons (.int _ _) (.cons (.str _ _) .nil)))) (.cons (reads_tuple_at (News.get N m2) rfl rfl (.cons (.int _ _) (.cons (.int _ _) (.cons (.str _ _) .nil)))) .nil))⟩
theorem eq_dat {prog : Program} {w : World} {A : Around} {E : Value → Shared → Prop} {s : Shared} {Q : Value → Shared → Prop} {h₀ : Heap} {L : Addr} {nx : List (Addr × Obj)} {a a1 a2 b b1 b2 : Addr} {n n' : Nat} {z1 z2 z3 z4 : Int} {x y : Str} {t1 t2 t3 t4 t5 t6 u1 u2 u3 u4 u5 u6 : Tok}
    (N : News h₀ L s.heap nx) (m0 : (a, listOf #[.ref a1, .ref a2] n) ∈ nx) (m1 : (a1, tup3 z1 z2 x t1 t2 t3) ∈ nx) (m2 : (a2, tup3 z3 z4 y t4 t5 t6) ∈ nx)
    (k0 : (b, listOf #[.ref b1, .ref b2] n') ∈ nx) (k1 : (b1, tup3 z1 z2 x u1 u2 u3) ∈ nx) (k2 : (b2, tup3 z3 z4 y u4 u5 u6) ∈ nx)
    (hx : PyData.strOk x = true) (hy : PyData.strOk y = true) (hu : A.units + 64 < cLine) (h : Q (.bool true) s) : wpAny (model prog w) A (compareOp .Eq (.ref a) (.ref b)) Q E s := by
  obtain ⟨_, ra⟩ := dat_at N m0 m1 m2
  obtain ⟨_, rb⟩ := dat_at N k0 k1 k2
  have hl : (datF z1 z2 x z3 z4 y).canLay0 = true := by simp [PyData.canLay0, PyData.canLayAll0, hx, hy]
  have hs : SeqAt.shaped (datF z1 z2 x z3 z4 y) = true := by
    unfold SeqAt.shaped
    rw [hl]
    simp [PyData.depth, PyData.depthAll]
  refine eq_dataH ra rb hs hs hu ?_
  rw [SeqAt.eqv_refl _ hl]
  exact h
theorem cnt_19 {x : Nat} (_ : x ∈ cnts) : x ≤ 19 ∨ 19 < x := by omega

end

-- text C25
section
theorem facts_of {lab count gap : Nat} {P : List Str} {ts : List Tn} {vs : List Value} (h1 : (lab : Int) < 99999) (h2 : ∀ p ∈ P, p ∈ heads) (h3 : P.length ≤ 3) (h4 : ts.length = count + 1 - 0) (h5 : count ≤ 21) (h6 : AllT 0 ts) (_ : StrsAre vs (P ++ rowsG (lbF lab) count gap 0 ts)) : Facts lab count gap P ts := ⟨h1, h2, h3, h4, h5, h6⟩
inductive Mid5 (g : Heap) (L pd pl o : Addr) (s : Shared) (od ol : Obj) (vs : List Value) (n np gap : Nat) (hb : Int → Tok → List (Str × Value)) (f : Flow) (s' : Shared) : Prop
  | mk (p0 : f = .next) (h' : _) (tk : _) (m' : _) (ln : _) (tn : _) (q0 : s' = { s with heap := h', toks := tk }) (q1 : Fr g L h' m') (q2 : News g L h' [(o, listOf vs.toArray n), (pd, od), (pl, ol)]) (q3 : ln = (np : Int) + 1 + (if 0 = gap then 1 else 0)) (q4 : Has m' (hb ln tn)) : Mid5 g L pd pl o s od ol vs n np gap hb f s'
abbrev SC (pd o : Addr) (count lab wide gap last : Nat) (W T : List Nat) (tc tb tw tg t1 t2 t3 : Tok) (ln : Int) (tn : Tok) : List (Str × Value) :=
  [(Str.ofString "purse", .ref pd), (Str.ofString "count", .int count tc), (Str.ofString "label", .int (1 + (lab : Int)) tb), (Str.ofString "rows", .ref o), (Str.ofString "line", .int ln tn), (Str.ofString "wide", .int wide tw), (Str.ofString "gap", .int gap tg),
      (Str.ofString "whole", .str (tx W) t1), (Str.ofString "told", .str (tx T) t2), (Str.ofString "last", .int last t3)]
theorem cut5 {w : World} {A : Around} {g : Heap} {L pd pl o : Addr} {s s₁ : Shared} {od ol : Obj} {vs : List Value} {n : Nat} {E : Value → Shared → Prop} {Q : Flow → Shared → Prop} {x : Sem Flow} {m : Str → Option Value} {count lab np wide gap last : Nat} {W T : List Nat} {tc tb tn tw tg t1 t2 t3 : Tok}
    (_ : Has m (SB pd o count lab np wide gap last W T tc tb tn tw tg t1 t2 t3))
    (h1 : wpAny (model PG w) A x (Mid5 g L pd pl o s od ol vs n np gap (SC pd o count lab wide gap last W T tc tb tw tg t1 t2 t3)) E s₁)
    (h2 : ∀ f s', Mid5 g L pd pl o s od ol vs n np gap (SC pd o count lab wide gap last W T tc tb tw tg t1 t2 t3) f s' → Q f s') : wpAny (model PG w) A x Q E s₁ := wpAny_mono h1 h2 (fun _ _ z => z)
theorem line_t {np gap : Nat} (h : ((gap : Int) == 0) = true) : (np : Int) + 1 + 1 = (np : Int) + 1 + (if 0 = gap then 1 else 0) := by
  have := eq_of_beq h
  rw [if_pos (by omega)]
theorem line_f {np gap : Nat} (h : ((gap : Int) == 0) = false) : (np : Int) + 1 = (np : Int) + 1 + (if 0 = gap then 1 else 0) := by
  have := ne_of_beq_false h
  rw [if_neg (by omega)]; omega
theorem reg_C25_0 : True := by
  k_with "compareOp Eq ref ref" => refine stop_here ?_
  k_with "call builtin:len" => ((with_reducible show wpAny _ _ (call (Value.builtin "len") [Value.ref _]) _ _ _); k_dflt (refine' len_newsL ?zqn ?zqm ?zqb ?_; (case zqn => with_reducible assumption); (case zqm => k_mem); (case zqb => first | omega | (simp only [List.length_append, List.length_cons, List.length_nil]; omega))))
  trivial
theorem item_decT {prog : Program} {w : World} {A : Around} {E : Value → Shared → Prop} {s : Shared} {value slice : Expr} {l : Addr} {y z : Value} {p : Prop} [Decidable p] {Q : Value → Shared → Prop} (hl : s.heap.IsList l #[y, z]) (hp : p) (h1 : Q z s)
    (hs : subscripted slice false (.ref l) (.bool (decide p)) = operate [.ref l, .bool (decide p)] (getItem (.ref l) (.bool (decide p)))) :
    wpAny (model prog w) A (subscriptTail value slice (.ref l) (.bool (decide p))) Q E s := item_dec hl (fun _ => h1) (fun q => absurd hp q) hs
theorem item_decF {prog : Program} {w : World} {A : Around} {E : Value → Shared → Prop} {s : Shared} {value slice : Expr} {l : Addr} {y z : Value} {p : Prop} [Decidable p] {Q : Value → Shared → Prop} (hl : s.heap.IsList l #[y, z]) (hp : ¬ p) (h1 : Q y s)
    (hs : subscripted slice false (.ref l) (.bool (decide p)) = operate [.ref l, .bool (decide p)] (getItem (.ref l) (.bool (decide p)))) :
    wpAny (model prog w) A (subscriptTail value slice (.ref l) (.bool (decide p))) Q E s := item_dec hl (fun q => absurd q hp) (fun _ => h1) hs
theorem gap_t {n i gap : Nat} (h : (((0 + i : Nat) : Int) == (gap : Int)) = true) (hn : n = i) : n = gap := by have := eq_of_beq h; omega
theorem gap_f {n i gap : Nat} (h : (((0 + i : Nat) : Int) == (gap : Int)) = false) (hn : n = i) : n ≠ gap := by have := ne_of_beq_false h; omega
theorem last_len {lb : List Nat} {count gap n : Nat} {P : List Str} {ts : List Tn} {t : Tn} {vs : List Value} (hr : StrsAre vs (P ++ rowsG lb count gap 0 ts)) (h : ts.length = 20) (hn : (20 = gap ∧ n = vs.length + 2) ∨ (20 ≠ gap ∧ n = vs.length + 1)) : n = lastF lb count gap P (ts ++ [t]) := by
  have e := hr.length
  rw [List.length_append] at e
  rw [last_20 h, rowsG_snoc, List.length_append, List.length_append, List.length_append, Nat.zero_add, h]
  rcases hn with ⟨hg, hn⟩ | ⟨hg, hn⟩
  · rw [if_pos hg, hn, e]; rfl
  · rw [if_neg hg, hn, e]; rfl
theorem spT_len (i : Nat) : (spT i).length ≤ 1 := by rw [spT_eq, len_tx]; exact Nat.le_refl 1
theorem dec_pos0 {i : Nat} (h : i ≠ 0) : (0 : Int) < ((0 + i : Nat) : Int) := by omega
theorem dec_neg0 {i : Nat} (h : i = 0) : ¬ (0 : Int) < ((0 + i : Nat) : Int) := by omega
theorem item_sp {prog : Program} {w : World} {A : Around} {E : Value → Shared → Prop} {s : Shared} {value slice : Expr} {l : Addr} {t0 t1 : Tok} {i : Nat} {Q : Value → Shared → Prop} (hl : s.heap.IsList l #[.str (Str.ofString "=") t0, .str (Str.ofString "+") t1]) (h : ∀ t, Q (.str (spT i) t) s)
    (hs : subscripted slice false (.ref l) (.bool (decide ((0 : Int) < ((0 + i : Nat) : Int)))) = operate [.ref l, .bool (decide ((0 : Int) < ((0 + i : Nat) : Int)))] (getItem (.ref l) (.bool (decide ((0 : Int) < ((0 + i : Nat) : Int)))))) :
    wpAny (model prog w) A (subscriptTail value slice (.ref l) (.bool (decide ((0 : Int) < ((0 + i : Nat) : Int))))) Q E s := by
  by_cases hi : i = 0
  · have q := h t0
    rw [spT, if_pos hi] at q
    exact item_decF hl (dec_neg0 hi) q hs
  · have q := h t1
    rw [spT, if_neg hi] at q
    exact item_decT hl (dec_pos0 hi) q hs
theorem item_five {prog : Program} {w : World} {A : Around} {E : Value → Shared → Prop} {s : Shared} {value slice : Expr} {l : Addr} {t0 t1 : Tok} {i lab : Nat} {x x2 y : Str} {Q : Value → Shared → Prop} (hl : s.heap.IsList l #[.str (x ++ y) t0, .str (Str.ofString "     ") t1])
    (hx : x = lbS lab) (hx2 : x2 = lbS lab) (hy : y = tx (List.replicate (5 - (x2.length : Int)).toNat 32)) (h : ∀ t, Q (.str (tx (fiveF (lbF lab) i)) t) s)
    (hs : subscripted slice false (.ref l) (.bool (decide ((0 : Int) < ((0 + i : Nat) : Int)))) = operate [.ref l, .bool (decide ((0 : Int) < ((0 + i : Nat) : Int)))] (getItem (.ref l) (.bool (decide ((0 : Int) < ((0 + i : Nat) : Int)))))) :
    wpAny (model prog w) A (subscriptTail value slice (.ref l) (.bool (decide ((0 : Int) < ((0 + i : Nat) : Int))))) Q E s := by
  unfold fiveF at h
  by_cases hi : i = 0
  · have q := h t0
    rw [if_pos hi] at q
    refine item_decF hl (dec_neg0 hi) ?_ hs
    have e : x ++ y = tx (lbF lab) := by
      rw [hy, hx2, hx, ← tx_sg (lbS lab), tx_append]
      unfold lbF
      rw [tx_sg, show (5 - ((lbS lab).length : Int)).toNat = 5 - (lbS lab).length from Int.toNat_sub 5 _]
    rw [e]; exact q
  · have q := h t1
    rw [if_neg hi, show tx [32, 32, 32, 32, 32] = Str.ofString "     " from by decide +kernel] at q
    exact item_decT hl (dec_pos0 hi) q hs
theorem reg_C25_1 : True := by
  k_with "subscriptTail Name Compare ref bool" => ((with_reducible show wpAny _ _ (subscriptTail _ _ (Value.ref _) (Value.bool _)) _ _ _); (k_dflt (first | (refine' item_sp (News.isList ?zqm0 ?zqm1) ?_ ?zqm3; (case zqm0 => with_reducible assumption); (case zqm1 => k_mem); (case zqm3 => with_unfolding_all exact rfl)) | (refine' item_five (News.isList ?zqm0 ?zqm1) ?zqx ?zqx2 ?zqy ?_ ?zqm3; (case zqm0 => with_reducible assumption); (case zqm1 => k_mem); (case zqy => with_reducible assumption); (case zqx => with_reducible assumption); (case zqx2 => with_reducible assumption); (case zqm3 => with_unfolding_all exact rfl)))); intro _)
  k_with "subscriptTail List Compare ref bool" => k_extra "subscriptTail Name Compare ref bool"
  trivial
theorem add_b {prog : Program} {w : World} {A : Around} {E : Value → Shared → Prop} {s : Shared} {x y : Str} {t u : Tok} {a b : Nat} {Q : Value → Shared → Prop} (hx : x.length ≤ a) (hy : y.length ≤ b) (hab : a + b ≤ 4000000) (h : ∀ t' k, (x ++ y).length ≤ a + b → Q (.str (x ++ y) t') { s with toks := k }) : wpAny (model prog w) A (binaryOp .Add (.str x t) (.str y u)) Q E s :=
  add_txt (by omega) (by omega) fun t' k e => h t' k (by omega)
theorem iadd_b {prog : Program} {w : World} {A : Around} {E : Value → Shared → Prop} {s : Shared} {x y : Str} {t u : Tok} {a b : Nat} {Q : Value → Shared → Prop} (hx : x.length ≤ a) (hy : y.length ≤ b) (hab : a + b ≤ 4000000) (h : ∀ t' k, (x ++ y).length ≤ a + b → Q (.str (x ++ y) t') { s with toks := k }) : wpAny (model prog w) A (inplaceOp .Add (.str x t) (.str y u)) Q E s :=
  iadd_txt (by omega) (by omega) fun t' k e => h t' k (by omega)
theorem slice_b {prog : Program} {w : World} {A : Around} {E : Value → Shared → Prop} {hp : Heap} {gs : Array GenState} {dr : Drawn} {tk : Nat} {os : OsState} {value slice : Expr} {x : Str} {t : Tok} {h₀ : Heap} {L : Addr} {m : Str → Option Value} {news : List (Addr × Obj)} {n : Nat} {j : Int} {uj : Tok} {Q : Value → Shared → Prop} (hxl : x.length ≤ n) (hn : n ≤ 4000000)
    (hF : Fr h₀ L hp m) (hN : News h₀ L hp news) (h : ∀ h' t' k, Fr h₀ L h' m → News h₀ L h' news → (Txt.slice x none (some j)).length ≤ n → Q (.str (Txt.slice x none (some j)) t') ⟨h', gs, dr, k, os⟩)
    (hs : subscripted slice false (.str x t) (.ref hp.objs.size) = operate [.ref hp.objs.size, .str x t] (getItem (.str x t) (.ref hp.objs.size)))
    (ht : ∀ r, letTemporaryGo value (.str x t) r = pure ()) :
    wpAny (model prog w) A (subscriptTail value slice (.str x t) (.ref hp.objs.size)) Q E ⟨hp.push { cls := .type "slice", data := .fields #[.none, .int j uj, .none] }, gs, dr, tk, os⟩ :=
  slice_strN_ns_len (s := ⟨hp, gs, dr, tk, os⟩) hF hN (fun h' t' k a b c => h h' t' k a b (Nat.le_trans c hxl)) hs ht (by rw [sizeLine_eq]; omega)
theorem reg_C25_2 : True := by
  k_with "binaryOp Add str str" => ((with_reducible show wpAny _ _ (binaryOp Operator.Add (Value.str _ _) (Value.str _ _)) _ _ _); k_dflt (refine' add_b ?zqkxaa ?zqkxab ?zqkxac ?_; (case zqkxaa => with_reducible assumption); (case zqkxab => with_reducible assumption); (case zqkxac => decide)); intro _ _ _)
  k_with "inplaceOp Add str str" => ((with_reducible show wpAny _ _ (inplaceOp Operator.Add (Value.str _ _) (Value.str _ _)) _ _ _); k_dflt (refine' iadd_b ?zqkxaa ?zqkxab ?zqkxac ?_; (case zqkxaa => with_reducible assumption); (case zqkxab => with_reducible assumption); (case zqkxac => decide)); intro _ _ _)
  k_with "subscriptTail" => ((with_reducible show wpAny _ _ (subscriptTail _ (Expr.Slice none (some _) none _) (Value.str _ _) _) _ _ _); k_dflt (refine' slice_b ?zqa ?zqb ?zqF ?zqN ?_ ?zqs ?zqt; (case zqa => with_reducible assumption); (case zqb => decide); (case zqF => with_reducible assumption); (case zqN => with_reducible assumption); (case zqs => with_unfolding_all exact rfl); (case zqt => (intro _; with_unfolding_all exact rfl))); intro _ _ _ _ _ _)
  trivial
theorem mul_figs {prog : Program} {w : World} {A : Around} {E : Value → Shared → Prop} {s : Shared} {t u : Tok} {Q : Value → Shared → Prop} (h : ∀ t' k, Q (.str figs70 t') { s with toks := k }) : wpAny (model prog w) A (binaryOp .Mult (.str (Str.ofString "0123456789") t) (.int 7 u)) Q E s := by
  have hb : Txt.mul (Str.ofString "0123456789") 7 = figs70 := by decide +kernel
  have hl : (Str.ofString "0123456789").length ≤ 10 := by decide +kernel
  refine SB.mul (mulOk_of 10 7 hl (by omega) (by omega) (by decide) (by decide)) fun t' k => ?_
  rw [hb]
  exact h t' k
theorem reg_C25_3 : True := by
  k_with "binaryOp Mult str int" => ((with_reducible show wpAny _ _ (binaryOp Operator.Mult (Value.str (Str.ofString "0123456789") _) (Value.int 7 _)) _ _ _); refine mul_figs ?_; intro _ _)
  k_with "eval IfExp" => refine stop_here ?_
  trivial
/-- body and great behind the second `if` of the turn -/
inductive Mid6 (g : Heap) (L : Addr) (s : Shared) (nx : List (Addr × Obj)) (i count : Nat) (u : List Nat) (hb : List (Str × Value)) (f : Flow) (s' : Shared) : Prop
  | mk (p0 : f = .next) (h' : _) (tk : _) (m' : _) (tb : _) (tg : _) (q0 : s' = { s with heap := h', toks := tk }) (q1 : Fr g L h' m') (q2 : News g L h' nx) (q3 : Has m' ((Str.ofString "body", .str (tx (bodyF count i u)) tb) :: (Str.ofString "great", .str (tx (greatF count i u)) tg) :: hb)) : Mid6 g L s nx i count u hb f s'
theorem cut6 {w : World} {A : Around} {g : Heap} {L : Addr} {s s₁ : Shared} {E : Value → Shared → Prop} {Q : Flow → Shared → Prop} {x : Sem Flow} {m : Str → Option Value} {i count : Nat} {u : List Nat} {tb tg tc ti : Tok} {vp : Value} {hb : List (Str × Value)} (nx : List (Addr × Obj))
    (_ : Has m ((Str.ofString "body", .str (tx u) tb) :: (Str.ofString "great", .str (tx ((u.map capN).take 66)) tg) :: (Str.ofString "turn", .int ((0 + i : Nat) : Int) ti) :: (Str.ofString "purse", vp) :: (Str.ofString "count", .int count tc) :: hb))
    (h1 : wpAny (model PG w) A x (Mid6 g L s nx i count u ((Str.ofString "turn", .int ((0 + i : Nat) : Int) ti) :: (Str.ofString "purse", vp) :: (Str.ofString "count", .int count tc) :: hb)) E s₁)
    (h2 : ∀ f s', Mid6 g L s nx i count u ((Str.ofString "turn", .int ((0 + i : Nat) : Int) ti) :: (Str.ofString "purse", vp) :: (Str.ofString "count", .int count tc) :: hb) f s' → Q f s') : wpAny (model PG w) A x Q E s₁ := wpAny_mono h1 h2 (fun _ _ z => z)
theorem great_lt {count i : Nat} {u : List Nat} (h : i < count) : tx ((u.map capN).take 66) = tx (greatF count i u) := by unfold greatF; rw [if_pos h]
theorem great_ge {count i : Nat} {u : List Nat} (h : ¬ i < count) : Txt.slice (tx ((u.map capN).take 66) ++ Str.ofString "7") none (some 66) = tx (greatF count i u) := by
  have := slice_ns (tx ((u.map capN).take 66 ++ [55])) 66
  rw [show ((66 : Nat) : Int) = (66 : Int) from rfl, sg_tx] at this
  rw [sv_eq, tx_append, this]
  unfold greatF
  rw [if_neg h]
theorem body_ge' {count i : Nat} {u : List Nat} (h : ¬ i < count) : tx u ++ Str.ofString "7" = tx (bodyF count i u) := body_ge (by omega)
theorem lt_t {count i : Nat} (h : ((0 + i : Nat) : Int) < (count : Int)) : i < count := by omega
theorem lt_f {count i : Nat} (h : ¬ ((0 + i : Nat) : Int) < (count : Int)) : ¬ i < count := by omega
theorem body_len {x : Nat} (_ : x ∈ cnts) (i : Nat) {u : List Nat} (h : u.length ≤ 70) : (tx (bodyF x i u)).length ≤ 71 := by
  rw [len_tx]; unfold bodyF; rw [List.length_append, List.length_singleton]; omega
theorem great_len {x : Nat} (_ : x ∈ cnts) (i : Nat) (u : List Nat) : (tx (greatF x i u)).length ≤ 66 := by
  rw [len_tx]; unfold greatF
  split
  · rw [List.length_take]; exact Nat.min_le_left ..
  · rw [List.length_take]; exact Nat.min_le_left ..
def padS (count i : Nat) (k : Nat) : List Nat := if i < count then List.replicate (66 - (k : Int)).toNat 32 else []
/-- a text behind an `.. if .. else ..` -/
inductive Mid7 (g : Heap) (L : Addr) (s : Shared) (m : Str → Option Value) (nx : List (Addr × Obj)) (y : Str) (v : Value) (s' : Shared) : Prop
  | mk (t' : _) (h' : _) (tk : _) (q0 : v = .str y t') (q1 : s' = { s with heap := h', toks := tk }) (q2 : Fr g L h' m) (q3 : News g L h' nx) : Mid7 g L s m nx y v s'
theorem cut7 {w : World} {A : Around} {g h : Heap} {L : Addr} {s s₁ : Shared} {m : Str → Option Value} {nx : List (Addr × Obj)} {E Q : Value → Shared → Prop} {x : Sem Value} {count i : Nat} {u : List Nat} (_ : Fr g L h m) (_ : News g L h nx) (_ : count ∈ cnts)
    (h1 : wpAny (model PG w) A x (Mid7 g L s m nx (tx (padS count i (Txt.slice (tx (bodyF count i u)) none (some 66)).length))) E s₁)
    (h2 : ∀ v s', Mid7 g L s m nx (tx (padS count i (Txt.slice (tx (bodyF count i u)) none (some 66)).length)) v s' → (tx (padS count i (Txt.slice (tx (bodyF count i u)) none (some 66)).length)).length ≤ 66 → Q v s') : wpAny (model PG w) A x Q E s₁ :=
  wpAny_mono h1 (fun v s' hv => h2 v s' hv (by
    rw [len_tx]; unfold padS
    split
    · rw [List.length_replicate]; omega
    · exact Nat.zero_le _)) (fun _ _ z => z)
theorem pad_lt {count i k : Nat} (h : i < count) : tx (List.replicate (66 - (k : Int)).toNat 32) = tx (padS count i k) := by unfold padS; rw [if_pos h]
theorem pad_ge {count i k : Nat} (h : ¬ i < count) : Str.ofString "" = tx (padS count i k) := by unfold padS; rw [if_neg h]; exact nl_eq
theorem whole_mk {count mk mk' : Nat} {u : List Nat} {ts : List Tn} : wholeG count 0 (ts ++ [(u, mk)]) = wholeG count 0 (ts ++ [(u, mk')]) := by rw [wholeG_snoc, wholeG_snoc]
theorem told_mk {count mk mk' : Nat} {u : List Nat} {ts : List Tn} : toldG count 0 (ts ++ [(u, mk)]) = toldG count 0 (ts ++ [(u, mk')]) := by rw [toldG_snoc, toldG_snoc]
theorem whole_any {count i mk : Nat} {u : List Nat} {ts : List Tn} (hi : ts.length = i) :
    tx (wholeG count 0 ts) ++ (Txt.slice (tx (bodyF count i u)) none (some 66) ++ tx (padS count i (Txt.slice (tx (bodyF count i u)) none (some 66)).length)) = tx (wholeG count 0 (ts ++ [(u, mk)])) := by
  by_cases h : i < count
  · unfold padS
    rw [if_pos h, ← body_lt h]
    exact whole_lt hi h rfl
  · unfold padS
    rw [if_neg h, ← body_ge' h, ← nl_eq]
    exact whole_ge hi (by omega)
theorem told_any {count i mk : Nat} {u : List Nat} {ts : List Tn} (hi : ts.length = i) : tx (toldG count 0 ts) ++ tx (greatF count i u) = tx (toldG count 0 (ts ++ [(u, mk)])) := by
  rw [tx_append, toldG_snoc, Nat.zero_add, hi]
theorem row_any {lab count i mk : Nat} {u : List Nat} : tx (fiveF (lbF lab) i) ++ tx [mk] ++ tx (bodyF count i u) = rowF (lbF lab) count i (u, mk) := by
  rw [rowF_eq, tx_append, tx_append]; simp
/-- the rows behind `if turn == gap` -/
inductive Mid8 (g : Heap) (L I o : Addr) (s : Shared) (oI : Obj) (vs : List Value) (pu : List (Addr × Obj)) (i gap : Nat) (hb : List (Str × Value)) (f : Flow) (s' : Shared) : Prop
  | mk (p0 : f = .next) (h' : _) (tk : _) (m' : _) (mv : _) (n' : _) (q0 : s' = { s with heap := h', toks := tk }) (q1 : Fr g L h' m') (q2 : News g L h' ((I, oI) :: (o, listOf mv.toArray n') :: pu)) (q3 : mv.length ≤ vs.length + 1) (q4 : ((i = gap ∧ ∃ tq, mv = vs ++ [.str more tq]) ∨ (i ≠ gap ∧ mv = vs))) (q5 : Has m' hb) : Mid8 g L I o s oI vs pu i gap hb f s'
/-- the mark -/
inductive Mid9 (w : World) (g : Heap) (L pd pl : Addr) (s : Shared) (m : Str → Option Value) (pre : List (Addr × Obj)) (B i : Nat) (v : Value) (s' : Shared) : Prop
  | mk (t' : _) (h' : _) (tk : _) (od' : _) (ol' : _) (mk : _) (q0 : v = .str (tx [mk]) t') (q1 : s' = { s with heap := h', toks := tk }) (q2 : Fr g L h' m) (q3 : News g L h' (pre ++ [(pd, od'), (pl, ol')])) (q4 : Pu w pl B od' ol') (q5 : okM i mk = true) : Mid9 w g L pd pl s m pre B i v s'
theorem cut8 {w : World} {A : Around} {g h : Heap} {L I o : Addr} {s s₁ : Shared} {m : Str → Option Value} {oI : Obj} {vs : List Value} {pu : List (Addr × Obj)} {n i gap : Nat} {E : Value → Shared → Prop} {Q : Flow → Shared → Prop} {x : Sem Flow} (hb : List (Str × Value)) (_ : Fr g L h m) (_ : News g L h ((I, oI) :: (o, listOf vs.toArray n) :: pu)) (_ : (gap : Int) < 24) (_ : Has m hb)
    (h1 : wpAny (model PG w) A x (Mid8 g L I o s oI vs pu i gap hb) E s₁) (h2 : ∀ f s', Mid8 g L I o s oI vs pu i gap hb f s' → Q f s') : wpAny (model PG w) A x Q E s₁ := wpAny_mono h1 h2 (fun _ _ z => z)
theorem cut9 {w : World} {A : Around} {g h : Heap} {L pd pl : Addr} {s s₁ : Shared} {m : Str → Option Value} {od ol : Obj} {pre : List (Addr × Obj)} {B i : Nat} {E Q : Value → Shared → Prop} {x : Sem Value} (_ : Fr g L h m) (_ : News g L h (pre ++ [(pd, od), (pl, ol)])) 
    (h1 : wpAny (model PG w) A x (Mid9 w g L pd pl s m pre B i) E s₁) (h2 : ∀ v s', Mid9 w g L pd pl s m pre B i v s' → Q v s') : wpAny (model PG w) A x Q E s₁ := wpAny_mono h1 h2 (fun _ _ z => z)
theorem pos_of {i : Nat} (h : (0 : Int) < ((0 + i : Nat) : Int)) : i ≠ 0 := by omega
theorem nil_of {i : Nat} (h : ¬ (0 : Int) < ((0 + i : Nat) : Int)) : i = 0 := by omega
theorem five_len' {lab : Nat} (h : (lab : Int) < 99999) (i : Nat) : (tx (fiveF (lbF lab) i)).length ≤ 5 := by rw [len_tx, five_len (lb_ok h)]; exact Nat.le_refl 5
theorem one_len (c : Nat) : (tx [c]).length ≤ 1 := Nat.le_refl 1
theorem last_any {lb : List Nat} {count gap i : Nat} {P : List Str} {ts : List Tn} {t : Tn} {vs mv : List Value} {x : Value} (hr : StrsAre vs (P ++ rowsG lb count gap 0 ts)) (h : ts.length = i) (h20 : i = 20) (hm : (i = gap ∧ ∃ tq, mv = vs ++ [.str more tq]) ∨ (i ≠ gap ∧ mv = vs)) : (mv ++ [x]).length = lastF lb count gap P (ts ++ [t]) := by
  refine last_len hr (h.trans h20) ?_
  rcases hm with ⟨hg, tq, rfl⟩ | ⟨hg, rfl⟩
  · exact .inl ⟨h20 ▸ hg, by simp⟩
  · exact .inr ⟨h20 ▸ hg, by simp⟩
set_option maxHeartbeats 8000000 in
theorem turn_le {n i : Nat} (h : n ≤ 21) (h2 : i < n + 1 - 0) : i ≤ 21 := Nat.le_trans (Nat.le_of_lt_succ h2) h
theorem turn_b {B i : Nat} (h : B ≤ 80000) (h2 : i ≤ 21) : B + 5 + 20 * i ≤ 90000 := by omega
theorem turn_c {B i : Nat} (h : B ≤ 80000) (h2 : i ≤ 21) : B + 5 + 20 * i + 6 ≤ 100000 := by omega
theorem turn_d {B i : Nat} (h : B ≤ 80000) (h2 : i ≤ 21) : B + 5 + 20 * i + 7 ≤ 100000 := by omega
theorem turn_e {B i : Nat} : B + 5 + 20 * i + 8 ≤ B + 5 + 20 * (i + 1) := by omega
theorem fin_b {B n : Nat} (h : n ≤ 21) : B + 5 + 20 * (n + 1 - 0) ≤ B + 1000 := by omega
theorem no_20 {i : Nat} (h : i ≠ 20) : (((0 + i : Nat) : Int) == 20) = false := by rw [beq_eq_false_iff_ne]; omega
theorem all_le {n k : Nat} (h : n ≤ 21) (h2 : k = n + 1 - 0) : k ≤ 22 := by omega
theorem c_stmt (w : World) (pd pl : Addr) (B : Nat) (hB : B ≤ 80000) : CtrS w 20 394 pd pl [.ref pd] B (B + 1000) := by
  walk_at "m enterS"
  intro dp un gd outer mean mg mb base s L h₁ tk g od ol hdp hun XB TB hbs hff X T hg hne hP hlt htk F N
  have hneN := neN hne
  have hneN' := neN (Ne.symm hne)
  have hlt1 := ltN hlt.1
  have hlt2 := ltN hlt.2
  walk_at "m steps"
  rename (_ ∈ cnts) => hcnt
  rename (_ < (4 : Int)) => h4
  with_reducible rename Fr _ _ _ _ => F
  with_reducible rename News _ _ _ _ => N
  with_reducible rename Pu _ _ _ _ _ => P
  refine' slice3 F N (News.isList N ?m1) h4 ?_ ?m3
  case m1 => k_mem
  case m3 => with_unfolding_all exact rfl
  intro o h' vs hvs hvl F N hlo
  have hlo' := allLt_of hlo
  simp only [AllLt] at hlo'
  obtain ⟨_, _, o1, o2, _⟩ := hlo'
  have N3 : News _ _ _ [_, _, _] := fun p hp => N p (by
    rcases List.mem_cons.mp hp with rfl | hp
    · exact List.mem_cons_self ..
    · exact List.mem_cons_of_mem _ (List.mem_cons_of_mem _ (List.mem_cons_of_mem _ hp)))
  clear N hlo
  walk_at "m steps"
  rename IsRange _ _ _ _ _ _ _ _ => R
  with_reducible rename Fr _ _ _ _ => F
  with_reducible rename News _ _ _ _ => N
  with_reducible rename Pu _ _ _ _ _ => P
  rename (_ < (23 : Int)) => h23
  rename (_ < (24 : Int)) => h24
  rename (_ < (99999 : Int)) => hlab
  have hvl2 : vs.length = (List.take _ [Str.ofString "C", Str.ofString "*", Str.ofString ""]).length := hvs.length
  rw [hvl2] at F
  generalize hP0 : List.take _ [Str.ofString "C", Str.ofString "*", Str.ofString ""] = P0 at *
  have hPh : ∀ p ∈ P0, p ∈ heads := fun p hp => by rw [← hP0] at hp; exact List.mem_of_mem_take hp
  have hcb : ∀ n ∈ cnts, n ≤ 21 := by decide
  have hP3 : P0.length ≤ 3 := by rw [← hvl2]; exact hvl
  have hcnt21 := hcb _ hcnt
  refine for_rangeN 0 (_ + 1) (h₀ := g) (L := L) rfl R (by omega) (by omega) F N (SI w pd pl (B + 5) _ _ _ _ P0 _ _ _ _ _)
    ⟨[], _, vs, _, _, _, _, _, _, rfl, ⟨by omega, by omega⟩, (by simpa [rowsG] using hvs), rfl, trivial, P, rfl, rfl, rfl, rfl, rfl, rfl, rfl, rfl, rfl, rfl, trivial⟩ ?_ ?_ PassesOwn.never
  · rintro i u m nx h tk I oI hi ⟨ts, o, vs, n, od, ol, t1, t2, t3, rfl, ho, hvs, hts, hok, P, hm⟩ hn F N
    have hn' := hn
    simp only [List.forall_mem_cons] at hn'
    have m1 := neN hn'.1
    have m2 := neN hn'.2.1
    have m3 := neN hn'.2.2.1
    clear hn'
    (try dsimp only at m1 m2 m3)
    have o1 := ho.1
    have o2 := ho.2
    have le0 : (Str.ofString "").length ≤ 0 := by decide +kernel
    have le1 : (Str.ofString " ").length ≤ 1 := by decide +kernel
    have le2 : (Str.ofString "=").length ≤ 1 := by decide +kernel
    have le3 : (Str.ofString "+").length ≤ 1 := by decide +kernel
    have le4 : (Str.ofString "1.0+").length ≤ 4 := by decide +kernel
    have le5 : (Str.ofString "5").length ≤ 1 := by decide +kernel
    have le7 : (Str.ofString "7").length ≤ 1 := by decide +kernel
    have le9 : figs70.length ≤ 70 := by decide +kernel
    have hi21 : i ≤ 21 := turn_le hcnt21 hi
    clear hi
    have g0 := turn_b hB hi21
    have g1 := turn_c hB hi21
    have g2 := turn_d hB hi21
    have htl : ts.length ≤ 22 := by rw [hts]; exact Nat.le_succ_of_le hi21
    have hvb : vs.length ≤ 60 := strs_bound hvs hP3 htl
    have hWT := sums_len hcnt (ts := ts) htl
    have hWl := hWT.1
    have hTl := hWT.2
    have F := knows F hm
    refine assign_name F N rfl rfl fun h' F N => ?_
    k_fold
    have hsl := spT_len i
    walk_at "m steps"
    with_reducible rename Fr _ _ _ _ => F
    with_reducible rename News _ _ _ _ => N
    with_reducible rename Pu _ _ _ _ _ => P
    have N2 := news_out (news_out (news_out N))
    clear N
    rename Nm _ => hNm
    rename (List.length _ ≤ 4) => hal
    refine cut4 (g := g) (L := L) (pl := pl) (s := s) hm [(I, oI), (o, listOf vs.toArray n)] (B + 5 + 20 * i + 7) i u ?_ fun f s' hf => ?_
    · refine wpAny_If ?_
      walk_at "m steps"
      · with_reducible rename Fr _ _ _ _ => F
        with_reducible rename News _ _ _ _ => N
        with_reducible rename Pu _ _ _ _ _ => P
        rename (_ < (7 : Int)) => h7
        obtain ⟨u', hu, e1, e2⟩ := uw_ok (i := i) hNm hal h7
        rw [e1, e2] at F
        exact ⟨rfl, _, _, _, _, _, u', _, _, rfl, F, N, P.mono (by walk_at "m nat"), hu, rfl, rfl, rfl, rfl, rfl, rfl, rfl, rfl, rfl, rfl, rfl, rfl, rfl, trivial⟩
      · with_reducible rename Fr _ _ _ _ => F
        with_reducible rename News _ _ _ _ => N
        with_reducible rename Pu _ _ _ _ _ => P
        obtain ⟨u', hu, e1, e2⟩ := un_ok (i := i) hNm hal
        rw [e1, e2] at F
        exact ⟨rfl, _, _, _, _, _, u', _, _, rfl, F, N, P.mono (by walk_at "m nat"), hu, rfl, rfl, rfl, rfl, rfl, rfl, rfl, rfl, rfl, rfl, rfl, rfl, rfl, trivial⟩
    clear N2
    obtain ⟨rfl, h', tk', m', od', ol', u', tb', tg', rfl, F, N, P, hu, hm⟩ := hf
    dsimp only [List.cons_append, List.nil_append] at N
    have F := knows F hm
    have hul := hu.len
    have hl1 : (tx u').length ≤ 70 := by rw [len_tx]; exact hul
    have hl2 : (tx ((u'.map capN).take 66)).length ≤ 66 := by rw [len_tx, List.length_take]; exact Nat.min_le_left ..
    walk_at "m steps"
    refine cut6 (g := g) (L := L) (s := s) [(I, oI), (o, listOf vs.toArray n), (pd, od'), (pl, ol')] hm ?_ fun f s' hf => ?_
    · refine wpAny_If ?_
      walk_at "m steps"
      · with_reducible rename Fr _ _ _ _ => F
        with_reducible rename News _ _ _ _ => N
        rename (_ < (_ : Int)) => hlt'
        rw [body_lt (lt_t hlt'), great_lt (lt_t hlt')] at F
        exact ⟨rfl, _, _, _, _, _, rfl, F, N, rfl, rfl, rfl, rfl, rfl, rfl, rfl, rfl, rfl, rfl, rfl, rfl, rfl, trivial⟩
      · with_reducible rename Fr _ _ _ _ => F
        with_reducible rename News _ _ _ _ => N
        rename (¬ _ < (_ : Int)) => hlt'
        rw [great_ge (lt_f hlt'), body_ge' (lt_f hlt')] at F
        exact ⟨rfl, _, _, _, _, _, rfl, F, N, rfl, rfl, rfl, rfl, rfl, rfl, rfl, rfl, rfl, rfl, rfl, rfl, rfl, trivial⟩
    obtain ⟨rfl, h', tk', m', tb', tg', rfl, F, N, hm⟩ := hf
    have F := knows F hm
    have hl1 := body_len hcnt i hul
    have hl2 := great_len hcnt i u'
    walk_at "m steps"
    with_reducible rename Fr _ _ _ _ => F
    with_reducible rename News _ _ _ _ => N
    refine cut7 (s := s) (i := i) (u := u') F N hcnt ?_ fun v s' hv hyl => ?_
    · refine IfExp_ ?_
      walk_at "m steps"
      · with_reducible rename Fr _ _ _ _ => F
        with_reducible rename News _ _ _ _ => N
        rename (_ = tx (List.replicate _ 32)) => hy
        rename (_ < (_ : Int)) => hlt'
        exact ⟨_, _, _, by rw [hy, pad_lt (lt_t hlt')], rfl, F, N⟩
      · with_reducible rename Fr _ _ _ _ => F
        with_reducible rename News _ _ _ _ => N
        rename (¬ _ < (_ : Int)) => hlt'
        exact ⟨_, _, _, by rw [← pad_ge (lt_f hlt')], rfl, F, N⟩
    clear F N
    obtain ⟨t', h', tk, rfl, rfl, F, N⟩ := hv
    walk_at "m steps"
    with_reducible rename Fr _ _ _ _ => F
    with_reducible rename News _ _ _ _ => N
    refine cut8 (s := s) (i := i) [(Str.ofString "body", _), (Str.ofString "turn", _), (Str.ofString "purse", _), (Str.ofString "count", _), (Str.ofString "label", _), (Str.ofString "rows", _), (Str.ofString "line", _), (Str.ofString "wide", _), (Str.ofString "gap", _), (Str.ofString "whole", _), (Str.ofString "told", _), (Str.ofString "last", _)] F N h24 ⟨rfl, rfl, rfl, rfl, rfl, rfl, rfl, rfl, rfl, rfl, rfl, rfl, trivial⟩ ?_ fun f s' hf => ?_
    · refine wpAny_If ?_
      walk_at "m steps"
      · with_reducible rename Fr _ _ _ _ => F
        with_reducible rename News _ _ _ _ => N
        simp only [List.push_toArray] at N
        rename ((_ == _) = true) => hgp
        exact ⟨rfl, _, _, _, vs ++ [_], _, rfl, F, N, by simp, .inl ⟨gap_t hgp rfl, _, rfl⟩, rfl, rfl, rfl, rfl, rfl, rfl, rfl, rfl, rfl, rfl, rfl, rfl, trivial⟩
      · with_reducible rename Fr _ _ _ _ => F
        with_reducible rename News _ _ _ _ => N
        rename ((_ == _) = false) => hgp
        exact ⟨rfl, _, _, _, vs, _, rfl, F, N, Nat.le_succ _, .inr ⟨gap_f hgp rfl, rfl⟩, rfl, rfl, rfl, rfl, rfl, rfl, rfl, rfl, rfl, rfl, rfl, rfl, trivial⟩
    clear F N
    obtain ⟨rfl, h', tk, m', mv, n', rfl, F, N, hmvl, hmv, hm⟩ := hf
    have F := knows F hm
    have hmvb : mv.length ≤ 61 := Nat.le_trans hmvl (Nat.succ_le_succ hvb)
    walk_at "m steps"
    with_reducible rename Fr _ _ _ _ => F
    with_reducible rename News _ _ _ _ => N
    refine cut9 (s := s) (i := i) (B := B + 5 + 20 * i + 8) (pre := [(I, oI), (o, listOf mv.toArray n')]) F N ?_ fun v s' hv => ?_
    · refine IfExp_ ?_
      walk_at "m steps"
      · with_reducible rename Fr _ _ _ _ => F
        with_reducible rename News _ _ _ _ => N
        with_reducible rename Pu _ _ _ _ _ => P
        rename (_ < (10 : Int)) => h2
        rename ((0 : Int) < ((0 + i : Nat) : Int)) => hp
        exact ⟨_, _, _, _, _, mk1 _, by rw [(item_m1 h2).1], rfl, F, N, P.mono (Nat.le_refl _), (item_m1 h2).2 i (pos_of hp)⟩
      · with_reducible rename Fr _ _ _ _ => F
        with_reducible rename News _ _ _ _ => N
        with_reducible rename Pu _ _ _ _ _ => P
        rename (_ < (2 : Int)) => h2
        rename (¬ (0 : Int) < ((0 + i : Nat) : Int)) => hp
        exact ⟨_, _, _, _, _, mk0 _, by rw [(item_m0 h2).1], rfl, F, N, P.mono (Nat.le_refl _), by rw [nil_of hp]; exact (item_m0 h2).2⟩
    clear F N P
    obtain ⟨t', h', tk, od', ol', mk, rfl, rfl, F, N, P, hmk⟩ := hv
    dsimp only [List.cons_append, List.nil_append] at N
    have h1l := one_len mk
    have h5l := five_len' hlab i
    walk_at "m steps"
    with_reducible rename Fr _ _ _ _ => F
    with_reducible rename News _ _ _ _ => N
    (try simp only [List.push_toArray] at N)
    refine wpAny_If ?_
    rcases Decidable.em (i = 20) with hi20 | hi20
    · have h20 : (((0 + i : Nat) : Int) == 20) = true := by rw [hi20]; rfl
      walk_at "m steps"
      with_reducible rename Fr _ _ _ _ => F
      with_reducible rename News _ _ _ _ => N
      exact si_end hts F (news_out N) ⟨m1, m2, m3⟩ ho hvs hmv row_any hu hmk hok (P.mono turn_e) ((whole_any (mk := mk) hts)) ((told_any (mk := mk) hts)) (last_any hvs hts hi20 hmv) ⟨rfl, rfl, rfl, rfl, rfl, rfl, rfl, rfl, rfl, rfl, trivial⟩
    · have h20 : (((0 + i : Nat) : Int) == 20) = false := no_20 hi20
      walk_at "m steps"
      with_reducible rename Fr _ _ _ _ => F
      with_reducible rename News _ _ _ _ => N
      exact si_end hts F (news_out N) ⟨m1, m2, m3⟩ ho hvs hmv row_any hu hmk hok (P.mono turn_e) ((whole_any (mk := mk) hts)) ((told_any (mk := mk) hts)) (last_same (fun q => hi20 (hts.symm.trans q))).symm ⟨rfl, rfl, rfl, rfl, rfl, rfl, rfl, rfl, rfl, rfl, trivial⟩
  · rintro m nx h tk ⟨ts, o, vs, n, od, ol, t1, t2, t3, rfl, ho, hvs, hts, hok, P, hm⟩ F N
    have F := knows F hm
    have o1 := ho.1
    have o2 := ho.2
    have hvb : vs.length ≤ 60 := strs_bound hvs hP3 (all_le hcnt21 hts)
    have K := facts_of hlab hPh hP3 hts hcnt21 hok hvs
    have hWT := K.whole
    have hWl := hWT.1
    have hTl := hWT.2
    have le8 : (Str.ofString "\n      END\n").length ≤ 11 := by decide +kernel
    walk_at "m steps"
    refine cut5 (g := g) (L := L) (pl := pl) (s := s) (o := o) (od := od) (ol := ol) (vs := vs) (n := n) hm ?_ fun f s' hf => ?_
    · refine wpAny_If ?_
      walk_at "m steps"
      · with_reducible rename Fr _ _ _ _ => F
        with_reducible rename News _ _ _ _ => N
        rename ((_ == _) = true) => hg0
        exact ⟨rfl, _, _, _, _, _, rfl, F, N, line_t hg0, rfl, rfl, rfl, rfl, rfl, rfl, rfl, rfl, rfl, rfl, trivial⟩
      · with_reducible rename Fr _ _ _ _ => F
        with_reducible rename News _ _ _ _ => N
        rename ((_ == _) = false) => hg0
        exact ⟨rfl, _, _, _, _, _, rfl, F, N, line_f hg0, rfl, rfl, rfl, rfl, rfl, rfl, rfl, rfl, rfl, rfl, trivial⟩
    · obtain ⟨rfl, h', tk', m', ln, tn', rfl, F, N, rfl, hm⟩ := hf
      have F := knows F hm
      walk_at "m steps"
      refine join_rows K (News.isList N (by k_mem)) hvs fun x t' k hx hxl => ?_
      walk_at "m steps"
      rw [hx]
      with_reducible rename Fr _ _ _ _ => F
      with_reducible rename News _ _ _ _ => N
      rcases cnt_19 hcnt with hc | hc
      · refine CtrL.use (heard_ok w _ K hc hvs.length) F N X T (by walk_at "m room") (by walk_at "m room") trivial fun i h' tk' F N hne hR => ?_
        obtain ⟨f0, n0, j1, j2⟩ := i
        dsimp only [List.cons_append, List.nil_append] at N hne F
        walk_at "m steps"
        refine wpAny_If ?_
        walk_at "m steps"
        with_reducible rename News _ _ _ _ => N
        refine eq_dat N (by k_mem) (by k_mem) (by k_mem) (by k_mem) (by k_mem) (by k_mem) (str_ok (whole_sgn K.all)) (by decide +kernel) (by show un + 64 < 9900; exact Nat.lt_trans (lt_room hun (by decide)) (by decide)) ?_
        walk_at "m steps"
        refine Ctr.use (squeezed_ok w _ K) (by k_asm) N X T (by walk_at "m room") (by walk_at "m room") trivial fun i h' tk' F N hs' hR' => ?_
        walk_at "m steps"
        · with_reducible rename Fr _ _ _ _ => F
          with_reducible rename News _ _ _ _ => N
          refine Ctr.use (classify_ok w _ K) F N X T (by walk_at "m room") (by walk_at "m room") trivial fun i h' tk' F N hs' hR' => ?_
          walk_at "m steps"
          with_reducible rename Fr _ _ _ _ => F
          with_reducible rename News _ _ _ _ => N
          rw [beq_self_eq_true]
          exact ⟨g, _, _, _, _, rfl, rfl, (by rw [← hg]; exact KtsTurn.refl), F.keep, (N (pd, od) (by k_mem)).1, (N (pl, ol) (by k_mem)).1, P.mono (fin_b hcnt21)⟩
        · with_reducible rename Fr _ _ _ _ => F
          with_reducible rename News _ _ _ _ => N
          rw [beq_self_eq_true]
          exact ⟨g, _, _, _, _, rfl, rfl, (by rw [← hg]; exact KtsTurn.refl), F.keep, (N (pd, od) (by k_mem)).1, (N (pl, ol) (by k_mem)).1, P.mono (fin_b hcnt21)⟩
      · refine CtrH.use (heard_bad w _ K hc) F N XB TB hbs hff rfl (by walk_at "m room") (by walk_at "m room") fun t g' h' tk' Tn X' T' F N => ?_
        walk_at "m steps"
        refine wpAny_If ?_
        walk_at "m steps"
        with_reducible rename Fr _ _ _ _ => F
        with_reducible rename News _ _ _ _ => N
        rw [beq_self_eq_true]
        exact ⟨_, _, _, _, _, rfl, rfl, hg ▸ Tn, F.keep, (N (pd, od) (by k_mem)).1, (N (pl, ol) (by k_mem)).1, P.mono (fin_b hcnt21)⟩

end

theorem regc20 : True := by
  k_with_none
  k_with "m cases" => ((case zqho => k_is); (case zqhcd => k_is); (case zqhb => exact rfl); (case zqhlk => simp only [List.map_cons, List.map_nil, List.zip_cons_cons, List.zip_nil_left, List.zip_nil_right, List.reverse_cons, List.reverse_nil, List.nil_append, List.cons_append]; exact rfl); (case zqhl => exact locs rfl); (case zqc1 => exact rfl); (case zqc2 => exact rfl); (case zqc3 => exact rfl); (case zqc4 => decide))
  k_with "m room" => first | with_reducible assumption | exact lt_room (by with_reducible assumption) (by decide) | omega
  k_with "m nat" => first | with_reducible assumption | exact Nat.le_refl _ | exact Nat.le_succ _ | exact Nat.le_trans (by with_reducible assumption) (by decide) | exact Nat.le_trans (Nat.add_le_add_right (by with_reducible assumption) _) (by decide) | decide | omega
  k_with "m lt" => first | assumption | exact And.left (by assumption) | exact And.left (And.right (by assumption)) | exact And.left (And.right (And.right (by assumption))) | exact And.left (And.right (And.right (And.right (by assumption)))) | exact And.left (And.right (And.right (And.right (And.right (by assumption))))) | exact And.left (And.right (And.right (And.right (And.right (And.right (by assumption)))))) | exact And.left (And.right (And.right (And.right (And.right (And.right (And.right (by assumption))))))) | exact And.left (And.right (And.right (And.right (And.right (And.right (And.right (And.right (by assumption)))))))) | exact And.right (by assumption) | exact And.right (And.right (by assumption)) | exact And.right (And.right (And.right (by assumption))) | exact And.right (And.right (And.right (And.right (by assumption)))) | exact And.right (And.right (And.right (And.right (And.right (by assumption))))) | exact And.right (And.right (And.right (And.right (And.right (And.right (by assumption)))))) | exact And.right (And.right (And.right (And.right (And.right (And.right (And.right (by assumption)))))))
  k_with "m enter" => (refine' Ctr.enter ?zqho ?zqhcd ?zqhb ?zqhlk ?zqhl ?zqc1 ?zqc2 ?zqc3 ?zqc4 ?_; (k_extra "m cases"))
  k_with "m enterP" => (refine' CtrP.enter ?zqho ?zqhcd ?zqhb ?zqhlk ?zqhl ?zqc1 ?zqc2 ?zqc3 ?zqc4 ?_; (k_extra "m cases"))
  k_with "m enterT" => (refine' Ctr.enterT ?zqho ?zqhcd ?zqhb ?zqhlk ?zqhl ?zqc1 ?zqc2 ?zqc3 ?zqc4 ?_; (k_extra "m cases"))
  k_with "m init" => ((case zqhm => k_is); (case zqhi => k_is); (case zqhf => k_is); (case zqho => k_is); (case zqhcd => k_is); (case zqhb => (intro _ _ zX; first | exact BindsTo.of_eq rfl | exact binds_K zX rfl (by k_is) rfl rfl rfl)); (case zqhlk => (intro _; exact rfl)); (case zqhl => (intro _; exact locs rfl)); (case zqc1 => exact rfl); (case zqc2 => exact rfl); (case zqc3 => exact rfl); (case zqc4 => decide))
  k_with "m star" => with_reducible (first | exact st_Name | exact st_Constant | exact st_BinOp | exact st_Call | exact st_Subscript | exact st_Attribute | exact st_UnaryOp | exact st_Tuple | exact st_List)
  k_with "m plain" => first | with_reducible exact pl_nil | (with_reducible refine' pl_cons ?zqp1 ?zqp2; (case zqp1 => k_extra "m star"); (case zqp2 => k_extra "m plain"))
  k_with "execs cons" => (refine execs_seal ?_; intro _ _)
  k_with "exec If" => with_reducible refine wpAny_If ?_
  k_with "execs nil" => with_reducible refine wpAny_execs_nil ?_
  k_with "m open" => with_reducible (first | refine SealS.next (by assumption) ?_ | refine SealS.ret (by assumption) ?_ | refine SealS.brk (by assumption) ?_ | refine SealS.cont (by assumption) ?_)
  k_with "m steps" => ((repeat' (first | (k_unfold; (try dsimp only)) | walk1 | k_extra "m open" | (dsimp only; walk1) | fail "no step")) <;> (try dsimp only) <;> (try k_unfold) <;> (try dsimp only [ForStep, WhileStep2]) <;> (repeat (with_reducible refine SealS.ret (by assumption) ?_)))
  k_with "exec For Name Name cons nil" => ((with_reducible refine' for_start ?_ ?zqhs); (case zqhs => (intro _; k_dflt (exact rfl))))
  k_with "exec For Name Call cons nil" => ((with_reducible refine' for_start ?_ ?zqhs); (case zqhs => (intro _; k_dflt (exact rfl))))
  k_with "exec For Tuple Name cons nil" => ((with_reducible refine' for_start ?_ ?zqhs); (case zqhs => (intro _; k_dflt (exact rfl))))
  k_with "exec For Tuple Call cons nil" => ((with_reducible refine' for_start ?_ ?zqhs); (case zqhs => (intro _; k_dflt (exact rfl))))
  k_with "pyIter ref" => ((with_reducible show wpAny _ _ (pyIter _) (fun it s₂ => ForGo _ _ _ _ _ _ _ _ it s₂) _ _); refine stop_here ?_)
  k_with "pyIter str" => ((with_reducible show wpAny _ _ (pyIter _) (fun it s₂ => ForGo _ _ _ _ _ _ _ _ it s₂) _ _); refine stop_here ?_)
  k_with "exec While Compare cons nil" => refine stop_here ?_
  k_with "exec While BoolOp cons nil" => refine stop_here ?_
  k_with "callWith" => ((with_reducible refine' callWith_method1 ?_ ?zqm2 ?zqm3); (case zqm2 => k_extra "m star"); (case zqm3 => k_extra "m plain"))
  k_with "callWith" => ((with_reducible refine' PyProof.Rows.callWith_builtin1 ?_ ?zqm2 ?zqm3); (case zqm2 => k_extra "m star"); (case zqm3 => k_extra "m plain"))
  k_with "callWith" => with_reducible refine callWith_method0 ?_
  k_with "eval Call Attribute" => ((with_reducible refine' MethodCall_ ?_ ?zqm2); (case zqm2 => k_dflt (exact rfl)))
  k_with "eval Call Name" => ((with_reducible refine' Call_ ?_ ?zqm2); (case zqm2 => k_dflt (exact rfl)))
  k_with "exec Assign cons" => ((with_reducible refine' wpAny_Assign_Name ?_ ?zqm2); (case zqm2 => k_dflt (exact rfl)))
  k_with "ite" => first | with_reducible refine ite_tt ?_ | with_reducible refine ite_ff ?_ | (with_reducible refine split_39 ?_ ?_ <;> intro _) | (with_reducible refine split_40 ?_ ?_ <;> intro _) | (with_reducible refine split_41 ?_ ?_ <;> intro _) | (with_reducible refine split_44 ?_ ?_ <;> intro _) | (with_reducible refine split_61 ?_ ?_ <;> intro _) | (with_reducible refine split_32 ?_ ?_ <;> intro _) | with_reducible refine split_end (fun _ => ?_) (fun _ _ _ => ?_) | with_reducible refine split_emp (fun _ => ?_) (fun _ => ?_) | (with_reducible refine split_nb ?_ ?_ <;> intro _) | (with_reducible refine dec_pos (by omega) ?_) | (with_reducible refine dec_neg (by omega) ?_) | (with_reducible refine PyProof.Rows.split_dec ?_ ?_ <;> intro _) | (with_reducible refine ite_pos (by with_reducible assumption) ?_) | (with_reducible refine ite_isFalse (by with_reducible assumption) ?_) | (with_reducible refine PyProof.Rows.split_bool ?_ ?_ <;> intro _)
  k_with "eval Name" => ((with_reducible refine' ld_fast ?zqk1 ?zqk2 ?zqk3 ?zqk4 ?zqk5 ?_); (case zqk1 => with_reducible assumption); (case zqk2 => k_dflt (exact rfl)); (case zqk3 => k_dflt (exact rfl)); (case zqk4 => k_dflt (exact rfl)); (case zqk5 => k_dflt (exact rfl)))
  k_with "compareOp In str str" => with_reducible (first | refine in_letters ?_ | refine in_digits ?_ | refine in_ahead ?_)
  k_with "compareOp NotIn str str" => with_reducible (refine notin_letters ?_)
  k_with "m item" => ((with_reducible show wpAny _ _ (subscriptTail _ _ (Value.str _ _) (Value.int _ _)) _ _ _); first | ((with_reducible refine' item_at ?zqm1 ?zqm2 ?_ ?zqm3 ?zqm4); (case zqm1 => with_reducible assumption); (case zqm2 => first | assumption | omega); (case zqm3 => with_unfolding_all exact rfl); (case zqm4 => (intro _; with_unfolding_all exact rfl))) | ((with_reducible refine' item_lt ?zqm1 ?zqm2 ?_ ?zqm3 ?zqm4); (case zqm1 => first | assumption | omega); (case zqm2 => first | assumption | omega); (case zqm3 => with_unfolding_all exact rfl); (case zqm4 => (intro _; with_unfolding_all exact rfl)); (intro _ _)))
  k_with "subscriptTail Name Name str int" => k_extra "m item"
  k_with "subscriptTail Name BinOp str int" => k_extra "m item"
  k_with "m ret" => ((repeat (with_reducible refine SealS.ret (by assumption) ?_)); (with_reducible rename Fr _ _ _ _ => zF'); first | exact ⟨_, _, _, rfl, rfl, Fr.keep zF', trivial⟩ | exact ⟨(0 : Nat), _, _, rfl, rfl, Fr.keep zF', trivial⟩)
  k_with "subscriptTail Name Name ref int" => ((with_reducible show wpAny _ _ (subscriptTail _ _ (Value.ref _) (Value.int _ _)) _ _ _); (with_reducible rename IntsAre _ _ => zhI'); (refine' item_ints (News.isList (by with_reducible assumption) (by k_mem)) zhI' ?zqm1 ?zqm2 ?_ ?zqm3 ?zqm4); (case zqm1 => first | assumption | omega); (case zqm2 => first | assumption | omega); (case zqm3 => with_unfolding_all exact rfl); (case zqm4 => (intro _; with_unfolding_all exact rfl)); (intro _ _ _))
  k_with "m cl" => (simp only [Nat.zero_add, Int.toNat_natCast, beq_iff_eq, beq_eq_false_iff_ne, ne_eq, bne_iff_ne, bne_eq_false_iff_eq, Bool.not_eq_true] at *)
  k_with "m ifs" => ((repeat (first | rw [if_pos (by with_reducible assumption)] | rw [if_no (by with_reducible assumption)] | rw [if_neg (by with_reducible assumption)])); try (first | rfl | with_reducible assumption | (symm; with_reducible assumption)))
  k_with "m fin" => ((repeat (with_reducible refine SealS.ret (by assumption) ?_)); (with_reducible rename Fr _ _ _ _ => zF'); first | refine ret_str (Fr.keep zF') ?_ | refine ret_bool (Fr.keep zF') ?_ | refine ret_int (Fr.keep zF') ?_)
  k_with "m len" => first | exact Nat.le_trans (by with_reducible assumption) (by decide) | omega | (decide +kernel) | ((try simp only [Str.length_append, len_tx]); omega)
  k_with "binaryOp Add str str" => ((with_reducible show wpAny _ _ (binaryOp Operator.Add (Value.str _ _) (Value.str _ _)) _ _ _); (refine' add_txt ?zqkxaa ?zqkxab ?_; (case zqkxaa => k_extra "m len"); (case zqkxab => k_extra "m len")); intro _ _ _)
  k_with "inplaceOp Add str str" => ((with_reducible show wpAny _ _ (inplaceOp Operator.Add (Value.str _ _) (Value.str _ _)) _ _ _); (refine' iadd_txt ?zqkxaa ?zqkxab ?_; (case zqkxaa => k_extra "m len"); (case zqkxab => k_extra "m len")); intro _ _ _)
  k_with "setAttr ref" => (k_dflt (refine' set_dict ?zqk1 ?zqk2 ?zqk3 ?zqk4 ?zqk5 ?zqk6 ?zqk7 ?zqk8 ?zqk9 ?zqk10 ?zqk11 ?zqk12 ?zqk13 ?_; (case zqk1 => k_asm); (case zqk2 => k_asm); (case zqk3 => k_asm); (case zqk4 => k_inst); (case zqk5 => exact rfl); (case zqk6 => k_is); (case zqk7 => k_is); (case zqk8 => k_is); (case zqk9 => k_is); (case zqk10 => k_get); (case zqk11 => k_put); (case zqk12 => k_upd); (case zqk13 => exact Nat.le_of_ble_eq_true rfl); k_whole; intro _ _ _; (try k_sweep)))
  k_with "getAttr ref" => (k_dflt (refine' get_own ?zqk1 ?zqk2 ?zqk3 ?zqk4 ?zqk5 ?zqk6 ?zqk7 ?zqk8 ?zqk9 ?_; (case zqk1 => k_asm); (case zqk2 => k_asm); (case zqk3 => first | exact inst_base (by with_reducible assumption) (by k_asm) | k_inst); (case zqk4 => k_is); (case zqk5 => k_is); (case zqk6 => k_is); (case zqk7 => k_is); (case zqk8 => k_get); (case zqk9 => k_handed); k_whole))
  k_with "m side" => first | with_reducible assumption | decide | exact Nat.le_trans (by with_reducible assumption) (by decide) | omega | trivial | (simp only [Str.length_append, len_tx] at *; omega)
  k_with "m ctr" => ((case zqF => with_reducible assumption); (case zqN => with_reducible assumption); (case zqX => with_reducible assumption); (case zqT => with_reducible assumption); (case zqd => k_extra "m room"); (case zqu => k_extra "m room"))
  k_with "call ref" => ((with_reducible show wpAny _ _ (call (Value.ref 219) _) _ _ _); refine' CtrN.use (c_depths _ _ _ ?zqh) ?zqF ?zqN ?zqX ?zqT ?zqd ?zqu ?zqp ?_; (case zqh => (k_extra "m side")); (case zqp => trivial); (k_extra "m ctr"); intro _ ⟨_, _⟩ _ _ _ zN' zhne' zhR'; (try dsimp only at zN' zhR' zhne'))
  k_with "call ref" => ((with_reducible show wpAny _ _ (call (Value.ref 281) _) _ _ _); refine' Ctr.use (c_digits_end _ _ _ _ _ ?zqh) ?zqF ?zqN ?zqX ?zqT ?zqd ?zqu ?zqp ?_; (case zqh => (k_extra "m side")); (case zqp => trivial); (k_extra "m ctr"); intro _ _ _ _ _ _ _)
  k_with "call ref" => ((with_reducible show wpAny _ _ (call (Value.ref 274) _) _ _ _); refine' Ctr.use (c_name_end _ _ _ _ _ ?zqh) ?zqF ?zqN ?zqX ?zqT ?zqd ?zqu ?zqp ?_; (case zqh => (k_extra "m side")); (case zqp => trivial); (k_extra "m ctr"); intro _ _ _ _ _ _ _)
  k_with "call ref" => ((with_reducible show wpAny _ _ (call (Value.ref 226) _) _ _ _); refine' Ctr.use (c_closing _ _ _ _ _ ?zqh ?zqg) ?zqF ?zqN ?zqX ?zqT ?zqd ?zqu ?zqp ?_; (case zqh => (k_extra "m side")); (case zqg => (k_extra "m side")); (case zqp => trivial); (k_extra "m ctr"); intro _ _ _ _ _ _ _)
  k_with "call ref" => ((with_reducible show wpAny _ _ (call (Value.ref 288) _) _ _ _); refine' Ctr.use (c_is_target _ _ _ ?zqh) ?zqF ?zqN ?zqX ?zqT ?zqd ?zqu ?zqp ?_; (case zqh => (k_extra "m side")); (case zqp => trivial); (k_extra "m ctr"); intro _ _ _ _ _ _ _)
  k_with "call ref" => ((with_reducible show wpAny _ _ (call (Value.ref 295) _) _ _ _); (with_reducible rename IntsAre _ _ => zhI'); refine' Ctr.use (c_is_balanced _ _ _ _ _ _ zhI' ?zqh) ?zqF ?zqN ?zqX ?zqT ?zqd ?zqu ?zqp ?_; (case zqh => (k_extra "m side")); (case zqp => exact News.get (by with_reducible assumption) (by k_mem)); (k_extra "m ctr"); intro _ _ _ _ _ _ _)
  k_with "call ref" => ((with_reducible show wpAny _ _ (call (Value.ref 302) _) _ _ _); (with_reducible rename IntsAre _ _ => zhI'); refine' CtrN.use (c_equals_at _ _ _ _ _ _ zhI' ?zqh) ?zqF ?zqN ?zqX ?zqT ?zqd ?zqu ?zqp ?_; (case zqh => (k_extra "m side")); (case zqp => exact News.get (by with_reducible assumption) (by k_mem)); (k_extra "m ctr"); intro _ _ _ _ _ zN' zhne' _; (try dsimp only at zN' zhne'))
  k_with "call ref" => ((with_reducible show wpAny _ _ (call (Value.ref 309) _) _ _ _); refine' Ctr.use (c_is_do_head _ _ _ ?zqh) ?zqF ?zqN ?zqX ?zqT ?zqd ?zqu ?zqp ?_; (case zqh => (k_extra "m side")); (case zqp => trivial); (k_extra "m ctr"); intro _ _ _ _ _ _ _)
  k_with "call ref" => ((with_reducible show wpAny _ _ (call (Value.ref 323) _) _ _ _); refine' Ctr.use (c_word_of_goto _ _ _ ?zqh) ?zqF ?zqN ?zqX ?zqT ?zqd ?zqu ?zqp ?_; (case zqh => (k_extra "m side")); (case zqp => trivial); (k_extra "m ctr"); intro _ _ _ _ _ _ _)
  k_with "call ref" => ((with_reducible show wpAny _ _ (call (Value.ref 316) _) _ _ _); refine' Ctr.use (c_word_of_if _ _ _ ?zqh) ?zqF ?zqN ?zqX ?zqT ?zqd ?zqu ?zqp ?_; (case zqh => (k_extra "m side")); (case zqp => trivial); (k_extra "m ctr"); intro _ _ _ _ _ _ _)
  k_with "call ref" => ((with_reducible show wpAny _ _ (call (Value.ref 337) _) _ _ _); refine' Ctr.use (c_word_by_begin _ _ _ ?zqh ?zqg) ?zqF ?zqN ?zqX ?zqT ?zqd ?zqu ?zqp ?_; (case zqh => (k_extra "m side")); (case zqg => (k_extra "m wb")); (case zqp => trivial); (k_extra "m ctr"); intro _ _ _ _ _ _ _)
  k_with "call ref" => ((with_reducible show wpAny _ _ (call (Value.ref 344) _) _ _ _); refine' Ctr.use (c_classify _ _ _ ?zqh ?zqg) ?zqF ?zqN ?zqX ?zqT ?zqd ?zqu ?zqp ?_; (case zqh => (k_extra "m side")); (case zqg => (k_extra "m cls")); (case zqp => trivial); (k_extra "m ctr"); intro _ _ _ _ _ _ _)
  k_with "ite" => with_reducible (first | refine ite_nemp ?_ | refine ite_ee ?_ | refine ite_nee ?_)
  k_with "call ref" => ((with_reducible show wpAny _ _ (call (Value.ref 212) _) _ _ _); refine' Ctr.use (c_squeezed _ _ _ ?zqh ?zqg) ?zqF ?zqN ?zqX ?zqT ?zqd ?zqu ?zqp ?_; (case zqh => (k_extra "m side")); (case zqg => (k_extra "m sq")); (case zqp => trivial); (k_extra "m ctr"); intro _ _ _ _ _ _ _)
  k_with "m ctrP" => ((case zqF => with_reducible assumption); (case zqN => with_reducible assumption); (case zqX => with_reducible assumption); (case zqT => with_reducible assumption); (case zqd => k_extra "m room"); (case zqu => k_extra "m room"); (case zqn => with_reducible assumption); (case zqP => with_reducible assumption))
  k_with "m ne2" => (exact ⟨by k_ne, by k_ne⟩)
  k_with "call ref" => ((with_reducible show wpAny _ _ (call (Value.ref 373) _) _ _ _); (first | (refine' CtrP.use0 (c_figI _ _ _ _ _ _ ?zqa ?zqb ?zqc) ?zqF ?zqN ?zqX ?zqT ?zqd ?zqu ?zqn ?zqP ?_; (k_extra "m ctrP")) | (refine' CtrP.use1 (c_figI _ _ _ _ _ _ ?zqa ?zqb ?zqc) ?zqF ?zqN ?zqX ?zqT ?zqd ?zqu ?zqn ?zqP ?zqh1 ?_; (k_extra "m ctrP"); (case zqh1 => k_extra "m ne2")) | (refine' CtrP.use2 (c_figI _ _ _ _ _ _ ?zqa ?zqb ?zqc) ?zqF ?zqN ?zqX ?zqT ?zqd ?zqu ?zqn ?zqP ?zqh1 ?zqh2 ?_; (k_extra "m ctrP"); (case zqh1 => k_extra "m ne2"); (case zqh2 => k_extra "m ne2")) | (refine' CtrP.use3 (c_figI _ _ _ _ _ _ ?zqa ?zqb ?zqc) ?zqF ?zqN ?zqX ?zqT ?zqd ?zqu ?zqn ?zqP ?zqh1 ?zqh2 ?zqh3 ?_; (k_extra "m ctrP"); (case zqh1 => k_extra "m ne2"); (case zqh2 => k_extra "m ne2"); (case zqh3 => k_extra "m ne2"))); (case zqa => k_extra "m nat"); (case zqb => k_extra "m nat"); (case zqc => k_extra "m nat"); intro ⟨_, _⟩ _ _ _ _ _ _ _ zhR'; (dsimp only at zhR'); (try dsimp only))
  k_with "call ref" => ((with_reducible show wpAny _ _ (call (Value.ref 362) _) _ _ _); refine' CtrL.use (c_Limits _) ?zqF ?zqN ?zqX ?zqT ?zqd ?zqu ?zqp ?_; (case zqp => trivial); (k_extra "m ctr"); intro ⟨_, _, _⟩ _ _ _ zN' zhne' _; (dsimp only [List.cons_append, List.nil_append] at zN'); (try (have za1 := neN (zhne' _ (List.mem_cons_self ..) _ (List.mem_cons_self ..)); try dsimp only at za1)); (try (have za2 := neN (zhne' _ (List.mem_cons_self ..) _ (List.mem_cons_of_mem _ (List.mem_cons_self ..))); try dsimp only at za2)); (try (have za3 := neN (zhne' _ (List.mem_cons_of_mem _ (List.mem_cons_self ..)) _ (List.mem_cons_self ..)); try dsimp only at za3)); (try (have za4 := neN (zhne' _ (List.mem_cons_of_mem _ (List.mem_cons_self ..)) _ (List.mem_cons_of_mem _ (List.mem_cons_self ..))); try dsimp only at za4)); (try dsimp only))
  k_with "call ref" => ((with_reducible show wpAny _ _ (call (Value.ref 89) _) _ _ _); refine' CtrL.use (c_Card _ _ _ _ _) ?zqF ?zqN ?zqX ?zqT ?zqd ?zqu ?zqp ?_; (case zqp => trivial); (k_extra "m ctr"); intro ⟨_, _, _⟩ _ _ _ zN' zhne' _; (dsimp only [List.cons_append, List.nil_append] at zN'); (try (have za1 := neN (zhne' _ (List.mem_cons_self ..) _ (List.mem_cons_self ..)); try dsimp only at za1)); (try (have za2 := neN (zhne' _ (List.mem_cons_self ..) _ (List.mem_cons_of_mem _ (List.mem_cons_self ..))); try dsimp only at za2)); (try (have za3 := neN (zhne' _ (List.mem_cons_of_mem _ (List.mem_cons_self ..)) _ (List.mem_cons_self ..)); try dsimp only at za3)); (try (have za4 := neN (zhne' _ (List.mem_cons_of_mem _ (List.mem_cons_self ..)) _ (List.mem_cons_of_mem _ (List.mem_cons_self ..))); try dsimp only at za4)); (try dsimp only))
  k_with "call ref" => ((with_reducible show wpAny _ _ (call (Value.ref 107) _) _ _ _); refine' Ctr.use (c_wb _ _ _ ?zqh) ?zqF ?zqN ?zqX ?zqT ?zqd ?zqu ?zqp ?_; (case zqh => (k_extra "m side")); (case zqp => trivial); (k_extra "m ctr"); intro _ _ _ _ _ _ _)
  k_with "call builtin:len" => ((with_reducible show wpAny _ _ (call (Value.builtin "len") [Value.ref _]) _ _ _); (refine' len_newsL ?zqn ?zqm ?zqb ?_; (case zqn => with_reducible assumption); (case zqm => k_mem); (case zqb => k_extra "m nat")))
  k_with "call ref" => ((with_reducible show wpAny _ _ (call (Value.ref 114) _) _ _ _); refine' Ctr.use (c_is_comment _ _ _ _ ?zqh) ?zqF ?zqN ?zqX ?zqT ?zqd ?zqu ?zqp ?_; (case zqh => (k_extra "m side")); (case zqp => trivial); (k_extra "m ctr"); intro _ _ _ _ _ _ _)
  k_with "call ref" => ((with_reducible show wpAny _ _ (call (Value.ref 142) _) _ _ _); refine' Ctr.use (c_padded _ _ _ _ ?zqh) ?zqF ?zqN ?zqX ?zqT ?zqd ?zqu ?zqp ?_; (case zqh => (k_extra "m side")); (case zqp => trivial); (k_extra "m ctr"); intro _ _ _ _ _ _ _)
  k_with "call ref" => ((with_reducible show wpAny _ _ (call (Value.ref 100) _) _ _ _); refine' CtrL.use (c_cards_of _ _ _ _ ?zqg ?zqh ?zqe) ?zqF ?zqN ?zqX ?zqT ?zqd ?zqu ?zqp ?_; (case zqg => with_reducible assumption); (case zqh => (k_extra "m side")); (case zqe => with_reducible assumption); (case zqp => trivial); (k_extra "m ctr"); intro _ _ _ _ _ _ _)
  k_with "call ref" => ((with_reducible show wpAny _ _ (call (Value.ref 121) _) _ _ _); refine' CtrL.use (c_read_cards _ _ _ _ _ _ _ ?zqg ?zqh ?zqe ?zqr) ?zqF ?zqN ?zqX ?zqT ?zqd ?zqu ?zqp ?_; (case zqg => with_reducible assumption); (case zqh => (k_extra "m side")); (case zqe => with_reducible assumption); (case zqr => with_reducible assumption); (case zqp => k_extra "m inst"); (k_extra "m ctr"); intro _ _ _ _ _ _ _)
  k_with "m inst" => first | with_reducible assumption | exact inst_base (by with_reducible assumption) (by k_asm) | k_inst
  k_with "call builtin:len" => ((with_reducible show wpAny _ _ (call (Value.builtin "len") [Value.ref _]) _ _ _); (refine' len_base ?zqn ?zqm ?zqb ?_; (case zqn => with_reducible assumption); (case zqm => k_asm); (case zqb => k_extra "m nat")))
  k_with "subscriptTail Name Name ref int" => ((refine' item_base ?zqn ?zqm ?zqb ?zqv ?_ ?zqs ?zqg); (case zqn => with_reducible assumption); (case zqm => k_asm); (case zqb => k_extra "m nat"); (case zqv => with_reducible assumption); (case zqs => with_unfolding_all exact rfl); (case zqg => (intro _; with_unfolding_all exact rfl)))
  k_with "subscriptTail Name Constant ref int" => ((refine' item_base0 ?zqn ?zqm ?zqv ?_ ?zqs ?zqg); (case zqn => with_reducible assumption); (case zqm => k_asm); (case zqv => with_reducible assumption); (case zqs => with_unfolding_all exact rfl); (case zqg => (intro _; with_unfolding_all exact rfl)))
  k_with "m inst" => first | with_reducible assumption | exact inst_base (by with_reducible assumption) (by k_asm) | k_inst
  k_with "call ref" => ((with_reducible show wpAny _ _ (call (Value.ref 135) _) _ _ _); refine' Ctr.use (c_read_label' _ _ ?zqh) ?zqF ?zqN ?zqX ?zqT ?zqd ?zqu ?zqp ?_; (case zqh => with_reducible assumption); (case zqp => k_extra "m inst"); (k_extra "m ctr"); intro _ _ _ _ _ _ _)
  k_with "call ref" => ((with_reducible show wpAny _ _ (call (Value.ref 128) _) _ _ _); refine' Ctr.use (c_is_continuation _ _) ?zqF ?zqN ?zqX ?zqT ?zqd ?zqu ?zqp ?_; (case zqp => k_extra "m inst"); (k_extra "m ctr"); intro _ _ _ _ _ _ _)
  k_with "m enterS" => (refine' CtrS.enter ?zqho ?zqhcd ?zqhb ?zqhlk ?zqhl ?zqc1 ?zqc2 ?zqc3 ?zqc4 ?_; (k_extra "m cases"))
  k_with "subscriptTail" => ((with_reducible show wpAny _ _ (subscriptTail _ _ (Value.ref _) (Value.int _ _)) _ _ _); (k_dflt (refine' item_cnt (News.isList ?zqm0 ?zqm1) ?zqm2 ?_ ?zqm3; (case zqm0 => with_reducible assumption); (case zqm1 => k_mem); (case zqm2 => omega); (case zqm3 => with_unfolding_all exact rfl))); (intro _ _ _))
  k_with "subscriptTail List Slice ref ref" => refine stop_here ?_
  k_with "subscriptTail Name Slice ref ref" => refine stop_here ?_
  k_with "call ref" => ((with_reducible show wpAny _ _ (call (Value.ref 380) _) _ _ _); (refine' called_use ?zqb ?zqF ?zqN ?zqX ?zqT ?zqd ?zqu ?zqn ?zqP ?zqh1 ?zqh2 ?_; (k_extra "m ctrP"); (case zqb => k_extra "m nat"); (case zqh1 => k_extra "m ne2"); (case zqh2 => k_extra "m ne2")); (intro _ _ _ _ _ _ _ _ _ _ _ _ _ _ _ _ _ _ _))
  k_with "subscriptTail" => ((with_reducible show wpAny _ _ (subscriptTail _ _ (Value.ref _) (Value.bool _)) _ _ _); (k_dflt (refine' item_dec (News.isList ?zqm0 ?zqm1) ?zqt1 ?zqt0 ?zqm3; (case zqm0 => with_reducible assumption); (case zqm1 => k_mem); (case zqm3 => with_unfolding_all exact rfl))); first | ((case zqt1 => (intro zhdec; exact absurd zhdec (by omega))); intro zhdec) | ((case zqt0 => (intro zhdec; exact absurd zhdec (by omega))); intro zhdec))
  k_with "subscriptTail Name Compare ref bool" => ((with_reducible show wpAny _ _ (subscriptTail _ _ (Value.ref _) (Value.bool _)) _ _ _); (k_dflt (refine' item_dec (News.isList ?zqm0 ?zqm1) ?zqt1 ?zqt0 ?zqm3; (case zqm0 => with_reducible assumption); (case zqm1 => k_mem); (case zqm3 => with_unfolding_all exact rfl))); first | ((case zqt1 => (intro zhdec; exact absurd zhdec (by omega))); intro zhdec) | ((case zqt0 => (intro zhdec; exact absurd zhdec (by omega))); intro zhdec))
  k_with "exec If" => refine stop_here ?_
  k_with "subscriptTail" => ((with_reducible show wpAny _ _ (subscriptTail _ (Expr.Slice none (some _) none _) (Value.str _ _) _) _ _ _); (with_reducible rename Fr _ _ _ _ => zF'); (with_reducible rename News _ _ _ _ => zN'); refine slice_strN_ns_len (s := ⟨_, _, _, _, _⟩) zF' zN' ?_; intro _ _ _ _ _ _)
  k_with "call type:str" => ((with_reducible show wpAny _ _ (call (Value.type "str") [Value.int _ _]) _ _ _); (refine' str_lab ?zqa ?_; (case zqa => with_reducible assumption)); intro _ _ _ _ _)
  k_with "binaryOp Mult str int" => ((with_reducible show wpAny _ _ (binaryOp Operator.Mult (Value.str (Str.ofString " ") _) (Value.int _ _)) _ _ _); (refine' mul_sp ?zqa ?zqb ?_; (case zqa => k_extra "m nat"); (case zqb => k_extra "m nat")); intro _ _ _ _ _)
  k_with "call builtin:len" => ((with_reducible show wpAny _ _ (call (Value.builtin "len") [Value.str _ _]) _ _ _); (refine' len_strS ?zqb ?_; (case zqb => k_extra "m len")))
  k_with "call builtin:list.append" => ((with_reducible show wpAny _ _ (call (Value.builtin "list.append") [Value.ref _, _]) _ _ _); k_dflt (refine' append_K ?zqk1 ?zqk2 ?zqk3 ?_ ?zqz; (case zqk1 => with_reducible assumption); (case zqk2 => with_reducible assumption); (case zqk3 => k_upd); (case zqz => (rw [sizeLine_eq]; simp only [List.push_toArray, List.size_toArray, List.length_append, List.length_cons, List.length_nil]; omega))); intro _ _ _)
  k_with "newList" => ((with_reducible show wpAny _ _ (newList [_, _]) _ _ _); (refine' newList2 ?zqF ?zqN ?_; (case zqF => with_reducible assumption); (case zqN => with_reducible assumption)); (intro _ _ _ _ zl1'); (simp only [AllLt] at zl1'))
  trivial

end

-- text C26
section
open PySem PySem.W PyProof.Rows PySem.Spec PySem.Calls
set_option maxRecDepth 100000
set_option maxHeartbeats 8000000
theorem CtrS.use0 {w : World} {d : Nat} {f pd pl : Addr} {args : List Value} {B B' : Nat} (C : CtrS w d f pd pl args B B') {dp un : Nat} {gd : Option (List Code)} {mean : ExcName → Option Value} {mg mb : Str → Option Value} {s : Shared} {Q E : Value → Shared → Prop}
    {g : Heap} {L a : Addr} {cd : Value} {name : Str} {scope : Scope} {m : Str → Option Value} {od ol : Obj} (F : Fr g L s.heap m) (N : News g L s.heap [(pd, od), (pl, ol)]) (X : (frag.heap_1 w.params).In g) (T : Top view LO mean mg mb g) (hk : scope.kind = .function)
    (hdp : dp + d < 900) (hun : un + 8 * d < 9000) (hne : pd ≠ pl) (hP : Pu w pl B od ol)
    (k : ∀ h' tk od' ol', Fr g L h' m → News g L h' [(pd, od'), (pl, ol')] → Pu w pl B' od' ol' → Q (.bool true) { s with heap := h', toks := tk }) :
    wpAny (model PG w) (AA dp un gd (some [envOf name scope L a cd])) (call (.ref f) args) Q E s := by
  obtain ⟨d1, d2, d3⟩ := N _ (List.mem_cons_self ..)
  obtain ⟨l1, l2, l3⟩ := N _ (List.mem_cons_of_mem _ (List.mem_cons_self ..))
  dsimp only at d1 d2 d3 l1 l2 l3
  have hgL : g.get? L = none := by
    cases q : g.get? L with
    | none => rfl
    | some o => exact absurd (Nat.lt_of_lt_of_le (Heap.lt_size q) F.above) (Nat.lt_irrefl _)
  have hb : ∀ b o, g.get? b = some o → (bare s.heap pd pl).get? b = some o := fun b o e => (bare_other _ (fun q => by rw [q, d3] at e; cases e) (fun q => by rw [q, l3] at e; cases e)).trans (F.keep b o e)
  refine C dp un gd [envOf name scope L a cd] mean mg mb g s Q E od ol hdp hun X T hb (.cons (by show scope.kind ≠ _; rw [hk]; decide) rfl (F.ns.at' fun o e => (bare_other _ (Ne.symm d2) (Ne.symm l2)).trans e) hgL trivial) hne d1 l1 hP fun g' h' tk od' ol' Tn S h1 h2 P' => ?_
  obtain ⟨oL, es, ep, hL, hLr⟩ := id F.ns
  obtain ⟨sl, hsl⟩ := Tn.up ((bare_other _ (Ne.symm d2) (Ne.symm l2)).trans hL)
  refine k h' tk od' ol' ⟨⟨_, es, ep, S _ _ hsl, hLr⟩, fun b o e => S b o (Tn.other b o (hb b o e) fun q => ?_), F.above⟩ (fun p hp => ?_) P'
  · rw [List.mem_singleton.mp (show b ∈ [L] from q), hgL] at e; cases e
  · rcases List.mem_cons.mp hp with rfl | hp
    · exact ⟨h1, d2, d3⟩
    · rw [List.mem_singleton.mp hp]
      exact ⟨h2, l2, l3⟩
theorem news_law {h₀ : Heap} {L : Addr} {h : Heap} {a b c : Addr × Obj} (N : News h₀ L h [a, b, c]) : News h₀ L h [c, a] := fun p hp => by
  rcases List.mem_cons.mp hp with rfl | hp
  · exact N _ (by simp)
  · rw [List.mem_singleton.mp hp]; exact N _ (by simp)
theorem foo.tw2255297089603395437 : True := trivial
theorem foo.tw17093204462429229276 : True := trivial
theorem foo.tw5605170831573725616 : True := trivial
theorem foo.tw5957473489150337962 : True := trivial
theorem foo.tw12539760668099221054 : True := trivial
theorem foo.tw278364586380164323 : True := trivial
theorem foo.tw6744949409736016380 : True := trivial
theorem foo.tw1198543631206438374 : True := trivial
theorem foo.tw683563925028014696 : True := trivial
theorem foo.tw11494793092565454237 : True := trivial
theorem foo.tw11820439768945920254 : True := trivial
theorem foo.tw6794596668985482073 : True := trivial
theorem foo.tw1846438254691916521 : True := trivial
theorem foo.tw3913797144588478351 : True := trivial
theorem foo.tw5797010570612582634 : True := trivial
theorem foo.tw13391461876852130290 : True := trivial
theorem foo.tw4440333500097068099 : True := trivial
theorem foo.tw2969521670562883747 : True := trivial
theorem foo.tw17214868770192748008 : True := trivial
theorem foo.tw13297647583958355242 : True := trivial
theorem foo.tw1109723691018134658 : True := trivial
theorem foo.tw12714717432496519840 : True := trivial
theorem foo.tw14675207840273821738 : True := trivial
theorem foo.tw1235459320133948145 : True := trivial
theorem foo.tw612160613911828118 : True := trivial
theorem foo.tw4009188466911924198 : True := trivial
theorem foo.tw11646945487508354568 : True := trivial
theorem foo.tw8072990519041556704 : True := trivial
theorem foo.tw11794184030298946434 : True := trivial
theorem foo.tw17343628811780117918 : True := trivial
theorem foo.tw13726964856883991534 : True := trivial
theorem foo.tw16031160413759196435 : True := trivial
theorem foo.tw16177674459010633502 : True := trivial
theorem foo.tw4010813255796744723 : True := trivial
theorem foo.tw7120004001661495034 : True := trivial
theorem foo.tw4707212736354647560 : True := trivial
theorem foo.tw11017345308013960805 : True := trivial
theorem foo.tw4610182962399979142 : True := trivial
theorem foo.tw11360086783649098792 : True := trivial
theorem foo.tw10097005361643366465 : True := trivial
theorem foo.tw8068166075014137930 : True := trivial
theorem foo.tw4835050833846881405 : True := trivial
theorem foo.tw1486272848089930681 : True := trivial
theorem foo.tw5796655904154395905 : True := trivial
theorem foo.tw5445597206274402377 : True := trivial
theorem foo.tw3990607420564047954 : True := trivial
theorem foo.tw424029950105189317 : True := trivial
theorem foo.tw2664495439071300502 : True := trivial
theorem foo.tw14938314564936961006 : True := trivial
theorem foo.tw7122570056364389237 : True := trivial
theorem foo.tw3663477551449520959 : True := trivial
theorem foo.tw14049731558901847932 : True := trivial
theorem foo.tw6802319012899914580 : True := trivial
theorem foo.tw9225932857420437445 : True := trivial
theorem foo.tw4675058239608465818 : True := trivial
theorem foo.tw15265838187547017459 : True := trivial
theorem foo.tw3782975443769641604 : True := trivial
theorem foo.tw7231592229810727298 : True := trivial
theorem foo.tw9819340649372366556 : True := trivial
theorem foo.tw7294895108859637538 : True := trivial
theorem foo.tw8210871272691591234 : True := trivial
theorem foo.tw10097539129564150843 : True := trivial
theorem foo.tw6235066794282853225 : True := trivial
theorem foo.tw8123765081582517116 : True := trivial
theorem foo.tw12655512348463018456 : True := trivial
theorem foo.tw13351254867911039357 : True := trivial
theorem foo.tw3681514940325074330 : True := trivial
theorem foo.tw702166912058598952 : True := trivial
theorem foo.tw11798659334068984521 : True := trivial
theorem foo.tw12188743468206851200 : True := trivial
theorem foo.tw10938032098268605346 : True := trivial
theorem foo.tw11843775829622824878 : True := trivial
theorem foo.tw9379426446615284420 : True := trivial
theorem foo.tw9404073032843511270 : True := trivial
theorem foo.tw11443786045317791909 : True := trivial
theorem foo.tw15978942623843719523 : True := trivial
theorem foo.tw4343237689544421872 : True := trivial
theorem foo.tw8333534630041058674 : True := trivial
theorem foo.tw8063092887890550806 : True := trivial
theorem foo.tw9658379943746010117 : True := trivial
theorem foo.tw6795868109693587772 : True := trivial
theorem foo.tw18073561193696769209 : True := trivial
theorem foo.tw4703299732133212925 : True := trivial
theorem foo.tw1080880000500474601 : True := trivial
theorem foo.tw6275705474024154139 : True := trivial
theorem foo.tw5999774129336283237 : True := trivial
theorem foo.tw12859229632418020105 : True := trivial
theorem foo.tw17282150145151155099 : True := trivial
theorem foo.tw4879577259639608759 : True := trivial
theorem foo.tw10205327146320184253 : True := trivial
theorem foo.tw4640438452840253657 : True := trivial
theorem foo.tw3591098472097285132 : True := trivial
theorem foo.tw3712544147272627866 : True := trivial
theorem foo.tw10824743884200771649 : True := trivial
theorem foo.tw11386922953315151786 : True := trivial
theorem foo.tw3135715283567226017 : True := trivial
theorem foo.tw11486808090332095904 : True := trivial
theorem foo.tw15983359954681569369 : True := trivial
theorem foo.tw8475308357370990330 : True := trivial
theorem foo.tw7648156876154750505 : True := trivial
theorem foo.tw13068338326789843482 : True := trivial
theorem foo.tw2044995815782421195 : True := trivial
theorem foo.tw2710946920573169195 : True := trivial
theorem foo.tw12395397343702224208 : True := trivial
theorem foo.tw2343830401794320407 : True := trivial
theorem foo.tw16056465489541511186 : True := trivial
theorem foo.tw15398955780145963916 : True := trivial
theorem foo.tw15887093355103095 : True := trivial
theorem foo.tw1841690421059938227 : True := trivial
theorem foo.tw6912275549173876988 : True := trivial
theorem foo.tw16506751998282232552 : True := trivial
theorem foo.tw16489274584638595533 : True := trivial
theorem foo.tw9001929159149369087 : True := trivial
theorem foo.tw12135942087564247250 : True := trivial
theorem foo.tw12670286354910862779 : True := trivial
theorem foo.tw7897650638706062100 : True := trivial
theorem foo.tw1526556895226699078 : True := trivial
theorem foo.tw6027636134883950727 : True := trivial
theorem foo.tw1470699487668138445 : True := trivial
theorem foo.tw4504071351971452405 : True := trivial
theorem foo.tw4190877847710680199 : True := trivial
theorem foo.tw9755455895873283874 : True := trivial
theorem foo.tw1548533429323039483 : True := trivial
theorem foo.tw14320769708133185089 : True := trivial
theorem foo.tw14892662902219768189 : True := trivial
theorem foo.tw7953694160217423746 : True := trivial
theorem foo.tw9806922471203234094 : True := trivial
theorem foo.tw16237298850967762432 : True := trivial
theorem foo.tw1962394411999030676 : True := trivial
theorem foo.tw15240207009417315492 : True := trivial
theorem foo.tw12344086754277315276 : True := trivial
theorem foo.tw8582992172849863788 : True := trivial
theorem foo.tw1314992582023402428 : True := trivial
theorem foo.tw6092720450337637537 : True := trivial
theorem foo.tw16356654824677689258 : True := trivial
theorem foo.tw4518373742808077254 : True := trivial
theorem foo.tw12006856370315935368 : True := trivial
theorem foo.tw7790351899789336367 : True := trivial
theorem foo.tw3351634108361224472 : True := trivial
theorem foo.tw14821024342251023257 : True := trivial
theorem foo.tw3270031646950953661 : True := trivial
theorem foo.tw9554840192802064573 : True := trivial
theorem foo.tw15004415711006145508 : True := trivial
theorem foo.tw16324772576992860021 : True := trivial
theorem foo.tw6296081370828923913 : True := trivial
theorem foo.tw15048468603342465113 : True := trivial
theorem foo.tw15108152898077083625 : True := trivial
theorem foo.tw10770292345842204335 : True := trivial
theorem foo.tw11446118267405841776 : True := trivial
theorem foo.tw963711225421326456 : True := trivial
theorem foo.tw7174726165134588594 : True := trivial
theorem foo.tw5537910254996883409 : True := trivial
theorem foo.tw3380656814864886894 : True := trivial
theorem foo.tw11298715273078181981 : True := trivial
theorem foo.tw18422201574771496350 : True := trivial
theorem foo.tw7917778197681456559 : True := trivial
theorem foo.tw2756833907540984844 : True := trivial
theorem foo.tw13522697098843564596 : True := trivial
theorem foo.tw4805819460479870597 : True := trivial
theorem foo.tw8385765153213099007 : True := trivial
theorem foo.tw6489101094940521997 : True := trivial
theorem foo.tw12006702765268746468 : True := trivial
theorem foo.tw2744515713329637889 : True := trivial
theorem foo.tw16172968905292776896 : True := trivial
theorem foo.tw15642725586673085318 : True := trivial
theorem foo.tw8116414400256069086 : True := trivial
theorem foo.tw16307185996088303967 : True := trivial
theorem foo.tw13719744383816264816 : True := trivial
theorem foo.tw18027165544355064013 : True := trivial
theorem foo.tw11906628470067098429 : True := trivial
theorem foo.tw7373138830251673094 : True := trivial
theorem foo.tw3212640889070571058 : True := trivial
theorem foo.tw2229961354326908342 : True := trivial
theorem foo.tw1537556644230187577 : True := trivial
theorem foo.tw13529053271147044102 : True := trivial
theorem foo.tw4525126306190368474 : True := trivial
theorem foo.tw13326070242821288734 : True := trivial
theorem foo.tw1262715485977859716 : True := trivial
theorem foo.tw13659904712614685653 : True := trivial
theorem foo.tw10195185687401180930 : True := trivial
theorem foo.tw11711722260639108942 : True := trivial
theorem foo.tw18292517752408091497 : True := trivial
theorem foo.tw14148120656217792511 : True := trivial
theorem foo.tw16549384650464890421 : True := trivial
theorem foo.tw11000165477922261909 : True := trivial
theorem foo.tw91722796292032584 : True := trivial
theorem foo.tw13558857231053953965 : True := trivial
theorem foo.tw15078960894819183950 : True := trivial
theorem foo.tw8372715006718396668 : True := trivial
theorem foo.tw7065527889082577532 : True := trivial
theorem foo.tw7345537913523981275 : True := trivial
theorem foo.tw17931839681116214792 : True := trivial
theorem foo.tw4147683599205193516 : True := trivial
theorem foo.tw17911260129870638635 : True := trivial
theorem foo.tw6793114771528242435 : True := trivial
theorem foo.tw16725971746458911520 : True := trivial
theorem foo.tw1356769082595281998 : True := trivial
theorem foo.tw4044118569647506551 : True := trivial
theorem foo.tw13400390898758182898 : True := trivial
theorem foo.tw3697469802012428371 : True := trivial
theorem foo.tw12762365702851347051 : True := trivial
theorem foo.tw1200756448864583526 : True := trivial
theorem foo.tw4246367808682422505 : True := trivial
theorem foo.tw214265351079562907 : True := trivial
theorem foo.tw14140314948760664524 : True := trivial
theorem foo.tw9659394636300792514 : True := trivial
theorem foo.tw14613136771695665918 : True := trivial
theorem foo.tw8870031460155381224 : True := trivial
theorem foo.tw4831236293814347312 : True := trivial
theorem foo.tw2132946228217952141 : True := trivial
theorem foo.tw12163980603468085676 : True := trivial
theorem foo.tw13820644412705967804 : True := trivial
theorem foo.tw18139344359566978740 : True := trivial
theorem foo.tw15728393117212245236 : True := trivial
theorem foo.tw9692248343562055225 : True := trivial
theorem foo.tw13715340161700684464 : True := trivial
theorem foo.tw1775497039077454007 : True := trivial
theorem foo.tw12127193685355938278 : True := trivial
theorem foo.tw6163487827335889588 : True := trivial
theorem foo.tw14398990291104412623 : True := trivial
theorem foo.tw3047585915196321357 : True := trivial
theorem foo.tw18119735235138650476 : True := trivial
theorem foo.tw5754548733450040293 : True := trivial
theorem foo.tw17926289848465343257 : True := trivial
theorem foo.tw4250351166806432855 : True := trivial
theorem foo.tw8518513307030267677 : True := trivial
theorem foo.tw5965723147891514401 : True := trivial
theorem foo.tw17264755816382241732 : True := trivial
theorem foo.tw12571057981616755787 : True := trivial
theorem foo.tw307013089711254402 : True := trivial
theorem foo.tw18101470429088985107 : True := trivial
theorem foo.tw13980793841911063429 : True := trivial
theorem foo.tw8658118795749040047 : True := trivial
theorem foo.tw17601543946044647703 : True := trivial
theorem foo.tw11652482244532871972 : True := trivial
theorem foo.tw3961005642023715957 : True := trivial
theorem foo.tw16321654967875464552 : True := trivial
theorem foo.tw14022835880812382535 : True := trivial
theorem foo.tw13144038236007381786 : True := trivial
theorem foo.tw4640049137377893699 : True := trivial
theorem foo.tw7947605134582968381 : True := trivial
theorem foo.tw581705322305969983 : True := trivial
theorem foo.tw13505452048529174365 : True := trivial
theorem foo.tw4459789449563801253 : True := trivial
theorem foo.tw15968449943485340479 : True := trivial
theorem foo.tw2563854482139218559 : True := trivial
theorem foo.tw8718988566143039208 : True := trivial
theorem foo.tw12891499394190523167 : True := trivial
theorem foo.tw15194661741693054796 : True := trivial
theorem foo.tw16459932542997037419 : True := trivial
theorem foo.tw829175662816935092 : True := trivial
theorem foo.tw7611667448523772032 : True := trivial
theorem foo.tw10035176510786088733 : True := trivial
theorem foo.tw12349625005785565218 : True := trivial
theorem foo.tw16821941043546641612 : True := trivial
theorem foo.tw12437356558515300800 : True := trivial
theorem foo.tw11186114382353195034 : True := trivial
theorem foo.tw4931959166666412283 : True := trivial
theorem foo.tw12269753516518950544 : True := trivial
theorem foo.tw11142461148937797997 : True := trivial
theorem foo.tw3397250108537513040 : True := trivial
theorem foo.tw13799907907236180048 : True := trivial
theorem foo.tw10603465158652799391 : True := trivial
theorem foo.tw11415013980118260229 : True := trivial
theorem foo.tw10866948721167520707 : True := trivial
theorem foo.tw12171835598476595794 : True := trivial
theorem foo.tw9005134306500587113 : True := trivial
theorem foo.tw2682375504728343610 : True := trivial
theorem foo.tw13103392882492170080 : True := trivial
theorem foo.tw15568290409803661028 : True := trivial
theorem foo.tw12969481155462997565 : True := trivial
theorem foo.tw8031144205667628501 : True := trivial
theorem foo.tw4125921603128447519 : True := trivial
theorem foo.tw13787113266151754854 : True := trivial
theorem foo.tw10310037075775163506 : True := trivial
theorem foo.tw6972178614589904911 : True := trivial
theorem foo.tw15068483726869450994 : True := trivial
theorem foo.tw17104940816527979962 : True := trivial
theorem foo.tw6340884384736427712 : True := trivial
theorem foo.tw15769512418341803887 : True := trivial
theorem foo.tw6251324106160222683 : True := trivial
theorem foo.tw11257492676163762686 : True := trivial
theorem foo.tw6463124907168226552 : True := trivial
theorem foo.tw1300393211445594234 : True := trivial
theorem foo.tw11564926436342830769 : True := trivial
theorem foo.tw2099399783202654552 : True := trivial
theorem foo.tw4190230250155343153 : True := trivial
theorem foo.tw12222265141287196386 : True := trivial
theorem foo.tw15814834264977275431 : True := trivial
theorem foo.tw15291064080017223905 : True := trivial
theorem foo.tw17798997381783956920 : True := trivial
theorem foo.tw15356612662456336364 : True := trivial
theorem foo.tw808493657763301405 : True := trivial
theorem foo.tw1394133163799209336 : True := trivial
theorem foo.tw17036038009097661728 : True := trivial
theorem foo.tw14581619848620581731 : True := trivial
theorem foo.tw15468602494643291153 : True := trivial
theorem foo.tw17936615272947227490 : True := trivial
theorem foo.tw5718169551596029400 : True := trivial
theorem foo.tw8221416635388003945 : True := trivial
theorem foo.tw11961429416910739398 : True := trivial
theorem foo.tw12421092619032159188 : True := trivial
theorem foo.tw9854892784412443425 : True := trivial
theorem foo.tw10575588986365295979 : True := trivial
theorem foo.tw954544073716613909 : True := trivial
theorem foo.tw5940804565182186120 : True := trivial
theorem foo.tw9489459539168065680 : True := trivial
theorem foo.tw1941312566720927424 : True := trivial
theorem foo.tw15467099675171356468 : True := trivial
theorem foo.tw16444331816892165888 : True := trivial
theorem foo.tw2515832462455699798 : True := trivial
theorem foo.tw15131038890671889929 : True := trivial
theorem foo.tw9774242589686514057 : True := trivial
theorem foo.tw1037349176149368450 : True := trivial
theorem foo.tw3658096308902462089 : True := trivial
theorem foo.tw217097701072578484 : True := trivial
theorem foo.tw15738016191248903263 : True := trivial
theorem foo.tw13263495093597273408 : True := trivial
theorem foo.tw3843120465417484609 : True := trivial
theorem foo.tw17911153668259566601 : True := trivial
theorem foo.tw5153559302771321351 : True := trivial
theorem foo.tw10092265125727954 : True := trivial
theorem foo.tw3069808905387305959 : True := trivial
theorem foo.tw12157937882619295680 : True := trivial
theorem foo.tw4061790431157916028 : True := trivial
theorem foo.tw9311755101359512854 : True := trivial
theorem foo.tw4163562026110451476 : True := trivial
theorem foo.tw17959317865627963359 : True := trivial
theorem foo.tw5793244329336294605 : True := trivial
theorem foo.tw5627963881991747822 : True := trivial
theorem foo.tw2593009311042961241 : True := trivial
theorem foo.tw4407845866519708784 : True := trivial
theorem foo.tw14870917859817751073 : True := trivial
theorem foo.tw257516599913669571 : True := trivial
theorem foo.tw1498522769161113685 : True := trivial
theorem foo.tw2708124909099057546 : True := trivial
theorem foo.tw8333486284571976423 : True := trivial
theorem foo.tw14076598488134079947 : True := trivial
theorem foo.tw13437901054817603610 : True := trivial
theorem foo.tw7448261487789848819 : True := trivial
theorem foo.tw17407417213861909307 : True := trivial
theorem foo.tw14830606058791556866 : True := trivial
theorem foo.tw8774724944130643313 : True := trivial
theorem foo.tw6138896549897904723 : True := trivial
theorem foo.tw1074119734065116133 : True := trivial
theorem foo.tw460638091174787095 : True := trivial
theorem foo.tw4537039990259483153 : True := trivial
theorem foo.tw2138373130128426083 : True := trivial
theorem foo.tw14258662171126012046 : True := trivial
theorem foo.tw4036669243234167897 : True := trivial
theorem foo.tw1402977474058996292 : True := trivial
theorem foo.tw10684302926034588794 : True := trivial
theorem foo.tw16678773140052989214 : True := trivial
theorem foo.tw12914192333943169836 : True := trivial
theorem foo.tw14509958111466289728 : True := trivial
theorem foo.tw2183496471350987685 : True := trivial
theorem foo.tw13131728186580026066 : True := trivial
theorem foo.tw12932681732913188476 : True := trivial
theorem foo.tw4114388016465631055 : True := trivial
theorem foo.tw8854418284597122250 : True := trivial
theorem foo.tw6650737648672053303 : True := trivial
theorem foo.tw5238297344718462494 : True := trivial
theorem foo.tw16460156385064890771 : True := trivial
theorem foo.tw2255382423240446218 : True := trivial
theorem foo.tw4754604070007886754 : True := trivial
theorem foo.tw1679380663630911814 : True := trivial
theorem foo.tw2250628811687638072 : True := trivial
theorem foo.tw110947721860023269 : True := trivial
theorem foo.tw15357113405826562725 : True := trivial
theorem foo.tw9419470054497838417 : True := trivial
theorem foo.tw8632522477610620788 : True := trivial
theorem foo.tw6788704202716206259 : True := trivial
theorem foo.tw8956222471677739913 : True := trivial
theorem foo.tw427960080256783948 : True := trivial
theorem foo.tw4027072999679905249 : True := trivial
theorem foo.tw1141302464002795882 : True := trivial
theorem foo.tw2447712900056993702 : True := trivial
theorem foo.tw9109093040521901 : True := trivial
theorem foo.tw4884249121832242295 : True := trivial
theorem foo.tw6822137306767138021 : True := trivial
theorem foo.tw8892361040767902821 : True := trivial
theorem foo.tw5535912843282647579 : True := trivial
theorem foo.tw18075614545994591518 : True := trivial
theorem foo.tw9461060981986935151 : True := trivial
theorem foo.tw7239658087913385467 : True := trivial
theorem foo.tw11209501878236600864 : True := trivial
theorem foo.tw16979101396951524597 : True := trivial
theorem foo.tw15159389851686630207 : True := trivial
theorem foo.tw1782044752044863432 : True := trivial
theorem foo.tw1729314833788332055 : True := trivial
theorem foo.tw10948738895171610045 : True := trivial
theorem foo.tw1981127123174680043 : True := trivial
theorem foo.tw3445911644200296480 : True := trivial
local macro_rules | `(tactic| walk_at $s:str) => `(tactic| k_extra $s)
set_option Elab.async true in
set_option maxRecDepth 100000 in
set_option maxHeartbeats 0 in
theorem foo : PySem.Challenge.rw_pf0128_01.Holds := by
  k_with_none
  k_with "call ref" => refine stop_here ?_
  w_on
  o_law
  o_head (kHook frag.heap_1 [2, 3, 15, 22, 24, 25, 27, 28, 29, 30, 31, 32, 35, 42, 44, 45, 47, 48, 49, 50, 51, 54, 61, 63, 64, 66, 67, 68, 69, 70, 80, 82, 83, 85, 86, 87, 88, 89, 90, 91, 94, 96, 97, 99, 100, 101, 103, 104, 106, 107, 108, 110, 111, 113, 114, 115, 117, 118, 120, 121, 122, 124, 125, 127, 128, 129, 131, 132, 134, 135, 136, 138, 139, 141, 142, 143, 145, 146, 148, 149, 150, 152, 153, 155, 156, 157, 159, 160, 162, 163, 164, 166, 167, 169, 170, 171, 173, 174, 176, 177, 178, 180, 181, 183, 184, 185, 187, 188, 190, 191, 192, 194, 195, 197, 198, 199, 201, 202, 204, 205, 206, 208, 209, 211, 212, 213, 215, 216, 218, 219, 220, 222, 223, 225, 226, 227, 228, 229, 230, 231, 232, 233, 234, 235, 236, 237, 238, 239, 240, 241, 242, 243, 244, 245, 246, 247, 248, 249, 250, 251, 252, 253, 254, 255, 256, 257, 258, 259, 260, 261, 262, 263, 264, 265, 266, 267, 268, 270, 271, 273, 274, 275, 277, 278, 280, 281, 282, 284, 285, 287, 288, 289, 291, 292, 294, 295, 296, 298, 299, 301, 302, 303, 305, 306, 308, 309, 310, 312, 313, 315, 316, 317, 319, 320, 322, 323, 324, 326, 327, 329, 330, 331, 333, 334, 336, 337, 338, 340, 341, 343, 344, 352, 353, 355, 356, 358, 359, 360, 361, 362, 363, 364, 367, 369, 370, 372, 373, 374, 376, 377, 379, 380, 381, 383, 384, 386, 387, 388, 390, 391, 393, 394, 395, 397, 398, 400, 401, 402, 405, 406, 407, 409, 410, 412, 413] (fun _ => by kernel_rfl))
  (case hw => w_witness2)
  k_go0
  (all_goals try k_fold)
  (repeat' (first | k_unfold | walk1 | (dsimp only; walk1)))
  (all_goals try k_unfold)
  with_reducible rename Fr _ _ _ _ => F
  with_reducible rename News _ _ _ _ => N
  with_reducible rename Top _ _ _ _ _ _ => T
  have T : Top view LO _ _ _ _ := T
  rename (frag.heap_1 _).In _ => X
  rename IntsAre _ (List.take 40 _) => hI
  rename Obj.IsDictOf _ _ (strPairs _) => hD
  rename (_ < _ ∧ _ < _) => hlt
  have hne := Nat.ne_of_lt hlt.2
  have N2 := news_law N
  show wpAny (model PG _) (AA 302 7 (some []) (some [envOf _ _ _ _ _])) (call _ _) _ _ _
  refine CtrS.use0 (c_stmt _ _ _ 0 (by decide)) F N2 X T rfl (by decide) (by decide) hne ⟨_, 0, _, _, _, rfl, hD, hI, by rw [List.length_take]; exact Nat.min_le_left .., Nat.le_refl _⟩ fun h' tk od' ol' F N P => ?_
  (repeat' (first | k_unfold | walk1 | (dsimp only; walk1)))
  show wpAny (model PG _) (AA 302 7 (some []) (some [envOf _ _ _ _ _])) (call _ _) _ _ _
  refine CtrP.use0 (c_signs _ _ _ 1000 (by decide)) F N X T (by decide) (by decide) hne P fun i h' tk od' ol' F N P hp => ?_
  (repeat' (first | k_unfold | walk1 | (dsimp only; walk1)))
  show wpAny (model PG _) (AA 302 7 (some []) (some [envOf _ _ _ _ _])) (call _ _) _ _ _
  refine CtrP.use0 (c_brackets _ _ _ 1004 (by decide)) F N X T (by decide) (by decide) hne P fun i h' tk od' ol' F N P hp => ?_
  (repeat' (first | k_unfold | walk1 | (dsimp only; walk1)))
  wrow_close

end

end Mine
theorem PySem.Challenge.cw_pf0128_01_holds : PySem.Challenge.rw_pf0128_01.Holds :=
  Mine.foo
