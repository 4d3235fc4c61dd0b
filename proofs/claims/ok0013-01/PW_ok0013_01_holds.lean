import PyProof.Rows.All
import Wide.All
import OpenK.AllK
import Wide.FinOn
import Lean
import PySem.Challenge.RW_ok0013_01
open PySem PySem.W PyProof.Rows
set_option Elab.async false
set_option linter.all false
set_option maxRecDepth 100000
set_option maxHeartbeats 8000000
set_option compiler.extract_closed false
namespace Mine
noncomputable def view39 : Program := { PySem.Challenge.pw_ok0013_01 with main := { PySem.Challenge.pw_ok0013_01.main with body := ((((PySem.Challenge.pw_ok0013_01.main.body.eraseIdx 17).eraseIdx 10).eraseIdx 6).eraseIdx 1) } }
abbrev lv39 : List (Str × WData) := [(Str.ofString "VOID", WData.tuple [WData.int 5, WData.int 0])]
abbrev rw39 : RowW := OpenRow.toRowW (OpenLaw.row PySem.Challenge.rw_ok0013_01)
noncomputable abbrev xt39 (s : Shared) : Bool := xlAt view39 lv39 s && recOk (RowW.records rw39) s
theorem law_ok : OpenLaw.wellSaid PySem.Challenge.rw_ok0013_01 = true := by
  rw [PySem.W.Fast.te9446332074065402090]
  kernel_rfl
theorem map_pair {α β γ : Type} {o : Option α} {f : α → β} {g : α → γ} {b : β} {c : γ} (h1 : o.map f = some b) (h2 : o.map g = some c) : o.map (fun x => (f x, g x)) = some (b, c) := by
  cases o with
  | none => cases h1
  | some x =>
    simp only [Option.map_some, Option.some.injEq] at h1 h2 ⊢
    rw [h1, h2]
abbrev oe39 (w : World) : Option Shared := openEnds treeTable PySem.Challenge.pw_ok0013_01 w 3898
theorem seen39 : ∀ w : World, (oe39 w).map (openSeen view39 [Str.ofString "VOID"] (importedModules PySem.Challenge.pw_ok0013_01.main.body) xt39 true) = some (openGood view39 [Str.ofString "VOID"]) := by
  intro w
  unfold oe39 openEnds fencedOpening topFrom
  rw [PySem.W.Fast.te14082659384304107361, PySem.W.Fast.te14364793385576792824, PySem.W.Fast.te10274390034422433532, PySem.W.Fast.te1435165496053646825, PySem.W.Fast.te14289696077712309145, PySem.W.Fast.te4187177175401517315]
  kernel_rfl
theorem left39 {α : Type} {Yf : Shared → α} {Ya : World → α} (h : ∀ w, (oe39 w).map Yf = some (Ya w)) : LeftO PySem.Challenge.pw_ok0013_01 view39 [Str.ofString "VOID"] xt39 Yf Ya 3898 := fun w => map_pair (seen39 w) (h w)
local macro_rules | `(tactic| o_law) => `(tactic| (refine holds_law law_ok fun said => ?_))
local macro_rules | `(tactic| o_head $H) => `(tactic| (
  refine holds_open (q := view39) (loose := [Str.ofString "VOID"]) (Xt := xt39) (XP := XL view39 lv39) (Yf := Hook.obs $H) (Ya := Hook.val $H) (YP := Hook.says $H) (N := 3898) ?hl (Hook.of $H) (Hook.keeps $H) (fun s e => xl_of s (Bool.and_eq_true_iff.mp e).1) XL.keeps (by rfl) (by rfl) (by rfl) (fun s e => recFacts_of (Bool.and_eq_true_iff.mp e).2) (by rfl) (by first | assumption | decide +kernel) (by decide +kernel) ⟨rfl, rfl, rfl, rfl, rfl, by decide +kernel⟩ ?hw ?hc
  (case hl => (exact left39 (by intro w; unfold oe39 openEnds fencedOpening topFrom; rw [PySem.W.Fast.te14082659384304107361, PySem.W.Fast.te14364793385576792824, PySem.W.Fast.te10274390034422433532, PySem.W.Fast.te1435165496053646825, PySem.W.Fast.te14289696077712309145]; kernel_rfl)))))
open_top hd for PySem.Challenge.rw_ok0013_01
abbrev PG : Program := PySem.Challenge.rw_ok0013_01.row.prog
structure Cx (w : World) (A₀ A : Around) (base h₀ : Heap) (env : Env) (outer : List Env) (L : Addr) (mean : ExcName → Option Value) (mg mb : Str → Option Value) (k : Nat) : Prop where
  B : Below A₀ base outer h₀
  X : (hd.heap_1 w.params).In h₀
  T : Top view39 (looseW view39 [Str.ofString "VOID"]) mean mg mb h₀
  hA : A.frames = some (env :: outer)
  hf : env.frame = some L
  hke : env.scope.kind = .function
  hh : A.handled = none
  hroom : A.depth + k ≤ 900
  hunit : A.units + 3 * k ≤ 900
section
variable {w : World} {A₀ A : Around} {base h₀ : Heap} {env : Env} {outer : List Env} {L : Addr} {mean : ExcName → Option Value} {mg mb : Str → Option Value} {k : Nat} {m : Str → Option Value} {news : List (Addr × Obj)} {s : Shared}
theorem Cx.enter {R : Result → Shared → Prop} {name qual : Str} {params : Arguments} {body : List Stmt} {scope : Scope} {dV kV doc pm cdv ct oc : Value} {an od : Option Addr} {osl : Array (Option Value)} {f : Addr} {args : Args} {binds : List (Str × Value)}
    (C : Cx w A₀ A base h₀ env outer L mean mg mb (k + 1)) (F : Fr h₀ L s.heap m) (N : News h₀ L s.heap news)
    (ho : (hd.heap_1 w.params).lookup f = some ⟨oc, od, .func (fnOf name qual params body scope dV kV doc pm an cdv ct), osl⟩) (hcd : codeIn (hd.heap_1 w.params) cdv qual = true)
    (hbind : BindsTo s (fnOf name qual params body scope dV kV doc pm an cdv ct) args binds) (hloc : ∀ y ∈ binds, scope.names.lookup y.1 = some .local)
    (h : ∀ g L' h₁, Fr h₀ L g m → Fr g L' h₁ (fun y => binds.reverse.lookup y) → News g L' h₁ news →
      Cx w A (A.deeper (envOf qual scope L' f cdv)) base g (envOf qual scope L' f cdv) (env :: outer) L' mean mg mb k →
      wpAny (model PG w) (A.deeper (envOf qual scope L' f cdv)) (execs body (envOf qual scope L' f cdv))
        (fun fl s' => LeaveK h₀ L m g R (match fl with | .ret v => v | _ => .none) s') (fun _ _ => False)
        { s with heap := h₁, toks := s.toks + binds.length })
    (hco : scope.isCoroutine = false) (hgen : scope.isGenerator = false) (hk : scope.kind = .function)
    (hcell : ∀ x ∈ scope.names, x.2 ≠ .cell) : codeAny (model PG w) A (.call (.ref f) args) R s := by
  refine code_def (K := hd.heap_1 w.params) C.B F C.X N C.T C.hA C.hf C.hke ho hcd (by have := C.hroom; unfold recursionLimit; omega) hbind hloc (fun g L' h₁ FG F' N' B' X' T' => ?_) hco hgen hk hcell
  refine wpAny_mono (h g L' h₁ FG F' N' ⟨B', X', T', ?_, rfl, hk, C.hh, ?_, ?_⟩) (fun _ _ x => x) (fun _ _ x => x.elim)
  · simp only [Around.deeper, C.hA, Option.map]
  · have := C.hroom; simp only [Around.deeper]; omega
  · have := C.hunit; simp only [Around.deeper]; omega
end
def off (a : Addr) (news : List (Addr × Obj)) : List (Addr × Obj) := news.filter (fun q => decide (@Ne Nat q.1 a))
theorem mem_off {a : Addr} {news : List (Addr × Obj)} {q : Addr × Obj} : q ∈ off a news ↔ q ∈ news ∧ q.1 ≠ a := by
  unfold off
  rw [List.mem_filter]
  constructor
  · rintro ⟨h1, h2⟩
    exact ⟨h1, of_decide_eq_true h2⟩
  · rintro ⟨h1, h2⟩
    exact ⟨h1, decide_eq_true h2⟩
theorem off_ne {a : Addr} {news : List (Addr × Obj)} : ∀ q ∈ off a news, q.1 ≠ a := fun _ h => (mem_off.mp h).2
theorem off_ne2 {a b : Addr} {news : List (Addr × Obj)} (h : ∀ q ∈ news, q.1 ≠ b) : ∀ q ∈ off a news, q.1 ≠ b := fun _ hq => h _ (mem_off.mp hq).1
def put (a : Addr) (o : Obj) (news : List (Addr × Obj)) : List (Addr × Obj) := (a, o) :: off a news
theorem put_same {a : Addr} {o : Obj} {news : List (Addr × Obj)} : (a, o) ∈ put a o news := .head _
theorem put_ne {a b : Addr} {o x : Obj} {news : List (Addr × Obj)} (h : (b, x) ∈ news) (hn : b ≠ a) : (b, x) ∈ put a o news := .tail _ (mem_off.mpr ⟨h, hn⟩)
section
variable {h₀ h : Heap} {L : Addr} {news news' : List (Addr × Obj)}
theorem sub (N : News h₀ L h news) (hs : ∀ p ∈ news', p ∈ news) : News h₀ L h news' := fun p hp => N p (hs p hp)
theorem focus {a : Addr} {o : Obj} (N : News h₀ L h news) (hm : (a, o) ∈ news) : News h₀ L h ((a, o) :: off a news) := sub N fun p hp => by
  rcases List.mem_cons.mp hp with rfl | hp
  · exact hm
  · exact (mem_off.mp hp).1
theorem fun1 {a : Addr} {o o' : Obj} (N : News h₀ L h news) (h1 : (a, o) ∈ news) (h2 : (a, o') ∈ news) : o = o' := by
  have e1 := (N _ h1).1
  have e2 := (N _ h2).1
  rw [e1] at e2
  exact Option.some.inj e2
theorem apart {a b : Addr} {o o' : Obj} (N : News h₀ L h news) (h1 : (a, o) ∈ news) (h2 : (b, o') ∈ news) (hn : o ≠ o') : a ≠ b := fun e => hn (fun1 N h1 (by rw [e]; exact h2))
end
def vw (ps : List (Str × Value)) (u : Str → Option Value) : Str → Option Value := fun y => match ps.lookup y with
  | some v => some v
  | none => u y
def AllV (m : Str → Option Value) : List (Str × Value) → Prop
  | [] => True
  | p :: r => m p.1 = some p.2 ∧ AllV m r
theorem vw_eq {m : Str → Option Value} : ∀ {ps : List (Str × Value)}, AllV m ps → ∀ y, m y = vw ps m y
  | [], _, y => rfl
  | p :: r, ⟨h1, h2⟩, y => by
    have ih := vw_eq h2 y
    obtain ⟨a, b⟩ := p
    unfold vw at *
    rw [List.lookup_cons]
    by_cases e : y = a
    · subst e; simp at h1 ⊢; exact h1
    · simp only [beq_eq_false_iff_ne.mpr e]; exact ih
theorem Fr_vw {h₀ h : Heap} {L : Addr} {m : Str → Option Value} (F : Fr h₀ L h m) (ps : List (Str × Value)) (ha : AllV m ps) : Fr h₀ L h (vw ps m) := by
  have e : vw ps m = m := funext fun y => (vw_eq ha y).symm
  rw [e]; exact F
section
variable {prog : Program} {w : World} {A : Around} {E : Value → Shared → Prop} {s : Shared} {env : Env} {test : PySem.Expr} {body orelse : List Stmt} {Q : Flow → Shared → Prop}
def Jh (J : Nat → Shared → Prop) (n : Nat) (s : Shared) : Prop := J n s
def Jx (J : Nat → Shared → Prop) (n : Nat) (s : Shared) : Prop := ∃ k, k < n ∧ J k s
def Stp (P : Prop) : Prop := P
def WhN (J : Nat → Shared → Prop) (Q : Flow → Shared → Prop) (n : Nat) (f : Flow) (s : Shared) : Prop := match f with
  | .next => Jx J n s
  | .cont => Jx J n s
  | .brk => Q .next s
  | .ret v => Q (.ret v) s
theorem whl_nat0 (J : Nat → Shared → Prop) (hE : PassesOwn (model prog w) A env E)
    (step : ∀ n s, J n s → wpAny (model prog w) A (isTrue test env (eval test env)) (fun b s₂ => WhlIf b (wpAny (model prog w) A (execs body env) (WhN J Q n) E s₂) (wpAny (model prog w) A (execs orelse env) Q E s₂)) E s) :
    ∀ n s, J n s → WhlRest prog w A E env test body orelse Q 0 s := by
  intro n
  induction n using Nat.strongRecOn with
  | ind n ih =>
    intro s h
    refine whl_turn (k := 0) hE (wpAny_mono (step n s h) (fun b s₂ q => ?_) fun _ _ q => q)
    cases b with
    | false => exact q
    | true =>
      refine wpAny_mono (q : wpAny _ _ _ _ _ _) (fun f s' q' => ?_) fun _ _ q => q
      cases f with
      | next => obtain ⟨k, hk, hj⟩ := q'; exact ih k hk _ hj
      | cont => obtain ⟨k, hk, hj⟩ := q'; exact ih k hk _ hj
      | brk => exact q'
      | ret v => exact q'
def WMark (_ : Nat → Shared → Prop) (_ : Nat) : Prop := True
theorem whl_mark {pos : Pos} {J : Nat → Shared → Prop} {n : Nat} (_ : WMark J n) (hE : PassesOwn (model prog w) A env E) (h : Jh J n s)
    (step : Stp (∀ n s, J n s → wpAny (model prog w) A (isTrue test env (eval test env)) (fun b s₂ => WhlIf b (wpAny (model prog w) A (execs body env) (WhN J Q n) E s₂) (wpAny (model prog w) A (execs orelse env) Q E s₂)) E s)) :
    wpAny (model prog w) A (exec (.While test body orelse pos) env) Q E s := whl_start 0 (whl_nat0 J hE step n s h)
end
-- what holds of an object that the ledger bears, by membership
abbrev Cl := Int × Int
def cd (c : Cl) : Dat := .tuple [.int c.1, .int c.2]
structure Co where
  names : List Cl
  worth : Option Int
structure Sn where
  mark : Int
  high : Int
  wide : Int
  comps : List Co
  names : List Cl
structure St where
  heap : List Cl
  stack : List Cl
  trail : List Int
  hb : Int
  bb : Int
  comps : List Co
  names : List Cl
  wtr : Int
  past : List Sn
/-- the addresses that stay -/
structure Gh where
  x : Addr
  dx : Addr
  aH : Addr
  aR : Addr
  aW : Addr
  aX : Addr
/-- those that turn -/
structure Vg where
  aK : Addr
  aC : Addr
  aN : Addr
  lbs : List Addr
  cos : List (Addr × Co)
  sav : List (Addr × List (Addr × Co))
def wd (o : Option Int) : Dat := match o with
  | none => .none
  | some i => .int i
inductive As where
  | inst (dx : Addr)
  | cdict (aH aK aR : Addr) (hb bb : Int)
  | cells (cs : List Cl)
  | ints (is : List Int)
  | refs (as : List Addr)
  | co (c : Co)
  | world (aC aN aX : Addr) (t : Int)
  | chs (lbs : List Addr) (past : List Sn)
  | raw (o : Obj)
def cellsEs (P : Params) (t : Nat → Tok) (aH aK aR : Addr) (hb bb : Int) (u v : Tok) : List DictEntry :=
  [⟨PyData.keyHash P (Str.ofString "symbols"), .str (Str.ofString "symbols") (t 0), .none⟩,
   ⟨PyData.keyHash P (Str.ofString "max_heap"), .str (Str.ofString "max_heap") (t 1), .int 100000 (t 2)⟩,
   ⟨PyData.keyHash P (Str.ofString "heap"), .str (Str.ofString "heap") (t 3), .ref aH⟩,
   ⟨PyData.keyHash P (Str.ofString "stack"), .str (Str.ofString "stack") (t 4), .ref aK⟩,
   ⟨PyData.keyHash P (Str.ofString "trail"), .str (Str.ofString "trail") (t 5), .ref aR⟩,
   ⟨PyData.keyHash P (Str.ofString "hb"), .str (Str.ofString "hb") (t 6), .int hb u⟩,
   ⟨PyData.keyHash P (Str.ofString "bb"), .str (Str.ofString "bb") (t 7), .int bb v⟩]
/-- a choice's tuple -/
def ChIn (imm : List (Addr × Obj)) (lb : Addr) (sn : Sn) (v : Value) : Prop :=
  ∃ a n t1 t2 t3 ln, v = .ref a ∧ (a, ({ cls := .type "tuple", data := .seq [Value.int sn.mark t1, .int sn.high t2, .int sn.wide t3, .ref lb, .ref ln].toArray n } : Obj)) ∈ imm ∧ DatIn imm (.ref ln) (.list (sn.names.map cd))
inductive ChsIn (imm : List (Addr × Obj)) : List Value → List Addr → List Sn → Prop
  | nil : ChsIn imm [] [] []
  | cons {v : Value} {vs : List Value} {lb : Addr} {lbs : List Addr} {sn : Sn} {ss : List Sn} : ChIn imm lb sn v → ChsIn imm vs lbs ss → ChsIn imm (v :: vs) (lb :: lbs) (sn :: ss)
theorem ChsIn.lengths {imm : List (Addr × Obj)} {vs : List Value} {lbs : List Addr} {ss : List Sn} (h : ChsIn imm vs lbs ss) : lbs.length = ss.length := by
  induction h with
  | nil => rfl
  | cons _ _ ih => simp [ih]
theorem ChsIn.length {imm : List (Addr × Obj)} {vs : List Value} {lbs : List Addr} {ss : List Sn} (h : ChsIn imm vs lbs ss) : vs.length = ss.length := by
  induction h with
  | nil => rfl
  | cons _ _ ih => simp [ih]
theorem ChsIn.append {imm : List (Addr × Obj)} {vs : List Value} {v : Value} {lbs : List Addr} {lb : Addr} {ss : List Sn} {sn : Sn} (h : ChsIn imm vs lbs ss) (k : ChIn imm lb sn v) : ChsIn imm (vs ++ [v]) (lbs ++ [lb]) (ss ++ [sn]) := by
  induction h with
  | nil => exact .cons k .nil
  | cons h1 _ ih => exact .cons h1 ih
def sem (w : World) (imm : List (Addr × Obj)) (a : As) (o : Obj) : Prop := match a with
  | .inst dx => o = instObj 219 dx
  | .cdict aH aK aR hb bb => ∃ t u v, o = dictOf (cellsEs w.params t aH aK aR hb bb u v) 7
  | .cells cs => ∃ vs n, o = W.listOf (List.toArray vs) n ∧ DatAll imm vs (cs.map cd)
  | .ints is => ∃ vs n, o = W.listOf (List.toArray vs) n ∧ IntsAre vs is
  | .refs as => ∃ n, o = W.listOf (List.toArray (as.map Value.ref)) n
  | .co c => ∃ l wv, o.IsDictOf (PySem.strKind PG w) [(Str.ofString "names", .ref l), (Str.ofString "worth", wv)] ∧ DatIn imm (.ref l) (.list (c.names.map cd)) ∧ DatIn imm wv (wd c.worth)
  | .world aC aN aX t => ∃ u, o.IsDictOf (PySem.strKind PG w) [(Str.ofString "companies", .ref aC), (Str.ofString "names", .ref aN), (Str.ofString "trail", .int t u), (Str.ofString "choices", .ref aX)]
  | .chs lbs past => ∃ vs n, o = W.listOf (List.toArray vs) n ∧ ChsIn imm vs lbs past
  | .raw o' => o = o'
def Sub (a b : List (Addr × Obj)) : Prop := ∀ p ∈ a, p ∈ b
theorem Sub.refl (a : List (Addr × Obj)) : Sub a a := fun _ h => h
theorem Sub.trans {a b c : List (Addr × Obj)} (h : Sub a b) (k : Sub b c) : Sub a c := fun p hp => k p (h p hp)
theorem ChIn.mono {imm imm' : List (Addr × Obj)} {lb : Addr} {sn : Sn} {v : Value} (hs : Sub imm imm') (h : ChIn imm lb sn v) : ChIn imm' lb sn v := let ⟨a, n, t1, t2, t3, ln, h1, h2, h3⟩ := h; ⟨a, n, t1, t2, t3, ln, h1, hs _ h2, h3.mono hs⟩
theorem ChsIn.mono {imm imm' : List (Addr × Obj)} {vs : List Value} {lbs : List Addr} {ss : List Sn} (hs : Sub imm imm') (h : ChsIn imm vs lbs ss) : ChsIn imm' vs lbs ss := by
  induction h with
  | nil => exact .nil
  | cons h1 _ ih => exact .cons (h1.mono hs) ih
theorem sem_mono {w : World} {imm imm' : List (Addr × Obj)} (hs : Sub imm imm') : ∀ {a : As} {o : Obj}, sem w imm a o → sem w imm' a o
  | .inst _, _, h => h
  | .cdict .., _, h => h
  | .cells _, _, ⟨vs, n, h1, h2⟩ => ⟨vs, n, h1, h2.mono hs⟩
  | .ints _, _, h => h
  | .refs _, _, h => h
  | .co _, _, ⟨l, wv, h1, h3, h4⟩ => ⟨l, wv, h1, h3.mono hs, h4.mono hs⟩
  | .world .., _, h => h
  | .chs .., _, ⟨vs, n, h1, h2⟩ => ⟨vs, n, h1, h2.mono hs⟩
  | .raw _, _, h => h
structure Rep (w : World) (news imm : List (Addr × Obj)) (as : List (Addr × As)) : Prop where
  has : ∀ p ∈ as, ∃ o, (p.1, o) ∈ news ∧ sem w imm p.2 o
  nd : (as.map (·.1)).Nodup
  immn : Sub imm news
  immoff : ∀ p ∈ imm, ∀ q ∈ as, p.1 ≠ q.1
section
variable {w : World} {news imm : List (Addr × Obj)} {as as' pre post : List (Addr × As)} {a : Addr} {x x' : As} {o o' : Obj}
theorem Rep.at (R : Rep w news imm (pre ++ (a, x) :: post)) : ∃ o, (a, o) ∈ news ∧ sem w imm x o := R.has (a, x) (by simp)
theorem Rep.upd (R : Rep w news imm (pre ++ (a, x) :: post)) (h : sem w imm x' o) : Rep w (put a o news) imm (pre ++ (a, x') :: post) := by
  have nd := R.nd
  rw [List.map_append, List.map_cons, List.nodup_append] at nd
  obtain ⟨_, n2, n3⟩ := nd
  have n2 := List.nodup_cons.mp n2
  refine ⟨fun p hp => ?_, by rw [List.map_append, List.map_cons]; have := R.nd; rw [List.map_append, List.map_cons] at this; exact this, fun p hp => ?_, fun p hp q hq => ?_⟩
  · rcases List.mem_append.mp hp with hq | hq
    · obtain ⟨y, hy, q⟩ := R.has p (List.mem_append_left _ hq)
      exact ⟨y, put_ne hy (n3 _ (List.mem_map_of_mem hq) _ (by simp)), q⟩
    · rcases List.mem_cons.mp hq with rfl | hq
      · exact ⟨o, put_same, h⟩
      · obtain ⟨y, hy, q⟩ := R.has p (List.mem_append_right _ (.tail _ hq))
        refine ⟨y, put_ne hy fun e => n2.1 ?_, q⟩
        have := List.mem_map_of_mem (f := (·.1)) hq
        simp only [e] at this
        exact this
  · exact put_ne (R.immn p hp) (R.immoff p hp (a, x) (by simp))
  · rcases List.mem_append.mp hq with hq | hq
    · exact R.immoff p hp q (List.mem_append_left _ hq)
    · rcases List.mem_cons.mp hq with rfl | hq
      · exact R.immoff p hp (a, x) (by simp)
      · exact R.immoff p hp q (List.mem_append_right _ (.tail _ hq))
theorem Rep.ne_of (R : Rep w news imm as) (hf : ∀ p ∈ news, p.1 ≠ a) : ∀ q ∈ as, q.1 ≠ a := fun q hq => let ⟨_, h, _⟩ := R.has q hq; hf _ h
theorem Rep.cons {p : Addr × Obj} (R : Rep w news imm as) : Rep w (p :: news) imm as :=
  ⟨fun q hq => let ⟨o, h, k⟩ := R.has q hq; ⟨o, .tail _ h, k⟩, R.nd, fun q hq => .tail _ (R.immn q hq), R.immoff⟩
theorem Rep.imm1 (R : Rep w news imm as) (hm : (a, o) ∈ news) (hf : ∀ q ∈ as, q.1 ≠ a) : Rep w news ((a, o) :: imm) as :=
  ⟨fun q hq => let ⟨o, h, k⟩ := R.has q hq; ⟨o, h, sem_mono (fun _ h => .tail _ h) k⟩, R.nd, fun q hq => by
    rcases List.mem_cons.mp hq with rfl | hq
    · exact hm
    · exact R.immn q hq, fun p hp q hq => by
    rcases List.mem_cons.mp hp with rfl | hp
    · exact (hf q hq).symm
    · exact R.immoff p hp q hq⟩
theorem Rep.allocI (R : Rep w news imm as) (hf : ∀ p ∈ news, p.1 ≠ a) : Rep w ((a, o) :: news) ((a, o) :: imm) as := (R.cons).imm1 (.head _) (R.ne_of hf)
theorem Rep.allocM (R : Rep w news imm as) (hf : ∀ p ∈ news, p.1 ≠ a) (h : sem w imm x o) : Rep w ((a, o) :: news) imm ((a, x) :: as) :=
  ⟨fun q hq => by
    rcases List.mem_cons.mp hq with rfl | hq
    · exact ⟨o, .head _, h⟩
    · exact (R.cons).has q hq, by
    rw [List.map_cons, List.nodup_cons]
    refine ⟨fun hm => ?_, R.nd⟩
    obtain ⟨q, hq, e⟩ := List.mem_map.mp hm
    exact R.ne_of hf q hq e, (R.cons).immn, fun p hp q hq => by
    rcases List.mem_cons.mp hq with rfl | hq
    · exact hf _ (R.immn p hp)
    · exact R.immoff p hp q hq⟩
theorem Rep.sub (R : Rep w news imm as) (hs : ∀ p ∈ as', p ∈ as) (hn : (as'.map (·.1)).Nodup) : Rep w news imm as' :=
  ⟨fun q hq => R.has q (hs q hq), hn, R.immn, fun p hp q hq => R.immoff p hp q (hs q hq)⟩
theorem Rep.perm (R : Rep w news imm as) (hp : as'.Perm as) : Rep w news imm as' := R.sub (fun p h => hp.mem_iff.mp h) ((hp.map _).nodup_iff.mpr R.nd)
theorem Rep.drop1 (R : Rep w news imm (pre ++ (a, x) :: post)) : Rep w news imm (pre ++ post) := R.sub (fun p hp => by
  rcases List.mem_append.mp hp with h | h
  · exact List.mem_append_left _ h
  · exact List.mem_append_right _ (.tail _ h)) (by
  have := R.nd
  rw [List.map_append, List.map_cons] at this
  rw [List.map_append]
  exact this.sublist (List.Sublist.append_left (List.sublist_cons_self ..) _))
end
def cosAs (l : List (Addr × Co)) : List (Addr × As) := l.map fun p => (p.1, .co p.2)
def savAs (l : List (Addr × List (Addr × Co))) : List (Addr × As) := l.flatMap fun s => (s.1, .refs (s.2.map (·.1))) :: cosAs s.2
def kpAs (l : List (Addr × Obj)) : List (Addr × As) := l.map fun p => (p.1, .raw p.2)
def asOf (g : Gh) (q : Vg) (σ : St) (kp : List (Addr × Obj)) : List (Addr × As) :=
  (g.x, .inst g.dx) :: (g.dx, .cdict g.aH q.aK g.aR σ.hb σ.bb) :: (g.aH, .cells σ.heap) :: (q.aK, .cells σ.stack) :: (g.aR, .ints σ.trail) :: (g.aW, .world q.aC q.aN g.aX σ.wtr) :: (q.aC, .refs (q.cos.map (·.1))) :: (q.aN, .cells σ.names) ::
    (g.aX, .chs q.lbs σ.past) :: (cosAs q.cos ++ (savAs q.sav ++ kpAs kp))
structure RS (w : World) (news imm kp : List (Addr × Obj)) (g : Gh) (q : Vg) (σ : St) : Prop where
  rep : Rep w news imm (asOf g q σ kp)
  ec : q.cos.map (·.2) = σ.comps
structure Tied (q : Vg) (σ : St) : Prop where
  lbs : q.lbs = q.sav.map (·.1)
  es : q.sav.map (fun s => s.2.map (·.2)) = σ.past.map (·.comps)
theorem fill_0 : (PySem.Challenge.rw_ok0013_01, hd.heap_1) = (PySem.Challenge.rw_ok0013_01, hd.heap_1) := by k_fill; rfl
inductive Dr (H K : List Cl) : Nat → Cl → Cl → Prop
  | tag {n : Nat} {t i : Int} : t ≠ 0 → t ≠ 1 → Dr H K n (t, i) (t, i)
  | selfH {n i : Nat} : H[i]? = some (0, (i : Int)) → Dr H K n (0, (i : Int)) (0, (i : Int))
  | selfK {n i : Nat} : K[i]? = some (1, (i : Int)) → Dr H K n (1, (i : Int)) (1, (i : Int))
  | stepH {n i : Nat} {d e : Cl} : H[i]? = some d → d ≠ (0, (i : Int)) → Dr H K n d e → Dr H K (n + 1) (0, (i : Int)) e
  | stepK {n i : Nat} {d e : Cl} : K[i]? = some d → d ≠ (1, (i : Int)) → Dr H K n d e → Dr H K (n + 1) (1, (i : Int)) e
structure Sm (σ : St) : Prop where
  heap : σ.heap.length ≤ 20000
  stack : σ.stack.length ≤ 20000
  trail : σ.trail.length ≤ 20000
  comps : σ.comps.length ≤ 20000
  names : σ.names.length ≤ 20000
  past : σ.past.length ≤ 20000
  co : ∀ c ∈ σ.comps, c.names.length ≤ 20000
theorem cell_in {imm : List (Addr × Obj)} {v : Value} {c : Cl} (h : DatIn imm v (cd c)) :
    ∃ a t1 t2 n, v = .ref a ∧ (a, ({ cls := .type "tuple", data := .seq [Value.int c.1 t1, .int c.2 t2].toArray n } : Obj)) ∈ imm := by
  unfold cd at h
  cases h with
  | tuple hm r =>
    cases r with
    | cons h1 r =>
      cases r with
      | cons h2 r =>
        cases r
        cases h1
        cases h2
        exact ⟨_, _, _, _, rfl, hm⟩
theorem cell_of {imm : List (Addr × Obj)} {c : Cl} {a : Addr} {t1 t2 : Tok} {n : Nat} (h : (a, ({ cls := .type "tuple", data := .seq [Value.int c.1 t1, .int c.2 t2].toArray n } : Obj)) ∈ imm) : DatIn imm (.ref a) (cd c) :=
  .tuple h (.cons (.int _ _) (.cons (.int _ _) .nil))
theorem cd_ok (c : Cl) : kqdOk 8 (cd c) = true := rfl
theorem cd_inj {c d : Cl} : cd c = cd d ↔ c = d := by
  unfold cd
  constructor
  · intro h
    injection h with h
    injection h with h1 h
    injection h with h2 _
    injection h1 with h1
    injection h2 with h2
    exact Prod.ext h1 h2
  · rintro rfl; rfl
theorem cds_inj : ∀ {cs ds : List Cl}, cs.map cd = ds.map cd ↔ cs = ds
  | [], [] => by simp
  | [], _ :: _ => by simp
  | _ :: _, [] => by simp
  | c :: cs, d :: ds => by simp only [List.map_cons, List.cons.injEq, cd_inj, cds_inj]
theorem cells_get {imm : List (Addr × Obj)} {vs : List Value} {cs : List Cl} (h : DatAll imm vs (cs.map cd)) {i : Nat} {c : Cl} (hc : cs[i]? = some c) : ∃ v, vs[i]? = some v ∧ DatIn imm v (cd c) := by
  have hi : i < (cs.map cd).length := by
    rw [List.length_map]
    exact (List.getElem?_eq_some_iff.mp hc).1
  obtain ⟨v, h1, h2⟩ := h.get hi
  refine ⟨v, h1, ?_⟩
  have : (cs.map cd)[i] = cd c := by
    rw [List.getElem_map]
    rw [(List.getElem?_eq_some_iff.mp hc).2]
  rw [this] at h2
  exact h2
theorem cells_len {imm : List (Addr × Obj)} {vs : List Value} {cs : List Cl} (h : DatAll imm vs (cs.map cd)) : vs.length = cs.length := by rw [h.length, List.length_map]
section
variable {prog : Program} {w : World} {A : Around} {E : Value → Shared → Prop} {s : Shared} {h₀ : Heap} {L : Addr} {news imm : List (Addr × Obj)} {Q : Value → Shared → Prop} {u v : Value} {c d : Cl}
theorem cell_eqv : PyData.eqv (kqdP (cd c)) (kqdP (cd d)) = decide (c = d) := by
  have q := kqd_eqv 8 (cd c) (cd d) 8 rfl rfl
  by_cases hq : c = d
  · rw [decide_eq_true hq]; exact q.mpr (cd_inj.mpr hq)
  · rw [decide_eq_false hq]; exact Bool.eq_false_iff.mpr fun x => hq (cd_inj.mp (q.mp x))
theorem eq_cells (N : News h₀ L s.heap news) (hs : ∀ p ∈ imm, p ∈ news) (hc : DatIn imm u (cd c)) (hd : DatIn imm v (cd d)) (hu : A.units + 64 < cLine) (h : Q (.bool (decide (c = d))) s) :
    wpAny (model prog w) A (compareOp .Eq u v) Q E s := by
  obtain ⟨as, ra⟩ := kqd_in N 8 (hc.mono hs) rfl
  obtain ⟨bs, rb⟩ := kqd_in N 8 (hd.mono hs) rfl
  have la := kqd_lay 8 (cd c) rfl
  have lb := kqd_lay 8 (cd d) rfl
  refine eq_dataH ra rb ?_ ?_ hu (by rw [cell_eqv]; exact h)
  · unfold SeqAt.shaped; rw [la.1, Bool.true_and]; exact decide_eq_true (Nat.le_trans la.2 (by decide))
  · unfold SeqAt.shaped; rw [lb.1, Bool.true_and]; exact decide_eq_true (Nat.le_trans lb.2 (by decide))
theorem ne_cells (N : News h₀ L s.heap news) (hs : ∀ p ∈ imm, p ∈ news) (hc : DatIn imm u (cd c)) (hd : DatIn imm v (cd d)) (hu : A.units + 64 < cLine) (h : Q (.bool (!decide (c = d))) s) :
    wpAny (model prog w) A (compareOp .NotEq u v) Q E s := by
  obtain ⟨as, ra⟩ := kqd_in N 8 (hc.mono hs) rfl
  obtain ⟨bs, rb⟩ := kqd_in N 8 (hd.mono hs) rfl
  have la := kqd_lay 8 (cd c) rfl
  have lb := kqd_lay 8 (cd d) rfl
  refine ne_dataH ra rb ?_ ?_ hu (by rw [cell_eqv]; exact h)
  · unfold SeqAt.shaped; rw [la.1, Bool.true_and]; exact decide_eq_true (Nat.le_trans la.2 (by decide))
  · unfold SeqAt.shaped; rw [lb.1, Bool.true_and]; exact decide_eq_true (Nat.le_trans lb.2 (by decide))
end
theorem mem2 {α : Type} {a b : α} {l : List α} (h : a ∈ l) : a ∈ b :: l := .tail _ h
theorem units_of {A : Around} {k : Nat} (h : A.units + 3 * k ≤ 900) : A.units + 64 < cLine := by unfold cLine; omega
section
variable {w : World} {A₀ A : Around} {base h₀ : Heap} {L : Addr} {m : Str → Option Value} {news imm kp : List (Addr × Obj)} {g : Gh} {q : Vg} {σ : St} {s : Shared} {E : Value → Shared → Prop} {Q : Value → Shared → Prop} {QU : Unit → Shared → Prop} {QM : Value × List Value → Shared → Prop}
theorem RS.oI (R : RS w news imm kp g q σ) : (g.x, instObj 219 g.dx) ∈ news := by
  obtain ⟨o, h, rfl⟩ := R.rep.has (g.x, .inst g.dx) (by simp [asOf])
  exact h
theorem RS.oD (R : RS w news imm kp g q σ) : ∃ t u v, (g.dx, dictOf (cellsEs w.params t g.aH q.aK g.aR σ.hb σ.bb u v) 7) ∈ news := by
  obtain ⟨o, h, t, u, v, rfl⟩ := R.rep.has (g.dx, .cdict g.aH q.aK g.aR σ.hb σ.bb) (by simp [asOf])
  exact ⟨t, u, v, h⟩
theorem RS.oH (R : RS w news imm kp g q σ) : ∃ vs n, (g.aH, W.listOf (List.toArray vs) n) ∈ news ∧ DatAll imm vs (σ.heap.map cd) := by
  obtain ⟨o, h, vs, n, rfl, d⟩ := R.rep.has (g.aH, .cells σ.heap) (by simp [asOf])
  exact ⟨vs, n, h, d⟩
theorem RS.oK (R : RS w news imm kp g q σ) : ∃ vs n, (q.aK, W.listOf (List.toArray vs) n) ∈ news ∧ DatAll imm vs (σ.stack.map cd) := by
  obtain ⟨o, h, vs, n, rfl, d⟩ := R.rep.has (q.aK, .cells σ.stack) (by simp [asOf])
  exact ⟨vs, n, h, d⟩
theorem RS.oN (R : RS w news imm kp g q σ) : ∃ vs n, (q.aN, W.listOf (List.toArray vs) n) ∈ news ∧ DatAll imm vs (σ.names.map cd) := by
  obtain ⟨o, h, vs, n, rfl, d⟩ := R.rep.has (q.aN, .cells σ.names) (by simp [asOf])
  exact ⟨vs, n, h, d⟩
theorem RS.oR (R : RS w news imm kp g q σ) : ∃ vs n, (g.aR, W.listOf (List.toArray vs) n) ∈ news ∧ IntsAre vs σ.trail := by
  obtain ⟨o, h, vs, n, rfl, d⟩ := R.rep.has (g.aR, .ints σ.trail) (by simp [asOf])
  exact ⟨vs, n, h, d⟩
theorem RS.oW (R : RS w news imm kp g q σ) : ∃ o u, (g.aW, o) ∈ news ∧ o.IsDictOf (PySem.strKind PG w) [(Str.ofString "companies", .ref q.aC), (Str.ofString "names", .ref q.aN), (Str.ofString "trail", .int σ.wtr u), (Str.ofString "choices", .ref g.aX)] := by
  obtain ⟨o, h, u, d⟩ := R.rep.has (g.aW, .world q.aC q.aN g.aX σ.wtr) (by simp [asOf])
  exact ⟨o, u, h, d⟩
theorem RS.oC (R : RS w news imm kp g q σ) : ∃ n, (q.aC, W.listOf (List.toArray ((q.cos.map (·.1)).map Value.ref)) n) ∈ news := by
  obtain ⟨o, h, n, rfl⟩ := R.rep.has (q.aC, .refs (q.cos.map (·.1))) (by simp [asOf])
  exact ⟨n, h⟩
theorem RS.oX (R : RS w news imm kp g q σ) : ∃ vs n, (g.aX, W.listOf (List.toArray vs) n) ∈ news ∧ ChsIn imm vs q.lbs σ.past := by
  obtain ⟨o, h, vs, n, rfl, d⟩ := R.rep.has (g.aX, .chs q.lbs σ.past) (by simp [asOf])
  exact ⟨vs, n, h, d⟩
theorem RS.oCo (R : RS w news imm kp g q σ) {a : Addr} {c : Co} (hc : (a, c) ∈ q.cos) : ∃ o l wv, (a, o) ∈ news ∧ o.IsDictOf (PySem.strKind PG w) [(Str.ofString "names", .ref l), (Str.ofString "worth", wv)] ∧ DatIn imm (.ref l) (.list (c.names.map cd)) ∧ DatIn imm wv (wd c.worth) := by
  obtain ⟨o, h, l, wv, d⟩ := R.rep.has (a, .co c) (by simp only [asOf, cosAs, List.mem_cons, List.mem_append, List.mem_map]; exact .inr (.inr (.inr (.inr (.inr (.inr (.inr (.inr (.inr (.inl ⟨_, hc, rfl⟩))))))))))
  exact ⟨o, l, wv, h, d⟩
theorem RS.oKp (R : RS w news imm kp g q σ) {a : Addr} {o : Obj} (hc : (a, o) ∈ kp) : (a, o) ∈ news := by
  obtain ⟨o', h, rfl⟩ := R.rep.has (a, .raw o) (by simp only [asOf, kpAs, List.mem_cons, List.mem_append, List.mem_map]; exact .inr (.inr (.inr (.inr (.inr (.inr (.inr (.inr (.inr (.inr (.inr ⟨_, hc, rfl⟩)))))))))))
  exact h
theorem ga_heap {expr : Bool} (F : Fr h₀ L s.heap m) (X : (hd.heap_1 w.params).In h₀) (N : News h₀ L s.heap news) (R : RS w news imm kp g q σ) (h : Q (.ref g.aH) { s with toks := s.toks + 1 }) :
    wpAny (model PG w) A (getAttr (.ref g.x) (Str.ofString "heap") expr) Q E s := by
  obtain ⟨t, u, v, mD⟩ := R.oD
  refine' get_own F X (InstAt.of_news N R.oI mD) ?k4 ?k5 ?k6 ?k7 ?k8 ?k9 ?_
  case k4 => k_is
  case k5 => k_is
  case k6 => k_is
  case k7 => k_is
  case k8 => k_get
  case k9 => rfl
  exact h
theorem ga_stack {expr : Bool} (F : Fr h₀ L s.heap m) (X : (hd.heap_1 w.params).In h₀) (N : News h₀ L s.heap news) (R : RS w news imm kp g q σ) (h : Q (.ref q.aK) { s with toks := s.toks + 1 }) :
    wpAny (model PG w) A (getAttr (.ref g.x) (Str.ofString "stack") expr) Q E s := by
  obtain ⟨t, u, v, mD⟩ := R.oD
  refine' get_own F X (InstAt.of_news N R.oI mD) ?k4 ?k5 ?k6 ?k7 ?k8 ?k9 ?_
  case k4 => k_is
  case k5 => k_is
  case k6 => k_is
  case k7 => k_is
  case k8 => k_get
  case k9 => rfl
  exact h
theorem ga_trail {expr : Bool} (F : Fr h₀ L s.heap m) (X : (hd.heap_1 w.params).In h₀) (N : News h₀ L s.heap news) (R : RS w news imm kp g q σ) (h : Q (.ref g.aR) { s with toks := s.toks + 1 }) :
    wpAny (model PG w) A (getAttr (.ref g.x) (Str.ofString "trail") expr) Q E s := by
  obtain ⟨t, u, v, mD⟩ := R.oD
  refine' get_own F X (InstAt.of_news N R.oI mD) ?k4 ?k5 ?k6 ?k7 ?k8 ?k9 ?_
  case k4 => k_is
  case k5 => k_is
  case k6 => k_is
  case k7 => k_is
  case k8 => k_get
  case k9 => rfl
  exact h
theorem ga_symbols {expr : Bool} (F : Fr h₀ L s.heap m) (X : (hd.heap_1 w.params).In h₀) (N : News h₀ L s.heap news) (R : RS w news imm kp g q σ) (h : Q (.none) { s with toks := s.toks + 1 }) :
    wpAny (model PG w) A (getAttr (.ref g.x) (Str.ofString "symbols") expr) Q E s := by
  obtain ⟨t, u, v, mD⟩ := R.oD
  refine' get_own F X (InstAt.of_news N R.oI mD) ?k4 ?k5 ?k6 ?k7 ?k8 ?k9 ?_
  case k4 => k_is
  case k5 => k_is
  case k6 => k_is
  case k7 => k_is
  case k8 => k_get
  case k9 => rfl
  exact h
theorem ga_hb {expr : Bool} (F : Fr h₀ L s.heap m) (X : (hd.heap_1 w.params).In h₀) (N : News h₀ L s.heap news) (R : RS w news imm kp g q σ) (h : ∀ u, Q (.int σ.hb u) { s with toks := s.toks + 1 }) :
    wpAny (model PG w) A (getAttr (.ref g.x) (Str.ofString "hb") expr) Q E s := by
  obtain ⟨t, u, v, mD⟩ := R.oD
  refine' get_own F X (InstAt.of_news N R.oI mD) ?k4 ?k5 ?k6 ?k7 ?k8 ?k9 ?_
  case k4 => k_is
  case k5 => k_is
  case k6 => k_is
  case k7 => k_is
  case k8 => k_get
  case k9 => rfl
  exact h _
theorem ga_bb {expr : Bool} (F : Fr h₀ L s.heap m) (X : (hd.heap_1 w.params).In h₀) (N : News h₀ L s.heap news) (R : RS w news imm kp g q σ) (h : ∀ u, Q (.int σ.bb u) { s with toks := s.toks + 1 }) :
    wpAny (model PG w) A (getAttr (.ref g.x) (Str.ofString "bb") expr) Q E s := by
  obtain ⟨t, u, v, mD⟩ := R.oD
  refine' get_own F X (InstAt.of_news N R.oI mD) ?k4 ?k5 ?k6 ?k7 ?k8 ?k9 ?_
  case k4 => k_is
  case k5 => k_is
  case k6 => k_is
  case k7 => k_is
  case k8 => k_get
  case k9 => rfl
  exact h _
theorem ga_max_heap {expr : Bool} (F : Fr h₀ L s.heap m) (X : (hd.heap_1 w.params).In h₀) (N : News h₀ L s.heap news) (R : RS w news imm kp g q σ) (h : ∀ u, Q (.int 100000 u) { s with toks := s.toks + 1 }) :
    wpAny (model PG w) A (getAttr (.ref g.x) (Str.ofString "max_heap") expr) Q E s := by
  obtain ⟨t, u, v, mD⟩ := R.oD
  refine' get_own F X (InstAt.of_news N R.oI mD) ?k4 ?k5 ?k6 ?k7 ?k8 ?k9 ?_
  case k4 => k_is
  case k5 => k_is
  case k6 => k_is
  case k7 => k_is
  case k8 => k_get
  case k9 => rfl
  exact h _
theorem gm_x {pl : Sem Bool} {name : Str} {f : Addr} (F : Fr h₀ L s.heap m) (X : (hd.heap_1 w.params).In h₀) (N : News h₀ L s.heap news) (R : RS w news imm kp g q σ)
    (hg : plainGet (hd.heap_1 w.params) 219 name = true) (hf : findIn (hd.heap_1 w.params) (.ref 219) name = some (some (.ref f))) (ht : isFn (hd.heap_1 w.params) (.ref f) = true)
    (hl : ∀ t u v, getL name (cellsEs w.params t g.aH q.aK g.aR σ.hb σ.bb u v) = some none) (h : QM (.ref f, [.ref g.x]) s) : wpAny (model PG w) A (getMethod (.ref g.x) name pl) QM E s := by
  obtain ⟨t, u, v, mD⟩ := R.oD
  exact method_inst F X (InstAt.of_news N R.oI mD) hg hf ht (hl t u v) h
theorem len_heap (N : News h₀ L s.heap news) (R : RS w news imm kp g q σ) (hz : σ.heap.length ≤ 100000) (h : ∀ u, Q (.int (σ.heap.length : Int) u) { s with toks := s.toks + 1 + 1 }) : wpAny (model PG w) A (call (.builtin "len") [.ref g.aH]) Q E s := by
  obtain ⟨vs, n, hm, d⟩ := R.oH
  have e : vs.length = σ.heap.length := by simpa using d.length
  refine len_list (News.isList N hm) (by simp only [List.size_toArray]; omega) ?_
  rw [List.size_toArray, e]
  exact h _
theorem len_stack (N : News h₀ L s.heap news) (R : RS w news imm kp g q σ) (hz : σ.stack.length ≤ 100000) (h : ∀ u, Q (.int (σ.stack.length : Int) u) { s with toks := s.toks + 1 + 1 }) : wpAny (model PG w) A (call (.builtin "len") [.ref q.aK]) Q E s := by
  obtain ⟨vs, n, hm, d⟩ := R.oK
  have e : vs.length = σ.stack.length := by simpa using d.length
  refine len_list (News.isList N hm) (by simp only [List.size_toArray]; omega) ?_
  rw [List.size_toArray, e]
  exact h _
theorem len_names (N : News h₀ L s.heap news) (R : RS w news imm kp g q σ) (hz : σ.names.length ≤ 100000) (h : ∀ u, Q (.int (σ.names.length : Int) u) { s with toks := s.toks + 1 + 1 }) : wpAny (model PG w) A (call (.builtin "len") [.ref q.aN]) Q E s := by
  obtain ⟨vs, n, hm, d⟩ := R.oN
  have e : vs.length = σ.names.length := by simpa using d.length
  refine len_list (News.isList N hm) (by simp only [List.size_toArray]; omega) ?_
  rw [List.size_toArray, e]
  exact h _
theorem len_trail (N : News h₀ L s.heap news) (R : RS w news imm kp g q σ) (hz : σ.trail.length ≤ 100000) (h : ∀ u, Q (.int (σ.trail.length : Int) u) { s with toks := s.toks + 1 + 1 }) : wpAny (model PG w) A (call (.builtin "len") [.ref g.aR]) Q E s := by
  obtain ⟨vs, n, hm, d⟩ := R.oR
  have e : vs.length = σ.trail.length := by exact d.length
  refine len_list (News.isList N hm) (by simp only [List.size_toArray]; omega) ?_
  rw [List.size_toArray, e]
  exact h _
theorem item_heap {value slice : PySem.Expr} {k : Int} {u : Tok} {c : Cl} (N : News h₀ L s.heap news) (R : RS w news imm kp g q σ) (h0 : 0 ≤ k) (hk : σ.heap[k.toNat]? = some c) (hz : σ.heap.length ≤ 100000) (h : ∀ a, DatIn imm (.ref a) (cd c) → Q (.ref a) s)
    (hs : subscripted slice false (.ref g.aH) (.int k u) = operate [.ref g.aH, .int k u] (getItem (.ref g.aH) (.int k u)) := by with_unfolding_all rfl) : wpAny (model PG w) A (subscriptTail value slice (.ref g.aH) (.int k u)) Q E s := by
  obtain ⟨vs, n, hm, d⟩ := R.oH
  have hl := (List.getElem?_eq_some_iff.mp hk).1
  refine kd_item N hm d h0 (by rw [List.length_map]; omega) (by omega) (fun v d' hd hmm hD => ?_) hs
  have e : d' = cd c := by
    rw [List.getElem?_map, hk] at hd
    exact (Option.some.inj hd).symm
  subst e
  obtain ⟨a, rfl⟩ : ∃ a, v = .ref a := by
    cases hD with
    | tuple _ _ => exact ⟨_, rfl⟩
  exact h a hD
theorem item_stack {value slice : PySem.Expr} {k : Int} {u : Tok} {c : Cl} (N : News h₀ L s.heap news) (R : RS w news imm kp g q σ) (h0 : 0 ≤ k) (hk : σ.stack[k.toNat]? = some c) (hz : σ.stack.length ≤ 100000) (h : ∀ a, DatIn imm (.ref a) (cd c) → Q (.ref a) s)
    (hs : subscripted slice false (.ref q.aK) (.int k u) = operate [.ref q.aK, .int k u] (getItem (.ref q.aK) (.int k u)) := by with_unfolding_all rfl) : wpAny (model PG w) A (subscriptTail value slice (.ref q.aK) (.int k u)) Q E s := by
  obtain ⟨vs, n, hm, d⟩ := R.oK
  have hl := (List.getElem?_eq_some_iff.mp hk).1
  refine kd_item N hm d h0 (by rw [List.length_map]; omega) (by omega) (fun v d' hd hmm hD => ?_) hs
  have e : d' = cd c := by
    rw [List.getElem?_map, hk] at hd
    exact (Option.some.inj hd).symm
  subst e
  obtain ⟨a, rfl⟩ : ∃ a, v = .ref a := by
    cases hD with
    | tuple _ _ => exact ⟨_, rfl⟩
  exact h a hD
theorem item_names {value slice : PySem.Expr} {k : Int} {u : Tok} {c : Cl} (N : News h₀ L s.heap news) (R : RS w news imm kp g q σ) (h0 : 0 ≤ k) (hk : σ.names[k.toNat]? = some c) (hz : σ.names.length ≤ 100000) (h : ∀ a, DatIn imm (.ref a) (cd c) → Q (.ref a) s)
    (hs : subscripted slice false (.ref q.aN) (.int k u) = operate [.ref q.aN, .int k u] (getItem (.ref q.aN) (.int k u)) := by with_unfolding_all rfl) : wpAny (model PG w) A (subscriptTail value slice (.ref q.aN) (.int k u)) Q E s := by
  obtain ⟨vs, n, hm, d⟩ := R.oN
  have hl := (List.getElem?_eq_some_iff.mp hk).1
  refine kd_item N hm d h0 (by rw [List.length_map]; omega) (by omega) (fun v d' hd hmm hD => ?_) hs
  have e : d' = cd c := by
    rw [List.getElem?_map, hk] at hd
    exact (Option.some.inj hd).symm
  subst e
  obtain ⟨a, rfl⟩ : ∃ a, v = .ref a := by
    cases hD with
    | tuple _ _ => exact ⟨_, rfl⟩
  exact h a hD
theorem cell0 {value slice : PySem.Expr} {u : Tok} {a : Addr} {c : Cl} (N : News h₀ L s.heap news) (R : RS w news imm kp g q σ) (hv : DatIn imm (.ref a) (cd c)) (h : ∀ t, Q (.int c.1 t) s)
    (hs : subscripted slice false (.ref a) (.int 0 u) = operate [.ref a, .int 0 u] (getItem (.ref a) (.int 0 u)) := by with_unfolding_all rfl) : wpAny (model PG w) A (subscriptTail value slice (.ref a) (.int 0 u)) Q E s := by
  obtain ⟨a', ta, tb, na, e, ha⟩ := cell_in hv
  cases e
  exact item_tupleT (News.isTup N (R.rep.immn _ ha)) (k := _) (by decide) (by decide) rfl rfl (h _) hs
theorem cell1 {value slice : PySem.Expr} {u : Tok} {a : Addr} {c : Cl} (N : News h₀ L s.heap news) (R : RS w news imm kp g q σ) (hv : DatIn imm (.ref a) (cd c)) (h : ∀ t, Q (.int c.2 t) s)
    (hs : subscripted slice false (.ref a) (.int 1 u) = operate [.ref a, .int 1 u] (getItem (.ref a) (.int 1 u)) := by with_unfolding_all rfl) : wpAny (model PG w) A (subscriptTail value slice (.ref a) (.int 1 u)) Q E s := by
  obtain ⟨a', ta, tb, na, e, ha⟩ := cell_in hv
  cases e
  exact item_tupleT (News.isTup N (R.rep.immn _ ha)) (k := _) (by decide) (by decide) rfl rfl (h _) hs
theorem eq_cl {u v : Value} {c d : Cl} (N : News h₀ L s.heap news) (R : RS w news imm kp g q σ) (hc : DatIn imm u (cd c)) (hd : DatIn imm v (cd d)) (hu : A.units + 64 < cLine) (h : Q (.bool (decide (c = d))) s) : wpAny (model PG w) A (compareOp .Eq u v) Q E s := eq_cells N R.rep.immn hc hd hu h
theorem ne_cl {u v : Value} {c d : Cl} (N : News h₀ L s.heap news) (R : RS w news imm kp g q σ) (hc : DatIn imm u (cd c)) (hd : DatIn imm v (cd d)) (hu : A.units + 64 < cLine) (h : Q (.bool (!decide (c = d))) s) : wpAny (model PG w) A (compareOp .NotEq u v) Q E s := ne_cells N R.rep.immn hc hd hu h
end
theorem gets_of {w : World} {news imm : List (Addr × Obj)} {as pre post : List (Addr × As)} {a : Addr} {x : As} (R : Rep w news imm as) (e : as = pre ++ (a, x) :: post) : ∃ o, (a, o) ∈ news ∧ sem w imm x o := R.has (a, x) (by rw [e]; simp)
theorem datAll_set {imm : List (Addr × Obj)} {v : Value} {d : Dat} (hv : DatIn imm v d) : ∀ {vs : List Value} {ds : List Dat} (i : Nat), DatAll imm vs ds → DatAll imm (vs.set i v) (ds.set i d)
  | _, _, _, .nil => .nil
  | _, _, 0, .cons _ r => .cons hv r
  | _, _, i + 1, .cons h r => .cons h (datAll_set hv i r)
section
variable {w : World} {A₀ A : Around} {base h₀ : Heap} {L : Addr} {m : Str → Option Value} {news imm kp : List (Addr × Obj)} {as pre post : List (Addr × As)} {g : Gh} {q : Vg} {σ : St} {s : Shared} {E : Value → Shared → Prop} {Q : Value → Shared → Prop} {QU : Unit → Shared → Prop} {QM : Value × List Value → Shared → Prop} {a : Addr} {cs : List Cl} {is : List Int} {rs lbs : List Addr} {past : List Sn} {c : Cl} {v : Value}
-- lists of cells
theorem cells_append (F : Fr h₀ L s.heap m) (N : News h₀ L s.heap news) (R : Rep w news imm (pre ++ (a, .cells cs) :: post)) (hv : DatIn imm v (cd c)) (hz : cs.length ≤ 20000)
    (h : ∀ h' news', Fr h₀ L h' m → News h₀ L h' news' → Rep w news' imm (pre ++ (a, .cells (cs ++ [c])) :: post) → Q .none { s with heap := h' }) : wpAny (model PG w) A (call (.builtin "list.append") [.ref a, v]) Q E s := by
  obtain ⟨o, hm, vs, n, rfl, d⟩ := R.at
  have hl : vs.length = cs.length := cells_len d
  refine append_K F (focus N hm) (Upd.head off_ne) (fun h' F' N' => h h' _ F' N' (R.upd ⟨vs ++ [v], n + 1, by rw [List.push_toArray], ?_⟩)) (by rw [List.size_toArray, sizeLine_eq]; omega)
  rw [List.map_append]
  exact d.append (.cons hv .nil)
theorem cells_set {k : Int} {t : Tok} (F : Fr h₀ L s.heap m) (N : News h₀ L s.heap news) (R : Rep w news imm (pre ++ (a, .cells cs) :: post)) (hv : DatIn imm v (cd c)) (hz : cs.length ≤ 20000) (h0 : 0 ≤ k) (hk : k < cs.length)
    (h : ∀ h' news', Fr h₀ L h' m → News h₀ L h' news' → Rep w news' imm (pre ++ (a, .cells (cs.set k.toNat c)) :: post) → QU () { s with heap := h' }) : wpAny (model PG w) A (setItem (.ref a) (.int k t) v) QU E s := by
  obtain ⟨o, hm, vs, n, rfl, d⟩ := R.at
  have hl : vs.length = cs.length := cells_len d
  have N1 := focus N hm
  have z := N _ hm
  refine ki_setAt z.1 h0 (by omega) (by simp only [List.size_toArray]; omega) (h _ _ (F.change (Heap.SameBut.update ..) z.2.1 z.2.2) (ki_turn (pre := []) (its' := (vs.set k.toNat v).toArray) _ N1 (fun _ h => nomatch h) off_ne ?_ ?_) (R.upd ⟨vs.set k.toNat v, n, rfl, ?_⟩))
  · show vs.toArray.setIfInBounds k.toNat v = (vs.set k.toNat v).toArray
    apply Array.toList_inj.mp
    simp
  · simp
  · rw [List.map_set]
    exact datAll_set hv _ d
theorem cells_set0 {k : Int} {t : Tok} (F : Fr h₀ L s.heap m) (N : News h₀ L s.heap news) (R : Rep w news imm (pre ++ (a, .chs lbs past) :: post)) {vs : List Value} {n : Nat} {lbs' : List Addr} {past' : List Sn} (hm : (a, W.listOf (List.toArray vs) n) ∈ news) (hz : vs.length ≤ 20000) (hk : vs ≠ [])
    (hv : ChsIn imm (vs.set (vs.length - 1) v) lbs' past')
    (h : ∀ h' news', Fr h₀ L h' m → News h₀ L h' news' → Rep w news' imm (pre ++ (a, .chs lbs' past') :: post) → QU () { s with heap := h' }) : wpAny (model PG w) A (setItem (.ref a) (.int (-1) t) v) QU E s := by
  have hl : 0 < vs.length := List.length_pos_iff.mpr hk
  have N1 := focus N hm
  have z := N _ hm
  refine ki_setBack z.1 (by omega) (by simp only [List.size_toArray]; omega) (by omega) (h _ _ (F.change (Heap.SameBut.update ..) z.2.1 z.2.2) (ki_turn (pre := []) (its' := (vs.set (vs.length - 1) v).toArray) _ N1 (fun _ h => nomatch h) off_ne ?_ ?_) (R.upd ⟨vs.set (vs.length - 1) v, n, rfl, hv⟩))
  · show vs.toArray.setIfInBounds (-1 + (vs.toArray.size : Int)).toNat v = (vs.set (vs.length - 1) v).toArray
    apply Array.toList_inj.mp
    simp only [Array.toList_setIfInBounds, List.size_toArray]
    have : (-1 + (vs.length : Int)).toNat = vs.length - 1 := by omega
    rw [this]
  · simp
theorem ints_append {i : Int} {t : Tok} (F : Fr h₀ L s.heap m) (N : News h₀ L s.heap news) (R : Rep w news imm (pre ++ (a, .ints is) :: post)) (hz : is.length ≤ 20000)
    (h : ∀ h' news', Fr h₀ L h' m → News h₀ L h' news' → Rep w news' imm (pre ++ (a, .ints (is ++ [i])) :: post) → Q .none { s with heap := h' }) : wpAny (model PG w) A (call (.builtin "list.append") [.ref a, .int i t]) Q E s := by
  obtain ⟨o, hm, vs, n, rfl, d⟩ := R.at
  have hl : vs.length = is.length := d.length
  refine append_K F (focus N hm) (Upd.head off_ne) (fun h' F' N' => h h' _ F' N' (R.upd ⟨vs ++ [.int i t], n + 1, by rw [List.push_toArray], ?_⟩)) (by rw [List.size_toArray, sizeLine_eq]; omega)
  exact d.append (.cons _ _ .nil)
theorem refs_append {b : Addr} (F : Fr h₀ L s.heap m) (N : News h₀ L s.heap news) (R : Rep w news imm (pre ++ (a, .refs rs) :: post)) (hz : rs.length ≤ 20000)
    (h : ∀ h' news', Fr h₀ L h' m → News h₀ L h' news' → Rep w news' imm (pre ++ (a, .refs (rs ++ [b])) :: post) → Q .none { s with heap := h' }) : wpAny (model PG w) A (call (.builtin "list.append") [.ref a, .ref b]) Q E s := by
  obtain ⟨o, hm, n, rfl⟩ := R.at
  refine append_K F (focus N hm) (Upd.head off_ne) (fun h' F' N' => h h' _ F' N' (R.upd ⟨n + 1, by rw [List.push_toArray, List.map_append]; rfl⟩)) (by rw [List.size_toArray, sizeLine_eq, List.length_map]; omega)
theorem chs_append {lb : Addr} {sn : Sn} (F : Fr h₀ L s.heap m) (N : News h₀ L s.heap news) (R : Rep w news imm (pre ++ (a, .chs lbs past) :: post)) (hv : ChIn imm lb sn v) (hz : past.length ≤ 20000)
    (h : ∀ h' news', Fr h₀ L h' m → News h₀ L h' news' → Rep w news' imm (pre ++ (a, .chs (lbs ++ [lb]) (past ++ [sn])) :: post) → Q .none { s with heap := h' }) : wpAny (model PG w) A (call (.builtin "list.append") [.ref a, v]) Q E s := by
  obtain ⟨o, hm, vs, n, rfl, d⟩ := R.at
  have hl : vs.length = past.length := d.length
  refine append_K F (focus N hm) (Upd.head off_ne) (fun h' F' N' => h h' _ F' N' (R.upd ⟨vs ++ [v], n + 1, by rw [List.push_toArray], d.append hv⟩)) (by rw [List.size_toArray, sizeLine_eq]; omega)
theorem kl_last_append (p : List Value) (y : Value) : kl_last (p ++ [y]) = some (p, y) := by
  induction p with
  | nil => rfl
  | cons x p ih =>
    cases p with
    | nil => rfl
    | cons z p => simp only [List.cons_append] at ih ⊢; rw [kl_last, ih]
theorem intsAre_snoc {vs : List Value} {ns : List Int} {i : Int} (h : IntsAre vs (ns ++ [i])) : ∃ p t, vs = p ++ [.int i t] ∧ IntsAre p ns := by
  induction ns generalizing vs with
  | nil =>
    cases h with
    | cons _ t r => cases r; exact ⟨[], t, rfl, .nil⟩
  | cons n ns ih =>
    cases h with
    | cons _ t r =>
      obtain ⟨p, t', rfl, hp⟩ := ih r
      exact ⟨_ :: p, t', rfl, .cons _ _ hp⟩
theorem ints_pop {i : Int} (F : Fr h₀ L s.heap m) (N : News h₀ L s.heap news) (R : Rep w news imm (pre ++ (a, .ints (is ++ [i])) :: post)) (hz : is.length ≤ 20000)
    (h : ∀ h' news' t, Fr h₀ L h' m → News h₀ L h' news' → Rep w news' imm (pre ++ (a, .ints is) :: post) → Q (.int i t) { s with heap := h' }) : wpAny (model PG w) A (call (.builtin "list.pop") [.ref a]) Q E s := by
  obtain ⟨o, hm, vs, n, rfl, d⟩ := R.at
  obtain ⟨p, t, rfl, hp⟩ := intsAre_snoc d
  have hl := hp.length
  exact kl_pop F (focus N hm) (e := kl_last_append p _) (Upd.head off_ne) (by simp only [List.length_append, List.length_singleton, sizeLine_eq]; omega) (fun h' F' N' => h h' _ _ F' N' (R.upd ⟨p, n + 1, rfl, hp⟩))
theorem chsIn_snoc {vs : List Value} {lb : Addr} {sn : Sn} (h : ChsIn imm vs (lbs ++ [lb]) (past ++ [sn])) : ∃ p v, vs = p ++ [v] ∧ ChsIn imm p lbs past ∧ ChIn imm lb sn v := by
  induction past generalizing vs lbs with
  | nil =>
    have e := h.lengths
    simp only [List.length_append, List.length_singleton, List.nil_append, List.length_cons, List.length_nil] at e
    obtain rfl : lbs = [] := List.eq_nil_of_length_eq_zero (by omega)
    cases h with
    | cons h r => cases r; exact ⟨[], _, rfl, .nil, h⟩
  | cons x past ih =>
    cases lbs with
    | nil => have e := h.lengths; simp at e
    | cons l lbs =>
      cases h with
      | cons h r =>
        obtain ⟨p, v, rfl, h1, h2⟩ := ih r
        exact ⟨_ :: p, v, rfl, .cons h h1, h2⟩
theorem chs_pop {lb : Addr} {sn : Sn} (F : Fr h₀ L s.heap m) (N : News h₀ L s.heap news) (R : Rep w news imm (pre ++ (a, .chs (lbs ++ [lb]) (past ++ [sn])) :: post)) (hz : past.length ≤ 20000)
    (h : ∀ h' news' v, Fr h₀ L h' m → News h₀ L h' news' → Rep w news' imm (pre ++ (a, .chs lbs past) :: post) → Q v { s with heap := h' }) : wpAny (model PG w) A (call (.builtin "list.pop") [.ref a]) Q E s := by
  obtain ⟨o, hm, vs, n, rfl, d⟩ := R.at
  obtain ⟨p, t, rfl, hp, _⟩ := chsIn_snoc d
  have hl := hp.length
  exact kl_pop F (focus N hm) (e := kl_last_append p _) (Upd.head off_ne) (by simp only [List.length_append, List.length_singleton, sizeLine_eq]; omega) (fun h' F' N' => h h' _ _ F' N' (R.upd ⟨p, n + 1, rfl, hp⟩))
end
section
variable {w : World} {A₀ A : Around} {base h₀ : Heap} {L : Addr} {m : Str → Option Value} {news imm kp : List (Addr × Obj)} {g : Gh} {q : Vg} {σ : St} {s : Shared} {E : Value → Shared → Prop} {Q : Value → Shared → Prop} {QU : Unit → Shared → Prop} {QM : Value × List Value → Shared → Prop} {a : Addr} {c : Cl} {co : Co} {v : Value}
theorem push_heap (F : Fr h₀ L s.heap m) (N : News h₀ L s.heap news) (R : RS w news imm kp g q σ) (hv : DatIn imm v (cd c)) (hz : σ.heap.length ≤ 20000)
    (h : ∀ h' news', Fr h₀ L h' m → News h₀ L h' news' → RS w news' imm kp g q { σ with heap := σ.heap ++ [c] } → Q .none { s with heap := h' }) : wpAny (model PG w) A (call (.builtin "list.append") [.ref g.aH, v]) Q E s :=
  cells_append (pre := [_, _]) F N R.rep hv hz fun h' n' F' N' R' => h h' n' F' N' ⟨R', R.ec⟩
theorem push_stack (F : Fr h₀ L s.heap m) (N : News h₀ L s.heap news) (R : RS w news imm kp g q σ) (hv : DatIn imm v (cd c)) (hz : σ.stack.length ≤ 20000)
    (h : ∀ h' news', Fr h₀ L h' m → News h₀ L h' news' → RS w news' imm kp g q { σ with stack := σ.stack ++ [c] } → Q .none { s with heap := h' }) : wpAny (model PG w) A (call (.builtin "list.append") [.ref q.aK, v]) Q E s :=
  cells_append (pre := [_, _, _]) F N R.rep hv hz fun h' n' F' N' R' => h h' n' F' N' ⟨R', R.ec⟩
theorem push_names (F : Fr h₀ L s.heap m) (N : News h₀ L s.heap news) (R : RS w news imm kp g q σ) (hv : DatIn imm v (cd c)) (hz : σ.names.length ≤ 20000)
    (h : ∀ h' news', Fr h₀ L h' m → News h₀ L h' news' → RS w news' imm kp g q { σ with names := σ.names ++ [c] } → Q .none { s with heap := h' }) : wpAny (model PG w) A (call (.builtin "list.append") [.ref q.aN, v]) Q E s :=
  cells_append (pre := [_, _, _, _, _, _, _]) F N R.rep hv hz fun h' n' F' N' R' => h h' n' F' N' ⟨R', R.ec⟩
theorem push_trail {i : Int} {t : Tok} (F : Fr h₀ L s.heap m) (N : News h₀ L s.heap news) (R : RS w news imm kp g q σ) (hz : σ.trail.length ≤ 20000)
    (h : ∀ h' news', Fr h₀ L h' m → News h₀ L h' news' → RS w news' imm kp g q { σ with trail := σ.trail ++ [i] } → Q .none { s with heap := h' }) : wpAny (model PG w) A (call (.builtin "list.append") [.ref g.aR, .int i t]) Q E s :=
  ints_append (pre := [_, _, _, _]) F N R.rep hz fun h' n' F' N' R' => h h' n' F' N' ⟨R', R.ec⟩
theorem pop_trail {i : Int} {tr : List Int} (F : Fr h₀ L s.heap m) (N : News h₀ L s.heap news) (R : RS w news imm kp g q σ) (e : σ.trail = tr ++ [i]) (hz : tr.length ≤ 20000)
    (h : ∀ h' news' t, Fr h₀ L h' m → News h₀ L h' news' → RS w news' imm kp g q { σ with trail := tr } → Q (.int i t) { s with heap := h' }) : wpAny (model PG w) A (call (.builtin "list.pop") [.ref g.aR]) Q E s := by
  have R0 := R.rep
  unfold asOf at R0
  rw [e] at R0
  exact ints_pop (pre := [_, _, _, _]) F N R0 hz fun h' n' t F' N' R' => h h' n' t F' N' ⟨R', R.ec⟩
theorem set_heap {k : Int} {t : Tok} (F : Fr h₀ L s.heap m) (N : News h₀ L s.heap news) (R : RS w news imm kp g q σ) (hv : DatIn imm v (cd c)) (hz : σ.heap.length ≤ 20000) (h0 : 0 ≤ k) (hk : k < σ.heap.length)
    (h : ∀ h' news', Fr h₀ L h' m → News h₀ L h' news' → RS w news' imm kp g q { σ with heap := σ.heap.set k.toNat c } → QU () { s with heap := h' }) : wpAny (model PG w) A (setItem (.ref g.aH) (.int k t) v) QU E s :=
  cells_set (pre := [_, _]) F N R.rep hv hz h0 hk fun h' n' F' N' R' => h h' n' F' N' ⟨R', R.ec⟩
theorem set_stack {k : Int} {t : Tok} (F : Fr h₀ L s.heap m) (N : News h₀ L s.heap news) (R : RS w news imm kp g q σ) (hv : DatIn imm v (cd c)) (hz : σ.stack.length ≤ 20000) (h0 : 0 ≤ k) (hk : k < σ.stack.length)
    (h : ∀ h' news', Fr h₀ L h' m → News h₀ L h' news' → RS w news' imm kp g q { σ with stack := σ.stack.set k.toNat c } → QU () { s with heap := h' }) : wpAny (model PG w) A (setItem (.ref q.aK) (.int k t) v) QU E s :=
  cells_set (pre := [_, _, _]) F N R.rep hv hz h0 hk fun h' n' F' N' R' => h h' n' F' N' ⟨R', R.ec⟩
-- new tuples and lists that stay as they are
theorem new_cell {i j : Int} {t u : Tok} (F : Fr h₀ L s.heap m) (N : News h₀ L s.heap news) (R : RS w news imm kp g q σ)
    (h : ∀ h' news' imm' a, Fr h₀ L h' m → News h₀ L h' news' → Sub news news' → Sub imm imm' → RS w news' imm' kp g q σ → DatIn imm' (.ref a) (cd (i, j)) → Q (.ref a) { s with heap := h' }) : wpAny (model PG w) A (newTuple [.int i t, .int j u]) Q E s := by
  refine newTuple_N F N (fun h' F' N' => h h' _ _ _ F' N' (fun _ h => .tail _ h) (fun _ h => .tail _ h) ⟨R.rep.allocI (fun p hp => Nat.ne_of_lt (Heap.lt_size (N p hp).1)), R.ec⟩ ?_) (by rw [sizeLine_eq]; simp)
  exact .tuple (.head _) (.cons (.int _ _) (.cons (.int _ _) .nil))
theorem new_list {vs : List Value} {ds : List Dat} (F : Fr h₀ L s.heap m) (N : News h₀ L s.heap news) (R : RS w news imm kp g q σ) (hd : DatAll imm vs ds) (hz : ds.length ≤ 100000)
    (h : ∀ h' news' imm' a, Fr h₀ L h' m → News h₀ L h' news' → Sub news news' → Sub imm imm' → RS w news' imm' kp g q σ → DatIn imm' (.ref a) (.list ds) → Q (.ref a) { s with heap := h' }) : wpAny (model PG w) A (newList vs) Q E s := by
  have hl := hd.length
  refine newList_N F N (fun h' F' N' => h h' _ _ _ F' N' (fun _ h => .tail _ h) (fun _ h => .tail _ h) ⟨R.rep.allocI (fun p hp => Nat.ne_of_lt (Heap.lt_size (N p hp).1)), R.ec⟩ ?_) (by rw [sizeLine_eq]; omega)
  exact .list (.head _) (hd.mono fun _ h => .tail _ h)
-- the world
theorem wget {knm : Str} {value slice : PySem.Expr} {u : Tok} (N : News h₀ L s.heap news) (R : RS w news imm kp g q σ)
    (hl : ∀ u, valueAt [(Str.ofString "companies", .ref q.aC), (Str.ofString "names", .ref q.aN), (Str.ofString "trail", .int σ.wtr u), (Str.ofString "choices", .ref g.aX)] knm = some v) (h : Q v { s with toks := s.toks + 1 })
    (hs : subscripted slice false (.ref g.aW) (.str knm u) = operate [.ref g.aW, .str knm u] (getItem (.ref g.aW) (.str knm u)) := by with_unfolding_all rfl) (hg : ∀ r, letTemporaryGo value (.ref g.aW) r = pure () := by intro _; with_unfolding_all rfl) :
    wpAny (model PG w) A (subscriptTail value slice (.ref g.aW) (.str knm u)) Q E s := by
  obtain ⟨o, u', hm, hd⟩ := R.oW
  exact kda_item N hm hd (strKind_is _ _ _ _) (hl u') h hs hg
theorem wget_companies {value slice : PySem.Expr} {u : Tok} (N : News h₀ L s.heap news) (R : RS w news imm kp g q σ) (h : Q (.ref q.aC) { s with toks := s.toks + 1 })
    (hs : subscripted slice false (.ref g.aW) (.str (Str.ofString "companies") u) = operate [.ref g.aW, .str (Str.ofString "companies") u] (getItem (.ref g.aW) (.str (Str.ofString "companies") u)) := by with_unfolding_all rfl) (hg : ∀ r, letTemporaryGo value (.ref g.aW) r = pure () := by intro _; with_unfolding_all rfl) :
    wpAny (model PG w) A (subscriptTail value slice (.ref g.aW) (.str (Str.ofString "companies") u)) Q E s := wget N R (fun _ => rfl) h hs hg
theorem wget_names {value slice : PySem.Expr} {u : Tok} (N : News h₀ L s.heap news) (R : RS w news imm kp g q σ) (h : Q (.ref q.aN) { s with toks := s.toks + 1 })
    (hs : subscripted slice false (.ref g.aW) (.str (Str.ofString "names") u) = operate [.ref g.aW, .str (Str.ofString "names") u] (getItem (.ref g.aW) (.str (Str.ofString "names") u)) := by with_unfolding_all rfl) (hg : ∀ r, letTemporaryGo value (.ref g.aW) r = pure () := by intro _; with_unfolding_all rfl) :
    wpAny (model PG w) A (subscriptTail value slice (.ref g.aW) (.str (Str.ofString "names") u)) Q E s := wget N R (fun _ => rfl) h hs hg
theorem wget_choices {value slice : PySem.Expr} {u : Tok} (N : News h₀ L s.heap news) (R : RS w news imm kp g q σ) (h : Q (.ref g.aX) { s with toks := s.toks + 1 })
    (hs : subscripted slice false (.ref g.aW) (.str (Str.ofString "choices") u) = operate [.ref g.aW, .str (Str.ofString "choices") u] (getItem (.ref g.aW) (.str (Str.ofString "choices") u)) := by with_unfolding_all rfl) (hg : ∀ r, letTemporaryGo value (.ref g.aW) r = pure () := by intro _; with_unfolding_all rfl) :
    wpAny (model PG w) A (subscriptTail value slice (.ref g.aW) (.str (Str.ofString "choices") u)) Q E s := wget N R (fun _ => rfl) h hs hg
theorem wget_trail {value slice : PySem.Expr} {u : Tok} (N : News h₀ L s.heap news) (R : RS w news imm kp g q σ) (h : ∀ t, Q (.int σ.wtr t) { s with toks := s.toks + 1 })
    (hs : subscripted slice false (.ref g.aW) (.str (Str.ofString "trail") u) = operate [.ref g.aW, .str (Str.ofString "trail") u] (getItem (.ref g.aW) (.str (Str.ofString "trail") u)) := by with_unfolding_all rfl) (hg : ∀ r, letTemporaryGo value (.ref g.aW) r = pure () := by intro _; with_unfolding_all rfl) :
    wpAny (model PG w) A (subscriptTail value slice (.ref g.aW) (.str (Str.ofString "trail") u)) Q E s := by
  obtain ⟨o, u', hm, hd⟩ := R.oW
  exact kda_item N hm hd (strKind_is _ _ _ _) rfl (h _) hs hg
theorem wgetI_trail {u : Tok} (N : News h₀ L s.heap news) (R : RS w news imm kp g q σ) (h : ∀ t, Q (.int σ.wtr t) { s with toks := s.toks + 1 }) : wpAny (model PG w) A (getItem (.ref g.aW) (.str (Str.ofString "trail") u)) Q E s := by
  obtain ⟨o, u', hm, hd⟩ := R.oW
  exact wpAny_getItem_of (strKind_is _ _ _ _) (kda_dict N hm hd).mapOf rfl (h _)
theorem wset_trail {i : Int} {t u : Tok} (F : Fr h₀ L s.heap m) (N : News h₀ L s.heap news) (R : RS w news imm kp g q σ)
    (h : ∀ h' news', Fr h₀ L h' m → News h₀ L h' news' → RS w news' imm kp g q { σ with wtr := i } → QU () { s with heap := h', toks := s.toks + 1 }) : wpAny (model PG w) A (setItem (.ref g.aW) (.str (Str.ofString "trail") u) (.int i t)) QU E s := by
  obtain ⟨o, u', hm, hd⟩ := R.oW
  exact kda_set F (focus N hm) (UpdF.head off_ne) hd (strKind_is _ _ _ _) (by rw [sizeLine_eq]; simp) fun h' o' F' N' hd' => h h' (put g.aW o' news) F' N' ⟨R.rep.upd (pre := [_, _, _, _, _]) (x' := .world q.aC q.aN g.aX i) ⟨t, hd'⟩, R.ec⟩
theorem wset_names {b : Addr} {cs : List Cl} {u : Tok} (F : Fr h₀ L s.heap m) (N : News h₀ L s.heap news) (R : RS w news imm kp g q σ) (Rn : Rep w news imm ((b, .cells cs) :: asOf g q σ kp))
    (h : ∀ h' news' q', q' = { q with aN := b } → Fr h₀ L h' m → News h₀ L h' news' → RS w news' imm kp g q' { σ with names := cs } → QU () { s with heap := h', toks := s.toks + 1 }) : wpAny (model PG w) A (setItem (.ref g.aW) (.str (Str.ofString "names") u) (.ref b)) QU E s := by
  obtain ⟨o, u', hm, hd⟩ := R.oW
  refine kda_set F (focus N hm) (UpdF.head off_ne) hd (strKind_is _ _ _ _) (by rw [sizeLine_eq]; simp) fun h' o' F' N' hd' => h h' (put g.aW o' news) _ rfl F' N' ⟨?_, R.ec⟩
  have R1 := Rn.upd (pre := [_, _, _, _, _, _]) (x' := .world q.aC b g.aX σ.wtr) (o := o') ⟨u', hd'⟩
  have R2 := R1.drop1 (pre := [_, _, _, _, _, _, _, _])
  refine R2.perm ?_
  exact (List.perm_middle (l₁ := [_, _, _, _, _, _, _]))
theorem map_sub {α β : Type} {f : α → β} {l l' : List α} (h : l'.Sublist l) : (l'.map f).Sublist (l.map f) := h.map f
theorem wset_companies {b : Addr} {cos : List (Addr × Co)} {cs : List Co} {u : Tok} (F : Fr h₀ L s.heap m) (N : News h₀ L s.heap news) (R : RS w news imm kp g q σ) (e : cos.map (·.2) = cs) (Rn : Rep w news imm ((b, .refs (cos.map (·.1))) :: asOf g q σ kp)) (hs : cos.Sublist q.cos)
    (h : ∀ h' news' q', q' = { q with aC := b, cos := cos } → Fr h₀ L h' m → News h₀ L h' news' → RS w news' imm kp g q' { σ with comps := cs } → QU () { s with heap := h', toks := s.toks + 1 }) : wpAny (model PG w) A (setItem (.ref g.aW) (.str (Str.ofString "companies") u) (.ref b)) QU E s := by
  obtain ⟨o, u', hm, hd⟩ := R.oW
  refine kda_set F (focus N hm) (UpdF.head off_ne) hd (strKind_is _ _ _ _) (by rw [sizeLine_eq]; simp) fun h' o' F' N' hd' => h h' (put g.aW o' news) _ rfl F' N' ⟨?_, e⟩
  have R1 := Rn.upd (pre := [_, _, _, _, _, _]) (x' := .world b q.aN g.aX σ.wtr) (o := o') ⟨u', hd'⟩
  have R2 := R1.drop1 (pre := [_, _, _, _, _, _, _])
  have R3 := R2.perm (List.perm_middle (l₁ := [_, _, _, _, _, _]))
  have sl : (asOf g { q with aC := b, cos := cos } { σ with comps := cs } kp).Sublist ([(g.x, As.inst g.dx), (g.dx, .cdict g.aH q.aK g.aR σ.hb σ.bb), (g.aH, .cells σ.heap), (q.aK, .cells σ.stack), (g.aR, .ints σ.trail), (g.aW, .world b q.aN g.aX σ.wtr)] ++ (b, .refs (cos.map (·.1))) :: ([(q.aN, .cells σ.names), (g.aX, .chs q.lbs σ.past)] ++ (cosAs q.cos ++ (savAs q.sav ++ kpAs kp)))) := by
    have hh : (cosAs cos ++ (savAs q.sav ++ kpAs kp)).Sublist (cosAs q.cos ++ (savAs q.sav ++ kpAs kp)) := (map_sub hs).append (List.Sublist.refl _)
    exact (List.Sublist.refl [(g.x, As.inst g.dx), (g.dx, .cdict g.aH q.aK g.aR σ.hb σ.bb), (g.aH, .cells σ.heap), (q.aK, .cells σ.stack), (g.aR, .ints σ.trail), (g.aW, .world b q.aN g.aX σ.wtr), (b, .refs (cos.map (·.1))), (q.aN, .cells σ.names), (g.aX, .chs q.lbs σ.past)]).append hh
  exact R3.sub (fun p hp => sl.subset hp) (R3.nd.sublist (sl.map _))
end
section
variable {w : World} {A₀ A : Around} {base h₀ : Heap} {L : Addr} {m : Str → Option Value} {news imm kp : List (Addr × Obj)} {g : Gh} {q : Vg} {σ : St} {s : Shared} {E : Value → Shared → Prop} {Q : Value → Shared → Prop} {QU : Unit → Shared → Prop} {QM : Value × List Value → Shared → Prop} {a : Addr} {c : Cl} {co : Co} {v : Value}
theorem gm_append_aH {pl : Sem Bool} (N : News h₀ L s.heap news) (R : RS w news imm kp g q σ) (h : QM (.builtin "list.append", [.ref g.aH]) s) : wpAny (model PG w) A (getMethod (.ref g.aH) (Str.ofString "append") pl) QM E s := by
  obtain ⟨vs, n, hm, _⟩ := R.oH
  exact kl_method N hm PySem.F.slot_list_append PySem.F.type_list_append h
theorem gm_append_aK {pl : Sem Bool} (N : News h₀ L s.heap news) (R : RS w news imm kp g q σ) (h : QM (.builtin "list.append", [.ref q.aK]) s) : wpAny (model PG w) A (getMethod (.ref q.aK) (Str.ofString "append") pl) QM E s := by
  obtain ⟨vs, n, hm, _⟩ := R.oK
  exact kl_method N hm PySem.F.slot_list_append PySem.F.type_list_append h
theorem gm_append_aN {pl : Sem Bool} (N : News h₀ L s.heap news) (R : RS w news imm kp g q σ) (h : QM (.builtin "list.append", [.ref q.aN]) s) : wpAny (model PG w) A (getMethod (.ref q.aN) (Str.ofString "append") pl) QM E s := by
  obtain ⟨vs, n, hm, _⟩ := R.oN
  exact kl_method N hm PySem.F.slot_list_append PySem.F.type_list_append h
theorem gm_append_aR {pl : Sem Bool} (N : News h₀ L s.heap news) (R : RS w news imm kp g q σ) (h : QM (.builtin "list.append", [.ref g.aR]) s) : wpAny (model PG w) A (getMethod (.ref g.aR) (Str.ofString "append") pl) QM E s := by
  obtain ⟨vs, n, hm, _⟩ := R.oR
  exact kl_method N hm PySem.F.slot_list_append PySem.F.type_list_append h
theorem gm_pop_aR {pl : Sem Bool} (N : News h₀ L s.heap news) (R : RS w news imm kp g q σ) (h : QM (.builtin "list.pop", [.ref g.aR]) s) : wpAny (model PG w) A (getMethod (.ref g.aR) (Str.ofString "pop") pl) QM E s := by
  obtain ⟨vs, n, hm, _⟩ := R.oR
  exact kl_method N hm PySem.F.slot_list_pop PySem.F.type_list_pop h
theorem gm_append_aX {pl : Sem Bool} (N : News h₀ L s.heap news) (R : RS w news imm kp g q σ) (h : QM (.builtin "list.append", [.ref g.aX]) s) : wpAny (model PG w) A (getMethod (.ref g.aX) (Str.ofString "append") pl) QM E s := by
  obtain ⟨vs, n, hm, _⟩ := R.oX
  exact kl_method N hm PySem.F.slot_list_append PySem.F.type_list_append h
theorem gm_pop_aX {pl : Sem Bool} (N : News h₀ L s.heap news) (R : RS w news imm kp g q σ) (h : QM (.builtin "list.pop", [.ref g.aX]) s) : wpAny (model PG w) A (getMethod (.ref g.aX) (Str.ofString "pop") pl) QM E s := by
  obtain ⟨vs, n, hm, _⟩ := R.oX
  exact kl_method N hm PySem.F.slot_list_pop PySem.F.type_list_pop h
theorem gm_append_aC {pl : Sem Bool} (N : News h₀ L s.heap news) (R : RS w news imm kp g q σ) (h : QM (.builtin "list.append", [.ref q.aC]) s) : wpAny (model PG w) A (getMethod (.ref q.aC) (Str.ofString "append") pl) QM E s := by
  obtain ⟨n, hm⟩ := R.oC
  exact kl_method N hm PySem.F.slot_list_append PySem.F.type_list_append h
-- a company
theorem cget_names {value slice : PySem.Expr} {u : Tok} (N : News h₀ L s.heap news) (R : RS w news imm kp g q σ) (hc : (a, co) ∈ q.cos) (h : ∀ l, DatIn imm (.ref l) (.list (co.names.map cd)) → Q (.ref l) { s with toks := s.toks + 1 })
    (hs : subscripted slice false (.ref a) (.str (Str.ofString "names") u) = operate [.ref a, .str (Str.ofString "names") u] (getItem (.ref a) (.str (Str.ofString "names") u)) := by with_unfolding_all rfl) (hg : ∀ r, letTemporaryGo value (.ref a) r = pure () := by intro _; with_unfolding_all rfl) :
    wpAny (model PG w) A (subscriptTail value slice (.ref a) (.str (Str.ofString "names") u)) Q E s := by
  obtain ⟨o, l, wv, hm, hd, d1, d2⟩ := R.oCo hc
  exact kda_item N hm hd (strKind_is _ _ _ _) rfl (h l d1) hs hg
theorem cget_none {value slice : PySem.Expr} {u : Tok} (N : News h₀ L s.heap news) (R : RS w news imm kp g q σ) (hc : (a, co) ∈ q.cos) (hw : co.worth = none) (h : Q .none { s with toks := s.toks + 1 })
    (hs : subscripted slice false (.ref a) (.str (Str.ofString "worth") u) = operate [.ref a, .str (Str.ofString "worth") u] (getItem (.ref a) (.str (Str.ofString "worth") u)) := by with_unfolding_all rfl) (hg : ∀ r, letTemporaryGo value (.ref a) r = pure () := by intro _; with_unfolding_all rfl) :
    wpAny (model PG w) A (subscriptTail value slice (.ref a) (.str (Str.ofString "worth") u)) Q E s := by
  obtain ⟨o, l, wv, hm, hd, d1, d2⟩ := R.oCo hc
  rw [hw] at d2
  cases d2
  exact kda_item N hm hd (strKind_is _ _ _ _) rfl h hs hg
theorem cget_some {i : Int} {value slice : PySem.Expr} {u : Tok} (N : News h₀ L s.heap news) (R : RS w news imm kp g q σ) (hc : (a, co) ∈ q.cos) (hw : co.worth = some i) (h : ∀ t, Q (.int i t) { s with toks := s.toks + 1 })
    (hs : subscripted slice false (.ref a) (.str (Str.ofString "worth") u) = operate [.ref a, .str (Str.ofString "worth") u] (getItem (.ref a) (.str (Str.ofString "worth") u)) := by with_unfolding_all rfl) (hg : ∀ r, letTemporaryGo value (.ref a) r = pure () := by intro _; with_unfolding_all rfl) :
    wpAny (model PG w) A (subscriptTail value slice (.ref a) (.str (Str.ofString "worth") u)) Q E s := by
  obtain ⟨o, l, wv, hm, hd, d1, d2⟩ := R.oCo hc
  rw [hw] at d2
  cases d2
  exact kda_item N hm hd (strKind_is _ _ _ _) rfl (h _) hs hg
theorem cos_split {q : Vg} {i : Nat} {p : Addr × Co} (h : q.cos[i]? = some p) : ∃ l r, q.cos = l ++ p :: r ∧ l.length = i ∧ ∀ p', q.cos.set i p' = l ++ p' :: r := by
  obtain ⟨hi, e⟩ := List.getElem?_eq_some_iff.mp h
  refine ⟨q.cos.take i, q.cos.drop (i + 1), ?_, by rw [List.length_take]; omega, fun p' => ?_⟩
  · rw [← e, List.getElem_cons_drop]; exact (List.take_append_drop i _).symm
  · rw [List.set_eq_take_append_cons_drop, if_pos hi]
theorem RS.upd_co {i : Nat} {co' : Co} {o : Obj} (R : RS w news imm kp g q σ) (hi : q.cos[i]? = some (a, co)) (h : sem w imm (.co co') o) : RS w (put a o news) imm kp g { q with cos := q.cos.set i (a, co') } { σ with comps := σ.comps.set i co' } := by
  obtain ⟨l, r, e, hl, hs⟩ := cos_split hi
  have R0 := R.rep
  unfold asOf at R0
  rw [e] at R0
  have e1 : cosAs (l ++ (a, co) :: r) = cosAs l ++ (a, .co co) :: cosAs r := by simp [cosAs]
  have e2 : cosAs (l ++ (a, co') :: r) = cosAs l ++ (a, .co co') :: cosAs r := by simp [cosAs]
  have e3 : (l ++ (a, co) :: r).map (·.1) = (l ++ (a, co') :: r).map (·.1) := by simp
  rw [e1, e3] at R0
  have R1 := Rep.upd (pre := (g.x, .inst g.dx) :: (g.dx, .cdict g.aH q.aK g.aR σ.hb σ.bb) :: (g.aH, .cells σ.heap) :: (q.aK, .cells σ.stack) :: (g.aR, .ints σ.trail) :: (g.aW, .world q.aC q.aN g.aX σ.wtr) :: (q.aC, .refs ((l ++ (a, co') :: r).map (·.1))) :: (q.aN, .cells σ.names) ::
    (g.aX, .chs q.lbs σ.past) :: cosAs l) (post := cosAs r ++ (savAs q.sav ++ kpAs kp)) (by simpa [List.append_assoc] using R0) h
  refine ⟨?_, ?_⟩
  · unfold asOf
    simp only [hs]
    rw [e2]
    simpa [List.append_assoc] using R1
  · simp only [List.map_set]
    rw [R.ec]
theorem cset_names {i : Nat} {l : Addr} {cs : List Cl} {u : Tok} (F : Fr h₀ L s.heap m) (N : News h₀ L s.heap news) (R : RS w news imm kp g q σ) (hi : q.cos[i]? = some (a, co)) (hv : DatIn imm (.ref l) (.list (cs.map cd)))
    (h : ∀ h' news' q', q' = { q with cos := q.cos.set i (a, { co with names := cs }) } → Fr h₀ L h' m → News h₀ L h' news' → RS w news' imm kp g q' { σ with comps := σ.comps.set i { co with names := cs } } → QU () { s with heap := h', toks := s.toks + 1 }) :
    wpAny (model PG w) A (setItem (.ref a) (.str (Str.ofString "names") u) (.ref l)) QU E s := by
  obtain ⟨o, l0, wv, hm, hd, d1, d2⟩ := R.oCo (List.mem_of_getElem? hi)
  exact kda_set F (focus N hm) (UpdF.head off_ne) hd (strKind_is _ _ _ _) (by rw [sizeLine_eq]; simp) fun h' o' F' N' hd' => h h' (put a o' news) _ rfl F' N' (R.upd_co hi ⟨l, wv, hd', hv, d2⟩)
theorem cset_worth {i : Nat} {j : Int} {t u : Tok} (F : Fr h₀ L s.heap m) (N : News h₀ L s.heap news) (R : RS w news imm kp g q σ) (hi : q.cos[i]? = some (a, co))
    (h : ∀ h' news' q', q' = { q with cos := q.cos.set i (a, { co with worth := some j }) } → Fr h₀ L h' m → News h₀ L h' news' → RS w news' imm kp g q' { σ with comps := σ.comps.set i { co with worth := some j } } → QU () { s with heap := h', toks := s.toks + 1 }) :
    wpAny (model PG w) A (setItem (.ref a) (.str (Str.ofString "worth") u) (.int j t)) QU E s := by
  obtain ⟨o, l0, wv, hm, hd, d1, d2⟩ := R.oCo (List.mem_of_getElem? hi)
  exact kda_set F (focus N hm) (UpdF.head off_ne) hd (strKind_is _ _ _ _) (by rw [sizeLine_eq]; simp) fun h' o' F' N' hd' => h h' (put a o' news) _ rfl F' N' (R.upd_co hi ⟨l0, .int j t, hd', d1, .int _ _⟩)
end
local macro_rules | `(tactic| k_mem) => `(tactic| assumption)
local macro_rules | `(tactic| k_all) => `(tactic| assumption)
local macro_rules | `(tactic| k_enter) => `(tactic| (
  refine' Cx.enter ?kC ?kF ?kN ?k6 ?k7 ?k9 ?kB ?_ ?c2 ?c3 ?c4 ?c5;
  (case kC => assumption); (case kF => assumption); (case kN => assumption);
  (case k6 => k_is); (case k7 => k_is); (case k9 => first | exact BindsTo.of_eq rfl | exact binds_K (by k_in) rfl (by k_is) rfl rfl rfl);
  (case kB => exact locs rfl); (case c2 => exact rfl); (case c3 => exact rfl); (case c4 => exact rfl); (case c5 => decide);
  skip))
-- small goals
local macro_rules | `(tactic| walk_at "M.dat") => `(tactic| first | assumption | (refine' DatIn.mono ?s ?h; (case s => (show Sub _ _); assumption); (case h => walk_at "M.dat")))
local macro_rules | `(tactic| walk_at "M.all") => `(tactic| first | assumption | (refine' DatAll.mono ?s ?h; (case s => (show Sub _ _); assumption); (case h => walk_at "M.all")))
local macro_rules | `(tactic| walk_at "M.sub") => `(tactic| first | assumption | exact Sub.refl _ | (refine Sub.trans ?_ (by assumption); walk_at "M.sub"))
local macro_rules | `(tactic| walk_at "M.nth") => `(tactic| first | assumption | (simp only [Int.toNat_natCast]; assumption))
local macro_rules | `(tactic| walk_at "M.ar") => `(tactic| first | assumption | omega | (dsimp only; omega))
local macro_rules | `(tactic| walk_at "M.end") => `(tactic| (intros; (try k_sweep); try dsimp only))
local macro_rules | `(tactic| walk_at "M.unit") => `(tactic| assumption)
local macro_rules | `(tactic| walk_at "M.or") => `(tactic| first | assumption | exact .inl rfl | exact .inr rfl)
local macro_rules | `(tactic| walk_at "M.rng") => `(tactic| first | assumption | ((try dsimp only); omega))
local macro_rules | `(tactic| walk_at "M.fact") => `(tactic| first | assumption | (simp only [decide_eq_true_eq, decide_eq_false_iff_not, Bool.not_eq_true', Bool.not_eq_true, beq_iff_eq, bne_iff_ne, Bool.not_eq_false', not_true_eq_false, not_false_eq_true]; done) | ((try simp only [decide_eq_true_eq, decide_eq_false_iff_not, Bool.not_eq_true', Bool.not_eq_true, beq_iff_eq, bne_iff_ne, Bool.not_eq_false', Classical.not_not]); first | assumption | omega))
local macro_rules | `(tactic| walk_at "ite") => `(tactic| first | refine ite_pos (by walk_at "M.fact") ?_ | refine ite_neg (by walk_at "M.fact") ?_)
local macro_rules | `(tactic| walk_at "M.sm") => `(tactic| assumption)
-- the cells' fields and methods
local macro_rules | `(tactic| walk_at "getAttr ref") => `(tactic| (k_here; first
  | ((with_reducible show wpAny _ _ (getAttr (Value.ref (Gh.x _)) (PySem.Str.ofString "heap") _) _ _ _); k_dflt (refine ga_heap (by k_asm) (by assumption) (by k_asm) (by assumption) ?_; k_whole))
  | ((with_reducible show wpAny _ _ (getAttr (Value.ref (Gh.x _)) (PySem.Str.ofString "stack") _) _ _ _); k_dflt (refine ga_stack (by k_asm) (by assumption) (by k_asm) (by assumption) ?_; k_whole))
  | ((with_reducible show wpAny _ _ (getAttr (Value.ref (Gh.x _)) (PySem.Str.ofString "trail") _) _ _ _); k_dflt (refine ga_trail (by k_asm) (by assumption) (by k_asm) (by assumption) ?_; k_whole))
  | ((with_reducible show wpAny _ _ (getAttr (Value.ref (Gh.x _)) (PySem.Str.ofString "symbols") _) _ _ _); k_dflt (refine ga_symbols (by k_asm) (by assumption) (by k_asm) (by assumption) ?_; k_whole))
  | ((with_reducible show wpAny _ _ (getAttr (Value.ref (Gh.x _)) (PySem.Str.ofString "hb") _) _ _ _); k_dflt (refine ga_hb (by k_asm) (by assumption) (by k_asm) (by assumption) ?_; k_whole; intro _))
  | ((with_reducible show wpAny _ _ (getAttr (Value.ref (Gh.x _)) (PySem.Str.ofString "bb") _) _ _ _); k_dflt (refine ga_bb (by k_asm) (by assumption) (by k_asm) (by assumption) ?_; k_whole; intro _))
  | ((with_reducible show wpAny _ _ (getAttr (Value.ref (Gh.x _)) (PySem.Str.ofString "max_heap") _) _ _ _); k_dflt (refine ga_max_heap (by k_asm) (by assumption) (by k_asm) (by assumption) ?_; k_whole; intro _))))
local macro_rules | `(tactic| walk_at "getMethod ref") => `(tactic| (k_here; (with_reducible show wpAny _ _ (getMethod (Value.ref (Gh.x _)) _ _) _ _ _); k_dflt (refine gm_x (by k_asm) (by assumption) (by k_asm) (by assumption) (by k_is) (by k_is) (by k_is) (by intro _ _ _; rfl) ?_; k_whole)))
local macro_rules | `(tactic| walk_at "call builtin:len") => `(tactic| (k_here; first
  | ((with_reducible show wpAny _ _ (call (Value.builtin "len") [Value.ref (Gh.aH _)]) _ _ _); k_dflt (refine len_heap (by k_asm) (by assumption) (by walk_at "M.ar") ?_; k_whole; intro _))
  | ((with_reducible show wpAny _ _ (call (Value.builtin "len") [Value.ref (Vg.aK _)]) _ _ _); k_dflt (refine len_stack (by k_asm) (by assumption) (by walk_at "M.ar") ?_; k_whole; intro _))
  | ((with_reducible show wpAny _ _ (call (Value.builtin "len") [Value.ref (Gh.aR _)]) _ _ _); k_dflt (refine len_trail (by k_asm) (by assumption) (by walk_at "M.ar") ?_; k_whole; intro _))
  | ((with_reducible show wpAny _ _ (call (Value.builtin "len") [Value.ref (Vg.aN _)]) _ _ _); k_dflt (refine len_names (by k_asm) (by assumption) (by walk_at "M.ar") ?_; k_whole; intro _))))
local macro_rules | `(tactic| walk_at "subscriptTail") => `(tactic| (k_here; first
  | ((with_reducible show wpAny _ _ (subscriptTail _ _ (Value.ref _) (Value.int 0 _)) _ _ _); k_dflt (refine' cell0 ?N ?R ?v ?_; (case N => k_asm); (case R => assumption); (case v => walk_at "M.dat"); k_whole; intro _; try dsimp only))
  | ((with_reducible show wpAny _ _ (subscriptTail _ _ (Value.ref _) (Value.int 1 _)) _ _ _); k_dflt (refine' cell1 ?N ?R ?v ?_; (case N => k_asm); (case R => assumption); (case v => walk_at "M.dat"); k_whole; intro _; try dsimp only))
  | ((with_reducible show wpAny _ _ (subscriptTail _ _ (Value.ref (Gh.aH _)) (Value.int _ _)) _ _ _); k_dflt (refine' item_heap ?N ?R ?p ?k ?z ?_; (case N => k_asm); (case R => assumption); (case p => walk_at "M.ar"); (case k => walk_at "M.nth"); (case z => walk_at "M.ar"); k_whole; intro _ _))
  | ((with_reducible show wpAny _ _ (subscriptTail _ _ (Value.ref (Vg.aK _)) (Value.int _ _)) _ _ _); k_dflt (refine' item_stack ?N ?R ?p ?k ?z ?_; (case N => k_asm); (case R => assumption); (case p => walk_at "M.ar"); (case k => walk_at "M.nth"); (case z => walk_at "M.ar"); k_whole; intro _ _))
  | ((with_reducible show wpAny _ _ (subscriptTail _ _ (Value.ref (Vg.aN _)) (Value.int _ _)) _ _ _); k_dflt (refine' item_names ?N ?R ?p ?k ?z ?_; (case N => k_asm); (case R => assumption); (case p => walk_at "M.ar"); (case k => walk_at "M.nth"); (case z => walk_at "M.ar"); k_whole; intro _ _))))
local macro_rules | `(tactic| walk_at "callWith") => `(tactic| ((with_reducible show wpAny _ _ (callWith _ (Value.builtin _) [_] _ _) _ _ _); first | with_reducible refine callWith_method0 ?_ | refine callWith_method1 ?_))
-- cells compared
local macro_rules | `(tactic| walk_at "compareOp Eq ref ref") => `(tactic| (k_here; k_dflt (refine' eq_cl ?N ?R ?c ?d ?u ?_; (case N => k_asm); (case R => assumption); (case c => walk_at "M.dat"); (case d => walk_at "M.dat"); (case u => walk_at "M.unit"); k_whole)))
local macro_rules | `(tactic| walk_at "compareOp NotEq ref ref") => `(tactic| (k_here; k_dflt (refine' ne_cl ?N ?R ?c ?d ?u ?_; (case N => k_asm); (case R => assumption); (case c => walk_at "M.dat"); (case d => walk_at "M.dat"); (case u => walk_at "M.unit"); k_whole)))
local macro_rules | `(tactic| walk_at "exec While") => `(tactic| (k_here; (refine' whl_mark ?mk ?hE ?h0 ?st; (case mk => assumption); (case hE => first | passes_own | with_unfolding_all passes_own))))
local macro_rules | `(tactic| walk_at "exec While Constant") => `(tactic| (k_here; (refine' whl_mark ?mk ?hE ?h0 ?st; (case mk => assumption); (case hE => first | passes_own | with_unfolding_all passes_own))))
local macro_rules | `(tactic| walk_at "exec While Compare") => `(tactic| (k_here; (refine' whl_mark ?mk ?hE ?h0 ?st; (case mk => assumption); (case hE => first | passes_own | with_unfolding_all passes_own))))
local macro_rules | `(tactic| walk_at "exec While Compare cons nil") => `(tactic| (k_here; (refine' whl_mark ?mk ?hE ?h0 ?st; (case mk => assumption); (case hE => first | passes_own | with_unfolding_all passes_own))))
local macro_rules | `(tactic| walk_at "getMethod ref") => `(tactic| (k_here; first
  | ((with_reducible show wpAny _ _ (getMethod (Value.ref (Gh.aH _)) (PySem.Str.ofString "append") _) _ _ _); k_dflt (refine gm_append_aH (by k_asm) (by assumption) ?_; k_whole))
  | ((with_reducible show wpAny _ _ (getMethod (Value.ref (Vg.aK _)) (PySem.Str.ofString "append") _) _ _ _); k_dflt (refine gm_append_aK (by k_asm) (by assumption) ?_; k_whole))
  | ((with_reducible show wpAny _ _ (getMethod (Value.ref (Vg.aN _)) (PySem.Str.ofString "append") _) _ _ _); k_dflt (refine gm_append_aN (by k_asm) (by assumption) ?_; k_whole))
  | ((with_reducible show wpAny _ _ (getMethod (Value.ref (Gh.aR _)) (PySem.Str.ofString "append") _) _ _ _); k_dflt (refine gm_append_aR (by k_asm) (by assumption) ?_; k_whole))
  | ((with_reducible show wpAny _ _ (getMethod (Value.ref (Gh.aR _)) (PySem.Str.ofString "pop") _) _ _ _); k_dflt (refine gm_pop_aR (by k_asm) (by assumption) ?_; k_whole))
  | ((with_reducible show wpAny _ _ (getMethod (Value.ref (Gh.aX _)) (PySem.Str.ofString "append") _) _ _ _); k_dflt (refine gm_append_aX (by k_asm) (by assumption) ?_; k_whole))
  | ((with_reducible show wpAny _ _ (getMethod (Value.ref (Gh.aX _)) (PySem.Str.ofString "pop") _) _ _ _); k_dflt (refine gm_pop_aX (by k_asm) (by assumption) ?_; k_whole))
  | ((with_reducible show wpAny _ _ (getMethod (Value.ref (Vg.aC _)) (PySem.Str.ofString "append") _) _ _ _); k_dflt (refine gm_append_aC (by k_asm) (by assumption) ?_; k_whole))))
local macro_rules | `(tactic| walk_at "call builtin:list.append") => `(tactic| (k_here; first
  | ((with_reducible show wpAny _ _ (call (Value.builtin _) [Value.ref (Gh.aH _), _]) _ _ _); k_dflt (refine push_heap (by k_asm) (by k_asm) (by assumption) (by walk_at "M.dat") (by walk_at "M.ar") ?_; k_whole); intro _ _ _ _ _; try k_sweep)
  | ((with_reducible show wpAny _ _ (call (Value.builtin _) [Value.ref (Vg.aK _), _]) _ _ _); k_dflt (refine push_stack (by k_asm) (by k_asm) (by assumption) (by walk_at "M.dat") (by walk_at "M.ar") ?_; k_whole); intro _ _ _ _ _; try k_sweep)
  | ((with_reducible show wpAny _ _ (call (Value.builtin _) [Value.ref (Vg.aN _), _]) _ _ _); k_dflt (refine push_names (by k_asm) (by k_asm) (by assumption) (by walk_at "M.dat") (by walk_at "M.ar") ?_; k_whole); intro _ _ _ _ _; try k_sweep)
  | ((with_reducible show wpAny _ _ (call (Value.builtin _) [Value.ref (Gh.aR _), _]) _ _ _); k_dflt (refine push_trail (by k_asm) (by k_asm) (by assumption) (by walk_at "M.ar") ?_; k_whole); intro _ _ _ _ _; try k_sweep)))
local macro_rules | `(tactic| walk_at "call builtin:list.pop") => `(tactic| (k_here; (with_reducible show wpAny _ _ (call (Value.builtin _) [Value.ref (Gh.aR _)]) _ _ _); k_dflt (refine pop_trail (by k_asm) (by k_asm) (by assumption) (by assumption) (by walk_at "M.ar") ?_; k_whole); intro _ _ _ _ _ _; try k_sweep))
local macro_rules | `(tactic| walk_at "setItem ref int") => `(tactic| (k_here; first
  | ((with_reducible show wpAny _ _ (setItem (Value.ref (Gh.aH _)) (Value.int _ _) _) _ _ _); k_dflt (refine set_heap (by k_asm) (by k_asm) (by assumption) (by walk_at "M.dat") (by walk_at "M.ar") (by walk_at "M.ar") (by walk_at "M.ar") ?_; k_whole); intro _ _ _ _ _; try k_sweep)
  | ((with_reducible show wpAny _ _ (setItem (Value.ref (Vg.aK _)) (Value.int _ _) _) _ _ _); k_dflt (refine set_stack (by k_asm) (by k_asm) (by assumption) (by walk_at "M.dat") (by walk_at "M.ar") (by walk_at "M.ar") (by walk_at "M.ar") ?_; k_whole); intro _ _ _ _ _; try k_sweep)))
local macro_rules | `(tactic| walk_at "newTuple") => `(tactic| (k_here; (with_reducible show wpAny _ _ (newTuple [Value.int _ _, Value.int _ _]) _ _ _); k_dflt (refine new_cell (by k_asm) (by k_asm) (by assumption) ?_; k_whole); intro _ _ _ _ _ _ _ _ _ _; try k_sweep))
local macro_rules | `(tactic| walk_at "newList") => `(tactic| (k_here; k_dflt (refine new_list (by k_asm) (by k_asm) (by assumption) (by walk_at "M.alls") (by walk_at "M.len") ?_; k_whole); intro _ _ _ _ _ _ _ _ _ _; try k_sweep))
local macro_rules | `(tactic| walk_at "M.alls") => `(tactic| first | exact DatAll.nil | (refine' DatAll.cons ?a ?b; (case a => walk_at "M.dat"); (case b => walk_at "M.alls")))
local macro_rules | `(tactic| walk_at "M.len") => `(tactic| first | (simp only [List.length_cons, List.length_nil]; done) | (simp only [List.length_cons, List.length_nil]; omega) | omega)
local macro_rules | `(tactic| walk_at "subscriptTail") => `(tactic| (k_here; first
  | ((with_reducible show wpAny _ _ (subscriptTail _ _ (Value.ref (Gh.aW _)) (Value.str (PySem.Str.ofString "companies") _)) _ _ _); k_dflt (refine' wget_companies ?N ?R ?_; (case N => k_asm); (case R => assumption); k_whole))
  | ((with_reducible show wpAny _ _ (subscriptTail _ _ (Value.ref (Gh.aW _)) (Value.str (PySem.Str.ofString "names") _)) _ _ _); k_dflt (refine' wget_names ?N ?R ?_; (case N => k_asm); (case R => assumption); k_whole))
  | ((with_reducible show wpAny _ _ (subscriptTail _ _ (Value.ref (Gh.aW _)) (Value.str (PySem.Str.ofString "choices") _)) _ _ _); k_dflt (refine' wget_choices ?N ?R ?_; (case N => k_asm); (case R => assumption); k_whole))
  | ((with_reducible show wpAny _ _ (subscriptTail _ _ (Value.ref (Gh.aW _)) (Value.str (PySem.Str.ofString "trail") _)) _ _ _); k_dflt (refine' wget_trail ?N ?R ?_; (case N => k_asm); (case R => assumption); k_whole; intro _))
  | ((with_reducible show wpAny _ _ (subscriptTail _ _ (Value.ref _) (Value.str (PySem.Str.ofString "names") _)) _ _ _); k_dflt (refine' cget_names ?N ?R ?c ?_; (case N => k_asm); (case R => assumption); (case c => walk_at "M.co"); k_whole; intro _ _))
  | ((with_reducible show wpAny _ _ (subscriptTail _ _ (Value.ref _) (Value.str (PySem.Str.ofString "worth") _)) _ _ _); k_dflt (refine' cget_none ?N ?R ?c ?w ?_; (case N => k_asm); (case R => assumption); (case c => walk_at "M.co"); (case w => assumption); k_whole))
  | ((with_reducible show wpAny _ _ (subscriptTail _ _ (Value.ref _) (Value.str (PySem.Str.ofString "worth") _)) _ _ _); k_dflt (refine' cget_some ?N ?R ?c ?w ?_; (case N => k_asm); (case R => assumption); (case c => walk_at "M.co"); (case w => assumption); k_whole; intro _))))
local macro_rules | `(tactic| walk_at "M.co") => `(tactic| first | assumption | exact List.mem_of_getElem? (by assumption))
local macro_rules | `(tactic| walk_at "getItem ref str") => `(tactic| (k_here; (with_reducible show wpAny _ _ (getItem (Value.ref (Gh.aW _)) (Value.str (PySem.Str.ofString "trail") _)) _ _ _); k_dflt (refine wgetI_trail (by k_asm) (by assumption) ?_; k_whole; intro _)))
local macro_rules | `(tactic| walk_at "setItem ref str") => `(tactic| (k_here; (with_reducible show wpAny _ _ (setItem (Value.ref (Gh.aW _)) (Value.str (PySem.Str.ofString "trail") _) (Value.int _ _)) _ _ _); k_dflt (refine wset_trail (by k_asm) (by k_asm) (by assumption) ?_; k_whole); intro _ _ _ _ _; try k_sweep))
local macro_rules | `(tactic| walk_at "WhlIf") => `(tactic| first | (refine WhlIf.yes (by walk_at "M.fact") ?_) | (refine WhlIf.no (by walk_at "M.fact") ?_) | (refine WhlIf.yes rfl ?_) | (refine WhlIf.no rfl ?_))
local macro_rules | `(tactic| walk_at "WhN") => `(tactic| (dsimp only [WhN]))
variable {w : World} {A₀ A : Around} {base h₀ : Heap} {env : Env} {outer : List Env} {L : Addr} {mean : ExcName → Option Value} {mg mb : Str → Option Value} {k : Nat} {m : Str → Option Value} {news imm kp : List (Addr × Obj)} {g : Gh} {q : Vg} {σ : St} {s : Shared}
theorem fill_all : (PySem.Challenge.rw_ok0013_01, hd.heap_1) = (PySem.Challenge.rw_ok0013_01, hd.heap_1) := by k_fill; rfl
theorem c_deref {R : Result → Shared → Prop} {a : Addr} {c e : Cl} {n : Nat}
    (C : Cx w A₀ A base h₀ env outer L mean mg mb (k + 1)) (F : Fr h₀ L s.heap m) (N : News h₀ L s.heap news) (Rp : RS w news imm kp g q σ) (hz : Sm σ) (hv : DatIn imm (.ref a) (cd c)) (hd : Dr σ.heap σ.stack n c e)
    (h : ∀ a' h' tk, DatIn imm (.ref a') (cd e) → Fr h₀ L h' m → News h₀ L h' news → R (.ok (.ret (.ref a'))) { s with heap := h', toks := tk }) :
    codeAny (model PG w) A (.call (.ref 125) ⟨[.ref g.x, .ref a], []⟩) R s := by
  have X₀ := C.X
  have zH := hz.heap; have zK := hz.stack
  have zH' : σ.heap.length ≤ 100000 := Nat.le_trans zH (by decide)
  have zK' : σ.stack.length ≤ 100000 := Nat.le_trans zK (by decide)
  k_enter
  intro g1 L1 h1 FG F1 N1 C1
  have B1 := C1.B; have X1 := C1.X; have T1 := C1.T; have hA1 := C1.hA; have hh1 := C1.hh; have hu1 := units_of C1.hunit
  try dsimp only
  try k_fold
  have mk : WMark (fun n s' => ∃ (c : Cl) (a : Addr) (u : Str → Option Value) (h' : Heap) (tk : Nat), s' = { s with heap := h', toks := tk } ∧ DatIn imm (.ref a) (cd c) ∧ Dr σ.heap σ.stack n c e ∧
    Fr g1 L1 h' (vw [(Str.ofString "self", .ref g.x), (Str.ofString "cell", .ref a)] u) ∧ News g1 L1 h' news) n := trivial
  k_steps
  · exact ⟨c, _, _, _, _, rfl, hv, hd, Fr_vw F1 _ ⟨rfl, rfl, trivial⟩, N1⟩
  clear hd hv mk F1 N1
  rintro n s' ⟨⟨t, i⟩, a, u, h', tk, rfl, hv, hd, F2, N2⟩
  cases hd with
  | tag ht1 ht2 =>
    k_steps
    exact h _ _ _ (by assumption) (by assumption) (by assumption)
  | selfH hc =>
    k_steps
    exact h _ _ _ hv (by assumption) (by assumption)
  | selfK hc =>
    k_steps
    exact h _ _ _ hv (by assumption) (by assumption)
  | stepH hc hn hd =>
    k_steps
    exact ⟨_, by omega, _, _, _, _, _, rfl, by assumption, hd, Fr_vw (by assumption) _ ⟨rfl, rfl, trivial⟩, by assumption⟩
  | stepK hc hn hd =>
    k_steps
    exact ⟨_, by omega, _, _, _, _, _, rfl, by assumption, hd, Fr_vw (by assumption) _ ⟨rfl, rfl, trivial⟩, by assumption⟩
local macro_rules | `(tactic| walk_at "call ref") => `(tactic| (k_here; (with_reducible show wpAny _ _ (call (Value.ref 125) _ _) _ _ _); k_dflt (refine wpAny_call (c_deref (by assumption) (by k_asm) (by k_asm) (by assumption) (by walk_at "M.sm") (by walk_at "M.dat") (by assumption) ?_); k_whole); walk_at "M.end"))
def newS (σ : St) (c : Cl) : St := { σ with heap := σ.heap ++ [c] }
theorem c_push {R : Result → Shared → Prop} {a : Addr} {c : Cl}
    (C : Cx w A₀ A base h₀ env outer L mean mg mb (k + 1)) (F : Fr h₀ L s.heap m) (N : News h₀ L s.heap news) (Rp : RS w news imm kp g q σ) (hz : Sm σ) (hv : DatIn imm (.ref a) (cd c))
    (h : ∀ h' tk news' t, Fr h₀ L h' m → News h₀ L h' news' → RS w news' imm kp g q (newS σ c) → R (.ok (.ret (.int (σ.heap.length : Int) t))) { s with heap := h', toks := tk }) :
    codeAny (model PG w) A (.call (.ref 97) ⟨[.ref g.x, .ref a], []⟩) R s := by
  have zH := hz.heap
  have zH' : σ.heap.length ≤ 100000 := Nat.le_trans zH (by decide)
  have X₀ := C.X
  k_enter
  intro g1 L1 h1 FG F1 N1 C1
  have B1 := C1.B; have X1 := C1.X; have T1 := C1.T; have hA1 := C1.hA; have hh1 := C1.hh; have hu1 := units_of C1.hunit
  try dsimp only
  try k_fold
  try clear N
  clear F
  k_steps
  exact h _ _ _ _ (by assumption) (by assumption) (by assumption)
theorem c_mark {R : Result → Shared → Prop}
    (C : Cx w A₀ A base h₀ env outer L mean mg mb (k + 1)) (F : Fr h₀ L s.heap m) (N : News h₀ L s.heap news) (Rp : RS w news imm kp g q σ) (hz : Sm σ)
    (h : ∀ h' tk t, Fr h₀ L h' m → News h₀ L h' news → R (.ok (.ret (.int (σ.trail.length : Int) t))) { s with heap := h', toks := tk }) :
    codeAny (model PG w) A (.call (.ref 160) ⟨[.ref g.x], []⟩) R s := by
  have zH := hz.trail
  have zH' : σ.trail.length ≤ 100000 := Nat.le_trans zH (by decide)
  have X₀ := C.X
  k_enter
  intro g1 L1 h1 FG F1 N1 C1
  have B1 := C1.B; have X1 := C1.X; have T1 := C1.T; have hA1 := C1.hA; have hh1 := C1.hh; have hu1 := units_of C1.hunit
  try dsimp only
  try k_fold
  try clear N
  clear F
  k_steps
  exact h _ _ _ (by assumption) (by assumption)
local macro_rules | `(tactic| walk_at "call ref") => `(tactic| (k_here; (with_reducible show wpAny _ _ (call (Value.ref 97) _ _) _ _ _); k_dflt (refine wpAny_call (c_push (by assumption) (by k_asm) (by k_asm) (by assumption) (by walk_at "M.sm") (by walk_at "M.dat") ?_); k_whole); walk_at "M.end"))
local macro_rules | `(tactic| walk_at "call ref") => `(tactic| (k_here; (with_reducible show wpAny _ _ (call (Value.ref 160) _ _) _ _ _); k_dflt (refine wpAny_call (c_mark (by assumption) (by k_asm) (by k_asm) (by assumption) (by walk_at "M.sm") ?_); k_whole); walk_at "M.end"))
theorem c_newvar {R : Result → Shared → Prop}
    (C : Cx w A₀ A base h₀ env outer L mean mg mb (k + 2)) (F : Fr h₀ L s.heap m) (N : News h₀ L s.heap news) (Rp : RS w news imm kp g q σ) (hz : Sm σ)
    (h : ∀ h' tk news' imm' a, Fr h₀ L h' m → News h₀ L h' news' → Sub imm imm' → RS w news' imm' kp g q (newS σ (0, (σ.heap.length : Int))) → DatIn imm' (.ref a) (cd (0, (σ.heap.length : Int))) → R (.ok (.ret (.ref a))) { s with heap := h', toks := tk }) :
    codeAny (model PG w) A (.call (.ref 104) ⟨[.ref g.x], []⟩) R s := by
  have zH := hz.heap
  have zH' : σ.heap.length ≤ 100000 := Nat.le_trans zH (by decide)
  have X₀ := C.X
  k_enter
  intro g1 L1 h1 FG F1 N1 C1
  have B1 := C1.B; have X1 := C1.X; have T1 := C1.T; have hA1 := C1.hA; have hh1 := C1.hh; have hu1 := units_of C1.hunit
  try dsimp only
  try k_fold
  try clear N
  clear F
  k_steps
  exact h _ _ _ _ _ (by assumption) (by assumption) (by assumption) (by assumption) (by assumption)
local macro_rules | `(tactic| walk_at "call ref") => `(tactic| (k_here; (with_reducible show wpAny _ _ (call (Value.ref 104) _ _) _ _ _); k_dflt (refine wpAny_call (c_newvar (by assumption) (by k_asm) (by k_asm) (by assumption) (by walk_at "M.sm") ?_); k_whole); walk_at "M.end"))
def bindS (σ : St) (c v : Cl) : St :=
  if c.1 = 0 then { σ with heap := σ.heap.set c.2.toNat v, trail := if c.2 < σ.hb then σ.trail ++ [c.2] else σ.trail }
  else { σ with stack := σ.stack.set c.2.toNat v, trail := if c.2 < σ.bb then σ.trail ++ [-1 - c.2] else σ.trail }
theorem c_bind {R : Result → Shared → Prop} {a b : Addr} {c v : Cl}
    (C : Cx w A₀ A base h₀ env outer L mean mg mb (k + 1)) (F : Fr h₀ L s.heap m) (N : News h₀ L s.heap news) (Rp : RS w news imm kp g q σ) (hz : Sm σ) (hc : DatIn imm (.ref a) (cd c)) (hv : DatIn imm (.ref b) (cd v)) (ht : c.1 = 0 ∨ c.1 = 1) (h0 : 0 ≤ c.2) (hl : c.1 = 0 → c.2 < σ.heap.length) (hr : c.1 = 1 → c.2 < σ.stack.length)
    (h : ∀ h' tk news', Fr h₀ L h' m → News h₀ L h' news' → RS w news' imm kp g q (bindS σ c v) → R (.ok (.ret .none)) { s with heap := h', toks := tk }) :
    codeAny (model PG w) A (.call (.ref 139) ⟨[.ref g.x, .ref a, .ref b], []⟩) R s := by
  obtain ⟨t, i⟩ := c
  have zH := hz.heap; have zK := hz.stack; have zR := hz.trail
  dsimp only at ht h0 hl hr
  rcases ht with rfl | rfl
  · have hl := hl rfl
    clear hr
    simp only [bindS, if_true] at h
    by_cases hb : i < σ.hb
    · simp only [if_pos hb] at h
      have X₀ := C.X
      k_enter
      intro g1 L1 h1 FG F1 N1 C1
      have B1 := C1.B; have X1 := C1.X; have T1 := C1.T; have hA1 := C1.hA; have hh1 := C1.hh; have hu1 := units_of C1.hunit
      try dsimp only
      try k_fold
      try clear N
      clear F
      k_steps
      exact h _ _ _ (by assumption) (by assumption) (by assumption)
    · simp only [if_neg hb] at h
      have X₀ := C.X
      k_enter
      intro g1 L1 h1 FG F1 N1 C1
      have B1 := C1.B; have X1 := C1.X; have T1 := C1.T; have hA1 := C1.hA; have hh1 := C1.hh; have hu1 := units_of C1.hunit
      try dsimp only
      try k_fold
      try clear N
      clear F
      k_steps
      exact h _ _ _ (by assumption) (by assumption) (by assumption)
  · have hr := hr rfl
    clear hl
    simp only [bindS, show ¬ ((1 : Int) = 0) by decide, if_false] at h
    by_cases hb : i < σ.bb
    · simp only [if_pos hb] at h
      have X₀ := C.X
      k_enter
      intro g1 L1 h1 FG F1 N1 C1
      have B1 := C1.B; have X1 := C1.X; have T1 := C1.T; have hA1 := C1.hA; have hh1 := C1.hh; have hu1 := units_of C1.hunit
      try dsimp only
      try k_fold
      try clear N
      clear F
      k_steps
      exact h _ _ _ (by assumption) (by assumption) (by assumption)
    · simp only [if_neg hb] at h
      have X₀ := C.X
      k_enter
      intro g1 L1 h1 FG F1 N1 C1
      have B1 := C1.B; have X1 := C1.X; have T1 := C1.T; have hA1 := C1.hA; have hh1 := C1.hh; have hu1 := units_of C1.hunit
      try dsimp only
      try k_fold
      try clear N
      clear F
      k_steps
      exact h _ _ _ (by assumption) (by assumption) (by assumption)
local macro_rules | `(tactic| walk_at "call ref") => `(tactic| (k_here; (with_reducible show wpAny _ _ (call (Value.ref 139) _ _) _ _ _); k_dflt (refine wpAny_call (c_bind (by assumption) (by k_asm) (by k_asm) (by assumption) (by walk_at "M.sm") (by walk_at "M.dat") (by walk_at "M.dat") (by walk_at "M.or") (by walk_at "M.rng") (by walk_at "M.rng") (by walk_at "M.rng") ?_); k_whole); walk_at "M.end"))
def Vd (σ : St) (c : Cl) : Prop := (c.1 = 0 ∧ 0 ≤ c.2 ∧ c.2 < σ.heap.length) ∨ (c.1 = 1 ∧ 0 ≤ c.2 ∧ c.2 < σ.stack.length)
def pairS (σ : St) (c d : Cl) : St :=
  if c = d then σ else if c.1 = d.1 then (if c.2 < d.2 then bindS σ d c else bindS σ c d) else if c.1 = 1 then bindS σ c d else bindS σ d c
theorem c_pair {R : Result → Shared → Prop} {a b : Addr} {c d : Cl}
    (C : Cx w A₀ A base h₀ env outer L mean mg mb (k + 2)) (F : Fr h₀ L s.heap m) (N : News h₀ L s.heap news) (Rp : RS w news imm kp g q σ) (hz : Sm σ) (hc : DatIn imm (.ref a) (cd c)) (hd : DatIn imm (.ref b) (cd d)) (vc : Vd σ c) (vd : Vd σ d)
    (h : ∀ h' tk news', Fr h₀ L h' m → News h₀ L h' news' → RS w news' imm kp g q (pairS σ c d) → R (.ok (.ret .none)) { s with heap := h', toks := tk }) :
    codeAny (model PG w) A (.call (.ref 146) ⟨[.ref g.x, .ref a, .ref b], []⟩) R s := by
  obtain ⟨t, i⟩ := c
  obtain ⟨u, j⟩ := d
  unfold pairS at h
  dsimp only [Vd] at vc vd h
  by_cases e : ((t, i) : Cl) = (u, j)
  · rw [if_pos e] at h
    have X₀ := C.X
    k_enter
    intro g1 L1 h1 FG F1 N1 C1
    have B1 := C1.B; have X1 := C1.X; have T1 := C1.T; have hA1 := C1.hA; have hh1 := C1.hh; have hu1 := units_of C1.hunit
    try dsimp only
    try k_fold
    try clear N
    clear F
    k_steps
    exact h _ _ _ (by assumption) (by assumption) (by assumption)
  · rw [if_neg e] at h
    rcases vc with ⟨rfl, vc⟩ | ⟨rfl, vc⟩ <;> rcases vd with ⟨rfl, vd⟩ | ⟨rfl, vd⟩
    · by_cases l : i < j
      · simp only [if_true, if_pos l] at h
        have X₀ := C.X
        k_enter
        intro g1 L1 h1 FG F1 N1 C1
        have B1 := C1.B; have X1 := C1.X; have T1 := C1.T; have hA1 := C1.hA; have hh1 := C1.hh; have hu1 := units_of C1.hunit
        try dsimp only
        try k_fold
        try clear N
        clear F
        k_steps
        exact h _ _ _ (by assumption) (by assumption) (by assumption)
      · simp only [if_true, if_neg l] at h
        have X₀ := C.X
        k_enter
        intro g1 L1 h1 FG F1 N1 C1
        have B1 := C1.B; have X1 := C1.X; have T1 := C1.T; have hA1 := C1.hA; have hh1 := C1.hh; have hu1 := units_of C1.hunit
        try dsimp only
        try k_fold
        try clear N
        clear F
        k_steps
        exact h _ _ _ (by assumption) (by assumption) (by assumption)
    · simp only [show ¬ ((0 : Int) = 1) by decide, if_false] at h
      have X₀ := C.X
      k_enter
      intro g1 L1 h1 FG F1 N1 C1
      have B1 := C1.B; have X1 := C1.X; have T1 := C1.T; have hA1 := C1.hA; have hh1 := C1.hh; have hu1 := units_of C1.hunit
      try dsimp only
      try k_fold
      try clear N
      clear F
      k_steps
      exact h _ _ _ (by assumption) (by assumption) (by assumption)
    · simp only [show ¬ ((1 : Int) = 0) by decide, if_false, if_true] at h
      have X₀ := C.X
      k_enter
      intro g1 L1 h1 FG F1 N1 C1
      have B1 := C1.B; have X1 := C1.X; have T1 := C1.T; have hA1 := C1.hA; have hh1 := C1.hh; have hu1 := units_of C1.hunit
      try dsimp only
      try k_fold
      try clear N
      clear F
      k_steps
      exact h _ _ _ (by assumption) (by assumption) (by assumption)
    · by_cases l : i < j
      · simp only [if_true, if_pos l] at h
        have X₀ := C.X
        k_enter
        intro g1 L1 h1 FG F1 N1 C1
        have B1 := C1.B; have X1 := C1.X; have T1 := C1.T; have hA1 := C1.hA; have hh1 := C1.hh; have hu1 := units_of C1.hunit
        try dsimp only
        try k_fold
        try clear N
        clear F
        k_steps
        exact h _ _ _ (by assumption) (by assumption) (by assumption)
      · simp only [if_true, if_neg l] at h
        have X₀ := C.X
        k_enter
        intro g1 L1 h1 FG F1 N1 C1
        have B1 := C1.B; have X1 := C1.X; have T1 := C1.T; have hA1 := C1.hA; have hh1 := C1.hh; have hu1 := units_of C1.hunit
        try dsimp only
        try k_fold
        try clear N
        clear F
        k_steps
        exact h _ _ _ (by assumption) (by assumption) (by assumption)
def Rt (σ : St) (c : Cl) : Prop := (c.1 = 0 ∧ σ.heap[c.2.toNat]? = some c) ∨ (c.1 = 1 ∧ σ.stack[c.2.toNat]? = some c) ∨ (c.1 ≠ 0 ∧ c.1 ≠ 1)
theorem c_unbound {R : Result → Shared → Prop} {a : Addr} {c : Cl}
    (C : Cx w A₀ A base h₀ env outer L mean mg mb (k + 1)) (F : Fr h₀ L s.heap m) (N : News h₀ L s.heap news) (Rp : RS w news imm kp g q σ) (hz : Sm σ) (hc : DatIn imm (.ref a) (cd c)) (hp : 0 ≤ c.2) (hr : Rt σ c)
    (h : ∀ h' tk, Fr h₀ L h' m → News h₀ L h' news → R (.ok (.ret (.bool (decide (c.1 = 0 ∨ c.1 = 1))))) { s with heap := h', toks := tk }) :
    codeAny (model PG w) A (.call (.ref 132) ⟨[.ref g.x, .ref a], []⟩) R s := by
  obtain ⟨t, i⟩ := c
  have zH := hz.heap; have zK := hz.stack
  dsimp only [Rt] at hr hp
  rcases hr with ⟨rfl, e⟩ | ⟨rfl, e⟩ | ⟨n0, n1⟩
  · skip
    have X₀ := C.X
    k_enter
    intro g1 L1 h1 FG F1 N1 C1
    have B1 := C1.B; have X1 := C1.X; have T1 := C1.T; have hA1 := C1.hA; have hh1 := C1.hh; have hu1 := units_of C1.hunit
    try dsimp only
    try k_fold
    try clear N
    clear F
    k_steps
    simp only [decide_true]
    simp only [true_or, decide_true] at h
    exact h _ _ (by assumption) (by assumption)
  · skip
    have X₀ := C.X
    k_enter
    intro g1 L1 h1 FG F1 N1 C1
    have B1 := C1.B; have X1 := C1.X; have T1 := C1.T; have hA1 := C1.hA; have hh1 := C1.hh; have hu1 := units_of C1.hunit
    try dsimp only
    try k_fold
    try clear N
    clear F
    k_steps
    simp only [decide_true]
    simp only [or_true, decide_true] at h
    exact h _ _ (by assumption) (by assumption)
  · skip
    have X₀ := C.X
    k_enter
    intro g1 L1 h1 FG F1 N1 C1
    have B1 := C1.B; have X1 := C1.X; have T1 := C1.T; have hA1 := C1.hA; have hh1 := C1.hh; have hu1 := units_of C1.hunit
    try dsimp only
    try k_fold
    try clear N
    clear F
    k_steps
    simp only [n0, n1, or_self, decide_false] at h
    exact h _ _ (by assumption) (by assumption)
theorem c_stackput {R : Result → Shared → Prop} {a : Addr} {c : Cl} {t : Tok}
    (C : Cx w A₀ A base h₀ env outer L mean mg mb (k + 1)) (F : Fr h₀ L s.heap m) (N : News h₀ L s.heap news) (Rp : RS w news imm kp g q σ) (hz : Sm σ) (hc : DatIn imm (.ref a) (cd c))
    (h : ∀ h' tk news', Fr h₀ L h' m → News h₀ L h' news' → RS w news' imm kp g q { σ with stack := σ.stack ++ [c] } → R (.ok (.ret .none)) { s with heap := h', toks := tk }) :
    codeAny (model PG w) A (.call (.ref 174) ⟨[.ref g.x, .int (σ.stack.length : Int) t, .ref a], []⟩) R s := by
  have zK := hz.stack
  have X₀ := C.X
  k_enter
  intro g1 L1 h1 FG F1 N1 C1
  have B1 := C1.B; have X1 := C1.X; have T1 := C1.T; have hA1 := C1.hA; have hh1 := C1.hh; have hu1 := units_of C1.hunit
  try dsimp only
  try k_fold
  try clear N
  clear F
  have mk : WMark (fun n s' => ∃ (u : Str → Option Value) (h' : Heap) (tk : Nat), s' = { s with heap := h', toks := tk } ∧
    Fr g1 L1 h' (vw [(Str.ofString "i", .int (σ.stack.length : Int) t), (Str.ofString "stack", .ref q.aK), (Str.ofString "value", .ref a)] u) ∧ News g1 L1 h' news) 0 := trivial
  k_steps
  · exact ⟨_, _, _, rfl, Fr_vw (by assumption) _ ⟨rfl, rfl, rfl, trivial⟩, by assumption⟩
  clear mk
  rintro n s' ⟨u, h', tk, rfl, F2, N2⟩
  k_steps
  exact h _ _ _ (by assumption) (by assumption) (by assumption)
local macro_rules | `(tactic| walk_at "call ref") => `(tactic| (k_here; (with_reducible show wpAny _ _ (call (Value.ref 146) _ _) _ _ _); k_dflt (refine wpAny_call (c_pair (by assumption) (by k_asm) (by k_asm) (by assumption) (by walk_at "M.sm") (by walk_at "M.dat") (by walk_at "M.dat") (by assumption) (by assumption) ?_); k_whole); walk_at "M.end"))
local macro_rules | `(tactic| walk_at "call ref") => `(tactic| (k_here; (with_reducible show wpAny _ _ (call (Value.ref 132) _ _) _ _ _); k_dflt (refine wpAny_call (c_unbound (by assumption) (by k_asm) (by k_asm) (by assumption) (by walk_at "M.sm") (by walk_at "M.dat") (by walk_at "M.rng") (by assumption) ?_); k_whole); walk_at "M.end"))
local macro_rules | `(tactic| walk_at "call ref") => `(tactic| (k_here; (with_reducible show wpAny _ _ (call (Value.ref 174) _ _) _ _ _); k_dflt (refine wpAny_call (c_stackput (by assumption) (by k_asm) (by k_asm) (by assumption) (by walk_at "M.sm") (by walk_at "M.dat") ?_); k_whole); walk_at "M.end"))
theorem Sm.new {σ : St} {c : Cl} (hz : Sm σ) (h : σ.heap.length < 20000) : Sm (newS σ c) := ⟨by simp only [newS, List.length_append, List.length_singleton]; omega, hz.stack, hz.trail, hz.comps, hz.names, hz.past, hz.co⟩
theorem c_glob0 {R : Result → Shared → Prop} {a : Addr} {c e : Cl} {n : Nat}
    (C : Cx w A₀ A base h₀ env outer L mean mg mb (k + 2)) (F : Fr h₀ L s.heap m) (N : News h₀ L s.heap news) (Rp : RS w news imm kp g q σ) (hz : Sm σ) (hv : DatIn imm (.ref a) (cd c)) (hd : Dr σ.heap σ.stack n c e) (he : e.1 ≠ 1)
    (h : ∀ a' h' tk, DatIn imm (.ref a') (cd e) → Fr h₀ L h' m → News h₀ L h' news → R (.ok (.ret (.ref a'))) { s with heap := h', toks := tk }) :
    codeAny (model PG w) A (.call (.ref 153) ⟨[.ref g.x, .ref a], []⟩) R s := by
  have X₀ := C.X
  k_enter
  intro g1 L1 h1 FG F1 N1 C1
  have B1 := C1.B; have X1 := C1.X; have T1 := C1.T; have hA1 := C1.hA; have hh1 := C1.hh; have hu1 := units_of C1.hunit
  try dsimp only
  try k_fold
  try clear N
  clear F
  k_steps
  exact h _ _ _ (by assumption) (by assumption) (by assumption)
theorem c_glob1 {R : Result → Shared → Prop} {a : Addr} {c e : Cl} {n : Nat} {σB : St}
    (C : Cx w A₀ A base h₀ env outer L mean mg mb (k + 4)) (F : Fr h₀ L s.heap m) (N : News h₀ L s.heap news) (Rp : RS w news imm kp g q σ) (hz : Sm σ) (hv : DatIn imm (.ref a) (cd c)) (hd : Dr σ.heap σ.stack n c e) (he : e.1 = 1) (hp : 0 ≤ e.2) (hl : e.2 < σ.stack.length) (hz1 : σ.heap.length < 20000) (hB : bindS (newS σ (0, (σ.heap.length : Int))) e (0, (σ.heap.length : Int)) = σB)
    (h : ∀ a' h' tk news' imm', Sub imm imm' → RS w news' imm' kp g q σB → DatIn imm' (.ref a') (cd (0, (σ.heap.length : Int))) → Fr h₀ L h' m → News h₀ L h' news' → R (.ok (.ret (.ref a'))) { s with heap := h', toks := tk }) :
    codeAny (model PG w) A (.call (.ref 153) ⟨[.ref g.x, .ref a], []⟩) R s := by
  subst hB
  have hz2 : Sm (newS σ (0, (σ.heap.length : Int))) := hz.new hz1
  have hp0 : e.1 = 0 ∨ e.1 = 1 := .inr he
  have e1 : (newS σ (0, (σ.heap.length : Int))).stack.length = σ.stack.length := rfl
  have X₀ := C.X
  k_enter
  intro g1 L1 h1 FG F1 N1 C1
  have B1 := C1.B; have X1 := C1.X; have T1 := C1.T; have hA1 := C1.hA; have hh1 := C1.hh; have hu1 := units_of C1.hunit
  try dsimp only
  try k_fold
  try clear N
  clear F
  k_steps
  exact h _ _ _ _ _ (by assumption) (by assumption) (by walk_at "M.dat") (by assumption) (by assumption)
local macro_rules | `(tactic| walk_at "call ref") => `(tactic| (k_here; (with_reducible show wpAny _ _ (call (Value.ref 153) _ _) _ _ _); k_dflt (refine wpAny_call (c_glob1 (by assumption) (by k_asm) (by k_asm) (by assumption) (by walk_at "M.sm") (by walk_at "M.dat") (by assumption) (by assumption) (by walk_at "M.rng") (by walk_at "M.rng") (by walk_at "M.rng") (by assumption) ?_); k_whole); walk_at "M.end"))
local macro_rules | `(tactic| walk_at "call ref") => `(tactic| (k_here; (with_reducible show wpAny _ _ (call (Value.ref 153) _ _) _ _ _); k_dflt (refine wpAny_call (c_glob0 (by assumption) (by k_asm) (by k_asm) (by assumption) (by walk_at "M.sm") (by walk_at "M.dat") (by assumption) (by assumption) ?_); k_whole); walk_at "M.end"))
def undoH (H : List Cl) (S : List Int) : List Cl := H.mapIdx fun i c => if (i : Int) ∈ S then (0, (i : Int)) else c
def undoK (K : List Cl) (S : List Int) : List Cl := K.mapIdx fun i c => if (-1 - (i : Int)) ∈ S then (1, (i : Int)) else c
theorem undoH_nil (H : List Cl) : undoH H [] = H := by
  apply List.ext_getElem?
  intro i
  simp [undoH, List.getElem?_mapIdx]
theorem undoK_nil (H : List Cl) : undoK H [] = H := by
  apply List.ext_getElem?
  intro i
  simp [undoK, List.getElem?_mapIdx]
theorem undoH_len (H : List Cl) (S : List Int) : (undoH H S).length = H.length := by simp [undoH]
theorem undoK_len (H : List Cl) (S : List Int) : (undoK H S).length = H.length := by simp [undoK]
theorem undoH_get (H : List Cl) (S : List Int) (i : Nat) : (undoH H S)[i]? = (H[i]?).map fun c => if (i : Int) ∈ S then (0, (i : Int)) else c := by simp [undoH, List.getElem?_mapIdx]
theorem undoK_get (H : List Cl) (S : List Int) (i : Nat) : (undoK H S)[i]? = (H[i]?).map fun c => if (-1 - (i : Int)) ∈ S then (1, (i : Int)) else c := by simp [undoK, List.getElem?_mapIdx]
theorem undoH_cons0 {H : List Cl} {S : List Int} {e : Int} (h : 0 ≤ e) : undoH H (e :: S) = (undoH H S).set e.toNat (0, e) := by
  apply List.ext_getElem?
  intro i
  rw [List.getElem?_set, undoH_get, undoH_get, undoH_len]
  by_cases hi : e.toNat = i
  · have : (i : Int) = e := by omega
    subst this
    simp
    by_cases hl : i < H.length
    · simp [hl]
    · simp [hl]
  · have : (i : Int) ≠ e := by omega
    simp [hi, this]
theorem undoH_cons1 {H : List Cl} {S : List Int} {e : Int} (h : e < 0) : undoH H (e :: S) = undoH H S := by
  apply List.ext_getElem?
  intro i
  rw [undoH_get, undoH_get]
  have : (i : Int) ≠ e := by omega
  simp [this]
theorem undoK_cons1 {H : List Cl} {S : List Int} {e : Int} (h : e < 0) : undoK H (e :: S) = (undoK H S).set (-1 - e).toNat (1, -1 - e) := by
  apply List.ext_getElem?
  intro i
  rw [List.getElem?_set, undoK_get, undoK_get, undoK_len]
  by_cases hi : (-1 - e).toNat = i
  · have h2 : (-1 - (i : Int)) = e := by omega
    have h3 : -1 - e = (i : Int) := by omega
    rw [h2, h3]
    simp
    by_cases hl : i < H.length
    · simp [hl]
    · simp [hl]
  · have : (-1 - (i : Int)) ≠ e := by omega
    simp [hi, this]
theorem undoK_cons0 {H : List Cl} {S : List Int} {e : Int} (h : 0 ≤ e) : undoK H (e :: S) = undoK H S := by
  apply List.ext_getElem?
  intro i
  rw [undoK_get, undoK_get]
  have : (-1 - (i : Int)) ≠ e := by omega
  simp [this]
def undoS (σ : St) (j : Nat) : St := { σ with heap := undoH σ.heap (σ.trail.drop j), stack := undoK σ.stack (σ.trail.drop j), trail := σ.trail.take j }
theorem undoS_all (σ : St) : undoS σ σ.trail.length = σ := by simp [undoS, undoH_nil, undoK_nil]
theorem undoS_len (σ : St) {j : Nat} (h : j ≤ σ.trail.length) : (undoS σ j).trail.length = j := by simp [undoS]; omega
theorem undoS_step {σ : St} {j : Nat} (h : j + 1 ≤ σ.trail.length) : ∃ e, σ.trail[j]? = some e ∧ (undoS σ (j + 1)).trail = σ.trail.take j ++ [e] ∧
    (0 ≤ e → undoS σ j = { undoS σ (j + 1) with trail := σ.trail.take j, heap := (undoS σ (j + 1)).heap.set e.toNat (0, e) }) ∧ (e < 0 → undoS σ j = { undoS σ (j + 1) with trail := σ.trail.take j, stack := (undoS σ (j + 1)).stack.set (-1 - e).toNat (1, -1 - e) }) := by
  have hj : j < σ.trail.length := h
  have hd : σ.trail.drop j = σ.trail[j] :: σ.trail.drop (j + 1) := (List.getElem_cons_drop hj).symm
  refine ⟨σ.trail[j], List.getElem?_eq_getElem hj, ?_, fun h0 => ?_, fun h0 => ?_⟩
  · show σ.trail.take (j + 1) = _
    rw [List.take_add_one, List.getElem?_eq_getElem hj]; rfl
  · unfold undoS
    rw [hd, undoH_cons0 h0, undoK_cons0 h0]
  · unfold undoS
    rw [hd, undoH_cons1 h0, undoK_cons1 h0]
def TrOk (σ : St) : Prop := ∀ e ∈ σ.trail, (0 ≤ e → e < σ.heap.length) ∧ (e < 0 → -1 - e < σ.stack.length)
theorem c_undo {R : Result → Shared → Prop} {μ : Nat} {t : Tok}
    (C : Cx w A₀ A base h₀ env outer L mean mg mb (k + 1)) (F : Fr h₀ L s.heap m) (N : News h₀ L s.heap news) (Rp : RS w news imm kp g q σ) (hz : Sm σ) (hμ : μ ≤ σ.trail.length) (ht : TrOk σ)
    (h : ∀ h' tk news' imm', Sub imm imm' → Fr h₀ L h' m → News h₀ L h' news' → RS w news' imm' kp g q (undoS σ μ) → R (.ok (.ret .none)) { s with heap := h', toks := tk }) :
    codeAny (model PG w) A (.call (.ref 167) ⟨[.ref g.x, .int (μ : Int) t], []⟩) R s := by
  have zH := hz.heap; have zK := hz.stack; have zR := hz.trail
  have X₀ := C.X
  k_enter
  intro g1 L1 h1 FG F1 N1 C1
  have B1 := C1.B; have X1 := C1.X; have T1 := C1.T; have hA1 := C1.hA; have hh1 := C1.hh; have hu1 := units_of C1.hunit
  try dsimp only
  try k_fold
  try clear N
  clear F
  have mk : WMark (fun n s' => ∃ (u : Str → Option Value) (h' : Heap) (tk : Nat) (news' imm' : List (Addr × Obj)) (j : Nat), s' = { s with heap := h', toks := tk } ∧ n = j ∧ μ ≤ j ∧ j ≤ σ.trail.length ∧ Sub imm imm' ∧ RS w news' imm' kp g q (undoS σ j) ∧
    Fr g1 L1 h' (vw [(Str.ofString "self", .ref g.x), (Str.ofString "mark", .int (μ : Int) t)] u) ∧ News g1 L1 h' news') σ.trail.length := trivial
  k_steps
  · exact ⟨_, _, _, _, _, _, rfl, rfl, hμ, Nat.le_refl _, Sub.refl _, by rw [undoS_all]; exact Rp, Fr_vw (by assumption) _ ⟨rfl, rfl, trivial⟩, by assumption⟩
  clear mk F1 N1 Rp
  rintro n s' ⟨u, h', tk, news', imm', j, rfl, rfl, hμj, hjl, hsub, R2, F2, N2⟩
  have ej := undoS_len σ hjl
  have eh : (undoS σ n).heap.length = σ.heap.length := undoH_len _ _
  have ek : (undoS σ n).stack.length = σ.stack.length := undoK_len _ _
  have zj2 : (undoS σ n).trail.length ≤ 20000 := by rw [ej]; exact Nat.le_trans hjl zR
  have zj : (undoS σ n).trail.length ≤ 100000 := Nat.le_trans zj2 (by decide)
  have zh9 : (undoS σ n).heap.length ≤ 20000 := by rw [eh]; exact zH
  have zk9 : (undoS σ n).stack.length ≤ 20000 := by rw [ek]; exact zK
  by_cases hj : n = μ
  · subst hj
    have nf : ¬ ((n : Int) < ((undoS σ n).trail.length : Int)) := by rw [ej]; exact Int.lt_irrefl _
    k_steps
    exact h _ _ _ _ hsub (by assumption) (by assumption) (by assumption)
  · obtain ⟨j, rfl⟩ : ∃ j, n = j + 1 := ⟨n - 1, by omega⟩
    obtain ⟨e, he, et, e0, e1⟩ := undoS_step (σ := σ) (j := j) hjl
    obtain ⟨q0, q1⟩ := ht e (List.mem_of_getElem? he)
    have zt : (σ.trail.take j).length ≤ 20000 := Nat.le_trans (List.length_take_le' _ _) zR
    have hlt : μ < j + 1 := Nat.lt_of_le_of_ne hμj fun e => hj e.symm
    have nf : (μ : Int) < ((undoS σ (j + 1)).trail.length : Int) := by rw [ej]; exact Int.ofNat_lt.mpr hlt
    by_cases hs : 0 ≤ e
    · have q0 := q0 hs
      have e0 := e0 hs
      have q9 : e < ((undoS σ (j + 1)).heap.length : Int) := by rw [eh]; exact q0
      clear q1 e1
      k_steps
      exact ⟨j, Nat.lt_succ_self j, _, _, _, _, _, _, rfl, rfl, Nat.le_of_lt_succ hlt, Nat.le_of_succ_le hjl, hsub.trans (by assumption), by rw [e0]; assumption, Fr_vw (by assumption) _ ⟨rfl, rfl, trivial⟩, by assumption⟩
    · have hs' : e < 0 := Int.not_le.mp hs
      have q1 := q1 hs'
      have e1 := e1 hs'
      have q8 : 0 ≤ -1 - e := by omega
      have q9 : -1 - e < ((undoS σ (j + 1)).stack.length : Int) := by rw [ek]; exact q1
      clear q0 e0
      k_steps
      exact ⟨j, Nat.lt_succ_self j, _, _, _, _, _, _, rfl, rfl, Nat.le_of_lt_succ hlt, Nat.le_of_succ_le hjl, hsub.trans (by assumption), by rw [e1]; assumption, Fr_vw (by assumption) _ ⟨rfl, rfl, trivial⟩, by assumption⟩
local macro_rules | `(tactic| walk_at "call ref") => `(tactic| (k_here; (with_reducible show wpAny _ _ (call (Value.ref 167) _ _) _ _ _); k_dflt (refine wpAny_call (c_undo (by assumption) (by k_asm) (by k_asm) (by assumption) (by walk_at "M.sm") (by walk_at "M.rng") (by assumption) ?_); k_whole); walk_at "M.end"))
theorem take_by {α : Type} : ∀ (l : List α) (k μ : Nat), (l.zipIdx k).filterMap (fun x => if (if (1 : Int) > 0 then (decide ((μ : Int) ≤ x.2) && decide ((x.2 : Int) < (k + l.length : Nat)) && ((x.2 : Int) - μ) % 1 == 0) else (decide (((k + l.length : Nat) : Int) < x.2) && decide ((x.2 : Int) ≤ μ) && ((μ : Int) - x.2) % (-1) == 0)) = true then none else some x.1) = l.take (μ - k)
  | [], _, _ => by simp
  | a :: l, k, μ => by
    have ih := take_by l (k + 1) μ
    have e : k + 1 + l.length = k + (a :: l).length := by simp; omega
    rw [e] at ih
    rw [List.zipIdx_cons, List.filterMap_cons]
    simp only [show (1 : Int) > 0 by decide, if_true, Int.emod_one, beq_self_eq_true, Bool.and_true] at ih ⊢
    by_cases h : μ ≤ k
    · have h1 : (μ : Int) ≤ k := by omega
      have h2 : (k : Int) < ((k + (a :: l).length : Nat) : Int) := by simp; omega
      simp only [h1, h2, decide_true, Bool.and_true, if_true]
      rw [ih]
      have e1 : μ - (k + 1) = 0 := by omega
      have e2 : μ - k = 0 := by omega
      rw [e1, e2]; simp
    · have h1 : ¬ (μ : Int) ≤ k := by omega
      simp only [h1, decide_false, Bool.false_and, Bool.false_eq_true, if_false]
      rw [ih]
      have e2 : μ - k = (μ - (k + 1)) + 1 := by omega
      rw [e2, List.take_succ_cons]
section
variable {prog : Program} {w : World} {A : Around} {E : Value → Shared → Prop} {s : Shared}
theorem del_from {l sl : Addr} {vs : List Value} {n μ : Nat} {t : Tok} {Q : Unit → Shared → Prop} (hl : s.heap.get? l = some (W.listOf vs.toArray n)) (hs : s.heap.IsSliceOf sl (.int (μ : Int) t) .none .none) (hμ : μ ≤ vs.length) (hz : vs.length ≤ 20000)
    (h : ∀ f, f vs.toArray = (vs.take μ).toArray → Q () { s with heap := s.heap.update l (Obj.mapSeq f) }) : wpAny (model prog w) A (delItem (.ref l) (.ref sl)) Q E s := by
  obtain ⟨os, hos, hcs, hds⟩ := id hs
  have hTs : s.TypeIs (.ref sl) "slice" := ⟨os, hos, hcs⟩
  have hsz : vs.toArray.size ≤ sizeLine := by rw [List.size_toArray, sizeLine_eq]; omega
  have hT : s.TypeIs (.ref l) "list" := ⟨_, hl, rfl⟩
  refine wpAny_delItem_slot hT (by decide) PySem.F.slot_list_delitem (wpAny_call_entry PySem.F.slot_list_delitem hT PySem.F.entry_list_delitem ?_ (PySem.F.args_list_delitem_2 _ _))
  show wpAny _ _ (Builtin.List.listSubscript? (.ref sl) >>= _) _ _ s
  refine wpAny_bind ?_
  unfold Builtin.List.listSubscript?
  refine wpAny_bind (wpAny_specialOf hTs slice_no_index ?_)
  simp only [Option.isNone_none, if_true]
  refine wpAny_pure ?_
  show wpAny _ _ (typeOf (.ref sl) >>= _) _ _ s
  refine wpAny_bind (wpAny_typeOf hTs ?_)
  rw [if_neg (by decide)]
  rw [listSliceParts_eq]
  refine wpAny_bind (wpAny_bind (wpAny_field hos hds (x := .none) rfl (wpAny_bind (wpAny_listPart .none ?_))))
  rw [if_neg (show ¬ ((rawPart none == rawInt 0) = true) from Bool.false_ne_true)]
  refine wpAny_bind (wpAny_field hos hds (x := .int (μ : Int) t) rfl (wpAny_bind (wpAny_listPart (.int _ _) ?_)))
  refine wpAny_bind (wpAny_field hos hds (x := .none) rfl (wpAny_bind (wpAny_listPart .none (wpAny_pure ?_))))
  refine wpAny_bind (m := Builtin.List.listItems (.ref l)) ?_
  unfold Builtin.List.listItems
  refine wpAny_bind (wpAny_seqItems hl rfl (wpAny_pure ?_))
  refine wpAny_bind (wpAny_of_eq (sliceIndices_raw (some (μ : Int)) none none vs.toArray.size (by simp)) ?_)
  have e : sliceBounds (some (μ : Int)) none none vs.toArray.size = ((μ : Int), (vs.length : Int), 1) := by
    simp only [sliceBounds, Option.getD_none, List.size_toArray]
    have h1 : ¬ ((μ : Int) < 0) := by omega
    simp only [h1, if_false, show (1 : Int) > 0 by decide, if_true]
    congr 1
    omega
  rw [e]
  have key : ((vs.toArray).toList.zipIdx.filterMap (fun x : Value × Nat => if (if (1 : Int) > 0 then (decide ((μ : Int) ≤ x.2) && decide ((x.2 : Int) < (vs.length : Int)) && ((x.2 : Int) - μ) % 1 == 0) else (decide ((vs.length : Int) < x.2) && decide ((x.2 : Int) ≤ μ) && ((μ : Int) - x.2) % (-1) == 0)) = true then none else some x.1)).toArray = (vs.take μ).toArray := by
    have := take_by vs 0 μ
    simp only [Nat.zero_add, Nat.sub_zero] at this
    rw [← this]
  refine wpAny_bind (wpAny_rule ?_)
  refine wpAny_bind ?_
  refine wpAny_updateSeq hl rfl ?hh hsz ?zz
  case zz => exact Nat.le_trans (Nat.le_of_eq (congrArg Array.size key)) (by rw [List.size_toArray, List.length_take, sizeLine_eq]; omega)
  refine wpAny_bind (wpAny_letGo (wpAny_pure ⟨_, rfl, ?_⟩))
  exact h _ key
end
section
variable {w : World} {A₀ A : Around} {base h₀ : Heap} {L : Addr} {m : Str → Option Value} {news imm kp : List (Addr × Obj)} {g : Gh} {q : Vg} {σ : St} {s : Shared} {E : Value → Shared → Prop} {Q : Value → Shared → Prop} {QU : Unit → Shared → Prop}
theorem datAll_take : ∀ {vs : List Value} {ds : List Dat} (i : Nat), DatAll imm vs ds → DatAll imm (vs.take i) (ds.take i)
  | _, _, 0, _ => by simpa using DatAll.nil
  | _, _, _ + 1, .nil => .nil
  | _, _, i + 1, .cons h r => .cons h (datAll_take i r)
theorem del_heap {μ : Nat} {t : Tok} (F : Fr h₀ L s.heap m) (N : News h₀ L s.heap news) (R : RS w news imm kp g q σ) (hμ : μ ≤ σ.heap.length) (hz : σ.heap.length ≤ 20000)
    (h : ∀ h' news', Fr h₀ L h' m → News h₀ L h' news' → RS w news' imm kp g q { σ with heap := σ.heap.take μ } → QU () { s with heap := h' }) :
    wpAny (model PG w) A (delItem (.ref g.aH) (.ref s.heap.objs.size)) QU E { s with heap := s.heap.push { cls := .type "slice", data := .fields #[.int (μ : Int) t, .none, .none] } } := by
  obtain ⟨vs, n, hm, d⟩ := R.oH
  have hl : vs.length = σ.heap.length := cells_len d
  have F1 := F.push { cls := .type "slice", data := .fields #[.int (μ : Int) t, .none, .none] }
  have N1 : News h₀ L (s.heap.push { cls := .type "slice", data := .fields #[.int (μ : Int) t, .none, .none] }) news := fun p hp => ⟨Heap.get?_push_of_some _ (N p hp).1, (N p hp).2⟩
  have N2 := focus N1 hm
  have z := N1 _ hm
  refine del_from z.1 (Heap.IsSliceOf.new ..) (by omega) (by omega) fun f hf => ?_
  refine h _ _ (F1.change (Heap.SameBut.update ..) z.2.1 z.2.2) (ki_turn (pre := []) (its' := (vs.take μ).toArray) _ N2 (fun _ h => nomatch h) off_ne hf rfl) ⟨R.rep.upd (pre := [_, _]) (x' := .cells (σ.heap.take μ)) ⟨vs.take μ, _, rfl, ?_⟩, R.ec⟩
  rw [List.map_take]
  exact datAll_take _ d
end
local macro_rules | `(tactic| walk_at "delItem ref ref") => `(tactic| (k_here; (with_reducible show wpAny _ _ (delItem (Value.ref (Gh.aH _)) (Value.ref _)) _ _ _); k_dflt (refine del_heap (by k_asm) (by k_asm) (by assumption) (by walk_at "M.ar") (by walk_at "M.ar") ?_; k_whole); intro _ _ _ _ _; try k_sweep))
theorem c_trim {R : Result → Shared → Prop} {μ : Nat} {t : Tok}
    (C : Cx w A₀ A base h₀ env outer L mean mg mb (k + 1)) (F : Fr h₀ L s.heap m) (N : News h₀ L s.heap news) (Rp : RS w news imm kp g q σ) (hz : Sm σ) (hμ : μ ≤ σ.heap.length)
    (h : ∀ h' tk news', Fr h₀ L h' m → News h₀ L h' news' → RS w news' imm kp g q { σ with heap := σ.heap.take μ } → R (.ok (.ret .none)) { s with heap := h', toks := tk }) :
    codeAny (model PG w) A (.call (.ref 118) ⟨[.ref g.x, .int (μ : Int) t], []⟩) R s := by
  have zH := hz.heap
  have X₀ := C.X
  k_enter
  intro g1 L1 h1 FG F1 N1 C1
  have B1 := C1.B; have X1 := C1.X; have T1 := C1.T; have hA1 := C1.hA; have hh1 := C1.hh; have hu1 := units_of C1.hunit
  try dsimp only
  try k_fold
  try clear N
  clear F
  k_steps
  exact h _ _ _ (by assumption) (by assumption) (by assumption)
local macro_rules | `(tactic| walk_at "call ref") => `(tactic| (k_here; (with_reducible show wpAny _ _ (call (Value.ref 118) _ _) _ _ _); k_dflt (refine wpAny_call (c_trim (by assumption) (by k_asm) (by k_asm) (by assumption) (by walk_at "M.sm") (by walk_at "M.rng") ?_); k_whole); walk_at "M.end"))
theorem kqdOk_cells {cs : List Cl} : ∀ d ∈ cs.map cd, kqdOk 8 d = true := fun d hd => by obtain ⟨c, _, rfl⟩ := List.mem_map.mp hd; rfl
theorem list_in {imm : List (Addr × Obj)} {a : Addr} {ds : List Dat} (h : DatIn imm (.ref a) (.list ds)) : ∃ vs n, (a, W.listOf (List.toArray vs) n) ∈ imm ∧ DatAll imm vs ds := by
  cases h with
  | list hm r => exact ⟨_, _, hm, r⟩
theorem chs_last {imm : List (Addr × Obj)} {vs : List Value} {lbs : List Addr} {ss : List Sn} {sn : Sn} (h : ChsIn imm vs lbs ss) (e : ss.getLast? = some sn) : ∃ v lb, vs[vs.length - 1]? = some v ∧ lbs.getLast? = some lb ∧ ChIn imm lb sn v := by
  obtain ⟨ss', rfl⟩ := List.getLast?_eq_some_iff.mp e
  have hl := h.lengths
  obtain ⟨lbs', lb, rfl⟩ : ∃ l x, lbs = l ++ [x] := by
    cases hq : lbs.reverse with
    | nil => simp at hq; subst hq; simp at hl
    | cons x r => exact ⟨r.reverse, x, by have := congrArg List.reverse hq; simpa using this⟩
  obtain ⟨p, v, rfl, h1, h2⟩ := chsIn_snoc h
  exact ⟨v, lb, by simp, by simp, h2⟩
section
variable {w : World} {A₀ A : Around} {base h₀ : Heap} {L : Addr} {m : Str → Option Value} {news imm kp : List (Addr × Obj)} {g : Gh} {q : Vg} {σ : St} {s : Shared} {E : Value → Shared → Prop} {Q : Value → Shared → Prop} {QU : Unit → Shared → Prop} {a b : Addr} {c : Cl} {cs ds : List Cl}
theorem eq_lists (N : News h₀ L s.heap news) (R : RS w news imm kp g q σ) (ha : DatIn imm (.ref a) (.list (cs.map cd))) (hb : DatIn imm (.ref b) (.list (ds.map cd))) (hu : A.units + 64 < cLine) (h : Q (.bool (decide (cs = ds))) s) : wpAny (model PG w) A (compareOp .Eq (.ref a) (.ref b)) Q E s := by
  obtain ⟨vs, n, ma, da⟩ := list_in ha
  obtain ⟨us, k, mb, db⟩ := list_in hb
  refine kqd_eq N (R.rep.immn _ ma) rfl rfl da R.rep.immn (R.rep.immn _ mb) rfl rfl db R.rep.immn kqdOk_cells kqdOk_cells hu ?_
  have : ∀ i : Decidable (cs.map cd = ds.map cd), @decide (cs.map cd = ds.map cd) i = decide (cs = ds) := fun _ => decide_eq_decide.mpr cds_inj
  rw [this]; exact h
theorem ne_lists (N : News h₀ L s.heap news) (R : RS w news imm kp g q σ) (ha : DatIn imm (.ref a) (.list (cs.map cd))) (hb : DatIn imm (.ref b) (.list (ds.map cd))) (hu : A.units + 64 < cLine) (h : Q (.bool (!decide (cs = ds))) s) : wpAny (model PG w) A (compareOp .NotEq (.ref a) (.ref b)) Q E s := by
  obtain ⟨vs, n, ma, da⟩ := list_in ha
  obtain ⟨us, k, mb, db⟩ := list_in hb
  refine kqd_ne N (R.rep.immn _ ma) rfl rfl da R.rep.immn (R.rep.immn _ mb) rfl rfl db R.rep.immn kqdOk_cells kqdOk_cells hu ?_
  have : ∀ i : Decidable (cs.map cd = ds.map cd), @decide (cs.map cd = ds.map cd) i = decide (cs = ds) := fun _ => decide_eq_decide.mpr cds_inj
  rw [this]; exact h
theorem eq_names (N : News h₀ L s.heap news) (R : RS w news imm kp g q σ) (hb : DatIn imm (.ref b) (.list [])) (hu : A.units + 64 < cLine) (h : Q (.bool (decide (σ.names = []))) s) : wpAny (model PG w) A (compareOp .Eq (.ref q.aN) (.ref b)) Q E s := by
  obtain ⟨vs, n, ma, da⟩ := R.oN
  obtain ⟨us, k, mb, db⟩ := list_in hb
  refine kqd_eq N ma rfl rfl da R.rep.immn (R.rep.immn _ mb) rfl rfl (es := ([] : List Cl).map cd) db R.rep.immn kqdOk_cells kqdOk_cells hu ?_
  have : ∀ i : Decidable (σ.names.map cd = ([] : List Cl).map cd), @decide (σ.names.map cd = ([] : List Cl).map cd) i = decide (σ.names = []) := fun _ => decide_eq_decide.mpr cds_inj
  rw [this]; exact h
theorem ne_choices (N : News h₀ L s.heap news) (R : RS w news imm kp g q σ) (hb : DatIn imm (.ref b) (.list [])) (hu : A.units + 64 < cLine) (h : Q (.bool (!decide (σ.past = []))) s) : wpAny (model PG w) A (compareOp .NotEq (.ref g.aX) (.ref b)) Q E s := by
  obtain ⟨vs, n, ma, da⟩ := R.oX
  obtain ⟨us, k, mb, db⟩ := list_in hb
  cases db
  have hl := da.length
  have l1 : s.heap.IsList g.aX vs.toArray := News.isList N ma
  have l2 : s.heap.IsList b (List.toArray []) := News.isList N (R.rep.immn _ mb)
  show wpAny _ _ (richCompare .NotEq _ _) _ _ _
  cases vs with
  | nil =>
    have hp : σ.past = [] := List.eq_nil_of_length_eq_zero hl.symm
    rw [hp] at h
    exact SeqAt.RcNeAt.lists (e := fun _ => true) l1 l2 rfl (by omega) (fun j h1 _ => by simp at h1) _ _ _ _ (by simpa using h)
  | cons v vs =>
    have hp : ¬ σ.past = [] := fun e => by rw [e] at hl; simp at hl
    rw [decide_eq_false hp] at h
    exact SeqAt.RcNeAt.lists_lengths l1 l2 (by simp) (by omega) _ _ _ _ h
/-- the newest choice -/
theorem item_last {value slice : PySem.Expr} {u : Tok} {sn : Sn} (N : News h₀ L s.heap news) (R : RS w news imm kp g q σ) (hk : σ.past.getLast? = some sn) (hz : σ.past.length ≤ 20000) (h : ∀ a lb, q.lbs.getLast? = some lb → ChIn imm lb sn (.ref a) → Q (.ref a) s)
    (hs : subscripted slice false (.ref g.aX) (.int (-1) u) = operate [.ref g.aX, .int (-1) u] (getItem (.ref g.aX) (.int (-1) u)) := by with_unfolding_all rfl) : wpAny (model PG w) A (subscriptTail value slice (.ref g.aX) (.int (-1) u)) Q E s := by
  obtain ⟨vs, n, hm, d⟩ := R.oX
  obtain ⟨v, lb, hv, hlb, hc⟩ := chs_last d hk
  have hl := d.length
  have hpos : 0 < vs.length := by
    have := (List.getElem?_eq_some_iff.mp hv).1
    omega
  obtain ⟨a, _, _, _, _, _, rfl, _⟩ := id hc
  refine tail_any (News.isList N hm).typeIs slot_list_getitem.lookup (wpAny_getItem_list_neg (News.isList N hm) (by decide) (by simp only [List.size_toArray]; omega) (by decide) ?_ (h a lb hlb hc)) hs
  rw [List.size_toArray]
  have : (-1 + (vs.length : Int)).toNat = vs.length - 1 := by omega
  rw [this]
  simpa using hv
theorem ch0 {value slice : PySem.Expr} {u : Tok} {sn : Sn} {lb : Addr} (N : News h₀ L s.heap news) (R : RS w news imm kp g q σ) (hv : ChIn imm lb sn (.ref a)) (h : ∀ t, Q (.int sn.mark t) s)
    (hs : subscripted slice false (.ref a) (.int 0 u) = operate [.ref a, .int 0 u] (getItem (.ref a) (.int 0 u)) := by with_unfolding_all rfl) : wpAny (model PG w) A (subscriptTail value slice (.ref a) (.int 0 u)) Q E s := by
  obtain ⟨a', na, t1, t2, t3, ln, e, ha, _⟩ := hv
  cases e
  exact item_tupleT (News.isTup N (R.rep.immn _ ha)) (by decide) (by decide) rfl rfl (h _) hs
theorem ch1 {value slice : PySem.Expr} {u : Tok} {sn : Sn} {lb : Addr} (N : News h₀ L s.heap news) (R : RS w news imm kp g q σ) (hv : ChIn imm lb sn (.ref a)) (h : ∀ t, Q (.int sn.high t) s)
    (hs : subscripted slice false (.ref a) (.int 1 u) = operate [.ref a, .int 1 u] (getItem (.ref a) (.int 1 u)) := by with_unfolding_all rfl) : wpAny (model PG w) A (subscriptTail value slice (.ref a) (.int 1 u)) Q E s := by
  obtain ⟨a', na, t1, t2, t3, ln, e, ha, _⟩ := hv
  cases e
  exact item_tupleT (News.isTup N (R.rep.immn _ ha)) (by decide) (by decide) rfl rfl (h _) hs
theorem ch2 {value slice : PySem.Expr} {u : Tok} {sn : Sn} {lb : Addr} (N : News h₀ L s.heap news) (R : RS w news imm kp g q σ) (hv : ChIn imm lb sn (.ref a)) (h : ∀ t, Q (.int sn.wide t) s)
    (hs : subscripted slice false (.ref a) (.int 2 u) = operate [.ref a, .int 2 u] (getItem (.ref a) (.int 2 u)) := by with_unfolding_all rfl) : wpAny (model PG w) A (subscriptTail value slice (.ref a) (.int 2 u)) Q E s := by
  obtain ⟨a', na, t1, t2, t3, ln, e, ha, _⟩ := hv
  cases e
  exact item_tupleT (News.isTup N (R.rep.immn _ ha)) (by decide) (by decide) rfl rfl (h _) hs
theorem in_list (N : News h₀ L s.heap news) (R : RS w news imm kp g q σ) (ha : DatIn imm (.ref a) (.list (cs.map cd))) (hb : DatIn imm (.ref b) (cd c)) (hu : A.units + 64 < cLine) (h : Q (.bool (decide (c ∈ cs))) s) : wpAny (model PG w) A (compareOp .In (.ref b) (.ref a)) Q E s := by
  obtain ⟨vs, n, ma, da⟩ := list_in ha
  refine kqd_isIn N (R.rep.immn _ ma) rfl rfl da R.rep.immn hb R.rep.immn kqdOk_cells rfl hu ?_
  have : ∀ i : Decidable (cd c ∈ cs.map cd), @decide (cd c ∈ cs.map cd) i = decide (c ∈ cs) := fun _ => decide_eq_decide.mpr ⟨fun h => by obtain ⟨x, hx, e⟩ := List.mem_map.mp h; rw [← cd_inj.mp e]; exact hx, fun h => List.mem_map_of_mem h⟩
  rw [this]; exact h
end
theorem dat_nil {imm : List (Addr × Obj)} {v : Value} (h : DatIn imm v (.list [])) : DatIn imm v (.list (([] : List Cl).map cd)) := h
local macro_rules | `(tactic| walk_at "M.ldat") => `(tactic| first | walk_at "M.dat" | (with_reducible refine' dat_nil ?h; (case h => walk_at "M.dat")))
local macro_rules | `(tactic| walk_at "compareOp Eq ref ref") => `(tactic| (k_here; k_dflt (refine' eq_lists ?N ?R ?c ?d ?u ?_; (case N => k_asm); (case R => assumption); (case c => walk_at "M.ldat"); (case d => walk_at "M.ldat"); (case u => walk_at "M.unit"); k_whole)))
local macro_rules | `(tactic| walk_at "compareOp Eq ref ref") => `(tactic| (k_here; (with_reducible show wpAny _ _ (compareOp _ (Value.ref (Vg.aN _)) _) _ _ _); k_dflt (refine' eq_names ?N ?R ?d ?u ?_; (case N => k_asm); (case R => assumption); (case d => walk_at "M.dat"); (case u => walk_at "M.unit"); k_whole)))
local macro_rules | `(tactic| walk_at "compareOp NotEq ref ref") => `(tactic| (k_here; k_dflt (refine' ne_lists ?N ?R ?c ?d ?u ?_; (case N => k_asm); (case R => assumption); (case c => walk_at "M.ldat"); (case d => walk_at "M.ldat"); (case u => walk_at "M.unit"); k_whole)))
local macro_rules | `(tactic| walk_at "compareOp NotEq ref ref") => `(tactic| (k_here; (with_reducible show wpAny _ _ (compareOp _ (Value.ref (Gh.aX _)) _) _ _ _); k_dflt (refine' ne_choices ?N ?R ?d ?u ?_; (case N => k_asm); (case R => assumption); (case d => walk_at "M.dat"); (case u => walk_at "M.unit"); k_whole)))
local macro_rules | `(tactic| walk_at "compareOp In ref ref") => `(tactic| (k_here; (with_reducible show wpAny _ _ (compareOp CmpOp.In (Value.ref _) (Value.ref _)) _ _ _); k_dflt (refine' in_list ?N ?R ?c ?d ?u ?_; (case N => k_asm); (case R => assumption); (case c => walk_at "M.dat"); (case d => walk_at "M.dat"); (case u => walk_at "M.unit"); k_whole)))
local macro_rules | `(tactic| walk_at "compareOp In") => `(tactic| (k_here; (with_reducible show wpAny _ _ (compareOp CmpOp.In (Value.ref _) (Value.ref _)) _ _ _); k_dflt (refine' in_list ?N ?R ?c ?d ?u ?_; (case N => k_asm); (case R => assumption); (case c => walk_at "M.dat"); (case d => walk_at "M.dat"); (case u => walk_at "M.unit"); k_whole)))
local macro_rules | `(tactic| walk_at "subscriptTail") => `(tactic| (k_here; first
  | ((with_reducible show wpAny _ _ (subscriptTail _ _ (Value.ref (Gh.aX _)) (Value.int (-1) _)) _ _ _); k_dflt (refine' item_last ?N ?R ?k ?z ?_; (case N => k_asm); (case R => assumption); (case k => assumption); (case z => walk_at "M.ar"); k_whole; intro _ _ _ _))
  | ((with_reducible show wpAny _ _ (subscriptTail _ _ (Value.ref _) (Value.int 0 _)) _ _ _); k_dflt (refine' ch0 ?N ?R ?v ?_; (case N => k_asm); (case R => assumption); (case v => walk_at "M.ch"); k_whole; intro _))
  | ((with_reducible show wpAny _ _ (subscriptTail _ _ (Value.ref _) (Value.int 1 _)) _ _ _); k_dflt (refine' ch1 ?N ?R ?v ?_; (case N => k_asm); (case R => assumption); (case v => walk_at "M.ch"); k_whole; intro _))
  | ((with_reducible show wpAny _ _ (subscriptTail _ _ (Value.ref _) (Value.int 2 _)) _ _ _); k_dflt (refine' ch2 ?N ?R ?v ?_; (case N => k_asm); (case R => assumption); (case v => walk_at "M.ch"); k_whole; intro _))))
local macro_rules | `(tactic| walk_at "M.ch") => `(tactic| first | assumption | (refine' ChIn.mono ?s ?h; (case s => (show Sub _ _); assumption); (case h => walk_at "M.ch")))
def lim (σ : St) (t : Int) : Int := match σ.past.getLast? with
  | none => 0
  | some sn => if t = 0 then sn.high else sn.wide
def notedS (σ : St) (c : Cl) : St := if c.2 < lim σ c.1 then { σ with wtr := σ.wtr + 1 } else σ
theorem c_noted {R : Result → Shared → Prop} {a : Addr} {c : Cl}
    (C : Cx w A₀ A base h₀ env outer L mean mg mb (k + 1)) (F : Fr h₀ L s.heap m) (N : News h₀ L s.heap news) (Rp : RS w news imm kp g q σ) (hz : Sm σ) (hc : DatIn imm (.ref a) (cd c))
    (h : ∀ h' tk news' imm', Sub imm imm' → Fr h₀ L h' m → News h₀ L h' news' → RS w news' imm' kp g q (notedS σ c) → R (.ok (.ret .none)) { s with heap := h', toks := tk }) :
    codeAny (model PG w) A (.call (.ref 256) ⟨[.ref g.aW, .ref a], []⟩) R s := by
  obtain ⟨t, i⟩ := c
  have zP := hz.past
  unfold notedS at h
  dsimp only at h
  cases hp : σ.past.getLast? with
  | none =>
    have hp' : σ.past = [] := by simpa using hp
    have hl : lim σ t = 0 := by simp only [lim, hp]
    rw [hl] at h
    by_cases hb : i < 0
    · rw [if_pos hb] at h
      have X₀ := C.X
      k_enter
      intro g1 L1 h1 FG F1 N1 C1
      have B1 := C1.B; have X1 := C1.X; have T1 := C1.T; have hA1 := C1.hA; have hh1 := C1.hh; have hu1 := units_of C1.hunit
      try dsimp only
      try k_fold
      try clear N
      clear F
      k_steps
      exact h _ _ _ _ (by assumption) (by assumption) (by assumption) (by assumption)
    · rw [if_neg hb] at h
      have X₀ := C.X
      k_enter
      intro g1 L1 h1 FG F1 N1 C1
      have B1 := C1.B; have X1 := C1.X; have T1 := C1.T; have hA1 := C1.hA; have hh1 := C1.hh; have hu1 := units_of C1.hunit
      try dsimp only
      try k_fold
      try clear N
      clear F
      k_steps
      exact h _ _ _ _ (by assumption) (by assumption) (by assumption) (by assumption)
  | some sn =>
    have hp' : ¬ σ.past = [] := fun e => by rw [e] at hp; cases hp
    have hl : lim σ t = if t = 0 then sn.high else sn.wide := by simp only [lim, hp]
    by_cases h0 : t = 0
    · rw [hl, if_pos h0] at h
      by_cases hb : i < sn.high
      · rw [if_pos hb] at h
        have X₀ := C.X
        k_enter
        intro g1 L1 h1 FG F1 N1 C1
        have B1 := C1.B; have X1 := C1.X; have T1 := C1.T; have hA1 := C1.hA; have hh1 := C1.hh; have hu1 := units_of C1.hunit
        try dsimp only
        try k_fold
        try clear N
        clear F
        k_steps
        exact h _ _ _ _ (by assumption) (by assumption) (by assumption) (by assumption)
      · rw [if_neg hb] at h
        have X₀ := C.X
        k_enter
        intro g1 L1 h1 FG F1 N1 C1
        have B1 := C1.B; have X1 := C1.X; have T1 := C1.T; have hA1 := C1.hA; have hh1 := C1.hh; have hu1 := units_of C1.hunit
        try dsimp only
        try k_fold
        try clear N
        clear F
        k_steps
        exact h _ _ _ _ (by assumption) (by assumption) (by assumption) (by assumption)
    · rw [hl, if_neg h0] at h
      by_cases hb : i < sn.wide
      · rw [if_pos hb] at h
        have X₀ := C.X
        k_enter
        intro g1 L1 h1 FG F1 N1 C1
        have B1 := C1.B; have X1 := C1.X; have T1 := C1.T; have hA1 := C1.hA; have hh1 := C1.hh; have hu1 := units_of C1.hunit
        try dsimp only
        try k_fold
        try clear N
        clear F
        k_steps
        exact h _ _ _ _ (by assumption) (by assumption) (by assumption) (by assumption)
      · rw [if_neg hb] at h
        have X₀ := C.X
        k_enter
        intro g1 L1 h1 FG F1 N1 C1
        have B1 := C1.B; have X1 := C1.X; have T1 := C1.T; have hA1 := C1.hA; have hh1 := C1.hh; have hu1 := units_of C1.hunit
        try dsimp only
        try k_fold
        try clear N
        clear F
        k_steps
        exact h _ _ _ _ (by assumption) (by assumption) (by assumption) (by assumption)
local macro_rules | `(tactic| walk_at "call ref") => `(tactic| (k_here; (with_reducible show wpAny _ _ (call (Value.ref 256) _ _) _ _ _); k_dflt (refine wpAny_call (c_noted (by assumption) (by k_asm) (by k_asm) (by assumption) (by walk_at "M.sm") (by walk_at "M.dat") ?_); k_whole); walk_at "M.end"))
def findCo (cs : List Co) (c : Cl) : Option Nat := cs.findIdx? fun x => decide (c ∈ x.names)
theorem kept_sub {news own : List (Addr × Obj)} : Sub news (news ++ own) := fun _ h => List.mem_append_left _ h
theorem RS.more {w : World} {news news' imm kp : List (Addr × Obj)} {g : Gh} {q : Vg} {σ : St} (R : RS w news imm kp g q σ) (h : Sub news news') : RS w news' imm kp g q σ :=
  ⟨⟨fun p hp => let ⟨o, h1, h2⟩ := R.rep.has p hp; ⟨o, h _ h1, h2⟩, R.rep.nd, fun p hp => h _ (R.rep.immn p hp), R.rep.immoff⟩, R.ec⟩
def IterAt (prog : Program) (w : World) (A : Around) (h₀ : Heap) (env : Env) (x : Str) (body : List Stmt) (Q : Flow → Shared → Prop) (E : Value → Shared → Prop) (xv : Value) (s₁ : Shared) : Prop :=
  wpAny (model prog w) A (pyIter xv) (fun it s₂ => LoopAtV prog w A h₀ env x body Q E it s₂) E s₁
theorem for_stop {prog : Program} {w : World} {A : Around} {E : Value → Shared → Prop} {s : Shared} {h₀ : Heap} {env : Env} {x : Str} {body : List Stmt} {Q : Flow → Shared → Prop} {m : Str → Option Value} {px pos : Pos} {iter : Expr}
    (F : Fr h₀ env.locals s.heap m) (hx : env.kindOf x = some .local) (hp : (env.scope.kind == .class || (env.scope.kind == .module && env.locals != env.globals)) = false)
    (hE : PassesOwn (model prog w) A env E) (hs : ∀ x, foldedSetIterable iter env x = pure x)
    (h : wpAny (model prog w) A (eval iter env) (fun xv s₁ => IterAt prog w A h₀ env x body Q E xv s₁) E s) :
    wpAny (model prog w) A (exec (.For (.Name x px) iter body [] pos) env) Q E s := For_invVF F hx hp h hs hE
/-- a turn's end where nothing of the ledger turned -/
theorem inv_end {h₀ : Heap} {L : Addr} {J : (Str → Option Value) → List (Addr × Obj) → Prop} {own news : List (Addr × Obj)} {s₁ : Shared} {h' : Heap} {tk : Nat} {m' : Str → Option Value} (F : Fr h₀ L h' m') (N : News h₀ L h' (news ++ own)) (ha : OwnOff own (news.map (·.1))) (hj : J m' news) :
    InvEndG h₀ L J own s₁ { s₁ with heap := h', toks := tk } := ⟨h', tk, m', _, news, rfl, F, N, fun _ h => List.mem_append_left _ h, fun _ h => List.mem_append_right _ h, ha, hj⟩
theorem up_ne {x y : Str} {v r : Option Value} {m : Str → Option Value} (h : y ≠ x) (e : m y = r) : (fun z => if z = x then v else m z) y = r := by
  show (if y = x then v else m y) = r
  rw [if_neg h]; exact e
local macro_rules | `(tactic| walk_at "InvPostG") => `(tactic| (dsimp only [InvPostG]))
local macro_rules | `(tactic| walk_at "exec For") => `(tactic| (k_here; (refine for_stop (by k_asm) (by exact rfl) (by exact rfl) (by first | passes_own | with_unfolding_all passes_own) (by intro _; exact rfl) ?_)))
local macro_rules | `(tactic| walk_at "exec For Name Subscript cons nil") => `(tactic| (k_here; (refine for_stop (by k_asm) (by exact rfl) (by exact rfl) (by first | passes_own | with_unfolding_all passes_own) (by intro _; exact rfl) ?_)))
local macro_rules | `(tactic| walk_at "exec For Name Call cons nil") => `(tactic| (k_here; (refine for_stop (by k_asm) (by exact rfl) (by exact rfl) (by first | passes_own | with_unfolding_all passes_own) (by intro _; exact rfl) ?_)))
local macro_rules | `(tactic| walk_at "exec For Name Name cons nil") => `(tactic| (k_here; (refine for_stop (by k_asm) (by exact rfl) (by exact rfl) (by first | passes_own | with_unfolding_all passes_own) (by intro _; exact rfl) ?_)))
theorem c_company {R : Result → Shared → Prop} {a b : Addr} {c : Cl} {co : Co} {i : Nat}
    (C : Cx w A₀ A base h₀ env outer L mean mg mb (k + 1)) (F : Fr h₀ L s.heap m) (N : News h₀ L s.heap news) (Rp : RS w news imm kp g q σ) (hz : Sm σ) (hc : DatIn imm (.ref a) (cd c)) (hi : q.cos[i]? = some (b, co)) (hf : findCo σ.comps c = some i)
    (h : ∀ h' tk, Fr h₀ L h' m → News h₀ L h' news → R (.ok (.ret (.ref b))) { s with heap := h', toks := tk }) :
    codeAny (model PG w) A (.call (.ref 237) ⟨[.ref g.aW, .ref a], []⟩) R s := by
  have X₀ := C.X
  k_enter
  intro g1 L1 h1 FG F1 N1 C1
  have B1 := C1.B; have X1 := C1.X; have T1 := C1.T; have hA1 := C1.hA; have hh1 := C1.hh; have hu1 := units_of C1.hunit
  try dsimp only
  try k_fold
  try clear N
  clear F
  k_steps
  obtain ⟨n, hm⟩ := Rp.oC
  have hf' := List.findIdx?_eq_some_iff_getElem.mp hf
  obtain ⟨hil, hin, hnot⟩ := hf'
  refine kdl_iter (fun j m₁ nx => nx = news ∧ j ≤ i ∧ m₁ (Str.ofString "world") = some (.ref g.aW) ∧ m₁ (Str.ofString "name") = some (.ref a)) hh1 hm (by assumption) (by assumption) ⟨rfl, Nat.zero_le _, rfl, rfl⟩ ?_ ?_
  · rintro j v m₁ nx h2 tk own hv hoff _ ⟨rfl, hji, e1, e2⟩ F2 N2
    have R2 := Rp.more (kept_sub (own := own))
    rw [List.map_map, List.getElem?_map] at hv
    obtain ⟨⟨b', co'⟩, hb, rfl⟩ := Option.map_eq_some_iff.mp hv
    have hcb : (b', co') ∈ q.cos := List.mem_of_getElem? hb
    have F3 := Fr_vw F2 [(Str.ofString "world", .ref g.aW), (Str.ofString "name", .ref a), (Str.ofString "company", .ref b')] ⟨up_ne (y := Str.ofString "world") (by decide) e1, up_ne (y := Str.ofString "name") (by decide) e2, if_pos rfl, trivial⟩
    have ej : σ.comps[j]? = some co' := by rw [← Rp.ec, List.getElem?_map, hb]; rfl
    clear F2 Rp
    dsimp only [Function.comp]
    by_cases hj : j = i
    · subst hj
      rw [hi] at hb
      obtain ⟨rfl, rfl⟩ := Prod.mk.inj (Option.some.inj hb)
      have hin' : c ∈ co.names := by
        have := (List.getElem?_eq_some_iff.mp ej).2
        rw [this] at hin
        simpa using hin
      k_steps
      refine h _ _ (by assumption) (fun p hp => ?_)
      rename_i kN _
      exact kN p (List.mem_append_left _ hp)
    · have hlt : j < i := by omega
      have hno : ¬ c ∈ co'.names := by
        have := (List.getElem?_eq_some_iff.mp ej).2
        have hn := hnot j hlt
        rw [this] at hn
        simpa using hn
      k_steps
      exact inv_end (by assumption) (by assumption) hoff ⟨hm, rfl, by omega, rfl, rfl⟩
  · rintro m₁ nx h2 tk ⟨rfl, hj, _⟩ F2 N2
    exfalso
    have : i < q.cos.length := (List.getElem?_eq_some_iff.mp hi).1
    simp only [List.length_map] at hj
    omega
local macro_rules | `(tactic| walk_at "call ref") => `(tactic| (k_here; (with_reducible show wpAny _ _ (call (Value.ref 237) _ _) _ _ _); k_dflt (refine wpAny_call ?_; refine' c_company ?C ?F ?N ?R ?z ?v ?i ?f ?_; (case C => assumption); (case F => k_asm); (case N => k_asm); (case R => assumption); (case z => walk_at "M.sm"); (case v => walk_at "M.dat"); (case f => assumption); (case i => assumption); k_whole); intro _ _ _ _; (try k_sweep); try dsimp only))
def clt (c d : Cl) : Bool := decide (c.1 < d.1) || (decide (c.1 = d.1) && decide (c.2 < d.2))
theorem rc_lt {prog : Program} {w : World} {A : Around} {E : Value → Shared → Prop} {s : Shared} {a b : Int} {t u : Tok} {Q : Value → Shared → Prop} (h : Q (.bool (decide (a < b))) s) : wpAny (model prog w) A (richCompare .Lt (.int a t) (.int b u)) Q E s := wpAny_lt_int h
theorem tuple_lt2 (l b : Addr) (c d : Cl) (t1 t2 u1 u2 : Tok) (n k : Nat) :
    Meets (Builtin.«tuple.__lt__» ⟨[.ref l, .ref b], []⟩)
      (fun _ R s => s.heap.get? l = some { cls := .type "tuple", dict := none, data := .seq #[.int c.1 t1, .int c.2 t2] n, slots := #[] } ∧ s.heap.get? b = some { cls := .type "tuple", dict := none, data := .seq #[.int d.1 u1, .int d.2 u2] k, slots := #[] } ∧
        R (.ok (.ret (.bool (clt c d)))) s) :=
  .of_wp fun prog w A R s h => by
    obtain ⟨hp, g, dr, tk, os⟩ := s; obtain ⟨hl, hb, h⟩ := h
    have f2 := AutoSeq1.sub_tuple_tuple
    by_cases e1 : c.1 = d.1
    · have q1 : (c.1 == d.1) = true := by simpa using e1
      by_cases e2 : c.2 = d.2
      · have q2 : (c.2 == d.2) = true := by simpa using e2
        wp_walk using AutoSeq1.wpAny_loadPart' hl, AutoSeq1.wpAny_loadPart' hb, wpAny_eqBool_int, rc_lt
        have : clt c d = false := by simp [clt, e1, e2]
        rw [this] at h
        exact ⟨_, rfl, h⟩
      · have q2 : (c.2 == d.2) = false := by simpa using e2
        wp_walk using AutoSeq1.wpAny_loadPart' hl, AutoSeq1.wpAny_loadPart' hb, wpAny_eqBool_int, rc_lt
        have : clt c d = decide (c.2 < d.2) := by simp [clt, e1]
        rw [this] at h
        exact ⟨_, rfl, h⟩
    · have q1 : (c.1 == d.1) = false := by simpa using e1
      wp_walk using AutoSeq1.wpAny_loadPart' hl, AutoSeq1.wpAny_loadPart' hb, wpAny_eqBool_int, rc_lt
      have : clt c d = decide (c.1 < d.1) := by simp [clt, e1]
      rw [this] at h
      exact ⟨_, rfl, h⟩
def minL : List Cl → Cl
  | [] => (0, 0)
  | c :: r => r.foldl (fun b x => if clt x b = true then x else b) c
theorem minL_snoc {l : List Cl} {x : Cl} (h : l ≠ []) : minL (l ++ [x]) = if clt x (minL l) = true then x else minL l := by
  cases l with
  | nil => exact absurd rfl h
  | cons c r => simp only [minL, List.cons_append, List.foldl_append, List.foldl_cons, List.foldl_nil]; rfl
section
variable {w : World} {A : Around} {h₀ : Heap} {L l : Addr} {m : Str → Option Value} {news imm : List (Addr × Obj)} {s : Shared} {E : Value → Shared → Prop} {Q : Value → Shared → Prop} {R : Result → Shared → Prop} {cs : List Cl} {vs : List Value}
theorem rc_lt_cells {u v : Value} {c d : Cl} (N : News h₀ L s.heap news) (hs : Sub imm news) (hc : DatIn imm u (cd c)) (hd : DatIn imm v (cd d)) (hu : A.units < cLine) (h : Q (.bool (clt c d)) s) : wpAny (model PG w) A (richCompare .Lt u v) Q E s := by
  obtain ⟨a, t1, t2, n, rfl, ha⟩ := cell_in hc
  obtain ⟨b, u1, u2, k, rfl, hb⟩ := cell_in hd
  have oa := (N _ (hs _ ha)).1
  have ob := (N _ (hs _ hb)).1
  exact richCompare_meets_room (op := .Lt) ⟨_, oa, rfl⟩ ⟨_, ob, rfl⟩ PySem.F.slot_tuple_lt PySem.F.entry_tuple_lt (PySem.F.args_tuple_lt_2 _ _) (tuple_lt2 a b c d t1 t2 u1 u2 n k)
    ⟨oa, ob, show Value.bool (clt c d) ≠ Value.notImplemented ∧ Q (.bool (clt c d)) s from ⟨(fun x => nomatch x), h⟩⟩ hu
theorem min_loop {I S : Addr} {nn : Nat} (hh : A.handled = none) (hu : A.units + 1 < cLine) (N : News h₀ L s.heap news) (hs : Sub imm news) (hl : (l, W.listOf vs.toArray nn) ∈ news) (d : DatAll imm vs (cs.map cd)) (zI : s.heap.get? I = none) (zS : s.heap.get? S = none) (hSI : S ≠ I)
    (hR : ∀ v h' tk', DatIn imm v (cd (minL cs)) → (∀ b o, s.heap.get? b = some o → h'.get? b = some o) → R (.ok (.ret v)) { s with heap := h', toks := tk' }) :
    ∀ (r j : Nat) (h : Heap) (tk : Nat) (vb : Value) (b : Cl) (c : Nat), vs.length - (j + 1) = r → j + 1 ≤ vs.length → (∀ b o, s.heap.get? b = some o → h.get? b = some o) → h.IsListIter I l (j + 1) → DatIn imm vb (cd b) → b = minL (cs.take (j + 1)) →
      h.get? S = some (W.listOf #[vb, vb] c) → codeAny (model PG w) A (.builtin "min.loop" ⟨[.ref I, .none, .ref S], []⟩) R { s with heap := h, toks := tk } := by
  have hname : (toString "min" ++ toString ".loop" : String) = "min.loop" := by decide
  have hll : vs.length = cs.length := cells_len d
  have hlo := (N _ hl).1
  have hlI : l ≠ I := fun e => by rw [e, zI] at hlo; cases hlo
  have W := Walks.list (prog := PG) (w := w) (A := A.in1) hh I l hlI vs.toArray
  have hsz : vs.toArray.size = vs.length := List.size_toArray ..
  intro r
  induction r with
  | zero =>
    intro j h tk vb b c hr hj hk hit hvb hb hS
    have hin : j + 1 = vs.length := by omega
    refine codeAny_builtin PySem.F.entry_min_loop ?_
    rw [Around.under_plainId PySem.F.plain_min_loop _]
    show wpAny _ A.in1 (seqItems? (.ref S) >>= _) _ _ _
    refine wpAny_bind (wpAny_seqItems hS rfl ?_)
    show wpAny _ A.in1 (tryCatch (pyNext (.ref I)) _ >>= _) _ _ _
    refine wpAny_bind (wpAny_tryCatch (W.done _ _ _ ⟨by rw [hsz, ← hin]; exact hit, ⟨_, hk _ _ hlo, rfl, _, rfl⟩⟩ fun h' tk' hk' => ?_))
    have hS' := hk' S _ (by simpa using hSI) hS
    show wpAny _ A.in1 (updateSeq S (fun _ => #[]) >>= _) _ _ _
    refine wpAny_bind ?_
    refine wpAny_updateSeq hS' rfl (wpAny_bind (wpAny_letGo (wpAny_pure ?_)))
    refine hR vb _ _ ?_ fun b o e => ?_
    · have : cs.take (j + 1) = cs := List.take_of_length_le (by omega)
      rw [this] at hb
      rw [← hb]; exact hvb
    · have h1 : b ≠ S := fun q => by rw [q, zS] at e; cases e
      have h2 : b ≠ I := fun q => by rw [q, zI] at e; cases e
      exact (Heap.get?_update_other _ _ h1.symm).trans (hk' b o (by simpa using h2) (hk b o e))
  | succ r ih =>
    intro j h tk vb b c hr hj hk hit hvb hb hS
    have hlt : j + 1 < vs.length := by omega
    refine codeAny_builtin PySem.F.entry_min_loop ?_
    rw [Around.under_plainId PySem.F.plain_min_loop _]
    show wpAny _ A.in1 (seqItems? (.ref S) >>= _) _ _ _
    refine wpAny_bind (wpAny_seqItems hS rfl ?_)
    show wpAny _ A.in1 (tryCatch (pyNext (.ref I)) _ >>= _) _ _ _
    refine wpAny_bind (wpAny_tryCatch (W.item (j + 1) _ _ _ (by rw [hsz]; exact hlt) ⟨hit, ⟨_, hk _ _ hlo, rfl, _, rfl⟩⟩ fun v h' tk' hP hst' hk' => ?_))
    have hv : vs[j + 1]? = some v := by simpa using hP
    have hk2 : ∀ b o, s.heap.get? b = some o → h'.get? b = some o := fun b o e => hk' b o (by
      have h2 : b ≠ I := fun q => by rw [q, zI] at e; cases e
      simpa using h2) (hk b o e)
    have hS' := hk' S _ (by simpa using hSI) hS
    have hc : cs[j + 1]? = some (cs[j + 1]'(by omega)) := List.getElem?_eq_getElem (by omega)
    generalize cs[j + 1]'(by omega) = x at hc
    obtain ⟨v', hv', dx⟩ := cells_get d hc
    rw [hv] at hv'
    cases hv'
    have N' : News h₀ L h' news := N.grown hk2
    have ht : cs.take (j + 2) = cs.take (j + 1) ++ [x] := by rw [List.take_add_one, hc]; rfl
    have hne : cs.take (j + 1) ≠ [] := fun e => by
      have := congrArg List.length e
      rw [List.length_take, List.length_nil] at this
      omega
    show wpAny _ A.in1 (tryCatch (holding [v, v] (richCompare .Lt v vb >>= _)) _ >>= _) _ _ _
    refine wpAny_bind (wpAny_tryCatch (wpAny_holding (wpAny_bind (rc_lt_cells (A := A.in1) N' hs dx hvb hu ?_))))
    refine wpAny_bind (wpAny_holding (wpAny_truthy_bool ?_))
    refine wpAny_bind (wpAny_letGo (wpAny_pure ?_))
    cases hq : clt x b with
    | true =>
      simp only [if_true]
      refine wpAny_bind ?_
      refine wpAny_updateSeq hS' rfl (wpAny_bind (wpAny_letGo ?_))
      rw [hname]
      refine wpAny_pure ⟨plainId_quiet PySem.F.plain_min_loop _, ih (j + 1) _ _ v x _ (by omega) hlt (fun b o e => ?_) ?_ dx ?_ (Heap.get?_update_self _ hS' rfl)⟩
      · have h1 : b ≠ S := fun q => by rw [q, zS] at e; cases e
        exact (Heap.get?_update_other _ _ h1.symm).trans (hk2 b o e)
      · obtain ⟨oI, hoI, hoc, hod⟩ := hst'.1
        exact ⟨oI, (Heap.get?_update_other _ _ hSI).trans hoI, hoc, hod⟩
      · rw [ht, minL_snoc hne, ← hb, hq]; rfl
    | false =>
      simp only [Bool.false_eq_true, if_false]
      refine wpAny_bind (wpAny_letGo ?_)
      rw [hname]
      refine wpAny_pure ⟨plainId_quiet PySem.F.plain_min_loop _, ih (j + 1) _ _ vb b c (by omega) hlt hk2 hst'.1 hvb ?_ hS'⟩
      rw [ht, minL_snoc hne, ← hb, hq]; rfl
theorem min_cells {nn : Nat} (hh : A.handled = none) (hu : A.units + 64 < cLine) (F : Fr h₀ L s.heap m) (N : News h₀ L s.heap news) (hs : Sub imm news) (hl : (l, W.listOf vs.toArray nn) ∈ news) (d : DatAll imm vs (cs.map cd)) (hne : cs ≠ [])
    (hQ : ∀ a h' tk', DatIn imm (.ref a) (cd (minL cs)) → Fr h₀ L h' m → News h₀ L h' news → Q (.ref a) { s with heap := h', toks := tk' }) :
    wpAny (model PG w) A (call (.builtin "min") [.ref l]) Q E s := by
  have hname : (toString "min" ++ toString ".loop" : String) = "min.loop" := by decide
  have hll : vs.length = cs.length := cells_len d
  have hlo := (N _ hl).1
  have hls : s.heap.IsList l vs.toArray := ⟨_, hlo, rfl, _, rfl⟩
  have hpos : 0 < cs.length := List.length_pos_iff.mpr hne
  refine call_function_tree PySem.F.kind_min PySem.F.plain_min PySem.F.entry_min (PySem.F.args_min1 _) ?_
  show wpAny _ A.in1 (Builtin.Builtins.bindParams "min" ["key", "default"] 0 ⟨[], []⟩ >>= _) _ _ s
  refine wpAny_bind (wpAny_of_eq (show Builtin.Builtins.bindParams "min" ["key", "default"] 0 ⟨[], []⟩ = pure [none, none] from rfl) ?_)
  refine wpAny_bind (wpAny_pure ?_)
  refine wpAny_bind (wpAny_pyIter_list hls ?_)
  refine wpAny_bind (wpAny_newList ?_ (Nat.zero_le _))
  rw [hname]
  have gI : ((s.heap.push { cls := .type "list_iterator", data := .fields #[.ref l, .int 0 0] }).push { cls := .type "list", data := .seq #[] }).get? s.heap.objs.size = some { cls := .type "list_iterator", data := .fields #[.ref l, .int 0 0] } :=
    Heap.get?_push_of_some _ (Heap.get?_push_size _ rfl)
  have hS : (s.heap.push { cls := .type "list_iterator", data := .fields #[.ref l, .int 0 0] }).objs.size = s.heap.objs.size + 1 := Heap.size_push ..
  have gS : ((s.heap.push { cls := .type "list_iterator", data := .fields #[.ref l, .int 0 0] }).push { cls := .type "list", data := .seq #[] }).get? (s.heap.push { cls := .type "list_iterator", data := .fields #[.ref l, .int 0 0] }).objs.size = some { cls := .type "list", data := .seq #[] } := Heap.get?_push_size _ rfl
  have zI : s.heap.get? s.heap.objs.size = none := Heap.get?_none_of_le (Nat.le_refl _)
  have zS : s.heap.get? (s.heap.push { cls := .type "list_iterator", data := .fields #[.ref l, .int 0 0] }).objs.size = none := Heap.get?_none_of_le (by rw [hS]; exact Nat.le_succ _)
  have hSI : (s.heap.push { cls := .type "list_iterator", data := .fields #[.ref l, .int 0 0] }).objs.size ≠ s.heap.objs.size := by rw [hS]; exact Nat.ne_of_gt (Nat.lt_succ_self _)
  have kp0 : ∀ b o, s.heap.get? b = some o → ((s.heap.push { cls := .type "list_iterator", data := .fields #[.ref l, .int 0 0] }).push { cls := .type "list", data := .seq #[] }).get? b = some o := fun b o e => Heap.get?_push_of_some _ (Heap.get?_push_of_some _ e)
  generalize (s.heap.push { cls := .type "list_iterator", data := .fields #[.ref l, .int 0 0] }).objs.size = S at gS zS hSI
  generalize (s.heap.push { cls := .type "list_iterator", data := .fields #[.ref l, .int 0 0] }).push { cls := .type "list", data := .seq #[] } = H at gI gS kp0
  generalize hI : s.heap.objs.size = I at gI zI hSI
  refine wpAny_pure ⟨plainId_quiet PySem.F.plain_min_loop _, ?_⟩
  have hlI : l ≠ I := fun e => by rw [e, zI] at hlo; cases hlo
  have W := Walks.list (prog := PG) (w := w) (A := A.in1) hh I l hlI vs.toArray
  have hsz : vs.toArray.size = vs.length := List.size_toArray ..
  refine codeAny_builtin PySem.F.entry_min_loop ?_
  rw [Around.under_plainId PySem.F.plain_min_loop _]
  show wpAny _ A.in1 (seqItems? (.ref S) >>= _) _ _ _
  refine wpAny_bind (wpAny_seqItems gS rfl ?_)
  show wpAny _ A.in1 (tryCatch (pyNext (.ref I)) _ >>= _) _ _ _
  refine wpAny_bind (wpAny_tryCatch (W.item 0 _ _ _ (by rw [hsz]; omega) ⟨⟨_, gI, rfl, rfl⟩, ⟨_, kp0 _ _ hlo, rfl, _, rfl⟩⟩ fun v h' tk' hP hst' hk' => ?_))
  have hv : vs[0]? = some v := by simpa using hP
  have hk2 : ∀ b o, s.heap.get? b = some o → h'.get? b = some o := fun b o e => hk' b o (by
    have h2 : b ≠ I := fun q => by rw [q, zI] at e; cases e
    simpa using h2) (kp0 b o e)
  have hS' := hk' S _ (by simpa using hSI) gS
  have hc : cs[0]? = some (cs[0]'(by omega)) := List.getElem?_eq_getElem (by omega)
  generalize cs[0]'(by omega) = x at hc
  obtain ⟨v', hv', dx⟩ := cells_get d hc
  rw [hv] at hv'
  cases hv'
  show wpAny _ A.in1 (updateSeq S (fun _ => #[v, v]) >>= _) _ _ _
  refine wpAny_bind ?_
  refine wpAny_updateSeq hS' rfl ?_
  rw [hname]
  refine wpAny_pure ⟨plainId_quiet PySem.F.plain_min_loop _, min_loop (cs := cs) (vs := vs) (nn := nn) hh (by omega) N hs hl d zI zS hSI (fun v h2 tk2 hD hk3 => ?_) _ 0 _ _ v x _ rfl (by omega) (fun b o e => ?_) ?_ dx ?_ (Heap.get?_update_self _ hS' rfl)⟩
  · obtain ⟨a, _, _, _, rfl, _⟩ := cell_in hD
    exact hQ a h2 tk2 hD (F.keeps hk3) (N.grown hk3)
  · have h1 : b ≠ S := fun q => by rw [q, zS] at e; cases e
    exact (Heap.get?_update_other _ _ h1.symm).trans (hk2 b o e)
  · obtain ⟨oI, hoI, hoc, hod⟩ := hst'.1
    exact ⟨oI, (Heap.get?_update_other _ _ hSI).trans hoI, hoc, hod⟩
  · cases cs with
    | nil => simp at hc
    | cons c r => simp at hc; subst hc; rfl
end
section
variable {w : World} {A : Around} {h₀ : Heap} {m : Str → Option Value} {s : Shared} {E : Value → Shared → Prop}
theorem paired_eq : ∀ {l k : List Value}, Paired (fun a b => a = b) l k → l = k
  | _, _, .nil => rfl
  | _, _, .cons h r => by rw [h, paired_eq r]
theorem up_list {s₁ s₃ : Shared} {l : Addr} {o : Obj} (hk : ∀ b o', b ∉ [s₁.heap.objs.size] → (s₁.heap.push o).get? b = some o' → s₃.heap.get? b = some o') : ∀ b o', s₁.heap.get? b = some o' → s₃.heap.get? b = some o' :=
  fun b o' e => hk b o' (fun hm => by rw [List.mem_singleton] at hm; rw [hm] at e; exact Nat.lt_irrefl _ (Heap.lt_size e)) (Heap.get?_push_of_some _ e)
/-- a block that keeps items by a test that changes nothing -/
theorem filt_assign {iter t : Expr} {x y : Str} {pe px py : Pos} {scope : Scope} {cl : List (Str × Addr)} {pos spos : Pos} {env : Env} {Q : Flow → Shared → Prop} (p : Value → Bool) (hh : A.handled = none)
    (hsw : swapsWith (.ListComp (.Name x pe) [⟨.Name x px, iter, [t], 0⟩] scope pos) (some (.Name y py)) spos.line env = pure true)
    (hclos : closureFor scope env = pure cl) (hcell : ∀ z ∈ scope.names, z.2 ≠ .cell) (hkind : scope.kind = .function)
    (hnames : ∀ z ∈ scope.names, z.2 = .local → scope.names.lookup z.1 = some .local) (hx : scope.names.lookup x = some .local) (hxd : (x == ("__debug__" : Str)) = false)
    (hy : env.kindOf y = some .local) (hp : (env.scope.kind == .class || (env.scope.kind == .module && env.locals != env.globals)) = false) (hs : ∀ x, foldedSetIterable iter env x = pure x)
    (h : wpAny (model PG w) A (eval iter env) (fun xv s₁ => ∃ ax vs n news, xv = .ref ax ∧ Fr h₀ env.locals s₁.heap m ∧ News h₀ env.locals s₁.heap news ∧ (ax, W.listOf (List.toArray vs) n) ∈ news ∧ vs.length ≤ 20000 ∧
      (∀ C v s₂ m₂ E', v ∈ vs → s₂.heap.Ns C m₂ → m₂ x = some v → (∀ b o, s₁.heap.get? b = some o → s₂.heap.get? b = some o) →
        wpAny (model PG w) A (isTrue t (compEnvC scope cl C env) (eval t (compEnvC scope cl C env))) (fun ok s₃ => ok = p v ∧ Keeps s₂ s₃) E' s₂) ∧
      (∀ D n' h' tk, Fr h₀ env.locals h' (fun z => if z = y then some (.ref D) else m z) → News h₀ env.locals h' ((D, W.listOf (List.toArray (vs.filter p)) n') :: news) → (∀ q ∈ news, q.1 ≠ D) → Q .next { s₁ with heap := h', toks := tk })) E s) :
    wpAny (model PG w) A (exec (.Assign [.Name y py] (.ListComp (.Name x pe) [⟨.Name x px, iter, [t], 0⟩] scope pos) spos) env) Q E s := by
  refine wpAny_Assign_ListComp_free p (fun a b => a = b) hsw hclos hcell hkind hnames hx hy hp (wpAny_mono h (fun xv s₁ h₁ => ?_) fun _ _ e => e) hs
  obtain ⟨ax, vs, n, news, rfl, F, N, hm, hz, ht, hQ⟩ := h₁
  have hl : s₁.heap.IsList ax vs.toArray := ⟨_, (N _ hm).1, rfl, _, rfl⟩
  have hlt : ax < s₁.heap.objs.size := Heap.lt_size (N _ hm).1
  refine wpAny_pyIter_list hl ⟨s₁.heap.objs.size, [s₁.heap.objs.size, ax], [s₁.heap.objs.size], vs.toArray.size, _, _, m, rfl, Walks.list hh _ _ (Nat.ne_of_lt hlt) vs.toArray, (by rw [List.size_toArray, sizeLine_eq]; omega), ⟨⟨_, Heap.get?_push_size _ rfl, rfl, rfl⟩, hl.push _⟩, ?_, ?_, F.ns.push _, ⟨?_, ?_⟩, ?_⟩
  · intro b hb
    show b < (s₁.heap.push _).objs.size
    rw [Heap.size_push]
    simp only [List.mem_cons, List.not_mem_nil, or_false] at hb
    rcases hb with rfl | rfl
    · exact Nat.lt_succ_self _
    · exact Nat.lt_succ_of_lt hlt
  · intro hm'
    rw [List.mem_singleton] at hm'
    have := F.ns.lt
    rw [hm'] at this
    exact Nat.lt_irrefl _ this
  · intro C i v s₃ m₃ E' _ hP hn hm₃ hk _
    refine wpAny_tests_one ?_
    exact ht C v s₃ m₃ E' (by have : vs[i]? = some v := by simpa using hP
                              exact List.mem_of_getElem? this) hn hm₃ (up_list (l := ax) hk)
  · intro C i v s₃ m₃ E' _ hP hp' hn hm₃ hk _
    exact ldVarK hn hm₃ ⟨rfl, _, _, rfl, fun _ _ e => e⟩ (by simp [compEnvC, relabel, hkind]) (lookup_relabel_local hx) hxd
  · intro D h' tk ys vs' hnew hlD hplD hlen hP hF hn' hk
    have e : vs' = vs := by simpa using list_of_places hlen hP
    subst e
    have e2 := paired_eq hF
    obtain ⟨n', hD⟩ := hplD
    have keep : ∀ b o, b ≠ env.locals → s₁.heap.get? b = some o → h'.get? b = some o := fun b o hb e =>
      hk b o hb (fun hm => by rw [List.mem_singleton] at hm; rw [hm] at e; exact Nat.lt_irrefl _ (Heap.lt_size e)) (Heap.get?_push_of_some _ e)
    have hDn : s₁.heap.get? D = none := by
      cases e : s₁.heap.get? D with
      | none => rfl
      | some o' => rw [Heap.get?_push_of_some _ e] at hnew; cases hnew
    have hD0 : h₀.get? D = none := by
      cases e : h₀.get? D with
      | none => rfl
      | some o' => rw [F.keep _ _ e] at hDn; cases hDn
    refine hQ D n' h' tk ⟨hn', fun b o e => keep b o (Nat.ne_of_lt (Nat.lt_of_lt_of_le (Heap.lt_size e) F.above)) (F.keep b o e), F.above⟩ (fun q hq => ?_) fun q hq e => ?_
    · rcases List.mem_cons.mp hq with rfl | hq
      · refine ⟨?_, fun e => ?_, hD0⟩
        · rw [hD, e2]
        · obtain ⟨oL, _, _, hL, _⟩ := F.ns
          have e' : D = env.locals := e
          rw [e', hL] at hDn
          cases hDn
      · exact ⟨keep _ _ (N q hq).2.1 (N q hq).1, (N q hq).2⟩
    · have := (N q hq).1
      rw [e, hDn] at this
      cases this
theorem filt_eval {iter t : Expr} {x : Str} {pe px : Pos} {scope : Scope} {cl : List (Str × Addr)} {pos : Pos} {env : Env} {L : Addr} {Q : Value → Shared → Prop} (p : Value → Bool) (hh : A.handled = none)
    (hclos : closureFor scope env = pure cl) (hcell : ∀ z ∈ scope.names, z.2 ≠ .cell) (hkind : scope.kind = .function)
    (hnames : ∀ z ∈ scope.names, z.2 = .local → scope.names.lookup z.1 = some .local) (hx : scope.names.lookup x = some .local) (hxd : (x == ("__debug__" : Str)) = false)
    (hs : ∀ x, foldedSetIterable iter env x = pure x)
    (h : wpAny (model PG w) A (eval iter env) (fun xv s₁ => ∃ ax vs n news, xv = .ref ax ∧ Fr h₀ L s₁.heap m ∧ News h₀ L s₁.heap news ∧ (ax, W.listOf (List.toArray vs) n) ∈ news ∧ vs.length ≤ 20000 ∧
      (∀ C v s₂ m₂ E', v ∈ vs → s₂.heap.Ns C m₂ → m₂ x = some v → (∀ b o, s₁.heap.get? b = some o → s₂.heap.get? b = some o) →
        wpAny (model PG w) A (isTrue t (compEnvC scope cl C env) (eval t (compEnvC scope cl C env))) (fun ok s₃ => ok = p v ∧ Keeps s₂ s₃) E' s₂) ∧
      (∀ D n' h' tk, Fr h₀ L h' m → News h₀ L h' ((D, W.listOf (List.toArray (vs.filter p)) n') :: news) → (∀ q ∈ news, q.1 ≠ D) → Q (.ref D) { s₁ with heap := h', toks := tk })) E s) :
    wpAny (model PG w) A (eval (.ListComp (.Name x pe) [⟨.Name x px, iter, [t], 0⟩] scope pos) env) Q E s := by
  refine wpAny_ListComp_free p (fun a b => a = b) hclos hcell hkind hnames hx (wpAny_mono h (fun xv s₁ h₁ => ?_) fun _ _ e => e) hs
  obtain ⟨ax, vs, n, news, rfl, F, N, hm, hz, ht, hQ⟩ := h₁
  have hl : s₁.heap.IsList ax vs.toArray := ⟨_, (N _ hm).1, rfl, _, rfl⟩
  have hlt : ax < s₁.heap.objs.size := Heap.lt_size (N _ hm).1
  refine wpAny_pyIter_list hl ⟨s₁.heap.objs.size, [s₁.heap.objs.size, ax], [s₁.heap.objs.size], vs.toArray.size, _, _, rfl, Walks.list hh _ _ (Nat.ne_of_lt hlt) vs.toArray, (by rw [List.size_toArray, sizeLine_eq]; omega), ⟨⟨_, Heap.get?_push_size _ rfl, rfl, rfl⟩, hl.push _⟩, ?_, ⟨?_, ?_⟩, ?_⟩
  · intro b hb
    show b < (s₁.heap.push _).objs.size
    rw [Heap.size_push]
    simp only [List.mem_cons, List.not_mem_nil, or_false] at hb
    rcases hb with rfl | rfl
    · exact Nat.lt_succ_self _
    · exact Nat.lt_succ_of_lt hlt
  · intro C i v s₃ m₃ E' _ hP hn hm₃ hk _
    refine wpAny_tests_one ?_
    exact ht C v s₃ m₃ E' (by have : vs[i]? = some v := by simpa using hP
                              exact List.mem_of_getElem? this) hn hm₃ (up_list (l := ax) hk)
  · intro C i v s₃ m₃ E' _ hP hp' hn hm₃ hk _
    exact ldVarK hn hm₃ ⟨rfl, _, _, rfl, fun _ _ e => e⟩ (by simp [compEnvC, relabel, hkind]) (lookup_relabel_local hx) hxd
  · intro D h' tk ys vs' hnew hlD hplD hlen hP hF hk
    have e : vs' = vs := by simpa using list_of_places hlen hP
    subst e
    have e2 := paired_eq hF
    obtain ⟨n', hD⟩ := hplD
    have keep : ∀ b o, s₁.heap.get? b = some o → h'.get? b = some o := fun b o e =>
      hk b o (fun hm => by rw [List.mem_singleton] at hm; rw [hm] at e; exact Nat.lt_irrefl _ (Heap.lt_size e)) (Heap.get?_push_of_some _ e)
    have hDn : s₁.heap.get? D = none := by
      cases e : s₁.heap.get? D with
      | none => rfl
      | some o' => rw [Heap.get?_push_of_some _ e] at hnew; cases hnew
    have hD0 : h₀.get? D = none := by
      cases e : h₀.get? D with
      | none => rfl
      | some o' => rw [F.keep _ _ e] at hDn; cases hDn
    refine hQ D n' h' tk (F.keeps keep) (fun q hq => ?_) fun q hq e => ?_
    · rcases List.mem_cons.mp hq with rfl | hq
      · refine ⟨?_, fun e => ?_, hD0⟩
        · rw [hD, e2]
        · obtain ⟨oL, _, _, hL, _⟩ := F.ns
          have e' : D = L := e
          rw [e', hL] at hDn
          cases hDn
      · exact ⟨keep _ _ (N q hq).1, (N q hq).2⟩
    · have := (N q hq).1
      rw [e, hDn] at this
      cases this
end
def FMark (_ : Value → Bool) : Prop := True
def FiltA (w : World) (A : Around) (h₀ : Heap) (m : Str → Option Value) (t : PySem.Expr) (x y : Str) (scope : Scope) (cl : List (Str × Addr)) (env : Env) (p : Value → Bool) (Q : Flow → Shared → Prop) (xv : Value) (s₁ : Shared) : Prop :=
  ∃ ax vs n news, xv = .ref ax ∧ Fr h₀ env.locals s₁.heap m ∧ News h₀ env.locals s₁.heap news ∧ (ax, W.listOf (List.toArray vs) n) ∈ news ∧ vs.length ≤ 20000 ∧
      (∀ C v s₂ m₂ E', v ∈ vs → s₂.heap.Ns C m₂ → m₂ x = some v → (∀ b o, s₁.heap.get? b = some o → s₂.heap.get? b = some o) →
        wpAny (model PG w) A (isTrue t (compEnvC scope cl C env) (eval t (compEnvC scope cl C env))) (fun ok s₃ => ok = p v ∧ Keeps s₂ s₃) E' s₂) ∧
      (∀ D n' h' tk, Fr h₀ env.locals h' (fun z => if z = y then some (.ref D) else m z) → News h₀ env.locals h' ((D, W.listOf (List.toArray (vs.filter p)) n') :: news) → (∀ q ∈ news, q.1 ≠ D) → Q .next { s₁ with heap := h', toks := tk })
def FiltE (w : World) (A : Around) (h₀ : Heap) (L : Addr) (m : Str → Option Value) (t : PySem.Expr) (x : Str) (scope : Scope) (cl : List (Str × Addr)) (env : Env) (p : Value → Bool) (Q : Value → Shared → Prop) (xv : Value) (s₁ : Shared) : Prop :=
  ∃ ax vs n news, xv = .ref ax ∧ Fr h₀ L s₁.heap m ∧ News h₀ L s₁.heap news ∧ (ax, W.listOf (List.toArray vs) n) ∈ news ∧ vs.length ≤ 20000 ∧
      (∀ C v s₂ m₂ E', v ∈ vs → s₂.heap.Ns C m₂ → m₂ x = some v → (∀ b o, s₁.heap.get? b = some o → s₂.heap.get? b = some o) →
        wpAny (model PG w) A (isTrue t (compEnvC scope cl C env) (eval t (compEnvC scope cl C env))) (fun ok s₃ => ok = p v ∧ Keeps s₂ s₃) E' s₂) ∧
      (∀ D n' h' tk, Fr h₀ L h' m → News h₀ L h' ((D, W.listOf (List.toArray (vs.filter p)) n') :: news) → (∀ q ∈ news, q.1 ≠ D) → Q (.ref D) { s₁ with heap := h', toks := tk })
section
variable {w : World} {A : Around} {h₀ : Heap} {m : Str → Option Value} {s : Shared} {E : Value → Shared → Prop}
theorem filtA_mark {iter t : PySem.Expr} {x y : Str} {pe px py : Pos} {scope : Scope} {cl : List (Str × Addr)} {pos spos : Pos} {env : Env} {Q : Flow → Shared → Prop} {p : Value → Bool} (_ : FMark p) (_F : Fr h₀ env.locals s.heap m) (hh : A.handled = none)
    (hsw : swapsWith (.ListComp (.Name x pe) [⟨.Name x px, iter, [t], 0⟩] scope pos) (some (.Name y py)) spos.line env = pure true)
    (hclos : closureFor scope env = pure cl) (hcell : ∀ z ∈ scope.names, z.2 ≠ .cell) (hkind : scope.kind = .function)
    (hnames : ∀ z ∈ scope.names, z.2 = .local → scope.names.lookup z.1 = some .local) (hx : scope.names.lookup x = some .local) (hxd : (x == ("__debug__" : Str)) = false)
    (hy : env.kindOf y = some .local) (hp : (env.scope.kind == .class || (env.scope.kind == .module && env.locals != env.globals)) = false) (hs : ∀ x, foldedSetIterable iter env x = pure x)
    (h : wpAny (model PG w) A (eval iter env) (FiltA w A h₀ m t x y scope cl env p Q) E s) :
    wpAny (model PG w) A (exec (.Assign [.Name y py] (.ListComp (.Name x pe) [⟨.Name x px, iter, [t], 0⟩] scope pos) spos) env) Q E s := filt_assign p hh hsw hclos hcell hkind hnames hx hxd hy hp hs h
theorem filtE_mark {iter t : PySem.Expr} {x : Str} {pe px : Pos} {scope : Scope} {cl : List (Str × Addr)} {pos : Pos} {env : Env} {L : Addr} {Q : Value → Shared → Prop} {p : Value → Bool} (_ : FMark p) (_F : Fr h₀ L s.heap m) (hh : A.handled = none)
    (hclos : closureFor scope env = pure cl) (hcell : ∀ z ∈ scope.names, z.2 ≠ .cell) (hkind : scope.kind = .function)
    (hnames : ∀ z ∈ scope.names, z.2 = .local → scope.names.lookup z.1 = some .local) (hx : scope.names.lookup x = some .local) (hxd : (x == ("__debug__" : Str)) = false)
    (hs : ∀ x, foldedSetIterable iter env x = pure x)
    (h : wpAny (model PG w) A (eval iter env) (FiltE w A h₀ L m t x scope cl env p Q) E s) :
    wpAny (model PG w) A (eval (.ListComp (.Name x pe) [⟨.Name x px, iter, [t], 0⟩] scope pos) env) Q E s := filt_eval p hh hclos hcell hkind hnames hx hxd hs h
end
theorem cell_uniq {imm : List (Addr × Obj)} {h₀ h : Heap} {L : Addr} {news : List (Addr × Obj)} (N : News h₀ L h news) (hs : Sub imm news) {v : Value} {c d : Cl} (h1 : DatIn imm v (cd c)) (h2 : DatIn imm v (cd d)) : c = d := by
  obtain ⟨a, t1, t2, n, rfl, ha⟩ := cell_in h1
  obtain ⟨b, u1, u2, k, e, hb⟩ := cell_in h2
  cases e
  have e1 := (N _ (hs _ ha)).1
  have e2 := (N _ (hs _ hb)).1
  rw [e1] at e2
  have e3 := congrArg (fun o => o.data) (Option.some.inj e2)
  simp only [Data.seq.injEq] at e3
  have e4 := e3.1
  simp at e4
  exact Prod.ext e4.1.1 e4.2.1
open Classical in
/-- the values that bear a cell of the heap -/
noncomputable def heapV (imm : List (Addr × Obj)) (v : Value) : Bool := decide (∃ c : Cl, DatIn imm v (cd c) ∧ c.1 = 0)
open Classical in
theorem heapV_eq {imm : List (Addr × Obj)} {h₀ h : Heap} {L : Addr} {news : List (Addr × Obj)} (N : News h₀ L h news) (hs : Sub imm news) {v : Value} {c : Cl} (h1 : DatIn imm v (cd c)) : heapV imm v = @decide (c.1 = 0) (Int.instDecidableEq _ _) := by
  unfold heapV
  by_cases e : c.1 = 0
  · have e' : @decide (c.1 = 0) (Int.instDecidableEq _ _) = true := decide_eq_true e
    rw [e']
    exact decide_eq_true ⟨c, h1, e⟩
  · have e' : @decide (c.1 = 0) (Int.instDecidableEq _ _) = false := decide_eq_false e
    rw [e']
    exact decide_eq_false fun ⟨d, h2, e2⟩ => e (by rw [cell_uniq N hs h1 h2]; exact e2)
theorem heapV_all {imm : List (Addr × Obj)} {h₀ h : Heap} {L : Addr} {news : List (Addr × Obj)} (N : News h₀ L h news) (hs : Sub imm news) : ∀ {vs : List Value} {cs : List Cl}, DatAll imm vs (cs.map cd) → DatAll imm (vs.filter (heapV imm)) ((cs.filter fun c => decide (c.1 = 0)).map cd)
  | _, [], .nil => .nil
  | _, c :: cs, .cons h1 r => by
    have ih := heapV_all N hs r
    have q := heapV_eq N hs h1
    rw [List.filter_cons, List.filter_cons, q]
    by_cases e : c.1 = 0
    · simp only [e, decide_true, if_true]
      exact .cons h1 ih
    · simp only [e, decide_false, Bool.false_eq_true, if_false]
      exact ih
theorem RS.newI {w : World} {news imm kp : List (Addr × Obj)} {g : Gh} {q : Vg} {σ : St} {a : Addr} {o : Obj} (R : RS w news imm kp g q σ) (hf : ∀ p ∈ news, p.1 ≠ a) : RS w ((a, o) :: news) ((a, o) :: imm) kp g q σ := ⟨R.rep.allocI hf, R.ec⟩
theorem sub_cons {p : Addr × Obj} {l : List (Addr × Obj)} : Sub l (p :: l) := fun _ h => .tail _ h
theorem min_list {w : World} {A : Around} {h₀ : Heap} {L l : Addr} {m : Str → Option Value} {news imm kp : List (Addr × Obj)} {g : Gh} {q : Vg} {σ : St} {s : Shared} {E : Value → Shared → Prop} {Q : Value → Shared → Prop} {cs : List Cl}
    (hh : A.handled = none) (hu : A.units + 64 < cLine) (F : Fr h₀ L s.heap m) (N : News h₀ L s.heap news) (R : RS w news imm kp g q σ) (d : DatIn imm (.ref l) (.list (cs.map cd))) (hne : cs ≠ [])
    (hQ : ∀ a h' tk', DatIn imm (.ref a) (cd (minL cs)) → Fr h₀ L h' m → News h₀ L h' news → Q (.ref a) { s with heap := h', toks := tk' }) :
    wpAny (model PG w) A (call (.builtin "min") [.ref l]) Q E s := by
  obtain ⟨vs, n, ml, dv⟩ := list_in d
  exact min_cells hh hu F N R.rep.immn (R.rep.immn _ ml) dv hne hQ
local macro_rules | `(tactic| walk_at "exec Assign cons ListComp") => `(tactic| (k_here; k_dflt (refine filtA_mark (by assumption) (by k_asm) (by assumption) (by with_unfolding_all rfl) (by with_unfolding_all rfl) (by decide) (by rfl) (by decide) (by rfl) (by decide) (by rfl) (by rfl) (by intro _; rfl) ?_)))
local macro_rules | `(tactic| walk_at "eval ListComp") => `(tactic| (k_here; k_dflt (refine filtE_mark (by assumption) (by k_asm) (by assumption) (by with_unfolding_all rfl) (by decide) (by rfl) (by decide) (by rfl) (by decide) (by intro _; rfl) ?_)))
local macro_rules | `(tactic| walk_at "eval Name") => `(tactic| ((with_reducible show wpAny _ _ (eval (Expr.Name _ _) (compEnvC _ _ _ _)) _ _ _); k_dflt (first | (refine ldVarK (by assumption) (by assumption) ?_ (by rfl) (by rfl) (by decide)) | (refine LCgL.ld_global (by k_asm) (by k_asm) (by k_asm) (by k_is) ?_))))
local macro_rules | `(tactic| walk_at "call builtin:min") => `(tactic| (k_here; k_dflt (refine min_list (by assumption) (by assumption) (by k_asm) (by k_asm) (by assumption) (by walk_at "M.dat") (by assumption) ?_); intro _ _ _ _ _ _; (try k_sweep); try dsimp only))
def oldestS (ns : List Cl) : Cl := if ns.filter (fun c => decide (c.1 = 0)) = [] then minL ns else minL (ns.filter fun c => decide (c.1 = 0))
theorem c_oldest {R : Result → Shared → Prop} {a : Addr} {co : Co}
    (C : Cx w A₀ A base h₀ env outer L mean mg mb (k + 1)) (F : Fr h₀ L s.heap m) (N : News h₀ L s.heap news) (Rp : RS w news imm kp g q σ) (hz : Sm σ) (hc : (a, co) ∈ q.cos) (hne : co.names ≠ []) (hcz : co.names.length ≤ 20000)
    (h : ∀ a' h' tk news' imm', Fr h₀ L h' m → News h₀ L h' news' → RS w news' imm' kp g q σ → Sub news news' → Sub imm imm' → DatIn imm' (.ref a') (cd (oldestS co.names)) → R (.ok (.ret (.ref a'))) { s with heap := h', toks := tk }) :
    codeAny (model PG w) A (.call (.ref 242) ⟨[.ref a], []⟩) R s := by
  have X₀ := C.X
  k_enter
  intro g1 L1 h1 FG F1 N1 C1
  have B1 := C1.B; have X1 := C1.X; have T1 := C1.T; have hA1 := C1.hA; have hh1 := C1.hh; have hu1 := units_of C1.hunit
  try dsimp only
  try k_fold
  try clear N
  clear F
  have mk : FMark (heapV imm) := trivial
  k_steps
  rename_i l dl
  obtain ⟨vs, n, ml, dv⟩ := list_in dl
  have hlen : vs.length = co.names.length := cells_len dv
  refine ⟨l, vs, n, news, rfl, F1, N1, Rp.rep.immn _ ml, by omega, ?_, ?_⟩
  · intro C v s₂ m₂ E' hv hns hm₂ hk
    obtain ⟨i, hi⟩ := List.getElem?_of_mem hv
    obtain ⟨c, hcc, dc⟩ : ∃ c, co.names[i]? = some c ∧ DatIn imm v (cd c) := by
      have hl : i < co.names.length := by rw [← hlen]; exact (List.getElem?_eq_some_iff.mp hi).1
      obtain ⟨v', h1, h2⟩ := cells_get dv (List.getElem?_eq_getElem hl)
      rw [hi] at h1
      cases h1
      exact ⟨_, List.getElem?_eq_getElem hl, h2⟩
    rw [heapV_eq N1 Rp.rep.immn dc]
    have N2 := N1.grown hk
    have F2 := F1.keeps hk
    obtain ⟨a2, t1, t2, n2, rfl, _⟩ := cell_in dc
    clear N1 F1
    k_steps
    exact ⟨_, _, rfl, fun _ _ e => e⟩
  · intro D n' h' tk F2 N2 hD
    have R2 := Rp.newI (o := W.listOf (List.toArray (vs.filter (heapV imm))) n') hD
    have hs2 : Sub imm ((D, W.listOf (List.toArray (vs.filter (heapV imm))) n') :: imm) := sub_cons
    have dD : DatIn ((D, W.listOf (List.toArray (vs.filter (heapV imm))) n') :: imm) (.ref D) (.list ((co.names.filter fun c => decide (c.1 = 0)).map cd)) := .list (.head _) ((heapV_all N1 Rp.rep.immn dv).mono sub_cons)
    have hsn : Sub news ((D, W.listOf (List.toArray (vs.filter (heapV imm))) n') :: news) := sub_cons
    clear Rp N1
    generalize (D, W.listOf (List.toArray (vs.filter (heapV imm))) n') :: imm = imm2 at R2 hs2 dD
    generalize (D, W.listOf (List.toArray (vs.filter (heapV imm))) n') :: news = news2 at R2 hsn N2
    unfold oldestS at h
    by_cases e : co.names.filter (fun c => decide (c.1 = 0)) = []
    · rw [if_pos e] at h
      k_steps
      exact h _ _ _ _ _ (by assumption) (by assumption) (by assumption) (by walk_at "M.sub") (by walk_at "M.sub") (by walk_at "M.dat")
    · rw [if_neg e] at h
      k_steps
      exact h _ _ _ _ _ (by assumption) (by assumption) (by assumption) (by walk_at "M.sub") (by walk_at "M.sub") (by walk_at "M.dat")
local macro_rules | `(tactic| walk_at "call ref") => `(tactic| (k_here; (with_reducible show wpAny _ _ (call (Value.ref 242) _ _) _ _ _); k_dflt (refine wpAny_call (c_oldest (by assumption) (by k_asm) (by k_asm) (by assumption) (by walk_at "M.sm") (by walk_at "M.co") (by assumption) (by walk_at "M.rng") ?_); k_whole); walk_at "M.end"))
def endS (co : Co) : Cl := match co.worth with
  | some i => (5, i)
  | none => oldestS co.names
theorem c_end {R : Result → Shared → Prop} {a : Addr} {co : Co}
    (C : Cx w A₀ A base h₀ env outer L mean mg mb (k + 2)) (F : Fr h₀ L s.heap m) (N : News h₀ L s.heap news) (Rp : RS w news imm kp g q σ) (hz : Sm σ) (hc : (a, co) ∈ q.cos) (hne : co.names ≠ []) (hcz : co.names.length ≤ 20000)
    (h : ∀ a' h' tk news' imm', Fr h₀ L h' m → News h₀ L h' news' → RS w news' imm' kp g q σ → Sub news news' → Sub imm imm' → DatIn imm' (.ref a') (cd (endS co)) → R (.ok (.ret (.ref a'))) { s with heap := h', toks := tk }) :
    codeAny (model PG w) A (.call (.ref 249) ⟨[.ref a], []⟩) R s := by
  unfold endS at h
  cases hw : co.worth with
  | some i =>
    rw [hw] at h
    have X₀ := C.X
    k_enter
    intro g1 L1 h1 FG F1 N1 C1
    have B1 := C1.B; have X1 := C1.X; have T1 := C1.T; have hA1 := C1.hA; have hh1 := C1.hh; have hu1 := units_of C1.hunit
    try dsimp only
    try k_fold
    try clear N
    clear F
    k_steps
    exact h _ _ _ _ _ (by assumption) (by assumption) (by assumption) (by walk_at "M.sub") (by walk_at "M.sub") (by walk_at "M.dat")
  | none =>
    rw [hw] at h
    have X₀ := C.X
    k_enter
    intro g1 L1 h1 FG F1 N1 C1
    have B1 := C1.B; have X1 := C1.X; have T1 := C1.T; have hA1 := C1.hA; have hh1 := C1.hh; have hu1 := units_of C1.hunit
    try dsimp only
    try k_fold
    try clear N
    clear F
    k_steps
    exact h _ _ _ _ _ (by assumption) (by assumption) (by assumption) (by walk_at "M.sub") (by walk_at "M.sub") (by walk_at "M.dat")
local macro_rules | `(tactic| walk_at "call ref") => `(tactic| (k_here; (with_reducible show wpAny _ _ (call (Value.ref 249) _ _) _ _ _); k_dflt (refine wpAny_call (c_end (by assumption) (by k_asm) (by k_asm) (by assumption) (by walk_at "M.sm") (by walk_at "M.co") (by assumption) (by walk_at "M.rng") ?_); k_whole); walk_at "M.end"))
def asSt (g : Gh) (q : Vg) (σ : St) : List (Addr × As) :=
  (g.x, .inst g.dx) :: (g.dx, .cdict g.aH q.aK g.aR σ.hb σ.bb) :: (g.aH, .cells σ.heap) :: (q.aK, .cells σ.stack) :: (g.aR, .ints σ.trail) :: (g.aW, .world q.aC q.aN g.aX σ.wtr) :: (q.aC, .refs (q.cos.map (·.1))) :: (q.aN, .cells σ.names) ::
    (g.aX, .chs q.lbs σ.past) :: (cosAs q.cos ++ savAs q.sav)
theorem asOf_split (g : Gh) (q : Vg) (σ : St) (kp : List (Addr × Obj)) : asOf g q σ kp = asSt g q σ ++ kpAs kp := by simp [asOf, asSt, List.append_assoc]
structure RSn (w : World) (news imm kp : List (Addr × Obj)) (g : Gh) (q : Vg) (σ : St) (d : Addr) (x : As) : Prop where
  rep : Rep w news imm ((d, x) :: asOf g q σ kp)
  ec : q.cos.map (·.2) = σ.comps
section
variable {w : World} {A : Around} {h₀ : Heap} {L d l : Addr} {m : Str → Option Value} {news imm kp : List (Addr × Obj)} {g : Gh} {q : Vg} {σ : St} {s : Shared} {E : Value → Shared → Prop} {Q : Value → Shared → Prop} {QU : Unit → Shared → Prop} {o : Obj} {cs : List Cl} {co : Co} {x : As}
theorem RSn.rs (R : RSn w news imm kp g q σ d x) : RS w news imm kp g q σ := ⟨R.rep.drop1 (pre := []), R.ec⟩
theorem kp_in {x : As} (R : Rep w news imm ((d, x) :: asOf g q σ kp)) : Rep w news imm (asSt g q σ ++ (d, x) :: kpAs kp) := by
  rw [asOf_split] at R
  exact R.perm List.perm_middle
theorem kp_out {x : As} (R : Rep w news imm (asSt g q σ ++ (d, x) :: kpAs kp)) : Rep w news imm ((d, x) :: asOf g q σ kp) := by
  rw [asOf_split]
  exact R.perm List.perm_middle.symm
theorem RS.newK (R : RS w news imm kp g q σ) (hf : ∀ p ∈ news, p.1 ≠ d) : RS w ((d, o) :: news) imm ((d, o) :: kp) g q σ := ⟨by
  rw [asOf_split]
  exact kp_in (R.rep.allocM (x := .raw o) hf rfl), R.ec⟩
theorem RS.kpSet (R : RS w news imm ((d, o) :: kp) g q σ) {o' : Obj} (h : sem w imm x o') : RSn w (put d o' news) imm kp g q σ d x := by
  have R0 := R.rep
  rw [asOf_split] at R0
  exact ⟨kp_out (Rep.upd (pre := asSt g q σ) (post := kpAs kp) R0 h), R.ec⟩
theorem RS.kpDrop (R : RS w news imm ((d, o) :: kp) g q σ) : RS w news imm kp g q σ := by
  have R0 := R.rep
  rw [asOf_split] at R0
  have := Rep.drop1 (pre := asSt g q σ) (post := kpAs kp) R0
  rw [← asOf_split] at this
  exact ⟨this, R.ec⟩
/-- a dict's display of two texts -/
theorem dict_new {keys : List (Option PySem.Expr)} {values : List PySem.Expr} {pos : Pos} {env : Env} (F : Fr h₀ L s.heap m) (N : News h₀ L s.heap news) (R : RS w news imm kp g q σ) (hbig : h₀.NoLimit)
    (hall : keys.all (·.isSome) = true) (hl : keys.length = values.length) (h0 : keys ≠ []) (hlen : keys.length ≤ 15)
    (h : ∀ (d : Addr) h' o, Fr h₀ L h' m → News h₀ L h' ((d, o) :: news) → RS w ((d, o) :: news) imm ((d, o) :: kp) g q σ → o.IsDictOf (PySem.strKind PG w) [] →
      wpAny (model PG w) A (evalPairs (pairTrees keys values env pos)) (fun vs s₁ => KdnMade PG w (PySem.strKind PG w) d Q vs s₁) E { s with heap := h' }) :
    wpAny (model PG w) A (eval (.Dict keys values pos) env) Q E s :=
  kdn_eval F N hbig hall hl h0 hlen fun d h' o F' N' hlt _ hd => h d h' o F' N' (R.newK fun p hp => Nat.ne_of_lt (hlt p hp)) hd
theorem co_new {t u : Tok} {wv : Value} {wo : Option Int} (F : Fr h₀ L s.heap m) (N : News h₀ L s.heap news) (R : RS w news imm ((d, o) :: kp) g q σ) (hd : o.IsDictOf (PySem.strKind PG w) []) (dl : DatIn imm (.ref l) (.list (cs.map cd))) (dw : DatIn imm wv (wd wo))
    (h : ∀ h' news', Fr h₀ L h' m → News h₀ L h' news' → RSn w news' imm kp g q σ d (.co ⟨cs, wo⟩) → Q (.ref d) { s with heap := h', toks := s.toks + 2 }) :
    KdnMade PG w (PySem.strKind PG w) d Q [(.str (Str.ofString "names") t, .ref l), (.str (Str.ofString "worth") u, wv)] s :=
  kdn_made_str F (focus N (R.oKp (.head _))) (UpdF.head off_ne) hd rfl (of_decide_eq_true (by kernel_rfl!)) fun h' o' F' N' hd' => h h' (put d o' news) F' N' (R.kpSet ⟨l, wv, hd', dl, dw⟩)
theorem push_comp (F : Fr h₀ L s.heap m) (N : News h₀ L s.heap news) (R : RSn w news imm kp g q σ d (.co co)) (hz : σ.comps.length ≤ 20000)
    (h : ∀ h' news' q', q' = { q with cos := q.cos ++ [(d, co)] } → Fr h₀ L h' m → News h₀ L h' news' → RS w news' imm kp g q' { σ with comps := σ.comps ++ [co] } → Q .none { s with heap := h' }) :
    wpAny (model PG w) A (call (.builtin "list.append") [.ref q.aC, .ref d]) Q E s := by
  have hl : q.cos.length = σ.comps.length := by rw [← R.ec, List.length_map]
  refine refs_append (pre := [_, _, _, _, _, _, _]) F N R.rep (by rw [List.length_map]; omega) fun h' n' F' N' R' => h h' n' _ rfl F' N' ⟨?_, by simp [R.ec]⟩
  unfold asOf
  have e : cosAs (q.cos ++ [(d, co)]) = cosAs q.cos ++ [(d, .co co)] := by simp [cosAs]
  have e2 : (q.cos ++ [(d, co)]).map (·.1) = q.cos.map (·.1) ++ [d] := by simp
  simp only [e, e2]
  refine R'.perm ?_
  rw [List.append_assoc]
  refine List.Perm.trans ?_ (List.perm_middle (l₁ := (g.x, .inst g.dx) :: (g.dx, .cdict g.aH q.aK g.aR σ.hb σ.bb) :: (g.aH, .cells σ.heap) :: (q.aK, .cells σ.stack) :: (g.aR, .ints σ.trail) :: (g.aW, .world q.aC q.aN g.aX σ.wtr) :: (q.aC, .refs (q.cos.map (·.1) ++ [d])) :: (q.aN, .cells σ.names) ::
    (g.aX, .chs q.lbs σ.past) :: cosAs q.cos))
  exact List.Perm.refl _
end
theorem wd_none {imm : List (Addr × Obj)} : DatIn imm .none (wd none) := .none
theorem wd_int {imm : List (Addr × Obj)} {i : Int} {t : Tok} : DatIn imm (.int i t) (wd (some i)) := .int i t
theorem dat_cl1 {imm : List (Addr × Obj)} {v : Value} {c : Cl} (h : DatIn imm v (.list [cd c])) : DatIn imm v (.list ([c].map cd)) := h
local macro_rules | `(tactic| walk_at "eval Dict") => `(tactic| (k_here; k_dflt (refine dict_new (by k_asm) (by k_asm) (by assumption) (by exact Top.nolimit (by k_asm)) (by rfl) (by rfl) (by exact List.cons_ne_nil _ _) (by exact Nat.le_of_ble_eq_true rfl) ?_); intro _ _ _ _ _ _ _; try k_sweep))
local macro_rules | `(tactic| walk_at "KdnMade") => `(tactic| (k_here; k_dflt (refine co_new (by k_asm) (by k_asm) (by assumption) (by assumption) (by walk_at "M.cdat") (by first | exact wd_none | exact wd_int | walk_at "M.dat") ?_); intro _ _ _ _ _; (try k_sweep)))
local macro_rules | `(tactic| walk_at "M.cdat") => `(tactic| first | walk_at "M.dat" | (refine' dat_cl1 ?h; (case h => walk_at "M.dat")))
local macro_rules | `(tactic| walk_at "call builtin:list.append") => `(tactic| (k_here; (with_reducible show wpAny _ _ (call (Value.builtin _) [Value.ref (Vg.aC _), _]) _ _ _); k_dflt (refine push_comp (by k_asm) (by k_asm) (by assumption) (by walk_at "M.ar") ?_; k_whole); intro _ _ _ _ _ _ _; try k_sweep))
def freshS (σ : St) (t : Int) : St :=
  if t = 0 then { σ with heap := σ.heap ++ [(0, (σ.heap.length : Int))], comps := σ.comps ++ [⟨[(0, (σ.heap.length : Int))], none⟩], names := σ.names ++ [(0, (σ.heap.length : Int))] }
  else { σ with stack := σ.stack ++ [(1, (σ.stack.length : Int))], comps := σ.comps ++ [⟨[(1, (σ.stack.length : Int))], none⟩], names := σ.names ++ [(1, (σ.stack.length : Int))] }
theorem c_fresh {R : Result → Shared → Prop} {t : Int} {u : Tok}
    (C : Cx w A₀ A base h₀ env outer L mean mg mb (k + 3)) (F : Fr h₀ L s.heap m) (N : News h₀ L s.heap news) (Rp : RS w news imm kp g q σ) (hz : Sm σ) (ht : t = 0 ∨ t = 1)
    (h : ∀ h' tk news' imm' q', Fr h₀ L h' m → News h₀ L h' news' → RS w news' imm' kp g q' (freshS σ t) → Sub imm imm' → q'.sav = q.sav → q'.lbs = q.lbs → R (.ok (.ret .none)) { s with heap := h', toks := tk }) :
    codeAny (model PG w) A (.call (.ref 263) ⟨[.ref g.x, .ref g.aW, .int t u], []⟩) R s := by
  have zH := hz.heap; have zK := hz.stack; have zN := hz.names; have zC := hz.comps
  rcases ht with rfl | rfl
  · unfold freshS at h
    simp only [if_true] at h
    have X₀ := C.X
    k_enter
    intro g1 L1 h1 FG F1 N1 C1
    have B1 := C1.B; have X1 := C1.X; have T1 := C1.T; have hA1 := C1.hA; have hh1 := C1.hh; have hu1 := units_of C1.hunit
    try dsimp only
    try k_fold
    try clear N
    clear F
    k_steps
    exact h _ _ _ _ _ (by assumption) (by assumption) (by assumption) (by walk_at "M.sub") (by subst_vars; rfl) (by subst_vars; rfl)
  · unfold freshS at h
    simp only [show ¬ ((1 : Int) = 0) by decide, if_false] at h
    have X₀ := C.X
    k_enter
    intro g1 L1 h1 FG F1 N1 C1
    have B1 := C1.B; have X1 := C1.X; have T1 := C1.T; have hA1 := C1.hA; have hh1 := C1.hh; have hu1 := units_of C1.hunit
    try dsimp only
    try k_fold
    try clear N
    clear F
    k_steps
    exact h _ _ _ _ _ (by assumption) (by assumption) (by assumption) (by walk_at "M.sub") (by subst_vars; rfl) (by subst_vars; rfl)
local macro_rules | `(tactic| walk_at "call ref") => `(tactic| (k_here; (with_reducible show wpAny _ _ (call (Value.ref 263) _ _) _ _ _); k_dflt (refine wpAny_call (c_fresh (by assumption) (by k_asm) (by k_asm) (by assumption) (by walk_at "M.sm") (by first | exact Or.inl rfl | exact Or.inr rfl) ?_); k_whole); walk_at "M.end"))
structure Sz (b : Nat) (σ : St) : Prop where
  heap : σ.heap.length ≤ b
  stack : σ.stack.length ≤ b
  trail : σ.trail.length ≤ b
  comps : σ.comps.length ≤ b
  names : σ.names.length ≤ b
  past : σ.past.length ≤ b
  co : ∀ c ∈ σ.comps, c.names.length ≤ b
theorem Sz.sm {b : Nat} {σ : St} (h : Sz b σ) (hb : b ≤ 20000) : Sm σ := ⟨Nat.le_trans h.heap hb, Nat.le_trans h.stack hb, Nat.le_trans h.trail hb, Nat.le_trans h.comps hb, Nat.le_trans h.names hb, Nat.le_trans h.past hb, fun c hc => Nat.le_trans (h.co c hc) hb⟩
theorem Sz.up {b c : Nat} {σ : St} (h : Sz b σ) (hb : b ≤ c) : Sz c σ := ⟨Nat.le_trans h.heap hb, Nat.le_trans h.stack hb, Nat.le_trans h.trail hb, Nat.le_trans h.comps hb, Nat.le_trans h.names hb, Nat.le_trans h.past hb, fun c hc => Nat.le_trans (h.co c hc) hb⟩
theorem Sz.new {b : Nat} {σ : St} {c : Cl} (h : Sz b σ) : Sz (b + 1) (newS σ c) := ⟨by have := h.heap; simp only [newS, List.length_append, List.length_singleton]; omega, Nat.le_succ_of_le h.stack, Nat.le_succ_of_le h.trail, Nat.le_succ_of_le h.comps, Nat.le_succ_of_le h.names, Nat.le_succ_of_le h.past, fun c hc => Nat.le_succ_of_le (h.co c hc)⟩
theorem Sz.bind {b : Nat} {σ : St} {c v : Cl} (h : Sz b σ) : Sz (b + 1) (bindS σ c v) := by
  have h1 := h.heap; have h2 := h.stack; have h3 := h.trail
  unfold bindS
  split
  · refine ⟨by simp only [List.length_set]; omega, Nat.le_succ_of_le h.stack, ?_, Nat.le_succ_of_le h.comps, Nat.le_succ_of_le h.names, Nat.le_succ_of_le h.past, fun c hc => Nat.le_succ_of_le (h.co c hc)⟩
    dsimp only
    split
    · simp only [List.length_append, List.length_singleton]; omega
    · omega
  · refine ⟨Nat.le_succ_of_le h.heap, by simp only [List.length_set]; omega, ?_, Nat.le_succ_of_le h.comps, Nat.le_succ_of_le h.names, Nat.le_succ_of_le h.past, fun c hc => Nat.le_succ_of_le (h.co c hc)⟩
    dsimp only
    split
    · simp only [List.length_append, List.length_singleton]; omega
    · omega
theorem Sz.noted {b : Nat} {σ : St} {c : Cl} (h : Sz b σ) : Sz b (notedS σ c) := by
  unfold notedS; split
  · exact ⟨h.heap, h.stack, h.trail, h.comps, h.names, h.past, h.co⟩
  · exact h
theorem Sz.pair {b : Nat} {σ : St} {c d : Cl} (h : Sz b σ) : Sz (b + 1) (pairS σ c d) := by
  unfold pairS
  split
  · exact h.up (Nat.le_succ _)
  · split
    · split
      · exact h.bind
      · exact h.bind
    · split
      · exact h.bind
      · exact h.bind
theorem notedS_heap {σ : St} {c : Cl} : (notedS σ c).heap = σ.heap ∧ (notedS σ c).stack = σ.stack ∧ (notedS σ c).trail = σ.trail ∧ (notedS σ c).comps = σ.comps ∧ (notedS σ c).names = σ.names ∧ (notedS σ c).past = σ.past ∧ (notedS σ c).hb = σ.hb ∧ (notedS σ c).bb = σ.bb := by
  unfold notedS; split <;> exact ⟨rfl, rfl, rfl, rfl, rfl, rfl, rfl, rfl⟩
theorem bindS_rest {σ : St} {c v : Cl} : (bindS σ c v).comps = σ.comps ∧ (bindS σ c v).names = σ.names ∧ (bindS σ c v).past = σ.past ∧ (bindS σ c v).wtr = σ.wtr ∧ (bindS σ c v).hb = σ.hb ∧ (bindS σ c v).bb = σ.bb ∧ (bindS σ c v).heap.length = σ.heap.length ∧ (bindS σ c v).stack.length = σ.stack.length := by
  unfold bindS; split <;> simp
section
variable {w : World} {A : Around} {h₀ : Heap} {L : Addr} {m : Str → Option Value} {news imm kp : List (Addr × Obj)} {g : Gh} {q : Vg} {σ : St} {s : Shared} {E : Value → Shared → Prop} {Q : Value → Shared → Prop} {a b : Addr} {cs ds : List Cl}
theorem add_cells (F : Fr h₀ L s.heap m) (N : News h₀ L s.heap news) (R : RS w news imm kp g q σ) (ha : DatIn imm (.ref a) (.list (cs.map cd))) (hb : DatIn imm (.ref b) (.list (ds.map cd))) (hz : cs.length + ds.length ≤ 100000)
    (h : ∀ h' news' imm' c, Fr h₀ L h' m → News h₀ L h' news' → Sub news news' → Sub imm imm' → RS w news' imm' kp g q σ → DatIn imm' (.ref c) (.list ((cs ++ ds).map cd)) → Q (.ref c) { s with heap := h' }) : wpAny (model PG w) A (binaryOp .Add (.ref a) (.ref b)) Q E s := by
  obtain ⟨vs, n, ma, da⟩ := list_in ha
  obtain ⟨us, k, mb, db⟩ := list_in hb
  have l1 := cells_len da
  have l2 := cells_len db
  refine add_arrays F N (News.isList N (R.rep.immn _ ma)) (News.isList N (R.rep.immn _ mb)) (fun h' F' N' => ?_) (by simp only [List.size_toArray, sizeLine_eq]; omega)
  refine h h' _ _ _ F' N' sub_cons sub_cons (R.newI fun p hp => Nat.ne_of_lt (Heap.lt_size (N p hp).1)) ?_
  rw [List.map_append]
  exact .list (.head _) ((da.append db).mono sub_cons)
theorem copy_list (F : Fr h₀ L s.heap m) (N : News h₀ L s.heap news) (R : RS w news imm kp g q σ) (ha : DatIn imm (.ref a) (.list (cs.map cd))) (hz : cs.length ≤ 100000)
    (h : ∀ h' news' imm' c, Fr h₀ L h' m → News h₀ L h' news' → Sub news news' → Sub imm imm' → RS w news' imm' kp g q σ → DatIn imm' (.ref c) (.list (cs.map cd)) → Q (.ref c) { s with heap := h' }) : wpAny (model PG w) A (call (.type "list") [.ref a]) Q E s := by
  obtain ⟨vs, n, ma, da⟩ := list_in ha
  have l1 := cells_len da
  refine list_copyK F N (News.isList N (R.rep.immn _ ma)) (fun D c h' F' N' hlt => ?_) (by simp only [List.size_toArray, sizeLine_eq]; omega)
  exact h h' _ _ _ F' N' sub_cons sub_cons (R.newI fun p hp => Nat.ne_of_lt (hlt p hp)) (.list (.head _) (da.mono sub_cons))
theorem copy_names (F : Fr h₀ L s.heap m) (N : News h₀ L s.heap news) (R : RS w news imm kp g q σ) (hz : σ.names.length ≤ 100000)
    (h : ∀ h' news' imm' c, Fr h₀ L h' m → News h₀ L h' news' → Sub news news' → Sub imm imm' → RS w news' imm' kp g q σ → DatIn imm' (.ref c) (.list (σ.names.map cd)) → Q (.ref c) { s with heap := h' }) : wpAny (model PG w) A (call (.type "list") [.ref q.aN]) Q E s := by
  obtain ⟨vs, n, ma, da⟩ := R.oN
  have l1 := cells_len da
  refine list_copyK F N (News.isList N ma) (fun D c h' F' N' hlt => ?_) (by simp only [List.size_toArray, sizeLine_eq]; omega)
  exact h h' _ _ _ F' N' sub_cons sub_cons (R.newI fun p hp => Nat.ne_of_lt (hlt p hp)) (.list (.head _) (da.mono sub_cons))
/-- a list's copy that is to turn -/
theorem copy_mut (F : Fr h₀ L s.heap m) (N : News h₀ L s.heap news) (R : RS w news imm kp g q σ) (ha : DatIn imm (.ref a) (.list (cs.map cd))) (hz : cs.length ≤ 100000)
    (h : ∀ h' news' c, Fr h₀ L h' m → News h₀ L h' news' → Sub news news' → RSn w news' imm kp g q σ c (.cells cs) → Q (.ref c) { s with heap := h' }) : wpAny (model PG w) A (call (.type "list") [.ref a]) Q E s := by
  obtain ⟨vs, n, ma, da⟩ := list_in ha
  have l1 := cells_len da
  refine list_copyK F N (News.isList N (R.rep.immn _ ma)) (fun D c h' F' N' hlt => ?_) (by simp only [List.size_toArray, sizeLine_eq]; omega)
  exact h h' _ _ F' N' sub_cons ⟨R.rep.allocM (fun p hp => Nat.ne_of_lt (hlt p hp)) ⟨vs, c, rfl, da⟩, R.ec⟩
end
local macro_rules | `(tactic| walk_at "binaryOp Add ref ref") => `(tactic| (k_here; k_dflt (refine add_cells (by k_asm) (by k_asm) (by assumption) (by walk_at "M.cdat") (by walk_at "M.cdat") (by walk_at "M.len2") ?_; k_whole); intro _ _ _ _ _ _ _ _ _ _; try k_sweep))
local macro_rules | `(tactic| walk_at "M.len2") => `(tactic| first | omega | (simp only [List.length_cons, List.length_nil]; omega))
local macro_rules | `(tactic| walk_at "setItem ref str") => `(tactic| (k_here; first
  | ((with_reducible show wpAny _ _ (setItem (Value.ref _) (Value.str (PySem.Str.ofString "names") _) (Value.ref _)) _ _ _); k_dflt (refine cset_names (by k_asm) (by k_asm) (by assumption) (by assumption) (by walk_at "M.dat") ?_; k_whole); intro _ _ _ _ _ _ _; try k_sweep)
  | ((with_reducible show wpAny _ _ (setItem (Value.ref _) (Value.str (PySem.Str.ofString "worth") _) (Value.int _ _)) _ _ _); k_dflt (refine cset_worth (by k_asm) (by k_asm) (by assumption) (by assumption) ?_; k_whole); intro _ _ _ _ _ _ _; try k_sweep)))
local macro_rules | `(tactic| walk_at "call type:list") => `(tactic| (k_here; first
  | ((with_reducible show wpAny _ _ (call (Value.type _) [Value.ref (Vg.aN _)]) _ _ _); k_dflt (refine copy_names (by k_asm) (by k_asm) (by assumption) (by walk_at "M.ar") ?_; k_whole); intro _ _ _ _ _ _ _ _ _ _; try k_sweep)
  | ((with_reducible show wpAny _ _ (call (Value.type _) [Value.ref _]) _ _ _); k_dflt (refine copy_list (by k_asm) (by k_asm) (by assumption) (by walk_at "M.dat") (by walk_at "M.ar") ?_; k_whole); intro _ _ _ _ _ _ _ _ _ _; try k_sweep)))
def movedS (σ : St) (i : Nat) (co : Co) : St :=
  if (endS co).1 = 1 then
    let c : Cl := (0, (σ.heap.length : Int))
    let σ2 := notedS (bindS (newS σ c) (endS co) c) (endS co)
    { σ2 with comps := σ2.comps.set i { co with names := co.names ++ [c] }, names := σ2.names ++ [c] }
  else σ
theorem c_moved {R : Result → Shared → Prop} {a b : Addr} {c : Cl} {co : Co} {i n : Nat}
    (C : Cx w A₀ A base h₀ env outer L mean mg mb (k + 5)) (F : Fr h₀ L s.heap m) (N : News h₀ L s.heap news) (Rp : RS w news imm kp g q σ) (hz : Sm σ) (hs : Sz 19000 σ) (hc : DatIn imm (.ref a) (cd c)) (hi : q.cos[i]? = some (b, co)) (hf : findCo σ.comps c = some i) (hd : Dr σ.heap σ.stack n c (endS co)) (hne : co.names ≠ [])
    (hv : (endS co).1 = 1 → 0 ≤ (endS co).2 ∧ (endS co).2 < σ.stack.length)
    (h : ∀ h' tk news' imm' q', Fr h₀ L h' m → News h₀ L h' news' → RS w news' imm' kp g q' (movedS σ i co) → Sub imm imm' → q'.sav = q.sav → q'.lbs = q.lbs → R (.ok (.ret (.bool true))) { s with heap := h', toks := tk }) :
    codeAny (model PG w) A (.call (.ref 275) ⟨[.ref g.x, .ref g.aW, .ref a], []⟩) R s := by
  have zc : co.names.length ≤ 19000 := hs.co co (by rw [← Rp.ec]; exact List.mem_map_of_mem (f := (·.2)) (List.mem_of_getElem? hi))
  have zc2 : co.names.length ≤ 20000 := by omega
  have hcm : (b, co) ∈ q.cos := List.mem_of_getElem? hi
  by_cases he : (endS co).1 = 1
  · obtain ⟨hp, hl⟩ := hv he
    unfold movedS at h
    rw [if_pos he] at h
    dsimp only at h
    have s1 : Sz 19002 (bindS (newS σ (0, (σ.heap.length : Int))) (endS co) (0, (σ.heap.length : Int))) := (hs.new).bind
    have z1 : Sm (bindS (newS σ (0, (σ.heap.length : Int))) (endS co) (0, (σ.heap.length : Int))) := s1.sm (by omega)
    have z2 : Sm (notedS (bindS (newS σ (0, (σ.heap.length : Int))) (endS co) (0, (σ.heap.length : Int))) (endS co)) := (s1.noted).sm (by omega)
    have zn : (notedS (bindS (newS σ (0, (σ.heap.length : Int))) (endS co) (0, (σ.heap.length : Int))) (endS co)).names.length ≤ 20000 := z2.names
    have zh : σ.heap.length < 20000 := by have := hs.heap; omega
    have el : (bindS (newS σ (0, (σ.heap.length : Int))) (endS co) (0, (σ.heap.length : Int))).heap.length = σ.heap.length + 1 := by rw [bindS_rest.2.2.2.2.2.2.1]; simp [newS]
    generalize hB : bindS (newS σ (0, (σ.heap.length : Int))) (endS co) (0, (σ.heap.length : Int)) = σB at *
    have eq1 : ((0, (σ.heap.length : Int)) : Cl) = (0, (σB.heap.length : Int) - 1) := Prod.ext rfl (by simp only; omega)
    have z100 : σB.heap.length ≤ 100000 := by omega
    have X₀ := C.X
    k_enter
    intro g1 L1 h1 FG F1 N1 C1
    have B1 := C1.B; have X1 := C1.X; have T1 := C1.T; have hA1 := C1.hA; have hh1 := C1.hh; have hu1 := units_of C1.hunit
    try dsimp only
    try k_fold
    try clear N
    clear F
    k_steps
    simp only [decide_true]
    exact h _ _ _ _ _ (by assumption) (by assumption) (by assumption) (by walk_at "M.sub") (by subst_vars; rfl) (by subst_vars; rfl)
  · unfold movedS at h
    rw [if_neg he] at h
    have X₀ := C.X
    k_enter
    intro g1 L1 h1 FG F1 N1 C1
    have B1 := C1.B; have X1 := C1.X; have T1 := C1.T; have hA1 := C1.hA; have hh1 := C1.hh; have hu1 := units_of C1.hunit
    try dsimp only
    try k_fold
    try clear N
    clear F
    k_steps
    simp only [decide_true]
    exact h _ _ _ _ _ (by assumption) (by assumption) (by assumption) (by walk_at "M.sub") rfl rfl
local macro_rules | `(tactic| walk_at "call ref") => `(tactic| (k_here; (with_reducible show wpAny _ _ (call (Value.ref 275) _ _) _ _ _); k_dflt (refine wpAny_call (c_moved (by assumption) (by k_asm) (by k_asm) (by assumption) (by walk_at "M.sm") (by assumption) (by walk_at "M.dat") (by assumption) (by assumption) (by assumption) (by assumption) (by assumption) ?_); k_whole); walk_at "M.end"))
section
variable {w : World} {A : Around} {h₀ : Heap} {L : Addr} {m : Str → Option Value} {news imm kp : List (Addr × Obj)} {g : Gh} {q : Vg} {σ : St} {s : Shared} {E : Value → Shared → Prop} {QU : Unit → Shared → Prop} {b : Addr} {i : Int} {t : Tok} {cs : List Cl}
theorem sa_hb (F : Fr h₀ L s.heap m) (X : (hd.heap_1 w.params).In h₀) (N : News h₀ L s.heap news) (R : RS w news imm kp g q σ)
    (h : ∀ h' news', Fr h₀ L h' m → News h₀ L h' news' → RS w news' imm kp g q { σ with hb := i } → QU () { s with heap := h', toks := s.toks + 2 }) : wpAny (model PG w) A (setAttr (.ref g.x) (Str.ofString "hb") (.int i t)) QU E s := by
  obtain ⟨t0, u, v, mD⟩ := R.oD
  have N1 := focus N mD
  refine' set_dict F X N1 (InstAt.of_news N R.oI mD) ?k5 ?k6 ?k7 ?k8 ?k9 ?k10 ?k11 ?k12 ?k13 ?_
  case k5 => exact rfl
  case k6 => k_is
  case k7 => k_is
  case k8 => k_is
  case k9 => k_is
  case k10 => k_get
  case k11 => k_put
  case k12 => exact Upd.head off_ne
  case k13 => exact Nat.le_of_ble_eq_true rfl
  exact fun h' F' N' => h h' (put g.dx _ news) F' N' ⟨R.rep.upd (pre := [_]) (x' := .cdict g.aH q.aK g.aR i σ.bb) ⟨t0, t, v, rfl⟩, R.ec⟩
theorem sa_bb (F : Fr h₀ L s.heap m) (X : (hd.heap_1 w.params).In h₀) (N : News h₀ L s.heap news) (R : RS w news imm kp g q σ)
    (h : ∀ h' news', Fr h₀ L h' m → News h₀ L h' news' → RS w news' imm kp g q { σ with bb := i } → QU () { s with heap := h', toks := s.toks + 2 }) : wpAny (model PG w) A (setAttr (.ref g.x) (Str.ofString "bb") (.int i t)) QU E s := by
  obtain ⟨t0, u, v, mD⟩ := R.oD
  have N1 := focus N mD
  refine' set_dict F X N1 (InstAt.of_news N R.oI mD) ?k5 ?k6 ?k7 ?k8 ?k9 ?k10 ?k11 ?k12 ?k13 ?_
  case k5 => exact rfl
  case k6 => k_is
  case k7 => k_is
  case k8 => k_is
  case k9 => k_is
  case k10 => k_get
  case k11 => k_put
  case k12 => exact Upd.head off_ne
  case k13 => exact Nat.le_of_ble_eq_true rfl
  exact fun h' F' N' => h h' (put g.dx _ news) F' N' ⟨R.rep.upd (pre := [_]) (x' := .cdict g.aH q.aK g.aR σ.hb i) ⟨t0, u, t, rfl⟩, R.ec⟩
theorem sa_stack (F : Fr h₀ L s.heap m) (X : (hd.heap_1 w.params).In h₀) (N : News h₀ L s.heap news) (R : RSn w news imm kp g q σ b (.cells cs))
    (h : ∀ h' news' (q' : Vg), q'.sav = q.sav → q'.lbs = q.lbs → q'.cos = q.cos → Fr h₀ L h' m → News h₀ L h' news' → RS w news' imm kp g q' { σ with stack := cs } → QU () { s with heap := h', toks := s.toks + 2 }) : wpAny (model PG w) A (setAttr (.ref g.x) (Str.ofString "stack") (.ref b)) QU E s := by
  obtain ⟨t0, u, v, mD⟩ := R.rs.oD
  have N1 := focus N mD
  refine' set_dict F X N1 (InstAt.of_news N R.rs.oI mD) ?k5 ?k6 ?k7 ?k8 ?k9 ?k10 ?k11 ?k12 ?k13 ?_
  case k5 => exact rfl
  case k6 => k_is
  case k7 => k_is
  case k8 => k_is
  case k9 => k_is
  case k10 => k_get
  case k11 => k_put
  case k12 => exact Upd.head off_ne
  case k13 => exact Nat.le_of_ble_eq_true rfl
  refine fun h' F' N' => h h' (put g.dx _ news) { q with aK := b } rfl rfl rfl F' N' ⟨?_, R.ec⟩
  have R1 := R.rep.upd (pre := [_, _]) (x' := .cdict g.aH b g.aR σ.hb σ.bb) ⟨t0, u, v, rfl⟩
  have R2 := R1.drop1 (pre := [_, _, _, _])
  exact R2.perm (List.perm_middle (l₁ := [_, _, _]))
theorem take_slice {vs : List Value} {k : Nat} (h : k ≤ vs.length) : slicePick vs.toArray none (some (k : Int)) none = (vs.take k).toArray := by
  have e := slicePick_run vs.toArray 0 k (by simpa using h) (Nat.zero_le _)
  have : slicePick vs.toArray none (some (k : Int)) none = slicePick vs.toArray (some ((0 : Nat) : Int)) (some (k : Int)) none := by
    have z : max (0 : Int) (min ((0 : Nat) : Int) (vs.length : Int)) = 0 := by omega
    unfold slicePick sliceBounds
    simp only [Option.getD_none, show (1 : Int) > 0 by decide, if_true, List.size_toArray]
    have y : ¬ (((0 : Nat) : Int) < 0) := by omega
    rw [if_neg y, z]
  rw [this, e]
  simp
theorem slice_stack {value slice : PySem.Expr} {k : Nat} {t : Tok} {Q : Value → Shared → Prop} (F : Fr h₀ L s.heap m) (N : News h₀ L s.heap news) (R : RS w news imm kp g q σ) (hk : k ≤ σ.stack.length) (hz : σ.stack.length ≤ 20000)
    (h : ∀ h' news' c, Fr h₀ L h' m → News h₀ L h' news' → RSn w news' imm kp g q σ c (.cells (σ.stack.take k)) → Q (.ref c) { s with heap := h' })
    (hs : subscripted slice false (.ref q.aK) (.ref s.heap.objs.size) = operate [.ref s.heap.objs.size, .ref q.aK] (getItem (.ref q.aK) (.ref s.heap.objs.size)) := by with_unfolding_all rfl)
    (ht : ∀ r, letTemporaryGo value (.ref q.aK) r = pure () := by intro _; with_unfolding_all rfl) :
    wpAny (model PG w) A (subscriptTail value slice (.ref q.aK) (.ref s.heap.objs.size)) Q E { s with heap := s.heap.push { cls := .type "slice", data := .fields #[.none, .int (k : Int) t, .none] } } := by
  obtain ⟨vs, n, ma, da⟩ := R.oK
  have l1 := cells_len da
  refine slice_list F N (News.isList N ma) .none (.int _ _) (fun h' F' N' => ?_) hs ht (by simp only [List.size_toArray, sizeLine_eq]; omega)
  rw [take_slice (by omega)] at N'
  refine h h' _ _ F' N' ⟨R.rep.allocM (fun p hp => ?_) ⟨vs.take k, 0, rfl, ?_⟩, R.ec⟩
  · exact Nat.ne_of_lt (Nat.lt_succ_of_lt (Heap.lt_size (N p hp).1))
  · rw [List.map_take]
    exact datAll_take _ da
end
local macro_rules | `(tactic| walk_at "setAttr ref") => `(tactic| (k_here; first
  | ((with_reducible show wpAny _ _ (setAttr (Value.ref (Gh.x _)) (PySem.Str.ofString "hb") (Value.int _ _)) _ _ _); k_dflt (refine sa_hb (by k_asm) (by assumption) (by k_asm) (by assumption) ?_; k_whole); intro _ _ _ _ _; try k_sweep)
  | ((with_reducible show wpAny _ _ (setAttr (Value.ref (Gh.x _)) (PySem.Str.ofString "bb") (Value.int _ _)) _ _ _); k_dflt (refine sa_bb (by k_asm) (by assumption) (by k_asm) (by assumption) ?_; k_whole); intro _ _ _ _ _; try k_sweep)
  | ((with_reducible show wpAny _ _ (setAttr (Value.ref (Gh.x _)) (PySem.Str.ofString "stack") (Value.ref _)) _ _ _); k_dflt (refine sa_stack (by k_asm) (by assumption) (by k_asm) (by assumption) ?_; k_whole); intro _ _ _ _ _ _ _ _ _; try k_sweep)))
local macro_rules | `(tactic| walk_at "subscriptTail") => `(tactic| (k_here; (with_reducible show wpAny _ _ (subscriptTail _ _ (Value.ref (Vg.aK _)) (Value.ref _)) _ _ _); k_dflt (refine' slice_stack ?F ?N ?R ?y ?z ?_; (case F => k_asm); (case N => k_asm); (case R => assumption); (case y => walk_at "M.rng"); (case z => walk_at "M.ar"); k_whole); intro _ _ _ _ _ _; try k_sweep))
def boundsS (σ : St) : St := { σ with hb := lim σ 0, bb := lim σ 1 }
theorem c_bounds {R : Result → Shared → Prop}
    (C : Cx w A₀ A base h₀ env outer L mean mg mb (k + 1)) (F : Fr h₀ L s.heap m) (N : News h₀ L s.heap news) (Rp : RS w news imm kp g q σ) (hz : Sm σ)
    (h : ∀ h' tk news' imm', Fr h₀ L h' m → News h₀ L h' news' → RS w news' imm' kp g q (boundsS σ) → Sub imm imm' → R (.ok (.ret .none)) { s with heap := h', toks := tk }) :
    codeAny (model PG w) A (.call (.ref 287) ⟨[.ref g.x, .ref g.aW], []⟩) R s := by
  have zP := hz.past
  cases hp : σ.past.getLast? with
  | none =>
    have hp' : σ.past = [] := by simpa using hp
    simp only [boundsS, lim, hp] at h
    have X₀ := C.X
    k_enter
    intro g1 L1 h1 FG F1 N1 C1
    have B1 := C1.B; have X1 := C1.X; have T1 := C1.T; have hA1 := C1.hA; have hh1 := C1.hh; have hu1 := units_of C1.hunit
    try dsimp only
    try k_fold
    try clear N
    clear F
    k_steps
    exact h _ _ _ _ (by assumption) (by assumption) (by assumption) (by walk_at "M.sub")
  | some sn =>
    have hp' : ¬ σ.past = [] := fun e => by rw [e] at hp; cases hp
    simp only [boundsS, lim, hp, if_true, show ¬ ((1 : Int) = 0) by decide, if_false] at h
    have X₀ := C.X
    k_enter
    intro g1 L1 h1 FG F1 N1 C1
    have B1 := C1.B; have X1 := C1.X; have T1 := C1.T; have hA1 := C1.hA; have hh1 := C1.hh; have hu1 := units_of C1.hunit
    try dsimp only
    try k_fold
    try clear N
    clear F
    k_steps
    exact h _ _ _ _ (by assumption) (by assumption) (by assumption) (by walk_at "M.sub")
local macro_rules | `(tactic| walk_at "call ref") => `(tactic| (k_here; (with_reducible show wpAny _ _ (call (Value.ref 287) _ _) _ _ _); k_dflt (refine wpAny_call (c_bounds (by assumption) (by k_asm) (by k_asm) (by assumption) (by walk_at "M.sm") ?_); k_whole); walk_at "M.end"))
section
variable {w : World} {A : Around} {h₀ : Heap} {L d l : Addr} {m : Str → Option Value} {news news' imm kp kp' : List (Addr × Obj)} {g : Gh} {q : Vg} {σ : St} {s : Shared} {E : Value → Shared → Prop} {Q : Value → Shared → Prop} {o : Obj} {cs : List Cl} {x : As}
theorem RS.kpPerm (R : RS w news imm kp g q σ) (hp : kp'.Perm kp) : RS w news imm kp' g q σ := ⟨by
  have R0 := R.rep
  rw [asOf_split] at R0 ⊢
  exact R0.perm (List.Perm.append_left _ (hp.map _)), R.ec⟩
theorem co_newK {t u : Tok} {wv : Value} {wo : Option Int} (F : Fr h₀ L s.heap m) (N : News h₀ L s.heap news) (R : RS w news imm ((d, o) :: kp) g q σ) (hd : o.IsDictOf (PySem.strKind PG w) []) (dl : DatIn imm (.ref l) (.list (cs.map cd))) (dw : DatIn imm wv (wd wo))
    (h : ∀ h' news' o', Fr h₀ L h' m → News h₀ L h' news' → RS w news' imm ((d, o') :: kp) g q σ → sem w imm (.co ⟨cs, wo⟩) o' → Q (.ref d) { s with heap := h', toks := s.toks + 2 }) :
    KdnMade PG w (PySem.strKind PG w) d Q [(.str (Str.ofString "names") t, .ref l), (.str (Str.ofString "worth") u, wv)] s :=
  kdn_made_str F (focus N (R.oKp (.head _))) (UpdF.head off_ne) hd rfl (of_decide_eq_true (by kernel_rfl!)) fun h' o' F' N' hd' => h h' (put d o' news) o' F' N'
    ⟨by rw [asOf_split]; exact kp_in (R.kpSet (x := .raw o') rfl).rep, R.ec⟩ ⟨l, wv, hd', dl, dw⟩
/-- what does not bear on some addresses -/
def stripA (as : List Addr) (news : List (Addr × Obj)) : List (Addr × Obj) := news.filter fun p => !as.contains p.1
theorem mem_strip {as : List Addr} {p : Addr × Obj} : p ∈ stripA as news ↔ p ∈ news ∧ p.1 ∉ as := by
  unfold stripA
  rw [List.mem_filter]
  simp
theorem RS.strip {more : List (Addr × Obj)} (R : RS w news imm (more ++ kp) g q σ) : RS w (stripA (more.map (·.1)) news) imm kp g q σ := by
  have R0 := R.rep
  have nd := R0.nd
  rw [asOf_split] at R0 nd
  have e : kpAs (more ++ kp) = kpAs more ++ kpAs kp := by simp [kpAs]
  rw [e] at R0 nd
  have hp : (asSt g q σ ++ (kpAs more ++ kpAs kp)).Perm (kpAs more ++ (asSt g q σ ++ kpAs kp)) := by
    rw [← List.append_assoc, ← List.append_assoc]
    exact List.Perm.append_right _ List.perm_append_comm
  have R1 := R0.perm hp.symm
  rw [← asOf_split] at R1
  have hoff : ∀ p ∈ asOf g q σ kp, p.1 ∉ more.map (·.1) := fun p hp hm => by
    have n1 := R1.nd
    rw [List.map_append, List.nodup_append] at n1
    obtain ⟨r, hr, er⟩ := List.mem_map.mp hm
    exact n1.2.2 r.1 (by simp only [kpAs, List.map_map]; exact List.mem_map.mpr ⟨r, hr, rfl⟩) p.1 (List.mem_map_of_mem hp) er
  refine ⟨⟨fun p hp => ?_, ?_, fun p hp => ?_, fun p hp r hr => R1.immoff p hp r (List.mem_append_right _ hr)⟩, R.ec⟩
  · obtain ⟨o, ho, hs⟩ := R1.has p (List.mem_append_right _ hp)
    exact ⟨o, mem_strip.mpr ⟨ho, hoff p hp⟩, hs⟩
  · have n1 := R1.nd
    rw [List.map_append, List.nodup_append] at n1
    exact n1.2.1
  · refine mem_strip.mpr ⟨R1.immn p hp, fun hm => ?_⟩
    obtain ⟨r, hr, er⟩ := List.mem_map.mp hm
    exact R1.immoff p hp (r.1, .raw r.2) (List.mem_append_left _ (List.mem_map.mpr ⟨r, hr, rfl⟩)) er.symm
end
def Parts (w : World) (imm : List (Addr × Obj)) : List (Addr × Obj) → List Co → Prop
  | [], [] => True
  | p :: ps, c :: cs => sem w imm (.co c) p.2 ∧ Parts w imm ps cs
  | _, _ => False
theorem Parts.mono {w : World} {imm imm' : List (Addr × Obj)} (hs : Sub imm imm') : ∀ {ps : List (Addr × Obj)} {cs : List Co}, Parts w imm ps cs → Parts w imm' ps cs
  | [], [], _ => trivial
  | _ :: _, _ :: _, ⟨h, r⟩ => ⟨sem_mono hs h, r.mono hs⟩
theorem Parts.snoc {w : World} {imm : List (Addr × Obj)} {p : Addr × Obj} {c : Co} (h : sem w imm (.co c) p.2) : ∀ {ps : List (Addr × Obj)} {cs : List Co}, Parts w imm ps cs → Parts w imm (ps ++ [p]) (cs ++ [c])
  | [], [], _ => ⟨h, trivial⟩
  | _ :: _, _ :: _, ⟨h1, r⟩ => ⟨h1, r.snoc h⟩
theorem copy_rest {A : Around} {h₀ : Heap} {L : Addr} {m : Str → Option Value} {env : Env} {elt : PySem.Expr} {x : Str} {scope : Scope} {cl : List (Str × Addr)} {s₂ : Shared} {Fin : List Value → List (Addr × Obj) → Prop}
    (hec : q.cos.map (·.2) = σ.comps)
    (helt : ∀ (I : Addr) (oI : Obj) (C : Addr) (oC : Obj) (D : Addr) (ys : List Value) (m₂ : Str → Option Value) (h : Heap) (tk : Nat) (E' : Value → Shared → Prop) (nw im ps : List (Addr × Obj)) (co : Co) (a : Addr) (Qe : Value → Shared → Prop),
      (a, co) ∈ q.cos → LCg.NsObj oC m₂ → m₂ x = some (.ref a) → Fr h₀ L h m → News h₀ L h nw → RS w nw im ((C, oC) :: (I, oI) :: (D, LCg.lst ys) :: (ps ++ kp)) g q σ →
      (∀ d h' tk' news' imm' o, Fr h₀ L h' m → News h₀ L h' news' → RS w news' imm' ((d, o) :: (C, oC) :: (I, oI) :: (D, LCg.lst ys) :: (ps ++ kp)) g q σ → sem w imm' (.co co) o → Sub im imm' → Qe (.ref d) { s₂ with heap := h', toks := tk' }) →
      wpAny (model PG w) A (eval elt (compEnvC scope cl C env)) Qe E' { s₂ with heap := h, toks := tk })
    (hfin : ∀ ys nw im ps, RS w nw im (ps ++ kp) g q σ → Sub imm im → ys = ps.map (fun p => Value.ref p.1) → Parts w im ps σ.comps → Fin ys nw) :
    ∀ (k i : Nat) (ys : List Value) (nw im ps : List (Addr × Obj)), i + k = σ.comps.length → RS w nw im (ps ++ kp) g q σ → Sub imm im → ys = ps.map (fun p => Value.ref p.1) → Parts w im ps (σ.comps.take i) →
      LCg.CompRest PG w A h₀ L m env elt x scope cl s₂ (LCg.SrcAt h₀ q.aC (List.toArray ((q.cos.map (·.1)).map Value.ref))) (fun i v => (List.toArray ((q.cos.map (·.1)).map Value.ref))[i]? = some v) Fin k i ys nw := by
  intro k
  induction k with
  | zero =>
    intro i ys nw im ps hik R hs hy hp
    have : σ.comps.take i = σ.comps := List.take_of_length_le (by omega)
    rw [this] at hp
    exact LCg.CompRest.zero (hfin ys nw im ps R hs hy hp)
  | succ k ih =>
    intro i ys nw im ps hik R hs hy hp
    refine LCg.CompRest.succ ?_
    intro v I oI C oC D m₂ h tk E' hv hC hm F N off ne
    have hv' : ((q.cos.map (·.1)).map Value.ref)[i]? = some v := by simpa using hv
    rw [List.map_map, List.getElem?_map] at hv'
    obtain ⟨⟨a, co⟩, hb, rfl⟩ := Option.map_eq_some_iff.mp hv'
    have ej : σ.comps[i]? = some co := by rw [← hec, List.getElem?_map, hb]; rfl
    have off3 := off.mem
    have nD : ∀ p ∈ nw, p.1 ≠ D := fun p hp => (off3 p hp).2.2
    have R1 := R.newK (o := LCg.lst ys) nD
    have R2 := R1.newK (d := I) (o := oI) (fun p hp => by
      rcases List.mem_cons.mp hp with rfl | hp
      · exact fun e => ne.2.1 e.symm
      · exact (off3 p hp).1)
    have R3 := R2.newK (d := C) (o := oC) (fun p hp => by
      rcases List.mem_cons.mp hp with rfl | hp
      · exact ne.1
      · rcases List.mem_cons.mp hp with rfl | hp
        · exact fun e => ne.2.2 e.symm
        · exact (off3 p hp).2.1)
    have N3 : News h₀ L h ((C, oC) :: (I, oI) :: (D, LCg.lst ys) :: nw) := fun p hp => N p (by
      simp only [List.mem_cons] at hp ⊢
      rcases hp with h | h | h | h
      · exact .inr (.inl h)
      · exact .inl h
      · exact .inr (.inr (.inl h))
      · exact .inr (.inr (.inr h)))
    refine helt I oI C oC D ys m₂ h tk E' _ im ps co a _ (List.mem_of_getElem? hb) hC hm F N3 R3 ?_
    intro d h' tk' news' imm' o F' N' R' ho hsub
    have R4 : RS w news' imm' ([(C, oC), (I, oI), (D, LCg.lst ys)] ++ ((ps ++ [(d, o)]) ++ kp)) g q σ := R'.kpPerm (by
      have e : [(C, oC), (I, oI), (D, LCg.lst ys)] ++ ((ps ++ [(d, o)]) ++ kp) = ((C, oC) :: (I, oI) :: (D, LCg.lst ys) :: ps) ++ (d, o) :: kp := by
        simp only [List.append_assoc, List.cons_append, List.nil_append]
      rw [e]
      exact List.perm_middle)
    have R5 := R4.strip
    have mC := R4.oKp (a := C) (o := oC) (.head _)
    have mI := R4.oKp (a := I) (o := oI) (.tail _ (.head _))
    have mD := R4.oKp (a := D) (o := LCg.lst ys) (.tail _ (.tail _ (.head _)))
    refine ⟨h', tk', stripA [C, I, D] news', rfl, F', fun p hp => ?_, LCg.Off3.of fun p hp => ?_, ?_, ?_⟩
    · simp only [List.mem_cons] at hp
      rcases hp with rfl | rfl | rfl | hp
      · exact N' _ mI
      · exact N' _ mC
      · exact N' _ mD
      · exact N' _ (mem_strip.mp hp).1
    · have := (mem_strip.mp hp).2
      simp only [List.mem_cons, List.not_mem_nil, or_false, not_or] at this
      exact ⟨this.2.1, this.1, this.2.2⟩
    · obtain ⟨n, hn⟩ := R5.oC
      exact .inr ⟨_, hn, rfl, _, rfl⟩
    · refine ih (i + 1) (ys ++ [.ref d]) _ imm' (ps ++ [(d, o)]) (by omega) R5 (hs.trans hsub) (by rw [hy]; simp) ?_
      have e : σ.comps.take (i + 1) = σ.comps.take i ++ [co] := by rw [List.take_add_one, ej]; rfl
      rw [e]
      exact (hp.mono hsub).snoc ho
theorem Rep.resem {w : World} {news imm : List (Addr × Obj)} {pre post : List (Addr × As)} {a : Addr} {o : Obj} {x : As} (R : Rep w news imm (pre ++ (a, .raw o) :: post)) (h : sem w imm x o) : Rep w news imm (pre ++ (a, x) :: post) := by
  refine ⟨fun p hp => ?_, ?_, R.immn, fun p hp r hr => ?_⟩
  · rcases List.mem_append.mp hp with hp | hp
    · exact R.has p (List.mem_append_left _ hp)
    · rcases List.mem_cons.mp hp with rfl | hp
      · obtain ⟨o', h1, h2⟩ := R.has (a, .raw o) (by simp)
        have : o' = o := h2
        subst this
        exact ⟨o', h1, h⟩
      · exact R.has p (List.mem_append_right _ (.tail _ hp))
  · have := R.nd
    rw [List.map_append, List.map_cons] at this ⊢
    exact this
  · rcases List.mem_append.mp hr with hr | hr
    · exact R.immoff p hp r (List.mem_append_left _ hr)
    · rcases List.mem_cons.mp hr with rfl | hr
      · exact R.immoff p hp (a, .raw o) (by simp)
      · exact R.immoff p hp r (List.mem_append_right _ (.tail _ hr))
theorem parts_co {w : World} {nw im : List (Addr × Obj)} {post : List (Addr × As)} : ∀ (ps : List (Addr × Obj)) (cs : List Co) (pre : List (Addr × As)), Parts w im ps cs → Rep w nw im (pre ++ (kpAs ps ++ post)) →
    ∃ cos' : List (Addr × Co), cos'.map (·.2) = cs ∧ cos'.map (·.1) = ps.map (·.1) ∧ Rep w nw im (pre ++ (cosAs cos' ++ post))
  | [], [], pre, _, R => ⟨[], rfl, rfl, R⟩
  | p :: ps, c :: cs, pre, ⟨h, r⟩, R => by
    have R1 : Rep w nw im (pre ++ (p.1, .co c) :: (kpAs ps ++ post)) := Rep.resem (pre := pre) (a := p.1) (o := p.2) (post := kpAs ps ++ post) R h
    have a1 : ∀ (l : List (Addr × As)) (y : Addr × As) (r : List (Addr × As)), l ++ y :: r = (l ++ [y]) ++ r := fun l y r => by rw [List.append_assoc]; rfl
    rw [a1] at R1
    obtain ⟨cos', e1, e2, R3⟩ := parts_co ps cs _ r R1
    rw [← a1] at R3
    exact ⟨(p.1, c) :: cos', by rw [List.map_cons, e1], by rw [List.map_cons, List.map_cons, e2], R3⟩
theorem parts_sav {w : World} {nw im kp : List (Addr × Obj)} {g : Gh} {q : Vg} {σ : St} {D : Addr} {o : Obj} {ps : List (Addr × Obj)} {cs : List Co} (R : RS w nw im (ps ++ kp) g q σ) (hf : ∀ p ∈ nw, p.1 ≠ D) (hp : Parts w im ps cs) (ho : ∃ n, o = W.listOf (List.toArray (ps.map fun p => Value.ref p.1)) n) :
    ∃ cos' : List (Addr × Co), cos'.map (·.2) = cs ∧ RS w ((D, o) :: nw) im kp g { q with sav := q.sav ++ [(D, cos')] } σ := by
  have R0 := R.rep
  rw [asOf_split] at R0
  have e : kpAs (ps ++ kp) = kpAs ps ++ kpAs kp := List.map_append
  rw [e] at R0
  obtain ⟨cos', e1, e2, R1⟩ := parts_co ps cs _ hp R0
  refine ⟨cos', e1, ⟨?_, R.ec⟩⟩
  obtain ⟨n, rfl⟩ := ho
  have R2 := R1.allocM (a := D) (x := .refs (cos'.map (·.1))) (o := W.listOf (List.toArray (ps.map fun p => Value.ref p.1)) n) hf ⟨n, by
    rw [e2, List.map_map]; rfl⟩
  rw [asOf_split]
  have e3 : asSt g { q with sav := q.sav ++ [(D, cos')] } σ = asSt g q σ ++ ((D, .refs (cos'.map (·.1))) :: cosAs cos') := by
    have e4 : savAs (q.sav ++ [(D, cos')]) = savAs q.sav ++ ((D, .refs (cos'.map (·.1))) :: cosAs cos') := by
      unfold savAs
      rw [List.flatMap_append, List.flatMap_singleton]
    show _ :: _ :: _ :: _ :: _ :: _ :: _ :: _ :: _ :: (cosAs q.cos ++ savAs (q.sav ++ [(D, cos')])) = _
    rw [e4]
    unfold asSt
    simp only [List.cons_append, List.append_assoc]
  rw [e3, List.append_assoc]
  exact R2.perm List.perm_middle
theorem off1_mem {D : Addr} {l : List (Addr × Obj)} (h : LCg.Off1 D l) : ∀ p ∈ l, p.1 ≠ D := by
  induction l with
  | nil => intro p hp; cases hp
  | cons x r ih =>
    unfold LCg.Off1 at h
    intro p hp
    rcases List.mem_cons.mp hp with e | hp
    · rw [e]; exact h.1
    · exact ih h.2 p hp
section
local macro_rules | `(tactic| walk_at "M.kp") => `(tactic| first | assumption | exact List.Mem.head _ | (refine List.Mem.tail _ ?_; walk_at "M.kp"))
local macro_rules | `(tactic| k_mem) => `(tactic| first | assumption | (refine' RS.oKp ?R ?k; (case R => assumption); (case k => walk_at "M.kp")))
local macro_rules | `(tactic| walk_at "KdnMade") => `(tactic| (k_here; k_dflt (refine co_newK (by k_asm) (by k_asm) (by assumption) (by assumption) (by walk_at "M.cdat") (by first | exact wd_none | exact wd_int | walk_at "M.dat") ?_); intro _ _ _ _ _ _ _; (try k_sweep)))
local macro_rules | `(tactic| walk_at "eval Name") => `(tactic| (k_here; first
  | ((with_reducible show wpAny _ _ (eval (Expr.Name (PySem.Str.ofString "company") _) (compEnvC _ _ _ _)) _ _ _); k_dflt (refine LCgL.ld_own (by k_asm) (by k_mem) (by assumption) (by assumption) ?_))
  | ((with_reducible show wpAny _ _ (eval (Expr.Name (PySem.Str.ofString "list") _) (compEnvC _ _ _ _)) _ _ _); k_dflt (refine LCgL.ld_built (by k_asm) (by k_asm) (by k_asm) (by k_is) (by boot_by_name) (by decide) ?_))))
local macro_rules | `(tactic| walk_at "eval ListComp") => `(tactic| (k_here; k_dflt (refine LCg.ListComp_U (F₀ := by k_asm) (by rfl) (by decide) (by rfl) (by decide) (by rfl) ?_)))
local macro_rules | `(tactic| walk_at "CompSrc") => `(tactic| fail "here")
theorem c_copied {R : Result → Shared → Prop}
    (C : Cx w A₀ A base h₀ env outer L mean mg mb (k + 1)) (F : Fr h₀ L s.heap m) (N : News h₀ L s.heap news) (Rp : RS w news imm kp g q σ) (hz : Sm σ)
    (h : ∀ D cos' h' tk news' imm' q', Fr h₀ L h' m → News h₀ L h' news' → RS w news' imm' kp g q' σ → Sub imm imm' → q'.sav = q.sav ++ [(D, cos')] → q'.lbs = q.lbs → q'.cos = q.cos → cos'.map (·.2) = σ.comps → R (.ok (.ret (.ref D))) { s with heap := h', toks := tk }) :
    codeAny (model PG w) A (.call (.ref 280) ⟨[.ref g.aW], []⟩) R s := by
  have X₀ := C.X
  k_enter
  intro g1 L1 h1 FG F1 N1 C1
  have B1 := C1.B; have X1 := C1.X; have T1 := C1.T; have hA1 := C1.hA; have hh1 := C1.hh; have hu1 := units_of C1.hunit
  try dsimp only
  try k_fold
  try clear N
  clear F
  k_steps
  obtain ⟨n, mC⟩ := Rp.oC
  have hl : q.cos.length = σ.comps.length := by rw [← Rp.ec, List.length_map]
  have hcz := hz.comps
  refine LCg.CompSrc.ledger hh1 F1 N1 mC (by simp only [List.size_toArray, List.length_map, sizeLine_eq]; omega) fun gg => ?_
  have hsz : (List.toArray ((q.cos.map (·.1)).map Value.ref)).size = σ.comps.length := by simp [hl]
  rw [hsz]
  refine copy_rest (kp := kp) (imm := imm) Rp.ec ?_ ?_ _ 0 [] news imm [] (by omega) Rp (Sub.refl _) rfl trivial
  · intro I oI C oC D ys m₂ h2 tk E' nw im ps co a Qe hc hC hm F2 N2 R2 hQ
    have hcz2 := hz.co co (by rw [← Rp.ec]; exact List.mem_map_of_mem (f := (·.2)) hc)
    have hcz3 : co.names.length ≤ 100000 := by omega
    clear Rp N1 F1 mC
    have mk1 : (C, oC) ∈ (C, oC) :: (I, oI) :: (D, LCg.lst ys) :: (ps ++ kp) := .head _
    generalize (C, oC) :: (I, oI) :: (D, LCg.lst ys) :: (ps ++ kp) = kk at R2 hQ mk1
    cases hw : co.worth with
    | none =>
      have ec : (⟨co.names, none⟩ : Co) = co := by rw [← hw]
      k_steps
      exact hQ _ _ _ _ _ _ (by assumption) (by assumption) (by assumption) (by rw [ec] at *; assumption) (by walk_at "M.sub")
    | some i =>
      have ec : (⟨co.names, some i⟩ : Co) = co := by rw [← hw]
      k_steps
      exact hQ _ _ _ _ _ _ (by assumption) (by assumption) (by assumption) (by rw [ec] at *; assumption) (by walk_at "M.sub")
  · intro ys nw im ps R2 hs hy hp
    intro D h2 tk F2 N2 off
    have hD : ∀ p ∈ nw, p.1 ≠ D := by
      exact off1_mem off
    obtain ⟨cos', e1, R3⟩ := parts_sav (D := D) (o := LCg.lst ys) R2 hD hp ⟨_, by rw [hy]⟩
    k_steps
    exact h _ _ _ _ _ _ _ (by assumption) (by assumption) R3 hs rfl rfl rfl e1
end
local macro_rules | `(tactic| walk_at "call ref") => `(tactic| (k_here; (with_reducible show wpAny _ _ (call (Value.ref 280) _ _) _ _ _); k_dflt (refine wpAny_call (c_copied (by assumption) (by k_asm) (by k_asm) (by assumption) (by walk_at "M.sm") ?_); k_whole); walk_at "M.end"))
section
variable {w : World} {A : Around} {h₀ : Heap} {L b lb ln : Addr} {m : Str → Option Value} {news imm kp : List (Addr × Obj)} {g : Gh} {q : Vg} {σ : St} {s : Shared} {E : Value → Shared → Prop} {Q : Value → Shared → Prop} {QU : Unit → Shared → Prop} {cs : List Cl} {ns : List Cl}
theorem wset_namesN {u : Tok} (F : Fr h₀ L s.heap m) (N : News h₀ L s.heap news) (R : RSn w news imm kp g q σ b (.cells cs))
    (h : ∀ h' news' (q' : Vg), q'.sav = q.sav → q'.lbs = q.lbs → q'.cos = q.cos → Fr h₀ L h' m → News h₀ L h' news' → RS w news' imm kp g q' { σ with names := cs } → QU () { s with heap := h', toks := s.toks + 1 }) : wpAny (model PG w) A (setItem (.ref g.aW) (.str (Str.ofString "names") u) (.ref b)) QU E s :=
  wset_names F N R.rs R.rep fun h' n' q' e => h h' n' q' (by rw [e]) (by rw [e]) (by rw [e])
theorem wset_back {sav0 : List (Addr × List (Addr × Co))} {las : List (Addr × Co)} {u : Tok} (F : Fr h₀ L s.heap m) (N : News h₀ L s.heap news) (R : RS w news imm kp g q σ) (hq : q.sav = sav0 ++ [(lb, las)])
    (h : ∀ h' news' (q' : Vg), q'.sav = sav0 → q'.lbs = q.lbs → q'.cos = las → Fr h₀ L h' m → News h₀ L h' news' → RS w news' imm kp g q' { σ with comps := las.map (·.2) } → QU () { s with heap := h', toks := s.toks + 1 }) : wpAny (model PG w) A (setItem (.ref g.aW) (.str (Str.ofString "companies") u) (.ref lb)) QU E s := by
  obtain ⟨o, u', hm, hd⟩ := R.oW
  refine kda_set F (focus N hm) (UpdF.head off_ne) hd (strKind_is _ _ _ _) (by rw [sizeLine_eq]; simp) fun h' o' F' N' hd' => h h' (put g.aW o' news) { q with aC := lb, cos := las, sav := sav0 } rfl rfl rfl F' N' ⟨?_, rfl⟩
  have R1 := R.rep.upd (pre := [_, _, _, _, _]) (x' := As.world lb q.aN g.aX σ.wtr) (o := o') ⟨u', hd'⟩
  have e4 : savAs q.sav = savAs sav0 ++ ((lb, As.refs (las.map (·.1))) :: cosAs las) := by
    rw [hq]
    unfold savAs
    rw [List.flatMap_append, List.flatMap_singleton]
  have R2 : Rep w (put g.aW o' news) imm ([(g.x, As.inst g.dx), (g.dx, As.cdict g.aH q.aK g.aR σ.hb σ.bb), (g.aH, As.cells σ.heap), (q.aK, As.cells σ.stack), (g.aR, As.ints σ.trail), (g.aW, As.world lb q.aN g.aX σ.wtr)] ++ (q.aC, As.refs (q.cos.map (·.1))) ::
      ([(q.aN, As.cells σ.names), (g.aX, As.chs q.lbs σ.past)] ++ (cosAs q.cos ++ ((savAs sav0 ++ ((lb, As.refs (las.map (·.1))) :: cosAs las)) ++ kpAs kp)))) := by
    rw [← e4]; exact R1
  have R3 := R2.drop1
  -- without the old companies
  have sl : ([(g.x, As.inst g.dx), (g.dx, As.cdict g.aH q.aK g.aR σ.hb σ.bb), (g.aH, As.cells σ.heap), (q.aK, As.cells σ.stack), (g.aR, As.ints σ.trail), (g.aW, As.world lb q.aN g.aX σ.wtr)] ++ ([(q.aN, As.cells σ.names), (g.aX, As.chs q.lbs σ.past)] ++ ((savAs sav0 ++ ((lb, As.refs (las.map (·.1))) :: cosAs las)) ++ kpAs kp))).Sublist
      ([(g.x, As.inst g.dx), (g.dx, As.cdict g.aH q.aK g.aR σ.hb σ.bb), (g.aH, As.cells σ.heap), (q.aK, As.cells σ.stack), (g.aR, As.ints σ.trail), (g.aW, As.world lb q.aN g.aX σ.wtr)] ++ ([(q.aN, As.cells σ.names), (g.aX, As.chs q.lbs σ.past)] ++ (cosAs q.cos ++ ((savAs sav0 ++ ((lb, As.refs (las.map (·.1))) :: cosAs las)) ++ kpAs kp)))) :=
    List.Sublist.append (List.Sublist.refl _) (List.Sublist.append (List.Sublist.refl _) (List.sublist_append_right _ _))
  have R4 := R3.sub (fun p hp => sl.subset hp) (R3.nd.sublist (sl.map _))
  refine R4.perm ?_
  show List.Perm ([(g.x, As.inst g.dx), (g.dx, As.cdict g.aH q.aK g.aR σ.hb σ.bb), (g.aH, As.cells σ.heap), (q.aK, As.cells σ.stack), (g.aR, As.ints σ.trail), (g.aW, As.world lb q.aN g.aX σ.wtr)] ++ ((lb, As.refs (las.map (·.1))) :: ([(q.aN, As.cells σ.names), (g.aX, As.chs q.lbs σ.past)] ++ (cosAs las ++ (savAs sav0 ++ kpAs kp))))) _
  refine List.Perm.append_left _ ?_
  -- move the saved list's head and its companies
  refine List.Perm.trans (List.perm_middle (l₁ := [(q.aN, As.cells σ.names), (g.aX, As.chs q.lbs σ.past)])).symm ?_
  refine List.Perm.append_left _ ?_
  have p1 : ((lb, As.refs (las.map (·.1))) :: cosAs las ++ (savAs sav0 ++ kpAs kp)).Perm (savAs sav0 ++ ((lb, As.refs (las.map (·.1))) :: cosAs las ++ kpAs kp)) := by
    rw [← List.append_assoc, ← List.append_assoc]
    exact List.Perm.append_right _ List.perm_append_comm
  rw [List.append_assoc]
  exact p1
theorem new_choice {i j k : Int} {t1 t2 t3 : Tok} (F : Fr h₀ L s.heap m) (N : News h₀ L s.heap news) (R : RS w news imm kp g q σ) (dn : DatIn imm (.ref ln) (.list (ns.map cd)))
    (h : ∀ h' news' imm' a, Fr h₀ L h' m → News h₀ L h' news' → Sub news news' → Sub imm imm' → RS w news' imm' kp g q σ → ChIn imm' lb ⟨i, j, k, [], ns⟩ (.ref a) → Q (.ref a) { s with heap := h' }) : wpAny (model PG w) A (newTuple [.int i t1, .int j t2, .int k t3, .ref lb, .ref ln]) Q E s := by
  refine newTuple_N F N (fun h' F' N' => h h' _ _ _ F' N' sub_cons sub_cons (R.newI fun p hp => Nat.ne_of_lt (Heap.lt_size (N p hp).1)) ?_) (by rw [sizeLine_eq]; simp)
  exact ⟨_, _, _, _, _, _, rfl, .head _, dn.mono sub_cons⟩
theorem chs_set_last {imm : List (Addr × Obj)} {vs : List Value} {lbs : List Addr} {ss : List Sn} {lb' lb0 : Addr} {sn' sn0 : Sn} {v : Value} (h : ChsIn imm vs (lbs ++ [lb0]) (ss ++ [sn0])) (hc : ChIn imm lb' sn' v) : ChsIn imm (vs.set (vs.length - 1) v) (lbs ++ [lb']) (ss ++ [sn']) ∧ vs ≠ [] := by
  obtain ⟨p, v0, rfl, h1, _⟩ := chsIn_snoc h
  refine ⟨?_, by simp⟩
  have : (p ++ [v0]).set ((p ++ [v0]).length - 1) v = p ++ [v] := by simp
  rw [this]
  exact h1.append hc
theorem set_choice {t : Tok} {lbs : List Addr} {ss : List Sn} {lb' lb0 : Addr} {sn0 : Sn} {v : Value} (F : Fr h₀ L s.heap m) (N : News h₀ L s.heap news) (R : RS w news imm kp g q σ) (el : q.lbs = lbs ++ [lb0]) (es : σ.past = ss ++ [sn0]) (hc : ChIn imm lb' sn0 v) (hz : σ.past.length ≤ 20000)
    (h : ∀ h' news' (q' : Vg), q'.sav = q.sav → q'.lbs = lbs ++ [lb'] → q'.cos = q.cos → Fr h₀ L h' m → News h₀ L h' news' → RS w news' imm kp g q' σ → QU () { s with heap := h' }) : wpAny (model PG w) A (setItem (.ref g.aX) (.int (-1) t) v) QU E s := by
  obtain ⟨vs, n, hm, hd⟩ := R.oX
  have hl := hd.length
  rw [el, es] at hd
  obtain ⟨h1, h2⟩ := chs_set_last hd hc
  exact cells_set0 (k := 0) (pre := [_, _, _, _, _, _, _, _]) F N R.rep hm (by omega) h2 h1 fun h' n' F' N' R' => h h' n' { q with lbs := lbs ++ [lb'] } rfl rfl rfl F' N' ⟨by unfold asOf; rw [es]; exact R', R.ec⟩
theorem push_choice {i j k : Int} {v : Value} (F : Fr h₀ L s.heap m) (N : News h₀ L s.heap news) (R : RS w news imm kp g q σ) (hc : ChIn imm lb ⟨i, j, k, [], ns⟩ v) (hz : σ.past.length ≤ 20000)
    (h : ∀ h' news' (q' : Vg), q'.sav = q.sav → q'.lbs = q.lbs ++ [lb] → q'.cos = q.cos → Fr h₀ L h' m → News h₀ L h' news' → RS w news' imm kp g q' { σ with past := σ.past ++ [⟨i, j, k, σ.comps, ns⟩] } → Q .none { s with heap := h' }) : wpAny (model PG w) A (call (.builtin "list.append") [.ref g.aX, v]) Q E s :=
  chs_append (sn := ⟨i, j, k, σ.comps, ns⟩) (pre := [_, _, _, _, _, _, _, _]) F N R.rep hc hz fun h' n' F' N' R' => h h' n' { q with lbs := q.lbs ++ [lb] } rfl rfl rfl F' N' ⟨R', R.ec⟩
theorem pop_choice {lbs : List Addr} {ss : List Sn} {lb0 : Addr} {sn0 : Sn} (F : Fr h₀ L s.heap m) (N : News h₀ L s.heap news) (R : RS w news imm kp g q σ) (el : q.lbs = lbs ++ [lb0]) (es : σ.past = ss ++ [sn0]) (hz : ss.length ≤ 20000)
    (h : ∀ h' news' v (q' : Vg), q'.sav = q.sav → q'.lbs = lbs → q'.cos = q.cos → Fr h₀ L h' m → News h₀ L h' news' → RS w news' imm kp g q' { σ with past := ss } → Q v { s with heap := h' }) : wpAny (model PG w) A (call (.builtin "list.pop") [.ref g.aX]) Q E s := by
  have R0 := R.rep
  unfold asOf at R0
  rw [el, es] at R0
  exact chs_pop (pre := [_, _, _, _, _, _, _, _]) F N R0 hz fun h' n' v F' N' R' => h h' n' v { q with lbs := lbs } rfl rfl rfl F' N' ⟨R', R.ec⟩
end
local macro_rules | `(tactic| walk_at "setItem ref str") => `(tactic| (k_here; first
  | ((with_reducible show wpAny _ _ (setItem (Value.ref (Gh.aW _)) (Value.str (PySem.Str.ofString "names") _) (Value.ref _)) _ _ _); k_dflt (refine wset_namesN (by k_asm) (by k_asm) (by assumption) ?_; k_whole); intro _ _ _ _ _ _ _ _ _; try k_sweep)
  | ((with_reducible show wpAny _ _ (setItem (Value.ref (Gh.aW _)) (Value.str (PySem.Str.ofString "companies") _) (Value.ref _)) _ _ _); k_dflt (refine wset_back (by k_asm) (by k_asm) (by assumption) (by walk_at "M.q") ?_; k_whole); intro _ _ _ _ _ _ _ _ _; try k_sweep)))
local macro_rules | `(tactic| walk_at "newTuple") => `(tactic| (k_here; (with_reducible show wpAny _ _ (newTuple [Value.int _ _, Value.int _ _, Value.int _ _, Value.ref _, Value.ref _]) _ _ _); k_dflt (refine new_choice (by k_asm) (by k_asm) (by assumption) (by walk_at "M.dat") ?_); intro _ _ _ _ _ _ _ _ _ _; try k_sweep))
local macro_rules | `(tactic| walk_at "setItem ref int") => `(tactic| (k_here; (with_reducible show wpAny _ _ (setItem (Value.ref (Gh.aX _)) (Value.int (-1) _) (Value.ref _)) _ _ _); k_dflt (refine set_choice (by k_asm) (by k_asm) (by assumption) (by walk_at "M.q") (by assumption) (by walk_at "M.ch") (by walk_at "M.ar") ?_; k_whole); intro _ _ _ _ _ _ _ _ _; try k_sweep))
local macro_rules | `(tactic| walk_at "call builtin:list.append") => `(tactic| (k_here; (with_reducible show wpAny _ _ (call (Value.builtin _) [Value.ref (Gh.aX _), _]) _ _ _); k_dflt (refine push_choice (by k_asm) (by k_asm) (by assumption) (by walk_at "M.ch") (by walk_at "M.ar") ?_; k_whole); intro _ _ _ _ _ _ _ _ _; try k_sweep))
local macro_rules | `(tactic| walk_at "call builtin:list.pop") => `(tactic| (k_here; (with_reducible show wpAny _ _ (call (Value.builtin _) [Value.ref (Gh.aX _)]) _ _ _); k_dflt (refine pop_choice (by k_asm) (by k_asm) (by assumption) (by walk_at "M.q") (by assumption) (by walk_at "M.ar") ?_; k_whole); intro _ _ _ _ _ _ _ _ _ _; try k_sweep))
local macro_rules | `(tactic| walk_at "M.q") => `(tactic| first | assumption | (refine' Eq.trans ?a ?b; (case a => assumption); (case b => walk_at "M.q")))
section
local macro_rules | `(tactic| walk_at "call type:list") => `(tactic| (k_here; (with_reducible show wpAny _ _ (call (Value.type _) [Value.ref _]) _ _ _); k_dflt (refine copy_mut (by k_asm) (by k_asm) (by assumption) (by walk_at "M.dat") (by walk_at "M.ar") ?_; k_whole); intro _ _ _ _ _ _ _; try k_sweep))
local macro_rules | `(tactic| walk_at "assign Tuple") => `(tactic| (k_here; (with_reducible show wpAny _ _ (assign (Expr.Tuple _ _ _) _ (Value.ref _)) _ _ _); k_dflt (refine unpackN_ (by k_asm) (by k_asm) (by exact News.isTup (by k_asm) (by assumption)) (by assumption) (by exact rfl) (by exact rfl) ?_; k_whole); intro h' F' N'; (try k_sweep)))
def returnedS (σ : St) (sn : Sn) : St :=
  { undoS σ sn.mark.toNat with heap := (undoS σ sn.mark.toNat).heap.take sn.high.toNat, stack := (undoS σ sn.mark.toNat).stack.take sn.wide.toNat, wtr := sn.mark, comps := sn.comps, names := sn.names }
theorem tied_back {q0 q1 q2 q3 : Vg} {σ : St} {sav0 : List (Addr × List (Addr × Co))} {D : Addr} {c : List (Addr × Co)} {l : List Addr} {ss : List Sn} {μ κ ω : Int} {cs : List Co} {ns : List Cl}
    (h1 : q0.sav = q1.sav) (h2 : q1.sav = q2.sav ++ [(D, c)]) (h3 : q2.sav = q3.sav) (h4 : q3.sav = sav0) (h5 : q0.lbs = l ++ [D]) (h6 : l = sav0.map (·.1)) (h7 : c.map (·.2) = cs) (h8 : sav0.map (fun s => s.2.map (·.2)) = ss.map (·.comps)) (h9 : σ.past = ss ++ [⟨μ, κ, ω, cs, ns⟩]) : Tied q0 σ := by
  refine ⟨?_, ?_⟩
  · rw [h5, h6, h1, h2, h3, h4]; simp
  · rw [h1, h2, h3, h4, h9, List.map_append, List.map_append, h8]; simp [h7]
theorem c_returned {R : Result → Shared → Prop} {μ κ ω : Nat} {cs : List Co} {ns : List Cl} {ss : List Sn}
    (C : Cx w A₀ A base h₀ env outer L mean mg mb (k + 3)) (F : Fr h₀ L s.heap m) (N : News h₀ L s.heap news) (Rp : RS w news imm kp g q σ) (hz : Sm σ) (ti : Tied q σ) (hp : σ.past = ss ++ [⟨μ, κ, ω, cs, ns⟩]) (hμ : μ ≤ σ.trail.length) (hκ : κ ≤ σ.heap.length) (hω : ω ≤ σ.stack.length) (ht : TrOk σ) (hcs : cs.length ≤ 20000) (hcn : ∀ c ∈ cs, c.names.length ≤ 20000) (hns : ns.length ≤ 20000)
    (h : ∀ h' tk news' imm' q', Fr h₀ L h' m → News h₀ L h' news' → RS w news' imm' kp g q' (returnedS σ ⟨μ, κ, ω, cs, ns⟩) → Sub imm imm' → Tied q' (returnedS σ ⟨μ, κ, ω, cs, ns⟩) → R (.ok (.ret .none)) { s with heap := h', toks := tk }) :
    codeAny (model PG w) A (.call (.ref 294) ⟨[.ref g.x, .ref g.aW], []⟩) R s := by
  have zP := hz.past; have zH := hz.heap; have zK := hz.stack
  have hl : σ.past.getLast? = some ⟨μ, κ, ω, cs, ns⟩ := by rw [hp]; simp
  have eh : (undoS σ μ).heap.length = σ.heap.length := undoH_len _ _
  have ek : (undoS σ μ).stack.length = σ.stack.length := undoK_len _ _
  have hκ' : κ ≤ (undoS σ μ).heap.length := by omega
  have z1 : Sm (undoS σ μ) := ⟨by omega, by omega, by have := hz.trail; simp only [undoS, List.length_take]; omega, hz.comps, hz.names, hz.past, hz.co⟩
  -- the saved list of the newest choice
  obtain ⟨sav0, lb, las, hq⟩ : ∃ sav0 lb las, q.sav = sav0 ++ [(lb, las)] := by
    have e := ti.es
    rw [hp] at e
    have hne : q.sav ≠ [] := fun e0 => by rw [e0] at e; simp at e
    obtain ⟨l, x, hx⟩ := List.eq_nil_or_concat q.sav |>.resolve_left hne
    exact ⟨l, x.1, x.2, by rw [hx]; simp⟩
  have hlb : q.lbs = sav0.map (·.1) ++ [lb] := by rw [ti.lbs, hq]; simp
  have hes : sav0.map (fun s => s.2.map (·.2)) ++ [las.map (·.2)] = ss.map (·.comps) ++ [cs] := by
    have e := ti.es
    rw [hq, hp] at e
    simpa using e
  have hes1 := List.append_inj' hes rfl
  have hcl : las.map (·.2) = cs := by simpa using hes1.2
  subst hcl
  have zR : Sm (returnedS σ ⟨μ, κ, ω, las.map (·.2), ns⟩) := ⟨by
    show ((undoS σ μ).heap.take κ).length ≤ 20000
    rw [List.length_take]; omega, by
    show ((undoS σ μ).stack.take ω).length ≤ 20000
    rw [List.length_take]; omega, z1.trail, hcs, hns, hz.past, hcn⟩
  have hlast : q.lbs.getLast? = some lb := by rw [hlb]; simp
  have X₀ := C.X
  k_enter
  intro g1 L1 h1 FG F1 N1 C1
  have B1 := C1.B; have X1 := C1.X; have T1 := C1.T; have hA1 := C1.hA; have hh1 := C1.hh; have hu1 := units_of C1.hunit
  try dsimp only
  try k_fold
  try clear N
  clear F
  k_steps
  rename_i aC lb2 hlb2 hch
  rw [hlast] at hlb2
  cases hlb2
  have hch0 := hch
  obtain ⟨a0, n0, t1, t2, t3, ln, e, hm, dn⟩ := hch0
  cases e
  have hmn := Rp.rep.immn _ hm
  dsimp only at hmn dn
  have zns : ns.length ≤ 100000 := by omega
  k_steps
  refine h _ _ _ _ _ (by assumption) (by assumption) (by assumption) (by walk_at "M.sub") ?_
  exact tied_back (σ := returnedS σ _) (ss := ss) (by assumption) (by assumption) (by assumption) (by assumption) (by assumption) rfl (by assumption) hes1.1 hp
end
local macro_rules | `(tactic| walk_at "call ref") => `(tactic| (k_here; (with_reducible show wpAny _ _ (call (Value.ref 294) _ _) _ _ _); k_dflt (refine wpAny_call (c_returned (by assumption) (by k_asm) (by k_asm) (by assumption) (by walk_at "M.sm") (by assumption) (by assumption) (by walk_at "M.rng") (by walk_at "M.rng") (by walk_at "M.rng") (by assumption) (by assumption) (by assumption) (by assumption) ?_); k_whole); walk_at "M.end"))
section
variable {prog : Program} {w : World} {A : Around} {E : Value → Shared → Prop} {s : Shared} {env : Env} {h₀ : Heap} {x : Str} {body : List Stmt} {Q : Flow → Shared → Prop}
set_option maxHeartbeats 3200000 in
theorem rng_iter {r : Addr} {a₀ b₀ : Int} {t₀ u₀ v₀ : Tok} {n : Nat} {m₀ : Str → Option Value} {news : List (Addr × Obj)} (J : Nat → (Str → Option Value) → List (Addr × Obj) → Prop)
    (hh : A.handled = none) (hr : IsRange s.heap r a₀ b₀ 1 t₀ u₀ v₀) (hsmall : Builtin.Range.small a₀ b₀ 1 = true) (hsz : Builtin.Range.rangeSize a₀ b₀ 1 = (n : Int)) (F : Fr h₀ env.locals s.heap m₀) (N : News h₀ env.locals s.heap news) (hj : J 0 m₀ news)
    (turn : ∀ i t m₁ nx h tk own, i < n → OwnOff own (nx.map (·.1)) → J i m₁ nx → Fr h₀ env.locals h (fun y => if y = x then some (.int (a₀ + (i : Nat)) t) else m₁ y) → News h₀ env.locals h (nx ++ own) →
      wpAny (model prog w) A (execs body env) (InvPostG h₀ env.locals (J (i + 1)) own { s with heap := h, toks := tk } Q) E { s with heap := h, toks := tk })
    (done : ∀ m₁ nx h tk, J n m₁ nx → Fr h₀ env.locals h m₁ → News h₀ env.locals h nx → Q .next { s with heap := h, toks := tk }) :
    wpAny (model prog w) A (pyIter (.ref r)) (fun it s₂ => LoopAtV prog w A h₀ env x body Q E it s₂) E s := by
  refine wpAny_pyIter_range hr hsmall ?_
  have W : Walks prog w A s.heap.objs.size [s.heap.objs.size] [s.heap.objs.size] n (fun i v => i < n ∧ ∃ t, v = .int (a₀ + i * 1) t)
      (fun i h => IsRangeIter h s.heap.objs.size (a₀ + (i : Nat) * 1) ((n : Int) - (i : Nat)) 1) := (Walks.range hh _ a₀ 1 n).bound
  refine kdr_loop J W (fun _ h => h) (fun _ h => h) ?_ ?_ ?_ ?_ (by show IsRangeIter _ _ _ _ _; rw [hsz]; simpa using Heap.get?_push_size _ rfl) (F.push _) (fun p hp => ⟨Heap.get?_push_of_some _ (N p hp).1, (N p hp).2⟩) hj ?_ ?_
  · intro i h hi b hb
    rw [List.mem_singleton.mp hb]
    exact ⟨_, hi⟩
  · intro hm
    exact absurd F.ns.lt ((List.mem_singleton.mp hm) ▸ Nat.lt_irrefl _)
  · intro b hb
    rw [List.mem_singleton.mp hb]
    exact next_is_new F
  · intro p hp hI
    exact absurd (Heap.lt_size (N p hp).1) ((List.mem_singleton.mp hI) ▸ Nat.lt_irrefl _)
  · rintro i v m₁ nx h tk own hi ⟨_, t, rfl⟩ hoff hJ F₁ N₁
    have e1 : a₀ + (i : Int) * 1 = a₀ + (i : Int) := by omega
    rw [e1] at F₁
    exact turn i t m₁ nx h tk own hi hoff hJ F₁ N₁
  · intro m₁ nx h tk hJ F₁ N₁
    exact done m₁ nx h tk hJ F₁ N₁
end
theorem small_len {n : Nat} (h : n ≤ 20000) : Builtin.Range.small 0 (n : Int) 1 = true := small_one (by omega) (by omega) (by omega) (by omega)
structure SoundOk (σ : St) : Prop where
  hH : ∀ (i : Nat) c, σ.heap[i]? = some c → c.1 ≠ 1 ∧ (c.1 = 0 → c.2 ≤ (i : Int))
  hK : ∀ (i : Nat) c, σ.stack[i]? = some c → c.1 = 1 → c.2 ≤ (i : Int)
  nm : ∀ c ∈ σ.names, ∃ i co n, findCo σ.comps c = some i ∧ σ.comps[i]? = some co ∧ co.names ≠ [] ∧ Dr σ.heap σ.stack n c (endS co) ∧ Rt σ (endS co) ∧ 0 ≤ (endS co).2 ∧ ((endS co).1 = 5 ∨ (endS co).1 = 0 ∨ (endS co).1 = 1)
  tr : (σ.trail.length : Int) = σ.wtr
theorem inv_endS {h₀ : Heap} {L : Addr} {J : (Str → Option Value) → List (Addr × Obj) → Prop} {own news news' : List (Addr × Obj)} {s₁ : Shared} {h' : Heap} {tk : Nat} {m' : Str → Option Value} (F : Fr h₀ L h' m') (N : News h₀ L h' news') (hs : Sub (news ++ own) news') (ha : OwnOff own (news.map (·.1))) (hj : J m' news) :
    InvEndG h₀ L J own s₁ { s₁ with heap := h', toks := tk } := ⟨h', tk, m', _, news, rfl, F, N, fun _ h => hs _ (List.mem_append_left _ h), fun _ h => hs _ (List.mem_append_right _ h), ha, hj⟩
theorem c_sound {R : Result → Shared → Prop}
    (C : Cx w A₀ A base h₀ env outer L mean mg mb (k + 4)) (F : Fr h₀ L s.heap m) (N : News h₀ L s.heap news) (Rp : RS w news imm kp g q σ) (hz : Sm σ) (ok : SoundOk σ)
    (h : ∀ h' tk, Fr h₀ L h' m → News h₀ L h' news → R (.ok (.ret (.bool true))) { s with heap := h', toks := tk }) :
    codeAny (model PG w) A (.call (.ref 301) ⟨[.ref g.x, .ref g.aW], []⟩) R s := by
  have zH := hz.heap; have zK := hz.stack
  have zH' : σ.heap.length ≤ 100000 := Nat.le_trans zH (by decide)
  have zK' : σ.stack.length ≤ 100000 := Nat.le_trans zK (by decide)
  have X₀ := C.X
  k_enter
  intro g1 L1 h1 FG F1 N1 C1
  have B1 := C1.B; have X1 := C1.X; have T1 := C1.T; have hA1 := C1.hA; have hh1 := C1.hh; have hu1 := units_of C1.hunit
  try dsimp only
  try k_fold
  try clear N
  clear F
  k_steps
  refine rng_iter (n := σ.heap.length) (fun j m₁ nx => nx = news ∧ m₁ (Str.ofString "world") = some (.ref g.aW) ∧ m₁ (Str.ofString "cells") = some (.ref g.x)) hh1 (by assumption) (small_len zH) (rangeSize_nat _ _) (by assumption) (by assumption) ⟨rfl, rfl, rfl⟩ ?_ ?_
  · rintro i t m₁ nx h2 tk own hi hoff ⟨rfl, e1, e2⟩ F2 N2
    have R2 := Rp.more (kept_sub (own := own))
    have F3 := Fr_vw F2 [(Str.ofString "cells", .ref g.x), (Str.ofString "world", .ref g.aW), (Str.ofString "address", .int (0 + (i : Int)) t)] ⟨up_ne (y := Str.ofString "cells") (by decide) e2, up_ne (y := Str.ofString "world") (by decide) e1, if_pos rfl, trivial⟩
    clear F2 Rp
    have ec : σ.heap[(0 + (i : Int)).toNat]? = some σ.heap[i] := by
      rw [show (0 + (i : Int)).toNat = i by omega]; exact List.getElem?_eq_getElem hi
    have oc := ok.hH i _ (List.getElem?_eq_getElem hi)
    generalize σ.heap[i] = cell at ec oc
    obtain ⟨o1, o2⟩ := oc
    by_cases c0 : cell.1 = 0
    · have c2 := o2 c0
      k_steps
      exact inv_end (by assumption) (by assumption) hoff ⟨rfl, rfl, rfl⟩
    · k_steps
      exact inv_end (by assumption) (by assumption) hoff ⟨rfl, rfl, rfl⟩
  rintro m₁ nx h2 tk ⟨rfl, e1, e2⟩ F2 N2
  have F3 := Fr_vw F2 [(Str.ofString "cells", .ref g.x), (Str.ofString "world", .ref g.aW)] ⟨e2, e1, trivial⟩
  clear F2
  k_steps
  refine rng_iter (n := σ.stack.length) (fun j m₁ nx' => nx' = nx ∧ m₁ (Str.ofString "world") = some (.ref g.aW) ∧ m₁ (Str.ofString "cells") = some (.ref g.x)) hh1 (by assumption) (small_len zK) (rangeSize_nat _ _) (by assumption) (by assumption) ⟨rfl, rfl, rfl⟩ ?_ ?_
  · rintro i t m₁ nx' h2 tk own hi hoff ⟨rfl, e1, e2⟩ F2 N2
    have R2 := Rp.more (kept_sub (own := own))
    have F3 := Fr_vw F2 [(Str.ofString "cells", .ref g.x), (Str.ofString "world", .ref g.aW), (Str.ofString "place", .int (0 + (i : Int)) t)] ⟨up_ne (y := Str.ofString "cells") (by decide) e2, up_ne (y := Str.ofString "world") (by decide) e1, if_pos rfl, trivial⟩
    clear F2 Rp
    have ec : σ.stack[(0 + (i : Int)).toNat]? = some σ.stack[i] := by
      rw [show (0 + (i : Int)).toNat = i by omega]; exact List.getElem?_eq_getElem hi
    have oc := ok.hK i _ (List.getElem?_eq_getElem hi)
    generalize σ.stack[i] = cell at ec oc
    by_cases c0 : cell.1 = 1
    · have c2 := oc c0
      k_steps
      exact inv_end (by assumption) (by assumption) hoff ⟨rfl, rfl, rfl⟩
    · k_steps
      exact inv_end (by assumption) (by assumption) hoff ⟨rfl, rfl, rfl⟩
  rintro m₁ nx' h2 tk ⟨rfl, e1, e2⟩ F2 N2
  have F3 := Fr_vw F2 [(Str.ofString "cells", .ref g.x), (Str.ofString "world", .ref g.aW)] ⟨e2, e1, trivial⟩
  clear F2
  k_steps
  obtain ⟨vs, n, hm, dn⟩ := Rp.oN
  refine kdl_iter (fun j m₁ nx => nx = nx' ∧ m₁ (Str.ofString "world") = some (.ref g.aW) ∧ m₁ (Str.ofString "cells") = some (.ref g.x)) hh1 hm (by assumption) (by assumption) ⟨rfl, rfl, rfl⟩ ?_ ?_
  · rintro j v m₁ nx h2 tk own hv hoff hm2 ⟨rfl, e1, e2⟩ F2 N2
    have R2 := Rp.more (kept_sub (own := own))
    obtain ⟨c, hcm, hcd⟩ : ∃ c, c ∈ σ.names ∧ DatIn imm v (cd c) := by
      have hlt : j < σ.names.length := by
        have := (List.getElem?_eq_some_iff.mp hv).1
        rw [cells_len dn] at this; exact this
      obtain ⟨v', e, d⟩ := cells_get dn (List.getElem?_eq_getElem hlt)
      rw [hv] at e
      cases e
      exact ⟨_, List.getElem_mem hlt, d⟩
    obtain ⟨a, rfl⟩ : ∃ a, v = .ref a := by
      cases hcd with
      | tuple _ _ => exact ⟨_, rfl⟩
    obtain ⟨i, co, nd, hf, hi, hne, hd, hr, h0, ht⟩ := ok.nm c hcm
    obtain ⟨b, hb⟩ : ∃ b, q.cos[i]? = some (b, co) := by
      rw [← Rp.ec, List.getElem?_map] at hi
      obtain ⟨⟨b, co'⟩, e1, e2⟩ := Option.map_eq_some_iff.mp hi
      cases e2
      exact ⟨b, e1⟩
    have hco : (b, co) ∈ q.cos := List.mem_of_getElem? hb
    have hcz : co.names.length ≤ 20000 := hz.co co (List.mem_of_getElem? hi)
    have F3 := Fr_vw F2 [(Str.ofString "cells", .ref g.x), (Str.ofString "world", .ref g.aW), (Str.ofString "name", .ref a)] ⟨up_ne (y := Str.ofString "cells") (by decide) e2, up_ne (y := Str.ofString "world") (by decide) e1, if_pos rfl, trivial⟩
    clear F2 Rp
    have hk : (decide ((endS co).1 = 0 ∨ (endS co).1 = 1) != ((endS co).1 != 5)) = false := by
      rcases ht with e | e | e <;> rw [e] <;> decide
    k_steps
    exact inv_endS (news := nx) (by assumption) (by assumption) (by walk_at "M.sub") hoff ⟨hm2, rfl, rfl, rfl⟩
  · rintro m₁ nx h2 tk ⟨rfl, e1, e2⟩ F2 N2
    have F3 := Fr_vw F2 [(Str.ofString "cells", .ref g.x), (Str.ofString "world", .ref g.aW)] ⟨e2, e1, trivial⟩
    clear F2
    k_steps
    have h9 : ((σ.trail.length : Int) == σ.wtr) = true := by rw [ok.tr]; exact beq_self_eq_true _
    rw [h9]
    exact h _ _ (by assumption) (by assumption)
local macro_rules | `(tactic| walk_at "call ref") => `(tactic| (k_here; (with_reducible show wpAny _ _ (call (Value.ref 301) _ _) _ _ _); k_dflt (refine wpAny_call (c_sound (by assumption) (by k_asm) (by k_asm) (by assumption) (by walk_at "M.sm") (by assumption) ?_); k_whole); walk_at "M.end"))
section
local macro_rules | `(tactic| k_mem) => `(tactic| first | assumption | exact .head _ | exact .tail _ (by assumption))
def tapeO (aS : Addr) (p : Int) (t : Tok) (n : Nat) : Obj := W.listOf #[.ref aS, .int p t] n
theorem c_pull {R : Result → Shared → Prop} {aT aS : Addr} {p lim : Int} {tp tl : Tok} {nT nS : Nat} {vs : List Value} {ns : List Int}
    (C : Cx w A₀ A base h₀ env outer L mean mg mb (k + 1)) (F : Fr h₀ L s.heap m) (N : News h₀ L s.heap news) (Rp : RS w news imm ((aT, tapeO aS p tp nT) :: kp) g q σ)
    (hS : (aS, W.listOf vs.toArray nS) ∈ imm) (hi : IntsAre vs ns) (hsz : ns.length ≤ 60) (h0 : 0 ≤ p) (hp1 : p ≤ ns.length) (hlim : 1 ≤ lim)
    (h : ∀ (p' : Int) tp' r tr h' tk news', 0 ≤ p' → p' ≤ ns.length → 0 ≤ r → r < lim → Fr h₀ L h' m → News h₀ L h' news' → RS w news' imm ((aT, tapeO aS p' tp' nT) :: kp) g q σ → R (.ok (.ret (.int r tr))) { s with heap := h', toks := tk }) :
    codeAny (model PG w) A (.call (.ref 230) ⟨[.ref aT, .int lim tl], []⟩) R s := by
  have hT := Rp.oKp (.head _)
  have hne : aS ≠ aT := Rp.rep.immoff _ hS (aT, .raw (tapeO aS p tp nT)) (by rw [asOf_split]; exact List.mem_append_right _ (.head _))
  have mS : (aS, W.listOf vs.toArray nS) ∈ off aT news := mem_off.mpr ⟨Rp.rep.immn _ hS, hne⟩
  have back : ∀ p' tp', RS w (put aT (tapeO aS p' tp' nT) news) imm ((aT, tapeO aS p' tp' nT) :: kp) g q σ := fun p' tp' =>
    ⟨by rw [asOf_split]; exact kp_in (Rp.kpSet (x := .raw (tapeO aS p' tp' nT)) rfl).rep, Rp.ec⟩
  have N1 := focus N hT
  have nT' : ∀ q ∈ off aT news, q.1 ≠ aT := off_ne
  have hvl := hi.length
  have hss : vs.toArray.size = ns.length := by simp [hvl]
  have h62 : ns.length < 2 ^ 62 := by omega
  clear N
  unfold tapeO at N1
  have X₀ := C.X
  k_enter
  intro g1 L1 h1 FG F1 N1 C1
  have B1 := C1.B; have X1 := C1.X; have T1 := C1.T; have hA1 := C1.hA; have hh1 := C1.hh; have hu1 := units_of C1.hunit
  try dsimp only
  try k_fold
  try clear N
  clear F
  k_steps
  · exact h _ _ _ _ _ _ _ h0 hp1 (by omega) (by omega) (by assumption) (by assumption) (back _ _)
  · refine h _ _ _ _ _ _ _ ?_ ?_ ?_ ?_ (by assumption) (by assumption) (back _ _)
    · omega
    · simp only [List.size_toArray] at *; omega
    · exact Int.fmod_nonneg_of_pos _ (by omega)
    · exact Int.fmod_lt_of_pos _ (by omega)
theorem mem_sub {a b : List (Addr × Obj)} {p : Addr × Obj} (s : Sub a b) (h : p ∈ a) : p ∈ b := s p h
end
local macro_rules | `(tactic| walk_at "M.imm") => `(tactic| first | assumption | (refine' mem_sub ?s ?h; (case s => (show Sub _ _); assumption); (case h => walk_at "M.imm")))
local macro_rules | `(tactic| walk_at "call ref") => `(tactic| (k_here; (with_reducible show wpAny _ _ (call (Value.ref 230) _ _) _ _ _); k_dflt (refine wpAny_call (c_pull (by assumption) (by k_asm) (by k_asm) (by assumption) (by walk_at "M.imm") (by assumption) (by assumption) (by assumption) (by assumption) (by walk_at "M.ar") ?_); k_whole); walk_at "M.end"))
section
variable {w : World} {A₀ A : Around} {base h₀ : Heap} {env : Env} {outer : List Env} {L : Addr} {mean : ExcName → Option Value} {mg mb : Str → Option Value} {k : Nat} {m : Str → Option Value} {news : List (Addr × Obj)} {s : Shared}
/-- a function with one cell variable -/
theorem Cx.enterC {R : Result → Shared → Prop} {name qual : Str} {params : Arguments} {body : List Stmt} {scope : Scope} {dV kV doc pm cdv ct oc : Value} {an od : Option Addr} {osl : Array (Option Value)} {f : Addr} {args : Args} {binds : List (Str × Value)} {x : Str}
    (C : Cx w A₀ A base h₀ env outer L mean mg mb (k + 1)) (F : Fr h₀ L s.heap m) (N : News h₀ L s.heap news)
    (ho : (hd.heap_1 w.params).lookup f = some ⟨oc, od, .func (fnOf name qual params body scope dV kV doc pm an cdv ct), osl⟩) (hcd : codeIn (hd.heap_1 w.params) cdv qual = true)
    (hbind : BindsTo s (fnOf name qual params body scope dV kV doc pm an cdv ct) args binds) (hkind : (binds.all fun y => scope.names.lookup y.1 == some .local || scope.names.lookup y.1 == some .cell) = true)
    (hnd : ((cellsFrom 0 scope.names []).map (·.1)).Nodup) (hcl : ∀ L', cellsFrom (L' + 1) scope.names [] = [(x, L' + 1)])
    (hx : ∀ L', bindC (envOfC qual scope L' f cdv).kindOf binds (fun _ => none) x = none)
    (h : ∀ g L' h₁ tk o, Fr h₀ L g m → Fr g L' h₁ (bindL (envOfC qual scope L' f cdv).kindOf binds fun _ => none) → News g L' h₁ ((L' + 1, o) :: news) → o.data = .cell none → (∀ p ∈ news, p.1 ≠ L' + 1) →
      Cx w A (A.deeper (envOfC qual scope L' f cdv)) base g (envOfC qual scope L' f cdv) (env :: outer) L' mean mg mb k →
      wpAny (model PG w) (A.deeper (envOfC qual scope L' f cdv)) (execs body (envOfC qual scope L' f cdv))
        (fun fl s' => LeaveK h₀ L m g R (match fl with | .ret v => v | _ => .none) s') (fun _ _ => False)
        { s with heap := h₁, toks := tk })
    (hco : scope.isCoroutine = false) (hgen : scope.isGenerator = false) (hk : scope.kind = .function) : codeAny (model PG w) A (.call (.ref f) args) R s := by
  refine code_defC (K := hd.heap_1 w.params) C.B F C.X N C.T C.hA C.hf C.hke ho hcd (by have := C.hroom; unfold recursionLimit; omega) hbind hkind hnd (fun g L' h₁ tk cells FG F' N' hc B' X' T' hlt => ?_) hco hgen hk
  rw [hcl] at hc
  obtain ⟨o, rfl, hd⟩ := hc.one
  rw [hx] at hd
  refine wpAny_mono (h g L' h₁ tk o FG F' N' hd (fun p hp => Nat.ne_of_lt (Nat.lt_succ_of_lt (hlt p hp))) ⟨B', X', T', ?_, rfl, hk, C.hh, ?_, ?_⟩) (fun _ _ x => x) (fun _ _ x => x.elim)
  · simp only [Around.deeper, C.hA, Option.map]
  · have := C.hroom; simp only [Around.deeper]; omega
  · have := C.hunit; simp only [Around.deeper]; omega
end
section
variable {w : World} {A : Around} {h₀ : Heap} {L c : Addr} {m : Str → Option Value} {news imm kp : List (Addr × Obj)} {g : Gh} {q : Vg} {σ : St} {s : Shared} {E : Value → Shared → Prop} {QU : Unit → Shared → Prop} {Q : Value → Shared → Prop} {o : Obj}
theorem RS.kpMut (R : RS w news imm ((c, o) :: kp) g q σ) (o' : Obj) : RS w (put c o' news) imm ((c, o') :: kp) g q σ :=
  ⟨by rw [asOf_split]; exact kp_in (R.kpSet (x := .raw o') rfl).rep, R.ec⟩
theorem cell_store {x cn : Str} {cs : Scope} {a : Addr} {ccd v : Value} {cl : List (Str × Addr)} {v₀ : Option Value} (F : Fr h₀ L s.heap m) (N : News h₀ L s.heap news) (R : RS w news imm ((c, o) :: kp) g q σ) (hc : cl.lookup x = some c) (hd : o.data = .cell v₀)
    (h : ∀ h' news' o', Fr h₀ L h' m → News h₀ L h' news' → RS w news' imm ((c, o') :: kp) g q σ → o'.data = .cell (some v) → QU () { s with heap := h' })
    (hk : cs.kind = .function := by rfl) (hx : (envX cn cs L a ccd cl).kindOf x = some .cell := by rfl) : wpAny (model PG w) A (storeName (envX cn cs L a ccd cl) x v) QU E s :=
  storeX_C F (focus N (R.oKp (.head _))) hc (UpdF.head off_ne) hd (fun h' o' F' N' d => h h' _ o' F' N' (R.kpMut o') d) hk hx
end
section
variable {w : World} {A : Around} {s : Shared} {h₀ : Heap} {L l : Addr} {m : Str → Option Value} {news imm kp : List (Addr × Obj)} {g : Gh} {q : Vg} {σ : St} {E : Value → Shared → Prop} {Q : Value → Shared → Prop} {u v x : Value} {c d e : Cl} {n : Nat}
def EqHere (A : Around) (s : Shared) (y x : Value) (b : Bool) : Prop := ∀ (prog : Program) (w : World) (E : Value → Shared → Prop) (Q : Bool → Shared → Prop), Q b s → wpAny (model prog w) A (eqBool y x) Q E s
theorem eqHere_cells (N : News h₀ L s.heap news) (hs : ∀ p ∈ imm, p ∈ news) (hc : DatIn imm u (cd c)) (hd : DatIn imm v (cd d)) (hu : A.units + 64 < cLine) : EqHere A s u v (decide (c = d)) := by
  intro prog w E Q h
  obtain ⟨as, ra⟩ := kqd_in N 8 (hc.mono hs) rfl
  obtain ⟨bs, rb⟩ := kqd_in N 8 (hd.mono hs) rfl
  have la := kqd_lay 8 (cd c) rfl
  have lb := kqd_lay 8 (cd d) rfl
  exact SeqAt.eqAt_reads _ _ A s u v as bs ra rb la.1 lb.1 (by have := la.2; have := lb.2; omega) prog w E Q (by rw [cell_eqv]; exact h)
end
def EqNear (A : Around) (s : Shared) (y x : Value) (b : Bool) : Prop := ∀ A' : Around, A'.units ≤ A.units + 8 → EqHere A' s y x b
theorem remove2_meets (l : Addr) (items : Array Value) (hz : items.size ≤ sizeLine) (u v x : Value) (h0 : items[0]? = some u) (h1 : items[1]? = some v) (n : Nat) (b : Bool) : Meets (Builtin.«list.remove» ⟨[.ref l, x], []⟩)
    (fun A R s => (s.heap.get? l = some { cls := .type "list", dict := none, data := .seq items n, slots := #[] } ∧ EqNear A s u x b ∧ (b = false → EqNear A s v x true)) ∧ R (.ok (.ret .none)) { s with heap := s.heap.update l (Obj.mapSeq fun xs => xs.eraseIdxIfInBounds (if b then 0 else 1)) }) := by
  intro prog w A R s h
  obtain ⟨hp, g, d, tk, os⟩ := s; obtain ⟨⟨hl, e1, e2⟩, h⟩ := h
  wp_walk using wpAny_loadPart' hl
  refine ⟨plainId_quiet MeetsSeq.plain_remove_loop _, codeAny_builtin MeetsSeq.entry_remove_loop ?_⟩
  rw [Around.under_plainId MeetsSeq.plain_remove_loop _]
  wp_walk using wpAny_loadPart' hl
  have h0' : items[Int.toNat 0]? = some u := h0
  rw [h0']
  refine wpAny_bind (e1 _ ?_ prog w _ _ ?_)
  · show A.units + 1 ≤ A.units + 8
    omega
  cases b with
  | true =>
    have hz' : (items.eraseIdxIfInBounds 0).size ≤ sizeLine + 1 := Nat.le_trans (MeetsSeq.size_erased items _) (Nat.le_succ_of_le hz)
    wp_walk using (wpAny_updateSeq hl rfl (hz := hz) (_hz' := hz')), wpAny_loadPart' hl
    simpa using h
  | false =>
    wp_walk
    refine ⟨plainId_quiet MeetsSeq.plain_remove_loop _, codeAny_builtin MeetsSeq.entry_remove_loop ?_⟩
    rw [Around.under_plainId MeetsSeq.plain_remove_loop _]
    wp_walk using wpAny_loadPart' hl
    have h1' : items[Int.toNat (0 + 1)]? = some v := h1
    rw [h1']
    refine wpAny_bind (e2 rfl _ ?_ prog w _ _ ?_)
    · show A.units + 1 ≤ A.units + 8
      omega
    have hz' : (items.eraseIdxIfInBounds 1).size ≤ sizeLine + 1 := Nat.le_trans (MeetsSeq.size_erased items _) (Nat.le_succ_of_le hz)
    wp_walk using (wpAny_updateSeq hl rfl (hz := hz) (_hz' := hz')), wpAny_loadPart' hl
    simpa using h
theorem units_of2 {A : Around} {k : Nat} (h : A.units + 3 * k ≤ 900) : A.units + 80 < cLine := by unfold cLine; omega
section
variable {w : World} {A : Around} {s : Shared} {h₀ : Heap} {L l : Addr} {m : Str → Option Value} {news imm kp : List (Addr × Obj)} {g : Gh} {q : Vg} {σ : St} {E : Value → Shared → Prop} {Q : Value → Shared → Prop} {u v x : Value} {c d e : Cl} {n : Nat}
theorem remove_two (F : Fr h₀ L s.heap m) (N : News h₀ L s.heap news) (R : RS w news imm ((l, W.listOf #[u, v] n) :: kp) g q σ) (hc : DatIn imm u (cd c)) (hd : DatIn imm v (cd d)) (he : DatIn imm x (cd e)) (hor : e = c ∨ e = d) (hu : A.units + 80 < cLine)
    (h : ∀ h' news', Fr h₀ L h' m → News h₀ L h' news' → RS w news' imm ((l, W.listOf #[if e = c then v else u] (n + 1)) :: kp) g q σ → Q .none { s with heap := h' }) :
    wpAny (model PG w) A (call (.builtin "list.remove") [.ref l, x]) Q E s := by
  have N1 := focus N (R.oKp (.head _))
  have z := N1 _ (.head _)
  have hm := R.rep.immn
  refine call_meets PySem.F.slot_list_remove ⟨_, z.1, rfl⟩ PySem.F.entry_list_remove (PySem.F.args_list_remove_2 _ _)
    (remove2_meets l #[u, v] (by rw [sizeLine_eq]; simp) u v x rfl rfl n (decide (c = e))) ⟨⟨z.1, fun A' hA => ?_, fun hb A' hA => ?_⟩, ?_⟩
  · exact eqHere_cells N hm hc he (by omega)
  · have : decide (d = e) = true := by
      have h1 := of_decide_eq_false hb
      rcases hor with r | r
      · exact absurd r.symm h1
      · exact decide_eq_true r.symm
    rw [← this]
    exact eqHere_cells N hm hd he (by omega)
  · by_cases r : e = c
    · subst r
      rw [if_pos rfl] at h
      refine h _ _ (F.change (Heap.SameBut.update ..) z.2.1 z.2.2) (ki_turn (pre := []) _ N1 (fun _ hp => nomatch hp) off_ne ?_ ?_) (R.kpMut _)
      · simp
      · simp
    · rw [if_neg r] at h
      rw [decide_eq_false (fun x => r x.symm)]
      refine h _ _ (F.change (Heap.SameBut.update ..) z.2.1 z.2.2) (ki_turn (pre := []) _ N1 (fun _ hp => nomatch hp) off_ne ?_ ?_) (R.kpMut _)
      · simp
      · simp
end
section
variable {w : World} {A : Around} {s : Shared} {h₀ : Heap} {L l : Addr} {m : Str → Option Value} {news imm kp : List (Addr × Obj)} {g : Gh} {q : Vg} {σ : St} {E : Value → Shared → Prop} {Q : Value → Shared → Prop} {u v : Value}
theorem new_pairK (F : Fr h₀ L s.heap m) (N : News h₀ L s.heap news) (R : RS w news imm kp g q σ)
    (h : ∀ h' news' b, Fr h₀ L h' m → News h₀ L h' news' → RS w news' imm ((b, W.listOf #[u, v] 0) :: kp) g q σ → Q (.ref b) { s with heap := h' }) : wpAny (model PG w) A (newList [u, v]) Q E s :=
  newList_N F N (fun h' F' N' => h h' _ _ F' N' (R.newK fun p hp => Nat.ne_of_lt (Heap.lt_size (N p hp).1))) (by rw [sizeLine_eq]; simp)
end
section
variable {w : World} {A : Around} {s : Shared} {h₀ : Heap} {L c : Addr} {m : Str → Option Value} {news imm kp : List (Addr × Obj)} {g : Gh} {q : Vg} {σ : St} {E : Value → Shared → Prop} {Q : Value → Shared → Prop} {v : Value} {o : Obj}
theorem cell_load {scope : Scope} {cl : List (Str × Addr)} {C : Addr} {env : Env} {x : Str} {pos : Pos} (N : News h₀ L s.heap news) (R : RS w news imm kp g q σ) (hm : (c, o) ∈ kp) (hd : o.data = .cell (some v)) (hc : cl.lookup x = some c) (h : Q v s)
    (hk : (compEnvC scope cl C env).scope.kind = .function := by rfl) (hl : (compEnvC scope cl C env).kindOf x = some .cell := by rfl) (hx : (x == ("__debug__" : Str)) = false := by decide) :
    wpAny (model PG w) A (eval (.Name x pos) (compEnvC scope cl C env)) Q E s := ldCellK hc ⟨o, (N _ (R.oKp hm)).1, hd⟩ h hk hl hx
end
section
local macro_rules | `(tactic| walk_at "M.kp") => `(tactic| first | assumption | exact List.Mem.head _ | (refine List.Mem.tail _ ?_; walk_at "M.kp"))
local macro_rules | `(tactic| k_mem) => `(tactic| first | assumption | (refine' RS.oKp ?R ?k; (case R => assumption); (case k => walk_at "M.kp")))
local macro_rules | `(tactic| walk_at "storeName") => `(tactic| (k_here; (with_reducible show wpAny _ _ (storeName _ (PySem.Str.ofString "right") _) _ _ _); k_dflt (refine' cell_store ?F ?N ?R ?c ?d ?_ ?a ?b; (case a => rfl); (case b => rfl); (case F => k_asm); (case N => k_asm); (case R => assumption); (case c => rfl); (case d => k_asm); k_whole); intro _ _ _ _ _ _ _; (try k_sweep)))
local macro_rules | `(tactic| walk_at "newList") => `(tactic| (k_here; (with_reducible show wpAny _ _ (newList [Value.ref _, Value.ref _]) _ _ _); k_dflt (refine new_pairK (by k_asm) (by k_asm) (by assumption) ?_); intro _ _ _ _ _ _; (try k_sweep); try dsimp only))
local macro_rules | `(tactic| walk_at "call builtin:list.remove") => `(tactic| (k_here; (with_reducible show wpAny _ _ (call (Value.builtin _) [Value.ref _, Value.ref _]) _ _ _); k_dflt (refine remove_two (by k_asm) (by k_asm) (by assumption) (by walk_at "M.dat") (by walk_at "M.dat") (by walk_at "M.dat") (by assumption) (by assumption) ?_; k_whole); intro _ _ _ _ _; (try k_sweep); try dsimp only))
def joinedS (σ : St) (i j : Nat) (l r : Co) : St := match l.worth, r.worth with
  | some _, some _ => σ
  | none, none =>
    let σ1 := pairS σ (oldestS l.names) (oldestS r.names)
    if l.names = r.names then σ1 else
      notedS { σ1 with comps := (σ1.comps.set i { l with names := l.names ++ r.names }).filter fun c => !decide (c.names = r.names) } (if oldestS (l.names ++ r.names) = oldestS l.names then oldestS r.names else oldestS l.names)
  | none, some v => bindS { notedS σ (oldestS l.names) with comps := (notedS σ (oldestS l.names)).comps.set i { l with worth := some v } } (oldestS l.names) (5, v)
  | some v, none => bindS { notedS σ (oldestS r.names) with comps := (notedS σ (oldestS r.names)).comps.set j { r with worth := some v } } (oldestS r.names) (5, v)
theorem joined_ww {R : Result → Shared → Prop} {a1 a2 b1 b2 : Addr} {c1 c2 : Cl} {l r : Co} {i j n1 n2 : Nat} {v1 v2 : Int}
    (C : Cx w A₀ A base h₀ env outer L mean mg mb (k + 5)) (F : Fr h₀ L s.heap m) (N : News h₀ L s.heap news) (Rp : RS w news imm kp g q σ) (hz : Sm σ) (h1 : DatIn imm (.ref a1) (cd c1)) (h2 : DatIn imm (.ref a2) (cd c2)) (f1 : findCo σ.comps c1 = some i) (f2 : findCo σ.comps c2 = some j) (i1 : q.cos[i]? = some (b1, l)) (i2 : q.cos[j]? = some (b2, r)) (d1 : Dr σ.heap σ.stack n1 c1 (endS l)) (d2 : Dr σ.heap σ.stack n2 c2 (endS r)) (w1 : l.worth = some v1) (w2 : r.worth = some v2)
    (h : ∀ h' tk news' imm', Fr h₀ L h' m → News h₀ L h' news' → RS w news' imm' kp g q σ → Sub imm imm' → R (.ok (.ret .none)) { s with heap := h', toks := tk }) :
    codeAny (model PG w) A (.call (.ref 268) ⟨[.ref g.x, .ref g.aW, .ref a1, .ref a2], []⟩) R s := by
  have m1 : (b1, l) ∈ q.cos := List.mem_of_getElem? i1
  have m2 : (b2, r) ∈ q.cos := List.mem_of_getElem? i2
  have X₀ := C.X
  refine' Cx.enterC (x := Str.ofString "right") ?kC ?kF ?kN ?k6 ?k7 ?k9 ?kB ?nd ?cl ?hx ?_ ?c2 ?c3 ?c4
  case kC => assumption
  case kF => assumption
  case kN => assumption
  case k6 => k_is
  case k7 => k_is
  case k9 => first | exact BindsTo.of_eq rfl | exact binds_K (by k_in) rfl (by k_is) rfl rfl rfl
  case kB => exact rfl
  case nd => decide
  case cl => intro _; rfl
  case hx => intro _; rfl
  case c2 => exact rfl
  case c3 => exact rfl
  case c4 => exact rfl
  intro g1 L1 h1' tk1 oc FG F1 N1 dc off1 C1
  have R1 := Rp.newK (o := oc) off1
  have B1 := C1.B; have X1 := C1.X; have T1 := C1.T; have hA1 := C1.hA; have hh1 := C1.hh; have hu1 := units_of C1.hunit; have hu2 := units_of2 C1.hunit
  try dsimp only
  try k_fold
  clear N F Rp
  k_steps
  exact h _ _ _ _ (by assumption) (by assumption) (RS.kpDrop (by assumption)) (Sub.refl _)
theorem joined_nw {R : Result → Shared → Prop} {a1 a2 b1 b2 : Addr} {c1 c2 : Cl} {l r : Co} {i j n1 n2 : Nat} {v2 : Int}
    (C : Cx w A₀ A base h₀ env outer L mean mg mb (k + 5)) (F : Fr h₀ L s.heap m) (N : News h₀ L s.heap news) (Rp : RS w news imm kp g q σ) (hz : Sm σ) (h1 : DatIn imm (.ref a1) (cd c1)) (h2 : DatIn imm (.ref a2) (cd c2)) (f1 : findCo σ.comps c1 = some i) (f2 : findCo σ.comps c2 = some j) (i1 : q.cos[i]? = some (b1, l)) (i2 : q.cos[j]? = some (b2, r)) (d1 : Dr σ.heap σ.stack n1 c1 (oldestS l.names)) (d2 : Dr σ.heap σ.stack n2 c2 (endS r)) (w1 : l.worth = none) (w2 : r.worth = some v2)
    (ne1 : l.names ≠ []) (zl : l.names.length ≤ 20000) (hs : Sz 19000 σ) (ht : (oldestS l.names).1 = 0 ∨ (oldestS l.names).1 = 1) (h0 : 0 ≤ (oldestS l.names).2) (hlh : (oldestS l.names).1 = 0 → (oldestS l.names).2 < σ.heap.length) (hlk : (oldestS l.names).1 = 1 → (oldestS l.names).2 < σ.stack.length)
    (h : ∀ h' tk news' imm' q', Fr h₀ L h' m → News h₀ L h' news' → RS w news' imm' kp g q' (bindS { notedS σ (oldestS l.names) with comps := (notedS σ (oldestS l.names)).comps.set i { l with worth := some v2 } } (oldestS l.names) (5, v2)) → Sub imm imm' → q'.sav = q.sav → q'.lbs = q.lbs → R (.ok (.ret .none)) { s with heap := h', toks := tk }) :
    codeAny (model PG w) A (.call (.ref 268) ⟨[.ref g.x, .ref g.aW, .ref a1, .ref a2], []⟩) R s := by
  have m1 : (b1, l) ∈ q.cos := List.mem_of_getElem? i1
  have m2 : (b2, r) ∈ q.cos := List.mem_of_getElem? i2
  dsimp only at h
  have e2 : endS r = (5, v2) := by unfold endS; rw [w2]
  rw [e2] at d2
  obtain ⟨eh, ek, ec⟩ : (notedS σ (oldestS l.names)).heap = σ.heap ∧ (notedS σ (oldestS l.names)).stack = σ.stack ∧ (notedS σ (oldestS l.names)).comps = σ.comps := by
    unfold notedS; split <;> exact ⟨rfl, rfl, rfl⟩
  have zN : Sm (notedS σ (oldestS l.names)) := (hs.noted).sm (by omega)
  have zW : Sm { notedS σ (oldestS l.names) with comps := (notedS σ (oldestS l.names)).comps.set i { l with worth := some v2 } } := ⟨zN.heap, zN.stack, zN.trail, by
    show (List.set _ _ _).length ≤ _
    rw [List.length_set]; exact zN.comps, zN.names, zN.past, fun c hc => by
    rcases List.mem_or_eq_of_mem_set hc with hc | rfl
    · exact zN.co c hc
    · exact zl⟩
  have hlh' : (oldestS l.names).1 = 0 → (oldestS l.names).2 < (notedS σ (oldestS l.names)).heap.length := by rw [eh]; exact hlh
  have hlk' : (oldestS l.names).1 = 1 → (oldestS l.names).2 < (notedS σ (oldestS l.names)).stack.length := by rw [ek]; exact hlk
  have X₀ := C.X
  refine' Cx.enterC (x := Str.ofString "right") ?kC ?kF ?kN ?k6 ?k7 ?k9 ?kB ?nd ?cl ?hx ?_ ?c2 ?c3 ?c4
  case kC => assumption
  case kF => assumption
  case kN => assumption
  case k6 => k_is
  case k7 => k_is
  case k9 => first | exact BindsTo.of_eq rfl | exact binds_K (by k_in) rfl (by k_is) rfl rfl rfl
  case kB => exact rfl
  case nd => decide
  case cl => intro _; rfl
  case hx => intro _; rfl
  case c2 => exact rfl
  case c3 => exact rfl
  case c4 => exact rfl
  intro g1 L1 h1' tk1 oc FG F1 N1 dc off1 C1
  have R1 := Rp.newK (o := oc) off1
  have B1 := C1.B; have X1 := C1.X; have T1 := C1.T; have hA1 := C1.hA; have hh1 := C1.hh; have hu1 := units_of C1.hunit; have hu2 := units_of2 C1.hunit
  try dsimp only
  try k_fold
  clear N F Rp
  k_steps
  exact h _ _ _ _ _ (by assumption) (by assumption) (RS.kpDrop (by assumption)) (by walk_at "M.sub") (by subst_vars; rfl) (by subst_vars; rfl)
theorem joined_wn {R : Result → Shared → Prop} {a1 a2 b1 b2 : Addr} {c1 c2 : Cl} {l r : Co} {i j n1 n2 : Nat} {v1 : Int}
    (C : Cx w A₀ A base h₀ env outer L mean mg mb (k + 5)) (F : Fr h₀ L s.heap m) (N : News h₀ L s.heap news) (Rp : RS w news imm kp g q σ) (hz : Sm σ) (h1 : DatIn imm (.ref a1) (cd c1)) (h2 : DatIn imm (.ref a2) (cd c2)) (f1 : findCo σ.comps c1 = some i) (f2 : findCo σ.comps c2 = some j) (i1 : q.cos[i]? = some (b1, l)) (i2 : q.cos[j]? = some (b2, r)) (d1 : Dr σ.heap σ.stack n1 c1 (endS l)) (d2 : Dr σ.heap σ.stack n2 c2 (oldestS r.names)) (w1 : l.worth = some v1) (w2 : r.worth = none)
    (ne1 : r.names ≠ []) (zl : r.names.length ≤ 20000) (hs : Sz 19000 σ) (ht : (oldestS r.names).1 = 0 ∨ (oldestS r.names).1 = 1) (h0 : 0 ≤ (oldestS r.names).2) (hlh : (oldestS r.names).1 = 0 → (oldestS r.names).2 < σ.heap.length) (hlk : (oldestS r.names).1 = 1 → (oldestS r.names).2 < σ.stack.length)
    (h : ∀ h' tk news' imm' q', Fr h₀ L h' m → News h₀ L h' news' → RS w news' imm' kp g q' (bindS { notedS σ (oldestS r.names) with comps := (notedS σ (oldestS r.names)).comps.set j { r with worth := some v1 } } (oldestS r.names) (5, v1)) → Sub imm imm' → q'.sav = q.sav → q'.lbs = q.lbs → R (.ok (.ret .none)) { s with heap := h', toks := tk }) :
    codeAny (model PG w) A (.call (.ref 268) ⟨[.ref g.x, .ref g.aW, .ref a1, .ref a2], []⟩) R s := by
  have m1 : (b1, l) ∈ q.cos := List.mem_of_getElem? i1
  have m2 : (b2, r) ∈ q.cos := List.mem_of_getElem? i2
  dsimp only at h
  have e2 : endS l = (5, v1) := by unfold endS; rw [w1]
  rw [e2] at d1
  obtain ⟨eh, ek, ec⟩ : (notedS σ (oldestS r.names)).heap = σ.heap ∧ (notedS σ (oldestS r.names)).stack = σ.stack ∧ (notedS σ (oldestS r.names)).comps = σ.comps := by
    unfold notedS; split <;> exact ⟨rfl, rfl, rfl⟩
  have zN : Sm (notedS σ (oldestS r.names)) := (hs.noted).sm (by omega)
  have zW : Sm { notedS σ (oldestS r.names) with comps := (notedS σ (oldestS r.names)).comps.set j { r with worth := some v1 } } := ⟨zN.heap, zN.stack, zN.trail, by
    show (List.set _ _ _).length ≤ _
    rw [List.length_set]; exact zN.comps, zN.names, zN.past, fun c hc => by
    rcases List.mem_or_eq_of_mem_set hc with hc | rfl
    · exact zN.co c hc
    · exact zl⟩
  have hlh' : (oldestS r.names).1 = 0 → (oldestS r.names).2 < (notedS σ (oldestS r.names)).heap.length := by rw [eh]; exact hlh
  have hlk' : (oldestS r.names).1 = 1 → (oldestS r.names).2 < (notedS σ (oldestS r.names)).stack.length := by rw [ek]; exact hlk
  have X₀ := C.X
  refine' Cx.enterC (x := Str.ofString "right") ?kC ?kF ?kN ?k6 ?k7 ?k9 ?kB ?nd ?cl ?hx ?_ ?c2 ?c3 ?c4
  case kC => assumption
  case kF => assumption
  case kN => assumption
  case k6 => k_is
  case k7 => k_is
  case k9 => first | exact BindsTo.of_eq rfl | exact binds_K (by k_in) rfl (by k_is) rfl rfl rfl
  case kB => exact rfl
  case nd => decide
  case cl => intro _; rfl
  case hx => intro _; rfl
  case c2 => exact rfl
  case c3 => exact rfl
  case c4 => exact rfl
  intro g1 L1 h1' tk1 oc FG F1 N1 dc off1 C1
  have R1 := Rp.newK (o := oc) off1
  have B1 := C1.B; have X1 := C1.X; have T1 := C1.T; have hA1 := C1.hA; have hh1 := C1.hh; have hu1 := units_of C1.hunit; have hu2 := units_of2 C1.hunit
  try dsimp only
  try k_fold
  clear N F Rp
  k_steps
  exact h _ _ _ _ _ (by assumption) (by assumption) (RS.kpDrop (by assumption)) (by walk_at "M.sub") (by subst_vars; rfl) (by subst_vars; rfl)
end
section
variable {w : World} {A : Around} {s : Shared} {h₀ : Heap} {L b d : Addr} {m : Str → Option Value} {news imm kp : List (Addr × Obj)} {g : Gh} {q : Vg} {σ : St} {E : Value → Shared → Prop} {Q : Value → Shared → Prop} {QU : Unit → Shared → Prop}
theorem nodup_fst {α β : Type} {l : List (α × β)} (h : (l.map (·.1)).Nodup) {a : α} {x y : β} (h1 : (a, x) ∈ l) (h2 : (a, y) ∈ l) : x = y := by
  induction l with
  | nil => cases h1
  | cons p r ih =>
    rw [List.map_cons, List.nodup_cons] at h
    rcases List.mem_cons.mp h1 with e1 | e1 <;> rcases List.mem_cons.mp h2 with e2 | e2
    · rw [← e1] at e2; exact (Prod.mk.inj e2).2.symm
    · exact absurd (List.mem_map_of_mem (f := (·.1)) e2) (by rw [← e1] at h; exact h.1)
    · exact absurd (List.mem_map_of_mem (f := (·.1)) e1) (by rw [← e2] at h; exact h.1)
    · exact ih h.2 e1 e2
theorem RS.cosNd (R : RS w news imm kp g q σ) : (q.cos.map (·.1)).Nodup := by
  have nd := R.rep.nd
  rw [asOf_split] at nd
  have sl : (cosAs q.cos).Sublist (asSt g q σ ++ kpAs kp) := by
    refine List.Sublist.trans ?_ (List.sublist_append_left _ _)
    unfold asSt
    refine List.Sublist.trans (List.sublist_append_left _ (savAs q.sav)) ?_
    exact List.sublist_append_right [(g.x, As.inst g.dx), (g.dx, .cdict g.aH q.aK g.aR σ.hb σ.bb), (g.aH, .cells σ.heap), (q.aK, .cells σ.stack), (g.aR, .ints σ.trail), (g.aW, .world q.aC q.aN g.aX σ.wtr), (q.aC, .refs (q.cos.map (·.1))), (q.aN, .cells σ.names), (g.aX, .chs q.lbs σ.past)] _
  have := nd.sublist (sl.map (·.1))
  unfold cosAs at this
  rw [List.map_map] at this
  exact this
open Classical in
noncomputable def compV (cos : List (Addr × Co)) (rn : List Cl) (v : Value) : Bool := decide (∃ b co, v = .ref b ∧ (b, co) ∈ cos ∧ co.names ≠ rn)
def cosN (cos : List (Addr × Co)) (rn : List Cl) : List (Addr × Co) := cos.filter fun p => !decide (p.2.names = rn)
open Classical in
theorem compV_eq {cos : List (Addr × Co)} {rn : List Cl} {co : Co} (nd : (cos.map (·.1)).Nodup) (h : (b, co) ∈ cos) : compV cos rn (.ref b) = !@decide (co.names = rn) (instDecidableEqList _ _) := by
  unfold compV
  by_cases e : co.names = rn
  · rw [decide_eq_true e]
    refine decide_eq_false ?_
    rintro ⟨b', co', e1, e2, e3⟩
    cases e1
    rw [nodup_fst nd e2 h] at e3
    exact e3 e
  · rw [decide_eq_false e]
    exact decide_eq_true ⟨b, co, rfl, h, e⟩
theorem compV_filter {cos : List (Addr × Co)} {rn : List Cl} (nd : (cos.map (·.1)).Nodup) : ∀ {l : List (Addr × Co)}, (∀ p ∈ l, p ∈ cos) → ((l.map (·.1)).map Value.ref).filter (compV cos rn) = ((cosN l rn).map (·.1)).map Value.ref
  | [], _ => rfl
  | p :: l, h => by
    have ih := compV_filter nd (rn := rn) (l := l) fun q hq => h q (.tail _ hq)
    rw [List.map_cons, List.map_cons, List.filter_cons, compV_eq (co := p.2) nd (h p (.head _))]
    unfold cosN at ih ⊢
    rw [List.filter_cons]
    split
    · rw [List.map_cons, List.map_cons, ih]
    · exact ih
theorem cosN_snd {cos : List (Addr × Co)} {rn : List Cl} : (cosN cos rn).map (·.2) = (cos.map (·.2)).filter fun c => !decide (c.names = rn) := by
  unfold cosN
  induction cos with
  | nil => rfl
  | cons p l ih =>
    rw [List.filter_cons, List.map_cons, List.filter_cons]
    split
    · rw [List.map_cons, ih]
    · exact ih
structure RSf (w : World) (news imm kp : List (Addr × Obj)) (g : Gh) (q : Vg) (σ : St) (d : Addr) (cos : List (Addr × Co)) (cs : List Co) : Prop where
  rep : Rep w news imm ((d, .refs (cos.map (·.1))) :: asOf g q σ kp)
  sub : cos.Sublist q.cos
  e : cos.map (·.2) = cs
theorem RS.filtN {rn : List Cl} {n' : Nat} {vs : List Value} (R : RS w news imm kp g q σ) (hf : ∀ p ∈ news, p.1 ≠ d) (hv : vs = (q.cos.map (·.1)).map Value.ref) :
    RSf w ((d, W.listOf (List.toArray (vs.filter (compV q.cos rn))) n') :: news) imm kp g q σ d (cosN q.cos rn) (σ.comps.filter fun c => !decide (c.names = rn)) := by
  refine ⟨R.rep.allocM hf ⟨n', ?_⟩, List.filter_sublist, ?_⟩
  · rw [hv, compV_filter R.cosNd fun _ h => h]
  · rw [cosN_snd, R.ec]
theorem wset_companiesF {cos : List (Addr × Co)} {cs : List Co} {u : Tok} (F : Fr h₀ L s.heap m) (N : News h₀ L s.heap news) (R : RS w news imm kp g q σ) (Rn : RSf w news imm kp g q σ d cos cs)
    (h : ∀ h' news' q', q'.sav = q.sav → q'.lbs = q.lbs → (∀ p ∈ cos, p ∈ q'.cos) → Fr h₀ L h' m → News h₀ L h' news' → RS w news' imm kp g q' { σ with comps := cs } → QU () { s with heap := h', toks := s.toks + 1 }) : wpAny (model PG w) A (setItem (.ref g.aW) (.str (Str.ofString "companies") u) (.ref d)) QU E s :=
  wset_companies F N R Rn.e Rn.rep Rn.sub fun h' n' q' e => h h' n' q' (by rw [e]) (by rw [e]) (by rw [e]; exact fun _ h => h)
theorem remove_fst {n : Nat} {u v x : Value} {c e d' : Cl} {l : Addr} (F : Fr h₀ L s.heap m) (N : News h₀ L s.heap news) (R : RS w news imm ((l, W.listOf #[u, v] n) :: kp) g q σ) (hc : DatIn imm u (cd c)) (hd : DatIn imm v (cd d')) (he : DatIn imm x (cd e)) (hor : e = c) (hu : A.units + 80 < cLine)
    (h : ∀ h' news', Fr h₀ L h' m → News h₀ L h' news' → RS w news' imm ((l, W.listOf #[v] (n + 1)) :: kp) g q σ → Q .none { s with heap := h' }) :
    wpAny (model PG w) A (call (.builtin "list.remove") [.ref l, x]) Q E s :=
  remove_two F N R hc hd he (.inl hor) hu fun h' n' F' N' R' => h h' n' F' N' (by rw [if_pos hor] at R'; exact R')
theorem remove_snd {n : Nat} {u v x : Value} {c e d' : Cl} {l : Addr} (F : Fr h₀ L s.heap m) (N : News h₀ L s.heap news) (R : RS w news imm ((l, W.listOf #[u, v] n) :: kp) g q σ) (hc : DatIn imm u (cd c)) (hd : DatIn imm v (cd d')) (he : DatIn imm x (cd e)) (hor : e = d') (hne : ¬ e = c) (hu : A.units + 80 < cLine)
    (h : ∀ h' news', Fr h₀ L h' m → News h₀ L h' news' → RS w news' imm ((l, W.listOf #[u] (n + 1)) :: kp) g q σ → Q .none { s with heap := h' }) :
    wpAny (model PG w) A (call (.builtin "list.remove") [.ref l, x]) Q E s :=
  remove_two F N R hc hd he (.inr hor) hu fun h' n' F' N' R' => h h' n' F' N' (by rw [if_neg hne] at R'; exact R')
theorem one_item {value slice : PySem.Expr} {u : Tok} {l : Addr} {v : Value} {n : Nat} (N : News h₀ L s.heap news) (R : RS w news imm ((l, W.listOf #[v] n) :: kp) g q σ) (h : Q v s)
    (hs : subscripted slice false (.ref l) (.int 0 u) = operate [.ref l, .int 0 u] (getItem (.ref l) (.int 0 u)) := by with_unfolding_all rfl) : wpAny (model PG w) A (subscriptTail value slice (.ref l) (.int 0 u)) Q E s := by
  have hl := News.isList N (R.oKp (.head _))
  exact tail_any hl.typeIs slot_list_getitem.lookup (wpAny_getItem_list hl (by decide) (by decide) rfl h) hs
theorem gm_kp {pl : Sem Bool} {l : Addr} {xs : Array Value} {n : Nat} {QM : Value × List Value → Shared → Prop} (N : News h₀ L s.heap news) (R : RS w news imm ((l, W.listOf xs n) :: kp) g q σ) (h : QM (.builtin "list.remove", [.ref l]) s) : wpAny (model PG w) A (getMethod (.ref l) (Str.ofString "remove") pl) QM E s := by
  have hm := R.oKp (.head _)
  have : W.listOf xs n = W.listOf (List.toArray xs.toList) n := by simp
  rw [this] at hm
  exact kl_method N hm PySem.F.slot_list_remove PySem.F.type_list_remove h
end
section
local macro_rules | `(tactic| walk_at "M.kp") => `(tactic| first | assumption | exact List.Mem.head _ | (refine List.Mem.tail _ ?_; walk_at "M.kp"))
local macro_rules | `(tactic| k_mem) => `(tactic| first | assumption | (refine' RS.oKp ?R ?k; (case R => assumption); (case k => walk_at "M.kp")))
local macro_rules | `(tactic| walk_at "storeName") => `(tactic| (k_here; (with_reducible show wpAny _ _ (storeName _ (PySem.Str.ofString "right") _) _ _ _); k_dflt (refine' cell_store ?F ?N ?R ?c ?d ?_ ?a ?b; (case a => rfl); (case b => rfl); (case F => k_asm); (case N => k_asm); (case R => assumption); (case c => rfl); (case d => k_asm); k_whole); intro _ _ _ _ _ _ _; (try k_sweep)))
local macro_rules | `(tactic| walk_at "newList") => `(tactic| (k_here; (with_reducible show wpAny _ _ (newList [Value.ref _, Value.ref _]) _ _ _); k_dflt (refine new_pairK (by k_asm) (by k_asm) (by assumption) ?_); intro _ _ _ _ _ _; (try k_sweep); try dsimp only))
local macro_rules | `(tactic| walk_at "call builtin:list.remove") => `(tactic| (k_here; (with_reducible show wpAny _ _ (call (Value.builtin _) [Value.ref _, Value.ref _]) _ _ _); k_dflt (refine remove_two (by k_asm) (by k_asm) (by assumption) (by walk_at "M.dat") (by walk_at "M.dat") (by walk_at "M.dat") (by assumption) (by assumption) ?_; k_whole); intro _ _ _ _ _; (try k_sweep); try dsimp only))
local macro_rules | `(tactic| walk_at "eval Name") => `(tactic| (k_here; (with_reducible show wpAny _ _ (eval (Expr.Name (PySem.Str.ofString "right") _) (compEnvC _ _ _ _)) _ _ _); k_dflt (refine cell_load (by k_asm) (by assumption) (by walk_at "M.kp") (by assumption) (by rfl) ?_; k_whole)))
local macro_rules | `(tactic| walk_at "setItem ref str") => `(tactic| (k_here; (with_reducible show wpAny _ _ (setItem (Value.ref (Gh.aW _)) (Value.str (PySem.Str.ofString "companies") _) (Value.ref _)) _ _ _); k_dflt (refine wset_companiesF (by k_asm) (by k_asm) (by assumption) (by assumption) ?_; k_whole); intro _ _ _ _ _ _ _ _ _; try k_sweep))
local macro_rules | `(tactic| walk_at "M.co") => `(tactic| first | assumption | exact List.mem_of_getElem? (by assumption) | (refine (show ∀ p ∈ cosN _ _, p ∈ Vg.cos _ from by assumption) _ ?_; assumption))
local macro_rules | `(tactic| walk_at "subscriptTail") => `(tactic| (k_here; (with_reducible show wpAny _ _ (subscriptTail _ _ (Value.ref _) (Value.int 0 _)) _ _ _); k_dflt (refine' one_item ?N ?R ?_; (case N => k_asm); (case R => assumption); k_whole)))
local macro_rules | `(tactic| walk_at "getMethod ref") => `(tactic| (k_here; (with_reducible show wpAny _ _ (getMethod (Value.ref _) (PySem.Str.ofString "remove") _) _ _ _); k_dflt (refine gm_kp (by k_asm) (by assumption) ?_; k_whole)))
local macro_rules | `(tactic| walk_at "call builtin:list.remove") => `(tactic| (k_here; (with_reducible show wpAny _ _ (call (Value.builtin _) [Value.ref _, Value.ref _]) _ _ _); k_dflt (first | (refine remove_fst (by k_asm) (by k_asm) (by assumption) (by walk_at "M.dat") (by walk_at "M.dat") (by walk_at "M.dat") (by assumption) (by assumption) ?_; k_whole) | (refine remove_snd (by k_asm) (by k_asm) (by assumption) (by walk_at "M.dat") (by walk_at "M.dat") (by walk_at "M.dat") (by assumption) (by assumption) (by assumption) ?_; k_whole)); intro _ _ _ _ _; (try k_sweep); try dsimp only))
theorem joined_nn {R : Result → Shared → Prop} {a1 a2 b1 b2 : Addr} {c1 c2 : Cl} {l r : Co} {i j n1 n2 : Nat}
    (C : Cx w A₀ A base h₀ env outer L mean mg mb (k + 5)) (F : Fr h₀ L s.heap m) (N : News h₀ L s.heap news) (Rp : RS w news imm kp g q σ) (hz : Sm σ) (h1 : DatIn imm (.ref a1) (cd c1)) (h2 : DatIn imm (.ref a2) (cd c2)) (f1 : findCo σ.comps c1 = some i) (f2 : findCo σ.comps c2 = some j) (i1 : q.cos[i]? = some (b1, l)) (i2 : q.cos[j]? = some (b2, r)) (d1 : Dr σ.heap σ.stack n1 c1 (oldestS l.names)) (d2 : Dr σ.heap σ.stack n2 c2 (oldestS r.names)) (w1 : l.worth = none) (w2 : r.worth = none)
    (ne1 : l.names ≠ []) (ne2 : r.names ≠ []) (hs : Sz 9000 σ) (v1 : Vd σ (oldestS l.names)) (v2 : Vd σ (oldestS r.names)) (hor : oldestS (l.names ++ r.names) = oldestS l.names ∨ oldestS (l.names ++ r.names) = oldestS r.names)
    (h : ∀ h' tk news' imm' q', Fr h₀ L h' m → News h₀ L h' news' → RS w news' imm' kp g q' (joinedS σ i j l r) → Sub imm imm' → q'.sav = q.sav → q'.lbs = q.lbs → R (.ok (.ret .none)) { s with heap := h', toks := tk }) :
    codeAny (model PG w) A (.call (.ref 268) ⟨[.ref g.x, .ref g.aW, .ref a1, .ref a2], []⟩) R s := by
  have m1 : (b1, l) ∈ q.cos := List.mem_of_getElem? i1
  have m2 : (b2, r) ∈ q.cos := List.mem_of_getElem? i2
  have zl0 : l.names.length ≤ 9000 := hs.co l (by rw [← Rp.ec]; exact List.mem_map_of_mem (f := (·.2)) m1)
  have zr0 : r.names.length ≤ 9000 := hs.co r (by rw [← Rp.ec]; exact List.mem_map_of_mem (f := (·.2)) m2)
  have zl : l.names.length ≤ 20000 := by omega
  have zr : r.names.length ≤ 20000 := by omega
  have zb : l.names.length + r.names.length ≤ 20000 := by omega
  have sp : Sz 9001 (pairS σ (oldestS l.names) (oldestS r.names)) := hs.pair
  have z1 : Sm (pairS σ (oldestS l.names) (oldestS r.names)) := sp.sm (by omega)
  by_cases he : l.names = r.names
  · have ej : joinedS σ i j l r = pairS σ (oldestS l.names) (oldestS r.names) := by
      unfold joinedS; rw [w1, w2]; dsimp only; rw [if_pos he]
    rw [ej] at h
    have X₀ := C.X
    refine' Cx.enterC (x := Str.ofString "right") ?kC ?kF ?kN ?k6 ?k7 ?k9 ?kB ?nd ?cl ?hx ?_ ?c2 ?c3 ?c4
    case kC => assumption
    case kF => assumption
    case kN => assumption
    case k6 => k_is
    case k7 => k_is
    case k9 => first | exact BindsTo.of_eq rfl | exact binds_K (by k_in) rfl (by k_is) rfl rfl rfl
    case kB => exact rfl
    case nd => decide
    case cl => intro _; rfl
    case hx => intro _; rfl
    case c2 => exact rfl
    case c3 => exact rfl
    case c4 => exact rfl
    intro g1 L1 h1' tk1 oc FG F1 N1 dc off1 C1
    have R1 := Rp.newK (o := oc) off1
    have B1 := C1.B; have X1 := C1.X; have T1 := C1.T; have hA1 := C1.hA; have hh1 := C1.hh; have hu1 := units_of C1.hunit; have hu2 := units_of2 C1.hunit
    try dsimp only
    try k_fold
    clear N F Rp
    k_steps
    exact h _ _ _ _ _ (by assumption) (by assumption) (RS.kpDrop (by assumption)) (by walk_at "M.sub") (by subst_vars; rfl) (by subst_vars; rfl)
  · have mk : FMark (compV (q.cos.set i (b1, { l with names := l.names ++ r.names })) r.names) := trivial
    have ej : joinedS σ i j l r = notedS { pairS σ (oldestS l.names) (oldestS r.names) with comps := ((pairS σ (oldestS l.names) (oldestS r.names)).comps.set i { l with names := l.names ++ r.names }).filter fun c => !decide (c.names = r.names) } (if oldestS (l.names ++ r.names) = oldestS l.names then oldestS r.names else oldestS l.names) := by
      unfold joinedS; rw [w1, w2]; dsimp only; rw [if_neg he]
    rw [ej] at h
    have hij : j ≠ i := fun e => he (by subst e; rw [i1] at i2; cases i2; rfl)
    have hil := (List.getElem?_eq_some_iff.mp i1).1
    have mN : ((b1, { l with names := l.names ++ r.names }) : Addr × Co) ∈ cosN (q.cos.set i (b1, { l with names := l.names ++ r.names })) r.names := by
      refine List.mem_filter.mpr ⟨List.mem_of_getElem? (i := i) (by rw [List.getElem?_set_self hil]), ?_⟩
      have : l.names ++ r.names ≠ r.names := fun e => by
        have := congrArg List.length e
        rw [List.length_append] at this
        exact ne1 (List.eq_nil_of_length_eq_zero (by omega))
      simpa using this
    have mR : (b2, r) ∈ q.cos.set i (b1, { l with names := l.names ++ r.names }) := List.mem_of_getElem? (i := j) (by rw [List.getElem?_set_ne (fun e => hij e.symm)]; exact i2)
    have neN : l.names ++ r.names ≠ [] := by simp [ne1]
    have zN : (l.names ++ r.names).length ≤ 20000 := by rw [List.length_append]; omega
    have hcl : q.cos.length = σ.comps.length := by rw [← Rp.ec, List.length_map]
    have hcs := hs.comps
    have X₀ := C.X
    refine' Cx.enterC (x := Str.ofString "right") ?kC ?kF ?kN ?k6 ?k7 ?k9 ?kB ?nd ?cl ?hx ?_ ?c2 ?c3 ?c4
    case kC => assumption
    case kF => assumption
    case kN => assumption
    case k6 => k_is
    case k7 => k_is
    case k9 => first | exact BindsTo.of_eq rfl | exact binds_K (by k_in) rfl (by k_is) rfl rfl rfl
    case kB => exact rfl
    case nd => decide
    case cl => intro _; rfl
    case hx => intro _; rfl
    case c2 => exact rfl
    case c3 => exact rfl
    case c4 => exact rfl
    intro g1 L1 h1' tk1 oc FG F1 N1 dc off1 C1
    have R1 := Rp.newK (o := oc) off1
    have B1 := C1.B; have X1 := C1.X; have T1 := C1.T; have hA1 := C1.hA; have hh1 := C1.hh; have hu1 := units_of C1.hunit; have hu2 := units_of2 C1.hunit
    try dsimp only
    try k_fold
    clear N F Rp
    k_steps
    rename_i h9 n9 q9 e9 F9 N9 R9
    have ec9 : q9.cos = q.cos.set i (b1, { l with names := l.names ++ r.names }) := by rw [e9]
    have es9 : q9.sav = q.sav := by rw [e9]
    have el9 : q9.lbs = q.lbs := by rw [e9]
    clear e9
    rw [← ec9] at mN mR mk ⊢
    obtain ⟨n, hm⟩ := R9.oC
    have hpc : (pairS σ (oldestS l.names) (oldestS r.names)).comps.length ≤ 9001 := sp.comps
    have z9 : Sm { pairS σ (oldestS l.names) (oldestS r.names) with comps := (pairS σ (oldestS l.names) (oldestS r.names)).comps.set i { l with names := l.names ++ r.names } } := ⟨z1.heap, z1.stack, z1.trail, by
      show (List.set _ _ _).length ≤ _
      rw [List.length_set]; exact z1.comps, z1.names, z1.past, fun c hc => by
      rcases List.mem_or_eq_of_mem_set hc with hc | rfl
      · exact z1.co c hc
      · exact zN⟩
    have z10 : Sm { pairS σ (oldestS l.names) (oldestS r.names) with comps := ((pairS σ (oldestS l.names) (oldestS r.names)).comps.set i { l with names := l.names ++ r.names }).filter fun c => !decide (c.names = r.names) } := ⟨z1.heap, z1.stack, z1.trail, by
      refine Nat.le_trans (List.length_filter_le _ _) ?_
      rw [List.length_set]; exact z1.comps, z1.names, z1.past, fun c hc => z9.co c (List.mem_filter.mp hc).1⟩
    generalize hσ : ({ pairS σ (oldestS l.names) (oldestS r.names) with comps := (pairS σ (oldestS l.names) (oldestS r.names)).comps.set i { l with names := l.names ++ r.names } } : St) = σ9 at R9 z9
    have eF : ({ pairS σ (oldestS l.names) (oldestS r.names) with comps := ((pairS σ (oldestS l.names) (oldestS r.names)).comps.set i { l with names := l.names ++ r.names }).filter fun c => !decide (c.names = r.names) } : St) = { σ9 with comps := σ9.comps.filter fun c => !decide (c.names = r.names) } := by rw [← hσ]
    rw [eF] at z10 h
    clear eF hσ
    refine ⟨_, _, n, n9, rfl, F9, N9, hm, ?_, ?_, ?_⟩
    · rw [List.length_map, List.length_map, ec9, List.length_set]; omega
    · intro C v s₂ m₂ E' hv hns hm₂ hk
      obtain ⟨b0, hb0, rfl⟩ := List.mem_map.mp hv
      obtain ⟨⟨b, co⟩, hb, rfl⟩ := List.mem_map.mp hb0
      clear hb0 hv
      rw [compV_eq R9.cosNd hb]
      have N2 := N9.grown hk
      have F2 := F9.keeps hk
      clear N9 F9
      dsimp only at hm₂ ⊢
      k_steps
      exact ⟨_, _, rfl, fun _ _ e => e⟩
    · intro D n' h' tk F2 N2 hD
      have Rf := R9.filtN (n' := n') (rn := r.names) hD rfl
      have R10 := R9.more (news' := (D, W.listOf (List.toArray (((q9.cos.map (·.1)).map Value.ref).filter (compV q9.cos r.names))) n') :: n9) sub_cons
      generalize (D, W.listOf (List.toArray (((q9.cos.map (·.1)).map Value.ref).filter (compV q9.cos r.names))) n') :: n9 = n10 at N2 Rf R10
      clear R9 N9 F9
      have neM : ({ l with names := l.names ++ r.names } : Co).names ≠ [] := neN
      by_cases hq : oldestS (l.names ++ r.names) = oldestS l.names
      · rw [if_pos hq] at h
        k_steps
        exact h _ _ _ _ _ (by assumption) (by assumption) (RS.kpDrop (RS.kpDrop (by assumption))) (by walk_at "M.sub") (Eq.trans (by assumption) es9) (Eq.trans (by assumption) el9)
      · rw [if_neg hq] at h
        have hq2 := hor.resolve_left hq
        clear hor
        k_steps
        exact h _ _ _ _ _ (by assumption) (by assumption) (RS.kpDrop (RS.kpDrop (by assumption))) (by walk_at "M.sub") (Eq.trans (by assumption) es9) (Eq.trans (by assumption) el9)
end
theorem clt_iff {c d : Cl} : clt c d = true ↔ c.1 < d.1 ∨ (c.1 = d.1 ∧ c.2 < d.2) := by simp [clt]
theorem clt_false {c d : Cl} : clt c d = false ↔ d.1 < c.1 ∨ (d.1 = c.1 ∧ d.2 ≤ c.2) := by
  rw [← Bool.not_eq_true, clt_iff]
  omega
def IsMin (x : Cl) (ns : List Cl) : Prop := x ∈ ns ∧ ∀ c ∈ ns, clt c x = false
theorem isMin_uniq {x y : Cl} {ns : List Cl} (h : IsMin x ns) (k : IsMin y ns) : x = y := by
  have h1 := clt_false.mp (h.2 y k.1)
  have h2 := clt_false.mp (k.2 x h.1)
  exact Prod.ext (by omega) (by omega)
theorem min_fold : ∀ (l : List Cl) (b : Cl), (l.foldl (fun b x => if clt x b = true then x else b) b = b ∨ l.foldl (fun b x => if clt x b = true then x else b) b ∈ l) ∧
    clt b (l.foldl (fun b x => if clt x b = true then x else b) b) = false ∧ ∀ c ∈ l, clt c (l.foldl (fun b x => if clt x b = true then x else b) b) = false
  | [], b => by simp [clt_false]
  | x :: l, b => by
    rw [List.foldl_cons]
    by_cases h : clt x b = true
    · rw [if_pos h]
      obtain ⟨h1, h2, h3⟩ := min_fold l x
      refine ⟨.inr ?_, ?_, ?_⟩
      · rcases h1 with e | e
        · rw [e]; exact .head _
        · exact .tail _ e
      · have := clt_iff.mp h
        have := clt_false.mp h2
        exact clt_false.mpr (by omega)
      · intro c hc
        rcases List.mem_cons.mp hc with rfl | hc
        · exact h2
        · exact h3 c hc
    · rw [if_neg h]
      obtain ⟨h1, h2, h3⟩ := min_fold l b
      refine ⟨?_, h2, ?_⟩
      · rcases h1 with e | e
        · exact .inl e
        · exact .inr (.tail _ e)
      · intro c hc
        rcases List.mem_cons.mp hc with rfl | hc
        · have a := clt_false.mp (Bool.eq_false_iff.mpr h)
          have := clt_false.mp h2
          exact clt_false.mpr (by omega)
        · exact h3 c hc
theorem minL_isMin {ns : List Cl} (h : ns ≠ []) : IsMin (minL ns) ns := by
  cases ns with
  | nil => exact absurd rfl h
  | cons c r =>
    obtain ⟨h1, h2, h3⟩ := min_fold r c
    refine ⟨?_, fun d hd => ?_⟩
    · show List.foldl _ _ _ ∈ _
      rcases h1 with e | e
      · rw [e]; exact .head _
      · exact .tail _ e
    · rcases List.mem_cons.mp hd with rfl | hd
      · exact h2
      · exact h3 d hd
theorem oldest_isMin {ns : List Cl} (h : ns ≠ []) (ht : ∀ c ∈ ns, c.1 = 0 ∨ c.1 = 1) : IsMin (oldestS ns) ns := by
  unfold oldestS
  by_cases e : ns.filter (fun c => decide (c.1 = 0)) = []
  · rw [if_pos e]; exact minL_isMin h
  · rw [if_neg e]
    obtain ⟨h1, h2⟩ := minL_isMin e
    obtain ⟨h3, h4⟩ := List.mem_filter.mp h1
    refine ⟨h3, fun c hc => ?_⟩
    by_cases hz : c.1 = 0
    · exact h2 c (List.mem_filter.mpr ⟨hc, by simpa using hz⟩)
    · have := ht c hc
      have h5 : (minL (ns.filter fun c => decide (c.1 = 0))).1 = 0 := by simpa using h4
      exact clt_false.mpr (by omega)
theorem isMin_append {x y : Cl} {l r : List Cl} (h : IsMin x l) (k : IsMin y r) : IsMin (if clt y x = true then y else x) (l ++ r) := by
  by_cases e : clt y x = true
  · rw [if_pos e]
    refine ⟨List.mem_append_right _ k.1, fun c hc => ?_⟩
    rcases List.mem_append.mp hc with hc | hc
    · have := clt_false.mp (h.2 c hc); have := clt_iff.mp e; exact clt_false.mpr (by omega)
    · exact k.2 c hc
  · rw [if_neg e]
    refine ⟨List.mem_append_left _ h.1, fun c hc => ?_⟩
    rcases List.mem_append.mp hc with hc | hc
    · exact h.2 c hc
    · have := clt_false.mp (k.2 c hc); have := clt_false.mp (Bool.eq_false_iff.mpr e); exact clt_false.mpr (by omega)
theorem oldest_append {l r : List Cl} (hl : l ≠ []) (hr : r ≠ []) (tl : ∀ c ∈ l, c.1 = 0 ∨ c.1 = 1) (tr : ∀ c ∈ r, c.1 = 0 ∨ c.1 = 1) :
    oldestS (l ++ r) = if clt (oldestS r) (oldestS l) = true then oldestS r else oldestS l :=
  isMin_uniq (oldest_isMin (by simp [hl]) fun c hc => (List.mem_append.mp hc).elim (tl c) (tr c)) (isMin_append (oldest_isMin hl tl) (oldest_isMin hr tr))
-- chains
theorem dr_end {H K : List Cl} {n : Nat} {c e : Cl} (h : Dr H K n c e) : (e.1 ≠ 0 ∧ e.1 ≠ 1) ∨ (e.1 = 0 ∧ 0 ≤ e.2 ∧ H[e.2.toNat]? = some e) ∨ (e.1 = 1 ∧ 0 ≤ e.2 ∧ K[e.2.toNat]? = some e) := by
  induction h with
  | tag h1 h2 => exact .inl ⟨h1, h2⟩
  | selfH h => exact .inr (.inl ⟨rfl, Int.natCast_nonneg _, by simpa using h⟩)
  | selfK h => exact .inr (.inr ⟨rfl, Int.natCast_nonneg _, by simpa using h⟩)
  | stepH _ _ _ ih => exact ih
  | stepK _ _ _ ih => exact ih
theorem dr_mono {H K H' K' : List Cl} (hH : ∀ (i : Nat) (c : Cl), H[i]? = some c → H'[i]? = some c) (hK : ∀ (i : Nat) (c : Cl), K[i]? = some c → K'[i]? = some c) {n : Nat} {c e : Cl} (h : Dr H K n c e) : Dr H' K' n c e := by
  induction h with
  | tag h1 h2 => exact .tag h1 h2
  | selfH h => exact .selfH (hH _ _ h)
  | selfK h => exact .selfK (hK _ _ h)
  | stepH h1 h2 _ ih => exact .stepH (hH _ _ h1) h2 ih
  | stepK h1 h2 _ ih => exact .stepK (hK _ _ h1) h2 ih
/-- the chain with a root bound: what did not end there ends as before -/
theorem dr_setH_ne {H K : List Cl} {p : Nat} {v : Cl} (hp : H[p]? = some (0, (p : Int))) {n : Nat} {c e : Cl} (h : Dr H K n c e) (hne : e ≠ (0, (p : Int))) : Dr (H.set p v) K n c e := by
  induction h with
  | tag h1 h2 => exact .tag h1 h2
  | @selfH n i h =>
    refine .selfH ?_
    rw [List.getElem?_set_ne (fun q => hne (by rw [q]))]; exact h
  | selfK h => exact .selfK h
  | @stepH n i d e h1 h2 _ ih =>
    refine .stepH ?_ h2 (ih hne)
    rw [List.getElem?_set_ne]
    · exact h1
    · rintro rfl
      rw [hp] at h1
      exact h2 (Option.some.inj h1).symm
  | stepK h1 h2 _ ih => exact .stepK h1 h2 (ih hne)
theorem dr_setK_ne {H K : List Cl} {p : Nat} {v : Cl} (hp : K[p]? = some (1, (p : Int))) {n : Nat} {c e : Cl} (h : Dr H K n c e) (hne : e ≠ (1, (p : Int))) : Dr H (K.set p v) n c e := by
  induction h with
  | tag h1 h2 => exact .tag h1 h2
  | @selfK n i h =>
    refine .selfK ?_
    rw [List.getElem?_set_ne (fun q => hne (by rw [q]))]; exact h
  | selfH h => exact .selfH h
  | @stepK n i d e h1 h2 _ ih =>
    refine .stepK ?_ h2 (ih hne)
    rw [List.getElem?_set_ne]
    · exact h1
    · rintro rfl
      rw [hp] at h1
      exact h2 (Option.some.inj h1).symm
  | stepH h1 h2 _ ih => exact .stepH h1 h2 (ih hne)
theorem dr_setH_eq {H K : List Cl} {p : Nat} {v ev : Cl} {k : Nat} (hp : H[p]? = some (0, (p : Int))) (hv : v ≠ (0, (p : Int))) (kv : Dr (H.set p v) K k v ev) {n : Nat} {c e : Cl} (h : Dr H K n c e) (he : e = (0, (p : Int))) : ∃ n', Dr (H.set p v) K n' c ev := by
  have hpl : p < H.length := (List.getElem?_eq_some_iff.mp hp).1
  have hs : (H.set p v)[p]? = some v := by rw [List.getElem?_set_self hpl]
  induction h with
  | tag h1 h2 => exact absurd (congrArg Prod.fst he) h1
  | @selfH n i h =>
    have : i = p := by have := congrArg Prod.snd he; simp only at this; omega
    subst this
    exact ⟨_, .stepH hs hv kv⟩
  | selfK h => exact absurd (show (1 : Int) = 0 from congrArg Prod.fst he) (by decide)
  | @stepH n i d e h1 h2 _ ih =>
    obtain ⟨n', ih⟩ := ih he
    refine ⟨_, .stepH ?_ h2 ih⟩
    rw [List.getElem?_set_ne]
    · exact h1
    · rintro rfl
      rw [hp] at h1
      exact h2 (Option.some.inj h1).symm
  | stepK h1 h2 _ ih =>
    obtain ⟨n', ih⟩ := ih he
    exact ⟨_, .stepK h1 h2 ih⟩
theorem dr_setK_eq {H K : List Cl} {p : Nat} {v ev : Cl} {k : Nat} (hp : K[p]? = some (1, (p : Int))) (hv : v ≠ (1, (p : Int))) (kv : Dr H (K.set p v) k v ev) {n : Nat} {c e : Cl} (h : Dr H K n c e) (he : e = (1, (p : Int))) : ∃ n', Dr H (K.set p v) n' c ev := by
  have hpl : p < K.length := (List.getElem?_eq_some_iff.mp hp).1
  have hs : (K.set p v)[p]? = some v := by rw [List.getElem?_set_self hpl]
  induction h with
  | tag h1 h2 => exact absurd (congrArg Prod.fst he) h2
  | @selfK n i h =>
    have : i = p := by have := congrArg Prod.snd he; simp only at this; omega
    subst this
    exact ⟨_, .stepK hs hv kv⟩
  | selfH h => exact absurd (show (0 : Int) = 1 from congrArg Prod.fst he) (by decide)
  | @stepK n i d e h1 h2 _ ih =>
    obtain ⟨n', ih⟩ := ih he
    refine ⟨_, .stepK ?_ h2 ih⟩
    rw [List.getElem?_set_ne]
    · exact h1
    · rintro rfl
      rw [hp] at h1
      exact h2 (Option.some.inj h1).symm
  | stepH h1 h2 _ ih =>
    obtain ⟨n', ih⟩ := ih he
    exact ⟨_, .stepH h1 h2 ih⟩
def Dj (a b : Co) : Prop := ∀ c, c ∈ a.names → c ∈ b.names → False
theorem dj_symm {a b : Co} (h : Dj a b) : Dj b a := fun c h1 h2 => h c h2 h1
theorem pw_get {L : List Co} (h : L.Pairwise Dj) {i j : Nat} {x y : Co} (hi : L[i]? = some x) (hj : L[j]? = some y) {c : Cl} (h1 : c ∈ x.names) (h2 : c ∈ y.names) : i = j := by
  obtain ⟨li, ei⟩ := List.getElem?_eq_some_iff.mp hi
  obtain ⟨lj, ej⟩ := List.getElem?_eq_some_iff.mp hj
  have hp := List.pairwise_iff_getElem.mp h
  rcases Nat.lt_trichotomy i j with hl | hl | hl
  · have := hp i j li lj hl
    rw [ei, ej] at this
    exact absurd h2 (this c h1)
  · exact hl
  · have := hp j i lj li hl
    rw [ei, ej] at this
    exact absurd h1 (this c h2)
theorem pw_of {L : List Co} {R : Co → Co → Prop} (h : ∀ (i j : Nat) (x y : Co), i < j → L[i]? = some x → L[j]? = some y → R x y) : L.Pairwise R :=
  List.pairwise_iff_getElem.mpr fun i j hi hj hl => h i j _ _ hl (List.getElem?_eq_getElem hi) (List.getElem?_eq_getElem hj)
theorem pw_idx {L : List Co} (h : L.Pairwise Dj) {i j : Nat} {x y : Co} (hi : L[i]? = some x) (hj : L[j]? = some y) (hne : i ≠ j) : Dj x y := fun _ h1 h2 => hne (pw_get h hi hj h1 h2)
theorem get_set {L : List Co} {i j : Nat} {x y : Co} (h : (L.set i x)[j]? = some y) : (j = i ∧ y = x) ∨ (j ≠ i ∧ L[j]? = some y) := by
  rw [List.getElem?_set] at h
  by_cases e : i = j
  · rw [if_pos e] at h
    split at h
    · exact .inl ⟨e.symm, (Option.some.inj h).symm⟩
    · cases h
  · rw [if_neg e] at h
    exact .inr ⟨fun q => e q.symm, h⟩
structure Good (H K : List Cl) (tr : List Int) (comps : List Co) (names : List Cl) : Prop where
  hH : ∀ (i : Nat) c, H[i]? = some c → c.1 = 5 ∨ (c.1 = 0 ∧ 0 ≤ c.2 ∧ c.2 ≤ (i : Int))
  hK : ∀ (i : Nat) c, K[i]? = some c → c.1 = 5 ∨ (c.1 = 0 ∧ 0 ≤ c.2 ∧ c.2 < (H.length : Int)) ∨ (c.1 = 1 ∧ 0 ≤ c.2 ∧ c.2 ≤ (i : Int))
  ne : ∀ co ∈ comps, co.names ≠ []
  val : ∀ co ∈ comps, ∀ c ∈ co.names, (c.1 = 0 ∧ 0 ≤ c.2 ∧ c.2 < (H.length : Int)) ∨ (c.1 = 1 ∧ 0 ≤ c.2 ∧ c.2 < (K.length : Int))
  dj : comps.Pairwise Dj
  dr : ∀ co ∈ comps, ∀ c ∈ co.names, ∃ n, Dr H K n c (endS co)
  nm : ∀ c ∈ names, ∃ co ∈ comps, c ∈ co.names
  tk : ∀ e ∈ tr, (0 ≤ e → e < (H.length : Int)) ∧ (e < 0 → -1 - e < (K.length : Int))
section
variable {H K : List Cl} {tr : List Int} {comps : List Co} {names : List Cl}
theorem Good.tags (G : Good H K tr comps names) {co : Co} (h : co ∈ comps) : ∀ c ∈ co.names, c.1 = 0 ∨ c.1 = 1 := fun c hc => (G.val co h c hc).imp (·.1) (·.1)
theorem Good.old (G : Good H K tr comps names) {co : Co} (h : co ∈ comps) : IsMin (oldestS co.names) co.names := oldest_isMin (G.ne co h) (G.tags h)
theorem endS_none {co : Co} (h : co.worth = none) : endS co = oldestS co.names := by unfold endS; rw [h]
theorem endS_some {co : Co} {w : Int} (h : co.worth = some w) : endS co = (5, w) := by unfold endS; rw [h]
/-- the oldest of a company that has no number is unbound -/
theorem Good.root (G : Good H K tr comps names) {co : Co} (h : co ∈ comps) (hw : co.worth = none) : let r := oldestS co.names
    r ∈ co.names ∧ ((r.1 = 0 ∧ 0 ≤ r.2 ∧ H[r.2.toNat]? = some r) ∨ (r.1 = 1 ∧ 0 ≤ r.2 ∧ K[r.2.toNat]? = some r)) := by
  intro r
  have hm : r ∈ co.names := (G.old h).1
  refine ⟨hm, ?_⟩
  obtain ⟨n, d⟩ := G.dr co h _ hm
  rw [endS_none hw] at d
  have ht := G.tags h r hm
  rcases dr_end d with e | e | e
  · exact absurd ht (by intro q; rcases q with q | q; exact e.1 q; exact e.2 q)
  · exact .inl e
  · exact .inr e
theorem Good.find (G : Good H K tr comps names) {c : Cl} {i : Nat} {co : Co} (hi : comps[i]? = some co) (hc : c ∈ co.names) : findCo comps c = some i := by
  unfold findCo
  have hil := (List.getElem?_eq_some_iff.mp hi)
  refine List.findIdx?_eq_some_iff_getElem.mpr ⟨hil.1, by rw [hil.2]; simpa using hc, fun j hj => ?_⟩
  have hjl : j < comps.length := Nat.lt_trans hj hil.1
  intro q
  have : j = i := pw_get G.dj (List.getElem?_eq_getElem hjl) hi (by simpa using q) hc
  omega
end
/-- a cell bound -/
def setHK (H K : List Cl) (c v : Cl) : List Cl × List Cl := if c.1 = 0 then (H.set c.2.toNat v, K) else (H, K.set c.2.toNat v)
def RootAt (H K : List Cl) (r : Cl) : Prop := (r.1 = 0 ∧ 0 ≤ r.2 ∧ H[r.2.toNat]? = some r) ∨ (r.1 = 1 ∧ 0 ≤ r.2 ∧ K[r.2.toNat]? = some r)
theorem cl_eq {r : Cl} {t : Int} (h1 : r.1 = t) (h2 : 0 ≤ r.2) : r = (t, (r.2.toNat : Int)) := Prod.ext h1 (by simp only; omega)
theorem dr_set_ne {H K : List Cl} {r v : Cl} (hr : RootAt H K r) {n : Nat} {c e : Cl} (h : Dr H K n c e) (hne : e ≠ r) : Dr (setHK H K r v).1 (setHK H K r v).2 n c e := by
  rcases hr with ⟨h1, h2, h3⟩ | ⟨h1, h2, h3⟩
  · have er := cl_eq h1 h2
    unfold setHK; rw [if_pos h1]
    rw [er] at hne
    refine dr_setH_ne ?_ h hne
    rw [h3]; exact congrArg some er
  · have er := cl_eq h1 h2
    have hz : ¬ r.1 = 0 := by omega
    unfold setHK; rw [if_neg hz]
    rw [er] at hne
    refine dr_setK_ne ?_ h hne
    rw [h3]; exact congrArg some er
theorem dr_set_eq {H K : List Cl} {r v ev : Cl} {k : Nat} (hr : RootAt H K r) (hv : v ≠ r) (kv : Dr (setHK H K r v).1 (setHK H K r v).2 k v ev) {n : Nat} {c : Cl} (h : Dr H K n c r) : ∃ n', Dr (setHK H K r v).1 (setHK H K r v).2 n' c ev := by
  rcases hr with ⟨h1, h2, h3⟩ | ⟨h1, h2, h3⟩
  · have er := cl_eq h1 h2
    unfold setHK at kv ⊢; rw [if_pos h1] at kv ⊢
    exact dr_setH_eq (by rw [h3]; exact congrArg some er) (by rw [← er]; exact hv) kv h er
  · have er := cl_eq h1 h2
    have hz : ¬ r.1 = 0 := by omega
    unfold setHK at kv ⊢; rw [if_neg hz] at kv ⊢
    exact dr_setK_eq (by rw [h3]; exact congrArg some er) (by rw [← er]; exact hv) kv h er
theorem setHK_len {H K : List Cl} {c v : Cl} : (setHK H K c v).1.length = H.length ∧ (setHK H K c v).2.length = K.length := by
  unfold setHK; split <;> simp
/-- the frame of a binding: cells and trail -/
theorem good_bind {H K : List Cl} {tr tr' : List Int} {comps comps' : List Co} {names : List Cl} {r v : Cl} (G : Good H K tr comps names) (hr : RootAt H K r)
    (hv : v.1 = 5 ∨ (clt v r = true ∧ 0 ≤ v.2 ∧ (v.1 = 0 ∨ v.1 = 1) ∧ (v.1 = 0 → v.2 < (H.length : Int)))) (ht : ∀ e ∈ tr', e ∈ tr ∨ e = (if r.1 = 0 then r.2 else -1 - r.2))
    (ne : ∀ co ∈ comps', co.names ≠ []) (val : ∀ co ∈ comps', ∀ c ∈ co.names, ∃ co₀ ∈ comps, c ∈ co₀.names) (dj : comps'.Pairwise Dj)
    (dr : ∀ co ∈ comps', ∀ c ∈ co.names, ∃ n, Dr (setHK H K r v).1 (setHK H K r v).2 n c (endS co)) (nm : ∀ c ∈ names, ∃ co ∈ comps', c ∈ co.names) :
    Good (setHK H K r v).1 (setHK H K r v).2 tr' comps' names := by
  have hl := @setHK_len H K r v
  refine ⟨fun i c h => ?_, fun i c h => ?_, ne, fun co hco c hc => ?_, dj, dr, nm, fun e he => ?_⟩
  · unfold setHK at h
    split at h
    · rename_i h0
      rw [List.getElem?_set] at h
      split at h
      · rename_i q
        split at h
        · cases h
          rcases hv with hv | hv
          · exact .inl hv
          · have hc := clt_iff.mp hv.1
            rcases hr with hr | hr
            · right
              have h3 := hv.2.2.1
              refine ⟨by omega, hv.2.1, by omega⟩
            · omega
        · cases h
      · exact G.hH i c h
    · exact G.hH i c h
  · rw [hl.1]
    unfold setHK at h
    split at h
    · exact G.hK i c h
    · rename_i h0
      rw [List.getElem?_set] at h
      split at h
      · rename_i q
        split at h
        · cases h
          rcases hv with hv | hv
          · exact .inl hv
          · right
            have hc := clt_iff.mp hv.1
            rcases hr with hr | hr
            · exact absurd hr.1 h0
            · rcases hv.2.2.1 with e | e
              · exact .inl ⟨e, hv.2.1, hv.2.2.2 e⟩
              · exact .inr ⟨e, hv.2.1, by omega⟩
        · cases h
      · exact G.hK i c h
  · rw [hl.1, hl.2]
    obtain ⟨co₀, h0, h1⟩ := val co hco c hc
    exact G.val co₀ h0 c h1
  · rw [hl.1, hl.2]
    rcases ht e he with h | h
    · exact G.tk e h
    · subst h
      rcases hr with ⟨h1, h2, h3⟩ | ⟨h1, h2, h3⟩
      · rw [if_pos h1]
        have := (List.getElem?_eq_some_iff.mp h3).1
        exact ⟨fun _ => by omega, fun _ => by omega⟩
      · rw [if_neg (by omega)]
        have := (List.getElem?_eq_some_iff.mp h3).1
        exact ⟨fun _ => by omega, fun _ => by omega⟩
def restH (H : List Cl) (tr : List Int) (μ κ : Nat) : List Cl := (undoH H (tr.drop μ)).take κ
def restK (K : List Cl) (tr : List Int) (μ ω : Nat) : List Cl := (undoK K (tr.drop μ)).take ω
theorem restH_get (H : List Cl) (tr : List Int) (μ κ i : Nat) : (restH H tr μ κ)[i]? = if i < κ then (H[i]?).map fun c => if (i : Int) ∈ tr.drop μ then (0, (i : Int)) else c else none := by
  unfold restH
  rw [List.getElem?_take, undoH_get]
theorem restK_get (K : List Cl) (tr : List Int) (μ κ i : Nat) : (restK K tr μ κ)[i]? = if i < κ then (K[i]?).map fun c => if (-1 - (i : Int)) ∈ tr.drop μ then (1, (i : Int)) else c else none := by
  unfold restK
  rw [List.getElem?_take, undoK_get]
theorem restH_len {H : List Cl} {tr : List Int} {μ κ : Nat} (h : κ ≤ H.length) : (restH H tr μ κ).length = κ := by
  unfold restH; rw [List.length_take, undoH_len]; omega
theorem restK_len {H : List Cl} {tr : List Int} {μ κ : Nat} (h : κ ≤ H.length) : (restK H tr μ κ).length = κ := by
  unfold restK; rw [List.length_take, undoK_len]; omega
theorem restH_eq {H H' : List Cl} {tr tr' : List Int} {μ κ : Nat} (h : ∀ i, i < κ → (H'[i]?).map (fun c => if (i : Int) ∈ tr'.drop μ then (0, (i : Int)) else c) = (H[i]?).map (fun c => if (i : Int) ∈ tr.drop μ then (0, (i : Int)) else c)) : restH H' tr' μ κ = restH H tr μ κ := by
  apply List.ext_getElem?
  intro i
  rw [restH_get, restH_get]
  by_cases hi : i < κ
  · rw [if_pos hi, if_pos hi]; exact h i hi
  · rw [if_neg hi, if_neg hi]
theorem restK_eq {H H' : List Cl} {tr tr' : List Int} {μ κ : Nat} (h : ∀ i, i < κ → (H'[i]?).map (fun c => if (-1 - (i : Int)) ∈ tr'.drop μ then (1, (i : Int)) else c) = (H[i]?).map (fun c => if (-1 - (i : Int)) ∈ tr.drop μ then (1, (i : Int)) else c)) : restK H' tr' μ κ = restK H tr μ κ := by
  apply List.ext_getElem?
  intro i
  rw [restK_get, restK_get]
  by_cases hi : i < κ
  · rw [if_pos hi, if_pos hi]; exact h i hi
  · rw [if_neg hi, if_neg hi]
theorem drop_snoc {tr : List Int} {e : Int} {μ : Nat} (h : μ ≤ tr.length) : (tr ++ [e]).drop μ = tr.drop μ ++ [e] := List.drop_append_of_le_length h
theorem take_snoc {tr : List Int} {e : Int} {μ : Nat} (h : μ ≤ tr.length) : (tr ++ [e]).take μ = tr.take μ := List.take_append_of_le_length h
-- a binding of a root, seen from a choice point
theorem rest_setH {H K : List Cl} {tr : List Int} {μ κ ω p : Nat} {v : Cl} (hp : H[p]? = some (0, (p : Int))) (hμ : μ ≤ tr.length) : let tr' := if (p : Int) < (κ : Int) then tr ++ [(p : Int)] else tr
    restH (H.set p v) tr' μ κ = restH H tr μ κ ∧ restK K tr' μ ω = restK K tr μ ω ∧ tr'.take μ = tr.take μ ∧ μ ≤ tr'.length := by
  intro tr'
  have hl : p < H.length := (List.getElem?_eq_some_iff.mp hp).1
  by_cases hk : (p : Int) < (κ : Int)
  · have e : tr' = tr ++ [(p : Int)] := if_pos hk
    rw [e]
    refine ⟨restH_eq fun i hi => ?_, restK_eq fun i hi => ?_, take_snoc hμ, by simp; omega⟩
    · rw [drop_snoc hμ, List.getElem?_set]
      by_cases hip : p = i
      · subst hip
        rw [if_pos rfl, if_pos hl, hp]
        simp
      · rw [if_neg hip]
        have : (i : Int) ≠ (p : Int) := by omega
        simp [this]
    · rw [drop_snoc hμ]
      have : (-1 - (i : Int)) ≠ (p : Int) := by omega
      simp [this]
  · have e : tr' = tr := if_neg hk
    rw [e]
    refine ⟨restH_eq fun i hi => ?_, rfl, rfl, hμ⟩
    have hip : p ≠ i := by omega
    rw [List.getElem?_set, if_neg hip]
theorem rest_setK {H K : List Cl} {tr : List Int} {μ κ ω p : Nat} {v : Cl} (hp : K[p]? = some (1, (p : Int))) (hμ : μ ≤ tr.length) : let tr' := if (p : Int) < (ω : Int) then tr ++ [-1 - (p : Int)] else tr
    restH H tr' μ κ = restH H tr μ κ ∧ restK (K.set p v) tr' μ ω = restK K tr μ ω ∧ tr'.take μ = tr.take μ ∧ μ ≤ tr'.length := by
  intro tr'
  have hl : p < K.length := (List.getElem?_eq_some_iff.mp hp).1
  by_cases hk : (p : Int) < (ω : Int)
  · have e : tr' = tr ++ [-1 - (p : Int)] := if_pos hk
    rw [e]
    refine ⟨restH_eq fun i hi => ?_, restK_eq fun i hi => ?_, take_snoc hμ, by simp; omega⟩
    · rw [drop_snoc hμ]
      have : (i : Int) ≠ -1 - (p : Int) := by omega
      simp [this]
    · rw [drop_snoc hμ, List.getElem?_set]
      by_cases hip : p = i
      · subst hip
        rw [if_pos rfl, if_pos hl, hp]
        simp
      · rw [if_neg hip]
        have : (-1 - (i : Int)) ≠ -1 - (p : Int) := by omega
        simp [this]
  · have e : tr' = tr := if_neg hk
    rw [e]
    refine ⟨rfl, restK_eq fun i hi => ?_, rfl, hμ⟩
    have hip : p ≠ i := by omega
    rw [List.getElem?_set, if_neg hip]
theorem rest_addH {H : List Cl} {tr : List Int} {μ κ : Nat} {c : Cl} (hκ : κ ≤ H.length) : restH (H ++ [c]) tr μ κ = restH H tr μ κ := restH_eq fun i hi => by
  rw [List.getElem?_append_left (by omega)]
theorem rest_addK {H : List Cl} {tr : List Int} {μ κ : Nat} {c : Cl} (hκ : κ ≤ H.length) : restK (H ++ [c]) tr μ κ = restK H tr μ κ := restK_eq fun i hi => by
  rw [List.getElem?_append_left (by omega)]
theorem rest_hereH (H : List Cl) (tr : List Int) : restH H tr tr.length H.length = H := by
  unfold restH; rw [List.drop_length, undoH_nil, List.take_length]
theorem rest_hereK (H : List Cl) (tr : List Int) : restK H tr tr.length H.length = H := by
  unfold restK; rw [List.drop_length, undoK_nil, List.take_length]
theorem mem_drop_split {tr : List Int} {μ₂ μ : Nat} (h : μ₂ ≤ μ) (x : Int) : x ∈ tr.drop μ₂ ↔ x ∈ (tr.take μ).drop μ₂ ∨ x ∈ tr.drop μ := by
  have e : tr.drop μ₂ = (tr.take μ).drop μ₂ ++ tr.drop μ := by
    by_cases hl : μ ≤ tr.length
    · conv => lhs; rw [← List.take_append_drop μ tr]
      rw [List.drop_append_of_le_length (by rw [List.length_take]; omega)]
    · rw [List.take_of_length_le (by omega), List.drop_of_length_le (l := tr) (i := μ) (by omega), List.append_nil]
  rw [e, List.mem_append]
theorem rest_restH {H : List Cl} {tr : List Int} {μ κ μ₂ κ₂ : Nat} (hm : μ₂ ≤ μ) (hk : κ₂ ≤ κ) : restH (restH H tr μ κ) (tr.take μ) μ₂ κ₂ = restH H tr μ₂ κ₂ := restH_eq fun i hi => by
  rw [restH_get, if_pos (by omega)]
  have hs := mem_drop_split (tr := tr) hm (i : Int)
  cases H[i]? with
  | none => rfl
  | some c =>
    simp only [Option.map_some]
    by_cases h1 : (i : Int) ∈ (tr.take μ).drop μ₂
    · rw [if_pos h1, if_pos (hs.mpr (.inl h1))]
    · rw [if_neg h1]
      by_cases h2 : (i : Int) ∈ tr.drop μ
      · rw [if_pos h2, if_pos (hs.mpr (.inr h2))]
      · rw [if_neg h2, if_neg fun h3 => (hs.mp h3).elim h1 h2]
theorem rest_restK {H : List Cl} {tr : List Int} {μ κ μ₂ κ₂ : Nat} (hm : μ₂ ≤ μ) (hk : κ₂ ≤ κ) : restK (restK H tr μ κ) (tr.take μ) μ₂ κ₂ = restK H tr μ₂ κ₂ := restK_eq fun i hi => by
  rw [restK_get, if_pos (by omega)]
  have hs := mem_drop_split (tr := tr) hm (-1 - (i : Int))
  cases H[i]? with
  | none => rfl
  | some c =>
    simp only [Option.map_some]
    by_cases h1 : (-1 - (i : Int)) ∈ (tr.take μ).drop μ₂
    · rw [if_pos h1, if_pos (hs.mpr (.inl h1))]
    · rw [if_neg h1]
      by_cases h2 : (-1 - (i : Int)) ∈ tr.drop μ
      · rw [if_pos h2, if_pos (hs.mpr (.inr h2))]
      · rw [if_neg h2, if_neg fun h3 => (hs.mp h3).elim h1 h2]
theorem take_take {tr : List Int} {μ μ₂ : Nat} (h : μ₂ ≤ μ) : (tr.take μ).take μ₂ = tr.take μ₂ := by
  rw [List.take_take]; congr 1; omega
def Wk (cs : List Co) : Prop := ∀ co ∈ cs, ∀ w, co.worth = some w → 0 ≤ w
/-- the choice points, the newest first -/
def Back : List Sn → List Cl → List Cl → List Int → Prop
  | [], _, _, _ => True
  | sn :: rest, H, K, tr => ∃ μ κ ω : Nat, sn.mark = μ ∧ sn.high = κ ∧ sn.wide = ω ∧ μ ≤ tr.length ∧ κ ≤ H.length ∧ ω ≤ K.length ∧
      Good (restH H tr μ κ) (restK K tr μ ω) (tr.take μ) sn.comps sn.names ∧ Wk sn.comps ∧ Back rest (restH H tr μ κ) (restK K tr μ ω) (tr.take μ)
theorem Back.turn {H K H' K' : List Cl} {tr tr' : List Int} : ∀ {ss : List Sn}, Back ss H K tr →
    (∀ sn rest, ss = sn :: rest → ∀ μ κ ω : Nat, sn.mark = μ → sn.high = κ → sn.wide = ω → μ ≤ tr.length → κ ≤ H.length → ω ≤ K.length → restH H' tr' μ κ = restH H tr μ κ ∧ restK K' tr' μ ω = restK K tr μ ω ∧ tr'.take μ = tr.take μ ∧ μ ≤ tr'.length ∧ κ ≤ H'.length ∧ ω ≤ K'.length) → Back ss H' K' tr'
  | [], _, _ => trivial
  | sn :: rest, ⟨μ, κ, ω, e1, e2, e3, l1, l2, l3, G, W, B⟩, h => by
    obtain ⟨r1, r2, r3, r4, r5, r6⟩ := h sn rest rfl μ κ ω e1 e2 e3 l1 l2 l3
    refine ⟨μ, κ, ω, e1, e2, e3, r4, r5, r6, ?_, W, ?_⟩
    · rw [r1, r2, r3]; exact G
    · rw [r1, r2, r3]; exact B
theorem Back.cut {H K : List Cl} {tr : List Int} {sn : Sn} {rest : List Sn} (h : Back (sn :: rest) H K tr) : Back rest H K tr := by
  obtain ⟨μ, κ, ω, e1, e2, e3, l1, l2, l3, G, W, B⟩ := h
  have t1 : (tr.take μ).length = μ := by rw [List.length_take]; omega
  have t2 := restH_len (tr := tr) (μ := μ) l2
  have t3 := restK_len (tr := tr) (μ := μ) l3
  refine B.turn fun sn rest _ μ₂ κ₂ ω₂ _ _ _ m1 m2 m3 => ?_
  rw [t1] at m1; rw [t2] at m2; rw [t3] at m3
  exact ⟨(rest_restH m1 m2).symm, (rest_restK m1 m3).symm, (take_take m1).symm, by omega, by omega, by omega⟩
theorem Back.mark {H K : List Cl} {tr : List Int} {ss : List Sn} {cs : List Co} {ns : List Cl} (G : Good H K tr cs ns) (W : Wk cs) (B : Back ss H K tr) : Back (⟨tr.length, H.length, K.length, cs, ns⟩ :: ss) H K tr := by
  refine ⟨_, _, _, rfl, rfl, rfl, Nat.le_refl _, Nat.le_refl _, Nat.le_refl _, ?_, W, ?_⟩
  · rw [rest_hereH, rest_hereK, List.take_length]; exact G
  · rw [rest_hereH, rest_hereK, List.take_length]; exact B
theorem Back.back {H K : List Cl} {tr : List Int} {sn : Sn} {rest : List Sn} {μ κ ω : Nat} (h : Back (sn :: rest) H K tr) (e1 : sn.mark = μ) (e2 : sn.high = κ) (e3 : sn.wide = ω) : Back (sn :: rest) (restH H tr μ κ) (restK K tr μ ω) (tr.take μ) := by
  obtain ⟨μ', κ', ω', e1', e2', e3', l1, l2, l3, G, W, B⟩ := h
  obtain rfl : μ' = μ := by omega
  obtain rfl : κ' = κ := by omega
  obtain rfl : ω' = ω := by omega
  have t1 : (tr.take μ').length = μ' := by rw [List.length_take]; omega
  have t2 := restH_len (tr := tr) (μ := μ') l2
  have t3 := restK_len (tr := tr) (μ := μ') l3
  have e : restH (restH H tr μ' κ') (tr.take μ') μ' κ' = restH H tr μ' κ' := rest_restH (Nat.le_refl _) (Nat.le_refl _)
  have e' : restK (restK K tr μ' ω') (tr.take μ') μ' ω' = restK K tr μ' ω' := rest_restK (Nat.le_refl _) (Nat.le_refl _)
  refine ⟨μ', κ', ω', e1', e2', e3', by omega, by omega, by omega, ?_, W, ?_⟩
  · rw [e, e', take_take (Nat.le_refl _)]; exact G
  · rw [e, e', take_take (Nat.le_refl _)]; exact B
-- a new variable
section
variable {H K : List Cl} {tr : List Int} {comps : List Co} {names : List Cl}
theorem oldest_one (c : Cl) : oldestS [c] = c := by
  have h : ([c] : List Cl).filter (fun c => decide (c.1 = 0)) = [] ∨ ([c] : List Cl).filter (fun c => decide (c.1 = 0)) = [c] := by
    rw [List.filter_cons]
    split
    · exact .inr rfl
    · exact .inl rfl
  unfold oldestS
  rcases h with h | h
  · rw [if_pos h]; rfl
  · rw [h, if_neg (by simp)]; rfl
theorem good_freshH (G : Good H K tr comps names) : Good (H ++ [(0, (H.length : Int))]) K tr (comps ++ [⟨[(0, (H.length : Int))], none⟩]) (names ++ [(0, (H.length : Int))]) := by
  have ll : (H ++ [((0, (H.length : Int)) : Cl)]).length = H.length + 1 := by simp
  have mH : ∀ (i : Nat) (c : Cl), H[i]? = some c → (H ++ [((0, (H.length : Int)) : Cl)])[i]? = some c := fun i c h => by
    rw [List.getElem?_append_left (List.getElem?_eq_some_iff.mp h).1]; exact h
  refine ⟨fun i c h => ?_, fun i c h => ?_, fun co hco => ?_, fun co hco c hc => ?_, ?_, fun co hco c hc => ?_, fun c hc => ?_, fun e he => ?_⟩
  · rw [List.getElem?_append] at h
    split at h
    · exact G.hH i c h
    · rename_i hi
      have hz : i - H.length = 0 := by
        have := (List.getElem?_eq_some_iff.mp h).1
        simp at this; omega
      rw [hz] at h
      cases h
      exact .inr ⟨rfl, by simp, by simp only; omega⟩
  · rw [ll]
    rcases G.hK i c h with h | h | h
    · exact .inl h
    · exact .inr (.inl ⟨h.1, h.2.1, by omega⟩)
    · exact .inr (.inr h)
  · rcases List.mem_append.mp hco with h | h
    · exact G.ne co h
    · rw [List.mem_singleton.mp h]; simp
  · rw [ll]
    rcases List.mem_append.mp hco with h | h
    · rcases G.val co h c hc with q | q
      · exact .inl ⟨q.1, q.2.1, by omega⟩
      · exact .inr q
    · rw [List.mem_singleton.mp h] at hc
      rw [List.mem_singleton.mp hc]
      exact .inl ⟨rfl, by simp, by simp only; omega⟩
  · refine List.pairwise_append.mpr ⟨G.dj, List.pairwise_singleton _ _, fun a ha b hb c h1 h2 => ?_⟩
    rw [List.mem_singleton.mp hb] at h2
    have h2 := List.mem_singleton.mp h2
    subst h2
    rcases G.val a ha _ h1 with q | q
    · simp only at q; omega
    · exact absurd q.1 (by simp)
  · rcases List.mem_append.mp hco with h | h
    · obtain ⟨n, d⟩ := G.dr co h c hc
      exact ⟨n, dr_mono mH (fun _ _ h => h) d⟩
    · rw [List.mem_singleton.mp h] at hc ⊢
      rw [List.mem_singleton.mp hc, endS_none rfl, oldest_one]
      exact ⟨0, .selfH (by simp)⟩
  · rcases List.mem_append.mp hc with h | h
    · obtain ⟨co, h1, h2⟩ := G.nm c h
      exact ⟨co, List.mem_append_left _ h1, h2⟩
    · exact ⟨_, List.mem_append_right _ (List.mem_singleton.mpr rfl), h⟩
  · rw [ll]
    have := G.tk e he
    exact ⟨fun h => by have := this.1 h; omega, this.2⟩
theorem good_freshK (G : Good H K tr comps names) : Good H (K ++ [(1, (K.length : Int))]) tr (comps ++ [⟨[(1, (K.length : Int))], none⟩]) (names ++ [(1, (K.length : Int))]) := by
  have ll : (K ++ [((1, (K.length : Int)) : Cl)]).length = K.length + 1 := by simp
  have mH : ∀ (i : Nat) (c : Cl), K[i]? = some c → (K ++ [((1, (K.length : Int)) : Cl)])[i]? = some c := fun i c h => by
    rw [List.getElem?_append_left (List.getElem?_eq_some_iff.mp h).1]; exact h
  refine ⟨G.hH, fun i c h => ?_, fun co hco => ?_, fun co hco c hc => ?_, ?_, fun co hco c hc => ?_, fun c hc => ?_, fun e he => ?_⟩
  · rw [List.getElem?_append] at h
    split at h
    · exact G.hK i c h
    · rename_i hi
      have hz : i - K.length = 0 := by
        have := (List.getElem?_eq_some_iff.mp h).1
        simp at this; omega
      rw [hz] at h
      cases h
      exact .inr (.inr ⟨rfl, by simp, by simp only; omega⟩)
  · rcases List.mem_append.mp hco with h | h
    · exact G.ne co h
    · rw [List.mem_singleton.mp h]; simp
  · rw [ll]
    rcases List.mem_append.mp hco with h | h
    · rcases G.val co h c hc with q | q
      · exact .inl q
      · exact .inr ⟨q.1, q.2.1, by omega⟩
    · rw [List.mem_singleton.mp h] at hc
      rw [List.mem_singleton.mp hc]
      exact .inr ⟨rfl, by simp, by simp only; omega⟩
  · refine List.pairwise_append.mpr ⟨G.dj, List.pairwise_singleton _ _, fun a ha b hb c h1 h2 => ?_⟩
    rw [List.mem_singleton.mp hb] at h2
    have h2 := List.mem_singleton.mp h2
    subst h2
    rcases G.val a ha _ h1 with q | q
    · exact absurd q.1 (by simp)
    · simp only at q; omega
  · rcases List.mem_append.mp hco with h | h
    · obtain ⟨n, d⟩ := G.dr co h c hc
      exact ⟨n, dr_mono (fun _ _ h => h) mH d⟩
    · rw [List.mem_singleton.mp h] at hc ⊢
      rw [List.mem_singleton.mp hc, endS_none rfl, oldest_one]
      exact ⟨0, .selfK (by simp)⟩
  · rcases List.mem_append.mp hc with h | h
    · obtain ⟨co, h1, h2⟩ := G.nm c h
      exact ⟨co, List.mem_append_left _ h1, h2⟩
    · exact ⟨_, List.mem_append_right _ (List.mem_singleton.mpr rfl), h⟩
  · rw [ll]
    have := G.tk e he
    exact ⟨this.1, fun h => by have := this.2 h; omega⟩
end
section
variable {H K : List Cl} {tr tr' : List Int} {comps : List Co} {names : List Cl}
theorem mem_get {α : Type} {l : List α} {x : α} (h : x ∈ l) : ∃ i : Nat, l[i]? = some x := List.getElem?_of_mem h
theorem ends_ne (G : Good H K tr comps names) {i j : Nat} {co co' : Co} (hi : comps[i]? = some co) (hj : comps[j]? = some co') (hne : i ≠ j) (hw : co.worth = none) : endS co' ≠ oldestS co.names := by
  have m1 := List.mem_of_getElem? hi
  have m2 := List.mem_of_getElem? hj
  have r1 := (G.old m1).1
  have t1 := G.tags m1 _ r1
  intro e
  cases hw' : co'.worth with
  | some w =>
    rw [endS_some hw'] at e
    rw [← e] at t1
    rcases t1 with t | t
    · exact absurd t (by show ¬ (5 : Int) = 0; decide)
    · exact absurd t (by show ¬ (5 : Int) = 1; decide)
  | none =>
    rw [endS_none hw'] at e
    have r2 := (G.old m2).1
    rw [e] at r2
    exact pw_idx G.dj hi hj hne _ r1 r2
theorem good_num (G : Good H K tr comps names) {i : Nat} {co : Co} {v : Int} (hi : comps[i]? = some co) (hw : co.worth = none) (ht : ∀ e ∈ tr', e ∈ tr ∨ e = (if (oldestS co.names).1 = 0 then (oldestS co.names).2 else -1 - (oldestS co.names).2)) :
    Good (setHK H K (oldestS co.names) (5, v)).1 (setHK H K (oldestS co.names) (5, v)).2 tr' (comps.set i { co with worth := some v }) names := by
  have m := List.mem_of_getElem? hi
  have rt := G.root m hw
  have hil := (List.getElem?_eq_some_iff.mp hi).1
  refine good_bind G rt.2 (.inl rfl) ht (fun co' h => ?_) (fun co' h c hc => ?_) ?_ (fun co' h c hc => ?_) fun c hc => ?_
  · rcases List.mem_or_eq_of_mem_set h with h | h
    · exact G.ne co' h
    · rw [h]; exact G.ne co m
  · rcases List.mem_or_eq_of_mem_set h with h | h
    · exact ⟨co', h, hc⟩
    · rw [h] at hc; exact ⟨co, m, hc⟩
  · refine pw_of fun a b x y hab hx hy => ?_
    rcases get_set hx with ⟨e1, e2⟩ | ⟨e1, e2⟩ <;> rcases get_set hy with ⟨e3, e4⟩ | ⟨e3, e4⟩
    · omega
    · subst e1; subst e2; exact fun c h1 h2 => pw_idx G.dj hi e4 (by omega) c h1 h2
    · subst e3; subst e4; exact fun c h1 h2 => pw_idx G.dj e2 hi (by omega) c h1 h2
    · exact pw_idx G.dj e2 e4 (by omega)
  · obtain ⟨k, hk⟩ := mem_get h
    rcases get_set hk with ⟨e1, e2⟩ | ⟨e1, e2⟩
    · subst e2
      obtain ⟨n, d⟩ := G.dr co m c hc
      rw [endS_none hw] at d
      have hv : ((5, v) : Cl) ≠ oldestS co.names := fun e => by
        have := G.tags m _ rt.1
        rw [← e] at this
        rcases this with t | t
        · exact absurd t (by show ¬ (5 : Int) = 0; decide)
        · exact absurd t (by show ¬ (5 : Int) = 1; decide)
      exact dr_set_eq (k := 0) rt.2 hv (.tag (by decide) (by decide)) d
    · obtain ⟨n, d⟩ := G.dr co' (List.mem_of_getElem? e2) c hc
      exact ⟨n, dr_set_ne rt.2 d (ends_ne G hi e2 (fun e => e1 e.symm) hw)⟩
  · obtain ⟨co', h1, h2⟩ := G.nm c hc
    obtain ⟨k, hk⟩ := mem_get h1
    by_cases e : i = k
    · subst e
      rw [hi] at hk
      cases hk
      exact ⟨{ co with worth := some v }, List.mem_of_getElem? (i := i) (by rw [List.getElem?_set_self hil]), h2⟩
    · exact ⟨co', List.mem_of_getElem? (i := k) (by rw [List.getElem?_set_ne e]; exact hk), h2⟩
def bigL (l r : Co) : Cl := if clt (oldestS r.names) (oldestS l.names) = true then oldestS l.names else oldestS r.names
def lowL (l r : Co) : Cl := if clt (oldestS r.names) (oldestS l.names) = true then oldestS r.names else oldestS l.names
theorem good_join (G : Good H K tr comps names) {i j : Nat} {l r : Co} (hi : comps[i]? = some l) (hj : comps[j]? = some r) (hij : i ≠ j) (wl : l.worth = none) (wr : r.worth = none) (ht : ∀ e ∈ tr', e ∈ tr ∨ e = (if (bigL l r).1 = 0 then (bigL l r).2 else -1 - (bigL l r).2)) :
    Good (setHK H K (bigL l r) (lowL l r)).1 (setHK H K (bigL l r) (lowL l r)).2 tr' ((comps.set i { l with names := l.names ++ r.names }).filter fun c => !decide (c.names = r.names)) names ∧ bigL l r ≠ lowL l r ∧ RootAt H K (bigL l r) ∧ lowL l r = oldestS (l.names ++ r.names) ∧ RootAt H K (lowL l r) := by
  have ml := List.mem_of_getElem? hi
  have mr := List.mem_of_getElem? hj
  have rl := G.root ml wl
  have rr := G.root mr wr
  have hil := (List.getElem?_eq_some_iff.mp hi).1
  have hab : oldestS l.names ≠ oldestS r.names := fun e => by
    have h2 := rr.1
    rw [← e] at h2
    exact pw_idx G.dj hi hj hij _ rl.1 h2
  have hnl : l.names ≠ [] := G.ne l ml
  have hnr : r.names ≠ [] := G.ne r mr
  have eo := oldest_append hnl hnr (G.tags ml) (G.tags mr)
  have hlow : lowL l r = oldestS (l.names ++ r.names) := by rw [eo]; rfl
  have hcases : (bigL l r = oldestS l.names ∧ lowL l r = oldestS r.names ∧ clt (lowL l r) (bigL l r) = true) ∨ (bigL l r = oldestS r.names ∧ lowL l r = oldestS l.names ∧ clt (lowL l r) (bigL l r) = true) := by
    unfold bigL lowL
    by_cases h : clt (oldestS r.names) (oldestS l.names) = true
    · rw [if_pos h, if_pos h]; exact .inl ⟨rfl, rfl, h⟩
    · rw [if_neg h, if_neg h]
      refine .inr ⟨rfl, rfl, ?_⟩
      have h1 := clt_false.mp (Bool.eq_false_iff.mpr h)
      refine clt_iff.mpr ?_
      rcases h1 with h1 | h1
      · exact .inl h1
      · refine .inr ⟨h1.1, ?_⟩
        have : (oldestS l.names).2 ≠ (oldestS r.names).2 := fun q => hab (Prod.ext h1.1 q)
        omega
  have rB : RootAt H K (bigL l r) := by
    rcases hcases with h | h
    · rw [h.1]; exact rl.2
    · rw [h.1]; exact rr.2
  have rL : RootAt H K (lowL l r) := by
    rcases hcases with h | h
    · rw [h.2.1]; exact rr.2
    · rw [h.2.1]; exact rl.2
  have hne : bigL l r ≠ lowL l r := by
    rcases hcases with h | h
    · rw [h.1, h.2.1]; exact hab
    · rw [h.1, h.2.1]; exact fun e => hab e.symm
  have hclt : clt (lowL l r) (bigL l r) = true := hcases.elim (·.2.2) (·.2.2)
  -- the chain of the lower
  have dlow : ∃ k, Dr H K k (lowL l r) (lowL l r) := by
    rcases hcases with h | h
    · rw [h.2.1]
      obtain ⟨n, d⟩ := G.dr r mr _ rr.1
      rw [endS_none wr] at d
      exact ⟨n, d⟩
    · rw [h.2.1]
      obtain ⟨n, d⟩ := G.dr l ml _ rl.1
      rw [endS_none wl] at d
      exact ⟨n, d⟩
  have nk : ∀ {k : Nat} {co' : Co}, comps[k]? = some co' → k ≠ j → co'.names ≠ r.names := fun {k co'} hk hkj e => by
    have h1 : oldestS r.names ∈ co'.names := by rw [e]; exact rr.1
    exact hkj (pw_get G.dj hk hj h1 rr.1)
  have nN : l.names ++ r.names ≠ r.names := fun e => by
    have := congrArg List.length e
    rw [List.length_append] at this
    exact hnl (List.eq_nil_of_length_eq_zero (by omega))
  have inF : ∀ {co' : Co}, co' ∈ (comps.set i { l with names := l.names ++ r.names }).filter (fun c => !decide (c.names = r.names)) → co' = { l with names := l.names ++ r.names } ∨ ∃ k, k ≠ i ∧ k ≠ j ∧ comps[k]? = some co' := fun {co'} h => by
    obtain ⟨h1, h2⟩ := List.mem_filter.mp h
    have h3 : co'.names ≠ r.names := by simpa using h2
    obtain ⟨k, hk⟩ := mem_get h1
    rcases get_set hk with ⟨e1, e2⟩ | ⟨e1, e2⟩
    · exact .inl e2
    · refine .inr ⟨k, e1, fun e => h3 ?_, e2⟩
      subst e
      rw [hj] at e2
      cases e2; rfl
  refine ⟨good_bind G rB (.inr ⟨hclt, ?_, ?_, ?_⟩) ht (fun co' h => ?_) (fun co' h c hc => ?_) ?_ (fun co' h c hc => ?_) (fun c hc => ?_), hne, rB, hlow, rL⟩
  · rcases rL with h | h
    · exact h.2.1
    · exact h.2.1
  · rcases rL with h | h
    · exact .inl h.1
    · exact .inr h.1
  · intro h0
    rcases rL with h | h
    · have := (List.getElem?_eq_some_iff.mp h.2.2).1
      omega
    · omega
  · rcases inF h with e | ⟨k, _, _, hk⟩
    · rw [e]
      show l.names ++ r.names ≠ []
      simp [hnl]
    · exact G.ne co' (List.mem_of_getElem? hk)
  · rcases inF h with e | ⟨k, _, _, hk⟩
    · rw [e] at hc
      rcases List.mem_append.mp hc with hc | hc
      · exact ⟨l, ml, hc⟩
      · exact ⟨r, mr, hc⟩
    · exact ⟨co', List.mem_of_getElem? hk, hc⟩
  · refine List.pairwise_filter.mpr (pw_of fun a b x y hab hx hy px py => ?_)
    have px : x.names ≠ r.names := by simpa using px
    have py : y.names ≠ r.names := by simpa using py
    rcases get_set hx with ⟨e1, e2⟩ | ⟨e1, e2⟩ <;> rcases get_set hy with ⟨e3, e4⟩ | ⟨e3, e4⟩
    · omega
    · subst e1; subst e2
      have hbj : b ≠ j := fun e => py (by subst e; rw [hj] at e4; cases e4; rfl)
      intro c h1 h2
      rcases List.mem_append.mp h1 with h1 | h1
      · exact pw_idx G.dj hi e4 (by omega) c h1 h2
      · exact pw_idx G.dj hj e4 (fun e => hbj e.symm) c h1 h2
    · subst e3; subst e4
      have haj : a ≠ j := fun e => px (by subst e; rw [hj] at e2; cases e2; rfl)
      intro c h1 h2
      rcases List.mem_append.mp h2 with h2 | h2
      · exact pw_idx G.dj e2 hi (by omega) c h1 h2
      · exact pw_idx G.dj e2 hj haj c h1 h2
    · exact pw_idx G.dj e2 e4 (by omega)
  · rcases inF h with e | ⟨k, k1, k2, hk⟩
    · have eN : endS co' = lowL l r := by
        rw [e, hlow]; exact endS_none wl
      rw [eN]
      have hd : ∃ n e, Dr H K n c e ∧ (e = bigL l r ∨ e = lowL l r) := by
        rw [e] at hc
        rcases List.mem_append.mp hc with hc | hc
        · obtain ⟨n, d⟩ := G.dr l ml c hc
          rw [endS_none wl] at d
          exact ⟨n, _, d, hcases.elim (fun h => .inl h.1.symm) (fun h => .inr h.2.1.symm)⟩
        · obtain ⟨n, d⟩ := G.dr r mr c hc
          rw [endS_none wr] at d
          exact ⟨n, _, d, hcases.elim (fun h => .inr h.2.1.symm) (fun h => .inl h.1.symm)⟩
      obtain ⟨n, e', d, h⟩ := hd
      obtain ⟨k, dl⟩ := dlow
      rcases h with h | h
      · rw [h] at d
        exact dr_set_eq rB (fun e => hne e.symm) (dr_set_ne rB dl fun e => hne e.symm) d
      · rw [h] at d
        exact ⟨n, dr_set_ne rB d fun e => hne e.symm⟩
    · obtain ⟨n, d⟩ := G.dr co' (List.mem_of_getElem? hk) c hc
      refine ⟨n, dr_set_ne rB d ?_⟩
      rcases hcases with h | h
      · rw [h.1]; exact ends_ne G hi hk (fun e => k1 e.symm) wl
      · rw [h.1]; exact ends_ne G hj hk (fun e => k2 e.symm) wr
  · have inN : ({ l with names := l.names ++ r.names } : Co) ∈ (comps.set i { l with names := l.names ++ r.names }).filter (fun c => !decide (c.names = r.names)) :=
      List.mem_filter.mpr ⟨List.mem_of_getElem? (i := i) (by rw [List.getElem?_set_self hil]), by simpa using nN⟩
    obtain ⟨co', h1, h2⟩ := G.nm c hc
    obtain ⟨k, hk⟩ := mem_get h1
    by_cases e : k = i
    · subst e
      rw [hi] at hk
      cases hk
      exact ⟨_, inN, List.mem_append_left _ h2⟩
    · by_cases e' : k = j
      · subst e'
        rw [hj] at hk
        cases hk
        exact ⟨_, inN, List.mem_append_right _ h2⟩
      · refine ⟨co', List.mem_filter.mpr ⟨List.mem_of_getElem? (i := k) (by rw [List.getElem?_set_ne (fun q => e q.symm)]; exact hk), by simpa using nk hk e'⟩, h2⟩
end
-- the state's invariant
structure Inv (σ : St) : Prop where
  good : Good σ.heap σ.stack σ.trail σ.comps σ.names
  wk : Wk σ.comps
  wtr : (σ.trail.length : Int) = σ.wtr
  hb : σ.hb = lim σ 0
  bb : σ.bb = lim σ 1
  back : Back σ.past.reverse σ.heap σ.stack σ.trail
theorem lim_cons {σ : St} {sn : Sn} {rest : List Sn} (h : σ.past.reverse = sn :: rest) : lim σ 0 = sn.high ∧ lim σ 1 = sn.wide := by
  have e : σ.past.getLast? = some sn := by
    have : σ.past = rest.reverse ++ [sn] := by have := congrArg List.reverse h; simpa using this
    rw [this]; simp
  unfold lim
  rw [e]
  exact ⟨rfl, rfl⟩
def bindC (σ : St) (r v : Cl) (cs : List Co) : St := { bindS σ r v with comps := cs, wtr := if r.2 < lim σ r.1 then σ.wtr + 1 else σ.wtr }
theorem bindS_hk {σ : St} {r v : Cl} : (bindS σ r v).heap = (setHK σ.heap σ.stack r v).1 ∧ (bindS σ r v).stack = (setHK σ.heap σ.stack r v).2 := by
  unfold bindS setHK; split <;> exact ⟨rfl, rfl⟩
theorem bindS_tr {σ : St} {r v : Cl} : ∀ e ∈ (bindS σ r v).trail, e ∈ σ.trail ∨ e = (if r.1 = 0 then r.2 else -1 - r.2) := by
  intro e he
  unfold bindS at he
  by_cases h : r.1 = 0
  · rw [if_pos h] at he ⊢
    dsimp only at he
    split at he
    · rcases List.mem_append.mp he with h | h
      · exact .inl h
      · exact .inr (List.mem_singleton.mp h)
    · exact .inl he
  · rw [if_neg h] at he ⊢
    dsimp only at he
    split at he
    · rcases List.mem_append.mp he with h | h
      · exact .inl h
      · exact .inr (List.mem_singleton.mp h)
    · exact .inl he
theorem inv_bind {σ : St} {r v : Cl} {cs : List Co} (I : Inv σ) (hr : RootAt σ.heap σ.stack r) (G : Good (bindS σ r v).heap (bindS σ r v).stack (bindS σ r v).trail cs σ.names) (W : Wk cs) : Inv (bindC σ r v cs) := by
  have rest := @bindS_rest σ r v
  have el : ∀ t, lim (bindC σ r v cs) t = lim σ t := fun t => by unfold lim bindC; rw [rest.2.2.1]
  refine ⟨?_, W, ?_, ?_, ?_, ?_⟩
  · show Good (bindS σ r v).heap (bindS σ r v).stack (bindS σ r v).trail cs (bindS σ r v).names
    rw [rest.2.1]; exact G
  · have hw := I.wtr
    show (((bindS σ r v).trail.length : Nat) : Int) = if r.2 < lim σ r.1 then σ.wtr + 1 else σ.wtr
    unfold bindS
    rcases hr with h | h
    · rw [if_pos h.1, h.1, ← I.hb]
      dsimp only
      split
      · rw [List.length_append, List.length_singleton]; omega
      · exact hw
    · rw [if_neg (by omega), h.1, ← I.bb]
      dsimp only
      split
      · rw [List.length_append, List.length_singleton]; omega
      · exact hw
  · rw [el]
    show (bindS σ r v).hb = _
    rw [rest.2.2.2.2.1]; exact I.hb
  · rw [el]
    show (bindS σ r v).bb = _
    rw [rest.2.2.2.2.2.1]; exact I.bb
  · show Back (bindS σ r v).past.reverse (bindS σ r v).heap (bindS σ r v).stack (bindS σ r v).trail
    rw [rest.2.2.1]
    refine I.back.turn fun sn ss e μ κ ω e1 e2 e3 l1 l2 l3 => ?_
    have ll := lim_cons e
    have l4 := rest.2.2.2.2.2.2.1
    have l5 := rest.2.2.2.2.2.2.2
    rcases hr with ⟨h1, h2, h3⟩ | ⟨h1, h2, h3⟩
    · have er := cl_eq h1 h2
      have q := rest_setH (H := σ.heap) (K := σ.stack) (tr := σ.trail) (κ := κ) (ω := ω) (p := r.2.toNat) (v := v) (by rw [h3]; exact congrArg some er) l1
      have ep : ((r.2.toNat : Nat) : Int) = r.2 := by omega
      rw [ep, ← e2, ← ll.1, ← I.hb] at q
      have eb : bindS σ r v = { σ with heap := σ.heap.set r.2.toNat v, trail := if r.2 < σ.hb then σ.trail ++ [r.2] else σ.trail } := by unfold bindS; rw [if_pos h1]
      rw [eb] at l4 l5 ⊢
      exact ⟨q.1, q.2.1, q.2.2.1, q.2.2.2, by rw [l4]; exact l2, by rw [l5]; exact l3⟩
    · have er := cl_eq h1 h2
      have q := rest_setK (H := σ.heap) (K := σ.stack) (tr := σ.trail) (κ := κ) (ω := ω) (p := r.2.toNat) (v := v) (by rw [h3]; exact congrArg some er) l1
      have ep : ((r.2.toNat : Nat) : Int) = r.2 := by omega
      rw [ep, ← e3, ← ll.2, ← I.bb] at q
      have eb : bindS σ r v = { σ with stack := σ.stack.set r.2.toNat v, trail := if r.2 < σ.bb then σ.trail ++ [-1 - r.2] else σ.trail } := by unfold bindS; rw [if_neg (by omega)]
      rw [eb] at l4 l5 ⊢
      exact ⟨q.1, q.2.1, q.2.2.1, q.2.2.2, by rw [l4]; exact l2, by rw [l5]; exact l3⟩
theorem wk_set {cs : List Co} {i : Nat} {co : Co} (W : Wk cs) (h : ∀ w, co.worth = some w → 0 ≤ w) : Wk (cs.set i co) := fun c hc w hw => by
  rcases List.mem_or_eq_of_mem_set hc with hc | rfl
  · exact W c hc w hw
  · exact h w hw
theorem wk_filter {cs : List Co} {p : Co → Bool} (W : Wk cs) : Wk (cs.filter p) := fun c hc => W c (List.mem_filter.mp hc).1
/-- a company gets a number -/
def numS (σ : St) (i : Nat) (co : Co) (v : Int) : St := bindC σ (oldestS co.names) (5, v) (σ.comps.set i { co with worth := some v })
theorem inv_num {σ : St} {i : Nat} {co : Co} {v : Int} (I : Inv σ) (hi : σ.comps[i]? = some co) (hw : co.worth = none) (hv : 0 ≤ v) : Inv (numS σ i co v) := by
  refine inv_bind I (I.good.root (List.mem_of_getElem? hi) hw).2 ?_ (wk_set I.wk fun w e => by cases e; exact hv)
  rw [bindS_hk.1, bindS_hk.2]
  exact good_num I.good hi hw bindS_tr
theorem lim_same {σ σ' : St} (h : σ'.past = σ.past) (t : Int) : lim σ' t = lim σ t := by unfold lim; rw [h]
theorem inv_fresh {σ : St} {t : Int} (I : Inv σ) (ht : t = 0 ∨ t = 1) : Inv (freshS σ t) := by
  rcases ht with rfl | rfl
  · unfold freshS
    rw [if_pos rfl]
    refine ⟨good_freshH I.good, ?_, I.wtr, I.hb, I.bb, ?_⟩
    · intro co hco w hw
      rcases List.mem_append.mp hco with h | h
      · exact I.wk co h w hw
      · rw [List.mem_singleton.mp h] at hw; cases hw
    · refine I.back.turn fun sn ss e μ κ ω e1 e2 e3 l1 l2 l3 => ⟨rest_addH l2, rfl, rfl, l1, ?_, l3⟩
      show κ ≤ (σ.heap ++ [_]).length
      rw [List.length_append]; omega
  · unfold freshS
    rw [if_neg (by decide)]
    refine ⟨good_freshK I.good, ?_, I.wtr, I.hb, I.bb, ?_⟩
    · intro co hco w hw
      rcases List.mem_append.mp hco with h | h
      · exact I.wk co h w hw
      · rw [List.mem_singleton.mp h] at hw; cases hw
    · refine I.back.turn fun sn ss e μ κ ω e1 e2 e3 l1 l2 l3 => ⟨rfl, rest_addK l3, rfl, l1, l2, ?_⟩
      show ω ≤ (σ.stack ++ [_]).length
      rw [List.length_append]; omega
theorem end_stack {co : Co} (h : (endS co).1 = 1) : co.worth = none := by
  cases hw : co.worth with
  | none => rfl
  | some w =>
    rw [endS_some hw] at h
    exact absurd h (by show ¬ (5 : Int) = 1; decide)
theorem moved_eq {σ : St} {i : Nat} {co : Co} (he : (endS co).1 = 1) :
    movedS σ i co = bindC (freshS σ 0) (endS co) (0, (σ.heap.length : Int)) (σ.comps.set i { co with names := co.names ++ [(0, (σ.heap.length : Int))] }) := by
  have h0 : ¬ (endS co).1 = 0 := by omega
  have ef : freshS σ 0 = ⟨σ.heap ++ [(0, (σ.heap.length : Int))], σ.stack, σ.trail, σ.hb, σ.bb, σ.comps ++ [⟨[(0, (σ.heap.length : Int))], none⟩], σ.names ++ [(0, (σ.heap.length : Int))], σ.wtr, σ.past⟩ := by
    unfold freshS; rw [if_pos rfl]
  have e1 : bindS (newS σ (0, (σ.heap.length : Int))) (endS co) (0, (σ.heap.length : Int)) = ⟨σ.heap ++ [(0, (σ.heap.length : Int))], σ.stack.set (endS co).2.toNat (0, (σ.heap.length : Int)), if (endS co).2 < σ.bb then σ.trail ++ [-1 - (endS co).2] else σ.trail, σ.hb, σ.bb, σ.comps, σ.names, σ.wtr, σ.past⟩ := by
    unfold bindS; rw [if_neg h0]; rfl
  have e2 : bindS (freshS σ 0) (endS co) (0, (σ.heap.length : Int)) = ⟨σ.heap ++ [(0, (σ.heap.length : Int))], σ.stack.set (endS co).2.toNat (0, (σ.heap.length : Int)), if (endS co).2 < σ.bb then σ.trail ++ [-1 - (endS co).2] else σ.trail, σ.hb, σ.bb, σ.comps ++ [⟨[(0, (σ.heap.length : Int))], none⟩], σ.names ++ [(0, (σ.heap.length : Int))], σ.wtr, σ.past⟩ := by
    unfold bindS; rw [if_neg h0, ef]
  unfold movedS
  rw [if_pos he]
  show ({ notedS (bindS (newS σ (0, (σ.heap.length : Int))) (endS co) (0, (σ.heap.length : Int))) (endS co) with comps := (notedS (bindS (newS σ (0, (σ.heap.length : Int))) (endS co) (0, (σ.heap.length : Int))) (endS co)).comps.set i { co with names := co.names ++ [(0, (σ.heap.length : Int))] }, names := (notedS (bindS (newS σ (0, (σ.heap.length : Int))) (endS co) (0, (σ.heap.length : Int))) (endS co)).names ++ [(0, (σ.heap.length : Int))] } : St) = _
  unfold bindC
  rw [e1, e2, ef]
  generalize (if (endS co).2 < σ.bb then σ.trail ++ [-1 - (endS co).2] else σ.trail) = tt
  unfold notedS
  have l1 : lim (⟨σ.heap ++ [(0, (σ.heap.length : Int))], σ.stack.set (endS co).2.toNat (0, (σ.heap.length : Int)), tt, σ.hb, σ.bb, σ.comps, σ.names, σ.wtr, σ.past⟩ : St) (endS co).1 = lim σ (endS co).1 := lim_same rfl _
  have l2 : lim (⟨σ.heap ++ [(0, (σ.heap.length : Int))], σ.stack, σ.trail, σ.hb, σ.bb, σ.comps ++ [⟨[(0, (σ.heap.length : Int))], none⟩], σ.names ++ [(0, (σ.heap.length : Int))], σ.wtr, σ.past⟩ : St) (endS co).1 = lim σ (endS co).1 := lim_same rfl _
  rw [l1, l2]
  by_cases h : (endS co).2 < lim σ (endS co).1
  · rw [if_pos h, if_pos h]
  · rw [if_neg h, if_neg h]
theorem inv_moved {σ : St} {i : Nat} {co : Co} (I : Inv σ) (hi : σ.comps[i]? = some co) : Inv (movedS σ i co) := by
  by_cases he : (endS co).1 = 1
  · rw [moved_eq he]
    have hw := end_stack he
    have er := endS_none hw
    rw [er] at he ⊢
    have IF := inv_fresh I (.inl rfl)
    have ef0 : freshS σ 0 = ⟨σ.heap ++ [(0, (σ.heap.length : Int))], σ.stack, σ.trail, σ.hb, σ.bb, σ.comps ++ [⟨[(0, (σ.heap.length : Int))], none⟩], σ.names ++ [(0, (σ.heap.length : Int))], σ.wtr, σ.past⟩ := by
      unfold freshS; rw [if_pos rfl]
    rw [ef0] at IF ⊢
    generalize hF : (⟨σ.heap ++ [(0, (σ.heap.length : Int))], σ.stack, σ.trail, σ.hb, σ.bb, σ.comps ++ [⟨[(0, (σ.heap.length : Int))], none⟩], σ.names ++ [(0, (σ.heap.length : Int))], σ.wtr, σ.past⟩ : St) = σF at IF ⊢
    have f1 : σF.heap = σ.heap ++ [(0, (σ.heap.length : Int))] := by rw [← hF]
    have f2 : σF.stack = σ.stack := by rw [← hF]
    have f3 : σF.trail = σ.trail := by rw [← hF]
    have f4 : σF.names = σ.names ++ [(0, (σ.heap.length : Int))] := by rw [← hF]
    have m := List.mem_of_getElem? hi
    have hil := (List.getElem?_eq_some_iff.mp hi).1
    have G := good_freshH I.good
    have hi' : (σ.comps ++ [⟨[(0, (σ.heap.length : Int))], none⟩])[i]? = some co := by rw [List.getElem?_append_left hil]; exact hi
    have hj' : (σ.comps ++ [⟨[(0, (σ.heap.length : Int))], none⟩])[σ.comps.length]? = some (⟨[(0, (σ.heap.length : Int))], none⟩ : Co) := by simp
    have o1 : oldestS [((0, (σ.heap.length : Int)) : Cl)] = (0, (σ.heap.length : Int)) := oldest_one _
    have hc : clt (oldestS [((0, (σ.heap.length : Int)) : Cl)]) (oldestS co.names) = true := by
      rw [o1]; exact clt_iff.mpr (.inl (by show (0 : Int) < _; omega))
    have bg : bigL co (⟨[(0, (σ.heap.length : Int))], none⟩ : Co) = oldestS co.names := by unfold bigL; rw [if_pos hc]
    have lw : lowL co (⟨[(0, (σ.heap.length : Int))], none⟩ : Co) = (0, (σ.heap.length : Int)) := by unfold lowL; rw [if_pos hc]; exact o1
    have J := good_join (tr' := (bindS σF (oldestS co.names) (0, (σ.heap.length : Int))).trail) G hi' hj' (by omega) hw rfl (fun e he => by rw [bg, ← f3]; exact bindS_tr e he)
    rw [bg, lw] at J
    have ef : ((σ.comps ++ [(⟨[(0, (σ.heap.length : Int))], none⟩ : Co)]).set i { co with names := co.names ++ [(0, (σ.heap.length : Int))] }).filter (fun c => !decide (c.names = [(0, (σ.heap.length : Int))])) = σ.comps.set i { co with names := co.names ++ [(0, (σ.heap.length : Int))] } := by
      rw [List.set_append_left _ _ hil, List.filter_append]
      have f2 : [(⟨[(0, (σ.heap.length : Int))], none⟩ : Co)].filter (fun c => !decide (c.names = [(0, (σ.heap.length : Int))])) = [] := by simp
      rw [f2, List.append_nil]
      refine List.filter_eq_self.mpr fun c hc => ?_
      have : c.names ≠ [(0, (σ.heap.length : Int))] := fun e => by
        rcases List.mem_or_eq_of_mem_set hc with h | h
        · have hm : ((0, (σ.heap.length : Int)) : Cl) ∈ c.names := by rw [e]; exact .head _
          rcases I.good.val c h _ hm with q | q
          · simp only at q; omega
          · exact absurd q.1 (by simp)
        · rw [h] at e
          have := congrArg List.length e
          simp at this
          exact I.good.ne co m this
      simpa using this
    rw [ef] at J
    rw [← f1, ← f2, ← f4] at J
    refine inv_bind IF J.2.2.1 ?_ (wk_set I.wk fun w e => I.wk co m w e)
    rw [bindS_hk.1, bindS_hk.2]
    exact J.1
  · unfold movedS
    rw [if_neg he]; exact I
theorem pair_eq {σ : St} {l r : Co} (ha : RootAt σ.heap σ.stack (oldestS l.names)) (hb : RootAt σ.heap σ.stack (oldestS r.names)) (hne : oldestS l.names ≠ oldestS r.names) : pairS σ (oldestS l.names) (oldestS r.names) = bindS σ (bigL l r) (lowL l r) := by
  have ta : (oldestS l.names).1 = 0 ∨ (oldestS l.names).1 = 1 := ha.imp (·.1) (·.1)
  have tb : (oldestS r.names).1 = 0 ∨ (oldestS r.names).1 = 1 := hb.imp (·.1) (·.1)
  unfold pairS bigL lowL
  rw [if_neg hne]
  generalize oldestS l.names = a at *
  generalize oldestS r.names = b at *
  by_cases h1 : a.1 = b.1
  · rw [if_pos h1]
    by_cases h2 : a.2 < b.2
    · rw [if_pos h2]
      have : ¬ clt b a = true := by rw [clt_iff]; omega
      rw [if_neg this, if_neg this]
    · rw [if_neg h2]
      have h3 : a.2 ≠ b.2 := fun e => hne (Prod.ext h1 e)
      have : clt b a = true := by rw [clt_iff]; omega
      rw [if_pos this, if_pos this]
  · rw [if_neg h1]
    by_cases h2 : a.1 = 1
    · rw [if_pos h2]
      have : clt b a = true := by rw [clt_iff]; omega
      rw [if_pos this, if_pos this]
    · rw [if_neg h2]
      have : ¬ clt b a = true := by rw [clt_iff]; omega
      rw [if_neg this, if_neg this]
theorem noted_bind {σ : St} {r v : Cl} {cs : List Co} : notedS { bindS σ r v with comps := cs } r = bindC σ r v cs := by
  have e : lim ({ bindS σ r v with comps := cs } : St) r.1 = lim σ r.1 := lim_same bindS_rest.2.2.1 _
  have ew : (bindS σ r v).wtr = σ.wtr := bindS_rest.2.2.2.1
  unfold notedS bindC
  rw [e]
  by_cases h : r.2 < lim σ r.1
  · rw [if_pos h, if_pos h]
    dsimp only
    rw [ew]
  · rw [if_neg h, if_neg h, ← ew]
theorem bind_noted {σ : St} {r v : Cl} {cs : List Co} : bindS { notedS σ r with comps := cs } r v = bindC σ r v cs := by
  unfold bindC notedS
  by_cases h : r.2 < lim σ r.1
  · rw [if_pos h, if_pos h]
    unfold bindS
    split <;> rfl
  · rw [if_neg h, if_neg h]
    unfold bindS
    split <;> rfl
theorem joined_eq {σ : St} {i j : Nat} {l r : Co} (I : Inv σ) (hi : σ.comps[i]? = some l) (hj : σ.comps[j]? = some r) (hne : l.names ≠ r.names) (wl : l.worth = none) (wr : r.worth = none) :
    i ≠ j ∧ joinedS σ i j l r = bindC σ (bigL l r) (lowL l r) ((σ.comps.set i { l with names := l.names ++ r.names }).filter fun c => !decide (c.names = r.names)) ∧
      Good (bindS σ (bigL l r) (lowL l r)).heap (bindS σ (bigL l r) (lowL l r)).stack (bindS σ (bigL l r) (lowL l r)).trail ((σ.comps.set i { l with names := l.names ++ r.names }).filter fun c => !decide (c.names = r.names)) σ.names ∧ RootAt σ.heap σ.stack (bigL l r) := by
  have hij : i ≠ j := fun e => by subst e; rw [hi] at hj; cases hj; exact hne rfl
  have J := good_join (tr' := (bindS σ (bigL l r) (lowL l r)).trail) I.good hi hj hij wl wr bindS_tr
  have ra := (I.good.root (List.mem_of_getElem? hi) wl)
  have rb := (I.good.root (List.mem_of_getElem? hj) wr)
  have hab : oldestS l.names ≠ oldestS r.names := fun e => by
    have h2 := rb.1
    rw [← e] at h2
    exact pw_idx I.good.dj hi hj hij _ ra.1 h2
  refine ⟨hij, ?_, ?_, J.2.2.1⟩
  · unfold joinedS
    rw [wl, wr]
    dsimp only
    rw [if_neg hne, pair_eq ra.2 rb.2 hab, ← J.2.2.2.1]
    have eb : (if lowL l r = oldestS l.names then oldestS r.names else oldestS l.names) = bigL l r := by
      unfold lowL bigL
      by_cases h : clt (oldestS r.names) (oldestS l.names) = true
      · rw [if_pos h, if_pos h, if_neg fun e => hab e.symm]
      · rw [if_neg h, if_neg h, if_pos rfl]
    rw [eb, ← noted_bind, bindS_rest.1]
  · rw [bindS_hk.1, bindS_hk.2]
    exact J.1
theorem inv_joined {σ : St} {i j : Nat} {l r : Co} (I : Inv σ) (hi : σ.comps[i]? = some l) (hj : σ.comps[j]? = some r) : Inv (joinedS σ i j l r) := by
  have ml := List.mem_of_getElem? hi
  have mr := List.mem_of_getElem? hj
  cases wl : l.worth with
  | none =>
    cases wr : r.worth with
    | none =>
      by_cases hne : l.names = r.names
      · have : joinedS σ i j l r = σ := by
          unfold joinedS
          rw [wl, wr]
          dsimp only
          rw [if_pos hne, hne]
          unfold pairS
          rw [if_pos rfl]
        rw [this]; exact I
      · obtain ⟨_, e, G, R⟩ := joined_eq I hi hj hne wl wr
        rw [e]
        refine inv_bind I R G (wk_filter (wk_set I.wk fun w e => I.wk l ml w e))
    | some v =>
      have : joinedS σ i j l r = numS σ i l v := by
        unfold joinedS numS
        rw [wl, wr]
        dsimp only
        rw [bind_noted, notedS_heap.2.2.2.1]
      rw [this]
      exact inv_num I hi wl (I.wk r mr v wr)
  | some v =>
    cases wr : r.worth with
    | none =>
      have : joinedS σ i j l r = numS σ j r v := by
        unfold joinedS numS
        rw [wl, wr]
        dsimp only
        rw [bind_noted, notedS_heap.2.2.2.1]
      rw [this]
      exact inv_num I hj wr (I.wk l ml v wl)
    | some u =>
      have : joinedS σ i j l r = σ := by
        unfold joinedS
        rw [wl, wr]
      rw [this]; exact I
def chosenS (σ : St) : St := boundsS { σ with past := σ.past ++ [⟨σ.trail.length, σ.heap.length, σ.stack.length, σ.comps, σ.names⟩] }
def cutS (σ : St) (ss : List Sn) : St := boundsS { σ with past := ss }
theorem inv_chosen {σ : St} (I : Inv σ) : Inv (chosenS σ) := by
  refine ⟨I.good, I.wk, I.wtr, rfl, rfl, ?_⟩
  show Back (σ.past ++ [_]).reverse _ _ _
  rw [List.reverse_append]
  exact I.back.mark I.good I.wk
theorem inv_cut {σ : St} {ss : List Sn} {sn : Sn} (I : Inv σ) (e : σ.past = ss ++ [sn]) : Inv (cutS σ ss) := by
  refine ⟨I.good, I.wk, I.wtr, rfl, rfl, ?_⟩
  have B := I.back
  rw [e, List.reverse_append] at B
  exact B.cut
theorem past_split {σ : St} (I : Inv σ) (h : σ.past ≠ []) : ∃ ss μ κ ω cs ns, σ.past = ss ++ [⟨(μ : Nat), (κ : Nat), (ω : Nat), cs, ns⟩] ∧ μ ≤ σ.trail.length ∧ κ ≤ σ.heap.length ∧ ω ≤ σ.stack.length := by
  obtain ⟨ss, sn, e⟩ := List.eq_nil_or_concat σ.past |>.resolve_left h
  rw [List.concat_eq_append] at e
  have B := I.back
  rw [e, List.reverse_append] at B
  obtain ⟨μ, κ, ω, e1, e2, e3, l1, l2, l3, _⟩ := B
  obtain ⟨a, b, c, d, f⟩ := sn
  dsimp only at e1 e2 e3
  subst e1; subst e2; subst e3
  exact ⟨ss, μ, κ, ω, d, f, e, l1, l2, l3⟩
theorem inv_returned {σ : St} {ss : List Sn} {μ κ ω : Nat} {cs : List Co} {ns : List Cl} (I : Inv σ) (e : σ.past = ss ++ [⟨μ, κ, ω, cs, ns⟩]) : Inv (returnedS σ ⟨μ, κ, ω, cs, ns⟩) := by
  have B := I.back
  have el : ∀ t, lim (returnedS σ ⟨μ, κ, ω, cs, ns⟩) t = lim σ t := fun t => lim_same rfl t
  rw [e, List.reverse_append] at B
  have B2 := Back.back (sn := ⟨μ, κ, ω, cs, ns⟩) (rest := ss.reverse) B rfl rfl rfl
  obtain ⟨μ', κ', ω', e1, e2, e3, l1, l2, l3, G, W, _⟩ := B
  dsimp only at e1 e2 e3
  obtain rfl : μ = μ' := by omega
  obtain rfl : κ = κ' := by omega
  obtain rfl : ω = ω' := by omega
  have eh : (returnedS σ ⟨μ, κ, ω, cs, ns⟩).heap = restH σ.heap σ.trail μ κ := by
    show ((undoS σ ((μ : Int).toNat)).heap).take ((κ : Int).toNat) = _
    rw [Int.toNat_natCast, Int.toNat_natCast]; rfl
  have ek : (returnedS σ ⟨μ, κ, ω, cs, ns⟩).stack = restK σ.stack σ.trail μ ω := by
    show ((undoS σ ((μ : Int).toNat)).stack).take ((ω : Int).toNat) = _
    rw [Int.toNat_natCast, Int.toNat_natCast]; rfl
  have et : (returnedS σ ⟨μ, κ, ω, cs, ns⟩).trail = σ.trail.take μ := by
    show (undoS σ ((μ : Int).toNat)).trail = _
    rw [Int.toNat_natCast]; rfl
  refine ⟨?_, W, ?_, ?_, ?_, ?_⟩
  · rw [eh, ek, et]; exact G
  · rw [et, List.length_take]
    show ((min μ σ.trail.length : Nat) : Int) = (μ : Int)
    omega
  · rw [el]; exact I.hb
  · rw [el]; exact I.bb
  · show Back σ.past.reverse _ _ _
    rw [eh, ek, et, e, List.reverse_append]
    exact B2
theorem inv_sound {σ : St} (I : Inv σ) : SoundOk σ := by
  refine ⟨fun i c h => ?_, fun i c h h1 => ?_, fun c hc => ?_, I.wtr⟩
  · rcases I.good.hH i c h with q | q
    · exact ⟨by omega, fun e => by omega⟩
    · exact ⟨by omega, fun _ => q.2.2⟩
  · rcases I.good.hK i c h with q | q | q
    · omega
    · omega
    · exact q.2.2
  · obtain ⟨co, m, hm⟩ := I.good.nm c hc
    obtain ⟨i, hi⟩ := mem_get m
    obtain ⟨n, d⟩ := I.good.dr co m c hm
    refine ⟨i, co, n, I.good.find hi hm, hi, I.good.ne co m, d, ?_⟩
    cases hw : co.worth with
    | some w =>
      rw [endS_some hw]
      exact ⟨.inr (.inr ⟨by show ¬ (5 : Int) = 0; decide, by show ¬ (5 : Int) = 1; decide⟩), I.wk co m w hw, .inl rfl⟩
    | none =>
      rw [endS_none hw]
      rcases (I.good.root m hw).2 with q | q
      · exact ⟨.inl ⟨q.1, q.2.2⟩, q.2.1, .inr (.inl q.1)⟩
      · exact ⟨.inr (.inl ⟨q.1, q.2.2⟩), q.2.1, .inr (.inr q.1)⟩
structure Zs (b : Nat) (σ : St) : Prop where
  sz : Sz b σ
  sv : ∀ sn ∈ σ.past, sn.comps.length ≤ b ∧ sn.names.length ≤ b ∧ ∀ c ∈ sn.comps, c.names.length ≤ b
theorem Zs.up {b c : Nat} {σ : St} (h : Zs b σ) (hb : b ≤ c) : Zs c σ := ⟨h.sz.up hb, fun sn hs => by
  obtain ⟨h1, h2, h3⟩ := h.sv sn hs
  exact ⟨by omega, by omega, fun c hc => Nat.le_trans (h3 c hc) hb⟩⟩
theorem le_s {a b : Nat} (h : a ≤ b) (hb : 1 ≤ b) : a + 1 ≤ 2 * b := by omega
theorem le_d {a b : Nat} (h : a ≤ b) : a ≤ 2 * b := by omega
theorem le_a {a c b : Nat} (h : a ≤ b) (k : c ≤ b) : a + c ≤ 2 * b := by omega
theorem zs_fresh {b : Nat} {σ : St} {t : Int} (h : Zs b σ) (hb : 1 ≤ b) : Zs (2 * b) (freshS σ t) := by
  have a1 := h.sz.heap; have a2 := h.sz.stack; have a3 := h.sz.trail; have a4 := h.sz.comps; have a5 := h.sz.names; have a6 := h.sz.past
  have hs := (h.up (le_d (Nat.le_refl b))).sv
  unfold freshS
  split
  · refine ⟨⟨?_, ?_, ?_, ?_, ?_, ?_, fun c hc => ?_⟩, hs⟩
    · show (σ.heap ++ [_]).length ≤ _; rw [List.length_append, List.length_singleton]; exact le_s a1 hb
    · exact le_d a2
    · exact le_d a3
    · show (σ.comps ++ [_]).length ≤ _; rw [List.length_append, List.length_singleton]; exact le_s a4 hb
    · show (σ.names ++ [_]).length ≤ _; rw [List.length_append, List.length_singleton]; exact le_s a5 hb
    · exact le_d a6
    · rcases List.mem_append.mp hc with hc | hc
      · exact le_d (h.sz.co c hc)
      · rw [List.mem_singleton.mp hc]; exact le_d hb
  · refine ⟨⟨?_, ?_, ?_, ?_, ?_, ?_, fun c hc => ?_⟩, hs⟩
    · exact le_d a1
    · show (σ.stack ++ [_]).length ≤ _; rw [List.length_append, List.length_singleton]; exact le_s a2 hb
    · exact le_d a3
    · show (σ.comps ++ [_]).length ≤ _; rw [List.length_append, List.length_singleton]; exact le_s a4 hb
    · show (σ.names ++ [_]).length ≤ _; rw [List.length_append, List.length_singleton]; exact le_s a5 hb
    · exact le_d a6
    · rcases List.mem_append.mp hc with hc | hc
      · exact le_d (h.sz.co c hc)
      · rw [List.mem_singleton.mp hc]; exact le_d hb
theorem zs_bindC {b d : Nat} {σ : St} {r v : Cl} {cs : List Co} (h : Zs b σ) (hd : b + 1 ≤ d) (h1 : cs.length ≤ d) (h2 : ∀ c ∈ cs, c.names.length ≤ d) : Zs d (bindC σ r v cs) := by
  have B := (h.sz.bind (c := r) (v := v)).up hd
  refine ⟨⟨B.heap, B.stack, B.trail, h1, B.names, B.past, h2⟩, fun sn hs => ?_⟩
  have : (bindC σ r v cs).past = σ.past := (@bindS_rest σ r v).2.2.1
  rw [this] at hs
  exact (h.up (show b ≤ d by omega)).sv sn hs
theorem co_set {d : Nat} {cs : List Co} {i : Nat} {co : Co} (h : ∀ c ∈ cs, c.names.length ≤ d) (k : co.names.length ≤ d) : ∀ c ∈ cs.set i co, c.names.length ≤ d := fun c hc => by
  rcases List.mem_or_eq_of_mem_set hc with hc | rfl
  · exact h c hc
  · exact k
theorem zs_num {b : Nat} {σ : St} {i : Nat} {co : Co} {v : Int} (h : Zs b σ) (hb : 1 ≤ b) (hi : σ.comps[i]? = some co) : Zs (2 * b) (numS σ i co v) := by
  have hc := h.sz.co co (List.mem_of_getElem? hi)
  refine zs_bindC h (by omega) (by rw [List.length_set]; exact le_d h.sz.comps) (co_set (fun c hc => le_d (h.sz.co c hc)) ?_)
  exact le_d hc
theorem zs_moved {b : Nat} {σ : St} {i : Nat} {co : Co} (h : Zs b σ) (hb : 1 ≤ b) (hi : σ.comps[i]? = some co) : Zs (2 * b) (movedS σ i co) := by
  have hc := h.sz.co co (List.mem_of_getElem? hi)
  unfold movedS
  split
  · dsimp only
    have B := h.sz
    have N1 := @notedS_heap (bindS (newS σ (0, (σ.heap.length : Int))) (endS co) (0, (σ.heap.length : Int))) (endS co)
    have B1 := @bindS_rest (newS σ (0, (σ.heap.length : Int))) (endS co) (0, (σ.heap.length : Int))
    have T1 : (bindS (newS σ (0, (σ.heap.length : Int))) (endS co) (0, (σ.heap.length : Int))).trail.length ≤ σ.trail.length + 1 := by
      unfold bindS
      split
      · dsimp only
        split
        · rw [List.length_append, List.length_singleton]; exact Nat.le_refl _
        · exact Nat.le_succ _
      · dsimp only
        split
        · rw [List.length_append, List.length_singleton]; exact Nat.le_refl _
        · exact Nat.le_succ _
    obtain ⟨n1, n2, n3, n4, n5, n6, _, _⟩ := N1
    obtain ⟨b1, b2, b3, b4, _, _, b7, b8⟩ := B1
    refine ⟨⟨?_, ?_, ?_, ?_, ?_, ?_, ?_⟩, fun sn hs => ?_⟩
    · show (notedS _ _).heap.length ≤ _
      rw [n1, b7]
      show (σ.heap ++ [_]).length ≤ _
      rw [List.length_append, List.length_singleton]; exact le_s B.heap hb
    · show (notedS _ _).stack.length ≤ _
      rw [n2, b8]; exact le_d B.stack
    · show (notedS _ _).trail.length ≤ _
      rw [n3]; exact Nat.le_trans T1 (le_s B.trail hb)
    · show (List.set _ _ _).length ≤ _
      rw [List.length_set, n4, b1]; exact le_d B.comps
    · show (_ ++ [_]).length ≤ _
      rw [List.length_append, List.length_singleton, n5, b2]; exact le_s B.names hb
    · show (notedS _ _).past.length ≤ _
      rw [n6, b3]; exact le_d B.past
    · show ∀ c ∈ List.set _ _ _, _
      rw [n4, b1]
      refine co_set (fun c hc => le_d (B.co c hc)) ?_
      show (co.names ++ [_]).length ≤ _
      rw [List.length_append, List.length_singleton]; exact le_s hc hb
    · have hp : sn ∈ σ.past := by
        have : sn ∈ (notedS (bindS (newS σ (0, (σ.heap.length : Int))) (endS co) (0, (σ.heap.length : Int))) (endS co)).past := hs
        rw [n6, b3] at this; exact this
      exact (h.up (le_d (Nat.le_refl b))).sv sn hp
  · exact h.up (le_d (Nat.le_refl b))
theorem zs_joined {b : Nat} {σ : St} {i j : Nat} {l r : Co} (I : Inv σ) (h : Zs b σ) (hb : 1 ≤ b) (hi : σ.comps[i]? = some l) (hj : σ.comps[j]? = some r) : Zs (2 * b) (joinedS σ i j l r) := by
  have cl := h.sz.co l (List.mem_of_getElem? hi)
  have cr := h.sz.co r (List.mem_of_getElem? hj)
  cases wl : l.worth with
  | none =>
    cases wr : r.worth with
    | none =>
      by_cases hne : l.names = r.names
      · have : joinedS σ i j l r = σ := by
          unfold joinedS
          rw [wl, wr]
          dsimp only
          rw [if_pos hne, hne]
          unfold pairS
          rw [if_pos rfl]
        rw [this]; exact h.up (le_d (Nat.le_refl b))
      · obtain ⟨_, e, G, R⟩ := joined_eq I hi hj hne wl wr
        rw [e]
        refine zs_bindC h (by omega) ?_ fun c hc => ?_
        · refine Nat.le_trans (List.length_filter_le _ _) ?_
          rw [List.length_set]; exact le_d h.sz.comps
        · refine co_set (d := 2 * b) (cs := σ.comps) (i := i) (co := { l with names := l.names ++ r.names }) (fun c hc => le_d (h.sz.co c hc)) ?_ c (List.mem_filter.mp hc).1
          show (l.names ++ r.names).length ≤ _
          rw [List.length_append]; exact le_a cl cr
    | some v =>
      have : joinedS σ i j l r = numS σ i l v := by
        unfold joinedS numS
        rw [wl, wr]
        dsimp only
        rw [bind_noted, notedS_heap.2.2.2.1]
      rw [this]
      exact zs_num h hb hi
  | some v =>
    cases wr : r.worth with
    | none =>
      have : joinedS σ i j l r = numS σ j r v := by
        unfold joinedS numS
        rw [wl, wr]
        dsimp only
        rw [bind_noted, notedS_heap.2.2.2.1]
      rw [this]
      exact zs_num h hb hj
    | some u =>
      have : joinedS σ i j l r = σ := by
        unfold joinedS
        rw [wl, wr]
      rw [this]; exact h.up (le_d (Nat.le_refl b))
theorem zs_chosen {b : Nat} {σ : St} (h : Zs b σ) (hb : 1 ≤ b) : Zs (2 * b) (chosenS σ) := by
  have h2 := h.up (le_d (Nat.le_refl b))
  refine ⟨⟨h2.sz.heap, h2.sz.stack, h2.sz.trail, h2.sz.comps, h2.sz.names, ?_, h2.sz.co⟩, fun sn hs => ?_⟩
  · show (σ.past ++ [_]).length ≤ _
    rw [List.length_append, List.length_singleton]; exact le_s h.sz.past hb
  · have hs : sn ∈ σ.past ++ [_] := hs
    rcases List.mem_append.mp hs with hs | hs
    · exact h2.sv sn hs
    · rw [List.mem_singleton.mp hs]
      exact ⟨h2.sz.comps, h2.sz.names, h2.sz.co⟩
theorem zs_cut {b : Nat} {σ : St} {ss : List Sn} {sn : Sn} (h : Zs b σ) (hb : 1 ≤ b) (e : σ.past = ss ++ [sn]) : Zs (2 * b) (cutS σ ss) := by
  have h2 := h.up (le_d (Nat.le_refl b))
  refine ⟨⟨h2.sz.heap, h2.sz.stack, h2.sz.trail, h2.sz.comps, h2.sz.names, ?_, h2.sz.co⟩, fun sn' hs => ?_⟩
  · have := h2.sz.past
    rw [e, List.length_append] at this
    show ss.length ≤ _
    omega
  · exact h2.sv sn' (by rw [e]; exact List.mem_append_left _ hs)
theorem zs_returned {b : Nat} {σ : St} {ss : List Sn} {sn : Sn} (h : Zs b σ) (hb : 1 ≤ b) (e : σ.past = ss ++ [sn]) : Zs (2 * b) (returnedS σ sn) := by
  have h2 := h.up (le_d (Nat.le_refl b))
  obtain ⟨q1, q2, q3⟩ := h2.sv sn (by rw [e]; simp)
  refine ⟨⟨?_, ?_, ?_, q1, q2, h2.sz.past, q3⟩, h2.sv⟩
  · show (List.take _ _).length ≤ _
    rw [List.length_take]
    have := undoH_len σ.heap (σ.trail.drop sn.mark.toNat)
    have e2 : (undoS σ sn.mark.toNat).heap.length = σ.heap.length := this
    rw [e2]; have := h2.sz.heap; omega
  · show (List.take _ _).length ≤ _
    rw [List.length_take]
    have := undoK_len σ.stack (σ.trail.drop sn.mark.toNat)
    have e2 : (undoS σ sn.mark.toNat).stack.length = σ.stack.length := this
    rw [e2]; have := h2.sz.stack; omega
  · show (List.take _ _).length ≤ _
    rw [List.length_take]; have := h2.sz.trail; omega
def st0 : St := ⟨[], [], [], 0, 0, [], [], 0, []⟩
theorem inv_zero : Inv st0 := by
  refine ⟨⟨?_, ?_, ?_, ?_, ?_, ?_, ?_, ?_⟩, ?_, rfl, rfl, rfl, trivial⟩
  · intro i c h; simp [st0] at h
  · intro i c h; simp [st0] at h
  · intro co h; simp [st0] at h
  · intro co h; simp [st0] at h
  · exact List.Pairwise.nil
  · intro co h; simp [st0] at h
  · intro co h; simp [st0] at h
  · intro co h; simp [st0] at h
  · intro co h; simp [st0] at h
theorem zs_zero : Zs 1 st0 := ⟨⟨by simp [st0], by simp [st0], by simp [st0], by simp [st0], by simp [st0], by simp [st0], by simp [st0]⟩, by simp [st0]⟩
theorem own_nd {h₀ h : Heap} {L : Addr} : ∀ {own : List (Addr × Obj)}, News h₀ L h own → ∃ own' : List (Addr × Obj), Sub own own' ∧ Sub own' own ∧ (own'.map (·.1)).Nodup
  | [], _ => ⟨[], Sub.refl _, Sub.refl _, List.nodup_nil⟩
  | p :: r, N => by
    obtain ⟨o', h1, h2, h3⟩ := own_nd (own := r) fun x hx => N x (.tail _ hx)
    by_cases hm : p.1 ∈ o'.map (·.1)
    · obtain ⟨x, hx, e⟩ := List.mem_map.mp hm
      have hp : p ∈ o' := by
        have e1 := (N x (.tail _ (h2 x hx))).1
        have e2 := (N p (.head _)).1
        rw [e, e2] at e1
        have : p = x := Prod.ext e.symm (Option.some.inj e1)
        rw [this]; exact hx
      refine ⟨o', fun y hy => ?_, fun y hy => .tail _ (h2 y hy), h3⟩
      rcases List.mem_cons.mp hy with rfl | hy
      · exact hp
      · exact h1 y hy
    · refine ⟨p :: o', fun y hy => ?_, fun y hy => ?_, ?_⟩
      · rcases List.mem_cons.mp hy with rfl | hy
        · exact .head _
        · exact .tail _ (h1 y hy)
      · rcases List.mem_cons.mp hy with rfl | hy
        · exact .head _
        · exact .tail _ (h2 y hy)
      · rw [List.map_cons, List.nodup_cons]
        exact ⟨hm, h3⟩
theorem RS.newKs {w : World} {news imm kp : List (Addr × Obj)} {g : Gh} {q : Vg} {σ : St} (R : RS w news imm kp g q σ) : ∀ {own : List (Addr × Obj)}, (own.map (·.1)).Nodup → (∀ p ∈ own, ∀ x ∈ news, x.1 ≠ p.1) → RS w (own ++ news) imm (own ++ kp) g q σ
  | [], _, _ => R
  | p :: r, nd, off => by
    rw [List.map_cons, List.nodup_cons] at nd
    have ih := R.newKs (own := r) nd.2 fun y hy => off y (.tail _ hy)
    refine ih.newK fun x hx => ?_
    rcases List.mem_append.mp hx with hx | hx
    · exact fun e => nd.1 (by rw [← e]; exact List.mem_map_of_mem hx)
    · exact off p (.head _) x hx
theorem kp_sub {w : World} {news news' imm kp : List (Addr × Obj)} {g : Gh} {q : Vg} {σ : St} (R : RS w news imm kp g q σ) (h : Sub news news') : RS w news' imm kp g q σ := R.more h
/-- a turn's end: the iterator's objects out of what is kept -/
theorem turn_end {w : World} {h₀ : Heap} {L : Addr} {J : (Str → Option Value) → List (Addr × Obj) → Prop} {own own' news' imm' : List (Addr × Obj)} {p : Addr × Obj} {g : Gh} {q : Vg} {σ : St} {s₁ : Shared} {h' : Heap} {tk : Nat} {m' : Str → Option Value} (R : RS w news' imm' (p :: own') g q σ) (hs : Sub own own') (F : Fr h₀ L h' m') (N : News h₀ L h' news')
    (hj : ∀ nx, RS w nx imm' [p] g q σ → J m' nx) : InvEndG h₀ L J own s₁ { s₁ with heap := h', toks := tk } := by
  have R1 : RS w news' imm' (own' ++ [p]) g q σ := R.kpPerm (List.perm_append_singleton p own')
  have R2 := R1.strip
  refine ⟨h', tk, m', news', _, rfl, F, N, fun x hx => (mem_strip.mp hx).1, fun x hx => R.oKp (.tail _ (hs x hx)), fun x hx b hb e => ?_, hj _ R2⟩
  obtain ⟨y, hy, rfl⟩ := List.mem_map.mp hb
  exact (mem_strip.mp hy).2 (by rw [← e]; exact List.mem_map_of_mem (f := (·.1)) (hs x hx))
theorem Tied.same {q q' : Vg} {σ σ' : St} (t : Tied q σ) (h1 : q'.sav = q.sav) (h2 : q'.lbs = q.lbs) (h3 : σ'.past = σ.past) : Tied q' σ' := ⟨by rw [h1, h2]; exact t.lbs, by rw [h1, h3]; exact t.es⟩
section
variable {w : World} {A : Around} {h₀ : Heap} {L : Addr} {m : Str → Option Value} {news imm kp : List (Addr × Obj)} {g : Gh} {q : Vg} {σ : St} {s : Shared} {E : Value → Shared → Prop} {Q : Value → Shared → Prop}
theorem item_namesB {value slice : PySem.Expr} {k : Int} {u : Tok} (N : News h₀ L s.heap news) (R : RS w news imm kp g q σ) (h0 : 0 ≤ k) (hk : k < σ.names.length) (hz : σ.names.length ≤ 100000) (h : ∀ a c, c ∈ σ.names → DatIn imm (.ref a) (cd c) → Q (.ref a) s)
    (hs : subscripted slice false (.ref q.aN) (.int k u) = operate [.ref q.aN, .int k u] (getItem (.ref q.aN) (.int k u)) := by with_unfolding_all rfl) : wpAny (model PG w) A (subscriptTail value slice (.ref q.aN) (.int k u)) Q E s := by
  have hl : k.toNat < σ.names.length := by omega
  exact item_names N R h0 (List.getElem?_eq_getElem hl) hz (fun a d => h a _ (List.getElem_mem hl) d) hs
theorem co_of (R : RS w news imm kp g q σ) (I : Inv σ) {c : Cl} (hc : c ∈ σ.names) : ∃ i b co n, findCo σ.comps c = some i ∧ q.cos[i]? = some (b, co) ∧ σ.comps[i]? = some co ∧ co.names ≠ [] ∧ Dr σ.heap σ.stack n c (endS co) := by
  obtain ⟨i, co, n, h1, h2, h3, h4, _⟩ := (inv_sound I).nm c hc
  have h5 := h2
  rw [← R.ec, List.getElem?_map] at h5
  obtain ⟨⟨b, co'⟩, e1, e2⟩ := Option.map_eq_some_iff.mp h5
  cases e2
  exact ⟨i, b, co', n, h1, e1, h2, h3, h4⟩
theorem root_vd {r : Cl} (h : RootAt σ.heap σ.stack r) : Vd σ r := by
  rcases h with ⟨h1, h2, h3⟩ | ⟨h1, h2, h3⟩
  · have := (List.getElem?_eq_some_iff.mp h3).1
    exact .inl ⟨h1, h2, by omega⟩
  · have := (List.getElem?_eq_some_iff.mp h3).1
    exact .inr ⟨h1, h2, by omega⟩
end
/-- what a deed hands on -/
structure Deed (b : Nat) (σ : St) : Prop where
  inv : Inv σ
  zs : Zs b σ
theorem Deed.sm {b : Nat} {σ : St} (D : Deed b σ) (h : b ≤ 20000) : Sm σ := D.zs.sz.sm h
theorem Deed.ok {b : Nat} {σ : St} (D : Deed b σ) : SoundOk σ := inv_sound D.inv
theorem c_joinedI {R : Result → Shared → Prop} {a1 a2 : Addr} {c1 c2 : Cl} {b : Nat}
    (C : Cx w A₀ A base h₀ env outer L mean mg mb (k + 5)) (F : Fr h₀ L s.heap m) (N : News h₀ L s.heap news) (Rp : RS w news imm kp g q σ) (hz : Sm σ) (D : Deed b σ) (hb : 1 ≤ b) (hb2 : b ≤ 9000) (h1 : DatIn imm (.ref a1) (cd c1)) (h2 : DatIn imm (.ref a2) (cd c2)) (n1 : c1 ∈ σ.names) (n2 : c2 ∈ σ.names)
    (h : ∀ h' tk news' imm' q' σ', Fr h₀ L h' m → News h₀ L h' news' → RS w news' imm' kp g q' σ' → Sub imm imm' → q'.sav = q.sav → q'.lbs = q.lbs → σ'.past = σ.past → Deed (2 * b) σ' → Sm σ' → SoundOk σ' → R (.ok (.ret .none)) { s with heap := h', toks := tk }) :
    codeAny (model PG w) A (.call (.ref 268) ⟨[.ref g.x, .ref g.aW, .ref a1, .ref a2], []⟩) R s := by
  obtain ⟨i, b1, l, k1, f1, i1, j1, e1, d1⟩ := co_of Rp D.inv n1
  obtain ⟨j, b2, r, k2, f2, i2, j2, e2, d2⟩ := co_of Rp D.inv n2
  have I' := inv_joined D.inv j1 j2
  have Z' := zs_joined D.inv D.zs hb j1 j2
  have D' : Deed (2 * b) (joinedS σ i j l r) := ⟨I', Z'⟩
  have S' := D'.sm (by omega)
  have s9 : Sz 9000 σ := D.zs.sz.up hb2
  have s19 : Sz 19000 σ := s9.up (by omega)
  have ml := List.mem_of_getElem? j1
  have mr := List.mem_of_getElem? j2
  have zl : l.names.length ≤ 20000 := by have := s9.co l ml; omega
  have zr : r.names.length ≤ 20000 := by have := s9.co r mr; omega
  have ep : (joinedS σ i j l r).past = σ.past := by
    unfold joinedS
    split
    · rfl
    · dsimp only
      have e : ∀ c d, (pairS σ c d).past = σ.past := fun c d => by
        unfold pairS; split
        · rfl
        · split
          · split <;> exact bindS_rest.2.2.1
          · split <;> exact bindS_rest.2.2.1
      split
      · exact e _ _
      · rw [notedS_heap.2.2.2.2.2.1]; exact e _ _
    · rw [bindS_rest.2.2.1]; exact notedS_heap.2.2.2.2.2.1
    · rw [bindS_rest.2.2.1]; exact notedS_heap.2.2.2.2.2.1
  have fin : ∀ h' tk news' imm' q', Fr h₀ L h' m → News h₀ L h' news' → RS w news' imm' kp g q' (joinedS σ i j l r) → Sub imm imm' → q'.sav = q.sav → q'.lbs = q.lbs → R (.ok (.ret .none)) { s with heap := h', toks := tk } :=
    fun h' tk news' imm' q' F' N' R' hs h1 h2 => h h' tk news' imm' q' _ F' N' R' hs h1 h2 ep D' S' (inv_sound I')
  cases w1 : l.worth with
  | none =>
    have r1 := D.inv.good.root ml w1
    have v1 := root_vd r1.2
    rw [endS_none w1] at d1
    cases w2 : r.worth with
    | none =>
      have r2 := D.inv.good.root mr w2
      have v2 := root_vd r2.2
      rw [endS_none w2] at d2
      refine joined_nn C F N Rp hz h1 h2 f1 f2 i1 i2 d1 d2 w1 w2 e1 e2 s9 v1 v2 ?_ fin
      have eo := oldest_append e1 e2 (D.inv.good.tags ml) (D.inv.good.tags mr)
      rw [eo]
      split
      · exact .inr rfl
      · exact .inl rfl
    | some v =>
      have ej : joinedS σ i j l r = bindS { notedS σ (oldestS l.names) with comps := (notedS σ (oldestS l.names)).comps.set i { l with worth := some v } } (oldestS l.names) (5, v) := by
        unfold joinedS; rw [w1, w2]
      rw [ej] at fin
      refine joined_nw C F N Rp hz h1 h2 f1 f2 i1 i2 d1 d2 w1 w2 e1 zl s19 (v1.imp (·.1) (·.1)) ?_ ?_ ?_ fin
      · rcases v1 with q | q
        · exact q.2.1
        · exact q.2.1
      · intro t; rcases v1 with q | q
        · exact q.2.2
        · omega
      · intro t; rcases v1 with q | q
        · omega
        · exact q.2.2
  | some u =>
    cases w2 : r.worth with
    | none =>
      have r2 := D.inv.good.root mr w2
      have v2 := root_vd r2.2
      rw [endS_none w2] at d2
      have ej : joinedS σ i j l r = bindS { notedS σ (oldestS r.names) with comps := (notedS σ (oldestS r.names)).comps.set j { r with worth := some u } } (oldestS r.names) (5, u) := by
        unfold joinedS; rw [w1, w2]
      rw [ej] at fin
      refine joined_wn C F N Rp hz h1 h2 f1 f2 i1 i2 d1 d2 w1 w2 e2 zr s19 (v2.imp (·.1) (·.1)) ?_ ?_ ?_ fin
      · rcases v2 with q | q
        · exact q.2.1
        · exact q.2.1
      · intro t; rcases v2 with q | q
        · exact q.2.2
        · omega
      · intro t; rcases v2 with q | q
        · omega
        · exact q.2.2
    | some v =>
      have ej : joinedS σ i j l r = σ := by
        unfold joinedS; rw [w1, w2]
      rw [ej] at fin
      exact joined_ww C F N Rp hz h1 h2 f1 f2 i1 i2 d1 d2 w1 w2 fun h' tk n' i' F' N' R' hs => fin h' tk n' i' q F' N' R' hs rfl rfl
theorem c_movedI {R : Result → Shared → Prop} {a : Addr} {c : Cl} {b : Nat}
    (C : Cx w A₀ A base h₀ env outer L mean mg mb (k + 5)) (F : Fr h₀ L s.heap m) (N : News h₀ L s.heap news) (Rp : RS w news imm kp g q σ) (hz : Sm σ) (D : Deed b σ) (hb : 1 ≤ b) (hb2 : b ≤ 9000) (hc : DatIn imm (.ref a) (cd c)) (n1 : c ∈ σ.names)
    (h : ∀ h' tk news' imm' q' σ', Fr h₀ L h' m → News h₀ L h' news' → RS w news' imm' kp g q' σ' → Sub imm imm' → q'.sav = q.sav → q'.lbs = q.lbs → σ'.past = σ.past → Deed (2 * b) σ' → Sm σ' → SoundOk σ' → R (.ok (.ret (.bool true))) { s with heap := h', toks := tk }) :
    codeAny (model PG w) A (.call (.ref 275) ⟨[.ref g.x, .ref g.aW, .ref a], []⟩) R s := by
  obtain ⟨i, b1, co, k1, f1, i1, j1, e1, d1⟩ := co_of Rp D.inv n1
  have I' := inv_moved D.inv j1
  have Z' := zs_moved D.zs hb j1
  have D' : Deed (2 * b) (movedS σ i co) := ⟨I', Z'⟩
  have ep : (movedS σ i co).past = σ.past := by
    unfold movedS
    split
    · show (notedS _ _).past = _
      rw [notedS_heap.2.2.2.2.2.1, bindS_rest.2.2.1]; rfl
    · rfl
  refine c_moved C F N Rp hz (D.zs.sz.up (by omega)) hc i1 f1 d1 e1 (fun he => ?_) fun h' tk news' imm' q' F' N' R' hs h1 h2 => h h' tk news' imm' q' _ F' N' R' hs h1 h2 ep D' (D'.sm (by omega)) D'.ok
  have hw := end_stack he
  rw [endS_none hw] at he ⊢
  rcases root_vd (D.inv.good.root (List.mem_of_getElem? j1) hw).2 with q | q
  · omega
  · exact q.2
theorem c_pullS {R : Result → Shared → Prop} {aT aS : Addr} {p lim : Int} {tp tl : Tok} {nT nS : Nat} {vs : List Value} {ns : List Int}
    (C : Cx w A₀ A base h₀ env outer L mean mg mb (k + 1)) (F : Fr h₀ L s.heap m) (N : News h₀ L s.heap news) (Rp : RS w news imm ((aT, tapeO aS p tp nT) :: kp) g q σ)
    (hS : (aS, W.listOf vs.toArray nS) ∈ imm) (hi : IntsAre vs ns) (hsz : ns.length ≤ 60) (h0 : 0 ≤ p) (hp1 : p ≤ ns.length) (hlim : 1 ≤ lim)
    (h : Stp (∀ (p' : Int) tp' r tr h' tk news', 0 ≤ p' → p' ≤ ns.length → 0 ≤ r → r < lim → Fr h₀ L h' m → News h₀ L h' news' → RS w news' imm ((aT, tapeO aS p' tp' nT) :: kp) g q σ → R (.ok (.ret (.int r tr))) { s with heap := h', toks := tk })) :
    codeAny (model PG w) A (.call (.ref 230) ⟨[.ref aT, .int lim tl], []⟩) R s := c_pull C F N Rp hS hi hsz h0 hp1 hlim h
theorem c_companyS {R : Result → Shared → Prop} {a : Addr} {c : Cl}
    (C : Cx w A₀ A base h₀ env outer L mean mg mb (k + 1)) (F : Fr h₀ L s.heap m) (N : News h₀ L s.heap news) (Rp : RS w news imm kp g q σ) (hz : Sm σ) (I : Inv σ) (hc : DatIn imm (.ref a) (cd c)) (hn : c ∈ σ.names)
    (h : Stp (∀ (i : Nat) (b : Addr) (co : Co) (h' : Heap) (tk : Nat), q.cos[i]? = some (b, co) → σ.comps[i]? = some co → co.names ≠ [] → Fr h₀ L h' m → News h₀ L h' news → R (.ok (.ret (.ref b))) { s with heap := h', toks := tk })) :
    codeAny (model PG w) A (.call (.ref 237) ⟨[.ref g.aW, .ref a], []⟩) R s := by
  obtain ⟨i, b1, co, k1, f1, i1, j1, e1, d1⟩ := co_of Rp I hn
  exact c_company C F N Rp hz hc i1 f1 fun h' tk F' N' => h i b1 co h' tk i1 j1 e1 F' N'
theorem RS.savDrop {w : World} {news imm kp : List (Addr × Obj)} {g : Gh} {q : Vg} {σ : St} {sav0 : List (Addr × List (Addr × Co))} {x : Addr × List (Addr × Co)} (R : RS w news imm kp g q σ) (e : q.sav = sav0 ++ [x]) : RS w news imm kp g { q with sav := sav0 } σ := by
  have sl : (asOf g { q with sav := sav0 } σ kp).Sublist (asOf g q σ kp) := by
    have h1 : (savAs sav0).Sublist (savAs q.sav) := by
      rw [e]
      unfold savAs
      rw [List.flatMap_append]
      exact List.sublist_append_left _ _
    have hh : (cosAs q.cos ++ (savAs sav0 ++ kpAs kp)).Sublist (cosAs q.cos ++ (savAs q.sav ++ kpAs kp)) := (List.Sublist.refl _).append (h1.append (List.Sublist.refl _))
    exact (List.Sublist.refl [(g.x, As.inst g.dx), (g.dx, .cdict g.aH q.aK g.aR σ.hb σ.bb), (g.aH, .cells σ.heap), (q.aK, .cells σ.stack), (g.aR, .ints σ.trail), (g.aW, .world q.aC q.aN g.aX σ.wtr), (q.aC, .refs (q.cos.map (·.1))), (q.aN, .cells σ.names), (g.aX, .chs q.lbs σ.past)]).append hh
  exact ⟨R.rep.sub (fun p hp => sl.subset hp) (R.rep.nd.sublist (sl.map _)), R.ec⟩
local macro_rules | `(tactic| walk_at "call ref") => `(tactic| (k_here; (with_reducible show wpAny _ _ (call (Value.ref 230) [_, Value.int 12 _] _) _ _ _); k_dflt (refine wpAny_call ?_; refine c_pullS (by assumption) (by k_asm) (by k_asm) (by assumption) (by walk_at "M.imm") (by assumption) (by assumption) (by assumption) (by assumption) (by walk_at "M.ar") ?_; k_whole)))
local macro_rules | `(tactic| walk_at "call ref") => `(tactic| (k_here; (with_reducible show wpAny _ _ (call (Value.ref 237) _ _) _ _ _); k_dflt (refine wpAny_call ?_; refine c_companyS (by assumption) (by k_asm) (by k_asm) (by assumption) (by walk_at "M.sm") (by assumption) (by walk_at "M.dat") (by assumption) ?_; k_whole)))
local macro_rules | `(tactic| walk_at "call ref") => `(tactic| (k_here; (with_reducible show wpAny _ _ (call (Value.ref 268) _ _) _ _ _); k_dflt (refine wpAny_call (c_joinedI (by assumption) (by k_asm) (by k_asm) (by assumption) (by walk_at "M.sm") (by assumption) (by walk_at "M.ar") (by walk_at "M.ar") (by walk_at "M.dat") (by walk_at "M.dat") (by assumption) (by assumption) ?_); k_whole); walk_at "M.end"))
local macro_rules | `(tactic| walk_at "call ref") => `(tactic| (k_here; (with_reducible show wpAny _ _ (call (Value.ref 275) _ _) _ _ _); k_dflt (refine wpAny_call (c_movedI (by assumption) (by k_asm) (by k_asm) (by assumption) (by walk_at "M.sm") (by assumption) (by walk_at "M.ar") (by walk_at "M.ar") (by walk_at "M.dat") (by assumption) ?_); k_whole); walk_at "M.end"))
local macro_rules | `(tactic| walk_at "subscriptTail") => `(tactic| (k_here; (with_reducible show wpAny _ _ (subscriptTail _ _ (Value.ref (Vg.aN _)) (Value.int _ _)) _ _ _); k_dflt (refine' item_namesB ?N ?R ?p ?k ?z ?_; (case N => k_asm); (case R => assumption); (case p => walk_at "M.ar"); (case k => walk_at "M.rng"); (case z => walk_at "M.ar"); k_whole; intro _ _ _ _)))
section
variable {w : World} {A : Around} {h₀ : Heap} {L : Addr} {m : Str → Option Value} {news : List (Addr × Obj)} {s : Shared} {E : Value → Shared → Prop} {Q : Value → Shared → Prop}
theorem world_new {d lC lN lX : Addr} {o : Obj} {i : Int} {t t1 t2 t3 t4 : Tok} (F : Fr h₀ L s.heap m) (N : News h₀ L s.heap news) (hm : (d, o) ∈ news) (hd : o.IsDictOf (PySem.strKind PG w) [])
    (h : Stp (∀ h' news' o', Fr h₀ L h' m → News h₀ L h' news' → (d, o') ∈ news' → (∀ p ∈ news, p.1 ≠ d → p ∈ news') → o'.IsDictOf (PySem.strKind PG w) [(Str.ofString "companies", .ref lC), (Str.ofString "names", .ref lN), (Str.ofString "trail", .int i t), (Str.ofString "choices", .ref lX)] → Q (.ref d) { s with heap := h', toks := s.toks + 4 })) :
    KdnMade PG w (PySem.strKind PG w) d Q [(.str (Str.ofString "companies") t1, .ref lC), (.str (Str.ofString "names") t2, .ref lN), (.str (Str.ofString "trail") t3, .int i t), (.str (Str.ofString "choices") t4, .ref lX)] s :=
  kdn_made_str F (focus N hm) (UpdF.head off_ne) hd rfl (of_decide_eq_true (by kernel_rfl!)) fun h' o' F' N' hd' => h h' (put d o' news) o' F' N' put_same (fun p hp hne => put_ne (a := d) (b := p.1) (x := p.2) hp hne) hd'
end
theorem ne_at {l : List Nat} (h : l.Nodup) (i j : Nat) {a b : Nat} (hi : l[i]? = some a) (hj : l[j]? = some b) (hij : i ≠ j) : a ≠ b := fun e => by
  obtain ⟨li, ei⟩ := List.getElem?_eq_some_iff.mp hi
  obtain ⟨lj, ej⟩ := List.getElem?_eq_some_iff.mp hj
  exact hij ((List.getElem_inj h).mp (by rw [ei, ej]; exact e))
theorem up_cons {a b : Nat} {l : List Nat} (h : a < b) (p : (b :: l).Pairwise fun a b => a < b) : (a :: b :: l).Pairwise fun a b => a < b := List.pairwise_cons.mpr ⟨fun c hc => by
  rcases List.mem_cons.mp hc with rfl | hc
  · exact h
  · exact Nat.lt_trans h ((List.pairwise_cons.mp p).1 c hc), p⟩
theorem up_nodup {l : List Nat} (h : l.Pairwise fun a b => a < b) : l.Nodup := h.imp fun h => Nat.ne_of_lt h
theorem init_rs {w : World} {news : List (Addr × Obj)} {x dx aH aK aR aW aC aN aX aT aS : Addr} {oW : Obj} {t0 t1 t2 t3 t4 t5 t6 t7 u v t tp : Tok} {ws : List Value} {nT nS n1 n2 n3 n4 n5 n6 : Nat} {p : Int}
    (mW : (aW, oW) ∈ news) (hW : oW.IsDictOf (PySem.strKind PG w) [(Str.ofString "companies", .ref aC), (Str.ofString "names", .ref aN), (Str.ofString "trail", .int 0 t), (Str.ofString "choices", .ref aX)])
    (mx : (x, instObj 219 dx) ∈ news)
    (md : (dx, dictOf [⟨PyData.keyHash w.params (Str.ofString "symbols"), .str (Str.ofString "symbols") t0, .none⟩,
      ⟨PyData.keyHash w.params (Str.ofString "max_heap"), .str (Str.ofString "max_heap") t1, .int 100000 t2⟩,
      ⟨PyData.keyHash w.params (Str.ofString "heap"), .str (Str.ofString "heap") t3, .ref aH⟩,
      ⟨PyData.keyHash w.params (Str.ofString "stack"), .str (Str.ofString "stack") t4, .ref aK⟩,
      ⟨PyData.keyHash w.params (Str.ofString "trail"), .str (Str.ofString "trail") t5, .ref aR⟩,
      ⟨PyData.keyHash w.params (Str.ofString "hb"), .str (Str.ofString "hb") t6, .int 0 u⟩,
      ⟨PyData.keyHash w.params (Str.ofString "bb"), .str (Str.ofString "bb") t7, .int 0 v⟩] 7) ∈ news)
    (mH : (aH, W.listOf #[] n1) ∈ news) (mK : (aK, W.listOf #[] n2) ∈ news) (mR : (aR, W.listOf #[] n3) ∈ news) (mC : (aC, W.listOf #[] n4) ∈ news) (mN : (aN, W.listOf #[] n5) ∈ news) (mX : (aX, W.listOf #[] n6) ∈ news)
    (mT : (aT, W.listOf #[.ref aS, .int p tp] nT) ∈ news) (mS : (aS, W.listOf ws.toArray nS) ∈ news)
    (nd : [aS, aT, dx, x, aH, aK, aR, aW, aC, aN, aX].Nodup) :
    RS w news [(aS, W.listOf ws.toArray nS)] [(aT, tapeO aS p tp nT)] ⟨x, dx, aH, aR, aW, aX⟩ ⟨aK, aC, aN, [], [], []⟩ st0 := by
  refine ⟨⟨fun q hq => ?_, ?_, fun q hq => ?_, fun q hq r hr => ?_⟩, rfl⟩
  · simp only [asOf, cosAs, savAs, kpAs, List.map_nil, List.map_cons, List.flatMap_nil, List.nil_append, List.mem_cons, List.not_mem_nil, or_false] at hq
    rcases hq with rfl | rfl | rfl | rfl | rfl | rfl | rfl | rfl | rfl | rfl
    · exact ⟨_, mx, rfl⟩
    · exact ⟨_, md, fun n => match n with | 0 => t0 | 1 => t1 | 2 => t2 | 3 => t3 | 4 => t4 | 5 => t5 | 6 => t6 | _ => t7, u, v, rfl⟩
    · exact ⟨_, mH, [], n1, rfl, .nil⟩
    · exact ⟨_, mK, [], n2, rfl, .nil⟩
    · exact ⟨_, mR, [], n3, rfl, .nil⟩
    · exact ⟨_, mW, t, hW⟩
    · exact ⟨_, mC, n4, rfl⟩
    · exact ⟨_, mN, [], n5, rfl, .nil⟩
    · exact ⟨_, mX, [], n6, rfl, .nil⟩
    · exact ⟨_, mT, rfl⟩
  · exact ((List.perm_append_comm (l₁ := [aT]) (l₂ := [dx, x, aH, aK, aR, aW, aC, aN, aX])).trans (.swap x dx _)).nodup_iff.mp (List.nodup_cons.mp nd).2
  · rw [List.mem_singleton.mp hq]; exact mS
  · rw [List.mem_singleton.mp hq]
    simp only [asOf, cosAs, savAs, kpAs, List.map_nil, List.map_cons, List.flatMap_nil, List.nil_append, List.mem_cons, List.not_mem_nil, or_false] at hr
    have off : ∀ a ∈ [aT, dx, x, aH, aK, aR, aW, aC, aN, aX], aS ≠ a := fun a ha e => (List.nodup_cons.mp nd).1 (e ▸ ha)
    rcases hr with rfl | rfl | rfl | rfl | rfl | rfl | rfl | rfl | rfl | rfl <;> exact off _ (by simp)
section
variable {w : World} {A : Around} {h₀ : Heap} {L : Addr} {m : Str → Option Value} {news : List (Addr × Obj)} {s : Shared} {E : Value → Shared → Prop} {Q : Value → Shared → Prop}
theorem world_start {x dx aH aK aR aW aC aN aX aT aS : Addr} {oW : Obj} {t0 t1 t2 t3 t4 t5 t6 t7 u v t tp k1 k2 k3 k4 : Tok} {ws : List Value} {nT nS n1 n2 n3 n4 n5 n6 : Nat} {p : Int}
    (F : Fr h₀ L s.heap m) (N : News h₀ L s.heap news) (mW : (aW, oW) ∈ news) (hW : oW.IsDictOf (PySem.strKind PG w) [])
    (mx : (x, instObj 219 dx) ∈ news)
    (md : (dx, dictOf [⟨PyData.keyHash w.params (Str.ofString "symbols"), .str (Str.ofString "symbols") t0, .none⟩,
      ⟨PyData.keyHash w.params (Str.ofString "max_heap"), .str (Str.ofString "max_heap") t1, .int 100000 t2⟩,
      ⟨PyData.keyHash w.params (Str.ofString "heap"), .str (Str.ofString "heap") t3, .ref aH⟩,
      ⟨PyData.keyHash w.params (Str.ofString "stack"), .str (Str.ofString "stack") t4, .ref aK⟩,
      ⟨PyData.keyHash w.params (Str.ofString "trail"), .str (Str.ofString "trail") t5, .ref aR⟩,
      ⟨PyData.keyHash w.params (Str.ofString "hb"), .str (Str.ofString "hb") t6, .int 0 u⟩,
      ⟨PyData.keyHash w.params (Str.ofString "bb"), .str (Str.ofString "bb") t7, .int 0 v⟩] 7) ∈ news)
    (mH : (aH, W.listOf #[] n1) ∈ news) (mK : (aK, W.listOf #[] n2) ∈ news) (mR : (aR, W.listOf #[] n3) ∈ news) (mC : (aC, W.listOf #[] n4) ∈ news) (mN : (aN, W.listOf #[] n5) ∈ news) (mX : (aX, W.listOf #[] n6) ∈ news)
    (mT : (aT, W.listOf #[.ref aS, .int p tp] nT) ∈ news) (mS : (aS, W.listOf ws.toArray nS) ∈ news)
    (n1' : aS < aT) (n2' : aT < dx) (n3' : dx < x) (n4' : x < aH) (n5' : aH < aK) (n6' : aK < aR) (n7' : aR < aW) (n8' : aW < aC) (n9' : aC < aN) (n10' : aN < aX)
    (h : Stp (∀ h' news' (g : Gh) (q : Vg) tk, aW = g.aW → x = g.x → q.sav = [] → q.lbs = [] → Fr h₀ L h' m → News h₀ L h' news' → RS w news' [(aS, W.listOf ws.toArray nS)] [(aT, tapeO aS p tp nT)] g q st0 → Q (.ref aW) { s with heap := h', toks := tk })) :
    KdnMade PG w (PySem.strKind PG w) aW Q [(.str (Str.ofString "companies") k1, .ref aC), (.str (Str.ofString "names") k2, .ref aN), (.str (Str.ofString "trail") k3, .int 0 t), (.str (Str.ofString "choices") k4, .ref aX)] s := by
  have nd : [aS, aT, dx, x, aH, aK, aR, aW, aC, aN, aX].Nodup := up_nodup (up_cons n1' (up_cons n2' (up_cons n3' (up_cons n4' (up_cons n5' (up_cons n6' (up_cons n7' (up_cons n8' (up_cons n9' (up_cons n10' (List.pairwise_singleton _ _)))))))))))
  have ne (i : Nat) {a : Nat} (hi : [aS, aT, dx, x, aH, aK, aR, aW, aC, aN, aX][i]? = some a) (hij : i ≠ 7) : a ≠ aW := ne_at nd i 7 hi rfl hij
  refine world_new F N mW hW fun h' news' o' F' N' mW' keep hW' => h h' news' ⟨x, dx, aH, aR, aW, aX⟩ ⟨aK, aC, aN, [], [], []⟩ _ rfl rfl rfl rfl F' N' ?_
  exact init_rs mW' hW' (keep _ mx (ne 3 rfl (by decide))) (keep _ md (ne 2 rfl (by decide))) (keep _ mH (ne 4 rfl (by decide))) (keep _ mK (ne 5 rfl (by decide))) (keep _ mR (ne 6 rfl (by decide))) (keep _ mC (ne 8 rfl (by decide))) (keep _ mN (ne 9 rfl (by decide))) (keep _ mX (ne 10 rfl (by decide)))
    (keep _ mT (ne 1 rfl (by decide))) (keep _ mS (ne 0 rfl (by decide))) nd
end
theorem with_cx {α : Type} {w : World} {base h₀ : Heap} {name : Str} {scope : Scope} {L fa : Addr} {cdv : Value} {mean : ExcName → Option Value} {mg mb : Str → Option Value} {t : Sem α} {Q : α → Shared → Prop} {E : Value → Shared → Prop} {s : Shared} (B : Below callerA base [] h₀) (X : (hd.heap_1 w.params).In h₀) (T : Top view39 (looseW view39 [Str.ofString "VOID"]) mean mg mb h₀) (hk : scope.kind = .function)
    (h : Cx w callerA (callerA.deeper (envOf name scope L fa cdv)) base h₀ (envOf name scope L fa cdv) [] L mean mg mb 250 → wpAny (model PG w) (callerA.deeper (envOf name scope L fa cdv)) t Q E s) : wpAny (model PG w) (callerA.deeper (envOf name scope L fa cdv)) t Q E s :=
  h ⟨B, X, T, rfl, rfl, hk, rfl, show 1 + claimMargin + 1 + 250 ≤ 900 by decide, show 4 + 3 + 3 * 250 ≤ 900 by decide⟩
def LawJ (w : World) (g : Gh) (aT aS : Addr) (nT nS : Nat) (ws : List Value) (ns : List Int) (i : Nat) (m₁ : Str → Option Value) (nx : List (Addr × Obj)) : Prop :=
  ∃ σ q imm p tp, RS w nx imm [(aT, tapeO aS p tp nT)] g q σ ∧ (aS, W.listOf ws.toArray nS) ∈ imm ∧ 0 ≤ p ∧ p ≤ (ns.length : Int) ∧ Deed (2 ^ i) σ ∧ Tied q σ ∧ m₁ (Str.ofString "tape") = some (.ref aT) ∧ m₁ (Str.ofString "cells") = some (.ref g.x) ∧ m₁ (Str.ofString "world") = some (.ref g.aW)
theorem pow_lap {i : Nat} (h : i < 14) : 1 ≤ 2 ^ i ∧ 2 ^ i ≤ 8192 ∧ 2 ^ (i + 1) = 2 * 2 ^ i := by
  refine ⟨Nat.one_le_two_pow, ?_, by rw [Nat.pow_succ]; omega⟩
  have : 2 ^ i ≤ 2 ^ 13 := Nat.pow_le_pow_right (by decide) (by omega)
  simpa using this
theorem deed_fresh {b : Nat} {σ : St} {t : Int} (D : Deed b σ) (hb : 1 ≤ b) (ht : t = 0 ∨ t = 1) : Deed (2 * b) (freshS σ t) := ⟨inv_fresh D.inv ht, zs_fresh D.zs hb⟩
theorem law_end {w : World} {g : Gh} {q : Vg} {σ : St} {aT aS : Addr} {nT nS i : Nat} {ws : List Value} {ns : List Int} {h₀ : Heap} {L : Addr} {own own' news' imm' : List (Addr × Obj)} {p : Int} {tp : Tok} {s₁ : Shared} {h' : Heap} {tk : Nat} {m' : Str → Option Value} (F : Fr h₀ L h' m') (N : News h₀ L h' news') (R : RS w news' imm' ((aT, tapeO aS p tp nT) :: own') g q σ) (hs : Sub own own')
    (mS : (aS, W.listOf ws.toArray nS) ∈ imm') (p0 : 0 ≤ p) (p1 : p ≤ (ns.length : Int)) (D : Deed (2 ^ (i + 1)) σ) (ti : Tied q σ) (e1 : m' (Str.ofString "tape") = some (.ref aT)) (e2 : m' (Str.ofString "cells") = some (.ref g.x)) (e3 : m' (Str.ofString "world") = some (.ref g.aW)) :
    InvEndG h₀ L (LawJ w g aT aS nT nS ws ns (i + 1)) own s₁ { s₁ with heap := h', toks := tk } :=
  turn_end R hs F N fun nx R' => ⟨σ, q, imm', p, tp, R', mS, p0, p1, D, ti, e1, e2, e3⟩
theorem Deed.up {b : Nat} {σ : St} (D : Deed b σ) : Deed (2 * b) σ := ⟨D.inv, D.zs.up (by omega)⟩
theorem tied_push {q q1 q2 : Vg} {σ : St} {D : Addr} {c : List (Addr × Co)} (ti : Tied q σ) (h3 : q2.sav = q1.sav) (h1 : q1.sav = q.sav ++ [(D, c)]) (h2 : q1.lbs = q.lbs) (h4 : q2.lbs = q1.lbs ++ [D]) (h5 : c.map (·.2) = σ.comps) : Tied q2 (chosenS σ) := by
  refine ⟨?_, ?_⟩
  · rw [h4, h2, h3, h1, ti.lbs]; simp
  · rw [h3, h1, List.map_append, ti.es]
    show _ = (σ.past ++ [_]).map _
    rw [List.map_append]
    simp [h5]
theorem tied_split {q : Vg} {σ : St} {ss : List Sn} {sn : Sn} (ti : Tied q σ) (e : σ.past = ss ++ [sn]) : ∃ sav0 x, q.sav = sav0 ++ [x] ∧ q.lbs = sav0.map (·.1) ++ [x.1] ∧ sav0.map (fun s => s.2.map (·.2)) = ss.map (·.comps) := by
  have h := ti.es
  rw [e] at h
  have hne : q.sav ≠ [] := fun e0 => by rw [e0] at h; simp at h
  obtain ⟨l, x, hx⟩ := List.eq_nil_or_concat q.sav |>.resolve_left hne
  rw [List.concat_eq_append] at hx
  refine ⟨l, x, hx, by rw [ti.lbs, hx]; simp, ?_⟩
  rw [hx, List.map_append, List.map_append] at h
  exact (List.append_inj' h rfl).1
theorem tied_cut {q : Vg} {σ : St} {ss : List Sn} {sav0 : List (Addr × List (Addr × Co))} (h1 : q.lbs = sav0.map (·.1)) (h2 : sav0.map (fun s => s.2.map (·.2)) = ss.map (·.comps)) : Tied { q with sav := sav0 } (cutS σ ss) := ⟨h1, h2⟩
section
variable {w : World} {A : Around} {h₀ : Heap} {L a : Addr} {m : Str → Option Value} {news imm kp : List (Addr × Obj)} {g : Gh} {q : Vg} {σ : St} {s : Shared} {E : Value → Shared → Prop} {QU : Unit → Shared → Prop} {co : Co}
theorem cset_worthM {i : Nat} {j : Int} {t u : Tok} (F : Fr h₀ L s.heap m) (N : News h₀ L s.heap news) (R : RS w news imm kp g q σ) (hi : q.cos[i]? = some (a, co))
    (h : ∀ h' news' q' co', co'.worth = some j → (a, co') ∈ q'.cos → q'.sav = q.sav → q'.lbs = q.lbs → Fr h₀ L h' m → News h₀ L h' news' → RS w news' imm kp g q' { σ with comps := σ.comps.set i { co with worth := some j } } → QU () { s with heap := h', toks := s.toks + 1 }) :
    wpAny (model PG w) A (setItem (.ref a) (.str (Str.ofString "worth") u) (.int j t)) QU E s :=
  cset_worth F N R hi fun h' n' q' e F' N' R' => h h' n' q' { co with worth := some j } rfl (by rw [e]; exact List.mem_of_getElem? (i := i) (by rw [List.getElem?_set_self (List.getElem?_eq_some_iff.mp hi).1])) (by rw [e]) (by rw [e]) F' N' R'
end
theorem way_cases {r : Int} (h0 : 0 ≤ r) (h1 : r < 12) : r < 2 ∨ r = 2 ∨ (2 < r ∧ r < 7) ∨ r = 7 ∨ r = 8 ∨ r = 9 ∨ r = 10 ∨ r = 11 := by omega
theorem names_pos {α : Type} {l : List α} (h : ¬ l = []) : 1 ≤ (l.length : Int) := by
  have := List.length_pos_iff.mpr h
  omega
theorem le_trans2 {a b c : Nat} (h : a ≤ b) (k : b ≤ c) : a ≤ c := Nat.le_trans h k
theorem zs_saved {b : Nat} {σ : St} {ss : List Sn} {μ κ ω : Int} {cs : List Co} {ns : List Cl} (h : Zs b σ) (hb : b ≤ 20000) (e : σ.past = ss ++ [⟨μ, κ, ω, cs, ns⟩]) : cs.length ≤ 20000 ∧ ns.length ≤ 20000 ∧ ∀ c ∈ cs, c.names.length ≤ 20000 := by
  have sv := h.sv ⟨μ, κ, ω, cs, ns⟩ (by rw [e]; simp)
  exact ⟨Nat.le_trans sv.1 hb, Nat.le_trans sv.2.1 hb, fun c hc => Nat.le_trans (sv.2.2 c hc) hb⟩
theorem pow_lap2 {i : Nat} (h : i < 14) : 1 ≤ 2 ^ i ∧ 2 ^ i ≤ 8192 ∧ 2 ^ (i + 1) = 2 * 2 ^ i ∧ 2 * 2 ^ i ≤ 20000 ∧ 2 ^ i ≤ 20000 ∧ 2 ^ i ≤ 9000 := by
  obtain ⟨h1, h2, h3⟩ := pow_lap h
  exact ⟨h1, h2, h3, by omega, by omega, by omega⟩
theorem num_facts {b j : Nat} {σ : St} {co : Co} (D : Deed b σ) (b1 : 1 ≤ b) (b5 : b ≤ 20000) (j2 : σ.comps[j]? = some co) (hw : co.worth = none) :
    ((oldestS co.names).1 = 0 ∨ (oldestS co.names).1 = 1) ∧ 0 ≤ (oldestS co.names).2 ∧ ((oldestS co.names).1 = 0 → (oldestS co.names).2 < ((notedS σ (oldestS co.names)).heap.length : Int)) ∧ ((oldestS co.names).1 = 1 → (oldestS co.names).2 < ((notedS σ (oldestS co.names)).stack.length : Int)) ∧
    ∀ v : Int, 0 ≤ v → Sm { notedS σ (oldestS co.names) with comps := (notedS σ (oldestS co.names)).comps.set j { co with worth := some v } } ∧
      Deed (2 * b) (bindS { notedS σ (oldestS co.names) with comps := (notedS σ (oldestS co.names)).comps.set j { co with worth := some v } } (oldestS co.names) (5, v)) ∧
      (bindS { notedS σ (oldestS co.names) with comps := (notedS σ (oldestS co.names)).comps.set j { co with worth := some v } } (oldestS co.names) (5, v)).past = σ.past := by
  have jm := List.mem_of_getElem? j2
  have rt := (D.inv.good.root jm hw).2
  have zN := (D.zs.sz.noted (c := oldestS co.names)).sm b5
  refine ⟨rt.imp (·.1) (·.1), ?_, ?_, ?_, fun v v0 => ⟨?_, ?_, ?_⟩⟩
  · rcases rt with h | h
    · exact h.2.1
    · exact h.2.1
  · intro h0
    rw [notedS_heap.1]
    rcases root_vd rt with h | h
    · exact h.2.2
    · omega
  · intro h0
    rw [notedS_heap.2.1]
    rcases root_vd rt with h | h
    · omega
    · exact h.2.2
  · refine ⟨zN.heap, zN.stack, zN.trail, ?_, zN.names, zN.past, ?_⟩
    · show (List.set _ _ _).length ≤ _
      rw [List.length_set]; exact zN.comps
    · exact co_set zN.co (by show co.names.length ≤ _; exact Nat.le_trans (D.zs.sz.co co jm) b5)
  · have eN : bindS { notedS σ (oldestS co.names) with comps := (notedS σ (oldestS co.names)).comps.set j { co with worth := some v } } (oldestS co.names) (5, v) = numS σ j co v := by
      unfold numS; rw [bind_noted, notedS_heap.2.2.2.1]
    rw [eN]
    exact ⟨inv_num D.inv j2 hw v0, zs_num D.zs b1 j2⟩
  · rw [bindS_rest.2.2.1]
    exact notedS_heap.2.2.2.2.2.1
theorem way3 {r : Int} (h : 2 < r) : ¬ r < 2 ∧ ¬ r = 2 := ⟨by omega, by omega⟩
def LawM (w : World) (g : Gh) (aT aS : Addr) (nT nS : Nat) (ws : List Value) (ns : List Int) (b : Nat) (own : List (Addr × Obj)) (h₀ : Heap) (L : Addr) (s : Shared) (s' : Shared) : Prop :=
  ∃ σ q imm p tp news m' h' tk, s' = { s with heap := h', toks := tk } ∧ Fr h₀ L h' m' ∧ News h₀ L h' news ∧ RS w news imm ((aT, tapeO aS p tp nT) :: own) g q σ ∧ (aS, W.listOf ws.toArray nS) ∈ imm ∧ 0 ≤ p ∧ p ≤ (ns.length : Int) ∧ Deed (2 * b) σ ∧ Tied q σ ∧
    m' (Str.ofString "tape") = some (.ref aT) ∧ m' (Str.ofString "cells") = some (.ref g.x) ∧ m' (Str.ofString "world") = some (.ref g.aW)
theorem law_mid {w : World} {g : Gh} {q : Vg} {σ : St} {aT aS : Addr} {nT nS b : Nat} {ws : List Value} {ns : List Int} {h₀ : Heap} {L : Addr} {own news' imm' : List (Addr × Obj)} {p : Int} {tp : Tok} {s : Shared} {h' : Heap} {tk : Nat} {m' : Str → Option Value} (F : Fr h₀ L h' m') (N : News h₀ L h' news') (R : RS w news' imm' ((aT, tapeO aS p tp nT) :: own) g q σ)
    (mS : (aS, W.listOf ws.toArray nS) ∈ imm') (p0 : 0 ≤ p) (p1 : p ≤ (ns.length : Int)) (D : Deed (2 * b) σ) (ti : Tied q σ) (e1 : m' (Str.ofString "tape") = some (.ref aT)) (e2 : m' (Str.ofString "cells") = some (.ref g.x)) (e3 : m' (Str.ofString "world") = some (.ref g.aW)) :
    LawM w g aT aS nT nS ws ns b own h₀ L s { s with heap := h', toks := tk } :=
  ⟨σ, q, imm', p, tp, news', m', h', tk, rfl, F, N, R, mS, p0, p1, D, ti, e1, e2, e3⟩
def MMark (_ : Shared → Prop) : Prop := True
theorem mid_stop {w : World} {A : Around} {t : Sem Flow} {Q : Flow → Shared → Prop} {E : Value → Shared → Prop} {s : Shared} {M : Shared → Prop} (_ : MMark M) (h : Stp (wpAny (model PG w) A t (fun f s' => f = .next ∧ M s') E s)) (k : Stp (∀ s', M s' → Q .next s')) : wpAny (model PG w) A t Q E s :=
  wpAny_mono h (fun f s' x => by rw [x.1]; exact k s' x.2) fun _ _ e => e
theorem with_mark {w : World} {A : Around} {α : Type} {t : Sem α} {Q : α → Shared → Prop} {E : Value → Shared → Prop} {s : Shared} {h₀ h : Heap} {L : Addr} {n : List (Addr × Obj)} (_ : News h₀ L h n) (M : Heap → Addr → Shared → Shared → Prop) (h : MMark (M h₀ L s) → wpAny (model PG w) A t Q E s) : wpAny (model PG w) A t Q E s := h trivial
local macro_rules | `(tactic| walk_at "M.in") => `(tactic| first | exact List.Mem.head _ | (refine List.Mem.tail _ ?_; walk_at "M.in"))
section
local macro_rules | `(tactic| walk_at "KdnMade") => `(tactic| (k_here; k_dflt (refine world_start (by k_asm) (by k_asm) (by walk_at "M.in") (by assumption) (by walk_at "M.in") (by walk_at "M.in") (by walk_at "M.in") (by walk_at "M.in") (by walk_at "M.in") (by walk_at "M.in") (by walk_at "M.in") (by walk_at "M.in") (by walk_at "M.in") (by walk_at "M.in") (by first | assumption | exact And.left (by assumption)) (by first | assumption | exact And.left (by assumption)) (by first | assumption | exact And.left (by assumption)) (by first | assumption | exact And.left (by assumption)) (by first | assumption | exact And.left (by assumption)) (by first | assumption | exact And.left (by assumption)) (by first | assumption | exact And.left (by assumption)) (by first | assumption | exact And.left (by assumption)) (by first | assumption | exact And.left (by assumption)) (by first | assumption | exact And.left (by assumption)) ?_; skip)))
local macro_rules | `(tactic| walk_at "call ref") => `(tactic| (k_here; (with_reducible show wpAny _ _ (call (Value.ref 230) [_, Value.int 1000 _] _) _ _ _); k_dflt (refine wpAny_call ?_; refine c_pullS (by assumption) (by k_asm) (by k_asm) (by assumption) (by walk_at "M.imm") (by assumption) (by assumption) (by assumption) (by assumption) (by walk_at "M.ar") ?_; k_whole)))
local macro_rules | `(tactic| walk_at "setItem ref str") => `(tactic| (k_here; (with_reducible show wpAny _ _ (setItem (Value.ref _) (Value.str (PySem.Str.ofString "worth") _) (Value.int _ _)) _ _ _); k_dflt (refine cset_worthM (by k_asm) (by k_asm) (by assumption) (by assumption) ?_; k_whole); intro _ _ _ _ _ _ _ _ _ _ _; try k_sweep))
local macro_rules | `(tactic| walk_at "L.step") => `(tactic| first | (k_unfold; (try dsimp only)) | walk1 | (dsimp only; walk1) | (leave1; walk_say "STEP leave1"; try dsimp only))
local macro_rules | `(tactic| walk_at "M.fact") => `(tactic| first | exact rfl | decide)
local macro_rules | `(tactic| walk_at "exec If") => `(tactic| (k_here; refine mid_stop (by assumption) ?_ ?_))
local macro_rules | `(tactic| k_qdec) => `(tactic| decide +kernel)
theorem law_holds : PySem.Challenge.rw_ok0013_01.Holds := Mine.hd (by
  k_go0
  all_goals try k_fold
  k_steps
  intro h' news' g q tk eW ex es el F N R0
  refine with_cx (by assumption) (by assumption) (by assumption) rfl ?_
  intro C1
  subst eW
  subst ex
  obtain ⟨aS, aT, ws, ns, nT, nS, tp, u, R1, hI, hns, F1⟩ : ∃ (aS aT : Addr) (ws : List Value) (ns : List Int) (nT nS : Nat) (tp : Tok) (u : Str → Option Value), RS _ news' [(aS, W.listOf ws.toArray nS)] [(aT, tapeO aS 0 tp nT)] g q st0 ∧ IntsAre ws ns ∧ ns.length ≤ 60 ∧ Fr _ _ h' (vw [(Str.ofString "tape", .ref aT), (Str.ofString "cells", .ref g.x)] u) :=
    ⟨_, _, _, _, _, _, _, _, R0, by assumption, by rw [List.length_take]; omega, Fr_vw F _ ⟨rfl, rfl, trivial⟩⟩
  clear R0 F
  have B1 := C1.B; have X1 := C1.X; have T1 := C1.T; have hA1 := C1.hA; have hh1 := C1.hh; have hu1 := units_of C1.hunit
  rename_i w u2 u3 u4 u5 u6 u7 u8 u9 u10 u11 u12 u13 u14 u15 u16 u17 u18 u19 u20 u21 u22 u23 u24 u25 u26 u27 u28 u29 u30 u31 u32 u33 u34 u35 u36 u37 u38 u39 u40 u41 u42 u43 u44 u45 u46 u47 u48 u49 u50 u51 u52 u53 u54 u55 u56 u57 u58 u59 u60 u61 u62 u63 u64 u65 u66 u67 u68 u69 u70 u71 u72 u73 u74 u75 u76 u77 u78 u79 u80 u81 u82 u83 u84 u85 u86 u87 u88 u89 u90 u91 u92 u93 u94 u95 u96 u97 u98 u99 u100 u101 u102 u103 u104 u105 u106 u107 u108 u109 u110 u111 u112 u113 u114 u115 u116 u117 u118 u119
  try clear u120
  try clear u119
  try clear u118
  try clear u117
  try clear u116
  try clear u115
  try clear u114
  try clear u113
  try clear u112
  try clear u111
  try clear u110
  try clear u109
  try clear u108
  try clear u107
  try clear u106
  try clear u105
  try clear u104
  try clear u103
  try clear u102
  try clear u101
  try clear u100
  try clear u99
  try clear u98
  try clear u97
  try clear u96
  try clear u95
  try clear u94
  try clear u93
  try clear u92
  try clear u91
  try clear u90
  try clear u89
  try clear u88
  try clear u87
  try clear u86
  try clear u85
  try clear u84
  try clear u83
  try clear u82
  try clear u81
  try clear u80
  try clear u79
  try clear u78
  try clear u77
  try clear u76
  try clear u75
  try clear u74
  try clear u73
  try clear u72
  try clear u71
  try clear u70
  try clear u69
  try clear u68
  try clear u67
  try clear u66
  try clear u65
  try clear u64
  try clear u63
  try clear u62
  try clear u61
  try clear u60
  try clear u59
  try clear u58
  try clear u57
  try clear u56
  try clear u55
  try clear u54
  try clear u53
  try clear u52
  try clear u51
  try clear u50
  try clear u49
  try clear u48
  try clear u47
  try clear u46
  try clear u45
  try clear u44
  try clear u43
  try clear u42
  try clear u41
  try clear u40
  try clear u39
  try clear u38
  try clear u37
  try clear u36
  try clear u35
  try clear u34
  try clear u33
  try clear u32
  try clear u31
  try clear u30
  try clear u29
  try clear u28
  try clear u27
  try clear u26
  try clear u25
  try clear u24
  try clear u23
  try clear u22
  try clear u21
  try clear u20
  try clear u19
  try clear u18
  try clear u17
  try clear u16
  try clear u15
  try clear u13
  try clear u12
  try clear u11
  try clear u10
  try clear u9
  try clear u8
  try clear u7
  try clear u6
  try clear u5
  try clear u4
  try clear u3
  try clear u2
  try clear u1
  iterate 3 (walk_at "L.step")
  refine' for_stop ?zF ?za ?zb ?zE ?zs ?_
  case zF => k_asm
  case za => exact rfl
  case zb => exact rfl
  case zs => intro _; exact rfl
  case zE => first | passes_own | with_unfolding_all passes_own
  k_steps
  refine rng_iter (n := 14) (LawJ w g aT aS nT nS ws ns) hh1 (by assumption) (by decide) (by decide) (by assumption) (by assumption) ⟨st0, q, _, 0, tp, by assumption, .head _, Int.le_refl _, Int.natCast_nonneg _, ⟨inv_zero, zs_zero⟩, ⟨by rw [es, el]; rfl, by rw [es]; rfl⟩, rfl, rfl, rfl⟩ ?_ ?_
  · rintro i t m₁ nx h2 tk own hi hoff ⟨σ, q, imm, p, tp, R2, mS, p0, p1, D, ti, e1, e2, e3⟩ F2 N2
    obtain ⟨b1, b2, b3, b4, b5, b6⟩ := pow_lap2 hi
    generalize 2 ^ i = b at D b1 b2 b3 b4 b5 b6
    obtain ⟨own', o1, o2, o3⟩ := own_nd (own := own) (fun p hp => N2 p (List.mem_append_right _ hp))
    have R3 := R2.newKs (own := own') o3 (fun p hp x hx e => hoff p (o2 p hp) x.1 (List.mem_map_of_mem (f := (·.1)) hx) e.symm)
    have R4 : RS w (own' ++ nx) imm ((aT, tapeO aS p tp nT) :: own') g q σ := R3.kpPerm (List.perm_append_singleton _ _).symm
    have N3 : News _ _ h2 (own' ++ nx) := fun p hp => N2 p ((List.mem_append.mp hp).elim (fun h => List.mem_append_right _ (o2 p h)) (List.mem_append_left _))
    have F3 := Fr_vw F2 [(Str.ofString "tape", .ref aT), (Str.ofString "cells", .ref g.x), (Str.ofString "world", .ref g.aW)] ⟨up_ne (y := Str.ofString "tape") (by decide) e1, up_ne (y := Str.ofString "cells") (by decide) e2, up_ne (y := Str.ofString "world") (by decide) e3, trivial⟩
    generalize own' ++ nx = n3 at R4 N3
    clear R2 R3 N2 F2 hoff o2 o3 e1 e2 e3
    refine with_mark N3 (fun h₀ L s => LawM w g aT aS nT nS ws ns b own' h₀ L s) ?_
    intro md
    have hz : Sm σ := D.sm b5
    have hzn := hz.names
    have hzn2 : σ.names.length ≤ 100000 := Nat.le_trans hzn (by decide)
    have hzh2 : σ.heap.length ≤ 100000 := Nat.le_trans hz.heap (by decide)
    have hzk2 : σ.stack.length ≤ 100000 := Nat.le_trans hz.stack (by decide)
    have ok0 := D.ok
    k_steps
    intro p' tp' r tr h4 tk4 n4 q0 q1 r0 r1 F4 N4 R5
    clear R4 p0 p1
    repeat' (walk_at "L.step")
    all_goals clear md
    rotate_left
    · rintro s' ⟨σ, q, imm, p, tp, news, m', h', tk, rfl, F5, N5, R6, mS, p0, p1, D2, ti, e1, e2, e3⟩
      have z2 := D2.sm b4
      have ok := D2.ok
      have F6 := Fr_vw F5 [(Str.ofString "tape", .ref aT), (Str.ofString "cells", .ref g.x), (Str.ofString "world", .ref g.aW)] ⟨e1, e2, e3, trivial⟩
      clear F5
      repeat' (walk_at "L.step")
      exact law_end (by assumption) (by assumption) (by assumption) o1 (by walk_at "M.imm") p0 p1 (by rw [b3]; exact D2) ti rfl rfl rfl
    unfold Stp
    have wc := way_cases r0 r1
    rcases wc with hr | rfl | ⟨hr, hr2⟩ | rfl | rfl | rfl | rfl | rfl
    rotate_left 2
    obtain ⟨g1, g2⟩ := way3 hr
    rotate_right 2
    · have D2 := deed_fresh (t := 0) D b1 (.inl rfl)
      have z2 := D2.sm b4
      have ok := D2.ok
      repeat' (walk_at "L.step")
      exact law_mid (by assumption) (by assumption) (by assumption) (by walk_at "M.imm") (by assumption) (by assumption) (by first | assumption | exact D.up) (by exact ti.same (by assumption) (by assumption) rfl) rfl rfl rfl
    all_goals
      by_cases hn : σ.names = []
      · have D2 := deed_fresh (t := 0) D b1 (.inl rfl)
        have z2 := D2.sm b4
        have ok := D2.ok
        repeat' (walk_at "L.step")
        exact law_mid (by assumption) (by assumption) (by assumption) (by walk_at "M.imm") (by assumption) (by assumption) (by first | assumption | exact D.up) (by exact ti.same (by assumption) (by assumption) rfl) rfl rfl rfl
    all_goals have hn1 := names_pos hn
    · have D2 := deed_fresh (t := 1) D b1 (.inr rfl)
      have z2 := D2.sm b4
      have ok := D2.ok
      repeat' (walk_at "L.step")
      exact law_mid (by assumption) (by assumption) (by assumption) (by walk_at "M.imm") (by assumption) (by assumption) (by first | assumption | exact D.up) (by exact ti.same (by assumption) (by assumption) rfl) rfl rfl rfl
    · repeat' (walk_at "L.step")
      exact law_mid (by assumption) (by assumption) (by assumption) (by walk_at "M.imm") (by assumption) (by assumption) (by first | assumption | exact D.up) (by exact ti.same (by assumption) (by assumption) (by assumption)) rfl rfl rfl
    · have I0 := D.inv
      repeat' (walk_at "L.step")
      intro j bj co h5 tk5 j1 j2 jne F5 N5
      have zc : co.names.length ≤ 20000 := hz.co co (List.mem_of_getElem? j2)
      cases hw : co.worth with
      | some v =>
        repeat' (walk_at "L.step")
        exact law_mid (by assumption) (by assumption) (by assumption) (by walk_at "M.imm") (by assumption) (by assumption) (by first | assumption | exact D.up) (by exact ti) rfl rfl rfl
      | none =>
        obtain ⟨nf1, nf2, nf3, nf4, nf5⟩ := num_facts D b1 b5 j2 hw
        repeat' (walk_at "L.step")
        intro p2 tp2 v tv h6 tk6 n6 q2 q3 v0 v1 F6 N6 R6
        obtain ⟨zW, D2, ep⟩ := nf5 v v0
        have z2 := D2.sm b4
        have ok := D2.ok
        repeat' (walk_at "L.step")
        exact law_mid (by assumption) (by assumption) (by assumption) (by walk_at "M.imm") (by assumption) (by assumption) (by first | assumption | exact D.up) (by exact ti.same (by assumption) (by assumption) ep) rfl rfl rfl
    · repeat' (walk_at "L.step")
      exact law_mid (by assumption) (by assumption) (by assumption) (by walk_at "M.imm") (by assumption) (by assumption) (by first | assumption | exact D.up) (by exact ti.same (by assumption) (by assumption) (by assumption)) rfl rfl rfl
    · have D2 : Deed (2 * b) (boundsS { σ with past := σ.past ++ [⟨σ.trail.length, σ.heap.length, σ.stack.length, σ.comps, σ.names⟩] }) := ⟨inv_chosen D.inv, zs_chosen D.zs b1⟩
      have z2 := D2.sm b4
      have ok := D2.ok
      have z3 : Sm { σ with past := σ.past ++ [⟨σ.trail.length, σ.heap.length, σ.stack.length, σ.comps, σ.names⟩] } := ⟨z2.heap, z2.stack, z2.trail, z2.comps, z2.names, z2.past, z2.co⟩
      have y1 := hz.heap
      have y2 := hz.stack
      have y3 := hz.past
      repeat' (walk_at "L.step")
      exact law_mid (by assumption) (by assumption) (by assumption) (by walk_at "M.imm") (by assumption) (by assumption) (by first | assumption | exact D.up) (by exact tied_push ti (by assumption) (by assumption) (by assumption) (by assumption) (by assumption)) rfl rfl rfl
    all_goals
      by_cases hp : σ.past = []
      · repeat' (walk_at "L.step")
        exact law_mid (by assumption) (by assumption) (by assumption) (by walk_at "M.imm") (by assumption) (by assumption) (by first | assumption | exact D.up) (by exact ti) rfl rfl rfl
    all_goals
      obtain ⟨ss, μ, κ, ω, cs, ns', ep, l1, l2, l3⟩ := past_split D.inv hp
      have y3 := hz.past
    · have D2 : Deed (2 * b) (returnedS σ ⟨μ, κ, ω, cs, ns'⟩) := ⟨inv_returned D.inv ep, zs_returned D.zs b1 ep⟩
      have z2 := D2.sm b4
      have ok := D2.ok
      have tk' : TrOk σ := D.inv.good.tk
      obtain ⟨sv1, sv2, sv3⟩ := zs_saved D.zs b5 ep
      repeat' (walk_at "L.step")
      exact law_mid (by assumption) (by assumption) (by assumption) (by walk_at "M.imm") (by assumption) (by assumption) (by first | assumption | exact D.up) (by assumption) rfl rfl rfl
    · have D2 : Deed (2 * b) (boundsS { σ with past := ss }) := ⟨inv_cut D.inv ep, zs_cut D.zs b1 ep⟩
      have z2 := D2.sm b4
      have ok := D2.ok
      have z3 : Sm { σ with past := ss } := ⟨z2.heap, z2.stack, z2.trail, z2.comps, z2.names, z2.past, z2.co⟩
      have z4 := z3.past
      obtain ⟨sav0, x0, hv1, hv2, hv3⟩ := tied_split ti ep
      repeat' (walk_at "L.step")
      exact law_mid (by assumption) (by assumption) (by exact RS.savDrop (by assumption) (Eq.trans (by assumption) hv1)) (by walk_at "M.imm") (by assumption) (by assumption) (by first | assumption | exact D.up) (by exact tied_cut (by assumption) hv3) rfl rfl rfl
  · rintro m₁ nx h2 tk ⟨σ, q, imm, p, tp, R2, mS, p0, p1, D, ti, e1, e2, e3⟩ F2 N2
    have F3 := Fr_vw F2 [(Str.ofString "tape", .ref aT), (Str.ofString "cells", .ref g.x), (Str.ofString "world", .ref g.aW)] ⟨e1, e2, e3, trivial⟩
    clear F2
    k_steps)
end
end Mine
theorem PySem.Challenge.cw_ok0013_01_holds : PySem.Challenge.rw_ok0013_01.Holds :=
  Mine.law_holds
