import PyProof.Rows.All
import Wide.All
import OpenK.AllK
import Wide.FinOn
import PySem.Challenge.RW_nu0050_01
set_option Elab.async false
section
open PySem PySem.W PyProof.Rows
namespace Mine
section
set_option hygiene false in
local macro_rules | `(tactic| o_head $_H:term) => `(tactic| exact h)
set_option maxRecDepth 100000 in
set_option maxHeartbeats 8000000 in
/-- its proof lays the written part: the constant Mine.kk.heap_1 -/
theorem kk (h : PySem.Challenge.rw_nu0050_01.row.Holds) : PySem.Challenge.rw_nu0050_01.row.Holds := by k_head
end
inductive IsK : (Params → Frag) → Prop
  | mk : IsK kk.heap_1
theorem isK_of {K : Params → Frag} (e : kk.heap_1 = K) : IsK K := e ▸ IsK.mk
set_option maxRecDepth 100000 in
/-- the written part once more, with its proof beside it -/
noncomputable def KS : Subtype IsK := by
  refine' ⟨_, isK_of ?h⟩
  case h =>
    delta kk.heap_1
    exact rfl
theorem isK_eq {K : Params → Frag} (h : IsK K) : kk.heap_1 = K := by cases h; rfl
noncomputable def K0 : Params → Frag := KS.1
set_option maxRecDepth 100000 in
noncomputable def hk : Hook := kHook K0 (2 :: 3 :: 15 :: 16 :: 17 :: 18 :: 19 :: 20 :: 21 :: 22 :: 23 :: 24 :: 25 :: 26 :: 27 :: 28 :: 29 :: 31 :: 32 :: 34 :: 35 :: 36 :: 38 :: 39 :: 41 :: 42 :: 43 :: 45 :: 46 :: 48 :: 49 :: 50 :: 52 :: 53 :: 55 :: 56 :: 57 :: 59 :: 60 :: 62 :: 63 :: 71 :: 74 :: 75 :: 76 :: 78 :: 79 :: 81 :: 82 :: 83 :: 85 :: 86 :: 88 :: 89 :: 90 :: 91 :: 92 :: 93 :: 94 :: 97 :: 98 :: 100 :: 101 :: 103 :: 104 :: 105 :: 107 :: 108 :: 110 :: 111 :: 112 :: 114 :: 115 :: 117 :: 118 :: 119 :: 121 :: 122 :: 124 :: 125 :: 126 :: 128 :: 129 :: 131 :: 132 :: 133 :: 135 :: 136 :: 138 :: 139 :: 140 :: 142 :: 143 :: 145 :: 146 :: 147 :: 149 :: 150 :: 152 :: 153 :: 154 :: 157 :: 158 :: 159 :: 161 :: 162 :: 164 :: 165 :: []) (fun _ => by kernel_rfl)
theorem kIn0 {w : World} {h : Heap} (Y : hk.says w h) : (kk.heap_1 w.params).In h := by
  have Y' : (K0 w.params).In h := Y
  rw [show K0 = kk.heap_1 from (isK_eq KS.2).symm] at Y'
  exact Y'
/-- the statements that the head looks at, by their places -/
noncomputable def vw : Program := PySem.W.view PySem.Challenge.pw_nu0050_01 [1, 2, 3, 4, 5, 6, 7, 10, 11, 12, 13, 14, 15, 16, 17, 18]
section
local macro_rules | `(tactic| o_head ($_H:term)) => `(tactic| o_head Mine.hk)
local macro_rules
  | `(tactic| refine $f:ident ($_a1:ident := $_q) ($_a2:ident := $l) ($_a3:ident := $_xt) ($_a4:ident := $_xp) ($_a5:ident := $yf) ($_a6:ident := $ya) ($_a7:ident := $yp) ($_a8:ident := $n) $rest*) =>
    `(tactic| refine' $f (q := Mine.vw) (loose := $l) (Xt := fun s => xlAt Mine.vw [] s && recOk (RowW.records (OpenRow.toRowW (OpenLaw.row PySem.Challenge.rw_nu0050_01))) s) (XP := XL Mine.vw []) (Yf := $yf) (Ya := $ya) (YP := $yp) (N := $n) $rest*)
set_option maxRecDepth 100000 in
set_option maxHeartbeats 8000000 in
open_top hd for PySem.Challenge.rw_nu0050_01
end
end Mine
end
section
open PySem PySem.W PyProof.Rows PySem.Calls PySem.Spec
namespace Mine
def w00 : World := ⟨fun _ _ => 0, { strHash := fun _ => 0, shareClass := fun _ => 0, mergeTok := fun t => t, idOf := fun _ => 0, idOfShared := fun _ _ => 0, followText := fun _ => false, idOfImm := fun _ => 0 }⟩
/-- one that breaks P, if any does: what is shown of it is shown of all -/
noncomputable def hkEps {α : Type} (d : α) (P : α → Prop) : α := @Classical.epsilon α ⟨d⟩ fun c => ¬ P c
theorem hkAll {α : Type} {d : α} {P : α → Prop} {c : α} (e : c = hkEps d P) (h : P c) : ∀ a, P a := fun a => Classical.byContradiction fun hc => (@Classical.epsilon_spec α (fun a => ¬ P a) ⟨a, hc⟩ : ¬ P _) (by rw [e] at h; exact h)
theorem st_norm {α : Type} {M : Model} {A : Around} {c : Sem α} {Q : α → Shared → Prop} {E : Value → Shared → Prop} {h : Heap} {g d t o} {s0 : Shared} (hg : g = s0.gens) (hd : d = s0.drawn) (ho : o = s0.os) (k : ∀ tk, wpAny M A c Q E (Shared.mk h s0.gens s0.drawn tk s0.os)) : wpAny M A c Q E (Shared.mk h g d t o) := by
  subst hg hd ho; exact k t
theorem fn_inj {K : Frag} {f : Addr} {name qual name' qual' : Str} {params params' : Arguments} {body body' : List Stmt} {scope scope' : Scope} {dV kV doc pm cdv ct oc dV' kV' doc' pm' cdv' ct' oc' : Value} {an od an' od' : Option Addr} {osl osl' : Array (Option Value)}
    (h1 : K.lookup f = some ⟨oc, od, .func (fnOf name qual params body scope dV kV doc pm an cdv ct), osl⟩) (h2 : K.lookup f = some ⟨oc', od', .func (fnOf name' qual' params' body' scope' dV' kV' doc' pm' an' cdv' ct'), osl'⟩) : qual = qual' ∧ body = body' ∧ scope = scope' ∧ cdv = cdv' := by
  rw [h1] at h2
  have e1 := Option.some.inj h2
  have e2 : Data.func (fnOf name qual params body scope dV kV doc pm an cdv ct) = Data.func (fnOf name' qual' params' body' scope' dV' kV' doc' pm' an' cdv' ct') := congrArg Obj.data e1
  injection e2 with e3
  have a1 := congrArg FuncData.qualname e3
  have a2 := congrArg FuncData.body e3
  have a3 := congrArg FuncData.scope e3
  have a4 := congrArg FuncData.code e3
  exact ⟨a1, by injection a2, a3, a4⟩
end Mine
end
local macro_rules | `(tactic| walk_at $s:str) => `(tactic| first | k_extra "*" | k_extra $s)
section
open PySem PySem.W PyProof.Rows Mine
local macro_rules | `(tactic| walk_at "cj") => `(tactic| first | assumption | exact And.left (by assumption) | exact And.left (And.right (by assumption)) | exact And.right (by assumption) | exact And.left (And.right (And.right (by assumption))) | exact And.right (And.right (by assumption)) | exact And.left (And.right (And.right (And.right (by assumption)))) | exact And.right (And.right (And.right (by assumption))) | exact And.left (And.right (And.right (And.right (And.right (by assumption))))) | exact And.right (And.right (And.right (And.right (by assumption)))) | exact And.left (And.right (And.right (And.right (And.right (And.right (by assumption)))))) | exact And.right (And.right (And.right (And.right (And.right (by assumption))))) | exact And.left (And.right (And.right (And.right (And.right (And.right (And.right (by assumption))))))) | exact And.right (And.right (And.right (And.right (And.right (And.right (by assumption)))))) | exact And.left (And.right (And.right (And.right (And.right (And.right (And.right (And.right (by assumption)))))))) | exact And.right (And.right (And.right (And.right (And.right (And.right (And.right (by assumption))))))) | exact And.left (And.right (And.right (And.right (And.right (And.right (And.right (And.right (And.right (by assumption))))))))) | exact And.right (And.right (And.right (And.right (And.right (And.right (And.right (And.right (by assumption)))))))) | exact And.left (And.right (And.right (And.right (And.right (And.right (And.right (And.right (And.right (And.right (by assumption)))))))))) | exact And.right (And.right (And.right (And.right (And.right (And.right (And.right (And.right (And.right (by assumption))))))))) | exact And.left (And.right (And.right (And.right (And.right (And.right (And.right (And.right (And.right (And.right (And.right (by assumption))))))))))) | exact And.right (And.right (And.right (And.right (And.right (And.right (And.right (And.right (And.right (And.right (by assumption)))))))))) | exact And.left (And.right (And.right (And.right (And.right (And.right (And.right (And.right (And.right (And.right (And.right (And.right (by assumption)))))))))))) | exact And.right (And.right (And.right (And.right (And.right (And.right (And.right (And.right (And.right (And.right (And.right (by assumption))))))))))) | exact And.left (And.right (And.right (And.right (And.right (And.right (And.right (And.right (And.right (And.right (And.right (And.right (And.right (by assumption))))))))))))) | exact And.right (And.right (And.right (And.right (And.right (And.right (And.right (And.right (And.right (And.right (And.right (And.right (by assumption)))))))))))) | exact And.left (And.right (And.right (And.right (And.right (And.right (And.right (And.right (And.right (And.right (And.right (And.right (And.right (And.right (by assumption)))))))))))))) | exact And.right (And.right (And.right (And.right (And.right (And.right (And.right (And.right (And.right (And.right (And.right (And.right (And.right (by assumption))))))))))))))
local macro_rules | `(tactic| k_ne) => `(tactic| (refine neN ?_; (try dsimp only); k_dflt (first | exact Nat.ne_of_lt (by walk_at "cj") | exact Nat.ne_of_gt (by walk_at "cj") | exact Ap.ne (by assumption) | exact Ne.symm (Ap.ne (by assumption)) | walk_at "cj" | exact Ne.symm (by walk_at "cj") | omega)))
section
open PySem PySem.W PyProof.Rows PySem.Calls PySem.Spec
set_option maxRecDepth 100000
namespace Mine
/-- the part of the ledger that a called def sees -/
def MySub (_l : List (Addr × Obj)) : Prop := True
/-- what a call of f upon vs gives, on the ledger news: c frames at most; no exception; Ret says what may come back, on which ledger -/
def Does (prog : Program) (w : World) (K : Frag) (p : Program) (loose : List Str) (mean : ExcName → Option Value) (mg mb : Str → Option Value) (f : Value) (vs : List Value) (news : List (Addr × Obj)) (c : Nat) (Ret : (Value → List (Addr × Obj) → Prop) → Prop) : Prop :=
  ∀ (dp un : Nat) (gd : Option (List Code)) (cn : Str) (cs : Scope) (a : Addr) (ccd : Value) (cl : List (Str × Addr)) (outer : List Env) (A₀ : Around) (base h₀ : Heap) (L : Addr) (m : Str → Option Value) (s : Shared) (Q : Value → Shared → Prop),
    Below A₀ base outer h₀ → Fr h₀ L s.heap m → K.In h₀ → News h₀ L s.heap news → Top p loose mean mg mb h₀ → cs.kind = .function → dp + c < recursionLimit → un + 8 * c < cLine →
    (Ret fun v news' => ∀ h' tk', Fr h₀ L h' m → News h₀ L h' news' → Q v { s with heap := h', toks := tk' }) →
    wpAny (model prog w) (ktrTop dp un gd cn cs L a ccd cl outer) (call f vs) Q (fun _ _ => False) s
section
variable {prog : Program} {w : World} {K : Frag} {p : Program} {loose : List Str} {mean : ExcName → Option Value} {mg mb : Str → Option Value}
theorem Does.use {f : Value} {vs : List Value} {news : List (Addr × Obj)} {c : Nat} {Ret : (Value → List (Addr × Obj) → Prop) → Prop}
    {dp un : Nat} {gd : Option (List Code)} {cn : Str} {cs : Scope} {a : Addr} {ccd : Value} {cl : List (Str × Addr)} {outer : List Env} {A₀ : Around} {base h₀ : Heap} {L : Addr} {m : Str → Option Value} {s : Shared} {Q E : Value → Shared → Prop}
    (D : Does prog w K p loose mean mg mb f vs news c Ret) (B : Below A₀ base outer h₀) (F : Fr h₀ L s.heap m) (X : K.In h₀) (N : News h₀ L s.heap news) (T : Top p loose mean mg mb h₀) (hk : cs.kind = .function) (hd : dp + c < recursionLimit) (hu : un + 8 * c < cLine)
    (ret : Ret fun v news' => ∀ h' tk', Fr h₀ L h' m → News h₀ L h' news' → Q v { s with heap := h', toks := tk' }) :
    wpAny (model prog w) (ktrTop dp un gd cn cs L a ccd cl outer) (call f vs) Q E s :=
  wpAny_noRaise (D _ _ _ _ _ _ _ _ _ _ _ _ _ _ _ _ B F X N T hk hd hu ret)
/-- what stands behind a call whose def saw the part sub alone -/
def Kept (sub : List (Addr × Obj)) (h h' : Heap) : Prop := ∀ b o, h.get? b = some o → b ∉ sub.map (·.1) → h'.get? b = some o
theorem Kept.news {sub news : List (Addr × Obj)} {h₀ h h' : Heap} {L : Addr} (k : Kept sub h h') (N : News h₀ L h news) (hs : ∀ q ∈ news, q.1 ∉ sub.map (·.1)) : News h₀ L h' news :=
  fun q hq => ⟨k _ _ (N q hq).1 (hs q hq), (N q hq).2⟩
theorem Kept.pure {news : List (Addr × Obj)} {h₀ h h' : Heap} {L : Addr} (k : Kept [] h h') (N : News h₀ L h news) : News h₀ L h' news := k.news N fun _ _ h => nomatch h
/-- enter a def that sees the part sub of the ledger alone -/
theorem code_sub {A₀ A : Around} {s : Shared} {base h₀ : Heap} {outer : List Env} {L : Addr} {m : Str → Option Value} {env : Env} {sub news : List (Addr × Obj)} {R : Result → Shared → Prop} {name qual : Str} {params : Arguments} {body : List Stmt} {scope : Scope} {dV kV doc pm cdv ct oc : Value} {an od : Option Addr} {osl : Array (Option Value)} {f : Addr} {args : Args} {binds : List (Str × Value)}
    (_S : MySub sub) (B : Below A₀ base outer h₀) (F : Fr h₀ L s.heap m) (X₀ : K.In h₀) (N : News h₀ L s.heap news) (hs : ∀ q ∈ sub, q ∈ news) (T : Top p loose mean mg mb h₀) (hA : A.frames = some (env :: outer)) (hf : env.frame = some L) (hke : env.scope.kind = .function)
    (ho : K.lookup f = some ⟨oc, od, .func (fnOf name qual params body scope dV kV doc pm an cdv ct), osl⟩) (hcd : codeIn K cdv qual = true) (hroom : A.depth < recursionLimit)
    (hbind : BindsTo s (fnOf name qual params body scope dV kV doc pm an cdv ct) args binds) (hloc : ∀ y ∈ binds, scope.names.lookup y.1 = some .local)
    (h : ∀ g L' h₁ tk, Fr h₀ L g m → Fr g L' h₁ (fun y => binds.reverse.lookup y) → News g L' h₁ sub → Below A base (env :: outer) g → K.In g → Top p loose mean mg mb g →
      wpAny (model prog w) (A.deeper (envOf qual scope L' f cdv)) (execs body (envOf qual scope L' f cdv))
        (fun fl s' => LeaveK h₀ L m g (fun r s' => Kept sub s.heap s'.heap → R r s') (match fl with | .ret v => v | _ => .none) s') (fun _ _ => False)
        { s with heap := h₁, toks := tk })
    (hco : scope.isCoroutine = false) (hgen : scope.isGenerator = false) (hk : scope.kind = .function)
    (hcell : ∀ x ∈ scope.names, x.2 ≠ .cell) : codeAny (model prog w) A (.call (.ref f) args) R s := by
  refine code_defG (news := sub) B F X₀ (fun q hq => N q (hs q hq)) T hA hf hke ho hcd hroom hbind hloc (fun g L' h₁ FG F' N' B' X' T' G => wpAny_mono (h g L' h₁ _ FG F' N' B' X' T') (fun fl s' hl => ?_) (fun _ _ x => x.elim)) hco hgen hk hcell
  obtain ⟨L'', m', news', F'', N'', k⟩ := hl
  exact ⟨L'', m', news', F'', N'', fun a b => k a b fun b o e hn => F''.keep b o (G b o e hn)⟩
end
/-- the written part, to be found by the library's lines -/
theorem fillK : (Mine.kk.heap_1, PySem.Challenge.rw_nu0050_01) = (Mine.kk.heap_1, PySem.Challenge.rw_nu0050_01) := rfl
end Mine
end
section
set_option linter.unusedVariables false
open PySem PySem.W PyProof.Rows PySem.Calls
set_option maxRecDepth 100000
set_option maxHeartbeats 4000000
namespace Mine

theorem allObj_mono : ∀ {ws : List (Addr × String)} {k k' : List (Addr × Obj) → Prop}, AllObj ws k → (∀ its, k its → k' its) → AllObj ws k'
  | [], _, _, h, f => f _ h
  | _ :: _, _, _, h, f => fun o ho => allObj_mono (h o ho) fun its => f _
theorem unrPostW_mono {h₀ : Heap} {L : Addr} {s₁ : Shared} {its : List (Addr × Obj)} {rest rest' : (Str → Option Value) → List (Addr × Obj) → Prop} {Q : Flow → Shared → Prop} {f : Flow} {s₂ : Shared}
    (h : UnrPostW h₀ L s₁ its rest Q f s₂) (hr : ∀ m n, rest m n → rest' m n) : UnrPostW h₀ L s₁ its rest' Q f s₂ := by
  have up : UnrEndW h₀ L s₁ its rest s₂ → UnrEndW h₀ L s₁ its rest' s₂ := fun ⟨h', tk, m', n', a, b, c, d, e⟩ => ⟨h', tk, m', n', a, b, c, d, hr _ _ e⟩
  cases f <;> first | exact h | exact up h
section
variable {prog : Program} {w : World} {A : Around} {E : Value → Shared → Prop} {s : Shared} {env : Env} {h₀ : Heap} {target : Expr} {body : List Stmt} {Q : Flow → Shared → Prop} {ws : List (Addr × String)} {keep : List (Addr × Obj)}
/-- a loop over written items, by what holds ahead of each -/
theorem items_ind {X : Type} (item : X → Itm) (J : List X → (Str → Option Value) → List (Addr × Obj) → Prop)
    (step : ∀ x r m news v h tk, J (x :: r) m news → (item x).Is v h → Fr h₀ env.locals h m → AllObj ws (fun its => News h₀ env.locals h (its ++ news) →
      wpAny (model prog w) A (assign target env v) (fun _ s₂ => wpAny (model prog w) A (execs body env) (UnrPostW h₀ env.locals { s with heap := h, toks := tk } its (fun m' n' => SubL keep n' ∧ J r m' n') Q) E s₂) E { s with heap := h, toks := tk }))
    (done : ∀ m news h tk, J [] m news → Fr h₀ env.locals h m → News h₀ env.locals h news → Q .next { s with heap := h, toks := tk }) :
    ∀ l m news, J l m news → ItemsRest prog w A E h₀ env target body Q s ws keep (l.map item) m news
  | [], m, news, hJ => fun h tk F N => done m news h tk hJ F N
  | x :: r, m, news, hJ => fun v h tk hi F => allObj_mono (step x r m news v h tk hJ hi F) fun its hw N =>
      wpAny_mono (hw N) (fun _ _ h2 => wpAny_mono h2 (fun _ _ h3 => unrPostW_mono h3 fun m' n' ⟨a, b⟩ => ⟨a, items_ind item J step done r m' n' b⟩) fun _ _ e => e) fun _ _ e => e
end
theorem fr_norm {h₀ h : Heap} {L : Addr} {m : Str → Option Value} {ps : List (Str × Value)} (hp : ∀ q ∈ ps, m q.1 = some q.2) (F : Fr h₀ L h m) : Fr h₀ L h (kstB m ps) := by
  have e : kstB m ps = m := by funext z; exact kstB_eq hp fun _ => rfl
  rw [e]; exact F
end Mine
end
section
open PySem PySem.W PyProof.Rows PySem.Calls
set_option maxRecDepth 100000
set_option maxHeartbeats 4000000
namespace Mine
/-- letters' loop: from a number left and what is found, what comes back -/
inductive LetR : Int → Str → Str → Prop
  | done {n : Int} {f : Str} : n ≤ 0 → LetR n f f
  | step {n : Int} {f r : Str} : 0 < n → LetR ((n - 1).fdiv 26) ({ cps := #[(97 + (n - 1).fmod 26).toNat] } ++ f) r → LetR n f r
theorem let_step {n₀ k : Int} {f f₀ : Str} (h : 0 < k) (h1 : k ≤ n₀) (h2 : (f.length : Int) + k ≤ n₀) (h3 : ∀ r, LetR k f r → LetR n₀ f₀ r) :
    0 ≤ (k - 1).fdiv 26 ∧ (k - 1).fdiv 26 ≤ n₀ ∧ (({ cps := #[(97 + (k - 1).fmod 26).toNat] } ++ f : Str).length : Int) + (k - 1).fdiv 26 ≤ n₀ ∧ ∀ r, LetR ((k - 1).fdiv 26) ({ cps := #[(97 + (k - 1).fmod 26).toNat] } ++ f) r → LetR n₀ f₀ r := by
  have e : (k - 1).fdiv 26 = (k - 1) / 26 := Int.fdiv_eq_ediv_of_nonneg _ (by omega)
  have l : ({ cps := #[(97 + (k - 1).fmod 26).toNat] } ++ f : Str).length = f.length + 1 := by
    rw [Str.length_append]; show 1 + f.length = _; omega
  refine ⟨by omega, by omega, by omega, fun r hr => h3 r (.step h hr)⟩
theorem let_meas {k : Int} (h : 0 < k) : ((k - 1).fdiv 26).toNat < k.toNat := by
  have e : (k - 1).fdiv 26 = (k - 1) / 26 := Int.fdiv_eq_ediv_of_nonneg _ (by omega)
  omega
theorem let_end {n₀ k : Int} {f f₀ : Str} (h : ¬ 0 < k) (h3 : ∀ r, LetR k f r → LetR n₀ f₀ r) : LetR n₀ f₀ f := h3 f (.done (by omega))
section
variable {prog : Program} {w : World} {p : Program} {loose : List Str} {mean : ExcName → Option Value} {mg mb : Str → Option Value}
end
namespace Hklettersdoes
abbrev HkT : Type := (Program) × (World) × (Program) × (List Str) × (ExcName → Option Value) × (Str → Option Value) × (Str → Option Value) × (List (Addr × Obj)) × (Int) × (Tok) × (Nat) × (Nat) × (Option (List Code)) × (Str) × (Scope) × (Addr) × (Value) × (List (Str × Addr)) × (List Env) × (Around) × (Heap) × (Heap) × (Addr) × (Str → Option Value) × (Shared) × (Value → Shared → Prop)
def HkP0 (prog : Program) (w : World) (p : Program) (loose : List Str) (mean : ExcName → Option Value) (mg : Str → Option Value) (mb : Str → Option Value) (news : List (Addr × Obj)) (n : Int) (t : Tok) (dp : Nat) (un : Nat) (gd : Option (List Code)) (cn : Str) (cs : Scope) (a : Addr) (ccd : Value) (cl : List (Str × Addr)) (outer : List Env) (A₀ : Around) (base : Heap) (h₀ : Heap) (L : Addr) (m : Str → Option Value) (s : Shared) (Q : Value → Shared → Prop) : Prop := ∀ (h0 : 0 < n) (h1 : n < 20000) (B : Below A₀ base outer h₀) (F : Fr h₀ L s.heap m) (X : (Mine.kk.heap_1 w.params).In h₀) (N : News h₀ L s.heap news) (T : Top p loose mean mg mb h₀) (hk : cs.kind = .function) (hd : dp + 1 < recursionLimit) (hu : un + 8 * 1 < cLine) (hret : (fun (K : Value → List (Addr × Obj) → Prop) => ∀ r t, LetR n (Str.ofString "") r → (r.length : Int) ≤ n → K (.str r t) news) fun v news' => ∀ h' tk', Fr h₀ L h' m → News h₀ L h' news' → Q v { s with heap := h', toks := tk' }), wpAny (model prog w) (ktrTop dp un gd cn cs L a ccd cl outer) (call (.ref 42) [.int n t]) Q (fun _ _ => False) s
def HkP (c9 : HkT) : Prop := HkP0 c9.1 c9.2.1 c9.2.2.1 c9.2.2.2.1 c9.2.2.2.2.1 c9.2.2.2.2.2.1 c9.2.2.2.2.2.2.1 c9.2.2.2.2.2.2.2.1 c9.2.2.2.2.2.2.2.2.1 c9.2.2.2.2.2.2.2.2.2.1 c9.2.2.2.2.2.2.2.2.2.2.1 c9.2.2.2.2.2.2.2.2.2.2.2.1 c9.2.2.2.2.2.2.2.2.2.2.2.2.1 c9.2.2.2.2.2.2.2.2.2.2.2.2.2.1 c9.2.2.2.2.2.2.2.2.2.2.2.2.2.2.1 c9.2.2.2.2.2.2.2.2.2.2.2.2.2.2.2.1 c9.2.2.2.2.2.2.2.2.2.2.2.2.2.2.2.2.1 c9.2.2.2.2.2.2.2.2.2.2.2.2.2.2.2.2.2.1 c9.2.2.2.2.2.2.2.2.2.2.2.2.2.2.2.2.2.2.1 c9.2.2.2.2.2.2.2.2.2.2.2.2.2.2.2.2.2.2.2.1 c9.2.2.2.2.2.2.2.2.2.2.2.2.2.2.2.2.2.2.2.2.1 c9.2.2.2.2.2.2.2.2.2.2.2.2.2.2.2.2.2.2.2.2.2.1 c9.2.2.2.2.2.2.2.2.2.2.2.2.2.2.2.2.2.2.2.2.2.2.1 c9.2.2.2.2.2.2.2.2.2.2.2.2.2.2.2.2.2.2.2.2.2.2.2.1 c9.2.2.2.2.2.2.2.2.2.2.2.2.2.2.2.2.2.2.2.2.2.2.2.2.1 c9.2.2.2.2.2.2.2.2.2.2.2.2.2.2.2.2.2.2.2.2.2.2.2.2.2
noncomputable def HkD : HkT := ((default), (w00), (default), ([]), (fun _ => none), (fun _ => none), (fun _ => none), ([]), ((0 : Int)), ((0 : Nat)), ((0 : Nat)), ((0 : Nat)), (none), (Str.empty), (default), ((0 : Nat)), (Value.none), ([]), ([]), (callerA), (default), (default), ((0 : Nat)), (fun _ => none), ({}), (fun _ _ => True))
@[irreducible] noncomputable def HkC : HkT := hkEps HkD HkP
noncomputable def prog : Program := HkC.1
noncomputable def w : World := HkC.2.1
noncomputable def p : Program := HkC.2.2.1
noncomputable def loose : List Str := HkC.2.2.2.1
noncomputable def mean : ExcName → Option Value := HkC.2.2.2.2.1
noncomputable def mg : Str → Option Value := HkC.2.2.2.2.2.1
noncomputable def mb : Str → Option Value := HkC.2.2.2.2.2.2.1
noncomputable def news : List (Addr × Obj) := HkC.2.2.2.2.2.2.2.1
noncomputable def n : Int := HkC.2.2.2.2.2.2.2.2.1
noncomputable def t : Tok := HkC.2.2.2.2.2.2.2.2.2.1
noncomputable def dp : Nat := HkC.2.2.2.2.2.2.2.2.2.2.1
noncomputable def un : Nat := HkC.2.2.2.2.2.2.2.2.2.2.2.1
noncomputable def gd : Option (List Code) := HkC.2.2.2.2.2.2.2.2.2.2.2.2.1
noncomputable def cn : Str := HkC.2.2.2.2.2.2.2.2.2.2.2.2.2.1
noncomputable def cs : Scope := HkC.2.2.2.2.2.2.2.2.2.2.2.2.2.2.1
noncomputable def a : Addr := HkC.2.2.2.2.2.2.2.2.2.2.2.2.2.2.2.1
noncomputable def ccd : Value := HkC.2.2.2.2.2.2.2.2.2.2.2.2.2.2.2.2.1
noncomputable def cl : List (Str × Addr) := HkC.2.2.2.2.2.2.2.2.2.2.2.2.2.2.2.2.2.1
noncomputable def outer : List Env := HkC.2.2.2.2.2.2.2.2.2.2.2.2.2.2.2.2.2.2.1
noncomputable def A₀ : Around := HkC.2.2.2.2.2.2.2.2.2.2.2.2.2.2.2.2.2.2.2.1
noncomputable def base : Heap := HkC.2.2.2.2.2.2.2.2.2.2.2.2.2.2.2.2.2.2.2.2.1
noncomputable def h₀ : Heap := HkC.2.2.2.2.2.2.2.2.2.2.2.2.2.2.2.2.2.2.2.2.2.1
noncomputable def L : Addr := HkC.2.2.2.2.2.2.2.2.2.2.2.2.2.2.2.2.2.2.2.2.2.2.1
noncomputable def m : Str → Option Value := HkC.2.2.2.2.2.2.2.2.2.2.2.2.2.2.2.2.2.2.2.2.2.2.2.1
noncomputable def s : Shared := HkC.2.2.2.2.2.2.2.2.2.2.2.2.2.2.2.2.2.2.2.2.2.2.2.2.1
noncomputable def Q : Value → Shared → Prop := HkC.2.2.2.2.2.2.2.2.2.2.2.2.2.2.2.2.2.2.2.2.2.2.2.2.2
theorem HkAt : HkP0 prog w p loose mean mg mb news n t dp un gd cn cs a ccd cl outer A₀ base h₀ L m s Q := by
  unfold HkP0
  intro h0 h1 B F X N T hk hd hu hret
  have hz := fillK; revert hz; k_fill; intro _
  refine wpAny_call ?_
  k_with_none
  w_top off
  k_with "*" => first | ((with_reducible show wpAny _ _ _ _ _ (Shared.mk _ _ _ (_ + _ + _) _)); refine st_norm (s0 := s) rfl rfl rfl fun _ => ?_) | ((with_reducible show wpAny _ _ (eval _ _) _ _ _); k_fold)
  k_with "execs cons" => (k_here; first | ((rename News _ _ _ _ => N6); dsimp only at N6) | ((rename Fr _ _ _ _ => F6); dsimp only at F6))
  k_dflt cell_enter
  k_with "exec While Compare cons nil" => k_while_given ["number!"] (fun n₀ script k f => 0 ≤ k ∧ k ≤ n₀ ∧ (f.length : Int) + k ≤ n₀ ∧ ∀ r, LetR k f r → LetR n₀ (Str.ofString "") r) (fun n₀ script k f => k.toNat) "number" "found"
  k_with "state" => first | exact ⟨Int.le_of_lt h0, Int.le_refl _, by show (0:Int) + n ≤ n; omega, fun _ hr => hr⟩ | exact let_step (by assumption) (by assumption) (by assumption) (by assumption)
  k_with "measure" => exact let_meas (by assumption)
  k_steps
  exact hret _ _ (let_end (by assumption) (by assumption)) (by omega) _ _ (by assumption) (by assumption)
theorem HkEq : HkC = hkEps HkD HkP := by unfold HkC; rfl
end Hklettersdoes
theorem letters_does {prog : Program} {w : World} {p : Program} {loose : List Str} {mean : ExcName → Option Value} {mg mb : Str → Option Value} (news : List (Addr × Obj)) (n : Int) (t : Tok) (h0 : 0 < n) (h1 : n < 20000) :
    Does prog w (Mine.kk.heap_1 w.params) p loose mean mg mb (.ref 42) [.int n t] news 1 fun K => ∀ r t, LetR n (Str.ofString "") r → (r.length : Int) ≤ n → K (.str r t) news :=
  fun dp un gd cn cs a ccd cl outer A₀ base h₀ L m s Q => hkAll (P := Hklettersdoes.HkP) Hklettersdoes.HkEq Hklettersdoes.HkAt (prog, w, p, loose, mean, mg, mb, news, n, t, dp, un, gd, cn, cs, a, ccd, cl, outer, A₀, base, h₀, L, m, s, Q) h0 h1
section
variable {prog : Program} {w : World} {p : Program} {loose : List Str} {mean : ExcName → Option Value} {mg mb : Str → Option Value}
end
end Mine
end
section
set_option linter.unusedVariables false
open PySem PySem.W PyProof.Rows PySem.Calls
set_option maxRecDepth 100000
set_option maxHeartbeats 400000
namespace Mine
def romL : List (Addr × Int × Str) := [(15, 1000, Str.ofString "m"), (16, 900, Str.ofString "cm"), (17, 500, Str.ofString "d"), (18, 400, Str.ofString "cd"), (19, 100, Str.ofString "c"), (20, 90, Str.ofString "xc"), (21, 50, Str.ofString "l"), (22, 40, Str.ofString "xl"), (23, 10, Str.ofString "x"), (24, 9, Str.ofString "ix"), (25, 5, Str.ofString "v"), (26, 4, Str.ofString "iv"), (27, 1, Str.ofString "i")]
def ROM : List (Int × Str) := romL.map (·.2)
inductive RomG : List (Int × Str) → Int → Str → Str → Prop
  | nil {n : Int} {f : Str} : RomG [] n f f
  | skip {w : Int} {si : Str} {l : List (Int × Str)} {n : Int} {f r : Str} : n < w → RomG l n f r → RomG ((w, si) :: l) n f r
  | take {w : Int} {si : Str} {l : List (Int × Str)} {n : Int} {f r : Str} : w ≤ n → RomG ((w, si) :: l) (n - w) (f ++ si) r → RomG ((w, si) :: l) n f r
theorem rom_tups {P : Params} {g : Heap} (X : (Mine.kk.heap_1 P).In g) : ∀ x ∈ romL, (∃ t1 t2, IsTup g x.1 #[.int x.2.1 t1, .str x.2.2 t2]) ∧ 0 < x.2.1 ∧ (x.2.2.length : Int) ≤ 2 * x.2.1 := by
  have hz := fillK; revert hz; k_fill; intro _
  unfold romL
  simp only [List.forall_mem_cons, List.not_mem_nil, false_implies, implies_true, and_true]
  refine ⟨?_, ?_, ?_, ?_, ?_, ?_, ?_, ?_, ?_, ?_, ?_, ?_, ?_⟩
  all_goals (refine ⟨⟨_, _, _, X _ _ (by k_is), rfl, _, rfl⟩, by decide, by decide⟩)
def RomJ (n : Int) (l : List (Addr × Int × Str)) (m : Str → Option Value) (news : List (Addr × Obj)) : Prop :=
  news = [] ∧ (∀ x ∈ l, x ∈ romL) ∧ ∃ k tk f tf, m (Str.ofString "number") = some (.int k tk) ∧ m (Str.ofString "found") = some (.str f tf) ∧
    0 ≤ k ∧ k ≤ n ∧ (f.length : Int) + 2 * k ≤ 2 * n ∧ ∀ r, RomG (l.map (·.2)) k f r → RomG ROM n (Str.ofString "") r
theorem romJ_init {n : Int} {m : Str → Option Value} {t t' : Tok} (h0 : 0 < n) (hn : m (Str.ofString "number") = some (.int n t)) (hf : m (Str.ofString "found") = some (.str (Str.ofString "") t')) : RomJ n romL m [] :=
  ⟨rfl, fun _ h => h, n, t, Str.ofString "", t', hn, hf, Int.le_of_lt h0, Int.le_refl _, by show (0 : Int) + 2 * n ≤ 2 * n; omega, fun _ h => h⟩
theorem rom_in {n k wo : Int} {f si : Str} {l : List (Int × Str)} (k0 : 0 ≤ k) (k1 : k ≤ n) (k2 : (f.length : Int) + 2 * k ≤ 2 * n) (k3 : ∀ r, RomG ((wo, si) :: l) k f r → RomG ROM n (Str.ofString "") r) :
    0 ≤ k ∧ k ≤ n ∧ (f.length : Int) + 2 * k ≤ 2 * n ∧ ∀ r, RomG ((wo, si) :: l) k f r → RomG ROM n (Str.ofString "") r := ⟨k0, k1, k2, k3⟩
theorem rom_step {n k w : Int} {f si : Str} {l : List (Int × Str)} (hw : w ≤ k) (h2 : k ≤ n) (h3 : (f.length : Int) + 2 * k ≤ 2 * n) (h4 : ∀ r, RomG ((w, si) :: l) k f r → RomG ROM n (Str.ofString "") r)
    (hp : 0 < w) (hl : (si.length : Int) ≤ 2 * w) :
    0 ≤ k - w ∧ k - w ≤ n ∧ ((f ++ si : Str).length : Int) + 2 * (k - w) ≤ 2 * n ∧ ∀ r, RomG ((w, si) :: l) (k - w) (f ++ si) r → RomG ROM n (Str.ofString "") r := by
  have hl' : ((f ++ si : Str).length : Int) = f.length + si.length := by rw [Str.length_append]; omega
  exact ⟨by omega, by omega, by omega, fun r hr => h4 r (.take hw hr)⟩
theorem rom_next {n k : Int} {wo : Int} {si f : Str} {tk tf : Tok} {x : Addr} {r : List (Addr × Int × Str)} {m : Str → Option Value} (hs : ∀ y ∈ (x, wo, si) :: r, y ∈ romL) (hn : m (Str.ofString "number") = some (.int k tk)) (hf : m (Str.ofString "found") = some (.str f tf))
    (hw : ¬ wo ≤ k) (k0 : 0 ≤ k) (k1 : k ≤ n) (k2 : (f.length : Int) + 2 * k ≤ 2 * n) (k3 : ∀ q, RomG ((wo, si) :: r.map (·.2)) k f q → RomG ROM n (Str.ofString "") q) : RomJ n r m [] :=
  ⟨rfl, fun y hy => hs y (.tail _ hy), k, tk, f, tf, hn, hf, k0, k1, k2, fun q hq => k3 q (.skip (by omega) hq)⟩
theorem rom_meas {k w : Int} (hw : w ≤ k) (hp : 0 < w) : (k - w).toNat < k.toNat := by omega
section
variable {prog : Program} {w : World} {p : Program} {loose : List Str} {mean : ExcName → Option Value} {mg mb : Str → Option Value}
end
namespace Hkromandoes
abbrev HkT : Type := (Program) × (World) × (Program) × (List Str) × (ExcName → Option Value) × (Str → Option Value) × (Str → Option Value) × (List (Addr × Obj)) × (Int) × (Tok) × (Nat) × (Nat) × (Option (List Code)) × (Str) × (Scope) × (Addr) × (Value) × (List (Str × Addr)) × (List Env) × (Around) × (Heap) × (Heap) × (Addr) × (Str → Option Value) × (Shared) × (Value → Shared → Prop)
def HkP0 (prog : Program) (w : World) (p : Program) (loose : List Str) (mean : ExcName → Option Value) (mg : Str → Option Value) (mb : Str → Option Value) (news : List (Addr × Obj)) (n : Int) (t : Tok) (dp : Nat) (un : Nat) (gd : Option (List Code)) (cn : Str) (cs : Scope) (a : Addr) (ccd : Value) (cl : List (Str × Addr)) (outer : List Env) (A₀ : Around) (base : Heap) (h₀ : Heap) (L : Addr) (m : Str → Option Value) (s : Shared) (Q : Value → Shared → Prop) : Prop := ∀ (h0 : 0 < n) (h1 : n < 5000) (B : Below A₀ base outer h₀) (F : Fr h₀ L s.heap m) (X : (Mine.kk.heap_1 w.params).In h₀) (N : News h₀ L s.heap news) (T : Top p loose mean mg mb h₀) (hk : cs.kind = .function) (hd : dp + 1 < recursionLimit) (hu : un + 8 * 1 < cLine) (hret : (fun (K : Value → List (Addr × Obj) → Prop) => ∀ r t, RomG ROM n (Str.ofString "") r → (r.length : Int) ≤ 2 * n → K (.str r t) news) fun v news' => ∀ h' tk', Fr h₀ L h' m → News h₀ L h' news' → Q v { s with heap := h', toks := tk' }), wpAny (model prog w) (ktrTop dp un gd cn cs L a ccd cl outer) (call (.ref 35) [.int n t]) Q (fun _ _ => False) s
def HkP (c9 : HkT) : Prop := HkP0 c9.1 c9.2.1 c9.2.2.1 c9.2.2.2.1 c9.2.2.2.2.1 c9.2.2.2.2.2.1 c9.2.2.2.2.2.2.1 c9.2.2.2.2.2.2.2.1 c9.2.2.2.2.2.2.2.2.1 c9.2.2.2.2.2.2.2.2.2.1 c9.2.2.2.2.2.2.2.2.2.2.1 c9.2.2.2.2.2.2.2.2.2.2.2.1 c9.2.2.2.2.2.2.2.2.2.2.2.2.1 c9.2.2.2.2.2.2.2.2.2.2.2.2.2.1 c9.2.2.2.2.2.2.2.2.2.2.2.2.2.2.1 c9.2.2.2.2.2.2.2.2.2.2.2.2.2.2.2.1 c9.2.2.2.2.2.2.2.2.2.2.2.2.2.2.2.2.1 c9.2.2.2.2.2.2.2.2.2.2.2.2.2.2.2.2.2.1 c9.2.2.2.2.2.2.2.2.2.2.2.2.2.2.2.2.2.2.1 c9.2.2.2.2.2.2.2.2.2.2.2.2.2.2.2.2.2.2.2.1 c9.2.2.2.2.2.2.2.2.2.2.2.2.2.2.2.2.2.2.2.2.1 c9.2.2.2.2.2.2.2.2.2.2.2.2.2.2.2.2.2.2.2.2.2.1 c9.2.2.2.2.2.2.2.2.2.2.2.2.2.2.2.2.2.2.2.2.2.2.1 c9.2.2.2.2.2.2.2.2.2.2.2.2.2.2.2.2.2.2.2.2.2.2.2.1 c9.2.2.2.2.2.2.2.2.2.2.2.2.2.2.2.2.2.2.2.2.2.2.2.2.1 c9.2.2.2.2.2.2.2.2.2.2.2.2.2.2.2.2.2.2.2.2.2.2.2.2.2
noncomputable def HkD : HkT := ((default), (w00), (default), ([]), (fun _ => none), (fun _ => none), (fun _ => none), ([]), ((0 : Int)), ((0 : Nat)), ((0 : Nat)), ((0 : Nat)), (none), (Str.empty), (default), ((0 : Nat)), (Value.none), ([]), ([]), (callerA), (default), (default), ((0 : Nat)), (fun _ => none), ({}), (fun _ _ => True))
@[irreducible] noncomputable def HkC : HkT := hkEps HkD HkP
noncomputable def prog : Program := HkC.1
noncomputable def w : World := HkC.2.1
noncomputable def p : Program := HkC.2.2.1
noncomputable def loose : List Str := HkC.2.2.2.1
noncomputable def mean : ExcName → Option Value := HkC.2.2.2.2.1
noncomputable def mg : Str → Option Value := HkC.2.2.2.2.2.1
noncomputable def mb : Str → Option Value := HkC.2.2.2.2.2.2.1
noncomputable def news : List (Addr × Obj) := HkC.2.2.2.2.2.2.2.1
noncomputable def n : Int := HkC.2.2.2.2.2.2.2.2.1
noncomputable def t : Tok := HkC.2.2.2.2.2.2.2.2.2.1
noncomputable def dp : Nat := HkC.2.2.2.2.2.2.2.2.2.2.1
noncomputable def un : Nat := HkC.2.2.2.2.2.2.2.2.2.2.2.1
noncomputable def gd : Option (List Code) := HkC.2.2.2.2.2.2.2.2.2.2.2.2.1
noncomputable def cn : Str := HkC.2.2.2.2.2.2.2.2.2.2.2.2.2.1
noncomputable def cs : Scope := HkC.2.2.2.2.2.2.2.2.2.2.2.2.2.2.1
noncomputable def a : Addr := HkC.2.2.2.2.2.2.2.2.2.2.2.2.2.2.2.1
noncomputable def ccd : Value := HkC.2.2.2.2.2.2.2.2.2.2.2.2.2.2.2.2.1
noncomputable def cl : List (Str × Addr) := HkC.2.2.2.2.2.2.2.2.2.2.2.2.2.2.2.2.2.1
noncomputable def outer : List Env := HkC.2.2.2.2.2.2.2.2.2.2.2.2.2.2.2.2.2.2.1
noncomputable def A₀ : Around := HkC.2.2.2.2.2.2.2.2.2.2.2.2.2.2.2.2.2.2.2.1
noncomputable def base : Heap := HkC.2.2.2.2.2.2.2.2.2.2.2.2.2.2.2.2.2.2.2.2.1
noncomputable def h₀ : Heap := HkC.2.2.2.2.2.2.2.2.2.2.2.2.2.2.2.2.2.2.2.2.2.1
noncomputable def L : Addr := HkC.2.2.2.2.2.2.2.2.2.2.2.2.2.2.2.2.2.2.2.2.2.2.1
noncomputable def m : Str → Option Value := HkC.2.2.2.2.2.2.2.2.2.2.2.2.2.2.2.2.2.2.2.2.2.2.2.1
noncomputable def s : Shared := HkC.2.2.2.2.2.2.2.2.2.2.2.2.2.2.2.2.2.2.2.2.2.2.2.2.1
noncomputable def Q : Value → Shared → Prop := HkC.2.2.2.2.2.2.2.2.2.2.2.2.2.2.2.2.2.2.2.2.2.2.2.2.2
theorem HkAt : HkP0 prog w p loose mean mg mb news n t dp un gd cn cs a ccd cl outer A₀ base h₀ L m s Q := by
  unfold HkP0
  intro h0 h1 B F X N T hk hd hu hret
  have hz := fillK; revert hz; k_fill; intro _
  k_with_none
  w_top off
  k_with "*" => ((with_reducible show wpAny _ _ _ _ _ (Shared.mk _ _ _ (_ + _ + _) _)); refine st_norm (s0 := s) rfl rfl rfl fun _ => ?_)
  k_with "execs cons" => (k_here; first | ((rename News _ _ _ _ => N6); dsimp only at N6) | ((rename Fr _ _ _ _ => F6); dsimp only at F6))
  k_with "ItemsRest" => (k_extra "MyItems")
  have hS : MySub [] := trivial
  refine wpAny_call ?_
  w_top off
  k_dflt (refine' code_sub ?kS ?k1 ?k2 ?k3 ?k4 ?k4s ?k5 ?kA ?kF ?kK ?k6 ?k7 ?k8 ?k9 ?kB ?_ ?c2 ?c3 ?c4 ?c5; (case kS => assumption); (case kA => exact rfl); (case kF => exact rfl); (case kK => assumption); (case k1 => k_asm); (case k2 => k_asm); (case k3 => k_asm); (case k4 => k_asm); (case k4s => first | exact List.forall_mem_nil _ | assumption); (case k5 => k_asm); (case k6 => k_is); (case k7 => k_is); (case k8 => ktr_room); (case k9 => exact BindsTo.of_eq rfl); (case c5 => decide); (case kB => exact locs rfl); (case c2 => exact rfl); (case c3 => exact rfl); (case c4 => exact rfl); k_whole; intro g' L' h' tk' FG' F' N' B' X' T'; (try dsimp only); (try k_lift B'); (try k_fold))
  k_with "MyItems" =>
    k_dflt (
      rename (Frag.In _ _) => romX
      have romT := rom_tups romX
      k_dflt (refine' items_ind (fun x : Addr × Int × Str => Itm.val (.ref x.1)) (RomJ n) ?step ?done romL _ _ ?init; (case init => exact romJ_init h0 rfl rfl))
      case' step =>
        intro x rr m1 n1 v hh tk1 hJ hi F1
        unfold RomJ at hJ
        obtain ⟨rfl, hsub, k, kt, f, ft, hn, hf, k0, k1, k2, k3⟩ := hJ
        obtain ⟨x1, wo, si⟩ := x
        obtain ⟨⟨t1, t2, hT⟩, hw, hl⟩ := romT _ (hsub _ (.head _))
        have hi' : v = .ref x1 := hi
        subst hi'
        have F2 := fr_norm (ps := [(Str.ofString "number", .int k kt), (Str.ofString "found", .str f ft)]) (by simp only [List.forall_mem_cons, List.not_mem_nil, false_implies, implies_true, and_true]; exact ⟨hn, hf⟩) F1
        clear F1 hi hn hf
        dsimp only [kstB] at F2
        dsimp only at hT hw hl
        refine AllObj.cons fun oi hoi => AllObj.nil fun N1 => ?_
        simp only [List.cons_append, List.nil_append] at N1
      case' done =>
        intro m1 n1 hh tk1 hJ F1 N1
        unfold RomJ at hJ
        obtain ⟨rfl, hsub, k, kt, f, ft, hn, hf, k0, k1, k2, k3⟩ := hJ
        have F2 := fr_norm (ps := [(Str.ofString "number", .int k kt), (Str.ofString "found", .str f ft)]) (by simp only [List.forall_mem_cons, List.not_mem_nil, false_implies, implies_true, and_true]; exact ⟨hn, hf⟩) F1
        clear F1 hn hf
        dsimp only [kstB] at F2)
  k_with "exec While Compare cons nil" => k_while_given ["worth", "signs"] (fun wo si script k f => 0 ≤ k ∧ k ≤ n ∧ (f.length : Int) + 2 * k ≤ 2 * n ∧ ∀ r, RomG ((wo, si) :: rr.map (·.2)) k f r → RomG ROM n (Str.ofString "") r) (fun wo si script k f => k.toNat) "number" "found"
  k_with "state" => first | exact rom_step (by assumption) (by assumption) (by assumption) (by assumption) (by assumption) (by assumption) | exact rom_in (by assumption) (by assumption) (by assumption) (by assumption)
  k_with "measure" => exact rom_meas (by assumption) (by assumption)
  k_steps
  · exact hret _ _ (k3 _ .nil) (by omega) _ _ (by assumption) (Kept.pure (by assumption) N)
  · exact rom_next hsub rfl rfl (by assumption) (by assumption) (by assumption) (by assumption) (by assumption)
theorem HkEq : HkC = hkEps HkD HkP := by unfold HkC; rfl
end Hkromandoes
theorem roman_does {prog : Program} {w : World} {p : Program} {loose : List Str} {mean : ExcName → Option Value} {mg mb : Str → Option Value} (news : List (Addr × Obj)) (n : Int) (t : Tok) (h0 : 0 < n) (h1 : n < 5000) :
    Does prog w (Mine.kk.heap_1 w.params) p loose mean mg mb (.ref 35) [.int n t] news 1 fun K => ∀ r t, RomG ROM n (Str.ofString "") r → (r.length : Int) ≤ 2 * n → K (.str r t) news :=
  fun dp un gd cn cs a ccd cl outer A₀ base h₀ L m s Q => hkAll (P := Hkromandoes.HkP) Hkromandoes.HkEq Hkromandoes.HkAt (prog, w, p, loose, mean, mg, mb, news, n, t, dp, un, gd, cn, cs, a, ccd, cl, outer, A₀, base, h₀, L, m, s, Q) h0 h1
section
variable {prog : Program} {w : World} {p : Program} {loose : List Str} {mean : ExcName → Option Value} {mg mb : Str → Option Value}
end
end Mine
end
section
set_option linter.unusedVariables false
open PySem PySem.W PyProof.Rows PySem.Calls
set_option maxRecDepth 100000
set_option maxHeartbeats 1000000
namespace Mine
/-- decimal's loop: what is told yet, what is found -/
inductive DecR (se : Str) (sz : Int) : Str → Str → Str → Prop
  | done {a f : Str} : (a.length : Int) ≤ sz → DecR se sz a f (a ++ f)
  | step {a f r : Str} : sz < a.length → DecR se sz (Txt.slice a none (some (a.length - sz))) (se ++ Txt.slice a (some (a.length - sz)) none ++ f) r → DecR se sz a f r
/-- the figures with their noughts -/
def told0 (n le : Int) : Str := Txt.mul (Str.ofString "0") (le - (Str.ofString (toString n)).length) ++ Str.ofString (toString n)
def DecD (n le : Int) (se : Str) (sz : Int) (r : Str) : Prop := ((se == Str.ofString "") = true ∨ sz < 1) ∧ r = told0 n le ∨ (se == Str.ofString "") = false ∧ 1 ≤ sz ∧ DecR se sz (told0 n le) (Str.ofString "") r
theorem dec_start {n le sz : Int} {se : Str} (h : (told0 n le).length ≤ 10) : ((Str.ofString "").length : Int) + 3 * ((told0 n le).length : Int) ≤ 30 ∧ ((told0 n le).length : Int) ≤ 10 ∧ ∀ r, DecR se sz (told0 n le) (Str.ofString "") r → DecR se sz (told0 n le) (Str.ofString "") r :=
  ⟨by show (0 : Int) + 3 * ((told0 n le).length : Int) ≤ 30; omega, by omega, fun _ h => h⟩
theorem dec_step {sz : Int} {se a f a₀ f₀ : Str} (hs : 1 ≤ sz) (hse : se.length ≤ 2) (h1 : sz < a.length) (h2 : (f.length : Int) + 3 * (a.length : Int) ≤ 30) (h3 : (a.length : Int) ≤ 10) (h4 : ∀ r, DecR se sz a f r → DecR se sz a₀ f₀ r) :
    ((se ++ Txt.slice a (some (a.length - sz)) none ++ f : Str).length : Int) + 3 * ((Txt.slice a none (some (a.length - sz))).length : Int) ≤ 30 ∧ ((Txt.slice a none (some (a.length - sz))).length : Int) ≤ 10 ∧
      ∀ r, DecR se sz (Txt.slice a none (some (a.length - sz))) (se ++ Txt.slice a (some (a.length - sz)) none ++ f) r → DecR se sz a₀ f₀ r := by
  have e1 := (fact_slice_ns a (a.length - sz)).1 (by omega) (by omega)
  have e2 := (fact_slice_sn a (a.length - sz)).1 (by omega) (by omega)
  have e3 : ((se ++ Txt.slice a (some (a.length - sz)) none ++ f : Str).length : Int) = se.length + (Txt.slice a (some (a.length - sz)) none).length + f.length := by rw [Str.length_append, Str.length_append]; omega
  exact ⟨by omega, by omega, fun r hr => h4 r (.step h1 hr)⟩
theorem dec_meas {sz : Int} {a : Str} (hs : 1 ≤ sz) (h1 : sz < a.length) : (Txt.slice a none (some (a.length - sz))).length < a.length := by
  have e1 := (fact_slice_ns a (a.length - sz)).1 (by omega) (by omega)
  omega
theorem dec_len {n le : Int} (h : (Str.ofString (toString n)).length ≤ 10) (h3 : le ≤ 3) (hz : le - (Str.ofString (toString n)).length < 0 → (Txt.mul (Str.ofString "0") (le - (Str.ofString (toString n)).length)).length = 0)
    (hn : 0 ≤ le - ((Str.ofString (toString n)).length : Int) → ((Txt.mul (Str.ofString "0") (le - (Str.ofString (toString n)).length)).length : Int) = ((1 : Nat) : Int) * (le - (Str.ofString (toString n)).length)) : (told0 n le).length ≤ 10 := by
  unfold told0
  rw [Str.length_append]
  rcases Int.lt_or_le (le - (Str.ofString (toString n)).length) 0 with q | q
  · have := hz q; omega
  · have := hn q; omega
theorem dec_end {n le sz : Int} {se a f : Str} (h0 : (se == Str.ofString "") = false) (h1 : ¬ sz < 1) (h2 : ¬ sz < a.length) (h4 : ∀ r, DecR se sz a f r → DecR se sz (told0 n le) (Str.ofString "") r) : DecD n le se sz (a ++ f) :=
  .inr ⟨h0, by omega, h4 _ (.done (by omega))⟩
section
variable {prog : Program} {w : World} {p : Program} {loose : List Str} {mean : ExcName → Option Value} {mg mb : Str → Option Value}
end
namespace Hkdecimaldoes
abbrev HkT : Type := (Program) × (World) × (Program) × (List Str) × (ExcName → Option Value) × (Str → Option Value) × (Str → Option Value) × (List (Addr × Obj)) × (Int) × (Int) × (Int) × (Str) × (Tok) × (Tok) × (Tok) × (Tok) × (Nat) × (Nat) × (Option (List Code)) × (Str) × (Scope) × (Addr) × (Value) × (List (Str × Addr)) × (List Env) × (Around) × (Heap) × (Heap) × (Addr) × (Str → Option Value) × (Shared) × (Value → Shared → Prop)
def HkP0 (prog : Program) (w : World) (p : Program) (loose : List Str) (mean : ExcName → Option Value) (mg : Str → Option Value) (mb : Str → Option Value) (news : List (Addr × Obj)) (n : Int) (le : Int) (sz : Int) (se : Str) (t : Tok) (t1 : Tok) (t2 : Tok) (t3 : Tok) (dp : Nat) (un : Nat) (gd : Option (List Code)) (cn : Str) (cs : Scope) (a : Addr) (ccd : Value) (cl : List (Str × Addr)) (outer : List Env) (A₀ : Around) (base : Heap) (h₀ : Heap) (L : Addr) (m : Str → Option Value) (s : Shared) (Q : Value → Shared → Prop) : Prop := ∀ (h0 : 0 ≤ n) (h1 : n < 20000) (h2 : 1 ≤ le) (h3 : le ≤ 3) (h4 : 0 ≤ sz) (h5 : sz ≤ 3) (h6 : se.length ≤ 2) (B : Below A₀ base outer h₀) (F : Fr h₀ L s.heap m) (X : (Mine.kk.heap_1 w.params).In h₀) (N : News h₀ L s.heap news) (T : Top p loose mean mg mb h₀) (hk : cs.kind = .function) (hd : dp + 1 < recursionLimit) (hu : un + 8 * 1 < cLine) (hret : (fun (K : Value → List (Addr × Obj) → Prop) => ∀ r t, DecD n le se sz r → r.length ≤ 30 → K (.str r t) news) fun v news' => ∀ h' tk', Fr h₀ L h' m → News h₀ L h' news' → Q v { s with heap := h', toks := tk' }), wpAny (model prog w) (ktrTop dp un gd cn cs L a ccd cl outer) (call (.ref 49) [.int n t, .int le t1, .str se t2, .int sz t3]) Q (fun _ _ => False) s
def HkP (c9 : HkT) : Prop := HkP0 c9.1 c9.2.1 c9.2.2.1 c9.2.2.2.1 c9.2.2.2.2.1 c9.2.2.2.2.2.1 c9.2.2.2.2.2.2.1 c9.2.2.2.2.2.2.2.1 c9.2.2.2.2.2.2.2.2.1 c9.2.2.2.2.2.2.2.2.2.1 c9.2.2.2.2.2.2.2.2.2.2.1 c9.2.2.2.2.2.2.2.2.2.2.2.1 c9.2.2.2.2.2.2.2.2.2.2.2.2.1 c9.2.2.2.2.2.2.2.2.2.2.2.2.2.1 c9.2.2.2.2.2.2.2.2.2.2.2.2.2.2.1 c9.2.2.2.2.2.2.2.2.2.2.2.2.2.2.2.1 c9.2.2.2.2.2.2.2.2.2.2.2.2.2.2.2.2.1 c9.2.2.2.2.2.2.2.2.2.2.2.2.2.2.2.2.2.1 c9.2.2.2.2.2.2.2.2.2.2.2.2.2.2.2.2.2.2.1 c9.2.2.2.2.2.2.2.2.2.2.2.2.2.2.2.2.2.2.2.1 c9.2.2.2.2.2.2.2.2.2.2.2.2.2.2.2.2.2.2.2.2.1 c9.2.2.2.2.2.2.2.2.2.2.2.2.2.2.2.2.2.2.2.2.2.1 c9.2.2.2.2.2.2.2.2.2.2.2.2.2.2.2.2.2.2.2.2.2.2.1 c9.2.2.2.2.2.2.2.2.2.2.2.2.2.2.2.2.2.2.2.2.2.2.2.1 c9.2.2.2.2.2.2.2.2.2.2.2.2.2.2.2.2.2.2.2.2.2.2.2.2.1 c9.2.2.2.2.2.2.2.2.2.2.2.2.2.2.2.2.2.2.2.2.2.2.2.2.2.1 c9.2.2.2.2.2.2.2.2.2.2.2.2.2.2.2.2.2.2.2.2.2.2.2.2.2.2.1 c9.2.2.2.2.2.2.2.2.2.2.2.2.2.2.2.2.2.2.2.2.2.2.2.2.2.2.2.1 c9.2.2.2.2.2.2.2.2.2.2.2.2.2.2.2.2.2.2.2.2.2.2.2.2.2.2.2.2.1 c9.2.2.2.2.2.2.2.2.2.2.2.2.2.2.2.2.2.2.2.2.2.2.2.2.2.2.2.2.2.1 c9.2.2.2.2.2.2.2.2.2.2.2.2.2.2.2.2.2.2.2.2.2.2.2.2.2.2.2.2.2.2.1 c9.2.2.2.2.2.2.2.2.2.2.2.2.2.2.2.2.2.2.2.2.2.2.2.2.2.2.2.2.2.2.2
noncomputable def HkD : HkT := ((default), (w00), (default), ([]), (fun _ => none), (fun _ => none), (fun _ => none), ([]), ((0 : Int)), ((0 : Int)), ((0 : Int)), (Str.empty), ((0 : Nat)), ((0 : Nat)), ((0 : Nat)), ((0 : Nat)), ((0 : Nat)), ((0 : Nat)), (none), (Str.empty), (default), ((0 : Nat)), (Value.none), ([]), ([]), (callerA), (default), (default), ((0 : Nat)), (fun _ => none), ({}), (fun _ _ => True))
@[irreducible] noncomputable def HkC : HkT := hkEps HkD HkP
noncomputable def prog : Program := HkC.1
noncomputable def w : World := HkC.2.1
noncomputable def p : Program := HkC.2.2.1
noncomputable def loose : List Str := HkC.2.2.2.1
noncomputable def mean : ExcName → Option Value := HkC.2.2.2.2.1
noncomputable def mg : Str → Option Value := HkC.2.2.2.2.2.1
noncomputable def mb : Str → Option Value := HkC.2.2.2.2.2.2.1
noncomputable def news : List (Addr × Obj) := HkC.2.2.2.2.2.2.2.1
noncomputable def n : Int := HkC.2.2.2.2.2.2.2.2.1
noncomputable def le : Int := HkC.2.2.2.2.2.2.2.2.2.1
noncomputable def sz : Int := HkC.2.2.2.2.2.2.2.2.2.2.1
noncomputable def se : Str := HkC.2.2.2.2.2.2.2.2.2.2.2.1
noncomputable def t : Tok := HkC.2.2.2.2.2.2.2.2.2.2.2.2.1
noncomputable def t1 : Tok := HkC.2.2.2.2.2.2.2.2.2.2.2.2.2.1
noncomputable def t2 : Tok := HkC.2.2.2.2.2.2.2.2.2.2.2.2.2.2.1
noncomputable def t3 : Tok := HkC.2.2.2.2.2.2.2.2.2.2.2.2.2.2.2.1
noncomputable def dp : Nat := HkC.2.2.2.2.2.2.2.2.2.2.2.2.2.2.2.2.1
noncomputable def un : Nat := HkC.2.2.2.2.2.2.2.2.2.2.2.2.2.2.2.2.2.1
noncomputable def gd : Option (List Code) := HkC.2.2.2.2.2.2.2.2.2.2.2.2.2.2.2.2.2.2.1
noncomputable def cn : Str := HkC.2.2.2.2.2.2.2.2.2.2.2.2.2.2.2.2.2.2.2.1
noncomputable def cs : Scope := HkC.2.2.2.2.2.2.2.2.2.2.2.2.2.2.2.2.2.2.2.2.1
noncomputable def a : Addr := HkC.2.2.2.2.2.2.2.2.2.2.2.2.2.2.2.2.2.2.2.2.2.1
noncomputable def ccd : Value := HkC.2.2.2.2.2.2.2.2.2.2.2.2.2.2.2.2.2.2.2.2.2.2.1
noncomputable def cl : List (Str × Addr) := HkC.2.2.2.2.2.2.2.2.2.2.2.2.2.2.2.2.2.2.2.2.2.2.2.1
noncomputable def outer : List Env := HkC.2.2.2.2.2.2.2.2.2.2.2.2.2.2.2.2.2.2.2.2.2.2.2.2.1
noncomputable def A₀ : Around := HkC.2.2.2.2.2.2.2.2.2.2.2.2.2.2.2.2.2.2.2.2.2.2.2.2.2.1
noncomputable def base : Heap := HkC.2.2.2.2.2.2.2.2.2.2.2.2.2.2.2.2.2.2.2.2.2.2.2.2.2.2.1
noncomputable def h₀ : Heap := HkC.2.2.2.2.2.2.2.2.2.2.2.2.2.2.2.2.2.2.2.2.2.2.2.2.2.2.2.1
noncomputable def L : Addr := HkC.2.2.2.2.2.2.2.2.2.2.2.2.2.2.2.2.2.2.2.2.2.2.2.2.2.2.2.2.1
noncomputable def m : Str → Option Value := HkC.2.2.2.2.2.2.2.2.2.2.2.2.2.2.2.2.2.2.2.2.2.2.2.2.2.2.2.2.2.1
noncomputable def s : Shared := HkC.2.2.2.2.2.2.2.2.2.2.2.2.2.2.2.2.2.2.2.2.2.2.2.2.2.2.2.2.2.2.1
noncomputable def Q : Value → Shared → Prop := HkC.2.2.2.2.2.2.2.2.2.2.2.2.2.2.2.2.2.2.2.2.2.2.2.2.2.2.2.2.2.2.2
theorem HkAt : HkP0 prog w p loose mean mg mb news n le sz se t t1 t2 t3 dp un gd cn cs a ccd cl outer A₀ base h₀ L m s Q := by
  unfold HkP0
  intro h0 h1 h2 h3 h4 h5 h6 B F X N T hk hd hu hret
  have hz := fillK; revert hz; k_fill; intro _
  k_with_none
  w_top off
  k_with "*" => first | ((with_reducible show wpAny _ _ _ _ _ (Shared.mk _ _ _ (_ + _ + _) _)); refine st_norm (s0 := s) rfl rfl rfl fun _ => ?_) | ((with_reducible show wpAny _ _ (eval _ _) _ _ _); k_fold)
  k_with "execs cons" => (k_here; first | ((rename News _ _ _ _ => N6); dsimp only at N6) | ((rename Fr _ _ _ _ => F6); dsimp only at F6))
  have hS : MySub [] := trivial
  refine wpAny_call ?_
  w_top off
  k_dflt (refine' code_sub ?kS ?k1 ?k2 ?k3 ?k4 ?k4s ?k5 ?kA ?kF ?kK ?k6 ?k7 ?k8 ?k9 ?kB ?_ ?c2 ?c3 ?c4 ?c5; (case kS => assumption); (case kA => exact rfl); (case kF => exact rfl); (case kK => assumption); (case k1 => k_asm); (case k2 => k_asm); (case k3 => k_asm); (case k4 => k_asm); (case k4s => first | exact List.forall_mem_nil _ | assumption); (case k5 => k_asm); (case k6 => k_is); (case k7 => k_is); (case k8 => ktr_room); (case k9 => exact BindsTo.of_eq rfl); (case c5 => decide); (case kB => exact locs rfl); (case c2 => exact rfl); (case c3 => exact rfl); (case c4 => exact rfl); k_whole; intro g' L' h' tk' FG' F' N' B' X' T'; (try dsimp only); (try k_lift B'); (try k_fold))
  k_with "exec While Compare cons nil" => k_while (fun script a f => (f.length : Int) + 3 * a.length ≤ 30 ∧ (a.length : Int) ≤ 10 ∧ ∀ r, DecR se sz a f r → DecR se sz (told0 n le) (Str.ofString "") r) (fun script a f => a.length) "told" "found"
  k_with "state" => k_dflt (first | exact dec_start (dec_len (by assumption) h3 (by assumption) (by assumption)) | exact dec_step (by omega) h6 (by assumption) (by assumption) (by assumption) (by assumption))
  k_with "measure" => k_dflt (exact dec_meas (by omega) (by assumption))
  k_steps
  · exact hret _ _ (.inl ⟨.inl (by assumption), rfl⟩) (Nat.le_trans (dec_len (by assumption) h3 (by assumption) (by assumption)) (by decide)) _ _ (by assumption) (Kept.pure (by assumption) N)
  · exact hret _ _ (.inl ⟨.inr (by assumption), rfl⟩) (Nat.le_trans (dec_len (by assumption) h3 (by assumption) (by assumption)) (by decide)) _ _ (by assumption) (Kept.pure (by assumption) N)
  · exact hret _ _ (dec_end (by assumption) (by assumption) (by assumption) (by assumption)) (by omega) _ _ (by assumption) (Kept.pure (by assumption) N)
theorem HkEq : HkC = hkEps HkD HkP := by unfold HkC; rfl
end Hkdecimaldoes
theorem decimal_does {prog : Program} {w : World} {p : Program} {loose : List Str} {mean : ExcName → Option Value} {mg mb : Str → Option Value} (news : List (Addr × Obj)) (n le sz : Int) (se : Str) (t t1 t2 t3 : Tok) (h0 : 0 ≤ n) (h1 : n < 20000) (h2 : 1 ≤ le) (h3 : le ≤ 3) (h4 : 0 ≤ sz) (h5 : sz ≤ 3) (h6 : se.length ≤ 2) :
    Does prog w (Mine.kk.heap_1 w.params) p loose mean mg mb (.ref 49) [.int n t, .int le t1, .str se t2, .int sz t3] news 1 fun K => ∀ r t, DecD n le se sz r → r.length ≤ 30 → K (.str r t) news :=
  fun dp un gd cn cs a ccd cl outer A₀ base h₀ L m s Q => hkAll (P := Hkdecimaldoes.HkP) Hkdecimaldoes.HkEq Hkdecimaldoes.HkAt (prog, w, p, loose, mean, mg, mb, news, n, le, sz, se, t, t1, t2, t3, dp, un, gd, cn, cs, a, ccd, cl, outer, A₀, base, h₀, L, m, s, Q) h0 h1 h2 h3 h4 h5 h6
section
variable {prog : Program} {w : World} {p : Program} {loose : List Str} {mean : ExcName → Option Value} {mg mb : Str → Option Value}
end
end Mine
end
section
set_option linter.unusedVariables false
open PySem PySem.W PyProof.Rows PySem.Calls
set_option maxRecDepth 100000
set_option maxHeartbeats 2000000
namespace Mine
def abc : Str := Str.ofString "abcdefghijklmnopqrstuvwxyz"
/-- what the law's letters give back -/
inductive LLD (n : Int) : Str → Prop
  | one : n ≤ 26 → LLD n (Txt.item abc ((n - 0 - 1).fmod 26) ++ Str.ofString "")
  | two : 26 < n → n ≤ 702 → LLD n (Txt.item abc (((n - 26 - 1).fdiv 26).fmod 26) ++ (Txt.item abc ((n - 26 - 1).fmod 26) ++ Str.ofString ""))
  | three : 702 < n → LLD n (Txt.item abc ((((n - 702 - 1).fdiv 26).fdiv 26).fmod 26) ++ (Txt.item abc (((n - 702 - 1).fdiv 26).fmod 26) ++ (Txt.item abc ((n - 702 - 1).fmod 26) ++ Str.ofString "")))
theorem ll1 {n : Int} (h : ¬ (0 : Int) + 26 ^ Int.toNat 1 < n) : n ≤ 26 := by
  have e : (26 : Int) ^ Int.toNat 1 = 26 := rfl
  omega
theorem ll2 {n : Int} (h : ¬ (26 : Int) + 26 ^ Int.toNat 2 < n) : n ≤ 702 := by
  have e : (26 : Int) ^ Int.toNat 2 = 676 := rfl
  omega
theorem ll3 {n : Int} (h : (702 : Int) + 26 ^ Int.toNat 3 < n) (h1 : n < 18000) : False := by
  have e : (26 : Int) ^ Int.toNat 3 = 17576 := rfl
  omega
theorem item_len (x : Str) (i : Int) : (Txt.item x i).length ≤ 1 := by
  exact Nat.le_refl 1
theorem LLD.len {n : Int} {r : Str} (h : LLD n r) : r.length ≤ 3 := by
  have e : (Str.ofString "").length = 0 := rfl
  cases h <;> (simp only [Str.length_append, e]) 
  · have := item_len abc ((n - 0 - 1).fmod 26); omega
  · have := item_len abc ((n - 26 - 1).fmod 26); have := item_len abc (((n - 26 - 1).fdiv 26).fmod 26); omega
  · have := item_len abc ((n - 702 - 1).fmod 26); have := item_len abc (((n - 702 - 1).fdiv 26).fmod 26); have := item_len abc ((((n - 702 - 1).fdiv 26).fdiv 26).fmod 26); omega
section
variable {prog : Program} {w : World} {p : Program} {loose : List Str} {mean : ExcName → Option Value} {mg mb : Str → Option Value}
end
namespace HklawLettersdoes
abbrev HkT : Type := (Program) × (World) × (Program) × (List Str) × (ExcName → Option Value) × (Str → Option Value) × (Str → Option Value) × (List (Addr × Obj)) × (Int) × (Tok) × (Nat) × (Nat) × (Option (List Code)) × (Str) × (Scope) × (Addr) × (Value) × (List (Str × Addr)) × (List Env) × (Around) × (Heap) × (Heap) × (Addr) × (Str → Option Value) × (Shared) × (Value → Shared → Prop)
def HkP0 (prog : Program) (w : World) (p : Program) (loose : List Str) (mean : ExcName → Option Value) (mg : Str → Option Value) (mb : Str → Option Value) (news : List (Addr × Obj)) (n : Int) (t : Tok) (dp : Nat) (un : Nat) (gd : Option (List Code)) (cn : Str) (cs : Scope) (a : Addr) (ccd : Value) (cl : List (Str × Addr)) (outer : List Env) (A₀ : Around) (base : Heap) (h₀ : Heap) (L : Addr) (m : Str → Option Value) (s : Shared) (Q : Value → Shared → Prop) : Prop := ∀ (h0 : 0 < n) (h1 : n < 18000) (B : Below A₀ base outer h₀) (F : Fr h₀ L s.heap m) (X : (Mine.kk.heap_1 w.params).In h₀) (N : News h₀ L s.heap news) (T : Top p loose mean mg mb h₀) (hk : cs.kind = .function) (hd : dp + 1 < recursionLimit) (hu : un + 8 * 1 < cLine) (hret : (fun (K : Value → List (Addr × Obj) → Prop) => ∀ r t, LLD n r → r.length ≤ 3 → K (.str r t) news) fun v news' => ∀ h' tk', Fr h₀ L h' m → News h₀ L h' news' → Q v { s with heap := h', toks := tk' }), wpAny (model prog w) (ktrTop dp un gd cn cs L a ccd cl outer) (call (.ref 132) [.int n t]) Q (fun _ _ => False) s
def HkP (c9 : HkT) : Prop := HkP0 c9.1 c9.2.1 c9.2.2.1 c9.2.2.2.1 c9.2.2.2.2.1 c9.2.2.2.2.2.1 c9.2.2.2.2.2.2.1 c9.2.2.2.2.2.2.2.1 c9.2.2.2.2.2.2.2.2.1 c9.2.2.2.2.2.2.2.2.2.1 c9.2.2.2.2.2.2.2.2.2.2.1 c9.2.2.2.2.2.2.2.2.2.2.2.1 c9.2.2.2.2.2.2.2.2.2.2.2.2.1 c9.2.2.2.2.2.2.2.2.2.2.2.2.2.1 c9.2.2.2.2.2.2.2.2.2.2.2.2.2.2.1 c9.2.2.2.2.2.2.2.2.2.2.2.2.2.2.2.1 c9.2.2.2.2.2.2.2.2.2.2.2.2.2.2.2.2.1 c9.2.2.2.2.2.2.2.2.2.2.2.2.2.2.2.2.2.1 c9.2.2.2.2.2.2.2.2.2.2.2.2.2.2.2.2.2.2.1 c9.2.2.2.2.2.2.2.2.2.2.2.2.2.2.2.2.2.2.2.1 c9.2.2.2.2.2.2.2.2.2.2.2.2.2.2.2.2.2.2.2.2.1 c9.2.2.2.2.2.2.2.2.2.2.2.2.2.2.2.2.2.2.2.2.2.1 c9.2.2.2.2.2.2.2.2.2.2.2.2.2.2.2.2.2.2.2.2.2.2.1 c9.2.2.2.2.2.2.2.2.2.2.2.2.2.2.2.2.2.2.2.2.2.2.2.1 c9.2.2.2.2.2.2.2.2.2.2.2.2.2.2.2.2.2.2.2.2.2.2.2.2.1 c9.2.2.2.2.2.2.2.2.2.2.2.2.2.2.2.2.2.2.2.2.2.2.2.2.2
noncomputable def HkD : HkT := ((default), (w00), (default), ([]), (fun _ => none), (fun _ => none), (fun _ => none), ([]), ((0 : Int)), ((0 : Nat)), ((0 : Nat)), ((0 : Nat)), (none), (Str.empty), (default), ((0 : Nat)), (Value.none), ([]), ([]), (callerA), (default), (default), ((0 : Nat)), (fun _ => none), ({}), (fun _ _ => True))
@[irreducible] noncomputable def HkC : HkT := hkEps HkD HkP
noncomputable def prog : Program := HkC.1
noncomputable def w : World := HkC.2.1
noncomputable def p : Program := HkC.2.2.1
noncomputable def loose : List Str := HkC.2.2.2.1
noncomputable def mean : ExcName → Option Value := HkC.2.2.2.2.1
noncomputable def mg : Str → Option Value := HkC.2.2.2.2.2.1
noncomputable def mb : Str → Option Value := HkC.2.2.2.2.2.2.1
noncomputable def news : List (Addr × Obj) := HkC.2.2.2.2.2.2.2.1
noncomputable def n : Int := HkC.2.2.2.2.2.2.2.2.1
noncomputable def t : Tok := HkC.2.2.2.2.2.2.2.2.2.1
noncomputable def dp : Nat := HkC.2.2.2.2.2.2.2.2.2.2.1
noncomputable def un : Nat := HkC.2.2.2.2.2.2.2.2.2.2.2.1
noncomputable def gd : Option (List Code) := HkC.2.2.2.2.2.2.2.2.2.2.2.2.1
noncomputable def cn : Str := HkC.2.2.2.2.2.2.2.2.2.2.2.2.2.1
noncomputable def cs : Scope := HkC.2.2.2.2.2.2.2.2.2.2.2.2.2.2.1
noncomputable def a : Addr := HkC.2.2.2.2.2.2.2.2.2.2.2.2.2.2.2.1
noncomputable def ccd : Value := HkC.2.2.2.2.2.2.2.2.2.2.2.2.2.2.2.2.1
noncomputable def cl : List (Str × Addr) := HkC.2.2.2.2.2.2.2.2.2.2.2.2.2.2.2.2.2.1
noncomputable def outer : List Env := HkC.2.2.2.2.2.2.2.2.2.2.2.2.2.2.2.2.2.2.1
noncomputable def A₀ : Around := HkC.2.2.2.2.2.2.2.2.2.2.2.2.2.2.2.2.2.2.2.1
noncomputable def base : Heap := HkC.2.2.2.2.2.2.2.2.2.2.2.2.2.2.2.2.2.2.2.2.1
noncomputable def h₀ : Heap := HkC.2.2.2.2.2.2.2.2.2.2.2.2.2.2.2.2.2.2.2.2.2.1
noncomputable def L : Addr := HkC.2.2.2.2.2.2.2.2.2.2.2.2.2.2.2.2.2.2.2.2.2.2.1
noncomputable def m : Str → Option Value := HkC.2.2.2.2.2.2.2.2.2.2.2.2.2.2.2.2.2.2.2.2.2.2.2.1
noncomputable def s : Shared := HkC.2.2.2.2.2.2.2.2.2.2.2.2.2.2.2.2.2.2.2.2.2.2.2.2.1
noncomputable def Q : Value → Shared → Prop := HkC.2.2.2.2.2.2.2.2.2.2.2.2.2.2.2.2.2.2.2.2.2.2.2.2.2
theorem HkAt : HkP0 prog w p loose mean mg mb news n t dp un gd cn cs a ccd cl outer A₀ base h₀ L m s Q := by
  unfold HkP0
  intro h0 h1 B F X N T hk hd hu hret
  have hz := fillK; revert hz; k_fill; intro _
  k_with_none
  w_top off
  k_with "*" => first | ((with_reducible show wpAny _ _ _ _ _ (Shared.mk _ _ _ (_ + _ + _) _)); refine st_norm (s0 := s) rfl rfl rfl fun _ => ?_) | ((with_reducible show wpAny _ _ (eval _ _) _ _ _); k_fold)
  k_with "execs cons" => (k_here; first | ((rename News _ _ _ _ => N6); dsimp only at N6) | ((rename Fr _ _ _ _ => F6); dsimp only at F6))
  have hS : MySub [] := trivial
  refine wpAny_call ?_
  w_top off
  k_dflt (refine' code_sub ?kS ?k1 ?k2 ?k3 ?k4 ?k4s ?k5 ?kA ?kF ?kK ?k6 ?k7 ?k8 ?k9 ?kB ?_ ?c2 ?c3 ?c4 ?c5; (case kS => assumption); (case kA => exact rfl); (case kF => exact rfl); (case kK => assumption); (case k1 => k_asm); (case k2 => k_asm); (case k3 => k_asm); (case k4 => k_asm); (case k4s => first | exact List.forall_mem_nil _ | assumption); (case k5 => k_asm); (case k6 => k_is); (case k7 => k_is); (case k8 => ktr_room); (case k9 => exact BindsTo.of_eq rfl); (case c5 => decide); (case kB => exact locs rfl); (case c2 => exact rfl); (case c3 => exact rfl); (case c4 => exact rfl); k_whole; intro g' L' h' tk' FG' F' N' B' X' T'; (try dsimp only); (try k_lift B'); (try k_fold))
  k_with "exec While Compare cons nil" =>
    k_while (fun script si ah => (si = 1 ∧ ah = 0) ∨ (si = 2 ∧ ah = 26 ∧ 26 < n) ∨ (si = 3 ∧ ah = 702 ∧ 702 < n)) (fun script si ah => (3 - si).toNat) "size" "ahead"
    (rcases kInv with ⟨e1, e2⟩ | ⟨e1, e2, e3⟩ | ⟨e1, e2, e3⟩ <;> subst e1 <;> subst e2)
  k_steps
  · exact hret _ _ (.one (ll1 (by assumption))) (LLD.len (.one (ll1 (by assumption)))) _ _ (by assumption) (Kept.pure (by assumption) N)
  · exact hret _ _ (.two (by assumption) (ll2 (by assumption))) (LLD.len (.two (by assumption) (ll2 (by assumption)))) _ _ (by assumption) (Kept.pure (by assumption) N)
  · exact (ll3 (by assumption) h1).elim
  · exact hret _ _ (.three (by assumption)) (LLD.len (.three (by assumption))) _ _ (by assumption) (Kept.pure (by assumption) N)
theorem HkEq : HkC = hkEps HkD HkP := by unfold HkC; rfl
end HklawLettersdoes
theorem lawLetters_does {prog : Program} {w : World} {p : Program} {loose : List Str} {mean : ExcName → Option Value} {mg mb : Str → Option Value} (news : List (Addr × Obj)) (n : Int) (t : Tok) (h0 : 0 < n) (h1 : n < 18000) :
    Does prog w (Mine.kk.heap_1 w.params) p loose mean mg mb (.ref 132) [.int n t] news 1 fun K => ∀ r t, LLD n r → r.length ≤ 3 → K (.str r t) news :=
  fun dp un gd cn cs a ccd cl outer A₀ base h₀ L m s Q => hkAll (P := HklawLettersdoes.HkP) HklawLettersdoes.HkEq HklawLettersdoes.HkAt (prog, w, p, loose, mean, mg, mb, news, n, t, dp, un, gd, cn, cs, a, ccd, cl, outer, A₀, base, h₀, L, m, s, Q) h0 h1
section
variable {prog : Program} {w : World} {p : Program} {loose : List Str} {mean : ExcName → Option Value} {mg mb : Str → Option Value}
end
end Mine
end
section
set_option linter.unusedVariables false
open PySem PySem.W PyProof.Rows PySem.Calls
set_option maxRecDepth 100000
set_option maxHeartbeats 4000000
namespace Mine
def romC : List Str := [Str.ofString "", Str.ofString "c", Str.ofString "cc", Str.ofString "ccc", Str.ofString "cd", Str.ofString "d", Str.ofString "dc", Str.ofString "dcc", Str.ofString "dccc", Str.ofString "cm"]
def romX : List Str := [Str.ofString "", Str.ofString "x", Str.ofString "xx", Str.ofString "xxx", Str.ofString "xl", Str.ofString "l", Str.ofString "lx", Str.ofString "lxx", Str.ofString "lxxx", Str.ofString "xc"]
def romI : List Str := [Str.ofString "", Str.ofString "i", Str.ofString "ii", Str.ofString "iii", Str.ofString "iv", Str.ofString "v", Str.ofString "vi", Str.ofString "vii", Str.ofString "viii", Str.ofString "ix"]
/-- what the law's Roman signs are -/
def lawRom (n : Int) : Str := Txt.mul (Str.ofString "m") (n.fdiv 1000) ++ romC.getD ((n.fdiv 100).fmod 10).toNat Str.empty ++ romX.getD ((n.fdiv 10).fmod 10).toNat Str.empty ++ romI.getD ((n.fdiv 1).fmod 10).toNat Str.empty
theorem mulm_len {n : Int} (h0 : 0 < n) (h1 : n < 5000) : (Txt.mul (Str.ofString "m") (n.fdiv 1000)).length ≤ 4 := by
  have e : n.fdiv 1000 = n / 1000 := Int.fdiv_eq_ediv_of_nonneg _ (by omega)
  have c : n.fdiv 1000 = 0 ∨ n.fdiv 1000 = 1 ∨ n.fdiv 1000 = 2 ∨ n.fdiv 1000 = 3 ∨ n.fdiv 1000 = 4 := by omega
  rcases c with c | c | c | c | c <;> rw [c] <;> decide
theorem getD_len {l : List Str} {k b : Nat} (h : ∀ x ∈ l, x.length ≤ b) : (l.getD k Str.empty).length ≤ b := by
  rw [List.getD_eq_getElem?_getD]
  cases e : l[k]? with
  | none => exact Nat.zero_le _
  | some x => exact h x (List.mem_of_getElem? e)
theorem add_strL {prog : Program} {w : World} {A : Around} {E : Value → Shared → Prop} {s : Shared} {x y : Str} {t u : Tok} {a b : Nat} {Q : Value → Shared → Prop} (ha : x.length ≤ a) (hb : y.length ≤ b) (hc : a + b ≤ 1000000) (h : ∀ t' tk, (x ++ y).length ≤ a + b → Q (.str (x ++ y) t') { s with toks := tk }) :
    wpAny (model prog w) A (binaryOp .Add (.str x t) (.str y u)) Q E s := by
  have e : (x ++ y).length = x.length + y.length := Str.length_append _ _
  exact add_str (fun t' tk => h t' tk (by omega)) (by show _ ≤ 2 ^ 24; omega)
theorem told_item {prog : Program} {w : World} {A : Around} {E : Value → Shared → Prop} {s : Shared} {value slice : PySem.Expr} {h₀ : Heap} {L l : Addr} {news : List (Addr × Obj)} {vs : List Value} {ws : List Str} {n : Nat} {i : Int} {u : Tok} {Q : Value → Shared → Prop}
    (N : News h₀ L s.heap news) (hm : (l, listOf vs.toArray n) ∈ news) (hw : StrsAre vs ws) (h0 : 0 ≤ i) (h1 : i < (ws.length : Int)) (hf : i < 1000) (h : ∀ t', Q (.str (ws.getD i.toNat Str.empty) t') s)
    (hs : subscripted slice false (.ref l) (.int i u) = operate [.ref l, .int i u] (getItem (.ref l) (.int i u)) := by with_unfolding_all rfl) :
    wpAny (model prog w) A (subscriptTail value slice (.ref l) (.int i u)) Q E s :=
  KTb.item_list ⟨_, (N _ hm).1, rfl, n, rfl⟩ hw h0 h1 (by omega) (fun t' _ => h t') hs
theorem fmod10 (x : Int) : 0 ≤ x.fmod 10 ∧ x.fmod 10 < 10 := ⟨Int.fmod_nonneg_of_pos _ (by decide), Int.fmod_lt_of_pos _ (by decide)⟩
theorem lt10 {x : Int} {n : Nat} (h : n = 10) : x.fmod 10 < (n : Int) := by have := fmod10 x; omega
theorem lt1000 {x : Int} : x.fmod 10 < 1000 := by have := fmod10 x; omega
theorem allObj_sub {h₀ h : Heap} {L : Addr} {news news' : List (Addr × Obj)} (hn : ∀ q ∈ news', q ∈ news) : ∀ {ws : List (Addr × String)} {P : List (Addr × Obj) → Prop}, AllObj ws (fun its => News h₀ L h (its ++ news') → P its) → AllObj ws (fun its => News h₀ L h (its ++ news) → P its) :=
  fun h => allObj_mono h fun _ k N => k fun q hq => (List.mem_append.mp hq).elim (fun a => N q (List.mem_append_left _ a)) fun a => N q (List.mem_append_right _ (hn q a))
/-- ahead of an item: two locals by name, the rest of them unsaid; the ledger cut -/
theorem rest_gen {prog : Program} {w : World} {A : Around} {E : Value → Shared → Prop} {s : Shared} {env : Env} {h₀ : Heap} {target : Expr} {body : List Stmt} {Q : Flow → Shared → Prop} {ws : List (Addr × String)} {keep : List (Addr × Obj)} {xs : List Itm} {m : Str → Option Value} {news news' : List (Addr × Obj)} (a b : Str) {va vb : Value}
    (ha : m a = some va) (hb : m b = some vb) (hn : ∀ q ∈ news', q ∈ news) (k : ∀ m1 : Str → Option Value, ItemsRest prog w A E h₀ env target body Q s ws keep xs (fun y => if y = a then some va else if y = b then some vb else m1 y) news') :
    ItemsRest prog w A E h₀ env target body Q s ws keep xs m news := by
  have e : (fun y => if y = a then some va else if y = b then some vb else m y) = m := by
    funext y
    by_cases h1 : y = a
    · rw [if_pos h1, h1, ha]
    · rw [if_neg h1]
      by_cases h2 : y = b
      · rw [if_pos h2, h2, hb]
      · rw [if_neg h2]
  have k1 := k m
  rw [e] at k1
  cases xs with
  | nil => exact fun h tk F N => k1 h tk F fun q hq => N q (hn q hq)
  | cons x r => exact fun v h tk hi F => allObj_sub hn (k1 v h tk hi F)
/-- texts made of locals, written texts, + and * -/
inductive EvS (cn : Str) (cs : Scope) (L a : Addr) (ccd : Value) (cl : List (Str × Addr)) (m : Str → Option Value) : Expr → Str → Prop
  | const {x : Str} {k : Nat} {p : Pos} : EvS cn cs L a ccd cl m (.Constant (.str x) k p) x
  | name {y v : Str} {t : Tok} {p : Pos} (hv : m y = some (.str v t)) (hk : cs.kind = .function) (hx : (envX cn cs L a ccd cl).kindOf y = some .local) (hd : (y == ("__debug__" : Str)) = false) : EvS cn cs L a ccd cl m (.Name y p) v
  | add {e f : Expr} {x y r : Str} {p : Pos} (he : EvS cn cs L a ccd cl m e x) (hf : EvS cn cs L a ccd cl m f y) (hr : x ++ y = r) : EvS cn cs L a ccd cl m (.BinOp e .Add f p) r
  | mul {e : Expr} {x r : Str} {i : Int} {k : Nat} {p p' : Pos} (he : EvS cn cs L a ccd cl m e x) (hx : x.length ≤ 16) (h0 : 0 ≤ i) (h1 : i ≤ 16) (hr : Txt.mul x i = r) : EvS cn cs L a ccd cl m (.BinOp e .Mult (.Constant (.int i) k p') p) r
inductive EvL (cn : Str) (cs : Scope) (L a : Addr) (ccd : Value) (cl : List (Str × Addr)) (m : Str → Option Value) : List Expr → List Str → Prop
  | nil : EvL cn cs L a ccd cl m [] []
  | cons {e : Expr} {es : List Expr} {r : Str} {l : List Str} (h : EvS cn cs L a ccd cl m e r) (hl : r.length ≤ 1000) (t : EvL cn cs L a ccd cl m es l) : EvL cn cs L a ccd cl m (e :: es) (r :: l)
section
variable {prog : Program} {w : World} {A : Around} {E : Value → Shared → Prop} {h₀ : Heap} {L a : Addr} {m : Str → Option Value} {news : List (Addr × Obj)} {cn : Str} {cs : Scope} {ccd : Value} {cl : List (Str × Addr)}
theorem EvS.eval {e : Expr} {r : Str} (H : EvS cn cs L a ccd cl m e r) : ∀ {s : Shared} {Q : Value → Shared → Prop}, Fr h₀ L s.heap m → r.length ≤ 1000 → (∀ t tk, Q (.str r t) { s with toks := tk }) → wpAny (model prog w) A (PySem.eval e (envX cn cs L a ccd cl)) Q E s := by
  induction H with
  | const => intro s Q F hl hQ; exact Constant_str (hQ _ _)
  | name hv hk hx hd => intro s Q F hl hQ; exact nameX_L F hv (hQ _ s.toks) hk hx hd
  | add he hf hr ihe ihf =>
    intro s Q F hl hQ
    subst hr
    rw [Str.length_append] at hl
    exact wpAny_BinOp (ihe F (by omega) fun t tk => ihf (s := { s with toks := tk }) F (by omega) fun t' tk' => add_str (fun t2 tk2 => hQ t2 tk2) (by show _ ≤ 2 ^ 24; omega))
  | mul he hx h0 h1 hr ihe =>
    intro s Q F hl hQ
    subst hr
    exact wpAny_BinOp (ihe F (by omega) fun t tk => wpAny_Constant_int (SB.mul (mulOk_of 16 1048576 (by omega) (by omega) (by omega) (by decide) (by decide)) fun t2 tk2 => hQ t2 tk2))
theorem EvS.star {e : Expr} {r : Str} {es : List Expr} {env : Env} (H : EvS cn cs L a ccd cl m e r) : starEach (e :: es) env = (false, PySem.eval e env) :: starEach es env := by cases H <;> rfl
theorem evl_args {es : List Expr} {l : List Str} {pos : Pos} (H : EvL cn cs L a ccd cl m es l) : ∀ {s : Shared} {Q : List Value → Shared → Prop}, Fr h₀ L s.heap m → (∀ vs tk, StrsAre vs l → Q vs { s with toks := tk }) → wpAny (model prog w) A (spliced (backTo pos (starEach es (envX cn cs L a ccd cl)))) Q E s := by
  induction H with
  | nil => intro s Q F hQ; exact args_nil (hQ [] s.toks .nil)
  | cons h hl _ ih => intro s Q F hQ; exact args_cons (h.eval F hl fun t tk => ih (s := { s with toks := tk }) F fun vs tk2 hv => hQ _ tk2 (.cons _ _ hv)) h.star
theorem evl_list {es : List Expr} {l : List Str} {pos : Pos} {s : Shared} {Q : Value → Shared → Prop} (H : EvL cn cs L a ccd cl m es l) (hn : l.length ≤ 1000) (F : Fr h₀ L s.heap m) (N : News h₀ L s.heap news)
    (hQ : ∀ vs b h' tk, StrsAre vs l → (∀ p ∈ news, p.1 < b) → Fr h₀ L h' m → News h₀ L h' ((b, listOf vs.toArray 0) :: news) → Q (.ref b) { s with heap := h', toks := tk }) :
    wpAny (model prog w) A (PySem.eval (.List es pos) (envX cn cs L a ccd cl)) Q E s :=
  List_ (evl_args H F fun vs tk hv => newList_K (s := { s with toks := tk }) F N (fun b h' F' N' hl => hQ vs b h' tk hv hl F' N') (by rw [sizeLine_eq]; have := hv.length; omega))
end
/-- a written row of three texts and a number -/
theorem row_list {prog : Program} {w : World} {A : Around} {E : Value → Shared → Prop} {env : Env} {h₀ : Heap} {L : Addr} {m : Str → Option Value} {news : List (Addr × Obj)} {a b c : Str} {x : Int} {k1 k2 k3 k4 : Nat} {p1 p2 p3 p4 pos : Pos} {s : Shared} {Q : Value → Shared → Prop} (F : Fr h₀ L s.heap m) (N : News h₀ L s.heap news)
    (hQ : ∀ t1 t2 t3 t4 l h' tk, (∀ p ∈ news, p.1 < l) → Fr h₀ L h' m → News h₀ L h' ((l, listOf #[.str a t1, .str b t2, .str c t3, .int x t4] 0) :: news) → Q (.ref l) { s with heap := h', toks := tk }) :
    wpAny (model prog w) A (eval (.List [.Constant (.str a) k1 p1, .Constant (.str b) k2 p2, .Constant (.str c) k3 p3, .Constant (.int x) k4 p4] pos) env) Q E s :=
  List_ (args_cons (Constant_str (args_cons (Constant_str (args_cons (Constant_str (args_cons (wpAny_Constant_int (args_nil (newList_K (s := { s with toks := _ }) F N (fun l h' F' N' hl => hQ _ _ _ _ l h' _ hl F' N') (by rw [sizeLine_eq]; simp only [List.length_cons, List.length_nil]; omega)))))))))))
section
variable {prog : Program} {w : World} {p : Program} {loose : List Str} {mean : ExcName → Option Value} {mg mb : Str → Option Value}
end
namespace HklawRomandoes
abbrev HkT : Type := (Program) × (World) × (Program) × (List Str) × (ExcName → Option Value) × (Str → Option Value) × (Str → Option Value) × (List (Addr × Obj)) × (Int) × (Tok) × (Nat) × (Nat) × (Option (List Code)) × (Str) × (Scope) × (Addr) × (Value) × (List (Str × Addr)) × (List Env) × (Around) × (Heap) × (Heap) × (Addr) × (Str → Option Value) × (Shared) × (Value → Shared → Prop)
def HkP0 (prog : Program) (w : World) (p : Program) (loose : List Str) (mean : ExcName → Option Value) (mg : Str → Option Value) (mb : Str → Option Value) (news : List (Addr × Obj)) (n : Int) (t : Tok) (dp : Nat) (un : Nat) (gd : Option (List Code)) (cn : Str) (cs : Scope) (a : Addr) (ccd : Value) (cl : List (Str × Addr)) (outer : List Env) (A₀ : Around) (base : Heap) (h₀ : Heap) (L : Addr) (m : Str → Option Value) (s : Shared) (Q : Value → Shared → Prop) : Prop := ∀ (h0 : 0 < n) (h1 : n < 5000) (B : Below A₀ base outer h₀) (F : Fr h₀ L s.heap m) (X : (Mine.kk.heap_1 w.params).In h₀) (N : News h₀ L s.heap news) (T : Top p loose mean mg mb h₀) (hk : cs.kind = .function) (hd : dp + 1 < recursionLimit) (hu : un + 8 * 1 < cLine) (hret : (fun (K : Value → List (Addr × Obj) → Prop) => ∀ t, (lawRom n).length ≤ 16 → K (.str (lawRom n) t) news) fun v news' => ∀ h' tk', Fr h₀ L h' m → News h₀ L h' news' → Q v { s with heap := h', toks := tk' }), wpAny (model prog w) (ktrTop dp un gd cn cs L a ccd cl outer) (call (.ref 139) [.int n t]) Q (fun _ _ => False) s
def HkP (c9 : HkT) : Prop := HkP0 c9.1 c9.2.1 c9.2.2.1 c9.2.2.2.1 c9.2.2.2.2.1 c9.2.2.2.2.2.1 c9.2.2.2.2.2.2.1 c9.2.2.2.2.2.2.2.1 c9.2.2.2.2.2.2.2.2.1 c9.2.2.2.2.2.2.2.2.2.1 c9.2.2.2.2.2.2.2.2.2.2.1 c9.2.2.2.2.2.2.2.2.2.2.2.1 c9.2.2.2.2.2.2.2.2.2.2.2.2.1 c9.2.2.2.2.2.2.2.2.2.2.2.2.2.1 c9.2.2.2.2.2.2.2.2.2.2.2.2.2.2.1 c9.2.2.2.2.2.2.2.2.2.2.2.2.2.2.2.1 c9.2.2.2.2.2.2.2.2.2.2.2.2.2.2.2.2.1 c9.2.2.2.2.2.2.2.2.2.2.2.2.2.2.2.2.2.1 c9.2.2.2.2.2.2.2.2.2.2.2.2.2.2.2.2.2.2.1 c9.2.2.2.2.2.2.2.2.2.2.2.2.2.2.2.2.2.2.2.1 c9.2.2.2.2.2.2.2.2.2.2.2.2.2.2.2.2.2.2.2.2.1 c9.2.2.2.2.2.2.2.2.2.2.2.2.2.2.2.2.2.2.2.2.2.1 c9.2.2.2.2.2.2.2.2.2.2.2.2.2.2.2.2.2.2.2.2.2.2.1 c9.2.2.2.2.2.2.2.2.2.2.2.2.2.2.2.2.2.2.2.2.2.2.2.1 c9.2.2.2.2.2.2.2.2.2.2.2.2.2.2.2.2.2.2.2.2.2.2.2.2.1 c9.2.2.2.2.2.2.2.2.2.2.2.2.2.2.2.2.2.2.2.2.2.2.2.2.2
noncomputable def HkD : HkT := ((default), (w00), (default), ([]), (fun _ => none), (fun _ => none), (fun _ => none), ([]), ((0 : Int)), ((0 : Nat)), ((0 : Nat)), ((0 : Nat)), (none), (Str.empty), (default), ((0 : Nat)), (Value.none), ([]), ([]), (callerA), (default), (default), ((0 : Nat)), (fun _ => none), ({}), (fun _ _ => True))
@[irreducible] noncomputable def HkC : HkT := hkEps HkD HkP
noncomputable def prog : Program := HkC.1
noncomputable def w : World := HkC.2.1
noncomputable def p : Program := HkC.2.2.1
noncomputable def loose : List Str := HkC.2.2.2.1
noncomputable def mean : ExcName → Option Value := HkC.2.2.2.2.1
noncomputable def mg : Str → Option Value := HkC.2.2.2.2.2.1
noncomputable def mb : Str → Option Value := HkC.2.2.2.2.2.2.1
noncomputable def news : List (Addr × Obj) := HkC.2.2.2.2.2.2.2.1
noncomputable def n : Int := HkC.2.2.2.2.2.2.2.2.1
noncomputable def t : Tok := HkC.2.2.2.2.2.2.2.2.2.1
noncomputable def dp : Nat := HkC.2.2.2.2.2.2.2.2.2.2.1
noncomputable def un : Nat := HkC.2.2.2.2.2.2.2.2.2.2.2.1
noncomputable def gd : Option (List Code) := HkC.2.2.2.2.2.2.2.2.2.2.2.2.1
noncomputable def cn : Str := HkC.2.2.2.2.2.2.2.2.2.2.2.2.2.1
noncomputable def cs : Scope := HkC.2.2.2.2.2.2.2.2.2.2.2.2.2.2.1
noncomputable def a : Addr := HkC.2.2.2.2.2.2.2.2.2.2.2.2.2.2.2.1
noncomputable def ccd : Value := HkC.2.2.2.2.2.2.2.2.2.2.2.2.2.2.2.2.1
noncomputable def cl : List (Str × Addr) := HkC.2.2.2.2.2.2.2.2.2.2.2.2.2.2.2.2.2.1
noncomputable def outer : List Env := HkC.2.2.2.2.2.2.2.2.2.2.2.2.2.2.2.2.2.2.1
noncomputable def A₀ : Around := HkC.2.2.2.2.2.2.2.2.2.2.2.2.2.2.2.2.2.2.2.1
noncomputable def base : Heap := HkC.2.2.2.2.2.2.2.2.2.2.2.2.2.2.2.2.2.2.2.2.1
noncomputable def h₀ : Heap := HkC.2.2.2.2.2.2.2.2.2.2.2.2.2.2.2.2.2.2.2.2.2.1
noncomputable def L : Addr := HkC.2.2.2.2.2.2.2.2.2.2.2.2.2.2.2.2.2.2.2.2.2.2.1
noncomputable def m : Str → Option Value := HkC.2.2.2.2.2.2.2.2.2.2.2.2.2.2.2.2.2.2.2.2.2.2.2.1
noncomputable def s : Shared := HkC.2.2.2.2.2.2.2.2.2.2.2.2.2.2.2.2.2.2.2.2.2.2.2.2.1
noncomputable def Q : Value → Shared → Prop := HkC.2.2.2.2.2.2.2.2.2.2.2.2.2.2.2.2.2.2.2.2.2.2.2.2.2
theorem HkAt : HkP0 prog w p loose mean mg mb news n t dp un gd cn cs a ccd cl outer A₀ base h₀ L m s Q := by
  unfold HkP0
  intro h0 h1 B F X N T hk hd hu hret
  have hz := fillK; revert hz; k_fill; intro _
  k_with_none
  w_top off
  k_with "*" => first | ((with_reducible show wpAny _ _ _ _ _ (Shared.mk _ _ _ (_ + _ + _) _)); refine st_norm (s0 := s) rfl rfl rfl fun _ => ?_) | ((with_reducible show wpAny _ _ (eval _ _) _ _ _); k_fold)
  k_with "execs cons" => (k_here; first | ((rename News _ _ _ _ => N6); dsimp only at N6) | ((rename Fr _ _ _ _ => F6); dsimp only at F6))
  k_with "subscriptTail Name Name ref int" => (k_here; (with_reducible show wpAny _ _ (subscriptTail _ _ (Value.ref _) (Value.int (Int.fmod _ _) _)) _ _ _); k_dflt (refine' told_item ?xN ?xm ?xw ?x0 ?x1 ?xf ?_ ?xs; (case xN => k_asm); (case xm => k_mem); (case xw => assumption); (case x0 => exact (fmod10 _).1); (case x1 => exact lt10 rfl); (case xf => exact lt1000); (case xs => with_unfolding_all rfl)); intro _)
  k_with "exec For Tuple List cons nil" => (k_here; (rename Fr _ _ _ _ => lF'); (with_reducible refine' For_turns lF' ?_ ?xs ?xE); (k_dflt (case xs => intro _; rfl)); (k_dflt (case xE => exact PassesOwn.never)); k_whole)
  k_with "binaryOp Add str str" => (k_here; (with_reducible show wpAny _ _ (binaryOp Operator.Add (Value.str (Txt.mul _ _) _) (Value.str (List.getD _ _ _) _)) _ _ _); k_dflt (refine' add_strL (b := 4) ?xa ?xb ?xc ?_; (case xa => exact mulm_len (by assumption) (by assumption)); (case xb => exact getD_len (by decide)); (case xc => decide)); intro _ _ _)
  k_with "binaryOp Add str str" => (k_here; (with_reducible show wpAny _ _ (binaryOp Operator.Add (Value.str (HAppend.hAppend _ _) _) (Value.str (List.getD _ _ _) _)) _ _ _); k_dflt (refine' add_strL (b := 4) ?xa ?xb ?xc ?_; (case xa => assumption); (case xb => exact getD_len (by decide)); (case xc => decide)); intro _ _ _)
  k_with "ItemsRest" => (k_here; (with_reducible show ItemsRest _ _ _ _ _ _ _ _ _ _ _ _ _ (fun y => if y = Str.ofString "found" then _ else _) _); k_dflt (first | ((with_reducible show ItemsRest _ _ _ _ _ _ _ _ _ _ _ _ _ (fun y => if y = Str.ofString "found" then _ else if y = Str.ofString "told" then _ else _) _); refine rest_gen (Str.ofString "number") (Str.ofString "found") rfl rfl (fun _ h => List.Mem.tail _ h) ?_) | refine rest_gen (Str.ofString "number") (Str.ofString "found") rfl rfl (fun _ h => h) ?_); intro _; (try clear lF'); (rename Fr _ _ _ _ => F9; clear F9))
  k_with "eval List cons" => (k_here; (with_reducible show wpAny _ _ (eval (Expr.List [Expr.Constant (Const.str _) _ _, _, _, Expr.Constant (Const.int _) _ _] _) _) _ _ _); k_dflt (refine' row_list ?xF ?xN ?_; (case xF => k_asm); (case xN => k_asm)); intro _ _ _ _ l' h' tk' l1 F' N'; (try k_lt l1); (try k_sweep); (try dsimp only))
  k_with "eval List cons" => (k_here; (with_reducible show wpAny _ _ (eval (Expr.List (Expr.Constant _ _ _ :: Expr.Name _ _ :: _) _) _) _ _ _); k_dflt (first | (refine' evl_list (l := romC) ?xH ?xn ?xF ?xN ?_; (case xF => k_asm); (case xN => k_asm); (case xH => exact .cons .const (by decide) (.cons (.name rfl rfl rfl rfl) (by decide) (.cons (.mul (.name rfl rfl rfl rfl) (by decide) (by decide) (by decide) (by kernel_rfl)) (by decide) (.cons (.mul (.name rfl rfl rfl rfl) (by decide) (by decide) (by decide) (by kernel_rfl)) (by decide) (.cons (.add (.name rfl rfl rfl rfl) (.name rfl rfl rfl rfl) (by kernel_rfl)) (by decide) (.cons (.name rfl rfl rfl rfl) (by decide) (.cons (.add (.name rfl rfl rfl rfl) (.name rfl rfl rfl rfl) (by kernel_rfl)) (by decide) (.cons (.add (.name rfl rfl rfl rfl) (.mul (.name rfl rfl rfl rfl) (by decide) (by decide) (by decide) rfl) (by kernel_rfl)) (by decide) (.cons (.add (.name rfl rfl rfl rfl) (.mul (.name rfl rfl rfl rfl) (by decide) (by decide) (by decide) rfl) (by kernel_rfl)) (by decide) (.cons (.add (.name rfl rfl rfl rfl) (.name rfl rfl rfl rfl) (by kernel_rfl)) (by decide) (.nil))))))))))); (case xn => decide)) | (refine' evl_list (l := romX) ?xH ?xn ?xF ?xN ?_; (case xF => k_asm); (case xN => k_asm); (case xH => exact .cons .const (by decide) (.cons (.name rfl rfl rfl rfl) (by decide) (.cons (.mul (.name rfl rfl rfl rfl) (by decide) (by decide) (by decide) (by kernel_rfl)) (by decide) (.cons (.mul (.name rfl rfl rfl rfl) (by decide) (by decide) (by decide) (by kernel_rfl)) (by decide) (.cons (.add (.name rfl rfl rfl rfl) (.name rfl rfl rfl rfl) (by kernel_rfl)) (by decide) (.cons (.name rfl rfl rfl rfl) (by decide) (.cons (.add (.name rfl rfl rfl rfl) (.name rfl rfl rfl rfl) (by kernel_rfl)) (by decide) (.cons (.add (.name rfl rfl rfl rfl) (.mul (.name rfl rfl rfl rfl) (by decide) (by decide) (by decide) rfl) (by kernel_rfl)) (by decide) (.cons (.add (.name rfl rfl rfl rfl) (.mul (.name rfl rfl rfl rfl) (by decide) (by decide) (by decide) rfl) (by kernel_rfl)) (by decide) (.cons (.add (.name rfl rfl rfl rfl) (.name rfl rfl rfl rfl) (by kernel_rfl)) (by decide) (.nil))))))))))); (case xn => decide)) | (refine' evl_list (l := romI) ?xH ?xn ?xF ?xN ?_; (case xF => k_asm); (case xN => k_asm); (case xH => exact .cons .const (by decide) (.cons (.name rfl rfl rfl rfl) (by decide) (.cons (.mul (.name rfl rfl rfl rfl) (by decide) (by decide) (by decide) (by kernel_rfl)) (by decide) (.cons (.mul (.name rfl rfl rfl rfl) (by decide) (by decide) (by decide) (by kernel_rfl)) (by decide) (.cons (.add (.name rfl rfl rfl rfl) (.name rfl rfl rfl rfl) (by kernel_rfl)) (by decide) (.cons (.name rfl rfl rfl rfl) (by decide) (.cons (.add (.name rfl rfl rfl rfl) (.name rfl rfl rfl rfl) (by kernel_rfl)) (by decide) (.cons (.add (.name rfl rfl rfl rfl) (.mul (.name rfl rfl rfl rfl) (by decide) (by decide) (by decide) rfl) (by kernel_rfl)) (by decide) (.cons (.add (.name rfl rfl rfl rfl) (.mul (.name rfl rfl rfl rfl) (by decide) (by decide) (by decide) rfl) (by kernel_rfl)) (by decide) (.cons (.add (.name rfl rfl rfl rfl) (.name rfl rfl rfl rfl) (by kernel_rfl)) (by decide) (.nil))))))))))); (case xn => decide))); intro _ l' h' tk' _ l1 F' N'; (try k_lt l1); (try k_sweep); (try dsimp only))
  have hS : MySub [] := trivial
  refine wpAny_call ?_
  w_top off
  k_dflt (refine' code_sub ?kS ?k1 ?k2 ?k3 ?k4 ?k4s ?k5 ?kA ?kF ?kK ?k6 ?k7 ?k8 ?k9 ?kB ?_ ?c2 ?c3 ?c4 ?c5; (case kS => assumption); (case kA => exact rfl); (case kF => exact rfl); (case kK => assumption); (case k1 => k_asm); (case k2 => k_asm); (case k3 => k_asm); (case k4 => k_asm); (case k4s => first | exact List.forall_mem_nil _ | assumption); (case k5 => k_asm); (case k6 => k_is); (case k7 => k_is); (case k8 => ktr_room); (case k9 => exact BindsTo.of_eq rfl); (case c5 => decide); (case kB => exact locs rfl); (case c2 => exact rfl); (case c3 => exact rfl); (case c4 => exact rfl); k_whole; intro g' L' h' tk' FG' F' N' B' X' T'; (try dsimp only); (try k_lift B'); (try k_fold))
  k_steps
  exact hret _ (by assumption) _ _ (by assumption) (Kept.pure (by assumption) N)
theorem HkEq : HkC = hkEps HkD HkP := by unfold HkC; rfl
end HklawRomandoes
theorem lawRoman_does {prog : Program} {w : World} {p : Program} {loose : List Str} {mean : ExcName → Option Value} {mg mb : Str → Option Value} (news : List (Addr × Obj)) (n : Int) (t : Tok) (h0 : 0 < n) (h1 : n < 5000) :
    Does prog w (Mine.kk.heap_1 w.params) p loose mean mg mb (.ref 139) [.int n t] news 1 fun K => ∀ t, (lawRom n).length ≤ 16 → K (.str (lawRom n) t) news :=
  fun dp un gd cn cs a ccd cl outer A₀ base h₀ L m s Q => hkAll (P := HklawRomandoes.HkP) HklawRomandoes.HkEq HklawRomandoes.HkAt (prog, w, p, loose, mean, mg, mb, news, n, t, dp, un, gd, cn, cs, a, ccd, cl, outer, A₀, base, h₀, L, m, s, Q) h0 h1
section
variable {prog : Program} {w : World} {p : Program} {loose : List Str} {mean : ExcName → Option Value} {mg mb : Str → Option Value}
end
end Mine
end
section
set_option linter.unusedVariables false
open PySem PySem.W PyProof.Rows PySem.Calls
set_option maxRecDepth 100000
set_option maxHeartbeats 8000000
namespace Mine
/-- what one_number gives back -/
inductive OneD (n : Int) (tok se : Str) (sz : Int) : Str → Prop
  | a {r : Str} : 0 < n → (tok == Str.ofString "a") = true → LetR n (Str.ofString "") r → OneD n tok se sz r
  | A {r : Str} : 0 < n → (tok == Str.ofString "A") = true → LetR n (Str.ofString "") r → OneD n tok se sz (Txt.upper r)
  | i {r : Str} : 0 < n ∧ n < 5000 → (tok == Str.ofString "i") = true → RomG ROM n (Str.ofString "") r → OneD n tok se sz r
  | I {r : Str} : 0 < n ∧ n < 5000 → (tok == Str.ofString "I") = true → RomG ROM n (Str.ofString "") r → OneD n tok se sz (Txt.upper r)
  | d1 {r : Str} : ¬ (0 < n ∧ (tok == Str.ofString "a") = true) → ¬ (0 < n ∧ (tok == Str.ofString "A") = true) → ¬ ((0 < n ∧ n < 5000) ∧ (tok == Str.ofString "i") = true) → ¬ ((0 < n ∧ n < 5000) ∧ (tok == Str.ofString "I") = true) →
      (tok == Txt.mul (Str.ofString "0") (tok.length - 1) ++ Str.ofString "1") = true → DecD n tok.length se sz r → OneD n tok se sz r
  | d2 {r : Str} : ¬ (0 < n ∧ (tok == Str.ofString "a") = true) → ¬ (0 < n ∧ (tok == Str.ofString "A") = true) → ¬ ((0 < n ∧ n < 5000) ∧ (tok == Str.ofString "i") = true) → ¬ ((0 < n ∧ n < 5000) ∧ (tok == Str.ofString "I") = true) →
      (tok == Txt.mul (Str.ofString "0") (tok.length - 1) ++ Str.ofString "1") = false → DecD n 1 se sz r → OneD n tok se sz r
theorem not_f {p : Prop} {b : Bool} (h : b = false) : ¬ (p ∧ b = true) := fun ⟨_, q⟩ => by rw [h] at q; cases q
theorem not_n {p q : Prop} (h : ¬ p) : ¬ (p ∧ q) := fun x => h x.1
section
variable {prog : Program} {w : World} {p : Program} {loose : List Str} {mean : ExcName → Option Value} {mg mb : Str → Option Value}
theorem one_does (news : List (Addr × Obj)) (n sz : Int) (tok se : Str) (t t1 t2 t3 : Tok) (h0 : 0 ≤ n) (h1 : n < 20000) (h2 : 1 ≤ tok.length) (h3 : tok.length ≤ 3) (h4 : 0 ≤ sz) (h5 : sz ≤ 3) (h6 : se.length ≤ 2) :
    Does prog w (Mine.kk.heap_1 w.params) p loose mean mg mb (.ref 56) [.int n t, .str tok t1, .str se t2, .int sz t3] news 2 fun K => ∀ r t, OneD n tok se sz r → r.length ≤ 60000 → K (.str r t) news := by
  have hz := fillK; revert hz; k_fill; intro _
  k_with_none
  w_top off
  k_with "*" => ((with_reducible show wpAny _ _ _ _ _ (Shared.mk _ _ _ (_ + _ + _) _)); refine st_norm (s0 := s) rfl rfl rfl fun _ => ?_)
  k_with "execs cons" => (k_here; first | ((rename News _ _ _ _ => N6); dsimp only at N6) | ((rename Fr _ _ _ _ => F6); dsimp only at F6))
  k_with "call ref" => (k_here; k_dflt (refine' Does.use (letters_does _ _ _ ?h0 ?h1) ?k1 ?k2 ?k3 ?k4 ?k5 ?kK ?kd ?ku ?_; (case k1 => k_asm); (case k2 => k_asm); (case k3 => k_asm); (case k4 => k_asm); (case k5 => k_asm); (case kK => first | exact rfl | assumption); (case kd => ktr_room); (case ku => ktr_units); (case h0 => omega); (case h1 => omega); (try dsimp only)); intro r9 t9 hr9 hl9 h9 tk9 F9 N9; (try k_fold))
  k_with "call ref" => (k_here; k_dflt (refine' Does.use (roman_does _ _ _ ?h0 ?h1) ?k1 ?k2 ?k3 ?k4 ?k5 ?kK ?kd ?ku ?_; (case k1 => k_asm); (case k2 => k_asm); (case k3 => k_asm); (case k4 => k_asm); (case k5 => k_asm); (case kK => first | exact rfl | assumption); (case kd => ktr_room); (case ku => ktr_units); (case h0 => omega); (case h1 => omega); (try dsimp only)); intro r9 t9 hr9 hl9 h9 tk9 F9 N9; (try k_fold))
  k_with "call ref" => (k_here; k_dflt (refine' Does.use (decimal_does _ _ _ _ _ _ _ _ _ ?h0 ?h1 ?h2 ?h3 ?h4 ?h5 ?h6) ?k1 ?k2 ?k3 ?k4 ?k5 ?kK ?kd ?ku ?_; (case k1 => k_asm); (case k2 => k_asm); (case k3 => k_asm); (case k4 => k_asm); (case k5 => k_asm); (case kK => first | exact rfl | assumption); (case kd => ktr_room); (case ku => ktr_units); (case h0 => omega); (case h1 => omega); (case h2 => omega); (case h3 => omega); (case h4 => omega); (case h5 => omega); (case h6 => omega); (try dsimp only)); intro r9 t9 hr9 hl9 h9 tk9 F9 N9; (try k_fold))
  unfold Does
  intro dp un gd cn cs a ccd cl outer A₀ base h₀ L m s Q B F X N T hk hd hu hret
  have hS : MySub [] := trivial
  refine wpAny_call ?_
  w_top off
  k_dflt (refine' code_sub ?kS ?k1 ?k2 ?k3 ?k4 ?k4s ?k5 ?kA ?kF ?kK ?k6 ?k7 ?k8 ?k9 ?kB ?_ ?c2 ?c3 ?c4 ?c5; (case kS => assumption); (case kA => exact rfl); (case kF => exact rfl); (case kK => assumption); (case k1 => k_asm); (case k2 => k_asm); (case k3 => k_asm); (case k4 => k_asm); (case k4s => first | exact List.forall_mem_nil _ | assumption); (case k5 => k_asm); (case k6 => k_is); (case k7 => k_is); (case k8 => ktr_room); (case k9 => exact BindsTo.of_eq rfl); (case c5 => decide); (case kB => exact locs rfl); (case c2 => exact rfl); (case c3 => exact rfl); (case c4 => exact rfl); k_whole; intro g' L' h' tk' FG' F' N' B' X' T'; (try dsimp only); (try k_lift B'); (try k_fold))
  k_steps
  all_goals first
    | exact hret _ _ (.a (by assumption) (by assumption) (by assumption)) (by omega) _ _ (by assumption) (Kept.pure (by assumption) N)
    | exact hret _ _ (.A (by assumption) (by assumption) (by assumption)) (by omega) _ _ (by assumption) (Kept.pure (by assumption) N)
    | exact hret _ _ (.i (by omega) (by assumption) (by assumption)) (by omega) _ _ (by assumption) (Kept.pure (by assumption) N)
    | exact hret _ _ (.I (by omega) (by assumption) (by assumption)) (by omega) _ _ (by assumption) (Kept.pure (by assumption) N)
    | exact hret _ _ (.d1 (by first | exact not_f (by assumption) | exact not_n (by omega)) (by first | exact not_f (by assumption) | exact not_n (by omega)) (by first | exact not_f (by assumption) | exact not_n (by omega)) (by first | exact not_f (by assumption) | exact not_n (by omega)) (by assumption) (by assumption)) (by omega) _ _ (by assumption) (Kept.pure (by assumption) N)
    | exact hret _ _ (.d2 (by first | exact not_f (by assumption) | exact not_n (by omega)) (by first | exact not_f (by assumption) | exact not_n (by omega)) (by first | exact not_f (by assumption) | exact not_n (by omega)) (by first | exact not_f (by assumption) | exact not_n (by omega)) (by assumption) (by assumption)) (by omega) _ _ (by assumption) (Kept.pure (by assumption) N)
end
end Mine
end
section
set_option linter.unusedVariables false
open PySem PySem.W PyProof.Rows PySem.Calls
set_option maxRecDepth 100000
set_option maxHeartbeats 2000000
namespace Mine
abbrev srcO (x : Int) (tx : Tok) (y : Int) (ty : Tok) (n : Nat) : Obj := listOf #[.int x tx, .int y ty] n
theorem updF_mem {d : Addr} {o : Obj} {l : List (Addr × Obj)} {g : Obj → List (Addr × Obj)} (U : UpdF d o l g) : (d, o) ∈ l := by
  obtain ⟨pre, post, e, _⟩ := U.split
  rw [e]; simp
theorem Kept.upd {d : Addr} {o o' : Obj} {news : List (Addr × Obj)} {g : Obj → List (Addr × Obj)} {h₀ h h' : Heap} {L : Addr} (k : Kept [(d, o)] h h') (N : News h₀ L h news) (U : UpdF d o news g) (N' : News h₀ L h' [(d, o')]) : News h₀ L h' (g o') := by
  obtain ⟨pre, post, e1, e2, e3, e4⟩ := U.split
  intro q hq
  rw [e2] at hq
  have kk : ∀ q ∈ news, q.1 ≠ d → h'.get? q.1 = some q.2 ∧ q.1 ≠ L ∧ h₀.get? q.1 = none := fun q hq hn => ⟨k _ _ (N q hq).1 (by simpa using hn), (N q hq).2⟩
  rcases List.mem_append.mp hq with hq | hq
  · exact kk q (by rw [e1]; exact List.mem_append_left _ hq) (e3 q hq)
  · rcases List.mem_cons.mp hq with rfl | hq
    · exact N' _ (.head _)
    · exact kk q (by rw [e1]; exact List.mem_append_right _ (.tail _ hq)) (e4 q hq)
theorem mod_rng (z : Int) : 0 ≤ z.fmod 2147483647 ∧ z.fmod 2147483647 < 2147483647 := ⟨Int.fmod_nonneg_of_pos _ (by decide), Int.fmod_lt_of_pos _ (by decide)⟩
theorem take_mul (x z : Int) : IntMulOk ([x, z.fmod 2147483647].getD (Int.toNat 1) 0) ([x, z.fmod 2147483647].getD (Int.toNat 1) 0) := by
  have h := mod_rng z
  refine IntMulOk.of_left (intBits_le_64 ?_ ?_)
  · show -(2 ^ 64) < z.fmod 2147483647; omega
  · show z.fmod 2147483647 < 2 ^ 64; omega
local macro_rules | `(tactic| mul_fits) => `(tactic| exact take_mul _ _)
section
variable {prog : Program} {w : World} {p : Program} {loose : List Str} {mean : ExcName → Option Value} {mg mb : Str → Option Value}
end
namespace Hktakedoes
abbrev HkT : Type := (Program) × (World) × (Program) × (List Str) × (ExcName → Option Value) × (Str → Option Value) × (Str → Option Value) × (List (Addr × Obj)) × (Obj → List (Addr × Obj)) × (Addr) × (Int) × (Int) × (Int) × (Tok) × (Tok) × (Tok) × (Nat) × (Nat) × (Nat) × (Option (List Code)) × (Str) × (Scope) × (Addr) × (Value) × (List (Str × Addr)) × (List Env) × (Around) × (Heap) × (Heap) × (Addr) × (Str → Option Value) × (Shared) × (Value → Shared → Prop)
def HkP0 (prog : Program) (w : World) (p : Program) (loose : List Str) (mean : ExcName → Option Value) (mg : Str → Option Value) (mb : Str → Option Value) (news : List (Addr × Obj)) (gn : Obj → List (Addr × Obj)) (src : Addr) (x : Int) (y : Int) (top : Int) (tx : Tok) (ty : Tok) (t : Tok) (n : Nat) (dp : Nat) (un : Nat) (gd : Option (List Code)) (cn : Str) (cs : Scope) (a : Addr) (ccd : Value) (cl : List (Str × Addr)) (outer : List Env) (A₀ : Around) (base : Heap) (h₀ : Heap) (L : Addr) (m : Str → Option Value) (s : Shared) (Q : Value → Shared → Prop) : Prop := ∀ (U : UpdF src (srcO x tx y ty n) news gn) (hx : 0 ≤ x) (hy0 : 0 ≤ y) (hy : y < 2147483647) (h0 : 0 < top) (h1 : top ≤ 100) (B : Below A₀ base outer h₀) (F : Fr h₀ L s.heap m) (X : (Mine.kk.heap_1 w.params).In h₀) (N : News h₀ L s.heap news) (T : Top p loose mean mg mb h₀) (hk : cs.kind = .function) (hd : dp + 1 < recursionLimit) (hu : un + 8 * 1 < cLine) (hret : (fun (K : Value → List (Addr × Obj) → Prop) => ∀ d t x' tx' y' ty' n', 0 ≤ d → d < top → 0 ≤ x' → 0 ≤ y' → y' < 2147483647 → K (.int d t) (gn (srcO x' tx' y' ty' n'))) fun v news' => ∀ h' tk', Fr h₀ L h' m → News h₀ L h' news' → Q v { s with heap := h', toks := tk' }), wpAny (model prog w) (ktrTop dp un gd cn cs L a ccd cl outer) (call (.ref 118) [.ref src, .int top t]) Q (fun _ _ => False) s
def HkP (c9 : HkT) : Prop := HkP0 c9.1 c9.2.1 c9.2.2.1 c9.2.2.2.1 c9.2.2.2.2.1 c9.2.2.2.2.2.1 c9.2.2.2.2.2.2.1 c9.2.2.2.2.2.2.2.1 c9.2.2.2.2.2.2.2.2.1 c9.2.2.2.2.2.2.2.2.2.1 c9.2.2.2.2.2.2.2.2.2.2.1 c9.2.2.2.2.2.2.2.2.2.2.2.1 c9.2.2.2.2.2.2.2.2.2.2.2.2.1 c9.2.2.2.2.2.2.2.2.2.2.2.2.2.1 c9.2.2.2.2.2.2.2.2.2.2.2.2.2.2.1 c9.2.2.2.2.2.2.2.2.2.2.2.2.2.2.2.1 c9.2.2.2.2.2.2.2.2.2.2.2.2.2.2.2.2.1 c9.2.2.2.2.2.2.2.2.2.2.2.2.2.2.2.2.2.1 c9.2.2.2.2.2.2.2.2.2.2.2.2.2.2.2.2.2.2.1 c9.2.2.2.2.2.2.2.2.2.2.2.2.2.2.2.2.2.2.2.1 c9.2.2.2.2.2.2.2.2.2.2.2.2.2.2.2.2.2.2.2.2.1 c9.2.2.2.2.2.2.2.2.2.2.2.2.2.2.2.2.2.2.2.2.2.1 c9.2.2.2.2.2.2.2.2.2.2.2.2.2.2.2.2.2.2.2.2.2.2.1 c9.2.2.2.2.2.2.2.2.2.2.2.2.2.2.2.2.2.2.2.2.2.2.2.1 c9.2.2.2.2.2.2.2.2.2.2.2.2.2.2.2.2.2.2.2.2.2.2.2.2.1 c9.2.2.2.2.2.2.2.2.2.2.2.2.2.2.2.2.2.2.2.2.2.2.2.2.2.1 c9.2.2.2.2.2.2.2.2.2.2.2.2.2.2.2.2.2.2.2.2.2.2.2.2.2.2.1 c9.2.2.2.2.2.2.2.2.2.2.2.2.2.2.2.2.2.2.2.2.2.2.2.2.2.2.2.1 c9.2.2.2.2.2.2.2.2.2.2.2.2.2.2.2.2.2.2.2.2.2.2.2.2.2.2.2.2.1 c9.2.2.2.2.2.2.2.2.2.2.2.2.2.2.2.2.2.2.2.2.2.2.2.2.2.2.2.2.2.1 c9.2.2.2.2.2.2.2.2.2.2.2.2.2.2.2.2.2.2.2.2.2.2.2.2.2.2.2.2.2.2.1 c9.2.2.2.2.2.2.2.2.2.2.2.2.2.2.2.2.2.2.2.2.2.2.2.2.2.2.2.2.2.2.2.1 c9.2.2.2.2.2.2.2.2.2.2.2.2.2.2.2.2.2.2.2.2.2.2.2.2.2.2.2.2.2.2.2.2
noncomputable def HkD : HkT := ((default), (w00), (default), ([]), (fun _ => none), (fun _ => none), (fun _ => none), ([]), (fun _ => []), ((0 : Nat)), ((0 : Int)), ((0 : Int)), ((0 : Int)), ((0 : Nat)), ((0 : Nat)), ((0 : Nat)), ((0 : Nat)), ((0 : Nat)), ((0 : Nat)), (none), (Str.empty), (default), ((0 : Nat)), (Value.none), ([]), ([]), (callerA), (default), (default), ((0 : Nat)), (fun _ => none), ({}), (fun _ _ => True))
@[irreducible] noncomputable def HkC : HkT := hkEps HkD HkP
noncomputable def prog : Program := HkC.1
noncomputable def w : World := HkC.2.1
noncomputable def p : Program := HkC.2.2.1
noncomputable def loose : List Str := HkC.2.2.2.1
noncomputable def mean : ExcName → Option Value := HkC.2.2.2.2.1
noncomputable def mg : Str → Option Value := HkC.2.2.2.2.2.1
noncomputable def mb : Str → Option Value := HkC.2.2.2.2.2.2.1
noncomputable def news : List (Addr × Obj) := HkC.2.2.2.2.2.2.2.1
noncomputable def gn : Obj → List (Addr × Obj) := HkC.2.2.2.2.2.2.2.2.1
noncomputable def src : Addr := HkC.2.2.2.2.2.2.2.2.2.1
noncomputable def x : Int := HkC.2.2.2.2.2.2.2.2.2.2.1
noncomputable def y : Int := HkC.2.2.2.2.2.2.2.2.2.2.2.1
noncomputable def top : Int := HkC.2.2.2.2.2.2.2.2.2.2.2.2.1
noncomputable def tx : Tok := HkC.2.2.2.2.2.2.2.2.2.2.2.2.2.1
noncomputable def ty : Tok := HkC.2.2.2.2.2.2.2.2.2.2.2.2.2.2.1
noncomputable def t : Tok := HkC.2.2.2.2.2.2.2.2.2.2.2.2.2.2.2.1
noncomputable def n : Nat := HkC.2.2.2.2.2.2.2.2.2.2.2.2.2.2.2.2.1
noncomputable def dp : Nat := HkC.2.2.2.2.2.2.2.2.2.2.2.2.2.2.2.2.2.1
noncomputable def un : Nat := HkC.2.2.2.2.2.2.2.2.2.2.2.2.2.2.2.2.2.2.1
noncomputable def gd : Option (List Code) := HkC.2.2.2.2.2.2.2.2.2.2.2.2.2.2.2.2.2.2.2.1
noncomputable def cn : Str := HkC.2.2.2.2.2.2.2.2.2.2.2.2.2.2.2.2.2.2.2.2.1
noncomputable def cs : Scope := HkC.2.2.2.2.2.2.2.2.2.2.2.2.2.2.2.2.2.2.2.2.2.1
noncomputable def a : Addr := HkC.2.2.2.2.2.2.2.2.2.2.2.2.2.2.2.2.2.2.2.2.2.2.1
noncomputable def ccd : Value := HkC.2.2.2.2.2.2.2.2.2.2.2.2.2.2.2.2.2.2.2.2.2.2.2.1
noncomputable def cl : List (Str × Addr) := HkC.2.2.2.2.2.2.2.2.2.2.2.2.2.2.2.2.2.2.2.2.2.2.2.2.1
noncomputable def outer : List Env := HkC.2.2.2.2.2.2.2.2.2.2.2.2.2.2.2.2.2.2.2.2.2.2.2.2.2.1
noncomputable def A₀ : Around := HkC.2.2.2.2.2.2.2.2.2.2.2.2.2.2.2.2.2.2.2.2.2.2.2.2.2.2.1
noncomputable def base : Heap := HkC.2.2.2.2.2.2.2.2.2.2.2.2.2.2.2.2.2.2.2.2.2.2.2.2.2.2.2.1
noncomputable def h₀ : Heap := HkC.2.2.2.2.2.2.2.2.2.2.2.2.2.2.2.2.2.2.2.2.2.2.2.2.2.2.2.2.1
noncomputable def L : Addr := HkC.2.2.2.2.2.2.2.2.2.2.2.2.2.2.2.2.2.2.2.2.2.2.2.2.2.2.2.2.2.1
noncomputable def m : Str → Option Value := HkC.2.2.2.2.2.2.2.2.2.2.2.2.2.2.2.2.2.2.2.2.2.2.2.2.2.2.2.2.2.2.1
noncomputable def s : Shared := HkC.2.2.2.2.2.2.2.2.2.2.2.2.2.2.2.2.2.2.2.2.2.2.2.2.2.2.2.2.2.2.2.1
noncomputable def Q : Value → Shared → Prop := HkC.2.2.2.2.2.2.2.2.2.2.2.2.2.2.2.2.2.2.2.2.2.2.2.2.2.2.2.2.2.2.2.2
theorem HkAt : HkP0 prog w p loose mean mg mb news gn src x y top tx ty t n dp un gd cn cs a ccd cl outer A₀ base h₀ L m s Q := by
  unfold HkP0
  intro U hx hy0 hy h0 h1 B F X N T hk hd hu hret
  have hz := fillK; revert hz; k_fill; intro _
  k_with_none
  w_top off
  k_with "*" => ((with_reducible show wpAny _ _ _ _ _ (Shared.mk _ _ _ (_ + _ + _) _)); refine st_norm (s0 := s) rfl rfl rfl fun _ => ?_)
  k_with "execs cons" => (k_here; first | ((rename News _ _ _ _ => N6); dsimp only at N6) | ((rename Fr _ _ _ _ => F6); dsimp only at F6))
  have hS : MySub [(src, srcO x tx y ty n)] := trivial
  have hmem : ∀ q ∈ [(src, srcO x tx y ty n)], q ∈ news := by simpa using updF_mem U
  refine wpAny_call ?_
  w_top off
  k_dflt (refine' code_sub ?kS ?k1 ?k2 ?k3 ?k4 ?k4s ?k5 ?kA ?kF ?kK ?k6 ?k7 ?k8 ?k9 ?kB ?_ ?c2 ?c3 ?c4 ?c5; (case kS => assumption); (case kA => exact rfl); (case kF => exact rfl); (case kK => assumption); (case k1 => k_asm); (case k2 => k_asm); (case k3 => k_asm); (case k4 => k_asm); (case k4s => first | exact List.forall_mem_nil _ | assumption); (case k5 => k_asm); (case k6 => k_is); (case k7 => k_is); (case k8 => ktr_room); (case k9 => exact BindsTo.of_eq rfl); (case c5 => decide); (case kB => exact locs rfl); (case c2 => exact rfl); (case c3 => exact rfl); (case c4 => exact rfl); k_whole; intro g' L' h' tk' FG' F' N' B' X' T'; (try dsimp only); (try k_lift B'); (try k_fold))
  k_steps
  · exact hret _ _ _ _ _ _ _ (Int.fmod_nonneg_of_pos _ h0) (Int.fmod_lt_of_pos _ h0) (by show 0 ≤ x.fdiv top; exact Int.fdiv_nonneg hx (by omega)) hy0 hy _ _ (by assumption) (Kept.upd (by assumption) N U (by assumption))
  · exact hret _ _ _ _ _ _ _ (Int.fmod_nonneg_of_pos _ h0) (Int.fmod_lt_of_pos _ h0) hx (mod_rng _).1 (mod_rng _).2 _ _ (by assumption) (Kept.upd (by assumption) N U (by assumption))
theorem HkEq : HkC = hkEps HkD HkP := by unfold HkC; rfl
end Hktakedoes
theorem take_does {prog : Program} {w : World} {p : Program} {loose : List Str} {mean : ExcName → Option Value} {mg mb : Str → Option Value} (news : List (Addr × Obj)) (gn : Obj → List (Addr × Obj)) (src : Addr) (x y top : Int) (tx ty t : Tok) (n : Nat) (U : UpdF src (srcO x tx y ty n) news gn) (hx : 0 ≤ x) (hy0 : 0 ≤ y) (hy : y < 2147483647) (h0 : 0 < top) (h1 : top ≤ 100) :
    Does prog w (Mine.kk.heap_1 w.params) p loose mean mg mb (.ref 118) [.ref src, .int top t] news 1 fun K => ∀ d t x' tx' y' ty' n', 0 ≤ d → d < top → 0 ≤ x' → 0 ≤ y' → y' < 2147483647 → K (.int d t) (gn (srcO x' tx' y' ty' n')) :=
  fun dp un gd cn cs a ccd cl outer A₀ base h₀ L m s Q => hkAll (P := Hktakedoes.HkP) Hktakedoes.HkEq Hktakedoes.HkAt (prog, w, p, loose, mean, mg, mb, news, gn, src, x, y, top, tx, ty, t, n, dp, un, gd, cn, cs, a, ccd, cl, outer, A₀, base, h₀, L, m, s, Q) U hx hy0 hy h0 h1
section
variable {prog : Program} {w : World} {p : Program} {loose : List Str} {mean : ExcName → Option Value} {mg mb : Str → Option Value}
end
end Mine
end
section
set_option linter.unusedVariables false
open PySem PySem.W PyProof.Rows PySem.Calls
set_option maxRecDepth 100000
set_option maxHeartbeats 2000000
namespace Mine
theorem Kept.updS {d : Addr} {o o' : Obj} {others news : List (Addr × Obj)} {g : Obj → List (Addr × Obj)} {h₀ h h' : Heap} {L : Addr} (k : Kept ((d, o) :: others) h h') (N : News h₀ L h news) (U : UpdF d o news g) (ho : ∀ q ∈ others, q ∈ news) (N' : News h₀ L h' ((d, o') :: others)) : News h₀ L h' (g o') := by
  obtain ⟨pre, post, e1, e2, e3, e4⟩ := U.split
  intro q hq
  rw [e2] at hq
  have kk : ∀ q ∈ news, q.1 ≠ d → h'.get? q.1 = some q.2 ∧ q.1 ≠ L ∧ h₀.get? q.1 = none := fun q hq hn => by
    by_cases hin : q.1 ∈ others.map (·.1)
    · obtain ⟨q2, hq2, he⟩ := List.mem_map.mp hin
      have e5 := (N _ (ho _ hq2)).1
      have e6 := (N' q2 (.tail _ hq2)).1
      have e7 := (N _ hq).1
      rw [he] at e5 e6
      rw [e7] at e5
      have e8 : q.2 = q2.2 := by injection e5
      exact ⟨by rw [e8]; exact e6, (N q hq).2⟩
    · refine ⟨k _ _ (N q hq).1 ?_, (N q hq).2⟩
      simp only [List.map_cons, List.mem_cons, not_or]
      exact ⟨hn, hin⟩
  rcases List.mem_append.mp hq with hq | hq
  · exact kk q (by rw [e1]; exact List.mem_append_left _ hq) (e3 q hq)
  · rcases List.mem_cons.mp hq with rfl | hq
    · exact N' _ (.head _)
    · exact kk q (by rw [e1]; exact List.mem_append_right _ (.tail _ hq)) (e4 q hq)
theorem any_item {prog : Program} {w : World} {A : Around} {E : Value → Shared → Prop} {s : Shared} {value slice : PySem.Expr} {h₀ : Heap} {L l : Addr} {news : List (Addr × Obj)} {vs : List Value} {n : Nat} {i : Int} {u : Tok} {Q : Value → Shared → Prop}
    (N : News h₀ L s.heap news) (hm : (l, listOf vs.toArray n) ∈ news) (h0 : 0 ≤ i) (h1 : i < (vs.length : Int)) (hf : i < 1000) (h : ∀ v ∈ vs, Q v s)
    (hs : subscripted slice false (.ref l) (.int i u) = operate [.ref l, .int i u] (getItem (.ref l) (.int i u)) := by with_unfolding_all rfl) :
    wpAny (model prog w) A (subscriptTail value slice (.ref l) (.int i u)) Q E s := by
  have hl : s.heap.IsList l vs.toArray := ⟨_, (N _ hm).1, rfl, n, rfl⟩
  have hlt : i.toNat < vs.length := by omega
  exact tail_any hl.typeIs slot_list_getitem.lookup (wpAny_getItem_list hl h0 (by omega) (x := vs[i.toNat]) (by simp [hlt]) (h _ (List.getElem_mem hlt))) hs
theorem len_any {prog : Program} {w : World} {A : Around} {E : Value → Shared → Prop} {s : Shared} {h₀ : Heap} {L l : Addr} {news : List (Addr × Obj)} {vs : List Value} {n : Nat} {Q : Value → Shared → Prop}
    (N : News h₀ L s.heap news) (hm : (l, listOf vs.toArray n) ∈ news) (h1 : vs.length ≤ 1000) (h : Q (.int (vs.length : Int) (s.toks + 1)) { s with toks := s.toks + 1 + 1 }) :
    wpAny (model prog w) A (call (.builtin "len") [.ref l]) Q E s := by
  have hl : s.heap.IsList l vs.toArray := ⟨_, (N _ hm).1, rfl, n, rfl⟩
  exact len_list hl (by rw [List.size_toArray]; omega) (by rw [List.size_toArray]; exact h)
section
variable {prog : Program} {w : World} {p : Program} {loose : List Str} {mean : ExcName → Option Value} {mg mb : Str → Option Value}
end
namespace HklawOnedoes
abbrev HkT : Type := (Program) × (World) × (Program) × (List Str) × (ExcName → Option Value) × (Str → Option Value) × (Str → Option Value) × (List (Addr × Obj)) × (Obj → List (Addr × Obj)) × (Addr) × (Addr) × (Int) × (Int) × (Tok) × (Tok) × (Nat) × (Nat) × (List Value) × (Nat) × (Nat) × (Option (List Code)) × (Str) × (Scope) × (Addr) × (Value) × (List (Str × Addr)) × (List Env) × (Around) × (Heap) × (Heap) × (Addr) × (Str → Option Value) × (Shared) × (Value → Shared → Prop)
def HkP0 (prog : Program) (w : World) (p : Program) (loose : List Str) (mean : ExcName → Option Value) (mg : Str → Option Value) (mb : Str → Option Value) (news : List (Addr × Obj)) (gn : Obj → List (Addr × Obj)) (src : Addr) (b : Addr) (x : Int) (y : Int) (tx : Tok) (ty : Tok) (n : Nat) (nn : Nat) (vs : List Value) (dp : Nat) (un : Nat) (gd : Option (List Code)) (cn : Str) (cs : Scope) (a : Addr) (ccd : Value) (cl : List (Str × Addr)) (outer : List Env) (A₀ : Around) (base : Heap) (h₀ : Heap) (L : Addr) (m : Str → Option Value) (s : Shared) (Q : Value → Shared → Prop) : Prop := ∀ (U : UpdF src (srcO x tx y ty n) news gn) (M : (b, listOf vs.toArray nn) ∈ news) (hne : @Ne Nat src b) (hx : 0 ≤ x) (hy0 : 0 ≤ y) (hy : y < 2147483647) (h0 : 0 < vs.length) (h1 : vs.length ≤ 100) (B : Below A₀ base outer h₀) (F : Fr h₀ L s.heap m) (X : (Mine.kk.heap_1 w.params).In h₀) (N : News h₀ L s.heap news) (T : Top p loose mean mg mb h₀) (hk : cs.kind = .function) (hd : dp + 2 < recursionLimit) (hu : un + 8 * 2 < cLine) (hret : (fun (K : Value → List (Addr × Obj) → Prop) => ∀ v x' tx' y' ty' n', v ∈ vs → 0 ≤ x' → 0 ≤ y' → y' < 2147483647 → K v (gn (srcO x' tx' y' ty' n'))) fun v news' => ∀ h' tk', Fr h₀ L h' m → News h₀ L h' news' → Q v { s with heap := h', toks := tk' }), wpAny (model prog w) (ktrTop dp un gd cn cs L a ccd cl outer) (call (.ref 125) [.ref src, .ref b]) Q (fun _ _ => False) s
def HkP (c9 : HkT) : Prop := HkP0 c9.1 c9.2.1 c9.2.2.1 c9.2.2.2.1 c9.2.2.2.2.1 c9.2.2.2.2.2.1 c9.2.2.2.2.2.2.1 c9.2.2.2.2.2.2.2.1 c9.2.2.2.2.2.2.2.2.1 c9.2.2.2.2.2.2.2.2.2.1 c9.2.2.2.2.2.2.2.2.2.2.1 c9.2.2.2.2.2.2.2.2.2.2.2.1 c9.2.2.2.2.2.2.2.2.2.2.2.2.1 c9.2.2.2.2.2.2.2.2.2.2.2.2.2.1 c9.2.2.2.2.2.2.2.2.2.2.2.2.2.2.1 c9.2.2.2.2.2.2.2.2.2.2.2.2.2.2.2.1 c9.2.2.2.2.2.2.2.2.2.2.2.2.2.2.2.2.1 c9.2.2.2.2.2.2.2.2.2.2.2.2.2.2.2.2.2.1 c9.2.2.2.2.2.2.2.2.2.2.2.2.2.2.2.2.2.2.1 c9.2.2.2.2.2.2.2.2.2.2.2.2.2.2.2.2.2.2.2.1 c9.2.2.2.2.2.2.2.2.2.2.2.2.2.2.2.2.2.2.2.2.1 c9.2.2.2.2.2.2.2.2.2.2.2.2.2.2.2.2.2.2.2.2.2.1 c9.2.2.2.2.2.2.2.2.2.2.2.2.2.2.2.2.2.2.2.2.2.2.1 c9.2.2.2.2.2.2.2.2.2.2.2.2.2.2.2.2.2.2.2.2.2.2.2.1 c9.2.2.2.2.2.2.2.2.2.2.2.2.2.2.2.2.2.2.2.2.2.2.2.2.1 c9.2.2.2.2.2.2.2.2.2.2.2.2.2.2.2.2.2.2.2.2.2.2.2.2.2.1 c9.2.2.2.2.2.2.2.2.2.2.2.2.2.2.2.2.2.2.2.2.2.2.2.2.2.2.1 c9.2.2.2.2.2.2.2.2.2.2.2.2.2.2.2.2.2.2.2.2.2.2.2.2.2.2.2.1 c9.2.2.2.2.2.2.2.2.2.2.2.2.2.2.2.2.2.2.2.2.2.2.2.2.2.2.2.2.1 c9.2.2.2.2.2.2.2.2.2.2.2.2.2.2.2.2.2.2.2.2.2.2.2.2.2.2.2.2.2.1 c9.2.2.2.2.2.2.2.2.2.2.2.2.2.2.2.2.2.2.2.2.2.2.2.2.2.2.2.2.2.2.1 c9.2.2.2.2.2.2.2.2.2.2.2.2.2.2.2.2.2.2.2.2.2.2.2.2.2.2.2.2.2.2.2.1 c9.2.2.2.2.2.2.2.2.2.2.2.2.2.2.2.2.2.2.2.2.2.2.2.2.2.2.2.2.2.2.2.2.1 c9.2.2.2.2.2.2.2.2.2.2.2.2.2.2.2.2.2.2.2.2.2.2.2.2.2.2.2.2.2.2.2.2.2
noncomputable def HkD : HkT := ((default), (w00), (default), ([]), (fun _ => none), (fun _ => none), (fun _ => none), ([]), (fun _ => []), ((0 : Nat)), ((0 : Nat)), ((0 : Int)), ((0 : Int)), ((0 : Nat)), ((0 : Nat)), ((0 : Nat)), ((0 : Nat)), ([]), ((0 : Nat)), ((0 : Nat)), (none), (Str.empty), (default), ((0 : Nat)), (Value.none), ([]), ([]), (callerA), (default), (default), ((0 : Nat)), (fun _ => none), ({}), (fun _ _ => True))
@[irreducible] noncomputable def HkC : HkT := hkEps HkD HkP
noncomputable def prog : Program := HkC.1
noncomputable def w : World := HkC.2.1
noncomputable def p : Program := HkC.2.2.1
noncomputable def loose : List Str := HkC.2.2.2.1
noncomputable def mean : ExcName → Option Value := HkC.2.2.2.2.1
noncomputable def mg : Str → Option Value := HkC.2.2.2.2.2.1
noncomputable def mb : Str → Option Value := HkC.2.2.2.2.2.2.1
noncomputable def news : List (Addr × Obj) := HkC.2.2.2.2.2.2.2.1
noncomputable def gn : Obj → List (Addr × Obj) := HkC.2.2.2.2.2.2.2.2.1
noncomputable def src : Addr := HkC.2.2.2.2.2.2.2.2.2.1
noncomputable def b : Addr := HkC.2.2.2.2.2.2.2.2.2.2.1
noncomputable def x : Int := HkC.2.2.2.2.2.2.2.2.2.2.2.1
noncomputable def y : Int := HkC.2.2.2.2.2.2.2.2.2.2.2.2.1
noncomputable def tx : Tok := HkC.2.2.2.2.2.2.2.2.2.2.2.2.2.1
noncomputable def ty : Tok := HkC.2.2.2.2.2.2.2.2.2.2.2.2.2.2.1
noncomputable def n : Nat := HkC.2.2.2.2.2.2.2.2.2.2.2.2.2.2.2.1
noncomputable def nn : Nat := HkC.2.2.2.2.2.2.2.2.2.2.2.2.2.2.2.2.1
noncomputable def vs : List Value := HkC.2.2.2.2.2.2.2.2.2.2.2.2.2.2.2.2.2.1
noncomputable def dp : Nat := HkC.2.2.2.2.2.2.2.2.2.2.2.2.2.2.2.2.2.2.1
noncomputable def un : Nat := HkC.2.2.2.2.2.2.2.2.2.2.2.2.2.2.2.2.2.2.2.1
noncomputable def gd : Option (List Code) := HkC.2.2.2.2.2.2.2.2.2.2.2.2.2.2.2.2.2.2.2.2.1
noncomputable def cn : Str := HkC.2.2.2.2.2.2.2.2.2.2.2.2.2.2.2.2.2.2.2.2.2.1
noncomputable def cs : Scope := HkC.2.2.2.2.2.2.2.2.2.2.2.2.2.2.2.2.2.2.2.2.2.2.1
noncomputable def a : Addr := HkC.2.2.2.2.2.2.2.2.2.2.2.2.2.2.2.2.2.2.2.2.2.2.2.1
noncomputable def ccd : Value := HkC.2.2.2.2.2.2.2.2.2.2.2.2.2.2.2.2.2.2.2.2.2.2.2.2.1
noncomputable def cl : List (Str × Addr) := HkC.2.2.2.2.2.2.2.2.2.2.2.2.2.2.2.2.2.2.2.2.2.2.2.2.2.1
noncomputable def outer : List Env := HkC.2.2.2.2.2.2.2.2.2.2.2.2.2.2.2.2.2.2.2.2.2.2.2.2.2.2.1
noncomputable def A₀ : Around := HkC.2.2.2.2.2.2.2.2.2.2.2.2.2.2.2.2.2.2.2.2.2.2.2.2.2.2.2.1
noncomputable def base : Heap := HkC.2.2.2.2.2.2.2.2.2.2.2.2.2.2.2.2.2.2.2.2.2.2.2.2.2.2.2.2.1
noncomputable def h₀ : Heap := HkC.2.2.2.2.2.2.2.2.2.2.2.2.2.2.2.2.2.2.2.2.2.2.2.2.2.2.2.2.2.1
noncomputable def L : Addr := HkC.2.2.2.2.2.2.2.2.2.2.2.2.2.2.2.2.2.2.2.2.2.2.2.2.2.2.2.2.2.2.1
noncomputable def m : Str → Option Value := HkC.2.2.2.2.2.2.2.2.2.2.2.2.2.2.2.2.2.2.2.2.2.2.2.2.2.2.2.2.2.2.2.1
noncomputable def s : Shared := HkC.2.2.2.2.2.2.2.2.2.2.2.2.2.2.2.2.2.2.2.2.2.2.2.2.2.2.2.2.2.2.2.2.1
noncomputable def Q : Value → Shared → Prop := HkC.2.2.2.2.2.2.2.2.2.2.2.2.2.2.2.2.2.2.2.2.2.2.2.2.2.2.2.2.2.2.2.2.2
theorem HkAt : HkP0 prog w p loose mean mg mb news gn src b x y tx ty n nn vs dp un gd cn cs a ccd cl outer A₀ base h₀ L m s Q := by
  unfold HkP0
  intro U M hne hx hy0 hy h0 h1 B F X N T hk hd hu hret
  have hz := fillK; revert hz; k_fill; intro _
  k_with_none
  w_top off
  k_with "*" => ((with_reducible show wpAny _ _ _ _ _ (Shared.mk _ _ _ (_ + _ + _) _)); refine st_norm (s0 := s) rfl rfl rfl fun _ => ?_)
  k_with "execs cons" => (k_here; first | ((rename News _ _ _ _ => N6); dsimp only at N6) | ((rename Fr _ _ _ _ => F6); dsimp only at F6))
  k_with "call ref" => (k_here; k_dflt (refine' Does.use (take_does _ _ _ _ _ _ _ _ _ _ ?U ?h0 ?h1 ?h2 ?h3 ?h4) ?k1 ?k2 ?k3 ?k4 ?k5 ?kK ?kd ?ku ?_; (case k1 => k_asm); (case k2 => k_asm); (case k3 => k_asm); (case k4 => k_asm); (case k5 => k_asm); (case kK => first | exact rfl | assumption); (case kd => ktr_room); (case ku => ktr_units); (case U => k_updF); (case h0 => assumption); (case h1 => assumption); (case h2 => assumption); (case h3 => omega); (case h4 => omega); (try dsimp only)); intro d9 t9 x9 tx9 y9 ty9 n9 hd9 hd9b hx9 hy9 hy9b h9 tk9 F9 N9; (try k_fold))
  k_with "call builtin:len" => (k_here; k_dflt (refine' len_any ?xN ?xm ?x1 ?_; (case xN => k_asm); (case xm => k_mem); (case x1 => assumption)))
  k_with "subscriptTail" => (k_here; k_dflt (refine' any_item ?xN ?xm ?x0 ?x1 ?xf ?_ ?xs; (case xN => k_asm); (case xm => k_mem); (case x0 => assumption); (case x1 => assumption); (case xf => omega); (case xs => with_unfolding_all rfl)); intro v9 hv9)
  have hS : MySub [(src, srcO x tx y ty n), (b, listOf vs.toArray nn)] := trivial
  have hmem : ∀ q ∈ [(src, srcO x tx y ty n), (b, listOf vs.toArray nn)], q ∈ news := by
    intro q hq
    rcases List.mem_cons.mp hq with rfl | hq
    · exact updF_mem U
    · rw [List.mem_singleton.mp hq]; exact M
  have hl1000 : vs.length ≤ 1000 := Nat.le_trans h1 (by decide)
  refine wpAny_call ?_
  w_top off
  k_dflt (refine' code_sub ?kS ?k1 ?k2 ?k3 ?k4 ?k4s ?k5 ?kA ?kF ?kK ?k6 ?k7 ?k8 ?k9 ?kB ?_ ?c2 ?c3 ?c4 ?c5; (case kS => assumption); (case kA => exact rfl); (case kF => exact rfl); (case kK => assumption); (case k1 => k_asm); (case k2 => k_asm); (case k3 => k_asm); (case k4 => k_asm); (case k4s => first | exact List.forall_mem_nil _ | assumption); (case k5 => k_asm); (case k6 => k_is); (case k7 => k_is); (case k8 => ktr_room); (case k9 => exact BindsTo.of_eq rfl); (case c5 => decide); (case kB => exact locs rfl); (case c2 => exact rfl); (case c3 => exact rfl); (case c4 => exact rfl); k_whole; intro g' L' h' tk' FG' F' N' B' X' T'; (try dsimp only); (try k_lift B'); (try k_fold))
  k_steps
  refine hret _ _ _ _ _ _ ?_ ?_ ?_ ?_ _ _ ?_ (Kept.updS (by assumption) N U (by intro q hq; exact hmem q (.tail _ hq)) (by assumption)) <;> assumption
theorem HkEq : HkC = hkEps HkD HkP := by unfold HkC; rfl
end HklawOnedoes
theorem lawOne_does {prog : Program} {w : World} {p : Program} {loose : List Str} {mean : ExcName → Option Value} {mg mb : Str → Option Value} (news : List (Addr × Obj)) (gn : Obj → List (Addr × Obj)) (src b : Addr) (x y : Int) (tx ty : Tok) (n nn : Nat) (vs : List Value) (U : UpdF src (srcO x tx y ty n) news gn) (M : (b, listOf vs.toArray nn) ∈ news) (hne : @Ne Nat src b) (hx : 0 ≤ x) (hy0 : 0 ≤ y) (hy : y < 2147483647) (h0 : 0 < vs.length) (h1 : vs.length ≤ 100) :
    Does prog w (Mine.kk.heap_1 w.params) p loose mean mg mb (.ref 125) [.ref src, .ref b] news 2 fun K => ∀ v x' tx' y' ty' n', v ∈ vs → 0 ≤ x' → 0 ≤ y' → y' < 2147483647 → K v (gn (srcO x' tx' y' ty' n')) :=
  fun dp un gd cn cs a ccd cl outer A₀ base h₀ L m s Q => hkAll (P := HklawOnedoes.HkP) HklawOnedoes.HkEq HklawOnedoes.HkAt (prog, w, p, loose, mean, mg, mb, news, gn, src, b, x, y, tx, ty, n, nn, vs, dp, un, gd, cn, cs, a, ccd, cl, outer, A₀, base, h₀, L, m, s, Q) U M hne hx hy0 hy h0 h1
section
variable {prog : Program} {w : World} {p : Program} {loose : List Str} {mean : ExcName → Option Value} {mg mb : Str → Option Value}
theorem Does.weak {K : Frag} {f : Value} {vs : List Value} {news : List (Addr × Obj)} {c : Nat} {Ret Ret' : (Value → List (Addr × Obj) → Prop) → Prop} (D : Does prog w K p loose mean mg mb f vs news c Ret) (h : ∀ P, Ret' P → Ret P) : Does prog w K p loose mean mg mb f vs news c Ret' := by
  unfold Does at D ⊢
  intro dp un gd cn cs a ccd cl outer A₀ base h₀ L m s Q B F X N T hk hd hu hret
  exact D dp un gd cn cs a ccd cl outer A₀ base h₀ L m s Q B F X N T hk hd hu (h _ hret)
theorem strs_mem {vs : List Value} {ws : List Str} (h : StrsAre vs ws) : ∀ v ∈ vs, ∃ s t, v = .str s t ∧ s ∈ ws := by
  induction h with
  | nil => intro v hv; cases hv
  | cons y t h ih =>
    intro v hv
    rcases List.mem_cons.mp hv with rfl | hv
    · exact ⟨_, _, rfl, .head _⟩
    · obtain ⟨s, t, e, hm⟩ := ih v hv; exact ⟨s, t, e, .tail _ hm⟩
theorem ints_mem {vs : List Value} {ws : List Int} (h : IntsAre vs ws) : ∀ v ∈ vs, ∃ s t, v = .int s t ∧ s ∈ ws := by
  induction h with
  | nil => intro v hv; cases hv
  | cons y t h ih =>
    intro v hv
    rcases List.mem_cons.mp hv with rfl | hv
    · exact ⟨_, _, rfl, .head _⟩
    · obtain ⟨s, t, e, hm⟩ := ih v hv; exact ⟨s, t, e, .tail _ hm⟩
theorem lawOneS_does (news : List (Addr × Obj)) (gn : Obj → List (Addr × Obj)) (src b : Addr) (x y : Int) (tx ty : Tok) (n nn : Nat) (vs : List Value) (ws : List Str) (U : UpdF src (srcO x tx y ty n) news gn) (M : (b, listOf vs.toArray nn) ∈ news) (hne : @Ne Nat src b) (hx : 0 ≤ x) (hy0 : 0 ≤ y) (hy : y < 2147483647) (W : StrsAre vs ws) (h0 : 0 < vs.length) (h1 : vs.length ≤ 100) :
    Does prog w (Mine.kk.heap_1 w.params) p loose mean mg mb (.ref 125) [.ref src, .ref b] news 2 fun K => ∀ v t x' tx' y' ty' n', v ∈ ws → 0 ≤ x' → 0 ≤ y' → y' < 2147483647 → K (.str v t) (gn (srcO x' tx' y' ty' n')) :=
  Does.weak (lawOne_does news gn src b x y tx ty n nn vs U M hne hx hy0 hy h0 h1) fun P h v x' tx' y' ty' n' hv => by
    obtain ⟨s, t, rfl, hm⟩ := strs_mem W v hv
    exact h s t x' tx' y' ty' n' hm
theorem lawOneI_does (news : List (Addr × Obj)) (gn : Obj → List (Addr × Obj)) (src b : Addr) (x y : Int) (tx ty : Tok) (n nn : Nat) (vs : List Value) (ws : List Int) (U : UpdF src (srcO x tx y ty n) news gn) (M : (b, listOf vs.toArray nn) ∈ news) (hne : @Ne Nat src b) (hx : 0 ≤ x) (hy0 : 0 ≤ y) (hy : y < 2147483647) (W : IntsAre vs ws) (h0 : 0 < vs.length) (h1 : vs.length ≤ 100) :
    Does prog w (Mine.kk.heap_1 w.params) p loose mean mg mb (.ref 125) [.ref src, .ref b] news 2 fun K => ∀ v t x' tx' y' ty' n', v ∈ ws → 0 ≤ x' → 0 ≤ y' → y' < 2147483647 → K (.int v t) (gn (srcO x' tx' y' ty' n')) :=
  Does.weak (lawOne_does news gn src b x y tx ty n nn vs U M hne hx hy0 hy h0 h1) fun P h v x' tx' y' ty' n' hv => by
    obtain ⟨s, t, rfl, hm⟩ := ints_mem W v hv
    exact h s t x' tx' y' ty' n' hm
end
end Mine
end
section
set_option linter.unusedVariables false
open PySem PySem.W PyProof.Rows PySem.Calls
set_option maxRecDepth 100000
set_option maxHeartbeats 2000000
namespace Mine
/-- the law's figures: what is left, how many stand, what is found -/
inductive FigR (se : Str) (sz le : Int) : Int → Int → Str → Str → Prop
  | done {l m : Int} {f : Str} : ¬ 0 < l → (¬ m < if le > 1 then le else 1) → FigR se sz le l m f f
  | sep {l m : Int} {f r : Str} : (0 < l ∨ m < if le > 1 then le else 1) → 0 < m → (se != Str.ofString "") = true → 0 < sz → m.fmod sz = 0 →
      FigR se sz le (l.fdiv 10) (m + 1) (Txt.item (Str.ofString "0123456789") (l.fmod 10) ++ (se ++ f)) r → FigR se sz le l m f r
  | no {l m : Int} {f r : Str} : (0 < l ∨ m < if le > 1 then le else 1) → (¬ 0 < m ∨ (se != Str.ofString "") = false ∨ ¬ 0 < sz ∨ m.fmod sz ≠ 0) →
      FigR se sz le (l.fdiv 10) (m + 1) (Txt.item (Str.ofString "0123456789") (l.fmod 10) ++ f) r → FigR se sz le l m f r
theorem fig_bd {n l m le : Int} {f z : Str} (h0 : 0 ≤ l) (h1 : 0 ≤ m) (h2 : l + m ≤ n + 3) (hn : 0 ≤ n) (h3 : le ≤ 3) (hc : 0 < l ∨ m < if le > 1 then le else 1) (hf : (f.length : Int) ≤ 3 * m) (hz : z.length ≤ f.length + 3) :
    0 ≤ l.fdiv 10 ∧ 0 ≤ m + 1 ∧ l.fdiv 10 + (m + 1) ≤ n + 3 ∧ (z.length : Int) ≤ 3 * (m + 1) := by
  have e : l.fdiv 10 = l / 10 := Int.fdiv_eq_ediv_of_nonneg _ (by omega)
  have c : 0 < l ∨ m < 3 := by
    rcases hc with c | c
    · exact .inl c
    · right; split at c <;> omega
  exact ⟨by omega, by omega, by omega, by omega⟩
theorem fig_sep {n l m le sz : Int} {se f : Str} (h0 : 0 ≤ l) (h1 : 0 ≤ m) (h2 : l + m ≤ n + 3) (hf : (f.length : Int) ≤ 3 * m) (k : ∀ r, FigR se sz le l m f r → FigR se sz le n 0 (Str.ofString "") r) (hn : 0 ≤ n) (h3 : le ≤ 3) (h6 : se.length ≤ 2)
    (hc : 0 < l ∨ m < if le > 1 then le else 1) (a1 : 0 < m) (a2 : (se != Str.ofString "") = true) (a3 : 0 < sz) (a4 : m.fmod sz = 0) :
    0 ≤ l.fdiv 10 ∧ 0 ≤ m + 1 ∧ l.fdiv 10 + (m + 1) ≤ n + 3 ∧ ((Txt.item (Str.ofString "0123456789") (l.fmod 10) ++ (se ++ f) : Str).length : Int) ≤ 3 * (m + 1) ∧
      ∀ r, FigR se sz le (l.fdiv 10) (m + 1) (Txt.item (Str.ofString "0123456789") (l.fmod 10) ++ (se ++ f)) r → FigR se sz le n 0 (Str.ofString "") r := by
  have b := fig_bd (z := Txt.item (Str.ofString "0123456789") (l.fmod 10) ++ (se ++ f)) h0 h1 h2 hn h3 hc hf (by rw [Str.length_append, Str.length_append]; have e : (Txt.item (Str.ofString "0123456789") (l.fmod 10)).length = 1 := rfl; omega)
  exact ⟨b.1, b.2.1, b.2.2.1, b.2.2.2, fun r hr => k r (.sep hc a1 a2 a3 a4 hr)⟩
theorem fig_no {n l m le sz : Int} {se f : Str} (h0 : 0 ≤ l) (h1 : 0 ≤ m) (h2 : l + m ≤ n + 3) (hf : (f.length : Int) ≤ 3 * m) (k : ∀ r, FigR se sz le l m f r → FigR se sz le n 0 (Str.ofString "") r) (hn : 0 ≤ n) (h3 : le ≤ 3) (h6 : se.length ≤ 2)
    (hc : 0 < l ∨ m < if le > 1 then le else 1) (a1 : ¬ 0 < m ∨ (se != Str.ofString "") = false ∨ ¬ 0 < sz ∨ m.fmod sz ≠ 0) :
    0 ≤ l.fdiv 10 ∧ 0 ≤ m + 1 ∧ l.fdiv 10 + (m + 1) ≤ n + 3 ∧ ((Txt.item (Str.ofString "0123456789") (l.fmod 10) ++ f : Str).length : Int) ≤ 3 * (m + 1) ∧
      ∀ r, FigR se sz le (l.fdiv 10) (m + 1) (Txt.item (Str.ofString "0123456789") (l.fmod 10) ++ f) r → FigR se sz le n 0 (Str.ofString "") r := by
  have b := fig_bd (z := Txt.item (Str.ofString "0123456789") (l.fmod 10) ++ f) h0 h1 h2 hn h3 hc hf (by rw [Str.length_append]; have e : (Txt.item (Str.ofString "0123456789") (l.fmod 10)).length = 1 := rfl; omega)
  exact ⟨b.1, b.2.1, b.2.2.1, b.2.2.2, fun r hr => k r (.no hc a1 hr)⟩
/-- what the text found is behind the separator's test -/
def FigC (se : Str) (sz m : Int) (f f' : Str) : Prop := (0 < m ∧ (se != Str.ofString "") = true ∧ 0 < sz ∧ m.fmod sz = 0 ∧ f' = se ++ f) ∨ ((¬ 0 < m ∨ (se != Str.ofString "") = false ∨ ¬ 0 < sz ∨ m.fmod sz ≠ 0) ∧ f' = f)
theorem figC_yes {se f : Str} {sz m : Int} (a1 : 0 < m) (a2 : (se != Str.ofString "") = true) (a3 : 0 < sz) (a4 : m.fmod sz = 0) : FigC se sz m f (se ++ f) := .inl ⟨a1, a2, a3, a4, rfl⟩
theorem figC_no {se f : Str} {sz m : Int} (a : ¬ 0 < m ∨ (se != Str.ofString "") = false ∨ ¬ 0 < sz ∨ m.fmod sz ≠ 0) : FigC se sz m f f := .inr ⟨a, rfl⟩
theorem fig_step {n l m le sz : Int} {se f f' : Str} (h0 : 0 ≤ l) (h1 : 0 ≤ m) (h2 : l + m ≤ n + 3) (hf : (f.length : Int) ≤ 3 * m) (k : ∀ r, FigR se sz le l m f r → FigR se sz le n 0 (Str.ofString "") r) (hn : 0 ≤ n) (h3 : le ≤ 3) (h6 : se.length ≤ 2)
    (hc : 0 < l ∨ m < if le > 1 then le else 1) (hP : FigC se sz m f f') :
    0 ≤ l.fdiv 10 ∧ 0 ≤ m + 1 ∧ l.fdiv 10 + (m + 1) ≤ n + 3 ∧ ((Txt.item (Str.ofString "0123456789") (l.fmod 10) ++ f' : Str).length : Int) ≤ 3 * (m + 1) ∧
      ∀ r, FigR se sz le (l.fdiv 10) (m + 1) (Txt.item (Str.ofString "0123456789") (l.fmod 10) ++ f') r → FigR se sz le n 0 (Str.ofString "") r := by
  rcases hP with ⟨a1, a2, a3, a4, rfl⟩ | ⟨a, rfl⟩
  · exact fig_sep h0 h1 h2 hf k hn h3 h6 hc a1 a2 a3 a4
  · exact fig_no h0 h1 h2 hf k hn h3 h6 hc a
def FigMid (h₀ : Heap) (L : Addr) (news : List (Addr × Obj)) (mp : Str → Option Value) (P : Str → Prop) (s₀ : Shared) (fl : Flow) (s' : Shared) : Prop :=
  fl = .next ∧ ∃ f t h tk, s' = { s₀ with heap := h, toks := tk } ∧ P f ∧ Fr h₀ L h (fun y => if y = Str.ofString "found" then some (.str f t) else mp y) ∧ News h₀ L h news
theorem fig_new {h₀ h : Heap} {L : Addr} {news : List (Addr × Obj)} {mp : Str → Option Value} {P : Str → Prop} {s₀ : Shared} {f : Str} {t tk : Tok} (hP : P f) (F : Fr h₀ L h (fun y => if y = Str.ofString "found" then some (.str f t) else mp y)) (N : News h₀ L h news) : FigMid h₀ L news mp P s₀ .next { s₀ with heap := h, toks := tk } :=
  ⟨rfl, f, t, h, tk, rfl, hP, F, N⟩
theorem fig_stay {h₀ h : Heap} {L : Addr} {news : List (Addr × Obj)} {mp : Str → Option Value} {P : Str → Prop} {s₀ : Shared} {f : Str} {t tk : Tok} (hm : mp (Str.ofString "found") = some (.str f t)) (hP : P f) (F : Fr h₀ L h mp) (N : News h₀ L h news) : FigMid h₀ L news mp P s₀ .next { s₀ with heap := h, toks := tk } :=
  fig_new (t := t) hP (by
    have e : (fun y => if y = Str.ofString "found" then some (Value.str f t) else mp y) = mp := by
      funext y
      by_cases h1 : y = Str.ofString "found"
      · rw [if_pos h1, h1, hm]
      · rw [if_neg h1]
    rw [e]; exact F) N
theorem fig_join {prog : Program} {w : World} {A : Around} {E : Value → Shared → Prop} {s : Shared} {env : Env} {h₀ : Heap} {L : Addr} {news : List (Addr × Obj)} {mp : Str → Option Value} {c : Expr} {b els rest : List Stmt} {pos : Pos} {Q : Flow → Shared → Prop} {m : Int} {f : Str} {tm tf : Tok} (se : Str) (sz : Int) (h6 : se.length ≤ 2)
    (F : Fr h₀ L s.heap mp) (N : News h₀ L s.heap news) (hm : mp (Str.ofString "many") = some (.int m tm)) (hf : mp (Str.ofString "found") = some (.str f tf))
    (hI : wpAny (model prog w) A (exec (.If c b els pos) env) (FigMid h₀ L news mp (FigC se sz m f) s) E s)
    (hR : ∀ f' t h tk, FigC se sz m f f' → f'.length ≤ f.length + 2 → Fr h₀ L h (fun y => if y = Str.ofString "found" then some (.str f' t) else mp y) → News h₀ L h news → wpAny (model prog w) A (execs rest env) Q E { s with heap := h, toks := tk }) :
    wpAny (model prog w) A (execs (.If c b els pos :: rest) env) Q E s :=
  wpAny_execs_cons (wpAny_mono hI (fun fl s' ⟨e, f', t, h, tk, e2, hp, F', N'⟩ => by
    subst e e2
    refine hR f' t h tk hp ?_ F' N'
    rcases hp with ⟨_, _, _, _, rfl⟩ | ⟨_, rfl⟩
    · rw [Str.length_append]; omega
    · omega) fun _ _ x => x)
theorem fig_start {n le sz : Int} {se : Str} (h : 0 ≤ n) : 0 ≤ n ∧ (0 : Int) ≤ 0 ∧ n + 0 ≤ n + 3 ∧ ((Str.ofString "").length : Int) ≤ 3 * 0 ∧ ∀ r, FigR se sz le n 0 (Str.ofString "") r → FigR se sz le n 0 (Str.ofString "") r :=
  ⟨h, by omega, by omega, by decide, fun _ h => h⟩
theorem fig_meas {l m le : Int} (h0 : 0 ≤ l) (h1 : 0 ≤ m) (h3 : le ≤ 3) (hc : 0 < l ∨ m < if le > 1 then le else 1) : (l.fdiv 10).toNat + (3 - (m + 1)).toNat < l.toNat + (3 - m).toNat := by
  have e : l.fdiv 10 = l / 10 := Int.fdiv_eq_ediv_of_nonneg _ (by omega)
  have c : 0 < l ∨ m < 3 := by
    rcases hc with c | c
    · exact .inl c
    · right; split at c <;> omega
  omega
section
variable {prog : Program} {w : World} {p : Program} {loose : List Str} {mean : ExcName → Option Value} {mg mb : Str → Option Value}
end
namespace HklawFigdoes
abbrev HkT : Type := (Program) × (World) × (Program) × (List Str) × (ExcName → Option Value) × (Str → Option Value) × (Str → Option Value) × (List (Addr × Obj)) × (Int) × (Int) × (Int) × (Str) × (Tok) × (Tok) × (Tok) × (Tok) × (Nat) × (Nat) × (Option (List Code)) × (Str) × (Scope) × (Addr) × (Value) × (List (Str × Addr)) × (List Env) × (Around) × (Heap) × (Heap) × (Addr) × (Str → Option Value) × (Shared) × (Value → Shared → Prop)
def HkP0 (prog : Program) (w : World) (p : Program) (loose : List Str) (mean : ExcName → Option Value) (mg : Str → Option Value) (mb : Str → Option Value) (news : List (Addr × Obj)) (n : Int) (le : Int) (sz : Int) (se : Str) (t : Tok) (t1 : Tok) (t2 : Tok) (t3 : Tok) (dp : Nat) (un : Nat) (gd : Option (List Code)) (cn : Str) (cs : Scope) (a : Addr) (ccd : Value) (cl : List (Str × Addr)) (outer : List Env) (A₀ : Around) (base : Heap) (h₀ : Heap) (L : Addr) (m : Str → Option Value) (s : Shared) (Q : Value → Shared → Prop) : Prop := ∀ (h0 : 0 ≤ n) (h1 : n < 20000) (h2 : 1 ≤ le) (h3 : le ≤ 3) (h4 : 0 ≤ sz) (h5 : sz ≤ 3) (h6 : se.length ≤ 2) (B : Below A₀ base outer h₀) (F : Fr h₀ L s.heap m) (X : (Mine.kk.heap_1 w.params).In h₀) (N : News h₀ L s.heap news) (T : Top p loose mean mg mb h₀) (hk : cs.kind = .function) (hd : dp + 1 < recursionLimit) (hu : un + 8 * 1 < cLine) (hret : (fun (K : Value → List (Addr × Obj) → Prop) => ∀ r t, FigR se sz le n 0 (Str.ofString "") r → K (.str r t) news) fun v news' => ∀ h' tk', Fr h₀ L h' m → News h₀ L h' news' → Q v { s with heap := h', toks := tk' }), wpAny (model prog w) (ktrTop dp un gd cn cs L a ccd cl outer) (call (.ref 146) [.int n t, .int le t1, .str se t2, .int sz t3]) Q (fun _ _ => False) s
def HkP (c9 : HkT) : Prop := HkP0 c9.1 c9.2.1 c9.2.2.1 c9.2.2.2.1 c9.2.2.2.2.1 c9.2.2.2.2.2.1 c9.2.2.2.2.2.2.1 c9.2.2.2.2.2.2.2.1 c9.2.2.2.2.2.2.2.2.1 c9.2.2.2.2.2.2.2.2.2.1 c9.2.2.2.2.2.2.2.2.2.2.1 c9.2.2.2.2.2.2.2.2.2.2.2.1 c9.2.2.2.2.2.2.2.2.2.2.2.2.1 c9.2.2.2.2.2.2.2.2.2.2.2.2.2.1 c9.2.2.2.2.2.2.2.2.2.2.2.2.2.2.1 c9.2.2.2.2.2.2.2.2.2.2.2.2.2.2.2.1 c9.2.2.2.2.2.2.2.2.2.2.2.2.2.2.2.2.1 c9.2.2.2.2.2.2.2.2.2.2.2.2.2.2.2.2.2.1 c9.2.2.2.2.2.2.2.2.2.2.2.2.2.2.2.2.2.2.1 c9.2.2.2.2.2.2.2.2.2.2.2.2.2.2.2.2.2.2.2.1 c9.2.2.2.2.2.2.2.2.2.2.2.2.2.2.2.2.2.2.2.2.1 c9.2.2.2.2.2.2.2.2.2.2.2.2.2.2.2.2.2.2.2.2.2.1 c9.2.2.2.2.2.2.2.2.2.2.2.2.2.2.2.2.2.2.2.2.2.2.1 c9.2.2.2.2.2.2.2.2.2.2.2.2.2.2.2.2.2.2.2.2.2.2.2.1 c9.2.2.2.2.2.2.2.2.2.2.2.2.2.2.2.2.2.2.2.2.2.2.2.2.1 c9.2.2.2.2.2.2.2.2.2.2.2.2.2.2.2.2.2.2.2.2.2.2.2.2.2.1 c9.2.2.2.2.2.2.2.2.2.2.2.2.2.2.2.2.2.2.2.2.2.2.2.2.2.2.1 c9.2.2.2.2.2.2.2.2.2.2.2.2.2.2.2.2.2.2.2.2.2.2.2.2.2.2.2.1 c9.2.2.2.2.2.2.2.2.2.2.2.2.2.2.2.2.2.2.2.2.2.2.2.2.2.2.2.2.1 c9.2.2.2.2.2.2.2.2.2.2.2.2.2.2.2.2.2.2.2.2.2.2.2.2.2.2.2.2.2.1 c9.2.2.2.2.2.2.2.2.2.2.2.2.2.2.2.2.2.2.2.2.2.2.2.2.2.2.2.2.2.2.1 c9.2.2.2.2.2.2.2.2.2.2.2.2.2.2.2.2.2.2.2.2.2.2.2.2.2.2.2.2.2.2.2
noncomputable def HkD : HkT := ((default), (w00), (default), ([]), (fun _ => none), (fun _ => none), (fun _ => none), ([]), ((0 : Int)), ((0 : Int)), ((0 : Int)), (Str.empty), ((0 : Nat)), ((0 : Nat)), ((0 : Nat)), ((0 : Nat)), ((0 : Nat)), ((0 : Nat)), (none), (Str.empty), (default), ((0 : Nat)), (Value.none), ([]), ([]), (callerA), (default), (default), ((0 : Nat)), (fun _ => none), ({}), (fun _ _ => True))
@[irreducible] noncomputable def HkC : HkT := hkEps HkD HkP
noncomputable def prog : Program := HkC.1
noncomputable def w : World := HkC.2.1
noncomputable def p : Program := HkC.2.2.1
noncomputable def loose : List Str := HkC.2.2.2.1
noncomputable def mean : ExcName → Option Value := HkC.2.2.2.2.1
noncomputable def mg : Str → Option Value := HkC.2.2.2.2.2.1
noncomputable def mb : Str → Option Value := HkC.2.2.2.2.2.2.1
noncomputable def news : List (Addr × Obj) := HkC.2.2.2.2.2.2.2.1
noncomputable def n : Int := HkC.2.2.2.2.2.2.2.2.1
noncomputable def le : Int := HkC.2.2.2.2.2.2.2.2.2.1
noncomputable def sz : Int := HkC.2.2.2.2.2.2.2.2.2.2.1
noncomputable def se : Str := HkC.2.2.2.2.2.2.2.2.2.2.2.1
noncomputable def t : Tok := HkC.2.2.2.2.2.2.2.2.2.2.2.2.1
noncomputable def t1 : Tok := HkC.2.2.2.2.2.2.2.2.2.2.2.2.2.1
noncomputable def t2 : Tok := HkC.2.2.2.2.2.2.2.2.2.2.2.2.2.2.1
noncomputable def t3 : Tok := HkC.2.2.2.2.2.2.2.2.2.2.2.2.2.2.2.1
noncomputable def dp : Nat := HkC.2.2.2.2.2.2.2.2.2.2.2.2.2.2.2.2.1
noncomputable def un : Nat := HkC.2.2.2.2.2.2.2.2.2.2.2.2.2.2.2.2.2.1
noncomputable def gd : Option (List Code) := HkC.2.2.2.2.2.2.2.2.2.2.2.2.2.2.2.2.2.2.1
noncomputable def cn : Str := HkC.2.2.2.2.2.2.2.2.2.2.2.2.2.2.2.2.2.2.2.1
noncomputable def cs : Scope := HkC.2.2.2.2.2.2.2.2.2.2.2.2.2.2.2.2.2.2.2.2.1
noncomputable def a : Addr := HkC.2.2.2.2.2.2.2.2.2.2.2.2.2.2.2.2.2.2.2.2.2.1
noncomputable def ccd : Value := HkC.2.2.2.2.2.2.2.2.2.2.2.2.2.2.2.2.2.2.2.2.2.2.1
noncomputable def cl : List (Str × Addr) := HkC.2.2.2.2.2.2.2.2.2.2.2.2.2.2.2.2.2.2.2.2.2.2.2.1
noncomputable def outer : List Env := HkC.2.2.2.2.2.2.2.2.2.2.2.2.2.2.2.2.2.2.2.2.2.2.2.2.1
noncomputable def A₀ : Around := HkC.2.2.2.2.2.2.2.2.2.2.2.2.2.2.2.2.2.2.2.2.2.2.2.2.2.1
noncomputable def base : Heap := HkC.2.2.2.2.2.2.2.2.2.2.2.2.2.2.2.2.2.2.2.2.2.2.2.2.2.2.1
noncomputable def h₀ : Heap := HkC.2.2.2.2.2.2.2.2.2.2.2.2.2.2.2.2.2.2.2.2.2.2.2.2.2.2.2.1
noncomputable def L : Addr := HkC.2.2.2.2.2.2.2.2.2.2.2.2.2.2.2.2.2.2.2.2.2.2.2.2.2.2.2.2.1
noncomputable def m : Str → Option Value := HkC.2.2.2.2.2.2.2.2.2.2.2.2.2.2.2.2.2.2.2.2.2.2.2.2.2.2.2.2.2.1
noncomputable def s : Shared := HkC.2.2.2.2.2.2.2.2.2.2.2.2.2.2.2.2.2.2.2.2.2.2.2.2.2.2.2.2.2.2.1
noncomputable def Q : Value → Shared → Prop := HkC.2.2.2.2.2.2.2.2.2.2.2.2.2.2.2.2.2.2.2.2.2.2.2.2.2.2.2.2.2.2.2
theorem HkAt : HkP0 prog w p loose mean mg mb news n le sz se t t1 t2 t3 dp un gd cn cs a ccd cl outer A₀ base h₀ L m s Q := by
  unfold HkP0
  intro h0 h1 h2 h3 h4 h5 h6 B F X N T hk hd hu hret
  have hz := fillK; revert hz; k_fill; intro _
  k_with_none
  w_top off
  k_with "*" => ((with_reducible show wpAny _ _ _ _ _ (Shared.mk _ _ _ (_ + _ + _) _)); refine st_norm (s0 := s) rfl rfl rfl fun _ => ?_)
  k_with "execs cons" => (k_here; first | ((rename News _ _ _ _ => N6); dsimp only at N6) | ((rename Fr _ _ _ _ => F6); dsimp only at F6))
  have hS : MySub [] := trivial
  refine wpAny_call ?_
  w_top off
  k_dflt (refine' code_sub ?kS ?k1 ?k2 ?k3 ?k4 ?k4s ?k5 ?kA ?kF ?kK ?k6 ?k7 ?k8 ?k9 ?kB ?_ ?c2 ?c3 ?c4 ?c5; (case kS => assumption); (case kA => exact rfl); (case kF => exact rfl); (case kK => assumption); (case k1 => k_asm); (case k2 => k_asm); (case k3 => k_asm); (case k4 => k_asm); (case k4s => first | exact List.forall_mem_nil _ | assumption); (case k5 => k_asm); (case k6 => k_is); (case k7 => k_is); (case k8 => ktr_room); (case k9 => exact BindsTo.of_eq rfl); (case c5 => decide); (case kB => exact locs rfl); (case c2 => exact rfl); (case c3 => exact rfl); (case c4 => exact rfl); k_whole; intro g' L' h' tk' FG' F' N' B' X' T'; (try dsimp only); (try k_lift B'); (try k_fold))
  k_with "exec While BoolOp cons nil" => k_while (fun script l m f => 0 ≤ l ∧ 0 ≤ m ∧ l + m ≤ n + 3 ∧ (f.length : Int) ≤ 3 * m ∧ ∀ r, FigR se sz le l m f r → FigR se sz le n 0 (Str.ofString "") r) (fun script l m f => l.toNat + (3 - m).toNat) "left" "many" "found"
  k_with "state" => (first
    | exact fig_start h0
    | exact fig_step (by assumption) (by assumption) (by assumption) (by assumption) (by assumption) h0 h3 h6 (by first | exact Or.inl (by assumption) | exact Or.inr (by assumption)) (by assumption))
  k_with "execs cons" => (k_here; (with_reducible show wpAny _ _ (execs (Stmt.If (Expr.BoolOp _ _ _) _ _ _ :: _ :: _) _) _ _ _); k_dflt (refine' fig_join se sz h6 ?xF ?xN ?xm ?xf ?_ ?_; (case xF => k_asm); (case xN => k_asm); (case xm => rfl); (case xf => rfl)); rotate_left; (intro f7 t7 h7 tk7 hP7 hb7 F7 N7); (try k_sweep); rotate_right)
  k_with "FigMid" => k_dflt (first
    | exact fig_stay rfl (figC_no (by first | exact Or.inl (by assumption) | exact Or.inr (Or.inl (by assumption)) | exact Or.inr (Or.inr (Or.inl (by assumption))) | exact Or.inr (Or.inr (Or.inr (by assumption))))) (by assumption) (by assumption)
    | exact fig_new (figC_yes (by assumption) (by assumption) (by assumption) (by assumption)) (by assumption) (by assumption))
  k_with "measure" => k_dflt (exact fig_meas (by assumption) (by assumption) h3 (by first | exact Or.inl (by assumption) | exact Or.inr (by assumption)))
  k_steps
  · exact hret _ _ ((by assumption : ∀ r, FigR se sz le _ _ _ r → FigR se sz le n 0 (Str.ofString "") r) _ (.done (by assumption) (by assumption))) _ _ (by assumption) (Kept.pure (by assumption) N)
theorem HkEq : HkC = hkEps HkD HkP := by unfold HkC; rfl
end HklawFigdoes
theorem lawFig_does {prog : Program} {w : World} {p : Program} {loose : List Str} {mean : ExcName → Option Value} {mg mb : Str → Option Value} (news : List (Addr × Obj)) (n le sz : Int) (se : Str) (t t1 t2 t3 : Tok) (h0 : 0 ≤ n) (h1 : n < 20000) (h2 : 1 ≤ le) (h3 : le ≤ 3) (h4 : 0 ≤ sz) (h5 : sz ≤ 3) (h6 : se.length ≤ 2) :
    Does prog w (Mine.kk.heap_1 w.params) p loose mean mg mb (.ref 146) [.int n t, .int le t1, .str se t2, .int sz t3] news 1 fun K => ∀ r t, FigR se sz le n 0 (Str.ofString "") r → K (.str r t) news :=
  fun dp un gd cn cs a ccd cl outer A₀ base h₀ L m s Q => hkAll (P := HklawFigdoes.HkP) HklawFigdoes.HkEq HklawFigdoes.HkAt (prog, w, p, loose, mean, mg, mb, news, n, le, sz, se, t, t1, t2, t3, dp, un, gd, cn, cs, a, ccd, cl, outer, A₀, base, h₀, L, m, s, Q) h0 h1 h2 h3 h4 h5 h6
section
variable {prog : Program} {w : World} {p : Program} {loose : List Str} {mean : ExcName → Option Value} {mg mb : Str → Option Value}
end
end Mine
end
section
open PySem PySem.W PyProof.Rows PySem.Calls
set_option maxRecDepth 100000
namespace Mine
def letO : Nat → Int → Str → Option Str
  | 0, _, _ => none
  | k + 1, n, f => if 0 < n then letO k ((n - 1).fdiv 26) ({ cps := #[(97 + (n - 1).fmod 26).toNat] } ++ f) else some f
def romO : Nat → List (Int × Str) → Int → Str → Option Str
  | 0, _, _, _ => none
  | _ + 1, [], _, f => some f
  | k + 1, (w, si) :: l, n, f => if w ≤ n then romO k ((w, si) :: l) (n - w) (f ++ si) else romO k l n f
def decO (se : Str) (sz : Int) : Nat → Str → Str → Option Str
  | 0, _, _ => none
  | k + 1, a, f => if sz < a.length then decO se sz k (Txt.slice a none (some (a.length - sz))) (se ++ Txt.slice a (some (a.length - sz)) none ++ f) else some (a ++ f)
def decDO (n le : Int) (se : Str) (sz : Int) : Option Str := if (se == Str.ofString "") = true ∨ sz < 1 then some (told0 n le) else decO se sz 8 (told0 n le) (Str.ofString "")
def figO (se : Str) (sz le : Int) : Nat → Int → Int → Str → Option Str
  | 0, _, _, _ => none
  | k + 1, l, m, f => if 0 < l ∨ m < (if le > 1 then le else 1) then figO se sz le k (l.fdiv 10) (m + 1) (Txt.item (Str.ofString "0123456789") (l.fmod 10) ++ (if 0 < m ∧ (se != Str.ofString "") = true ∧ 0 < sz ∧ m.fmod sz = 0 then se ++ f else f)) else some f
def lawLet (n : Int) : Str :=
  if n ≤ 26 then Txt.item abc ((n - 0 - 1).fmod 26) ++ Str.ofString "" else
  if n ≤ 702 then Txt.item abc (((n - 26 - 1).fdiv 26).fmod 26) ++ (Txt.item abc ((n - 26 - 1).fmod 26) ++ Str.ofString "") else
  Txt.item abc ((((n - 702 - 1).fdiv 26).fdiv 26).fmod 26) ++ (Txt.item abc (((n - 702 - 1).fdiv 26).fmod 26) ++ (Txt.item abc ((n - 702 - 1).fmod 26) ++ Str.ofString ""))
def NEAR : List Int := [0, 1, 2, 4, 9, 26, 27, 40, 52, 53, 99, 100, 444, 702, 703, 1000, 1994, 4999, 5000, 12345]
def SEPS : List (Str × Int) := [(Str.ofString "", 0), (Str.ofString ",", 3), (Str.ofString " ", 2), (Str.ofString ",", 0)]
theorem tab_let : ∀ n ∈ NEAR, 0 < n → letO 8 n (Str.ofString "") = some (lawLet n) := by decide +kernel
theorem tab_rom : ∀ n ∈ NEAR, 0 < n ∧ n < 5000 → romO 60 ROM n (Str.ofString "") = some (lawRom n) := by decide +kernel
theorem tab_dec : ∀ q ∈ SEPS, ∀ n ∈ NEAR, ∀ le ∈ [(1 : Int), 2, 3], (decDO n le q.1 q.2).isSome = true ∧ figO q.1 q.2 le 8 n 0 (Str.ofString "") = decDO n le q.1 q.2 := by decide +kernel
def TOKS : List Str := [Str.ofString "1", Str.ofString "01", Str.ofString "001", Str.ofString "a", Str.ofString "A", Str.ofString "i", Str.ofString "I", Str.ofString "x2"]
def leastV (tok : Str) : Int := if (tok == Str.ofString "01") = true ∨ (tok == Str.ofString "001") = true then tok.length else 1
def decV (n le : Int) (se : Str) (sz : Int) : Str := (decDO n le se sz).getD Str.empty
/-- what a number is told as -/
def oneV (n : Int) (tok se : Str) (sz : Int) : Str :=
  if 0 < n ∧ (tok == Str.ofString "a") = true then lawLet n else
  if 0 < n ∧ (tok == Str.ofString "A") = true then Txt.upper (lawLet n) else
  if (0 < n ∧ n < 5000) ∧ (tok == Str.ofString "i") = true then lawRom n else
  if (0 < n ∧ n < 5000) ∧ (tok == Str.ofString "I") = true then Txt.upper (lawRom n) else
  decV n (leastV tok) se sz
theorem tab_len1 : ∀ n ∈ NEAR, 0 < n → (lawLet n).length ≤ 16 ∧ (Txt.upper (lawLet n)).length ≤ 16 := by decide +kernel
theorem tab_len2 : ∀ n ∈ NEAR, 0 < n ∧ n < 5000 → (lawRom n).length ≤ 16 ∧ (Txt.upper (lawRom n)).length ≤ 16 := by decide +kernel
theorem tab_len3 : ∀ q ∈ SEPS, ∀ n ∈ NEAR, ∀ le ∈ [(1 : Int), 2, 3], (decV n le q.1 q.2).length ≤ 16 := by decide +kernel
theorem tab_least : ∀ tok ∈ TOKS, leastV tok ∈ [(1 : Int), 2, 3] ∧ ((tok == Txt.mul (Str.ofString "0") (tok.length - 1) ++ Str.ofString "1") = true → (tok.length : Int) = leastV tok) ∧ ((tok == Txt.mul (Str.ofString "0") (tok.length - 1) ++ Str.ofString "1") = false → leastV tok = 1) ∧ 1 ≤ tok.length ∧ tok.length ≤ 3 := by decide +kernel
theorem tab_near : ∀ n ∈ NEAR, 0 ≤ n ∧ n < 18000 := by decide
theorem tab_seps : ∀ q ∈ SEPS, 0 ≤ q.2 ∧ q.2 ≤ 3 ∧ q.1.length ≤ 2 := by decide +kernel
theorem oneV_len {n : Int} {tok se : Str} {sz : Int} (hn : n ∈ NEAR) (ht : tok ∈ TOKS) (hq : (se, sz) ∈ SEPS) : (oneV n tok se sz).length ≤ 16 := by
  unfold oneV
  split
  · exact (tab_len1 n hn (by omega)).1
  · split
    · exact (tab_len1 n hn (by omega)).2
    · split
      · exact (tab_len2 n hn (by omega)).1
      · split
        · exact (tab_len2 n hn (by omega)).2
        · exact tab_len3 _ hq n hn _ (tab_least tok ht).1
theorem letR_is {n : Int} {f r : Str} (h : LetR n f r) : ∀ k x, letO k n f = some x → r = x := by
  induction h with
  | done hn =>
    intro k x e
    cases k with
    | zero => cases e
    | succ k => rw [letO, if_neg (by omega)] at e; injection e
  | step hn _ ih =>
    intro k x e
    cases k with
    | zero => cases e
    | succ k => rw [letO, if_pos hn] at e; exact ih k x e
theorem romG_is {l : List (Int × Str)} {n : Int} {f r : Str} (h : RomG l n f r) : ∀ k x, romO k l n f = some x → r = x := by
  induction h with
  | nil =>
    intro k x e
    cases k with
    | zero => cases e
    | succ k => rw [romO] at e; injection e
  | skip hn _ ih =>
    intro k x e
    cases k with
    | zero => cases e
    | succ k => rw [romO, if_neg (by omega)] at e; exact ih k x e
  | take hn _ ih =>
    intro k x e
    cases k with
    | zero => cases e
    | succ k => rw [romO, if_pos hn] at e; exact ih k x e
theorem decR_is {se : Str} {sz : Int} {a f r : Str} (h : DecR se sz a f r) : ∀ k x, decO se sz k a f = some x → r = x := by
  induction h with
  | done hn =>
    intro k x e
    cases k with
    | zero => cases e
    | succ k => rw [decO, if_neg (by omega)] at e; injection e
  | step hn _ ih =>
    intro k x e
    cases k with
    | zero => cases e
    | succ k => rw [decO, if_pos hn] at e; exact ih k x e
theorem decD_is {n le sz : Int} {se r : Str} (h : DecD n le se sz r) (x : Str) (e : decDO n le se sz = some x) : r = x := by
  unfold decDO at e
  rcases h with ⟨h1, h2⟩ | ⟨h1, h2, h3⟩
  · rw [if_pos h1] at e; injection e with e; rw [h2, e]
  · rw [if_neg (by rintro (q | q); · rw [h1] at q; cases q
                   · omega)] at e
    exact decR_is h3 _ _ e
theorem figR_is {se : Str} {sz le l m : Int} {f r : Str} (h : FigR se sz le l m f r) : ∀ k x, figO se sz le k l m f = some x → r = x := by
  induction h with
  | done h1 h2 =>
    intro k x e
    cases k with
    | zero => cases e
    | succ k => rw [figO, if_neg (by rintro (q | q); · exact h1 q
                                     · exact h2 q)] at e; injection e
  | sep hc a1 a2 a3 a4 _ ih =>
    intro k x e
    cases k with
    | zero => cases e
    | succ k => rw [figO, if_pos hc, if_pos ⟨a1, a2, a3, a4⟩] at e; exact ih k x e
  | no hc a1 _ ih =>
    intro k x e
    cases k with
    | zero => cases e
    | succ k =>
      rw [figO, if_pos hc, if_neg (by
        rintro ⟨b1, b2, b3, b4⟩
        rcases a1 with q | q | q | q
        · exact q b1
        · rw [q] at b2; cases b2
        · exact q b3
        · exact q b4)] at e
      exact ih k x e
theorem letR_near {n : Int} {r : Str} (hn : n ∈ NEAR) (h0 : 0 < n) (h : LetR n (Str.ofString "") r) : r = lawLet n := letR_is h _ _ (tab_let n hn h0)
theorem romG_near {n : Int} {r : Str} (hn : n ∈ NEAR) (h0 : 0 < n ∧ n < 5000) (h : RomG ROM n (Str.ofString "") r) : r = lawRom n := romG_is h _ _ (tab_rom n hn h0)
theorem decD_near {n le sz : Int} {se r : Str} (hn : n ∈ NEAR) (hl : le ∈ [(1 : Int), 2, 3]) (hq : (se, sz) ∈ SEPS) (h : DecD n le se sz r) : r = decV n le se sz := by
  have t := tab_dec _ hq n hn le hl
  refine decD_is h _ ?_
  unfold decV
  obtain ⟨x, hx⟩ := Option.isSome_iff_exists.mp t.1
  rw [hx]; rfl
theorem figR_near {n le sz : Int} {se r : Str} (hn : n ∈ NEAR) (hl : le ∈ [(1 : Int), 2, 3]) (hq : (se, sz) ∈ SEPS) (h : FigR se sz le n 0 (Str.ofString "") r) : r = decV n le se sz := by
  have t := tab_dec _ hq n hn le hl
  refine figR_is h 8 _ ?_
  unfold decV
  obtain ⟨x, hx⟩ := Option.isSome_iff_exists.mp t.1
  rw [t.2, hx]; rfl
theorem lld_near {n : Int} {r : Str} (h : LLD n r) : r = lawLet n := by
  unfold lawLet
  cases h with
  | one h => rw [if_pos h]
  | two h1 h2 => rw [if_neg (by omega), if_pos h2]
  | three h => rw [if_neg (by omega), if_neg (by omega)]
theorem beq_ne {tok a b : Str} (h : (tok == a) = true) (hab : (a == b) = false) : ¬ (tok == b) = true := by
  rw [eq_of_beq h, hab]; exact Bool.false_ne_true
theorem oneD_near {n sz : Int} {tok se r : Str} (hn : n ∈ NEAR) (ht : tok ∈ TOKS) (hq : (se, sz) ∈ SEPS) (h : OneD n tok se sz r) : r = oneV n tok se sz := by
  unfold oneV
  have tl := tab_least tok ht
  cases h with
  | a h0 h1 h2 => rw [if_pos ⟨h0, h1⟩]; exact letR_near hn h0 h2
  | A h0 h1 h2 => rw [if_neg (fun q => beq_ne h1 (by decide +kernel) q.2), if_pos ⟨h0, h1⟩, letR_near hn h0 h2]
  | i h0 h1 h2 => rw [if_neg (fun q => beq_ne h1 (by decide +kernel) q.2), if_neg (fun q => beq_ne h1 (by decide +kernel) q.2), if_pos ⟨h0, h1⟩]; exact romG_near hn h0 h2
  | I h0 h1 h2 => rw [if_neg (fun q => beq_ne h1 (by decide +kernel) q.2), if_neg (fun q => beq_ne h1 (by decide +kernel) q.2), if_neg (fun q => beq_ne h1 (by decide +kernel) q.2), if_pos ⟨h0, h1⟩, romG_near hn h0 h2]
  | d1 n1 n2 n3 n4 h1 h2 => rw [if_neg n1, if_neg n2, if_neg n3, if_neg n4]; rw [tl.2.1 h1] at h2; exact decD_near hn tl.1 hq h2
  | d2 n1 n2 n3 n4 h1 h2 => rw [if_neg n1, if_neg n2, if_neg n3, if_neg n4, tl.2.2.1 h1]; exact decD_near hn (.head _) hq h2
section
variable {prog : Program} {w : World} {p : Program} {loose : List Str} {mean : ExcName → Option Value} {mg mb : Str → Option Value}
/-- one_number tells by oneV -/
theorem oneV_does (news : List (Addr × Obj)) (n sz : Int) (tok se : Str) (t t1 t2 t3 : Tok) (hn : n ∈ NEAR) (ht : tok ∈ TOKS) (hq : (se, sz) ∈ SEPS) :
    Does prog w (Mine.kk.heap_1 w.params) p loose mean mg mb (.ref 56) [.int n t, .str tok t1, .str se t2, .int sz t3] news 2 fun K => ∀ t, K (.str (oneV n tok se sz) t) news := by
  have a := tab_near n hn
  have b := tab_least tok ht
  have c := tab_seps _ hq
  refine Does.weak (one_does news n sz tok se t t1 t2 t3 a.1 (by omega) b.2.2.2.1 b.2.2.2.2 c.1 c.2.1 c.2.2) fun P h r t h1 h2 => ?_
  rw [oneD_near hn ht hq h1]; exact h t
end
end Mine
end
section
set_option linter.unusedVariables false
open PySem PySem.W PyProof.Rows PySem.Calls
set_option maxRecDepth 100000
set_option maxHeartbeats 4000000
namespace Mine
theorem any2 {a b tok : Str} : ([a, b].any fun x => x == tok) = true ↔ (tok == a) = true ∨ (tok == b) = true := by
  simp only [List.any_cons, List.any_nil, Bool.or_false, Bool.or_eq_true, beq_iff_eq]
  constructor
  · rintro (h | h)
    · exact .inl h.symm
    · exact .inr h.symm
  · rintro (h | h)
    · exact .inl h.symm
    · exact .inr h.symm
theorem any2f {a b tok : Str} (h : ([a, b].any fun x => x == tok) = false) : ¬ (tok == a) = true ∧ ¬ (tok == b) = true :=
  ⟨fun q => Bool.noConfusion ((any2.mpr (.inl q)).symm.trans h), fun q => Bool.noConfusion ((any2.mpr (.inr q)).symm.trans h)⟩
abbrev inAA (tok : Str) : Bool := [Str.ofString "a", Str.ofString "A"].any fun x => x == tok
abbrev inII (tok : Str) : Bool := [Str.ofString "i", Str.ofString "I"].any fun x => x == tok
abbrev in01 (tok : Str) : Bool := [Str.ofString "01", Str.ofString "001"].any fun x => x == tok
theorem ln_a {n sz : Int} {tok se r : Str} (h0 : 0 < n) (h1 : (tok == Str.ofString "a") = true) (h : LLD n r) : r = oneV n tok se sz := by
  unfold oneV; rw [if_pos ⟨h0, h1⟩]; exact lld_near h
theorem ln_A {n sz : Int} {tok se r : Str} (h : LLD n r) (h2 : inAA tok = true) (h0 : 0 < n) (h1 : (tok == Str.ofString "a") = false) : Txt.upper r = oneV n tok se sz := by
  have e : (tok == Str.ofString "A") = true := (any2.mp h2).resolve_left (by rw [h1]; exact Bool.false_ne_true)
  unfold oneV; rw [if_neg (fun q => beq_ne e (by decide +kernel) q.2), if_pos ⟨h0, e⟩, lld_near h]
theorem ln_i {n sz : Int} {tok se : Str} (h0 : 0 < n) (h2 : n < 5000) (h1 : (tok == Str.ofString "i") = true) : lawRom n = oneV n tok se sz := by
  unfold oneV; rw [if_neg (fun q => beq_ne h1 (by decide +kernel) q.2), if_neg (fun q => beq_ne h1 (by decide +kernel) q.2), if_pos ⟨⟨h0, h2⟩, h1⟩]
theorem ln_I {n sz : Int} {tok se : Str} (h0 : 0 < n) (h2 : n < 5000) (h3 : inII tok = true) (h1 : (tok == Str.ofString "i") = false) : Txt.upper (lawRom n) = oneV n tok se sz := by
  have e : (tok == Str.ofString "I") = true := (any2.mp h3).resolve_left (by rw [h1]; exact Bool.false_ne_true)
  unfold oneV; rw [if_neg (fun q => beq_ne e (by decide +kernel) q.2), if_neg (fun q => beq_ne e (by decide +kernel) q.2), if_neg (fun q => beq_ne e (by decide +kernel) q.2), if_pos ⟨⟨h0, h2⟩, e⟩]
theorem ln_f {n sz le : Int} {tok se r : Str} (hn : n ∈ NEAR) (ht : tok ∈ TOKS) (hq : (se, sz) ∈ SEPS) (h : FigR se sz le n 0 (Str.ofString "") r) (a : inAA tok = false ∨ ¬ 0 < n) (b : inII tok = false ∨ ¬ 0 < n ∨ ¬ n < 5000) (c : leastV tok = le) : r = oneV n tok se sz := by
  have n1 : ¬ (0 < n ∧ (tok == Str.ofString "a") = true) := fun q => a.elim (fun x => (any2f x).1 q.2) fun x => x q.1
  have n2 : ¬ (0 < n ∧ (tok == Str.ofString "A") = true) := fun q => a.elim (fun x => (any2f x).2 q.2) fun x => x q.1
  have n3 : ¬ ((0 < n ∧ n < 5000) ∧ (tok == Str.ofString "i") = true) := fun q => b.elim (fun x => (any2f x).1 q.2) fun x => x.elim (fun y => y q.1.1) fun y => y q.1.2
  have n4 : ¬ ((0 < n ∧ n < 5000) ∧ (tok == Str.ofString "I") = true) := fun q => b.elim (fun x => (any2f x).2 q.2) fun x => x.elim (fun y => y q.1.1) fun y => y q.1.2
  unfold oneV; rw [if_neg n1, if_neg n2, if_neg n3, if_neg n4, c]
  exact figR_near hn (c ▸ (tab_least tok ht).1) hq h
theorem ln_t {tok : Str} (h : in01 tok = true) : leastV tok = tok.length := if_pos (any2.mp h)
theorem ln_n {tok : Str} (h : in01 tok = false) : leastV tok = 1 := if_neg fun q => q.elim (any2f h).1 (any2f h).2
section
variable {prog : Program} {w : World} {p : Program} {loose : List Str} {mean : ExcName → Option Value} {mg mb : Str → Option Value}
theorem lawNum_does (news : List (Addr × Obj)) (n sz : Int) (tok se : Str) (t t1 t2 t3 : Tok) (hn : n ∈ NEAR) (ht : tok ∈ TOKS) (hq : (se, sz) ∈ SEPS) :
    Does prog w (Mine.kk.heap_1 w.params) p loose mean mg mb (.ref 153) [.int n t, .str tok t1, .str se t2, .int sz t3] news 2 fun K => ∀ t, K (.str (oneV n tok se sz) t) news := by
  obtain ⟨h0, h1⟩ := tab_near n hn
  obtain ⟨-, -, -, h2, h3⟩ := tab_least tok ht
  obtain ⟨h4, h5, h6⟩ := tab_seps _ hq
  dsimp only at h4 h5 h6
  have hz := fillK; revert hz; k_fill; intro _
  k_with_none
  w_top off
  k_with "*" => ((with_reducible show wpAny _ _ _ _ _ (Shared.mk _ _ _ (_ + _ + _) _)); refine st_norm (s0 := s) rfl rfl rfl fun _ => ?_)
  k_with "execs cons" => (k_here; first | ((rename News _ _ _ _ => N6); dsimp only at N6) | ((rename Fr _ _ _ _ => F6); dsimp only at F6))
  k_with "call ref" => (k_here; k_dflt (refine' Does.use (lawLetters_does _ _ _ ?h0 ?h1) ?k1 ?k2 ?k3 ?k4 ?k5 ?kK ?kd ?ku ?_; (case k1 => k_asm); (case k2 => k_asm); (case k3 => k_asm); (case k4 => k_asm); (case k5 => k_asm); (case kK => first | exact rfl | assumption); (case kd => ktr_room); (case ku => ktr_units); (case h0 => omega); (case h1 => omega); (try dsimp only)); intro r9 t9 hr9 hl9 h9 tk9 F9 N9; (try k_fold))
  k_with "call ref" => (k_here; k_dflt (refine' Does.use (lawRoman_does _ _ _ ?h0 ?h1) ?k1 ?k2 ?k3 ?k4 ?k5 ?kK ?kd ?ku ?_; (case k1 => k_asm); (case k2 => k_asm); (case k3 => k_asm); (case k4 => k_asm); (case k5 => k_asm); (case kK => first | exact rfl | assumption); (case kd => ktr_room); (case ku => ktr_units); (case h0 => omega); (case h1 => omega); (try dsimp only)); intro t9 hl9 h9 tk9 F9 N9; (try k_fold))
  k_with "call ref" => (k_here; k_dflt (refine' Does.use (lawFig_does _ _ _ _ _ _ _ _ _ ?h0 ?h1 ?h2 ?h3 ?h4 ?h5 ?h6) ?k1 ?k2 ?k3 ?k4 ?k5 ?kK ?kd ?ku ?_; (case k1 => k_asm); (case k2 => k_asm); (case k3 => k_asm); (case k4 => k_asm); (case k5 => k_asm); (case kK => first | exact rfl | assumption); (case kd => ktr_room); (case ku => ktr_units); (case h0 => omega); (case h1 => omega); (case h2 => omega); (case h3 => omega); (case h4 => omega); (case h5 => omega); (case h6 => omega); (try dsimp only)); intro r9 t9 hr9 h9 tk9 F9 N9; (try k_fold))
  unfold Does
  intro dp un gd cn cs a ccd cl outer A₀ base h₀ L m s Q B F X N T hk hd hu hret
  have hS : MySub [] := trivial
  refine wpAny_call ?_
  w_top off
  k_dflt (refine' code_sub ?kS ?k1 ?k2 ?k3 ?k4 ?k4s ?k5 ?kA ?kF ?kK ?k6 ?k7 ?k8 ?k9 ?kB ?_ ?c2 ?c3 ?c4 ?c5; (case kS => assumption); (case kA => exact rfl); (case kF => exact rfl); (case kK => assumption); (case k1 => k_asm); (case k2 => k_asm); (case k3 => k_asm); (case k4 => k_asm); (case k4s => first | exact List.forall_mem_nil _ | assumption); (case k5 => k_asm); (case k6 => k_is); (case k7 => k_is); (case k8 => ktr_room); (case k9 => exact BindsTo.of_eq rfl); (case c5 => decide); (case kB => exact locs rfl); (case c2 => exact rfl); (case c3 => exact rfl); (case c4 => exact rfl); k_whole; intro g' L' h' tk' FG' F' N' B' X' T'; (try dsimp only); (try k_lift B'); (try k_fold))
  k_steps
  all_goals (refine (?e : ∀ x, x = oneV n tok se sz → Q (.str x _) _) _ ?_; (case e => intro x hx; subst hx; exact hret _ _ _ (by assumption) (Kept.pure (by assumption) N)))
  all_goals first
    | exact ln_a (by assumption) (by assumption) (by assumption)
    | exact ln_A (by assumption) (by assumption) (by assumption) (by assumption)
    | exact ln_i (by assumption) (by assumption) (by assumption)
    | exact ln_I (by assumption) (by assumption) (by assumption) (by assumption)
    | exact ln_f hn ht hq (by assumption) (by first | exact Or.inl (by assumption) | exact Or.inr (by assumption)) (by first | exact Or.inl (by assumption) | exact Or.inr (Or.inl (by assumption)) | exact Or.inr (Or.inr (by assumption))) (by first | exact ln_t (by assumption) | exact ln_n (by assumption))
end
end Mine
end
section
set_option linter.unusedVariables false
open PySem PySem.W PyProof.Rows PySem.Calls PySem.Spec PyProof.V
set_option maxRecDepth 100000
set_option maxHeartbeats 1000000
namespace Mine
section
variable {prog : Program} {w : World} {K : Frag} {p : Program} {loose : List Str} {mean : ExcName → Option Value} {mg mb : Str → Option Value}
/-- enter a def that sees the part sub alone, and know that what the caller holds is none of what the def makes -/
theorem code_subG {A₀ A : Around} {s : Shared} {base h₀ : Heap} {outer : List Env} {L : Addr} {m : Str → Option Value} {env : Env} {sub news : List (Addr × Obj)} {R : Result → Shared → Prop} {name qual : Str} {params : Arguments} {body : List Stmt} {scope : Scope} {dV kV doc pm cdv ct oc : Value} {an od : Option Addr} {osl : Array (Option Value)} {f : Addr} {args : Args} {binds : List (Str × Value)}
    (_S : MySub sub) (B : Below A₀ base outer h₀) (F : Fr h₀ L s.heap m) (X₀ : K.In h₀) (N : News h₀ L s.heap news) (hs : ∀ q ∈ sub, q ∈ news) (T : Top p loose mean mg mb h₀) (hA : A.frames = some (env :: outer)) (hf : env.frame = some L) (hke : env.scope.kind = .function)
    (ho : K.lookup f = some ⟨oc, od, .func (fnOf name qual params body scope dV kV doc pm an cdv ct), osl⟩) (hcd : codeIn K cdv qual = true) (hroom : A.depth < recursionLimit)
    (hbind : BindsTo s (fnOf name qual params body scope dV kV doc pm an cdv ct) args binds) (hloc : ∀ y ∈ binds, scope.names.lookup y.1 = some .local)
    (h : ∀ g L' h₁ tk, Fr h₀ L g m → Fr g L' h₁ (fun y => binds.reverse.lookup y) → News g L' h₁ sub → Below A base (env :: outer) g → K.In g → Top p loose mean mg mb g → (∀ q ∈ news, q.1 ∉ sub.map (·.1) → g.get? q.1 = some q.2) →
      wpAny (model prog w) (A.deeper (envOf qual scope L' f cdv)) (execs body (envOf qual scope L' f cdv))
        (fun fl s' => LeaveK h₀ L m g (fun r s' => Kept sub s.heap s'.heap → R r s') (match fl with | .ret v => v | _ => .none) s') (fun _ _ => False)
        { s with heap := h₁, toks := tk })
    (hco : scope.isCoroutine = false) (hgen : scope.isGenerator = false) (hk : scope.kind = .function)
    (hcell : ∀ x ∈ scope.names, x.2 ≠ .cell) : codeAny (model prog w) A (.call (.ref f) args) R s := by
  refine code_defG (news := sub) B F X₀ (fun q hq => N q (hs q hq)) T hA hf hke ho hcd hroom hbind hloc (fun g L' h₁ FG F' N' B' X' T' G => wpAny_mono (h g L' h₁ _ FG F' N' B' X' T' (fun q hq hn => G q.1 q.2 (N q hq).1 hn)) (fun fl s' hl => ?_) (fun _ _ x => x.elim)) hco hgen hk hcell
  obtain ⟨L'', m', news', F'', N'', k⟩ := hl
  exact ⟨L'', m', news', F'', N'', fun a b => k a b fun b o e hn => F''.keep b o (G b o e hn)⟩
end
/-- what the caller holds is none of what the def made -/
theorem off_made {g h : Heap} {L : Addr} {sub news nx : List (Addr × Obj)} (G : ∀ q ∈ news, q.1 ∉ sub.map (·.1) → g.get? q.1 = some q.2) (N' : News g L h nx) (hs : sub = []) : ∀ q ∈ news, ∀ b ∈ nx.map (·.1), q.1 ≠ b := by
  intro q hq b hb e
  subst hs
  obtain ⟨r, hr, rfl⟩ := List.mem_map.mp hb
  have e1 := G q hq (by simp)
  rw [e, (N' r hr).2.2] at e1
  cases e1
/-- the end of a turn -/
def TurnEnd (h₀ : Heap) (L : Addr) (own : List (Addr × Obj)) (J : (Str → Option Value) → List (Addr × Obj) → Prop) (s₁ : Shared) (f : Flow) (s₂ : Shared) : Prop :=
  f = .next ∧ ∃ h' tk m' nx, s₂ = { s₁ with heap := h', toks := tk } ∧ Fr h₀ L h' m' ∧ News h₀ L h' (nx ++ own) ∧ J m' nx
section
variable {prog : Program} {w : World} {A : Around} {E : Value → Shared → Prop} {s : Shared} {env : Env} {h₀ : Heap} {x : Str} {body : List Stmt} {Q : Flow → Shared → Prop}
theorem text_core {I : Addr} {xt : Str} {St : Nat → Heap → Prop} {m₀ : Str → Option Value} {news₀ : List (Addr × Obj)} {hp : Heap} {tk₀ : Nat}
    (J : List Nat → (Str → Option Value) → List (Addr × Obj) → Prop) (hJc : ∀ l m nx, J l m nx → ∀ p ∈ nx, p.2.cls = .type "list" ∨ p.2.cls = .type "tuple")
    (W : Walks prog w A I [I] [I] xt.cps.size (SignAt xt) St) (hSt : ∀ i h, St i h → ∃ o, h.get? I = some o ∧ (o.cls = .type "str_iterator" ∨ o.cls = .type "str_ascii_iterator")) (hst : St 0 hp)
    (hI : h₀.get? I = none) (hL : env.locals ≠ I) (F : Fr h₀ env.locals hp m₀) (N : News h₀ env.locals hp news₀) (hn : ∀ p ∈ news₀, p.1 ≠ I) (hj : J [] m₀ news₀)
    (turn : ∀ (pre post : List Nat) c t m₁ nx h tk own, xt.cps.toList = pre ++ c :: post → J pre m₁ nx → OwnOff own (nx.map (·.1)) → Fr h₀ env.locals h (fun y => if y = x then some (.str ⟨#[c]⟩ t) else m₁ y) → News h₀ env.locals h (nx ++ own) →
      wpAny (model prog w) A (execs body env) (TurnEnd h₀ env.locals own (J (pre ++ [c])) { s with heap := h, toks := tk }) E { s with heap := h, toks := tk })
    (done : ∀ m₁ nx h tk, J xt.cps.toList m₁ nx → Fr h₀ env.locals h m₁ → News h₀ env.locals h nx → Q .next { s with heap := h, toks := tk }) :
    LoopAtV prog w A h₀ env x body Q E (.ref I) { s with heap := hp, toks := tk₀ } := by
  refine ⟨I, [I], [I], xt.cps.size, SignAt xt, St, m₀, news₀, fun i m nx => J (xt.cps.toList.take i) m nx, rfl, W, by simpa using hL, by simpa using hI, by simpa using hn, hst, F, N, by simpa using hj, ?_, ?_⟩
  · rintro i v m₁ nx s₁ own ⟨h, tk, rfl⟩ hi ⟨c, t, hc, rfl⟩ hJ hoff hown _ hall hst₁ F₁ N₁
    have hc' : xt.cps.toList[i]? = some c := by simpa using hc
    have hs : xt.cps.toList.take (i + 1) = xt.cps.toList.take i ++ [c] := by simp [List.take_add_one, hc]
    have e : xt.cps.toList = xt.cps.toList.take i ++ c :: xt.cps.toList.drop (i + 1) := by
      have ht := List.take_append_drop (i + 1) xt.cps.toList
      rw [hs, List.append_assoc] at ht
      exact ht.symm
    obtain ⟨oI, heI, hcI⟩ := hSt _ _ hst₁
    have hmI := hall I (by simp) hI oI heI
    refine wpAny_mono (turn _ _ c t m₁ nx h tk own e hJ (fun q hq b hb eq => ?_) F₁ (fun p hp => N₁ p (List.mem_append.mpr (List.mem_append.mp hp).symm))) (fun f s₂ hf => ?_) fun _ _ e => e
    · obtain ⟨r, hr, rfl⟩ := List.mem_map.mp hb
      have := hown q hq
      rw [eq] at this
      exact hoff r hr this
    · obtain ⟨rfl, h', tk', m', nx', rfl, F', N', hJ'⟩ := hf
      refine ⟨rfl, h', tk', m', nx', rfl, F', fun p hp => N' p (List.mem_append.mpr (List.mem_append.mp hp).symm), fun p hp hw => ?_, ?_⟩
      · have e1 : p.1 = I := by simpa using hw
        have e2 := (N' _ (List.mem_append_right _ hmI)).1
        have e3 := (N' _ (List.mem_append_left _ hp)).1
        dsimp only at e2
        rw [e1, e2] at e3
        have e4 : oI = p.2 := Option.some.inj e3
        have e5 := hJc _ _ _ hJ' p hp
        rw [← e4] at e5
        rcases hcI with q | q <;> rw [q] at e5 <;> revert e5 <;> decide
      · show J (xt.cps.toList.take (i + 1)) m' nx'; rw [hs]; exact hJ'
  · intro h' tk m' nx F' N' _ hJ
    have e : xt.cps.toList.take xt.cps.size = xt.cps.toList := by rw [← Array.length_toList, List.take_length]
    rw [e] at hJ
    exact done m' nx h' tk hJ F' N'
theorem text_loop {xt : Str} {tx : Tok} {m₀ : Str → Option Value} {news₀ : List (Addr × Obj)}
    (J : List Nat → (Str → Option Value) → List (Addr × Obj) → Prop) (hJc : ∀ l m nx, J l m nx → ∀ p ∈ nx, p.2.cls = .type "list" ∨ p.2.cls = .type "tuple")
    (hh : A.handled = none) (F : Fr h₀ env.locals s.heap m₀) (N : News h₀ env.locals s.heap news₀) (hj : J [] m₀ news₀)
    (turn : ∀ (pre post : List Nat) c t m₁ nx h tk own, xt.cps.toList = pre ++ c :: post → J pre m₁ nx → OwnOff own (nx.map (·.1)) → Fr h₀ env.locals h (fun y => if y = x then some (.str ⟨#[c]⟩ t) else m₁ y) → News h₀ env.locals h (nx ++ own) →
      wpAny (model prog w) A (execs body env) (TurnEnd h₀ env.locals own (J (pre ++ [c])) { s with heap := h, toks := tk }) E { s with heap := h, toks := tk })
    (done : ∀ m₁ nx h tk, J xt.cps.toList m₁ nx → Fr h₀ env.locals h m₁ → News h₀ env.locals h nx → Q .next { s with heap := h, toks := tk }) :
    wpAny (model prog w) A (pyIter (.str xt tx)) (fun it s₂ => LoopAtV prog w A h₀ env x body Q E it s₂) E s := by
  have hI : h₀.get? s.heap.objs.size = none := by
    cases q : h₀.get? s.heap.objs.size with
    | none => rfl
    | some o => exact absurd (Heap.lt_size (F.keep _ _ q)) (Nat.lt_irrefl _)
  have hL : env.locals ≠ s.heap.objs.size := Nat.ne_of_lt F.ns.lt
  have hn : ∀ p ∈ news₀, p.1 ≠ s.heap.objs.size := fun p hp => Nat.ne_of_lt (Heap.lt_size (N p hp).1)
  cases ha : xt.cps.all (· < 128)
  · exact wpAny_pyIter_wide ha (text_core J hJc (Walks.strWide hh _ xt tx) (fun i h st => by obtain ⟨o, a, b, _⟩ := st; exact ⟨o, a, .inl b⟩) ⟨_, Heap.get?_push_size _ rfl, rfl, rfl⟩ hI hL (F.push _) (fun p hp => ⟨Heap.get?_push_of_some _ (N p hp).1, (N p hp).2⟩) hn hj turn done)
  · exact wpAny_pyIter_ascii ha (text_core J hJc (Walks.strAscii hh _ xt tx) (fun i h st => by obtain ⟨o, a, b, _⟩ := st; exact ⟨o, a, .inr b⟩) ⟨_, Heap.get?_push_size _ rfl, rfl, rfl⟩ hI hL (F.push _) (fun p hp => ⟨Heap.get?_push_of_some _ (N p hp).1, (N p hp).2⟩) hn hj turn done)
end
end Mine
end
section
set_option linter.unusedVariables false
open PySem PySem.W PyProof.Rows PySem.Calls PySem.Spec
set_option maxRecDepth 100000
set_option maxHeartbeats 2000000
namespace Mine
section
variable {prog : Program} {w : World} {A : Around} {E : Value → Shared → Prop} {s : Shared} {h₀ : Heap} {L : Addr} {news : List (Addr × Obj)}
theorem list_at {a : Addr} {o : Obj} {xs : Array Value} {n : Nat} (N : News h₀ L s.heap news) (m : (a, o) ∈ news) (c : o.cls = .type "list") (d : o.data = .seq xs n) : s.heap.IsList a xs := ⟨_, (N _ m).1, c, n, d⟩
theorem ne_nilT {a b : Addr} {oa ob : Obj} {xs : Array Value} {n k : Nat} {Q : Value → Shared → Prop} (N : News h₀ L s.heap news) (ma : (a, oa) ∈ news) (ca : oa.cls = .type "list") (da : oa.data = .seq xs n) (mb : (b, ob) ∈ news) (cb : ob.cls = .type "list") (db : ob.data = .seq #[] k) (hz : 0 < xs.size) (hu : A.units < cLine) (h : Q (.bool true) s) :
    wpAny (model prog w) A (compareOp .NotEq (.ref a) (.ref b)) Q E s :=
  SeqAt.RcNeAt.lists_lengths (list_at N ma ca da) (list_at N mb cb db) (by simp; intro q; simp [q] at hz) hu prog w E Q h
theorem ne_nilF {a b : Addr} {oa ob : Obj} {n k : Nat} {Q : Value → Shared → Prop} (N : News h₀ L s.heap news) (ma : (a, oa) ∈ news) (ca : oa.cls = .type "list") (da : oa.data = .seq #[] n) (mb : (b, ob) ∈ news) (cb : ob.cls = .type "list") (db : ob.data = .seq #[] k) (hu : A.units < cLine) (h : Q (.bool false) s) :
    wpAny (model prog w) A (compareOp .NotEq (.ref a) (.ref b)) Q E s :=
  SeqAt.RcNeAt.lists (e := fun _ => true) (list_at N ma ca da) (list_at N mb cb db) rfl hu (fun j h1 h2 => absurd h1 (Nat.not_lt_zero _)) prog w E Q h
theorem eq_nilT {a b : Addr} {oa ob : Obj} {n k : Nat} {Q : Value → Shared → Prop} (N : News h₀ L s.heap news) (ma : (a, oa) ∈ news) (ca : oa.cls = .type "list") (da : oa.data = .seq #[] n) (mb : (b, ob) ∈ news) (cb : ob.cls = .type "list") (db : ob.data = .seq #[] k) (hu : A.units < cLine) (h : Q (.bool true) s) :
    wpAny (model prog w) A (compareOp .Eq (.ref a) (.ref b)) Q E s :=
  SeqAt.RcAt.lists (e := fun _ => true) (list_at N ma ca da) (list_at N mb cb db) rfl hu (fun j h1 h2 => absurd h1 (Nat.not_lt_zero _)) prog w E Q h
theorem eq_nilF {a b : Addr} {oa ob : Obj} {xs : Array Value} {n k : Nat} {Q : Value → Shared → Prop} (N : News h₀ L s.heap news) (ma : (a, oa) ∈ news) (ca : oa.cls = .type "list") (da : oa.data = .seq xs n) (mb : (b, ob) ∈ news) (cb : ob.cls = .type "list") (db : ob.data = .seq #[] k) (hz : 0 < xs.size) (hu : A.units < cLine) (h : Q (.bool false) s) :
    wpAny (model prog w) A (compareOp .Eq (.ref a) (.ref b)) Q E s :=
  SeqAt.RcAt.lists_lengths (list_at N ma ca da) (list_at N mb cb db) (by simp; intro q; simp [q] at hz) hu prog w E Q h
theorem last_item {value slice : PySem.Expr} {l : Addr} {vs : List Value} {v : Value} {n : Nat} {u : Tok} {Q : Value → Shared → Prop}
    (N : News h₀ L s.heap news) (hm : (l, listOf (vs ++ [v]).toArray n) ∈ news) (hz : vs.length < 1000) (h : Q v s)
    (hs : subscripted slice false (.ref l) (.int (-1) u) = operate [.ref l, .int (-1) u] (getItem (.ref l) (.int (-1) u)) := by with_unfolding_all rfl) :
    wpAny (model prog w) A (subscriptTail value slice (.ref l) (.int (-1) u)) Q E s := by
  have hl : s.heap.IsList l (vs ++ [v]).toArray := ⟨_, (N _ hm).1, rfl, n, rfl⟩
  have hsz : ((vs ++ [v]).toArray.size : Int) = vs.length + 1 := by simp
  refine tail_any hl.typeIs slot_list_getitem.lookup (wpAny_getItem_list_neg hl (by decide) (by omega) (by decide) (x := v) ?_ h) hs
  have e : (-1 + ((vs ++ [v]).toArray.size : Int)).toNat = vs.length := by omega
  rw [e]; simp
theorem setL_last (v x : Value) : ∀ vs : List Value, ki_setL (vs ++ [v]) vs.length x = some (vs ++ [x])
  | [] => rfl
  | y :: r => by
    show (match ki_setL (r ++ [v]) r.length x with | some q => some (y :: q) | none => none) = _
    rw [setL_last v x r]; rfl
theorem set_last {l : Addr} {vs : List Value} {v x : Value} {n : Nat} {t : Tok} {m : Str → Option Value} {news' : List (Addr × Obj)} {Q : Unit → Shared → Prop} (F : Fr h₀ L s.heap m) (N : News h₀ L s.heap news) (U : Upd l (listOf (vs ++ [v]).toArray n) (listOf (vs ++ [x]).toArray n) news news')
    (h : ∀ h', Fr h₀ L h' m → News h₀ L h' news' → Q () { s with heap := h' }) : wpAny (model prog w) A (setItem (.ref l) (.int (-1) t) x) Q E s := by
  refine ki_setNeg (j := vs.length) F N (by decide) (by decide) ?_ (by simpa using setL_last v x vs) U h
  unfold seqIndex?
  have e : ((vs ++ [v]).toArray.size : Int) = vs.length + 1 := by simp
  simp only [e]
  have e1 : (if (-1 : Int) < 0 then (-1 : Int) + ((vs.length : Int) + 1) else -1) = (vs.length : Int) := by rw [if_pos (by decide)]; omega
  rw [e1]
  have e3 : (decide ((0 : Int) ≤ (vs.length : Int)) && decide ((vs.length : Int) < (vs.length : Int) + 1)) = true := by simp; omega
  rw [if_pos e3, Int.toNat_natCast]
end
/-- a piece: its tuple's address, is it a token, its signs -/
structure Pc where
  a : Addr
  b : Bool
  x : Str
  t : Tok
abbrev Pc.e (p : Pc) : Addr × Obj := (p.a, { cls := .type "tuple", data := .seq #[.bool p.b, .str p.x p.t] })
def refs : List Pc → List Value
  | [] => []
  | p :: r => refs r ++ [.ref p.a]
theorem refs_length : ∀ rs : List Pc, (refs rs).length = rs.length
  | [] => rfl
  | p :: r => by rw [refs, List.length_append, refs_length r]; rfl
def al (c : Nat) : Bool := Txt.isalnum ⟨#[c]⟩
def stepR : List (Bool × Str) → Nat → List (Bool × Str)
  | [], c => [(al c, ⟨#[c]⟩)]
  | (b, x) :: r, c => if (b == al c) = true then (al c, x ++ ⟨#[c]⟩) :: r else (al c, ⟨#[c]⟩) :: (b, x) :: r
def cutR (l : List Nat) : List (Bool × Str) := l.foldl stepR []
theorem cutR_snoc (l : List Nat) (c : Nat) : cutR (l ++ [c]) = stepR (cutR l) c := by unfold cutR; rw [List.foldl_append]; rfl
def CutJ (l : List Nat) (m : Str → Option Value) (nx : List (Addr × Obj)) : Prop :=
  ∃ pl n rs, m (Str.ofString "pieces") = some (.ref pl) ∧ nx = (pl, listOf (refs rs).toArray n) :: rs.map Pc.e ∧ (∀ p ∈ rs, p.a ≠ pl) ∧ rs.map (fun p => (p.b, p.x)) = cutR l ∧ (∀ p ∈ rs, p.x.length ≤ l.length) ∧ rs.length ≤ l.length
theorem cutJ_cls (l : List Nat) (m : Str → Option Value) (nx : List (Addr × Obj)) (h : CutJ l m nx) : ∀ p ∈ nx, p.2.cls = .type "list" ∨ p.2.cls = .type "tuple" := by
  obtain ⟨pl, n, rs, _, rfl, _⟩ := h
  intro p hp
  rcases List.mem_cons.mp hp with rfl | hp
  · exact .inl rfl
  · obtain ⟨q, _, rfl⟩ := List.mem_map.mp hp
    exact .inr rfl
theorem lenS (x : Str) (c : Nat) : (x ++ (⟨#[c]⟩ : Str)).length = x.length + 1 := by rw [Str.length_append]; rfl
section
variable {g h' : Heap} {L pl D l0 : Addr} {own : List (Addr × Obj)} {m' : Str → Option Value} {n c tk : Nat} {pre : List Nat} {o0 oq : Obj} {t' : Tok} {q : Pc} {r : List Pc} {s₁ s₂ : Shared}
theorem turn_new {rs : List Pc} {xs : Array Value} (F : Fr g L h' m') (hm : m' (Str.ofString "pieces") = some (.ref pl)) (N : ∀ p ∈ (D, ({ cls := .type "tuple", data := .seq #[.bool (Txt.isalnum ⟨#[c]⟩), .str ⟨#[c]⟩ t'] } : Obj)) :: (pl, listOf xs n) :: (rs.map Pc.e ++ own), h'.get? p.1 = some p.2 ∧ p.1 ≠ L ∧ g.get? p.1 = none)
    (hx : xs = (refs rs ++ [Value.ref D]).toArray) (hne : ∀ p ∈ rs, p.a ≠ pl) (hD : @LT.lt Nat _ pl D) (hcut : stepR (rs.map fun p => (p.b, p.x)) c = (al c, ⟨#[c]⟩) :: rs.map fun p => (p.b, p.x)) (hc : rs.map (fun p => (p.b, p.x)) = cutR pre) (hlen : ∀ p ∈ rs, p.x.length ≤ pre.length) (hrl : rs.length ≤ pre.length)
    (e : s₂ = { s₁ with heap := h', toks := tk }) : TurnEnd g L own (CutJ (pre ++ [c])) s₁ .next s₂ := by
  refine ⟨rfl, h', tk, m', (pl, listOf (refs (⟨D, Txt.isalnum ⟨#[c]⟩, ⟨#[c]⟩, t'⟩ :: rs)).toArray n) :: (⟨D, Txt.isalnum ⟨#[c]⟩, ⟨#[c]⟩, t'⟩ :: rs).map Pc.e, e, F, ?_, ?_⟩
  · intro p hp
    refine N p ?_
    subst hx
    simp only [List.map_cons, List.cons_append, List.mem_cons, List.mem_append] at hp ⊢
    rcases hp with h | h | h
    · exact .inr (.inl h)
    · exact .inl h
    · exact .inr (.inr h)
  · refine ⟨pl, n, _, hm, rfl, ?_, ?_, ?_, ?_⟩
    · intro p hp
      rcases List.mem_cons.mp hp with rfl | hp
      · exact Ne.symm (Nat.ne_of_lt hD)
      · exact hne p hp
    · rw [cutR_snoc, ← hc, hcut]; rfl
    · intro p hp
      rw [List.length_append]
      rcases List.mem_cons.mp hp with rfl | hp
      · show 1 ≤ pre.length + 1; omega
      · have := hlen p hp; omega
    · rw [List.length_append, List.length_cons]; show rs.length + 1 ≤ pre.length + 1; omega
theorem turn_nil (F : Fr g L h' m') (N : News g L h' ((D, ({ cls := .type "tuple", data := .seq #[.bool (Txt.isalnum ⟨#[c]⟩), .str ⟨#[c]⟩ t'] } : Obj)) :: (l0, o0) :: (pl, listOf (#[].push (Value.ref D)) n) :: own)) (hm : m' (Str.ofString "pieces") = some (.ref pl)) (hD : @LT.lt Nat _ pl D)
    (hc : ([] : List Pc).map (fun p => (p.b, p.x)) = cutR pre) (hlen : ∀ p ∈ ([] : List Pc), p.x.length ≤ pre.length) (hrl : ([] : List Pc).length ≤ pre.length)
    (e : s₂ = { s₁ with heap := h', toks := tk }) : TurnEnd g L own (CutJ (pre ++ [c])) s₁ .next s₂ :=
  turn_new (rs := []) F hm (fun p hp => N p (by
    simp only [List.map_nil, List.nil_append, List.mem_cons] at hp ⊢
    rcases hp with h | h | h
    · exact .inl h
    · exact .inr (.inr (.inl h))
    · exact .inr (.inr (.inr h)))) rfl (fun _ h => nomatch h) hD rfl hc hlen hrl e
theorem turn_more (F : Fr g L h' m') (N : News g L h' ((D, ({ cls := .type "tuple", data := .seq #[.bool (Txt.isalnum ⟨#[c]⟩), .str ⟨#[c]⟩ t'] } : Obj)) :: (l0, o0) :: (pl, listOf ((refs r ++ [Value.ref q.a]).toArray.push (Value.ref D)) n) :: (q.a, { cls := .type "tuple", data := .seq #[.bool q.b, .str q.x q.t] }) :: (r.map Pc.e ++ own))) (hm : m' (Str.ofString "pieces") = some (.ref pl)) (hD : @LT.lt Nat _ pl D)
    (hb : (q.b == Txt.isalnum ⟨#[c]⟩) = false) (hne : ∀ p ∈ q :: r, p.a ≠ pl) (hc : (q :: r).map (fun p => (p.b, p.x)) = cutR pre) (hlen : ∀ p ∈ q :: r, p.x.length ≤ pre.length) (hrl : (q :: r).length ≤ pre.length)
    (e : s₂ = { s₁ with heap := h', toks := tk }) : TurnEnd g L own (CutJ (pre ++ [c])) s₁ .next s₂ :=
  turn_new (rs := q :: r) F hm (fun p hp => N p (by
    simp only [List.map_cons, List.cons_append, List.mem_cons, List.mem_append] at hp ⊢
    rcases hp with h | h | h | h
    · exact .inl h
    · exact .inr (.inr (.inl h))
    · exact .inr (.inr (.inr (.inl h)))
    · exact .inr (.inr (.inr (.inr h))))) (by simp [refs]) hne hD (by show (if (q.b == al c) = true then _ else _) = _; rw [if_neg (by unfold al; rw [hb]; exact Bool.false_ne_true)]; rfl) hc hlen hrl e
theorem turn_grow (F : Fr g L h' m') (N : News g L h' ((D, ({ cls := .type "tuple", data := .seq #[.bool (Txt.isalnum ⟨#[c]⟩), .str (q.x ++ ⟨#[c]⟩) t'] } : Obj)) :: (l0, o0) :: (pl, listOf (refs r ++ [Value.ref D]).toArray n) :: (q.a, oq) :: (r.map Pc.e ++ own))) (hm : m' (Str.ofString "pieces") = some (.ref pl)) (hD : @LT.lt Nat _ pl D)
    (hb : (q.b == Txt.isalnum ⟨#[c]⟩) = true) (hne : ∀ p ∈ q :: r, p.a ≠ pl) (hc : (q :: r).map (fun p => (p.b, p.x)) = cutR pre) (hlen : ∀ p ∈ q :: r, p.x.length ≤ pre.length) (hrl : (q :: r).length ≤ pre.length)
    (e : s₂ = { s₁ with heap := h', toks := tk }) : TurnEnd g L own (CutJ (pre ++ [c])) s₁ .next s₂ := by
  refine ⟨rfl, h', tk, m', (pl, listOf (refs (⟨D, Txt.isalnum ⟨#[c]⟩, q.x ++ ⟨#[c]⟩, t'⟩ :: r)).toArray n) :: (⟨D, Txt.isalnum ⟨#[c]⟩, q.x ++ ⟨#[c]⟩, t'⟩ :: r).map Pc.e, e, F, ?_, ?_⟩
  · intro p hp
    refine N p ?_
    simp only [List.map_cons, List.cons_append, List.mem_cons, List.mem_append] at hp ⊢
    rcases hp with h | h | h | h
    · exact .inr (.inr (.inl h))
    · exact .inl h
    · exact .inr (.inr (.inr (.inr (.inl h))))
    · exact .inr (.inr (.inr (.inr (.inr h))))
  · refine ⟨pl, n, _, hm, rfl, ?_, ?_, ?_, ?_⟩
    · intro p hp
      rcases List.mem_cons.mp hp with rfl | hp
      · exact Ne.symm (Nat.ne_of_lt hD)
      · exact hne p (.tail _ hp)
    · rw [cutR_snoc, ← hc]
      show _ = (if (q.b == al c) = true then _ else _)
      rw [if_pos (by unfold al; exact hb)]; rfl
    · intro p hp
      rw [List.length_append]
      rcases List.mem_cons.mp hp with rfl | hp
      · show (q.x ++ (⟨#[c]⟩ : Str)).length ≤ pre.length + 1
        rw [lenS]; have := hlen q (.head _); omega
      · have := hlen p (.tail _ hp); show _ ≤ pre.length + 1; omega
    · rw [List.length_append]; rw [List.length_cons] at hrl ⊢; show r.length + 1 ≤ pre.length + 1; omega
end
section
variable {prog : Program} {w : World} {p : Program} {loose : List Str} {mean : ExcName → Option Value} {mg mb : Str → Option Value}
theorem cut_does (news : List (Addr × Obj)) (xt : Str) (t : Tok) (hx : xt.length ≤ 200) :
    Does prog w (Mine.kk.heap_1 w.params) p loose mean mg mb (.ref 63) [.str xt t] news 1 fun K => ∀ pl n rs, rs.map (fun p => (p.b, p.x)) = cutR xt.cps.toList → (∀ p ∈ rs, @Ne Nat p.a pl) → (∀ q ∈ news, @Ne Nat q.1 pl) → (∀ q ∈ news, ∀ p ∈ rs, @Ne Nat q.1 p.a) →
      K (.ref pl) (((pl, listOf (refs rs).toArray n) :: rs.map Pc.e) ++ news) := by
  have hz := fillK; revert hz; k_fill; intro _
  k_with_none
  w_top off
  k_with "*" => ((with_reducible show wpAny _ _ _ _ _ (Shared.mk _ _ _ (_ + _ + _) _)); refine st_norm (s0 := s) rfl rfl rfl fun _ => ?_)
  k_with "execs cons" => (k_here; first | ((rename News _ _ _ _ => N6); dsimp only at N6) | ((rename Fr _ _ _ _ => F6); dsimp only at F6))
  k_with "compareOp NotEq ref ref" => (k_here; k_dflt (first
  | (refine' ne_nilF ?xN ?xa ?x1 ?x2 ?xb ?x3 ?x4 ?xu ?_; (case xN => k_asm); (case xa => k_mem); (case x1 => exact rfl); (case x2 => exact rfl); (case xb => k_mem); (case x3 => exact rfl); (case x4 => exact rfl); (case xu => ktr_units))
  | (refine' ne_nilT ?xN ?xa ?x1 ?x2 ?xb ?x3 ?x4 ?xz ?xu ?_; (case xN => k_asm); (case xa => k_mem); (case x1 => exact rfl); (case x2 => exact rfl); (case xb => k_mem); (case x3 => exact rfl); (case x4 => exact rfl); (case xz => simp); (case xu => ktr_units))))
  k_with "subscriptTail Name UnaryOp ref int" => (k_here; k_dflt (refine' last_item ?xN ?xm ?xz ?_ ?xs; (case xN => k_asm); (case xm => k_mem); (case xz => assumption); (case xs => with_unfolding_all rfl)))
  k_with "setItem ref int" => (k_here; k_dflt (refine' set_last ?xF ?xN ?xU ?_; (case xF => k_asm); (case xN => k_asm); (case xU => k_upd)); intro h' F' N')
  unfold Does
  intro dp un gd cn cs a ccd cl outer A₀ base h₀ L m s Q B F X N T hk hd hu hret
  have hS : MySub [] := trivial
  refine wpAny_call ?_
  w_top off
  k_dflt (refine' code_subG ?kS ?k1 ?k2 ?k3 ?k4 ?k4s ?k5 ?kA ?kF ?kK ?k6 ?k7 ?k8 ?k9 ?kB ?_ ?c2 ?c3 ?c4 ?c5; (case kS => assumption); (case kA => exact rfl); (case kF => exact rfl); (case kK => assumption); (case k1 => k_asm); (case k2 => k_asm); (case k3 => k_asm); (case k4 => k_asm); (case k4s => first | exact List.forall_mem_nil _ | assumption); (case k5 => k_asm); (case k6 => k_is); (case k7 => k_is); (case k8 => ktr_room); (case k9 => exact BindsTo.of_eq rfl); (case c5 => decide); (case kB => exact locs rfl); (case c2 => exact rfl); (case c3 => exact rfl); (case c4 => exact rfl); k_whole; intro g' L' h' tk' FG' F' N' B' X' T' G'; (try dsimp only); (try k_lift B'); (try k_fold))
  k_with "pyIter str" => k_dflt (
    refine' text_loop CutJ cutJ_cls ?hh ?hF ?hN ?hj ?turn ?done
    (case hh => exact rfl)
    (case hF => k_asm)
    (case hN => k_asm)
    (case hj => exact ⟨_, _, [], rfl, rfl, fun _ h => (nomatch h), rfl, fun _ h => (nomatch h), Nat.le_refl _⟩)
    case' turn =>
      intro pre post c t1 m1 nx hh tk1 own hcs hJ hoff F1 N1
      unfold CutJ at hJ
      obtain ⟨pl, n, rs, hm, rfl, hne, hcut, hlen, hrl⟩ := hJ
      have hpre : pre.length < 1000 := by
        have := congrArg List.length hcs
        have e : xt.cps.toList.length = xt.length := by simp [Str.length]
        rw [e, List.length_append, List.length_cons] at this
        omega
      have F2 := fr_norm (ps := [(Str.ofString "sign", .str ⟨#[c]⟩ t1), (Str.ofString "pieces", .ref pl)]) (by simp only [List.forall_mem_cons, List.not_mem_nil, false_implies, implies_true, and_true]; exact ⟨rfl, hm⟩) F1
      clear F1 hm
      dsimp only [kstB] at F2
      rcases rs with _ | ⟨q, r⟩
      case' nil =>
        have N2 : News _ _ hh ((pl, listOf #[] n) :: own) := N1
        have ho2 : OwnOff own [pl] := hoff
        clear N1 hoff
      case' cons =>
        have N2 : News _ _ hh ((pl, listOf (refs r ++ [Value.ref q.a]).toArray n) :: (q.a, { cls := .type "tuple", data := .seq #[.bool q.b, .str q.x q.t] }) :: (r.map Pc.e ++ own)) := N1
        have hq : @Ne Nat q.a pl := hne q (.head _)
        have ho2 : OwnOff (r.map Pc.e ++ own) [pl] := by
          intro p hp b hb
          rw [List.mem_singleton.mp hb]
          rcases List.mem_append.mp hp with hp | hp
          · obtain ⟨z, hz, rfl⟩ := List.mem_map.mp hp
            exact hne z (.tail _ hz)
          · exact hoff p hp pl (.head _)
        have hql : q.x.length < 1000 := Nat.lt_of_le_of_lt (hlen q (.head _)) hpre
        have hr1 : (refs r).length < 1000 := by
          rw [refs_length]
          rw [List.length_cons] at hrl
          omega
        clear N1 hoff
    case' done =>
      intro m1 nx hh tk1 hJ F1 N1
      unfold CutJ at hJ
      obtain ⟨pl, n, rs, hm, rfl, hne, hcut, hlen, hrl⟩ := hJ
      have F2 := fr_norm (ps := [(Str.ofString "pieces", .ref pl)]) (by simp only [List.forall_mem_cons, List.not_mem_nil, false_implies, implies_true, and_true]; exact hm) F1
      clear F1 hm
      dsimp only [kstB] at F2)
  k_steps
  · rename (∀ q ∈ news, _ → _) => hG
    have hof := off_made hG (by assumption : News _ _ _ ((pl, listOf (refs rs).toArray n) :: rs.map Pc.e)) rfl
    exact hret pl n rs hcut hne (fun q hq => hof q hq pl (.head _)) (fun q hq p hp => hof q hq p.a (List.mem_map.mpr ⟨p.e, .tail _ (List.mem_map_of_mem hp), rfl⟩)) _ _ (by assumption) (News.append (by assumption) (Kept.pure (by assumption) N))
  · exact turn_grow (by assumption) (by assumption) rfl (by omega) (by assumption) hne hcut hlen hrl rfl
  · exact turn_more (by assumption) (by assumption) rfl (by omega) (by assumption) hne hcut hlen hrl rfl
  · exact turn_nil (by assumption) (by assumption) rfl (by omega) hcut hlen hrl rfl
end
end Mine
end
section
set_option linter.unusedVariables false
open PySem PySem.W PyProof.Rows PySem.Calls PySem.Spec PyProof.V PyProof.Rows.LCg
set_option maxRecDepth 100000
set_option maxHeartbeats 1000000
namespace Mine
/-- the texts of the pieces of one kind -/
def vals (f : Bool → Bool) (ps : List Pc) : List Value := (ps.filter fun p => f p.b).map fun p => .str p.x p.t
theorem vals_snoc (f : Bool → Bool) (ps : List Pc) (p : Pc) : vals f (ps ++ [p]) = if f p.b then vals f ps ++ [.str p.x p.t] else vals f ps := by
  unfold vals
  rw [List.filter_append]
  cases h : f p.b <;> simp [h]
theorem vals_len (f : Bool → Bool) (ps : List Pc) : (vals f ps).length ≤ ps.length := by
  unfold vals; rw [List.length_map]; exact List.length_filter_le _ _
section
variable {prog : Program} {w : World} {A : Around} {E : Value → Shared → Prop} {s : Shared} {h₀ : Heap} {L : Addr} {m : Str → Option Value} {env : Env} {news : List (Addr × Obj)}
theorem pairs_comp {iter c : Expr} {x x₂ : Str} {px px₂ tp pe : Pos} {kk : Nat} {scope : Scope} {cl : List (Str × Addr)} {pos : Pos} {ax : Addr} {ps : List Pc} {k : Nat} {Q : Value → Shared → Prop} (f : Bool → Bool)
    (hh : A.handled = none) (F : Fr h₀ L s.heap m) (N : News h₀ L s.heap news) (hm : (ax, listOf (ps.map fun p => Value.ref p.a).toArray k) ∈ news) (hps : ∀ p ∈ ps, p.e ∈ news) (hz : ps.length ≤ 1000)
    (hclos : closureFor scope env = pure cl) (hcell : ∀ y ∈ scope.names, y.2 ≠ .cell) (hkind : scope.kind = .function)
    (hnames : ∀ y ∈ scope.names, y.2 = .local → scope.names.lookup y.1 = some .local) (hx : scope.names.lookup x = some .local) (hx₂ : scope.names.lookup x₂ = some .local) (hxx : x ≠ x₂) (hd : (x₂ == ("__debug__" : Str)) = false)
    (hc : ∀ (b : Bool) (C : Addr) (m₂ : Str → Option Value) (s₁ : Shared) (Q' : Bool → Shared → Prop) (E' : Value → Shared → Prop), s₁.heap.Ns C m₂ → m₂ x = some (.bool b) → Q' (f b) s₁ → wpAny (model prog w) A (isTrue c (compEnvC scope cl C env) (eval c (compEnvC scope cl C env))) Q' E' s₁)
    (hi : ∀ (Q' : Value → Shared → Prop), Q' (.ref ax) s → wpAny (model prog w) A (eval iter env) Q' E s)
    (h : ∀ D h' tk, Fr h₀ L h' m → News h₀ L h' ((D, listOf (vals f ps).toArray (vals f ps).length) :: news) → (∀ p ∈ news, p.1 < D) → Q (.ref D) { s with heap := h', toks := tk })
    (hs : ∀ x, foldedSetIterable iter env x = pure x := by intro _; rfl) :
    wpAny (model prog w) A (eval (.ListComp (.Name x₂ pe) [⟨.Tuple [.Name x px, .Name x₂ px₂] kk tp, iter, [c], 0⟩] scope pos) env) Q E s := by
  rw [eval_ListComp]
  refine wpAny_comprehension_free (use := none) rfl hs hclos hkind hnames (hi _ ?_)
  have hl : s.heap.IsList ax (ps.map fun p => Value.ref p.a).toArray := ⟨_, (N _ hm).1, rfl, k, rfl⟩
  have hlt : @LT.lt Nat _ ax s.heap.objs.size := Heap.lt_size (N _ hm).1
  refine wpAny_pyIter_list hl ?_
  have hILt : @LT.lt Nat _ L s.heap.objs.size := F.ns.lt
  have hI₀ : h₀.get? s.heap.objs.size = none := next_is_new F
  have hNlt : ∀ p ∈ news, @LT.lt Nat _ p.1 s.heap.objs.size := fun p hp => Heap.lt_size (N p hp).1
  have up : ∀ b o, s.heap.get? b = some o → (s.heap.push { cls := .type "list_iterator", data := .fields #[.ref ax, .int 0 0] }).get? b = some o := fun b o e => Heap.get?_push_of_some _ e
  have hszI : (s.heap.push { cls := .type "list_iterator", data := .fields #[.ref ax, .int 0 0] }).objs.size = s.heap.objs.size + 1 := Heap.size_push ..
  have hst : (s.heap.push { cls := .type "list_iterator", data := .fields #[.ref ax, .int 0 0] }).IsListIter s.heap.objs.size ax 0 := ⟨_, Heap.get?_push_size _ rfl, rfl, rfl⟩
  have hne : ax ≠ s.heap.objs.size := Nat.ne_of_lt hlt
  have F1 := F.keeps up
  have N1 : News h₀ L _ news := N.grown up
  have hl1 := hl.push { cls := .type "list_iterator", data := .fields #[.ref ax, .int 0 0] }
  generalize s.heap.push { cls := .type "list_iterator", data := .fields #[.ref ax, .int 0 0] } = H1 at up hszI hst F1 N1 hl1 ⊢
  generalize s.heap.objs.size = I at hlt hILt hI₀ hNlt hszI hst hne ⊢
  refine wpAny_newObj_type (wpAny_newFunctionEnv hcell (by intro y hy; simp at hy) (fun h₁ hns₁ hsb₁ => ?_) hkind)
  dsimp only at hns₁ hsb₁ ⊢
  have hszD : (H1.push { cls := .type "list", dict := none, data := .seq ([] : List Value).toArray }).objs.size = H1.objs.size + 1 := Heap.size_push ..
  have upD : ∀ b o, H1.get? b = some o → (H1.push { cls := .type "list", dict := none, data := .seq ([] : List Value).toArray }).get? b = some o := fun b o e => Heap.get?_push_of_some _ e
  have hDg : (H1.push { cls := .type "list", dict := none, data := .seq ([] : List Value).toArray }).get? H1.objs.size = some (lst []) := Heap.get?_push_size _ rfl
  generalize H1.push { cls := .type "list", dict := none, data := .seq ([] : List Value).toArray } = H2 at hszD upD hDg hns₁ hsb₁ ⊢
  have hD : H1.objs.size = I + 1 := hszI
  generalize H1.objs.size = D at hszD hDg hD hsb₁ ⊢
  have hC : H2.objs.size = D + 1 := hszD
  generalize H2.objs.size = C at hC hns₁ hsb₁ ⊢
  subst hD hC
  have old : ∀ (b : Nat) o, b < I + 1 → H1.get? b = some o → h₁.get? b = some o := fun b o hb e => hsb₁.extBut b o (by show @Ne Nat b (I + 1 + 1); omega) (Heap.get?_push_of_some _ (upD b o e))
  have hlt1 : ∀ {b : Nat} {o : Obj}, H1.get? b = some o → b < I + 1 := fun {b o} e => by have q : @LT.lt Nat _ b H1.objs.size := Heap.lt_size e; omega
  have hacc : h₁.get? (I + 1) = some (lst []) := hsb₁.extBut _ _ (by show (I + 1 : Nat) ≠ I + 1 + 1; omega) (Heap.get?_push_of_some _ hDg)
  have hns0 : ∀ b : Nat, I ≤ b → h₀.get? b = none := fun b hb => by
    cases e : h₀.get? b with
    | none => rfl
    | some o => exact absurd (Nat.lt_of_lt_of_le (Heap.lt_size e) F.above) (by show ¬ @LT.lt Nat _ b L; omega)
  have old1 : ∀ b o, H1.get? b = some o → h₁.get? b = some o := fun b o e => old b o (hlt1 e) e
  refine codeAny_compStart_list ?_ ?_
  all_goals
    have loop : codeAny (model prog w) A (.compLoop (.ListComp (.Name x₂ pe) [⟨.Tuple [.Name x px, .Name x₂ px₂] kk tp, iter, [c], 0⟩] scope pos) 0 (.ref I) (.ref (I + 1)) (compEnvC scope cl (I + 1 + 1) env))
        (compPost (model prog w) A E none Q (.ref (I + 1)) (I + 1 + 1)) { s with heap := h₁, toks := s.toks + ([] : List (Str × Value)).length } := by
      have W := Walks.list (prog := prog) (w := w) hh I ax hne (ps.map fun p => Value.ref p.a).toArray
      refine kct_loop
        (fun n s' => ∃ h' tk i m', s' = { s with heap := h', toks := tk } ∧ i ≤ ps.length ∧ n = ps.length + 1 - i ∧ (h'.IsListIter I ax i ∧ h'.IsList ax (ps.map fun p => Value.ref p.a).toArray) ∧ Fr h₀ L h' m ∧ h'.Ns (I + 1 + 1 : Nat) m' ∧
          News h₀ L h' ((I + 1, lst (vals f (ps.take i))) :: news)) ?_ (ps.length + 1)
        ⟨h₁, _, 0, _, rfl, Nat.zero_le _, rfl, ⟨hst.at fun o e => old1 _ _ e, hl1.at fun o e => old1 _ _ e⟩, F1.keeps old1, hns₁, ?_⟩
      · rintro n s' ⟨h', tk, i, m', rfl, hi', rfl, hst', F', hn', N'⟩
        have hCL : @Ne Nat (I + 1 + 1) L := by omega
        by_cases hlti : i < ps.length
        · refine W.item i _ _ _ (by simpa using hlti) hst' fun v h₂ tk₂ hPv hst₂ hk₂ => ?_
          have hv : v = .ref ps[i].a := by
            have : (ps.map fun p => Value.ref p.a)[i]? = some v := by simpa using hPv
            rw [List.getElem?_map, List.getElem?_eq_getElem hlti] at this
            exact (Option.some.inj this).symm
          subst hv
          have hpm : ps[i] ∈ ps := List.getElem_mem hlti
          have hk' : ∀ (b : Nat) o, b ≠ I → h'.get? b = some o → h₂.get? b = some o := fun b o hb e => hk₂ b o (by simpa using hb) e
          have N₂ : News h₀ L h₂ ((I + 1, lst (vals f (ps.take i))) :: news) := news_but N' hk₂ fun p hp => by
            rcases List.mem_cons.mp hp with rfl | hp
            · show (I + 1 : Nat) ≠ I; omega
            · exact Nat.ne_of_lt (hNlt p hp)
          have ht : IsTup h₂ ps[i].a #[.bool ps[i].b, .str ps[i].x ps[i].t] := ⟨_, (N₂ _ (.tail _ (hps _ hpm))).1, rfl, _, rfl⟩
          refine wpAny_letOwnedTupleGo_listiter hst₂.1 ?_
          refine assign_Tuple_tuple hh ht rfl rfl fun h₅ he => ?_
          have he' : ∀ b o, h₂.get? b = some o → h₅.get? b = some o := fun b o e => he b o (Nat.ne_of_lt (Heap.lt_size e)) e
          refine assignInOrder_cons (wpAny_assign_Name (wpAny_storeName_local (lookup_relabel_local hx) ((hn'.at' fun o e => hk' (I + 1 + 1) o (by omega) e).at' fun o e => he' _ o e) (fun h₆ hn₆ hs₆ => ?_) (by simp [compEnvC, relabel, hkind])))
          refine assignInOrder_cons (wpAny_assign_Name (wpAny_storeName_local (lookup_relabel_local hx₂) hn₆ (fun h₃ hn₃ hs₃ => ?_) (by simp [compEnvC, relabel, hkind])))
          refine assignInOrder_nil ?_
          have old3 : ∀ (b : Nat) o, b ≠ I + 1 + 1 → h₂.get? b = some o → h₃.get? b = some o := fun b o hb e => hs₃.extBut b o hb (hs₆.extBut b o hb (he' b o e))
          have hst₃ : h₃.IsListIter I ax (i + 1) ∧ h₃.IsList ax (ps.map fun p => Value.ref p.a).toArray := ⟨hst₂.1.at fun o e => old3 I _ (by omega) e, hst₂.2.at fun o e => old3 ax _ (by show @Ne Nat ax (I + 1 + 1); omega) e⟩
          have F₃ : Fr h₀ L h₃ m := (((fr_but F' hk₂ (by show @Ne Nat L I; omega) hI₀).keeps he').change hs₆ hCL (hns0 (I + 1 + 1) (by omega))).change hs₃ hCL (hns0 (I + 1 + 1) (by omega))
          have N₃ : News h₀ L h₃ ((I + 1, lst (vals f (ps.take i))) :: news) := fun p hp => by
            refine ⟨old3 _ _ ?_ (N₂ p hp).1, (N₂ p hp).2⟩
            rcases List.mem_cons.mp hp with rfl | hp
            · show (I + 1 : Nat) ≠ I + 1 + 1; omega
            · have := hNlt p hp; show @Ne Nat p.1 (I + 1 + 1); omega
          have htk : ps.take (i + 1) = ps.take i ++ [ps[i]] := by rw [List.take_add_one, List.getElem?_eq_getElem hlti]; rfl
          refine hc ps[i].b (I + 1 + 1) _ _ _ _ hn₃ (by simp [hxx]) ?_
          by_cases hf : f ps[i].b = true
          · rw [if_pos hf]
            refine wpAny_Name (wpAny_loadName_local (by simp [compEnvC, relabel, hkind]) (lookup_relabel_local hx₂) hn₃ (v := .str ps[i].x ps[i].t) (by simp) ?_) hd
            have zD := (N₃ _ (.head _)).1
            refine append_at (hsz := by rw [List.size_toArray, sizeLine_eq]; have := vals_len f (ps.take i); have := List.length_take_le i ps; omega) zD fun h₅ hs₅ hD₅ => ?_
            refine ⟨ps.length + 1 - (i + 1), by omega, h₅, _, i + 1, _, rfl, hlti, rfl, ⟨hst₃.1.at fun o e => hs₅.extBut _ o (by show (I : Nat) ≠ I + 1; omega) e, hst₃.2.at fun o e => hs₅.extBut ax o (by show @Ne Nat ax (I + 1); omega) e⟩,
              F₃.change hs₅ (by show @Ne Nat (I + 1) L; omega) (hns0 (I + 1) (by omega)), hn₃.sameBut hs₅ (by show (I + 1 + 1 : Nat) ≠ I + 1; omega), fun p hp => ?_⟩
            rw [htk, vals_snoc, if_pos hf] at hp
            rcases List.mem_cons.mp hp with rfl | hp
            · exact ⟨hD₅.trans (congrArg some (lst_snoc _ _)), by show @Ne Nat (I + 1) L; omega, hns0 (I + 1) (by omega)⟩
            · have := hNlt p hp
              exact ⟨hs₅.extBut _ _ (by show @Ne Nat p.1 (I + 1); omega) (N₃ p (.tail _ hp)).1, (N₃ p (.tail _ hp)).2⟩
          · rw [if_neg hf]
            refine ⟨ps.length + 1 - (i + 1), by omega, h₃, _, i + 1, _, rfl, hlti, rfl, hst₃, F₃, hn₃, ?_⟩
            rw [htk, vals_snoc, if_neg hf]
            exact N₃
        · obtain rfl : i = ps.length := Nat.le_antisymm hi' (Nat.not_lt.mp hlti)
          refine W.done _ _ _ (by simpa using hst') fun h₂ tk₂ hk₂ => ?_
          have hk' : ∀ (b : Nat) o, b ≠ I → h'.get? b = some o → h₂.get? b = some o := fun b o hb e => hk₂ b o (by simpa using hb) e
          have N₂ : News h₀ L h₂ ((I + 1, lst (vals f (ps.take ps.length))) :: news) := news_but N' hk₂ fun p hp => by
            rcases List.mem_cons.mp hp with rfl | hp
            · show (I + 1 : Nat) ≠ I; omega
            · exact Nat.ne_of_lt (hNlt p hp)
          rw [List.take_length] at N₂
          refine ⟨m', hn'.at' fun o e => hk' (I + 1 + 1) o (by omega) e, fun h'' hs'' => h (I + 1) h'' _ ((fr_but F' hk₂ (by show @Ne Nat L I; omega) hI₀).change hs'' hCL (hns0 (I + 1 + 1) (by omega))) (fun p hp => ?_) (fun p hp => by have := hNlt p hp; show @LT.lt Nat _ p.1 (I + 1); omega)⟩
          refine ⟨hs''.extBut _ _ ?_ (N₂ p hp).1, (N₂ p hp).2⟩
          rcases List.mem_cons.mp hp with rfl | hp
          · show (I + 1 : Nat) ≠ I + 1 + 1; omega
          · have := hNlt p hp; show @Ne Nat p.1 (I + 1 + 1); omega
      · intro p hp
        rcases List.mem_cons.mp hp with rfl | hp
        · exact ⟨hacc, by show @Ne Nat (I + 1) L; omega, hns0 (I + 1) (by omega)⟩
        · exact ⟨old1 _ _ (N1 p hp).1, (N1 p hp).2⟩
  · exact loop
  · exact (Walks.list (prog := prog) (w := w) hh I ax hne (ps.map fun p => Value.ref p.a).toArray).self 0 _ _ _ ⟨hst.at fun o e => old1 _ _ e, hl1.at fun o e => old1 _ _ e⟩ loop
end
end Mine
end
section
set_option linter.unusedVariables false
open PySem PySem.W PyProof.Rows PySem.Calls PySem.Spec
set_option maxRecDepth 100000
set_option maxHeartbeats 2000000
namespace Mine

def rf (ps : List Pc) : List Value := ps.map fun p => Value.ref p.a
theorem refs_rev (rs : List Pc) : refs rs = rf rs.reverse := by
  induction rs with
  | nil => rfl
  | cons p r ih => rw [refs, ih, List.reverse_cons]; unfold rf; rw [List.map_append]; rfl
theorem rf_ne {ps : List Pc} {p : Pc} (h : p ∈ ps) : 0 < (rf ps).toArray.size := by
  rw [List.size_toArray]; unfold rf; rw [List.length_map]; exact List.length_pos_of_mem h
section
variable {prog : Program} {w : World} {A : Around} {E : Value → Shared → Prop} {s : Shared} {h₀ : Heap} {L : Addr} {news : List (Addr × Obj)}
theorem first_piece {value slice : PySem.Expr} {l : Addr} {ps r : List Pc} {p : Pc} {n : Nat} {u : Tok} {Q : Value → Shared → Prop}
    (N : News h₀ L s.heap news) (hm : (l, listOf (rf ps).toArray n) ∈ news) (e : ps = p :: r) (h : Q (.ref p.a) s)
    (hs : subscripted slice false (.ref l) (.int 0 u) = operate [.ref l, .int 0 u] (getItem (.ref l) (.int 0 u)) := by with_unfolding_all rfl) :
    wpAny (model prog w) A (subscriptTail value slice (.ref l) (.int 0 u)) Q E s := by
  subst e
  have hl : s.heap.IsList l (rf (p :: r)).toArray := ⟨_, (N _ hm).1, rfl, n, rfl⟩
  exact tail_any hl.typeIs slot_list_getitem.lookup (wpAny_getItem_list hl (by decide) (by decide) (x := .ref p.a) (by simp [rf]) h) hs
theorem last_piece {value slice : PySem.Expr} {l : Addr} {ps c : List Pc} {q : Pc} {n : Nat} {u : Tok} {Q : Value → Shared → Prop}
    (N : News h₀ L s.heap news) (hm : (l, listOf (rf ps).toArray n) ∈ news) (e : ps = c ++ [q]) (hz : ps.length < 1000) (h : Q (.ref q.a) s)
    (hs : subscripted slice false (.ref l) (.int (-1) u) = operate [.ref l, .int (-1) u] (getItem (.ref l) (.int (-1) u)) := by with_unfolding_all rfl) :
    wpAny (model prog w) A (subscriptTail value slice (.ref l) (.int (-1) u)) Q E s := by
  subst e
  have e2 : rf (c ++ [q]) = rf c ++ [.ref q.a] := by unfold rf; rw [List.map_append]; rfl
  rw [e2] at hm
  refine last_item N hm ?_ h hs
  unfold rf; rw [List.length_map]; rw [List.length_append] at hz; omega
theorem pick_tail {ps r : List Pc} {p : Pc} (e : ps = p :: r) : kms_pick (rf ps).toArray.toList (some 1) none = rf r := by
  subst e
  have e : (rf (p :: r)).toArray.toList = .ref p.a :: rf r := rfl
  rw [e]
  have e1 : kms_lo (some 1) (Value.ref p.a :: rf r).length = 1 := by
    rw [List.length_cons]
    have e3 : kms_lo (some 1) ((rf r).length + 1) = min 1 ((rf r).length + 1) := by simp [kms_lo]
    rw [e3]; omega
  unfold kms_pick
  rw [e1]
  show ((Value.ref p.a :: rf r).drop 1).take ((Value.ref p.a :: rf r).length - 1) = rf r
  rw [List.drop_one, List.tail_cons, List.length_cons]
  exact List.take_of_length_le (by omega)
theorem pick_init {ps c : List Pc} {q : Pc} (e : ps = c ++ [q]) : kms_pick (rf ps).toArray.toList none (some (-1)) = rf c := by
  subst e
  have e : (rf (c ++ [q])).toArray.toList = rf c ++ [.ref q.a] := by unfold rf; rw [List.map_append]; rfl
  rw [e]
  have e1 : kms_hi (some (-1)) (rf c ++ [Value.ref q.a]).length = (rf c).length := by
    show (rf c ++ [Value.ref q.a]).length - 1 = _
    rw [List.length_append]; rfl
  unfold kms_pick
  rw [e1]
  show ((rf c ++ [Value.ref q.a]).drop 0).take ((rf c).length - 0) = rf c
  rw [List.drop_zero, Nat.sub_zero, List.take_left]
theorem rf_size {ps : List Pc} (hz : ps.length < 1000) : (rf ps).toArray.size ≤ sizeLine := by
  rw [List.size_toArray, sizeLine_eq]; unfold rf; rw [List.length_map]; omega
theorem hc_name {x : Str} {pc : Pos} {scope : Scope} {cl : List (Str × Addr)} {env : Env} (hk : scope.kind = .function) (hx : scope.names.lookup x = some .local) (hd : (x == ("__debug__" : Str)) = false)
    (b : Bool) (C : Addr) (m₂ : Str → Option Value) (s₁ : Shared) (Q' : Bool → Shared → Prop) (E' : Value → Shared → Prop) (hn : s₁.heap.Ns C m₂) (hv : m₂ x = some (.bool b)) (h : Q' b s₁) :
    wpAny (model prog w) A (isTrue (.Name x pc) (compEnvC scope cl C env) (eval (.Name x pc) (compEnvC scope cl C env))) Q' E' s₁ :=
  isTrue_plain (wpAny_Name (wpAny_loadName_local (by simp [compEnvC, relabel, hk]) (lookup_relabel_local hx) hn hv (wpAny_truthy_bool h)) hd)
theorem hc_not {x : Str} {pc pn : Pos} {scope : Scope} {cl : List (Str × Addr)} {env : Env} (hk : scope.kind = .function) (hx : scope.names.lookup x = some .local) (hd : (x == ("__debug__" : Str)) = false)
    (b : Bool) (C : Addr) (m₂ : Str → Option Value) (s₁ : Shared) (Q' : Bool → Shared → Prop) (E' : Value → Shared → Prop) (hn : s₁.heap.Ns C m₂) (hv : m₂ x = some (.bool b)) (h : Q' (!b) s₁) :
    wpAny (model prog w) A (isTrue (.UnaryOp .Not (.Name x pc) pn) (compEnvC scope cl C env) (eval (.UnaryOp .Not (.Name x pc) pn) (compEnvC scope cl C env))) Q' E' s₁ :=
  isTrue_not (hc_name hk hx hd b C m₂ s₁ _ E' hn hv h)
end
/-- a call by the trees, whatever comes behind -/
def DoesK (prog : Program) (w : World) (K : Frag) (p : Program) (loose : List Str) (mean : ExcName → Option Value) (mg mb : Str → Option Value) (f : Value) (vs : List Value) (news : List (Addr × Obj)) (c : Nat) (Ret : (Value → List (Addr × Obj) → Prop) → Prop) : Prop :=
  ∀ (dp un : Nat) (gd : Option (List Code)) (cn : Str) (cs : Scope) (a : Addr) (ccd : Value) (cl : List (Str × Addr)) (outer : List Env) (A₀ : Around) (base h₀ : Heap) (L : Addr) (m : Str → Option Value) (s : Shared) (R : Result → Shared → Prop),
    Below A₀ base outer h₀ → Fr h₀ L s.heap m → K.In h₀ → News h₀ L s.heap news → Top p loose mean mg mb h₀ → cs.kind = .function → dp + c < recursionLimit → un + 8 * c < cLine →
    (Ret fun v news' => ∀ h' tk', Fr h₀ L h' m → News h₀ L h' news' → R (.ok (.ret v)) { s with heap := h', toks := tk' }) →
    codeAny (model prog w) (ktrTop dp un gd cn cs L a ccd cl outer) (.call f ⟨vs, []⟩) R s
/-- what stands of the pieces: a sign ahead, the middle, a sign behind -/
inductive Shape : List (Bool × Str) → Str → List (Bool × Str) → Str → Prop
  | nil : Shape [] (Str.ofString "") [] (Str.ofString "")
  | one (b : Str) : Shape [(false, b)] b [] (Str.ofString "")
  | mid {mid c r : List (Bool × Str)} {p q : Str} : mid = (true, p) :: r → mid = c ++ [(true, q)] → Shape mid (Str.ofString "") mid (Str.ofString "")
  | bef {mid c r : List (Bool × Str)} {p q : Str} (b : Str) : mid = (true, p) :: r → mid = c ++ [(true, q)] → Shape ((false, b) :: mid) b mid (Str.ofString "")
  | aft {mid c r : List (Bool × Str)} {p q : Str} (a : Str) : mid = (true, p) :: r → mid = c ++ [(true, q)] → Shape (mid ++ [(false, a)]) (Str.ofString "") mid a
  | both {mid c r : List (Bool × Str)} {p q : Str} (b a : Str) : mid = (true, p) :: r → mid = c ++ [(true, q)] → Shape ((false, b) :: (mid ++ [(false, a)])) b mid a
abbrev Pc.v (p : Pc) : Bool × Str := (p.b, p.x)
theorem map_cons_inv {ps : List Pc} {u : Bool × Str} {l : List (Bool × Str)} (h : ps.map Pc.v = u :: l) : ∃ p r, ps = p :: r ∧ p.v = u ∧ r.map Pc.v = l := by
  cases ps with
  | nil => cases h
  | cons q r =>
    rw [List.map_cons, List.cons.injEq] at h
    exact ⟨q, r, rfl, h.1, h.2⟩
theorem map_snoc_inv {ps : List Pc} {u : Bool × Str} {l : List (Bool × Str)} (h : ps.map Pc.v = l ++ [u]) : ∃ c q, ps = c ++ [q] ∧ q.v = u ∧ c.map Pc.v = l := by
  obtain ⟨l1, l2, e, h1, h2⟩ := List.map_eq_append_iff.mp h
  obtain ⟨q, r, e2, h3, h4⟩ := map_cons_inv h2
  have : r = [] := by simpa using h4
  subst this e2
  exact ⟨l1, q, e, h3, h1⟩
theorem cutL_len : ∀ (l : List Nat) (ps : List (Bool × Str)), (l.foldl stepR ps).length ≤ ps.length + l.length
  | [], ps => Nat.le_refl _
  | c :: l, ps => by
    have h := cutL_len l (stepR ps c)
    have e : (stepR ps c).length ≤ ps.length + 1 := by
      cases ps with
      | nil => exact Nat.le_refl _
      | cons u r =>
        obtain ⟨b, x⟩ := u
        show (if (b == al c) = true then (al c, x ++ ⟨#[c]⟩) :: r else (al c, ⟨#[c]⟩) :: (b, x) :: r : List (Bool × Str)).length ≤ r.length + 1 + 1
        split
        · show r.length + 1 ≤ _; omega
        · exact Nat.le_refl _
    rw [List.foldl_cons, List.length_cons]
    omega
theorem cutR_len (l : List Nat) : (cutR l).length ≤ l.length := by
  have h := cutL_len l []
  rw [List.length_nil, Nat.zero_add] at h
  exact h
theorem shape_facts {g h : Heap} {L o d pl : Addr} {n : Nat} {rs : List Pc} {xt : Str} {X : List (Bool × Str)} (hm : rs.map (fun p => (p.b, p.x)) = cutR xt.cps.toList) (hcut : (cutR xt.cps.toList).reverse = X) (hx : xt.length ≤ 200)
    (ho : ∀ q ∈ [(d, dictOf [] 0), (o, instObj 92 d)], @Ne Nat q.1 pl) (hp : ∀ q ∈ [(d, dictOf [] 0), (o, instObj 92 d)], ∀ p ∈ rs, @Ne Nat q.1 p.a) (N : News g L h (((pl, listOf (refs rs).toArray n) :: rs.map Pc.e) ++ [(d, dictOf [] 0), (o, instObj 92 d)])) :
    ∃ ps, ps = rs.reverse ∧ ps.map Pc.v = X ∧ ps.length < 1000 ∧ OwnOff (ps.map Pc.e) [d] ∧ @Ne Nat d pl ∧ @Ne Nat o pl ∧ (∀ p ∈ ps, @Ne Nat d p.a) ∧ News g L h ((pl, listOf (rf ps).toArray n) :: (d, dictOf [] 0) :: (o, instObj 92 d) :: ps.map Pc.e) := by
  refine ⟨rs.reverse, rfl, ?_, ?_, ?_, ho _ (.head _), ho _ (.tail _ (.head _)), ?_, ?_⟩
  · rw [← hcut, ← hm, List.map_reverse]
  · rw [List.length_reverse]
    have e := congrArg List.length hm
    rw [List.length_map] at e
    have := cutR_len xt.cps.toList
    have e2 : xt.cps.toList.length = xt.length := by simp [Str.length]
    omega
  · intro q hq b hb
    rw [List.mem_singleton.mp hb]
    obtain ⟨z, hz, rfl⟩ := List.mem_map.mp hq
    exact Ne.symm (hp _ (.head _) z (List.mem_reverse.mp hz))
  · intro p hq
    exact hp _ (.head _) p (List.mem_reverse.mp hq)
  · intro q hq
    rw [← refs_rev] at hq
    refine N q ?_
    simp only [List.cons_append, List.mem_cons, List.mem_append, List.map_reverse, List.mem_reverse, List.not_mem_nil, or_false] at hq ⊢
    rcases hq with h | h | h | h
    · exact .inl h
    · exact .inr (.inr (.inl h))
    · exact .inr (.inr (.inr h))
    · exact .inr (.inl h)
theorem shape_head {ps r : List Pc} {B : Pc} (e : ps = B :: r) : B ∈ ps := by rw [e]; exact .head _
theorem shape_last {ps r c : List Pc} {A B : Pc} (e : ps = B :: r) (e2 : r = c ++ [A]) : A ∈ ps := by rw [e, e2]; exact .tail _ (List.mem_append_right _ (.head _))
theorem shape_mid {ps r c : List Pc} {A B : Pc} (e : ps = B :: r) (e2 : r = c ++ [A]) : ∀ p ∈ c, p ∈ ps := by rw [e, e2]; exact fun p h => .tail _ (List.mem_append_left _ h)
theorem led2 {g h : Heap} {L d o pl : Addr} {o1 o2 o3 : Obj} {ps : List Pc} {A B : Pc} (N : News g L h ((pl, o1) :: (d, o2) :: (o, o3) :: ps.map Pc.e)) (hB : B ∈ ps) (hA : A ∈ ps) :
    News g L h ((pl, o1) :: (B.a, ({ cls := .type "tuple", data := .seq #[.bool B.v.1, .str B.v.2 B.t] } : Obj)) :: (A.a, ({ cls := .type "tuple", data := .seq #[.bool A.v.1, .str A.v.2 A.t] } : Obj)) :: (d, o2) :: (o, o3) :: ps.map Pc.e) := by
  intro q hq
  simp only [List.mem_cons] at hq
  rcases hq with h | h | h | h | h | h
  · exact N q (by rw [h]; exact .head _)
  · exact N q (by rw [h]; exact .tail _ (.tail _ (.tail _ (List.mem_map_of_mem (f := Pc.e) hB))))
  · exact N q (by rw [h]; exact .tail _ (.tail _ (.tail _ (List.mem_map_of_mem (f := Pc.e) hA))))
  · exact N q (by rw [h]; exact .tail _ (.head _))
  · exact N q (by rw [h]; exact .tail _ (.tail _ (.head _)))
  · exact N q (.tail _ (.tail _ (.tail _ h)))
def texts (f : Bool → Bool) (l : List (Bool × Str)) : List Str := (l.filter fun u => f u.1).map (·.2)
theorem vals_are (f : Bool → Bool) : ∀ {ps : List Pc} {l : List (Bool × Str)}, ps.map Pc.v = l → StrsAre (vals f ps) (texts f l)
  | [], _, h => by subst h; exact .nil
  | p :: r, _, h => by
    subst h
    have ih := vals_are f (ps := r) rfl
    unfold vals texts at ih ⊢
    rw [List.map_cons, List.filter_cons, List.filter_cons]
    by_cases hf : f p.b = true
    · rw [if_pos hf, if_pos hf]
      exact .cons _ _ ih
    · rw [if_neg hf, if_neg hf]
      exact ih
abbrev fmtD (P : Params) (bf af : Str) (tl bl : Addr) (k1 t1 k2 t2 k3 k4 : Tok) (n : Nat) : Obj :=
  dictOf [⟨PyData.keyHash P (Str.ofString "before"), .str (Str.ofString "before") k1, .str bf t1⟩, ⟨PyData.keyHash P (Str.ofString "after"), .str (Str.ofString "after") k2, .str af t2⟩,
    ⟨PyData.keyHash P (Str.ofString "tokens"), .str (Str.ofString "tokens") k3, .ref tl⟩, ⟨PyData.keyHash P (Str.ofString "between"), .str (Str.ofString "between") k4, .ref bl⟩] n
theorem init_end {h₀ h h' : Heap} {L o d D1 D2 : Addr} {od o1 o2 : Obj} {news nx : List (Addr × Obj)} {gn : Obj → List (Addr × Obj)} (NN : News h₀ L h' nx) (k : Kept [(d, dictOf [] 0), (o, instObj 92 d)] h h') (N : News h₀ L h news) (U : UpdF d (dictOf [] 0) news gn) (M : (o, instObj 92 d) ∈ news)
    (m3 : (d, od) ∈ nx) (m4 : (o, instObj 92 d) ∈ nx) (m1 : (D1, o1) ∈ nx) (m2 : (D2, o2) ∈ nx) : News h₀ L h' ((D1, o1) :: (D2, o2) :: gn od) := by
  have z := Kept.updS k N U (by intro q hq; rw [List.mem_singleton.mp hq]; exact M) (o' := od) (fun q hq => by
    rcases List.mem_cons.mp hq with rfl | hq
    · exact NN _ m3
    · rw [List.mem_singleton.mp hq]; exact NN _ m4)
  intro q hq
  rcases List.mem_cons.mp hq with rfl | hq
  · exact NN _ m1
  rcases List.mem_cons.mp hq with rfl | hq
  · exact NN _ m2
  · exact z q hq
/-- a Format that holds what stands ahead and behind -/
abbrev fmtD2 (P : Params) (bf af : Str) (k1 t1 k2 t2 : Tok) (n : Nat) : Obj :=
  dictOf [⟨PyData.keyHash P (Str.ofString "before"), .str (Str.ofString "before") k1, .str bf t1⟩, ⟨PyData.keyHash P (Str.ofString "after"), .str (Str.ofString "after") k2, .str af t2⟩] n
theorem news_fin {h₀ h : Heap} {L : Addr} {q1 q2 q3 : Addr × Obj} {md : List Pc} {news : List (Addr × Obj)} (N : News h₀ L h news) (m1 : q1 ∈ news) (m2 : q2 ∈ news) (m3 : q3 ∈ news) (m4 : ∀ p ∈ md, p.e ∈ news) : News h₀ L h (q1 :: q2 :: q3 :: md.map Pc.e) := by
  intro r hr
  rcases List.mem_cons.mp hr with rfl | hr
  · exact N _ m1
  rcases List.mem_cons.mp hr with rfl | hr
  · exact N _ m2
  rcases List.mem_cons.mp hr with rfl | hr
  · exact N _ m3
  obtain ⟨p, hp, rfl⟩ := List.mem_map.mp hr
  exact N _ (m4 p hp)
theorem off_fin {md : List Pc} {d : Addr} (h : ∀ p ∈ md, @Ne Nat d p.a) : OwnOff (md.map Pc.e) [d] := by
  intro q hq b hb
  rw [List.mem_singleton.mp hb]
  obtain ⟨z, hz, rfl⟩ := List.mem_map.mp hq
  exact Ne.symm (h z hz)
section
variable {prog : Program} {w : World} {p : Program} {loose : List Str} {mean : ExcName → Option Value} {mg mb : Str → Option Value}
theorem fin_some {name qual : Str} {params : Arguments} {body : List Stmt} {scope : Scope} {dV kV doc pm cdv ct oc : Value} {an od : Option Addr} {osl : Array (Option Value)} {rest : List Stmt}
    (hb : rest = body.drop 5) (ho : (Mine.kk.heap_1 w.params).lookup 75 = some ⟨oc, od, .func (fnOf name qual params body scope dV kV doc pm an cdv ct), osl⟩)
    {dp un : Nat} {gd : Option (List Code)} {cn : Str} {cs : Scope} {a : Addr} {ccd : Value} {cl : List (Str × Addr)} {outer : List Env} {base g h₀ h₁ : Heap} {L L' o d pl : Addr} {m m₁ : Str → Option Value} {s : Shared} {tk n1 : Nat} {R : Result → Shared → Prop} {sub : List (Addr × Obj)} {md : List Pc} {bf af : Str} {k1 t1 k2 t2 : Tok}
    (FG : Fr h₀ L g m) (B : Below (ktrTop dp un gd cn cs L a ccd cl outer) base (envX cn cs L a ccd cl :: outer) g) (X : (Mine.kk.heap_1 w.params).In g) (T : Top p loose mean mg mb g) (hd : dp + 3 < recursionLimit) (hu : un + 8 * 3 < cLine)
    (F₁ : Fr g L' h₁ m₁) (N₁ : News g L' h₁ ((pl, listOf (rf md).toArray n1) :: (d, fmtD2 w.params bf af k1 t1 k2 t2 2) :: (o, instObj 92 d) :: md.map Pc.e))
    (m1 : m₁ (Str.ofString "self") = some (.ref o)) (m2 : m₁ (Str.ofString "pieces") = some (.ref pl))
    (hod : @LT.lt Nat _ d o) (q1 : @Ne Nat d pl) (q2 : @Ne Nat o pl) (q3 : ∀ p ∈ md, @Ne Nat d p.a) (hl : md.length < 1000) (vt : 0 < (vals (fun b => b) md).toArray.size)
    (hR : ∀ h' tk' tl bl n1 n2 k3 k4 n nx , Fr h₀ L h' m → News h₀ L h' nx → (d, fmtD w.params bf af tl bl k1 t1 k2 t2 k3 k4 n) ∈ nx → (o, instObj 92 d) ∈ nx → (tl, listOf (vals (fun b => b) md).toArray n1) ∈ nx → (bl, listOf (vals (fun b => !b) md).toArray n2) ∈ nx → Kept sub s.heap h' → R (.ok (.ret .none)) { s with heap := h', toks := tk' }) :
    wpAny (model prog w) ((ktrTop dp un gd cn cs L a ccd cl outer).deeper (envOf qual scope L' 75 cdv)) (execs rest (envOf qual scope L' 75 cdv))
      (fun fl s' => LeaveK h₀ L m g (fun r s' => Kept sub s.heap s'.heap → R r s') (match fl with | .ret v => v | _ => .none) s') (fun _ _ => False) { s with heap := h₁, toks := tk } := by
  subst hb
  have hz := fillK; revert hz; k_fill; intro _
  k_with_none
  w_top off
  k_with "*" => ((with_reducible show wpAny _ _ _ _ _ (Shared.mk _ _ _ (_ + _ + _) _)); refine st_norm (s0 := s) rfl rfl rfl fun _ => ?_)
  k_with "execs cons" => (k_here; first | ((rename News _ _ _ _ => N6); dsimp only at N6) | ((rename Fr _ _ _ _ => F6); dsimp only at F6))
  k_with "compareOp NotEq ref ref" => (k_here; k_dflt (first
  | (refine' ne_nilF ?xN ?xa ?x1 ?x2 ?xb ?x3 ?x4 ?xu ?_; (case xN => k_asm); (case xa => k_mem); (case x1 => exact rfl); (case x2 => exact rfl); (case xb => k_mem); (case x3 => exact rfl); (case x4 => exact rfl); (case xu => ktr_units))
  | (refine' ne_nilT ?xN ?xa ?x1 ?x2 ?xb ?x3 ?x4 ?xz ?xu ?_; (case xN => k_asm); (case xa => k_mem); (case x1 => exact rfl); (case x2 => exact rfl); (case xb => k_mem); (case x3 => exact rfl); (case x4 => exact rfl); (case xz => exact rf_ne (by assumption)); (case xu => ktr_units))))
  k_with "compareOp Eq ref ref" => (k_here; k_dflt (first
  | (refine' eq_nilT ?xN ?xa ?x1 ?x2 ?xb ?x3 ?x4 ?xu ?_; (case xN => k_asm); (case xa => k_mem); (case x1 => exact rfl); (case x2 => exact rfl); (case xb => k_mem); (case x3 => exact rfl); (case x4 => exact rfl); (case xu => ktr_units))
  | (refine' eq_nilF ?xN ?xa ?x1 ?x2 ?xb ?x3 ?x4 ?xz ?xu ?_; (case xN => k_asm); (case xa => k_mem); (case x1 => exact rfl); (case x2 => exact rfl); (case xb => k_mem); (case x3 => exact rfl); (case x4 => exact rfl); (case xz => assumption); (case xu => ktr_units))))
  k_with "subscriptTail Name Constant ref int" => (k_here; k_dflt (refine' first_piece ?xN ?xm ?xe ?_ ?xs; (case xN => k_asm); (case xm => k_mem); (case xe => assumption); (case xs => with_unfolding_all rfl)))
  k_with "subscriptTail Name UnaryOp ref int" => (k_here; k_dflt (refine' last_piece ?xN ?xm ?xe ?xz ?_ ?xs; (case xN => k_asm); (case xm => k_mem); (case xe => assumption); (case xz => assumption); (case xs => with_unfolding_all rfl)))
  k_with "subscriptTail Name Slice ref ref" => (k_here; (with_reducible show wpAny _ _ (subscriptTail _ (PySem.Expr.Slice _ _ none _) (Value.ref _) (Value.ref _)) _ _ _); k_dflt (refine' kms_slice_lit ?yF ?yN ?yl ?yp ?yq ?ye ?_ ?ys ?yt ?yz; (case yF => k_asm); (case yN => k_asm); (case yl => kmk_list); (case yp => kmk_part); (case yq => kmk_part); (case ye => first | exact pick_tail (by assumption) | exact pick_init (by assumption)); (case ys => with_unfolding_all rfl); (case yt => kmk_pure); (case yz => exact rf_size (by assumption))); intro D' h' F' N' l1; (try k_lt l1); (try k_sweep))
  k_with "eval ListComp" => (k_here; k_dflt ((first | refine' pairs_comp (fun b => b) ?hh ?F ?N ?hm ?hps ?hz ?hcl ?hce ?hk ?hn ?hx ?hx2 ?hxx ?hd (hc_name ?c1 ?c2 ?c3) ?hi ?_ ?hs | refine' pairs_comp (fun b => !b) ?hh ?F ?N ?hm ?hps ?hz ?hcl ?hce ?hk ?hn ?hx ?hx2 ?hxx ?hd (hc_not ?c1 ?c2 ?c3) ?hi ?_ ?hs); (case hi => (intro Q9 hq9; exact ld (by k_asm) rfl hq9)); (case hh => exact rfl); (case F => k_asm); (case N => k_asm); (case hm => k_mem); (case hps => (intro p hp; repeat (first | exact List.mem_map_of_mem ((by assumption : ∀ p ∈ _, p ∈ _) p hp) | refine List.Mem.tail _ ?_))); (case hz => exact Nat.le_of_lt (by assumption)); (case hcl => with_unfolding_all rfl); (case hce => decide); (case hk => rfl); (case hn => decide); (case hx => rfl); (case hx2 => rfl); (case hxx => decide); (case hd => decide); (case c1 => rfl); (case c2 => rfl); (case c3 => decide); (case hs => (intro _; rfl))); intro D' h' tk' F' N' l1; (try k_lt l1))
  k_with "call ref" => (k_here; k_dflt (refine' Does.use (cut_does _ _ _ ?h0) ?k1 ?k2 ?k3 ?k4 ?k5 ?kK ?kd ?ku ?_; (case k1 => k_asm); (case k2 => k_asm); (case k3 => k_asm); (case k4 => k_asm); (case k5 => k_asm); (case kK => first | exact rfl | assumption); (case kd => ktr_room); (case ku => ktr_units); (case h0 => assumption); (try dsimp only)); intro _ _ _ _ _ _ _ _ _ _ _; (k_extra "shape"); (try k_fold))
  obtain ⟨e1, e2, e3, e4⟩ := fn_inj ho (by k_is)
  clear ho
  subst e1 e2 e3 e4
  simp only [List.drop_succ_cons, List.drop_zero]
  have hS : MySub sub := trivial
  have F₂ := fr_norm (ps := [(Str.ofString "self", .ref o), (Str.ofString "pieces", .ref pl)]) (by simp only [List.forall_mem_cons, List.not_mem_nil, false_implies, implies_true, and_true]; exact ⟨m1, m2⟩) F₁
  clear F₁ m1 m2
  dsimp only [kstB] at F₂
  unfold fmtD2 at N₁
  have o1 := off_fin q3
  have s1 : ∀ p ∈ md, p ∈ md := fun _ h => h
  k_steps
  all_goals
    refine' leaveK_ ?k1 ?k2 ?_
    (case k1 => k_asm)
    (case k2 => k_asm)
    intro kF kN kK
    refine' hR _ _ _ _ _ _ _ _ _ _ kF kN ?m3 ?m4 ?m1 ?m2 kK
    (case m3 => k_mem)
    (case m4 => k_mem)
    (case m1 => k_mem)
    (case m2 => k_mem)
theorem fin_none {name qual : Str} {params : Arguments} {body : List Stmt} {scope : Scope} {dV kV doc pm cdv ct oc : Value} {an od : Option Addr} {osl : Array (Option Value)} {rest : List Stmt}
    (hb : rest = body.drop 5) (ho : (Mine.kk.heap_1 w.params).lookup 75 = some ⟨oc, od, .func (fnOf name qual params body scope dV kV doc pm an cdv ct), osl⟩)
    {dp un : Nat} {gd : Option (List Code)} {cn : Str} {cs : Scope} {a : Addr} {ccd : Value} {cl : List (Str × Addr)} {outer : List Env} {base g h₀ h₁ : Heap} {L L' o d pl : Addr} {m m₁ : Str → Option Value} {s : Shared} {tk n1 : Nat} {R : Result → Shared → Prop} {sub : List (Addr × Obj)} {md : List Pc} {bf af : Str} {k1 t1 k2 t2 : Tok}
    (FG : Fr h₀ L g m) (B : Below (ktrTop dp un gd cn cs L a ccd cl outer) base (envX cn cs L a ccd cl :: outer) g) (X : (Mine.kk.heap_1 w.params).In g) (T : Top p loose mean mg mb g) (hd : dp + 3 < recursionLimit) (hu : un + 8 * 3 < cLine)
    (F₁ : Fr g L' h₁ m₁) (N₁ : News g L' h₁ ((pl, listOf (rf md).toArray n1) :: (d, fmtD2 w.params bf af k1 t1 k2 t2 2) :: (o, instObj 92 d) :: md.map Pc.e))
    (m1 : m₁ (Str.ofString "self") = some (.ref o)) (m2 : m₁ (Str.ofString "pieces") = some (.ref pl))
    (hod : @LT.lt Nat _ d o) (q1 : @Ne Nat d pl) (q2 : @Ne Nat o pl) (q3 : ∀ p ∈ md, @Ne Nat d p.a) (hl : md.length < 1000) (he : md = [])
    (hR : ∀ h' tk' tl bl n1 n2 k3 k4 n nx t9, Fr h₀ L h' m → News h₀ L h' nx → (d, fmtD w.params bf af tl bl k1 t1 k2 t2 k3 k4 n) ∈ nx → (o, instObj 92 d) ∈ nx → (tl, listOf #[Value.str (Str.ofString "1") t9] n1) ∈ nx → (bl, listOf #[] n2) ∈ nx → Kept sub s.heap h' → R (.ok (.ret .none)) { s with heap := h', toks := tk' }) :
    wpAny (model prog w) ((ktrTop dp un gd cn cs L a ccd cl outer).deeper (envOf qual scope L' 75 cdv)) (execs rest (envOf qual scope L' 75 cdv))
      (fun fl s' => LeaveK h₀ L m g (fun r s' => Kept sub s.heap s'.heap → R r s') (match fl with | .ret v => v | _ => .none) s') (fun _ _ => False) { s with heap := h₁, toks := tk } := by
  subst hb
  have hz := fillK; revert hz; k_fill; intro _
  k_with_none
  w_top off
  k_with "*" => ((with_reducible show wpAny _ _ _ _ _ (Shared.mk _ _ _ (_ + _ + _) _)); refine st_norm (s0 := s) rfl rfl rfl fun _ => ?_)
  k_with "execs cons" => (k_here; first | ((rename News _ _ _ _ => N6); dsimp only at N6) | ((rename Fr _ _ _ _ => F6); dsimp only at F6))
  k_with "compareOp NotEq ref ref" => (k_here; k_dflt (first
  | (refine' ne_nilF ?xN ?xa ?x1 ?x2 ?xb ?x3 ?x4 ?xu ?_; (case xN => k_asm); (case xa => k_mem); (case x1 => exact rfl); (case x2 => exact rfl); (case xb => k_mem); (case x3 => exact rfl); (case x4 => exact rfl); (case xu => ktr_units))
  | (refine' ne_nilT ?xN ?xa ?x1 ?x2 ?xb ?x3 ?x4 ?xz ?xu ?_; (case xN => k_asm); (case xa => k_mem); (case x1 => exact rfl); (case x2 => exact rfl); (case xb => k_mem); (case x3 => exact rfl); (case x4 => exact rfl); (case xz => exact rf_ne (by assumption)); (case xu => ktr_units))))
  k_with "compareOp Eq ref ref" => (k_here; k_dflt (first
  | (refine' eq_nilT ?xN ?xa ?x1 ?x2 ?xb ?x3 ?x4 ?xu ?_; (case xN => k_asm); (case xa => k_mem); (case x1 => exact rfl); (case x2 => exact rfl); (case xb => k_mem); (case x3 => exact rfl); (case x4 => exact rfl); (case xu => ktr_units))
  | (refine' eq_nilF ?xN ?xa ?x1 ?x2 ?xb ?x3 ?x4 ?xz ?xu ?_; (case xN => k_asm); (case xa => k_mem); (case x1 => exact rfl); (case x2 => exact rfl); (case xb => k_mem); (case x3 => exact rfl); (case x4 => exact rfl); (case xz => assumption); (case xu => ktr_units))))
  k_with "subscriptTail Name Constant ref int" => (k_here; k_dflt (refine' first_piece ?xN ?xm ?xe ?_ ?xs; (case xN => k_asm); (case xm => k_mem); (case xe => assumption); (case xs => with_unfolding_all rfl)))
  k_with "subscriptTail Name UnaryOp ref int" => (k_here; k_dflt (refine' last_piece ?xN ?xm ?xe ?xz ?_ ?xs; (case xN => k_asm); (case xm => k_mem); (case xe => assumption); (case xz => assumption); (case xs => with_unfolding_all rfl)))
  k_with "subscriptTail Name Slice ref ref" => (k_here; (with_reducible show wpAny _ _ (subscriptTail _ (PySem.Expr.Slice _ _ none _) (Value.ref _) (Value.ref _)) _ _ _); k_dflt (refine' kms_slice_lit ?yF ?yN ?yl ?yp ?yq ?ye ?_ ?ys ?yt ?yz; (case yF => k_asm); (case yN => k_asm); (case yl => kmk_list); (case yp => kmk_part); (case yq => kmk_part); (case ye => first | exact pick_tail (by assumption) | exact pick_init (by assumption)); (case ys => with_unfolding_all rfl); (case yt => kmk_pure); (case yz => exact rf_size (by assumption))); intro D' h' F' N' l1; (try k_lt l1); (try k_sweep))
  k_with "eval ListComp" => (k_here; k_dflt ((first | refine' pairs_comp (fun b => b) ?hh ?F ?N ?hm ?hps ?hz ?hcl ?hce ?hk ?hn ?hx ?hx2 ?hxx ?hd (hc_name ?c1 ?c2 ?c3) ?hi ?_ ?hs | refine' pairs_comp (fun b => !b) ?hh ?F ?N ?hm ?hps ?hz ?hcl ?hce ?hk ?hn ?hx ?hx2 ?hxx ?hd (hc_not ?c1 ?c2 ?c3) ?hi ?_ ?hs); (case hi => (intro Q9 hq9; exact ld (by k_asm) rfl hq9)); (case hh => exact rfl); (case F => k_asm); (case N => k_asm); (case hm => k_mem); (case hps => (intro p hp; repeat (first | exact List.mem_map_of_mem ((by assumption : ∀ p ∈ _, p ∈ _) p hp) | refine List.Mem.tail _ ?_))); (case hz => exact Nat.le_of_lt (by assumption)); (case hcl => with_unfolding_all rfl); (case hce => decide); (case hk => rfl); (case hn => decide); (case hx => rfl); (case hx2 => rfl); (case hxx => decide); (case hd => decide); (case c1 => rfl); (case c2 => rfl); (case c3 => decide); (case hs => (intro _; rfl))); intro D' h' tk' F' N' l1; (try k_lt l1))
  k_with "call ref" => (k_here; k_dflt (refine' Does.use (cut_does _ _ _ ?h0) ?k1 ?k2 ?k3 ?k4 ?k5 ?kK ?kd ?ku ?_; (case k1 => k_asm); (case k2 => k_asm); (case k3 => k_asm); (case k4 => k_asm); (case k5 => k_asm); (case kK => first | exact rfl | assumption); (case kd => ktr_room); (case ku => ktr_units); (case h0 => assumption); (try dsimp only)); intro _ _ _ _ _ _ _ _ _ _ _; (k_extra "shape"); (try k_fold))
  obtain ⟨e1, e2, e3, e4⟩ := fn_inj ho (by k_is)
  clear ho
  subst e1 e2 e3 e4
  simp only [List.drop_succ_cons, List.drop_zero]
  have hS : MySub sub := trivial
  have F₂ := fr_norm (ps := [(Str.ofString "self", .ref o), (Str.ofString "pieces", .ref pl)]) (by simp only [List.forall_mem_cons, List.not_mem_nil, false_implies, implies_true, and_true]; exact ⟨m1, m2⟩) F₁
  clear F₁ m1 m2
  dsimp only [kstB] at F₂
  unfold fmtD2 at N₁
  have o1 := off_fin q3
  have s1 : ∀ p ∈ md, p ∈ md := fun _ h => h
  subst he
  k_steps
  all_goals
    refine' leaveK_ ?k1 ?k2 ?_
    (case k1 => k_asm)
    (case k2 => k_asm)
    intro kF kN kK
    refine' hR _ _ _ _ _ _ _ _ _ _ _ kF kN ?m3 ?m4 ?m1 ?m2 kK
    (case m3 => k_mem)
    (case m4 => k_mem)
    (case m1 => k_mem)
    (case m2 => k_mem)
end
section
variable {prog : Program} {w : World} {p : Program} {loose : List Str} {mean : ExcName → Option Value} {mg mb : Str → Option Value}
theorem init_nil (news : List (Addr × Obj)) (gn : Obj → List (Addr × Obj)) (o d : Addr) (xt : Str) (t : Tok) (hx : xt.length ≤ 200) (hod : @LT.lt Nat _ d o) (M : (o, instObj 92 d) ∈ news) (U : UpdF d (dictOf [] 0) news gn)
    (hcut : (cutR xt.cps.toList).reverse = []) :
    DoesK prog w (Mine.kk.heap_1 w.params) p loose mean mg mb (.ref 75) [.ref o, .str xt t] news 3 fun K => ∀ tl bl vs ws n1 n2 k1 t1 k2 t2 k3 k4 n, StrsAre vs ([Str.ofString "1"]) → StrsAre ws ([]) → K .none ((tl, listOf vs.toArray n1) :: (bl, listOf ws.toArray n2) :: gn (fmtD w.params (Str.ofString "") (Str.ofString "") tl bl k1 t1 k2 t2 k3 k4 n)) := by
  have hz := fillK; revert hz; k_fill; intro _
  k_with_none
  w_top off
  k_with "*" => ((with_reducible show wpAny _ _ _ _ _ (Shared.mk _ _ _ (_ + _ + _) _)); refine st_norm (s0 := s) rfl rfl rfl fun _ => ?_)
  k_with "execs cons" => (k_here; first | ((rename News _ _ _ _ => N6); dsimp only at N6) | ((rename Fr _ _ _ _ => F6); dsimp only at F6))
  k_with "compareOp NotEq ref ref" => (k_here; k_dflt (first
  | (refine' ne_nilF ?xN ?xa ?x1 ?x2 ?xb ?x3 ?x4 ?xu ?_; (case xN => k_asm); (case xa => k_mem); (case x1 => exact rfl); (case x2 => exact rfl); (case xb => k_mem); (case x3 => exact rfl); (case x4 => exact rfl); (case xu => ktr_units))
  | (refine' ne_nilT ?xN ?xa ?x1 ?x2 ?xb ?x3 ?x4 ?xz ?xu ?_; (case xN => k_asm); (case xa => k_mem); (case x1 => exact rfl); (case x2 => exact rfl); (case xb => k_mem); (case x3 => exact rfl); (case x4 => exact rfl); (case xz => exact rf_ne (by assumption)); (case xu => ktr_units))))
  k_with "compareOp Eq ref ref" => (k_here; k_dflt (first
  | (refine' eq_nilT ?xN ?xa ?x1 ?x2 ?xb ?x3 ?x4 ?xu ?_; (case xN => k_asm); (case xa => k_mem); (case x1 => exact rfl); (case x2 => exact rfl); (case xb => k_mem); (case x3 => exact rfl); (case x4 => exact rfl); (case xu => ktr_units))
  | (refine' eq_nilF ?xN ?xa ?x1 ?x2 ?xb ?x3 ?x4 ?xz ?xu ?_; (case xN => k_asm); (case xa => k_mem); (case x1 => exact rfl); (case x2 => exact rfl); (case xb => k_mem); (case x3 => exact rfl); (case x4 => exact rfl); (case xz => assumption); (case xu => ktr_units))))
  k_with "subscriptTail Name Constant ref int" => (k_here; k_dflt (refine' first_piece ?xN ?xm ?xe ?_ ?xs; (case xN => k_asm); (case xm => k_mem); (case xe => assumption); (case xs => with_unfolding_all rfl)))
  k_with "subscriptTail Name UnaryOp ref int" => (k_here; k_dflt (refine' last_piece ?xN ?xm ?xe ?xz ?_ ?xs; (case xN => k_asm); (case xm => k_mem); (case xe => assumption); (case xz => assumption); (case xs => with_unfolding_all rfl)))
  k_with "subscriptTail Name Slice ref ref" => (k_here; (with_reducible show wpAny _ _ (subscriptTail _ (PySem.Expr.Slice _ _ none _) (Value.ref _) (Value.ref _)) _ _ _); k_dflt (refine' kms_slice_lit ?yF ?yN ?yl ?yp ?yq ?ye ?_ ?ys ?yt ?yz; (case yF => k_asm); (case yN => k_asm); (case yl => kmk_list); (case yp => kmk_part); (case yq => kmk_part); (case ye => first | exact pick_tail (by assumption) | exact pick_init (by assumption)); (case ys => with_unfolding_all rfl); (case yt => kmk_pure); (case yz => exact rf_size (by assumption))); intro D' h' F' N' l1; (try k_lt l1); (try k_sweep))
  k_with "eval ListComp" => (k_here; k_dflt ((first | refine' pairs_comp (fun b => b) ?hh ?F ?N ?hm ?hps ?hz ?hcl ?hce ?hk ?hn ?hx ?hx2 ?hxx ?hd (hc_name ?c1 ?c2 ?c3) ?hi ?_ ?hs | refine' pairs_comp (fun b => !b) ?hh ?F ?N ?hm ?hps ?hz ?hcl ?hce ?hk ?hn ?hx ?hx2 ?hxx ?hd (hc_not ?c1 ?c2 ?c3) ?hi ?_ ?hs); (case hi => (intro Q9 hq9; exact ld (by k_asm) rfl hq9)); (case hh => exact rfl); (case F => k_asm); (case N => k_asm); (case hm => k_mem); (case hps => (intro p hp; repeat (first | exact List.mem_map_of_mem ((by assumption : ∀ p ∈ _, p ∈ _) p hp) | refine List.Mem.tail _ ?_))); (case hz => exact Nat.le_of_lt (by assumption)); (case hcl => with_unfolding_all rfl); (case hce => decide); (case hk => rfl); (case hn => decide); (case hx => rfl); (case hx2 => rfl); (case hxx => decide); (case hd => decide); (case c1 => rfl); (case c2 => rfl); (case c3 => decide); (case hs => (intro _; rfl))); intro D' h' tk' F' N' l1; (try k_lt l1))
  k_with "call ref" => (k_here; k_dflt (refine' Does.use (cut_does _ _ _ ?h0) ?k1 ?k2 ?k3 ?k4 ?k5 ?kK ?kd ?ku ?_; (case k1 => k_asm); (case k2 => k_asm); (case k3 => k_asm); (case k4 => k_asm); (case k5 => k_asm); (case kK => first | exact rfl | assumption); (case kd => ktr_room); (case ku => ktr_units); (case h0 => assumption); (try dsimp only)); intro _ _ _ _ _ _ _ _ _ _ _; (k_extra "shape"); (try k_fold))
  unfold DoesK
  intro dp un gd cn cs a ccd cl outer A₀ base h₀ L m s R B F X N T hk hd hu hret
  have hS : MySub [(d, dictOf [] 0), (o, instObj 92 d)] := trivial
  have hmem : ∀ q ∈ [(d, dictOf [] 0), (o, instObj 92 d)], q ∈ news := by
    intro q hq
    rcases List.mem_cons.mp hq with rfl | hq
    · exact updF_mem U
    · rw [List.mem_singleton.mp hq]; exact M
  w_top off
  k_dflt (refine' code_subG ?kS ?k1 ?k2 ?k3 ?k4 ?k4s ?k5 ?kA ?kF ?kK ?k6 ?k7 ?k8 ?k9 ?kB ?_ ?c2 ?c3 ?c4 ?c5; (case kS => assumption); (case kA => exact rfl); (case kF => exact rfl); (case kK => assumption); (case k1 => k_asm); (case k2 => k_asm); (case k3 => k_asm); (case k4 => k_asm); (case k4s => first | exact List.forall_mem_nil _ | assumption); (case k5 => k_asm); (case k6 => k_is); (case k7 => k_is); (case k8 => ktr_room); (case k9 => exact BindsTo.of_eq rfl); (case c5 => decide); (case kB => exact locs rfl); (case c2 => exact rfl); (case c3 => exact rfl); (case c4 => exact rfl); k_whole; intro g' L' h' tk' FG' F' N' B' X' T' G'; (try dsimp only); (try k_lift B'); (try k_fold))
  k_with "shape" => k_dflt (
    rename_i pl n rs hm hne ho hp hh tk F1 N1
    obtain ⟨ps, hps, hv, hlen, o1, n1, n2, n3, N2⟩ := shape_facts hm hcut hx ho hp N1
    have f1 : ps = [] := List.map_eq_nil_iff.mp hv
    clear hps
    subst f1
    have s1 : ∀ p ∈ ([] : List Pc), p ∈ ([] : List Pc) := fun _ h => h
    clear hm hv hcut hne ho hp N1
    )
  k_with "execs cons" => (k_here; (with_reducible show wpAny _ _ (execs (Stmt.Assign _ (Expr.ListComp _ _ _ _) _ :: _) _) _ _ _); k_extra "fin")
  k_with "fin" => k_dflt (
    refine' fin_none ?hb ?ho ?FG ?B ?X ?T ?hd ?hu ?F1 ?N1 ?m1 ?m2 ?hod ?q1 ?q2 ?q3 ?hl ?he ?hR
    (case ho => k_is)
    (case hb => exact rfl)
    (case FG => assumption)
    (case B => assumption)
    (case X => assumption)
    (case T => assumption)
    (case hd => assumption)
    (case hu => assumption)
    (case F1 => assumption)
    (case m1 => exact rfl)
    (case m2 => exact rfl)
    (case N1 => (refine' news_fin ?na ?nb ?nc ?nd ?ne; (case na => k_asm); (case nb => k_mem); (case nc => k_mem); (case nd => k_mem); (case ne => (intro p hp; repeat (first | exact List.mem_map_of_mem ((by assumption : ∀ p ∈ _, p ∈ _) p hp) | refine List.Mem.tail _ ?_)))))
    (case hod => assumption)
    (case q1 => k_ne)
    (case q2 => k_ne)
    (case q3 => exact fun p hp => n3 p (s1 p hp))
    (case hl => assumption)
    (case he => exact rfl)
    (case hR => (intro h8 tk8 tl8 bl8 a8 b8 c8 d8 e8 nx8 t8 kF kN m3 m4 m1 m2 kK; exact hret _ _ _ _ _ _ _ _ _ _ _ _ _ (.cons _ _ .nil) .nil _ _ kF (init_end kN kK N U M m3 m4 m1 m2))))
  k_steps
theorem init_one (news : List (Addr × Obj)) (gn : Obj → List (Addr × Obj)) (o d : Addr) (xt : Str) (t : Tok) (hx : xt.length ≤ 200) (hod : @LT.lt Nat _ d o) (M : (o, instObj 92 d) ∈ news) (U : UpdF d (dictOf [] 0) news gn)
    {bb : Str} (hcut : (cutR xt.cps.toList).reverse = [(false, bb)]) :
    DoesK prog w (Mine.kk.heap_1 w.params) p loose mean mg mb (.ref 75) [.ref o, .str xt t] news 3 fun K => ∀ tl bl vs ws n1 n2 k1 t1 k2 t2 k3 k4 n, StrsAre vs ([Str.ofString "1"]) → StrsAre ws ([]) → K .none ((tl, listOf vs.toArray n1) :: (bl, listOf ws.toArray n2) :: gn (fmtD w.params (bb) (Str.ofString "") tl bl k1 t1 k2 t2 k3 k4 n)) := by
  have hz := fillK; revert hz; k_fill; intro _
  k_with_none
  w_top off
  k_with "*" => ((with_reducible show wpAny _ _ _ _ _ (Shared.mk _ _ _ (_ + _ + _) _)); refine st_norm (s0 := s) rfl rfl rfl fun _ => ?_)
  k_with "execs cons" => (k_here; first | ((rename News _ _ _ _ => N6); dsimp only at N6) | ((rename Fr _ _ _ _ => F6); dsimp only at F6))
  k_with "compareOp NotEq ref ref" => (k_here; k_dflt (first
  | (refine' ne_nilF ?xN ?xa ?x1 ?x2 ?xb ?x3 ?x4 ?xu ?_; (case xN => k_asm); (case xa => k_mem); (case x1 => exact rfl); (case x2 => exact rfl); (case xb => k_mem); (case x3 => exact rfl); (case x4 => exact rfl); (case xu => ktr_units))
  | (refine' ne_nilT ?xN ?xa ?x1 ?x2 ?xb ?x3 ?x4 ?xz ?xu ?_; (case xN => k_asm); (case xa => k_mem); (case x1 => exact rfl); (case x2 => exact rfl); (case xb => k_mem); (case x3 => exact rfl); (case x4 => exact rfl); (case xz => exact rf_ne (by assumption)); (case xu => ktr_units))))
  k_with "compareOp Eq ref ref" => (k_here; k_dflt (first
  | (refine' eq_nilT ?xN ?xa ?x1 ?x2 ?xb ?x3 ?x4 ?xu ?_; (case xN => k_asm); (case xa => k_mem); (case x1 => exact rfl); (case x2 => exact rfl); (case xb => k_mem); (case x3 => exact rfl); (case x4 => exact rfl); (case xu => ktr_units))
  | (refine' eq_nilF ?xN ?xa ?x1 ?x2 ?xb ?x3 ?x4 ?xz ?xu ?_; (case xN => k_asm); (case xa => k_mem); (case x1 => exact rfl); (case x2 => exact rfl); (case xb => k_mem); (case x3 => exact rfl); (case x4 => exact rfl); (case xz => assumption); (case xu => ktr_units))))
  k_with "subscriptTail Name Constant ref int" => (k_here; k_dflt (refine' first_piece ?xN ?xm ?xe ?_ ?xs; (case xN => k_asm); (case xm => k_mem); (case xe => assumption); (case xs => with_unfolding_all rfl)))
  k_with "subscriptTail Name UnaryOp ref int" => (k_here; k_dflt (refine' last_piece ?xN ?xm ?xe ?xz ?_ ?xs; (case xN => k_asm); (case xm => k_mem); (case xe => assumption); (case xz => assumption); (case xs => with_unfolding_all rfl)))
  k_with "subscriptTail Name Slice ref ref" => (k_here; (with_reducible show wpAny _ _ (subscriptTail _ (PySem.Expr.Slice _ _ none _) (Value.ref _) (Value.ref _)) _ _ _); k_dflt (refine' kms_slice_lit ?yF ?yN ?yl ?yp ?yq ?ye ?_ ?ys ?yt ?yz; (case yF => k_asm); (case yN => k_asm); (case yl => kmk_list); (case yp => kmk_part); (case yq => kmk_part); (case ye => first | exact pick_tail (by assumption) | exact pick_init (by assumption)); (case ys => with_unfolding_all rfl); (case yt => kmk_pure); (case yz => exact rf_size (by assumption))); intro D' h' F' N' l1; (try k_lt l1); (try k_sweep))
  k_with "eval ListComp" => (k_here; k_dflt ((first | refine' pairs_comp (fun b => b) ?hh ?F ?N ?hm ?hps ?hz ?hcl ?hce ?hk ?hn ?hx ?hx2 ?hxx ?hd (hc_name ?c1 ?c2 ?c3) ?hi ?_ ?hs | refine' pairs_comp (fun b => !b) ?hh ?F ?N ?hm ?hps ?hz ?hcl ?hce ?hk ?hn ?hx ?hx2 ?hxx ?hd (hc_not ?c1 ?c2 ?c3) ?hi ?_ ?hs); (case hi => (intro Q9 hq9; exact ld (by k_asm) rfl hq9)); (case hh => exact rfl); (case F => k_asm); (case N => k_asm); (case hm => k_mem); (case hps => (intro p hp; repeat (first | exact List.mem_map_of_mem ((by assumption : ∀ p ∈ _, p ∈ _) p hp) | refine List.Mem.tail _ ?_))); (case hz => exact Nat.le_of_lt (by assumption)); (case hcl => with_unfolding_all rfl); (case hce => decide); (case hk => rfl); (case hn => decide); (case hx => rfl); (case hx2 => rfl); (case hxx => decide); (case hd => decide); (case c1 => rfl); (case c2 => rfl); (case c3 => decide); (case hs => (intro _; rfl))); intro D' h' tk' F' N' l1; (try k_lt l1))
  k_with "call ref" => (k_here; k_dflt (refine' Does.use (cut_does _ _ _ ?h0) ?k1 ?k2 ?k3 ?k4 ?k5 ?kK ?kd ?ku ?_; (case k1 => k_asm); (case k2 => k_asm); (case k3 => k_asm); (case k4 => k_asm); (case k5 => k_asm); (case kK => first | exact rfl | assumption); (case kd => ktr_room); (case ku => ktr_units); (case h0 => assumption); (try dsimp only)); intro _ _ _ _ _ _ _ _ _ _ _; (k_extra "shape"); (try k_fold))
  unfold DoesK
  intro dp un gd cn cs a ccd cl outer A₀ base h₀ L m s R B F X N T hk hd hu hret
  have hS : MySub [(d, dictOf [] 0), (o, instObj 92 d)] := trivial
  have hmem : ∀ q ∈ [(d, dictOf [] 0), (o, instObj 92 d)], q ∈ news := by
    intro q hq
    rcases List.mem_cons.mp hq with rfl | hq
    · exact updF_mem U
    · rw [List.mem_singleton.mp hq]; exact M
  w_top off
  k_dflt (refine' code_subG ?kS ?k1 ?k2 ?k3 ?k4 ?k4s ?k5 ?kA ?kF ?kK ?k6 ?k7 ?k8 ?k9 ?kB ?_ ?c2 ?c3 ?c4 ?c5; (case kS => assumption); (case kA => exact rfl); (case kF => exact rfl); (case kK => assumption); (case k1 => k_asm); (case k2 => k_asm); (case k3 => k_asm); (case k4 => k_asm); (case k4s => first | exact List.forall_mem_nil _ | assumption); (case k5 => k_asm); (case k6 => k_is); (case k7 => k_is); (case k8 => ktr_room); (case k9 => exact BindsTo.of_eq rfl); (case c5 => decide); (case kB => exact locs rfl); (case c2 => exact rfl); (case c3 => exact rfl); (case c4 => exact rfl); k_whole; intro g' L' h' tk' FG' F' N' B' X' T' G'; (try dsimp only); (try k_lift B'); (try k_fold))
  k_with "shape" => k_dflt (
    rename_i pl n rs hm hne ho hp hh tk F1 N1
    obtain ⟨ps, hps, hv, hlen, o1, n1, n2, n3, N2⟩ := shape_facts hm hcut hx ho hp N1
    obtain ⟨B0, r0, f1, b1, h3⟩ := map_cons_inv hv
    have f2 : r0 = [] := List.map_eq_nil_iff.mp h3
    subst f2
    have m1 : B0 ∈ ps := by rw [f1]; exact .head _
    have N3 := led2 N2 m1 m1
    have q1 := n3 _ m1
    have hl3 : ([] : List Pc).length < 1000 := by decide
    have s1 : ∀ p ∈ ([] : List Pc), p ∈ ps := fun _ h => nomatch h
    rw [b1] at N3
    clear hm hv hcut hne ho hp N1 N2 h3 b1
    )
  k_with "execs cons" => (k_here; (with_reducible show wpAny _ _ (execs (Stmt.Assign _ (Expr.ListComp _ _ _ _) _ :: _) _) _ _ _); k_extra "fin")
  k_with "fin" => k_dflt (
    refine' fin_none ?hb ?ho ?FG ?B ?X ?T ?hd ?hu ?F1 ?N1 ?m1 ?m2 ?hod ?q1 ?q2 ?q3 ?hl ?he ?hR
    (case ho => k_is)
    (case hb => exact rfl)
    (case FG => assumption)
    (case B => assumption)
    (case X => assumption)
    (case T => assumption)
    (case hd => assumption)
    (case hu => assumption)
    (case F1 => assumption)
    (case m1 => exact rfl)
    (case m2 => exact rfl)
    (case N1 => (refine' news_fin ?na ?nb ?nc ?nd ?ne; (case na => k_asm); (case nb => k_mem); (case nc => k_mem); (case nd => k_mem); (case ne => (intro p hp; repeat (first | exact List.mem_map_of_mem ((by assumption : ∀ p ∈ _, p ∈ _) p hp) | refine List.Mem.tail _ ?_)))))
    (case hod => assumption)
    (case q1 => k_ne)
    (case q2 => k_ne)
    (case q3 => exact fun p hp => n3 p (s1 p hp))
    (case hl => assumption)
    (case he => exact rfl)
    (case hR => (intro h8 tk8 tl8 bl8 a8 b8 c8 d8 e8 nx8 t8 kF kN m3 m4 m1 m2 kK; exact hret _ _ _ _ _ _ _ _ _ _ _ _ _ (.cons _ _ .nil) .nil _ _ kF (init_end kN kK N U M m3 m4 m1 m2))))
  k_steps
theorem init_mid (news : List (Addr × Obj)) (gn : Obj → List (Addr × Obj)) (o d : Addr) (xt : Str) (t : Tok) (hx : xt.length ≤ 200) (hod : @LT.lt Nat _ d o) (M : (o, instObj 92 d) ∈ news) (U : UpdF d (dictOf [] 0) news gn)
    {mid c r : List (Bool × Str)} {pp qq : Str} (e1 : mid = (true, pp) :: r) (e2 : mid = c ++ [(true, qq)]) (hcut : (cutR xt.cps.toList).reverse = mid) :
    DoesK prog w (Mine.kk.heap_1 w.params) p loose mean mg mb (.ref 75) [.ref o, .str xt t] news 3 fun K => ∀ tl bl vs ws n1 n2 k1 t1 k2 t2 k3 k4 n, StrsAre vs (texts (fun b => b) mid) → StrsAre ws (texts (fun b => !b) mid) → K .none ((tl, listOf vs.toArray n1) :: (bl, listOf ws.toArray n2) :: gn (fmtD w.params (Str.ofString "") (Str.ofString "") tl bl k1 t1 k2 t2 k3 k4 n)) := by
  have hz := fillK; revert hz; k_fill; intro _
  k_with_none
  w_top off
  k_with "*" => ((with_reducible show wpAny _ _ _ _ _ (Shared.mk _ _ _ (_ + _ + _) _)); refine st_norm (s0 := s) rfl rfl rfl fun _ => ?_)
  k_with "execs cons" => (k_here; first | ((rename News _ _ _ _ => N6); dsimp only at N6) | ((rename Fr _ _ _ _ => F6); dsimp only at F6))
  k_with "compareOp NotEq ref ref" => (k_here; k_dflt (first
  | (refine' ne_nilF ?xN ?xa ?x1 ?x2 ?xb ?x3 ?x4 ?xu ?_; (case xN => k_asm); (case xa => k_mem); (case x1 => exact rfl); (case x2 => exact rfl); (case xb => k_mem); (case x3 => exact rfl); (case x4 => exact rfl); (case xu => ktr_units))
  | (refine' ne_nilT ?xN ?xa ?x1 ?x2 ?xb ?x3 ?x4 ?xz ?xu ?_; (case xN => k_asm); (case xa => k_mem); (case x1 => exact rfl); (case x2 => exact rfl); (case xb => k_mem); (case x3 => exact rfl); (case x4 => exact rfl); (case xz => exact rf_ne (by assumption)); (case xu => ktr_units))))
  k_with "compareOp Eq ref ref" => (k_here; k_dflt (first
  | (refine' eq_nilT ?xN ?xa ?x1 ?x2 ?xb ?x3 ?x4 ?xu ?_; (case xN => k_asm); (case xa => k_mem); (case x1 => exact rfl); (case x2 => exact rfl); (case xb => k_mem); (case x3 => exact rfl); (case x4 => exact rfl); (case xu => ktr_units))
  | (refine' eq_nilF ?xN ?xa ?x1 ?x2 ?xb ?x3 ?x4 ?xz ?xu ?_; (case xN => k_asm); (case xa => k_mem); (case x1 => exact rfl); (case x2 => exact rfl); (case xb => k_mem); (case x3 => exact rfl); (case x4 => exact rfl); (case xz => assumption); (case xu => ktr_units))))
  k_with "subscriptTail Name Constant ref int" => (k_here; k_dflt (refine' first_piece ?xN ?xm ?xe ?_ ?xs; (case xN => k_asm); (case xm => k_mem); (case xe => assumption); (case xs => with_unfolding_all rfl)))
  k_with "subscriptTail Name UnaryOp ref int" => (k_here; k_dflt (refine' last_piece ?xN ?xm ?xe ?xz ?_ ?xs; (case xN => k_asm); (case xm => k_mem); (case xe => assumption); (case xz => assumption); (case xs => with_unfolding_all rfl)))
  k_with "subscriptTail Name Slice ref ref" => (k_here; (with_reducible show wpAny _ _ (subscriptTail _ (PySem.Expr.Slice _ _ none _) (Value.ref _) (Value.ref _)) _ _ _); k_dflt (refine' kms_slice_lit ?yF ?yN ?yl ?yp ?yq ?ye ?_ ?ys ?yt ?yz; (case yF => k_asm); (case yN => k_asm); (case yl => kmk_list); (case yp => kmk_part); (case yq => kmk_part); (case ye => first | exact pick_tail (by assumption) | exact pick_init (by assumption)); (case ys => with_unfolding_all rfl); (case yt => kmk_pure); (case yz => exact rf_size (by assumption))); intro D' h' F' N' l1; (try k_lt l1); (try k_sweep))
  k_with "eval ListComp" => (k_here; k_dflt ((first | refine' pairs_comp (fun b => b) ?hh ?F ?N ?hm ?hps ?hz ?hcl ?hce ?hk ?hn ?hx ?hx2 ?hxx ?hd (hc_name ?c1 ?c2 ?c3) ?hi ?_ ?hs | refine' pairs_comp (fun b => !b) ?hh ?F ?N ?hm ?hps ?hz ?hcl ?hce ?hk ?hn ?hx ?hx2 ?hxx ?hd (hc_not ?c1 ?c2 ?c3) ?hi ?_ ?hs); (case hi => (intro Q9 hq9; exact ld (by k_asm) rfl hq9)); (case hh => exact rfl); (case F => k_asm); (case N => k_asm); (case hm => k_mem); (case hps => (intro p hp; repeat (first | exact List.mem_map_of_mem ((by assumption : ∀ p ∈ _, p ∈ _) p hp) | refine List.Mem.tail _ ?_))); (case hz => exact Nat.le_of_lt (by assumption)); (case hcl => with_unfolding_all rfl); (case hce => decide); (case hk => rfl); (case hn => decide); (case hx => rfl); (case hx2 => rfl); (case hxx => decide); (case hd => decide); (case c1 => rfl); (case c2 => rfl); (case c3 => decide); (case hs => (intro _; rfl))); intro D' h' tk' F' N' l1; (try k_lt l1))
  k_with "call ref" => (k_here; k_dflt (refine' Does.use (cut_does _ _ _ ?h0) ?k1 ?k2 ?k3 ?k4 ?k5 ?kK ?kd ?ku ?_; (case k1 => k_asm); (case k2 => k_asm); (case k3 => k_asm); (case k4 => k_asm); (case k5 => k_asm); (case kK => first | exact rfl | assumption); (case kd => ktr_room); (case ku => ktr_units); (case h0 => assumption); (try dsimp only)); intro _ _ _ _ _ _ _ _ _ _ _; (k_extra "shape"); (try k_fold))
  unfold DoesK
  intro dp un gd cn cs a ccd cl outer A₀ base h₀ L m s R B F X N T hk hd hu hret
  have hS : MySub [(d, dictOf [] 0), (o, instObj 92 d)] := trivial
  have hmem : ∀ q ∈ [(d, dictOf [] 0), (o, instObj 92 d)], q ∈ news := by
    intro q hq
    rcases List.mem_cons.mp hq with rfl | hq
    · exact updF_mem U
    · rw [List.mem_singleton.mp hq]; exact M
  w_top off
  k_dflt (refine' code_subG ?kS ?k1 ?k2 ?k3 ?k4 ?k4s ?k5 ?kA ?kF ?kK ?k6 ?k7 ?k8 ?k9 ?kB ?_ ?c2 ?c3 ?c4 ?c5; (case kS => assumption); (case kA => exact rfl); (case kF => exact rfl); (case kK => assumption); (case k1 => k_asm); (case k2 => k_asm); (case k3 => k_asm); (case k4 => k_asm); (case k4s => first | exact List.forall_mem_nil _ | assumption); (case k5 => k_asm); (case k6 => k_is); (case k7 => k_is); (case k8 => ktr_room); (case k9 => exact BindsTo.of_eq rfl); (case c5 => decide); (case kB => exact locs rfl); (case c2 => exact rfl); (case c3 => exact rfl); (case c4 => exact rfl); k_whole; intro g' L' h' tk' FG' F' N' B' X' T' G'; (try dsimp only); (try k_lift B'); (try k_fold))
  k_with "shape" => k_dflt (
    rename_i pl n rs hm hne ho hp hh tk F1 N1
    obtain ⟨ps, hps, hv, hlen, o1, n1, n2, n3, N2⟩ := shape_facts hm hcut hx ho hp N1
    obtain ⟨md, hmd⟩ : ∃ md, md = ps := ⟨_, rfl⟩
    subst hmd
    have h7 := hv
    obtain ⟨P0, r1, f3, b3, h5⟩ := map_cons_inv (hv.trans e1)
    obtain ⟨c1, Q0, f4, b4, h6⟩ := map_snoc_inv (hv.trans e2)
    have m5 : Q0 ∈ md := by rw [f4]; exact List.mem_append_right _ (.head _)
    have m3 : P0 ∈ md := by rw [f3]; exact .head _
    have vt : 0 < (vals (fun b => b) md).toArray.size := by
      rw [List.size_toArray, vals, List.length_map, f3, List.filter_cons]
      have e : P0.b = true := congrArg Prod.fst b3
      rw [if_pos e, List.length_cons]; omega
    have S1 := vals_are (fun b => b) h7
    have S2 := vals_are (fun b => !b) h7
    have N3 := led2 N2 m3 m5
    have q1 := n3 _ m3
    have q2 := n3 _ m5
    have s1 : ∀ p ∈ md, p ∈ md := fun _ h => h
    rw [b3, b4] at N3
    clear hm hv h7 hcut hne ho hp N1 N2 h5 h6 b3 b4 hps
    )
  k_with "execs cons" => (k_here; (with_reducible show wpAny _ _ (execs (Stmt.Assign _ (Expr.ListComp _ _ _ _) _ :: _) _) _ _ _); k_extra "fin")
  k_with "fin" => k_dflt (
    refine' fin_some ?hb ?ho ?FG ?B ?X ?T ?hd ?hu ?F1 ?N1 ?m1 ?m2 ?hod ?q1 ?q2 ?q3 ?hl ?vt ?hR
    (case ho => k_is)
    (case hb => exact rfl)
    (case FG => assumption)
    (case B => assumption)
    (case X => assumption)
    (case T => assumption)
    (case hd => assumption)
    (case hu => assumption)
    (case F1 => assumption)
    (case m1 => exact rfl)
    (case m2 => exact rfl)
    (case N1 => (refine' news_fin ?na ?nb ?nc ?nd ?ne; (case na => k_asm); (case nb => k_mem); (case nc => k_mem); (case nd => k_mem); (case ne => (intro p hp; repeat (first | exact List.mem_map_of_mem ((by assumption : ∀ p ∈ _, p ∈ _) p hp) | refine List.Mem.tail _ ?_)))))
    (case hod => assumption)
    (case q1 => k_ne)
    (case q2 => k_ne)
    (case q3 => exact fun p hp => n3 p (s1 p hp))
    (case hl => assumption)
    (case vt => assumption)
    (case hR => (intro h8 tk8 tl8 bl8 a8 b8 c8 d8 e8 nx8 kF kN m3 m4 m1 m2 kK; exact hret _ _ _ _ _ _ _ _ _ _ _ _ _ S1 S2 _ _ kF (init_end kN kK N U M m3 m4 m1 m2))))
  k_steps
theorem init_bef (news : List (Addr × Obj)) (gn : Obj → List (Addr × Obj)) (o d : Addr) (xt : Str) (t : Tok) (hx : xt.length ≤ 200) (hod : @LT.lt Nat _ d o) (M : (o, instObj 92 d) ∈ news) (U : UpdF d (dictOf [] 0) news gn)
    {mid c r : List (Bool × Str)} {pp qq bb : Str} (e1 : mid = (true, pp) :: r) (e2 : mid = c ++ [(true, qq)]) (hcut : (cutR xt.cps.toList).reverse = (false, bb) :: mid) :
    DoesK prog w (Mine.kk.heap_1 w.params) p loose mean mg mb (.ref 75) [.ref o, .str xt t] news 3 fun K => ∀ tl bl vs ws n1 n2 k1 t1 k2 t2 k3 k4 n, StrsAre vs (texts (fun b => b) mid) → StrsAre ws (texts (fun b => !b) mid) → K .none ((tl, listOf vs.toArray n1) :: (bl, listOf ws.toArray n2) :: gn (fmtD w.params (bb) (Str.ofString "") tl bl k1 t1 k2 t2 k3 k4 n)) := by
  have hz := fillK; revert hz; k_fill; intro _
  k_with_none
  w_top off
  k_with "*" => ((with_reducible show wpAny _ _ _ _ _ (Shared.mk _ _ _ (_ + _ + _) _)); refine st_norm (s0 := s) rfl rfl rfl fun _ => ?_)
  k_with "execs cons" => (k_here; first | ((rename News _ _ _ _ => N6); dsimp only at N6) | ((rename Fr _ _ _ _ => F6); dsimp only at F6))
  k_with "compareOp NotEq ref ref" => (k_here; k_dflt (first
  | (refine' ne_nilF ?xN ?xa ?x1 ?x2 ?xb ?x3 ?x4 ?xu ?_; (case xN => k_asm); (case xa => k_mem); (case x1 => exact rfl); (case x2 => exact rfl); (case xb => k_mem); (case x3 => exact rfl); (case x4 => exact rfl); (case xu => ktr_units))
  | (refine' ne_nilT ?xN ?xa ?x1 ?x2 ?xb ?x3 ?x4 ?xz ?xu ?_; (case xN => k_asm); (case xa => k_mem); (case x1 => exact rfl); (case x2 => exact rfl); (case xb => k_mem); (case x3 => exact rfl); (case x4 => exact rfl); (case xz => exact rf_ne (by assumption)); (case xu => ktr_units))))
  k_with "compareOp Eq ref ref" => (k_here; k_dflt (first
  | (refine' eq_nilT ?xN ?xa ?x1 ?x2 ?xb ?x3 ?x4 ?xu ?_; (case xN => k_asm); (case xa => k_mem); (case x1 => exact rfl); (case x2 => exact rfl); (case xb => k_mem); (case x3 => exact rfl); (case x4 => exact rfl); (case xu => ktr_units))
  | (refine' eq_nilF ?xN ?xa ?x1 ?x2 ?xb ?x3 ?x4 ?xz ?xu ?_; (case xN => k_asm); (case xa => k_mem); (case x1 => exact rfl); (case x2 => exact rfl); (case xb => k_mem); (case x3 => exact rfl); (case x4 => exact rfl); (case xz => assumption); (case xu => ktr_units))))
  k_with "subscriptTail Name Constant ref int" => (k_here; k_dflt (refine' first_piece ?xN ?xm ?xe ?_ ?xs; (case xN => k_asm); (case xm => k_mem); (case xe => assumption); (case xs => with_unfolding_all rfl)))
  k_with "subscriptTail Name UnaryOp ref int" => (k_here; k_dflt (refine' last_piece ?xN ?xm ?xe ?xz ?_ ?xs; (case xN => k_asm); (case xm => k_mem); (case xe => assumption); (case xz => assumption); (case xs => with_unfolding_all rfl)))
  k_with "subscriptTail Name Slice ref ref" => (k_here; (with_reducible show wpAny _ _ (subscriptTail _ (PySem.Expr.Slice _ _ none _) (Value.ref _) (Value.ref _)) _ _ _); k_dflt (refine' kms_slice_lit ?yF ?yN ?yl ?yp ?yq ?ye ?_ ?ys ?yt ?yz; (case yF => k_asm); (case yN => k_asm); (case yl => kmk_list); (case yp => kmk_part); (case yq => kmk_part); (case ye => first | exact pick_tail (by assumption) | exact pick_init (by assumption)); (case ys => with_unfolding_all rfl); (case yt => kmk_pure); (case yz => exact rf_size (by assumption))); intro D' h' F' N' l1; (try k_lt l1); (try k_sweep))
  k_with "eval ListComp" => (k_here; k_dflt ((first | refine' pairs_comp (fun b => b) ?hh ?F ?N ?hm ?hps ?hz ?hcl ?hce ?hk ?hn ?hx ?hx2 ?hxx ?hd (hc_name ?c1 ?c2 ?c3) ?hi ?_ ?hs | refine' pairs_comp (fun b => !b) ?hh ?F ?N ?hm ?hps ?hz ?hcl ?hce ?hk ?hn ?hx ?hx2 ?hxx ?hd (hc_not ?c1 ?c2 ?c3) ?hi ?_ ?hs); (case hi => (intro Q9 hq9; exact ld (by k_asm) rfl hq9)); (case hh => exact rfl); (case F => k_asm); (case N => k_asm); (case hm => k_mem); (case hps => (intro p hp; repeat (first | exact List.mem_map_of_mem ((by assumption : ∀ p ∈ _, p ∈ _) p hp) | refine List.Mem.tail _ ?_))); (case hz => exact Nat.le_of_lt (by assumption)); (case hcl => with_unfolding_all rfl); (case hce => decide); (case hk => rfl); (case hn => decide); (case hx => rfl); (case hx2 => rfl); (case hxx => decide); (case hd => decide); (case c1 => rfl); (case c2 => rfl); (case c3 => decide); (case hs => (intro _; rfl))); intro D' h' tk' F' N' l1; (try k_lt l1))
  k_with "call ref" => (k_here; k_dflt (refine' Does.use (cut_does _ _ _ ?h0) ?k1 ?k2 ?k3 ?k4 ?k5 ?kK ?kd ?ku ?_; (case k1 => k_asm); (case k2 => k_asm); (case k3 => k_asm); (case k4 => k_asm); (case k5 => k_asm); (case kK => first | exact rfl | assumption); (case kd => ktr_room); (case ku => ktr_units); (case h0 => assumption); (try dsimp only)); intro _ _ _ _ _ _ _ _ _ _ _; (k_extra "shape"); (try k_fold))
  unfold DoesK
  intro dp un gd cn cs a ccd cl outer A₀ base h₀ L m s R B F X N T hk hd hu hret
  have hS : MySub [(d, dictOf [] 0), (o, instObj 92 d)] := trivial
  have hmem : ∀ q ∈ [(d, dictOf [] 0), (o, instObj 92 d)], q ∈ news := by
    intro q hq
    rcases List.mem_cons.mp hq with rfl | hq
    · exact updF_mem U
    · rw [List.mem_singleton.mp hq]; exact M
  w_top off
  k_dflt (refine' code_subG ?kS ?k1 ?k2 ?k3 ?k4 ?k4s ?k5 ?kA ?kF ?kK ?k6 ?k7 ?k8 ?k9 ?kB ?_ ?c2 ?c3 ?c4 ?c5; (case kS => assumption); (case kA => exact rfl); (case kF => exact rfl); (case kK => assumption); (case k1 => k_asm); (case k2 => k_asm); (case k3 => k_asm); (case k4 => k_asm); (case k4s => first | exact List.forall_mem_nil _ | assumption); (case k5 => k_asm); (case k6 => k_is); (case k7 => k_is); (case k8 => ktr_room); (case k9 => exact BindsTo.of_eq rfl); (case c5 => decide); (case kB => exact locs rfl); (case c2 => exact rfl); (case c3 => exact rfl); (case c4 => exact rfl); k_whole; intro g' L' h' tk' FG' F' N' B' X' T' G'; (try dsimp only); (try k_lift B'); (try k_fold))
  k_with "shape" => k_dflt (
    rename_i pl n rs hm hne ho hp hh tk F1 N1
    obtain ⟨ps, hps, hv, hlen, o1, n1, n2, n3, N2⟩ := shape_facts hm hcut hx ho hp N1
    obtain ⟨B0, md, f1, b1, h7⟩ := map_cons_inv hv
    obtain ⟨P0, r1, f3, b3, h5⟩ := map_cons_inv (h7.trans e1)
    obtain ⟨c1, Q0, f4, b4, h6⟩ := map_snoc_inv (h7.trans e2)
    have m1 : B0 ∈ ps := by rw [f1]; exact .head _
    have m5 : Q0 ∈ ps := by rw [f1, f4]; exact .tail _ (List.mem_append_right _ (.head _))
    have m3 : P0 ∈ md := by rw [f3]; exact .head _
    have vt : 0 < (vals (fun b => b) md).toArray.size := by
      rw [List.size_toArray, vals, List.length_map, f3, List.filter_cons]
      have e : P0.b = true := congrArg Prod.fst b3
      rw [if_pos e, List.length_cons]; omega
    have S1 := vals_are (fun b => b) h7
    have S2 := vals_are (fun b => !b) h7
    have N3 := led2 N2 m1 m5
    have q1 := n3 _ m1
    have q2 := n3 _ m5
    have hl3 : md.length < 1000 := by rw [f1] at hlen; exact Nat.lt_of_succ_lt hlen
    have s1 : ∀ p ∈ md, p ∈ ps := by rw [f1]; exact fun _ h => .tail _ h
    rw [b1, b4] at N3
    clear hm hv h7 hcut hne ho hp N1 N2 h5 h6 b1 b3 b4
    )
  k_with "execs cons" => (k_here; (with_reducible show wpAny _ _ (execs (Stmt.Assign _ (Expr.ListComp _ _ _ _) _ :: _) _) _ _ _); k_extra "fin")
  k_with "fin" => k_dflt (
    refine' fin_some ?hb ?ho ?FG ?B ?X ?T ?hd ?hu ?F1 ?N1 ?m1 ?m2 ?hod ?q1 ?q2 ?q3 ?hl ?vt ?hR
    (case ho => k_is)
    (case hb => exact rfl)
    (case FG => assumption)
    (case B => assumption)
    (case X => assumption)
    (case T => assumption)
    (case hd => assumption)
    (case hu => assumption)
    (case F1 => assumption)
    (case m1 => exact rfl)
    (case m2 => exact rfl)
    (case N1 => (refine' news_fin ?na ?nb ?nc ?nd ?ne; (case na => k_asm); (case nb => k_mem); (case nc => k_mem); (case nd => k_mem); (case ne => (intro p hp; repeat (first | exact List.mem_map_of_mem ((by assumption : ∀ p ∈ _, p ∈ _) p hp) | refine List.Mem.tail _ ?_)))))
    (case hod => assumption)
    (case q1 => k_ne)
    (case q2 => k_ne)
    (case q3 => exact fun p hp => n3 p (s1 p hp))
    (case hl => assumption)
    (case vt => assumption)
    (case hR => (intro h8 tk8 tl8 bl8 a8 b8 c8 d8 e8 nx8 kF kN m3 m4 m1 m2 kK; exact hret _ _ _ _ _ _ _ _ _ _ _ _ _ S1 S2 _ _ kF (init_end kN kK N U M m3 m4 m1 m2))))
  k_steps
theorem init_aft (news : List (Addr × Obj)) (gn : Obj → List (Addr × Obj)) (o d : Addr) (xt : Str) (t : Tok) (hx : xt.length ≤ 200) (hod : @LT.lt Nat _ d o) (M : (o, instObj 92 d) ∈ news) (U : UpdF d (dictOf [] 0) news gn)
    {mid c r : List (Bool × Str)} {pp qq aa : Str} (e1 : mid = (true, pp) :: r) (e2 : mid = c ++ [(true, qq)]) (hcut : (cutR xt.cps.toList).reverse = mid ++ [(false, aa)]) :
    DoesK prog w (Mine.kk.heap_1 w.params) p loose mean mg mb (.ref 75) [.ref o, .str xt t] news 3 fun K => ∀ tl bl vs ws n1 n2 k1 t1 k2 t2 k3 k4 n, StrsAre vs (texts (fun b => b) mid) → StrsAre ws (texts (fun b => !b) mid) → K .none ((tl, listOf vs.toArray n1) :: (bl, listOf ws.toArray n2) :: gn (fmtD w.params (Str.ofString "") (aa) tl bl k1 t1 k2 t2 k3 k4 n)) := by
  have hz := fillK; revert hz; k_fill; intro _
  k_with_none
  w_top off
  k_with "*" => ((with_reducible show wpAny _ _ _ _ _ (Shared.mk _ _ _ (_ + _ + _) _)); refine st_norm (s0 := s) rfl rfl rfl fun _ => ?_)
  k_with "execs cons" => (k_here; first | ((rename News _ _ _ _ => N6); dsimp only at N6) | ((rename Fr _ _ _ _ => F6); dsimp only at F6))
  k_with "compareOp NotEq ref ref" => (k_here; k_dflt (first
  | (refine' ne_nilF ?xN ?xa ?x1 ?x2 ?xb ?x3 ?x4 ?xu ?_; (case xN => k_asm); (case xa => k_mem); (case x1 => exact rfl); (case x2 => exact rfl); (case xb => k_mem); (case x3 => exact rfl); (case x4 => exact rfl); (case xu => ktr_units))
  | (refine' ne_nilT ?xN ?xa ?x1 ?x2 ?xb ?x3 ?x4 ?xz ?xu ?_; (case xN => k_asm); (case xa => k_mem); (case x1 => exact rfl); (case x2 => exact rfl); (case xb => k_mem); (case x3 => exact rfl); (case x4 => exact rfl); (case xz => exact rf_ne (by assumption)); (case xu => ktr_units))))
  k_with "compareOp Eq ref ref" => (k_here; k_dflt (first
  | (refine' eq_nilT ?xN ?xa ?x1 ?x2 ?xb ?x3 ?x4 ?xu ?_; (case xN => k_asm); (case xa => k_mem); (case x1 => exact rfl); (case x2 => exact rfl); (case xb => k_mem); (case x3 => exact rfl); (case x4 => exact rfl); (case xu => ktr_units))
  | (refine' eq_nilF ?xN ?xa ?x1 ?x2 ?xb ?x3 ?x4 ?xz ?xu ?_; (case xN => k_asm); (case xa => k_mem); (case x1 => exact rfl); (case x2 => exact rfl); (case xb => k_mem); (case x3 => exact rfl); (case x4 => exact rfl); (case xz => assumption); (case xu => ktr_units))))
  k_with "subscriptTail Name Constant ref int" => (k_here; k_dflt (refine' first_piece ?xN ?xm ?xe ?_ ?xs; (case xN => k_asm); (case xm => k_mem); (case xe => assumption); (case xs => with_unfolding_all rfl)))
  k_with "subscriptTail Name UnaryOp ref int" => (k_here; k_dflt (refine' last_piece ?xN ?xm ?xe ?xz ?_ ?xs; (case xN => k_asm); (case xm => k_mem); (case xe => assumption); (case xz => assumption); (case xs => with_unfolding_all rfl)))
  k_with "subscriptTail Name Slice ref ref" => (k_here; (with_reducible show wpAny _ _ (subscriptTail _ (PySem.Expr.Slice _ _ none _) (Value.ref _) (Value.ref _)) _ _ _); k_dflt (refine' kms_slice_lit ?yF ?yN ?yl ?yp ?yq ?ye ?_ ?ys ?yt ?yz; (case yF => k_asm); (case yN => k_asm); (case yl => kmk_list); (case yp => kmk_part); (case yq => kmk_part); (case ye => first | exact pick_tail (by assumption) | exact pick_init (by assumption)); (case ys => with_unfolding_all rfl); (case yt => kmk_pure); (case yz => exact rf_size (by assumption))); intro D' h' F' N' l1; (try k_lt l1); (try k_sweep))
  k_with "eval ListComp" => (k_here; k_dflt ((first | refine' pairs_comp (fun b => b) ?hh ?F ?N ?hm ?hps ?hz ?hcl ?hce ?hk ?hn ?hx ?hx2 ?hxx ?hd (hc_name ?c1 ?c2 ?c3) ?hi ?_ ?hs | refine' pairs_comp (fun b => !b) ?hh ?F ?N ?hm ?hps ?hz ?hcl ?hce ?hk ?hn ?hx ?hx2 ?hxx ?hd (hc_not ?c1 ?c2 ?c3) ?hi ?_ ?hs); (case hi => (intro Q9 hq9; exact ld (by k_asm) rfl hq9)); (case hh => exact rfl); (case F => k_asm); (case N => k_asm); (case hm => k_mem); (case hps => (intro p hp; repeat (first | exact List.mem_map_of_mem ((by assumption : ∀ p ∈ _, p ∈ _) p hp) | refine List.Mem.tail _ ?_))); (case hz => exact Nat.le_of_lt (by assumption)); (case hcl => with_unfolding_all rfl); (case hce => decide); (case hk => rfl); (case hn => decide); (case hx => rfl); (case hx2 => rfl); (case hxx => decide); (case hd => decide); (case c1 => rfl); (case c2 => rfl); (case c3 => decide); (case hs => (intro _; rfl))); intro D' h' tk' F' N' l1; (try k_lt l1))
  k_with "call ref" => (k_here; k_dflt (refine' Does.use (cut_does _ _ _ ?h0) ?k1 ?k2 ?k3 ?k4 ?k5 ?kK ?kd ?ku ?_; (case k1 => k_asm); (case k2 => k_asm); (case k3 => k_asm); (case k4 => k_asm); (case k5 => k_asm); (case kK => first | exact rfl | assumption); (case kd => ktr_room); (case ku => ktr_units); (case h0 => assumption); (try dsimp only)); intro _ _ _ _ _ _ _ _ _ _ _; (k_extra "shape"); (try k_fold))
  unfold DoesK
  intro dp un gd cn cs a ccd cl outer A₀ base h₀ L m s R B F X N T hk hd hu hret
  have hS : MySub [(d, dictOf [] 0), (o, instObj 92 d)] := trivial
  have hmem : ∀ q ∈ [(d, dictOf [] 0), (o, instObj 92 d)], q ∈ news := by
    intro q hq
    rcases List.mem_cons.mp hq with rfl | hq
    · exact updF_mem U
    · rw [List.mem_singleton.mp hq]; exact M
  w_top off
  k_dflt (refine' code_subG ?kS ?k1 ?k2 ?k3 ?k4 ?k4s ?k5 ?kA ?kF ?kK ?k6 ?k7 ?k8 ?k9 ?kB ?_ ?c2 ?c3 ?c4 ?c5; (case kS => assumption); (case kA => exact rfl); (case kF => exact rfl); (case kK => assumption); (case k1 => k_asm); (case k2 => k_asm); (case k3 => k_asm); (case k4 => k_asm); (case k4s => first | exact List.forall_mem_nil _ | assumption); (case k5 => k_asm); (case k6 => k_is); (case k7 => k_is); (case k8 => ktr_room); (case k9 => exact BindsTo.of_eq rfl); (case c5 => decide); (case kB => exact locs rfl); (case c2 => exact rfl); (case c3 => exact rfl); (case c4 => exact rfl); k_whole; intro g' L' h' tk' FG' F' N' B' X' T' G'; (try dsimp only); (try k_lift B'); (try k_fold))
  k_with "shape" => k_dflt (
    rename_i pl n rs hm hne ho hp hh tk F1 N1
    obtain ⟨ps, hps, hv, hlen, o1, n1, n2, n3, N2⟩ := shape_facts hm hcut hx ho hp N1
    obtain ⟨md, A0, f2, b2, h7⟩ := map_snoc_inv hv
    obtain ⟨P0, r1, f3, b3, h5⟩ := map_cons_inv (h7.trans e1)
    have f5 : ps = P0 :: (r1 ++ [A0]) := by rw [f2, f3]; rfl
    have m1 : P0 ∈ ps := by rw [f5]; exact .head _
    have m2 : A0 ∈ ps := by rw [f2]; exact List.mem_append_right _ (.head _)
    have m3 : P0 ∈ md := by rw [f3]; exact .head _
    have vt : 0 < (vals (fun b => b) md).toArray.size := by
      rw [List.size_toArray, vals, List.length_map, f3, List.filter_cons]
      have e : P0.b = true := congrArg Prod.fst b3
      rw [if_pos e, List.length_cons]; omega
    have S1 := vals_are (fun b => b) h7
    have S2 := vals_are (fun b => !b) h7
    have N3 := led2 N2 m1 m2
    have q1 := n3 _ m1
    have q2 := n3 _ m2
    have hl3 : md.length < 1000 := by rw [f2, List.length_append] at hlen; omega
    have s1 : ∀ p ∈ md, p ∈ ps := by rw [f2]; exact fun _ h => List.mem_append_left _ h
    rw [b2, b3] at N3
    clear hm hv h7 hcut hne ho hp N1 N2 h5 b2 b3
    )
  k_with "execs cons" => (k_here; (with_reducible show wpAny _ _ (execs (Stmt.Assign _ (Expr.ListComp _ _ _ _) _ :: _) _) _ _ _); k_extra "fin")
  k_with "fin" => k_dflt (
    refine' fin_some ?hb ?ho ?FG ?B ?X ?T ?hd ?hu ?F1 ?N1 ?m1 ?m2 ?hod ?q1 ?q2 ?q3 ?hl ?vt ?hR
    (case ho => k_is)
    (case hb => exact rfl)
    (case FG => assumption)
    (case B => assumption)
    (case X => assumption)
    (case T => assumption)
    (case hd => assumption)
    (case hu => assumption)
    (case F1 => assumption)
    (case m1 => exact rfl)
    (case m2 => exact rfl)
    (case N1 => (refine' news_fin ?na ?nb ?nc ?nd ?ne; (case na => k_asm); (case nb => k_mem); (case nc => k_mem); (case nd => k_mem); (case ne => (intro p hp; repeat (first | exact List.mem_map_of_mem ((by assumption : ∀ p ∈ _, p ∈ _) p hp) | refine List.Mem.tail _ ?_)))))
    (case hod => assumption)
    (case q1 => k_ne)
    (case q2 => k_ne)
    (case q3 => exact fun p hp => n3 p (s1 p hp))
    (case hl => assumption)
    (case vt => assumption)
    (case hR => (intro h8 tk8 tl8 bl8 a8 b8 c8 d8 e8 nx8 kF kN m3 m4 m1 m2 kK; exact hret _ _ _ _ _ _ _ _ _ _ _ _ _ S1 S2 _ _ kF (init_end kN kK N U M m3 m4 m1 m2))))
  k_steps
theorem init_both (news : List (Addr × Obj)) (gn : Obj → List (Addr × Obj)) (o d : Addr) (xt : Str) (t : Tok) (hx : xt.length ≤ 200) (hod : @LT.lt Nat _ d o) (M : (o, instObj 92 d) ∈ news) (U : UpdF d (dictOf [] 0) news gn)
    {mid c r : List (Bool × Str)} {pp qq bb aa : Str} (e1 : mid = (true, pp) :: r) (e2 : mid = c ++ [(true, qq)]) (hcut : (cutR xt.cps.toList).reverse = (false, bb) :: (mid ++ [(false, aa)])) :
    DoesK prog w (Mine.kk.heap_1 w.params) p loose mean mg mb (.ref 75) [.ref o, .str xt t] news 3 fun K => ∀ tl bl vs ws n1 n2 k1 t1 k2 t2 k3 k4 n, StrsAre vs (texts (fun b => b) mid) → StrsAre ws (texts (fun b => !b) mid) → K .none ((tl, listOf vs.toArray n1) :: (bl, listOf ws.toArray n2) :: gn (fmtD w.params (bb) (aa) tl bl k1 t1 k2 t2 k3 k4 n)) := by
  have hz := fillK; revert hz; k_fill; intro _
  k_with_none
  w_top off
  k_with "*" => ((with_reducible show wpAny _ _ _ _ _ (Shared.mk _ _ _ (_ + _ + _) _)); refine st_norm (s0 := s) rfl rfl rfl fun _ => ?_)
  k_with "execs cons" => (k_here; first | ((rename News _ _ _ _ => N6); dsimp only at N6) | ((rename Fr _ _ _ _ => F6); dsimp only at F6))
  k_with "compareOp NotEq ref ref" => (k_here; k_dflt (first
  | (refine' ne_nilF ?xN ?xa ?x1 ?x2 ?xb ?x3 ?x4 ?xu ?_; (case xN => k_asm); (case xa => k_mem); (case x1 => exact rfl); (case x2 => exact rfl); (case xb => k_mem); (case x3 => exact rfl); (case x4 => exact rfl); (case xu => ktr_units))
  | (refine' ne_nilT ?xN ?xa ?x1 ?x2 ?xb ?x3 ?x4 ?xz ?xu ?_; (case xN => k_asm); (case xa => k_mem); (case x1 => exact rfl); (case x2 => exact rfl); (case xb => k_mem); (case x3 => exact rfl); (case x4 => exact rfl); (case xz => exact rf_ne (by assumption)); (case xu => ktr_units))))
  k_with "compareOp Eq ref ref" => (k_here; k_dflt (first
  | (refine' eq_nilT ?xN ?xa ?x1 ?x2 ?xb ?x3 ?x4 ?xu ?_; (case xN => k_asm); (case xa => k_mem); (case x1 => exact rfl); (case x2 => exact rfl); (case xb => k_mem); (case x3 => exact rfl); (case x4 => exact rfl); (case xu => ktr_units))
  | (refine' eq_nilF ?xN ?xa ?x1 ?x2 ?xb ?x3 ?x4 ?xz ?xu ?_; (case xN => k_asm); (case xa => k_mem); (case x1 => exact rfl); (case x2 => exact rfl); (case xb => k_mem); (case x3 => exact rfl); (case x4 => exact rfl); (case xz => assumption); (case xu => ktr_units))))
  k_with "subscriptTail Name Constant ref int" => (k_here; k_dflt (refine' first_piece ?xN ?xm ?xe ?_ ?xs; (case xN => k_asm); (case xm => k_mem); (case xe => assumption); (case xs => with_unfolding_all rfl)))
  k_with "subscriptTail Name UnaryOp ref int" => (k_here; k_dflt (refine' last_piece ?xN ?xm ?xe ?xz ?_ ?xs; (case xN => k_asm); (case xm => k_mem); (case xe => assumption); (case xz => assumption); (case xs => with_unfolding_all rfl)))
  k_with "subscriptTail Name Slice ref ref" => (k_here; (with_reducible show wpAny _ _ (subscriptTail _ (PySem.Expr.Slice _ _ none _) (Value.ref _) (Value.ref _)) _ _ _); k_dflt (refine' kms_slice_lit ?yF ?yN ?yl ?yp ?yq ?ye ?_ ?ys ?yt ?yz; (case yF => k_asm); (case yN => k_asm); (case yl => kmk_list); (case yp => kmk_part); (case yq => kmk_part); (case ye => first | exact pick_tail (by assumption) | exact pick_init (by assumption)); (case ys => with_unfolding_all rfl); (case yt => kmk_pure); (case yz => exact rf_size (by assumption))); intro D' h' F' N' l1; (try k_lt l1); (try k_sweep))
  k_with "eval ListComp" => (k_here; k_dflt ((first | refine' pairs_comp (fun b => b) ?hh ?F ?N ?hm ?hps ?hz ?hcl ?hce ?hk ?hn ?hx ?hx2 ?hxx ?hd (hc_name ?c1 ?c2 ?c3) ?hi ?_ ?hs | refine' pairs_comp (fun b => !b) ?hh ?F ?N ?hm ?hps ?hz ?hcl ?hce ?hk ?hn ?hx ?hx2 ?hxx ?hd (hc_not ?c1 ?c2 ?c3) ?hi ?_ ?hs); (case hi => (intro Q9 hq9; exact ld (by k_asm) rfl hq9)); (case hh => exact rfl); (case F => k_asm); (case N => k_asm); (case hm => k_mem); (case hps => (intro p hp; repeat (first | exact List.mem_map_of_mem ((by assumption : ∀ p ∈ _, p ∈ _) p hp) | refine List.Mem.tail _ ?_))); (case hz => exact Nat.le_of_lt (by assumption)); (case hcl => with_unfolding_all rfl); (case hce => decide); (case hk => rfl); (case hn => decide); (case hx => rfl); (case hx2 => rfl); (case hxx => decide); (case hd => decide); (case c1 => rfl); (case c2 => rfl); (case c3 => decide); (case hs => (intro _; rfl))); intro D' h' tk' F' N' l1; (try k_lt l1))
  k_with "call ref" => (k_here; k_dflt (refine' Does.use (cut_does _ _ _ ?h0) ?k1 ?k2 ?k3 ?k4 ?k5 ?kK ?kd ?ku ?_; (case k1 => k_asm); (case k2 => k_asm); (case k3 => k_asm); (case k4 => k_asm); (case k5 => k_asm); (case kK => first | exact rfl | assumption); (case kd => ktr_room); (case ku => ktr_units); (case h0 => assumption); (try dsimp only)); intro _ _ _ _ _ _ _ _ _ _ _; (k_extra "shape"); (try k_fold))
  unfold DoesK
  intro dp un gd cn cs a ccd cl outer A₀ base h₀ L m s R B F X N T hk hd hu hret
  have hS : MySub [(d, dictOf [] 0), (o, instObj 92 d)] := trivial
  have hmem : ∀ q ∈ [(d, dictOf [] 0), (o, instObj 92 d)], q ∈ news := by
    intro q hq
    rcases List.mem_cons.mp hq with rfl | hq
    · exact updF_mem U
    · rw [List.mem_singleton.mp hq]; exact M
  w_top off
  k_dflt (refine' code_subG ?kS ?k1 ?k2 ?k3 ?k4 ?k4s ?k5 ?kA ?kF ?kK ?k6 ?k7 ?k8 ?k9 ?kB ?_ ?c2 ?c3 ?c4 ?c5; (case kS => assumption); (case kA => exact rfl); (case kF => exact rfl); (case kK => assumption); (case k1 => k_asm); (case k2 => k_asm); (case k3 => k_asm); (case k4 => k_asm); (case k4s => first | exact List.forall_mem_nil _ | assumption); (case k5 => k_asm); (case k6 => k_is); (case k7 => k_is); (case k8 => ktr_room); (case k9 => exact BindsTo.of_eq rfl); (case c5 => decide); (case kB => exact locs rfl); (case c2 => exact rfl); (case c3 => exact rfl); (case c4 => exact rfl); k_whole; intro g' L' h' tk' FG' F' N' B' X' T' G'; (try dsimp only); (try k_lift B'); (try k_fold))
  k_with "shape" => k_dflt (
    rename_i pl n rs hm hne ho hp hh tk F1 N1
    obtain ⟨ps, hps, hv, hlen, o1, n1, n2, n3, N2⟩ := shape_facts hm hcut hx ho hp N1
    obtain ⟨B0, r0, f1, b1, h3⟩ := map_cons_inv hv
    obtain ⟨md, A0, f2, b2, h7⟩ := map_snoc_inv h3
    obtain ⟨P0, r1, f3, b3, h5⟩ := map_cons_inv (h7.trans e1)
    have N3 := led2 N2 (shape_head f1) (shape_last f1 f2)
    have q1 := n3 _ (shape_head f1)
    have q2 := n3 _ (shape_last f1 f2)
    have hl2 : r0.length < 1000 := by rw [f1] at hlen; exact Nat.lt_of_succ_lt hlen
    have hl3 : md.length < 1000 := by rw [f2, List.length_append] at hl2; omega
    have s1 := shape_mid f1 f2
    have m1 := shape_head f1
    have m2 : A0 ∈ r0 := by rw [f2]; exact List.mem_append_right _ (.head _)
    have m3 : P0 ∈ md := by rw [f3]; exact .head _
    have vt : 0 < (vals (fun b => b) md).toArray.size := by
      rw [List.size_toArray, vals, List.length_map, f3, List.filter_cons]
      have e : P0.b = true := congrArg Prod.fst b3
      rw [if_pos e, List.length_cons]; omega
    have S1 := vals_are (fun b => b) h7
    have S2 := vals_are (fun b => !b) h7
    rw [b1, b2] at N3
    clear hm hv h7 hcut hne ho hp N1 N2 h3 h5 b1 b2 b3
    )
  k_with "execs cons" => (k_here; (with_reducible show wpAny _ _ (execs (Stmt.Assign _ (Expr.ListComp _ _ _ _) _ :: _) _) _ _ _); k_extra "fin")
  k_with "fin" => k_dflt (
    refine' fin_some ?hb ?ho ?FG ?B ?X ?T ?hd ?hu ?F1 ?N1 ?m1 ?m2 ?hod ?q1 ?q2 ?q3 ?hl ?vt ?hR
    (case ho => k_is)
    (case hb => exact rfl)
    (case FG => assumption)
    (case B => assumption)
    (case X => assumption)
    (case T => assumption)
    (case hd => assumption)
    (case hu => assumption)
    (case F1 => assumption)
    (case m1 => exact rfl)
    (case m2 => exact rfl)
    (case N1 => (refine' news_fin ?na ?nb ?nc ?nd ?ne; (case na => k_asm); (case nb => k_mem); (case nc => k_mem); (case nd => k_mem); (case ne => (intro p hp; repeat (first | exact List.mem_map_of_mem ((by assumption : ∀ p ∈ _, p ∈ _) p hp) | refine List.Mem.tail _ ?_)))))
    (case hod => assumption)
    (case q1 => k_ne)
    (case q2 => k_ne)
    (case q3 => exact fun p hp => n3 p (s1 p hp))
    (case hl => assumption)
    (case vt => assumption)
    (case hR => (intro h8 tk8 tl8 bl8 a8 b8 c8 d8 e8 nx8 kF kN m3 m4 m1 m2 kK; exact hret _ _ _ _ _ _ _ _ _ _ _ _ _ S1 S2 _ _ kF (init_end kN kK N U M m3 m4 m1 m2))))
  k_steps
/-- the tokens that the Format holds -/
def tokF (mid : List (Bool × Str)) : List Str := match mid with
  | [] => [Str.ofString "1"]
  | _ => texts (fun b => b) mid
theorem init_does (news : List (Addr × Obj)) (gn : Obj → List (Addr × Obj)) (o d : Addr) (xt : Str) (t : Tok) (hx : xt.length ≤ 200) (hod : @LT.lt Nat _ d o) (M : (o, instObj 92 d) ∈ news) (U : UpdF d (dictOf [] 0) news gn) {mid : List (Bool × Str)} {bf af : Str} (S : Shape (cutR xt.cps.toList).reverse bf mid af) :
    DoesK prog w (Mine.kk.heap_1 w.params) p loose mean mg mb (.ref 75) [.ref o, .str xt t] news 3 fun K => ∀ tl bl vs ws n1 n2 k1 t1 k2 t2 k3 k4 n, StrsAre vs (tokF mid) → StrsAre ws (texts (fun b => !b) mid) → K .none ((tl, listOf vs.toArray n1) :: (bl, listOf ws.toArray n2) :: gn (fmtD w.params bf af tl bl k1 t1 k2 t2 k3 k4 n)) := by
  generalize hc : (cutR xt.cps.toList).reverse = X at S
  cases S with
  | nil => exact init_nil news gn o d xt t hx hod M U hc
  | one b => exact init_one news gn o d xt t hx hod M U hc
  | mid e1 e2 => have e := init_mid (prog := prog) (w := w) (p := p) (loose := loose) (mean := mean) (mg := mg) (mb := mb) news gn o d xt t hx hod M U e1 e2 hc; subst e1; exact e
  | bef b e1 e2 => have e := init_bef (prog := prog) (w := w) (p := p) (loose := loose) (mean := mean) (mg := mg) (mb := mb) news gn o d xt t hx hod M U e1 e2 hc; subst e1; exact e
  | aft a e1 e2 => have e := init_aft (prog := prog) (w := w) (p := p) (loose := loose) (mean := mean) (mg := mg) (mb := mb) news gn o d xt t hx hod M U e1 e2 hc; subst e1; exact e
  | both b a e1 e2 => have e := init_both (prog := prog) (w := w) (p := p) (loose := loose) (mean := mean) (mg := mg) (mb := mb) news gn o d xt t hx hod M U e1 e2 hc; subst e1; exact e
end
end Mine
end
section
set_option linter.unusedVariables false
open PySem PySem.W PyProof.Rows PySem.Calls PySem.Spec
set_option maxRecDepth 100000
set_option maxHeartbeats 2000000
namespace Mine

theorem len_strs {prog : Program} {w : World} {A : Around} {E : Value → Shared → Prop} {s : Shared} {h₀ : Heap} {L l : Addr} {news : List (Addr × Obj)} {vs : List Value} {ws : List Str} {n : Nat} {Q : Value → Shared → Prop}
    (N : News h₀ L s.heap news) (hm : (l, listOf vs.toArray n) ∈ news) (hw : StrsAre vs ws) (h1 : ws.length ≤ 1000) (h : Q (.int (ws.length : Int) (s.toks + 1)) { s with toks := s.toks + 1 + 1 }) :
    wpAny (model prog w) A (call (.builtin "len") [.ref l]) Q E s := by
  have e : vs.length = ws.length := hw.length
  exact len_any N hm (by omega) (by rw [e]; exact h)
theorem Kept.same {sub news : List (Addr × Obj)} {h₀ h h' : Heap} {L : Addr} (k : Kept sub h h') (N : News h₀ L h news) (ho : ∀ q ∈ sub, q ∈ news) (N' : News h₀ L h' sub) : News h₀ L h' news := by
  intro q hq
  refine ⟨?_, (N q hq).2⟩
  by_cases hin : q.1 ∈ sub.map (·.1)
  · obtain ⟨q2, hq2, he⟩ := List.mem_map.mp hin
    have e5 := (N _ (ho _ hq2)).1
    have e6 := (N' q2 hq2).1
    have e7 := (N _ hq).1
    rw [he] at e5 e6
    rw [e7] at e5
    have e8 : q.2 = q2.2 := by injection e5
    rw [e8]; exact e6
  · exact k _ _ (N q hq).1 hin
/-- the token of a place -/
def atL (ts : List Str) (k : Int) : Str := ts.getD (if (ts.length : Int) - 1 < k then (ts.length : Int) - 1 else k).toNat Str.empty
/-- the sign ahead of a place -/
def sepL (bs : List Str) (k : Int) : Str := match bs with
  | [] => Str.ofString "."
  | bs => atL bs (k - 1)
theorem News.tail1 {h₀ h : Heap} {L : Addr} {p : Addr × Obj} {nx : List (Addr × Obj)} (N : News h₀ L h (p :: nx)) : News h₀ L h nx := fun q hq => N q (.tail _ hq)
section
variable {prog : Program} {w : World} {p : Program} {loose : List Str} {mean : ExcName → Option Value} {mg mb : Str → Option Value}
end
namespace Hktokendoes
abbrev HkT : Type := (Program) × (World) × (Program) × (List Str) × (ExcName → Option Value) × (Str → Option Value) × (Str → Option Value) × (List (Addr × Obj)) × (Addr) × (Addr) × (Addr) × (Addr) × (Str) × (Str) × (Tok) × (Tok) × (Tok) × (Tok) × (Tok) × (Tok) × (Nat) × (Nat) × (List Value) × (List Str) × (Int) × (Tok) × (Nat) × (Nat) × (Option (List Code)) × (Str) × (Scope) × (Addr) × (Value) × (List (Str × Addr)) × (List Env) × (Around) × (Heap) × (Heap) × (Addr) × (Str → Option Value) × (Shared) × (Value → Shared → Prop)
def HkP0 (prog : Program) (w : World) (p : Program) (loose : List Str) (mean : ExcName → Option Value) (mg : Str → Option Value) (mb : Str → Option Value) (news : List (Addr × Obj)) (o : Addr) (d : Addr) (tl : Addr) (bl : Addr) (bf : Str) (af : Str) (k1 : Tok) (t1 : Tok) (k2 : Tok) (t2 : Tok) (k3 : Tok) (k4 : Tok) (n : Nat) (n1 : Nat) (vs : List Value) (ts : List Str) (k : Int) (t : Tok) (dp : Nat) (un : Nat) (gd : Option (List Code)) (cn : Str) (cs : Scope) (a : Addr) (ccd : Value) (cl : List (Str × Addr)) (outer : List Env) (A₀ : Around) (base : Heap) (h₀ : Heap) (L : Addr) (m : Str → Option Value) (s : Shared) (Q : Value → Shared → Prop) : Prop := ∀ (M : (o, instObj 92 d) ∈ news) (M2 : (d, fmtD w.params bf af tl bl k1 t1 k2 t2 k3 k4 n) ∈ news) (M3 : (tl, listOf vs.toArray n1) ∈ news) (W : StrsAre vs ts) (h0 : 0 < ts.length) (h1 : ts.length ≤ 1000) (hk : 0 ≤ k) (hk2 : k < 1000) (B : Below A₀ base outer h₀) (F : Fr h₀ L s.heap m) (X : (Mine.kk.heap_1 w.params).In h₀) (N : News h₀ L s.heap news) (T : Top p loose mean mg mb h₀) (hk : cs.kind = .function) (hd : dp + 1 < recursionLimit) (hu : un + 8 * 1 < cLine) (hret : (fun (K : Value → List (Addr × Obj) → Prop) => ∀ t, K (.str (atL ts k) t) news) fun v news' => ∀ h' tk', Fr h₀ L h' m → News h₀ L h' news' → Q v { s with heap := h', toks := tk' }), wpAny (model prog w) (ktrTop dp un gd cn cs L a ccd cl outer) (call (.ref 82) [.ref o, .int k t]) Q (fun _ _ => False) s
def HkP (c9 : HkT) : Prop := HkP0 c9.1 c9.2.1 c9.2.2.1 c9.2.2.2.1 c9.2.2.2.2.1 c9.2.2.2.2.2.1 c9.2.2.2.2.2.2.1 c9.2.2.2.2.2.2.2.1 c9.2.2.2.2.2.2.2.2.1 c9.2.2.2.2.2.2.2.2.2.1 c9.2.2.2.2.2.2.2.2.2.2.1 c9.2.2.2.2.2.2.2.2.2.2.2.1 c9.2.2.2.2.2.2.2.2.2.2.2.2.1 c9.2.2.2.2.2.2.2.2.2.2.2.2.2.1 c9.2.2.2.2.2.2.2.2.2.2.2.2.2.2.1 c9.2.2.2.2.2.2.2.2.2.2.2.2.2.2.2.1 c9.2.2.2.2.2.2.2.2.2.2.2.2.2.2.2.2.1 c9.2.2.2.2.2.2.2.2.2.2.2.2.2.2.2.2.2.1 c9.2.2.2.2.2.2.2.2.2.2.2.2.2.2.2.2.2.2.1 c9.2.2.2.2.2.2.2.2.2.2.2.2.2.2.2.2.2.2.2.1 c9.2.2.2.2.2.2.2.2.2.2.2.2.2.2.2.2.2.2.2.2.1 c9.2.2.2.2.2.2.2.2.2.2.2.2.2.2.2.2.2.2.2.2.2.1 c9.2.2.2.2.2.2.2.2.2.2.2.2.2.2.2.2.2.2.2.2.2.2.1 c9.2.2.2.2.2.2.2.2.2.2.2.2.2.2.2.2.2.2.2.2.2.2.2.1 c9.2.2.2.2.2.2.2.2.2.2.2.2.2.2.2.2.2.2.2.2.2.2.2.2.1 c9.2.2.2.2.2.2.2.2.2.2.2.2.2.2.2.2.2.2.2.2.2.2.2.2.2.1 c9.2.2.2.2.2.2.2.2.2.2.2.2.2.2.2.2.2.2.2.2.2.2.2.2.2.2.1 c9.2.2.2.2.2.2.2.2.2.2.2.2.2.2.2.2.2.2.2.2.2.2.2.2.2.2.2.1 c9.2.2.2.2.2.2.2.2.2.2.2.2.2.2.2.2.2.2.2.2.2.2.2.2.2.2.2.2.1 c9.2.2.2.2.2.2.2.2.2.2.2.2.2.2.2.2.2.2.2.2.2.2.2.2.2.2.2.2.2.1 c9.2.2.2.2.2.2.2.2.2.2.2.2.2.2.2.2.2.2.2.2.2.2.2.2.2.2.2.2.2.2.1 c9.2.2.2.2.2.2.2.2.2.2.2.2.2.2.2.2.2.2.2.2.2.2.2.2.2.2.2.2.2.2.2.1 c9.2.2.2.2.2.2.2.2.2.2.2.2.2.2.2.2.2.2.2.2.2.2.2.2.2.2.2.2.2.2.2.2.1 c9.2.2.2.2.2.2.2.2.2.2.2.2.2.2.2.2.2.2.2.2.2.2.2.2.2.2.2.2.2.2.2.2.2.1 c9.2.2.2.2.2.2.2.2.2.2.2.2.2.2.2.2.2.2.2.2.2.2.2.2.2.2.2.2.2.2.2.2.2.2.1 c9.2.2.2.2.2.2.2.2.2.2.2.2.2.2.2.2.2.2.2.2.2.2.2.2.2.2.2.2.2.2.2.2.2.2.2.1 c9.2.2.2.2.2.2.2.2.2.2.2.2.2.2.2.2.2.2.2.2.2.2.2.2.2.2.2.2.2.2.2.2.2.2.2.2.1 c9.2.2.2.2.2.2.2.2.2.2.2.2.2.2.2.2.2.2.2.2.2.2.2.2.2.2.2.2.2.2.2.2.2.2.2.2.2.1 c9.2.2.2.2.2.2.2.2.2.2.2.2.2.2.2.2.2.2.2.2.2.2.2.2.2.2.2.2.2.2.2.2.2.2.2.2.2.2.1 c9.2.2.2.2.2.2.2.2.2.2.2.2.2.2.2.2.2.2.2.2.2.2.2.2.2.2.2.2.2.2.2.2.2.2.2.2.2.2.2.1 c9.2.2.2.2.2.2.2.2.2.2.2.2.2.2.2.2.2.2.2.2.2.2.2.2.2.2.2.2.2.2.2.2.2.2.2.2.2.2.2.2.1 c9.2.2.2.2.2.2.2.2.2.2.2.2.2.2.2.2.2.2.2.2.2.2.2.2.2.2.2.2.2.2.2.2.2.2.2.2.2.2.2.2.2
noncomputable def HkD : HkT := ((default), (w00), (default), ([]), (fun _ => none), (fun _ => none), (fun _ => none), ([]), ((0 : Nat)), ((0 : Nat)), ((0 : Nat)), ((0 : Nat)), (Str.empty), (Str.empty), ((0 : Nat)), ((0 : Nat)), ((0 : Nat)), ((0 : Nat)), ((0 : Nat)), ((0 : Nat)), ((0 : Nat)), ((0 : Nat)), ([]), ([]), ((0 : Int)), ((0 : Nat)), ((0 : Nat)), ((0 : Nat)), (none), (Str.empty), (default), ((0 : Nat)), (Value.none), ([]), ([]), (callerA), (default), (default), ((0 : Nat)), (fun _ => none), ({}), (fun _ _ => True))
@[irreducible] noncomputable def HkC : HkT := hkEps HkD HkP
noncomputable def prog : Program := HkC.1
noncomputable def w : World := HkC.2.1
noncomputable def p : Program := HkC.2.2.1
noncomputable def loose : List Str := HkC.2.2.2.1
noncomputable def mean : ExcName → Option Value := HkC.2.2.2.2.1
noncomputable def mg : Str → Option Value := HkC.2.2.2.2.2.1
noncomputable def mb : Str → Option Value := HkC.2.2.2.2.2.2.1
noncomputable def news : List (Addr × Obj) := HkC.2.2.2.2.2.2.2.1
noncomputable def o : Addr := HkC.2.2.2.2.2.2.2.2.1
noncomputable def d : Addr := HkC.2.2.2.2.2.2.2.2.2.1
noncomputable def tl : Addr := HkC.2.2.2.2.2.2.2.2.2.2.1
noncomputable def bl : Addr := HkC.2.2.2.2.2.2.2.2.2.2.2.1
noncomputable def bf : Str := HkC.2.2.2.2.2.2.2.2.2.2.2.2.1
noncomputable def af : Str := HkC.2.2.2.2.2.2.2.2.2.2.2.2.2.1
noncomputable def k1 : Tok := HkC.2.2.2.2.2.2.2.2.2.2.2.2.2.2.1
noncomputable def t1 : Tok := HkC.2.2.2.2.2.2.2.2.2.2.2.2.2.2.2.1
noncomputable def k2 : Tok := HkC.2.2.2.2.2.2.2.2.2.2.2.2.2.2.2.2.1
noncomputable def t2 : Tok := HkC.2.2.2.2.2.2.2.2.2.2.2.2.2.2.2.2.2.1
noncomputable def k3 : Tok := HkC.2.2.2.2.2.2.2.2.2.2.2.2.2.2.2.2.2.2.1
noncomputable def k4 : Tok := HkC.2.2.2.2.2.2.2.2.2.2.2.2.2.2.2.2.2.2.2.1
noncomputable def n : Nat := HkC.2.2.2.2.2.2.2.2.2.2.2.2.2.2.2.2.2.2.2.2.1
noncomputable def n1 : Nat := HkC.2.2.2.2.2.2.2.2.2.2.2.2.2.2.2.2.2.2.2.2.2.1
noncomputable def vs : List Value := HkC.2.2.2.2.2.2.2.2.2.2.2.2.2.2.2.2.2.2.2.2.2.2.1
noncomputable def ts : List Str := HkC.2.2.2.2.2.2.2.2.2.2.2.2.2.2.2.2.2.2.2.2.2.2.2.1
noncomputable def k : Int := HkC.2.2.2.2.2.2.2.2.2.2.2.2.2.2.2.2.2.2.2.2.2.2.2.2.1
noncomputable def t : Tok := HkC.2.2.2.2.2.2.2.2.2.2.2.2.2.2.2.2.2.2.2.2.2.2.2.2.2.1
noncomputable def dp : Nat := HkC.2.2.2.2.2.2.2.2.2.2.2.2.2.2.2.2.2.2.2.2.2.2.2.2.2.2.1
noncomputable def un : Nat := HkC.2.2.2.2.2.2.2.2.2.2.2.2.2.2.2.2.2.2.2.2.2.2.2.2.2.2.2.1
noncomputable def gd : Option (List Code) := HkC.2.2.2.2.2.2.2.2.2.2.2.2.2.2.2.2.2.2.2.2.2.2.2.2.2.2.2.2.1
noncomputable def cn : Str := HkC.2.2.2.2.2.2.2.2.2.2.2.2.2.2.2.2.2.2.2.2.2.2.2.2.2.2.2.2.2.1
noncomputable def cs : Scope := HkC.2.2.2.2.2.2.2.2.2.2.2.2.2.2.2.2.2.2.2.2.2.2.2.2.2.2.2.2.2.2.1
noncomputable def a : Addr := HkC.2.2.2.2.2.2.2.2.2.2.2.2.2.2.2.2.2.2.2.2.2.2.2.2.2.2.2.2.2.2.2.1
noncomputable def ccd : Value := HkC.2.2.2.2.2.2.2.2.2.2.2.2.2.2.2.2.2.2.2.2.2.2.2.2.2.2.2.2.2.2.2.2.1
noncomputable def cl : List (Str × Addr) := HkC.2.2.2.2.2.2.2.2.2.2.2.2.2.2.2.2.2.2.2.2.2.2.2.2.2.2.2.2.2.2.2.2.2.1
noncomputable def outer : List Env := HkC.2.2.2.2.2.2.2.2.2.2.2.2.2.2.2.2.2.2.2.2.2.2.2.2.2.2.2.2.2.2.2.2.2.2.1
noncomputable def A₀ : Around := HkC.2.2.2.2.2.2.2.2.2.2.2.2.2.2.2.2.2.2.2.2.2.2.2.2.2.2.2.2.2.2.2.2.2.2.2.1
noncomputable def base : Heap := HkC.2.2.2.2.2.2.2.2.2.2.2.2.2.2.2.2.2.2.2.2.2.2.2.2.2.2.2.2.2.2.2.2.2.2.2.2.1
noncomputable def h₀ : Heap := HkC.2.2.2.2.2.2.2.2.2.2.2.2.2.2.2.2.2.2.2.2.2.2.2.2.2.2.2.2.2.2.2.2.2.2.2.2.2.1
noncomputable def L : Addr := HkC.2.2.2.2.2.2.2.2.2.2.2.2.2.2.2.2.2.2.2.2.2.2.2.2.2.2.2.2.2.2.2.2.2.2.2.2.2.2.1
noncomputable def m : Str → Option Value := HkC.2.2.2.2.2.2.2.2.2.2.2.2.2.2.2.2.2.2.2.2.2.2.2.2.2.2.2.2.2.2.2.2.2.2.2.2.2.2.2.1
noncomputable def s : Shared := HkC.2.2.2.2.2.2.2.2.2.2.2.2.2.2.2.2.2.2.2.2.2.2.2.2.2.2.2.2.2.2.2.2.2.2.2.2.2.2.2.2.1
noncomputable def Q : Value → Shared → Prop := HkC.2.2.2.2.2.2.2.2.2.2.2.2.2.2.2.2.2.2.2.2.2.2.2.2.2.2.2.2.2.2.2.2.2.2.2.2.2.2.2.2.2
theorem HkAt : HkP0 prog w p loose mean mg mb news o d tl bl bf af k1 t1 k2 t2 k3 k4 n n1 vs ts k t dp un gd cn cs a ccd cl outer A₀ base h₀ L m s Q := by
  unfold HkP0
  intro M M2 M3 W h0 h1 hk hk2 B F X N T hk hd hu hret
  have hz := fillK; revert hz; k_fill; intro _
  k_with_none
  w_top off
  k_with "*" => ((with_reducible show wpAny _ _ _ _ _ (Shared.mk _ _ _ (_ + _ + _) _)); refine st_norm (s0 := s) rfl rfl rfl fun _ => ?_)
  k_with "execs cons" => (k_here; first | ((rename News _ _ _ _ => N6); dsimp only at N6) | ((rename Fr _ _ _ _ => F6); dsimp only at F6))
  k_with "call builtin:len" => (k_here; k_dflt (refine' len_strs ?xN ?xm ?xw ?x1 ?_; (case xN => k_asm); (case xm => k_mem); (case xw => assumption); (case x1 => assumption)))
  k_with "compareOp Eq ref ref" => (k_here; k_dflt (first
  | (refine' eq_nilT ?xN ?xa ?x1 ?x2 ?xb ?x3 ?x4 ?xu ?_; (case xN => k_asm); (case xa => k_mem); (case x1 => exact rfl); (case x2 => exact rfl); (case xb => k_mem); (case x3 => exact rfl); (case x4 => exact rfl); (case xu => ktr_units))
  | (refine' eq_nilF ?xN ?xa ?x1 ?x2 ?xb ?x3 ?x4 ?xz ?xu ?_; (case xN => k_asm); (case xa => k_mem); (case x1 => exact rfl); (case x2 => exact rfl); (case xb => k_mem); (case x3 => exact rfl); (case x4 => exact rfl); (case xz => assumption); (case xu => ktr_units))))
  have hS : MySub [(o, instObj 92 d), (d, fmtD w.params bf af tl bl k1 t1 k2 t2 k3 k4 n), (tl, listOf vs.toArray n1)] := trivial
  have hmem : ∀ q ∈ [(o, instObj 92 d), (d, fmtD w.params bf af tl bl k1 t1 k2 t2 k3 k4 n), (tl, listOf vs.toArray n1)], q ∈ news := by
    simp only [List.forall_mem_cons, List.not_mem_nil, false_implies, implies_true, and_true]
    exact ⟨M, M2, M3⟩
  refine wpAny_call ?_
  w_top off
  k_dflt (refine' code_subG ?kS ?k1 ?k2 ?k3 ?k4 ?k4s ?k5 ?kA ?kF ?kK ?k6 ?k7 ?k8 ?k9 ?kB ?_ ?c2 ?c3 ?c4 ?c5; (case kS => assumption); (case kA => exact rfl); (case kF => exact rfl); (case kK => assumption); (case k1 => k_asm); (case k2 => k_asm); (case k3 => k_asm); (case k4 => k_asm); (case k4s => first | exact List.forall_mem_nil _ | assumption); (case k5 => k_asm); (case k6 => k_is); (case k7 => k_is); (case k8 => ktr_room); (case k9 => exact BindsTo.of_eq rfl); (case c5 => decide); (case kB => exact locs rfl); (case c2 => exact rfl); (case c3 => exact rfl); (case c4 => exact rfl); k_whole; intro g' L' h' tk' FG' F' N' B' X' T' G'; (try dsimp only); (try k_lift B'); (try k_fold))
  k_steps
  exact hret _ _ _ (by assumption) (Kept.same (by assumption) N hmem (by assumption))
theorem HkEq : HkC = hkEps HkD HkP := by unfold HkC; rfl
end Hktokendoes
theorem token_does {prog : Program} {w : World} {p : Program} {loose : List Str} {mean : ExcName → Option Value} {mg mb : Str → Option Value} (news : List (Addr × Obj)) (o d tl bl : Addr) (bf af : Str) (k1 t1 k2 t2 k3 k4 : Tok) (n n1 : Nat) (vs : List Value) (ts : List Str) (k : Int) (t : Tok) (M : (o, instObj 92 d) ∈ news) (M2 : (d, fmtD w.params bf af tl bl k1 t1 k2 t2 k3 k4 n) ∈ news) (M3 : (tl, listOf vs.toArray n1) ∈ news) (W : StrsAre vs ts) (h0 : 0 < ts.length) (h1 : ts.length ≤ 1000) (hk : 0 ≤ k) (hk2 : k < 1000) :
    Does prog w (Mine.kk.heap_1 w.params) p loose mean mg mb (.ref 82) [.ref o, .int k t] news 1 fun K => ∀ t, K (.str (atL ts k) t) news :=
  fun dp un gd cn cs a ccd cl outer A₀ base h₀ L m s Q => hkAll (P := Hktokendoes.HkP) Hktokendoes.HkEq Hktokendoes.HkAt (prog, w, p, loose, mean, mg, mb, news, o, d, tl, bl, bf, af, k1, t1, k2, t2, k3, k4, n, n1, vs, ts, k, t, dp, un, gd, cn, cs, a, ccd, cl, outer, A₀, base, h₀, L, m, s, Q) M M2 M3 W h0 h1 hk hk2
section
variable {prog : Program} {w : World} {p : Program} {loose : List Str} {mean : ExcName → Option Value} {mg mb : Str → Option Value}
end
namespace Hksepdoes
abbrev HkT : Type := (Program) × (World) × (Program) × (List Str) × (ExcName → Option Value) × (Str → Option Value) × (Str → Option Value) × (List (Addr × Obj)) × (Addr) × (Addr) × (Addr) × (Addr) × (Str) × (Str) × (Tok) × (Tok) × (Tok) × (Tok) × (Tok) × (Tok) × (Nat) × (Nat) × (Int) × (Tok) × (Nat) × (Nat) × (Option (List Code)) × (Str) × (Scope) × (Addr) × (Value) × (List (Str × Addr)) × (List Env) × (Around) × (Heap) × (Heap) × (Addr) × (Str → Option Value) × (Shared) × (Value → Shared → Prop)
def HkP0 (prog : Program) (w : World) (p : Program) (loose : List Str) (mean : ExcName → Option Value) (mg : Str → Option Value) (mb : Str → Option Value) (news : List (Addr × Obj)) (o : Addr) (d : Addr) (tl : Addr) (bl : Addr) (bf : Str) (af : Str) (k1 : Tok) (t1 : Tok) (k2 : Tok) (t2 : Tok) (k3 : Tok) (k4 : Tok) (n : Nat) (n1 : Nat) (k : Int) (t : Tok) (dp : Nat) (un : Nat) (gd : Option (List Code)) (cn : Str) (cs : Scope) (a : Addr) (ccd : Value) (cl : List (Str × Addr)) (outer : List Env) (A₀ : Around) (base : Heap) (h₀ : Heap) (L : Addr) (m : Str → Option Value) (s : Shared) (Q : Value → Shared → Prop) : Prop := ∀ (vs : List Value) (bs : List Str) (M : (o, instObj 92 d) ∈ news) (M2 : (d, fmtD w.params bf af tl bl k1 t1 k2 t2 k3 k4 n) ∈ news) (M3 : (bl, listOf vs.toArray n1) ∈ news) (W : StrsAre vs bs) (h1 : bs.length ≤ 1000) (hk : 1 ≤ k) (hk2 : k < 1000) (B : Below A₀ base outer h₀) (F : Fr h₀ L s.heap m) (X : (Mine.kk.heap_1 w.params).In h₀) (N : News h₀ L s.heap news) (T : Top p loose mean mg mb h₀) (hk : cs.kind = .function) (hd : dp + 1 < recursionLimit) (hu : un + 8 * 1 < cLine) (hret : (fun (K : Value → List (Addr × Obj) → Prop) => ∀ t, K (.str (sepL bs k) t) news) fun v news' => ∀ h' tk', Fr h₀ L h' m → News h₀ L h' news' → Q v { s with heap := h', toks := tk' }), wpAny (model prog w) (ktrTop dp un gd cn cs L a ccd cl outer) (call (.ref 89) [.ref o, .int k t]) Q (fun _ _ => False) s
def HkP (c9 : HkT) : Prop := HkP0 c9.1 c9.2.1 c9.2.2.1 c9.2.2.2.1 c9.2.2.2.2.1 c9.2.2.2.2.2.1 c9.2.2.2.2.2.2.1 c9.2.2.2.2.2.2.2.1 c9.2.2.2.2.2.2.2.2.1 c9.2.2.2.2.2.2.2.2.2.1 c9.2.2.2.2.2.2.2.2.2.2.1 c9.2.2.2.2.2.2.2.2.2.2.2.1 c9.2.2.2.2.2.2.2.2.2.2.2.2.1 c9.2.2.2.2.2.2.2.2.2.2.2.2.2.1 c9.2.2.2.2.2.2.2.2.2.2.2.2.2.2.1 c9.2.2.2.2.2.2.2.2.2.2.2.2.2.2.2.1 c9.2.2.2.2.2.2.2.2.2.2.2.2.2.2.2.2.1 c9.2.2.2.2.2.2.2.2.2.2.2.2.2.2.2.2.2.1 c9.2.2.2.2.2.2.2.2.2.2.2.2.2.2.2.2.2.2.1 c9.2.2.2.2.2.2.2.2.2.2.2.2.2.2.2.2.2.2.2.1 c9.2.2.2.2.2.2.2.2.2.2.2.2.2.2.2.2.2.2.2.2.1 c9.2.2.2.2.2.2.2.2.2.2.2.2.2.2.2.2.2.2.2.2.2.1 c9.2.2.2.2.2.2.2.2.2.2.2.2.2.2.2.2.2.2.2.2.2.2.1 c9.2.2.2.2.2.2.2.2.2.2.2.2.2.2.2.2.2.2.2.2.2.2.2.1 c9.2.2.2.2.2.2.2.2.2.2.2.2.2.2.2.2.2.2.2.2.2.2.2.2.1 c9.2.2.2.2.2.2.2.2.2.2.2.2.2.2.2.2.2.2.2.2.2.2.2.2.2.1 c9.2.2.2.2.2.2.2.2.2.2.2.2.2.2.2.2.2.2.2.2.2.2.2.2.2.2.1 c9.2.2.2.2.2.2.2.2.2.2.2.2.2.2.2.2.2.2.2.2.2.2.2.2.2.2.2.1 c9.2.2.2.2.2.2.2.2.2.2.2.2.2.2.2.2.2.2.2.2.2.2.2.2.2.2.2.2.1 c9.2.2.2.2.2.2.2.2.2.2.2.2.2.2.2.2.2.2.2.2.2.2.2.2.2.2.2.2.2.1 c9.2.2.2.2.2.2.2.2.2.2.2.2.2.2.2.2.2.2.2.2.2.2.2.2.2.2.2.2.2.2.1 c9.2.2.2.2.2.2.2.2.2.2.2.2.2.2.2.2.2.2.2.2.2.2.2.2.2.2.2.2.2.2.2.1 c9.2.2.2.2.2.2.2.2.2.2.2.2.2.2.2.2.2.2.2.2.2.2.2.2.2.2.2.2.2.2.2.2.1 c9.2.2.2.2.2.2.2.2.2.2.2.2.2.2.2.2.2.2.2.2.2.2.2.2.2.2.2.2.2.2.2.2.2.1 c9.2.2.2.2.2.2.2.2.2.2.2.2.2.2.2.2.2.2.2.2.2.2.2.2.2.2.2.2.2.2.2.2.2.2.1 c9.2.2.2.2.2.2.2.2.2.2.2.2.2.2.2.2.2.2.2.2.2.2.2.2.2.2.2.2.2.2.2.2.2.2.2.1 c9.2.2.2.2.2.2.2.2.2.2.2.2.2.2.2.2.2.2.2.2.2.2.2.2.2.2.2.2.2.2.2.2.2.2.2.2.1 c9.2.2.2.2.2.2.2.2.2.2.2.2.2.2.2.2.2.2.2.2.2.2.2.2.2.2.2.2.2.2.2.2.2.2.2.2.2.1 c9.2.2.2.2.2.2.2.2.2.2.2.2.2.2.2.2.2.2.2.2.2.2.2.2.2.2.2.2.2.2.2.2.2.2.2.2.2.2.1 c9.2.2.2.2.2.2.2.2.2.2.2.2.2.2.2.2.2.2.2.2.2.2.2.2.2.2.2.2.2.2.2.2.2.2.2.2.2.2.2
noncomputable def HkD : HkT := ((default), (w00), (default), ([]), (fun _ => none), (fun _ => none), (fun _ => none), ([]), ((0 : Nat)), ((0 : Nat)), ((0 : Nat)), ((0 : Nat)), (Str.empty), (Str.empty), ((0 : Nat)), ((0 : Nat)), ((0 : Nat)), ((0 : Nat)), ((0 : Nat)), ((0 : Nat)), ((0 : Nat)), ((0 : Nat)), ((0 : Int)), ((0 : Nat)), ((0 : Nat)), ((0 : Nat)), (none), (Str.empty), (default), ((0 : Nat)), (Value.none), ([]), ([]), (callerA), (default), (default), ((0 : Nat)), (fun _ => none), ({}), (fun _ _ => True))
@[irreducible] noncomputable def HkC : HkT := hkEps HkD HkP
noncomputable def prog : Program := HkC.1
noncomputable def w : World := HkC.2.1
noncomputable def p : Program := HkC.2.2.1
noncomputable def loose : List Str := HkC.2.2.2.1
noncomputable def mean : ExcName → Option Value := HkC.2.2.2.2.1
noncomputable def mg : Str → Option Value := HkC.2.2.2.2.2.1
noncomputable def mb : Str → Option Value := HkC.2.2.2.2.2.2.1
noncomputable def news : List (Addr × Obj) := HkC.2.2.2.2.2.2.2.1
noncomputable def o : Addr := HkC.2.2.2.2.2.2.2.2.1
noncomputable def d : Addr := HkC.2.2.2.2.2.2.2.2.2.1
noncomputable def tl : Addr := HkC.2.2.2.2.2.2.2.2.2.2.1
noncomputable def bl : Addr := HkC.2.2.2.2.2.2.2.2.2.2.2.1
noncomputable def bf : Str := HkC.2.2.2.2.2.2.2.2.2.2.2.2.1
noncomputable def af : Str := HkC.2.2.2.2.2.2.2.2.2.2.2.2.2.1
noncomputable def k1 : Tok := HkC.2.2.2.2.2.2.2.2.2.2.2.2.2.2.1
noncomputable def t1 : Tok := HkC.2.2.2.2.2.2.2.2.2.2.2.2.2.2.2.1
noncomputable def k2 : Tok := HkC.2.2.2.2.2.2.2.2.2.2.2.2.2.2.2.2.1
noncomputable def t2 : Tok := HkC.2.2.2.2.2.2.2.2.2.2.2.2.2.2.2.2.2.1
noncomputable def k3 : Tok := HkC.2.2.2.2.2.2.2.2.2.2.2.2.2.2.2.2.2.2.1
noncomputable def k4 : Tok := HkC.2.2.2.2.2.2.2.2.2.2.2.2.2.2.2.2.2.2.2.1
noncomputable def n : Nat := HkC.2.2.2.2.2.2.2.2.2.2.2.2.2.2.2.2.2.2.2.2.1
noncomputable def n1 : Nat := HkC.2.2.2.2.2.2.2.2.2.2.2.2.2.2.2.2.2.2.2.2.2.1
noncomputable def k : Int := HkC.2.2.2.2.2.2.2.2.2.2.2.2.2.2.2.2.2.2.2.2.2.2.1
noncomputable def t : Tok := HkC.2.2.2.2.2.2.2.2.2.2.2.2.2.2.2.2.2.2.2.2.2.2.2.1
noncomputable def dp : Nat := HkC.2.2.2.2.2.2.2.2.2.2.2.2.2.2.2.2.2.2.2.2.2.2.2.2.1
noncomputable def un : Nat := HkC.2.2.2.2.2.2.2.2.2.2.2.2.2.2.2.2.2.2.2.2.2.2.2.2.2.1
noncomputable def gd : Option (List Code) := HkC.2.2.2.2.2.2.2.2.2.2.2.2.2.2.2.2.2.2.2.2.2.2.2.2.2.2.1
noncomputable def cn : Str := HkC.2.2.2.2.2.2.2.2.2.2.2.2.2.2.2.2.2.2.2.2.2.2.2.2.2.2.2.1
noncomputable def cs : Scope := HkC.2.2.2.2.2.2.2.2.2.2.2.2.2.2.2.2.2.2.2.2.2.2.2.2.2.2.2.2.1
noncomputable def a : Addr := HkC.2.2.2.2.2.2.2.2.2.2.2.2.2.2.2.2.2.2.2.2.2.2.2.2.2.2.2.2.2.1
noncomputable def ccd : Value := HkC.2.2.2.2.2.2.2.2.2.2.2.2.2.2.2.2.2.2.2.2.2.2.2.2.2.2.2.2.2.2.1
noncomputable def cl : List (Str × Addr) := HkC.2.2.2.2.2.2.2.2.2.2.2.2.2.2.2.2.2.2.2.2.2.2.2.2.2.2.2.2.2.2.2.1
noncomputable def outer : List Env := HkC.2.2.2.2.2.2.2.2.2.2.2.2.2.2.2.2.2.2.2.2.2.2.2.2.2.2.2.2.2.2.2.2.1
noncomputable def A₀ : Around := HkC.2.2.2.2.2.2.2.2.2.2.2.2.2.2.2.2.2.2.2.2.2.2.2.2.2.2.2.2.2.2.2.2.2.1
noncomputable def base : Heap := HkC.2.2.2.2.2.2.2.2.2.2.2.2.2.2.2.2.2.2.2.2.2.2.2.2.2.2.2.2.2.2.2.2.2.2.1
noncomputable def h₀ : Heap := HkC.2.2.2.2.2.2.2.2.2.2.2.2.2.2.2.2.2.2.2.2.2.2.2.2.2.2.2.2.2.2.2.2.2.2.2.1
noncomputable def L : Addr := HkC.2.2.2.2.2.2.2.2.2.2.2.2.2.2.2.2.2.2.2.2.2.2.2.2.2.2.2.2.2.2.2.2.2.2.2.2.1
noncomputable def m : Str → Option Value := HkC.2.2.2.2.2.2.2.2.2.2.2.2.2.2.2.2.2.2.2.2.2.2.2.2.2.2.2.2.2.2.2.2.2.2.2.2.2.1
noncomputable def s : Shared := HkC.2.2.2.2.2.2.2.2.2.2.2.2.2.2.2.2.2.2.2.2.2.2.2.2.2.2.2.2.2.2.2.2.2.2.2.2.2.2.1
noncomputable def Q : Value → Shared → Prop := HkC.2.2.2.2.2.2.2.2.2.2.2.2.2.2.2.2.2.2.2.2.2.2.2.2.2.2.2.2.2.2.2.2.2.2.2.2.2.2.2
theorem HkAt : HkP0 prog w p loose mean mg mb news o d tl bl bf af k1 t1 k2 t2 k3 k4 n n1 k t dp un gd cn cs a ccd cl outer A₀ base h₀ L m s Q := by
  unfold HkP0
  intro vs bs M M2 M3 W h1 hk hk2 B F X N T hk hd hu hret
  have hz := fillK; revert hz; k_fill; intro _
  k_with_none
  w_top off
  k_with "*" => ((with_reducible show wpAny _ _ _ _ _ (Shared.mk _ _ _ (_ + _ + _) _)); refine st_norm (s0 := s) rfl rfl rfl fun _ => ?_)
  k_with "execs cons" => (k_here; first | ((rename News _ _ _ _ => N6); dsimp only at N6) | ((rename Fr _ _ _ _ => F6); dsimp only at F6))
  k_with "call builtin:len" => (k_here; k_dflt (refine' len_strs ?xN ?xm ?xw ?x1 ?_; (case xN => k_asm); (case xm => k_mem); (case xw => assumption); (case x1 => assumption)))
  k_with "compareOp Eq ref ref" => (k_here; k_dflt (first
  | (refine' eq_nilT ?xN ?xa ?x1 ?x2 ?xb ?x3 ?x4 ?xu ?_; (case xN => k_asm); (case xa => k_mem); (case x1 => exact rfl); (case x2 => exact rfl); (case xb => k_mem); (case x3 => exact rfl); (case x4 => exact rfl); (case xu => ktr_units))
  | (refine' eq_nilF ?xN ?xa ?x1 ?x2 ?xb ?x3 ?x4 ?xz ?xu ?_; (case xN => k_asm); (case xa => k_mem); (case x1 => exact rfl); (case x2 => exact rfl); (case xb => k_mem); (case x3 => exact rfl); (case x4 => exact rfl); (case xz => assumption); (case xu => ktr_units))))
  rcases bs with _ | ⟨b0, br⟩
  · have e : vs = [] := by cases W; rfl
    subst e
    have hS : MySub [(o, instObj 92 d), (d, fmtD w.params bf af tl bl k1 t1 k2 t2 k3 k4 n), (bl, listOf #[] n1)] := trivial
    have hmem : ∀ q ∈ [(o, instObj 92 d), (d, fmtD w.params bf af tl bl k1 t1 k2 t2 k3 k4 n), (bl, listOf #[] n1)], q ∈ news := by
      simp only [List.forall_mem_cons, List.not_mem_nil, false_implies, implies_true, and_true]
      exact ⟨M, M2, M3⟩
    refine wpAny_call ?_
    w_top off
    k_dflt (refine' code_subG ?kS ?k1 ?k2 ?k3 ?k4 ?k4s ?k5 ?kA ?kF ?kK ?k6 ?k7 ?k8 ?k9 ?kB ?_ ?c2 ?c3 ?c4 ?c5; (case kS => assumption); (case kA => exact rfl); (case kF => exact rfl); (case kK => assumption); (case k1 => k_asm); (case k2 => k_asm); (case k3 => k_asm); (case k4 => k_asm); (case k4s => first | exact List.forall_mem_nil _ | assumption); (case k5 => k_asm); (case k6 => k_is); (case k7 => k_is); (case k8 => ktr_room); (case k9 => exact BindsTo.of_eq rfl); (case c5 => decide); (case kB => exact locs rfl); (case c2 => exact rfl); (case c3 => exact rfl); (case c4 => exact rfl); k_whole; intro g' L' h' tk' FG' F' N' B' X' T' G'; (try dsimp only); (try k_lift B'); (try k_fold))
    k_steps
    exact hret _ _ _ (by assumption) (Kept.same (sub := [(o, instObj 92 d), (d, fmtD w.params bf af tl bl k1 t1 k2 t2 k3 k4 n), (bl, listOf #[] n1)]) (by assumption) N hmem (News.tail1 (by assumption)))
  · have hS : MySub [(o, instObj 92 d), (d, fmtD w.params bf af tl bl k1 t1 k2 t2 k3 k4 n), (bl, listOf vs.toArray n1)] := trivial
    have hmem : ∀ q ∈ [(o, instObj 92 d), (d, fmtD w.params bf af tl bl k1 t1 k2 t2 k3 k4 n), (bl, listOf vs.toArray n1)], q ∈ news := by
      simp only [List.forall_mem_cons, List.not_mem_nil, false_implies, implies_true, and_true]
      exact ⟨M, M2, M3⟩
    have hz : 0 < vs.toArray.size := by rw [List.size_toArray, W.length, List.length_cons]; omega
    have hl0 : 0 < (b0 :: br).length := by rw [List.length_cons]; omega
    refine wpAny_call ?_
    w_top off
    k_dflt (refine' code_subG ?kS ?k1 ?k2 ?k3 ?k4 ?k4s ?k5 ?kA ?kF ?kK ?k6 ?k7 ?k8 ?k9 ?kB ?_ ?c2 ?c3 ?c4 ?c5; (case kS => assumption); (case kA => exact rfl); (case kF => exact rfl); (case kK => assumption); (case k1 => k_asm); (case k2 => k_asm); (case k3 => k_asm); (case k4 => k_asm); (case k4s => first | exact List.forall_mem_nil _ | assumption); (case k5 => k_asm); (case k6 => k_is); (case k7 => k_is); (case k8 => ktr_room); (case k9 => exact BindsTo.of_eq rfl); (case c5 => decide); (case kB => exact locs rfl); (case c2 => exact rfl); (case c3 => exact rfl); (case c4 => exact rfl); k_whole; intro g' L' h' tk' FG' F' N' B' X' T' G'; (try dsimp only); (try k_lift B'); (try k_fold))
    k_steps
    exact hret _ _ _ (by assumption) (Kept.same (sub := [(o, instObj 92 d), (d, fmtD w.params bf af tl bl k1 t1 k2 t2 k3 k4 n), (bl, listOf vs.toArray n1)]) (by assumption) N hmem (News.tail1 (by assumption)))
theorem HkEq : HkC = hkEps HkD HkP := by unfold HkC; rfl
end Hksepdoes
theorem sep_does {prog : Program} {w : World} {p : Program} {loose : List Str} {mean : ExcName → Option Value} {mg mb : Str → Option Value} (news : List (Addr × Obj)) (o d tl bl : Addr) (bf af : Str) (k1 t1 k2 t2 k3 k4 : Tok) (n n1 : Nat) (vs : List Value) (bs : List Str) (k : Int) (t : Tok) (M : (o, instObj 92 d) ∈ news) (M2 : (d, fmtD w.params bf af tl bl k1 t1 k2 t2 k3 k4 n) ∈ news) (M3 : (bl, listOf vs.toArray n1) ∈ news) (W : StrsAre vs bs) (h1 : bs.length ≤ 1000) (hk : 1 ≤ k) (hk2 : k < 1000) :
    Does prog w (Mine.kk.heap_1 w.params) p loose mean mg mb (.ref 89) [.ref o, .int k t] news 1 fun K => ∀ t, K (.str (sepL bs k) t) news :=
  fun dp un gd cn cs a ccd cl outer A₀ base h₀ L m s Q => hkAll (P := Hksepdoes.HkP) Hksepdoes.HkEq Hksepdoes.HkAt (prog, w, p, loose, mean, mg, mb, news, o, d, tl, bl, bf, af, k1, t1, k2, t2, k3, k4, n, n1, k, t, dp, un, gd, cn, cs, a, ccd, cl, outer, A₀, base, h₀, L, m, s, Q) vs bs M M2 M3 W h1 hk hk2
section
variable {prog : Program} {w : World} {p : Program} {loose : List Str} {mean : ExcName → Option Value} {mg mb : Str → Option Value}
end
end Mine
end
section
set_option linter.unusedVariables false
open PySem PySem.W PyProof.Rows PySem.Calls PySem.Spec
set_option maxRecDepth 100000
set_option maxHeartbeats 2000000
namespace Mine

theorem ints_get {vs : List Value} {ns : List Int} (h : IntsAre vs ns) : ∀ i, i < ns.length → ∃ t, vs[i]? = some (.int (ns.getD i 0) t) := by
  induction h with
  | nil => intro i hi; exact absurd hi (Nat.not_lt_zero _)
  | cons n t _ ih =>
    intro i hi
    cases i with
    | zero => exact ⟨t, rfl⟩
    | succ i =>
      obtain ⟨t', e⟩ := ih i (by simpa using hi)
      exact ⟨t', by simpa using e⟩
theorem texts_len (f : Bool → Bool) (l : List (Bool × Str)) : (texts f l).length ≤ l.length := by
  unfold texts; rw [List.length_map]; exact List.length_filter_le _ _
theorem near_at {ns : List Int} {k : Int} (h : ∀ n ∈ ns, n ∈ NEAR) (h0 : 0 ≤ k) (h1 : k < (ns.length : Int)) : ns.getD k.toNat 0 ∈ NEAR := by
  have hlt : k.toNat < ns.length := by omega
  rw [List.getD_eq_getElem?_getD, List.getElem?_eq_getElem hlt]
  exact h _ (List.getElem_mem hlt)
theorem atL_mem {ts : List Str} (h0 : 0 < ts.length) (k : Int) : atL ts k ∈ ts := by
  unfold atL
  have hlt : (if (ts.length : Int) - 1 < k then (ts.length : Int) - 1 else k).toNat < ts.length := by split <;> omega
  rw [List.getD_eq_getElem?_getD, List.getElem?_eq_getElem hlt]
  exact List.getElem_mem hlt
theorem tok_at {ts : List Str} (h : ∀ u ∈ ts, u ∈ TOKS) (h0 : 0 < ts.length) (k : Int) : atL ts k ∈ TOKS := h _ (atL_mem h0 k)
theorem sepL_len {bs : List Str} (h : ∀ u ∈ bs, u.length ≤ 10) (k : Int) : (sepL bs k).length ≤ 10 := by
  cases bs with
  | nil => show (Str.ofString ".").length ≤ 10; decide
  | cons b r => exact h _ (atL_mem (ts := b :: r) (by rw [List.length_cons]; omega) (k - 1))
/-- one place of the told numbers -/
def fmtStep (ns : List Int) (ts bs : List Str) (se : Str) (sz : Int) (f : Str) (k : Int) : Str := (if 0 < k then f ++ sepL bs k else f) ++ oneV (ns.getD k.toNat 0) (atL ts k) se sz
theorem foldl_snoc {f : Str → Int → Str} {l : List Int} {k : Int} {b : Str} : (l ++ [k]).foldl f b = f (l.foldl f b) k := by rw [List.foldl_append]; rfl
theorem fs_pos {ns : List Int} {ts bs : List Str} {se bf : Str} {sz k : Int} {pre : List Int} (hns : ∀ n ∈ ns, n ∈ NEAR) (hts : ∀ u ∈ ts, u ∈ TOKS) (h0 : 0 < ts.length) (hbs : ∀ u ∈ bs, u.length ≤ 10) (hq : (se, sz) ∈ SEPS) (k0 : 0 ≤ k) (k1 : k < (ns.length : Int)) (hl : (pre.foldl (fmtStep ns ts bs se sz) bf).length ≤ 10 + 30 * pre.length) (hk : 0 < k) :
    pre.foldl (fmtStep ns ts bs se sz) bf ++ sepL bs k ++ oneV (ns.getD k.toNat 0) (atL ts k) se sz = (pre ++ [k]).foldl (fmtStep ns ts bs se sz) bf ∧ (pre.foldl (fmtStep ns ts bs se sz) bf ++ sepL bs k ++ oneV (ns.getD k.toNat 0) (atL ts k) se sz).length ≤ 10 + 30 * (pre ++ [k]).length := by
  refine ⟨?_, ?_⟩
  · rw [foldl_snoc]; show _ = (if 0 < k then _ else _) ++ _; rw [if_pos hk]
  · rw [Str.length_append, Str.length_append, List.length_append, List.length_singleton]
    have := sepL_len hbs k
    have := oneV_len (near_at hns k0 k1) (tok_at hts h0 k) hq
    omega
theorem fs_neg {ns : List Int} {ts bs : List Str} {se bf : Str} {sz k : Int} {pre : List Int} (hns : ∀ n ∈ ns, n ∈ NEAR) (hts : ∀ u ∈ ts, u ∈ TOKS) (h0 : 0 < ts.length) (hq : (se, sz) ∈ SEPS) (k0 : 0 ≤ k) (k1 : k < (ns.length : Int)) (hl : (pre.foldl (fmtStep ns ts bs se sz) bf).length ≤ 10 + 30 * pre.length) (hk : ¬ 0 < k) :
    pre.foldl (fmtStep ns ts bs se sz) bf ++ oneV (ns.getD k.toNat 0) (atL ts k) se sz = (pre ++ [k]).foldl (fmtStep ns ts bs se sz) bf ∧ (pre.foldl (fmtStep ns ts bs se sz) bf ++ oneV (ns.getD k.toNat 0) (atL ts k) se sz).length ≤ 10 + 30 * (pre ++ [k]).length := by
  refine ⟨?_, ?_⟩
  · rw [foldl_snoc]; show _ = (if 0 < k then _ else _) ++ _; rw [if_neg hk]
  · rw [Str.length_append, List.length_append, List.length_singleton]
    have := oneV_len (near_at hns k0 k1) (tok_at hts h0 k) hq
    omega
theorem fs_posE {ns : List Int} {ts bs : List Str} {se bf f : Str} {sz k : Int} {pre : List Int} (e : f = pre.foldl (fmtStep ns ts bs se sz) bf) (hl : f.length ≤ 10 + 30 * pre.length) (hns : ∀ n ∈ ns, n ∈ NEAR) (hts : ∀ u ∈ ts, u ∈ TOKS) (h0 : 0 < ts.length) (hbs : ∀ u ∈ bs, u.length ≤ 10) (hq : (se, sz) ∈ SEPS) (k0 : 0 ≤ k) (k1 : k < (ns.length : Int)) (hk : 0 < k) :
    f ++ sepL bs k ++ oneV (ns.getD k.toNat 0) (atL ts k) se sz = (pre ++ [k]).foldl (fmtStep ns ts bs se sz) bf ∧ (f ++ sepL bs k ++ oneV (ns.getD k.toNat 0) (atL ts k) se sz).length ≤ 10 + 30 * (pre ++ [k]).length := by
  subst e; exact fs_pos hns hts h0 hbs hq k0 k1 hl hk
theorem fs_negE {ns : List Int} {ts bs : List Str} {se bf f : Str} {sz k : Int} {pre : List Int} (e : f = pre.foldl (fmtStep ns ts bs se sz) bf) (hl : f.length ≤ 10 + 30 * pre.length) (hns : ∀ n ∈ ns, n ∈ NEAR) (hts : ∀ u ∈ ts, u ∈ TOKS) (h0 : 0 < ts.length) (hq : (se, sz) ∈ SEPS) (k0 : 0 ≤ k) (k1 : k < (ns.length : Int)) (hk : ¬ 0 < k) :
    f ++ oneV (ns.getD k.toNat 0) (atL ts k) se sz = (pre ++ [k]).foldl (fmtStep ns ts bs se sz) bf ∧ (f ++ oneV (ns.getD k.toNat 0) (atL ts k) se sz).length ≤ 10 + 30 * (pre ++ [k]).length := by
  subst e; exact fs_neg hns hts h0 hq k0 k1 hl hk
/-- what formatted tells -/
def fmtAll (ns : List Int) (ts bs : List Str) (se : Str) (sz : Int) (bf af : Str) : Str := (rangeKs 0 ns.length).foldl (fmtStep ns ts bs se sz) bf ++ af
theorem fmt_end {ns : List Int} {ts bs : List Str} {se bf af f : Str} {sz : Int} (e : f = (rangeKs 0 ((ns.length : Int) - 0).toNat).foldl (fmtStep ns ts bs se sz) bf) : f ++ af = fmtAll ns ts bs se sz bf af := by
  have e2 : ((ns.length : Int) - 0).toNat = ns.length := by omega
  rw [e, e2]; rfl
section
variable {prog : Program} {w : World} {A : Around} {E : Value → Shared → Prop} {s : Shared} {h₀ : Heap} {L l : Addr} {news : List (Addr × Obj)} {vs : List Value} {ns : List Int} {n : Nat}
theorem len_ints {Q : Value → Shared → Prop}
    (N : News h₀ L s.heap news) (hm : (l, listOf vs.toArray n) ∈ news) (hw : IntsAre vs ns) (h1 : ns.length ≤ 1000) (h : Q (.int (ns.length : Int) (s.toks + 1)) { s with toks := s.toks + 1 + 1 }) :
    wpAny (model prog w) A (call (.builtin "len") [.ref l]) Q E s := by
  have e : vs.length = ns.length := hw.length
  exact len_any N hm (by omega) (by rw [e]; exact h)
theorem int_item {value slice : PySem.Expr} {i : Int} {u : Tok} {Q : Value → Shared → Prop}
    (N : News h₀ L s.heap news) (hm : (l, listOf vs.toArray n) ∈ news) (hw : IntsAre vs ns) (h0 : 0 ≤ i) (h1 : i < (ns.length : Int)) (hf : ns.length ≤ 1000) (h : ∀ t', Q (.int (ns.getD i.toNat 0) t') s)
    (hs : subscripted slice false (.ref l) (.int i u) = operate [.ref l, .int i u] (getItem (.ref l) (.int i u)) := by with_unfolding_all rfl) :
    wpAny (model prog w) A (subscriptTail value slice (.ref l) (.int i u)) Q E s := by
  have hl : s.heap.IsList l vs.toArray := ⟨_, (N _ hm).1, rfl, n, rfl⟩
  have hlt : i.toNat < vs.length := by have := hw.length; omega
  obtain ⟨t, hk2⟩ := ints_get hw i.toNat (by omega)
  exact tail_any hl.typeIs slot_list_getitem.lookup (wpAny_getItem_list hl h0 (by omega) (x := .int (ns.getD i.toNat 0) t) (by simpa using hk2) (h t)) hs
end
theorem DoesK.use {prog : Program} {w : World} {K : Frag} {p : Program} {loose : List Str} {mean : ExcName → Option Value} {mg mb : Str → Option Value} {f : Value} {vs : List Value} {news : List (Addr × Obj)} {c : Nat} {Ret : (Value → List (Addr × Obj) → Prop) → Prop}
    {A : Around} {cn : Str} {cs : Scope} {a : Addr} {ccd : Value} {cl : List (Str × Addr)} {outer : List Env} {A₀ : Around} {base h₀ : Heap} {L : Addr} {m : Str → Option Value} {s : Shared} {R : Result → Shared → Prop}
    (D : DoesK prog w K p loose mean mg mb f vs news c Ret) (B : Below A₀ base outer h₀) (F : Fr h₀ L s.heap m) (X : K.In h₀) (N : News h₀ L s.heap news) (T : Top p loose mean mg mb h₀) (hh : A.handled = none) (hA : A.frames = some (envX cn cs L a ccd cl :: outer)) (hk : cs.kind = .function) (hd : A.depth + c < recursionLimit) (hu : A.units + 8 * c < cLine)
    (ret : Ret fun v news' => ∀ h' tk', Fr h₀ L h' m → News h₀ L h' news' → R (.ok (.ret v)) { s with heap := h', toks := tk' }) :
    codeAny (model prog w) A (.call f ⟨vs, []⟩) R s := by
  obtain ⟨h1, h2, h3, h4, h5⟩ := A
  dsimp only at hh hA hd hu
  subst hh hA
  exact D _ _ _ _ _ _ _ _ _ _ _ _ _ _ _ _ B F X N T hk hd hu ret
theorem add_strB {prog : Program} {w : World} {A : Around} {E : Value → Shared → Prop} {s : Shared} {x y : Str} {t u : Tok} (b : Nat) {Q : Value → Shared → Prop} (ha : x.length ≤ 1000) (hb : y.length ≤ b) (hc : b ≤ 1000) (h : ∀ t' tk, (x ++ y).length ≤ x.length + b → Q (.str (x ++ y) t') { s with toks := tk }) :
    wpAny (model prog w) A (binaryOp .Add (.str x t) (.str y u)) Q E s := by
  have e : (x ++ y).length = x.length + y.length := Str.length_append _ _
  exact add_str (fun t' tk => h t' tk (by omega)) (by show _ ≤ 2 ^ 24; omega)
section
variable {prog : Program} {w : World} {p : Program} {loose : List Str} {mean : ExcName → Option Value} {mg mb : Str → Option Value}
end
namespace Hkformatteddoes
abbrev HkT : Type := (Program) × (World) × (Program) × (List Str) × (ExcName → Option Value) × (Str → Option Value) × (Str → Option Value) × (List (Addr × Obj)) × (Addr) × (Nat) × (List Value) × (List Int) × (Str) × (Str) × (Int) × (Tok) × (Tok) × (Tok) × (List (Bool × Str)) × (Str) × (Str) × (Nat) × (Nat) × (Option (List Code)) × (Str) × (Scope) × (Addr) × (Value) × (List (Str × Addr)) × (List Env) × (Around) × (Heap) × (Heap) × (Addr) × (Str → Option Value) × (Shared) × (Value → Shared → Prop)
def HkP0 (prog : Program) (w : World) (p : Program) (loose : List Str) (mean : ExcName → Option Value) (mg : Str → Option Value) (mb : Str → Option Value) (news : List (Addr × Obj)) (nl : Addr) (nn : Nat) (us : List Value) (ns : List Int) (xt : Str) (se : Str) (sz : Int) (t : Tok) (t1 : Tok) (t2 : Tok) (mid : List (Bool × Str)) (bf : Str) (af : Str) (dp : Nat) (un : Nat) (gd : Option (List Code)) (cn : Str) (cs : Scope) (a : Addr) (ccd : Value) (cl : List (Str × Addr)) (outer : List Env) (A₀ : Around) (base : Heap) (h₀ : Heap) (L : Addr) (m : Str → Option Value) (s : Shared) (Q : Value → Shared → Prop) : Prop := ∀ (hx : xt.length ≤ 200) (M : (nl, listOf us.toArray nn) ∈ news) (W : IntsAre us ns) (hn1 : ns.length ≤ 4) (hns : ∀ n ∈ ns, n ∈ NEAR) (hq : (se, sz) ∈ SEPS) (S : Shape (cutR xt.cps.toList).reverse bf mid af) (hts : ∀ u ∈ tokF mid, u ∈ TOKS) (hml : mid.length ≤ 10) (ht0 : 0 < (tokF mid).length) (ht1 : (tokF mid).length ≤ 1000) (hbf : bf.length ≤ 10) (haf : af.length ≤ 10) (hbs : ∀ u ∈ texts (fun b => !b) mid, u.length ≤ 10) (B : Below A₀ base outer h₀) (F : Fr h₀ L s.heap m) (X : (Mine.kk.heap_1 w.params).In h₀) (N : News h₀ L s.heap news) (T : Top p loose mean mg mb h₀) (hk : cs.kind = .function) (hd : dp + 5 < recursionLimit) (hu : un + 8 * 5 < cLine) (hret : (fun (K : Value → List (Addr × Obj) → Prop) => ∀ t, K (.str (fmtAll ns (tokF mid) (texts (fun b => !b) mid) se sz bf af) t) news) fun v news' => ∀ h' tk', Fr h₀ L h' m → News h₀ L h' news' → Q v { s with heap := h', toks := tk' }), wpAny (model prog w) (ktrTop dp un gd cn cs L a ccd cl outer) (call (.ref 104) [.ref nl, .str xt t, .str se t1, .int sz t2]) Q (fun _ _ => False) s
def HkP (c9 : HkT) : Prop := HkP0 c9.1 c9.2.1 c9.2.2.1 c9.2.2.2.1 c9.2.2.2.2.1 c9.2.2.2.2.2.1 c9.2.2.2.2.2.2.1 c9.2.2.2.2.2.2.2.1 c9.2.2.2.2.2.2.2.2.1 c9.2.2.2.2.2.2.2.2.2.1 c9.2.2.2.2.2.2.2.2.2.2.1 c9.2.2.2.2.2.2.2.2.2.2.2.1 c9.2.2.2.2.2.2.2.2.2.2.2.2.1 c9.2.2.2.2.2.2.2.2.2.2.2.2.2.1 c9.2.2.2.2.2.2.2.2.2.2.2.2.2.2.1 c9.2.2.2.2.2.2.2.2.2.2.2.2.2.2.2.1 c9.2.2.2.2.2.2.2.2.2.2.2.2.2.2.2.2.1 c9.2.2.2.2.2.2.2.2.2.2.2.2.2.2.2.2.2.1 c9.2.2.2.2.2.2.2.2.2.2.2.2.2.2.2.2.2.2.1 c9.2.2.2.2.2.2.2.2.2.2.2.2.2.2.2.2.2.2.2.1 c9.2.2.2.2.2.2.2.2.2.2.2.2.2.2.2.2.2.2.2.2.1 c9.2.2.2.2.2.2.2.2.2.2.2.2.2.2.2.2.2.2.2.2.2.1 c9.2.2.2.2.2.2.2.2.2.2.2.2.2.2.2.2.2.2.2.2.2.2.1 c9.2.2.2.2.2.2.2.2.2.2.2.2.2.2.2.2.2.2.2.2.2.2.2.1 c9.2.2.2.2.2.2.2.2.2.2.2.2.2.2.2.2.2.2.2.2.2.2.2.2.1 c9.2.2.2.2.2.2.2.2.2.2.2.2.2.2.2.2.2.2.2.2.2.2.2.2.2.1 c9.2.2.2.2.2.2.2.2.2.2.2.2.2.2.2.2.2.2.2.2.2.2.2.2.2.2.1 c9.2.2.2.2.2.2.2.2.2.2.2.2.2.2.2.2.2.2.2.2.2.2.2.2.2.2.2.1 c9.2.2.2.2.2.2.2.2.2.2.2.2.2.2.2.2.2.2.2.2.2.2.2.2.2.2.2.2.1 c9.2.2.2.2.2.2.2.2.2.2.2.2.2.2.2.2.2.2.2.2.2.2.2.2.2.2.2.2.2.1 c9.2.2.2.2.2.2.2.2.2.2.2.2.2.2.2.2.2.2.2.2.2.2.2.2.2.2.2.2.2.2.1 c9.2.2.2.2.2.2.2.2.2.2.2.2.2.2.2.2.2.2.2.2.2.2.2.2.2.2.2.2.2.2.2.1 c9.2.2.2.2.2.2.2.2.2.2.2.2.2.2.2.2.2.2.2.2.2.2.2.2.2.2.2.2.2.2.2.2.1 c9.2.2.2.2.2.2.2.2.2.2.2.2.2.2.2.2.2.2.2.2.2.2.2.2.2.2.2.2.2.2.2.2.2.1 c9.2.2.2.2.2.2.2.2.2.2.2.2.2.2.2.2.2.2.2.2.2.2.2.2.2.2.2.2.2.2.2.2.2.2.1 c9.2.2.2.2.2.2.2.2.2.2.2.2.2.2.2.2.2.2.2.2.2.2.2.2.2.2.2.2.2.2.2.2.2.2.2.1 c9.2.2.2.2.2.2.2.2.2.2.2.2.2.2.2.2.2.2.2.2.2.2.2.2.2.2.2.2.2.2.2.2.2.2.2.2
noncomputable def HkD : HkT := ((default), (w00), (default), ([]), (fun _ => none), (fun _ => none), (fun _ => none), ([]), ((0 : Nat)), ((0 : Nat)), ([]), ([]), (Str.empty), (Str.empty), ((0 : Int)), ((0 : Nat)), ((0 : Nat)), ((0 : Nat)), ([]), (Str.empty), (Str.empty), ((0 : Nat)), ((0 : Nat)), (none), (Str.empty), (default), ((0 : Nat)), (Value.none), ([]), ([]), (callerA), (default), (default), ((0 : Nat)), (fun _ => none), ({}), (fun _ _ => True))
@[irreducible] noncomputable def HkC : HkT := hkEps HkD HkP
noncomputable def prog : Program := HkC.1
noncomputable def w : World := HkC.2.1
noncomputable def p : Program := HkC.2.2.1
noncomputable def loose : List Str := HkC.2.2.2.1
noncomputable def mean : ExcName → Option Value := HkC.2.2.2.2.1
noncomputable def mg : Str → Option Value := HkC.2.2.2.2.2.1
noncomputable def mb : Str → Option Value := HkC.2.2.2.2.2.2.1
noncomputable def news : List (Addr × Obj) := HkC.2.2.2.2.2.2.2.1
noncomputable def nl : Addr := HkC.2.2.2.2.2.2.2.2.1
noncomputable def nn : Nat := HkC.2.2.2.2.2.2.2.2.2.1
noncomputable def us : List Value := HkC.2.2.2.2.2.2.2.2.2.2.1
noncomputable def ns : List Int := HkC.2.2.2.2.2.2.2.2.2.2.2.1
noncomputable def xt : Str := HkC.2.2.2.2.2.2.2.2.2.2.2.2.1
noncomputable def se : Str := HkC.2.2.2.2.2.2.2.2.2.2.2.2.2.1
noncomputable def sz : Int := HkC.2.2.2.2.2.2.2.2.2.2.2.2.2.2.1
noncomputable def t : Tok := HkC.2.2.2.2.2.2.2.2.2.2.2.2.2.2.2.1
noncomputable def t1 : Tok := HkC.2.2.2.2.2.2.2.2.2.2.2.2.2.2.2.2.1
noncomputable def t2 : Tok := HkC.2.2.2.2.2.2.2.2.2.2.2.2.2.2.2.2.2.1
noncomputable def mid : List (Bool × Str) := HkC.2.2.2.2.2.2.2.2.2.2.2.2.2.2.2.2.2.2.1
noncomputable def bf : Str := HkC.2.2.2.2.2.2.2.2.2.2.2.2.2.2.2.2.2.2.2.1
noncomputable def af : Str := HkC.2.2.2.2.2.2.2.2.2.2.2.2.2.2.2.2.2.2.2.2.1
noncomputable def dp : Nat := HkC.2.2.2.2.2.2.2.2.2.2.2.2.2.2.2.2.2.2.2.2.2.1
noncomputable def un : Nat := HkC.2.2.2.2.2.2.2.2.2.2.2.2.2.2.2.2.2.2.2.2.2.2.1
noncomputable def gd : Option (List Code) := HkC.2.2.2.2.2.2.2.2.2.2.2.2.2.2.2.2.2.2.2.2.2.2.2.1
noncomputable def cn : Str := HkC.2.2.2.2.2.2.2.2.2.2.2.2.2.2.2.2.2.2.2.2.2.2.2.2.1
noncomputable def cs : Scope := HkC.2.2.2.2.2.2.2.2.2.2.2.2.2.2.2.2.2.2.2.2.2.2.2.2.2.1
noncomputable def a : Addr := HkC.2.2.2.2.2.2.2.2.2.2.2.2.2.2.2.2.2.2.2.2.2.2.2.2.2.2.1
noncomputable def ccd : Value := HkC.2.2.2.2.2.2.2.2.2.2.2.2.2.2.2.2.2.2.2.2.2.2.2.2.2.2.2.1
noncomputable def cl : List (Str × Addr) := HkC.2.2.2.2.2.2.2.2.2.2.2.2.2.2.2.2.2.2.2.2.2.2.2.2.2.2.2.2.1
noncomputable def outer : List Env := HkC.2.2.2.2.2.2.2.2.2.2.2.2.2.2.2.2.2.2.2.2.2.2.2.2.2.2.2.2.2.1
noncomputable def A₀ : Around := HkC.2.2.2.2.2.2.2.2.2.2.2.2.2.2.2.2.2.2.2.2.2.2.2.2.2.2.2.2.2.2.1
noncomputable def base : Heap := HkC.2.2.2.2.2.2.2.2.2.2.2.2.2.2.2.2.2.2.2.2.2.2.2.2.2.2.2.2.2.2.2.1
noncomputable def h₀ : Heap := HkC.2.2.2.2.2.2.2.2.2.2.2.2.2.2.2.2.2.2.2.2.2.2.2.2.2.2.2.2.2.2.2.2.1
noncomputable def L : Addr := HkC.2.2.2.2.2.2.2.2.2.2.2.2.2.2.2.2.2.2.2.2.2.2.2.2.2.2.2.2.2.2.2.2.2.1
noncomputable def m : Str → Option Value := HkC.2.2.2.2.2.2.2.2.2.2.2.2.2.2.2.2.2.2.2.2.2.2.2.2.2.2.2.2.2.2.2.2.2.2.1
noncomputable def s : Shared := HkC.2.2.2.2.2.2.2.2.2.2.2.2.2.2.2.2.2.2.2.2.2.2.2.2.2.2.2.2.2.2.2.2.2.2.2.1
noncomputable def Q : Value → Shared → Prop := HkC.2.2.2.2.2.2.2.2.2.2.2.2.2.2.2.2.2.2.2.2.2.2.2.2.2.2.2.2.2.2.2.2.2.2.2.2
theorem HkAt : HkP0 prog w p loose mean mg mb news nl nn us ns xt se sz t t1 t2 mid bf af dp un gd cn cs a ccd cl outer A₀ base h₀ L m s Q := by
  unfold HkP0
  intro hx M W hn1 hns hq S hts hml ht0 ht1 hbf haf hbs B F X N T hk hd hu hret
  have hz := fillK; revert hz; k_fill; intro _
  k_with_none
  w_top off
  k_with "*" => ((with_reducible show wpAny _ _ _ _ _ (Shared.mk _ _ _ (_ + _ + _) _)); refine st_norm (s0 := s) rfl rfl rfl fun _ => ?_)
  k_with "execs cons" => (k_here; first | ((rename News _ _ _ _ => N6); dsimp only at N6) | ((rename Fr _ _ _ _ => F6); dsimp only at F6))
  k_with "call ref" => (k_here; k_dflt (refine' call_cls ?k1 ?k2 ?k3 ?k4 ?k5 ?k6 ?_; (case k1 => k_asm); (case k2 => k_asm); (case k3 => k_asm); (case k4 => k_is); (case k5 => k_is); (case k6 => k_is); k_whole); intro x' d' h' F' N' l1 l2; (try k_lt l1); (try k_lt2 l2); k_dflt (refine' DoesK.use (init_does _ _ _ _ _ _ ?h0 ?h1 ?hM ?hU ?hS) ?k1 ?k2 ?k3 ?k4 ?k5 ?kh ?kA ?kK ?kd ?ku ?_; (case k1 => k_asm); (case k2 => k_asm); (case k3 => k_asm); (case k4 => k_asm); (case k5 => k_asm); (case kh => exact rfl); (case kA => exact rfl); (case kK => first | exact rfl | assumption); (case kd => ktr_room); (case ku => ((have hcL9 := cLine_is); (simp only [units_under_make, units_deeper, units_in1]); (try dsimp only [ktrTop]); omega)); (case h0 => assumption); (case h1 => omega); (case hM => k_mem); (case hU => k_updF); (case hS => assumption); (try dsimp only)); intro tl9 bl9 vs9 ws9 n19 n29 k19 t19 k29 t29 k39 k49 n9 S19 S29 h9 tk9 F9 N9; k_dflt (refine ⟨rfl, ?_⟩); (try k_fold))
  k_with "binaryOp Add str str" => (k_here; (with_reducible show wpAny _ _ (binaryOp Operator.Add (Value.str _ _) (Value.str (sepL _ _) _)) _ _ _); k_dflt (refine' add_strB 10 ?xa ?xb ?xc ?_; (case xa => omega); (case xb => exact sepL_len (by assumption) _); (case xc => decide)); intro _ _ _)
  k_with "binaryOp Add str str" => (k_here; (with_reducible show wpAny _ _ (binaryOp Operator.Add (Value.str _ _) (Value.str (oneV _ _ _ _) _)) _ _ _); k_dflt (refine' add_strB 16 ?xa ?xb ?xc ?_; (case xa => omega); (case xb => exact oneV_len (near_at (by assumption) (by omega) (by omega)) (tok_at (by assumption) (by assumption) _) (by assumption)); (case xc => decide)); intro _ _ _)
  k_with "call builtin:len" => (k_here; k_dflt (refine' len_ints ?xN ?xm ?xw ?x1 ?_; (case xN => k_asm); (case xm => k_mem); (case xw => assumption); (case x1 => assumption)))
  k_with "subscriptTail Name Name ref int" => (k_here; k_dflt (refine' int_item ?xN ?xm ?xw ?x0 ?x1 ?xf ?_ ?xs; (case xN => k_asm); (case xm => k_mem); (case xw => assumption); (case x0 => omega); (case x1 => omega); (case xf => assumption); (case xs => with_unfolding_all rfl)); intro t9)
  k_with "call ref" => (k_here; k_dflt (refine' Does.use (token_does _ _ _ _ _ _ _ _ _ _ _ _ _ _ _ _ _ _ _ ?M ?M2 ?M3 ?W ?h0 ?h1 ?h2 ?h3) ?k1 ?k2 ?k3 ?k4 ?k5 ?kK ?kd ?ku ?_; (case k1 => k_asm); (case k2 => k_asm); (case k3 => k_asm); (case k4 => k_asm); (case k5 => k_asm); (case kK => first | exact rfl | assumption); (case kd => ktr_room); (case ku => ktr_units); (case M => k_mem); (case M2 => k_mem); (case M3 => k_mem); (case W => assumption); (case h0 => assumption); (case h1 => assumption); (case h2 => omega); (case h3 => omega); (try dsimp only)); intro t9 h9 tk9 F9 N9; (try k_fold))
  k_with "call ref" => (k_here; k_dflt (refine' Does.use (sep_does _ _ _ _ _ _ _ _ _ _ _ _ _ _ _ _ _ _ _ ?M ?M2 ?M3 ?W ?h1 ?h2 ?h3) ?k1 ?k2 ?k3 ?k4 ?k5 ?kK ?kd ?ku ?_; (case k1 => k_asm); (case k2 => k_asm); (case k3 => k_asm); (case k4 => k_asm); (case k5 => k_asm); (case kK => first | exact rfl | assumption); (case kd => ktr_room); (case ku => ktr_units); (case M => k_mem); (case M2 => k_mem); (case M3 => k_mem); (case W => assumption); (case h1 => assumption); (case h2 => omega); (case h3 => omega); (try dsimp only)); intro t9 h9 tk9 F9 N9; (try k_fold))
  k_with "call ref" => (k_here; k_dflt (refine' Does.use (oneV_does _ _ _ _ _ _ _ _ _ ?h0 ?h1 ?h2) ?k1 ?k2 ?k3 ?k4 ?k5 ?kK ?kd ?ku ?_; (case k1 => k_asm); (case k2 => k_asm); (case k3 => k_asm); (case k4 => k_asm); (case k5 => k_asm); (case kK => first | exact rfl | assumption); (case kd => ktr_room); (case ku => ktr_units); (case h0 => exact near_at (by assumption) (by omega) (by omega)); (case h1 => exact tok_at (by assumption) (by assumption) _); (case h2 => assumption); (try dsimp only)); intro t9 h9 tk9 F9 N9; (try k_fold))
  have hS : MySub [(nl, listOf us.toArray nn)] := trivial
  have hmem : ∀ q ∈ [(nl, listOf us.toArray nn)], q ∈ news := by simpa using M
  have hn2 : ns.length ≤ 1000 := by omega
  have hb1 : (texts (fun b => !b) mid).length ≤ 1000 := Nat.le_trans (texts_len _ _) (by omega)
  refine wpAny_call ?_
  w_top off
  k_dflt (refine' code_subG ?kS ?k1 ?k2 ?k3 ?k4 ?k4s ?k5 ?kA ?kF ?kK ?k6 ?k7 ?k8 ?k9 ?kB ?_ ?c2 ?c3 ?c4 ?c5; (case kS => assumption); (case kA => exact rfl); (case kF => exact rfl); (case kK => assumption); (case k1 => k_asm); (case k2 => k_asm); (case k3 => k_asm); (case k4 => k_asm); (case k4s => first | exact List.forall_mem_nil _ | assumption); (case k5 => k_asm); (case k6 => k_is); (case k7 => k_is); (case k8 => ktr_room); (case k9 => first | exact BindsTo.of_eq rfl | exact binds_K (by k_in) rfl (by k_is) rfl rfl rfl); (case c5 => decide); (case kB => exact locs rfl); (case c2 => exact rfl); (case c3 => exact rfl); (case c4 => exact rfl); k_whole; intro g' L' h' tk' FG' F' N' B' X' T' G'; (try dsimp only); (try k_lift B'); (try k_fold))
  k_with "pyIter ref" => k_state (fun pre f => f = pre.foldl (fmtStep ns (tokF mid) (texts (fun b => !b) mid) se sz) bf ∧ f.length ≤ 10 + 30 * pre.length) "found"
  k_with "state" => k_dflt (first | exact ⟨rfl, by show bf.length ≤ 10 + 30 * 0; omega⟩ | exact fs_posE (by assumption) (by assumption) hns hts ht0 hbs hq (by omega) (by omega) (by assumption) | exact fs_negE (by assumption) (by assumption) hns hts ht0 hq (by omega) (by omega) (by assumption))
  k_steps
  rename News h₀ L _ _ => NN
  rw [fmt_end (by assumption)]
  exact hret _ _ _ (by assumption) (Kept.same (sub := [(nl, listOf us.toArray nn)]) (by assumption) N hmem (fun q hq => NN q (by rw [List.mem_singleton.mp hq]; k_mem)))
theorem HkEq : HkC = hkEps HkD HkP := by unfold HkC; rfl
end Hkformatteddoes
theorem formatted_does {prog : Program} {w : World} {p : Program} {loose : List Str} {mean : ExcName → Option Value} {mg mb : Str → Option Value} (news : List (Addr × Obj)) (nl : Addr) (nn : Nat) (us : List Value) (ns : List Int) (xt se : Str) (sz : Int) (t t1 t2 : Tok) (hx : xt.length ≤ 200) (M : (nl, listOf us.toArray nn) ∈ news) (W : IntsAre us ns) (hn1 : ns.length ≤ 4) (hns : ∀ n ∈ ns, n ∈ NEAR) (hq : (se, sz) ∈ SEPS) {mid : List (Bool × Str)} {bf af : Str} (S : Shape (cutR xt.cps.toList).reverse bf mid af) (hts : ∀ u ∈ tokF mid, u ∈ TOKS) (hml : mid.length ≤ 10) (ht0 : 0 < (tokF mid).length) (ht1 : (tokF mid).length ≤ 1000) (hbf : bf.length ≤ 10) (haf : af.length ≤ 10) (hbs : ∀ u ∈ texts (fun b => !b) mid, u.length ≤ 10) :
    Does prog w (Mine.kk.heap_1 w.params) p loose mean mg mb (.ref 104) [.ref nl, .str xt t, .str se t1, .int sz t2] news 5 fun K => ∀ t, K (.str (fmtAll ns (tokF mid) (texts (fun b => !b) mid) se sz bf af) t) news :=
  fun dp un gd cn cs a ccd cl outer A₀ base h₀ L m s Q => hkAll (P := Hkformatteddoes.HkP) Hkformatteddoes.HkEq Hkformatteddoes.HkAt (prog, w, p, loose, mean, mg, mb, news, nl, nn, us, ns, xt, se, sz, t, t1, t2, mid, bf, af, dp, un, gd, cn, cs, a, ccd, cl, outer, A₀, base, h₀, L, m, s, Q) hx M W hn1 hns hq S hts hml ht0 ht1 hbf haf hbs
section
variable {prog : Program} {w : World} {p : Program} {loose : List Str} {mean : ExcName → Option Value} {mg mb : Str → Option Value}
end
end Mine
end
section
set_option linter.unusedVariables false
open PySem PySem.W PyProof.Rows PySem.Calls PySem.Spec
set_option maxRecDepth 100000
namespace Mine
/-- every sign of x is of the kind b, and there is one -/
def allOf (b : Bool) (x : Str) : Bool := x.cps.toList != [] && x.cps.toList.all fun c => al c == b
theorem str_app (x y : Str) : (x ++ y).cps.toList = x.cps.toList ++ y.cps.toList := by
  show (x.cps ++ y.cps).toList = _
  simp
theorem run_more (b : Bool) : ∀ (cs : List Nat) (x : Str) (l : List (Bool × Str)), (∀ c ∈ cs, al c = b) → cs.foldl stepR ((b, x) :: l) = (b, x ++ (⟨cs.toArray⟩ : Str)) :: l
  | [], x, l, _ => by
    show (b, x) :: l = (b, x ++ (⟨#[]⟩ : Str)) :: l
    have e : x ++ (⟨#[]⟩ : Str) = x := by
      show (⟨x.cps ++ #[]⟩ : Str) = x
      simp
    rw [e]
  | c :: r, x, l, h => by
    rw [List.foldl_cons]
    have e : stepR ((b, x) :: l) c = (b, x ++ (⟨#[c]⟩ : Str)) :: l := by
      show (if (b == al c) = true then (al c, x ++ (⟨#[c]⟩ : Str)) :: l else _) = _
      rw [h c (.head _), if_pos (by simp)]
    rw [e, run_more b r _ l fun c hc => h c (.tail _ hc)]
    have e2 : x ++ (⟨#[c]⟩ : Str) ++ (⟨r.toArray⟩ : Str) = x ++ (⟨(c :: r).toArray⟩ : Str) := by
      show (⟨x.cps ++ #[c] ++ r.toArray⟩ : Str) = ⟨x.cps ++ (c :: r).toArray⟩
      congr 1
      apply Array.toList_inj.mp
      simp
    rw [e2]
def headNot (b : Bool) : List (Bool × Str) → Prop
  | [] => True
  | u :: _ => (u.1 == b) = false
theorem run_new {b : Bool} {x : Str} {l : List (Bool × Str)} (h : allOf b x = true) (hl : headNot b l) : x.cps.toList.foldl stepR l = (b, x) :: l := by
  unfold allOf at h
  rw [Bool.and_eq_true] at h
  obtain ⟨h1, h2⟩ := h
  cases hx : x.cps.toList with
  | nil => rw [hx] at h1; exact absurd h1 (by simp)
  | cons c r =>
    rw [hx, List.all_eq_true] at h2
    have hc : ∀ d ∈ c :: r, al d = b := fun d hd => by simpa using h2 d hd
    rw [List.foldl_cons]
    have e : stepR l c = (b, (⟨#[c]⟩ : Str)) :: l := by
      cases l with
      | nil => show [(al c, _)] = _; rw [hc c (.head _)]
      | cons u r' =>
        obtain ⟨ub, ux⟩ := u
        show (if (ub == al c) = true then _ else (al c, (⟨#[c]⟩ : Str)) :: (ub, ux) :: r') = _
        rw [hc c (.head _), if_neg (by have : (ub == b) = false := hl; rw [this]; exact Bool.false_ne_true)]
    rw [e, run_more b r _ l fun d hd => hc d (.tail _ hd)]
    have e2 : (⟨#[c]⟩ : Str) ++ (⟨r.toArray⟩ : Str) = x := by
      show (⟨#[c] ++ r.toArray⟩ : Str) = x
      cases x with
      | mk cps =>
        congr 1
        apply Array.toList_inj.mp
        simpa using hx.symm
    rw [e2]
theorem cut_app (a x : Str) : cutR (a ++ x).cps.toList = x.cps.toList.foldl stepR (cutR a.cps.toList) := by
  unfold cutR; rw [str_app, List.foldl_append]
theorem cut_nil : cutR (Str.ofString "").cps.toList = [] := by decide +kernel
/-- the law's text grows by a place -/
def textStep (ts bs : List Str) (f : Str) (k : Int) : Str := f ++ (if 0 < k then bs.getD (k - 1).toNat Str.empty else Str.ofString "") ++ ts.getD k.toNat Str.empty
def textAll (ts bs : List Str) (bf : Str) : Str := (rangeKs 0 ts.length).foldl (textStep ts bs) bf
def BETW : List Str := [Str.ofString ".", Str.ofString "-", Str.ofString ") ", Str.ofString "."]
def BEFO : List Str := [Str.ofString "", Str.ofString "", Str.ofString "(", Str.ofString "* "]
def AFTE : List Str := [Str.ofString "", Str.ofString "", Str.ofString ")", Str.ofString ". "]
/-- the pieces between what stands ahead and behind -/
def mids : List Str → List Str → List (Bool × Str)
  | [], _ => []
  | [t], _ => [(true, t)]
  | t :: ts, [] => (true, t) :: mids ts []
  | t :: ts, b :: bs => (true, t) :: (false, b) :: mids ts bs
theorem toks_all : ∀ t ∈ TOKS, allOf true t = true := by decide +kernel
theorem betw_all : ∀ t ∈ BETW, allOf false t = true := by decide +kernel
theorem befo_all : ∀ t ∈ BEFO, t = Str.ofString "" ∨ allOf false t = true := by decide +kernel
theorem afte_all : ∀ t ∈ AFTE, t = Str.ofString "" ∨ allOf false t = true := by decide +kernel
theorem str_nil (x : Str) : x ++ Str.ofString "" = x := by
  show (⟨x.cps ++ (Str.ofString "").cps⟩ : Str) = x
  have e : (Str.ofString "").cps = #[] := rfl
  rw [e]; simp
/-- what stands ahead -/
theorem cut_bf {bf : Str} (h : bf ∈ BEFO) : (bf = Str.ofString "" ∧ cutR bf.cps.toList = []) ∨ cutR bf.cps.toList = [(false, bf)] := by
  rcases befo_all bf h with e | e
  · left; exact ⟨e, by rw [e]; exact cut_nil⟩
  · right; exact run_new (l := []) e trivial
/-- the text of one, two, three tokens -/
theorem cut_ts {bf : Str} {ts bs : List Str} (hbf : bf ∈ BEFO) (hts : ∀ u ∈ ts, u ∈ TOKS) (hbs : ∀ u ∈ bs, u ∈ BETW) (hl : bs.length = ts.length - 1) (h0 : 0 < ts.length) (h3 : ts.length ≤ 3) :
    cutR (textAll ts bs bf).cps.toList = (mids ts bs).reverse ++ cutR bf.cps.toList := by
  have hh : headNot true (cutR bf.cps.toList) := by
    rcases cut_bf hbf with ⟨_, e⟩ | e
    · rw [e]; trivial
    · rw [e]; rfl
  have T := fun t ht => toks_all t (hts t ht)
  have Bt := fun t ht => betw_all t (hbs t ht)
  rcases ts with _ | ⟨t0, _ | ⟨t1, _ | ⟨t2, _ | ⟨t3, r⟩⟩⟩⟩
  · exact absurd h0 (by decide)
  · show cutR (bf ++ Str.ofString "" ++ t0).cps.toList = (true, t0) :: cutR bf.cps.toList
    rw [cut_app, str_nil, run_new (T t0 (.head _)) hh]
  · rcases bs with _ | ⟨b0, _ | ⟨b1, br⟩⟩
    · cases hl
    · show cutR (bf ++ Str.ofString "" ++ t0 ++ b0 ++ t1).cps.toList = (true, t1) :: (false, b0) :: (true, t0) :: cutR bf.cps.toList
      rw [cut_app, cut_app, cut_app, str_nil, run_new (T t0 (.head _)) hh, run_new (Bt b0 (.head _)) (by exact rfl), run_new (T t1 (.tail _ (.head _))) (by exact rfl)]
    · exact absurd hl (by simp)
  · rcases bs with _ | ⟨b0, _ | ⟨b1, _ | ⟨b2, br⟩⟩⟩
    · cases hl
    · exact absurd hl (by simp)
    · show cutR (bf ++ Str.ofString "" ++ t0 ++ b0 ++ t1 ++ b1 ++ t2).cps.toList = (true, t2) :: (false, b1) :: (true, t1) :: (false, b0) :: (true, t0) :: cutR bf.cps.toList
      rw [cut_app, cut_app, cut_app, cut_app, cut_app, str_nil, run_new (T t0 (.head _)) hh, run_new (Bt b0 (.head _)) (by exact rfl), run_new (T t1 (.tail _ (.head _))) (by exact rfl), run_new (Bt b1 (.tail _ (.head _))) (by exact rfl), run_new (T t2 (.tail _ (.tail _ (.head _)))) (by exact rfl)]
    · exact absurd hl (by simp)
  · simp only [List.length_cons] at h3; omega
theorem mids_ends {ts bs : List Str} (hl : bs.length = ts.length - 1) (h0 : 0 < ts.length) (h3 : ts.length ≤ 3) : (∃ p r, mids ts bs = (true, p) :: r) ∧ (∃ c q, mids ts bs = c ++ [(true, q)]) ∧ tokF (mids ts bs) = ts ∧ texts (fun b => !b) (mids ts bs) = bs ∧ (mids ts bs).length ≤ 10 := by
  rcases ts with _ | ⟨t0, _ | ⟨t1, _ | ⟨t2, _ | ⟨t3, r⟩⟩⟩⟩
  · exact absurd h0 (by decide)
  · rcases bs with _ | ⟨b0, br⟩
    · exact ⟨⟨_, _, rfl⟩, ⟨[], _, rfl⟩, rfl, rfl, by show 1 ≤ 10; decide⟩
    · exact absurd hl (by simp)
  · rcases bs with _ | ⟨b0, _ | ⟨b1, br⟩⟩
    · cases hl
    · exact ⟨⟨_, _, rfl⟩, ⟨[_, _], _, rfl⟩, rfl, rfl, by show 3 ≤ 10; decide⟩
    · exact absurd hl (by simp)
  · rcases bs with _ | ⟨b0, _ | ⟨b1, _ | ⟨b2, br⟩⟩⟩
    · cases hl
    · exact absurd hl (by simp)
    · exact ⟨⟨_, _, rfl⟩, ⟨[_, _, _, _], _, rfl⟩, rfl, rfl, by show 5 ≤ 10; decide⟩
    · exact absurd hl (by simp)
  · simp only [List.length_cons] at h3; omega
theorem shape_some {bf af : Str} {ts bs : List Str} (hbf : bf ∈ BEFO) (haf : af ∈ AFTE) (hts : ∀ u ∈ ts, u ∈ TOKS) (hbs : ∀ u ∈ bs, u ∈ BETW) (hl : bs.length = ts.length - 1) (h0 : 0 < ts.length) (h3 : ts.length ≤ 3) :
    Shape (cutR (textAll ts bs bf ++ af).cps.toList).reverse bf (mids ts bs) af := by
  obtain ⟨⟨p, r, e1⟩, ⟨c, q, e2⟩, -⟩ := mids_ends hl h0 h3
  have hc := cut_ts hbf hts hbs hl h0 h3
  rw [cut_app, hc]
  rcases cut_bf hbf with ⟨eb, ec⟩ | ec
  · rw [ec, List.append_nil]
    rcases afte_all af haf with ea | ea
    · have : af.cps.toList = [] := by rw [ea]; rfl
      rw [this, List.foldl_nil, List.reverse_reverse, eb, ea]
      exact .mid e1 e2
    · rw [run_new ea (by rw [e2, List.reverse_append]; rfl), List.reverse_cons, List.reverse_reverse, eb]
      exact .aft af e1 e2
  · rw [ec]
    rcases afte_all af haf with ea | ea
    · have : af.cps.toList = [] := by rw [ea]; rfl
      rw [this, List.foldl_nil, List.reverse_append, List.reverse_reverse, ea]
      exact .bef bf e1 e2
    · rw [run_new ea (by rw [e2, List.reverse_append]; rfl), List.reverse_cons, List.reverse_append, List.reverse_reverse, List.append_assoc]
      exact .both bf af e1 e2
theorem shape_none {bf : Str} (hbf : bf ∈ BEFO) : Shape (cutR (bf ++ Str.ofString "").cps.toList).reverse bf [] (Str.ofString "") := by
  rw [str_nil]
  rcases cut_bf hbf with ⟨eb, ec⟩ | ec
  · rw [ec, eb]; exact .nil
  · rw [ec]; exact .one bf
theorem toks_len : ∀ t ∈ TOKS, t.length ≤ 3 := by decide +kernel
theorem betw_len : ∀ t ∈ BETW, t.length ≤ 10 := by decide +kernel
theorem befo_len : ∀ t ∈ BEFO, t.length ≤ 10 := by decide +kernel
theorem afte_len : ∀ t ∈ AFTE, t.length ≤ 10 := by decide +kernel
end Mine
end
section
set_option linter.unusedVariables false
open PySem PySem.W PyProof.Rows PySem.Calls PySem.Spec
set_option maxRecDepth 100000
set_option maxHeartbeats 2000000
namespace Mine
section
variable {prog : Program} {w : World} {K : Frag} {p : Program} {loose : List Str} {mean : ExcName → Option Value} {mg mb : Str → Option Value}
/-- enter a def with captured names that sees the part sub alone -/
theorem code_subC {A₀ A : Around} {s : Shared} {base h₀ : Heap} {outer : List Env} {L : Addr} {m : Str → Option Value} {env : Env} {sub news : List (Addr × Obj)} {R : Result → Shared → Prop} {name qual : Str} {params : Arguments} {body : List Stmt} {scope : Scope} {dV kV doc pm cdv ct oc : Value} {an od : Option Addr} {osl : Array (Option Value)} {f : Addr} {args : Args} {binds : List (Str × Value)}
    (_S : MySub sub) (B : Below A₀ base outer h₀) (F : Fr h₀ L s.heap m) (X₀ : K.In h₀) (N : News h₀ L s.heap news) (hs : ∀ q ∈ sub, q ∈ news) (T : Top p loose mean mg mb h₀) (hA : A.frames = some (env :: outer)) (hf : env.frame = some L) (hke : env.scope.kind = .function)
    (ho : K.lookup f = some ⟨oc, od, .func (fnOf name qual params body scope dV kV doc pm an cdv ct), osl⟩) (hcd : codeIn K cdv qual = true) (hroom : A.depth < recursionLimit)
    (hbind : BindsTo s (fnOf name qual params body scope dV kV doc pm an cdv ct) args binds) (hkind : (binds.all fun y => scope.names.lookup y.1 == some .local || scope.names.lookup y.1 == some .cell) = true)
    (hnd : ((cellsFrom 0 scope.names []).map (·.1)).Nodup)
    (h : ∀ g L' h₁ tk cells, Fr h₀ L g m → Fr g L' h₁ (bindL (envOfC qual scope L' f cdv).kindOf binds fun _ => none) → News g L' h₁ (cells ++ sub) →
      CellsAre (bindC (envOfC qual scope L' f cdv).kindOf binds fun _ => none) (cellsFrom (L' + 1) scope.names []) cells → Below A base (env :: outer) g → K.In g → Top p loose mean mg mb g → (∀ p ∈ sub, p.1 < L') → (∀ q ∈ news, q.1 ∉ sub.map (·.1) → g.get? q.1 = some q.2) →
      wpAny (model prog w) (A.deeper (envOfC qual scope L' f cdv)) (execs body (envOfC qual scope L' f cdv))
        (fun fl s' => LeaveK h₀ L m g (fun r s' => Kept sub s.heap s'.heap → R r s') (match fl with | .ret v => v | _ => .none) s') (fun _ _ => False)
        { s with heap := h₁, toks := tk })
    (hco : scope.isCoroutine = false) (hgen : scope.isGenerator = false) (hk : scope.kind = .function) : codeAny (model prog w) A (.call (.ref f) args) R s := by
  have NS : News h₀ L s.heap sub := fun q hq => N q (hs q hq)
  have X := X₀.keeps F.keep
  obtain ⟨FG, BG, st, lv⟩ := groundX (R := R) B F NS hA hf hke
  refine codeAny_call_function hroom (X _ _ ho) rfl hco hgen rfl (codeRec_of X hcd) (hbind _ _ _ _ ?_)
  refine wpAny_newFunctionEnv_cells hk (kindsX hkind _) fun env' he s' x => ?_
  subst he
  refine ⟨(T.nolimit.keeps F.keep).keeps x.toInCall.keep, codeAny_func ?_⟩
  obtain ⟨h₁, tk, rfl, _⟩ := x.done
  have hk₁ := x.toInCall.keep
  obtain ⟨cells, NC, Y⟩ := Cl.news (h₀ := s.heap) (Nat.le_refl _) fun n c hm => ⟨x.cell n c (lookup_of_mem_nodup (cellsFrom_names scope.names 0 (s.heap.objs.size + 1) [] [] rfl ▸ hnd) hm), x.above n c hm⟩
  refine wpAny_mono (h (hideAll s.heap (sub.map (·.1))) s.heap.objs.size h₁ tk cells FG ⟨x.toInCall.ns, fun b o e => hk₁ b o (of_hideAll _ e), Nat.le_of_eq (hideAll_size _ _)⟩ (fun p hp => ?_) Y BG (X₀.keeps fun b o e => st b o e) (T.keeps fun b o e => st b o e) (fun p hp => Heap.lt_size (NS p hp).1) (fun q hq hn => hideAll_get _ (N q hq).1 hn)) (fun fl s' hl => ?_) fun _ _ y => y.elim
  · rcases List.mem_append.mp hp with hp | hp
    · refine ⟨(NC p hp).1, (NC p hp).2.1, ?_⟩
      cases q : (hideAll s.heap (sub.map (·.1))).get? p.1 with
      | none => rfl
      | some o => have := of_hideAll _ q; rw [(NC p hp).2.2] at this; cases this
    · exact ⟨hk₁ _ _ (NS p hp).1, Nat.ne_of_lt (Heap.lt_size (NS p hp).1), hideAll_none _ (List.mem_map_of_mem hp)⟩
  · refine lv _ _ ?_
    obtain ⟨L'', m', news', F'', N'', k⟩ := hl
    exact ⟨L'', m', news', F'', N'', fun a b => k a b fun b o e hn => F''.keep b o (hideAll_get _ e hn)⟩
end
/-- an element drawn by the law's source -/
def DrawEl (P : Value → Prop) (g : Obj → List (Addr × Obj)) (v : Value) (news' : List (Addr × Obj)) : Prop :=
  ∃ x tx y ty nn, news' = g (srcO x tx y ty nn) ∧ 0 ≤ x ∧ 0 ≤ y ∧ y < 2147483647 ∧ P v
section
variable {prog : Program} {w : World} {A : Around} {h₀ : Heap} {L : Addr} {m : Str → Option Value} {env : Env} {elt : PySem.Expr} {xn : Str} {scope : Scope} {cl : List (Str × Addr)} {s : Shared}
theorem draw_end {I C D : Addr} {oI oC oD : Obj} {s₁ : Shared} {h' : Heap} {tk : Nat} {all : List (Addr × Obj)} {P : Value → Prop} {g : Obj → List (Addr × Obj)} {v : Value} {x y : Int} {tx ty : Tok} {nn : Nat}
    (F : Fr h₀ L h' m) (N : News h₀ L h' all) (sub : ∀ p ∈ (I, oI) :: (C, oC) :: (D, oD) :: g (srcO x tx y ty nn), p ∈ all) (off : LCg.Off3 I C D (g (srcO x tx y ty nn))) (b1 : 0 ≤ x) (b2 : 0 ≤ y) (b3 : y < 2147483647) (hv : P v) :
    LCg.CompEnd h₀ L m s₁ I oI C oC D oD (fun _ => True) (fun v news' => DrawEl P g v news') v { s₁ with heap := h', toks := tk } :=
  ⟨h', tk, _, rfl, F, fun p hp => N p (sub p hp), off, trivial, x, tx, y, ty, nn, rfl, b1, b2, b3, hv⟩
theorem comp_draw {n : Nat} {news₀ : List (Addr × Obj)} {g : Obj → List (Addr × Obj)} {src : Addr} {x₀ y₀ : Int} {tx₀ ty₀ : Tok} {n₀ : Nat} {a : Int} {Fin : List Value → List (Addr × Obj) → Prop} (P : Value → Prop) (U : UpdF src (srcO x₀ tx₀ y₀ ty₀ n₀) news₀ g) (hx : 0 ≤ x₀) (hy0 : 0 ≤ y₀) (hy : y₀ < 2147483647)
    (turn : ∀ x tx y ty nn k t I oI C oC D m₂ ys h tk (E' : Value → Shared → Prop), 0 ≤ x → 0 ≤ y → y < 2147483647 → LCg.NsObj oC m₂ → m₂ xn = some (.int k t) → Fr h₀ L h m → News h₀ L h ((I, oI) :: (C, oC) :: (D, LCg.lst ys) :: g (srcO x tx y ty nn)) → LCg.Off3 I C D (g (srcO x tx y ty nn)) → ((@Ne Nat I C) ∧ (@Ne Nat I D) ∧ (@Ne Nat C D)) →
      wpAny (model prog w) A (eval elt (compEnvC scope cl C env)) (LCg.CompEnd h₀ L m { s with heap := h, toks := tk } I oI C oC D (LCg.lst ys) (fun _ => True) (fun v news' => DrawEl P g v news')) E' { s with heap := h, toks := tk })
    (fin : ∀ x tx y ty nn ys, 0 ≤ x → 0 ≤ y → y < 2147483647 → ys.length = n → (∀ v ∈ ys, P v) → Fin ys (g (srcO x tx y ty nn))) :
    LCg.CompRest prog w A h₀ L m env elt xn scope cl s (fun _ => True) (fun i v => ∃ t, v = .int (a + (i : Int)) t) Fin n 0 [] news₀ := by
  have e0 : news₀ = g (srcO x₀ tx₀ y₀ ty₀ n₀) := by
    obtain ⟨pre, post, e1, e2, _⟩ := U.split
    rw [e1, e2]
  have key : ∀ (j i : Nat) (ys : List Value) (x y : Int) (tx ty : Tok) (nn : Nat), i + j = n → ys.length = i → (∀ v ∈ ys, P v) → 0 ≤ x → 0 ≤ y → y < 2147483647 →
      LCg.CompRest prog w A h₀ L m env elt xn scope cl s (fun _ => True) (fun i v => ∃ t, v = .int (a + (i : Int)) t) Fin j i ys (g (srcO x tx y ty nn)) := by
    intro j
    induction j with
    | zero =>
      intro i ys x y tx ty nn hi hl hP b1 b2 b3
      exact LCg.CompRest.zero (fin x tx y ty nn ys b1 b2 b3 (by omega) hP)
    | succ j ih =>
      intro i ys x y tx ty nn hi hl hP b1 b2 b3
      refine LCg.CompRest.succ ?_
      intro v I oI C oC D m₂ h tk E' hv hC hxn F N off ne
      obtain ⟨t, rfl⟩ := hv
      refine wpAny_mono (turn x tx y ty nn _ t I oI C oC D m₂ ys h tk E' b1 b2 b3 hC hxn F N off ne) (fun v s₂ hq => ?_) fun _ _ e => e
      obtain ⟨h', tk', nw, e, F', N', off', _, x', tx', y', ty', nn', rfl, b1', b2', b3', hP'⟩ := hq
      refine ⟨h', tk', _, e, F', N', off', trivial, ih (i + 1) _ _ _ _ _ _ (by omega) (by rw [List.length_append, hl]; rfl) (fun u hu => ?_) b1' b2' b3'⟩
      rcases List.mem_append.mp hu with hu | hu
      · exact hP u hu
      · rw [List.mem_singleton.mp hu]; exact hP'
  rw [e0]
  exact key n 0 [] _ _ _ _ _ (by omega) rfl (fun _ h => nomatch h) hx hy0 hy
end
def IsS (ms : List Str) (v : Value) : Prop := ∃ x t, v = .str x t ∧ x ∈ ms
def IsI (ms : List Int) (v : Value) : Prop := ∃ x t, v = .int x t ∧ x ∈ ms
theorem isS_all {ms : List Str} : ∀ {ys : List Value}, (∀ v ∈ ys, IsS ms v) → ∃ ws, StrsAre ys ws ∧ ∀ u ∈ ws, u ∈ ms
  | [], _ => ⟨[], .nil, fun _ h => nomatch h⟩
  | v :: r, h => by
    obtain ⟨x, t, rfl, hm⟩ := h v (.head _)
    obtain ⟨ws, W, hw⟩ := isS_all (ys := r) fun v hv => h v (.tail _ hv)
    exact ⟨x :: ws, .cons _ _ W, fun u hu => by rcases List.mem_cons.mp hu with rfl | hu; · exact hm
                                                · exact hw u hu⟩
theorem isI_all {ms : List Int} : ∀ {ys : List Value}, (∀ v ∈ ys, IsI ms v) → ∃ ws, IntsAre ys ws ∧ ∀ u ∈ ws, u ∈ ms
  | [], _ => ⟨[], .nil, fun _ h => nomatch h⟩
  | v :: r, h => by
    obtain ⟨x, t, rfl, hm⟩ := h v (.head _)
    obtain ⟨ws, W, hw⟩ := isI_all (ys := r) fun v hv => h v (.tail _ hv)
    exact ⟨x :: ws, .cons _ _ W, fun u hu => by rcases List.mem_cons.mp hu with rfl | hu; · exact hm
                                                · exact hw u hu⟩
theorem forall_sub_cons {p : Addr × Obj} {l all : List (Addr × Obj)} (h : p ∈ all) (hr : ∀ q ∈ l, q ∈ all) : ∀ q ∈ p :: l, q ∈ all := List.forall_mem_cons.mpr ⟨h, hr⟩
theorem seps_1 : (Str.ofString "", (0 : Int)) ∈ SEPS := by decide
theorem seps_2 : (Str.ofString ",", (3 : Int)) ∈ SEPS := by decide
theorem seps_3 : (Str.ofString " ", (2 : Int)) ∈ SEPS := by decide
theorem seps_4 : (Str.ofString ",", (0 : Int)) ∈ SEPS := by decide
/-- a pair of a sign and a size -/
abbrev tupO (se : Str) (sz : Int) (ts ti : Tok) : Obj := { cls := .type "tuple", data := .seq #[.str se ts, .int sz ti] }
/-- made pairs in the ledger -/
inductive PairsAre (src : Addr) (news : List (Addr × Obj)) : List Value → Prop
  | nil : PairsAre src news []
  | cons {a : Addr} {se : Str} {sz : Int} {ts ti : Tok} {vs : List Value} : (a, tupO se sz ts ti) ∈ news → @Ne Nat a src → (se, sz) ∈ SEPS → PairsAre src news vs → PairsAre src news (.ref a :: vs)
theorem PairsAre.get {src : Addr} {news : List (Addr × Obj)} {vs : List Value} (h : PairsAre src news vs) : ∀ v ∈ vs, ∃ a se sz ts ti, v = .ref a ∧ (a, tupO se sz ts ti) ∈ news ∧ @Ne Nat a src ∧ (se, sz) ∈ SEPS := by
  induction h with
  | nil => intro v hv; cases hv
  | cons h1 h2 h3 _ ih =>
    intro v hv
    rcases List.mem_cons.mp hv with rfl | hv
    · exact ⟨_, _, _, _, _, rfl, h1, h2, h3⟩
    · exact ih v hv
theorem updF_other {d a : Addr} {o o' ob : Obj} {news : List (Addr × Obj)} {g : Obj → List (Addr × Obj)} (U : UpdF d o news g) (h : (a, ob) ∈ news) (hne : @Ne Nat a d) : (a, ob) ∈ g o' := by
  obtain ⟨pre, post, e1, e2, -⟩ := U.split
  rw [e2]
  rw [e1] at h
  rcases List.mem_append.mp h with h | h
  · exact List.mem_append_left _ h
  · rcases List.mem_cons.mp h with h | h
    · exact absurd (congrArg Prod.fst h) hne
    · exact List.mem_append_right _ (.tail _ h)
section
variable {prog : Program} {w : World} {p : Program} {loose : List Str} {mean : ExcName → Option Value} {mg mb : Str → Option Value}
theorem lawOneP_does (news : List (Addr × Obj)) (gn : Obj → List (Addr × Obj)) (src b : Addr) (x y : Int) (tx ty : Tok) (n nn : Nat) (vs : List Value) (U : UpdF src (srcO x tx y ty n) news gn) (M : (b, listOf vs.toArray nn) ∈ news) (hne : @Ne Nat src b) (hx : 0 ≤ x) (hy0 : 0 ≤ y) (hy : y < 2147483647) (W : PairsAre src news vs) (h0 : 0 < vs.length) (h1 : vs.length ≤ 100) :
    Does prog w (Mine.kk.heap_1 w.params) p loose mean mg mb (.ref 125) [.ref src, .ref b] news 2 fun K => ∀ a se sz ts ti x' tx' y' ty' n', (se, sz) ∈ SEPS → (a, tupO se sz ts ti) ∈ gn (srcO x' tx' y' ty' n') → 0 ≤ x' → 0 ≤ y' → y' < 2147483647 → K (.ref a) (gn (srcO x' tx' y' ty' n')) :=
  Does.weak (lawOne_does news gn src b x y tx ty n nn vs U M hne hx hy0 hy h0 h1) fun P h v x' tx' y' ty' n' hv => by
    obtain ⟨a, se, sz, ts, ti, rfl, hm, hn, hq⟩ := W.get v hv
    exact h a se sz ts ti x' tx' y' ty' n' hq (updF_other U hm hn)
end
theorem strD_len {bs : List Str} {b : Nat} (h : ∀ u ∈ bs, u.length ≤ b) (i : Nat) : (bs.getD i Str.empty).length ≤ b := by
  rw [List.getD_eq_getElem?_getD]
  cases e : bs[i]? with
  | none => exact Nat.zero_le _
  | some x => exact h x (List.mem_of_getElem? e)
theorem ts_posE {ts bs : List Str} {bf f : Str} {k : Int} {pre : List Int} (e : f = pre.foldl (textStep ts bs) bf) (hl : f.length ≤ 10 + 20 * pre.length) (hts : ∀ u ∈ ts, u.length ≤ 10) (hbs : ∀ u ∈ bs, u.length ≤ 10) (hk : 0 < k) :
    f ++ bs.getD (k - 1).toNat Str.empty ++ ts.getD k.toNat Str.empty = (pre ++ [k]).foldl (textStep ts bs) bf ∧ (f ++ bs.getD (k - 1).toNat Str.empty ++ ts.getD k.toNat Str.empty).length ≤ 10 + 20 * (pre ++ [k]).length := by
  refine ⟨?_, ?_⟩
  · rw [List.foldl_append, e]; show _ = textStep _ _ _ _; unfold textStep; rw [if_pos hk]
  · rw [Str.length_append, Str.length_append, List.length_append, List.length_singleton]
    have := strD_len hbs (k - 1).toNat
    have := strD_len hts k.toNat
    omega
theorem ts_negE {ts bs : List Str} {bf f : Str} {k : Int} {pre : List Int} (e : f = pre.foldl (textStep ts bs) bf) (hl : f.length ≤ 10 + 20 * pre.length) (hts : ∀ u ∈ ts, u.length ≤ 10) (hk : ¬ 0 < k) :
    f ++ Str.ofString "" ++ ts.getD k.toNat Str.empty = (pre ++ [k]).foldl (textStep ts bs) bf ∧ (f ++ Str.ofString "" ++ ts.getD k.toNat Str.empty).length ≤ 10 + 20 * (pre ++ [k]).length := by
  refine ⟨?_, ?_⟩
  · rw [List.foldl_append, e]; show _ = textStep _ _ _ _; unfold textStep; rw [if_neg hk]
  · rw [Str.length_append, str_nil, List.length_append, List.length_singleton]
    have := strD_len hts k.toNat
    omega
theorem ts_start {ts bs : List Str} {bf : Str} (h : bf ∈ BEFO) : bf = ([] : List Int).foldl (textStep ts bs) bf ∧ bf.length ≤ 10 + 20 * ([] : List Int).length := ⟨rfl, befo_len _ h⟩
theorem strs_get {vs : List Value} {ns : List Str} (h : StrsAre vs ns) : ∀ i, i < ns.length → ∃ t, vs[i]? = some (.str (ns.getD i Str.empty) t) := by
  induction h with
  | nil => intro i hi; exact absurd hi (Nat.not_lt_zero _)
  | cons n t _ ih =>
    intro i hi
    cases i with
    | zero => exact ⟨t, rfl⟩
    | succ i =>
      obtain ⟨t', e⟩ := ih i (by simpa using hi)
      exact ⟨t', by simpa using e⟩
section
variable {prog : Program} {w : World} {A : Around} {E : Value → Shared → Prop} {s : Shared} {h₀ : Heap} {L l : Addr} {news : List (Addr × Obj)} {vs : List Value} {ns : List Str} {n : Nat}
theorem str_item {value slice : PySem.Expr} {i : Int} {u : Tok} {Q : Value → Shared → Prop}
    (N : News h₀ L s.heap news) (hm : (l, listOf vs.toArray n) ∈ news) (hw : StrsAre vs ns) (h0 : 0 ≤ i) (h1 : i < (ns.length : Int)) (hf : ns.length ≤ 1000) (h : ∀ t', Q (.str (ns.getD i.toNat Str.empty) t') s)
    (hs : subscripted slice false (.ref l) (.int i u) = operate [.ref l, .int i u] (getItem (.ref l) (.int i u)) := by with_unfolding_all rfl) :
    wpAny (model prog w) A (subscriptTail value slice (.ref l) (.int i u)) Q E s := by
  have hl : s.heap.IsList l vs.toArray := ⟨_, (N _ hm).1, rfl, n, rfl⟩
  have hlt : i.toNat < vs.length := by have := hw.length; omega
  obtain ⟨t, hk2⟩ := strs_get hw i.toNat (by omega)
  exact tail_any hl.typeIs slot_list_getitem.lookup (wpAny_getItem_list hl h0 (by omega) (x := .str (ns.getD i.toNat Str.empty) t) (by simpa using hk2) (h t)) hs
/-- a list of texts against the empty one: both ways -/
theorem eq_nil_split {a b : Addr} {vs : List Value} {ts : List Str} {n k : Nat} {Q : Value → Shared → Prop} (N : News h₀ L s.heap news) (ma : (a, listOf vs.toArray n) ∈ news) (W : StrsAre vs ts) (mb : (b, listOf #[] k) ∈ news) (hu : A.units < cLine) (h1 : ts.length = 0 → Q (.bool true) s) (h2 : 0 < ts.length → Q (.bool false) s) :
    wpAny (model prog w) A (compareOp .Eq (.ref a) (.ref b)) Q E s := by
  cases ts with
  | nil => cases W; exact eq_nilT N ma rfl rfl mb rfl rfl hu (h1 rfl)
  | cons t r => exact eq_nilF N ma rfl rfl mb rfl rfl (by rw [List.size_toArray, W.length]; exact Nat.succ_pos _) hu (h2 (Nat.succ_pos _))
theorem ne_nil_split {a b : Addr} {vs : List Value} {ts : List Str} {n k : Nat} {Q : Value → Shared → Prop} (N : News h₀ L s.heap news) (ma : (a, listOf vs.toArray n) ∈ news) (W : StrsAre vs ts) (mb : (b, listOf #[] k) ∈ news) (hu : A.units < cLine) (h1 : ts.length = 0 → Q (.bool false) s) (h2 : 0 < ts.length → Q (.bool true) s) :
    wpAny (model prog w) A (compareOp .NotEq (.ref a) (.ref b)) Q E s := by
  cases ts with
  | nil => cases W; exact ne_nilF N ma rfl rfl mb rfl rfl hu (h1 rfl)
  | cons t r => exact ne_nilT N ma rfl rfl mb rfl rfl (by rw [List.size_toArray, W.length]; exact Nat.succ_pos _) hu (h2 (Nat.succ_pos _))
end
end Mine
end
section
set_option linter.unusedVariables false
open PySem PySem.W PyProof.Rows PySem.Calls PySem.Spec
namespace Mine
section
variable {prog : Program} {w : World} {A : Around} {E : Value → Shared → Prop} {env : Env} {h₀ : Heap} {L : Addr} {m : Str → Option Value} {news : List (Addr × Obj)}
/-- written ints -/
inductive IsInts : List Expr → List Int → Prop
  | nil : IsInts [] []
  | cons {i : Int} {k : Nat} {p : Pos} {r : List Expr} {l : List Int} : IsInts r l → IsInts (.Constant (.int i) k p :: r) (i :: l)
/-- written texts -/
inductive IsStrs : List Expr → List Str → Prop
  | nil : IsStrs [] []
  | cons {x : Str} {k : Nat} {p : Pos} {r : List Expr} {l : List Str} : IsStrs r l → IsStrs (.Constant (.str x) k p :: r) (x :: l)
theorem ints_args {elts : List Expr} {l : List Int} {pos : Pos} (h : IsInts elts l) : ∀ {s : Shared} {Q : List Value → Shared → Prop}, (∀ vs tk, IntsAre vs l → Q vs { s with toks := tk }) → wpAny (model prog w) A (spliced (backTo pos (starEach elts env))) Q E s := by
  induction h with
  | nil => intro s Q hQ; exact args_nil (hQ [] s.toks .nil)
  | cons _ ih => intro s Q hQ; exact args_cons (wpAny_Constant_int (ih fun vs tk hv => hQ _ tk (.cons _ _ hv)))
theorem strs_args {elts : List Expr} {l : List Str} {pos : Pos} (h : IsStrs elts l) : ∀ {s : Shared} {Q : List Value → Shared → Prop}, (∀ vs tk, StrsAre vs l → Q vs { s with toks := tk }) → wpAny (model prog w) A (spliced (backTo pos (starEach elts env))) Q E s := by
  induction h with
  | nil => intro s Q hQ; exact args_nil (hQ [] s.toks .nil)
  | cons _ ih => intro s Q hQ; exact args_cons (Constant_str (ih fun vs tk hv => hQ _ tk (.cons _ _ hv)))
theorem ints_list {elts : List Expr} {l : List Int} {pos : Pos} {s : Shared} {Q : Value → Shared → Prop} (h : IsInts elts l) (hn : l.length ≤ 1000) (F : Fr h₀ L s.heap m) (N : News h₀ L s.heap news)
    (hQ : ∀ vs a h' tk, IntsAre vs l → (∀ p ∈ news, p.1 < a) → Fr h₀ L h' m → News h₀ L h' ((a, listOf vs.toArray 0) :: news) → Q (.ref a) { s with heap := h', toks := tk }) :
    wpAny (model prog w) A (eval (.List elts pos) env) Q E s :=
  List_ (ints_args h fun vs tk hv => newList_K (s := { s with toks := tk }) F N (fun a h' F' N' hl => hQ vs a h' tk hv hl F' N') (by rw [sizeLine_eq]; have := hv.length; omega))
theorem strs_list {elts : List Expr} {l : List Str} {pos : Pos} {s : Shared} {Q : Value → Shared → Prop} (h : IsStrs elts l) (hn : l.length ≤ 1000) (F : Fr h₀ L s.heap m) (N : News h₀ L s.heap news)
    (hQ : ∀ vs a h' tk, StrsAre vs l → (∀ p ∈ news, p.1 < a) → Fr h₀ L h' m → News h₀ L h' ((a, listOf vs.toArray 0) :: news) → Q (.ref a) { s with heap := h', toks := tk }) :
    wpAny (model prog w) A (eval (.List elts pos) env) Q E s :=
  List_ (strs_args h fun vs tk hv => newList_K (s := { s with toks := tk }) F N (fun a h' F' N' hl => hQ vs a h' tk hv hl F' N') (by rw [sizeLine_eq]; have := hv.length; omega))
theorem strs_ge {vs : List Value} {l : List Str} {n : Nat} (W : StrsAre vs l) (h : Nat.ble n l.length = true) : n ≤ vs.length := by rw [W.length]; exact Nat.le_of_ble_eq_true h
theorem strs_le {vs : List Value} {l : List Str} {n : Nat} (W : StrsAre vs l) (h : Nat.ble l.length n = true) : vs.length ≤ n := by rw [W.length]; exact Nat.le_of_ble_eq_true h
theorem ints_ge {vs : List Value} {l : List Int} {n : Nat} (W : IntsAre vs l) (h : Nat.ble n l.length = true) : n ≤ vs.length := by rw [W.length]; exact Nat.le_of_ble_eq_true h
theorem ints_le {vs : List Value} {l : List Int} {n : Nat} (W : IntsAre vs l) (h : Nat.ble l.length n = true) : vs.length ≤ n := by rw [W.length]; exact Nat.le_of_ble_eq_true h
/-- the law's twenty numbers (a name of its own: the library's lines take a bare IntsAre for the script) -/
def NearV (vs : List Value) : Prop := IntsAre vs NEAR
theorem nearV_is {vs : List Value} (h : NearV vs) : IntsAre vs NEAR := h
theorem near_list {elts : List Expr} {pos : Pos} {s : Shared} {Q : Value → Shared → Prop} (h : IsInts elts NEAR) (F : Fr h₀ L s.heap m) (N : News h₀ L s.heap news)
    (hQ : ∀ vs a h' tk, NearV vs → (∀ p ∈ news, p.1 < a) → Fr h₀ L h' m → News h₀ L h' ((a, listOf vs.toArray 0) :: news) → Q (.ref a) { s with heap := h', toks := tk }) :
    wpAny (model prog w) A (eval (.List elts pos) env) Q E s := ints_list h (by decide) F N hQ
end
end Mine
end
section
set_option linter.unusedVariables false
open PySem PySem.W PyProof.Rows PySem.Calls PySem.Spec
set_option maxRecDepth 100000
namespace Mine
/-- the tokens, or the one that stands for none -/
def tokOr (ts : List Str) : List Str := if ts.length = 0 then [Str.ofString "1"] else ts
theorem tokOr_pos {ts : List Str} {k : Int} (h : 0 < ts.length) : atL ts k = atL (tokOr ts) k := by unfold tokOr; rw [if_neg (by omega)]
theorem tokOr_zero {ts : List Str} {k : Int} (h : ts.length = 0) (hk : 0 ≤ k) : Str.ofString "1" = atL (tokOr ts) k := by
  unfold tokOr; rw [if_pos h]
  have e : (if (([Str.ofString "1"] : List Str).length : Int) - 1 < k then (([Str.ofString "1"] : List Str).length : Int) - 1 else k).toNat = 0 := by
    show (if ((1 : Int) - 1) < k then ((1 : Int) - 1) else k).toNat = 0
    split <;> omega
  show _ = ([Str.ofString "1"] : List Str).getD _ Str.empty
  rw [e]; rfl
theorem sepL_pos {bs : List Str} {k : Int} (h : 0 < bs.length) : atL bs (k - 1) = sepL bs k := by
  cases bs with
  | nil => exact absurd h (by decide)
  | cons b r => rfl
theorem sepL_zero {bs : List Str} {k : Int} (h : bs.length = 0) : Str.ofString "." = sepL bs k := by
  rw [List.eq_nil_of_length_eq_zero h]; rfl
theorem tokOr_all {ts : List Str} (h : ∀ u ∈ ts, u ∈ TOKS) : ∀ u ∈ tokOr ts, u ∈ TOKS := by
  unfold tokOr
  split
  · intro u hu; rw [List.mem_singleton.mp hu]; exact .head _
  · exact h
theorem tokOr_len (ts : List Str) : 0 < (tokOr ts).length := by
  unfold tokOr
  split
  · decide
  · omega
theorem one_tok : Str.ofString "1" ∈ TOKS := .head _
theorem atL_len {bs : List Str} {b : Nat} (h : ∀ u ∈ bs, u.length ≤ b) (k : Int) : (atL bs k).length ≤ b := strD_len h _
theorem news_one {h₀ h : Heap} {L : Addr} {q : Addr × Obj} {news : List (Addr × Obj)} (N : News h₀ L h news) (m : q ∈ news) : News h₀ L h [q] := fun r hr => by rw [List.mem_singleton.mp hr]; exact N q m
theorem text_end {ts bs : List Str} {bf f : Str} (e : f = (rangeKs 0 ((ts.length : Int) - 0).toNat).foldl (textStep ts bs) bf) : f = textAll ts bs bf := by
  have e2 : ((ts.length : Int) - 0).toNat = ts.length := by omega
  rw [e, e2]; rfl
theorem text_len {ts : List Str} {f : Str} (hl : f.length ≤ 10 + 20 * (rangeKs 0 ((ts.length : Int) - 0).toNat).length) (h3 : ts.length ≤ 3) : f.length ≤ 100 := by
  rw [rangeKs_length] at hl; omega
theorem news5 {h₀ h : Heap} {L : Addr} {q1 q2 q3 q4 q5 : Addr × Obj} {news : List (Addr × Obj)} (N : News h₀ L h news) (m1 : q1 ∈ news) (m2 : q2 ∈ news) (m3 : q3 ∈ news) (m4 : q4 ∈ news) (m5 : q5 ∈ news) : News h₀ L h [q1, q2, q3, q4, q5] := by
  intro r hr
  simp only [List.mem_cons, List.not_mem_nil, or_false] at hr
  rcases hr with rfl | rfl | rfl | rfl | rfl
  · exact N _ m1
  · exact N _ m2
  · exact N _ m3
  · exact N _ m4
  · exact N _ m5
/-- two addresses that are not one -/
def Ap (a b : Nat) : Prop := a ≠ b
theorem Ap.ne {a b : Nat} (h : Ap a b) : a ≠ b := h
theorem due_pos {ns : List Int} {ts bs : List Str} {se bf f tokv sepv : Str} {sz k : Int} {pre : List Int} (e : f = pre.foldl (fmtStep ns (tokOr ts) bs se sz) bf) (hl : f.length ≤ 10 + 30 * pre.length) (hns : ∀ n ∈ ns, n ∈ NEAR) (hts : ∀ u ∈ ts, u ∈ TOKS) (hbs : ∀ u ∈ bs, u.length ≤ 10) (hq : (se, sz) ∈ SEPS) (k0 : 0 ≤ k) (k1 : k < (ns.length : Int)) (hk : 0 < k) (et : tokv = atL (tokOr ts) k) (es : sepv = sepL bs k) :
    f ++ sepv ++ oneV (ns.getD k.toNat 0) tokv se sz = (pre ++ [k]).foldl (fmtStep ns (tokOr ts) bs se sz) bf ∧ (f ++ sepv ++ oneV (ns.getD k.toNat 0) tokv se sz).length ≤ 10 + 30 * (pre ++ [k]).length := by
  rw [et, es]; exact fs_posE e hl hns (tokOr_all hts) (tokOr_len ts) hbs hq k0 k1 hk
theorem due_neg {ns : List Int} {ts bs : List Str} {se bf f tokv : Str} {sz k : Int} {pre : List Int} (e : f = pre.foldl (fmtStep ns (tokOr ts) bs se sz) bf) (hl : f.length ≤ 10 + 30 * pre.length) (hns : ∀ n ∈ ns, n ∈ NEAR) (hts : ∀ u ∈ ts, u ∈ TOKS) (hq : (se, sz) ∈ SEPS) (k0 : 0 ≤ k) (k1 : k < (ns.length : Int)) (hk : ¬ 0 < k) (et : tokv = atL (tokOr ts) k) :
    f ++ oneV (ns.getD k.toNat 0) tokv se sz = (pre ++ [k]).foldl (fmtStep ns (tokOr ts) bs se sz) bf ∧ (f ++ oneV (ns.getD k.toNat 0) tokv se sz).length ≤ 10 + 30 * (pre ++ [k]).length := by
  rw [et]; exact fs_negE e hl hns (tokOr_all hts) (tokOr_len ts) hq k0 k1 hk
theorem due_start {ns : List Int} {ts bs : List Str} {se bf : Str} {sz : Int} (h : bf ∈ BEFO) : bf = ([] : List Int).foldl (fmtStep ns (tokOr ts) bs se sz) bf ∧ bf.length ≤ 10 + 30 * ([] : List Int).length := ⟨rfl, befo_len _ h⟩
theorem mids_any {ts bs : List Str} (hl : bs.length = ts.length - 1) (h3 : ts.length ≤ 3) : tokF (mids ts bs) = tokOr ts ∧ texts (fun b => !b) (mids ts bs) = bs ∧ (mids ts bs).length ≤ 10 := by
  rcases Nat.eq_zero_or_pos ts.length with h0 | h0
  · have e := List.eq_nil_of_length_eq_zero h0
    subst e
    have e2 := List.eq_nil_of_length_eq_zero (show bs.length = 0 from hl)
    subst e2
    exact ⟨rfl, rfl, by decide⟩
  · obtain ⟨-, -, a, b, c⟩ := mids_ends hl h0 h3
    exact ⟨by rw [a]; unfold tokOr; rw [if_neg (by omega)], b, c⟩
theorem shape_any {bf af : Str} {ts bs : List Str} (hbf : bf ∈ BEFO) (haf : af ∈ AFTE) (hts : ∀ u ∈ ts, u ∈ TOKS) (hbs : ∀ u ∈ bs, u ∈ BETW) (hl : bs.length = ts.length - 1) (h3 : ts.length ≤ 3) (h0 : ts.length = 0 → af = Str.ofString "") :
    Shape (cutR (textAll ts bs bf ++ af).cps.toList).reverse bf (mids ts bs) af := by
  rcases Nat.eq_zero_or_pos ts.length with h | h
  · rw [h0 h]
    have e := List.eq_nil_of_length_eq_zero h
    subst e
    exact shape_none hbf
  · exact shape_some hbf haf hts hbs hl h h3
section
variable {prog : Program} {w : World} {A : Around} {E : Value → Shared → Prop} {s : Shared} {h₀ : Heap} {L l : Addr} {news : List (Addr × Obj)} {vs : List Value} {ns : List Str} {n : Nat}
theorem str_itemA {value slice : PySem.Expr} {i k : Int} {u : Tok} {Q : Value → Shared → Prop}
    (N : News h₀ L s.heap news) (hm : (l, listOf vs.toArray n) ∈ news) (hw : StrsAre vs ns) (hi : i = if (ns.length : Int) - 1 < k then (ns.length : Int) - 1 else k) (h0 : 0 ≤ k) (h1 : 0 < ns.length) (hf : ns.length ≤ 1000) (h : ∀ t', Q (.str (atL ns k) t') s)
    (hs : subscripted slice false (.ref l) (.int i u) = operate [.ref l, .int i u] (getItem (.ref l) (.int i u)) := by with_unfolding_all rfl) :
    wpAny (model prog w) A (subscriptTail value slice (.ref l) (.int i u)) Q E s := by
  subst hi
  exact str_item N hm hw (by split <;> omega) (by split <;> omega) hf h hs
theorem one_item {value slice : PySem.Expr} {i : Int} {u t : Tok} {x : Str} {Q : Value → Shared → Prop}
    (N : News h₀ L s.heap news) (hm : (l, listOf #[.str x t] n) ∈ news) (h0 : i = 0) (h : Q (.str x t) s)
    (hs : subscripted slice false (.ref l) (.int i u) = operate [.ref l, .int i u] (getItem (.ref l) (.int i u)) := by with_unfolding_all rfl) :
    wpAny (model prog w) A (subscriptTail value slice (.ref l) (.int i u)) Q E s := by
  subst h0
  have hl : s.heap.IsList l #[.str x t] := ⟨_, (N _ hm).1, rfl, n, rfl⟩
  exact tail_any hl.typeIs slot_list_getitem.lookup (wpAny_getItem_list hl (by decide) (by decide) (x := .str x t) rfl h) hs
end
end Mine
end
section
set_option linter.unusedVariables false
open PySem PySem.W PyProof.Rows PySem.Calls PySem.Spec
set_option maxRecDepth 100000
set_option maxHeartbeats 40000000
namespace Mine
local macro_rules | `(tactic| k_ne) => `(tactic| (refine neN ?_; (try dsimp only); first | exact Ap.ne (by assumption) | exact Ne.symm (Ap.ne (by assumption)) | omega))

theorem strsOr_pos {vs : List Value} {ts : List Str} (W : StrsAre vs ts) (h : 0 < ts.length) : StrsAre vs (tokOr ts) := by unfold tokOr; rw [if_neg (by omega)]; exact W
theorem strsOr_zero {ts : List Str} {t : Tok} (h : ts.length = 0) : StrsAre [.str (Str.ofString "1") t] (tokOr ts) := by unfold tokOr; rw [if_pos h]; exact .cons _ _ .nil
theorem sepOr_zero {bs : List Str} (h : bs.length = 0) : ∀ k : Int, 0 < k → atL [Str.ofString "."] (k - 1) = sepL bs k := by
  intro k hk
  rw [← sepL_zero h]
  have e : (if (([Str.ofString "."] : List Str).length : Int) - 1 < k - 1 then (([Str.ofString "."] : List Str).length : Int) - 1 else k - 1).toNat = 0 := by
    show (if ((1 : Int) - 1) < k - 1 then ((1 : Int) - 1) else k - 1).toNat = 0
    split <;> omega
  show ([Str.ofString "."] : List Str).getD _ Str.empty = _
  rw [e]; rfl
theorem point_len : ∀ u ∈ [Str.ofString "."], u.length ≤ 10 := by decide
theorem news4 {h₀ h : Heap} {L : Addr} {q1 q2 q3 q4 : Addr × Obj} {news : List (Addr × Obj)} (N : News h₀ L h news) (m1 : q1 ∈ news) (m2 : q2 ∈ news) (m3 : q3 ∈ news) (m4 : q4 ∈ news) : News h₀ L h [q1, q2, q3, q4] := by
  intro r hr
  simp only [List.mem_cons, List.not_mem_nil, or_false] at hr
  rcases hr with rfl | rfl | rfl | rfl
  · exact N _ m1
  · exact N _ m2
  · exact N _ m3
  · exact N _ m4
section
variable {prog : Program} {w : World} {p : Program} {loose : List Str} {mean : ExcName → Option Value} {mg mb : Str → Option Value}
end
namespace Hktaildoes
abbrev HkT : Type := (Program) × (World) × (Program) × (List Str) × (ExcName → Option Value) × (Str → Option Value) × (Str → Option Value) × (Nat) × (Nat) × (Option (List Code)) × (Str) × (Scope) × (Addr) × (Value) × (List (Str × Addr)) × (List Env) × (Heap) × (Heap) × (Heap) × (Heap) × (Addr) × (Addr) × (Addr) × (Addr) × (Addr) × (Addr) × (Str → Option Value) × (Str → Option Value) × (Shared) × (Nat) × (Nat) × (Nat) × (Nat) × (Result → Shared → Prop) × (List (Addr × Obj)) × (Int) × (Int) × (Int) × (Tok) × (Tok) × (Tok) × (Tok) × (Tok) × (Tok) × (Tok) × (Tok) × (List Value) × (List Value) × (List Value) × (List Str) × (List Str) × (List Str) × (List Int) × (Str) × (Str) × (Str)
def HkP0 (prog : Program) (w : World) (p : Program) (loose : List Str) (mean : ExcName → Option Value) (mg : Str → Option Value) (mb : Str → Option Value) (dp : Nat) (un : Nat) (gd : Option (List Code)) (cn : Str) (cs : Scope) (a : Addr) (ccd : Value) (cl : List (Str × Addr)) (outer : List Env) (base : Heap) (g : Heap) (h₀ : Heap) (h₁ : Heap) (L : Addr) (L' : Addr) (src : Addr) (tl : Addr) (bl : Addr) (nl : Addr) (m : Str → Option Value) (m₁ : Str → Option Value) (s : Shared) (tk : Nat) (n1 : Nat) (n2 : Nat) (nx : Nat) (R : Result → Shared → Prop) (sub : List (Addr × Obj)) (x : Int) (y : Int) (sz : Int) (tx : Tok) (ty : Tok) (t1 : Tok) (t2 : Tok) (t3 : Tok) (t4 : Tok) (t5 : Tok) (t6 : Tok) (vs : List Value) (us : List Value) (ys : List Value) (ts : List Str) (bs : List Str) (bb : List Str) (ns : List Int) (bf : Str) (af : Str) (se : Str) : Prop := ∀ (name qual : Str) (params : Arguments) (body : List Stmt) (scope : Scope) (dV kV doc pm cdv ct oc : Value) (an od : Option Addr) (osl : Array (Option Value)) (rest : List Stmt) (hb : rest = body.drop 10) (ho : (Mine.kk.heap_1 w.params).lookup 158 = some ⟨oc, od, .func (fnOf name qual params body scope dV kV doc pm an cdv ct), osl⟩) (xt : Str) (FG : Fr h₀ L g m) (B : Below (ktrTop dp un gd cn cs L a ccd cl outer) base (envX cn cs L a ccd cl :: outer) g) (X : (Mine.kk.heap_1 w.params).In g) (T : Top p loose mean mg mb g) (hd : dp + 8 < recursionLimit) (hu : un + 8 * 8 < cLine) (F₁ : Fr g L' h₁ m₁) (N₁ : News g L' h₁ [(nl, LCg.lst ys), (bl, listOf us.toArray n1), (tl, listOf vs.toArray n2), (src, srcO x tx y ty nx)]) (m1 : m₁ (Str.ofString "tokens") = some (.ref tl)) (m2 : m₁ (Str.ofString "between") = some (.ref bl)) (m3 : m₁ (Str.ofString "before") = some (.str bf t1)) (m4 : m₁ (Str.ofString "after") = some (.str af t2)) (m5 : m₁ (Str.ofString "text") = some (.str xt t3)) (m6 : m₁ (Str.ofString "due") = some (.str bf t4)) (m7 : m₁ (Str.ofString "numbers") = some (.ref nl)) (m8 : m₁ (Str.ofString "separator") = some (.str se t5)) (m9 : m₁ (Str.ofString "size") = some (.int sz t6)) (hx : 0 ≤ x) (hy0 : 0 ≤ y) (hy : y < 2147483647) (WT : StrsAre vs (tokOr ts)) (WB : StrsAre us bb) (WN : IntsAre ys ns) (hts : ∀ u ∈ ts, u ∈ TOKS) (htl : ts.length ≤ 3) (hbs : ∀ u ∈ bs, u ∈ BETW) (hbl : bs.length = ts.length - 1) (hbb : ∀ u ∈ bb, u.length ≤ 10) (hb0 : 0 < bb.length) (hb1 : bb.length ≤ 1000) (hbk : ∀ k : Int, 0 < k → atL bb (k - 1) = sepL bs k) (hns : ∀ n ∈ ns, n ∈ NEAR) (hnl : ns.length ≤ 4) (hq : (se, sz) ∈ SEPS) (hbf : bf ∈ BEFO) (haf : af ∈ AFTE) (haf0 : ts.length = 0 → af = Str.ofString "") (hxt : xt = textAll ts bs bf) (hxl : xt.length ≤ 100) (hR : ∀ h' tk' x' tx' y' ty' n', 0 ≤ x' → 0 ≤ y' → y' < 2147483647 → Fr h₀ L h' m → News h₀ L h' [(src, srcO x' tx' y' ty' n')] → Kept sub s.heap h' → R (.ok (.ret (.bool true))) { s with heap := h', toks := tk' }), wpAny (model prog w) ((ktrTop dp un gd cn cs L a ccd cl outer).deeper (envOfC qual scope L' 158 cdv)) (execs rest (envOfC qual scope L' 158 cdv))
      (fun fl s' => LeaveK h₀ L m g (fun r s' => Kept sub s.heap s'.heap → R r s') (match fl with | .ret v => v | _ => .none) s') (fun _ _ => False) { s with heap := h₁, toks := tk }
def HkP (c9 : HkT) : Prop := HkP0 c9.1 c9.2.1 c9.2.2.1 c9.2.2.2.1 c9.2.2.2.2.1 c9.2.2.2.2.2.1 c9.2.2.2.2.2.2.1 c9.2.2.2.2.2.2.2.1 c9.2.2.2.2.2.2.2.2.1 c9.2.2.2.2.2.2.2.2.2.1 c9.2.2.2.2.2.2.2.2.2.2.1 c9.2.2.2.2.2.2.2.2.2.2.2.1 c9.2.2.2.2.2.2.2.2.2.2.2.2.1 c9.2.2.2.2.2.2.2.2.2.2.2.2.2.1 c9.2.2.2.2.2.2.2.2.2.2.2.2.2.2.1 c9.2.2.2.2.2.2.2.2.2.2.2.2.2.2.2.1 c9.2.2.2.2.2.2.2.2.2.2.2.2.2.2.2.2.1 c9.2.2.2.2.2.2.2.2.2.2.2.2.2.2.2.2.2.1 c9.2.2.2.2.2.2.2.2.2.2.2.2.2.2.2.2.2.2.1 c9.2.2.2.2.2.2.2.2.2.2.2.2.2.2.2.2.2.2.2.1 c9.2.2.2.2.2.2.2.2.2.2.2.2.2.2.2.2.2.2.2.2.1 c9.2.2.2.2.2.2.2.2.2.2.2.2.2.2.2.2.2.2.2.2.2.1 c9.2.2.2.2.2.2.2.2.2.2.2.2.2.2.2.2.2.2.2.2.2.2.1 c9.2.2.2.2.2.2.2.2.2.2.2.2.2.2.2.2.2.2.2.2.2.2.2.1 c9.2.2.2.2.2.2.2.2.2.2.2.2.2.2.2.2.2.2.2.2.2.2.2.2.1 c9.2.2.2.2.2.2.2.2.2.2.2.2.2.2.2.2.2.2.2.2.2.2.2.2.2.1 c9.2.2.2.2.2.2.2.2.2.2.2.2.2.2.2.2.2.2.2.2.2.2.2.2.2.2.1 c9.2.2.2.2.2.2.2.2.2.2.2.2.2.2.2.2.2.2.2.2.2.2.2.2.2.2.2.1 c9.2.2.2.2.2.2.2.2.2.2.2.2.2.2.2.2.2.2.2.2.2.2.2.2.2.2.2.2.1 c9.2.2.2.2.2.2.2.2.2.2.2.2.2.2.2.2.2.2.2.2.2.2.2.2.2.2.2.2.2.1 c9.2.2.2.2.2.2.2.2.2.2.2.2.2.2.2.2.2.2.2.2.2.2.2.2.2.2.2.2.2.2.1 c9.2.2.2.2.2.2.2.2.2.2.2.2.2.2.2.2.2.2.2.2.2.2.2.2.2.2.2.2.2.2.2.1 c9.2.2.2.2.2.2.2.2.2.2.2.2.2.2.2.2.2.2.2.2.2.2.2.2.2.2.2.2.2.2.2.2.1 c9.2.2.2.2.2.2.2.2.2.2.2.2.2.2.2.2.2.2.2.2.2.2.2.2.2.2.2.2.2.2.2.2.2.1 c9.2.2.2.2.2.2.2.2.2.2.2.2.2.2.2.2.2.2.2.2.2.2.2.2.2.2.2.2.2.2.2.2.2.2.1 c9.2.2.2.2.2.2.2.2.2.2.2.2.2.2.2.2.2.2.2.2.2.2.2.2.2.2.2.2.2.2.2.2.2.2.2.1 c9.2.2.2.2.2.2.2.2.2.2.2.2.2.2.2.2.2.2.2.2.2.2.2.2.2.2.2.2.2.2.2.2.2.2.2.2.1 c9.2.2.2.2.2.2.2.2.2.2.2.2.2.2.2.2.2.2.2.2.2.2.2.2.2.2.2.2.2.2.2.2.2.2.2.2.2.1 c9.2.2.2.2.2.2.2.2.2.2.2.2.2.2.2.2.2.2.2.2.2.2.2.2.2.2.2.2.2.2.2.2.2.2.2.2.2.2.1 c9.2.2.2.2.2.2.2.2.2.2.2.2.2.2.2.2.2.2.2.2.2.2.2.2.2.2.2.2.2.2.2.2.2.2.2.2.2.2.2.1 c9.2.2.2.2.2.2.2.2.2.2.2.2.2.2.2.2.2.2.2.2.2.2.2.2.2.2.2.2.2.2.2.2.2.2.2.2.2.2.2.2.1 c9.2.2.2.2.2.2.2.2.2.2.2.2.2.2.2.2.2.2.2.2.2.2.2.2.2.2.2.2.2.2.2.2.2.2.2.2.2.2.2.2.2.1 c9.2.2.2.2.2.2.2.2.2.2.2.2.2.2.2.2.2.2.2.2.2.2.2.2.2.2.2.2.2.2.2.2.2.2.2.2.2.2.2.2.2.2.1 c9.2.2.2.2.2.2.2.2.2.2.2.2.2.2.2.2.2.2.2.2.2.2.2.2.2.2.2.2.2.2.2.2.2.2.2.2.2.2.2.2.2.2.2.1 c9.2.2.2.2.2.2.2.2.2.2.2.2.2.2.2.2.2.2.2.2.2.2.2.2.2.2.2.2.2.2.2.2.2.2.2.2.2.2.2.2.2.2.2.2.1 c9.2.2.2.2.2.2.2.2.2.2.2.2.2.2.2.2.2.2.2.2.2.2.2.2.2.2.2.2.2.2.2.2.2.2.2.2.2.2.2.2.2.2.2.2.2.1 c9.2.2.2.2.2.2.2.2.2.2.2.2.2.2.2.2.2.2.2.2.2.2.2.2.2.2.2.2.2.2.2.2.2.2.2.2.2.2.2.2.2.2.2.2.2.2.1 c9.2.2.2.2.2.2.2.2.2.2.2.2.2.2.2.2.2.2.2.2.2.2.2.2.2.2.2.2.2.2.2.2.2.2.2.2.2.2.2.2.2.2.2.2.2.2.2.1 c9.2.2.2.2.2.2.2.2.2.2.2.2.2.2.2.2.2.2.2.2.2.2.2.2.2.2.2.2.2.2.2.2.2.2.2.2.2.2.2.2.2.2.2.2.2.2.2.2.1 c9.2.2.2.2.2.2.2.2.2.2.2.2.2.2.2.2.2.2.2.2.2.2.2.2.2.2.2.2.2.2.2.2.2.2.2.2.2.2.2.2.2.2.2.2.2.2.2.2.2.1 c9.2.2.2.2.2.2.2.2.2.2.2.2.2.2.2.2.2.2.2.2.2.2.2.2.2.2.2.2.2.2.2.2.2.2.2.2.2.2.2.2.2.2.2.2.2.2.2.2.2.2.1 c9.2.2.2.2.2.2.2.2.2.2.2.2.2.2.2.2.2.2.2.2.2.2.2.2.2.2.2.2.2.2.2.2.2.2.2.2.2.2.2.2.2.2.2.2.2.2.2.2.2.2.2.1 c9.2.2.2.2.2.2.2.2.2.2.2.2.2.2.2.2.2.2.2.2.2.2.2.2.2.2.2.2.2.2.2.2.2.2.2.2.2.2.2.2.2.2.2.2.2.2.2.2.2.2.2.2.1 c9.2.2.2.2.2.2.2.2.2.2.2.2.2.2.2.2.2.2.2.2.2.2.2.2.2.2.2.2.2.2.2.2.2.2.2.2.2.2.2.2.2.2.2.2.2.2.2.2.2.2.2.2.2.1 c9.2.2.2.2.2.2.2.2.2.2.2.2.2.2.2.2.2.2.2.2.2.2.2.2.2.2.2.2.2.2.2.2.2.2.2.2.2.2.2.2.2.2.2.2.2.2.2.2.2.2.2.2.2.2.1 c9.2.2.2.2.2.2.2.2.2.2.2.2.2.2.2.2.2.2.2.2.2.2.2.2.2.2.2.2.2.2.2.2.2.2.2.2.2.2.2.2.2.2.2.2.2.2.2.2.2.2.2.2.2.2.2
noncomputable def HkD : HkT := ((default), (w00), (default), ([]), (fun _ => none), (fun _ => none), (fun _ => none), ((0 : Nat)), ((0 : Nat)), (none), (Str.empty), (default), ((0 : Nat)), (Value.none), ([]), ([]), (default), (default), (default), (default), ((0 : Nat)), ((0 : Nat)), ((0 : Nat)), ((0 : Nat)), ((0 : Nat)), ((0 : Nat)), (fun _ => none), (fun _ => none), ({}), ((0 : Nat)), ((0 : Nat)), ((0 : Nat)), ((0 : Nat)), (fun _ _ => True), ([]), ((0 : Int)), ((0 : Int)), ((0 : Int)), ((0 : Nat)), ((0 : Nat)), ((0 : Nat)), ((0 : Nat)), ((0 : Nat)), ((0 : Nat)), ((0 : Nat)), ((0 : Nat)), ([]), ([]), ([]), ([]), ([]), ([]), ([]), (Str.empty), (Str.empty), (Str.empty))
@[irreducible] noncomputable def HkC : HkT := hkEps HkD HkP
noncomputable def prog : Program := HkC.1
noncomputable def w : World := HkC.2.1
noncomputable def p : Program := HkC.2.2.1
noncomputable def loose : List Str := HkC.2.2.2.1
noncomputable def mean : ExcName → Option Value := HkC.2.2.2.2.1
noncomputable def mg : Str → Option Value := HkC.2.2.2.2.2.1
noncomputable def mb : Str → Option Value := HkC.2.2.2.2.2.2.1
noncomputable def dp : Nat := HkC.2.2.2.2.2.2.2.1
noncomputable def un : Nat := HkC.2.2.2.2.2.2.2.2.1
noncomputable def gd : Option (List Code) := HkC.2.2.2.2.2.2.2.2.2.1
noncomputable def cn : Str := HkC.2.2.2.2.2.2.2.2.2.2.1
noncomputable def cs : Scope := HkC.2.2.2.2.2.2.2.2.2.2.2.1
noncomputable def a : Addr := HkC.2.2.2.2.2.2.2.2.2.2.2.2.1
noncomputable def ccd : Value := HkC.2.2.2.2.2.2.2.2.2.2.2.2.2.1
noncomputable def cl : List (Str × Addr) := HkC.2.2.2.2.2.2.2.2.2.2.2.2.2.2.1
noncomputable def outer : List Env := HkC.2.2.2.2.2.2.2.2.2.2.2.2.2.2.2.1
noncomputable def base : Heap := HkC.2.2.2.2.2.2.2.2.2.2.2.2.2.2.2.2.1
noncomputable def g : Heap := HkC.2.2.2.2.2.2.2.2.2.2.2.2.2.2.2.2.2.1
noncomputable def h₀ : Heap := HkC.2.2.2.2.2.2.2.2.2.2.2.2.2.2.2.2.2.2.1
noncomputable def h₁ : Heap := HkC.2.2.2.2.2.2.2.2.2.2.2.2.2.2.2.2.2.2.2.1
noncomputable def L : Addr := HkC.2.2.2.2.2.2.2.2.2.2.2.2.2.2.2.2.2.2.2.2.1
noncomputable def L' : Addr := HkC.2.2.2.2.2.2.2.2.2.2.2.2.2.2.2.2.2.2.2.2.2.1
noncomputable def src : Addr := HkC.2.2.2.2.2.2.2.2.2.2.2.2.2.2.2.2.2.2.2.2.2.2.1
noncomputable def tl : Addr := HkC.2.2.2.2.2.2.2.2.2.2.2.2.2.2.2.2.2.2.2.2.2.2.2.1
noncomputable def bl : Addr := HkC.2.2.2.2.2.2.2.2.2.2.2.2.2.2.2.2.2.2.2.2.2.2.2.2.1
noncomputable def nl : Addr := HkC.2.2.2.2.2.2.2.2.2.2.2.2.2.2.2.2.2.2.2.2.2.2.2.2.2.1
noncomputable def m : Str → Option Value := HkC.2.2.2.2.2.2.2.2.2.2.2.2.2.2.2.2.2.2.2.2.2.2.2.2.2.2.1
noncomputable def m₁ : Str → Option Value := HkC.2.2.2.2.2.2.2.2.2.2.2.2.2.2.2.2.2.2.2.2.2.2.2.2.2.2.2.1
noncomputable def s : Shared := HkC.2.2.2.2.2.2.2.2.2.2.2.2.2.2.2.2.2.2.2.2.2.2.2.2.2.2.2.2.1
noncomputable def tk : Nat := HkC.2.2.2.2.2.2.2.2.2.2.2.2.2.2.2.2.2.2.2.2.2.2.2.2.2.2.2.2.2.1
noncomputable def n1 : Nat := HkC.2.2.2.2.2.2.2.2.2.2.2.2.2.2.2.2.2.2.2.2.2.2.2.2.2.2.2.2.2.2.1
noncomputable def n2 : Nat := HkC.2.2.2.2.2.2.2.2.2.2.2.2.2.2.2.2.2.2.2.2.2.2.2.2.2.2.2.2.2.2.2.1
noncomputable def nx : Nat := HkC.2.2.2.2.2.2.2.2.2.2.2.2.2.2.2.2.2.2.2.2.2.2.2.2.2.2.2.2.2.2.2.2.1
noncomputable def R : Result → Shared → Prop := HkC.2.2.2.2.2.2.2.2.2.2.2.2.2.2.2.2.2.2.2.2.2.2.2.2.2.2.2.2.2.2.2.2.2.1
noncomputable def sub : List (Addr × Obj) := HkC.2.2.2.2.2.2.2.2.2.2.2.2.2.2.2.2.2.2.2.2.2.2.2.2.2.2.2.2.2.2.2.2.2.2.1
noncomputable def x : Int := HkC.2.2.2.2.2.2.2.2.2.2.2.2.2.2.2.2.2.2.2.2.2.2.2.2.2.2.2.2.2.2.2.2.2.2.2.1
noncomputable def y : Int := HkC.2.2.2.2.2.2.2.2.2.2.2.2.2.2.2.2.2.2.2.2.2.2.2.2.2.2.2.2.2.2.2.2.2.2.2.2.1
noncomputable def sz : Int := HkC.2.2.2.2.2.2.2.2.2.2.2.2.2.2.2.2.2.2.2.2.2.2.2.2.2.2.2.2.2.2.2.2.2.2.2.2.2.1
noncomputable def tx : Tok := HkC.2.2.2.2.2.2.2.2.2.2.2.2.2.2.2.2.2.2.2.2.2.2.2.2.2.2.2.2.2.2.2.2.2.2.2.2.2.2.1
noncomputable def ty : Tok := HkC.2.2.2.2.2.2.2.2.2.2.2.2.2.2.2.2.2.2.2.2.2.2.2.2.2.2.2.2.2.2.2.2.2.2.2.2.2.2.2.1
noncomputable def t1 : Tok := HkC.2.2.2.2.2.2.2.2.2.2.2.2.2.2.2.2.2.2.2.2.2.2.2.2.2.2.2.2.2.2.2.2.2.2.2.2.2.2.2.2.1
noncomputable def t2 : Tok := HkC.2.2.2.2.2.2.2.2.2.2.2.2.2.2.2.2.2.2.2.2.2.2.2.2.2.2.2.2.2.2.2.2.2.2.2.2.2.2.2.2.2.1
noncomputable def t3 : Tok := HkC.2.2.2.2.2.2.2.2.2.2.2.2.2.2.2.2.2.2.2.2.2.2.2.2.2.2.2.2.2.2.2.2.2.2.2.2.2.2.2.2.2.2.1
noncomputable def t4 : Tok := HkC.2.2.2.2.2.2.2.2.2.2.2.2.2.2.2.2.2.2.2.2.2.2.2.2.2.2.2.2.2.2.2.2.2.2.2.2.2.2.2.2.2.2.2.1
noncomputable def t5 : Tok := HkC.2.2.2.2.2.2.2.2.2.2.2.2.2.2.2.2.2.2.2.2.2.2.2.2.2.2.2.2.2.2.2.2.2.2.2.2.2.2.2.2.2.2.2.2.1
noncomputable def t6 : Tok := HkC.2.2.2.2.2.2.2.2.2.2.2.2.2.2.2.2.2.2.2.2.2.2.2.2.2.2.2.2.2.2.2.2.2.2.2.2.2.2.2.2.2.2.2.2.2.1
noncomputable def vs : List Value := HkC.2.2.2.2.2.2.2.2.2.2.2.2.2.2.2.2.2.2.2.2.2.2.2.2.2.2.2.2.2.2.2.2.2.2.2.2.2.2.2.2.2.2.2.2.2.2.1
noncomputable def us : List Value := HkC.2.2.2.2.2.2.2.2.2.2.2.2.2.2.2.2.2.2.2.2.2.2.2.2.2.2.2.2.2.2.2.2.2.2.2.2.2.2.2.2.2.2.2.2.2.2.2.1
noncomputable def ys : List Value := HkC.2.2.2.2.2.2.2.2.2.2.2.2.2.2.2.2.2.2.2.2.2.2.2.2.2.2.2.2.2.2.2.2.2.2.2.2.2.2.2.2.2.2.2.2.2.2.2.2.1
noncomputable def ts : List Str := HkC.2.2.2.2.2.2.2.2.2.2.2.2.2.2.2.2.2.2.2.2.2.2.2.2.2.2.2.2.2.2.2.2.2.2.2.2.2.2.2.2.2.2.2.2.2.2.2.2.2.1
noncomputable def bs : List Str := HkC.2.2.2.2.2.2.2.2.2.2.2.2.2.2.2.2.2.2.2.2.2.2.2.2.2.2.2.2.2.2.2.2.2.2.2.2.2.2.2.2.2.2.2.2.2.2.2.2.2.2.1
noncomputable def bb : List Str := HkC.2.2.2.2.2.2.2.2.2.2.2.2.2.2.2.2.2.2.2.2.2.2.2.2.2.2.2.2.2.2.2.2.2.2.2.2.2.2.2.2.2.2.2.2.2.2.2.2.2.2.2.1
noncomputable def ns : List Int := HkC.2.2.2.2.2.2.2.2.2.2.2.2.2.2.2.2.2.2.2.2.2.2.2.2.2.2.2.2.2.2.2.2.2.2.2.2.2.2.2.2.2.2.2.2.2.2.2.2.2.2.2.2.1
noncomputable def bf : Str := HkC.2.2.2.2.2.2.2.2.2.2.2.2.2.2.2.2.2.2.2.2.2.2.2.2.2.2.2.2.2.2.2.2.2.2.2.2.2.2.2.2.2.2.2.2.2.2.2.2.2.2.2.2.2.1
noncomputable def af : Str := HkC.2.2.2.2.2.2.2.2.2.2.2.2.2.2.2.2.2.2.2.2.2.2.2.2.2.2.2.2.2.2.2.2.2.2.2.2.2.2.2.2.2.2.2.2.2.2.2.2.2.2.2.2.2.2.1
noncomputable def se : Str := HkC.2.2.2.2.2.2.2.2.2.2.2.2.2.2.2.2.2.2.2.2.2.2.2.2.2.2.2.2.2.2.2.2.2.2.2.2.2.2.2.2.2.2.2.2.2.2.2.2.2.2.2.2.2.2.2
theorem HkAt : HkP0 prog w p loose mean mg mb dp un gd cn cs a ccd cl outer base g h₀ h₁ L L' src tl bl nl m m₁ s tk n1 n2 nx R sub x y sz tx ty t1 t2 t3 t4 t5 t6 vs us ys ts bs bb ns bf af se := by
  unfold HkP0
  intro name qual params body scope dV kV doc pm cdv ct oc an od osl rest hb ho xt FG B X T hd hu F₁ N₁ m1 m2 m3 m4 m5 m6 m7 m8 m9 hx hy0 hy WT WB WN hts htl hbs hbl hbb hb0 hb1 hbk hns hnl hq hbf haf haf0 hxt hxl hR
  subst hb
  have hz := fillK; revert hz; k_fill; intro _
  k_with_none
  w_top off
  k_with "*" => first | ((with_reducible show wpAny _ _ _ _ _ (Shared.mk _ _ _ (_ + _ + _) _)); refine st_norm (s0 := s) rfl rfl rfl fun _ => ?_) | ((with_reducible show wpAny _ _ (eval _ _) _ _ _); k_fold)
  k_with "execs cons" => (k_here; first | ((rename News _ _ _ _ => N6); dsimp only at N6) | ((rename Fr _ _ _ _ => F6); dsimp only at F6))
  k_with "call ref" => (k_here; k_dflt (refine' Does.use (lawOneP_does _ _ _ _ _ _ _ _ _ _ _ ?U ?M ?hne ?h0 ?h1 ?h2 ?W ?hl ?hl2) ?k1 ?k2 ?k3 ?k4 ?k5 ?kK ?kd ?ku ?_; (case k1 => k_asm); (case k2 => k_asm); (case k3 => k_asm); (case k4 => k_asm); (case M => k_mem); (case W => (refine' PairsAre.cons ?pm1 ?pn1 ?pq1 (PairsAre.cons ?pm2 ?pn2 ?pq2 (PairsAre.cons ?pm3 ?pn3 ?pq3 (PairsAre.cons ?pm4 ?pn4 ?pq4 (PairsAre.cons ?pm5 ?pn5 ?pq5 PairsAre.nil)))); (case pm1 => k_mem); (case pn1 => k_ne); (case pq1 => (with_reducible first | exact seps_1 | exact seps_2 | exact seps_3 | exact seps_4)); (case pm2 => k_mem); (case pn2 => k_ne); (case pq2 => (with_reducible first | exact seps_1 | exact seps_2 | exact seps_3 | exact seps_4)); (case pm3 => k_mem); (case pn3 => k_ne); (case pq3 => (with_reducible first | exact seps_1 | exact seps_2 | exact seps_3 | exact seps_4)); (case pm4 => k_mem); (case pn4 => k_ne); (case pq4 => (with_reducible first | exact seps_1 | exact seps_2 | exact seps_3 | exact seps_4)); (case pm5 => k_mem); (case pn5 => k_ne); (case pq5 => (with_reducible first | exact seps_1 | exact seps_2 | exact seps_3 | exact seps_4)))); (case k5 => k_asm); (case kK => first | exact rfl | assumption); (case kd => ktr_room); (case ku => ktr_units); (case U => k_updF); (case hne => k_ne); (case h0 => assumption); (case h1 => assumption); (case h2 => assumption); (case hl => exact Nat.le_of_ble_eq_true rfl); (case hl2 => exact Nat.le_of_ble_eq_true rfl); (try dsimp only)); intro a9 se9 sz9 ts9 ti9 x9 tx9 y9 ty9 n9 hq9 hm9 hx9 hy9 hy9b h9 tk9 F9 N9; (try k_fold))
  k_with "call ref" => (k_here; k_dflt (refine' Does.use (lawOneI_does _ _ _ _ _ _ _ _ _ _ _ _ ?U ?M ?hne ?h0 ?h1 ?h2 ?W ?hl ?hl2) ?k1 ?k2 ?k3 ?k4 ?k5 ?kK ?kd ?ku ?_; (case k1 => k_asm); (case k2 => k_asm); (case k3 => k_asm); (case k4 => k_asm); (case M => k_mem); (case W => exact (IntsAre.cons _ _ (IntsAre.cons _ _ (IntsAre.cons _ _ (IntsAre.cons _ _ (IntsAre.cons _ _ (IntsAre.cons _ _ (IntsAre.cons _ _ (IntsAre.cons _ _ (IntsAre.cons _ _ (IntsAre.cons _ _ (IntsAre.cons _ _ (IntsAre.cons _ _ (IntsAre.cons _ _ (IntsAre.cons _ _ (IntsAre.cons _ _ (IntsAre.cons _ _ (IntsAre.cons _ _ (IntsAre.cons _ _ (IntsAre.cons _ _ (IntsAre.cons _ _ IntsAre.nil))))))))))))))))))))); (case k5 => k_asm); (case kK => first | exact rfl | assumption); (case kd => ktr_room); (case ku => ktr_units); (case U => k_updF); (case hne => k_ne); (case h0 => assumption); (case h1 => assumption); (case h2 => assumption); (case hl => exact Nat.le_of_ble_eq_true rfl); (case hl2 => exact Nat.le_of_ble_eq_true rfl); (try dsimp only)); intro v9 t9 x9 tx9 y9 ty9 n9 hv9 hx9 hy9 hy9b h9 tk9 F9 N9; (try k_fold))
  k_with "call ref" => (k_here; k_dflt (refine' Does.use (lawOneS_does _ _ _ _ _ _ _ _ _ _ _ _ ?U ?M ?hne ?h0 ?h1 ?h2 ?W ?hl ?hl2) ?k1 ?k2 ?k3 ?k4 ?k5 ?kK ?kd ?ku ?_; (case k1 => k_asm); (case k2 => k_asm); (case k3 => k_asm); (case k4 => k_asm); (case M => k_mem); (case W => first | exact (StrsAre.cons _ _ (StrsAre.cons _ _ (StrsAre.cons _ _ (StrsAre.cons _ _ (StrsAre.cons _ _ (StrsAre.cons _ _ (StrsAre.cons _ _ (StrsAre.cons _ _ StrsAre.nil)))))))) | exact (StrsAre.cons _ _ (StrsAre.cons _ _ (StrsAre.cons _ _ (StrsAre.cons _ _ StrsAre.nil))))); (case k5 => k_asm); (case kK => first | exact rfl | assumption); (case kd => ktr_room); (case ku => ktr_units); (case U => k_updF); (case hne => k_ne); (case h0 => assumption); (case h1 => assumption); (case h2 => assumption); (case hl => exact Nat.le_of_ble_eq_true rfl); (case hl2 => exact Nat.le_of_ble_eq_true rfl); (try dsimp only)); intro v9 t9 x9 tx9 y9 ty9 n9 hv9 hx9 hy9 hy9b h9 tk9 F9 N9; (try k_fold))
  k_with "call ref" => (k_here; k_dflt (refine' Does.use (take_does _ _ _ _ _ _ _ _ _ _ ?U ?h0 ?h1 ?h2 ?h3 ?h4) ?k1 ?k2 ?k3 ?k4 ?k5 ?kK ?kd ?ku ?_; (case k1 => k_asm); (case k2 => k_asm); (case k3 => k_asm); (case k4 => k_asm); (case k5 => k_asm); (case kK => first | exact rfl | assumption); (case kd => ktr_room); (case ku => ktr_units); (case U => k_updF); (case h0 => assumption); (case h1 => assumption); (case h2 => assumption); (case h3 => omega); (case h4 => omega); (try dsimp only)); intro d9 t9 x9 tx9 y9 ty9 n9 hd9 hd9b hx9 hy9 hy9b h9 tk9 F9 N9; (try k_fold))
  k_with "CompSrc" => (k_here; k_dflt (refine LCg.CompSrc.range (by rfl) (by k_asm) (by k_asm) (by assumption) (by first | exact small_one (by kcf_bnd) (by kcf_bnd) (by kcf_bnd) (by kcf_bnd) | decide) (by first | exact rangeSize_nat _ _ | rfl) (by (rw [PySem.sizeLine_eq]; omega)) ?_; intro g'); k_extra "draws")
  k_with "CompEnd" => (k_dflt (refine' draw_end ?F ?N ?sub ?off ?h0 ?h1 ?h2 ?hv; (case F => assumption); (case N => assumption); (case sub => ((repeat (refine forall_sub_cons (by k_mem) ?_)); exact List.forall_mem_nil _)); (case off => first | (rename LCg.Off3 _ _ _ _ => q9; exact q9) | lcg_off); (case h0 => assumption); (case h1 => assumption); (case h2 => assumption); (case hv => exact ⟨_, _, rfl, by assumption⟩)))
  k_with "compareOp Eq ref ref" => (k_here; k_dflt (refine' eq_nil_split ?xN ?xa ?xw ?xb ?xu ?_ ?_; (case xN => k_asm); (case xa => k_mem); (case xw => assumption); (case xb => k_mem); (case xu => ktr_units)); all_goals intro hs9)
  k_with "compareOp NotEq ref ref" => (first | (k_here; k_dflt (refine' ne_nil_split ?xN ?xa ?xw ?xb ?xu ?_ ?_; (case xN => k_asm); (case xa => k_mem); (case xw => assumption); (case xb => k_mem); (case xu => ktr_units)); all_goals (intro hs9; try (exfalso; omega))))
  k_with "InvEndN" => (k_dflt kst_close)
  k_with "subscriptTail Name BinOp ref int" => (k_here; k_dflt (refine' str_item ?xN ?xm ?xw ?x0 ?x1 ?xf ?_ ?xs; (case xN => k_asm); (case xm => k_mem); (case xw => assumption); (case x0 => omega); (case x1 => omega); (case xf => omega); (case xs => with_unfolding_all rfl)); intro t9)
  k_with "subscriptTail Name Name ref int" => (k_here; k_dflt (first
  | (refine' str_item ?xN ?xm ?xw ?x0 ?x1 ?xf ?_ ?xs; (case xN => k_asm); (case xm => k_mem); (case xw => assumption); (case x0 => omega); (case x1 => omega); (case xf => omega); (case xs => with_unfolding_all rfl))
  | (refine' int_item ?xN ?xm ?xw ?x0 ?x1 ?xf ?_ ?xs; (case xN => k_asm); (case xm => k_mem); (case xw => assumption); (case x0 => omega); (case x1 => omega); (case xf => omega); (case xs => with_unfolding_all rfl))); intro t9)
  k_with "binaryOp Add str str" => (k_here; (with_reducible show wpAny _ _ (binaryOp Operator.Add (Value.str _ _) (Value.str (List.getD _ _ _) _)) _ _ _); k_dflt (refine' add_strB 10 ?xa ?xb ?xc ?_; (case xa => omega); (case xb => exact strD_len (by assumption) _); (case xc => decide)); intro _ _ _)
  k_with "binaryOp Add str str" => (k_here; (with_reducible show wpAny _ _ (binaryOp Operator.Add (Value.str _ _) (Value.str (Str.ofString "") _)) _ _ _); k_dflt (refine' add_strB 0 ?xa ?xb ?xc ?_; (case xa => omega); (case xb => decide); (case xc => decide)); intro _ _ _)
  k_with "assign Tuple" => (k_here; (with_reducible show wpAny _ _ (assign (Expr.Tuple _ _ _) _ (Value.ref _)) _ _ _); k_dflt (refine' unpackN_ ?F ?N ?T ?k1 ?k2 ?k3 ?_; (case F => k_asm); (case N => k_asm); (case T => exact News.isTup (by k_asm) (by assumption)); (case k1 => exact rfl); (case k2 => exact rfl); (case k3 => exact rfl)); intro h' F' N'; (try k_sweep))
  k_with "binaryOp Add str str" => (k_here; (with_reducible show wpAny _ _ (binaryOp Operator.Add (Value.str _ _) (Value.str _ _)) _ _ _); k_dflt (refine' add_strB 10 ?xa ?xb ?xc ?_; (case xa => omega); (case xb => exact afte_len _ (by assumption)); (case xc => decide)); intro _ _ _)
  k_with "binaryOp Add str str" => (k_here; (with_reducible show wpAny _ _ (binaryOp Operator.Add (Value.str _ _) (Value.str (Str.ofString _) _)) _ _ _); k_dflt (refine' add_strB 10 ?xa ?xb ?xc ?_; (case xa => omega); (case xb => decide); (case xc => decide)); intro _ _ _)
  k_with "binaryOp Add str str" => (k_here; (with_reducible show wpAny _ _ (binaryOp Operator.Add (Value.str _ _) (Value.str (atL _ _) _)) _ _ _); k_dflt (refine' add_strB 10 ?xa ?xb ?xc ?_; (case xa => omega); (case xb => exact atL_len (by assumption) _); (case xc => decide)); intro _ _ _)
  k_with "binaryOp Add str str" => (k_here; (with_reducible show wpAny _ _ (binaryOp Operator.Add (Value.str _ _) (Value.str (oneV _ _ _ _) _)) _ _ _); k_dflt (refine' add_strB 16 ?xa ?xb ?xc ?_; (case xa => omega); (case xb => exact oneV_len (near_at (by assumption) (by omega) (by omega)) (by first | exact one_tok | exact tok_at (by assumption) (by assumption) _) (by assumption)); (case xc => decide)); intro _ _ _)
  k_with "subscriptTail Name Call ref int" => (k_here; k_dflt (first | (refine' str_itemA ?xN ?xm ?xw ?xi ?x0 ?x1 ?xf ?_ ?xs; (case xN => k_asm); (case xm => k_mem); (case xw => with_reducible assumption); (case xi => with_reducible_and_instances rfl); (case x0 => omega); (case x1 => omega); (case xf => omega); (case xs => with_unfolding_all rfl); intro t9) | (refine' one_item ?xN ?xm ?x0 ?_ ?xs; (case xN => k_asm); (case xm => k_mem); (case x0 => split <;> omega); (case xs => with_unfolding_all rfl))))
  k_with "call ref" => (k_here; k_dflt (refine' Does.use (lawNum_does _ _ _ _ _ _ _ _ _ ?h0 ?h1 ?h2) ?k1 ?k2 ?k3 ?k4 ?k5 ?kK ?kd ?ku ?_; (case k1 => k_asm); (case k2 => k_asm); (case k3 => k_asm); (case k4 => k_asm); (case k5 => k_asm); (case kK => first | exact rfl | assumption); (case kd => ktr_room); (case ku => ktr_units); (case h0 => exact near_at (by assumption) (by omega) (by omega)); (case h1 => first | exact one_tok | exact tok_at (by assumption) (by assumption) _); (case h2 => assumption); (try dsimp only)); intro t9 h9 tk9 F9 N9; (try k_fold))
  k_with "call ref" => (k_here; k_dflt (refine' Does.use (formatted_does _ _ _ _ _ _ _ _ _ _ _ ?hx ?M ?W ?hn1 ?hns ?hq ?S ?hts ?hml ?ht0 ?ht1 ?hbf ?haf ?hbs) ?k1 ?k2 ?k3 ?k4 ?k5 ?kK ?kd ?ku ?_; (case k1 => k_asm); (case k2 => k_asm); (case k3 => k_asm); (case k4 => k_asm); (case k5 => k_asm); (case kK => first | exact rfl | assumption); (case kd => ktr_room); (case ku => ktr_units); (case M => k_mem); (case W => assumption); (case hx => assumption); (case hn1 => assumption); (case hns => assumption); (case hq => assumption); (case S => assumption); (case hts => assumption); (case hml => assumption); (case ht0 => assumption); (case ht1 => assumption); (case hbf => assumption); (case haf => assumption); (case hbs => assumption); (try dsimp only)); intro t9 h9 tk9 F9 N9; (try k_fold))
  obtain ⟨e1, e2, e3, e4⟩ := fn_inj ho (by k_is)
  clear ho
  subst e1 e2 e3 e4
  simp only [List.drop_succ_cons, List.drop_zero]
  have hS : MySub sub := trivial
  have F₂ := fr_norm (ps := [(Str.ofString "tokens", .ref tl), (Str.ofString "between", .ref bl), (Str.ofString "before", .str bf t1), (Str.ofString "after", .str af t2), (Str.ofString "text", .str xt t3), (Str.ofString "due", .str bf t4), (Str.ofString "numbers", .ref nl), (Str.ofString "separator", .str se t5), (Str.ofString "size", .int sz t6)]) (by simp only [List.forall_mem_cons, List.not_mem_nil, false_implies, implies_true, and_true]; exact ⟨m1, m2, m3, m4, m5, m6, m7, m8, m9⟩) F₁
  clear F₁ m1 m2 m3 m4 m5 m6 m7 m8 m9
  dsimp only [kstB] at F₂
  have hbd : ∀ u ∈ bs, u.length ≤ 10 := fun u hu => betw_len u (hbs u hu)
  subst hxt
  have SH := shape_any hbf haf hts hbs hbl htl haf0
  have MA := mids_any hbl htl
  have hTT := tokOr_all hts
  have hTL := tokOr_len ts
  have hF1 : ∀ u ∈ tokF (mids ts bs), u ∈ TOKS := by rw [MA.1]; exact hTT
  have hF2 : (mids ts bs).length ≤ 10 := MA.2.2
  have hF3 : 0 < (tokF (mids ts bs)).length := by rw [MA.1]; exact tokOr_len ts
  have hTM : (tokOr ts).length ≤ 1000 := by unfold tokOr; split; · decide
                                            · omega
  have hF4 : (tokF (mids ts bs)).length ≤ 1000 := by rw [MA.1]; exact hTM
  have hF5 : ∀ u ∈ texts (fun b => !b) (mids ts bs), u.length ≤ 10 := by rw [MA.2.1]; exact hbd
  have hF6 : bf.length ≤ 10 := befo_len _ hbf
  have hF7 : af.length ≤ 10 := afte_len _ haf
  have hF8 : (textAll ts bs bf ++ af).length ≤ 200 := by rw [Str.length_append]; omega
  k_with "pyIter ref" => k_state_given ["before", "separator", "size"] (fun bf se sz pre f => f = pre.foldl (fmtStep ns (tokOr ts) bs se sz) bf ∧ f.length ≤ 10 + 30 * pre.length) "due"
  k_with "state" => k_dflt (first | exact due_start (by assumption) | exact due_pos (by assumption) (by assumption) (by assumption) (by assumption) (by assumption) (by assumption) (by omega) (by omega) (by first | assumption | omega) rfl (hbk _ (by first | assumption | omega)) | exact due_neg (by assumption) (by assumption) (by assumption) (by assumption) (by assumption) (by omega) (by omega) (by first | assumption | omega) rfl)
  k_steps
  all_goals
    refine' leaveK_ ?k1 ?k2 ?_
    (case k1 => k_asm)
    (case k2 => k_asm)
    intro kF kN kK
    rename _ = List.foldl (fmtStep _ _ _ _ _) _ _ => hf9
    rw [MA.1, MA.2.1, fmt_end hf9, beq_self_eq_true]
    k_dflt (refine' hR _ _ _ _ _ _ _ ?ea ?eb ?ec kF (news_one kN ?ed) kK; (case ed => k_mem); (case ea => assumption); (case eb => assumption); (case ec => assumption))
theorem HkEq : HkC = hkEps HkD HkP := by unfold HkC; rfl
end Hktaildoes
theorem tail_does {prog : Program} {w : World} {p : Program} {loose : List Str} {mean : ExcName → Option Value} {mg mb : Str → Option Value} {name qual : Str} {params : Arguments} {body : List Stmt} {scope : Scope} {dV kV doc pm cdv ct oc : Value} {an od : Option Addr} {osl : Array (Option Value)} {rest : List Stmt} (hb : rest = body.drop 10) (ho : (Mine.kk.heap_1 w.params).lookup 158 = some ⟨oc, od, .func (fnOf name qual params body scope dV kV doc pm an cdv ct), osl⟩) {dp un : Nat} {gd : Option (List Code)} {cn : Str} {cs : Scope} {a : Addr} {ccd : Value} {cl : List (Str × Addr)} {outer : List Env} {base g h₀ h₁ : Heap} {L L' src tl bl nl : Addr} {m m₁ : Str → Option Value} {s : Shared} {tk n1 n2 nx : Nat} {R : Result → Shared → Prop} {sub : List (Addr × Obj)} {x y sz : Int} {tx ty t1 t2 t3 t4 t5 t6 : Tok} {vs us ys : List Value} {ts bs bb : List Str} {ns : List Int} {bf af xt se : Str} (FG : Fr h₀ L g m) (B : Below (ktrTop dp un gd cn cs L a ccd cl outer) base (envX cn cs L a ccd cl :: outer) g) (X : (Mine.kk.heap_1 w.params).In g) (T : Top p loose mean mg mb g) (hd : dp + 8 < recursionLimit) (hu : un + 8 * 8 < cLine) (F₁ : Fr g L' h₁ m₁) (N₁ : News g L' h₁ [(nl, LCg.lst ys), (bl, listOf us.toArray n1), (tl, listOf vs.toArray n2), (src, srcO x tx y ty nx)]) (m1 : m₁ (Str.ofString "tokens") = some (.ref tl)) (m2 : m₁ (Str.ofString "between") = some (.ref bl)) (m3 : m₁ (Str.ofString "before") = some (.str bf t1)) (m4 : m₁ (Str.ofString "after") = some (.str af t2)) (m5 : m₁ (Str.ofString "text") = some (.str xt t3)) (m6 : m₁ (Str.ofString "due") = some (.str bf t4)) (m7 : m₁ (Str.ofString "numbers") = some (.ref nl)) (m8 : m₁ (Str.ofString "separator") = some (.str se t5)) (m9 : m₁ (Str.ofString "size") = some (.int sz t6)) (hx : 0 ≤ x) (hy0 : 0 ≤ y) (hy : y < 2147483647) (WT : StrsAre vs (tokOr ts)) (WB : StrsAre us bb) (WN : IntsAre ys ns) (hts : ∀ u ∈ ts, u ∈ TOKS) (htl : ts.length ≤ 3) (hbs : ∀ u ∈ bs, u ∈ BETW) (hbl : bs.length = ts.length - 1) (hbb : ∀ u ∈ bb, u.length ≤ 10) (hb0 : 0 < bb.length) (hb1 : bb.length ≤ 1000) (hbk : ∀ k : Int, 0 < k → atL bb (k - 1) = sepL bs k) (hns : ∀ n ∈ ns, n ∈ NEAR) (hnl : ns.length ≤ 4) (hq : (se, sz) ∈ SEPS) (hbf : bf ∈ BEFO) (haf : af ∈ AFTE) (haf0 : ts.length = 0 → af = Str.ofString "") (hxt : xt = textAll ts bs bf) (hxl : xt.length ≤ 100) (hR : ∀ h' tk' x' tx' y' ty' n', 0 ≤ x' → 0 ≤ y' → y' < 2147483647 → Fr h₀ L h' m → News h₀ L h' [(src, srcO x' tx' y' ty' n')] → Kept sub s.heap h' → R (.ok (.ret (.bool true))) { s with heap := h', toks := tk' }) :
    wpAny (model prog w) ((ktrTop dp un gd cn cs L a ccd cl outer).deeper (envOfC qual scope L' 158 cdv)) (execs rest (envOfC qual scope L' 158 cdv))
      (fun fl s' => LeaveK h₀ L m g (fun r s' => Kept sub s.heap s'.heap → R r s') (match fl with | .ret v => v | _ => .none) s') (fun _ _ => False) { s with heap := h₁, toks := tk } :=
  hkAll (P := Hktaildoes.HkP) Hktaildoes.HkEq Hktaildoes.HkAt (prog, w, p, loose, mean, mg, mb, dp, un, gd, cn, cs, a, ccd, cl, outer, base, g, h₀, h₁, L, L', src, tl, bl, nl, m, m₁, s, tk, n1, n2, nx, R, sub, x, y, sz, tx, ty, t1, t2, t3, t4, t5, t6, vs, us, ys, ts, bs, bb, ns, bf, af, se) name qual params body scope dV kV doc pm cdv ct oc an od osl rest hb ho xt FG B X T hd hu F₁ N₁ m1 m2 m3 m4 m5 m6 m7 m8 m9 hx hy0 hy WT WB WN hts htl hbs hbl hbb hb0 hb1 hbk hns hnl hq hbf haf haf0 hxt hxl hR
section
variable {prog : Program} {w : World} {p : Program} {loose : List Str} {mean : ExcName → Option Value} {mg mb : Str → Option Value}
end
end Mine
end
section
set_option linter.unusedVariables false
open PySem PySem.W PyProof.Rows PySem.Calls PySem.Spec
set_option maxRecDepth 100000
set_option maxHeartbeats 40000000
namespace Mine
local macro_rules | `(tactic| k_ne) => `(tactic| (refine neN ?_; (try dsimp only); first | exact Ap.ne (by assumption) | exact Ne.symm (Ap.ne (by assumption)) | omega))

theorem News.drop6 {h₀ h : Heap} {L : Addr} {a b c d e f : Addr × Obj} {r : List (Addr × Obj)} (N : News h₀ L h (a :: b :: c :: d :: e :: f :: r)) : News h₀ L h r := fun q hq => N q (.tail _ (.tail _ (.tail _ (.tail _ (.tail _ (.tail _ hq))))))
theorem News.keep4 {h₀ h : Heap} {L : Addr} {a b c d e f g : Addr × Obj} (N : News h₀ L h [a, b, c, d, e, f, g]) : News h₀ L h [a, c, d, g] :=
  news4 N (.head _) (.tail _ (.tail _ (.head _))) (.tail _ (.tail _ (.tail _ (.head _)))) (.tail _ (.tail _ (.tail _ (.tail _ (.tail _ (.tail _ (.head _)))))))
section
variable {prog : Program} {w : World} {p : Program} {loose : List Str} {mean : ExcName → Option Value} {mg mb : Str → Option Value}
end
namespace Hksegdoes
abbrev HkT : Type := (Program) × (World) × (Program) × (List Str) × (ExcName → Option Value) × (Str → Option Value) × (Str → Option Value) × (Nat) × (Nat) × (Option (List Code)) × (Str) × (Scope) × (Addr) × (Value) × (List (Str × Addr)) × (List Env) × (Heap) × (Heap) × (Heap) × (Heap) × (Addr) × (Addr) × (Addr) × (Addr) × (Addr) × (Str → Option Value) × (Str → Option Value) × (Shared) × (Nat) × (Nat) × (Nat) × (Nat) × (Result → Shared → Prop) × (List (Addr × Obj)) × (Obj) × (Obj) × (Int) × (Int) × (Tok) × (Tok) × (Tok) × (Tok) × (Tok) × (List Value) × (List Value) × (List Str) × (List Str) × (Str) × (Str) × (Str)
def HkP0 (prog : Program) (w : World) (p : Program) (loose : List Str) (mean : ExcName → Option Value) (mg : Str → Option Value) (mb : Str → Option Value) (dp : Nat) (un : Nat) (gd : Option (List Code)) (cn : Str) (cs : Scope) (a : Addr) (ccd : Value) (cl : List (Str × Addr)) (outer : List Env) (base : Heap) (g : Heap) (h₀ : Heap) (h₁ : Heap) (L : Addr) (L' : Addr) (src : Addr) (tl : Addr) (bl : Addr) (m : Str → Option Value) (m₁ : Str → Option Value) (s : Shared) (tk : Nat) (n1 : Nat) (n2 : Nat) (nx : Nat) (R : Result → Shared → Prop) (sub : List (Addr × Obj)) (o1 : Obj) (o2 : Obj) (x : Int) (y : Int) (tx : Tok) (ty : Tok) (t1 : Tok) (t2 : Tok) (t3 : Tok) (vs : List Value) (us : List Value) (ts : List Str) (bs : List Str) (bf : Str) (af : Str) (xt : Str) : Prop := ∀ (name qual : Str) (params : Arguments) (body : List Stmt) (scope : Scope) (dV kV doc pm cdv ct oc : Value) (an od : Option Addr) (osl : Array (Option Value)) (rest : List Stmt) (hb : rest = body.drop 6) (ho : (Mine.kk.heap_1 w.params).lookup 158 = some ⟨oc, od, .func (fnOf name qual params body scope dV kV doc pm an cdv ct), osl⟩) (FG : Fr h₀ L g m) (B : Below (ktrTop dp un gd cn cs L a ccd cl outer) base (envX cn cs L a ccd cl :: outer) g) (X : (Mine.kk.heap_1 w.params).In g) (T : Top p loose mean mg mb g) (hd : dp + 8 < recursionLimit) (hu : un + 8 * 8 < cLine) (F₁ : Fr g L' h₁ m₁) (N₁ : News g L' h₁ [(bl, listOf us.toArray n1), (tl, listOf vs.toArray n2), (L' + 1 + 1, o1), (L' + 1, o2), (src, srcO x tx y ty nx)]) (l1 : @LT.lt Nat _ src L') (p1 : Ap (L' + 1 + 1) tl) (p2 : Ap (L' + 1) tl) (p3 : Ap src tl) (p4 : Ap tl bl) (p5 : Ap (L' + 1 + 1) bl) (p6 : Ap (L' + 1) bl) (p7 : Ap src bl) (d1 : o1.data = .cell none) (d2 : o2.data = .cell (some (.ref src))) (m1 : m₁ (Str.ofString "tokens") = some (.ref tl)) (m2 : m₁ (Str.ofString "between") = some (.ref bl)) (m3 : m₁ (Str.ofString "before") = some (.str bf t1)) (m4 : m₁ (Str.ofString "after") = some (.str af t2)) (m5 : m₁ (Str.ofString "text") = some (.str xt t3)) (hx : 0 ≤ x) (hy0 : 0 ≤ y) (hy : y < 2147483647) (WT : StrsAre vs ts) (WB : StrsAre us bs) (hts : ∀ u ∈ ts, u ∈ TOKS) (htl : ts.length ≤ 3) (hbs : ∀ u ∈ bs, u ∈ BETW) (hbl : bs.length = ts.length - 1) (hbf : bf ∈ BEFO) (haf : af ∈ AFTE) (haf0 : ts.length = 0 → af = Str.ofString "") (hxt : xt = textAll ts bs bf) (hxl : xt.length ≤ 100) (hR : ∀ h' tk' x' tx' y' ty' n', 0 ≤ x' → 0 ≤ y' → y' < 2147483647 → Fr h₀ L h' m → News h₀ L h' [(src, srcO x' tx' y' ty' n')] → Kept sub s.heap h' → R (.ok (.ret (.bool true))) { s with heap := h', toks := tk' }), wpAny (model prog w) ((ktrTop dp un gd cn cs L a ccd cl outer).deeper (envOfC qual scope L' 158 cdv)) (execs rest (envOfC qual scope L' 158 cdv))
      (fun fl s' => LeaveK h₀ L m g (fun r s' => Kept sub s.heap s'.heap → R r s') (match fl with | .ret v => v | _ => .none) s') (fun _ _ => False) { s with heap := h₁, toks := tk }
def HkP (c9 : HkT) : Prop := HkP0 c9.1 c9.2.1 c9.2.2.1 c9.2.2.2.1 c9.2.2.2.2.1 c9.2.2.2.2.2.1 c9.2.2.2.2.2.2.1 c9.2.2.2.2.2.2.2.1 c9.2.2.2.2.2.2.2.2.1 c9.2.2.2.2.2.2.2.2.2.1 c9.2.2.2.2.2.2.2.2.2.2.1 c9.2.2.2.2.2.2.2.2.2.2.2.1 c9.2.2.2.2.2.2.2.2.2.2.2.2.1 c9.2.2.2.2.2.2.2.2.2.2.2.2.2.1 c9.2.2.2.2.2.2.2.2.2.2.2.2.2.2.1 c9.2.2.2.2.2.2.2.2.2.2.2.2.2.2.2.1 c9.2.2.2.2.2.2.2.2.2.2.2.2.2.2.2.2.1 c9.2.2.2.2.2.2.2.2.2.2.2.2.2.2.2.2.2.1 c9.2.2.2.2.2.2.2.2.2.2.2.2.2.2.2.2.2.2.1 c9.2.2.2.2.2.2.2.2.2.2.2.2.2.2.2.2.2.2.2.1 c9.2.2.2.2.2.2.2.2.2.2.2.2.2.2.2.2.2.2.2.2.1 c9.2.2.2.2.2.2.2.2.2.2.2.2.2.2.2.2.2.2.2.2.2.1 c9.2.2.2.2.2.2.2.2.2.2.2.2.2.2.2.2.2.2.2.2.2.2.1 c9.2.2.2.2.2.2.2.2.2.2.2.2.2.2.2.2.2.2.2.2.2.2.2.1 c9.2.2.2.2.2.2.2.2.2.2.2.2.2.2.2.2.2.2.2.2.2.2.2.2.1 c9.2.2.2.2.2.2.2.2.2.2.2.2.2.2.2.2.2.2.2.2.2.2.2.2.2.1 c9.2.2.2.2.2.2.2.2.2.2.2.2.2.2.2.2.2.2.2.2.2.2.2.2.2.2.1 c9.2.2.2.2.2.2.2.2.2.2.2.2.2.2.2.2.2.2.2.2.2.2.2.2.2.2.2.1 c9.2.2.2.2.2.2.2.2.2.2.2.2.2.2.2.2.2.2.2.2.2.2.2.2.2.2.2.2.1 c9.2.2.2.2.2.2.2.2.2.2.2.2.2.2.2.2.2.2.2.2.2.2.2.2.2.2.2.2.2.1 c9.2.2.2.2.2.2.2.2.2.2.2.2.2.2.2.2.2.2.2.2.2.2.2.2.2.2.2.2.2.2.1 c9.2.2.2.2.2.2.2.2.2.2.2.2.2.2.2.2.2.2.2.2.2.2.2.2.2.2.2.2.2.2.2.1 c9.2.2.2.2.2.2.2.2.2.2.2.2.2.2.2.2.2.2.2.2.2.2.2.2.2.2.2.2.2.2.2.2.1 c9.2.2.2.2.2.2.2.2.2.2.2.2.2.2.2.2.2.2.2.2.2.2.2.2.2.2.2.2.2.2.2.2.2.1 c9.2.2.2.2.2.2.2.2.2.2.2.2.2.2.2.2.2.2.2.2.2.2.2.2.2.2.2.2.2.2.2.2.2.2.1 c9.2.2.2.2.2.2.2.2.2.2.2.2.2.2.2.2.2.2.2.2.2.2.2.2.2.2.2.2.2.2.2.2.2.2.2.1 c9.2.2.2.2.2.2.2.2.2.2.2.2.2.2.2.2.2.2.2.2.2.2.2.2.2.2.2.2.2.2.2.2.2.2.2.2.1 c9.2.2.2.2.2.2.2.2.2.2.2.2.2.2.2.2.2.2.2.2.2.2.2.2.2.2.2.2.2.2.2.2.2.2.2.2.2.1 c9.2.2.2.2.2.2.2.2.2.2.2.2.2.2.2.2.2.2.2.2.2.2.2.2.2.2.2.2.2.2.2.2.2.2.2.2.2.2.1 c9.2.2.2.2.2.2.2.2.2.2.2.2.2.2.2.2.2.2.2.2.2.2.2.2.2.2.2.2.2.2.2.2.2.2.2.2.2.2.2.1 c9.2.2.2.2.2.2.2.2.2.2.2.2.2.2.2.2.2.2.2.2.2.2.2.2.2.2.2.2.2.2.2.2.2.2.2.2.2.2.2.2.1 c9.2.2.2.2.2.2.2.2.2.2.2.2.2.2.2.2.2.2.2.2.2.2.2.2.2.2.2.2.2.2.2.2.2.2.2.2.2.2.2.2.2.1 c9.2.2.2.2.2.2.2.2.2.2.2.2.2.2.2.2.2.2.2.2.2.2.2.2.2.2.2.2.2.2.2.2.2.2.2.2.2.2.2.2.2.2.1 c9.2.2.2.2.2.2.2.2.2.2.2.2.2.2.2.2.2.2.2.2.2.2.2.2.2.2.2.2.2.2.2.2.2.2.2.2.2.2.2.2.2.2.2.1 c9.2.2.2.2.2.2.2.2.2.2.2.2.2.2.2.2.2.2.2.2.2.2.2.2.2.2.2.2.2.2.2.2.2.2.2.2.2.2.2.2.2.2.2.2.1 c9.2.2.2.2.2.2.2.2.2.2.2.2.2.2.2.2.2.2.2.2.2.2.2.2.2.2.2.2.2.2.2.2.2.2.2.2.2.2.2.2.2.2.2.2.2.1 c9.2.2.2.2.2.2.2.2.2.2.2.2.2.2.2.2.2.2.2.2.2.2.2.2.2.2.2.2.2.2.2.2.2.2.2.2.2.2.2.2.2.2.2.2.2.2.1 c9.2.2.2.2.2.2.2.2.2.2.2.2.2.2.2.2.2.2.2.2.2.2.2.2.2.2.2.2.2.2.2.2.2.2.2.2.2.2.2.2.2.2.2.2.2.2.2.1 c9.2.2.2.2.2.2.2.2.2.2.2.2.2.2.2.2.2.2.2.2.2.2.2.2.2.2.2.2.2.2.2.2.2.2.2.2.2.2.2.2.2.2.2.2.2.2.2.2.1 c9.2.2.2.2.2.2.2.2.2.2.2.2.2.2.2.2.2.2.2.2.2.2.2.2.2.2.2.2.2.2.2.2.2.2.2.2.2.2.2.2.2.2.2.2.2.2.2.2.2
noncomputable def HkD : HkT := ((default), (w00), (default), ([]), (fun _ => none), (fun _ => none), (fun _ => none), ((0 : Nat)), ((0 : Nat)), (none), (Str.empty), (default), ((0 : Nat)), (Value.none), ([]), ([]), (default), (default), (default), (default), ((0 : Nat)), ((0 : Nat)), ((0 : Nat)), ((0 : Nat)), ((0 : Nat)), (fun _ => none), (fun _ => none), ({}), ((0 : Nat)), ((0 : Nat)), ((0 : Nat)), ((0 : Nat)), (fun _ _ => True), ([]), (default), (default), ((0 : Int)), ((0 : Int)), ((0 : Nat)), ((0 : Nat)), ((0 : Nat)), ((0 : Nat)), ((0 : Nat)), ([]), ([]), ([]), ([]), (Str.empty), (Str.empty), (Str.empty))
@[irreducible] noncomputable def HkC : HkT := hkEps HkD HkP
noncomputable def prog : Program := HkC.1
noncomputable def w : World := HkC.2.1
noncomputable def p : Program := HkC.2.2.1
noncomputable def loose : List Str := HkC.2.2.2.1
noncomputable def mean : ExcName → Option Value := HkC.2.2.2.2.1
noncomputable def mg : Str → Option Value := HkC.2.2.2.2.2.1
noncomputable def mb : Str → Option Value := HkC.2.2.2.2.2.2.1
noncomputable def dp : Nat := HkC.2.2.2.2.2.2.2.1
noncomputable def un : Nat := HkC.2.2.2.2.2.2.2.2.1
noncomputable def gd : Option (List Code) := HkC.2.2.2.2.2.2.2.2.2.1
noncomputable def cn : Str := HkC.2.2.2.2.2.2.2.2.2.2.1
noncomputable def cs : Scope := HkC.2.2.2.2.2.2.2.2.2.2.2.1
noncomputable def a : Addr := HkC.2.2.2.2.2.2.2.2.2.2.2.2.1
noncomputable def ccd : Value := HkC.2.2.2.2.2.2.2.2.2.2.2.2.2.1
noncomputable def cl : List (Str × Addr) := HkC.2.2.2.2.2.2.2.2.2.2.2.2.2.2.1
noncomputable def outer : List Env := HkC.2.2.2.2.2.2.2.2.2.2.2.2.2.2.2.1
noncomputable def base : Heap := HkC.2.2.2.2.2.2.2.2.2.2.2.2.2.2.2.2.1
noncomputable def g : Heap := HkC.2.2.2.2.2.2.2.2.2.2.2.2.2.2.2.2.2.1
noncomputable def h₀ : Heap := HkC.2.2.2.2.2.2.2.2.2.2.2.2.2.2.2.2.2.2.1
noncomputable def h₁ : Heap := HkC.2.2.2.2.2.2.2.2.2.2.2.2.2.2.2.2.2.2.2.1
noncomputable def L : Addr := HkC.2.2.2.2.2.2.2.2.2.2.2.2.2.2.2.2.2.2.2.2.1
noncomputable def L' : Addr := HkC.2.2.2.2.2.2.2.2.2.2.2.2.2.2.2.2.2.2.2.2.2.1
noncomputable def src : Addr := HkC.2.2.2.2.2.2.2.2.2.2.2.2.2.2.2.2.2.2.2.2.2.2.1
noncomputable def tl : Addr := HkC.2.2.2.2.2.2.2.2.2.2.2.2.2.2.2.2.2.2.2.2.2.2.2.1
noncomputable def bl : Addr := HkC.2.2.2.2.2.2.2.2.2.2.2.2.2.2.2.2.2.2.2.2.2.2.2.2.1
noncomputable def m : Str → Option Value := HkC.2.2.2.2.2.2.2.2.2.2.2.2.2.2.2.2.2.2.2.2.2.2.2.2.2.1
noncomputable def m₁ : Str → Option Value := HkC.2.2.2.2.2.2.2.2.2.2.2.2.2.2.2.2.2.2.2.2.2.2.2.2.2.2.1
noncomputable def s : Shared := HkC.2.2.2.2.2.2.2.2.2.2.2.2.2.2.2.2.2.2.2.2.2.2.2.2.2.2.2.1
noncomputable def tk : Nat := HkC.2.2.2.2.2.2.2.2.2.2.2.2.2.2.2.2.2.2.2.2.2.2.2.2.2.2.2.2.1
noncomputable def n1 : Nat := HkC.2.2.2.2.2.2.2.2.2.2.2.2.2.2.2.2.2.2.2.2.2.2.2.2.2.2.2.2.2.1
noncomputable def n2 : Nat := HkC.2.2.2.2.2.2.2.2.2.2.2.2.2.2.2.2.2.2.2.2.2.2.2.2.2.2.2.2.2.2.1
noncomputable def nx : Nat := HkC.2.2.2.2.2.2.2.2.2.2.2.2.2.2.2.2.2.2.2.2.2.2.2.2.2.2.2.2.2.2.2.1
noncomputable def R : Result → Shared → Prop := HkC.2.2.2.2.2.2.2.2.2.2.2.2.2.2.2.2.2.2.2.2.2.2.2.2.2.2.2.2.2.2.2.2.1
noncomputable def sub : List (Addr × Obj) := HkC.2.2.2.2.2.2.2.2.2.2.2.2.2.2.2.2.2.2.2.2.2.2.2.2.2.2.2.2.2.2.2.2.2.1
noncomputable def o1 : Obj := HkC.2.2.2.2.2.2.2.2.2.2.2.2.2.2.2.2.2.2.2.2.2.2.2.2.2.2.2.2.2.2.2.2.2.2.1
noncomputable def o2 : Obj := HkC.2.2.2.2.2.2.2.2.2.2.2.2.2.2.2.2.2.2.2.2.2.2.2.2.2.2.2.2.2.2.2.2.2.2.2.1
noncomputable def x : Int := HkC.2.2.2.2.2.2.2.2.2.2.2.2.2.2.2.2.2.2.2.2.2.2.2.2.2.2.2.2.2.2.2.2.2.2.2.2.1
noncomputable def y : Int := HkC.2.2.2.2.2.2.2.2.2.2.2.2.2.2.2.2.2.2.2.2.2.2.2.2.2.2.2.2.2.2.2.2.2.2.2.2.2.1
noncomputable def tx : Tok := HkC.2.2.2.2.2.2.2.2.2.2.2.2.2.2.2.2.2.2.2.2.2.2.2.2.2.2.2.2.2.2.2.2.2.2.2.2.2.2.1
noncomputable def ty : Tok := HkC.2.2.2.2.2.2.2.2.2.2.2.2.2.2.2.2.2.2.2.2.2.2.2.2.2.2.2.2.2.2.2.2.2.2.2.2.2.2.2.1
noncomputable def t1 : Tok := HkC.2.2.2.2.2.2.2.2.2.2.2.2.2.2.2.2.2.2.2.2.2.2.2.2.2.2.2.2.2.2.2.2.2.2.2.2.2.2.2.2.1
noncomputable def t2 : Tok := HkC.2.2.2.2.2.2.2.2.2.2.2.2.2.2.2.2.2.2.2.2.2.2.2.2.2.2.2.2.2.2.2.2.2.2.2.2.2.2.2.2.2.1
noncomputable def t3 : Tok := HkC.2.2.2.2.2.2.2.2.2.2.2.2.2.2.2.2.2.2.2.2.2.2.2.2.2.2.2.2.2.2.2.2.2.2.2.2.2.2.2.2.2.2.1
noncomputable def vs : List Value := HkC.2.2.2.2.2.2.2.2.2.2.2.2.2.2.2.2.2.2.2.2.2.2.2.2.2.2.2.2.2.2.2.2.2.2.2.2.2.2.2.2.2.2.2.1
noncomputable def us : List Value := HkC.2.2.2.2.2.2.2.2.2.2.2.2.2.2.2.2.2.2.2.2.2.2.2.2.2.2.2.2.2.2.2.2.2.2.2.2.2.2.2.2.2.2.2.2.1
noncomputable def ts : List Str := HkC.2.2.2.2.2.2.2.2.2.2.2.2.2.2.2.2.2.2.2.2.2.2.2.2.2.2.2.2.2.2.2.2.2.2.2.2.2.2.2.2.2.2.2.2.2.1
noncomputable def bs : List Str := HkC.2.2.2.2.2.2.2.2.2.2.2.2.2.2.2.2.2.2.2.2.2.2.2.2.2.2.2.2.2.2.2.2.2.2.2.2.2.2.2.2.2.2.2.2.2.2.1
noncomputable def bf : Str := HkC.2.2.2.2.2.2.2.2.2.2.2.2.2.2.2.2.2.2.2.2.2.2.2.2.2.2.2.2.2.2.2.2.2.2.2.2.2.2.2.2.2.2.2.2.2.2.2.1
noncomputable def af : Str := HkC.2.2.2.2.2.2.2.2.2.2.2.2.2.2.2.2.2.2.2.2.2.2.2.2.2.2.2.2.2.2.2.2.2.2.2.2.2.2.2.2.2.2.2.2.2.2.2.2.1
noncomputable def xt : Str := HkC.2.2.2.2.2.2.2.2.2.2.2.2.2.2.2.2.2.2.2.2.2.2.2.2.2.2.2.2.2.2.2.2.2.2.2.2.2.2.2.2.2.2.2.2.2.2.2.2.2
theorem HkAt : HkP0 prog w p loose mean mg mb dp un gd cn cs a ccd cl outer base g h₀ h₁ L L' src tl bl m m₁ s tk n1 n2 nx R sub o1 o2 x y tx ty t1 t2 t3 vs us ts bs bf af xt := by
  unfold HkP0
  intro name qual params body scope dV kV doc pm cdv ct oc an od osl rest hb ho FG B X T hd hu F₁ N₁ l1 p1 p2 p3 p4 p5 p6 p7 d1 d2 m1 m2 m3 m4 m5 hx hy0 hy WT WB hts htl hbs hbl hbf haf haf0 hxt hxl hR
  subst hb
  have hz := fillK; revert hz; k_fill; intro _
  k_with_none
  w_top off
  k_with "*" => first | ((with_reducible show wpAny _ _ _ _ _ (Shared.mk _ _ _ (_ + _ + _) _)); refine st_norm (s0 := s) rfl rfl rfl fun _ => ?_) | ((with_reducible show wpAny _ _ (eval _ _) _ _ _); k_fold)
  k_with "execs cons" => (k_here; first | ((rename News _ _ _ _ => N6); dsimp only at N6) | ((rename Fr _ _ _ _ => F6); dsimp only at F6))
  k_with "eval List" => (k_here; k_dflt (refine' near_list ?zh ?zF ?zN ?_; (case zh => repeat (first | exact IsInts.nil | refine IsInts.cons ?_)); (case zF => k_asm); (case zN => k_asm)); intro vs9 a9 h9 tk9 W9 l1 F9 N9; (try k_lt l1))
  k_with "call ref" => (k_here; k_dflt (refine' Does.use (lawOneP_does _ _ _ _ _ _ _ _ _ _ _ ?U ?M ?hne ?h0 ?h1 ?h2 ?W ?hl ?hl2) ?k1 ?k2 ?k3 ?k4 ?k5 ?kK ?kd ?ku ?_; (case k1 => k_asm); (case k2 => k_asm); (case k3 => k_asm); (case k4 => k_asm); (case M => k_mem); (case W => (refine' PairsAre.cons ?pm1 ?pn1 ?pq1 (PairsAre.cons ?pm2 ?pn2 ?pq2 (PairsAre.cons ?pm3 ?pn3 ?pq3 (PairsAre.cons ?pm4 ?pn4 ?pq4 (PairsAre.cons ?pm5 ?pn5 ?pq5 PairsAre.nil)))); (case pm1 => k_mem); (case pn1 => k_ne); (case pq1 => (with_reducible first | exact seps_1 | exact seps_2 | exact seps_3 | exact seps_4)); (case pm2 => k_mem); (case pn2 => k_ne); (case pq2 => (with_reducible first | exact seps_1 | exact seps_2 | exact seps_3 | exact seps_4)); (case pm3 => k_mem); (case pn3 => k_ne); (case pq3 => (with_reducible first | exact seps_1 | exact seps_2 | exact seps_3 | exact seps_4)); (case pm4 => k_mem); (case pn4 => k_ne); (case pq4 => (with_reducible first | exact seps_1 | exact seps_2 | exact seps_3 | exact seps_4)); (case pm5 => k_mem); (case pn5 => k_ne); (case pq5 => (with_reducible first | exact seps_1 | exact seps_2 | exact seps_3 | exact seps_4)))); (case k5 => k_asm); (case kK => first | exact rfl | assumption); (case kd => ktr_room); (case ku => ktr_units); (case U => k_updF); (case hne => k_ne); (case h0 => assumption); (case h1 => assumption); (case h2 => assumption); (case hl => exact Nat.le_of_ble_eq_true rfl); (case hl2 => exact Nat.le_of_ble_eq_true rfl); (try dsimp only)); intro a9 se9 sz9 ts9 ti9 x9 tx9 y9 ty9 n9 hq9 hm9 hx9 hy9 hy9b h9 tk9 F9 N9; (try k_fold))
  k_with "call ref" => (k_here; k_dflt (refine' Does.use (lawOneI_does _ _ _ _ _ _ _ _ _ _ _ _ ?U ?M ?hne ?h0 ?h1 ?h2 ?W ?hl ?hl2) ?k1 ?k2 ?k3 ?k4 ?k5 ?kK ?kd ?ku ?_; (case k1 => k_asm); (case k2 => k_asm); (case k3 => k_asm); (case k4 => k_asm); (case M => k_mem); (case W => first | exact nearV_is (by assumption) | exact (IntsAre.cons _ _ (IntsAre.cons _ _ (IntsAre.cons _ _ (IntsAre.cons _ _ (IntsAre.cons _ _ (IntsAre.cons _ _ (IntsAre.cons _ _ (IntsAre.cons _ _ (IntsAre.cons _ _ (IntsAre.cons _ _ (IntsAre.cons _ _ (IntsAre.cons _ _ (IntsAre.cons _ _ (IntsAre.cons _ _ (IntsAre.cons _ _ (IntsAre.cons _ _ (IntsAre.cons _ _ (IntsAre.cons _ _ (IntsAre.cons _ _ (IntsAre.cons _ _ IntsAre.nil))))))))))))))))))))); (case k5 => k_asm); (case kK => first | exact rfl | assumption); (case kd => ktr_room); (case ku => ktr_units); (case U => k_updF); (case hne => k_ne); (case h0 => assumption); (case h1 => assumption); (case h2 => assumption); (case hl => first | exact ints_ge (nearV_is (by assumption)) rfl | exact Nat.le_of_ble_eq_true rfl); (case hl2 => first | exact ints_le (nearV_is (by assumption)) rfl | exact Nat.le_of_ble_eq_true rfl); (try dsimp only)); intro v9 t9 x9 tx9 y9 ty9 n9 hv9 hx9 hy9 hy9b h9 tk9 F9 N9; (try k_fold))
  k_with "call ref" => (k_here; k_dflt (refine' Does.use (lawOneS_does _ _ _ _ _ _ _ _ _ _ _ _ ?U ?M ?hne ?h0 ?h1 ?h2 ?W ?hl ?hl2) ?k1 ?k2 ?k3 ?k4 ?k5 ?kK ?kd ?ku ?_; (case k1 => k_asm); (case k2 => k_asm); (case k3 => k_asm); (case k4 => k_asm); (case M => k_mem); (case W => first | exact (StrsAre.cons _ _ (StrsAre.cons _ _ (StrsAre.cons _ _ (StrsAre.cons _ _ (StrsAre.cons _ _ (StrsAre.cons _ _ (StrsAre.cons _ _ (StrsAre.cons _ _ StrsAre.nil)))))))) | exact (StrsAre.cons _ _ (StrsAre.cons _ _ (StrsAre.cons _ _ (StrsAre.cons _ _ StrsAre.nil))))); (case k5 => k_asm); (case kK => first | exact rfl | assumption); (case kd => ktr_room); (case ku => ktr_units); (case U => k_updF); (case hne => k_ne); (case h0 => assumption); (case h1 => assumption); (case h2 => assumption); (case hl => exact Nat.le_of_ble_eq_true rfl); (case hl2 => exact Nat.le_of_ble_eq_true rfl); (try dsimp only)); intro v9 t9 x9 tx9 y9 ty9 n9 hv9 hx9 hy9 hy9b h9 tk9 F9 N9; (try k_fold))
  k_with "call ref" => (k_here; k_dflt (refine' Does.use (take_does _ _ _ _ _ _ _ _ _ _ ?U ?h0 ?h1 ?h2 ?h3 ?h4) ?k1 ?k2 ?k3 ?k4 ?k5 ?kK ?kd ?ku ?_; (case k1 => k_asm); (case k2 => k_asm); (case k3 => k_asm); (case k4 => k_asm); (case k5 => k_asm); (case kK => first | exact rfl | assumption); (case kd => ktr_room); (case ku => ktr_units); (case U => k_updF); (case h0 => assumption); (case h1 => assumption); (case h2 => assumption); (case h3 => omega); (case h4 => omega); (try dsimp only)); intro d9 t9 x9 tx9 y9 ty9 n9 hd9 hd9b hx9 hy9 hy9b h9 tk9 F9 N9; (try k_fold))
  k_with "CompSrc" => (k_here; k_dflt (refine LCg.CompSrc.range (by rfl) (by k_asm) (by k_asm) (by assumption) (by first | exact small_one (by kcf_bnd) (by kcf_bnd) (by kcf_bnd) (by kcf_bnd) | decide) (by first | exact rangeSize_nat _ _ | rfl) (by (rw [PySem.sizeLine_eq]; omega)) ?_; intro g'); k_extra "draws")
  k_with "CompEnd" => (k_dflt (refine' draw_end ?F ?N ?sub ?off ?h0 ?h1 ?h2 ?hv; (case F => assumption); (case N => assumption); (case sub => ((repeat (refine forall_sub_cons (by k_mem) ?_)); exact List.forall_mem_nil _)); (case off => first | (rename LCg.Off3 _ _ _ _ => q9; exact q9) | lcg_off); (case h0 => assumption); (case h1 => assumption); (case h2 => assumption); (case hv => exact ⟨_, _, rfl, by assumption⟩)))
  k_with "compareOp Eq ref ref" => (k_here; k_dflt (refine' eq_nil_split ?xN ?xa ?xw ?xb ?xu ?_ ?_; (case xN => k_asm); (case xa => k_mem); (case xw => assumption); (case xb => k_mem); (case xu => ktr_units)); all_goals intro hs9)
  k_with "compareOp NotEq ref ref" => (first | (k_here; k_dflt (refine' ne_nil_split ?xN ?xa ?xw ?xb ?xu ?_ ?_; (case xN => k_asm); (case xa => k_mem); (case xw => assumption); (case xb => k_mem); (case xu => ktr_units)); all_goals (intro hs9; try (exfalso; omega))))
  k_with "InvEndN" => (k_dflt kst_close)
  k_with "assign Tuple" => (k_here; (with_reducible show wpAny _ _ (assign (Expr.Tuple _ _ _) _ (Value.ref _)) _ _ _); k_dflt (refine' unpackN_ ?F ?N ?T ?k1 ?k2 ?k3 ?_; (case F => k_asm); (case N => k_asm); (case T => exact News.isTup (by k_asm) (by assumption)); (case k1 => exact rfl); (case k2 => exact rfl); (case k3 => exact rfl)); intro h' F' N'; (try k_sweep); (rename News _ _ _ _ => N6); (have N7 := News.drop6 N6); clear N6; (repeat (rename (@LT.lt _ _ _ _) ∧ _ => hA9; clear hA9)))
  k_with "execs cons" => (k_here; (with_reducible show wpAny _ _ (execs (Stmt.For _ _ _ _ _ :: _) _) _ _ _); k_extra "tail")
  k_with "exec Assign cons Tuple" => (k_here; k_dflt ((rename News _ _ _ _ => N6); (have N7 := News.keep4 N6); clear N6; (repeat (rename (@LT.lt _ _ _ _) ∧ _ => hA9; clear hA9)); (repeat (rename (@Ne _ _ _) ∧ _ => hA9; clear hA9))))
  obtain ⟨e1, e2, e3, e4⟩ := fn_inj ho (by k_is)
  clear ho
  subst e1 e2 e3 e4
  simp only [List.drop_succ_cons, List.drop_zero]
  have hS : MySub sub := trivial
  have F₂ := fr_norm (ps := [(Str.ofString "tokens", .ref tl), (Str.ofString "between", .ref bl), (Str.ofString "before", .str bf t1), (Str.ofString "after", .str af t2), (Str.ofString "text", .str xt t3)]) (by simp only [List.forall_mem_cons, List.not_mem_nil, false_implies, implies_true, and_true]; exact ⟨m1, m2, m3, m4, m5⟩) F₁
  clear F₁ m1 m2 m3 m4 m5
  dsimp only [kstB] at F₂
  have hbd : ∀ u ∈ bs, u.length ≤ 10 := fun u hu => betw_len u (hbs u hu)
  k_with "draws" => k_dflt (
    refine' comp_draw (src := src) (IsI NEAR) ?U3 ?ha3 ?hb3 ?hc3 ?turn3 ?fin3
    (case U3 => k_updF)
    (case ha3 => assumption)
    (case hb3 => assumption)
    (case hc3 => assumption)
    case' turn3 =>
      intro x9 tx9 y9 ty9 nn9 k9 t9 I9 oI9 C9 oC9 D9 m9 ys9 h9 tk9 E9 b19 b29 b39 hC9 hx9 F9 N9 off9 ne9
      have off8 := off9
      (try simp only [LCg.Off3, and_true] at off9)
    case' fin3 =>
      intro x9 tx9 y9 ty9 nn9 ys9 b19 b29 b39 hl9 hP9
      obtain ⟨ns, WN, hns⟩ := isI_all hP9
      have hnl : ns.length ≤ 4 := by have := WN.length; omega
      clear hP9 hl9
      k_with "tail" => k_dflt (
        refine' tail_does (ns := ns) (ts := ts) (bs := bs) ?hb ?ho ?FG ?B ?X ?T ?hd ?hu ?F1 ?N1 ?m1 ?m2 ?m3 ?m4 ?m5 ?m6 ?m7 ?m8 ?m9 ?hx ?hy0 ?hy ?WT ?WB ?WN ?hts ?htl ?hbs ?hbl ?hbb ?hb0 ?hb1 ?hbk ?hns ?hnl ?hq ?hbf ?haf ?haf0 ?hxt ?hxl ?hR
        (case ho => k_is)
        (case hb => exact rfl)
        (case FG => assumption)
        (case B => assumption)
        (case X => assumption)
        (case T => assumption)
        (case hd => assumption)
        (case hu => assumption)
        (case F1 => assumption)
        (case m1 => exact rfl)
        (case m2 => exact rfl)
        (case m3 => exact rfl)
        (case m4 => exact rfl)
        (case m5 => exact rfl)
        (case m6 => exact rfl)
        (case m7 => exact rfl)
        (case m8 => exact rfl)
        (case m9 => exact rfl)
        (case N1 => (refine' news4 ?na ?nb ?nc ?nd ?ne; (case na => k_asm); (case nb => k_mem); (case nc => k_mem); (case nd => k_mem); (case ne => k_mem)))
        (case hx => assumption)
        (case hy0 => assumption)
        (case hy => assumption)
        (case WT => first | exact strsOr_pos (by assumption) (by assumption) | exact strsOr_zero (by assumption))
        (case WB => first | assumption | exact StrsAre.cons _ _ StrsAre.nil)
        (case WN => assumption)
        (case hts => assumption)
        (case htl => assumption)
        (case hbs => assumption)
        (case hbl => assumption)
        (case hbb => first | assumption | exact point_len)
        (case hb0 => first | assumption | decide)
        (case hb1 => first | omega | decide)
        (case hbk => first | exact fun _ _ => sepL_pos (by assumption) | exact sepOr_zero (by first | assumption | omega))
        (case hns => assumption)
        (case hnl => assumption)
        (case hq => assumption)
        (case hbf => assumption)
        (case haf => assumption)
        (case haf0 => assumption)
        (case hxt => assumption)
        (case hxl => assumption)
        (case hR => exact hR))
    )
  k_steps
theorem HkEq : HkC = hkEps HkD HkP := by unfold HkC; rfl
end Hksegdoes
theorem seg_does {prog : Program} {w : World} {p : Program} {loose : List Str} {mean : ExcName → Option Value} {mg mb : Str → Option Value} {name qual : Str} {params : Arguments} {body : List Stmt} {scope : Scope} {dV kV doc pm cdv ct oc : Value} {an od : Option Addr} {osl : Array (Option Value)} {rest : List Stmt} (hb : rest = body.drop 6) (ho : (Mine.kk.heap_1 w.params).lookup 158 = some ⟨oc, od, .func (fnOf name qual params body scope dV kV doc pm an cdv ct), osl⟩) {dp un : Nat} {gd : Option (List Code)} {cn : Str} {cs : Scope} {a : Addr} {ccd : Value} {cl : List (Str × Addr)} {outer : List Env} {base g h₀ h₁ : Heap} {L L' src tl bl : Addr} {m m₁ : Str → Option Value} {s : Shared} {tk n1 n2 nx : Nat} {R : Result → Shared → Prop} {sub : List (Addr × Obj)} {o1 o2 : Obj} {x y : Int} {tx ty t1 t2 t3 : Tok} {vs us : List Value} {ts bs : List Str} {bf af xt : Str} (FG : Fr h₀ L g m) (B : Below (ktrTop dp un gd cn cs L a ccd cl outer) base (envX cn cs L a ccd cl :: outer) g) (X : (Mine.kk.heap_1 w.params).In g) (T : Top p loose mean mg mb g) (hd : dp + 8 < recursionLimit) (hu : un + 8 * 8 < cLine) (F₁ : Fr g L' h₁ m₁) (N₁ : News g L' h₁ [(bl, listOf us.toArray n1), (tl, listOf vs.toArray n2), (L' + 1 + 1, o1), (L' + 1, o2), (src, srcO x tx y ty nx)]) (l1 : @LT.lt Nat _ src L') (p1 : Ap (L' + 1 + 1) tl) (p2 : Ap (L' + 1) tl) (p3 : Ap src tl) (p4 : Ap tl bl) (p5 : Ap (L' + 1 + 1) bl) (p6 : Ap (L' + 1) bl) (p7 : Ap src bl) (d1 : o1.data = .cell none) (d2 : o2.data = .cell (some (.ref src))) (m1 : m₁ (Str.ofString "tokens") = some (.ref tl)) (m2 : m₁ (Str.ofString "between") = some (.ref bl)) (m3 : m₁ (Str.ofString "before") = some (.str bf t1)) (m4 : m₁ (Str.ofString "after") = some (.str af t2)) (m5 : m₁ (Str.ofString "text") = some (.str xt t3)) (hx : 0 ≤ x) (hy0 : 0 ≤ y) (hy : y < 2147483647) (WT : StrsAre vs ts) (WB : StrsAre us bs) (hts : ∀ u ∈ ts, u ∈ TOKS) (htl : ts.length ≤ 3) (hbs : ∀ u ∈ bs, u ∈ BETW) (hbl : bs.length = ts.length - 1) (hbf : bf ∈ BEFO) (haf : af ∈ AFTE) (haf0 : ts.length = 0 → af = Str.ofString "") (hxt : xt = textAll ts bs bf) (hxl : xt.length ≤ 100) (hR : ∀ h' tk' x' tx' y' ty' n', 0 ≤ x' → 0 ≤ y' → y' < 2147483647 → Fr h₀ L h' m → News h₀ L h' [(src, srcO x' tx' y' ty' n')] → Kept sub s.heap h' → R (.ok (.ret (.bool true))) { s with heap := h', toks := tk' }) :
    wpAny (model prog w) ((ktrTop dp un gd cn cs L a ccd cl outer).deeper (envOfC qual scope L' 158 cdv)) (execs rest (envOfC qual scope L' 158 cdv))
      (fun fl s' => LeaveK h₀ L m g (fun r s' => Kept sub s.heap s'.heap → R r s') (match fl with | .ret v => v | _ => .none) s') (fun _ _ => False) { s with heap := h₁, toks := tk } :=
  hkAll (P := Hksegdoes.HkP) Hksegdoes.HkEq Hksegdoes.HkAt (prog, w, p, loose, mean, mg, mb, dp, un, gd, cn, cs, a, ccd, cl, outer, base, g, h₀, h₁, L, L', src, tl, bl, m, m₁, s, tk, n1, n2, nx, R, sub, o1, o2, x, y, tx, ty, t1, t2, t3, vs, us, ts, bs, bf, af, xt) name qual params body scope dV kV doc pm cdv ct oc an od osl rest hb ho FG B X T hd hu F₁ N₁ l1 p1 p2 p3 p4 p5 p6 p7 d1 d2 m1 m2 m3 m4 m5 hx hy0 hy WT WB hts htl hbs hbl hbf haf haf0 hxt hxl hR
section
variable {prog : Program} {w : World} {p : Program} {loose : List Str} {mean : ExcName → Option Value} {mg mb : Str → Option Value}
end
end Mine
end
section
set_option linter.unusedVariables false
open PySem PySem.W PyProof.Rows PySem.Calls PySem.Spec
set_option maxRecDepth 100000
set_option maxHeartbeats 40000000
namespace Mine
local macro_rules | `(tactic| k_ne) => `(tactic| (refine neN ?_; (try dsimp only); first | exact Ap.ne (by assumption) | exact Ne.symm (Ap.ne (by assumption)) | omega))
section
variable {prog : Program} {w : World} {p : Program} {loose : List Str} {mean : ExcName → Option Value} {mg mb : Str → Option Value}
end
namespace Hkmiddoes
abbrev HkT : Type := (Program) × (World) × (Program) × (List Str) × (ExcName → Option Value) × (Str → Option Value) × (Str → Option Value) × (Nat) × (Nat) × (Option (List Code)) × (Str) × (Scope) × (Addr) × (Value) × (List (Str × Addr)) × (List Env) × (Heap) × (Heap) × (Heap) × (Heap) × (Addr) × (Addr) × (Addr) × (Addr) × (Addr) × (Str → Option Value) × (Str → Option Value) × (Shared) × (Nat) × (Nat) × (Nat) × (Nat) × (Result → Shared → Prop) × (List (Addr × Obj)) × (Obj) × (Obj) × (Int) × (Int) × (Tok) × (Tok) × (Tok) × (Tok) × (List Value) × (List Value) × (List Str) × (List Str) × (Str) × (Str)
def HkP0 (prog : Program) (w : World) (p : Program) (loose : List Str) (mean : ExcName → Option Value) (mg : Str → Option Value) (mb : Str → Option Value) (dp : Nat) (un : Nat) (gd : Option (List Code)) (cn : Str) (cs : Scope) (a : Addr) (ccd : Value) (cl : List (Str × Addr)) (outer : List Env) (base : Heap) (g : Heap) (h₀ : Heap) (h₁ : Heap) (L : Addr) (L' : Addr) (src : Addr) (tl : Addr) (bl : Addr) (m : Str → Option Value) (m₁ : Str → Option Value) (s : Shared) (tk : Nat) (n1 : Nat) (n2 : Nat) (nx : Nat) (R : Result → Shared → Prop) (sub : List (Addr × Obj)) (o1 : Obj) (o2 : Obj) (x : Int) (y : Int) (tx : Tok) (ty : Tok) (t1 : Tok) (t2 : Tok) (vs : List Value) (us : List Value) (ts : List Str) (bs : List Str) (bf : Str) (af : Str) : Prop := ∀ (name qual : Str) (params : Arguments) (body : List Stmt) (scope : Scope) (dV kV doc pm cdv ct oc : Value) (an od : Option Addr) (osl : Array (Option Value)) (rest : List Stmt) (hb : rest = body.drop 3) (ho : (Mine.kk.heap_1 w.params).lookup 158 = some ⟨oc, od, .func (fnOf name qual params body scope dV kV doc pm an cdv ct), osl⟩) (FG : Fr h₀ L g m) (B : Below (ktrTop dp un gd cn cs L a ccd cl outer) base (envX cn cs L a ccd cl :: outer) g) (X : (Mine.kk.heap_1 w.params).In g) (T : Top p loose mean mg mb g) (hd : dp + 8 < recursionLimit) (hu : un + 8 * 8 < cLine) (F₁ : Fr g L' h₁ m₁) (N₁ : News g L' h₁ [(bl, listOf us.toArray n1), (tl, listOf vs.toArray n2), (L' + 1 + 1, o1), (L' + 1, o2), (src, srcO x tx y ty nx)]) (l1 : @LT.lt Nat _ src L') (p1 : Ap (L' + 1 + 1) tl) (p2 : Ap (L' + 1) tl) (p3 : Ap src tl) (p4 : Ap tl bl) (p5 : Ap (L' + 1 + 1) bl) (p6 : Ap (L' + 1) bl) (p7 : Ap src bl) (d1 : o1.data = .cell none) (d2 : o2.data = .cell (some (.ref src))) (m1 : m₁ (Str.ofString "tokens") = some (.ref tl)) (m2 : m₁ (Str.ofString "between") = some (.ref bl)) (m3 : m₁ (Str.ofString "before") = some (.str bf t1)) (m4 : m₁ (Str.ofString "after") = some (.str af t2)) (hx : 0 ≤ x) (hy0 : 0 ≤ y) (hy : y < 2147483647) (WT : StrsAre vs ts) (WB : StrsAre us bs) (hts : ∀ u ∈ ts, u ∈ TOKS) (htl : ts.length ≤ 3) (hbs : ∀ u ∈ bs, u ∈ BETW) (hbl : bs.length = ts.length - 1) (hbf : bf ∈ BEFO) (haf : af ∈ AFTE) (hR : ∀ h' tk' x' tx' y' ty' n', 0 ≤ x' → 0 ≤ y' → y' < 2147483647 → Fr h₀ L h' m → News h₀ L h' [(src, srcO x' tx' y' ty' n')] → Kept sub s.heap h' → R (.ok (.ret (.bool true))) { s with heap := h', toks := tk' }), wpAny (model prog w) ((ktrTop dp un gd cn cs L a ccd cl outer).deeper (envOfC qual scope L' 158 cdv)) (execs rest (envOfC qual scope L' 158 cdv))
      (fun fl s' => LeaveK h₀ L m g (fun r s' => Kept sub s.heap s'.heap → R r s') (match fl with | .ret v => v | _ => .none) s') (fun _ _ => False) { s with heap := h₁, toks := tk }
def HkP (c9 : HkT) : Prop := HkP0 c9.1 c9.2.1 c9.2.2.1 c9.2.2.2.1 c9.2.2.2.2.1 c9.2.2.2.2.2.1 c9.2.2.2.2.2.2.1 c9.2.2.2.2.2.2.2.1 c9.2.2.2.2.2.2.2.2.1 c9.2.2.2.2.2.2.2.2.2.1 c9.2.2.2.2.2.2.2.2.2.2.1 c9.2.2.2.2.2.2.2.2.2.2.2.1 c9.2.2.2.2.2.2.2.2.2.2.2.2.1 c9.2.2.2.2.2.2.2.2.2.2.2.2.2.1 c9.2.2.2.2.2.2.2.2.2.2.2.2.2.2.1 c9.2.2.2.2.2.2.2.2.2.2.2.2.2.2.2.1 c9.2.2.2.2.2.2.2.2.2.2.2.2.2.2.2.2.1 c9.2.2.2.2.2.2.2.2.2.2.2.2.2.2.2.2.2.1 c9.2.2.2.2.2.2.2.2.2.2.2.2.2.2.2.2.2.2.1 c9.2.2.2.2.2.2.2.2.2.2.2.2.2.2.2.2.2.2.2.1 c9.2.2.2.2.2.2.2.2.2.2.2.2.2.2.2.2.2.2.2.2.1 c9.2.2.2.2.2.2.2.2.2.2.2.2.2.2.2.2.2.2.2.2.2.1 c9.2.2.2.2.2.2.2.2.2.2.2.2.2.2.2.2.2.2.2.2.2.2.1 c9.2.2.2.2.2.2.2.2.2.2.2.2.2.2.2.2.2.2.2.2.2.2.2.1 c9.2.2.2.2.2.2.2.2.2.2.2.2.2.2.2.2.2.2.2.2.2.2.2.2.1 c9.2.2.2.2.2.2.2.2.2.2.2.2.2.2.2.2.2.2.2.2.2.2.2.2.2.1 c9.2.2.2.2.2.2.2.2.2.2.2.2.2.2.2.2.2.2.2.2.2.2.2.2.2.2.1 c9.2.2.2.2.2.2.2.2.2.2.2.2.2.2.2.2.2.2.2.2.2.2.2.2.2.2.2.1 c9.2.2.2.2.2.2.2.2.2.2.2.2.2.2.2.2.2.2.2.2.2.2.2.2.2.2.2.2.1 c9.2.2.2.2.2.2.2.2.2.2.2.2.2.2.2.2.2.2.2.2.2.2.2.2.2.2.2.2.2.1 c9.2.2.2.2.2.2.2.2.2.2.2.2.2.2.2.2.2.2.2.2.2.2.2.2.2.2.2.2.2.2.1 c9.2.2.2.2.2.2.2.2.2.2.2.2.2.2.2.2.2.2.2.2.2.2.2.2.2.2.2.2.2.2.2.1 c9.2.2.2.2.2.2.2.2.2.2.2.2.2.2.2.2.2.2.2.2.2.2.2.2.2.2.2.2.2.2.2.2.1 c9.2.2.2.2.2.2.2.2.2.2.2.2.2.2.2.2.2.2.2.2.2.2.2.2.2.2.2.2.2.2.2.2.2.1 c9.2.2.2.2.2.2.2.2.2.2.2.2.2.2.2.2.2.2.2.2.2.2.2.2.2.2.2.2.2.2.2.2.2.2.1 c9.2.2.2.2.2.2.2.2.2.2.2.2.2.2.2.2.2.2.2.2.2.2.2.2.2.2.2.2.2.2.2.2.2.2.2.1 c9.2.2.2.2.2.2.2.2.2.2.2.2.2.2.2.2.2.2.2.2.2.2.2.2.2.2.2.2.2.2.2.2.2.2.2.2.1 c9.2.2.2.2.2.2.2.2.2.2.2.2.2.2.2.2.2.2.2.2.2.2.2.2.2.2.2.2.2.2.2.2.2.2.2.2.2.1 c9.2.2.2.2.2.2.2.2.2.2.2.2.2.2.2.2.2.2.2.2.2.2.2.2.2.2.2.2.2.2.2.2.2.2.2.2.2.2.1 c9.2.2.2.2.2.2.2.2.2.2.2.2.2.2.2.2.2.2.2.2.2.2.2.2.2.2.2.2.2.2.2.2.2.2.2.2.2.2.2.1 c9.2.2.2.2.2.2.2.2.2.2.2.2.2.2.2.2.2.2.2.2.2.2.2.2.2.2.2.2.2.2.2.2.2.2.2.2.2.2.2.2.1 c9.2.2.2.2.2.2.2.2.2.2.2.2.2.2.2.2.2.2.2.2.2.2.2.2.2.2.2.2.2.2.2.2.2.2.2.2.2.2.2.2.2.1 c9.2.2.2.2.2.2.2.2.2.2.2.2.2.2.2.2.2.2.2.2.2.2.2.2.2.2.2.2.2.2.2.2.2.2.2.2.2.2.2.2.2.2.1 c9.2.2.2.2.2.2.2.2.2.2.2.2.2.2.2.2.2.2.2.2.2.2.2.2.2.2.2.2.2.2.2.2.2.2.2.2.2.2.2.2.2.2.2.1 c9.2.2.2.2.2.2.2.2.2.2.2.2.2.2.2.2.2.2.2.2.2.2.2.2.2.2.2.2.2.2.2.2.2.2.2.2.2.2.2.2.2.2.2.2.1 c9.2.2.2.2.2.2.2.2.2.2.2.2.2.2.2.2.2.2.2.2.2.2.2.2.2.2.2.2.2.2.2.2.2.2.2.2.2.2.2.2.2.2.2.2.2.1 c9.2.2.2.2.2.2.2.2.2.2.2.2.2.2.2.2.2.2.2.2.2.2.2.2.2.2.2.2.2.2.2.2.2.2.2.2.2.2.2.2.2.2.2.2.2.2.1 c9.2.2.2.2.2.2.2.2.2.2.2.2.2.2.2.2.2.2.2.2.2.2.2.2.2.2.2.2.2.2.2.2.2.2.2.2.2.2.2.2.2.2.2.2.2.2.2
noncomputable def HkD : HkT := ((default), (w00), (default), ([]), (fun _ => none), (fun _ => none), (fun _ => none), ((0 : Nat)), ((0 : Nat)), (none), (Str.empty), (default), ((0 : Nat)), (Value.none), ([]), ([]), (default), (default), (default), (default), ((0 : Nat)), ((0 : Nat)), ((0 : Nat)), ((0 : Nat)), ((0 : Nat)), (fun _ => none), (fun _ => none), ({}), ((0 : Nat)), ((0 : Nat)), ((0 : Nat)), ((0 : Nat)), (fun _ _ => True), ([]), (default), (default), ((0 : Int)), ((0 : Int)), ((0 : Nat)), ((0 : Nat)), ((0 : Nat)), ((0 : Nat)), ([]), ([]), ([]), ([]), (Str.empty), (Str.empty))
@[irreducible] noncomputable def HkC : HkT := hkEps HkD HkP
noncomputable def prog : Program := HkC.1
noncomputable def w : World := HkC.2.1
noncomputable def p : Program := HkC.2.2.1
noncomputable def loose : List Str := HkC.2.2.2.1
noncomputable def mean : ExcName → Option Value := HkC.2.2.2.2.1
noncomputable def mg : Str → Option Value := HkC.2.2.2.2.2.1
noncomputable def mb : Str → Option Value := HkC.2.2.2.2.2.2.1
noncomputable def dp : Nat := HkC.2.2.2.2.2.2.2.1
noncomputable def un : Nat := HkC.2.2.2.2.2.2.2.2.1
noncomputable def gd : Option (List Code) := HkC.2.2.2.2.2.2.2.2.2.1
noncomputable def cn : Str := HkC.2.2.2.2.2.2.2.2.2.2.1
noncomputable def cs : Scope := HkC.2.2.2.2.2.2.2.2.2.2.2.1
noncomputable def a : Addr := HkC.2.2.2.2.2.2.2.2.2.2.2.2.1
noncomputable def ccd : Value := HkC.2.2.2.2.2.2.2.2.2.2.2.2.2.1
noncomputable def cl : List (Str × Addr) := HkC.2.2.2.2.2.2.2.2.2.2.2.2.2.2.1
noncomputable def outer : List Env := HkC.2.2.2.2.2.2.2.2.2.2.2.2.2.2.2.1
noncomputable def base : Heap := HkC.2.2.2.2.2.2.2.2.2.2.2.2.2.2.2.2.1
noncomputable def g : Heap := HkC.2.2.2.2.2.2.2.2.2.2.2.2.2.2.2.2.2.1
noncomputable def h₀ : Heap := HkC.2.2.2.2.2.2.2.2.2.2.2.2.2.2.2.2.2.2.1
noncomputable def h₁ : Heap := HkC.2.2.2.2.2.2.2.2.2.2.2.2.2.2.2.2.2.2.2.1
noncomputable def L : Addr := HkC.2.2.2.2.2.2.2.2.2.2.2.2.2.2.2.2.2.2.2.2.1
noncomputable def L' : Addr := HkC.2.2.2.2.2.2.2.2.2.2.2.2.2.2.2.2.2.2.2.2.2.1
noncomputable def src : Addr := HkC.2.2.2.2.2.2.2.2.2.2.2.2.2.2.2.2.2.2.2.2.2.2.1
noncomputable def tl : Addr := HkC.2.2.2.2.2.2.2.2.2.2.2.2.2.2.2.2.2.2.2.2.2.2.2.1
noncomputable def bl : Addr := HkC.2.2.2.2.2.2.2.2.2.2.2.2.2.2.2.2.2.2.2.2.2.2.2.2.1
noncomputable def m : Str → Option Value := HkC.2.2.2.2.2.2.2.2.2.2.2.2.2.2.2.2.2.2.2.2.2.2.2.2.2.1
noncomputable def m₁ : Str → Option Value := HkC.2.2.2.2.2.2.2.2.2.2.2.2.2.2.2.2.2.2.2.2.2.2.2.2.2.2.1
noncomputable def s : Shared := HkC.2.2.2.2.2.2.2.2.2.2.2.2.2.2.2.2.2.2.2.2.2.2.2.2.2.2.2.1
noncomputable def tk : Nat := HkC.2.2.2.2.2.2.2.2.2.2.2.2.2.2.2.2.2.2.2.2.2.2.2.2.2.2.2.2.1
noncomputable def n1 : Nat := HkC.2.2.2.2.2.2.2.2.2.2.2.2.2.2.2.2.2.2.2.2.2.2.2.2.2.2.2.2.2.1
noncomputable def n2 : Nat := HkC.2.2.2.2.2.2.2.2.2.2.2.2.2.2.2.2.2.2.2.2.2.2.2.2.2.2.2.2.2.2.1
noncomputable def nx : Nat := HkC.2.2.2.2.2.2.2.2.2.2.2.2.2.2.2.2.2.2.2.2.2.2.2.2.2.2.2.2.2.2.2.1
noncomputable def R : Result → Shared → Prop := HkC.2.2.2.2.2.2.2.2.2.2.2.2.2.2.2.2.2.2.2.2.2.2.2.2.2.2.2.2.2.2.2.2.1
noncomputable def sub : List (Addr × Obj) := HkC.2.2.2.2.2.2.2.2.2.2.2.2.2.2.2.2.2.2.2.2.2.2.2.2.2.2.2.2.2.2.2.2.2.1
noncomputable def o1 : Obj := HkC.2.2.2.2.2.2.2.2.2.2.2.2.2.2.2.2.2.2.2.2.2.2.2.2.2.2.2.2.2.2.2.2.2.2.1
noncomputable def o2 : Obj := HkC.2.2.2.2.2.2.2.2.2.2.2.2.2.2.2.2.2.2.2.2.2.2.2.2.2.2.2.2.2.2.2.2.2.2.2.1
noncomputable def x : Int := HkC.2.2.2.2.2.2.2.2.2.2.2.2.2.2.2.2.2.2.2.2.2.2.2.2.2.2.2.2.2.2.2.2.2.2.2.2.1
noncomputable def y : Int := HkC.2.2.2.2.2.2.2.2.2.2.2.2.2.2.2.2.2.2.2.2.2.2.2.2.2.2.2.2.2.2.2.2.2.2.2.2.2.1
noncomputable def tx : Tok := HkC.2.2.2.2.2.2.2.2.2.2.2.2.2.2.2.2.2.2.2.2.2.2.2.2.2.2.2.2.2.2.2.2.2.2.2.2.2.2.1
noncomputable def ty : Tok := HkC.2.2.2.2.2.2.2.2.2.2.2.2.2.2.2.2.2.2.2.2.2.2.2.2.2.2.2.2.2.2.2.2.2.2.2.2.2.2.2.1
noncomputable def t1 : Tok := HkC.2.2.2.2.2.2.2.2.2.2.2.2.2.2.2.2.2.2.2.2.2.2.2.2.2.2.2.2.2.2.2.2.2.2.2.2.2.2.2.2.1
noncomputable def t2 : Tok := HkC.2.2.2.2.2.2.2.2.2.2.2.2.2.2.2.2.2.2.2.2.2.2.2.2.2.2.2.2.2.2.2.2.2.2.2.2.2.2.2.2.2.1
noncomputable def vs : List Value := HkC.2.2.2.2.2.2.2.2.2.2.2.2.2.2.2.2.2.2.2.2.2.2.2.2.2.2.2.2.2.2.2.2.2.2.2.2.2.2.2.2.2.2.1
noncomputable def us : List Value := HkC.2.2.2.2.2.2.2.2.2.2.2.2.2.2.2.2.2.2.2.2.2.2.2.2.2.2.2.2.2.2.2.2.2.2.2.2.2.2.2.2.2.2.2.1
noncomputable def ts : List Str := HkC.2.2.2.2.2.2.2.2.2.2.2.2.2.2.2.2.2.2.2.2.2.2.2.2.2.2.2.2.2.2.2.2.2.2.2.2.2.2.2.2.2.2.2.2.1
noncomputable def bs : List Str := HkC.2.2.2.2.2.2.2.2.2.2.2.2.2.2.2.2.2.2.2.2.2.2.2.2.2.2.2.2.2.2.2.2.2.2.2.2.2.2.2.2.2.2.2.2.2.1
noncomputable def bf : Str := HkC.2.2.2.2.2.2.2.2.2.2.2.2.2.2.2.2.2.2.2.2.2.2.2.2.2.2.2.2.2.2.2.2.2.2.2.2.2.2.2.2.2.2.2.2.2.2.1
noncomputable def af : Str := HkC.2.2.2.2.2.2.2.2.2.2.2.2.2.2.2.2.2.2.2.2.2.2.2.2.2.2.2.2.2.2.2.2.2.2.2.2.2.2.2.2.2.2.2.2.2.2.2
theorem HkAt : HkP0 prog w p loose mean mg mb dp un gd cn cs a ccd cl outer base g h₀ h₁ L L' src tl bl m m₁ s tk n1 n2 nx R sub o1 o2 x y tx ty t1 t2 vs us ts bs bf af := by
  unfold HkP0
  intro name qual params body scope dV kV doc pm cdv ct oc an od osl rest hb ho FG B X T hd hu F₁ N₁ l1 p1 p2 p3 p4 p5 p6 p7 d1 d2 m1 m2 m3 m4 hx hy0 hy WT WB hts htl hbs hbl hbf haf hR
  subst hb
  have hz := fillK; revert hz; k_fill; intro _
  k_with_none
  w_top off
  k_with "*" => ((with_reducible show wpAny _ _ _ _ _ (Shared.mk _ _ _ (_ + _ + _) _)); refine st_norm (s0 := s) rfl rfl rfl fun _ => ?_)
  k_with "execs cons" => (k_here; first | ((rename News _ _ _ _ => N6); dsimp only at N6) | ((rename Fr _ _ _ _ => F6); dsimp only at F6))
  k_with "compareOp Eq ref ref" => (k_here; k_dflt (refine' eq_nil_split ?xN ?xa ?xw ?xb ?xu ?_ ?_; (case xN => k_asm); (case xa => k_mem); (case xw => assumption); (case xb => k_mem); (case xu => ktr_units)); all_goals intro hs9)
  k_with "compareOp NotEq ref ref" => (first | (k_here; k_dflt (refine' ne_nil_split ?xN ?xa ?xw ?xb ?xu ?_ ?_; (case xN => k_asm); (case xa => k_mem); (case xw => assumption); (case xb => k_mem); (case xu => ktr_units)); all_goals intro hs9))
  k_with "InvEndN" => (k_dflt kst_close)
  k_with "subscriptTail Name BinOp ref int" => (k_here; k_dflt (refine' str_item ?xN ?xm ?xw ?x0 ?x1 ?xf ?_ ?xs; (case xN => k_asm); (case xm => k_mem); (case xw => assumption); (case x0 => omega); (case x1 => omega); (case xf => omega); (case xs => with_unfolding_all rfl)); intro t9)
  k_with "subscriptTail Name Name ref int" => (k_here; k_dflt (first
  | (refine' str_item ?xN ?xm ?xw ?x0 ?x1 ?xf ?_ ?xs; (case xN => k_asm); (case xm => k_mem); (case xw => assumption); (case x0 => omega); (case x1 => omega); (case xf => omega); (case xs => with_unfolding_all rfl))
  | (refine' int_item ?xN ?xm ?xw ?x0 ?x1 ?xf ?_ ?xs; (case xN => k_asm); (case xm => k_mem); (case xw => assumption); (case x0 => omega); (case x1 => omega); (case xf => omega); (case xs => with_unfolding_all rfl))); intro t9)
  k_with "binaryOp Add str str" => (k_here; (with_reducible show wpAny _ _ (binaryOp Operator.Add (Value.str _ _) (Value.str (List.getD _ _ _) _)) _ _ _); k_dflt (refine' add_strB 10 ?xa ?xb ?xc ?_; (case xa => omega); (case xb => exact strD_len (by assumption) _); (case xc => decide)); intro _ _ _)
  k_with "binaryOp Add str str" => (k_here; (with_reducible show wpAny _ _ (binaryOp Operator.Add (Value.str _ _) (Value.str (Str.ofString "") _)) _ _ _); k_dflt (refine' add_strB 0 ?xa ?xb ?xc ?_; (case xa => omega); (case xb => decide); (case xc => decide)); intro _ _ _)
  k_with "assign Tuple" => (k_here; (with_reducible show wpAny _ _ (assign (Expr.Tuple _ _ _) _ (Value.ref _)) _ _ _); k_dflt (refine' unpackN_ ?F ?N ?T ?k1 ?k2 ?k3 ?_; (case F => k_asm); (case N => k_asm); (case T => exact News.isTup (by k_asm) (by assumption)); (case k1 => exact rfl); (case k2 => exact rfl); (case k3 => exact rfl)); intro h' F' N'; (try k_sweep))
  k_with "execs cons" => (k_here; (with_reducible show wpAny _ _ (execs (Stmt.Assign [Expr.Tuple [Expr.Name _ _, Expr.Name _ _] _ _] (Expr.Call _ _ _ _) _ :: _) _) _ _ _); k_extra "seg")
  k_with "call builtin:len" => (k_here; k_dflt (refine' len_strs ?xN ?xm ?xw ?x1 ?_; (case xN => k_asm); (case xm => k_mem); (case xw => assumption); (case x1 => omega)))
  obtain ⟨e1, e2, e3, e4⟩ := fn_inj ho (by k_is)
  clear ho
  subst e1 e2 e3 e4
  simp only [List.drop_succ_cons, List.drop_zero]
  have hS : MySub sub := trivial
  have F₂ := fr_norm (ps := [(Str.ofString "tokens", .ref tl), (Str.ofString "between", .ref bl), (Str.ofString "before", .str bf t1), (Str.ofString "after", .str af t2)]) (by simp only [List.forall_mem_cons, List.not_mem_nil, false_implies, implies_true, and_true]; exact ⟨m1, m2, m3, m4⟩) F₁
  clear F₁ m1 m2 m3 m4
  dsimp only [kstB] at F₂
  have htd : ∀ u ∈ ts, u.length ≤ 10 := fun u hu => Nat.le_trans (toks_len u (hts u hu)) (by decide)
  have hbd : ∀ u ∈ bs, u.length ≤ 10 := fun u hu => betw_len u (hbs u hu)
  k_with "seg" => k_dflt (
    refine' seg_does ?hb ?ho ?FG ?B ?X ?T ?hd ?hu ?F1 ?N1 ?l1 ?p1 ?p2 ?p3 ?p4 ?p5 ?p6 ?p7 ?d1 ?d2 ?m1 ?m2 ?m3 ?m4 ?m5 ?hx ?hy0 ?hy ?WT ?WB ?hts ?htl ?hbs ?hbl ?hbf ?haf ?haf0 ?hxt ?hxl ?hR
    (case ho => k_is)
    (case hb => exact rfl)
    (case FG => assumption)
    (case B => assumption)
    (case X => assumption)
    (case T => assumption)
    (case hd => assumption)
    (case hu => assumption)
    (case F1 => assumption)
    (case m1 => exact rfl)
    (case m2 => exact rfl)
    (case m3 => exact rfl)
    (case m4 => exact rfl)
    (case m5 => exact rfl)
    (case N1 => (refine' news5 ?na ?nb ?nc ?nd ?ne ?nf; (case na => k_asm); (case nb => k_mem); (case nc => k_mem); (case nd => k_mem); (case ne => k_mem); (case nf => k_mem)))
    (case l1 => assumption)
    (case p1 => assumption)
    (case p2 => assumption)
    (case p3 => assumption)
    (case p4 => assumption)
    (case p5 => assumption)
    (case p6 => assumption)
    (case p7 => assumption)
    (case d1 => assumption)
    (case d2 => assumption)
    (case hx => assumption)
    (case hy0 => assumption)
    (case hy => assumption)
    (case WT => assumption)
    (case WB => assumption)
    (case hts => assumption)
    (case htl => assumption)
    (case hbs => assumption)
    (case hbl => assumption)
    (case hbf => assumption)
    (case haf => first | assumption | exact .head _)
    (case haf0 => first | exact fun _ => rfl | (intro h; exfalso; omega))
    (case hxt => exact text_end (by assumption))
    (case hxl => exact text_len (by assumption) (by assumption))
    (case hR => exact hR))
  k_with "pyIter ref" => k_state_given ["before"] (fun bf pre f => f = pre.foldl (textStep ts bs) bf ∧ f.length ≤ 10 + 20 * pre.length) "text"
  k_with "state" => k_dflt (first | exact ts_start (by assumption) | exact ts_posE (by assumption) (by assumption) (by assumption) (by assumption) (by first | assumption | omega) | exact ts_negE (by assumption) (by assumption) (by assumption) (by first | assumption | omega))
  k_steps
theorem HkEq : HkC = hkEps HkD HkP := by unfold HkC; rfl
end Hkmiddoes
theorem mid_does {prog : Program} {w : World} {p : Program} {loose : List Str} {mean : ExcName → Option Value} {mg mb : Str → Option Value} {name qual : Str} {params : Arguments} {body : List Stmt} {scope : Scope} {dV kV doc pm cdv ct oc : Value} {an od : Option Addr} {osl : Array (Option Value)} {rest : List Stmt} (hb : rest = body.drop 3) (ho : (Mine.kk.heap_1 w.params).lookup 158 = some ⟨oc, od, .func (fnOf name qual params body scope dV kV doc pm an cdv ct), osl⟩) {dp un : Nat} {gd : Option (List Code)} {cn : Str} {cs : Scope} {a : Addr} {ccd : Value} {cl : List (Str × Addr)} {outer : List Env} {base g h₀ h₁ : Heap} {L L' src tl bl : Addr} {m m₁ : Str → Option Value} {s : Shared} {tk n1 n2 nx : Nat} {R : Result → Shared → Prop} {sub : List (Addr × Obj)} {o1 o2 : Obj} {x y : Int} {tx ty t1 t2 : Tok} {vs us : List Value} {ts bs : List Str} {bf af : Str} (FG : Fr h₀ L g m) (B : Below (ktrTop dp un gd cn cs L a ccd cl outer) base (envX cn cs L a ccd cl :: outer) g) (X : (Mine.kk.heap_1 w.params).In g) (T : Top p loose mean mg mb g) (hd : dp + 8 < recursionLimit) (hu : un + 8 * 8 < cLine) (F₁ : Fr g L' h₁ m₁) (N₁ : News g L' h₁ [(bl, listOf us.toArray n1), (tl, listOf vs.toArray n2), (L' + 1 + 1, o1), (L' + 1, o2), (src, srcO x tx y ty nx)]) (l1 : @LT.lt Nat _ src L') (p1 : Ap (L' + 1 + 1) tl) (p2 : Ap (L' + 1) tl) (p3 : Ap src tl) (p4 : Ap tl bl) (p5 : Ap (L' + 1 + 1) bl) (p6 : Ap (L' + 1) bl) (p7 : Ap src bl) (d1 : o1.data = .cell none) (d2 : o2.data = .cell (some (.ref src))) (m1 : m₁ (Str.ofString "tokens") = some (.ref tl)) (m2 : m₁ (Str.ofString "between") = some (.ref bl)) (m3 : m₁ (Str.ofString "before") = some (.str bf t1)) (m4 : m₁ (Str.ofString "after") = some (.str af t2)) (hx : 0 ≤ x) (hy0 : 0 ≤ y) (hy : y < 2147483647) (WT : StrsAre vs ts) (WB : StrsAre us bs) (hts : ∀ u ∈ ts, u ∈ TOKS) (htl : ts.length ≤ 3) (hbs : ∀ u ∈ bs, u ∈ BETW) (hbl : bs.length = ts.length - 1) (hbf : bf ∈ BEFO) (haf : af ∈ AFTE) (hR : ∀ h' tk' x' tx' y' ty' n', 0 ≤ x' → 0 ≤ y' → y' < 2147483647 → Fr h₀ L h' m → News h₀ L h' [(src, srcO x' tx' y' ty' n')] → Kept sub s.heap h' → R (.ok (.ret (.bool true))) { s with heap := h', toks := tk' }) :
    wpAny (model prog w) ((ktrTop dp un gd cn cs L a ccd cl outer).deeper (envOfC qual scope L' 158 cdv)) (execs rest (envOfC qual scope L' 158 cdv))
      (fun fl s' => LeaveK h₀ L m g (fun r s' => Kept sub s.heap s'.heap → R r s') (match fl with | .ret v => v | _ => .none) s') (fun _ _ => False) { s with heap := h₁, toks := tk } :=
  hkAll (P := Hkmiddoes.HkP) Hkmiddoes.HkEq Hkmiddoes.HkAt (prog, w, p, loose, mean, mg, mb, dp, un, gd, cn, cs, a, ccd, cl, outer, base, g, h₀, h₁, L, L', src, tl, bl, m, m₁, s, tk, n1, n2, nx, R, sub, o1, o2, x, y, tx, ty, t1, t2, vs, us, ts, bs, bf, af) name qual params body scope dV kV doc pm cdv ct oc an od osl rest hb ho FG B X T hd hu F₁ N₁ l1 p1 p2 p3 p4 p5 p6 p7 d1 d2 m1 m2 m3 m4 hx hy0 hy WT WB hts htl hbs hbl hbf haf hR
section
variable {prog : Program} {w : World} {p : Program} {loose : List Str} {mean : ExcName → Option Value} {mg mb : Str → Option Value}
end
end Mine
end
section
set_option linter.unusedVariables false
open PySem PySem.W PyProof.Rows PySem.Calls PySem.Spec
set_option maxRecDepth 100000
set_option maxHeartbeats 40000000
namespace Mine
section
variable {prog : Program} {w : World} {p : Program} {loose : List Str} {mean : ExcName → Option Value} {mg mb : Str → Option Value}
end
namespace Hkrightdoes
abbrev HkT : Type := (Program) × (World) × (Program) × (List Str) × (ExcName → Option Value) × (Str → Option Value) × (Str → Option Value) × (List (Addr × Obj)) × (Obj → List (Addr × Obj)) × (Addr) × (Int) × (Int) × (Tok) × (Tok) × (Nat) × (Nat) × (Nat) × (Option (List Code)) × (Str) × (Scope) × (Addr) × (Value) × (List (Str × Addr)) × (List Env) × (Around) × (Heap) × (Heap) × (Addr) × (Str → Option Value) × (Shared) × (Value → Shared → Prop)
def HkP0 (prog : Program) (w : World) (p : Program) (loose : List Str) (mean : ExcName → Option Value) (mg : Str → Option Value) (mb : Str → Option Value) (news : List (Addr × Obj)) (gn : Obj → List (Addr × Obj)) (src : Addr) (x : Int) (y : Int) (tx : Tok) (ty : Tok) (n : Nat) (dp : Nat) (un : Nat) (gd : Option (List Code)) (cn : Str) (cs : Scope) (a : Addr) (ccd : Value) (cl : List (Str × Addr)) (outer : List Env) (A₀ : Around) (base : Heap) (h₀ : Heap) (L : Addr) (m : Str → Option Value) (s : Shared) (Q : Value → Shared → Prop) : Prop := ∀ (U : UpdF src (srcO x tx y ty n) news gn) (hx : 0 ≤ x) (hy0 : 0 ≤ y) (hy : y < 2147483647) (B : Below A₀ base outer h₀) (F : Fr h₀ L s.heap m) (X : (Mine.kk.heap_1 w.params).In h₀) (N : News h₀ L s.heap news) (T : Top p loose mean mg mb h₀) (hk : cs.kind = .function) (hd : dp + 8 < recursionLimit) (hu : un + 8 * 8 < cLine) (hret : (fun (K : Value → List (Addr × Obj) → Prop) => ∀ x' tx' y' ty' n', 0 ≤ x' → 0 ≤ y' → y' < 2147483647 → K (.bool true) (gn (srcO x' tx' y' ty' n'))) fun v news' => ∀ h' tk', Fr h₀ L h' m → News h₀ L h' news' → Q v { s with heap := h', toks := tk' }), wpAny (model prog w) (ktrTop dp un gd cn cs L a ccd cl outer) (call (.ref 158) [.ref src]) Q (fun _ _ => False) s
def HkP (c9 : HkT) : Prop := HkP0 c9.1 c9.2.1 c9.2.2.1 c9.2.2.2.1 c9.2.2.2.2.1 c9.2.2.2.2.2.1 c9.2.2.2.2.2.2.1 c9.2.2.2.2.2.2.2.1 c9.2.2.2.2.2.2.2.2.1 c9.2.2.2.2.2.2.2.2.2.1 c9.2.2.2.2.2.2.2.2.2.2.1 c9.2.2.2.2.2.2.2.2.2.2.2.1 c9.2.2.2.2.2.2.2.2.2.2.2.2.1 c9.2.2.2.2.2.2.2.2.2.2.2.2.2.1 c9.2.2.2.2.2.2.2.2.2.2.2.2.2.2.1 c9.2.2.2.2.2.2.2.2.2.2.2.2.2.2.2.1 c9.2.2.2.2.2.2.2.2.2.2.2.2.2.2.2.2.1 c9.2.2.2.2.2.2.2.2.2.2.2.2.2.2.2.2.2.1 c9.2.2.2.2.2.2.2.2.2.2.2.2.2.2.2.2.2.2.1 c9.2.2.2.2.2.2.2.2.2.2.2.2.2.2.2.2.2.2.2.1 c9.2.2.2.2.2.2.2.2.2.2.2.2.2.2.2.2.2.2.2.2.1 c9.2.2.2.2.2.2.2.2.2.2.2.2.2.2.2.2.2.2.2.2.2.1 c9.2.2.2.2.2.2.2.2.2.2.2.2.2.2.2.2.2.2.2.2.2.2.1 c9.2.2.2.2.2.2.2.2.2.2.2.2.2.2.2.2.2.2.2.2.2.2.2.1 c9.2.2.2.2.2.2.2.2.2.2.2.2.2.2.2.2.2.2.2.2.2.2.2.2.1 c9.2.2.2.2.2.2.2.2.2.2.2.2.2.2.2.2.2.2.2.2.2.2.2.2.2.1 c9.2.2.2.2.2.2.2.2.2.2.2.2.2.2.2.2.2.2.2.2.2.2.2.2.2.2.1 c9.2.2.2.2.2.2.2.2.2.2.2.2.2.2.2.2.2.2.2.2.2.2.2.2.2.2.2.1 c9.2.2.2.2.2.2.2.2.2.2.2.2.2.2.2.2.2.2.2.2.2.2.2.2.2.2.2.2.1 c9.2.2.2.2.2.2.2.2.2.2.2.2.2.2.2.2.2.2.2.2.2.2.2.2.2.2.2.2.2.1 c9.2.2.2.2.2.2.2.2.2.2.2.2.2.2.2.2.2.2.2.2.2.2.2.2.2.2.2.2.2.2
noncomputable def HkD : HkT := ((default), (w00), (default), ([]), (fun _ => none), (fun _ => none), (fun _ => none), ([]), (fun _ => []), ((0 : Nat)), ((0 : Int)), ((0 : Int)), ((0 : Nat)), ((0 : Nat)), ((0 : Nat)), ((0 : Nat)), ((0 : Nat)), (none), (Str.empty), (default), ((0 : Nat)), (Value.none), ([]), ([]), (callerA), (default), (default), ((0 : Nat)), (fun _ => none), ({}), (fun _ _ => True))
@[irreducible] noncomputable def HkC : HkT := hkEps HkD HkP
noncomputable def prog : Program := HkC.1
noncomputable def w : World := HkC.2.1
noncomputable def p : Program := HkC.2.2.1
noncomputable def loose : List Str := HkC.2.2.2.1
noncomputable def mean : ExcName → Option Value := HkC.2.2.2.2.1
noncomputable def mg : Str → Option Value := HkC.2.2.2.2.2.1
noncomputable def mb : Str → Option Value := HkC.2.2.2.2.2.2.1
noncomputable def news : List (Addr × Obj) := HkC.2.2.2.2.2.2.2.1
noncomputable def gn : Obj → List (Addr × Obj) := HkC.2.2.2.2.2.2.2.2.1
noncomputable def src : Addr := HkC.2.2.2.2.2.2.2.2.2.1
noncomputable def x : Int := HkC.2.2.2.2.2.2.2.2.2.2.1
noncomputable def y : Int := HkC.2.2.2.2.2.2.2.2.2.2.2.1
noncomputable def tx : Tok := HkC.2.2.2.2.2.2.2.2.2.2.2.2.1
noncomputable def ty : Tok := HkC.2.2.2.2.2.2.2.2.2.2.2.2.2.1
noncomputable def n : Nat := HkC.2.2.2.2.2.2.2.2.2.2.2.2.2.2.1
noncomputable def dp : Nat := HkC.2.2.2.2.2.2.2.2.2.2.2.2.2.2.2.1
noncomputable def un : Nat := HkC.2.2.2.2.2.2.2.2.2.2.2.2.2.2.2.2.1
noncomputable def gd : Option (List Code) := HkC.2.2.2.2.2.2.2.2.2.2.2.2.2.2.2.2.2.1
noncomputable def cn : Str := HkC.2.2.2.2.2.2.2.2.2.2.2.2.2.2.2.2.2.2.1
noncomputable def cs : Scope := HkC.2.2.2.2.2.2.2.2.2.2.2.2.2.2.2.2.2.2.2.1
noncomputable def a : Addr := HkC.2.2.2.2.2.2.2.2.2.2.2.2.2.2.2.2.2.2.2.2.1
noncomputable def ccd : Value := HkC.2.2.2.2.2.2.2.2.2.2.2.2.2.2.2.2.2.2.2.2.2.1
noncomputable def cl : List (Str × Addr) := HkC.2.2.2.2.2.2.2.2.2.2.2.2.2.2.2.2.2.2.2.2.2.2.1
noncomputable def outer : List Env := HkC.2.2.2.2.2.2.2.2.2.2.2.2.2.2.2.2.2.2.2.2.2.2.2.1
noncomputable def A₀ : Around := HkC.2.2.2.2.2.2.2.2.2.2.2.2.2.2.2.2.2.2.2.2.2.2.2.2.1
noncomputable def base : Heap := HkC.2.2.2.2.2.2.2.2.2.2.2.2.2.2.2.2.2.2.2.2.2.2.2.2.2.1
noncomputable def h₀ : Heap := HkC.2.2.2.2.2.2.2.2.2.2.2.2.2.2.2.2.2.2.2.2.2.2.2.2.2.2.1
noncomputable def L : Addr := HkC.2.2.2.2.2.2.2.2.2.2.2.2.2.2.2.2.2.2.2.2.2.2.2.2.2.2.2.1
noncomputable def m : Str → Option Value := HkC.2.2.2.2.2.2.2.2.2.2.2.2.2.2.2.2.2.2.2.2.2.2.2.2.2.2.2.2.1
noncomputable def s : Shared := HkC.2.2.2.2.2.2.2.2.2.2.2.2.2.2.2.2.2.2.2.2.2.2.2.2.2.2.2.2.2.1
noncomputable def Q : Value → Shared → Prop := HkC.2.2.2.2.2.2.2.2.2.2.2.2.2.2.2.2.2.2.2.2.2.2.2.2.2.2.2.2.2.2
theorem HkAt : HkP0 prog w p loose mean mg mb news gn src x y tx ty n dp un gd cn cs a ccd cl outer A₀ base h₀ L m s Q := by
  unfold HkP0
  intro U hx hy0 hy B F X N T hk hd hu hret
  have hz := fillK; revert hz; k_fill; intro _
  k_with_none
  w_top off
  k_with "*" => first | ((with_reducible show wpAny _ _ _ _ _ (Shared.mk _ _ _ (_ + _ + _) _)); refine st_norm (s0 := s) rfl rfl rfl fun _ => ?_) | ((with_reducible show wpAny _ _ (eval _ _) _ _ _); k_fold)
  k_with "execs cons" => (k_here; first | ((rename News _ _ _ _ => N6); dsimp only at N6) | ((rename Fr _ _ _ _ => F6); dsimp only at F6))
  k_with "eval List" => (k_here; k_dflt (refine' strs_list ?zh ?zn ?zF ?zN ?_; (case zh => repeat (first | exact IsStrs.nil | refine IsStrs.cons ?_)); (case zn => exact Nat.le_of_ble_eq_true rfl); (case zF => k_asm); (case zN => k_asm)); intro vs9 a9 h9 tk9 W9 l1 F9 N9; (try k_lt l1))
  k_with "call ref" => (k_here; k_dflt (refine' Does.use (lawOneP_does _ _ _ _ _ _ _ _ _ _ _ ?U ?M ?hne ?h0 ?h1 ?h2 ?W ?hl ?hl2) ?k1 ?k2 ?k3 ?k4 ?k5 ?kK ?kd ?ku ?_; (case k1 => k_asm); (case k2 => k_asm); (case k3 => k_asm); (case k4 => k_asm); (case M => k_mem); (case W => (refine' PairsAre.cons ?pm1 ?pn1 ?pq1 (PairsAre.cons ?pm2 ?pn2 ?pq2 (PairsAre.cons ?pm3 ?pn3 ?pq3 (PairsAre.cons ?pm4 ?pn4 ?pq4 (PairsAre.cons ?pm5 ?pn5 ?pq5 PairsAre.nil)))); (case pm1 => k_mem); (case pn1 => k_ne); (case pq1 => (with_reducible first | exact seps_1 | exact seps_2 | exact seps_3 | exact seps_4)); (case pm2 => k_mem); (case pn2 => k_ne); (case pq2 => (with_reducible first | exact seps_1 | exact seps_2 | exact seps_3 | exact seps_4)); (case pm3 => k_mem); (case pn3 => k_ne); (case pq3 => (with_reducible first | exact seps_1 | exact seps_2 | exact seps_3 | exact seps_4)); (case pm4 => k_mem); (case pn4 => k_ne); (case pq4 => (with_reducible first | exact seps_1 | exact seps_2 | exact seps_3 | exact seps_4)); (case pm5 => k_mem); (case pn5 => k_ne); (case pq5 => (with_reducible first | exact seps_1 | exact seps_2 | exact seps_3 | exact seps_4)))); (case k5 => k_asm); (case kK => first | exact rfl | assumption); (case kd => ktr_room); (case ku => ktr_units); (case U => k_updF); (case hne => k_ne); (case h0 => assumption); (case h1 => assumption); (case h2 => assumption); (case hl => exact Nat.le_of_ble_eq_true rfl); (case hl2 => exact Nat.le_of_ble_eq_true rfl); (try dsimp only)); intro a9 se9 sz9 ts9 ti9 x9 tx9 y9 ty9 n9 hq9 hm9 hx9 hy9 hy9b h9 tk9 F9 N9; (try k_fold))
  k_with "call ref" => (k_here; k_dflt (refine' Does.use (lawOneI_does _ _ _ _ _ _ _ _ _ _ _ _ ?U ?M ?hne ?h0 ?h1 ?h2 ?W ?hl ?hl2) ?k1 ?k2 ?k3 ?k4 ?k5 ?kK ?kd ?ku ?_; (case k1 => k_asm); (case k2 => k_asm); (case k3 => k_asm); (case k4 => k_asm); (case M => k_mem); (case W => exact (IntsAre.cons _ _ (IntsAre.cons _ _ (IntsAre.cons _ _ (IntsAre.cons _ _ (IntsAre.cons _ _ (IntsAre.cons _ _ (IntsAre.cons _ _ (IntsAre.cons _ _ (IntsAre.cons _ _ (IntsAre.cons _ _ (IntsAre.cons _ _ (IntsAre.cons _ _ (IntsAre.cons _ _ (IntsAre.cons _ _ (IntsAre.cons _ _ (IntsAre.cons _ _ (IntsAre.cons _ _ (IntsAre.cons _ _ (IntsAre.cons _ _ (IntsAre.cons _ _ IntsAre.nil))))))))))))))))))))); (case k5 => k_asm); (case kK => first | exact rfl | assumption); (case kd => ktr_room); (case ku => ktr_units); (case U => k_updF); (case hne => k_ne); (case h0 => assumption); (case h1 => assumption); (case h2 => assumption); (case hl => exact Nat.le_of_ble_eq_true rfl); (case hl2 => exact Nat.le_of_ble_eq_true rfl); (try dsimp only)); intro v9 t9 x9 tx9 y9 ty9 n9 hv9 hx9 hy9 hy9b h9 tk9 F9 N9; (try k_fold))
  k_with "call ref" => (k_here; k_dflt (refine' Does.use (lawOneS_does _ _ _ _ _ _ _ _ _ _ _ _ ?U ?M ?hne ?h0 ?h1 ?h2 ?W ?hl ?hl2) ?k1 ?k2 ?k3 ?k4 ?k5 ?kK ?kd ?ku ?_; (case k1 => k_asm); (case k2 => k_asm); (case k3 => k_asm); (case k4 => k_asm); (case M => k_mem); (case W => first | assumption | exact (StrsAre.cons _ _ (StrsAre.cons _ _ (StrsAre.cons _ _ (StrsAre.cons _ _ (StrsAre.cons _ _ (StrsAre.cons _ _ (StrsAre.cons _ _ (StrsAre.cons _ _ StrsAre.nil)))))))) | exact (StrsAre.cons _ _ (StrsAre.cons _ _ (StrsAre.cons _ _ (StrsAre.cons _ _ StrsAre.nil))))); (case k5 => k_asm); (case kK => first | exact rfl | assumption); (case kd => ktr_room); (case ku => ktr_units); (case U => k_updF); (case hne => k_ne); (case h0 => assumption); (case h1 => assumption); (case h2 => assumption); (case hl => first | exact strs_ge (by assumption) rfl | exact Nat.le_of_ble_eq_true rfl); (case hl2 => first | exact strs_le (by assumption) rfl | exact Nat.le_of_ble_eq_true rfl); (try dsimp only)); intro v9 t9 x9 tx9 y9 ty9 n9 hv9 hx9 hy9 hy9b h9 tk9 F9 N9; (try k_fold))
  k_with "call ref" => (k_here; k_dflt (refine' Does.use (take_does _ _ _ _ _ _ _ _ _ _ ?U ?h0 ?h1 ?h2 ?h3 ?h4) ?k1 ?k2 ?k3 ?k4 ?k5 ?kK ?kd ?ku ?_; (case k1 => k_asm); (case k2 => k_asm); (case k3 => k_asm); (case k4 => k_asm); (case k5 => k_asm); (case kK => first | exact rfl | assumption); (case kd => ktr_room); (case ku => ktr_units); (case U => k_updF); (case h0 => assumption); (case h1 => assumption); (case h2 => assumption); (case h3 => omega); (case h4 => omega); (try dsimp only)); intro d9 t9 x9 tx9 y9 ty9 n9 hd9 hd9b hx9 hy9 hy9b h9 tk9 F9 N9; (try k_fold))
  k_with "CompSrc" => (k_here; k_dflt (refine LCg.CompSrc.range (by rfl) (by k_asm) (by k_asm) (by assumption) (by first | exact small_one (by kcf_bnd) (by kcf_bnd) (by kcf_bnd) (by kcf_bnd) | decide) (by first | exact rangeSize_nat _ _ | rfl) (by (rw [PySem.sizeLine_eq]; omega)) ?_; intro g'); k_extra "draws")
  k_with "CompEnd" => (k_dflt (refine' draw_end ?F ?N ?sub ?off ?h0 ?h1 ?h2 ?hv; (case F => assumption); (case N => assumption); (case sub => ((repeat (refine forall_sub_cons (by k_mem) ?_)); exact List.forall_mem_nil _)); (case off => first | (rename LCg.Off3 _ _ _ _ => q9; exact q9) | lcg_off); (case h0 => assumption); (case h1 => assumption); (case h2 => assumption); (case hv => exact ⟨_, _, rfl, by assumption⟩)))
  k_with "assign Tuple" => (k_here; (with_reducible show wpAny _ _ (assign (Expr.Tuple _ _ _) _ (Value.ref _)) _ _ _); k_dflt (refine' unpackN_ ?F ?N ?T ?k1 ?k2 ?k3 ?_; (case F => k_asm); (case N => k_asm); (case T => exact News.isTup (by k_asm) (by assumption)); (case k1 => exact rfl); (case k2 => exact rfl); (case k3 => exact rfl)); intro h' F' N'; (try k_sweep))
  k_with "execs cons" => (k_here; (with_reducible show wpAny _ _ (execs (Stmt.If _ _ _ _ :: _) _) _ _ _); k_extra "mid")
  k_with "call builtin:len" => (k_here; k_dflt (refine' len_strs ?xN ?xm ?xw ?x1 ?_; (case xN => k_asm); (case xm => k_mem); (case xw => assumption); (case x1 => omega)))
  have hS : MySub [(src, srcO x tx y ty n)] := trivial
  have hmem : ∀ q ∈ [(src, srcO x tx y ty n)], q ∈ news := by simpa using updF_mem U
  refine wpAny_call ?_
  w_top off
  k_dflt (refine' code_subC ?kS ?k1 ?k2 ?k3 ?k4 ?k4s ?k5 ?kA ?kF ?kK ?k6 ?k7 ?k8 ?k9 ?kB ?kD ?_ ?c2 ?c3 ?c4; (case kS => assumption); (case kA => exact rfl); (case kF => exact rfl); (case kK => assumption); (case k1 => k_asm); (case k2 => k_asm); (case k3 => k_asm); (case k4 => k_asm); (case k4s => first | exact List.forall_mem_nil _ | assumption); (case k5 => k_asm); (case k6 => k_is); (case k7 => k_is); (case k8 => ktr_room); (case k9 => exact BindsTo.of_eq rfl); (case kB => exact rfl); (case kD => decide +kernel); (case c2 => exact rfl); (case c3 => exact rfl); (case c4 => exact rfl); k_whole; intro g' L' h' tk' cells' FG' F' N' Y' B' X' T' l1 G'; (try k_lt l1); k_cells Y'; (try simp only [List.cons_append, List.nil_append] at N'); (try dsimp only); (try k_lift B'); (try k_fold))
  k_with "mid" => k_dflt (
    refine' mid_does ?hb ?ho ?FG ?B ?X ?T ?hd ?hu ?F1 ?N1 ?l1 ?p1 ?p2 ?p3 ?p4 ?p5 ?p6 ?p7 ?d1 ?d2 ?m1 ?m2 ?m3 ?m4 ?hx ?hy0 ?hy ?WT ?WB ?hts ?htl ?hbs ?hbl ?hbf ?haf ?hR
    (case ho => k_is)
    (case hb => exact rfl)
    (case FG => assumption)
    (case B => assumption)
    (case X => assumption)
    (case T => assumption)
    (case hd => assumption)
    (case hu => assumption)
    (case F1 => assumption)
    (case m1 => exact rfl)
    (case m2 => exact rfl)
    (case m3 => exact rfl)
    (case m4 => exact rfl)
    (case N1 => (refine' news5 ?na ?nb ?nc ?nd ?ne ?nf; (case na => k_asm); (case nb => k_mem); (case nc => k_mem); (case nd => k_mem); (case ne => k_mem); (case nf => k_mem)))
    (case l1 => assumption)
    (case p1 => (show @Ne Nat _ _); k_ne)
    (case p2 => (show @Ne Nat _ _); k_ne)
    (case p3 => (show @Ne Nat _ _); k_ne)
    (case p4 => (show @Ne Nat _ _); k_ne)
    (case p5 => (show @Ne Nat _ _); k_ne)
    (case p6 => (show @Ne Nat _ _); k_ne)
    (case p7 => (show @Ne Nat _ _); k_ne)
    (case d1 => assumption)
    (case d2 => assumption)
    (case hx => assumption)
    (case hy0 => assumption)
    (case hy => assumption)
    (case WT => assumption)
    (case WB => assumption)
    (case hts => assumption)
    (case htl => assumption)
    (case hbs => assumption)
    (case hbl => assumption)
    (case hbf => assumption)
    (case haf => assumption)
    (case hR => (intro h8 tk8 x8 tx8 y8 ty8 n8 a8 b8 c8 kF kN kK; exact hret _ _ _ _ _ a8 b8 c8 _ _ kF (Kept.upd kK N U kN))))
  k_with "draws" => k_dflt (
    refine' comp_draw (src := src) (IsS TOKS) ?U1 ?ha1 ?hb1 ?hc1 ?turn1 ?fin1
    (case U1 => k_updF)
    (case ha1 => assumption)
    (case hb1 => assumption)
    (case hc1 => assumption)
    case' turn1 =>
      intro x9 tx9 y9 ty9 nn9 k9 t9 I9 oI9 C9 oC9 D9 m9 ys9 h9 tk9 E9 b19 b29 b39 hC9 hx9 F9 N9 off9 ne9
      have off8 := off9
      (try simp only [LCg.Off3, and_true] at off9)
    case' fin1 =>
      intro x9 tx9 y9 ty9 nn9 ys9 b19 b29 b39 hl9 hP9
      obtain ⟨ts, WT, hts⟩ := isS_all hP9
      have htl : ts.length ≤ 3 := by have := WT.length; omega
      have htd : ∀ u ∈ ts, u.length ≤ 10 := fun u hu => Nat.le_trans (toks_len u (hts u hu)) (by decide)
      clear hP9 hl9
      k_with "draws" => k_dflt (
        refine' comp_draw (src := src) (IsS BETW) ?U2 ?ha2 ?hb2 ?hc2 ?turn2 ?fin2
        (case U2 => k_updF)
        (case ha2 => assumption)
        (case hb2 => assumption)
        (case hc2 => assumption)
        case' turn2 =>
          intro x9 tx9 y9 ty9 nn9 k9 t9 I9 oI9 C9 oC9 D9 m9 ys9 h9 tk9 E9 b19 b29 b39 hC9 hx9 F9 N9 off9 ne9
          have off8 := off9
          (try simp only [LCg.Off3, and_true] at off9)
        case' fin2 =>
          intro x9 tx9 y9 ty9 nn9 ys9 b19 b29 b39 hl9 hP9
          obtain ⟨bs, WB, hbs⟩ := isS_all hP9
          have hbl : bs.length = ts.length - 1 := by have := WB.length; revert hl9; split <;> omega
          have hbd : ∀ u ∈ bs, u.length ≤ 10 := fun u hu => betw_len u (hbs u hu)
          clear hP9 hl9
        )
    )
  k_steps
theorem HkEq : HkC = hkEps HkD HkP := by unfold HkC; rfl
end Hkrightdoes
theorem right_does {prog : Program} {w : World} {p : Program} {loose : List Str} {mean : ExcName → Option Value} {mg mb : Str → Option Value} (news : List (Addr × Obj)) (gn : Obj → List (Addr × Obj)) (src : Addr) (x y : Int) (tx ty : Tok) (n : Nat) (U : UpdF src (srcO x tx y ty n) news gn) (hx : 0 ≤ x) (hy0 : 0 ≤ y) (hy : y < 2147483647) :
    Does prog w (Mine.kk.heap_1 w.params) p loose mean mg mb (.ref 158) [.ref src] news 8 fun K => ∀ x' tx' y' ty' n', 0 ≤ x' → 0 ≤ y' → y' < 2147483647 → K (.bool true) (gn (srcO x' tx' y' ty' n')) :=
  fun dp un gd cn cs a ccd cl outer A₀ base h₀ L m s Q => hkAll (P := Hkrightdoes.HkP) Hkrightdoes.HkEq Hkrightdoes.HkAt (prog, w, p, loose, mean, mg, mb, news, gn, src, x, y, tx, ty, n, dp, un, gd, cn, cs, a, ccd, cl, outer, A₀, base, h₀, L, m, s, Q) U hx hy0 hy
section
variable {prog : Program} {w : World} {p : Program} {loose : List Str} {mean : ExcName → Option Value} {mg mb : Str → Option Value}
end
end Mine
end
section
set_option linter.unusedVariables false
open PySem PySem.W PyProof.Rows PySem.Calls PySem.Spec
set_option maxRecDepth 100000
set_option maxHeartbeats 4000000
namespace Mine
/-- as Does, where the caller's base heap is known to hold something -/
def DoesB (prog : Program) (w : World) (K : Frag) (p : Program) (loose : List Str) (mean : ExcName → Option Value) (mg mb : Str → Option Value) (Bs : Heap → Prop) (f : Value) (vs : List Value) (news : List (Addr × Obj)) (c : Nat) (Ret : (Value → List (Addr × Obj) → Prop) → Prop) : Prop :=
  ∀ (dp un : Nat) (gd : Option (List Code)) (cn : Str) (cs : Scope) (a : Addr) (ccd : Value) (cl : List (Str × Addr)) (outer : List Env) (A₀ : Around) (base h₀ : Heap) (L : Addr) (m : Str → Option Value) (s : Shared) (Q : Value → Shared → Prop),
    Bs h₀ → Below A₀ base outer h₀ → Fr h₀ L s.heap m → K.In h₀ → News h₀ L s.heap news → Top p loose mean mg mb h₀ → cs.kind = .function → dp + c < recursionLimit → un + 8 * c < cLine →
    (Ret fun v news' => ∀ h' tk', Fr h₀ L h' m → News h₀ L h' news' → Q v { s with heap := h', toks := tk' }) →
    wpAny (model prog w) (ktrTop dp un gd cn cs L a ccd cl outer) (call f vs) Q (fun _ _ => False) s
theorem base_item {prog : Program} {w : World} {A : Around} {E : Value → Shared → Prop} {s : Shared} {l : Addr} {vs : List Value} {ns : List Int} {value slice : PySem.Expr} {i : Int} {u : Tok} {Q : Value → Shared → Prop}
    (hl : s.heap.IsList l vs.toArray) (hw : IntsAre vs ns) (h0 : 0 ≤ i) (h1 : i < (vs.toArray.size : Int)) (hf : ns.length ≤ 1000) (h : ∀ t', Q (.int (ns.getD i.toNat 0) t') s)
    (hs : subscripted slice false (.ref l) (.int i u) = operate [.ref l, .int i u] (getItem (.ref l) (.int i u)) := by with_unfolding_all rfl) :
    wpAny (model prog w) A (subscriptTail value slice (.ref l) (.int i u)) Q E s := by
  have e : vs.toArray.size = ns.length := by rw [List.size_toArray]; exact hw.length
  have hlt : i.toNat < vs.length := by have := hw.length; omega
  obtain ⟨t, hk2⟩ := ints_get hw i.toNat (by omega)
  exact tail_any hl.typeIs slot_list_getitem.lookup (wpAny_getItem_list hl h0 (by omega) (x := .int (ns.getD i.toNat 0) t) (by simpa using hk2) (h t)) hs
theorem one_zero {c : Prop} [Decidable c] : (0 : Int) ≤ if c then 1 else 0 := by
  by_cases h : c
  · rw [if_pos h]; decide
  · rw [if_neg h]; decide
theorem pool_nn (v b : Int) : 0 ≤ (if -1 - v > v then -1 - v else v) * (if decide (b ≤ if -1 - v > v then -1 - v else v) = true then 1 else 0) := by
  have h : 0 ≤ (if -1 - v > v then -1 - v else v) := by split <;> omega
  exact Int.mul_nonneg h one_zero
section
variable {prog : Program} {w : World} {p : Program} {loose : List Str} {mean : ExcName → Option Value} {mg mb : Str → Option Value}
theorem news_hd {h₀ h : Heap} {L l : Addr} {o : Obj} {news : List (Addr × Obj)} (a : News h₀ L h [(l, o)]) (b : News h₀ L h news) : News h₀ L h ((l, o) :: news) := by
  intro p hp
  rcases List.mem_cons.mp hp with e | e
  · rw [e]; exact a _ List.mem_cons_self
  · exact b p e
theorem pool_does (news : List (Addr × Obj)) (sc : Addr) (vs : List Value) (ns : List Int) (k : Int) (t : Tok) (hI : IntsAre vs ns) (hl : ns.length ≤ 63) (hk0 : 0 ≤ k) (hk1 : k < 3) :
    DoesB prog w (Mine.kk.heap_1 w.params) p loose mean mg mb (fun h => h.IsList sc vs.toArray) (.ref 111) [.ref sc, .int k t] news 1 fun K => ∀ l x tx y ty n, (∀ q ∈ news, @Ne Nat q.1 l) → 0 ≤ x → 0 ≤ y → y < 2147483647 → K (.ref l) ((l, srcO x tx y ty n) :: news) := by
  have hz := fillK; revert hz; k_fill; intro _
  k_with_none
  w_top off
  k_with "*" => ((with_reducible show wpAny _ _ _ _ _ (Shared.mk _ _ _ (_ + _ + _) _)); refine st_norm (s0 := s) rfl rfl rfl fun _ => ?_)
  k_with "execs cons" => (k_here; first | ((rename News _ _ _ _ => N6); dsimp only at N6) | ((rename Fr _ _ _ _ => F6); dsimp only at F6))
  k_with "call builtin:len" => (k_here; (rename Heap.IsList _ _ _ => hL9); k_dflt (refine' len_list (Heap.IsList.at (Heap.IsList.at hL9 ?a) ?b) ?c ?_; (case b => exact fun o e => Fr.keep (by assumption) _ o e); (case a => exact fun o e => Fr.keep (by assumption) _ o e); (case c => (have hl8 := IntsAre.length (by assumption); simp only [List.size_toArray]; omega))))
  k_with "subscriptTail Name Name ref int" => (k_here; (rename Heap.IsList _ _ _ => hL9); k_dflt (refine' base_item (Heap.IsList.at (Heap.IsList.at hL9 ?a) ?b) ?xw ?x0 ?x1 ?xf ?_ ?xs; (case b => exact fun o e => Fr.keep (by assumption) _ o e); (case a => exact fun o e => Fr.keep (by assumption) _ o e); (case xw => assumption); (case x0 => assumption); (case x1 => assumption); (case xf => omega); (case xs => with_unfolding_all rfl)); intro t9)
  unfold DoesB
  intro dp un gd cn cs a ccd cl outer A₀ base h₀ L m s Q hL B F X N T hk hd hu hret
  have hS : MySub [] := trivial
  refine wpAny_call ?_
  w_top off
  k_dflt (refine' code_subG ?kS ?k1 ?k2 ?k3 ?k4 ?k4s ?k5 ?kA ?kF ?kK ?k6 ?k7 ?k8 ?k9 ?kB ?_ ?c2 ?c3 ?c4 ?c5; (case kS => assumption); (case kA => exact rfl); (case kF => exact rfl); (case kK => assumption); (case k1 => k_asm); (case k2 => k_asm); (case k3 => k_asm); (case k4 => k_asm); (case k4s => first | exact List.forall_mem_nil _ | assumption); (case k5 => k_asm); (case k6 => k_is); (case k7 => k_is); (case k8 => ktr_room); (case k9 => exact BindsTo.of_eq rfl); (case c5 => decide); (case kB => exact locs rfl); (case c2 => exact rfl); (case c3 => exact rfl); (case c4 => exact rfl); k_whole; intro g' L' h' tk' FG' F' N' B' X' T' G'; (try dsimp only); (try k_lift B'); (try k_fold))
  k_steps
  all_goals
    (rename (∀ q ∈ news, _ → _) => hG)
    refine' hret _ _ _ _ _ _ ?zo (pool_nn _ _) (mod_rng _).1 (mod_rng _).2 _ _ ?zF (news_hd ?zN (Kept.pure ?zk N))
    (case zF => assumption)
    (case zN => assumption)
    (case zk => assumption)
    (case zo => exact fun q hq => off_made hG (by assumption) rfl q hq _ List.mem_cons_self)
end
theorem DoesB.use {prog : Program} {w : World} {K : Frag} {p : Program} {loose : List Str} {mean : ExcName → Option Value} {mg mb : Str → Option Value} {Bs : Heap → Prop} {f : Value} {vs : List Value} {news : List (Addr × Obj)} {c : Nat} {Ret : (Value → List (Addr × Obj) → Prop) → Prop}
    {dp un : Nat} {gd : Option (List Code)} {cn : Str} {cs : Scope} {a : Addr} {ccd : Value} {cl : List (Str × Addr)} {outer : List Env} {A₀ : Around} {base h₀ : Heap} {L : Addr} {m : Str → Option Value} {s : Shared} {Q E : Value → Shared → Prop}
    (D : DoesB prog w K p loose mean mg mb Bs f vs news c Ret) (hB : Bs h₀) (B : Below A₀ base outer h₀) (F : Fr h₀ L s.heap m) (X : K.In h₀) (N : News h₀ L s.heap news) (T : Top p loose mean mg mb h₀) (hk : cs.kind = .function) (hd : dp + c < recursionLimit) (hu : un + 8 * c < cLine)
    (ret : Ret fun v news' => ∀ h' tk', Fr h₀ L h' m → News h₀ L h' news' → Q v { s with heap := h', toks := tk' }) :
    wpAny (model prog w) (ktrTop dp un gd cn cs L a ccd cl outer) (call f vs) Q E s :=
  wpAny_noRaise (D _ _ _ _ _ _ _ _ _ _ _ _ _ _ _ _ hB B F X N T hk hd hu ret)
end Mine
end
section
set_option linter.unusedVariables false
open PySem PySem.W PyProof.Rows PySem.Calls PySem.Spec
set_option maxRecDepth 100000
set_option maxHeartbeats 40000000
namespace Mine
section
variable {prog : Program} {w : World} {A : Around} {E : Value → Shared → Prop} {s : Shared} {env : Env} {h₀ : Heap} {x : Str} {body : List Stmt} {Q : Flow → Shared → Prop}
theorem law_range {r : Addr} {b₀ : Int} {t₀ u₀ v₀ : Tok} {m₀ : Str → Option Value} {news : List (Addr × Obj)} (stored : List Str)
    (hh : A.handled = none) (hr : IsRange s.heap r 0 b₀ 1 t₀ u₀ v₀) (h0 : 0 ≤ b₀) (h3 : b₀ ≤ 3) (F : Fr h₀ env.locals s.heap m₀) (N : News h₀ env.locals s.heap news)
    (turn : ∀ k t (u : Str → Option Value) h tk o, (∀ p ∈ news, p.1 < s.heap.objs.size) → 0 ≤ k → k < 3 → Fr h₀ env.locals h (fun y => if y = x then some (.int k t) else if stored.contains y then u y else m₀ y) → News h₀ env.locals h ((s.heap.objs.size, o) :: news) →
      wpAny (model prog w) A (execs body env) (TurnPost h₀ env.locals x stored m₀ ((s.heap.objs.size, o) :: news) { s with heap := h, toks := tk } Q) E { s with heap := h, toks := tk })
    (done : ∀ (u : Str → Option Value) h tk, Fr h₀ env.locals h (fun y => if y = x then u y else if stored.contains y then u y else m₀ y) → News h₀ env.locals h news → Q .next { s with heap := h, toks := tk }) :
    wpAny (model prog w) A (pyIter (.ref r)) (fun it s₂ => LoopAtV prog w A h₀ env x body Q E it s₂) E s := by
  refine iter_rangeLawO (n := b₀.toNat) stored hh hr (small_one (by omega) (by omega) (by omega) (by omega)) (by rw [rangeSize_one]; split <;> omega) F N ?_ done
  intro k t u h tk o hp h1 h2 F' N'
  exact turn k t u h tk o hp h1 (by omega) F' N'
end
theorem one_off {i : Addr} {o : Obj} {l : Addr} (h : ∀ r ∈ [(i, o)], @Ne Nat r.1 l) : @Ne Nat i l := h (i, o) List.mem_cons_self
theorem len3 (n : Int) (h : 0 ≤ n) : 0 ≤ (if (if 3 < n then 3 else n) > 1 then if 3 < n then 3 else n else 1) ∧ (if (if 3 < n then 3 else n) > 1 then if 3 < n then 3 else n else 1) ≤ 3 := by
  split <;> split <;> omega
theorem law_holds : PySem.Challenge.rw_nu0050_01.Holds := by
  have hz := fillK; revert hz; k_fill; intro _
  k_with_none
  w_top off
  k_with "pyIter ref" => (k_here; k_rangeUnr)
  k_with "pyIter ref" => (k_here; (with_reducible show wpAny _ _ (pyIter (Value.ref _)) (fun it s₂ => LoopAtV _ _ _ _ _ _ _ _ _ it s₂) _ _); (rename Fr _ _ _ _ => lF'); (rename News _ _ _ _ => lN'); (rename IsRange _ _ _ _ _ _ _ _ => rgX); (with_unfolding_all refine law_range [Str.ofString "source", Str.ofString "turn"] (by rfl) rgX (len3 _ (Int.natCast_nonneg _)).1 (len3 _ (Int.natCast_nonneg _)).2 lF' lN' (fun n' t' u' h' tk' o' hlt' hlo' hhi' F' N' => ?_) (fun u' h' tk' F' N' => ?_)); (all_goals (clear lF' lN')))
  k_with "call ref" => (k_here; k_dflt (refine' Does.use (right_does _ _ _ _ _ _ _ _ ?U ?h0 ?h1 ?h2) ?k1 ?k2 ?k3 ?k4 ?k5 ?kK ?kd ?ku ?_; (case k1 => k_asm); (case k2 => k_asm); (case k3 => k_asm); (case k4 => k_asm); (case k5 => k_asm); (case kK => first | exact rfl | assumption); (case kd => ktr_room); (case ku => ktr_units); (case U => k_updF); (case h0 => assumption); (case h1 => assumption); (case h2 => assumption); (try dsimp only)); intro x9 tx9 y9 ty9 n9 hx9 hy9 hy9b h9 tk9 F9 N9; (try k_fold))
  k_with "call ref" => (k_here; k_dflt (refine' DoesB.use (pool_does _ _ _ _ _ _ ?hI ?hl ?h0 ?h1) ?kB ?k1 ?k2 ?k3 ?k4 ?k5 ?kK ?kd ?ku ?_; (case kB => assumption); (case k1 => k_asm); (case k2 => k_asm); (case k3 => k_asm); (case k4 => k_asm); (case k5 => k_asm); (case kK => first | exact rfl | assumption); (case kd => ktr_room); (case ku => ktr_units); (case hI => assumption); (case hl => omega); (case h0 => omega); (case h1 => omega); (try dsimp only)); intro l9 x9 tx9 y9 ty9 n9 hn9 hx9 hy9 hy9b h9 tk9 F9 N9; (have hn8 := one_off hn9); clear hn9; (try k_fold))
  refine Mine.hd ?_
  w_on
  w_strict (intro w s₀ s₁ mg mb G Y fa o pm cd doc dV kV ho hd hcd hD hmg hg args vals as hpre hlay hrd hwl hlo; (have KX := kIn0 Y); k_behind G ho hd hcd hD hmg hpre hlay hrd hwl hlo cd; (all_goals try k_fold); k_steps; (all_goals (try k_data)); all_goals w_report)
end Mine
end
end
theorem PySem.Challenge.cw_nu0050_01_holds : PySem.Challenge.rw_nu0050_01.Holds :=
  Mine.law_holds
