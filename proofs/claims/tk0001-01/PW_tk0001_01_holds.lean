import PyProof.Rows.All
import Wide.All
import OpenK.AllK
import Wide.FinOn
import Lean
import PySem.Challenge.RW_tk0001_01
open PySem PySem.W PyProof.Rows PySem.Spec PySem.Calls
set_option Elab.async false
set_option linter.all false
set_option rowWalk.seconds 0
set_option compiler.extract_closed false
set_option compiler.small 0
set_option compiler.reuse false
namespace Mine.PySem.W
noncomputable def holds_open {r : OpenRow} {q : Program} {loose} {Xt} {XP} {α : Type} {Yf : Shared → α} {Ya} {YP} {d} {kwd} {N : Nat} (n0 : World → N = N) (a b c e) (f g h i) (j k l m o) (z : _ ∧ _) :=
  _root_.PySem.W.holds_open (r := r) (q := q) (loose := loose) (Xt := Xt) (XP := XP) (Yf := Yf) (Ya := Ya) (YP := YP) (d := d) (kwd := kwd) (N := N) z.1 a b c e f g h i j k l m o z.2
end Mine.PySem.W
namespace Mine
set_option maxRecDepth 100000 in
set_option maxHeartbeats 8000000 in
open_top hd for PySem.Challenge.rw_tk0001_01
theorem left_by {p q : Program} {loose : List Str} {Xt : Shared → Bool} {α : Type} {Yf : Shared → α} {Ya : World → α} {N : Nat}
    (o1 : opening p = plainProg p.main.scope.names) (o2 : Nat.ble 600 N = true) (o3 : ∀ s, fenceModules? p s = some s)
    (left : ∀ w : World, (fun os => (topFrom treeTable p w N ⟨boot_heap w.params, Array.mk [], boot_drawn, boot_toks, os⟩).map (fun s => (openSeen q loose (importedModules p.main.body) Xt true s, Yf s))) = fun _ => some (openGood q loose, Ya w)) : LeftO p q loose Xt Yf Ya N := by
  intro w
  obtain ⟨⟨h, gs, d, k, os⟩, e, e'⟩ := Option.map_eq_some_iff.mp (boot_open o1 o2 o3 w)
  obtain ⟨rfl, rfl, rfl, rfl⟩ : h = boot_heap w.params ∧ gs = Array.mk [] ∧ d = boot_drawn ∧ k = boot_toks := by simpa using e'
  unfold openEnds
  rw [e]
  exact congrFun (left w) os
abbrev Led := List (Addr × Obj)
abbrev tupO (vs : List Value) : Obj := { cls := .type "tuple", data := .seq vs.toArray }
abbrev lstO (vs : List Value) : Obj := listOf vs.toArray 0
inductive Num (news : Led) : Value → Int → Prop
  | int (x : Int) (t : Tok) : Num news (.int x t) x
  | dec {a : Addr} {x : Int} {t t' : Tok} : (a, tupO [.int x t, .int 0 t']) ∈ news → Num news (.ref a) x
theorem Num.mono {news news' : Led} {v : Value} {x : Int} (hs : ∀ p ∈ news, p ∈ news') : Num news v x → Num news' v x
  | .int x t => .int x t
  | .dec h => .dec (hs _ h)
theorem ins {h₀ h : Heap} {L : Addr} {news : Led} {p : Addr × Obj} (N : News h₀ L h news) (hm : p ∈ news) : News h₀ L h (p :: news) := fun q hq => (List.mem_cons.mp hq).elim (fun e => e ▸ N p hm) (N q)
theorem drop {h₀ h : Heap} {L : Addr} {news news' : Led} (N : News h₀ L h news') (hs : ∀ p ∈ news, p ∈ news') : News h₀ L h news := fun p hp => N p (hs p hp)

noncomputable def CallOK (w : World) (f : Addr) (vs : List Value) (k : Nat) (news : Led) (P : Value → Led → Prop) : Prop :=
  ∀ (p : Program) (loose : List Str) (mean : ExcName → Option Value) (mg mb : Str → Option Value)
    (dp un : Nat) (gd : Option (List Code)) (cn : Str) (cs : Scope) (a : Addr) (ccd : Value) (cl : List (Str × Addr)) (outer : List Env) (A₀ : Around) (base h₀ : Heap) (L : Addr) (m : Str → Option Value) (s : Shared) (Q E : Value → Shared → Prop),
    Below A₀ base outer h₀ → Fr h₀ L s.heap m → (hd.heap_39 w.params).In h₀ → News h₀ L s.heap news → Top p loose mean mg mb h₀ → cs.kind = .function →
    dp + k < recursionLimit → un + 8 * k < cLine →
    (∀ v news' h' tk', Fr h₀ L h' m → News h₀ L h' news' → P v news' → Q v { s with heap := h', toks := tk' }) →
    wpAny (model PySem.Challenge.rw_tk0001_01.row.prog w) (ktrTop dp un gd cn cs L a ccd cl outer) (call (.ref f) vs) Q E s
section
variable {w : World} {f : Addr} {vs : List Value} {k : Nat} {news : Led} {P : Value → Led → Prop}
theorem CallOK.use (C : CallOK w f vs k news P) {p : Program} {loose : List Str} {mean : ExcName → Option Value} {mg mb : Str → Option Value}
    {dp un : Nat} {gd : Option (List Code)} {cn : Str} {cs : Scope} {a : Addr} {ccd : Value} {cl : List (Str × Addr)} {outer : List Env} {A₀ : Around} {base h₀ : Heap} {L : Addr} {m : Str → Option Value} {s : Shared} {Q E : Value → Shared → Prop}
    (N : News h₀ L s.heap news) (F : Fr h₀ L s.heap m) (B : Below A₀ base outer h₀) (X : (hd.heap_39 w.params).In h₀) (T : Top p loose mean mg mb h₀) (hk : cs.kind = .function)
    (hd : dp + k < recursionLimit) (hu : un + 8 * k < cLine)
    (ret : ∀ v news' h' tk', Fr h₀ L h' m → News h₀ L h' news' → P v news' → Q v { s with heap := h', toks := tk' }) :
    wpAny (model PySem.Challenge.rw_tk0001_01.row.prog w) (ktrTop dp un gd cn cs L a ccd cl outer) (call (.ref f) vs) Q E s :=
  C _ _ _ _ _ _ _ _ _ _ _ _ _ _ _ _ _ _ _ _ _ _ B F X N T hk hd hu ret
end
noncomputable def sgn (x y : Int) : Int := if x > y then 1 else if x < y then -1 else 0
theorem pow0 {prog : Program} {w : World} {A : Around} {E : Value → Shared → Prop} {s : Shared} {a n : Int} {t u : Tok} {Q : Value → Shared → Prop} (hn : n = 0) (ha : a.natAbs < 2 ^ 64) (h : Q (.int 1 s.toks) { s with toks := s.toks + 1 }) :
    wpAny (model prog w) A (binaryOp .Pow (.int a t) (.int n u)) Q E s := by
  subst hn
  exact pow_int_small (Int.le_refl _) (by decide) ha (by simpa using h)
theorem sgn_eq (x y : Int) : b2i (decide (y < x)) - b2i (decide (x < y)) = sgn x y := by
  unfold sgn b2i
  by_cases h1 : y < x
  · have h2 : ¬ x < y := by omega
    simp [h1, h2]
  · by_cases h2 : x < y <;> simp [h1, h2]
theorem sgn_gt {x y : Int} : 0 < sgn x y ↔ y < x := by unfold sgn; split <;> (try split) <;> omega
theorem sgn_lt {x y : Int} : sgn x y < 0 ↔ x < y := by unfold sgn; split <;> (try split) <;> omega
section
variable {prog : Program} {w : World} {A A₀ : Around} {E : Value → Shared → Prop} {s : Shared} {K : Frag} {L : Addr} {h₀ base : Heap} {m mg mb : Str → Option Value} {news : Led} {p : Program} {loose : List Str} {mean : ExcName → Option Value}
theorem my_def {env : Env} {outer : List Env} {R : Result → Shared → Prop} {name qual : Str} {params : Arguments} {body : List Stmt} {scope : Scope} {dV kV doc pm cdv ct oc : Value} {an od : Option Addr} {osl : Array (Option Value)} {f : Addr} {args : Args} {binds : List (Str × Value)}
    (B : Below A₀ base outer h₀) (F : Fr h₀ L s.heap m) (X₀ : K.In h₀) (N : News h₀ L s.heap news) (T : Top p loose mean mg mb h₀) (hA : A.frames = some (env :: outer)) (hf : env.frame = some L) (hke : env.scope.kind = .function)
    (ho : K.lookup f = some ⟨oc, od, .func (fnOf name qual params body scope dV kV doc pm an cdv ct), osl⟩) (hcd : codeIn K cdv qual = true) (hroom : A.depth < recursionLimit)
    (hbind : BindsTo s (fnOf name qual params body scope dV kV doc pm an cdv ct) args binds) (hloc : ∀ y ∈ binds, scope.names.lookup y.1 = some .local)
    (h : ∀ g L' h₁, Fr h₀ L g m → let mp := (fun y => binds.reverse.lookup y); Fr g L' h₁ mp → News g L' h₁ news → Below A base (env :: outer) g → K.In g → Top p loose mean mg mb g →
      let en := envOf qual scope L' f cdv; let A' := A.deeper en
      wpAny (model prog w) A' (execs body en)
        (fun fl s' => LeaveK h₀ L m g R (match fl with | .ret v => v | _ => .none) s')
        (fun e s' => wpAny (model prog w) A' (leaving en e) (fun _ s'' => R (.error e) s'') (fun e' s'' => R (.error e') s'') s')
        { s with heap := h₁, toks := s.toks + binds.length })
    (hco : scope.isCoroutine = false) (hgen : scope.isGenerator = false) (hk : scope.kind = .function)
    (hcell : ∀ x ∈ scope.names, x.2 ≠ .cell) : codeAny (model prog w) A (.call (.ref f) args) R s :=
  code_def B F X₀ N T hA hf hke ho hcd hroom hbind hloc (fun g L' h₁ a b c d e f => h g L' h₁ a b c d e f) hco hgen hk hcell
theorem my_defC {env : Env} {outer : List Env} {R : Result → Shared → Prop} {name qual : Str} {params : Arguments} {body : List Stmt} {scope : Scope} {dV kV doc pm cdv ct oc : Value} {an od : Option Addr} {osl : Array (Option Value)} {f : Addr} {args : Args} {binds : List (Str × Value)}
    (B : Below A₀ base outer h₀) (F : Fr h₀ L s.heap m) (X₀ : K.In h₀) (N : News h₀ L s.heap news) (T : Top p loose mean mg mb h₀) (hA : A.frames = some (env :: outer)) (hf : env.frame = some L) (hke : env.scope.kind = .function)
    (ho : K.lookup f = some ⟨oc, od, .func (fnOf name qual params body scope dV kV doc pm an cdv ct), osl⟩) (hcd : codeIn K cdv qual = true) (hroom : A.depth < recursionLimit)
    (hbind : BindsTo s (fnOf name qual params body scope dV kV doc pm an cdv ct) args binds) (hkind : (binds.all fun y => scope.names.lookup y.1 == some .local || scope.names.lookup y.1 == some .cell) = true)
    (hnd : ((cellsFrom 0 scope.names []).map (·.1)).Nodup)
    (h : ∀ g L' h₁ tk cells, Fr h₀ L g m → let mp := (bindL (envOfC qual scope L' f cdv).kindOf binds fun _ => none); Fr g L' h₁ mp → News g L' h₁ (cells ++ news) →
      CellsAre (bindC (envOfC qual scope L' f cdv).kindOf binds fun _ => none) (cellsFrom (L' + 1) scope.names []) cells → Below A base (env :: outer) g → K.In g → Top p loose mean mg mb g → (∀ p ∈ news, p.1 < L') →
      let en := envOfC qual scope L' f cdv; let A' := A.deeper en
      wpAny (model prog w) A' (execs body en)
        (fun fl s' => LeaveK h₀ L m g R (match fl with | .ret v => v | _ => .none) s')
        (fun e s' => wpAny (model prog w) A' (leaving en e) (fun _ s'' => R (.error e) s'') (fun e' s'' => R (.error e') s'') s')
        { s with heap := h₁, toks := tk })
    (hco : scope.isCoroutine = false) (hgen : scope.isGenerator = false) (hk : scope.kind = .function) : codeAny (model prog w) A (.call (.ref f) args) R s :=
  code_defC B F X₀ N T hA hf hke ho hcd hroom hbind hkind hnd (fun g L' h₁ tk cells a b c d e f g' i => h g L' h₁ tk cells a b c d e f g' i) hco hgen hk
end
theorem all_ne_gt {d : Addr} {l : Led} (h : AllLt d l) : ∀ p ∈ l, p.1 ≠ d := fun p hp => Nat.ne_of_lt (ktn_ltOf h p hp)
theorem all_ne_lt {d : Addr} {l : Led} (h : ∀ p ∈ l, d < p.1) : ∀ p ∈ l, p.1 ≠ d := fun p hp => Nat.ne_of_gt (h p hp)
noncomputable def RowN (news : Led) (r : Addr) (f : Nat → Int) : Prop := ∃ a b c d n, (r, listOf [a, b, c, d].toArray n) ∈ news ∧ Num news a (f 0) ∧ Num news b (f 1) ∧ Num news c (f 2) ∧ Num news d (f 3)
noncomputable def GridN (news : Led) (g : Addr) (M : Nat → Nat → Int) : Prop := ∃ r0 r1 r2 r3 n, (g, listOf [.ref r0, .ref r1, .ref r2, .ref r3].toArray n) ∈ news ∧ RowN news r0 (M 0) ∧ RowN news r1 (M 1) ∧ RowN news r2 (M 2) ∧ RowN news r3 (M 3)
theorem RowN.mono {news news' : Led} {r : Addr} {f : Nat → Int} (hs : ∀ p ∈ news, p ∈ news') : RowN news r f → RowN news' r f
  | ⟨a, b, c, d, n, h, h0, h1, h2, h3⟩ => ⟨a, b, c, d, n, hs _ h, h0.mono hs, h1.mono hs, h2.mono hs, h3.mono hs⟩
theorem GridN.mono {news news' : Led} {g : Addr} {M : Nat → Nat → Int} (hs : ∀ p ∈ news, p ∈ news') : GridN news g M → GridN news' g M
  | ⟨a, b, c, d, n, h, h0, h1, h2, h3⟩ => ⟨a, b, c, d, n, hs _ h, h0.mono hs, h1.mono hs, h2.mono hs, h3.mono hs⟩
noncomputable def LamOK (w : World) (news : Led) (f : Addr) (g : Int → Int → Int) : Prop :=
  (∃ oc od fd sl, (f, (⟨oc, od, .func fd, sl⟩ : Obj)) ∈ news) ∧ ∀ news' va vb x y, (∀ p ∈ news, p ∈ news') → Num news' va x → Num news' vb y → CallOK w f [va, vb] 6 news' (fun r n => (∀ nb, Num nb va x → Num nb vb y → Num nb r (g x y)) ∧ n = news')
theorem LamOK.mono {w : World} {news news' : Led} {f : Addr} {g : Int → Int → Int} (hs : ∀ p ∈ news, p ∈ news') (h : LamOK w news f g) : LamOK w news' f g :=
  ⟨let ⟨a, b, c, d, hm⟩ := h.1; ⟨a, b, c, d, hs _ hm⟩, fun n va vb x y h1 => h.2 n va vb x y fun p hp => h1 p (hs p hp)⟩
theorem LamOK.fn {w : World} {news n₀ : Led} {f : Addr} {g : Int → Int → Int} {h₀ h : Heap} {L : Addr} (C : LamOK w n₀ f g) (N : News h₀ L h news) (hs : ∀ p ∈ n₀, p ∈ news) : FnAt f h :=
  let ⟨a, b, c, d, hm⟩ := C.1; ⟨a, b, c, d, (N _ (hs _ hm)).1⟩
section
variable {prog : Program} {w : World} {A : Around} {E : Value → Shared → Prop} {s : Shared} {h₀ : Heap} {L : Addr} {news : Led} {Q : Value → Shared → Prop}
theorem row_item {value slice : PySem.Expr} {r : Addr} {f : Nat → Int} {k : Nat} {u : Tok} (N : News h₀ L s.heap news) (hr : RowN news r f) (hk : k < 4) (h : ∀ v, Num news v (f k) → Q v s)
    (hs : subscripted slice false (.ref r) (.int k u) = operate [.ref r, .int k u] (getItem (.ref r) (.int k u)) := by with_unfolding_all rfl) :
    wpAny (model prog w) A (subscriptTail value slice (.ref r) (.int k u)) Q E s := by
  obtain ⟨a, b, c, d, n, hm, h0, h1, h2, h3⟩ := hr
  have hl := News.isList N hm
  rcases k with _ | _ | _ | _ | k
  · exact item_litK hl (by decide) (by decide) rfl (h _ h0) hs
  · exact item_litK hl (by decide) (by decide) rfl (h _ h1) hs
  · exact item_litK hl (by decide) (by decide) rfl (h _ h2) hs
  · exact item_litK hl (by decide) (by decide) rfl (h _ h3) hs
  · omega
end
noncomputable def mm (f : Nat → Int) (M : Nat → Nat → Int) (k : Nat) : Int := max (max (max (max 0 (min (f 0) (M 0 k))) (min (f 1) (M 1 k))) (min (f 2) (M 2 k))) (min (f 3) (M 3 k))
section
variable {prog : Program} {w : World} {A : Around} {E : Value → Shared → Prop} {s : Shared} {env : Env} {h₀ : Heap} {target : PySem.Expr} {body : List Stmt} {Q : Flow → Shared → Prop}
noncomputable def TurnEnd (h₀ : Heap) (L : Addr) (s₁ : Shared) (its : Led) (Inv : (Str → Option Value) → Led → Prop) (Q : Flow → Shared → Prop) (f : Flow) (s₂ : Shared) : Prop :=
  match f with
  | .ret v => Q (.ret v) s₂
  | .brk => Q .next s₂
  | _ => ∃ h' tk m' n' nx, s₂ = { s₁ with heap := h', toks := tk } ∧ Fr h₀ L h' m' ∧ News h₀ L h' n' ∧ (∀ p ∈ its, p ∈ n') ∧ (∀ p ∈ nx, p ∈ n') ∧ (∀ p ∈ nx, ∀ q ∈ its, p.1 ≠ q.1) ∧ Inv m' nx
theorem rest_inv {ws : List (Addr × String)} {keep : Led} (Inv : Nat → (Str → Option Value) → Led → Prop) (hk : ∀ i m nx, Inv i m nx → SubL keep nx) :
    ∀ (xs : List Itm) (i₀ : Nat) (m₀ : Str → Option Value) (news : Led),
    (∀ i a m nx v h tk, xs[i]? = some a → a.Is v h → Inv (i₀ + i) m nx → Fr h₀ env.locals h m → ∀ its, Objs ws its → News h₀ env.locals h (its ++ nx) →
      wpAny (model prog w) A (assign target env v) (fun _ s₂ => wpAny (model prog w) A (execs body env) (TurnEnd h₀ env.locals { s with heap := h, toks := tk } its (Inv (i₀ + i + 1)) Q) E s₂) E { s with heap := h, toks := tk }) →
    (∀ m nx h tk, Inv (i₀ + xs.length) m nx → Fr h₀ env.locals h m → News h₀ env.locals h nx → Q .next { s with heap := h, toks := tk }) →
    Inv i₀ m₀ news → ItemsRest prog w A E h₀ env target body Q s ws keep xs m₀ news
  | [], i₀, m₀, news, _, done, h0 => fun h tk F N => done m₀ news h tk h0 F N
  | a :: r, i₀, m₀, news, turn, done, h0 => by
    intro v h tk hv F
    have all : ∀ (ws' : List (Addr × String)) (acc : Led) (k : Led → Prop), (∀ its, Objs ws' its → k its) → AllObj ws' k := by
      intro ws'
      induction ws' with
      | nil => intro acc k hk; exact hk [] trivial
      | cons x r ih => intro acc k hk o ho; exact ih acc _ fun its hits => hk ((x.1, o) :: its) ⟨⟨rfl, ho⟩, hits⟩
    refine all ws [] _ fun its hits N => ?_
    refine wpAny_mono (turn 0 a m₀ news v h tk rfl hv h0 F its hits N) (fun _ s₂ h₂ => wpAny_mono h₂ (fun f s₃ p => ?_) fun _ _ e => e) fun _ _ e => e
    have fin : (∃ h' tk' m' n' nx, s₃ = { ({ s with heap := h, toks := tk } : Shared) with heap := h', toks := tk' } ∧ Fr h₀ env.locals h' m' ∧ News h₀ env.locals h' n' ∧ (∀ p ∈ its, p ∈ n') ∧ (∀ p ∈ nx, p ∈ n') ∧ (∀ p ∈ nx, ∀ q ∈ its, p.1 ≠ q.1) ∧ Inv (i₀ + 0 + 1) m' nx) →
        UnrEndW h₀ env.locals { s with heap := h, toks := tk } its (fun m' n' => SubL keep n' ∧ ItemsRest prog w A E h₀ env target body Q s ws keep r m' n') s₃ := by
      rintro ⟨h', tk', m', n', nx, e, F', N', h1, h2, h3, hI⟩
      refine ⟨h', tk', m', nx, e, F', fun p hp => N' p ((List.mem_append.mp hp).elim (h1 p) (h2 p)), h3, hk _ _ _ hI, ?_⟩
      refine rest_inv Inv hk r (i₀ + 1) m' nx (fun i a m nx v h tk hi ha hJ F its hits N => ?_) (fun m nx h tk hJ F N => ?_) hI
      · have e1 : i₀ + 1 + i = i₀ + (i + 1) := by omega
        rw [e1] at hJ ⊢
        exact turn (i + 1) a m nx v h tk hi ha hJ F its hits N
      · have e1 : i₀ + 1 + r.length = i₀ + (a :: r).length := by rw [List.length_cons]; omega
        rw [e1] at hJ
        exact done m nx h tk hJ F N
    cases f with
    | ret v => exact p
    | brk => exact p
    | next => exact fin p
    | cont => exact fin p
theorem apart_of {ws : List (Addr × String)} {its nx : Led} {I : Addr} (hI : ∀ p ∈ nx, p.1 < I) (hw : ∀ x ∈ ws, I ≤ x.1) (ho : Objs ws its) : ∀ p ∈ nx, ∀ q ∈ its, p.1 ≠ q.1 := by
  intro p hp q hq e
  have h1 : q.1 ∈ ws.map (·.1) := by rw [← ho.map]; exact List.mem_map.mpr ⟨q, hq, rfl⟩
  obtain ⟨x, hx, he⟩ := List.mem_map.mp h1
  have h2 := hw x hx
  have h3 := hI p hp
  rw [he] at h2
  rw [e] at h3
  exact Nat.lt_irrefl _ (Nat.lt_of_lt_of_le h3 h2)
end
theorem LamOK.use {w : World} {f : Addr} {g : Int → Int → Int} {news n₀ nb : Led} {va vb : Value} {x y : Int} (C : LamOK w n₀ f g) {p : Program} {loose : List Str} {mean : ExcName → Option Value} {mg mb : Str → Option Value}
    {dp un : Nat} {gd : Option (List Code)} {cn : Str} {cs : Scope} {a : Addr} {ccd : Value} {cl : List (Str × Addr)} {outer : List Env} {A₀ : Around} {base h₀ : Heap} {L : Addr} {m : Str → Option Value} {s : Shared} {Q E : Value → Shared → Prop}
    (N : News h₀ L s.heap news) (hs : ∀ p ∈ n₀, p ∈ news) (hb : ∀ p ∈ nb, p ∈ news) (hx : Num nb va x) (hy : Num nb vb y) (F : Fr h₀ L s.heap m) (B : Below A₀ base outer h₀) (X : (hd.heap_39 w.params).In h₀) (T : Top p loose mean mg mb h₀) (hk : cs.kind = .function)
    (hd : dp + 6 < recursionLimit) (hu : un + 8 * 6 < cLine)
    (ret : ∀ v h' tk', Fr h₀ L h' m → News h₀ L h' news → Num nb v (g x y) → Q v { s with heap := h', toks := tk' }) :
    wpAny (model PySem.Challenge.rw_tk0001_01.row.prog w) (ktrTop dp un gd cn cs L a ccd cl outer) (call (.ref f) [va, vb]) Q E s :=
  (C.2 news va vb x y hs (hx.mono hb) (hy.mono hb)).use N F B X T hk hd hu fun v n h' tk' F' N' hP => ret v h' tk' F' (hP.2 ▸ N') (hP.1 nb hx hy)
theorem grid_item {prog : Program} {w : World} {A : Around} {E : Value → Shared → Prop} {s : Shared} {h₀ : Heap} {L : Addr} {news : Led} {Q : Value → Shared → Prop} {value slice : PySem.Expr} {g : Addr} {M : Nat → Nat → Int} {k : Nat} {u : Tok} (N : News h₀ L s.heap news) (hg : GridN news g M) (hk : k < 4) (h : ∀ r, RowN news r (M k) → Q (.ref r) s)
    (hs : subscripted slice false (.ref g) (.int k u) = operate [.ref g, .int k u] (getItem (.ref g) (.int k u)) := by with_unfolding_all rfl) :
    wpAny (model prog w) A (subscriptTail value slice (.ref g) (.int k u)) Q E s := by
  obtain ⟨a, b, c, d, n, hm, h0, h1, h2, h3⟩ := hg
  have hl := News.isList N hm
  rcases k with _ | _ | _ | _ | k
  · exact item_litK hl (by decide) (by decide) rfl (h _ h0) hs
  · exact item_litK hl (by decide) (by decide) rfl (h _ h1) hs
  · exact item_litK hl (by decide) (by decide) rfl (h _ h2) hs
  · exact item_litK hl (by decide) (by decide) rfl (h _ h3) hs
  · omega
theorem enum_at {vs : List Value} {i : Nat} {a : Itm} (h : (enumItems 0 vs)[i]? = some a) : ∃ x, vs[i]? = some x ∧ a = .pair (fun t => .int (i : Int) t) x := by
  have hlt : i < vs.length := by
    have := (List.getElem?_eq_some_iff.mp h).1
    rwa [enumItems_length] at this
  refine ⟨vs[i], List.getElem?_eq_getElem hlt, ?_⟩
  have q := enumItems_get vs 0 i (List.getElem?_eq_getElem hlt)
  rw [h, Nat.zero_add] at q
  exact Option.some.inj q
theorem num_at {news : Led} {a b c d x : Value} {f : Nat → Int} {i : Nat} (h0 : Num news a (f 0)) (h1 : Num news b (f 1)) (h2 : Num news c (f 2)) (h3 : Num news d (f 3)) (h : [a, b, c, d][i]? = some x) : i < 4 ∧ Num news x (f i) := by
  rcases i with _ | _ | _ | _ | i
  · cases h; exact ⟨by decide, h0⟩
  · cases h; exact ⟨by decide, h1⟩
  · cases h; exact ⟨by decide, h2⟩
  · cases h; exact ⟨by decide, h3⟩
  · simp at h
noncomputable def mmAcc (f : Nat → Int) (M : Nat → Nat → Int) (k : Nat) : Nat → Int
  | 0 => 0
  | n + 1 => max (mmAcc f M k n) (min (f n) (M n k))
theorem frm {h₀ h : Heap} {L : Addr} {m m' : Str → Option Value} (F : Fr h₀ L h m) (e : ∀ y, m y = m' y) : Fr h₀ L h m' := (funext e : m = m') ▸ F
theorem n_at_total : (Str.ofString "at" = Str.ofString "total") = False := eq_false (by decide)
theorem n_cell_total : (Str.ofString "cell" = Str.ofString "total") = False := eq_false (by decide)
theorem n_cell_at : (Str.ofString "cell" = Str.ofString "at") = False := eq_false (by decide)
theorem objs_cls : ∀ {ws : List (Addr × String)} {its : Led}, Objs ws its → ∀ p ∈ its, ∃ x ∈ ws, p.2.cls = .type x.2
  | [], [], _, _, hp => (nomatch hp)
  | [], _ :: _, h, _, _ => (show False from h).elim
  | _ :: _, [], h, _, _ => (show False from h).elim
  | x :: ws, q :: its, h, p, hp => by
    rcases List.mem_cons.mp hp with rfl | hp
    · exact ⟨x, .head _, h.1.2⟩
    · obtain ⟨y, hy, e⟩ := objs_cls h.2 p hp
      exact ⟨y, .tail _ hy, e⟩
theorem num_off {ws : List (Addr × String)} {its nx : Led} {v : Value} {x : Int} (h : Num (its ++ nx) v x) (ho : Objs ws its) (hw : ∀ x ∈ ws, x.2 ≠ "tuple") : Num nx v x := by
  cases h with
  | int x t => exact .int x t
  | dec hm =>
    rcases List.mem_append.mp hm with hm | hm
    · obtain ⟨y, hy, e⟩ := objs_cls ho _ hm
      exact absurd (Value.type.inj e).symm (hw y hy)
    · exact .dec hm
theorem n_total_at : (Str.ofString "total" = Str.ofString "at") = False := eq_false (by decide)
theorem n_total_cell : (Str.ofString "total" = Str.ofString "cell") = False := eq_false (by decide)
theorem n_at_cell : (Str.ofString "at" = Str.ofString "cell") = False := eq_false (by decide)

section
variable {prog : Program} {w : World} {A : Around} {E : Value → Shared → Prop} {s : Shared} {h₀ : Heap} {L : Addr} {news nb : Led} {Q : Value → Shared → Prop}
theorem row_itemB {value slice : PySem.Expr} {r : Addr} {f : Nat → Int} {k : Nat} {u : Tok} (N : News h₀ L s.heap news) (hs : ∀ p ∈ nb, p ∈ news) (hr : RowN nb r f) (hk : k < 4) (h : ∀ v, Num nb v (f k) → Q v s)
    (hss : subscripted slice false (.ref r) (.int k u) = operate [.ref r, .int k u] (getItem (.ref r) (.int k u)) := by with_unfolding_all rfl) :
    wpAny (model prog w) A (subscriptTail value slice (.ref r) (.int k u)) Q E s := row_item (drop N hs) hr hk h hss
theorem grid_itemB {value slice : PySem.Expr} {g : Addr} {M : Nat → Nat → Int} {k : Nat} {u : Tok} (N : News h₀ L s.heap news) (hs : ∀ p ∈ nb, p ∈ news) (hg : GridN nb g M) (hk : k < 4) (h : ∀ r, RowN nb r (M k) → Q (.ref r) s)
    (hss : subscripted slice false (.ref g) (.int k u) = operate [.ref g, .int k u] (getItem (.ref g) (.int k u)) := by with_unfolding_all rfl) :
    wpAny (model prog w) A (subscriptTail value slice (.ref g) (.int k u)) Q E s := grid_item (drop N hs) hg hk h hss
end
local macro_rules | `(tactic| walk_at "my pr") => `(tactic| first | with_reducible assumption | exact And.right (by first | with_reducible assumption | exact And.right (by first | with_reducible assumption | exact And.right (by first | with_reducible assumption | exact And.right (by first | with_reducible assumption | exact And.right (by first | with_reducible assumption | exact And.right (by first | with_reducible assumption | exact And.right (by first | with_reducible assumption | exact And.right (by first | with_reducible assumption | exact And.right (by first | with_reducible assumption | exact And.right (by first | with_reducible assumption | exact And.right (by first | with_reducible assumption | exact And.right (by first | with_reducible assumption | exact And.right (by first | with_reducible assumption | exact And.right (by with_reducible assumption)))))))))))))))
local macro_rules | `(tactic| walk_at "my lt") => `(tactic| first | with_reducible assumption | exact And.left (by walk_at "my pr"))
local macro_rules | `(tactic| k_ne) => `(tactic| (refine neN ?_; (try dsimp only); first | with_reducible assumption | (with_reducible exact Ne.symm (by with_reducible assumption)) | exact Nat.ne_of_lt (by walk_at "my lt") | exact Nat.ne_of_gt (by walk_at "my lt")))
local macro_rules | `(tactic| walk_at "my mem") => `(tactic| first | (with_reducible exact List.Mem.head _) | (with_reducible refine List.Mem.tail _ ?_; walk_at "my mem") | (with_reducible assumption))
local macro_rules | `(tactic| walk_at "my room") => `(tactic| ((try simp +zetaDelta only [depth_under_make, depth_under_kw, depth_in1, depth_deeper, depth_caller, units_in1, units_deeper, Around.mark_units, units_caller]); (try dsimp only [ktrTop]); first | omega | ((have hcL9 := cLine_is); (have hrL9 : recursionLimit = 1000 := rfl); omega)))
local macro_rules | `(tactic| walk_at "subscriptTail Name Constant ref int") => `(tactic| (k_here; k_dflt (first
  | (refine' item_litK ?k1 ?k2 ?k3 ?k4 ?_ ?k6; (case k1 => exact News.isList (by k_asm) (by k_mem)); (case k2 => decide); (case k3 => decide); (case k4 => rfl); (case k6 => with_unfolding_all rfl); k_whole)
  | (refine' item_tupleT ?t ?a ?b ?c ?d ?_; (case t => exact News.isTup (by k_asm) (by k_mem)); (case a => decide); (case b => decide); (case c => rfl); (case d => rfl); k_whole))))
local macro_rules | `(tactic| walk_at "my enter") => `(tactic| first
  | (refine' my_def ?k1 ?k2 ?k3 ?k4 ?k5 ?kA ?kF ?kK ?k6 ?k7 ?k8 ?k9 ?kB ?_ ?c2 ?c3 ?c4 ?c5; (case kA => exact rfl); (case kF => exact rfl); (case kK => first | exact rfl | assumption); (case k1 => k_asm); (case k2 => k_asm); (case k3 => k_asm); (case k4 => k_asm); (case k5 => k_asm); (case k6 => k_is); (case k7 => k_is); (case k8 => walk_at "my room"); (case k9 => exact BindsTo.of_eq rfl); (case c5 => decide); (case kB => exact locs rfl); (case c2 => exact rfl); (case c3 => exact rfl); (case c4 => exact rfl); k_whole; intro g' L' h' FG' mp' F' N' B' X' T' en' A'; (try k_fold))
  | (refine' my_defC ?k1 ?k2 ?k3 ?k4 ?k5 ?kA ?kF ?kK ?k6 ?k7 ?k8 ?k9 ?kB ?kD ?_ ?c2 ?c3 ?c4; (case kA => exact rfl); (case kF => exact rfl); (case kK => first | exact rfl | assumption); (case k1 => k_asm); (case k2 => k_asm); (case k3 => k_asm); (case k4 => k_asm); (case k5 => k_asm); (case k6 => k_is); (case k7 => k_is); (case k8 => walk_at "my room"); (case k9 => exact BindsTo.of_eq rfl); (case kB => exact rfl); (case kD => decide +kernel); (case c2 => exact rfl); (case c3 => exact rfl); (case c4 => exact rfl); k_whole; intro g' L' h' tk' cells' FG' mp' F' N' Y' B' X' T' l1 en' A'; (try k_lt l1); k_cells Y'; (try simp only [List.cons_append, List.nil_append] at N'); (try k_fold)))
local macro_rules | `(tactic| walk_at "my sub") => `(tactic| first | assumption | exact fun _ h9 => h9 | exact List.forall_mem_nil _ | (refine List.forall_mem_cons.mpr ⟨?sa, ?sb⟩; (case sa => first | walk_at "my mem" | k_mem); (case sb => walk_at "my sub")) | (intro p9 hp9; (repeat (refine List.mem_cons_of_mem _ ?_)); first | exact hp9 | exact List.mem_append.mpr (.inr hp9) | exact List.mem_append.mpr (.inl hp9)))
local macro_rules | `(tactic| walk_at "my num") => `(tactic| first | assumption | exact Num.int _ _ | exact Num.dec (by k_mem) | (refine Num.mono ?_ (by assumption); walk_at "my sub"))
local macro_rules | `(tactic| walk_at "my use") => `(tactic| ((case u1 => k_asm); (case u2 => k_asm); (case u3 => k_asm); (case u4 => first | k_asm | exact Frag.In.keeps (by k_asm) (Fr.keep (by k_asm))); (case u5 => k_asm); (case u6 => first | exact rfl | assumption); (case u7 => walk_at "my room"); (case u8 => walk_at "my room")))
local macro_rules | `(tactic| walk_at "call ref cons") => `(tactic| (k_here; (fail_if_success (with_reducible show wpAny _ _ (call (Value.ref 123) _) _ _ _)); refine wpAny_call ?_; k_dflt (walk_at "my enter")))
local macro_rules | `(tactic| walk_at "binaryOp Pow int int") => `(tactic| (k_here; (with_reducible refine pow0 ?z1 ?z2 ?_); (case z1 => decide); (case z2 => decide)))
local macro_rules | `(tactic| k_all) => `(tactic| first | (with_reducible exact List.forall_mem_nil _) | (with_reducible refine List.forall_mem_cons.mpr ⟨?a, ?b⟩; (case a => k_ne); (case b => k_all)) | with_reducible assumption | (with_reducible exact all_ne_lt (by with_reducible assumption)) | (with_reducible exact all_ne_gt (by with_reducible assumption)) | (with_reducible exact all_ne_gt (And.right (by with_reducible assumption))) | (with_reducible exact all_ne_gt (And.right (And.right (by with_reducible assumption)))) | (with_reducible exact all_ne_gt (And.right (And.right (And.right (by with_reducible assumption))))) | (with_reducible exact all_ne_gt (And.right (And.right (And.right (And.right (by with_reducible assumption)))))) | (with_reducible exact all_ne_gt (And.right (And.right (And.right (And.right (And.right (by with_reducible assumption))))))) | (with_reducible exact all_ne_gt (And.right (And.right (And.right (And.right (And.right (And.right (by with_reducible assumption)))))))))
local macro_rules | `(tactic| walk_at "my use2") => `(tactic| ((case u2 => k_asm); (case u3 => k_asm); (case u4 => first | k_asm | exact Frag.In.keeps (by k_asm) (Fr.keep (by k_asm))); (case u5 => k_asm); (case u6 => first | exact rfl | assumption); (case u7 => walk_at "my room"); (case u8 => walk_at "my room")))
local macro_rules | `(tactic| walk_at "my asm") => `(tactic| first | assumption | (refine RowN.mono ?_ (by assumption); walk_at "my sub") | (refine GridN.mono ?_ (by assumption); walk_at "my sub") | (refine LamOK.mono ?_ (by assumption); walk_at "my sub"))
local macro_rules | `(tactic| walk_at "call builtin:list.append cons") => `(tactic| (k_here; (with_reducible show wpAny _ _ (call (Value.builtin _) [Value.ref _, _]) _ _ _); k_dflt (refine' append_K ?k1 ?k2 ?k3 ?_ ?z; (case k1 => k_asm); (case k2 => k_asm); (case k3 => k_upd); (case z => first | assumption | size_fits); k_whole); intro h' F' N'; (try k_sweep)))
section
theorem four {α : Type} : ∀ {l : List α}, l.length = 4 → ∃ a b c d, l = [a, b, c, d]
  | [a, b, c, d], _ => ⟨a, b, c, d, rfl⟩
theorem objs1 {I : Addr} {c : String} {its : Led} (h : Objs [(I, c)] its) : ∃ o : Obj, its = [(I, o)] ∧ o.cls = .type c := by
  match its, h with
  | [(b, o)], h => 
    have e : b = I := h.1.1
    subst e
    exact ⟨o, rfl, h.1.2⟩
  | [], h => exact (show False from h).elim
  | _ :: _ :: _, h => exact (show False from h.2).elim
noncomputable def RowsN (tl : Led) (vs : List Value) (R : Nat → Nat → Int) (i : Nat) : Prop := vs.length = i ∧ ∀ j, j < i → ∃ q, vs[j]? = some (.ref q) ∧ RowN tl q (R j)
theorem RowsN.mono {tl tl' : Led} {vs : List Value} {R : Nat → Nat → Int} {i : Nat} (hs : ∀ p ∈ tl, p ∈ tl') (h : RowsN tl vs R i) : RowsN tl' vs R i :=
  ⟨h.1, fun j hj => let ⟨q, a, b⟩ := h.2 j hj; ⟨q, a, b.mono hs⟩⟩
theorem RowsN.push {tl : Led} {vs : List Value} {R : Nat → Nat → Int} {i : Nat} {q : Addr} (h : RowsN tl vs R i) (hq : RowN tl q (R i)) : RowsN tl (vs ++ [.ref q]) R (i + 1) := by
  refine ⟨by simp [h.1], fun j hj => ?_⟩
  by_cases e : j < i
  · obtain ⟨q', a, b⟩ := h.2 j e
    exact ⟨q', by rw [List.getElem?_append_left (by rw [h.1]; exact e)]; exact a, b⟩
  · have e' : j = i := by omega
    subst e'
    exact ⟨q, by rw [List.getElem?_append_right (by rw [h.1]; exact Nat.le_refl _), h.1]; simp, hq⟩
theorem RowsN.grid {tl : Led} {vs : List Value} {R : Nat → Nat → Int} {g : Addr} {n : Nat} (h : RowsN tl vs R 4) (hm : (g, listOf vs.toArray n) ∈ tl) : GridN tl g R := by
  obtain ⟨hl, hj⟩ := h
  obtain ⟨a, b, c, d, rfl⟩ := four hl
  obtain ⟨q0, e0, h0⟩ := hj 0 (by decide)
  obtain ⟨q1, e1, h1⟩ := hj 1 (by decide)
  obtain ⟨q2, e2, h2⟩ := hj 2 (by decide)
  obtain ⟨q3, e3, h3⟩ := hj 3 (by decide)
  simp at e0 e1 e2 e3
  subst e0 e1 e2 e3
  exact ⟨q0, q1, q2, q3, n, hm, h0, h1, h2, h3⟩
theorem rows_at {news : Led} {r0 r1 r2 r3 : Addr} {M : Nat → Nat → Int} {i : Nat} {a : Itm} {v : Value} {h : Heap} (h0 : RowN news r0 (M 0)) (h1 : RowN news r1 (M 1)) (h2 : RowN news r2 (M 2)) (h3 : RowN news r3 (M 3))
    (hi : ([Value.ref r0, .ref r1, .ref r2, .ref r3].map Itm.val)[i]? = some a) (ha : a.Is v h) : ∃ r, v = .ref r ∧ RowN news r (M i) ∧ i < 4 := by
  rcases i with _ | _ | _ | _ | i
  · cases hi; exact ⟨_, ha, h0, by decide⟩
  · cases hi; exact ⟨_, ha, h1, by decide⟩
  · cases hi; exact ⟨_, ha, h2, by decide⟩
  · cases hi; exact ⟨_, ha, h3, by decide⟩
  · simp at hi
theorem lt_of4 {a b : Addr} (h : a + 1 + 1 + 1 + 1 < b) : a < b := Nat.lt_of_le_of_lt (Nat.le_add_right a 4) h
noncomputable def Stop (P : Prop) : Prop := P
theorem Stop.out {P : Prop} (h : Stop P) : P := h
theorem comp_inv {prog : Program} {w : World} {A : Around} {h₀ : Heap} {L : Addr} {m : Str → Option Value} {env : Env} {elt : PySem.Expr} {x : Str} {scope : Scope} {cl : List (Str × Addr)} {s : Shared} {S : Led → Prop} {P : Nat → Value → Prop}
    {Fin : List Value → Led → Prop} (J : Nat → List Value → Led → Prop) :
    ∀ (n i₀ : Nat) (ys : List Value) (news : Led),
    (∀ i ys news v I oI C oC D m₂ h tk (E' : Value → Shared → Prop), i₀ ≤ i → i < i₀ + n → P i v → LCg.NsObj oC m₂ → m₂ x = some v → Fr h₀ L h m → News h₀ L h ((I, oI) :: (C, oC) :: (D, LCg.lst ys) :: news) → LCg.Off3 I C D news → ((@Ne Nat I C) ∧ (@Ne Nat I D) ∧ (@Ne Nat C D)) → J i ys news →
      wpAny (model prog w) A (eval elt (compEnvC scope cl C env)) (LCg.CompEnd h₀ L m { s with heap := h, toks := tk } I oI C oC D (LCg.lst ys) S (fun y news' => J (i + 1) (ys ++ [y]) news')) E' { s with heap := h, toks := tk }) →
    (∀ ys news, J (i₀ + n) ys news → Fin ys news) → J i₀ ys news → LCg.CompRest prog w A h₀ L m env elt x scope cl s S P Fin n i₀ ys news
  | 0, i₀, ys, news, _, fin, h0 => fin ys news h0
  | n + 1, i₀, ys, news, turn, fin, h0 => by
    intro v I oI C oC D m₂ h tk E' hv hC hx F N off ne
    refine wpAny_mono (turn i₀ ys news v I oI C oC D m₂ h tk E' (Nat.le_refl _) (by omega) hv hC hx F N off ne h0) (fun y s₂ hs => ?_) fun _ _ e => e
    obtain ⟨h', tk', news', e, F', N', off', hS, hr⟩ := hs
    refine ⟨h', tk', news', e, F', N', off', hS, ?_⟩
    refine comp_inv J n (i₀ + 1) _ _ (fun i ys news v I oI C oC D m₂ h tk E' h1 h2 => turn i ys news v I oI C oC D m₂ h tk E' (by omega) (by omega)) (fun ys news hJ => fin ys news (by rw [show i₀ + (n + 1) = i₀ + 1 + n by omega]; exact hJ)) hr
noncomputable def ValsN (tl : Led) (ys : List Value) (f : Nat → Int) (i : Nat) : Prop := ys.length = i ∧ ∀ j, j < i → ∃ y, ys[j]? = some y ∧ Num tl y (f j)
theorem ValsN.push {tl : Led} {ys : List Value} {f : Nat → Int} {i : Nat} {y : Value} (h : ValsN tl ys f i) (hy : Num tl y (f i)) : ValsN tl (ys ++ [y]) f (i + 1) := by
  refine ⟨by simp [h.1], fun j hj => ?_⟩
  by_cases e : j < i
  · obtain ⟨q', a, b⟩ := h.2 j e
    exact ⟨q', by rw [List.getElem?_append_left (by rw [h.1]; exact e)]; exact a, b⟩
  · have e' : j = i := by omega
    subst e'
    exact ⟨y, by rw [List.getElem?_append_right (by rw [h.1]; exact Nat.le_refl _), h.1]; simp, hy⟩
theorem ValsN.row {tl : Led} {ys : List Value} {f : Nat → Int} {D : Addr} {n : Nat} (h : ValsN tl ys f 4) (hm : (D, listOf ys.toArray n) ∈ tl) : RowN tl D f := by
  obtain ⟨hl, hj⟩ := h
  obtain ⟨a, b, c, d, rfl⟩ := four hl
  obtain ⟨q0, e0, h0⟩ := hj 0 (by decide)
  obtain ⟨q1, e1, h1⟩ := hj 1 (by decide)
  obtain ⟨q2, e2, h2⟩ := hj 2 (by decide)
  obtain ⟨q3, e3, h3⟩ := hj 3 (by decide)
  simp at e0 e1 e2 e3
  subst e0 e1 e2 e3
  exact ⟨_, _, _, _, n, hm, h0, h1, h2, h3⟩
theorem ValsN.mono {tl tl' : Led} {ys : List Value} {f : Nat → Int} {i : Nat} (hs : ∀ p ∈ tl, p ∈ tl') (h : ValsN tl ys f i) : ValsN tl' ys f i :=
  ⟨h.1, fun j hj => let ⟨q, a, b⟩ := h.2 j hj; ⟨q, a, b.mono hs⟩⟩
theorem off1_mem {D : Addr} : ∀ {l : Led}, LCg.Off1 D l → ∀ p ∈ l, p.1 ≠ D
  | [], _, _, h => nomatch h
  | _ :: _, x, p, h => by
    rcases List.mem_cons.mp h with rfl | h
    · exact x.1
    · exact off1_mem x.2 p h
noncomputable def Grown (news n : Led) : Prop := (∀ p ∈ news, p ∈ n) ∧ ∀ p ∈ n, p ∈ news ∨ ∀ q ∈ news, q.1 ≠ p.1
theorem Grown.refl (news : Led) : Grown news news := ⟨fun _ h => h, fun _ h => .inl h⟩
noncomputable def CallOKc (w : World) (f : Addr) (vs : List Value) (k : Nat) (news : Led) (P : Value → Led → Prop) : Prop :=
  ∀ (p : Program) (loose : List Str) (mean : ExcName → Option Value) (mg mb : Str → Option Value)
    (dp un : Nat) (gd : Option (List Code)) (cn : Str) (cs : Scope) (a : Addr) (ccd : Value) (cl : List (Str × Addr)) (outer : List Env) (A₀ : Around) (base h₀ : Heap) (L : Addr) (m : Str → Option Value) (s : Shared) (Q E : Value → Shared → Prop),
    Below A₀ base outer h₀ → Fr h₀ L s.heap m → (hd.heap_39 w.params).In h₀ → News h₀ L s.heap news → Top p loose mean mg mb h₀ → CodeHd h₀ 159 155 → cs.kind = .function →
    dp + k < recursionLimit → un + 8 * k < cLine →
    (∀ v news' h' tk', Fr h₀ L h' m → News h₀ L h' news' → P v news' → Q v { s with heap := h', toks := tk' }) →
    wpAny (model PySem.Challenge.rw_tk0001_01.row.prog w) (ktrTop dp un gd cn cs L a ccd cl outer) (call (.ref f) vs) Q E s
section
variable {w : World} {f : Addr} {vs : List Value} {k : Nat} {news : Led} {P : Value → Led → Prop}
theorem CallOKc.use (C : CallOKc w f vs k news P) {p : Program} {loose : List Str} {mean : ExcName → Option Value} {mg mb : Str → Option Value}
    {dp un : Nat} {gd : Option (List Code)} {cn : Str} {cs : Scope} {a : Addr} {ccd : Value} {cl : List (Str × Addr)} {outer : List Env} {A₀ : Around} {base h₀ : Heap} {L : Addr} {m : Str → Option Value} {s : Shared} {Q E : Value → Shared → Prop}
    (N : News h₀ L s.heap news) (F : Fr h₀ L s.heap m) (B : Below A₀ base outer h₀) (X : (hd.heap_39 w.params).In h₀) (T : Top p loose mean mg mb h₀) (H : CodeHd h₀ 159 155) (hk : cs.kind = .function)
    (hd : dp + k < recursionLimit) (hu : un + 8 * k < cLine)
    (ret : ∀ v news' h' tk', Fr h₀ L h' m → News h₀ L h' news' → P v news' → Q v { s with heap := h', toks := tk' }) :
    wpAny (model PySem.Challenge.rw_tk0001_01.row.prog w) (ktrTop dp un gd cn cs L a ccd cl outer) (call (.ref f) vs) Q E s :=
  C _ _ _ _ _ _ _ _ _ _ _ _ _ _ _ _ _ _ _ _ _ _ B F X N T H hk hd hu ret
end
noncomputable def lamQual : Str := (Str.ofString "_law_wider" ++ Str.ofString ".<locals>.") ++ Str.ofString "<lambda>"
noncomputable def TabC (news : Led) : Prop := ∃ c1 c2 o1 o2 vs1 vs2 t1 t2, ((155 : Addr), tabObj #[rawInt 113, rawInt 36, .ref c1, rawInt 113, rawInt 76, .ref c2]) ∈ news ∧ (c1, o1) ∈ news ∧ (c2, o2) ∈ news ∧
  o1.data = .fields vs1 ∧ vs1[1]? = some (.str lamQual t1) ∧ o2.data = .fields vs2 ∧ vs2[1]? = some (.str lamQual t2)
noncomputable def TabF (news n : Led) : Prop := ∃ c1 c2 o1 o2 vs1 vs2 t1 t2, ((155 : Addr), tabObj #[rawInt 113, rawInt 36, .ref c1, rawInt 113, rawInt 76, .ref c2]) ∈ n ∧ (c1, o1) ∈ n ∧ (c2, o2) ∈ n ∧
  o1.data = .fields vs1 ∧ vs1[1]? = some (.str lamQual t1) ∧ o2.data = .fields vs2 ∧ vs2[1]? = some (.str lamQual t2) ∧ (∀ q ∈ news, q.1 ≠ c1) ∧ (∀ q ∈ news, q.1 ≠ c2)
theorem TabC.mono {news news' : Led} (hs : ∀ p ∈ news, p ∈ news') : TabC news → TabC news'
  | ⟨c1, c2, o1, o2, vs1, vs2, t1, t2, a, b, c, d⟩ => ⟨c1, c2, o1, o2, vs1, vs2, t1, t2, hs _ a, hs _ b, hs _ c, d⟩
theorem napp {h₀ h : Heap} {L : Addr} {a b : Led} (N : News h₀ L h a) (N' : News h₀ L h b) : News h₀ L h (a ++ b) := fun p hp => (List.mem_append.mp hp).elim (N p) (N' p)
theorem Grown.weaken {news E n : Led} (h : Grown E n) (hs : ∀ p ∈ news, p ∈ E) (ho : ∀ p ∈ E, p ∈ news ∨ ∀ q ∈ news, q.1 ≠ p.1) : Grown news n :=
  ⟨fun p hp => h.1 p (hs p hp), fun p hp => (h.2 p hp).elim (ho p) fun k => .inr fun q hq => k q (hs q hq)⟩
theorem all_ne_succ {d : Addr} {l : Led} (h : AllLt d l) : ∀ p ∈ l, p.1 ≠ d + 1 := fun p hp => Nat.ne_of_lt (Nat.lt_succ_of_lt (ktn_ltOf h p hp))
theorem all_ne_gt2 {c d : Addr} {l : Led} (h : AllLt c l) (hc : c < d) : ∀ p ∈ l, p.1 ≠ d := fun p hp => Nat.ne_of_lt (Nat.lt_trans (ktn_ltOf h p hp) hc)
noncomputable def rowd (f : Nat → Int) : Dat := .list [.int (f 0), .int (f 1), .int (f 2), .int (f 3)]
noncomputable def gd (M : Nat → Nat → Int) : Dat := .list [rowd (M 0), rowd (M 1), rowd (M 2), rowd (M 3)]
noncomputable def ValsI (ys : List Value) (f : Nat → Int) (i : Nat) : Prop := ys.length = i ∧ ∀ j, j < i → ∃ t, ys[j]? = some (.int (f j) t)
theorem ValsI.push {ys : List Value} {f : Nat → Int} {i : Nat} {t : Tok} (h : ValsI ys f i) : ValsI (ys ++ [.int (f i) t]) f (i + 1) := by
  refine ⟨by simp [h.1], fun j hj => ?_⟩
  by_cases e : j < i
  · obtain ⟨q', a⟩ := h.2 j e
    exact ⟨q', by rw [List.getElem?_append_left (by rw [h.1]; exact e)]; exact a⟩
  · have e' : j = i := by omega
    subst e'
    exact ⟨t, by rw [List.getElem?_append_right (by rw [h.1]; exact Nat.le_refl _), h.1]; simp⟩
theorem ValsI.dat {news : Led} {ys : List Value} {f : Nat → Int} {D : Addr} {n : Nat} (h : ValsI ys f 4) (hm : (D, listOf ys.toArray n) ∈ news) : DatIn news (.ref D) (rowd f) := by
  obtain ⟨hl, hj⟩ := h
  obtain ⟨a, b, c, d, rfl⟩ := four hl
  obtain ⟨t0, e0⟩ := hj 0 (by decide)
  obtain ⟨t1, e1⟩ := hj 1 (by decide)
  obtain ⟨t2, e2⟩ := hj 2 (by decide)
  obtain ⟨t3, e3⟩ := hj 3 (by decide)
  simp at e0 e1 e2 e3
  subst e0 e1 e2 e3
  exact .list (n := n) hm (.cons (.int _ _) (.cons (.int _ _) (.cons (.int _ _) (.cons (.int _ _) .nil))))
noncomputable def DatRows (n : Led) (ys : List Value) (M : Nat → Nat → Int) (i : Nat) : Prop := ys.length = i ∧ ∀ j, j < i → ∃ y, ys[j]? = some y ∧ DatIn n y (rowd (M j))
theorem DatRows.mono {n n' : Led} {ys : List Value} {M : Nat → Nat → Int} {i : Nat} (hs : ∀ p ∈ n, p ∈ n') (h : DatRows n ys M i) : DatRows n' ys M i :=
  ⟨h.1, fun j hj => let ⟨y, a, b⟩ := h.2 j hj; ⟨y, a, b.mono hs⟩⟩
theorem DatRows.push {n : Led} {ys : List Value} {M : Nat → Nat → Int} {i : Nat} {y : Value} (h : DatRows n ys M i) (hy : DatIn n y (rowd (M i))) : DatRows n (ys ++ [y]) M (i + 1) := by
  refine ⟨by simp [h.1], fun j hj => ?_⟩
  by_cases e : j < i
  · obtain ⟨q', a, b⟩ := h.2 j e
    exact ⟨q', by rw [List.getElem?_append_left (by rw [h.1]; exact e)]; exact a, b⟩
  · have e' : j = i := by omega
    subst e'
    exact ⟨y, by rw [List.getElem?_append_right (by rw [h.1]; exact Nat.le_refl _), h.1]; simp, hy⟩
theorem DatRows.dat {n : Led} {ys : List Value} {M : Nat → Nat → Int} {D : Addr} {k : Nat} (h : DatRows n ys M 4) (hm : (D, listOf ys.toArray k) ∈ n) : DatIn n (.ref D) (gd M) := by
  obtain ⟨hl, hj⟩ := h
  obtain ⟨a, b, c, d, rfl⟩ := four hl
  obtain ⟨y0, e0, h0⟩ := hj 0 (by decide)
  obtain ⟨y1, e1, h1⟩ := hj 1 (by decide)
  obtain ⟨y2, e2, h2⟩ := hj 2 (by decide)
  obtain ⟨y3, e3, h3⟩ := hj 3 (by decide)
  simp at e0 e1 e2 e3
  subst e0 e1 e2 e3
  exact .list (n := k) hm (.cons h0 (.cons h1 (.cons h2 (.cons h3 .nil))))
theorem row_at2 {nb : Led} {r0 r1 r2 r3 : Addr} {M : Nat → Nat → Int} {i : Nat} {v : Value} (h0 : RowN nb r0 (M 0)) (h1 : RowN nb r1 (M 1)) (h2 : RowN nb r2 (M 2)) (h3 : RowN nb r3 (M 3))
    (hi : [Value.ref r0, .ref r1, .ref r2, .ref r3][i]? = some v) : ∃ r, v = .ref r ∧ RowN nb r (M i) ∧ i < 4 := by
  rcases i with _ | _ | _ | _ | i
  · cases hi; exact ⟨_, rfl, h0, by decide⟩
  · cases hi; exact ⟨_, rfl, h1, by decide⟩
  · cases hi; exact ⟨_, rfl, h2, by decide⟩
  · cases hi; exact ⟨_, rfl, h3, by decide⟩
  · simp at hi
theorem off3_of1 {I C D D' : Addr} {oI oC oD : Obj} {l : Led} (h : LCg.Off1 D' ((I, oI) :: (C, oC) :: (D, oD) :: l)) (k : LCg.Off3 I C D l) {o : Obj} : LCg.Off3 I C D ((D', o) :: l) := ⟨⟨Ne.symm h.1, Ne.symm h.2.1, Ne.symm h.2.2.1⟩, k⟩
theorem Grown.push {news n : Led} {D : Addr} {o : Obj} (h : Grown news n) (hD : ∀ p ∈ n, p.1 ≠ D) : Grown news ((D, o) :: n) :=
  ⟨fun p hp => .tail _ (h.1 p hp), fun p hp => by
    rcases List.mem_cons.mp hp with rfl | hp
    · exact .inr fun q hq => hD q (h.1 q hq)
    · exact h.2 p hp⟩
theorem off1_tail3 {D' : Addr} {a b c : Addr × Obj} {l : Led} (h : LCg.Off1 D' (a :: b :: c :: l)) : ∀ p ∈ l, p.1 ≠ D' := off1_mem h.2.2.2
end
section
noncomputable def lnA : Nat → Int
  | 0 => 0 | 1 => 0 | 2 => 1 | 3 => 0 | 4 => 1 | _ => 2
noncomputable def lnB : Nat → Int
  | 0 => 1 | 1 => 2 | 2 => 2 | 3 => 3 | 4 => 3 | _ => 3
noncomputable def LinesN (news : Led) (l : Addr) (ws : Nat → Int) : Prop := ∃ (vs : List Value) (n : Nat), vs.length = 6 ∧ (l, listOf vs.toArray n) ∈ news ∧ ∀ i x, vs[i]? = some x → ∃ d ta tb tc, x = .ref d ∧ (d, tupO [.int (lnA i) ta, .int (lnB i) tb, .int (ws i) tc]) ∈ news
theorem LinesN.mono {news news' : Led} {l : Addr} {ws : Nat → Int} (hs : ∀ p ∈ news, p ∈ news') : LinesN news l ws → LinesN news' l ws
  | ⟨vs, n, hl, hm, hi⟩ => ⟨vs, n, hl, hs _ hm, fun i x h => let ⟨d, ta, tb, tc, e, h9⟩ := hi i x h; ⟨d, ta, tb, tc, e, hs _ h9⟩⟩
noncomputable def stepL (here : List Int) (least : Int) (met : List Int) (a b w : Int) : List Int :=
  if least ≤ w ∧ (decide (a ∈ here) ≠ decide (b ∈ here)) then (if (if a ∈ here then b else a) ∈ met then met else met ++ [if a ∈ here then b else a]) else met
noncomputable def foldL (ws : Nat → Int) (here : List Int) (least : Int) : Nat → List Int
  | 0 => here
  | i + 1 => stepL here least (foldL ws here least i) (lnA i) (lnB i) (ws i)
noncomputable def comeL (ws : Nat → Int) (least begin : Int) : Nat → List Int
  | 0 => [begin]
  | n + 1 => foldL ws (comeL ws least begin n) least 6
theorem stepL_len {here : List Int} {least : Int} {met : List Int} {a b w : Int} : (stepL here least met a b w).length ≤ met.length + 1 := by
  unfold stepL
  split
  · generalize (if a ∈ here then b else a) = c
    split
    · omega
    · simp
  · omega
theorem foldL_len {ws : Nat → Int} {here : List Int} {least : Int} : ∀ i, (foldL ws here least i).length ≤ here.length + i
  | 0 => Nat.le_refl _
  | i + 1 => by
    have := foldL_len (ws := ws) (here := here) (least := least) i
    have := stepL_len (here := here) (least := least) (met := foldL ws here least i) (a := lnA i) (b := lnB i) (w := ws i)
    simp only [foldL]
    omega
theorem comeL_len {ws : Nat → Int} {least begin : Int} : ∀ n, (comeL ws least begin n).length ≤ 1 + 6 * n
  | 0 => by simp [comeL]
  | n + 1 => by
    have h1 := comeL_len (ws := ws) (least := least) (begin := begin) n
    have h2 := foldL_len (ws := ws) (here := comeL ws least begin n) (least := least) 6
    simp only [comeL]
    omega
section
variable {prog : Program} {w : World} {A : Around} {E : Value → Shared → Prop} {s : Shared} {env : Env} {h₀ : Heap} {x : Str} {body : List Stmt} {Q : Flow → Shared → Prop}
theorem range_inv {I : Addr} {a : Int} {n : Nat} (Inv : Nat → (Str → Option Value) → Led → Prop) :
    ∀ (k i₀ : Nat) (m₀ : Str → Option Value) (news : Led),
    (∀ i m nx t h tk, i₀ ≤ i → i < i₀ + k → Inv i m nx → Fr h₀ env.locals h (fun y => if y = x then some (.int (a + (i : Int)) t) else m y) → ∀ it, it = itR (a + ((i + 1 : Nat) : Int)) ((n : Int) - ((i + 1 : Nat) : Int)) → News h₀ env.locals h ((I, it) :: nx) →
      wpAny (model prog w) A (execs body env) (TurnEnd h₀ env.locals { s with heap := h, toks := tk } [(I, it)] (Inv (i + 1)) Q) E { s with heap := h, toks := tk }) →
    (∀ m nx h tk, Inv (i₀ + k) m nx → Fr h₀ env.locals h m → News h₀ env.locals h nx → Q .next { s with heap := h, toks := tk }) →
    Inv i₀ m₀ news → RangeRest prog w A E h₀ env x body Q s I a n k i₀ m₀ news
  | 0, i₀, m₀, news, _, done, h0 => fun h tk F N => done m₀ news h tk h0 F N
  | k + 1, i₀, m₀, news, turn, done, h0 => by
    intro t h tk F N
    refine wpAny_mono (turn i₀ m₀ news t h tk (Nat.le_refl _) (by omega) h0 F _ rfl N) (fun f s₂ p => ?_) fun _ _ e => e
    have fin : (∃ h' tk' m' n' nx, s₂ = { ({ s with heap := h, toks := tk } : Shared) with heap := h', toks := tk' } ∧ Fr h₀ env.locals h' m' ∧ News h₀ env.locals h' n' ∧ (∀ p ∈ [(I, itR (a + ((i₀ + 1 : Nat) : Int)) ((n : Int) - ((i₀ + 1 : Nat) : Int)))], p ∈ n') ∧ (∀ p ∈ nx, p ∈ n') ∧ (∀ p ∈ nx, ∀ q ∈ [(I, itR (a + ((i₀ + 1 : Nat) : Int)) ((n : Int) - ((i₀ + 1 : Nat) : Int)))], p.1 ≠ q.1) ∧ Inv (i₀ + 1) m' nx) →
        UnrEnd h₀ env.locals { s with heap := h, toks := tk } I (itR (a + ((i₀ + 1 : Nat) : Int)) ((n : Int) - ((i₀ + 1 : Nat) : Int))) (RangeRest prog w A E h₀ env x body Q s I a n k (i₀ + 1)) s₂ := by
      rintro ⟨h', tk', m', n', nx, e, F', N', h1, h2, h3, hI⟩
      refine ⟨h', tk', m', nx, e, F', fun p hp => ?_, fun p hp => h3 p hp _ (List.mem_singleton.mpr rfl), ?_⟩
      · rcases List.mem_cons.mp hp with rfl | hp
        · exact N' _ (h1 _ (List.mem_singleton.mpr rfl))
        · exact N' p (h2 p hp)
      · exact range_inv Inv k (i₀ + 1) m' nx (fun i m nx t h tk h1 h2 => turn i m nx t h tk (by omega) (by omega)) (fun m nx h tk hJ => done m nx h tk (by rw [show i₀ + (k + 1) = i₀ + 1 + k by omega]; exact hJ)) hI
    cases f with
    | ret v => exact p
    | brk => exact p
    | next => exact fin p
    | cont => exact fin p
end
theorem frame_form {m mp : Str → Option Value} {x : Str} {v : Value} {S : List Str} (h1 : m x = some v) (h2 : ∀ y, y ≠ x → S.contains y = false → m y = mp y) :
    ∃ u : Str → Option Value, m = fun y => if y = x then some v else if S.contains y = true then u y else mp y := by
  refine ⟨m, funext fun y => ?_⟩
  by_cases hy : y = x
  · subst hy; simp [h1]
  · rw [if_neg hy]
    by_cases hS : S.contains y = true
    · rw [if_pos hS]
    · rw [if_neg hS]; exact h2 y hy (by simpa using hS)
theorem range_ok {n : Nat} (h : n ≤ 8) : Builtin.Range.small 0 (n : Int) 1 = true ∧ Builtin.Range.rangeSize 0 (n : Int) 1 = ((n : Nat) : Int) := by
  rcases n with _ | _ | _ | _ | _ | _ | _ | _ | _ | n
  all_goals first | exact ⟨by decide, by decide⟩ | omega
abbrev SO : List Str := [Str.ofString "here", Str.ofString "turn", Str.ofString "one", Str.ofString "other", Str.ofString "width", Str.ofString "later"]
abbrev SI : List Str := [Str.ofString "one", Str.ofString "other", Str.ofString "width", Str.ofString "later"]
theorem SO_no {y : Str} (h : SO.contains y = false) : y ≠ Str.ofString "here" ∧ y ≠ Str.ofString "turn" ∧ y ≠ Str.ofString "one" ∧ y ≠ Str.ofString "other" ∧ y ≠ Str.ofString "width" ∧ y ≠ Str.ofString "later" := by
  simpa [List.contains_cons] using h
theorem SI_no {y : Str} (h : SI.contains y = false) : y ≠ Str.ofString "one" ∧ y ≠ Str.ofString "other" ∧ y ≠ Str.ofString "width" ∧ y ≠ Str.ofString "later" := by
  simpa [List.contains_cons] using h
theorem lines_at {news : Led} {ws : Nat → Int} {vs : List Value} {i : Nat} {a : Itm} {v : Value} {h : Heap} (hi : ∀ i x, vs[i]? = some x → ∃ d ta tb tc, x = .ref d ∧ (d, tupO [.int (lnA i) ta, .int (lnB i) tb, .int (ws i) tc]) ∈ news)
    (hx : (vs.map Itm.val)[i]? = some a) (ha : a.Is v h) : ∃ d ta tb tc, v = .ref d ∧ (d, tupO [.int (lnA i) ta, .int (lnB i) tb, .int (ws i) tc]) ∈ news := by
  rw [List.getElem?_map] at hx
  cases e : vs[i]? with
  | none => rw [e] at hx; cases hx
  | some x =>
    rw [e] at hx
    cases hx
    obtain ⟨d, ta, tb, tc, hd⟩ := hi i x e
    have ha' : v = x := ha
    exact ⟨d, ta, tb, tc, ha'.trans hd.1, hd.2⟩
theorem any_mem (ns : List Int) (k : Int) : ns.any (· == k) = decide (k ∈ ns) := by
  rw [Bool.eq_iff_iff]; simp [List.any_eq_true]
section
variable {prog : Program} {w : World} {A : Around} {E : Value → Shared → Prop} {s : Shared} {h₀ : Heap} {L l : Addr} {news : Led} {vs : List Value} {ns : List Int} {k : Int} {t : Tok} {n : Nat} {Q : Value → Shared → Prop}
theorem in_ints (N : News h₀ L s.heap news) (hl : (l, listOf vs.toArray n) ∈ news) (hi : IntsAre vs ns) (h : Q (.bool (decide (k ∈ ns))) s) : wpAny (model prog w) A (compareOp .In (.int k t) (.ref l)) Q E s :=
  in_list_ints (News.isList N hl) hi (by rw [any_mem]; exact h)
theorem notin_ints (N : News h₀ L s.heap news) (hl : (l, listOf vs.toArray n) ∈ news) (hi : IntsAre vs ns) (h : Q (.bool (!decide (k ∈ ns))) s) : wpAny (model prog w) A (compareOp .NotIn (.int k t) (.ref l)) Q E s :=
  notin_list_ints (News.isList N hl) hi (by rw [any_mem]; exact h)
end
theorem room1 {ns : List Int} (h : ns.length ≤ 40) : ns.length + [0].length ≤ sizeLine := Nat.le_trans (Nat.add_le_add_right h 1) (by decide)
theorem room2 {vs : List Value} {ns : List Int} (hi : IntsAre vs ns) (h : ns.length ≤ 40) : vs.toArray.size ≤ sizeLine := by
  rw [List.size_toArray, hi.length]; exact Nat.le_trans h (by decide)
section
variable {here met : List Int} {least a b w : Int} {vs : List Value}
theorem st1 (h1 : least ≤ w) (h2 : (decide (a ∈ here) != decide (b ∈ here)) = true) (h3 : a ∈ here) (h4 : b ∈ met) (h : IntsAre vs met) : IntsAre vs (stepL here least met a b w) := by
  have h2' : decide (a ∈ here) ≠ decide (b ∈ here) := by simpa using h2
  unfold stepL
  rw [if_pos ⟨h1, h2'⟩, if_pos h3, if_pos h4]; exact h
theorem st2 (h1 : least ≤ w) (h2 : (decide (a ∈ here) != decide (b ∈ here)) = true) (h3 : a ∈ here) (h4 : ¬ b ∈ met) (h : IntsAre vs (met ++ [b])) : IntsAre vs (stepL here least met a b w) := by
  have h2' : decide (a ∈ here) ≠ decide (b ∈ here) := by simpa using h2
  unfold stepL
  rw [if_pos ⟨h1, h2'⟩, if_pos h3, if_neg h4]; exact h
theorem st3 (h1 : least ≤ w) (h2 : (decide (a ∈ here) != decide (b ∈ here)) = true) (h3 : ¬ a ∈ here) (h4 : a ∈ met) (h : IntsAre vs met) : IntsAre vs (stepL here least met a b w) := by
  have h2' : decide (a ∈ here) ≠ decide (b ∈ here) := by simpa using h2
  unfold stepL
  rw [if_pos ⟨h1, h2'⟩, if_neg h3, if_pos h4]; exact h
theorem st4 (h1 : least ≤ w) (h2 : (decide (a ∈ here) != decide (b ∈ here)) = true) (h3 : ¬ a ∈ here) (h4 : ¬ a ∈ met) (h : IntsAre vs (met ++ [a])) : IntsAre vs (stepL here least met a b w) := by
  have h2' : decide (a ∈ here) ≠ decide (b ∈ here) := by simpa using h2
  unfold stepL
  rw [if_pos ⟨h1, h2'⟩, if_neg h3, if_neg h4]; exact h
theorem st5 (h2 : (decide (a ∈ here) != decide (b ∈ here)) = false) (h : IntsAre vs met) : IntsAre vs (stepL here least met a b w) := by
  have h2' : ¬ (decide (a ∈ here) ≠ decide (b ∈ here)) := by simpa using h2
  unfold stepL
  rw [if_neg fun k => h2' k.2]; exact h
theorem st6 (h1 : ¬ least ≤ w) (h : IntsAre vs met) : IntsAre vs (stepL here least met a b w) := by
  unfold stepL
  rw [if_neg fun k => h1 k.1]; exact h
end
end
section
noncomputable def setAll (v : Int) (ns gs : List Int) : Nat → List Int
  | 0 => ns
  | k + 1 => (setAll v ns gs k).set (gs.getD k 0).toNat v
noncomputable def dueRow (ws : Nat → Int) (begin : Int) (steps : Nat) : Nat → List Int
  | 0 => [0, 0, 0, 0]
  | k + 1 => setAll (1 + (k : Int)) (dueRow ws begin steps k) (comeL ws (1 + (k : Int)) begin steps) (comeL ws (1 + (k : Int)) begin steps).length
noncomputable def dueM (ws : Nat → Int) (steps a c : Nat) : Int := ((dueRow ws (a : Int) steps 5).set a 6).getD c 0
theorem setAll_len {v : Int} {ns gs : List Int} : ∀ k, (setAll v ns gs k).length = ns.length
  | 0 => rfl
  | k + 1 => by simp only [setAll, List.length_set]; exact setAll_len k
theorem dueRow_len {ws : Nat → Int} {begin : Int} {steps : Nat} : ∀ k, (dueRow ws begin steps k).length = 4
  | 0 => rfl
  | k + 1 => by simp only [dueRow, setAll_len]; exact dueRow_len k
theorem lnA_lt : ∀ i, 0 ≤ lnA i ∧ lnA i < 4
  | 0 | 1 | 2 | 3 | 4 => by decide
  | _ + 5 => (by decide : (0 : Int) ≤ 2 ∧ (2 : Int) < 4)
theorem lnB_lt : ∀ i, 0 ≤ lnB i ∧ lnB i < 4
  | 0 | 1 | 2 | 3 | 4 => by decide
  | _ + 5 => (by decide : (0 : Int) ≤ 3 ∧ (3 : Int) < 4)
theorem stepL_lt {here : List Int} {least : Int} {met : List Int} {a b w : Int} (ha : 0 ≤ a ∧ a < 4) (hb : 0 ≤ b ∧ b < 4) (h : ∀ x ∈ met, 0 ≤ x ∧ x < 4) : ∀ x ∈ stepL here least met a b w, 0 ≤ x ∧ x < 4 := by
  intro x hx
  have hc : 0 ≤ (if a ∈ here then b else a) ∧ (if a ∈ here then b else a) < 4 := by split <;> assumption
  unfold stepL at hx
  generalize (if a ∈ here then b else a) = c at hx hc
  split at hx
  · split at hx
    · exact h x hx
    · rcases List.mem_append.mp hx with hx | hx
      · exact h x hx
      · rw [List.mem_singleton.mp hx]; exact hc
  · exact h x hx
theorem foldL_lt {ws : Nat → Int} {here : List Int} {least : Int} (h : ∀ x ∈ here, 0 ≤ x ∧ x < 4) : ∀ i, ∀ x ∈ foldL ws here least i, 0 ≤ x ∧ x < 4
  | 0 => h
  | i + 1 => stepL_lt (lnA_lt i) (lnB_lt i) (foldL_lt h i)
theorem comeL_lt {ws : Nat → Int} {least begin : Int} (h : 0 ≤ begin ∧ begin < 4) : ∀ n, ∀ x ∈ comeL ws least begin n, 0 ≤ x ∧ x < 4
  | 0 => fun x hx => by rw [List.mem_singleton.mp hx]; exact h
  | n + 1 => foldL_lt (comeL_lt h n) 6
theorem ints_at {vs : List Value} {ns : List Int} (h : IntsAre vs ns) : ∀ {i : Nat} {v : Value}, vs[i]? = some v → ∃ t, v = .int (ns.getD i 0) t ∧ ns.getD i 0 ∈ ns := by
  induction h with
  | nil => intro i v h; simp at h
  | cons k t _ ih =>
    intro i v h
    cases i with
    | zero => simp at h; exact ⟨t, by simpa using h.symm, by simp⟩
    | succ i => simp at h; obtain ⟨t, e, hm⟩ := ih h; exact ⟨t, by simpa using e, by simp; exact .inr (by simpa using hm)⟩
theorem ints_get {vs : List Value} {ns : List Int} (h : IntsAre vs ns) : ∀ {i : Nat}, i < ns.length → ∃ t, vs[i]? = some (.int (ns.getD i 0) t) := by
  intro i hi
  have hl : vs.length = ns.length := h.length
  obtain ⟨t, e, _⟩ := ints_at h (List.getElem?_eq_getElem (by omega : i < vs.length))
  exact ⟨t, by rw [← e, List.getElem?_eq_getElem (by omega : i < vs.length)]⟩
theorem ints_vals {vs : List Value} {ns : List Int} (h : IntsAre vs ns) (hl : ns.length = 4) : ValsI vs (fun c => ns.getD c 0) 4 :=
  ⟨by rw [← hl]; exact h.length, fun j hj => ints_get h (by omega)⟩
theorem ints_itm {vs : List Value} {ns : List Int} {i : Nat} {a : Itm} {v : Value} {h : Heap} (hi : IntsAre vs ns) (hx : (vs.map Itm.val)[i]? = some a) (ha : a.Is v h) : i < ns.length ∧ ∃ t, v = .int (ns.getD i 0) t ∧ ns.getD i 0 ∈ ns := by
  rw [List.getElem?_map] at hx
  cases e : vs[i]? with
  | none => rw [e] at hx; cases hx
  | some x =>
    rw [e] at hx
    cases hx
    have ha' : v = x := ha
    have hlt := (List.getElem?_eq_some_iff.mp e).1
    have hl : vs.length = ns.length := hi.length
    obtain ⟨t, e', hm⟩ := ints_at hi e
    exact ⟨by omega, t, ha'.trans e', hm⟩
theorem frame_form0 {m mp : Str → Option Value} {S : List Str} (h2 : ∀ y, S.contains y = false → m y = mp y) :
    ∃ u : Str → Option Value, m = fun y => if S.contains y = true then u y else mp y := by
  refine ⟨m, funext fun y => ?_⟩
  by_cases hS : S.contains y = true
  · rw [if_pos hS]
  · rw [if_neg hS]; exact h2 y (by simpa using hS)
theorem range_ok1 : Builtin.Range.small 1 6 1 = true ∧ Builtin.Range.rangeSize 1 6 1 = ((5 : Nat) : Int) := ⟨by decide, by decide⟩
abbrev SG : List Str := [Str.ofString "goal"]
abbrev SL : List Str := [Str.ofString "least", Str.ofString "goal"]
abbrev SBg : List Str := [Str.ofString "begin", Str.ofString "row", Str.ofString "least", Str.ofString "goal"]
theorem SG_no {y : Str} (h : SG.contains y = false) : y ≠ Str.ofString "goal" := by simpa [List.contains_cons] using h
theorem SL_no {y : Str} (h : SL.contains y = false) : y ≠ Str.ofString "least" ∧ y ≠ Str.ofString "goal" := by simpa [List.contains_cons] using h
theorem SBg_no {y : Str} (h : SBg.contains y = false) : y ≠ Str.ofString "begin" ∧ y ≠ Str.ofString "row" ∧ y ≠ Str.ofString "least" ∧ y ≠ Str.ofString "goal" := by simpa [List.contains_cons] using h
end
section
section
variable {prog : Program} {w : World} {A : Around} {E : Value → Shared → Prop} {s : Shared} {env : Env} {h₀ : Heap} {body : List Stmt} {Q : Flow → Shared → Prop}
theorem iter_rangeT {x : Str} {px : Pos} {r : Addr} {a₀ b₀ : Int} {t₀ u₀ v₀ : Tok} {n : Nat} {m₀ : Str → Option Value} {news : Led}
    (hh : A.handled = none) (hr : IsRange s.heap r a₀ b₀ 1 t₀ u₀ v₀) (hsmall : Builtin.Range.small a₀ b₀ 1 = true) (hn : Builtin.Range.rangeSize a₀ b₀ 1 = (n : Int)) (F : Fr h₀ env.locals s.heap m₀) (N : News h₀ env.locals s.heap news)
    (rest₀ : ∀ I : Addr, (∀ p ∈ news, p.1 < I) → ItemsRest prog w A E h₀ env (.Name x px) body Q s [(I, "range_iterator")] [] ((_root_.List.range n).map fun i : Nat => Itm.tok fun t => .int (a₀ + (i : Int)) t) m₀ news) :
    wpAny (model prog w) A (pyIter (.ref r)) (fun it s₂ => TurnsAt prog w A h₀ env (.Name x px) body Q E it s₂) E s := by
  refine wpAny_pyIter_range hr hsmall ?_
  refine ktu_core (tk0 := s.toks) (keep := []) (KTurns.ofWalks (Walks.range hh s.heap.objs.size a₀ 1 n).bound fun i v s Q E st q => ?_) (by simp) (fun i v h hp => ?_) (fun i h st => ?_) (fun b hb => ?_) (fun b hb => by simpa using hb) (fun b hb => ?_) ?_ (fun p hp hI => ?_) ?_ (F.push _) (fun p hp => ⟨Heap.get?_push_of_some _ (N p hp).1, (N p hp).2⟩) trivial (rest₀ _ fun p hp => Heap.lt_size (N p hp).1)
  · unfold letOwnedTupleGo
    exact wpAny_pure q
  · obtain ⟨hi, t, rfl⟩ := hp
    refine ⟨.tok fun t => .int (a₀ + (i : Int)) t, ?_, t, by rw [Int.mul_one]⟩
    rw [List.getElem?_map, List.getElem?_range hi]
    rfl
  · exact ⟨[(s.heap.objs.size, _)], ⟨⟨rfl, rfl⟩, trivial⟩, fun p hp => by rw [List.mem_singleton.mp hp]; exact st⟩
  · have hb' : b = s.heap.objs.size := by simpa using hb
    rw [hb']
    exact ⟨List.mem_cons_self .., next_is_new F⟩
  · exact .inl (by simpa using hb)
  · intro hI
    exact absurd F.ns.lt ((List.mem_singleton.mp hI) ▸ Nat.lt_irrefl _)
  · exact absurd (Heap.lt_size (N p hp).1) ((List.mem_singleton.mp hI) ▸ Nat.lt_irrefl _)
  · show IsRangeIter _ _ _ _ _
    rw [hn]
    simpa using Heap.get?_push_size _ rfl
end
theorem tok_at {a₀ : Int} {n i : Nat} {a : Itm} {v : Value} {h : Heap} (hx : ((_root_.List.range n).map fun i : Nat => Itm.tok fun t => .int (a₀ + (i : Int)) t)[i]? = some a) (ha : a.Is v h) : i < n ∧ ∃ t, v = .int (a₀ + (i : Int)) t := by
  rw [List.getElem?_map] at hx
  by_cases hi : i < n
  · rw [List.getElem?_range hi] at hx
    cases hx
    exact ⟨hi, ha⟩
  · rw [List.getElem?_eq_none (by simpa using Nat.not_lt.mp hi)] at hx
    cases hx
noncomputable def tri : Nat → Nat
  | 0 => 0
  | i + 1 => tri i + i
theorem ln_tri : ∀ i, i < 4 → ∀ j, j < i → lnA (tri i + j) = (j : Int) ∧ lnB (tri i + j) = (i : Int) := by decide
noncomputable def LnsN (tl : Led) (vs : List Value) (ws : Nat → Int) (c : Nat) : Prop := vs.length = c ∧ ∀ i x, vs[i]? = some x → ∃ d ta tb tc, x = .ref d ∧ (d, tupO [.int (lnA i) ta, .int (lnB i) tb, .int (ws i) tc]) ∈ tl
theorem LnsN.mono {tl tl' : Led} {vs : List Value} {ws : Nat → Int} {c : Nat} (hs : ∀ p ∈ tl, p ∈ tl') (h : LnsN tl vs ws c) : LnsN tl' vs ws c :=
  ⟨h.1, fun i x hx => let ⟨d, ta, tb, tc, e, hm⟩ := h.2 i x hx; ⟨d, ta, tb, tc, e, hs _ hm⟩⟩
theorem LnsN.push {tl : Led} {vs : List Value} {ws : Nat → Int} {c : Nat} {d : Addr} {ta tb tc : Tok} {v : Int} (h : LnsN tl vs ws c) (hm : (d, tupO [.int (lnA c) ta, .int (lnB c) tb, .int v tc]) ∈ tl) : LnsN tl (vs ++ [.ref d]) (fun i => if i = c then v else ws i) (c + 1) := by
  refine ⟨by simp [h.1], fun i x hx => ?_⟩
  by_cases hi : i < c
  · rw [List.getElem?_append_left (by rw [h.1]; exact hi)] at hx
    obtain ⟨d', ta', tb', tc', e, hm'⟩ := h.2 i x hx
    exact ⟨d', ta', tb', tc', e, by show (d', tupO [.int (lnA i) ta', .int (lnB i) tb', .int (if i = c then v else ws i) tc']) ∈ tl; rw [if_neg (by omega)]; exact hm'⟩
  · rw [List.getElem?_append_right (by rw [h.1]; omega), h.1] at hx
    have e : i = c := by
      rcases Nat.eq_zero_or_pos (i - c) with e | e
      · omega
      · rw [List.getElem?_eq_none (by simp only [List.length_cons, List.length_nil]; omega)] at hx; cases hx
    subst e
    simp at hx
    exact ⟨d, ta, tb, tc, hx.symm, by show (d, tupO [.int (lnA i) ta, .int (lnB i) tb, .int (if i = i then v else ws i) tc]) ∈ tl; rw [if_pos rfl]; exact hm⟩
theorem LnsN.lines {tl : Led} {vs : List Value} {ws : Nat → Int} {l : Addr} {n : Nat} (h : LnsN tl vs ws 6) (hm : (l, listOf vs.toArray n) ∈ tl) : LinesN tl l ws := ⟨vs, n, h.1, hm, h.2⟩
theorem ws_set {ws : Nat → Int} {c : Nat} {v : Int} (h : ∀ i, 0 ≤ ws i ∧ ws i < 6) (h0 : 0 ≤ v) (h1 : v < 6) : ∀ i, 0 ≤ (if i = c then v else ws i) ∧ (if i = c then v else ws i) < 6 := by
  intro i; split
  · exact ⟨h0, h1⟩
  · exact h i
theorem apart_gt {tl : Led} {I d : Addr} (h : ∀ p ∈ tl, @LT.lt Nat _ I p.1) (hd : @LT.lt Nat _ d I) : ∀ p ∈ tl, p.1 ≠ d := fun p hp => Nat.ne_of_gt (Nat.lt_trans hd (h p hp))
theorem tri_le : ∀ i, i < 4 → tri i ≤ 3 := by decide
noncomputable def SixL (base : Led) : Nat → List Value → Led → Prop
  | 0, ys, n => ys = [] ∧ n = base
  | j + 1, ys, n => ∃ ys' n' D t, ys = ys' ++ [.ref D] ∧ n = (D, listOf [.int 6 t, .int 6 t, .int 6 t, .int 6 t].toArray 0) :: n' ∧ (∀ p ∈ n', p.1 ≠ D) ∧ SixL base j ys' n'
end
section
noncomputable def edge : Nat → Nat → Nat
  | 0, 1 => 0 | 1, 0 => 0 | 0, 2 => 1 | 2, 0 => 1 | 1, 2 => 2 | 2, 1 => 2 | 0, 3 => 3 | 3, 0 => 3 | 1, 3 => 4 | 3, 1 => 4 | 2, 3 => 5 | 3, 2 => 5 | _, _ => 9
noncomputable def GM (ws : Nat → Int) (i a c : Nat) : Int := if edge a c < i then ws (edge a c) else 6
noncomputable def RowV (tl : Led) (R : List Value) (f : Nat → Int) : Prop := ∃ a b c d, R = [a, b, c, d] ∧ Num tl a (f 0) ∧ Num tl b (f 1) ∧ Num tl c (f 2) ∧ Num tl d (f 3)
theorem RowV.mono {tl tl' : Led} {R : List Value} {f : Nat → Int} (hs : ∀ p ∈ tl, p ∈ tl') : RowV tl R f → RowV tl' R f
  | ⟨a, b, c, d, e, h0, h1, h2, h3⟩ => ⟨a, b, c, d, e, h0.mono hs, h1.mono hs, h2.mono hs, h3.mono hs⟩
theorem RowV.row {tl : Led} {R : List Value} {f : Nat → Int} {r : Addr} {n : Nat} (h : RowV tl R f) (hm : (r, listOf R.toArray n) ∈ tl) : RowN tl r f := by
  obtain ⟨a, b, c, d, rfl, h0, h1, h2, h3⟩ := h
  exact ⟨a, b, c, d, n, hm, h0, h1, h2, h3⟩
abbrev SW : List Str := [Str.ofString "spot", Str.ofString "line", Str.ofString "width"]
theorem SW_no {y : Str} (h : SW.contains y = false) : y ≠ Str.ofString "spot" ∧ y ≠ Str.ofString "line" ∧ y ≠ Str.ofString "width" := by simpa [List.contains_cons] using h
theorem objs2 {I K : Addr} {c d : String} {its : Led} (h : Objs [(I, c), (K, d)] its) : ∃ o o' : Obj, its = [(I, o), (K, o')] ∧ o.cls = .type c ∧ o'.cls = .type d := by
  match its, h with
  | [(b, o), (b', o')], h =>
    have e : b = I := h.1.1
    have e' : b' = K := h.2.1.1
    subst e; subst e'
    exact ⟨o, o', rfl, h.1.2, h.2.1.2⟩
  | [], h => exact (show False from h).elim
  | [_], h => exact (show False from h.2).elim
  | _ :: _ :: _ :: _, h => exact (show False from h.2.2).elim
noncomputable def Aps (tl : Led) : List Addr → Prop
  | [] => True
  | x :: xs => (∀ p ∈ tl, p.1 ≠ x) ∧ Aps tl xs
noncomputable def Nes (D : Addr) : List Addr → Prop
  | [] => True
  | x :: xs => @Ne Nat D x ∧ Nes D xs
theorem Aps.cons {tl : Led} {D : Addr} {o : Obj} : ∀ {xs : List Addr}, Nes D xs → Aps tl xs → Aps ((D, o) :: tl) xs
  | [], _, _ => trivial
  | _ :: _, h, k => ⟨List.forall_mem_cons.mpr ⟨h.1, k.1⟩, Aps.cons h.2 k.2⟩
theorem Aps.at {tl : Led} {D : Addr} {o : Obj} (hm : (D, o) ∈ tl) : ∀ {xs : List Addr}, Aps tl xs → Nes D xs
  | [], _ => trivial
  | _ :: _, h => ⟨h.1 _ hm, Aps.at hm h.2⟩
end
section
noncomputable def stepB (here : List Int) (t : Bool) (met : List Int) (a b : Int) : List Int :=
  if t = true ∧ (decide (a ∈ here) ≠ decide (b ∈ here)) then (if (if a ∈ here then b else a) ∈ met then met else met ++ [if a ∈ here then b else a]) else met
noncomputable def comeB (b0 b1 b2 b3 b4 b5 : Bool) (begin : Int) : Nat → List Int
  | 0 => [begin]
  | n + 1 => stepB (comeB b0 b1 b2 b3 b4 b5 begin n) b5 (stepB (comeB b0 b1 b2 b3 b4 b5 begin n) b4 (stepB (comeB b0 b1 b2 b3 b4 b5 begin n) b3 (stepB (comeB b0 b1 b2 b3 b4 b5 begin n) b2 (stepB (comeB b0 b1 b2 b3 b4 b5 begin n) b1 (stepB (comeB b0 b1 b2 b3 b4 b5 begin n) b0 (comeB b0 b1 b2 b3 b4 b5 begin n) 0 1) 0 2) 1 2) 0 3) 1 3) 2 3
theorem stepL_B (here : List Int) (least : Int) (met : List Int) (a b w : Int) : stepL here least met a b w = stepB here (decide (least ≤ w)) met a b := by
  unfold stepL stepB
  simp only [decide_eq_true_eq]
theorem comeL_B (ws : Nat → Int) (least begin : Int) : ∀ n, comeL ws least begin n = comeB (decide (least ≤ ws 0)) (decide (least ≤ ws 1)) (decide (least ≤ ws 2)) (decide (least ≤ ws 3)) (decide (least ≤ ws 4)) (decide (least ≤ ws 5)) begin n
  | 0 => rfl
  | n + 1 => by
    simp only [comeL, foldL, comeB, comeL_B ws least begin n, stepL_B, lnA, lnB]
noncomputable def bM (b0 b1 b2 b3 b4 b5 : Bool) : Nat → Nat → Bool
  | 0, 1 => b0 | 1, 0 => b0 | 0, 2 => b1 | 2, 0 => b1 | 1, 2 => b2 | 2, 1 => b2 | 0, 3 => b3 | 3, 0 => b3 | 1, 3 => b4 | 3, 1 => b4 | 2, 3 => b5 | 3, 2 => b5 | _, _ => true
noncomputable def bP (b0 b1 b2 b3 b4 b5 : Bool) (a : Nat) : Nat → Nat → Bool
  | 0, c => bM b0 b1 b2 b3 b4 b5 a c
  | k + 1, c => (bP b0 b1 b2 b3 b4 b5 a k 0 && bM b0 b1 b2 b3 b4 b5 0 c) || (bP b0 b1 b2 b3 b4 b5 a k 1 && bM b0 b1 b2 b3 b4 b5 1 c) || (bP b0 b1 b2 b3 b4 b5 a k 2 && bM b0 b1 b2 b3 b4 b5 2 c) || (bP b0 b1 b2 b3 b4 b5 a k 3 && bM b0 b1 b2 b3 b4 b5 3 c)
theorem bool_come : ∀ b0 b1 b2 b3 b4 b5 : Bool, ∀ a, a < 4 → ∀ c, c < 4 → (∀ k, k < 3 → bP b0 b1 b2 b3 b4 b5 a k c = decide ((c : Int) ∈ comeB b0 b1 b2 b3 b4 b5 a (k + 1))) ∧ bP b0 b1 b2 b3 b4 b5 a 2 c = decide ((c : Int) ∈ comeB b0 b1 b2 b3 b4 b5 a 4) := by decide +kernel
theorem bool_stay : ∀ b0 b1 b2 b3 b4 b5 : Bool, ∀ a, a < 4 → ∀ c, c < 4 → bP b0 b1 b2 b3 b4 b5 a 3 c = bP b0 b1 b2 b3 b4 b5 a 2 c := by decide +kernel
theorem bool_trans : ∀ b0 b1 b2 b3 b4 b5 : Bool, ∀ a, a < 4 → ∀ p, p < 4 → ∀ c, c < 4 → bP b0 b1 b2 b3 b4 b5 a 2 p = true → bP b0 b1 b2 b3 b4 b5 p 2 c = true → bP b0 b1 b2 b3 b4 b5 a 2 c = true := by decide +kernel
theorem bool_sym : ∀ b0 b1 b2 b3 b4 b5 : Bool, ∀ a, a < 4 → ∀ c, c < 4 → bP b0 b1 b2 b3 b4 b5 a 2 c = bP b0 b1 b2 b3 b4 b5 c 2 a := by decide +kernel
theorem bool_diag : ∀ b0 b1 b2 b3 b4 b5 : Bool, ∀ a, a < 4 → ∀ k, k < 3 → bP b0 b1 b2 b3 b4 b5 a k a = true := by decide +kernel
theorem bool_off : ∀ a, a < 4 → ∀ c, c < 4 → a ≠ c → ∀ k, k < 3 → bP false false false false false false a k c = false := by decide +kernel
theorem mm_le (f : Nat → Int) (M : Nat → Nat → Int) (c : Nat) {t : Int} (ht : 1 ≤ t) : decide (t ≤ mm f M c) = ((decide (t ≤ f 0) && decide (t ≤ M 0 c)) || (decide (t ≤ f 1) && decide (t ≤ M 1 c)) || (decide (t ≤ f 2) && decide (t ≤ M 2 c)) || (decide (t ≤ f 3) && decide (t ≤ M 3 c))) := by
  have l1 : ∀ a b : Int, (t ≤ max a b) = (t ≤ a ∨ t ≤ b) := fun a b => propext (by omega)
  have l2 : ∀ a b : Int, (t ≤ min a b) = (t ≤ a ∧ t ≤ b) := fun a b => propext (by omega)
  have l3 : (t ≤ 0) = False := eq_false (by omega)
  rw [Bool.eq_iff_iff]
  simp only [mm, decide_eq_true_eq, Bool.or_eq_true, Bool.and_eq_true, l1, l2, l3, false_or]
noncomputable def pw (ws : Nat → Int) : Nat → Nat → Nat → Int
  | 0 => GM ws 6
  | k + 1 => fun a c => mm (pw ws k a) (GM ws 6) c
theorem pw_le (ws : Nat → Int) {t : Int} (h1 : 1 ≤ t) (h6 : t ≤ 6) {a : Nat} (ha : a < 4) : ∀ k, k < 4 → ∀ c, c < 4 → decide (t ≤ pw ws k a c) = bP (decide (t ≤ ws 0)) (decide (t ≤ ws 1)) (decide (t ≤ ws 2)) (decide (t ≤ ws 3)) (decide (t ≤ ws 4)) (decide (t ≤ ws 5)) a k c := by
  have base : ∀ a, a < 4 → ∀ c, c < 4 → decide (t ≤ GM ws 6 a c) = bM (decide (t ≤ ws 0)) (decide (t ≤ ws 1)) (decide (t ≤ ws 2)) (decide (t ≤ ws 3)) (decide (t ≤ ws 4)) (decide (t ≤ ws 5)) a c := by
    intro a ha c hc
    have e6 : decide (t ≤ 6) = true := decide_eq_true h6
    rcases a with _ | _ | _ | _ | a <;> (try omega) <;> rcases c with _ | _ | _ | _ | c <;> first | rfl | exact e6 | omega
  intro k
  induction k with
  | zero => intro _ c hc; exact base a ha c hc
  | succ k ih =>
    intro hk c hc
    have ih' := ih (by omega)
    show decide (t ≤ mm (pw ws k a) (GM ws 6) c) = _
    simp only [bP]
    rw [mm_le _ _ _ h1, ih' 0 (by decide), ih' 1 (by decide), ih' 2 (by decide), ih' 3 (by decide), base 0 (by decide) c hc, base 1 (by decide) c hc, base 2 (by decide) c hc, base 3 (by decide) c hc]
theorem pw_nn (ws : Nat → Int) (hw : ∀ i, 0 ≤ ws i ∧ ws i < 6) (a c : Nat) : ∀ k, 0 ≤ pw ws k a c
  | 0 => by simp only [pw, GM]; have := hw (edge a c); split <;> omega
  | k + 1 => Int.le_trans (Int.le_trans (Int.le_trans (Int.le_max_left _ _) (Int.le_max_left _ _)) (Int.le_max_left _ _)) (Int.le_max_left _ _)
theorem pw_six (ws : Nat → Int) (hw : ∀ i, 0 ≤ ws i ∧ ws i < 6) (a : Nat) : ∀ k c, pw ws k a c ≤ 6
  | 0, c => by simp only [pw, GM]; have := hw (edge a c); split <;> omega
  | k + 1, c => Int.max_le.mpr ⟨Int.max_le.mpr ⟨Int.max_le.mpr ⟨Int.max_le.mpr ⟨by decide, Int.le_trans (Int.min_le_left _ _) (pw_six ws hw a k 0)⟩, Int.le_trans (Int.min_le_left _ _) (pw_six ws hw a k 1)⟩, Int.le_trans (Int.min_le_left _ _) (pw_six ws hw a k 2)⟩, Int.le_trans (Int.min_le_left _ _) (pw_six ws hw a k 3)⟩
theorem pw_diag (ws : Nat → Int) (hw : ∀ i, 0 ≤ ws i ∧ ws i < 6) {a k : Nat} (ha : a < 4) (hk : k < 3) : pw ws k a a = 6 := by
  have h := pw_le ws (t := 6) (by decide) (by decide) ha k (by omega) a ha
  rw [bool_diag _ _ _ _ _ _ a ha k hk] at h
  have h1 := of_decide_eq_true h
  have h2 := pw_six ws hw a k a
  omega
theorem pw_off (ws : Nat → Int) (hw : ∀ i, 0 ≤ ws i ∧ ws i < 6) {a c k : Nat} (ha : a < 4) (hc : c < 4) (hac : a ≠ c) (hk : k < 3) : pw ws k a c < 6 := by
  have h := pw_le ws (t := 6) (by decide) (by decide) ha k (by omega) c hc
  have e : ∀ i, decide (6 ≤ ws i) = false := fun i => decide_eq_false (by have := hw i; omega)
  rw [e, e, e, e, e, e, bool_off a ha c hc hac k hk] at h
  have h1 := of_decide_eq_false h
  omega
theorem setAll_get {v : Int} {ns gs : List Int} (hg : ∀ x ∈ gs, 0 ≤ x ∧ x < 4) (hn : ns.length = 4) {c : Nat} (hc : c < 4) : ∀ k, k ≤ gs.length → (setAll v ns gs k).getD c 0 = if (c : Int) ∈ gs.take k then v else ns.getD c 0
  | 0, _ => by simp [setAll]
  | k + 1, hk => by
    have ih := setAll_get (v := v) hg hn hc k (by omega)
    have hk' : k < gs.length := by omega
    have e : gs.getD k 0 = gs[k] := by simp [hk']
    have hm := hg _ (List.getElem_mem hk')
    have hl : (setAll v ns gs k).length = 4 := by rw [setAll_len]; exact hn
    have e2 : gs.take (k + 1) = gs.take k ++ [gs[k]] := by simp
    simp only [setAll]
    rw [e, e2]
    by_cases h : (c : Int) = gs[k]
    · rw [if_pos (List.mem_append.mpr (.inr (by rw [h]; exact .head _)))]
      rw [← h]
      simp [List.getD_eq_getElem?_getD, List.getElem?_set, hl, hc]
    · have hne : gs[k].toNat ≠ c := by omega
      have e3 : ((c : Int) ∈ gs.take k ++ [gs[k]]) ↔ ((c : Int) ∈ gs.take k) := by rw [List.mem_append, List.mem_singleton]; exact ⟨fun x => x.elim id (fun e => absurd e h), .inl⟩
      simp only [e3]
      rw [← ih]
      simp [List.getD_eq_getElem?_getD, List.getElem?_set, hne]
theorem setAll_all {v : Int} {ns gs : List Int} (hg : ∀ x ∈ gs, 0 ≤ x ∧ x < 4) (hn : ns.length = 4) {c : Nat} (hc : c < 4) : (setAll v ns gs gs.length).getD c 0 = if (c : Int) ∈ gs then v else ns.getD c 0 := by
  rw [setAll_get hg hn hc _ (Nat.le_refl _), List.take_length]
theorem due_eq (ws : Nat → Int) (hw : ∀ i, 0 ≤ ws i ∧ ws i < 6) (k steps : Nat) (hk : k < 3) (hB : ∀ b0 b1 b2 b3 b4 b5 : Bool, ∀ a, a < 4 → ∀ c, c < 4 → bP b0 b1 b2 b3 b4 b5 a k c = decide ((c : Int) ∈ comeB b0 b1 b2 b3 b4 b5 a steps)) {a c : Nat} (ha : a < 4) (hc : c < 4) : pw ws k a c = dueM ws steps a c := by
  have key : ∀ t : Int, 1 ≤ t → t ≤ 6 → (t ≤ pw ws k a c ↔ (c : Int) ∈ comeL ws t a steps) := by
    intro t h1 h6
    have h := pw_le ws h1 h6 ha k (by omega) c hc
    rw [hB _ _ _ _ _ _ a ha c hc, ← comeL_B] at h
    exact decide_eq_decide.mp h
  by_cases hac : a = c
  · subst hac
    rw [pw_diag ws hw ha hk]
    have hl : (dueRow ws (a : Int) steps 5).length = 4 := dueRow_len 5
    simp [dueM, List.getD_eq_getElem?_getD, List.getElem?_set, hl, ha]
  · have h5 := pw_off ws hw ha hc hac hk
    have h0 := pw_nn ws hw a c k
    have hl : (dueRow ws (a : Int) steps 5).length = 4 := dueRow_len 5
    have e : dueM ws steps a c = (dueRow ws (a : Int) steps 5).getD c 0 := by
      simp [dueM, List.getD_eq_getElem?_getD, List.getElem?_set, hac]
    rw [e]
    have hg : ∀ t : Int, ∀ x ∈ comeL ws t (a : Int) steps, 0 ≤ x ∧ x < 4 := fun t => comeL_lt (by omega) steps
    have r0 : (dueRow ws (a : Int) steps 0).getD c 0 = 0 := by
      rcases c with _ | _ | _ | _ | c <;> first | rfl | omega
    have st : ∀ j, (dueRow ws (a : Int) steps (j + 1)).getD c 0 = if (c : Int) ∈ comeL ws (1 + (j : Int)) a steps then 1 + (j : Int) else (dueRow ws (a : Int) steps j).getD c 0 := fun j => setAll_all (hg _) (dueRow_len j) hc
    rw [st 4, st 3, st 2, st 1, st 0, r0]
    have k1 := key 1 (by decide) (by decide)
    have k2 := key 2 (by decide) (by decide)
    have k3 := key 3 (by decide) (by decide)
    have k4 := key 4 (by decide) (by decide)
    have k5 := key 5 (by decide) (by decide)
    have c1 : (1 + ((0 : Nat) : Int)) = 1 := rfl
    have c2 : (1 + ((1 : Nat) : Int)) = 2 := rfl
    have c3 : (1 + ((2 : Nat) : Int)) = 3 := rfl
    have c4 : (1 + ((3 : Nat) : Int)) = 4 := rfl
    have c5 : (1 + ((4 : Nat) : Int)) = 5 := rfl
    rw [c1, c2, c3, c4, c5]
    simp only [← k1, ← k2, ← k3, ← k4, ← k5]
    omega
theorem gd_congr {M M' : Nat → Nat → Int} (h : ∀ a, a < 4 → ∀ c, c < 4 → M a c = M' a c) : gd M = gd M' := by
  simp only [gd, rowd, h 0 (by decide) 0 (by decide), h 0 (by decide) 1 (by decide), h 0 (by decide) 2 (by decide), h 0 (by decide) 3 (by decide), h 1 (by decide) 0 (by decide), h 1 (by decide) 1 (by decide), h 1 (by decide) 2 (by decide), h 1 (by decide) 3 (by decide), h 2 (by decide) 0 (by decide), h 2 (by decide) 1 (by decide), h 2 (by decide) 2 (by decide), h 2 (by decide) 3 (by decide), h 3 (by decide) 0 (by decide), h 3 (by decide) 1 (by decide), h 3 (by decide) 2 (by decide), h 3 (by decide) 3 (by decide)]
theorem due_k (ws : Nat → Int) (hw : ∀ i, 0 ≤ ws i ∧ ws i < 6) (k : Nat) (hk : k < 3) : gd (pw ws k) = gd (dueM ws (k + 1)) :=
  gd_congr fun a ha c hc => due_eq ws hw k (k + 1) hk (fun b0 b1 b2 b3 b4 b5 a ha c hc => (bool_come b0 b1 b2 b3 b4 b5 a ha c hc).1 k hk) ha hc
theorem due_4 (ws : Nat → Int) (hw : ∀ i, 0 ≤ ws i ∧ ws i < 6) : gd (pw ws 2) = gd (dueM ws 4) :=
  gd_congr fun a ha c hc => due_eq ws hw 2 4 (by decide) (fun b0 b1 b2 b3 b4 b5 a ha c hc => (bool_come b0 b1 b2 b3 b4 b5 a ha c hc).2) ha hc
theorem pw_cmp (ws : Nat → Int) (hw : ∀ i, 0 ≤ ws i ∧ ws i < 6) {k k' a c a' c' : Nat} (hk : k < 4) (hk' : k' < 4) (ha : a < 4) (hc : c < 4) (ha' : a' < 4) (hc' : c' < 4)
    (h : ∀ b0 b1 b2 b3 b4 b5 : Bool, bP b0 b1 b2 b3 b4 b5 a k c = true → bP b0 b1 b2 b3 b4 b5 a' k' c' = true) : pw ws k a c ≤ pw ws k' a' c' := by
  have h0 := pw_nn ws hw a' c' k'
  by_cases h1 : pw ws k a c ≤ 0
  · omega
  · have h6 := pw_six ws hw a k c
    have e1 := pw_le ws (t := pw ws k a c) (by omega) h6 ha k hk c hc
    have e2 := pw_le ws (t := pw ws k a c) (by omega) h6 ha' k' hk' c' hc'
    rw [decide_eq_true (Int.le_refl _)] at e1
    rw [h _ _ _ _ _ _ e1.symm] at e2
    exact of_decide_eq_true e2
theorem pw_stay (ws : Nat → Int) (hw : ∀ i, 0 ≤ ws i ∧ ws i < 6) : gd (pw ws 3) = gd (pw ws 2) :=
  gd_congr fun a ha c hc => Int.le_antisymm (pw_cmp ws hw (by decide) (by decide) ha hc ha hc fun _ _ _ _ _ _ h => (bool_stay _ _ _ _ _ _ a ha c hc) ▸ h) (pw_cmp ws hw (by decide) (by decide) ha hc ha hc fun _ _ _ _ _ _ h => (bool_stay _ _ _ _ _ _ a ha c hc).symm ▸ h)
theorem pw_sym (ws : Nat → Int) (hw : ∀ i, 0 ≤ ws i ∧ ws i < 6) {a c : Nat} (ha : a < 4) (hc : c < 4) : pw ws 2 a c = pw ws 2 c a :=
  Int.le_antisymm (pw_cmp ws hw (by decide) (by decide) ha hc hc ha fun _ _ _ _ _ _ h => (bool_sym _ _ _ _ _ _ a ha c hc) ▸ h) (pw_cmp ws hw (by decide) (by decide) hc ha ha hc fun _ _ _ _ _ _ h => (bool_sym _ _ _ _ _ _ c hc a ha) ▸ h)
theorem pw_trans (ws : Nat → Int) (hw : ∀ i, 0 ≤ ws i ∧ ws i < 6) {a p c : Nat} (ha : a < 4) (hp : p < 4) (hc : c < 4) : ¬ (pw ws 2 a c < min (pw ws 2 a p) (pw ws 2 p c)) := by
  intro hlt
  have h0 := pw_nn ws hw a c 2
  have h6 := pw_six ws hw a 2 p
  have h7 := pw_six ws hw p 2 c
  have e1 := pw_le ws (t := min (pw ws 2 a p) (pw ws 2 p c)) (by omega) (by omega) ha 2 (by decide) p hp
  have e2 := pw_le ws (t := min (pw ws 2 a p) (pw ws 2 p c)) (by omega) (by omega) hp 2 (by decide) c hc
  have e3 := pw_le ws (t := min (pw ws 2 a p) (pw ws 2 p c)) (by omega) (by omega) ha 2 (by decide) c hc
  rw [decide_eq_true (by omega)] at e1 e2
  rw [bool_trans _ _ _ _ _ _ a ha p hp c hc e1.symm e2.symm] at e3
  have := of_decide_eq_true e3
  omega
theorem pw_width (ws : Nat → Int) (hw : ∀ i, 0 ≤ ws i ∧ ws i < 6) {a c : Nat} (ha : a < 4) (hc : c < 4) (hac : a ≠ c) : pw ws 2 a c = 0 ∨ ∃ i, i < 6 ∧ 0 < ws i ∧ pw ws 2 a c = ws i := by
  by_cases h0 : pw ws 2 a c = 0
  · exact .inl h0
  · refine .inr ?_
    have h1 := pw_nn ws hw a c 2
    have h5 := pw_off ws hw ha hc hac (k := 2) (by decide)
    refine Classical.byContradiction fun hno => ?_
    have hne : ∀ i, i < 6 → pw ws 2 a c ≠ ws i := fun i hi e => hno ⟨i, hi, by omega, e⟩
    have e1 := pw_le ws (t := pw ws 2 a c) (by omega) (by omega) ha 2 (by decide) c hc
    have e2 := pw_le ws (t := pw ws 2 a c + 1) (by omega) (by omega) ha 2 (by decide) c hc
    have es : ∀ i, i < 6 → decide (pw ws 2 a c + 1 ≤ ws i) = decide (pw ws 2 a c ≤ ws i) := fun i hi => decide_eq_decide.mpr (by have := hne i hi; omega)
    rw [es 0 (by decide), es 1 (by decide), es 2 (by decide), es 3 (by decide), es 4 (by decide), es 5 (by decide), ← e1, decide_eq_true (Int.le_refl _)] at e2
    have := of_decide_eq_true e2
    omega
theorem um3 {a b c : Int} (t1 : ¬ c < min a b) (t2 : ¬ b < min a c) (t3 : ¬ a < min b c) : a = b ∨ a = c ∨ b = c := by omega
noncomputable def In3 (v1 v2 v3 x : Int) : Prop := x = v1 ∨ x = v2 ∨ x = v3
theorem In3.a {v1 v2 v3 : Int} : In3 v1 v2 v3 v1 := .inl rfl
theorem In3.b {v1 v2 v3 : Int} : In3 v1 v2 v3 v2 := .inr (.inl rfl)
theorem In3.c {v1 v2 v3 : Int} : In3 v1 v2 v3 v3 := .inr (.inr rfl)
theorem three_b {v1 v2 x02 x12 x03 x13 x23 : Int} (h02 : x02 = v1 ∨ x02 = v2) (h12 : x12 = v1 ∨ x12 = v2) (k1 : x03 = x13 ∨ x03 = v1 ∨ x13 = v1) (k2 : x03 = x23 ∨ x03 = x02 ∨ x23 = x02) (k3 : x13 = x23 ∨ x13 = x12 ∨ x23 = x12) :
    ∃ v3 : Int, In3 v1 v2 v3 x03 ∧ In3 v1 v2 v3 x13 ∧ In3 v1 v2 v3 x23 := by
  have g : ∀ {x y v3 : Int}, x = y → (y = v1 ∨ y = v2) → In3 v1 v2 v3 x := fun e h => h.elim (fun h => .inl (e.trans h)) (fun h => .inr (.inl (e.trans h)))
  rcases k1 with e | e | e
  · subst e
    rcases k2 with k | k | k
    · subst k; exact ⟨x03, .c, .c, .c⟩
    · exact ⟨x23, g k h02, g k h02, .c⟩
    · exact ⟨x03, .c, .c, g k h02⟩
  · rcases k3 with k | k | k
    · subst k; exact ⟨x13, .inl e, .c, .c⟩
    · exact ⟨x23, .inl e, g k h12, .c⟩
    · exact ⟨x13, .inl e, .c, g k h12⟩
  · rcases k2 with k | k | k
    · subst k; exact ⟨x03, .c, .inl e, .c⟩
    · exact ⟨x23, g k h02, .inl e, .c⟩
    · exact ⟨x03, .c, .inl e, g k h02⟩
theorem three (x01 x02 x12 x03 x13 x23 : Int) (t1 : ¬ x12 < min x01 x02) (t2 : ¬ x02 < min x01 x12) (t3 : ¬ x01 < min x02 x12) (t4 : ¬ x13 < min x01 x03) (t5 : ¬ x03 < min x01 x13) (t6 : ¬ x01 < min x03 x13)
    (t7 : ¬ x23 < min x02 x03) (t8 : ¬ x03 < min x02 x23) (t9 : ¬ x02 < min x03 x23) (ta : ¬ x23 < min x12 x13) (tb : ¬ x13 < min x12 x23) (tc : ¬ x12 < min x13 x23) :
    ∃ v1 v2 v3 : Int, In3 v1 v2 v3 x01 ∧ In3 v1 v2 v3 x02 ∧ In3 v1 v2 v3 x12 ∧ In3 v1 v2 v3 x03 ∧ In3 v1 v2 v3 x13 ∧ In3 v1 v2 v3 x23 := by
  have s : ∀ {a b c : Int}, a = b ∨ a = c ∨ b = c → b = c ∨ b = a ∨ c = a := fun h => h.elim (fun h => .inr (.inl h.symm)) fun h => h.elim (fun h => .inr (.inr h.symm)) .inl
  have k1 := s (um3 t4 t5 t6)
  have k2 := s (um3 t7 t8 t9)
  have k3 := s (um3 ta tb tc)
  rcases s (um3 t1 t2 t3) with h | h | h
  · obtain ⟨v3, a, b, c⟩ := three_b (v1 := x01) (v2 := x02) (.inr rfl) (.inr h.symm) k1 k2 k3
    exact ⟨x01, x02, v3, .a, .b, .inr (.inl h.symm), a, b, c⟩
  · obtain ⟨v3, a, b, c⟩ := three_b (v1 := x01) (v2 := x12) (.inl h) (.inr rfl) k1 k2 k3
    exact ⟨x01, x12, v3, .a, .inl h, .b, a, b, c⟩
  · obtain ⟨v3, a, b, c⟩ := three_b (v1 := x01) (v2 := x02) (.inr rfl) (.inl h) k1 k2 k3
    exact ⟨x01, x02, v3, .a, .b, .inl h, a, b, c⟩
theorem mat_three (M : Nat → Nat → Int) (tr : ∀ a p c, a < 4 → p < 4 → c < 4 → ¬ (M a c < min (M a p) (M p c))) (sy : ∀ a c, a < 4 → c < 4 → M a c = M c a) (dg : ∀ a, a < 4 → M a a = 6) :
    ∃ v1 v2 v3 : Int, ∀ a, a < 4 → ∀ c, c < 4 → M a c < 6 → (M a c = v1 ∨ M a c = v2 ∨ M a c = v3) := by
  have s10 := sy 1 0 (by decide) (by decide)
  have s20 := sy 2 0 (by decide) (by decide)
  have s30 := sy 3 0 (by decide) (by decide)
  have s21 := sy 2 1 (by decide) (by decide)
  have s31 := sy 3 1 (by decide) (by decide)
  have s32 := sy 3 2 (by decide) (by decide)
  obtain ⟨v1, v2, v3, h01, h02, h12, h03, h13, h23⟩ := three (M 0 1) (M 0 2) (M 1 2) (M 0 3) (M 1 3) (M 2 3)
    (by have := tr 1 0 2 (by decide) (by decide) (by decide); rw [s10] at this; exact this) (tr 0 1 2 (by decide) (by decide) (by decide)) (by have := tr 0 2 1 (by decide) (by decide) (by decide); rw [s21] at this; exact this)
    (by have := tr 1 0 3 (by decide) (by decide) (by decide); rw [s10] at this; exact this) (tr 0 1 3 (by decide) (by decide) (by decide)) (by have := tr 0 3 1 (by decide) (by decide) (by decide); rw [s31] at this; exact this)
    (by have := tr 2 0 3 (by decide) (by decide) (by decide); rw [s20] at this; exact this) (tr 0 2 3 (by decide) (by decide) (by decide)) (by have := tr 0 3 2 (by decide) (by decide) (by decide); rw [s32] at this; exact this)
    (by have := tr 2 1 3 (by decide) (by decide) (by decide); rw [s21] at this; exact this) (tr 1 2 3 (by decide) (by decide) (by decide)) (by have := tr 1 3 2 (by decide) (by decide) (by decide); rw [s32] at this; exact this)
  refine ⟨v1, v2, v3, fun a ha c hc h6 => ?_⟩
  have d0 := dg 0 (by decide)
  have d1 := dg 1 (by decide)
  have d2 := dg 2 (by decide)
  have d3 := dg 3 (by decide)
  rcases a with _ | _ | _ | _ | a
  · rcases c with _ | _ | _ | _ | c
    · omega
    · exact h01
    · exact h02
    · exact h03
    · omega
  · rcases c with _ | _ | _ | _ | c
    · rw [s10]; exact h01
    · have h6' : M 1 1 < 6 := h6; omega
    · exact h12
    · exact h13
    · omega
  · rcases c with _ | _ | _ | _ | c
    · rw [s20]; exact h02
    · rw [s21]; exact h12
    · have h6' : M 2 2 < 6 := h6; omega
    · exact h23
    · omega
  · rcases c with _ | _ | _ | _ | c
    · rw [s30]; exact h03
    · rw [s31]; exact h13
    · rw [s32]; exact h23
    · have h6' : M 3 3 < 6 := h6; omega
    · omega
  · omega
theorem pw_three (ws : Nat → Int) (hw : ∀ i, 0 ≤ ws i ∧ ws i < 6) : ∃ v1 v2 v3 : Int, ∀ a, a < 4 → ∀ c, c < 4 → pw ws 2 a c < 6 → (pw ws 2 a c = v1 ∨ pw ws 2 a c = v2 ∨ pw ws 2 a c = v3) :=
  mat_three (pw ws 2) (fun a p c ha hp hc => pw_trans ws hw ha hp hc) (fun a c ha hc => pw_sym ws hw ha hc) (fun a ha => pw_diag ws hw ha (by decide))
theorem nodup_three {v1 v2 v3 : Int} {l : List Int} (hn : l.Nodup) (h : ∀ x ∈ l, x = v1 ∨ x = v2 ∨ x = v3) : l.length ≤ 3 := by
  match l, hn, h with
  | [], _, _ => simp
  | [_], _, _ => simp
  | [_, _], _, _ => simp
  | [_, _, _], _, _ => simp
  | a :: b :: c :: d :: r, hn, h =>
    simp only [List.nodup_cons, List.mem_cons, not_or] at hn
    obtain ⟨⟨h1, h2, h3, _⟩, ⟨h4, h5, _⟩, ⟨h6, _⟩, _⟩ := hn
    have ha := h a (.head _)
    have hb := h b (.tail _ (.head _))
    have hc := h c (.tail _ (.tail _ (.head _)))
    have hd := h d (.tail _ (.tail _ (.tail _ (.head _))))
    exfalso
    rcases ha with ha | ha | ha <;> rcases hb with hb | hb | hb <;> first | exact h1 (ha.trans hb.symm) | (rcases hc with hc | hc | hc <;> first | exact h2 (ha.trans hc.symm) | exact h4 (hb.trans hc.symm) | (rcases hd with hd | hd | hd <;> first | exact h3 (ha.trans hd.symm) | exact h5 (hb.trans hd.symm) | exact h6 (hc.trans hd.symm)))
end
section
section
variable {w : World} {A : Around} {E : Value → Shared → Prop} {s : Shared} {h₀ : Heap} {L : Addr} {m : Str → Option Value} {news : Led} {v : Value} {x : Int} {Q : Value → Shared → Prop}
set_option maxRecDepth 100000 in
set_option maxHeartbeats 8000000 in
theorem isi_str (F : Fr h₀ L s.heap m) (X : (hd.heap_39 w.params).In h₀) (N : News h₀ L s.heap news) (hv : Num news v x) (h : ∀ tk, Q (.bool false) { s with toks := tk }) :
    wpAny (model PySem.Challenge.rw_tk0001_01.row.prog w) A (call (.builtin "isinstance") [v, .type "str"]) Q E s := by
  revert X
  k_fill
  intro X
  cases hv
  case dec hm =>
    replace N := ins N hm
    walk1
    exact h _
  case int =>
    walk1
    exact h _
end

set_option maxRecDepth 100000 in
set_option maxHeartbeats 8000000 in
theorem sp_whole_int (w : World) (news : Led) (x : Int) (t : Tok) : CallOK w 58 [.int x t] 1 news (fun r n => r = .bool true ∧ n = news) := by
  w_top off
  unfold CallOK
  k_fill
  intro p loose mean mg mb dp un gd cn cs a ccd cl outer A₀ base h₀ L m s Q E B F X N T hk hdp hun hret
  refine wpAny_call ?_
  k_dflt (walk_at "my enter")
  k_steps
  exact hret _ news _ _ (by assumption) (by assumption) ⟨rfl, rfl⟩

set_option maxRecDepth 100000 in
set_option maxHeartbeats 8000000 in
theorem sp_whole_tup (w : World) (news : Led) (b : Addr) (vs : List Value) (hm : (b, tupO vs) ∈ news) : CallOK w 58 [.ref b] 1 news (fun r n => r = .bool false ∧ n = news) := by
  w_top off
  unfold CallOK
  k_fill
  intro p loose mean mg mb dp un gd cn cs a ccd cl outer A₀ base h₀ L m s Q E B F X N T hk hdp hun hret
  replace N := ins N hm
  refine wpAny_call ?_
  k_dflt (walk_at "my enter")
  k_steps
  exact hret _ news _ _ (by assumption) (drop (by assumption) (by walk_at "my sub")) ⟨rfl, rfl⟩

set_option maxRecDepth 100000 in
set_option maxHeartbeats 8000000 in
theorem sp_dcomp (w : World) (news : Led) (b b' : Addr) (x y : Int) (t t' u u' : Tok) (hm : (b, tupO [.int x t, .int 0 t']) ∈ news) (hm' : (b', tupO [.int y u, .int 0 u']) ∈ news) :
    CallOK w 28 [.ref b, .ref b'] 2 news (fun r n => (∃ t, r = .int (sgn x y) t) ∧ n = news) := by
  w_top off
  unfold CallOK
  k_fill
  intro p loose mean mg mb dp un gd cn cs a ccd cl outer A₀ base h₀ L m s Q E B F X N T hk hdp hun hret
  replace N := ins (ins N hm') (List.mem_cons_of_mem _ hm)
  refine wpAny_call ?_
  k_dflt (walk_at "my enter")
  k_steps
  exact hret _ news _ _ (by assumption) (drop (by assumption) (by walk_at "my sub")) ⟨⟨_, by rw [Int.mul_one, Int.mul_one, sgn_eq]⟩, rfl⟩
end
section
local macro_rules | `(tactic| walk_at "call builtin:isinstance") => `(tactic| (k_here; k_dflt (refine' isi_str ?u1 ?u2 ?u3 ?u4 ?_; (case u1 => k_asm); (case u2 => first | k_asm | exact Frag.In.keeps (by k_asm) (Fr.keep (by k_asm))); (case u3 => k_asm); (case u4 => walk_at "my num"); intro tk9)))
local macro_rules | `(tactic| walk_at "call ref cons") => `(tactic| (k_here; k_dflt (first
  | (refine' CallOK.use (sp_whole_int _ _ _ _) ?u1 ?u2 ?u3 ?u4 ?u5 ?u6 ?u7 ?u8 ?_; walk_at "my use"; intro v9 n9 h9 tk9 F9 N9 hP9; obtain ⟨e9, e9z⟩ := hP9; subst v9; subst n9; (try dsimp only))
  | (refine' CallOK.use (sp_whole_tup _ _ _ _ ?hm) ?u1 ?u2 ?u3 ?u4 ?u5 ?u6 ?u7 ?u8 ?_; (case u1 => k_asm); (case hm => k_mem); (case u2 => k_asm); (case u3 => k_asm); (case u4 => k_asm); (case u5 => k_asm); (case u6 => first | exact rfl | assumption); (case u7 => walk_at "my room"); (case u8 => walk_at "my room"); intro v9 n9 h9 tk9 F9 N9 hP9; obtain ⟨e9, e9z⟩ := hP9; subst v9; subst n9; (try dsimp only))
  | (refine' CallOK.use (sp_dcomp _ _ _ _ _ _ _ _ _ _ ?hm ?hm') ?u1 ?u2 ?u3 ?u4 ?u5 ?u6 ?u7 ?u8 ?_; (case u1 => k_asm); (case hm => k_mem); (case hm' => k_mem); (case u2 => k_asm); (case u3 => k_asm); (case u4 => k_asm); (case u5 => k_asm); (case u6 => first | exact rfl | assumption); (case u7 => walk_at "my room"); (case u8 => walk_at "my room"); intro v9 n9 h9 tk9 F9 N9 hP9; obtain ⟨⟨t9, e9⟩, e9z⟩ := hP9; subst v9; subst n9; (try dsimp only)))))

set_option maxRecDepth 100000 in
set_option maxHeartbeats 8000000 in
theorem sp_told (w : World) (news : Led) (v : Value) (x : Int) (hv : Num news v x) : CallOK w 72 [v] 1 news (fun r n => r = v ∧ n = news) := by
  w_top off
  unfold CallOK
  k_fill
  intro p loose mean mg mb dp un gd cn cs a ccd cl outer A₀ base h₀ L m s Q E B F X N T hk hdp hun hret
  refine wpAny_call ?_
  k_dflt (walk_at "my enter")
  k_steps
  exact hret _ news _ _ (by assumption) (by assumption) ⟨rfl, rfl⟩

set_option maxRecDepth 100000 in
set_option maxHeartbeats 8000000 in
theorem sp_order (w : World) (news : Led) (va vb : Value) (x y : Int) (hx : Num news va x) (hy : Num news vb y) : CallOK w 65 [va, vb] 3 news (fun r n => (∃ t, r = .int (sgn x y) t) ∧ n = news) := by
  w_top off
  unfold CallOK
  k_fill
  intro p loose mean mg mb dp un gd cn cs a ccd cl outer A₀ base h₀ L m s Q E B F X N T hk hdp hun hret
  rcases hx with hx | hx <;> rcases hy with hy | hy
  · refine wpAny_call ?_
    k_dflt (walk_at "my enter")
    k_steps
    exact hret _ news _ _ (by assumption) (drop (by assumption) (by walk_at "my sub")) ⟨⟨_, by rw [sgn_eq]⟩, rfl⟩
  · rename (_ ∈ news) => hm
    replace N := ins N hm
    refine wpAny_call ?_
    k_dflt (walk_at "my enter")
    k_steps
    exact hret _ news _ _ (by assumption) (drop (by assumption) (by walk_at "my sub")) ⟨⟨_, rfl⟩, rfl⟩
  · rename (_ ∈ news) => hm
    replace N := ins N hm
    refine wpAny_call ?_
    k_dflt (walk_at "my enter")
    k_steps
    exact hret _ news _ _ (by assumption) (drop (by assumption) (by walk_at "my sub")) ⟨⟨_, rfl⟩, rfl⟩
  · rename (_ ∈ news) => hm'
    replace N := ins N hm'
    clear hm'
    rename (_ ∈ news) => hm
    replace N := ins N (List.mem_cons_of_mem _ hm)
    refine wpAny_call ?_
    k_dflt (walk_at "my enter")
    k_steps
    exact hret _ news _ _ (by assumption) (drop (by assumption) (by walk_at "my sub")) ⟨⟨_, rfl⟩, rfl⟩
end
section

local macro_rules | `(tactic| walk_at "call ref cons") => `(tactic| (k_here; k_dflt (first
  | (refine' CallOK.use (sp_told _ _ _ _ ?hv) ?u1 ?u2 ?u3 ?u4 ?u5 ?u6 ?u7 ?u8 ?_; (case u1 => k_asm); (case hv => walk_at "my num"); (case u2 => k_asm); (case u3 => k_asm); (case u4 => k_asm); (case u5 => k_asm); (case u6 => first | exact rfl | assumption); (case u7 => walk_at "my room"); (case u8 => walk_at "my room"); intro v9 n9 h9 tk9 F9 N9 hP9; obtain ⟨e9, e9z⟩ := hP9; subst v9; subst n9; (try dsimp only))
  | (refine' CallOK.use (sp_order _ _ _ _ _ _ ?hv ?hv') ?u1 ?u2 ?u3 ?u4 ?u5 ?u6 ?u7 ?u8 ?_; (case u1 => k_asm); (case hv => walk_at "my num"); (case hv' => walk_at "my num"); (case u2 => k_asm); (case u3 => k_asm); (case u4 => k_asm); (case u5 => k_asm); (case u6 => first | exact rfl | assumption); (case u7 => walk_at "my room"); (case u8 => walk_at "my room"); intro v9 n9 h9 tk9 F9 N9 hP9; obtain ⟨⟨t9, e9⟩, e9z⟩ := hP9; subst v9; subst n9; (try dsimp only)))))

set_option maxRecDepth 100000 in
set_option maxHeartbeats 8000000 in
theorem sp_max (w : World) (news : Led) (wv va vb : Value) (l : Addr) (x y : Int) (hl : (l, lstO [va, vb]) ∈ news) (hx : Num news va x) (hy : Num news vb y) : CallOK w 86 [wv, .ref l] 4 news (fun r n => (∀ nb, Num nb va x → Num nb vb y → Num nb r (max x y)) ∧ n = news) := by
  w_top off
  unfold CallOK
  k_fill
  intro p loose mean mg mb dp un gd cn cs a ccd cl outer A₀ base h₀ L m s Q E B F X N T hk hdp hun hret
  replace N := ins N hl
  refine wpAny_call ?_
  k_dflt (walk_at "my enter")
  k_steps
  all_goals (refine hret _ news _ _ (by assumption) (drop (by assumption) (by walk_at "my sub")) ⟨?_, rfl⟩; rename_i hc _ _ _ _; intro nb hx9 hy9; (try rw [sgn_gt] at hc); first | (rw [Int.max_eq_right]; assumption; omega) | (rw [Int.max_eq_left]; assumption; omega))

set_option maxRecDepth 100000 in
set_option maxHeartbeats 8000000 in
theorem sp_min (w : World) (news : Led) (wv va vb : Value) (l : Addr) (x y : Int) (hl : (l, lstO [va, vb]) ∈ news) (hx : Num news va x) (hy : Num news vb y) : CallOK w 79 [wv, .ref l] 4 news (fun r n => (∀ nb, Num nb va x → Num nb vb y → Num nb r (min x y)) ∧ n = news) := by
  w_top off
  unfold CallOK
  k_fill
  intro p loose mean mg mb dp un gd cn cs a ccd cl outer A₀ base h₀ L m s Q E B F X N T hk hdp hun hret
  replace N := ins N hl
  refine wpAny_call ?_
  k_dflt (walk_at "my enter")
  k_steps
  all_goals (refine hret _ news _ _ (by assumption) (drop (by assumption) (by walk_at "my sub")) ⟨?_, rfl⟩; rename_i hc _ _ _ _; intro nb hx9 hy9; (try rw [sgn_lt] at hc); first | (rw [Int.min_eq_right]; assumption; omega) | (rw [Int.min_eq_left]; assumption; omega))
end
section
local macro_rules | `(tactic| walk_at "my numX") => `(tactic| first | assumption | exact Num.int _ _ | (refine Num.mono ?_ (by assumption); walk_at "my sub"))
local macro_rules | `(tactic| walk_at "my use2") => `(tactic| ((case u2 => k_asm); (case u3 => k_asm); (case u4 => k_asm); (case u5 => k_asm); (case u6 => first | exact rfl | assumption); (case u7 => walk_at "my room"); (case u8 => walk_at "my room")))
local macro_rules | `(tactic| walk_at "exec For Tuple Call cons nil") => `(tactic| (k_here; (rename Fr _ _ _ _ => lF'); (with_unfolding_all refine' For_turns lF' ?_; k_whole)))
local macro_rules | `(tactic| walk_at "subscriptTail Name Name ref int") => `(tactic| (k_here; k_dflt (refine' grid_itemB ?N ?hs ?hg ?hk ?_; (case N => k_asm); (case hs => assumption); (case hg => assumption); (case hk => assumption)); intro r9 hr9))
local macro_rules | `(tactic| walk_at "subscriptTail Subscript Name Name Name ref int") => `(tactic| (k_here; k_dflt (refine' row_itemB ?N ?hs ?hg ?hk ?_; (case N => k_asm); (case hs => assumption); (case hg => assumption); (case hk => assumption)); intro r9 hr9))
local macro_rules | `(tactic| walk_at "call ref cons") => `(tactic| (k_here; k_dflt (refine' LamOK.use ?hl ?u1 ?hs ?hb ?hv ?hv' ?u2 ?u3 ?u4 ?u5 ?u6 ?u7 ?u8 ?_; (case hl => assumption); (case u1 => k_asm); (case hs => assumption); (case hb => assumption); (case hv => walk_at "my numX"); (case hv' => walk_at "my numX"); walk_at "my use2"; intro v9 h9 tk9 F9 N9 hv9; (try dsimp only))))
local macro_rules | `(tactic| walk_at "callWith ref") => `(tactic| (k_here; k_dflt (refine' callWith_F ?k1 ?_; (case k1 => (refine' LamOK.fn ?a ?b ?c; (case a => assumption); (case b => k_asm); (case c => assumption))); k_whole)))
local macro_rules | `(tactic| walk_at "And") => `(tactic| ((with_reducible show FnAt _ _ ∧ _); k_dflt (refine' ⟨LamOK.fn ?a ?b ?c, ?_⟩; (case a => assumption); (case b => k_asm); (case c => assumption)); try dsimp only [List.nil_append, List.cons_append]))
set_option maxRecDepth 100000 in
set_option maxHeartbeats 8000000 in
theorem sp_rbc (w : World) (nb news : Led) (row g P T : Addr) (f : Nat → Int) (M : Nat → Nat → Int) (k : Nat) (t : Tok) (hnb : ∀ p ∈ nb, p ∈ news) (hr : RowN nb row f) (hg : GridN nb g M) (hk4 : k < 4) (hplus : LamOK w nb P max) (htimes : LamOK w nb T min) :
    CallOK w 105 [.ref row, .ref g, .int k t, .ref P, .ref T] 8 news (fun r n => Num nb r (mm f M k) ∧ n = news) := by
  w_top off
  unfold CallOK
  k_fill
  intro p loose mean mg mb dp un gd cn cs a ccd cl outer A₀ base h₀ L m s Q E B F X N T' hk hdp hun hret
  have hr' := hr
  obtain ⟨a0, a1, a2, a3, n, hrm, ha0, ha1, ha2, ha3⟩ := hr'
  refine wpAny_call ?_
  k_dflt (walk_at "my enter")
  k_steps
  (rename News _ _ _ _ => N9); (rename Fr _ _ _ _ => F9); (rename Str → Option Value => mp'); (rename Nat => tk9)
  refine ktu_enum (lo := listOf [a0, a1, a2, a3].toArray n) (vs := [a0, a1, a2, a3]) rfl F9 N9 (hnb _ hrm) rfl rfl rfl ?_
  intro I hI
  refine rest_inv (fun i m nx => nx = news ∧ ∃ v u0 u1, Num nb v (mmAcc f M k i) ∧ m = fun (y : Str) => if y = "total" then some v else if y = "at" then u0 else if y = "cell" then u1 else mp' y) ?_ _ 0 _ _ ?_ ?_ ?_
  · rintro i m nx ⟨rfl, _⟩
    exact ⟨hnb _ hrm, trivial⟩
  · rintro i a m nx v h tk hi ha ⟨rfl, v0, u0, u1, hv0, rfl⟩ F1 its hits N1
    obtain ⟨x, hx, rfl⟩ := enum_at hi
    obtain ⟨T9, t9, rfl, hT9⟩ := ha
    obtain ⟨hi4, hx⟩ := num_at ha0 ha1 ha2 ha3 hx
    have hsub : ∀ p ∈ nb, p ∈ its ++ nx := fun p hp => List.mem_append.mpr (.inr (hnb p hp))
    clear F9 N9
    k_steps
    (rename Num _ _ (max _ _) => hv9)
    refine ⟨_, _, _, its ++ nx, nx, rfl, by assumption, by assumption, fun p hp => List.mem_append.mpr (.inl hp), fun p hp => List.mem_append.mpr (.inr hp), apart_of hI (by simp) hits, rfl, _, some (.int i t9), some x, (show Num nb _ (mmAcc f M k (0 + i + 1)) by rw [Nat.zero_add] at hv9 ⊢; exact hv9), ?_⟩
    funext y
    by_cases h1 : y = "total" <;> by_cases h2 : y = "cell" <;> by_cases h3 : y = "at" <;> simp [h1, h2, h3, n_at_total, n_cell_total, n_cell_at, n_total_at, n_total_cell, n_at_cell]
  · rintro m nx h tk ⟨rfl, v0, u0, u1, hv0, rfl⟩ F1 N1
    k_steps
    exact hret _ nx _ _ (by assumption) (by assumption) ⟨hv0, rfl⟩
  · exact ⟨rfl, Value.int 0 tk9, mp' "at", mp' "cell", Num.int _ _, by funext y; by_cases h1 : y = "at" <;> by_cases h2 : y = "cell" <;> simp [h1, h2, n_at_total, n_cell_total, n_cell_at]⟩
end
section
theorem GridN.first {news : Led} {g : Addr} {M : Nat → Nat → Int} (h : GridN news g M) : ∃ r0 r1 r2 r3 a b c d n n', (g, listOf [Value.ref r0, .ref r1, .ref r2, .ref r3].toArray n) ∈ news ∧ (r0, listOf [a, b, c, d].toArray n') ∈ news := by
  obtain ⟨r0, r1, r2, r3, n, hm, ⟨a, b, c, d, n', h0, _⟩, _⟩ := h
  exact ⟨r0, r1, r2, r3, a, b, c, d, n, n', hm, h0⟩
set_option maxRecDepth 100000 in
set_option maxHeartbeats 8000000 in
theorem sp_shape (w : World) (news : Led) (g : Addr) (M : Nat → Nat → Int) (hg : GridN news g M) :
    CallOK w 93 [.ref g] 1 news (fun r n => ∃ d t u, r = .ref d ∧ n = (d, tupO [.int 4 t, .int 4 u]) :: news ∧ ∀ p ∈ news, p.1 < d) := by
  w_top off
  unfold CallOK
  k_fill
  intro p loose mean mg mb dp un gd cn cs a ccd cl outer A₀ base h₀ L m s Q E B F X N T' hk hdp hun hret
  obtain ⟨r0, r1, r2, r3, a0, b0, c0, d0, n, n', hg, hr⟩ := hg.first
  replace N := ins (ins N hr) (List.mem_cons_of_mem _ hg)
  refine wpAny_call ?_
  k_dflt (walk_at "my enter")
  k_steps
  exact hret _ _ _ _ (by assumption) (drop (news := (_, tupO _) :: news) (by assumption) (List.forall_mem_cons.mpr ⟨.head _, by walk_at "my sub"⟩)) ⟨_, _, _, rfl, rfl, ktn_ltOf (And.right (And.right (by assumption)))⟩
end
section
local macro_rules | `(tactic| walk_at "CompSrc") => `(tactic| (k_here; k_dflt (refine LCg.CompSrc.range (by rfl) (by k_asm) (by k_asm) (by assumption) (by first | decide | rfl) (by first | rfl | decide) (by first | size_fits | exact Nat.le_of_ble_eq_true rfl) ?_; intro g'; refine Stop.out ?_)))
local macro_rules | `(tactic| walk_at "my stop") => `(tactic| skip)
local macro_rules | `(tactic| walk_at "eval Call Name cons nil") => `(tactic| ((with_reducible show wpAny _ _ (eval (PySem.Expr.Call (PySem.Expr.Name "grid_shape" _) _ _ _) _) _ _ _); refine Call_ ?_))
local macro_rules | `(tactic| walk_at "exec For Name Name cons nil") => `(tactic| (k_here; (rename Fr _ _ _ _ => lF'); (with_unfolding_all refine' For_turns lF' ?_; k_whole)))
local macro_rules | `(tactic| walk_at "call ref cons") => `(tactic| (k_here; k_dflt (first
  | (refine' CallOK.use (sp_shape _ _ _ _ ?hg) ?u1 ?u2 ?u3 ?u4 ?u5 ?u6 ?u7 ?u8 ?_; (case u1 => k_asm); (case hg => walk_at "my asm"); walk_at "my use2"; intro v9 n9 h9 tk9 F9 N9 hP9; obtain ⟨d9, t9, u9, e9, e9z, l9⟩ := hP9; subst v9; subst n9; (try k_lt l9); (try dsimp only))
  | (refine' CallOK.use (sp_rbc _ _ _ _ _ _ _ _ _ _ _ ?hs ?hr ?hg ?hk ?hp ?ht) ?u1 ?u2 ?u3 ?u4 ?u5 ?u6 ?u7 ?u8 ?_; (case u1 => k_asm); (case hr => assumption); (case hs => walk_at "my sub"); (case hg => assumption); (case hk => first | decide | assumption); (case hp => assumption); (case ht => assumption); walk_at "my use2"; intro v9 n9 h9 tk9 F9 N9 hP9; obtain ⟨hv9, e9z⟩ := hP9; subst n9; (try dsimp only)))))
set_option maxRecDepth 100000 in
set_option maxHeartbeats 8000000 in
theorem sp_prod (w : World) (news : Led) (g1 g2 P T : Addr) (M1 M2 : Nat → Nat → Int) (h1 : GridN news g1 M1) (h2 : GridN news g2 M2) (hplus : LamOK w news P max) (htimes : LamOK w news T min) :
    CallOK w 98 [.ref g1, .ref g2, .ref P, .ref T] 12 news (fun r n => ∃ g, r = .ref g ∧ GridN n g (fun a c => mm (M1 a) M2 c) ∧ Grown news n) := by
  w_top off
  unfold CallOK
  k_fill
  intro p loose mean mg mb dp un gd cn cs a ccd cl outer A₀ base h₀ L m s Q E B F X N T' hk hdp hun hret
  have h1' := h1
  obtain ⟨r0, r1, r2, r3, n, hrm, hr0, hr1, hr2, hr3⟩ := h1'
  refine wpAny_call ?_
  k_dflt (walk_at "my enter")
  rename_i o4 o3 o2 o1 d4 d3 d2 d1 N0
  replace d4 : o4.data = .cell none := d4
  replace d3 : o3.data = .cell (some (.ref T)) := d3
  replace d2 : o2.data = .cell (some (.ref P)) := d2
  replace d1 : o1.data = .cell (some (.ref g2)) := d1
  try k_fold
  k_steps
  (rename News _ _ _ _ => N9); (rename Fr _ _ _ _ => F9); (rename Str → Option Value => mp'); (rename Below _ base (_ :: _) _ => B9)
  rename_i g' L' _ _ FG' X'' T'' lL en' A' _ _ da ta ua _ _ _ _ _ _ _ db tb ub _ _ lf _ l1 _
  have l4 : L' + 1 + 1 + 1 + 1 < lf := l1.2.2.1
  replace N9 : News g' L' _ ((lf, listOf ([] : List Value).toArray 0) :: (L' + 1 + 1 + 1 + 1, o4) :: (L' + 1 + 1 + 1, o3) :: (L' + 1 + 1, o2) :: (L' + 1, o1) :: news) := drop N9 (by walk_at "my sub")
  have hlf : ∀ p ∈ news, p.1 < lf := fun p hp => Nat.lt_trans (lL p hp) (lt_of4 l4)
  clear l1
  refine iter_listTurns (lo := listOf [Value.ref r0, .ref r1, .ref r2, .ref r3].toArray n) (vs := [.ref r0, .ref r1, .ref r2, .ref r3]) rfl F9 N9 (.tail _ (.tail _ (.tail _ (.tail _ (.tail _ hrm))))) rfl rfl ?_
  intro I hI
  refine rest_inv (fun i mx nx => mx = (fun (y : Str) => if y = "found" then some (Value.ref lf) else if y = "inner" then some (Value.int 4 ua) else if y = "rows" then some (Value.int 4 ta) else mp' y) ∧
    ∃ vs k orow tl, nx = (lf, listOf vs k) :: (L' + 1 + 1 + 1 + 1, orow) :: (L' + 1 + 1 + 1, o3) :: (L' + 1 + 1, o2) :: (L' + 1, o1) :: tl ∧ (∃ c, orow.data = .cell c) ∧ (∀ p ∈ news, p ∈ tl) ∧ (∀ p ∈ tl, p ∈ news ∨ (p.1 ≠ lf ∧ p.1 ≠ L' + 1 + 1 + 1 + 1 ∧ p.1 ≠ I ∧ ∀ q ∈ news, q.1 ≠ p.1)) ∧ RowsN tl vs.toList (fun a c => mm (M1 a) M2 c) i) ?_ _ 0 _ _ ?_ ?_ ?_
  · rintro i mx nx ⟨_, vs, k, orow, tl, rfl, _, hs, _, _⟩
    exact ⟨.tail _ (.tail _ (.tail _ (.tail _ (.tail _ (hs _ hrm))))), trivial⟩
  · rintro i a0 mx nx v h tk hi ha ⟨rfl, vs, k, orow, tl, rfl, ⟨c, hc⟩, hs, ho, hR⟩ F1 its hits N1
    obtain ⟨r, rfl, hr, hi4⟩ := rows_at hr0 hr1 hr2 hr3 hi ha
    obtain ⟨oI, rfl, hcI⟩ := objs1 hits
    have hI1 : @LT.lt Nat _ lf I := hI _ (.head _)
    have l4' : @LT.lt Nat _ (L' + 1 + 1 + 1 + 1) lf := l4
    have hnl : ∀ p ∈ tl, p.1 ≠ lf := fun p hp => (ho p hp).elim (fun h => Nat.ne_of_lt (hlf p h)) fun h => h.1
    have hn4 : ∀ p ∈ tl, p.1 ≠ L' + 1 + 1 + 1 + 1 := fun p hp => (ho p hp).elim (fun h => Nat.ne_of_lt (Nat.lt_of_lt_of_le (lL p h) (Nat.le_add_right L' 4))) fun h => h.2.1
    have hnI : ∀ p ∈ tl, p.1 ≠ I := fun p hp => (ho p hp).elim (fun h => Nat.ne_of_lt (hI _ (.tail _ (.tail _ (.tail _ (.tail _ (.tail _ h))))))) fun h => h.2.2.1
    have hz : vs.size ≤ sizeLine := Nat.le_trans (Nat.le_of_eq (by rw [← Array.length_toList]; exact hR.1)) (Nat.le_trans (by omega : 0 + i ≤ 4) (by decide))
    have h2t := h2.mono hs
    have hrt := hr.mono hs
    have hpt := hplus.mono hs
    have htt := htimes.mono hs
    clear F9 N9 h2 hr hplus htimes h1
    simp only [List.cons_append, List.nil_append] at N1
    k_steps
    (rename Heap => gh); (rename News _ _ _ _ => N2)
    unfold Stop
    refine comp_inv (fun j ys n2 => n2 = _ ∧ ValsN tl ys (fun c => mm (M1 i) M2 c) j) _ 0 _ _ ?_ ?_ ⟨rfl, rfl, fun j hj => absurd hj (Nat.not_lt_zero _)⟩
    · rintro j ys n2 v2 I2 oI2 C2 oC2 D2 m2 hh2 tk2 E2 _ hj4 ⟨t2, rfl⟩ hC2 hx2 F2 N2 off2 ne2 ⟨rfl, hV⟩
      rw [Int.zero_add] at hx2
      have hj : j < 4 := by omega
      k_steps
      (rename Num tl _ _ => hv9); (rename News g' L' _ _ => N9); (rename Fr g' L' _ _ => F9)
      exact LCg.CompEnd.intro F9 N9 _ (fun _ h9 => h9) off2 trivial ⟨rfl, hV.push hv9⟩
    · rintro ys n2 ⟨rfl, hV⟩
      k_steps
      rename_i o9 dd9 tkx h9 tk9 d9 t9 u9 l9 hx tky t1 u1 v1 ax ay D9 hz9 tkz oo hw F9 N9
      refine ⟨_, _, _, _, (lf, listOf (vs.push (.ref D9)) (k + 1)) :: (L' + 1 + 1 + 1 + 1, o9) :: (L' + 1 + 1 + 1, o3) :: (L' + 1 + 1, o2) :: (L' + 1, o1) :: (D9, LCg.lst ys) :: tl, rfl, F9, N9, ?_, ?_, ?_, rfl, _, _, o9, (D9, LCg.lst ys) :: tl, rfl, ⟨_, dd9⟩, fun p hp => .tail _ (hs p hp), ?_, ?_⟩
      · walk_at "my sub"
      · walk_at "my sub"
      · have hall : ∀ p ∈ (lf, listOf (vs.push (.ref D9)) (k + 1)) :: (L' + 1 + 1 + 1 + 1, o9) :: (L' + 1 + 1 + 1, o3) :: (L' + 1 + 1, o2) :: (L' + 1, o1) :: (D9, LCg.lst ys) :: tl, p.1 ≠ I := by k_all
        intro p hp q hq
        rw [List.mem_singleton.mp hq]
        exact hall p hp
      · intro p hp
        rcases List.mem_cons.mp hp with rfl | hp
        · exact .inr ⟨Ne.symm oo.2.2.1, Ne.symm oo.2.2.2.1, Ne.symm oo.2.1, fun q hq => off1_mem oo.2.2.2.2.2.2.2 q (hs q hq)⟩
        · exact ho p hp
      · rw [Array.toList_push]
        refine (hR.mono fun p hp => .tail _ hp).push ?_
        have hrow : RowN ((D9, LCg.lst ys) :: tl) D9 (fun c => mm (M1 i) M2 c) := ValsN.row (n := ys.length) (hV.mono fun p hp => .tail _ hp) (.head _)
        simpa only [Nat.zero_add] using hrow
  · rintro mx nx h tk ⟨rfl, vs, k, orow, tl, rfl, ⟨c, hc⟩, hs, ho, hR⟩ F1 N1
    k_steps
    refine hret _ ((lf, listOf vs k) :: tl) _ _ (by assumption) (drop (by assumption) (by walk_at "my sub")) ⟨_, rfl, ?_, fun p hp => .tail _ (hs p hp), ?_⟩
    · exact (hR.mono (fun p hp => .tail _ hp)).grid (n := k) (.head _)
    · intro p hp
      rcases List.mem_cons.mp hp with rfl | hp
      · exact .inr fun q hq => Nat.ne_of_lt (hlf q hq)
      · exact (ho p hp).elim .inl fun h => .inr h.2.2.2
  · exact ⟨rfl, #[], 0, o4, news, rfl, ⟨_, d4⟩, fun _ h => h, fun _ h => .inl h, rfl, fun j hj => absurd hj (Nat.not_lt_zero _)⟩
end
section
local macro_rules | `(tactic| walk_at "my lam") => `(tactic| (refine' kla_code ?k1 ?k2 ?k3 ?k4 ?k5 ?kA ?kF ?kK ?k6 ?k7 ?k8 ?k9 ?kB ?_ ?c2 ?c3 ?c4 ?c5; (case kA => exact rfl); (case kF => exact rfl); (case kK => first | exact rfl | assumption); (case k1 => k_asm); (case k2 => k_asm); (case k3 => k_asm); (case k4 => k_asm); (case k5 => k_asm); (case k6 => k_mem); (case k7 => exact codeRec_news (by k_asm) (by k_mem) (by assumption) (by assumption)); (case k8 => walk_at "my room"); (case k9 => exact rfl); (case c5 => decide); (case kB => exact locs rfl); (case c2 => exact rfl); (case c3 => exact rfl); (case c4 => exact rfl); k_whole; intro g' L' h' FG' F' N' B' X' T'; (try dsimp only); (try k_fold)))
local macro_rules | `(tactic| walk_at "call ref cons") => `(tactic| (k_here; k_dflt (first
  | (refine' CallOK.use (sp_max _ _ _ _ _ _ _ _ ?hl ?hx ?hy) ?u1 ?u2 ?u3 ?u4 ?u5 ?u6 ?u7 ?u8 ?_; (case u1 => k_asm); (case hl => k_mem); (case hx => walk_at "my num"); (case hy => walk_at "my num"); walk_at "my use2"; intro v9 n9 h9 tk9 F9 N9 hP9; obtain ⟨hv9, e9z⟩ := hP9; subst n9; (try dsimp only))
  | (refine' CallOK.use (sp_min _ _ _ _ _ _ _ _ ?hl ?hx ?hy) ?u1 ?u2 ?u3 ?u4 ?u5 ?u6 ?u7 ?u8 ?_; (case u1 => k_asm); (case hl => k_mem); (case hx => walk_at "my num"); (case hy => walk_at "my num"); walk_at "my use2"; intro v9 n9 h9 tk9 F9 N9 hP9; obtain ⟨hv9, e9z⟩ := hP9; subst n9; (try dsimp only)))))
local macro_rules | `(tactic| walk_at "call ref cons") => `(tactic| (k_here; k_dflt (refine' CallOK.use (sp_prod _ _ _ _ _ _ _ _ ?h1 ?h2 ?hp ?ht) ?u1 ?u2 ?u3 ?u4 ?u5 ?u6 ?u7 ?u8 ?_; (case u1 => k_asm); (case h1 => walk_at "my asm"); (case h2 => walk_at "my asm"); walk_at "my use2"; intro v9 n9 h9 tk9 F9 N9 hP9; obtain ⟨g9, e9, hg9, hn9⟩ := hP9; subst v9; (try dsimp only))))
local macro_rules | `(tactic| walk_at "my steps98") => `(tactic| repeat' (first | ((fail_if_success (with_reducible show wpAny _ _ (call (Value.ref 98) _) _ _ _)); first | (k_unfold; (try dsimp only)) | (k_end; wrow_close) | walk1 | (dsimp only; walk1)) | fail "no step"))
set_option maxRecDepth 100000 in
set_option maxHeartbeats 8000000 in
theorem sp_wider2 (w : World) (news : Led) (wv : Value) (g1 g2 : Addr) (M1 M2 : Nat → Nat → Int) (h1 : GridN news g1 M1) (h2 : GridN news g2 M2) (ht : TabC news) :
    CallOKc w 160 [wv, .ref g1, .ref g2] 14 news (fun r n => ∃ g, r = .ref g ∧ GridN n g (fun a c => mm (M1 a) M2 c) ∧ Grown news n) := by
  w_top off
  unfold CallOKc
  k_fill
  intro p loose mean mg mb dp un gd cn cs a ccd cl outer A₀ base h₀ L m s Q E B F X N T' CH hk hdp hun hret
  obtain ⟨c1, c2, o1, o2, vs1, vs2, t1, t2, m0, m1, m2, e1, e2, e3, e4⟩ := ht
  replace N := ins (ins (ins N m2) (.tail _ m1)) (.tail _ (.tail _ m0))
  refine wpAny_call ?_
  k_dflt (walk_at "my enter")
  rename_i o1' d1' N0
  replace d1' : o1'.data = .cell (some wv) := d1'
  rename Fr h₀ L _ m => FF
  have C' := CH.keeps FF.keep
  try k_fold
  walk_at "my steps98"
  refine' CallOK.use (sp_prod _ _ _ _ _ _ _ _ ?h1 ?h2 ?hp ?ht) ?u1 ?u2 ?u3 ?u4 ?u5 ?u6 ?u7 ?u8 ?_
  (case u1 => k_asm)
  (case h1 => walk_at "my asm")
  (case h2 => walk_at "my asm")
  walk_at "my use2"
  case hp =>
    refine ⟨⟨_, _, _, _, by k_mem⟩, fun news' va vb x y hsub hx hy => ?_⟩
    unfold CallOK
    intro p loose mean mg mb dp un gd cn cs a ccd cl outer A₀ base h₀ L m s Q E B F X N T' hk hdp hun hret
    have N1 := napp (drop N hsub) N
    simp only [List.cons_append] at N1
    refine wpAny_call ?_
    k_dflt (walk_at "my lam")
    k_steps
    exact hret _ news' _ _ (by assumption) (drop (by assumption) (by walk_at "my sub")) ⟨by assumption, rfl⟩
  case ht =>
    refine ⟨⟨_, _, _, _, by k_mem⟩, fun news' va vb x y hsub hx hy => ?_⟩
    unfold CallOK
    intro p loose mean mg mb dp un gd cn cs a ccd cl outer A₀ base h₀ L m s Q E B F X N T' hk hdp hun hret
    have N1 := napp (drop N hsub) N
    simp only [List.cons_append] at N1
    refine wpAny_call ?_
    k_dflt (walk_at "my lam")
    k_steps
    exact hret _ news' _ _ (by assumption) (drop (by assumption) (by walk_at "my sub")) ⟨by assumption, rfl⟩
  intro v9 n9 h9 tk9 F9 N9 hP9
  obtain ⟨g9, e9, hg9, hn9⟩ := hP9
  subst v9
  (try dsimp only)
  k_steps
  refine hret _ n9 _ _ (by assumption) (by assumption) ⟨g9, rfl, hg9, hn9.weaken (by walk_at "my sub") ?_⟩
  refine List.forall_mem_cons.mpr ⟨.inr ?_, List.forall_mem_cons.mpr ⟨.inr ?_, List.forall_mem_cons.mpr ⟨.inr ?_, List.forall_mem_cons.mpr ⟨.inl m0, List.forall_mem_cons.mpr ⟨.inl m1, List.forall_mem_cons.mpr ⟨.inl m2, fun p hp => .inl hp⟩⟩⟩⟩⟩⟩
  · k_all
  · k_all
  · exact all_ne_succ (And.right (And.right (And.right (by assumption))))
end
section
local macro_rules | `(tactic| walk_at "my nil") => `(tactic| skip)
local macro_rules | `(tactic| walk_at "my lam") => `(tactic| (refine' kla_code ?k1 ?k2 ?k3 ?k4 ?k5 ?kA ?kF ?kK ?k6 ?k7 ?k8 ?k9 ?kB ?_ ?c2 ?c3 ?c4 ?c5; (case kA => exact rfl); (case kF => exact rfl); (case kK => first | exact rfl | assumption); (case k1 => k_asm); (case k2 => k_asm); (case k3 => k_asm); (case k4 => k_asm); (case k5 => k_asm); (case k6 => k_mem); (case k7 => exact codeRec_news (by k_asm) (by k_mem) (by assumption) (by assumption)); (case k8 => walk_at "my room"); (case k9 => exact rfl); (case c5 => decide); (case kB => exact locs rfl); (case c2 => exact rfl); (case c3 => exact rfl); (case c4 => exact rfl); k_whole; intro g' L' h' FG' F' N' B' X' T'; (try dsimp only); (try k_fold)))
local macro_rules | `(tactic| walk_at "call ref cons") => `(tactic| (k_here; k_dflt (first
  | (refine' CallOK.use (sp_max _ _ _ _ _ _ _ _ ?hl ?hx ?hy) ?u1 ?u2 ?u3 ?u4 ?u5 ?u6 ?u7 ?u8 ?_; (case u1 => k_asm); (case hl => k_mem); (case hx => walk_at "my num"); (case hy => walk_at "my num"); walk_at "my use2"; intro v9 n9 h9 tk9 F9 N9 hP9; obtain ⟨hv9, e9z⟩ := hP9; subst n9; (try dsimp only))
  | (refine' CallOK.use (sp_min _ _ _ _ _ _ _ _ ?hl ?hx ?hy) ?u1 ?u2 ?u3 ?u4 ?u5 ?u6 ?u7 ?u8 ?_; (case u1 => k_asm); (case hl => k_mem); (case hx => walk_at "my num"); (case hy => walk_at "my num"); walk_at "my use2"; intro v9 n9 h9 tk9 F9 N9 hP9; obtain ⟨hv9, e9z⟩ := hP9; subst n9; (try dsimp only)))))
local macro_rules | `(tactic| walk_at "call ref cons") => `(tactic| (k_here; k_dflt (refine' CallOK.use (sp_prod _ _ _ _ _ _ _ _ ?h1 ?h2 ?hp ?ht) ?u1 ?u2 ?u3 ?u4 ?u5 ?u6 ?u7 ?u8 ?_; (case u1 => k_asm); (case h1 => walk_at "my asm"); (case h2 => walk_at "my asm"); walk_at "my use2"; intro v9 n9 h9 tk9 F9 N9 hP9; obtain ⟨g9, e9, hg9, hn9⟩ := hP9; subst v9; (try dsimp only))))
local macro_rules | `(tactic| walk_at "my steps98") => `(tactic| repeat' (first | ((fail_if_success (with_reducible show wpAny _ _ (call (Value.ref 98) _) _ _ _)); first | (k_unfold; (try dsimp only)) | (k_end; wrow_close) | walk1 | (dsimp only; walk1)) | fail "no step"))
set_option maxRecDepth 100000 in
set_option maxHeartbeats 8000000 in
theorem sp_wider1 (w : World) (news : Led) (wv : Value) (g1 g2 : Addr) (M1 M2 : Nat → Nat → Int) (h1 : GridN news g1 M1) (h2 : GridN news g2 M2) (hne : ∀ p ∈ news, p.1 ≠ 155) :
    CallOKc w 160 [wv, .ref g1, .ref g2] 14 ((155, tabObj #[]) :: news) (fun r n => ∃ g, r = .ref g ∧ GridN n g (fun a c => mm (M1 a) M2 c) ∧ TabF news n ∧ Grown news n) := by
  w_top off
  unfold CallOKc
  k_fill
  intro p loose mean mg mb dp un gd cn cs a ccd cl outer A₀ base h₀ L m s Q E B F X N T' CH hk hdp hun hret
  refine wpAny_call ?_
  k_dflt (walk_at "my enter")
  rename_i o1' d1' N0
  replace d1' : o1'.data = .cell (some wv) := d1'
  rename Fr h₀ L _ m => FF
  have C' := CH.keeps FF.keep
  try k_fold
  walk_at "my steps98"
  refine' CallOK.use (sp_prod _ _ _ _ _ _ _ _ ?h1 ?h2 ?hp ?ht) ?u1 ?u2 ?u3 ?u4 ?u5 ?u6 ?u7 ?u8 ?_
  (case u1 => k_asm)
  (case h1 => walk_at "my asm")
  (case h2 => walk_at "my asm")
  walk_at "my use2"
  case hp =>
    refine ⟨⟨_, _, _, _, by k_mem⟩, fun news' va vb x y hsub hx hy => ?_⟩
    unfold CallOK
    intro p loose mean mg mb dp un gd cn cs a ccd cl outer A₀ base h₀ L m s Q E B F X N T' hk hdp hun hret
    have N1 := napp (drop N hsub) N
    simp only [List.cons_append] at N1
    refine wpAny_call ?_
    k_dflt (walk_at "my lam")
    k_steps
    exact hret _ news' _ _ (by assumption) (drop (by assumption) (by walk_at "my sub")) ⟨by assumption, rfl⟩
  case ht =>
    refine ⟨⟨_, _, _, _, by k_mem⟩, fun news' va vb x y hsub hx hy => ?_⟩
    unfold CallOK
    intro p loose mean mg mb dp un gd cn cs a ccd cl outer A₀ base h₀ L m s Q E B F X N T' hk hdp hun hret
    have N1 := napp (drop N hsub) N
    simp only [List.cons_append] at N1
    refine wpAny_call ?_
    k_dflt (walk_at "my lam")
    k_steps
    exact hret _ news' _ _ (by assumption) (drop (by assumption) (by walk_at "my sub")) ⟨by assumption, rfl⟩
  intro v9 n9 h9 tk9 F9 N9 hP9
  obtain ⟨g9, e9, hg9, hn9⟩ := hP9
  subst v9
  (try dsimp only)
  k_steps
  rename_i f1 c1 oc1 vs1 t1 ct1 hA tkA FA NA e1 e2 lA lA2 f2 c2 oc2 vs2 t2 ct2 hB tkB FB NB e3 e4 lB lB2 kF kN Tc kX
  refine hret _ n9 _ _ kF kN ⟨g9, rfl, hg9, ⟨c1, c2, oc1, oc2, vs1, vs2, t1, t2, hn9.1 _ ?_, hn9.1 _ ?_, hn9.1 _ ?_, e1, e2, e3, e4, ?_, ?_⟩, hn9.weaken (by walk_at "my sub") ?_⟩
  · exact .tail _ (.tail _ (.tail _ (.tail _ (.tail _ (.head _)))))
  · exact .tail _ (.tail _ (.tail _ (.head _)))
  · exact .tail _ (.head _)
  · have z := all_ne_gt lA.2.2
    intro q hq
    exact z q (by first | exact hq | exact .tail _ hq | exact .tail _ (.tail _ hq) | exact .tail _ (.tail _ (.tail _ hq)))
  · have z := all_ne_gt lB.2.2.2.2
    intro q hq
    exact z q (by first | exact hq | exact .tail _ hq | exact .tail _ (.tail _ hq) | exact .tail _ (.tail _ (.tail _ hq)))
  refine List.forall_mem_cons.mpr ⟨.inr ?_, List.forall_mem_cons.mpr ⟨.inr ?_, List.forall_mem_cons.mpr ⟨.inr ?_, List.forall_mem_cons.mpr ⟨.inr ?_, List.forall_mem_cons.mpr ⟨.inr ?_, List.forall_mem_cons.mpr ⟨.inr ?_, fun p hp => .inl hp⟩⟩⟩⟩⟩⟩
  · exact all_ne_gt2 lB.2.2.2.2 lB2
  · exact all_ne_gt lB.2.2.2.2
  · exact all_ne_gt2 lA.2.2 lA2
  · exact all_ne_gt lA.2.2
  · exact all_ne_succ (And.right (by assumption : 155 < _ ∧ AllLt _ news))
  · exact hne
end
section
local macro_rules | `(tactic| walk_at "eval ListComp") => `(tactic| (k_here; k_dflt (refine LCg.ListComp_U (F₀ := by k_asm) (by with_unfolding_all rfl) (by decide) (by rfl) (by decide) (by rfl) ?_)))
local macro_rules | `(tactic| walk_at "CompSrc") => `(tactic| (refine Stop.out ?_))
set_option maxRecDepth 100000 in
set_option maxHeartbeats 8000000 in
theorem sp_plain (w : World) (news : Led) (g : Addr) (M : Nat → Nat → Int) (hg : GridN news g M) :
    CallOK w 153 [.ref g] 4 news (fun r n => (∃ q, r = .ref q) ∧ DatIn n r (gd M) ∧ Grown news n) := by
  w_top off
  unfold CallOK
  k_fill
  intro p loose mean mg mb dp un gd' cn cs a ccd cl outer A₀ base h₀ L m s Q E B F X N T' hk hdp hun hret
  obtain ⟨r0, r1, r2, r3, n, hgm, hr0, hr1, hr2, hr3⟩ := hg
  refine wpAny_call ?_
  k_dflt (walk_at "my enter")
  k_steps
  unfold Stop
  k_dflt (refine LCg.CompSrc.ledger (by rfl) (by k_asm) (by k_asm) hgm (Nat.le_of_ble_eq_true rfl) ?_)
  intro gH
  refine comp_inv (fun i ys n2 => Grown news n2 ∧ DatRows n2 ys M i) 4 0 _ _ ?_ ?_ ⟨Grown.refl _, rfl, fun j hj => absurd hj (Nat.not_lt_zero _)⟩
  · rintro i ys n2 v I oI C oC D m2 hh tk2 E2 _ hi4 hv hC hx F2 N2 off ne ⟨hG, hR⟩
    obtain ⟨r, rfl, hr, _⟩ := row_at2 hr0 hr1 hr2 hr3 (by simpa using hv)
    have hS : ∀ hb, LCg.SrcAt hb g #[Value.ref r0, Value.ref r1, Value.ref r2, Value.ref r3] n2 := fun _ => Or.inr ⟨_, hG.1 _ hgm, rfl, _, rfl⟩
    obtain ⟨a0, a1, a2, a3, k, hrm, ha0, ha1, ha2, ha3⟩ := hr
    have hrm' := hG.1 _ hrm
    k_steps
    unfold Stop
    k_dflt (refine LCg.CompSrc.ledger (by rfl) (by k_asm) (by k_asm) (List.mem_cons_of_mem _ (List.mem_cons_of_mem _ (List.mem_cons_of_mem _ hrm'))) (Nat.le_of_ble_eq_true rfl) ?_)
    intro gH2
    refine comp_inv (fun j ys' n3 => n3 = (I, oI) :: (C, oC) :: (D, LCg.lst ys) :: n2 ∧ ValsI ys' (M i) j) 4 0 _ _ ?_ ?_ ⟨rfl, rfl, fun j hj => absurd hj (Nat.not_lt_zero _)⟩
    · rintro j ys' n3 v3 I3 oI3 C3 oC3 D3 m3 hh3 tk3 E3 _ hj4 hv3 hC3 hx3 F3 N3 off3 ne3 ⟨rfl, hV⟩
      obtain ⟨_, hv3⟩ := num_at ha0 ha1 ha2 ha3 (show [a0, a1, a2, a3][j]? = some v3 by simpa using hv3)
      have hS3 : ∀ hb, LCg.SrcAt hb r #[a0, a1, a2, a3] ((I, oI) :: (C, oC) :: (D, LCg.lst ys) :: n2) := fun _ => Or.inr ⟨_, .tail _ (.tail _ (.tail _ hrm')), rfl, _, rfl⟩
      cases hv3
      · k_steps
        exact LCg.CompEnd.intro (by assumption) (by assumption) _ (fun _ h9 => h9) off3 (hS3 _) ⟨rfl, hV.push⟩
      · rename (_ ∈ news) => hm9
        have hm9' := hG.1 _ hm9
        have N4 := ins N3 (.tail _ (.tail _ (.tail _ (.tail _ (.tail _ (.tail _ hm9'))))))
        k_steps
        refine LCg.CompEnd.intro (by assumption) (drop (by assumption) (fun _ h9 => .tail _ h9)) _ (fun _ h9 => h9) off3 (hS3 _) ⟨rfl, ?_⟩
        rw [Int.mul_one]
        exact hV.push
    · rintro ys' n3 ⟨rfl, hV⟩
      (unfold LCg.FinE; intro D9 h9 tk9 F9 N9 o9)
      refine LCg.CompEnd.intro F9 N9 ((D9, LCg.lst ys') :: n2) (by walk_at "my sub") (off3_of1 o9 off) (Or.inr ⟨_, .tail _ (hG.1 _ hgm), rfl, _, rfl⟩) ⟨hG.push (off1_tail3 o9), (hR.mono fun p hp => .tail _ hp).push ?_⟩
      have hrow := ValsI.dat (news := (D9, LCg.lst ys') :: n2) (D := D9) (n := ys'.length) hV (.head _)
      exact hrow
  · rintro ys n2 ⟨hG, hR⟩
    (unfold LCg.FinE; intro D9 h9 tk9 F9 N9 o9)
    k_steps
    exact hret _ _ _ _ (by assumption) (by assumption) ⟨⟨_, rfl⟩, DatRows.dat (k := ys.length) (hR.mono fun p hp => .tail _ hp) (.head _), hG.push (off1_mem o9)⟩
end
section
local macro_rules | `(tactic| walk_at "exec For Name Call cons nil") => `(tactic| (k_here; (rename Fr _ _ _ _ => lF'); (with_unfolding_all refine' For_invVF lF' ?k1 ?k2 ?_; (case k1 => exact rfl); (case k2 => exact rfl); k_whole)))
local macro_rules | `(tactic| walk_at "exec For Tuple Name cons nil") => `(tactic| (k_here; (rename Fr _ _ _ _ => lF'); (with_unfolding_all refine' For_turns lF' ?_; k_whole)))
local macro_rules | `(tactic| walk_at "call type:list") => `(tactic| (k_here; k_dflt (refine' list_copyK ?k1 ?k2 ?k3 ?_ ?z; (case k1 => k_asm); (case k2 => k_asm); (case k3 => exact News.isList (by k_asm) (by k_mem)); (case z => exact room2 (by assumption) (by assumption))); intro D' c' h' F' N' l1; (try k_lt l1); (try k_sweep)))
local macro_rules | `(tactic| walk_at "compareOp In int ref") => `(tactic| (k_here; k_dflt (refine' in_ints ?N ?hl ?hi ?_; (case N => k_asm); (case hl => k_mem); (case hi => assumption))))
local macro_rules | `(tactic| walk_at "binaryOp Add ref ref") => `(tactic| (k_here; k_dflt (refine' kmk_add_ints ?F ?N ?a ?b ?i ?j ?_ ?z; (case F => k_asm); (case N => k_asm); (case a => exact News.isList (by k_asm) (by k_mem)); (case b => exact News.isList (by k_asm) (by k_mem)); (case i => assumption); (case j => exact .cons _ _ .nil); (case z => exact room1 (by assumption))); intro D' ws' h' F' N' l1 hI'; (try k_lt l1); (try k_sweep)))
set_option maxRecDepth 100000 in
set_option maxHeartbeats 8000000 in
theorem sp_come (w : World) (news : Led) (l : Addr) (ws : Nat → Int) (begin least z : Int) (steps : Nat) (tb tl tz : Tok) (hz : z = steps) (hz4 : steps ≤ 4) (hl : LinesN news l ws) :
    CallOK w 141 [.ref l, .int begin tb, .int least tl, .int z tz] 3 news (fun r n => ∃ q vs k, r = .ref q ∧ n = (q, listOf vs.toArray k) :: news ∧ IntsAre vs (comeL ws least begin steps) ∧ ∀ p ∈ news, p.1 ≠ q) := by
  w_top off
  unfold CallOK
  k_fill
  intro p loose mean mg mb dp un gd' cn cs a ccd cl outer A₀ base h₀ L m s Q E B F X N T' hk hdp hun hret
  subst hz
  refine wpAny_call ?_
  k_dflt (walk_at "my enter")
  k_steps
  (rename News _ _ _ _ => N9); (rename Fr _ _ _ _ => F9); (rename Str → Option Value => mp'); (rename IsRange _ _ _ _ _ _ _ _ => hr)
  rename_i g' L' _ FG' B' X'' T'' en' A' _ q0 _ hq0 _ _ _ _ _ _ _ _ _
  have hra := range_ok (n := steps) (by omega)
  refine iter_rangeUnr rfl hr hra.1 hra.2 F9 N9 ?_
  intro I hI
  refine range_inv (fun i mx nx => ∃ q vs k, nx = (q, listOf vs.toArray k) :: news ∧ IntsAre vs (comeL ws least begin i) ∧ (∀ p ∈ news, p.1 ≠ q) ∧ q ≠ I ∧ mx (Str.ofString "met") = some (.ref q) ∧ ∀ y, y ≠ Str.ofString "met" → SO.contains y = false → mx y = mp' y) _ 0 _ _ ?_ ?_ ?_
  · rintro i mx nx t h tk _ hi4 ⟨q, vs, k, rfl, hvs, hqn, hqI, hm1, hm2⟩ F1 it _ N1
    obtain ⟨u, rfl⟩ := frame_form hm1 hm2
    clear F9 N9 hr
    have hlen : (comeL ws least begin i).length ≤ 40 := Nat.le_trans (comeL_len i) (by omega)
    k_steps
    rename_i D2 c2 _ _ _ l2 _ F2 N2
    obtain ⟨vl, nl, hvl6, hml, hvi⟩ := hl
    let mI : Str → Option Value := fun y => if y = Str.ofString "here" then some (.ref D2) else if y = Str.ofString "turn" then some (.int (0 + (i : Int)) t) else if y = Str.ofString "met" then some (.ref q) else if SO.contains y = true then u y else mp' y
    have F2' : Fr g' L' _ mI := F2
    have N2' : News g' L' _ ((q, listOf vs.toArray k) :: (D2, listOf vs.toArray c2) :: (I, it) :: news) := drop N2 (by walk_at "my sub")
    clear F2 N2
    refine iter_listTurns (lo := listOf vl.toArray nl) (vs := vl) rfl F2' N2' (.tail _ (.tail _ (.tail _ hml))) rfl rfl ?_
    intro J hJ
    refine rest_inv (fun j mx nx => ∃ q' vs' k', nx = (q', listOf vs'.toArray k') :: (D2, listOf vs.toArray c2) :: (I, it) :: news ∧ IntsAre vs' (foldL ws (comeL ws least begin i) least j) ∧ (∀ p ∈ news, p.1 ≠ q') ∧ q' ≠ I ∧ q' ≠ J ∧ mx (Str.ofString "met") = some (.ref q') ∧ ∀ y, y ≠ Str.ofString "met" → SI.contains y = false → mx y = mI y) ?_ _ 0 _ _ ?_ ?_ ?_
    · rintro j mx nx ⟨q', vs', k', rfl, _⟩
      exact ⟨.tail _ (.tail _ (.tail _ hml)), trivial⟩
    · rintro j a mx nx v hh tkk ha1 ha2 ⟨q', vs', k', rfl, hvs', hqn', hqI', hqJ', hm1', hm2'⟩ F3 its hits N3
      obtain ⟨d, ta, tb', tc, rfl, hd⟩ := lines_at hvi ha1 ha2
      obtain ⟨oJ, rfl, _⟩ := objs1 hits
      obtain ⟨u', rfl⟩ := frame_form hm1' hm2'
      simp only [List.cons_append, List.nil_append] at N3
      have hj6 : j < 6 := by
        have := (List.getElem?_eq_some_iff.mp ha1).1
        rwa [List.length_map, hvl6] at this
      rw [Nat.zero_add] at hvs'
      rw [Nat.zero_add]
      have hap : ∀ q9, q9 ≠ J → ∀ o9 : Obj, ∀ p ∈ (q9, o9) :: (D2, listOf vs.toArray c2) :: (I, it) :: news, ∀ z ∈ [(J, oJ)], p.1 ≠ z.1 := by
        intro q9 hq9 o9 p hp z hz
        rw [List.mem_singleton.mp hz]
        rcases List.mem_cons.mp hp with rfl | hp
        · exact hq9
        · exact Nat.ne_of_lt (hJ p (.tail _ hp))
      have hlen' : (foldL ws (comeL ws least begin i) least j).length ≤ 40 := Nat.le_trans (foldL_len j) (by have := comeL_len (ws := ws) (least := least) (begin := begin) i; have := hj6; omega)
      have hT9 : IsTup hh d #[.int (lnA j) ta, .int (lnB j) tb', .int (ws j) tc] := News.isTup N3 (.tail _ (.tail _ (.tail _ (.tail _ hd))))
      clear F2' N2'
      k_steps
      · refine ⟨_, _, _, _, (q', listOf vs'.toArray k') :: (D2, listOf vs.toArray c2) :: (I, it) :: news, rfl, by assumption, by assumption, by walk_at "my sub", by walk_at "my sub", hap _ hqJ' _, q', vs', k', rfl, st1 (by assumption) (by assumption) (by assumption) (by assumption) hvs', hqn', hqI', hqJ', rfl, (fun y h1 h2 => by obtain ⟨a1, a2, a3, a4⟩ := SI_no h2; simp only [h1, a1, a2, a3, a4, h2, if_false, Bool.false_eq_true])⟩
      · rename_i D9 us9 _ hus lD _ F9 N9
        refine ⟨_, _, _, _, (D9, listOf us9.toArray 0) :: (D2, listOf vs.toArray c2) :: (I, it) :: news, rfl, F9, N9, by walk_at "my sub", by walk_at "my sub", hap _ (Nat.ne_of_gt lD.2.1) _, D9, us9, 0, rfl, st2 (by assumption) (by assumption) (by assumption) (by assumption) hus, all_ne_gt lD.2.2.2.2.2, Nat.ne_of_gt lD.2.2.2.2.1, Nat.ne_of_gt lD.2.1, rfl, (fun y h1 h2 => by obtain ⟨a1, a2, a3, a4⟩ := SI_no h2; simp only [h1, a1, a2, a3, a4, h2, if_false, Bool.false_eq_true])⟩
      · refine ⟨_, _, _, _, (q', listOf vs'.toArray k') :: (D2, listOf vs.toArray c2) :: (I, it) :: news, rfl, by assumption, by assumption, by walk_at "my sub", by walk_at "my sub", hap _ hqJ' _, q', vs', k', rfl, st3 (by assumption) (by assumption) (by assumption) (by assumption) hvs', hqn', hqI', hqJ', rfl, (fun y h1 h2 => by obtain ⟨a1, a2, a3, a4⟩ := SI_no h2; simp only [h1, a1, a2, a3, a4, h2, if_false, Bool.false_eq_true])⟩
      · rename_i D9 us9 _ hus lD _ F9 N9
        refine ⟨_, _, _, _, (D9, listOf us9.toArray 0) :: (D2, listOf vs.toArray c2) :: (I, it) :: news, rfl, F9, N9, by walk_at "my sub", by walk_at "my sub", hap _ (Nat.ne_of_gt lD.2.1) _, D9, us9, 0, rfl, st4 (by assumption) (by assumption) (by assumption) (by assumption) hus, all_ne_gt lD.2.2.2.2.2, Nat.ne_of_gt lD.2.2.2.2.1, Nat.ne_of_gt lD.2.1, rfl, (fun y h1 h2 => by obtain ⟨a1, a2, a3, a4⟩ := SI_no h2; simp only [h1, a1, a2, a3, a4, h2, if_false, Bool.false_eq_true])⟩
      · refine ⟨_, _, _, _, (q', listOf vs'.toArray k') :: (D2, listOf vs.toArray c2) :: (I, it) :: news, rfl, by assumption, by assumption, by walk_at "my sub", by walk_at "my sub", hap _ hqJ' _, q', vs', k', rfl, st5 (by assumption) hvs', hqn', hqI', hqJ', rfl, (fun y h1 h2 => by obtain ⟨a1, a2, a3, a4⟩ := SI_no h2; simp only [h1, a1, a2, a3, a4, h2, if_false, Bool.false_eq_true])⟩
      · refine ⟨_, _, _, _, (q', listOf vs'.toArray k') :: (D2, listOf vs.toArray c2) :: (I, it) :: news, rfl, by assumption, by assumption, by walk_at "my sub", by walk_at "my sub", hap _ hqJ' _, q', vs', k', rfl, st6 (by assumption) hvs', hqn', hqI', hqJ', rfl, (fun y h1 h2 => by obtain ⟨a1, a2, a3, a4⟩ := SI_no h2; simp only [h1, a1, a2, a3, a4, h2, if_false, Bool.false_eq_true])⟩
    · rintro mx nx hh tkk ⟨q', vs', k', rfl, hvs', hqn', hqI', hqJ', hm1', hm2'⟩ F3 N3
      obtain ⟨u', rfl⟩ := frame_form hm1' hm2'
      rw [Nat.zero_add, List.length_map, hvl6] at hvs'
      k_steps
      refine ⟨_, _, _, _, (q', listOf vs'.toArray k') :: news, rfl, by assumption, by assumption, by walk_at "my sub", by walk_at "my sub", ?_, q', vs', k', rfl, hvs', hqn', hqI', rfl, fun y h1 h2 => ?_⟩
      · intro p hp z hz
        rw [List.mem_singleton.mp hz]
        rcases List.mem_cons.mp hp with rfl | hp
        · exact hqI'
        · exact Nat.ne_of_lt (hI _ (.tail _ hp))
      · obtain ⟨a1, a2, a3, a4, a5, a6⟩ := SO_no h2
        have a9 : SI.contains y = false := by simp [SI, a3, a4, a5, a6]
        simp only [h1, a1, a2, a3, a4, a5, a6, h2, a9, mI, if_false, Bool.false_eq_true, ite_self]
    · exact ⟨q, vs, k, rfl, hvs, hqn, hqI, Nat.ne_of_lt (hJ _ (.head _)), rfl, fun _ _ _ => rfl⟩
  · rintro mx nx h tk ⟨q, vs, k, rfl, hvs, hqn, hqI, hm1, hm2⟩ F1 N1
    obtain ⟨u, rfl⟩ := frame_form hm1 hm2
    k_steps
    rw [Nat.zero_add] at hvs
    exact hret _ _ _ _ (by assumption) (drop (by assumption) (by walk_at "my sub")) ⟨q, vs, k, rfl, rfl, hvs, hqn⟩
  · refine ⟨q0, [.int begin tb], 0, rfl, .cons _ _ .nil, fun p hp => Nat.ne_of_lt (hq0 p hp), Nat.ne_of_lt (hI _ (.head _)), rfl, fun y hy _ => by simp [hy]⟩
end
section
local macro_rules | `(tactic| walk_at "my nil") => `(tactic| skip)
local macro_rules | `(tactic| walk_at "pyIter ref") => `(tactic| ((with_reducible show wpAny _ _ (pyIter (Value.ref _)) _ _ _); refine Stop.out ?_))
local macro_rules | `(tactic| walk_at "exec For Name Call cons nil") => `(tactic| (k_here; (rename Fr _ _ _ _ => lF'); first | ((with_reducible show wpAny _ _ (exec (PySem.Stmt.For _ (PySem.Expr.Call (PySem.Expr.Name "range" _) _ _ _) _ _ _) _) _ _ _); (with_unfolding_all refine' For_invVF lF' ?k1 ?k2 ?_; (case k1 => exact rfl); (case k2 => exact rfl))) | (with_unfolding_all refine' For_turns lF' ?_); k_whole))
local macro_rules | `(tactic| walk_at "eval Call Name cons nil") => `(tactic| ((with_reducible show wpAny _ _ (eval (PySem.Expr.Call (PySem.Expr.Name "_law_come_to" _) _ _ _) _) _ _ _); refine Call_ ?_))
local macro_rules | `(tactic| walk_at "call ref cons") => `(tactic| (k_here; k_dflt (refine' CallOK.use (sp_come _ _ _ _ _ _ _ _ _ _ _ rfl ?hz ?hl) ?u1 ?u2 ?u3 ?u4 ?u5 ?u6 ?u7 ?u8 ?_; (case u1 => k_asm); (case hz => assumption); (case hl => (refine LinesN.mono ?_ (by assumption); walk_at "my sub")); walk_at "my use2"; intro v9 n9 h9 tk9 F9 N9 hP9; obtain ⟨q9, vs9, k9, e9, e9z, hI9, hq9⟩ := hP9; subst v9; subst n9; (try dsimp only))))
local macro_rules | `(tactic| walk_at "setItem ref int") => `(tactic| (k_here; (with_reducible show wpAny _ _ (setItem (Value.ref _) (Value.int _ _) (Value.int _ _)) _ _ _); k_dflt (refine' ksa_set ?k1 ?k2 ?k3 ?k4 ?k5 ?k6 ?k7 ?_; (case k1 => k_asm); (case k2 => k_asm); (case k3 => k_upd); (case k4 => with_reducible assumption); (case k5 => omega); (case k6 => omega); (case k7 => omega); k_whole); intro h' F' N' hi' hl' hs'; clear hs'; (try k_sweep)))
set_option maxRecDepth 100000 in
set_option maxHeartbeats 8000000 in
theorem sp_due (w : World) (news : Led) (l : Addr) (ws : Nat → Int) (z : Int) (steps : Nat) (tz : Tok) (hz : z = steps) (hz4 : steps ≤ 4) (hl : LinesN news l ws) :
    CallOK w 148 [.ref l, .int z tz] 6 news (fun r n => (∃ q, r = .ref q) ∧ DatIn n r (gd (dueM ws steps)) ∧ Grown news n) := by
  w_top off
  unfold CallOK
  k_fill
  intro p loose mean mg mb dp un gd' cn cs a ccd cl outer A₀ base h₀ L m s Q E B F X N T' hk hdp hun hret
  subst hz
  refine wpAny_call ?_
  k_dflt (walk_at "my enter")
  k_steps
  unfold Stop
  (rename News _ _ _ _ => N9); (rename Fr _ _ _ _ => F9); (rename Str → Option Value => mp'); (rename IsRange _ _ _ _ _ _ _ _ => hr)
  rename_i g' L' _ FG' B' X'' T'' en' A' lf _ hlf _ _ _ _ _ _ _ _ _
  refine iter_rangeUnr rfl hr (range_ok (n := 4) (by omega)).1 (range_ok (n := 4) (by omega)).2 F9 N9 ?_
  intro I hI
  refine range_inv (fun i mx nx => ∃ vs k tl, nx = (lf, listOf vs k) :: tl ∧ DatRows tl vs.toList (dueM ws steps) i ∧ Grown news tl ∧ (∀ p ∈ tl, p.1 ≠ lf ∧ p.1 ≠ I) ∧ ∀ y, SBg.contains y = false → mx y = (if y = Str.ofString "found" then some (.ref lf) else mp' y)) _ 0 _ _ ?_ ?_ ?_
  · rintro i mx nx t h tk _ hi4 ⟨vs, k, tl, rfl, hR, hG, hne, hm⟩ F1 it _ N1
    obtain ⟨u, rfl⟩ := frame_form0 hm
    clear F9 N9 hr hm
    rw [Int.zero_add] at F1
    have hlt := hl.mono hG.1
    have hnl : ∀ p ∈ tl, p.1 ≠ lf := fun p hp => (hne p hp).1
    have hnI : ∀ p ∈ tl, p.1 ≠ I := fun p hp => (hne p hp).2
    clear hl
    k_steps
    unfold Stop
    rename_i D _ _ _ lD _ _ _ _ _ _ _ _ hr2 F2 N2 _
    have e1 : @LT.lt Nat _ I D := lD.1
    have e2 : @LT.lt Nat _ lf D := lD.2.1
    have e3 : @LT.lt Nat _ lf I := hI _ (.head _)
    let mB : Str → Option Value := fun y => if y = "row" then some (.ref D) else if y = "begin" then some (.int (i : Int) t) else if SBg.contains y = true then u y else if y = "found" then some (.ref lf) else mp' y
    have F2' : Fr g' L' _ mB := F2
    refine iter_rangeUnr rfl hr2 range_ok1.1 range_ok1.2 F2' N2 ?_
    intro I2 hI2
    have d1 : @LT.lt Nat _ D I2 := hI2 _ (.head _)
    refine range_inv (fun j mx nx => ∃ vs', nx = (D, listOf vs'.toArray 0) :: (I, it) :: (lf, listOf vs k) :: tl ∧ IntsAre vs' (dueRow ws i steps j) ∧ ∀ y, SL.contains y = false → mx y = mB y) _ 0 _ _ ?_ ?_ ?_
    · rintro j mx nx t2 h2 tk2 _ hj5 ⟨vs', rfl, hvs', hm2⟩ F3 it2 _ N3
      obtain ⟨u2, rfl⟩ := frame_form0 hm2
      clear F2 F2' N2 hr2 hm2
      have hcl : (comeL ws (1 + (j : Int)) i steps).length ≤ 40 := Nat.le_trans (comeL_len steps) (by omega)
      have hlen := dueRow_len (ws := ws) (begin := i) (steps := steps) j
      k_steps
      unfold Stop
      rename_i h9 tk9 F9 q9 vs9 k9 hI9 hq9 N9
      let mI : Str → Option Value := fun y => if y = "least" then some (.int (1 + (j : Int)) t2) else if SL.contains y = true then u2 y else mB y
      have F9' : Fr g' L' _ mI := F9
      refine iter_listTurns (lo := listOf vs9.toArray k9) (vs := vs9) rfl F9' N9 (.head _) rfl rfl ?_
      intro J hJ
      have d2 : @LT.lt Nat _ I2 J := hJ _ (.tail _ (.head _))
      have d4 : @LT.lt Nat _ q9 J := hJ _ (.head _)
      have d3 : @Ne Nat D q9 := hq9 _ (.tail _ (.head _))
      have d5 : ∀ p ∈ tl, p.1 ≠ J := fun p hp => Nat.ne_of_lt (hJ _ (.tail _ (.tail _ (.tail _ (.tail _ (.tail _ hp))))))
      refine rest_inv (fun g mx nx => ∃ vs2, nx = (q9, listOf vs9.toArray k9) :: (I2, it2) :: (D, listOf vs2.toArray 0) :: (I, it) :: (lf, listOf vs k) :: tl ∧ IntsAre vs2 (setAll (1 + (j : Int)) (dueRow ws i steps j) (comeL ws (1 + (j : Int)) i steps) g) ∧ ∀ y, SG.contains y = false → mx y = mI y) ?_ _ 0 _ _ ?_ ?_ ?_
      · rintro g mx nx ⟨vs2, rfl, _⟩
        exact ⟨.head _, trivial⟩
      · rintro g a4 mx nx v hh tk4 ha1 ha2 ⟨vs2, rfl, hvs2, hm4⟩ F4 its hits N4
        obtain ⟨hg1, tg, rfl, hgm⟩ := ints_itm hI9 ha1 ha2
        have hx4 := comeL_lt (ws := ws) (least := 1 + (j : Int)) (begin := (i : Int)) (by omega) steps _ hgm
        obtain ⟨oJ, rfl, _⟩ := objs1 hits
        obtain ⟨u4, rfl⟩ := frame_form0 hm4
        simp only [List.cons_append, List.nil_append] at N4
        rw [Nat.zero_add] at hvs2
        rw [Nat.zero_add]
        have hlen4 : (setAll (1 + (j : Int)) (dueRow ws i steps j) (comeL ws (1 + (j : Int)) i steps) g).length = 4 := (setAll_len g).trans hlen
        clear F9 F9' N9 hm4
        k_steps
        rename_i F5 N5 _ _
        refine ⟨_, _, _, _, _, rfl, F5, N5, by walk_at "my sub", by walk_at "my sub", ?_, _, rfl, by assumption, fun y h2 => ?_⟩
        · intro p hp z hz
          rw [List.mem_singleton.mp hz]
          revert p
          k_all
        · have a1 := SG_no h2
          simp only [a1, h2, if_false, Bool.false_eq_true]
      · rintro mx nx h4 tk4 ⟨vs2, rfl, hvs2, hm4⟩ F4 N4
        obtain ⟨u4, rfl⟩ := frame_form0 hm4
        rw [Nat.zero_add, List.length_map, hI9.length] at hvs2
        clear F9 F9' N9 hm4
        k_steps
        refine ⟨_, _, _, _, (D, listOf vs2.toArray 0) :: (I, it) :: (lf, listOf vs k) :: tl, rfl, by assumption, by assumption, by walk_at "my sub", by walk_at "my sub", ?_, _, rfl, hvs2, fun y h2 => ?_⟩
        · intro p hp z hz
          rw [List.mem_singleton.mp hz]
          have d6 : ∀ p ∈ tl, p.1 ≠ I2 := fun p hp => Nat.ne_of_lt (hI2 _ (.tail _ (.tail _ (.tail _ hp))))
          revert p
          k_all
        · obtain ⟨a1, a2⟩ := SL_no h2
          have a9 : SG.contains y = false := by simp [SG, a2]
          simp only [a1, a2, h2, a9, mI, if_false, Bool.false_eq_true]
      · exact ⟨vs', rfl, hvs', fun _ _ => rfl⟩
    · rintro mx nx h2 tk2 ⟨vs', rfl, hvs', hm2⟩ F3 N3
      obtain ⟨u2, rfl⟩ := frame_form0 hm2
      rw [Nat.zero_add] at hvs'
      have hlen := dueRow_len (ws := ws) (begin := i) (steps := steps) 5
      have hz : vs.size ≤ sizeLine := Nat.le_trans (Nat.le_of_eq (by rw [← Array.length_toList]; exact hR.1)) (Nat.le_trans (by omega : i ≤ 4) (by decide))
      clear F2 F2' N2 hr2 hm2
      k_steps
      have hrow := ints_vals (ints_set (x := 6) (u := tk2) hvs' i) (by rw [List.length_set]; exact hlen)
      refine ⟨_, _, _, _, (lf, listOf (vs.push (.ref D)) (k + 1)) :: (D, listOf (vs'.set i (.int 6 tk2)).toArray 0) :: tl, rfl, by assumption, by assumption, by walk_at "my sub", by walk_at "my sub", ?_, _, _, (D, listOf (vs'.set i (.int 6 tk2)).toArray 0) :: tl, rfl, ?_, ?_, ?_, fun y h2 => ?_⟩
      · intro p hp z hz
        rw [List.mem_singleton.mp hz]
        revert p
        k_all
      · rw [Array.toList_push]
        exact (hR.mono fun p hp => .tail _ hp).push (hrow.dat (n := 0) (.head _))
      · refine hG.push fun p hp => ?_
        have := lD.2.2
        exact all_ne_gt this p hp
      · refine List.forall_mem_cons.mpr ⟨⟨Nat.ne_of_gt e2, Nat.ne_of_gt e1⟩, hne⟩
      · obtain ⟨a1, a2, a3, a4⟩ := SBg_no h2
        have a9 : SL.contains y = false := by simp [SL, a3, a4]
        simp only [a1, a2, h2, a9, mB, if_false, Bool.false_eq_true]
    · exact ⟨_, rfl, .cons _ _ (.cons _ _ (.cons _ _ (.cons _ _ .nil))), fun _ _ => rfl⟩
  · rintro mx nx h tk ⟨vs, k, tl, rfl, hR, hG, hne, hm⟩ F1 N1
    obtain ⟨u, rfl⟩ := frame_form0 hm
    k_steps
    exact hret _ _ _ _ (by assumption) (by assumption) ⟨⟨_, rfl⟩, DatRows.dat (k := k) (hR.mono fun p hp => .tail _ hp) (.head _), hG.push fun p hp => (hne p hp).1⟩
  · exact ⟨#[], 0, news, rfl, ⟨rfl, fun j hj => absurd hj (Nat.not_lt_zero _)⟩, Grown.refl _, fun p hp => ⟨Nat.ne_of_lt (hlf p hp), Nat.ne_of_lt (hI _ (.tail _ hp))⟩, fun y hy => rfl⟩
end
section
noncomputable def OffL (xs : List Nat) (n : Led) : Led := n.filter fun p => decide (p.1 ∉ xs)
noncomputable def exA (ex : Led) : List Nat := ex.map fun p => p.1
theorem offL_mem {xs : List Nat} {n : Led} {p : Addr × Obj} : p ∈ OffL xs n ↔ p ∈ n ∧ p.1 ∉ xs := by simp [OffL]
theorem splitL {ex bs n : Led} (G : Grown (ex ++ bs) n) (hb : ∀ p ∈ bs, p.1 ∉ exA ex) : (∀ p ∈ n, p ∈ OffL (exA ex) n ∨ p ∈ ex) ∧ (∀ p ∈ bs, p ∈ OffL (exA ex) n) ∧ (∀ p ∈ ex ++ OffL (exA ex) n, p ∈ n) ∧ ∀ p ∈ OffL (exA ex) n, p.1 ∉ exA ex := by
  refine ⟨fun p hp => ?_, fun p hp => offL_mem.mpr ⟨G.1 p (List.mem_append.mpr (.inr hp)), hb p hp⟩, fun p hp => ?_, fun p hp => (offL_mem.mp hp).2⟩
  · by_cases h : p.1 ∈ exA ex
    · rcases G.2 p hp with h1 | h1
      · rcases List.mem_append.mp h1 with h1 | h1
        · exact .inr h1
        · exact absurd h (hb p h1)
      · obtain ⟨q, hq, e⟩ := List.mem_map.mp h
        exact absurd e (h1 q (List.mem_append.mpr (.inl hq)))
    · exact .inl (offL_mem.mpr ⟨hp, h⟩)
  · rcases List.mem_append.mp hp with h1 | h1
    · exact G.1 p (List.mem_append.mpr (.inl h1))
    · exact (offL_mem.mp h1).1
abbrev NoSeq (ex : Led) : Prop := ∀ p ∈ ex, ∀ vs k, (p.2.cls = .type "list" ∨ p.2.cls = .type "tuple") → p.2.data ≠ .seq vs k
theorem offm {n n' ex : Led} (h : ∀ p ∈ n, p ∈ n' ∨ p ∈ ex) (hx : NoSeq ex) {a : Addr} {o : Obj} {vs : Array Value} {k : Nat} (hm : (a, o) ∈ n) (c : o.cls = .type "list" ∨ o.cls = .type "tuple") (e : o.data = .seq vs k) : (a, o) ∈ n' :=
  (h _ hm).elim id fun h1 => absurd e (hx _ h1 _ _ c)
section
variable {n n' ex : Led} (h : ∀ p ∈ n, p ∈ n' ∨ p ∈ ex) (hx : NoSeq ex)
include h hx
theorem num_offE {v : Value} {x : Int} : Num n v x → Num n' v x
  | .int x t => .int x t
  | .dec hm => .dec (offm h hx hm (.inr rfl) rfl)
theorem row_offE {r : Addr} {f : Nat → Int} : RowN n r f → RowN n' r f
  | ⟨a, b, c, d, k, hm, h0, h1, h2, h3⟩ => ⟨a, b, c, d, k, offm h hx hm (.inl rfl) rfl, num_offE h hx h0, num_offE h hx h1, num_offE h hx h2, num_offE h hx h3⟩
theorem grid_offE {g : Addr} {M : Nat → Nat → Int} : GridN n g M → GridN n' g M
  | ⟨a, b, c, d, k, hm, h0, h1, h2, h3⟩ => ⟨a, b, c, d, k, offm h hx hm (.inl rfl) rfl, row_offE h hx h0, row_offE h hx h1, row_offE h hx h2, row_offE h hx h3⟩
mutual
theorem dat_offE : ∀ {v : Value} {d : Dat}, DatIn n v d → DatIn n' v d
  | _, _, .none => .none
  | _, _, .bool b => .bool b
  | _, _, .int i t => .int i t
  | _, _, .str x t => .str x t
  | _, _, .bytes b t => .bytes b t
  | _, _, .tuple m r => .tuple (offm h hx m (.inr rfl) rfl) (dats_offE r)
  | _, _, .list m r => .list (offm h hx m (.inl rfl) rfl) (dats_offE r)
theorem dats_offE : ∀ {vs : List Value} {ds : List Dat}, DatAll n vs ds → DatAll n' vs ds
  | _, _, .nil => .nil
  | _, _, .cons m r => .cons (dat_offE m) (dats_offE r)
end
end
theorem tab_offE {news n n' ex : Led} (h : ∀ p ∈ n, p ∈ n' ∨ p ∈ ex) (hs : ∀ p ∈ ex, p ∈ news) (h5 : ∀ p ∈ ex, p.1 ≠ 155) : TabF news n → TabC n'
  | ⟨c1, c2, o1, o2, vs1, vs2, t1, t2, a, b, c, d, e, f, g, x, y⟩ => ⟨c1, c2, o1, o2, vs1, vs2, t1, t2, (h _ a).elim id fun k => absurd rfl (h5 _ k), (h _ b).elim id fun k => absurd rfl (x _ (hs _ k)), (h _ c).elim id fun k => absurd rfl (y _ (hs _ k)), d, e, f, g⟩
theorem CallOK.conv {w : World} {f : Addr} {vs : List Value} {k : Nat} {news : Led} {P P' : Value → Led → Prop} (C : CallOK w f vs k news P) (h : ∀ v n, P v n → ∃ n', (∀ p ∈ n', p ∈ n) ∧ P' v n') : CallOK w f vs k news P' := by
  unfold CallOK at C ⊢
  intro p loose mean mg mb dp un gd cn cs a ccd cl outer A₀ base h₀ L m s Q E B F X N T hk hd hu ret
  refine C p loose mean mg mb dp un gd cn cs a ccd cl outer A₀ base h₀ L m s Q E B F X N T hk hd hu fun v n h' tk' F' N' hP => ?_
  obtain ⟨n', hs, hP'⟩ := h v n hP
  exact ret v n' h' tk' F' (drop N' hs) hP'
theorem CallOKc.conv {w : World} {f : Addr} {vs : List Value} {k : Nat} {news : Led} {P P' : Value → Led → Prop} (C : CallOKc w f vs k news P) (h : ∀ v n, P v n → ∃ n', (∀ p ∈ n', p ∈ n) ∧ P' v n') : CallOKc w f vs k news P' := by
  unfold CallOKc at C ⊢
  intro p loose mean mg mb dp un gd cn cs a ccd cl outer A₀ base h₀ L m s Q E B F X N T H hk hd hu ret
  refine C p loose mean mg mb dp un gd cn cs a ccd cl outer A₀ base h₀ L m s Q E B F X N T H hk hd hu fun v n h' tk' F' N' hP => ?_
  obtain ⟨n', hs, hP'⟩ := h v n hP
  exact ret v n' h' tk' F' (drop N' hs) hP'
noncomputable def GrewB (ex bs bs' : Led) : Prop := (∀ p ∈ bs, p ∈ bs') ∧ ∀ p ∈ bs', p.1 ∉ exA ex
theorem plainB (w : World) (ex bs : Led) (g : Addr) (M : Nat → Nat → Int) (hg : GridN bs g M) (hb : ∀ p ∈ bs, p.1 ∉ exA ex) (hx : NoSeq ex) :
    CallOK w 153 [.ref g] 4 (ex ++ bs) (fun r n => ∃ q bs', r = .ref q ∧ n = ex ++ bs' ∧ GrewB ex bs bs' ∧ DatIn bs' (.ref q) (gd M)) :=
  (sp_plain w (ex ++ bs) g M (hg.mono fun _ hp => List.mem_append.mpr (.inr hp))).conv fun v n ⟨⟨q, e⟩, hd, G⟩ => by
    obtain ⟨k1, k2, k3, k4⟩ := splitL G hb
    subst e
    exact ⟨_, k3, q, _, rfl, rfl, ⟨k2, k4⟩, dat_offE k1 hx hd⟩
theorem dueB (w : World) (ex bs : Led) (l : Addr) (ws : Nat → Int) (z : Int) (steps : Nat) (tz : Tok) (hz : z = steps) (hz4 : steps ≤ 4) (hl : LinesN bs l ws) (hb : ∀ p ∈ bs, p.1 ∉ exA ex) (hx : NoSeq ex) :
    CallOK w 148 [.ref l, .int z tz] 6 (ex ++ bs) (fun r n => ∃ q bs', r = .ref q ∧ n = ex ++ bs' ∧ GrewB ex bs bs' ∧ DatIn bs' (.ref q) (gd (dueM ws steps))) :=
  (sp_due w (ex ++ bs) l ws z steps tz hz hz4 (hl.mono fun _ hp => List.mem_append.mpr (.inr hp))).conv fun v n ⟨⟨q, e⟩, hd, G⟩ => by
    obtain ⟨k1, k2, k3, k4⟩ := splitL G hb
    subst e
    exact ⟨_, k3, q, _, rfl, rfl, ⟨k2, k4⟩, dat_offE k1 hx hd⟩
theorem widerB (w : World) (ex bs : Led) (wv : Value) (g1 g2 : Addr) (M1 M2 : Nat → Nat → Int) (h1 : GridN bs g1 M1) (h2 : GridN bs g2 M2) (ht : TabC bs) (hb : ∀ p ∈ bs, p.1 ∉ exA ex) (hx : NoSeq ex) :
    CallOKc w 160 [wv, .ref g1, .ref g2] 14 (ex ++ bs) (fun r n => ∃ q bs', r = .ref q ∧ n = ex ++ bs' ∧ GrewB ex bs bs' ∧ GridN bs' q (fun a c => mm (M1 a) M2 c)) :=
  (sp_wider2 w (ex ++ bs) wv g1 g2 M1 M2 (h1.mono fun _ hp => List.mem_append.mpr (.inr hp)) (h2.mono fun _ hp => List.mem_append.mpr (.inr hp)) (ht.mono fun _ hp => List.mem_append.mpr (.inr hp))).conv fun v n ⟨q, e, hd, G⟩ => by
    obtain ⟨k1, k2, k3, k4⟩ := splitL G hb
    subst e
    exact ⟨_, k3, q, _, rfl, rfl, ⟨k2, k4⟩, grid_offE k1 hx hd⟩
theorem widerA (w : World) (ex bs : Led) (wv : Value) (g1 g2 : Addr) (M1 M2 : Nat → Nat → Int) (h1 : GridN bs g1 M1) (h2 : GridN bs g2 M2) (hne : ∀ p ∈ ex ++ bs, p.1 ≠ 155) (hb : ∀ p ∈ bs, p.1 ∉ exA ex) (hx : NoSeq ex) :
    CallOKc w 160 [wv, .ref g1, .ref g2] 14 ((155, tabObj #[]) :: (ex ++ bs)) (fun r n => ∃ q bs', r = .ref q ∧ n = ex ++ bs' ∧ GrewB ex bs bs' ∧ GridN bs' q (fun a c => mm (M1 a) M2 c) ∧ TabC bs') :=
  (sp_wider1 w (ex ++ bs) wv g1 g2 M1 M2 (h1.mono fun _ hp => List.mem_append.mpr (.inr hp)) (h2.mono fun _ hp => List.mem_append.mpr (.inr hp)) hne).conv fun v n ⟨q, e, hd, ht, G⟩ => by
    obtain ⟨k1, k2, k3, k4⟩ := splitL G hb
    subst e
    exact ⟨_, k3, q, _, rfl, rfl, ⟨k2, k4⟩, grid_offE k1 hx hd, tab_offE k1 (fun _ hp => List.mem_append.mpr (.inl hp)) (fun _ hp => hne _ (List.mem_append.mpr (.inl hp))) ht⟩
theorem rowd_ok (M : Nat → Nat → Int) : ∀ d ∈ [rowd (M 0), rowd (M 1), rowd (M 2), rowd (M 3)], kqdOk 8 d = true := by
  intro d hd
  simp only [List.mem_cons, List.not_mem_nil, or_false] at hd
  rcases hd with hd | hd | hd | hd <;> (subst hd; rfl)
section
variable {prog : Program} {w : World} {A : Around} {E : Value → Shared → Prop} {s : Shared} {h₀ : Heap} {L a b : Addr} {news bs : Led} {M M' : Nat → Nat → Int} {Q : Value → Shared → Prop}
theorem gd_ne (N : News h₀ L s.heap news) (hs : ∀ p ∈ bs, p ∈ news) (Da : DatIn bs (.ref a) (gd M)) (Db : DatIn bs (.ref b) (gd M')) (e : gd M = gd M') (hu : A.units + 64 < cLine) (h : Q (.bool false) s) : wpAny (model prog w) A (compareOp .NotEq (.ref a) (.ref b)) Q E s := by
  unfold gd at Da Db
  cases Da with
  | list ma Da =>
    cases Db with
    | list mb Db =>
      refine kqd_ne N (hs _ ma) rfl rfl Da hs (hs _ mb) rfl rfl Db hs (rowd_ok M) (rowd_ok M') hu ?_
      have e' : [rowd (M 0), rowd (M 1), rowd (M 2), rowd (M 3)] = [rowd (M' 0), rowd (M' 1), rowd (M' 2), rowd (M' 3)] := Dat.list.inj e
      simpa only [e', decide_true, Bool.not_true] using h
theorem gd_eq (N : News h₀ L s.heap news) (hs : ∀ p ∈ bs, p ∈ news) (Da : DatIn bs (.ref a) (gd M)) (Db : DatIn bs (.ref b) (gd M')) (e : gd M = gd M') (hu : A.units + 64 < cLine) (h : Q (.bool true) s) : wpAny (model prog w) A (compareOp .Eq (.ref a) (.ref b)) Q E s := by
  unfold gd at Da Db
  cases Da with
  | list ma Da =>
    cases Db with
    | list mb Db =>
      refine kqd_eq N (hs _ ma) rfl rfl Da hs (hs _ mb) rfl rfl Db hs (rowd_ok M) (rowd_ok M') hu ?_
      have e' : [rowd (M 0), rowd (M 1), rowd (M 2), rowd (M 3)] = [rowd (M' 0), rowd (M' 1), rowd (M' 2), rowd (M' 3)] := Dat.list.inj e
      simpa only [e', decide_true] using h
end
noncomputable def RowI (n : Led) (r : Addr) (f : Nat → Int) : Prop := ∃ vs k, (r, listOf vs.toArray k) ∈ n ∧ IntsAre vs [f 0, f 1, f 2, f 3]
theorem row_int {n : Led} {r : Addr} {f : Nat → Int} {v : Value} (hv : v = .ref r) (h : DatIn n v (rowd f)) : RowI n r f := by
  subst hv
  unfold rowd at h
  cases h with
  | list m h =>
    cases h with | cons h0 h =>
    cases h with | cons h1 h =>
    cases h with | cons h2 h =>
    cases h with | cons h3 h =>
    cases h
    cases h0; cases h1; cases h2; cases h3
    exact ⟨_, _, m, .cons _ _ (.cons _ _ (.cons _ _ (.cons _ _ .nil)))⟩
theorem row_ref {n : Led} {f : Nat → Int} {v : Value} (h : DatIn n v (rowd f)) : ∃ r, v = .ref r ∧ RowI n r f := by
  unfold rowd at h
  cases h with
  | list m h => exact ⟨_, rfl, row_int rfl (.list m h)⟩
noncomputable def GridI (n : Led) (g : Addr) (M : Nat → Nat → Int) : Prop := ∃ r0 r1 r2 r3 k, (g, listOf [.ref r0, .ref r1, .ref r2, .ref r3].toArray k) ∈ n ∧ RowI n r0 (M 0) ∧ RowI n r1 (M 1) ∧ RowI n r2 (M 2) ∧ RowI n r3 (M 3)
theorem grid_int {n : Led} {g : Addr} {M : Nat → Nat → Int} (h : DatIn n (.ref g) (gd M)) : GridI n g M := by
  unfold gd at h
  cases h with
  | list m h =>
    cases h with | cons h0 h =>
    cases h with | cons h1 h =>
    cases h with | cons h2 h =>
    cases h with | cons h3 h =>
    cases h
    obtain ⟨r0, rfl, k0⟩ := row_ref h0
    obtain ⟨r1, rfl, k1⟩ := row_ref h1
    obtain ⟨r2, rfl, k2⟩ := row_ref h2
    obtain ⟨r3, rfl, k3⟩ := row_ref h3
    exact ⟨r0, r1, r2, r3, _, m, k0, k1, k2, k3⟩
end
section
set_option maxRecDepth 100000 in
set_option maxHeartbeats 8000000 in
theorem sp_spun (w : World) (tl : Led) (R q : Addr) (vs : List Value) (ns : List Int) (kR kq spot : Nat) (below : Int) (tb ts : Tok) (hq : (q, listOf vs.toArray kq) ∈ tl) (hi : IntsAre vs ns) (hl : vs.length ≤ 8) (hR : ∀ p ∈ tl, p.1 ≠ R) (hb : 0 < below) (hb9 : below ≤ 9) (hs : spot ≤ 50) :
    CallOK w 134 [.ref R, .int below tb] 2 ((R, listOf [.ref q, .int spot ts].toArray kR) :: tl) (fun r n => ∃ v tv t', r = .int v tv ∧ n = (R, listOf [.ref q, .int ((spot + 1 : Nat) : Int) t'].toArray kR) :: tl ∧ 0 ≤ v ∧ v < below) := by
  w_top off
  unfold CallOK
  k_fill
  intro p loose mean mg mb dp un gd' cn cs a ccd cl outer A₀ base h₀ L m s Q E B F X N T' hk hdp hun hret
  have hl2 := hi.length
  refine wpAny_call ?_
  k_dflt (walk_at "my enter")
  k_steps
  refine KM.len_K (by assumption) (.tail _ hq) List.size_toArray (by omega) ?_
  k_steps
  · rename_i hlt
    refine ksa_sub (by assumption) (List.mem_cons_of_mem _ hq) hi (by omega) (by omega) (by omega) (fun t => ?_)
    k_steps
    exact hret _ _ _ _ (by assumption) (by assumption) ⟨_, _, _, rfl, rfl, Int.fmod_nonneg_of_pos _ hb, Int.fmod_lt_of_pos _ hb⟩
  · exact hret _ _ _ _ (by assumption) (by assumption) ⟨_, _, _, rfl, rfl, Int.fmod_nonneg_of_pos _ hb, Int.fmod_lt_of_pos _ hb⟩
end
section
local macro_rules | `(tactic| walk_at "call ref cons") => `(tactic| (k_here; k_dflt (refine' call_cls ?k1 ?k2 ?k3 ?k4 ?k5 ?k6 ?_; (case k1 => k_asm); (case k2 => k_asm); (case k3 => k_asm); (case k4 => k_is); (case k5 => k_is); (case k6 => k_is); intro x' d' h' F' N' l1 l2; (try k_lt l1); (try k_lt2 l2); (try k_sweep)); (refine' my_def ?k1 ?k2 ?k3 ?k4 ?k5 ?kA ?kF ?kK ?k6 ?k7 ?k8 ?k9 ?kB ?_ ?c2 ?c3 ?c4 ?c5; (case kA => exact rfl); (case kF => exact rfl); (case kK => first | exact rfl | assumption); (case k1 => k_asm); (case k2 => k_asm); (case k3 => k_asm); (case k4 => k_asm); (case k5 => k_asm); (case k6 => k_is); (case k7 => k_is); (case k8 => walk_at "my room"); (case k9 => exact binds_K (by k_in) rfl (by k_is) rfl rfl rfl); (case c5 => decide); (case kB => exact locs rfl); (case c2 => exact rfl); (case c3 => exact rfl); (case c4 => exact rfl); intro g' L' h' FG' mp' F' N' B' X' T' en' A'; (try k_fold))))
set_option maxRecDepth 100000 in
set_option maxHeartbeats 8000000 in
theorem sp_world (w : World) (news : Led) (ta tb : Tok) :
    CallOK w 123 [.int 16 ta, .int 9 tb] 4 news (fun r n => (∃ x, r = .ref x) ∧ n = news) := by
  w_top off
  unfold CallOK
  k_fill
  intro p loose mean mg mb dp un gd' cn cs a ccd cl outer A₀ base h₀ L m s Q E B F X N T' hk hdp hun hret
  repeat' (first | (rename News _ _ _ (_ :: _ :: _ :: news) => N9; replace N9 := drop N9 (fun _ h9 => List.mem_cons_of_mem _ h9)) | (k_unfold; (try dsimp only)) | (walk1 <;> (try dsimp only)) | (leave1; try dsimp only))
  exact hret _ _ _ _ (by assumption) (drop (by assumption) (by walk_at "my sub")) ⟨⟨_, rfl⟩, rfl⟩
end
section
section
open PyProof.Rows.LCg
variable {prog : Program} {w : World} {A : Around} {E : Value → Shared → Prop} {s : Shared} {h₀ : Heap} {L : Addr} {m : Str → Option Value} {env : Env}
noncomputable def BackC (h₀ : Heap) (L : Addr) (m : Str → Option Value) (s₂ : Shared) (nx : Led) (s' : Shared) : Prop := ∃ h' tk', s' = { s₂ with heap := h', toks := tk' } ∧ Fr h₀ L h' m ∧ News h₀ L h' nx
noncomputable def AsgC (prog : Program) (w : World) (A : Around) (target : PySem.Expr) (env : Env) (n : Nat) (P : Nat → Value → Heap → Prop) (B : Nat → Value → (Str → Option Value) → Prop) (news : Led) : Prop :=
  ∀ i v (s' : Shared) m' (Q : Unit → Shared → Prop) E, i < n → P i v s'.heap → (∀ p ∈ news, s'.heap.get? p.1 = some p.2) → s'.heap.Ns env.locals m' →
    (∀ h' tk m'', h'.Ns env.locals m'' → B i v m'' → (∀ c o, c ≠ env.locals → s'.heap.get? c = some o → h'.get? c = some o) → Q () { s' with heap := h', toks := tk }) → wpAny (model prog w) A (assign target env v) Q E s'
noncomputable def TurnC (prog : Program) (w : World) (A : Around) (h₀ : Heap) (L : Addr) (m : Str → Option Value) (c elt : PySem.Expr) (env : Env) (fp : List Addr) (n : Nat) (B : Nat → Value → (Str → Option Value) → Prop) (Inv : Nat → List Value → Prop) (s₂ : Shared) (D : Addr) (news : Led) : Prop :=
  ∀ i v ys oC m₂ h tk own (E' : Value → Shared → Prop), i < n → B i v m₂ → NsObj oC m₂ → Fr h₀ L h m → (∀ p ∈ own, p.1 ∈ fp) → News h₀ L h (own ++ (env.locals, oC) :: (D, lst ys) :: news) → Inv i ys →
    wpAny (model prog w) A (isTrue c env (eval c env)) (fun okb s₃ => if okb = true then
      wpAny (model prog w) A (eval elt env) (fun y s₄ => BackC h₀ L m s₂ (own ++ (env.locals, oC) :: (D, lst ys) :: news) s₄ ∧ Inv (i + 1) (ys ++ [y])) E' s₃
      else BackC h₀ L m s₂ (own ++ (env.locals, oC) :: (D, lst ys) :: news) s₃ ∧ Inv (i + 1) ys) E' { s₂ with heap := h, toks := tk }
theorem comp_run {c elt iter target : PySem.Expr} {scope : Scope} {cl : List (Str × Addr)} {pos : Pos} {s₂ : Shared} {I : Addr} {fp wr : List Addr} {n : Nat} {P Md : Nat → Value → Heap → Prop} {St : Nat → Heap → Prop} {news : Led} {RR : Value → Addr → Result → Shared → Prop}
    (B : Nat → Value → (Str → Option Value) → Prop) (Inv : Nat → List Value → Prop)
    (W : KTurns prog w A target I fp wr n P Md St) (hself : ∀ (s : Shared) (Q : Value → Shared → Prop) (E : Value → Shared → Prop), St 0 s.heap → Q (.ref I) s → wpAny (model prog w) A (pyIter (.ref I)) Q E s)
    (hsz : n ≤ sizeLine) (hfp : ∀ b ∈ fp, b < s₂.heap.objs.size) (hLf : L ∉ fp) (hwr : ∀ b ∈ wr, h₀.get? b = none) (hnw : ∀ p ∈ news, p.1 ∉ wr) (hst : St 0 s₂.heap)
    (hcell : ∀ y ∈ scope.names, y.2 ≠ .cell) (hkind : scope.kind = .function) (F : Fr h₀ L s₂.heap m) (N : News h₀ L s₂.heap news)
    (asg : ∀ C, AsgC prog w A target (compEnvC scope cl C env) n P B news) (turn : ∀ C D, C ≠ D → (∀ b ∈ fp, b ≠ C ∧ b ≠ D) → (∀ p ∈ news, p.1 ≠ C ∧ p.1 ≠ D) → TurnC prog w A h₀ L m c elt (compEnvC scope cl C env) fp n B Inv s₂ D news) (h0 : Inv 0 [])
    (hRR : ∀ D C h tk m' ys, Fr h₀ L h m → News h₀ L h ((D, lst ys) :: news) → Off1 D news → h.Ns C m' → h₀.get? C = none → h₀.get? D = none → C ≠ L → D ≠ L → C ≠ D → (∀ p ∈ news, p.1 ≠ C) → Inv n ys → RR (.ref D) C (.ok .next) { s₂ with heap := h, toks := tk }) :
    wpAny (model prog w) A (newList []) (fun acc s₃ => wpAny (model prog w) A (newFunctionEnv scope env.globals cl [] env.qual none .none (some env)) (fun cenv s₄ =>
      codeAny (model prog w) A (.compStart (.ListComp elt [⟨target, iter, [c], 0⟩] scope pos) 0 (.ref I) acc { cenv with scope := relabel scope env }) (RR acc cenv.locals) s₄) E s₃) E s₂ := by
  refine wpAny_newObj_type (wpAny_newFunctionEnv hcell (by intro y hy; simp at hy) (fun h₁ hns₁ hsb₁ => ?_) hkind)
  dsimp only at hns₁ hsb₁ ⊢
  generalize hH2 : s₂.heap.push { cls := .type "list", dict := none, data := .seq ([] : List Value).toArray } = H2 at hns₁ hsb₁ ⊢
  have hC : H2.objs.size = s₂.heap.objs.size + 1 := by rw [← hH2, Heap.size_push]
  have hDC : s₂.heap.objs.size ≠ H2.objs.size := by rw [hC]; exact Nat.ne_of_lt (Nat.lt_succ_self _)
  have below : ∀ b, b < s₂.heap.objs.size → b ≠ H2.objs.size ∧ b ≠ s₂.heap.objs.size := fun b hb => ⟨by rw [hC]; exact Nat.ne_of_lt (Nat.lt_succ_of_lt hb), Nat.ne_of_lt hb⟩
  have old : ∀ b o, s₂.heap.get? b = some o → h₁.get? b = some o := fun b o e => hsb₁.extBut b o (below b (Heap.lt_size e)).1 (Heap.get?_push_of_some _ (hH2 ▸ Heap.get?_push_of_some _ e))
  have hacc : h₁.get? s₂.heap.objs.size = some (lst []) := hsb₁.extBut _ _ hDC (Heap.get?_push_of_some _ (hH2 ▸ Heap.get?_push_size _ rfl))
  have fresh₀ : ∀ a, s₂.heap.objs.size ≤ a → h₀.get? a = none := fun a ha => by
    cases e : h₀.get? a with
    | none => rfl
    | some o' => exact absurd (Heap.lt_size (F.keep a o' e)) (Nat.not_lt.mpr ha)
  have hD₀ : h₀.get? s₂.heap.objs.size = none := fresh₀ _ (Nat.le_refl _)
  have hC₀ : h₀.get? H2.objs.size = none := fresh₀ _ (by rw [hC]; exact Nat.le_succ _)
  have hLlt : L < s₂.heap.objs.size := F.ns.lt
  have hDL : s₂.heap.objs.size ≠ L := Ne.symm (below L hLlt).2
  have hCL : H2.objs.size ≠ L := Ne.symm (below L hLlt).1
  have offn : ∀ p ∈ news, p.1 ≠ H2.objs.size ∧ p.1 ≠ s₂.heap.objs.size := fun p hp => below _ (Heap.lt_size (N p hp).1)
  have offf : ∀ b ∈ fp, b ≠ H2.objs.size ∧ b ≠ s₂.heap.objs.size := fun b hb => below _ (hfp b hb)
  have hLw : L ∉ wr := fun h => hLf (W.sub _ h)
  have oldw : ∀ b o, h₀.get? b = some o → b ∉ wr := fun b o e hb => by rw [hwr b hb] at e; cases e
  have loop : ∀ s₃ : Shared, s₃ = { s₂ with heap := h₁, toks := s₂.toks + ([] : List (Str × Value)).length } →
      codeAny (model prog w) A (.compLoop (.ListComp elt [⟨target, iter, [c], 0⟩] scope pos) 0 (.ref I) (.ref s₂.heap.objs.size) (compEnvC scope cl H2.objs.size env)) (RR (.ref s₂.heap.objs.size) H2.objs.size) s₃ := by
    rintro s₃ rfl
    refine kct_loop (fun k s' => ∃ h' tk i ys m', s' = { s₂ with heap := h', toks := tk } ∧ i ≤ n ∧ k = n + 1 - i ∧ ys.length ≤ i ∧ St i h' ∧ Fr h₀ L h' m ∧ h'.Ns H2.objs.size m' ∧ News h₀ L h' ((s₂.heap.objs.size, lst ys) :: news) ∧ Inv i ys) ?_ (n + 1)
      ⟨h₁, _, 0, [], _, rfl, Nat.zero_le _, rfl, Nat.le_refl _, W.frame _ _ _ hst fun b _ o e => old b o e, F.keeps old, hns₁, fun p hp => ?_, h0⟩
    · rintro k s' ⟨h', tk, i, ys, m', rfl, hi, rfl, hyl, hst', F', hn', N', hI'⟩
      by_cases hlt : i < n
      · refine W.item i _ _ _ hlt hst' fun v h₂ tk₂ hMd hk₂ => ?_
        refine W.go i v _ _ _ hMd fun h₃ hP hst₃ hk₃ => ?_
        have up₃ : ∀ b o, b ∉ wr → h'.get? b = some o → h₃.get? b = some o := fun b o hb e => hk₃ b o hb (hk₂ b o hb e)
        have hCw : H2.objs.size ∉ wr := fun h => (offf _ (W.sub _ h)).1 rfl
        have hDw : s₂.heap.objs.size ∉ wr := fun h => (offf _ (W.sub _ h)).2 rfl
        refine asg H2.objs.size i v _ m' _ _ hlt hP (fun p hp => up₃ _ _ (hnw p hp) (N' p (.tail _ hp)).1) (hn'.at' fun o e => up₃ _ o hCw e) fun h₄ tk₄ m'' hn₄ hB hs₄ => ?_
        have up : ∀ b o, b ∉ wr → b ≠ H2.objs.size → h'.get? b = some o → h₄.get? b = some o := fun b o hb hc e => hs₄ b o hc (up₃ b o hb e)
        have hst₄ : St (i + 1) h₄ := W.frame _ _ _ hst₃ fun b hb o e => hs₄ b o (offf b hb).1 e
        obtain ⟨oC, heC, hoC⟩ := ns_obj hn₄
        have F₄ : Fr h₀ L h₄ m := ⟨F'.ns.at' fun o e => up _ o hLw (Ne.symm hCL) e, fun b o e => up b o (oldw b o e) (fun q => by rw [q, hC₀] at e; cases e) (F'.keep b o e), F'.above⟩
        have N₄ : News h₀ L h₄ (PyProof.Rows.ownOf h₀ fp h₄ ++ (H2.objs.size, oC) :: (s₂.heap.objs.size, lst ys) :: news) := by
          intro q hq
          rcases List.mem_append.mp hq with hq | hq
          · exact news_ownOf hLf q hq
          rcases List.mem_cons.mp hq with rfl | hq
          · exact ⟨heC, hCL, hC₀⟩
          have z := N' q hq
          refine ⟨up _ _ ?_ ?_ z.1, z.2⟩
          · rcases List.mem_cons.mp hq with rfl | hq
            · exact hDw
            · exact hnw q hq
          · rcases List.mem_cons.mp hq with rfl | hq
            · exact hDC
            · exact (offn q hq).1
        have fin : ∀ (ys' : List Value) (h₅ : Heap) (tk₅ : Nat), ys'.length ≤ i + 1 → Fr h₀ L h₅ m → News h₀ L h₅ (PyProof.Rows.ownOf h₀ fp h₄ ++ (H2.objs.size, oC) :: (s₂.heap.objs.size, lst ys') :: news) → Inv (i + 1) ys' →
            ∃ q', q' < n + 1 - i ∧ (∃ h' tk i ys m', ({ s₂ with heap := h₅, toks := tk₅ } : Shared) = { s₂ with heap := h', toks := tk } ∧ i ≤ n ∧ q' = n + 1 - i ∧ ys.length ≤ i ∧ St i h' ∧ Fr h₀ L h' m ∧ h'.Ns H2.objs.size m' ∧ News h₀ L h' ((s₂.heap.objs.size, lst ys) :: news) ∧ Inv i ys) := by
          intro ys' h₅ tk₅ hl F₅ N₅ hI₅
          have zC := (N₅ (H2.objs.size, oC) (List.mem_append_right _ List.mem_cons_self)).1
          refine ⟨n + 1 - (i + 1), by omega, h₅, tk₅, i + 1, ys', _, rfl, hlt, rfl, hl, ?_, F₅, hoC.ns zC, fun q hq => N₅ q (List.mem_append_right _ (List.mem_cons_of_mem _ hq)), hI₅⟩
          refine W.frame _ _ _ hst₄ fun b hb o e => ?_
          cases hn : h₀.get? b with
          | some o₀ =>
            have q := F₄.keep b o₀ hn
            rw [e] at q
            exact (Option.some.inj q) ▸ F₅.keep b o₀ hn
          | none => exact (N₅ _ (List.mem_append_left _ (mem_ownOf hb hn e))).1
        refine wpAny_mono (turn H2.objs.size s₂.heap.objs.size (Ne.symm hDC) offf offn i v ys oC m'' h₄ tk₄ (PyProof.Rows.ownOf h₀ fp h₄) _ hlt hB hoC F₄ ownOf_sub N₄ hI') (fun okb s₅ h₅ => ?_) fun _ _ e => e
        cases okb with
        | false =>
          simp only [Bool.false_eq_true, if_false] at h₅ ⊢
          obtain ⟨⟨h₅, tk₅, rfl, F₅, N₅⟩, hI₅⟩ := h₅
          exact fin ys h₅ tk₅ (Nat.le_succ_of_le hyl) F₅ N₅ hI₅
        | true =>
          simp only [if_true] at h₅ ⊢
          refine wpAny_mono h₅ (fun y s₆ h₆ => ?_) fun _ _ e => e
          obtain ⟨⟨h₅, tk₅, rfl, F₅, N₅⟩, hI₅⟩ := h₆
          have zD := (N₅ (s₂.heap.objs.size, lst ys) (List.mem_append_right _ (List.mem_cons_of_mem _ List.mem_cons_self))).1
          refine append_at (hsz := by show ys.toArray.size ≤ sizeLine; rw [List.size_toArray]; exact Nat.le_trans hyl (Nat.le_trans hi hsz)) zD fun h₆ hs₆ hD₆ => ?_
          refine fin (ys ++ [y]) h₆ _ (by rw [List.length_append, List.length_singleton]; exact Nat.succ_le_succ hyl) (F₅.change hs₆ hDL hD₀) (fun q hq => ?_) hI₅
          rcases List.mem_append.mp hq with hq | hq
          · have z := N₅ q (List.mem_append_left _ hq)
            exact ⟨hs₆.extBut _ _ (offf _ (ownOf_sub q hq)).2 z.1, z.2⟩
          rcases List.mem_cons.mp hq with rfl | hq
          · have z := N₅ (H2.objs.size, oC) (List.mem_append_right _ List.mem_cons_self)
            exact ⟨hs₆.extBut _ oC (Ne.symm hDC) z.1, z.2⟩
          rcases List.mem_cons.mp hq with rfl | hq
          · exact ⟨hD₆.trans (congrArg some (lst_snoc ys y)), hDL, hD₀⟩
          · have z := N₅ q (List.mem_append_right _ (List.mem_cons_of_mem _ (List.mem_cons_of_mem _ hq)))
            exact ⟨hs₆.extBut _ _ (offn q hq).2 z.1, z.2⟩
      · have hin : i = n := Nat.le_antisymm hi (Nat.not_lt.mp hlt)
        subst hin
        refine W.done _ _ _ hst' fun h₂ tk₂ hk₂ => ?_
        have hCw : H2.objs.size ∉ wr := fun h => (offf _ (W.sub _ h)).1 rfl
        have hDw : s₂.heap.objs.size ∉ wr := fun h => (offf _ (W.sub _ h)).2 rfl
        refine hRR _ _ h₂ tk₂ _ ys ⟨F'.ns.at' fun o e => hk₂ _ o hLw e, fun b o e => hk₂ b o (oldw b o e) (F'.keep b o e), F'.above⟩ (fun p hp => ⟨hk₂ _ _ ?_ (N' p hp).1, (N' p hp).2⟩) ?_ (hn'.at' fun o e => hk₂ _ o hCw e) hC₀ hD₀ hCL hDL (Ne.symm hDC) (fun p hp => (offn p hp).1) hI'
        · rcases List.mem_cons.mp hp with rfl | hp
          · exact hDw
          · exact hnw p hp
        · have key : ∀ l : Led, (∀ p ∈ l, p.1 ≠ s₂.heap.objs.size) → Off1 s₂.heap.objs.size l := by
            intro l
            induction l with
            | nil => intro _; trivial
            | cons p l ih => intro h; exact ⟨h p (.head _), ih fun q hq => h q (.tail _ hq)⟩
          exact key news fun p hp => (offn p hp).2
    · rcases List.mem_cons.mp hp with rfl | hp
      · exact ⟨hacc, hDL, hD₀⟩
      · exact ⟨old _ _ (N p hp).1, (N p hp).2⟩
  exact codeAny_compStart_list (loop _ rfl) (hself _ _ _ (W.frame _ _ _ hst fun b _ o e => old b o e) (loop _ rfl))
noncomputable def CompAt (prog : Program) (w : World) (A : Around) (h₀ : Heap) (L : Addr) (m : Str → Option Value) (env : Env) (c elt target : PySem.Expr) (scope : Scope) (cl : List (Str × Addr)) (Fin : Shared → List Value → Led → Prop) (it : Value) (s₂ : Shared) : Prop :=
  ∃ (I : Addr) (fp wr : List Addr) (n : Nat) (P Md : Nat → Value → Heap → Prop) (St : Nat → Heap → Prop) (news : Led) (B : Nat → Value → (Str → Option Value) → Prop) (Inv : Nat → List Value → Prop),
    it = .ref I ∧ KTurns prog w A target I fp wr n P Md St ∧ (∀ (s : Shared) (Q : Value → Shared → Prop) (E : Value → Shared → Prop), St 0 s.heap → Q (.ref I) s → wpAny (model prog w) A (pyIter (.ref I)) Q E s) ∧
    n ≤ sizeLine ∧ (∀ b ∈ fp, b < s₂.heap.objs.size) ∧ L ∉ fp ∧ (∀ b ∈ wr, h₀.get? b = none) ∧ (∀ p ∈ news, p.1 ∉ wr) ∧ St 0 s₂.heap ∧ Fr h₀ L s₂.heap m ∧ News h₀ L s₂.heap news ∧
    (∀ C, AsgC prog w A target (compEnvC scope cl C env) n P B news) ∧ (∀ C D, C ≠ D → (∀ b ∈ fp, b ≠ C ∧ b ≠ D) → (∀ p ∈ news, p.1 ≠ C ∧ p.1 ≠ D) → TurnC prog w A h₀ L m c elt (compEnvC scope cl C env) fp n B Inv s₂ D news) ∧ Inv 0 [] ∧ ∀ ys, Inv n ys → Fin s₂ ys news
theorem ListComp_W {c elt iter target : PySem.Expr} {scope : Scope} {cl : List (Str × Addr)} {pos : Pos} {Q : Value → Shared → Prop} (F₀ : Fr h₀ L s.heap m)
    (hclos : closureFor scope env = pure cl) (hcell : ∀ y ∈ scope.names, y.2 ≠ .cell) (hkind : scope.kind = .function) (hnames : ∀ y ∈ scope.names, y.2 = .local → scope.names.lookup y.1 = some .local)
    (h : wpAny (model prog w) A (eval iter env) (fun xv s₁ => wpAny (model prog w) A (pyIter xv) (fun it s₂ => CompAt prog w A h₀ L m env c elt target scope cl (fun s₂ => FinE h₀ L m s₂ Q) it s₂) E s₁) E s)
    (hs : ∀ x, foldedSetIterable iter env x = pure x := by intro _; rfl) :
    wpAny (model prog w) A (eval (.ListComp elt [⟨target, iter, [c], 0⟩] scope pos) env) Q E s := by
  rw [eval_ListComp]
  refine wpAny_comprehension_free (use := none) rfl hs hclos hkind hnames (wpAny_mono h (fun xv s₁ h₁ => wpAny_mono h₁ (fun it s₂ h₂ => ?_) fun _ _ e => e) fun _ _ e => e)
  obtain ⟨I, fp, wr, n, P, Md, St, news, B, Inv, rfl, W, hself, hsz, hfp, hLf, hwr, hnw, hst, F, N, asg, turn, h0, fin⟩ := h₂
  refine comp_run B Inv W hself hsz hfp hLf hwr hnw hst hcell hkind F N asg turn h0 ?_
  intro D C h tk m' ys F' N' o1 hn hC₀ hD₀ hCL hDL hCD offC hI
  refine ⟨m', hn, fun h'' hs'' => fin ys hI D h'' tk (F'.change hs'' hCL hC₀) (fun p hp => ?_) o1⟩
  refine ⟨hs''.extBut _ _ ?_ (N' p hp).1, (N' p hp).2⟩
  rcases List.mem_cons.mp hp with rfl | hp
  · exact Ne.symm hCD
  · exact offC p hp
theorem Assign_ListComp_W {c elt iter target : PySem.Expr} {y : Str} {py : Pos} {scope : Scope} {cl : List (Str × Addr)} {pos spos : Pos} {Q : Flow → Shared → Prop} (F₀ : Fr h₀ L s.heap m) (hLe : env.locals = L)
    (hsw : swapsWith (.ListComp elt [⟨target, iter, [c], 0⟩] scope pos) (some (.Name y py)) spos.line env = pure true)
    (hclos : closureFor scope env = pure cl) (hcell : ∀ y ∈ scope.names, y.2 ≠ .cell) (hkind : scope.kind = .function) (hnames : ∀ y ∈ scope.names, y.2 = .local → scope.names.lookup y.1 = some .local)
    (hy : env.kindOf y = some .local) (hp : (env.scope.kind == .class || (env.scope.kind == .module && env.locals != env.globals)) = false)
    (h : wpAny (model prog w) A (eval iter env) (fun xv s₁ => wpAny (model prog w) A (pyIter xv) (fun it s₂ => CompAt prog w A h₀ L m env c elt target scope cl (fun s₂ => FinA h₀ L m s₂ y Q) it s₂) E s₁) E s)
    (hs : ∀ x, foldedSetIterable iter env x = pure x := by intro _; rfl) :
    wpAny (model prog w) A (exec (.Assign [.Name y py] (.ListComp elt [⟨target, iter, [c], 0⟩] scope pos) spos) env) Q E s := by
  subst hLe
  rw [exec_Assign_Name_used _ _ _ _ hsw]
  refine wpAny_bind (wpAny_standAt (wpAny_bind ?_))
  show wpAny _ A (do let _ ← comprehension (.ListComp elt [⟨target, iter, [c], 0⟩] scope pos) scope env _ (newList []) false (eval iter env) (some (assign (.Name y py) env))) _ _ s
  refine wpAny_bind (wpAny_mono (wpAny_comprehension_free (use := some (assign (.Name y py) env)) (Q := fun _ s' => Q .next s') rfl hs hclos hkind hnames
    (wpAny_mono h (fun xv s₁ h₁ => wpAny_mono h₁ (fun it s₂ h₂ => ?_) fun _ _ e => e) fun _ _ e => e)) (fun _ s' hq => wpAny_pure (wpAny_pure hq)) fun _ _ e => e)
  obtain ⟨I, fp, wr, n, P, Md, St, news, B, Inv, rfl, W, hself, hsz, hfp, hLf, hwr, hnw, hst, F, N, asg, turn, h0, fin⟩ := h₂
  refine comp_run B Inv W hself hsz hfp hLf hwr hnw hst hcell hkind F N asg turn h0 ?_
  intro D C h' tk m' ys F' N' o1 hn hC₀ hD₀ hCL hDL hCD offC hI
  show wpAny _ A (assign (.Name y py) env (.ref D)) _ _ _
  refine wpAny_assign_Name (wpAny_storeName_local hy F'.ns (fun h₂ hn₂ hs₂ => ?_) hp)
  have hL₀ : h₀.get? env.locals = none := Heap.get?_none_of_le F'.above
  have F₂ : Fr h₀ env.locals h₂ (fun z => if z = y then some (.ref D) else m z) := ⟨hn₂, fun b o e => hs₂.extBut b o (fun q => by rw [q, hL₀] at e; cases e) (F'.keep b o e), F'.above⟩
  refine ⟨m', hn.sameBut hs₂ hCL, fun h'' hs'' => fin ys hI D h'' _ (F₂.change hs'' hCL hC₀) (fun p hp => ?_) o1⟩
  have z : h₂.get? p.1 = some p.2 := hs₂.extBut _ _ (N' p hp).2.1 (N' p hp).1
  refine ⟨hs''.extBut _ _ ?_ z, (N' p hp).2⟩
  rcases List.mem_cons.mp hp with rfl | hp
  · exact Ne.symm hCD
  · exact offC p hp
theorem src_list {c elt target : PySem.Expr} {scope : Scope} {cl : List (Str × Addr)} {Fin : Shared → List Value → Led → Prop} {ax : Addr} {its : Array Value} {k : Nat} {news : Led} (hh : A.handled = none) (F : Fr h₀ L s.heap m) (N : News h₀ L s.heap news) (hm : (ax, listOf its k) ∈ news) (hsz : its.size ≤ sizeLine)
    (B : Nat → Value → (Str → Option Value) → Prop) (Inv : Nat → List Value → Prop) (asg : ∀ C, AsgC prog w A target (compEnvC scope cl C env) its.size (fun i v _ => its[i]? = some v) B news)
    (turn : ∀ g I C D, (∀ p ∈ news, p.1 ≠ I) → C ≠ D → (∀ b ∈ [I, ax], b ≠ C ∧ b ≠ D) → (∀ p ∈ news, p.1 ≠ C ∧ p.1 ≠ D) → TurnC prog w A h₀ L m c elt (compEnvC scope cl C env) [I, ax] its.size B Inv { s with heap := g } D news)
    (h0 : Inv 0 []) (fin : ∀ g ys, Inv its.size ys → Fin { s with heap := g } ys news) :
    wpAny (model prog w) A (pyIter (.ref ax)) (fun it s₂ => CompAt prog w A h₀ L m env c elt target scope cl Fin it s₂) E s := by
  have hax := N _ hm
  have hl : s.heap.IsList ax its := ⟨_, hax.1, rfl, k, rfl⟩
  have hlt : ax < s.heap.objs.size := Heap.lt_size hax.1
  have hne : ax ≠ s.heap.objs.size := Nat.ne_of_lt hlt
  refine wpAny_pyIter_list hl ?_
  have W := Walks.list (prog := prog) (w := w) hh s.heap.objs.size ax hne its
  refine ⟨s.heap.objs.size, _, _, _, _, _, _, news, B, Inv, rfl, KTurns.ofWalks W fun i v s Q E st q => letGo_listiter st.1 q, fun s Q E st q => W.self 0 s Q E st q, hsz, ?_, ?_, ?_, ?_, ⟨⟨_, Heap.get?_push_size _ rfl, rfl, rfl⟩, hl.at fun o e => Heap.get?_push_of_some _ e⟩, F.push _, fun p hp => ⟨Heap.get?_push_of_some _ (N p hp).1, (N p hp).2⟩, asg, (fun C D => turn _ _ C D (fun p hp => Nat.ne_of_lt (Heap.lt_size (N p hp).1))), h0, fin _⟩
  · intro b hb
    show b < (s.heap.push _).objs.size
    rw [Heap.size_push]
    have hb' : b = s.heap.objs.size ∨ b = ax := by simpa using hb
    rcases hb' with rfl | rfl
    · exact Nat.lt_succ_self _
    · exact Nat.lt_succ_of_lt hlt
  · intro hI
    have hb' : L = s.heap.objs.size ∨ L = ax := by simpa using hI
    rcases hb' with e | e
    · exact absurd F.ns.lt (e ▸ Nat.lt_irrefl _)
    · exact hax.2.1 e.symm
  · intro b hb
    rw [List.mem_singleton.mp hb]
    exact next_is_new F
  · intro p hp hI
    exact absurd (Heap.lt_size (N p hp).1) ((List.mem_singleton.mp hI) ▸ Nat.lt_irrefl _)
theorem src_enum {c elt : PySem.Expr} {elts : List PySem.Expr} {kk : Nat} {pos : Pos} {scope : Scope} {cl : List (Str × Addr)} {Fin : Shared → List Value → Led → Prop} {ax : Addr} {its : Array Value} {k : Nat} {news : Led} (hh : A.handled = none) (F : Fr h₀ L s.heap m) (N : News h₀ L s.heap news) (hm : (ax, listOf its k) ∈ news) (hsz : its.size ≤ sizeLine)
    (B : Nat → Value → (Str → Option Value) → Prop) (Inv : Nat → List Value → Prop) (asg : ∀ C, AsgC prog w A (.Tuple elts kk pos) (compEnvC scope cl C env) its.size (fun i v h => ∃ T vals, v = .ref T ∧ (∃ t x, its[i]? = some x ∧ vals = #[.int i t, x]) ∧ h.IsTuple T vals) B news)
    (turn : ∀ g I C D, (∀ p ∈ news, p.1 ≠ I ∧ p.1 ≠ I + 1) → C ≠ D → (∀ b ∈ [I + 1, I, ax], b ≠ C ∧ b ≠ D) → (∀ p ∈ news, p.1 ≠ C ∧ p.1 ≠ D) → TurnC prog w A h₀ L m c elt (compEnvC scope cl C env) [I + 1, I, ax] its.size B Inv { s with heap := g } D news)
    (h0 : Inv 0 []) (fin : ∀ g ys, Inv its.size ys → Fin { s with heap := g } ys news) :
    wpAny (model prog w) A (call (.type "enumerate") [.ref ax]) (fun xv s₁ => wpAny (model prog w) A (pyIter xv) (fun it s₂ => CompAt prog w A h₀ L m env c elt (.Tuple elts kk pos) scope cl Fin it s₂) E s₁) E s := by
  have hax := N _ hm
  have hl : s.heap.IsList ax its := ⟨_, hax.1, rfl, k, rfl⟩
  have hlt : ax < s.heap.objs.size := Heap.lt_size hax.1
  have hLs : L < s.heap.objs.size := F.ns.lt
  refine call_enumerate_list hl fun h' hE hI hsz' hk => ?_
  refine wpAny_pyIter_enum hE ?_
  have W := WalksT.enumerate (prog := prog) (w := w) hh (s.heap.objs.size + 1) s.heap.objs.size ax (Nat.succ_ne_self _) (ktu_ne 1 hlt) (Nat.ne_of_lt hlt) its
  refine ⟨s.heap.objs.size + 1, _, _, _, _, _, _, news, B, Inv, rfl, KTurns.ofWalksU W.toU, fun s Q E st q => W.self 0 s Q E st q, hsz, ?_, ?_, ?_, ?_, ⟨⟨.none, hE⟩, hI, hl.at fun o e => hk ax o e⟩, F.keeps hk, N.grown hk, asg, (fun C D => turn _ _ C D (fun p hp => ⟨Nat.ne_of_lt (Heap.lt_size (N p hp).1), ktu_ne 1 (Heap.lt_size (N p hp).1)⟩)), h0, fin _⟩
  · intro b hb
    show b < h'.objs.size
    rw [hsz']
    have hb' : b = s.heap.objs.size + 1 ∨ b = s.heap.objs.size ∨ b = ax := by simpa using hb
    rcases hb' with rfl | rfl | rfl
    · exact Nat.lt_succ_self _
    · exact Nat.lt_succ_of_lt (Nat.lt_succ_self _)
    · exact Nat.lt_succ_of_lt (Nat.lt_succ_of_lt hlt)
  · intro hI'
    have hb' : L = s.heap.objs.size + 1 ∨ L = s.heap.objs.size ∨ L = ax := by simpa using hI'
    rcases hb' with e | e | e
    · exact ktu_ne 1 hLs e
    · exact Nat.ne_of_lt hLs e
    · exact hax.2.1 e.symm
  · intro b hb
    have hb' : b = s.heap.objs.size + 1 ∨ b = s.heap.objs.size := by simpa using hb
    rcases hb' with rfl | rfl
    · exact ktu_new F (Nat.le_add_right _ _)
    · exact ktu_new F (Nat.le_refl _)
  · intro p hp hI'
    have hb' : p.1 = s.heap.objs.size + 1 ∨ p.1 = s.heap.objs.size := by simpa using hI'
    have hlp := Heap.lt_size (N p hp).1
    rcases hb' with e | e
    · exact ktu_ne 1 hlp e
    · exact Nat.ne_of_lt hlp e
theorem asg3 {a b c : Str} {pa pb pc tp : Pos} {kk : Nat} {T : Addr} {x y z : Value} {m : Str → Option Value} {Q : Unit → Shared → Prop} (hh : A.handled = none) (ht : s.heap.IsTuple T #[x, y, z])
    (ha : env.kindOf a = some .local) (hb : env.kindOf b = some .local) (hc : env.kindOf c = some .local) (hp : (env.scope.kind == .class || (env.scope.kind == .module && env.locals != env.globals)) = false) (hn : s.heap.Ns env.locals m)
    (h : ∀ (h' : Heap) (tk : Nat), h'.Ns env.locals (fun q => if q = c then some z else if q = b then some y else if q = a then some x else m q) → (∀ c o, c ≠ env.locals → s.heap.get? c = some o → h'.get? c = some o) → Q () { s with heap := h', toks := tk }) :
    wpAny (model prog w) A (assign (.Tuple [.Name a pa, .Name b pb, .Name c pc] kk tp) env (.ref T)) Q E s := by
  refine wpAny_assign_Tuple hh ht rfl rfl fun h₁ he₁ => ?_
  have hL : env.locals ≠ s.heap.objs.size := Nat.ne_of_lt hn.lt
  have hn₁ : h₁.Ns env.locals m := hn.at' fun o e => he₁ _ o hL e
  have up₁ : ∀ c o, s.heap.get? c = some o → h₁.get? c = some o := fun c o e => he₁ c o (Nat.ne_of_lt (Heap.lt_size e)) e
  show wpAny _ _ (assignInOrder [assign (.Name a pa) env, assign (.Name b pb) env, assign (.Name c pc) env] [x, y, z]) _ _ _
  refine assignInOrder_cons ?_
  refine wpAny_assign_Name (wpAny_storeName_local ha hn₁ (fun h₂ hn₂ hs₂ => ?_) hp)
  refine assignInOrder_cons ?_
  refine wpAny_assign_Name (wpAny_storeName_local hb hn₂ (fun h₃ hn₃ hs₃ => ?_) hp)
  refine assignInOrder_cons ?_
  refine wpAny_assign_Name (wpAny_storeName_local hc hn₃ (fun h₄ hn₄ hs₄ => ?_) hp)
  refine assignInOrder_nil ?_
  exact h h₄ _ hn₄ fun c o hc e => hs₄.extBut c o hc (hs₃.extBut c o hc (hs₂.extBut c o hc (up₁ c o e)))
end
end
section
section
variable {prog : Program} {w : World} {A : Around} {E : Value → Shared → Prop} {s : Shared} {h₀ : Heap} {L : Addr} {news nb : Led} {Q : Value → Shared → Prop}
theorem gridI_item {value slice : PySem.Expr} {g : Addr} {M : Nat → Nat → Int} {k : Nat} {u : Tok} (N : News h₀ L s.heap news) (hs : ∀ p ∈ nb, p ∈ news) (hg : GridI nb g M) (hk : k < 4) (h : ∀ r, RowI nb r (M k) → Q (.ref r) s)
    (hss : subscripted slice false (.ref g) (.int k u) = operate [.ref g, .int k u] (getItem (.ref g) (.int k u)) := by with_unfolding_all rfl) :
    wpAny (model prog w) A (subscriptTail value slice (.ref g) (.int k u)) Q E s := by
  obtain ⟨a, b, c, d, n, hm, h0, h1, h2, h3⟩ := hg
  have hl := News.isList N (hs _ hm)
  rcases k with _ | _ | _ | _ | k
  · exact item_litK hl (by decide) (by decide) rfl (h _ h0) hss
  · exact item_litK hl (by decide) (by decide) rfl (h _ h1) hss
  · exact item_litK hl (by decide) (by decide) rfl (h _ h2) hss
  · exact item_litK hl (by decide) (by decide) rfl (h _ h3) hss
  · omega
theorem rowI_item {value slice : PySem.Expr} {r : Addr} {f : Nat → Int} {k : Nat} {u : Tok} (N : News h₀ L s.heap news) (hs : ∀ p ∈ nb, p ∈ news) (hr : RowI nb r f) (hk : k < 4) (h : ∀ t, Q (.int (f k) t) s)
    (hss : subscripted slice false (.ref r) (.int k u) = operate [.ref r, .int k u] (getItem (.ref r) (.int k u)) := by with_unfolding_all rfl) :
    wpAny (model prog w) A (subscriptTail value slice (.ref r) (.int k u)) Q E s := by
  obtain ⟨vs, n, hm, hi⟩ := hr
  have e : [f 0, f 1, f 2, f 3].getD ((k : Nat) : Int).toNat 0 = f k := by
    rcases k with _ | _ | _ | _ | k
    · rfl
    · rfl
    · rfl
    · rfl
    · omega
  exact ksa_sub N (hs _ hm) hi (Int.natCast_nonneg k) (by simp only [List.length_cons, List.length_nil]; omega) (by omega) (fun t => by rw [e]; exact h t) hss
theorem RowI.mono {n n' : Led} {r : Addr} {f : Nat → Int} (hs : ∀ p ∈ n, p ∈ n') : RowI n r f → RowI n' r f
  | ⟨vs, k, hm, hi⟩ => ⟨vs, k, hs _ hm, hi⟩
theorem GridI.mono {n n' : Led} {g : Addr} {M : Nat → Nat → Int} (hs : ∀ p ∈ n, p ∈ n') : GridI n g M → GridI n' g M
  | ⟨a, b, c, d, k, hm, h0, h1, h2, h3⟩ => ⟨a, b, c, d, k, hs _ hm, h0.mono hs, h1.mono hs, h2.mono hs, h3.mono hs⟩
theorem ne_nil2 {a b : Addr} {ka kb : Nat} (N : News h₀ L s.heap news) (ma : (a, listOf #[] ka) ∈ news) (mb : (b, listOf #[] kb) ∈ news) (hu : A.units + 64 < cLine) (h : Q (.bool false) s) : wpAny (model prog w) A (compareOp .NotEq (.ref a) (.ref b)) Q E s :=
  kqd_ne (xs := []) (ys := []) (n₁ := []) (n₂ := []) (ds := []) (es := []) N ma rfl rfl .nil (fun _ h => nomatch h) mb rfl rfl .nil (fun _ h => nomatch h) (fun _ h => nomatch h) (fun _ h => nomatch h) hu (by simpa using h)
theorem comp_invT {m : Str → Option Value} {env : Env} {ct elt : PySem.Expr} {x : Str} {scope : Scope} {cl : List (Str × Addr)} {S : Led → Prop} {P : Nat → Value → Prop} {Fin : List Value → Led → Prop} (J : Nat → List Value → Led → Prop) :
    ∀ (n i₀ : Nat) (ys : List Value) (news : Led),
    (∀ i ys news v I oI C oC D m₂ h tk (E' : Value → Shared → Prop), i₀ ≤ i → i < i₀ + n → P i v → LCg.NsObj oC m₂ → m₂ x = some v → Fr h₀ L h m → News h₀ L h ((I, oI) :: (C, oC) :: (D, LCg.lst ys) :: news) → LCg.Off3 I C D news → ((@Ne Nat I C) ∧ (@Ne Nat I D) ∧ (@Ne Nat C D)) → J i ys news →
      wpAny (model prog w) A (isTrue ct (compEnvC scope cl C env) (eval ct (compEnvC scope cl C env))) (fun ok s' => if ok = true then
        wpAny (model prog w) A (eval elt (compEnvC scope cl C env)) (LCg.CompEnd h₀ L m { s with heap := h, toks := tk } I oI C oC D (LCg.lst ys) S (fun y news' => J (i + 1) (ys ++ [y]) news')) E' s'
        else LCg.CompEnd h₀ L m { s with heap := h, toks := tk } I oI C oC D (LCg.lst ys) S (fun _ news' => J (i + 1) ys news') Value.none s') E' { s with heap := h, toks := tk }) →
    (∀ ys news, J (i₀ + n) ys news → Fin ys news) → J i₀ ys news → LCt.CompRestT prog w A h₀ L m env ct elt x scope cl s S P Fin n i₀ ys news
  | 0, i₀, ys, news, _, fin, h0 => fin ys news h0
  | n + 1, i₀, ys, news, turn, fin, h0 => by
    have up : ∀ ys news, J (i₀ + 1) ys news → LCt.CompRestT prog w A h₀ L m env ct elt x scope cl s S P Fin n (i₀ + 1) ys news := fun ys news hr => by
      refine comp_invT J n (i₀ + 1) _ _ (fun i ys news v I oI C oC D m₂ h tk E' h1 h2 => turn i ys news v I oI C oC D m₂ h tk E' (by omega) (by omega)) (fun ys news hJ => fin ys news (by rw [show i₀ + (n + 1) = i₀ + 1 + n by omega]; exact hJ)) hr
    refine LCt.CompRestT.succ ?_
    intro v I oI C oC D m₂ h tk E' hv hC hx F N off ne
    refine wpAny_mono (turn i₀ ys news v I oI C oC D m₂ h tk E' (Nat.le_refl _) (by omega) hv hC hx F N off ne h0) (fun ok s₂ hs => ?_) fun _ _ e => e
    cases ok with
    | true =>
      simp only [if_true] at hs ⊢
      refine wpAny_mono hs (fun y s₃ hs => ?_) fun _ _ e => e
      obtain ⟨h', tk', news', e, F', N', off', hS, hr⟩ := hs
      exact ⟨h', tk', news', e, F', N', off', hS, up _ _ hr⟩
    | false =>
      simp only [Bool.false_eq_true, if_false] at hs ⊢
      obtain ⟨h', tk', news', e, F', N', off', hS, hr⟩ := hs
      exact ⟨h', tk', news', e, F', N', off', hS, up _ _ hr⟩
end
theorem ints_push {vs : List Value} {ns : List Int} {k : Int} {t : Tok} (h : IntsAre vs ns) : IntsAre (vs ++ [.int k t]) (ns ++ [k]) := by
  induction h with
  | nil => exact .cons _ _ .nil
  | cons k' t' _ ih => exact .cons _ _ ih
noncomputable def WInv (ws : Nat → Int) (i : Nat) (ys : List Value) : Prop := ∃ ns, IntsAre ys ns ∧ (∀ j, j < i → 0 < ws j → ws j ∈ ns) ∧ ns.length ≤ i
theorem WInv.yes {ws : Nat → Int} {i : Nat} {ys : List Value} {t : Tok} (h : WInv ws i ys) : WInv ws (i + 1) (ys ++ [.int (ws i) t]) := by
  obtain ⟨ns, h1, h2, h3⟩ := h
  refine ⟨ns ++ [ws i], ints_push h1, fun j hj hp => ?_, by simp; exact h3⟩
  by_cases e : j = i
  · subst e; exact List.mem_append_right _ (.head _)
  · exact List.mem_append_left _ (h2 j (by omega) hp)
theorem WInv.no {ws : Nat → Int} {i : Nat} {ys : List Value} (h : WInv ws i ys) (h0 : ¬ 0 < ws i) : WInv ws (i + 1) ys := by
  obtain ⟨ns, h1, h2, h3⟩ := h
  refine ⟨ns, h1, fun j hj hp => ?_, Nat.le_succ_of_le h3⟩
  by_cases e : j = i
  · subst e; exact absurd hp h0
  · exact h2 j (by omega) hp
theorem pw_no (ws : Nat → Int) (hw : ∀ i, 0 ≤ ws i ∧ ws i < 6) {a p c : Nat} (ha : a < 4) (hp : p < 4) (hc : c < 4) : ¬ (pw ws 2 a c < if pw ws 2 p c < pw ws 2 a p then pw ws 2 p c else pw ws 2 a p) := by
  have h := pw_trans ws hw ha hp hc
  have e : ∀ x y : Int, (if y < x then y else x) = min x y := fun x y => by split <;> omega
  rw [e]
  exact h
theorem rowsI_at {n : Led} {r0 r1 r2 r3 : Addr} {M : Nat → Nat → Int} {i : Nat} {a : Itm} {v : Value} {h : Heap} (h0 : RowI n r0 (M 0)) (h1 : RowI n r1 (M 1)) (h2 : RowI n r2 (M 2)) (h3 : RowI n r3 (M 3))
    (hi : ([Value.ref r0, .ref r1, .ref r2, .ref r3].map Itm.val)[i]? = some a) (ha : a.Is v h) : ∃ r, v = .ref r ∧ RowI n r (M i) ∧ i < 4 := by
  rcases i with _ | _ | _ | _ | i
  · cases hi; exact ⟨_, ha, h0, by decide⟩
  · cases hi; exact ⟨_, ha, h1, by decide⟩
  · cases hi; exact ⟨_, ha, h2, by decide⟩
  · cases hi; exact ⟨_, ha, h3, by decide⟩
  · simp at hi
noncomputable def V3 (v1 v2 v3 x : Int) : Prop := x = v1 ∨ x = v2 ∨ x = v3
noncomputable def CInv (v1 v2 v3 : Int) (k : Nat) (ys : List Value) : Prop := ∃ ns, IntsAre ys ns ∧ ns.length ≤ k ∧ ∀ x ∈ ns, V3 v1 v2 v3 x
theorem CInv.yes {v1 v2 v3 x : Int} {k : Nat} {ys : List Value} {t : Tok} (h : CInv v1 v2 v3 k ys) (hx : V3 v1 v2 v3 x) : CInv v1 v2 v3 (k + 1) (ys ++ [.int x t]) := by
  obtain ⟨ns, h1, h2, h3⟩ := h
  refine ⟨ns ++ [x], ints_push h1, by simp; exact h2, fun y hy => ?_⟩
  rcases List.mem_append.mp hy with hy | hy
  · exact h3 y hy
  · rw [List.mem_singleton.mp hy]; exact hx
theorem CInv.no {v1 v2 v3 : Int} {k : Nat} {ys : List Value} (h : CInv v1 v2 v3 k ys) : CInv v1 v2 v3 (k + 1) ys := by
  obtain ⟨ns, h1, h2, h3⟩ := h
  exact ⟨ns, h1, Nat.le_succ_of_le h2, h3⟩
theorem row_v3 {M : Nat → Nat → Int} {v1 v2 v3 : Int} {i k : Nat} (h : ∀ c, c < 4 → M i c < 6 → V3 v1 v2 v3 (M i c)) (hx : [M i 0, M i 1, M i 2, M i 3].getD k 0 ∈ [M i 0, M i 1, M i 2, M i 3]) (h6 : [M i 0, M i 1, M i 2, M i 3].getD k 0 < 6) : V3 v1 v2 v3 ([M i 0, M i 1, M i 2, M i 3].getD k 0) := by
  generalize [M i 0, M i 1, M i 2, M i 3].getD k 0 = x at hx h6
  simp only [List.mem_cons, List.not_mem_nil, or_false] at hx
  rcases hx with rfl | rfl | rfl | rfl
  · exact h 0 (by decide) h6
  · exact h 1 (by decide) h6
  · exact h 2 (by decide) h6
  · exact h 3 (by decide) h6
noncomputable def UInv (us : List Int) (i : Nat) (ys : List Value) : Prop := ∃ ds, IntsAre ys ds ∧ ds.Nodup ∧ ∀ x ∈ ds, x ∈ us.take i
theorem UInv.no {us : List Int} {i : Nat} {ys : List Value} (h : UInv us i ys) : UInv us (i + 1) ys := by
  obtain ⟨ds, h1, h2, h3⟩ := h
  exact ⟨ds, h1, h2, fun x hx => List.take_subset_take_left us (Nat.le_succ i) (h3 x hx)⟩
theorem UInv.yes {us : List Int} {i : Nat} {ys : List Value} {t : Tok} (h : UInv us i ys) (hi : i < us.length) (hn : us.getD i 0 ∉ us.take i) : UInv us (i + 1) (ys ++ [.int (us.getD i 0) t]) := by
  obtain ⟨ds, h1, h2, h3⟩ := h
  have e : us.getD i 0 = us[i] := by simp [hi]
  have e2 : us.take (i + 1) = us.take i ++ [us[i]] := by simp
  refine ⟨ds ++ [us.getD i 0], ints_push h1, ?_, fun x hx => ?_⟩
  · rw [List.nodup_append]
    refine ⟨h2, by simp, fun a ha b hb => ?_⟩
    rw [List.mem_singleton.mp hb]
    exact fun e => hn (e ▸ h3 a ha)
  · rw [e2]
    rcases List.mem_append.mp hx with hx | hx
    · exact List.mem_append_left _ (h3 x hx)
    · rw [List.mem_singleton.mp hx, e]; exact List.mem_append_right _ (.head _)
abbrev SR : List Str := [Str.ofString "row"]
theorem SR_no {y : Str} (h : SR.contains y = false) : y ≠ Str.ofString "row" := by simpa [List.contains_cons] using h
theorem sr_form {u m : Str → Option Value} {s : Option Value} : ∀ y, SR.contains y = false → (fun y => if y = Str.ofString "row" then s else if SR.contains y = true then u y else m y) y = m y := by
  intro y hy
  simp only [if_neg (SR_no hy), hy]
  rfl
end
section
local macro_rules | `(tactic| walk_at "exec For Name Name cons nil") => `(tactic| (k_here; (rename Fr _ _ _ _ => lF'); (with_unfolding_all refine' For_turns lF' ?_); k_whole))
local macro_rules | `(tactic| walk_at "CompSrcT") => `(tactic| (refine Stop.out ?_))
local macro_rules | `(tactic| walk_at "my off") => `(tactic| ((fail_if_success (with_reducible show wpAny _ _ (call (Value.ref _) _) _ _ _)); (fail_if_success (with_reducible show wpAny _ _ (compareOp .NotEq (Value.ref _) (Value.ref _)) _ _ _)); (fail_if_success (with_reducible show wpAny _ _ (compareOp .Eq (Value.ref _) (Value.ref _)) _ _ _)); (fail_if_success (with_reducible show wpAny _ _ (compareOp .NotIn _ _) _ _ _)); (fail_if_success (with_reducible show wpAny _ _ (exec (Stmt.Assign _ (Expr.ListComp _ _ _ _) _) _) _ _ _)); (fail_if_success (with_reducible show wpAny _ _ (eval (Expr.ListComp _ _ _ _) _) _ _ _)); (fail_if_success (with_reducible show wpAny _ _ (call (Value.type "enumerate") _) _ _ _)); (fail_if_success (with_reducible show wpAny _ _ (subscriptTail _ _ (Value.ref _) (Value.int _ _)) _ _ _))))
local macro_rules | `(tactic| walk_at "my stc") => `(tactic| repeat' (first | (walk_at "my off"; first | (k_unfold; (try dsimp only)) | (walk1 <;> (try dsimp only))) | fail "no step"))
local macro_rules | `(tactic| walk_at "my std") => `(tactic| repeat' (first | (walk_at "my off"; first | (k_unfold; (try dsimp only)) | walk1 | (dsimp only; walk1)) | fail "no step"))
local macro_rules | `(tactic| walk_at "my stI") => `(tactic| repeat' (first | (walk_at "my off"; (fail_if_success (with_reducible show wpAny _ _ (exec (Stmt.If _ _ _ _) _) _ _ _)); first | (k_unfold; (try dsimp only)) | (walk1 <;> (try dsimp only))) | fail "no step"))
local macro_rules | `(tactic| walk_at "execs nil") => `(tactic| (refine wpAny_execs_nil ?_))
local macro_rules | `(tactic| walk_at "subscriptTail Name Subscript ref int") => `(tactic| (k_here; k_dflt (refine' item_litK ?k1 ?k2 ?k3 ?k4 ?_ ?k6; (case k1 => exact News.isList (by k_asm) (by k_mem)); (case k2 => decide); (case k3 => decide); (case k4 => rfl); (case k6 => with_unfolding_all rfl); k_whole)))
local macro_rules | `(tactic| walk_at "my goS") => `(tactic| repeat' (first | ((fail_if_success (with_reducible show wpAny _ _ (subscriptTail _ _ _ _) _ _ _)); first | (k_unfold; (try dsimp only)) | (walk1 <;> (try dsimp only))) | fail "no step"))
local macro_rules | `(tactic| walk_at "my go") => `(tactic| repeat' (first | (k_unfold; (try dsimp only)) | walk1 | (dsimp only; walk1) | fail "no step"))
local macro_rules | `(tactic| walk_at "eval IfExp") => `(tactic| (refine Stop.out ?_))
local macro_rules | `(tactic| walk_at "exec For Tuple Call cons nil") => `(tactic| (k_here; (rename Fr _ _ _ _ => lF'); (with_unfolding_all refine' For_turns lF' ?_; k_whole)))
local macro_rules | `(tactic| walk_at "eval ListComp") => `(tactic| (k_here; k_dflt (refine LCg.ListComp_U (F₀ := by k_asm) (by with_unfolding_all rfl) (by decide) (by rfl) (by decide) (by rfl) ?_)))
local macro_rules | `(tactic| walk_at "CompSrc") => `(tactic| (refine Stop.out ?_))
local macro_rules | `(tactic| walk_at "my steps134") => `(tactic| repeat' (first | ((fail_if_success (with_reducible show wpAny _ _ (call (Value.ref 134) _) _ _ _)); first | (k_unfold; (try dsimp only)) | walk1 | (dsimp only; walk1)) | fail "no step"))
local macro_rules | `(tactic| walk_at "exec For Name Call cons nil") => `(tactic| (k_here; (rename Fr _ _ _ _ => lF'); (with_unfolding_all refine' For_turns lF' ?_); k_whole))
local macro_rules | `(tactic| walk_at "pyIter ref") => `(tactic| ((with_reducible show wpAny _ _ (pyIter (Value.ref _)) _ _ _); refine Stop.out ?_))
local macro_rules | `(tactic| walk_at "call ref cons") => `(tactic| (k_here; (with_reducible show wpAny _ _ (call (Value.ref 123) _) _ _ _); k_dflt (refine' CallOK.use (sp_world _ _ _ _) ?u1 ?u2 ?u3 ?u4 ?u5 ?u6 ?u7 ?u8 ?_; (case u1 => k_asm); walk_at "my use2"; intro v9 n9 h9 tk9 F9 N9 hP9; obtain ⟨⟨x9, e9⟩, e9z⟩ := hP9; subst v9; subst n9; (try dsimp only))))
theorem letA {prog : Program} {w : World} {c : Around} {en : Env} {body : List Stmt} {Q : Flow → Shared → Prop} {E : Value → Shared → Prop} {s : Shared} (h : let en' := en; let A' := c.deeper en'; wpAny (model prog w) A' (execs body en') Q E s) : wpAny (model prog w) (c.deeper en) (execs body en) Q E s := h
theorem letM {h₀ h : Heap} {L : Addr} {m : Str → Option Value} {P : Prop} (H : let mp := m; Fr h₀ L h mp → P) : Fr h₀ L h m → P := H
theorem apart2 {a b c d e f : Addr × Obj} {tl tl2 : Led} {x : Addr} (h : ∀ p ∈ a :: b :: c :: d :: e :: f :: tl, p.1 ≠ x) (k : ∀ p ∈ tl2, p.1 ≠ x) : ∀ p ∈ a :: b :: c :: d :: e :: f :: tl2, p.1 ≠ x := by
  obtain ⟨h1, h⟩ := List.forall_mem_cons.mp h
  obtain ⟨h2, h⟩ := List.forall_mem_cons.mp h
  obtain ⟨h3, h⟩ := List.forall_mem_cons.mp h
  obtain ⟨h4, h⟩ := List.forall_mem_cons.mp h
  obtain ⟨h5, h⟩ := List.forall_mem_cons.mp h
  obtain ⟨h6, h⟩ := List.forall_mem_cons.mp h
  exact List.forall_mem_cons.mpr ⟨h1, List.forall_mem_cons.mpr ⟨h2, List.forall_mem_cons.mpr ⟨h3, List.forall_mem_cons.mpr ⟨h4, List.forall_mem_cons.mpr ⟨h5, List.forall_mem_cons.mpr ⟨h6, k⟩⟩⟩⟩⟩⟩
theorem cutF {mid W : (Flow → Shared → Prop) → Prop} {Q : Flow → Shared → Prop} (h : ∀ R, mid R → W R) (k : mid Q) : W Q := h Q k
theorem wm_form {u m : Str → Option Value} {v l s : Option Value} : ∀ y, SW.contains y = false → (fun y => if y = Str.ofString "width" then v else if y = Str.ofString "line" then l else if y = Str.ofString "spot" then s else if SW.contains y = true then u y else m y) y = m y := by
  intro y hy
  obtain ⟨h1, h2, h3⟩ := SW_no hy
  simp only [if_neg h1, if_neg h2, if_neg h3, hy]
  rfl
theorem noseq_cell {o : Obj} {c : Option Value} (h : o.data = .cell c) : ∀ vs k, (o.cls = .type "list" ∨ o.cls = .type "tuple") → o.data ≠ .seq vs k := by
  intro _ _ _ e
  rw [h] at e
  cases e
theorem noseq_cls {o : Obj} {c : String} (h : o.cls = .type c) (h1 : c ≠ "list") (h2 : c ≠ "tuple") : ∀ vs k, (o.cls = .type "list" ∨ o.cls = .type "tuple") → o.data ≠ .seq vs k := by
  intro _ _ e _
  rw [h] at e
  rcases e with e | e
  · exact h1 (Value.type.inj e)
  · exact h2 (Value.type.inj e)
abbrev SP : List Str := [Str.ofString "steps", Str.ofString "power", Str.ofString "spot", Str.ofString "line", Str.ofString "width"]
theorem SP_no {y : Str} (h : SP.contains y = false) : y ≠ Str.ofString "steps" ∧ SW.contains y = false := by
  have h' : y ≠ Str.ofString "steps" ∧ y ≠ Str.ofString "power" ∧ y ≠ Str.ofString "spot" ∧ y ≠ Str.ofString "line" ∧ y ≠ Str.ofString "width" := by simpa [List.contains_cons] using h
  exact ⟨h'.1, by simp [SW, h'.2.2.1, h'.2.2.2.1, h'.2.2.2.2]⟩
theorem nmem4 {d a b c e : Nat} (h1 : @Ne Nat d a) (h2 : @Ne Nat d b) (h3 : @Ne Nat d c) (h4 : @Ne Nat d e) : d ∉ [a, b, c, e] := by
  intro h
  simp only [List.mem_cons, List.not_mem_nil, or_false] at h
  rcases h with h | h | h | h
  · exact h1 h
  · exact h2 h
  · exact h3 h
  · exact h4 h
theorem sp_form {u m : Str → Option Value} {v s v0 : Option Value} : ∀ y, y ≠ Str.ofString "power" → SP.contains y = false → (fun y => if y = Str.ofString "power" then v else if y = Str.ofString "steps" then s else if y = Str.ofString "power" then v0 else if SP.contains y = true then u y else m y) y = m y := by
  w_top off
  intro y hp hy
  simp only [if_neg hp, if_neg (SP_no hy).1, hy]
  rfl
theorem own_move {own bs : Led} {a b c d e f : Addr × Obj} : ∀ p ∈ a :: b :: c :: d :: e :: f :: (bs ++ own), p ∈ own ++ a :: b :: c :: d :: e :: f :: bs := by
  intro p hp
  simp only [List.mem_cons, List.mem_append] at hp ⊢
  rcases hp with h | h | h | h | h | h | h | h <;> simp [h]
theorem own_back {own bs : Led} {a b c d e f : Addr × Obj} : ∀ p ∈ own ++ a :: b :: c :: d :: e :: f :: bs, p ∈ a :: b :: c :: d :: e :: f :: (bs ++ own) := by
  intro p hp
  simp only [List.mem_cons, List.mem_append] at hp ⊢
  rcases hp with h | h | h | h | h | h | h | h <;> simp [h]
theorem n_at_w {x y z : Option Value} : (if Str.ofString "at" = Str.ofString "width" then y else if Str.ofString "at" = Str.ofString "at" then x else z) = x := by
  rw [if_neg (by decide), if_pos rfl]
theorem sucs1 {n : Nat} : n < n + 1 := Nat.lt_succ_self n
theorem sucs2 {n : Nat} : n < n + 1 + 1 := Nat.lt_succ_of_lt sucs1
theorem sucs3 {n : Nat} : n < n + 1 + 1 + 1 := Nat.lt_succ_of_lt sucs2
theorem cutW {α : Type} {W : (α → Shared → Prop) → Prop} {Q : α → Shared → Prop} (h : ∀ R : α → Shared → Prop, (∀ a s, Q a s → R a s) → W R) : W Q := h Q fun _ _ h => h
theorem cutE {prog : Program} {w : World} {A : Around} {E : Value → Shared → Prop} {s : Shared} {env : Env} {h₀ : Heap} {target : PySem.Expr} {body : List Stmt} {Q : Flow → Shared → Prop} {f : Value} {args : List Value} (h : ∀ R : Flow → Shared → Prop, (∀ a s, Q a s → R a s) → wpAny (model prog w) A (call f args) (fun xv s₁ => wpAny (model prog w) A (pyIter xv) (fun it s₂ => TurnsAt prog w A h₀ env target body R E it s₂) E s₁) E s) : wpAny (model prog w) A (call f args) (fun xv s₁ => wpAny (model prog w) A (pyIter xv) (fun it s₂ => TurnsAt prog w A h₀ env target body Q E it s₂) E s₁) E s := h Q fun _ _ h => h
theorem cutQ {mid W : (Value → Shared → Prop) → Prop} {Q : Value → Shared → Prop} (h : ∀ R, mid R → W R) (k : mid Q) : W Q := h Q k
set_option maxRecDepth 100000 in
set_option maxHeartbeats 8000000 in
theorem law_holds : PySem.Challenge.rw_tk0001_01.Holds := hd ⟨left_by (by rfl) (by rfl) (fun s => by rfl) (by
  intro w
  unfold topFrom
  rw [PySem.W.Fast.te14364793385576792824, PySem.W.Fast.te4187177175401517315, PySem.W.Fast.te14082659384304107361, PySem.W.Fast.te5923862056798008813]
  kernel_rfl), by
  k_go0; (all_goals try k_fold)
  rename_i w s₀ s₁ mg mb G Y fa ofa pm cd doc hofa hcd hg X V T B TE TW ns0 hs hlay0 hL0 hr0 hl2 la1 la2 sc vs0 la3 hL ra w1 r0 hI hrr hcond hcond2 hD h₁ tk₁ o4 o3 o2 o1 d4 d3 d2 d1 X0 X' T' K' F' N' l0
  replace d4 : o4.data = .cell none := d4
  replace d3 : o3.data = .cell none := d3
  replace d2 : o2.data = .cell none := d2
  replace d1 : o1.data = .cell none := d1
  clear G Y X V B TE TW hs hlay0 hL0 hr0 hl2 r0 hrr hcond2 hD X0 T w1 ra hofa hcd
  have s12 : @LT.lt Nat _ (s₁.heap.objs.size + 1) (s₁.heap.objs.size + 1 + 1) := sucs1
  have s13 : @LT.lt Nat _ (s₁.heap.objs.size + 1) (s₁.heap.objs.size + 1 + 1 + 1) := sucs2
  have s23 : @LT.lt Nat _ (s₁.heap.objs.size + 1 + 1) (s₁.heap.objs.size + 1 + 1 + 1) := sucs1
  have s14 : @LT.lt Nat _ (s₁.heap.objs.size + 1) (s₁.heap.objs.size + 1 + 1 + 1 + 1) := sucs3
  have s24 : @LT.lt Nat _ (s₁.heap.objs.size + 1 + 1) (s₁.heap.objs.size + 1 + 1 + 1 + 1) := sucs2
  have s34 : @LT.lt Nat _ (s₁.heap.objs.size + 1 + 1 + 1) (s₁.heap.objs.size + 1 + 1 + 1 + 1) := sucs1
  have s01 : @LT.lt Nat _ 155 (s₁.heap.objs.size + 1) := Nat.lt_succ_of_lt (l0)
  have s02 : @LT.lt Nat _ 155 (s₁.heap.objs.size + 1 + 1) := Nat.lt_succ_of_lt (Nat.lt_succ_of_lt (l0))
  have s03 : @LT.lt Nat _ 155 (s₁.heap.objs.size + 1 + 1 + 1) := Nat.lt_succ_of_lt (Nat.lt_succ_of_lt (Nat.lt_succ_of_lt (l0)))
  have s04 : @LT.lt Nat _ 155 (s₁.heap.objs.size + 1 + 1 + 1 + 1) := Nat.lt_succ_of_lt (Nat.lt_succ_of_lt (Nat.lt_succ_of_lt (Nat.lt_succ_of_lt (l0))))
  revert F'
  refine letM ?_
  intro mp' F'
  refine letA ?_
  intro en' A'
  try k_fold
  walk_at "my go"
  unfold Stop
  rename_i q wq _ hIq hCq hLq l1q R _ l1R _ _ wx ln _ l1ln Dt _ l1D _ _ _ _ _ _ _ _ _ _ _ hr F2 N2 _
  clear lifted hL hLq
  let m0 : Str → Option Value := fun y => if y = "reel" then some (.ref R) else if y = "world" then some (.ref wx) else if y = "lines" then some (.ref ln) else mp' y
  have F3 : Fr (ghostOf s₁.heap [(159, 155)]) s₁.heap.objs.size _ m0 := F2
  have N3 : News (ghostOf s₁.heap [(159, 155)]) s₁.heap.objs.size _ ((ln, listOf #[] 0) :: (R, listOf #[.ref q, .int 0 (tk₁ + 1)] 0) :: (q, listOf wq.toArray 0) :: (s₁.heap.objs.size + 1 + 1 + 1 + 1, o4) :: (s₁.heap.objs.size + 1 + 1 + 1, o3) :: (s₁.heap.objs.size + 1 + 1, o2) :: (s₁.heap.objs.size + 1, o1) :: [(155, tabObj #[])]) := drop N2 (by walk_at "my sub")
  clear F2 N2
  refine cutW (W := fun R => wpAny _ _ _ (fun it s₂ => TurnsAt _ _ _ _ _ _ _ R _ it s₂) _ _) (fun RQ hRQ => ?_)
  refine iter_rangeT rfl hr (range_ok (n := 4) (by omega)).1 (range_ok (n := 4) (by omega)).2 F3 N3 ?_
  intro I hI
  have i1 : @LT.lt Nat _ ln I := hI _ (.head _)
  have i2 : @LT.lt Nat _ R I := hI _ (.tail _ (.head _))
  have i3 : @LT.lt Nat _ q I := hI _ (.tail _ (.tail _ (.head _)))
  have i4 : @LT.lt Nat _ (s₁.heap.objs.size + 1 + 1 + 1 + 1) I := hI _ (.tail _ (.tail _ (.tail _ (.head _))))
  have i5 : @LT.lt Nat _ (s₁.heap.objs.size + 1 + 1 + 1) I := hI _ (.tail _ (.tail _ (.tail _ (.tail _ (.head _)))))
  have i6 : @LT.lt Nat _ (s₁.heap.objs.size + 1 + 1) I := hI _ (.tail _ (.tail _ (.tail _ (.tail _ (.tail _ (.head _))))))
  have i7 : @LT.lt Nat _ (s₁.heap.objs.size + 1) I := hI _ (.tail _ (.tail _ (.tail _ (.tail _ (.tail _ (.tail _ (.head _)))))))
  have i8 : @LT.lt Nat _ 155 I := hI _ (.tail _ (.tail _ (.tail _ (.tail _ (.tail _ (.tail _ (.tail _ (.head _))))))))
  refine rest_inv (keep := []) (fun i mx nx => mx = m0 ∧ ∃ vs k ws t2 p2 p1 tups, nx = (ln, listOf vs k) :: (R, listOf #[.ref q, .int ((tri i : Nat) : Int) t2] 0) :: (q, listOf wq.toArray 0) :: (s₁.heap.objs.size + 1 + 1 + 1 + 1, o4) :: (s₁.heap.objs.size + 1 + 1 + 1, o3) :: (s₁.heap.objs.size + 1 + 1, p2) :: (s₁.heap.objs.size + 1, p1) :: (155, tabObj #[]) :: tups ∧ LnsN tups vs.toList ws (tri i) ∧ (∀ i, 0 ≤ ws i ∧ ws i < 6) ∧ (∃ c, p2.data = .cell c) ∧ (∃ c, p1.data = .cell c) ∧ (∀ p ∈ tups, @LT.lt Nat _ I p.1)) (fun _ _ _ _ => by trivial) _ 0 _ _ ?_ ?_ ?_
  · intro i a4 mx nx v hh tk4 ha1 ha2 hI0 F4 its hits N4
    refine cutW (W := fun R => wpAny _ _ _ (fun _ s₂ => wpAny _ _ _ R _ s₂) _ _) (fun RT hRT => ?_)
    obtain ⟨rfl, vs, k, ws, t2, p2, p1, tups, rfl, hT, hw, ⟨c2, e2⟩, ⟨c1, e1⟩, hap⟩ := hI0
    (try simp only [Nat.zero_add] at hRT)
    obtain ⟨hi4, ti, rfl⟩ := tok_at ha1 ha2
    obtain ⟨oI, rfl, _⟩ := objs1 hits
    simp only [List.cons_append, List.nil_append] at N4
    (try rw [Int.zero_add])
    rw [Nat.zero_add] at hT N4
    (try rw [Nat.zero_add])
    clear F3 N3 hr hI
    have u1 := apart_gt hap i1
    have u2 := apart_gt hap i2
    have u3 := apart_gt hap i3
    have u4 := apart_gt hap i4
    have u5 := apart_gt hap i5
    have u6 := apart_gt hap i6
    have u7 := apart_gt hap i7
    have u8 := apart_gt hap i8
    walk_at "my go"
    unfold Stop
    rename_i p1' _ _ d1' _ _ _ _ _ hr F5 N5 _
    refine cutW (W := fun R => wpAny _ _ _ (fun it s₂ => TurnsAt _ _ _ _ _ _ _ R _ it s₂) _ _) (fun RQ hRQ => ?_)
    refine iter_rangeT rfl hr (range_ok (n := i) (by omega)).1 (range_ok (n := i) (by omega)).2 F5 N5 ?_
    intro J hJ
    have j0 : @LT.lt Nat _ I J := hJ _ (.head _)
    have j9 : ∀ p ∈ tups, p.1 ≠ J := fun p hp => Nat.ne_of_lt (hJ _ (.tail _ (.tail _ (.tail _ (.tail _ (.tail _ (.tail _ (.tail _ (.tail _ (.tail _ hp))))))))))
    clear u1 u2 u3 u4 u5 u6 u7 u8 hJ
    refine rest_inv (keep := []) (fun j mx nx => mx = m0 ∧ ∃ vs k ws t2 p2 tups, nx = (I, oI) :: (ln, listOf vs k) :: (R, listOf #[.ref q, .int ((tri i + j : Nat) : Int) t2] 0) :: (q, listOf wq.toArray 0) :: (s₁.heap.objs.size + 1 + 1 + 1 + 1, o4) :: (s₁.heap.objs.size + 1 + 1 + 1, o3) :: (s₁.heap.objs.size + 1 + 1, p2) :: (s₁.heap.objs.size + 1, p1') :: (155, tabObj #[]) :: tups ∧ LnsN tups vs.toList ws (tri i + j) ∧ (∀ i, 0 ≤ ws i ∧ ws i < 6) ∧ (∃ c, p2.data = .cell c) ∧ (∀ p ∈ tups, @LT.lt Nat _ I p.1) ∧ (∀ p ∈ tups, p.1 ≠ J)) (fun _ _ _ _ => by trivial) _ 0 _ _ ?_ ?_ ?_
    · intro j a5 mx nx v hh5 tk5 hb1 hb2 hI0 F6 its hits N6
      refine cutW (W := fun R => wpAny _ _ _ (fun _ s₂ => wpAny _ _ _ R _ s₂) _ _) (fun RT hRT => ?_)
      obtain ⟨rfl, vs, k, ws, t2, p2, tups, rfl, hT, hw, ⟨c2, e2⟩, hap, hapJ⟩ := hI0
      (try simp only [Nat.zero_add] at hRT)
      obtain ⟨hj4, tj, rfl⟩ := tok_at hb1 hb2
      obtain ⟨oJ, rfl, _⟩ := objs1 hits
      simp only [List.cons_append, List.nil_append] at N6
      (try rw [Int.zero_add])
      rw [Nat.zero_add] at hT N6
      (try rw [Nat.zero_add])
      clear F5 N5 hr
      have u1 := apart_gt hap i1
      have u2 := apart_gt hap i2
      have u3 := apart_gt hap i3
      have u4 := apart_gt hap i4
      have u5 := apart_gt hap i5
      have u6 := apart_gt hap i6
      have u7 := apart_gt hap i7
      have u8 := apart_gt hap i8
      have u9 : ∀ p ∈ tups, p.1 ≠ I := fun p hp => Nat.ne_of_gt (hap p hp)
      have htri := tri_le i hi4
      walk_at "my steps134"
      rename_i p2' F7 N7 d2'
      have N8 : News (ghostOf s₁.heap [(159, 155)]) s₁.heap.objs.size _ ((R, listOf [.ref q, .int ((tri i + j : Nat) : Int) t2].toArray 0) :: (J, oJ) :: (I, oI) :: (ln, listOf vs k) :: (q, listOf wq.toArray 0) :: (s₁.heap.objs.size + 1 + 1 + 1 + 1, o4) :: (s₁.heap.objs.size + 1 + 1 + 1, o3) :: (s₁.heap.objs.size + 1 + 1, p2') :: (s₁.heap.objs.size + 1, p1') :: (155, tabObj #[]) :: tups) := drop N7 (by walk_at "my sub")
      refine cutW (W := fun R => wpAny _ _ _ R _ _) (fun RC hRC => ?_)
      refine' CallOK.use (sp_spun w _ R q wq _ 0 0 (tri i + j) 6 _ t2 ?g1 hIq ?g2 ?g3 (by decide) (by decide) ?g4) N8 ?u2 ?u3 ?u4 ?u5 ?u6 ?u7 ?u8 ?_
      (case g1 => k_mem)
      (case g2 => have := hIq.length; omega)
      (case g3 => k_all)
      (case g4 => omega)
      walk_at "my use2"
      rintro v9 n9 h9 tk9 F9 N9 ⟨v, tv, t', rfl, rfl, hv0, hv6⟩
      refine hRC _ _ ?_
      clear hRC
      (try dsimp only)
      clear F7 N7 N8 F6 N6
      have hz : vs.size ≤ sizeLine := Nat.le_trans (Nat.le_of_eq (by rw [← Array.length_toList]; exact hT.1)) (Nat.le_trans (by omega : tri i + j ≤ 40) (by decide))
      walk_at "my go"
      rename_i D _ lD _ F10 N10
      have N11 : News (ghostOf s₁.heap [(159, 155)]) s₁.heap.objs.size _ ((D, tupO [.int (j : Int) tj, .int (i : Int) ti, .int v tv]) :: (R, listOf #[.ref q, .int ((tri i + (j + 1) : Nat) : Int) t'] 0) :: (J, oJ) :: (I, oI) :: (ln, listOf (vs.push (.ref D)) (k + 1)) :: (q, listOf wq.toArray 0) :: (s₁.heap.objs.size + 1 + 1 + 1 + 1, o4) :: (s₁.heap.objs.size + 1 + 1 + 1, o3) :: (s₁.heap.objs.size + 1 + 1, p2') :: (s₁.heap.objs.size + 1, p1') :: (155, tabObj #[]) :: tups) := N10
      have dI : @LT.lt Nat _ I D := lD.2.2.1
      have dJ : @LT.lt Nat _ J D := lD.2.1
      refine hRT _ _ ⟨_, _, _, _, (I, oI) :: (ln, listOf (vs.push (.ref D)) (k + 1)) :: (R, listOf #[.ref q, .int ((tri i + (j + 1) : Nat) : Int) t'] 0) :: (q, listOf wq.toArray 0) :: (s₁.heap.objs.size + 1 + 1 + 1 + 1, o4) :: (s₁.heap.objs.size + 1 + 1 + 1, o3) :: (s₁.heap.objs.size + 1 + 1, p2') :: (s₁.heap.objs.size + 1, p1') :: (155, tabObj #[]) :: (D, tupO [.int (j : Int) tj, .int (i : Int) ti, .int v tv]) :: tups, rfl, F10, N11, by walk_at "my sub", by walk_at "my sub", ?_, rfl, _, _, _, t', p2', (D, tupO [.int (j : Int) tj, .int (i : Int) ti, .int v tv]) :: tups, rfl, ?_, ws_set (c := tri i + j) hw hv0 hv6, ⟨_, d2'⟩, ?_, ?_⟩
      · intro p hp z hz
        rw [List.mem_singleton.mp hz]
        revert p
        k_all
      · rw [Array.toList_push]
        refine (hT.mono fun p hp => .tail _ hp).push (ta := tj) (tb := ti) (tc := tv) ?_
        rw [(ln_tri i hi4 j hj4).1, (ln_tri i hi4 j hj4).2]
        exact .head _
      · exact List.forall_mem_cons.mpr ⟨dI, hap⟩
      · exact List.forall_mem_cons.mpr ⟨Nat.ne_of_gt dJ, hapJ⟩
    · rintro mx nx hh5 tk5 ⟨rfl, vs, k, ws, t2, p2, tups, rfl, hT, hw, ⟨c2, e2⟩, hap, hapJ⟩ F6 N6
      rw [Nat.zero_add, List.length_map, List.length_range] at hT N6
      clear F5 N5 hr
      refine hRQ _ _ ?_
      clear hRQ
      (try dsimp only)
      walk_at "my go"
      refine hRT _ _ ⟨_, _, _, _, (ln, listOf vs k) :: (R, listOf #[.ref q, .int ((tri (i + 1) : Nat) : Int) t2] 0) :: (q, listOf wq.toArray 0) :: (s₁.heap.objs.size + 1 + 1 + 1 + 1, o4) :: (s₁.heap.objs.size + 1 + 1 + 1, o3) :: (s₁.heap.objs.size + 1 + 1, p2) :: (s₁.heap.objs.size + 1, p1') :: (155, tabObj #[]) :: tups, rfl, F6, N6, by walk_at "my sub", ?_, ?_, rfl, _, _, ws, t2, p2, p1', tups, rfl, hT, hw, ⟨_, e2⟩, ⟨_, d1'⟩, hap⟩
      · exact fun p hp => .tail _ hp
      · have u9 : ∀ p ∈ tups, p.1 ≠ I := fun p hp => Nat.ne_of_gt (hap p hp)
        intro p hp z hz
        rw [List.mem_singleton.mp hz]
        revert p
        k_all
    · exact ⟨rfl, vs, k, ws, t2, p2, tups, rfl, hT, hw, ⟨c2, e2⟩, hap, j9⟩
  · rintro mx nx hh tk4 ⟨rfl, vs, k, ws, t2, p2, p1, tups, rfl, hT, hw, ⟨c2, e2⟩, ⟨c1, e1⟩, hap⟩ F4 N4
    rw [Nat.zero_add, List.length_map, List.length_range] at hT N4
    clear F3 N3 hr hI
    have u1 := apart_gt hap i1
    have u2 := apart_gt hap i2
    have u3 := apart_gt hap i3
    have u4 := apart_gt hap i4
    have u5 := apart_gt hap i5
    have u6 := apart_gt hap i6
    have u7 := apart_gt hap i7
    have u8 := apart_gt hap i8
    refine hRQ _ _ ?_
    clear hRQ
    (try dsimp only)
    walk_at "my steps134"
    have N8 : News (ghostOf s₁.heap [(159, 155)]) s₁.heap.objs.size _ ((R, listOf [.ref q, .int ((tri 4 : Nat) : Int) t2].toArray 0) :: (ln, listOf vs k) :: (q, listOf wq.toArray 0) :: (s₁.heap.objs.size + 1 + 1 + 1 + 1, o4) :: (s₁.heap.objs.size + 1 + 1 + 1, o3) :: (s₁.heap.objs.size + 1 + 1, p2) :: (s₁.heap.objs.size + 1, p1) :: (155, tabObj #[]) :: tups) := drop N4 (by walk_at "my sub")
    refine cutW (W := fun R => wpAny _ _ _ R _ _) (fun RC hRC => ?_)
    refine' CallOK.use (sp_spun w _ R q wq _ 0 0 (tri 4) 4 _ t2 ?g1 hIq ?g2 ?g3 (by decide) (by decide) ?g4) N8 ?u2 ?u3 ?u4 ?u5 ?u6 ?u7 ?u8 ?_
    (case g1 => k_mem)
    (case g2 => have := hIq.length; omega)
    (case g3 => k_all)
    (case g4 => decide)
    walk_at "my use2"
    rintro kk n9 h9 tk9 F9 N9 ⟨kd, tkd, t', rfl, rfl, hk0, hk4⟩
    refine hRC _ _ ?_
    clear hRC
    (try dsimp only)
    replace N9 : News (ghostOf s₁.heap [(159, 155)]) s₁.heap.objs.size _ ((ln, listOf vs k) :: (s₁.heap.objs.size + 1 + 1 + 1 + 1, o4) :: (s₁.heap.objs.size + 1 + 1 + 1, o3) :: (s₁.heap.objs.size + 1 + 1, p2) :: (s₁.heap.objs.size + 1, p1) :: (155, tabObj #[]) :: tups) := drop N9 (by walk_at "my sub")
    clear N8 N4 F4 u2 u3 l1q l1R l1D
    walk_at "my go"
    unfold Stop
    k_dflt (refine LCg.CompSrc.range (by rfl) (by k_asm) (by k_asm) (by assumption) (by first | decide | rfl) (by first | rfl | decide) (by first | size_fits | exact Nat.le_of_ble_eq_true rfl) ?_)
    intro gR
    refine comp_inv (fun j ys n2 => SixL ((ln, listOf vs k) :: (s₁.heap.objs.size + 1 + 1 + 1 + 1, o4) :: (s₁.heap.objs.size + 1 + 1 + 1, o3) :: (s₁.heap.objs.size + 1 + 1, p2) :: (s₁.heap.objs.size + 1, p1) :: (155, tabObj #[]) :: tups) j ys n2) 4 0 _ _ ?_ ?_ ⟨rfl, rfl⟩
    · rintro j ys n2 v3 I3 oI3 C3 oC3 D3 m3 hh3 tk3 E3 _ hj4 hv3 hC3 hx3 F5 N5 off3 ne3 hS
      walk_at "my go"
      rename_i D9 _ F10 N10 _ _ _ _ _ _ lD
      have N11 : News (ghostOf s₁.heap [(159, 155)]) s₁.heap.objs.size _ ((D9, listOf [.int 6 tk3, .int 6 tk3, .int 6 tk3, .int 6 tk3].toArray 0) :: (_, listOf #[.int 6 tk3] 0) :: (I3, oI3) :: (C3, oC3) :: (D3, LCg.lst ys) :: n2) := N10
      refine LCg.CompEnd.intro F10 N11 ((D9, listOf [.int 6 tk3, .int 6 tk3, .int 6 tk3, .int 6 tk3].toArray 0) :: n2) (by walk_at "my sub") ⟨⟨Nat.ne_of_gt lD.2.1, Nat.ne_of_gt lD.2.2.1, Nat.ne_of_gt lD.2.2.2.1⟩, off3⟩ trivial ⟨ys, n2, D9, tk3, rfl, rfl, all_ne_gt lD.2.2.2.2, hS⟩
    · rintro ys n2 hS
      obtain ⟨_, n3, r3, q3, rfl, rfl, v3, hS⟩ := hS
      obtain ⟨_, n4, r2, q2, rfl, rfl, v2, hS⟩ := hS
      obtain ⟨_, n5, r1, q1, rfl, rfl, v1, hS⟩ := hS
      obtain ⟨_, n6, r0, q0, rfl, rfl, v0, hS⟩ := hS
      obtain ⟨rfl, rfl⟩ := hS
      simp only [List.nil_append, List.cons_append]
      walk_at "my go"
      rename_i G _ _ F11 N11 oG
      let m1 : Str → Option Value := fun z => if z = "grid" then some (.ref G) else if z = "kinds" then some (.int kd tkd) else m0 z
      have F12 : Fr (ghostOf s₁.heap [(159, 155)]) s₁.heap.objs.size _ m1 := F11
      refine cutE (fun RQ hRQ => ?_)
      refine ktu_enum (lo := listOf vs k) (vs := vs.toList) rfl F12 N11 (.tail _ (.tail _ (.tail _ (.tail _ (.tail _ (.head _)))))) rfl rfl rfl ?_
      intro J hJ
      have b0 : @LT.lt Nat _ r0 J := hJ _ (.tail _ (.tail _ (.tail _ (.tail _ (.head _)))))
      have bb0 : @LT.lt Nat _ r0 (J + 1) := Nat.lt_succ_of_lt b0
      have c0 : @Ne Nat r0 G := oG.2.2.2.1
      have b1 : @LT.lt Nat _ r1 J := hJ _ (.tail _ (.tail _ (.tail _ (.head _))))
      have bb1 : @LT.lt Nat _ r1 (J + 1) := Nat.lt_succ_of_lt b1
      have c1 : @Ne Nat r1 G := oG.2.2.1
      have b2 : @LT.lt Nat _ r2 J := hJ _ (.tail _ (.tail _ (.head _)))
      have bb2 : @LT.lt Nat _ r2 (J + 1) := Nat.lt_succ_of_lt b2
      have c2 : @Ne Nat r2 G := oG.2.1
      have b3 : @LT.lt Nat _ r3 J := hJ _ (.tail _ (.head _))
      have bb3 : @LT.lt Nat _ r3 (J + 1) := Nat.lt_succ_of_lt b3
      have c3 : @Ne Nat r3 G := oG.1
      have d10 : @Ne Nat r0 r1 := v1 _ (.head _)
      have d20 : @Ne Nat r0 r2 := v2 _ (.tail _ (.head _))
      have d21 : @Ne Nat r1 r2 := v2 _ (.head _)
      have d30 : @Ne Nat r0 r3 := v3 _ (.tail _ (.tail _ (.head _)))
      have d31 : @Ne Nat r1 r3 := v3 _ (.tail _ (.head _))
      have d32 : @Ne Nat r2 r3 := v3 _ (.head _)
      have bG : @LT.lt Nat _ G J := hJ _ (.head _)
      have zJ : ∀ p ∈ (ln, listOf vs k) :: (s₁.heap.objs.size + 1 + 1 + 1 + 1, o4) :: (s₁.heap.objs.size + 1 + 1 + 1, o3) :: (s₁.heap.objs.size + 1 + 1, p2) :: (s₁.heap.objs.size + 1, p1) :: (155, tabObj #[]) :: tups, p.1 ≠ J := fun p hp => Nat.ne_of_lt (hJ p (.tail _ (.tail _ (.tail _ (.tail _ (.tail _ (hp)))))))
      have zK : ∀ p ∈ (ln, listOf vs k) :: (s₁.heap.objs.size + 1 + 1 + 1 + 1, o4) :: (s₁.heap.objs.size + 1 + 1 + 1, o3) :: (s₁.heap.objs.size + 1 + 1, p2) :: (s₁.heap.objs.size + 1, p1) :: (155, tabObj #[]) :: tups, p.1 ≠ J + 1 := fun p hp => Nat.ne_of_lt (Nat.lt_succ_of_lt (hJ p (.tail _ (.tail _ (.tail _ (.tail _ (.tail _ (hp))))))))
      have t0 : ∀ p ∈ (ln, listOf vs k) :: (s₁.heap.objs.size + 1 + 1 + 1 + 1, o4) :: (s₁.heap.objs.size + 1 + 1 + 1, o3) :: (s₁.heap.objs.size + 1 + 1, p2) :: (s₁.heap.objs.size + 1, p1) :: (155, tabObj #[]) :: tups, p.1 ≠ r0 := fun p hp => v0 p (hp)
      have t1 : ∀ p ∈ (ln, listOf vs k) :: (s₁.heap.objs.size + 1 + 1 + 1 + 1, o4) :: (s₁.heap.objs.size + 1 + 1 + 1, o3) :: (s₁.heap.objs.size + 1 + 1, p2) :: (s₁.heap.objs.size + 1, p1) :: (155, tabObj #[]) :: tups, p.1 ≠ r1 := fun p hp => v1 p (.tail _ (hp))
      have t2 : ∀ p ∈ (ln, listOf vs k) :: (s₁.heap.objs.size + 1 + 1 + 1 + 1, o4) :: (s₁.heap.objs.size + 1 + 1 + 1, o3) :: (s₁.heap.objs.size + 1 + 1, p2) :: (s₁.heap.objs.size + 1, p1) :: (155, tabObj #[]) :: tups, p.1 ≠ r2 := fun p hp => v2 p (.tail _ (.tail _ (hp)))
      have t3 : ∀ p ∈ (ln, listOf vs k) :: (s₁.heap.objs.size + 1 + 1 + 1 + 1, o4) :: (s₁.heap.objs.size + 1 + 1 + 1, o3) :: (s₁.heap.objs.size + 1 + 1, p2) :: (s₁.heap.objs.size + 1, p1) :: (155, tabObj #[]) :: tups, p.1 ≠ r3 := fun p hp => v3 p (.tail _ (.tail _ (.tail _ (hp))))
      refine rest_inv (fun i mx nx => ∃ R0 R1 R2 R3 tl, nx = (G, listOf [Value.ref r0, .ref r1, .ref r2, .ref r3].toArray 4) :: (r3, listOf R3.toArray 0) :: (r2, listOf R2.toArray 0) :: (r1, listOf R1.toArray 0) :: (r0, listOf R0.toArray 0) :: (ln, listOf vs k) :: (s₁.heap.objs.size + 1 + 1 + 1 + 1, o4) :: (s₁.heap.objs.size + 1 + 1 + 1, o3) :: (s₁.heap.objs.size + 1 + 1, p2) :: (s₁.heap.objs.size + 1, p1) :: (155, tabObj #[]) :: tl ∧ RowV tl R0 (GM ws i 0) ∧ RowV tl R1 (GM ws i 1) ∧ RowV tl R2 (GM ws i 2) ∧ RowV tl R3 (GM ws i 3) ∧ (∀ p ∈ tups, p ∈ tl) ∧ Aps tl [G, r3, r2, r1, r0, ln, s₁.heap.objs.size + 1 + 1 + 1 + 1, s₁.heap.objs.size + 1 + 1 + 1, s₁.heap.objs.size + 1 + 1, s₁.heap.objs.size + 1, 155, J, J + 1] ∧ ∀ y, SW.contains y = false → mx y = m1 y) ?_ _ 0 _ _ ?_ ?_ ?_
      · rintro i mx nx ⟨R0, R1, R2, R3, tl, rfl, _⟩
        exact ⟨.tail _ (.tail _ (.tail _ (.tail _ (.tail _ (.head _))))), trivial⟩
      · intro i a9 mx nx v hh tk6 ha1 ha2 hI0 F13 its hits N13
        refine cutW (W := fun R => wpAny _ _ _ (fun _ s₂ => wpAny _ _ _ R _ s₂) _ _) (fun RT hRT => ?_)
        obtain ⟨R0, R1, R2, R3, tl, rfl, hR0, hR1, hR2, hR3, hsub, hne, hm⟩ := hI0
        obtain ⟨x, hx, rfl⟩ := enum_at ha1
        obtain ⟨T9, t9, rfl, hT9⟩ := ha2
        obtain ⟨oE, oL, rfl, _, _⟩ := objs2 hits
        obtain ⟨u, rfl⟩ := frame_form0 hm
        have hi6 : i < 6 := by
          have h6 := (List.getElem?_eq_some_iff.mp hx).1
          rw [hT.1] at h6
          exact h6
        obtain ⟨d, ta, tb, tc, rfl, hd⟩ := hT.2 i x hx
        have hd' := hsub _ hd
        simp only [List.cons_append, List.nil_append] at N13
        clear F12 F11 N11 hJ
        refine cutF (mid := fun R => ∀ h' tk' m' R0 R1 R2 R3 tl', (∀ y, SW.contains y = false → m' y = m1 y) → Fr (ghostOf s₁.heap [(159, 155)]) s₁.heap.objs.size h' m' → News (ghostOf s₁.heap [(159, 155)]) s₁.heap.objs.size h' ((J + 1, oE) :: (J, oL) :: (G, listOf [Value.ref r0, .ref r1, .ref r2, .ref r3].toArray 4) :: (r3, listOf R3.toArray 0) :: (r2, listOf R2.toArray 0) :: (r1, listOf R1.toArray 0) :: (r0, listOf R0.toArray 0) :: (ln, listOf vs k) :: (s₁.heap.objs.size + 1 + 1 + 1 + 1, o4) :: (s₁.heap.objs.size + 1 + 1 + 1, o3) :: (s₁.heap.objs.size + 1 + 1, p2) :: (s₁.heap.objs.size + 1, p1) :: (155, tabObj #[]) :: tl') →
          RowV tl' R0 (GM ws (0 + i + 1) 0) → RowV tl' R1 (GM ws (0 + i + 1) 1) → RowV tl' R2 (GM ws (0 + i + 1) 2) → RowV tl' R3 (GM ws (0 + i + 1) 3) → (∀ p ∈ tups, p ∈ tl') → Aps tl' [G, r3, r2, r1, r0, ln, s₁.heap.objs.size + 1 + 1 + 1 + 1, s₁.heap.objs.size + 1 + 1 + 1, s₁.heap.objs.size + 1 + 1, s₁.heap.objs.size + 1, 155, J, J + 1] → R .next { s₁ with heap := h', toks := tk' }) (W := fun R => wpAny _ _ _ (fun _ s₂ => wpAny _ _ _ R _ s₂) _ _) (fun RF hRF => ?_) ?_
        rotate_left
        · intro h' tk' m' R0' R1' R2' R3' tl' hm' F' N' k0 k1 k2 k3 hs' ha'
          refine hRT _ _ ⟨_, _, _, _, (G, listOf [Value.ref r0, .ref r1, .ref r2, .ref r3].toArray 4) :: (r3, listOf R3'.toArray 0) :: (r2, listOf R2'.toArray 0) :: (r1, listOf R1'.toArray 0) :: (r0, listOf R0'.toArray 0) :: (ln, listOf vs k) :: (s₁.heap.objs.size + 1 + 1 + 1 + 1, o4) :: (s₁.heap.objs.size + 1 + 1 + 1, o3) :: (s₁.heap.objs.size + 1 + 1, p2) :: (s₁.heap.objs.size + 1, p1) :: (155, tabObj #[]) :: tl', rfl, F', N', by walk_at "my sub", by walk_at "my sub", ?_, _, _, _, _, _, rfl, k0, k1, k2, k3, hs', ha', hm'⟩
          obtain ⟨_, _, _, _, _, _, _, _, _, _, _, hJ1, hJ2, _⟩ := ha'
          have w1 : ∀ p ∈ (ln, listOf vs k) :: (s₁.heap.objs.size + 1 + 1 + 1 + 1, o4) :: (s₁.heap.objs.size + 1 + 1 + 1, o3) :: (s₁.heap.objs.size + 1 + 1, p2) :: (s₁.heap.objs.size + 1, p1) :: (155, tabObj #[]) :: tl', p.1 ≠ J := apart2 zJ hJ1
          have w2 : ∀ p ∈ (ln, listOf vs k) :: (s₁.heap.objs.size + 1 + 1 + 1 + 1, o4) :: (s₁.heap.objs.size + 1 + 1 + 1, o3) :: (s₁.heap.objs.size + 1 + 1, p2) :: (s₁.heap.objs.size + 1, p1) :: (155, tabObj #[]) :: tl', p.1 ≠ J + 1 := apart2 zK hJ2
          intro p hp z hz
          rcases List.mem_cons.mp hz with rfl | hz
          · revert p
            exact List.forall_mem_cons.mpr ⟨Nat.ne_of_lt (Nat.lt_succ_of_lt bG), List.forall_mem_cons.mpr ⟨Nat.ne_of_lt bb3, List.forall_mem_cons.mpr ⟨Nat.ne_of_lt bb2, List.forall_mem_cons.mpr ⟨Nat.ne_of_lt bb1, List.forall_mem_cons.mpr ⟨Nat.ne_of_lt bb0, w2⟩⟩⟩⟩⟩
          · rw [List.mem_singleton.mp hz]
            revert p
            exact List.forall_mem_cons.mpr ⟨Nat.ne_of_lt bG, List.forall_mem_cons.mpr ⟨Nat.ne_of_lt b3, List.forall_mem_cons.mpr ⟨Nat.ne_of_lt b2, List.forall_mem_cons.mpr ⟨Nat.ne_of_lt b1, List.forall_mem_cons.mpr ⟨Nat.ne_of_lt b0, w1⟩⟩⟩⟩⟩
        walk_at "my go"
        unfold Stop
        rename_i F14 N14
        refine cutQ (mid := fun R => ∀ v h' tk' tl2, Fr (ghostOf s₁.heap [(159, 155)]) s₁.heap.objs.size h' (fun y => if y = "line" then some (.ref d) else if y = "spot" then some (.int (i : Int) t9) else if SW.contains y = true then u y else m1 y) →
          News (ghostOf s₁.heap [(159, 155)]) s₁.heap.objs.size h' ((J + 1, oE) :: (J, oL) :: (G, listOf [Value.ref r0, .ref r1, .ref r2, .ref r3].toArray 4) :: (r3, listOf R3.toArray 0) :: (r2, listOf R2.toArray 0) :: (r1, listOf R1.toArray 0) :: (r0, listOf R0.toArray 0) :: (ln, listOf vs k) :: (s₁.heap.objs.size + 1 + 1 + 1 + 1, o4) :: (s₁.heap.objs.size + 1 + 1 + 1, o3) :: (s₁.heap.objs.size + 1 + 1, p2) :: (s₁.heap.objs.size + 1, p1) :: (155, tabObj #[]) :: tl2) → Num tl2 v (ws i) → (∀ p ∈ tl, p ∈ tl2) → Aps tl2 [G, r3, r2, r1, r0, ln, s₁.heap.objs.size + 1 + 1 + 1 + 1, s₁.heap.objs.size + 1 + 1 + 1, s₁.heap.objs.size + 1 + 1, s₁.heap.objs.size + 1, 155, J, J + 1] → R v { s₁ with heap := h', toks := tk' }) (W := fun R => wpAny _ _ _ R _ _) (fun R hR => ?_) ?_
        · refine IfExp_ ?_
          have N15 := ins N14 (show (d, tupO [.int (lnA i) ta, .int (lnB i) tb, .int (ws i) tc]) ∈ _ from .tail _ (.tail _ (.tail _ (.tail _ (.tail _ (.tail _ (.tail _ (.tail _ (.tail _ (.tail _ (.tail _ (.tail _ (.tail _ hd')))))))))))))
          clear N14
          walk_at "my go"
          · rename_i D9 _ F16 N16 lD
            have hD : Nes D9 [G, r3, r2, r1, r0, ln, s₁.heap.objs.size + 1 + 1 + 1 + 1, s₁.heap.objs.size + 1 + 1 + 1, s₁.heap.objs.size + 1 + 1, s₁.heap.objs.size + 1, 155, J, J + 1] := by
              obtain ⟨_, k1, k2, k3, k4, k5, k6, k7, k8, k9, k10, k11, k12, k13, _⟩ := lD
              exact ⟨Nat.ne_of_gt k3, Nat.ne_of_gt k4, Nat.ne_of_gt k5, Nat.ne_of_gt k6, Nat.ne_of_gt k7, Nat.ne_of_gt k8, Nat.ne_of_gt k9, Nat.ne_of_gt k10, Nat.ne_of_gt k11, Nat.ne_of_gt k12, Nat.ne_of_gt k13, Nat.ne_of_gt k2, Nat.ne_of_gt k1, trivial⟩
            exact hR _ _ _ ((D9, tupO [.int (ws i) tc, .int 0 (tk + 1 + 1 + 1 + 1 + 1 + 1)]) :: tl) F16 (drop N16 (by walk_at "my sub")) (.dec (.head _)) (fun p hp => .tail _ hp) (Aps.cons hD hne)
          · exact hR _ _ _ tl F14 (drop N15 (by walk_at "my sub")) (.int _ _) (fun p hp => hp) hne
          · exact hR _ _ _ tl F14 (drop N15 (by walk_at "my sub")) (.int _ _) (fun p hp => hp) hne
        · intro v h' tk' tl2 F15 N15 hv hs2 hne2
          have hd2 := hs2 _ hd'
          have N16 := ins N15 (show (d, tupO [.int (lnA i) ta, .int (lnB i) tb, .int (ws i) tc]) ∈ _ from .tail _ (.tail _ (.tail _ (.tail _ (.tail _ (.tail _ (.tail _ (.tail _ (.tail _ (.tail _ (.tail _ (.tail _ (.tail _ hd2)))))))))))))
          obtain ⟨g1, g2, g3, g4, g5, g6⟩ := Aps.at hd2 hne2
          obtain ⟨f1, f2, f3, f4, f5, f6, f7, f8, f9, f10, f11, f12, f13, _⟩ := id hne2
          obtain ⟨a00, a01, a02, a03, rfl, h00, h01, h02, h03⟩ := hR0.mono hs2
          obtain ⟨a10, a11, a12, a13, rfl, h10, h11, h12, h13⟩ := hR1.mono hs2
          obtain ⟨a20, a21, a22, a23, rfl, h20, h21, h22, h23⟩ := hR2.mono hs2
          obtain ⟨a30, a31, a32, a33, rfl, h30, h31, h32, h33⟩ := hR3.mono hs2
          obtain ⟨bs, hbs⟩ : ∃ bs, bs = (ln, listOf vs k) :: (s₁.heap.objs.size + 1 + 1 + 1 + 1, o4) :: (s₁.heap.objs.size + 1 + 1 + 1, o3) :: (s₁.heap.objs.size + 1 + 1, p2) :: (s₁.heap.objs.size + 1, p1) :: (155, tabObj #[]) :: tl2 := ⟨_, rfl⟩
          have N17 : News (ghostOf s₁.heap [(159, 155)]) s₁.heap.objs.size h' ((d, tupO [.int (lnA i) ta, .int (lnB i) tb, .int (ws i) tc]) :: (J + 1, oE) :: (J, oL) :: (G, listOf [Value.ref r0, .ref r1, .ref r2, .ref r3].toArray 4) :: (r3, listOf [a30, a31, a32, a33].toArray 0) :: (r2, listOf [a20, a21, a22, a23].toArray 0) :: (r1, listOf [a10, a11, a12, a13].toArray 0) :: (r0, listOf [a00, a01, a02, a03].toArray 0) :: bs) := hbs ▸ N16
          have y0 : ∀ p ∈ bs, p.1 ≠ r0 := hbs ▸ apart2 t0 f5
          have y1 : ∀ p ∈ bs, p.1 ≠ r1 := hbs ▸ apart2 t1 f4
          have y2 : ∀ p ∈ bs, p.1 ≠ r2 := hbs ▸ apart2 t2 f3
          have y3 : ∀ p ∈ bs, p.1 ≠ r3 := hbs ▸ apart2 t3 f2
          have hsb := fun p hp => hs2 p (hsub p hp)
          (try clear N13); (try clear F13); (try clear N14); (try clear its); (try clear hits); clear N15 N16 F14 hR0 hR1 hR2 hR3 hd hd' hd2 hne hsub hs2 f1 f2 f3 f4 f5 f6 f7 f8 f9 f10 f11
          walk_at "my goS"
          rename_i lD9 _ F18 N18
          obtain ⟨m1, m2, m3, m4, m5, m6, m7, m8, m9⟩ := lD9
          have hi' : i = 0 ∨ i = 1 ∨ i = 2 ∨ i = 3 ∨ i = 4 ∨ i = 5 := by omega
          rcases hi' with rfl | rfl | rfl | rfl | rfl | rfl
          · replace N18 : News _ _ _ (_ :: (d, tupO [.int 0 ta, .int 1 tb, .int (ws 0) tc]) :: _) := N18
            walk_at "my go"
            rename_i F19 N19
            refine hRF _ _ _ [a00, v, a02, a03] [v, a11, a12, a13] [a20, a21, a22, a23] [a30, a31, a32, a33] tl2 ?_ F19 (drop N19 ?_) ⟨_, _, _, _, rfl, h00, hv, h02, h03⟩ ⟨_, _, _, _, rfl, hv, h11, h12, h13⟩ ⟨_, _, _, _, rfl, h20, h21, h22, h23⟩ ⟨_, _, _, _, rfl, h30, h31, h32, h33⟩ hsb hne2
            · exact wm_form
            · rw [hbs]; walk_at "my sub"
          · replace N18 : News _ _ _ (_ :: (d, tupO [.int 0 ta, .int 2 tb, .int (ws 1) tc]) :: _) := N18
            walk_at "my go"
            rename_i F19 N19
            refine hRF _ _ _ [a00, a01, v, a03] [a10, a11, a12, a13] [v, a21, a22, a23] [a30, a31, a32, a33] tl2 ?_ F19 (drop N19 ?_) ⟨_, _, _, _, rfl, h00, h01, hv, h03⟩ ⟨_, _, _, _, rfl, h10, h11, h12, h13⟩ ⟨_, _, _, _, rfl, hv, h21, h22, h23⟩ ⟨_, _, _, _, rfl, h30, h31, h32, h33⟩ hsb hne2
            · exact wm_form
            · rw [hbs]; walk_at "my sub"
          · replace N18 : News _ _ _ (_ :: (d, tupO [.int 1 ta, .int 2 tb, .int (ws 2) tc]) :: _) := N18
            walk_at "my go"
            rename_i F19 N19
            refine hRF _ _ _ [a00, a01, a02, a03] [a10, a11, v, a13] [a20, v, a22, a23] [a30, a31, a32, a33] tl2 ?_ F19 (drop N19 ?_) ⟨_, _, _, _, rfl, h00, h01, h02, h03⟩ ⟨_, _, _, _, rfl, h10, h11, hv, h13⟩ ⟨_, _, _, _, rfl, h20, hv, h22, h23⟩ ⟨_, _, _, _, rfl, h30, h31, h32, h33⟩ hsb hne2
            · exact wm_form
            · rw [hbs]; walk_at "my sub"
          · replace N18 : News _ _ _ (_ :: (d, tupO [.int 0 ta, .int 3 tb, .int (ws 3) tc]) :: _) := N18
            walk_at "my go"
            rename_i F19 N19
            refine hRF _ _ _ [a00, a01, a02, v] [a10, a11, a12, a13] [a20, a21, a22, a23] [v, a31, a32, a33] tl2 ?_ F19 (drop N19 ?_) ⟨_, _, _, _, rfl, h00, h01, h02, hv⟩ ⟨_, _, _, _, rfl, h10, h11, h12, h13⟩ ⟨_, _, _, _, rfl, h20, h21, h22, h23⟩ ⟨_, _, _, _, rfl, hv, h31, h32, h33⟩ hsb hne2
            · exact wm_form
            · rw [hbs]; walk_at "my sub"
          · replace N18 : News _ _ _ (_ :: (d, tupO [.int 1 ta, .int 3 tb, .int (ws 4) tc]) :: _) := N18
            walk_at "my go"
            rename_i F19 N19
            refine hRF _ _ _ [a00, a01, a02, a03] [a10, a11, a12, v] [a20, a21, a22, a23] [a30, v, a32, a33] tl2 ?_ F19 (drop N19 ?_) ⟨_, _, _, _, rfl, h00, h01, h02, h03⟩ ⟨_, _, _, _, rfl, h10, h11, h12, hv⟩ ⟨_, _, _, _, rfl, h20, h21, h22, h23⟩ ⟨_, _, _, _, rfl, h30, hv, h32, h33⟩ hsb hne2
            · exact wm_form
            · rw [hbs]; walk_at "my sub"
          · replace N18 : News _ _ _ (_ :: (d, tupO [.int 2 ta, .int 3 tb, .int (ws 5) tc]) :: _) := N18
            walk_at "my go"
            rename_i F19 N19
            refine hRF _ _ _ [a00, a01, a02, a03] [a10, a11, a12, a13] [a20, a21, a22, v] [a30, a31, v, a33] tl2 ?_ F19 (drop N19 ?_) ⟨_, _, _, _, rfl, h00, h01, h02, h03⟩ ⟨_, _, _, _, rfl, h10, h11, h12, h13⟩ ⟨_, _, _, _, rfl, h20, h21, h22, hv⟩ ⟨_, _, _, _, rfl, h30, h31, hv, h33⟩ hsb hne2
            · exact wm_form
            · rw [hbs]; walk_at "my sub"
      · rintro mx nx hh tk6 ⟨R0, R1, R2, R3, tl, rfl, hR0, hR1, hR2, hR3, hsub, hne, hm⟩ F13 N13
        rw [Nat.zero_add, enumItems_length, hT.1] at hR0 hR1 hR2 hR3
        obtain ⟨u, rfl⟩ := frame_form0 hm
        obtain ⟨bs, hbs⟩ : ∃ bs, bs = (G, listOf [Value.ref r0, .ref r1, .ref r2, .ref r3].toArray 4) :: (r3, listOf R3.toArray 0) :: (r2, listOf R2.toArray 0) :: (r1, listOf R1.toArray 0) :: (r0, listOf R0.toArray 0) :: (ln, listOf vs k) :: tl := ⟨_, rfl⟩
        have hg : GridN bs G (pw ws 0) := by
          subst hbs
          exact ⟨r0, r1, r2, r3, 4, .head _, (hR0.mono fun p hp => .tail _ (.tail _ (.tail _ (.tail _ (.tail _ (.tail _ (hp))))))).row (n := 0) (.tail _ (.tail _ (.tail _ (.tail _ (.head _))))), (hR1.mono fun p hp => .tail _ (.tail _ (.tail _ (.tail _ (.tail _ (.tail _ (hp))))))).row (n := 0) (.tail _ (.tail _ (.tail _ (.head _)))), (hR2.mono fun p hp => .tail _ (.tail _ (.tail _ (.tail _ (.tail _ (.tail _ (hp))))))).row (n := 0) (.tail _ (.tail _ (.head _))), (hR3.mono fun p hp => .tail _ (.tail _ (.tail _ (.tail _ (.tail _ (.tail _ (hp))))))).row (n := 0) (.tail _ (.head _))⟩
        have hl : LinesN bs ln ws := by
          subst hbs
          exact (hT.mono fun p hp => .tail _ (.tail _ (.tail _ (.tail _ (.tail _ (.tail _ (hsub p hp))))))).lines (n := k) (.tail _ (.tail _ (.tail _ (.tail _ (.tail _ (.head _))))))
        have hb5 : ∀ p ∈ bs, p.1 ∉ [155, s₁.heap.objs.size + 1 + 1 + 1 + 1, s₁.heap.objs.size + 1 + 1 + 1, s₁.heap.objs.size + 1 + 1, s₁.heap.objs.size + 1] := by
          subst hbs
          obtain ⟨_, _, _, _, _, _, k4, k3, k2, k1, k0, _⟩ := hne
          have q0 : ∀ a : Nat, @Ne Nat 155 a → @Ne Nat (s₁.heap.objs.size + 1 + 1 + 1 + 1) a → @Ne Nat (s₁.heap.objs.size + 1 + 1 + 1) a → @Ne Nat (s₁.heap.objs.size + 1 + 1) a → @Ne Nat (s₁.heap.objs.size + 1) a → a ∉ [155, s₁.heap.objs.size + 1 + 1 + 1 + 1, s₁.heap.objs.size + 1 + 1 + 1, s₁.heap.objs.size + 1 + 1, s₁.heap.objs.size + 1] := by
            intro a z0 z4 z3 z2 z1 h
            simp only [List.mem_cons, List.not_mem_nil, or_false] at h
            rcases h with h | h | h | h | h
            · exact z0 h.symm
            · exact z4 h.symm
            · exact z3 h.symm
            · exact z2 h.symm
            · exact z1 h.symm
          obtain ⟨_, _, _, _, _, x4, x3, x2, x1, x0, _⟩ := oG
          obtain ⟨_, _, y4, y3, y2, y1, y0⟩ := l1ln
          refine List.forall_mem_cons.mpr ⟨q0 _ x0 x4 x3 x2 x1, List.forall_mem_cons.mpr ⟨q0 _ (t3 _ (.tail _ (.tail _ (.tail _ (.tail _ (.tail _ (.head _))))))) (t3 _ (.tail _ (.head _))) (t3 _ (.tail _ (.tail _ (.head _)))) (t3 _ (.tail _ (.tail _ (.tail _ (.head _))))) (t3 _ (.tail _ (.tail _ (.tail _ (.tail _ (.head _)))))), List.forall_mem_cons.mpr ⟨q0 _ (t2 _ (.tail _ (.tail _ (.tail _ (.tail _ (.tail _ (.head _))))))) (t2 _ (.tail _ (.head _))) (t2 _ (.tail _ (.tail _ (.head _)))) (t2 _ (.tail _ (.tail _ (.tail _ (.head _))))) (t2 _ (.tail _ (.tail _ (.tail _ (.tail _ (.head _)))))), List.forall_mem_cons.mpr ⟨q0 _ (t1 _ (.tail _ (.tail _ (.tail _ (.tail _ (.tail _ (.head _))))))) (t1 _ (.tail _ (.head _))) (t1 _ (.tail _ (.tail _ (.head _)))) (t1 _ (.tail _ (.tail _ (.tail _ (.head _))))) (t1 _ (.tail _ (.tail _ (.tail _ (.tail _ (.head _)))))), List.forall_mem_cons.mpr ⟨q0 _ (t0 _ (.tail _ (.tail _ (.tail _ (.tail _ (.tail _ (.head _))))))) (t0 _ (.tail _ (.head _))) (t0 _ (.tail _ (.tail _ (.head _)))) (t0 _ (.tail _ (.tail _ (.tail _ (.head _))))) (t0 _ (.tail _ (.tail _ (.tail _ (.tail _ (.head _)))))), List.forall_mem_cons.mpr ⟨q0 _ (Nat.ne_of_lt y0) (Nat.ne_of_lt y4) (Nat.ne_of_lt y3) (Nat.ne_of_lt y2) (Nat.ne_of_lt y1), ?_⟩⟩⟩⟩⟩⟩
          intro p hp
          exact q0 _ (Ne.symm (k0 p hp)) (Ne.symm (k4 p hp)) (Ne.symm (k3 p hp)) (Ne.symm (k2 p hp)) (Ne.symm (k1 p hp))
        have N14 : News (ghostOf s₁.heap [(159, 155)]) s₁.heap.objs.size hh ((155, tabObj #[]) :: (s₁.heap.objs.size + 1 + 1 + 1 + 1, o4) :: (s₁.heap.objs.size + 1 + 1 + 1, o3) :: (s₁.heap.objs.size + 1 + 1, p2) :: (s₁.heap.objs.size + 1, p1) :: bs) := drop N13 (by subst hbs; walk_at "my sub")
        clear N13 F12 F11 N11 hJ hbs hR0 hR1 hR2 hR3 hsub hne hm t0 t1 t2 t3 v0 v1 v2 v3 zJ zK b0 b1 b2 b3 bb0 bb1 bb2 bb3 c0 c1 c2 c3 d10 d20 d21 d30 d31 d32 bG oG u1 u4 u5 u6 u7 u8 i1 i2 i3 i4 i5 i6 i7 i8 hap hT hIq hCq hk0 hk4 l1ln hT8 hI
        have hx4 : NoSeq [(s₁.heap.objs.size + 1 + 1 + 1 + 1, o4), (s₁.heap.objs.size + 1 + 1 + 1, o3), (s₁.heap.objs.size + 1 + 1, p2), (s₁.heap.objs.size + 1, p1)] := List.forall_mem_cons.mpr ⟨noseq_cell d4, List.forall_mem_cons.mpr ⟨noseq_cell d3, List.forall_mem_cons.mpr ⟨noseq_cell e2, List.forall_mem_cons.mpr ⟨noseq_cell e1, List.forall_mem_nil _⟩⟩⟩⟩
        have hx5 : NoSeq ((155, tabObj #[]) :: [(s₁.heap.objs.size + 1 + 1 + 1 + 1, o4), (s₁.heap.objs.size + 1 + 1 + 1, o3), (s₁.heap.objs.size + 1 + 1, p2), (s₁.heap.objs.size + 1, p1)]) := List.forall_mem_cons.mpr ⟨(fun _ _ _ h => by cases h), hx4⟩
        refine hRQ _ _ ?_
        clear hRQ
        (try dsimp only)
        walk_at "my stc"
        refine cutW (W := fun R => wpAny _ _ _ R _ _) (fun RC hRC => ?_)
        refine' CallOK.use (plainB w ((155, tabObj #[]) :: [(s₁.heap.objs.size + 1 + 1 + 1 + 1, o4), (s₁.heap.objs.size + 1 + 1 + 1, o3), (s₁.heap.objs.size + 1 + 1, p2), (s₁.heap.objs.size + 1, p1)]) bs G (pw ws 0) hg hb5 hx5) ?u1 ?u2 ?u3 ?u4 ?u5 ?u6 ?u7 ?u8 ?_
        (case u1 => assumption)
        walk_at "my use2"
        rintro v20 n20 h20 tk20 F20 N20' ⟨qa, ba, rfl, rfl, ⟨hsa, hba⟩, hda⟩
        refine hRC _ _ ?_
        clear hRC
        (try dsimp only)
        replace N20' : News (ghostOf s₁.heap [(159, 155)]) s₁.heap.objs.size _ ((155, tabObj #[]) :: (s₁.heap.objs.size + 1 + 1 + 1 + 1, o4) :: (s₁.heap.objs.size + 1 + 1 + 1, o3) :: (s₁.heap.objs.size + 1 + 1, p2) :: (s₁.heap.objs.size + 1, p1) :: ba) := N20'
        walk_at "my stc"
        refine cutW (W := fun R => wpAny _ _ _ R _ _) (fun RC hRC => ?_)
        refine' CallOK.use (dueB w ((155, tabObj #[]) :: [(s₁.heap.objs.size + 1 + 1 + 1 + 1, o4), (s₁.heap.objs.size + 1 + 1 + 1, o3), (s₁.heap.objs.size + 1 + 1, p2), (s₁.heap.objs.size + 1, p1)]) ba ln ws 1 1 _ rfl (by decide) (hl.mono hsa) hba hx5) ?u1 ?u2 ?u3 ?u4 ?u5 ?u6 ?u7 ?u8 ?_
        (case u1 => assumption)
        walk_at "my use2"
        rintro v21 n21 h21 tk21 F21 N21' ⟨qb, bb, rfl, rfl, ⟨hsb, hbb⟩, hdb⟩
        refine hRC _ _ ?_
        clear hRC
        (try dsimp only)
        replace N21' : News (ghostOf s₁.heap [(159, 155)]) s₁.heap.objs.size _ ((155, tabObj #[]) :: (s₁.heap.objs.size + 1 + 1 + 1 + 1, o4) :: (s₁.heap.objs.size + 1 + 1 + 1, o3) :: (s₁.heap.objs.size + 1 + 1, p2) :: (s₁.heap.objs.size + 1, p1) :: bb) := N21'
        refine gd_ne N21' (by walk_at "my sub") (hda.mono hsb) hdb (due_k ws hw 0 (by decide)) (by walk_at "my room") ?_
        replace hg := (hg.mono hsa).mono hsb
        replace hl := (hl.mono hsa).mono hsb
        clear hda hdb hsa hsb hba hb5
        walk_at "my stc"
        unfold Stop
        rename_i Dt9 _ F22 N22 lDt
        obtain ⟨ta5, tb5, N22⟩ : ∃ ta tb, News (ghostOf s₁.heap [(159, 155)]) s₁.heap.objs.size _ ((Dt9, tupO [.int 2 ta, .int 3 tb]) :: (155, tabObj #[]) :: (s₁.heap.objs.size + 1 + 1 + 1 + 1, o4) :: (s₁.heap.objs.size + 1 + 1 + 1, o3) :: (s₁.heap.objs.size + 1 + 1, p2) :: (s₁.heap.objs.size + 1, p1) :: bb) := ⟨_, _, N22⟩
        replace N22 : News (ghostOf s₁.heap [(159, 155)]) s₁.heap.objs.size _ ((155, tabObj #[]) :: (s₁.heap.objs.size + 1 + 1 + 1 + 1, o4) :: (s₁.heap.objs.size + 1 + 1 + 1, o3) :: (s₁.heap.objs.size + 1 + 1, p2) :: (s₁.heap.objs.size + 1, p1) :: (Dt9, tupO [.int 2 ta5, .int 3 tb5]) :: bb) := drop N22 (by walk_at "my sub")
        refine cutW (W := fun R => wpAny _ _ _ (fun it s₂ => TurnsAt _ _ _ _ _ _ _ R _ it s₂) _ _) (fun RQ hRQ => ?_)
        refine iter_tupTurns (lo := tupO [.int 2 ta5, .int 3 tb5]) (vs := [.int 2 ta5, .int 3 tb5]) rfl F22 N22 (.tail _ (.tail _ (.tail _ (.tail _ (.tail _ (.head _)))))) rfl rfl ?_
        intro I5 hI5
        have z0 : @Ne Nat 155 I5 := Nat.ne_of_lt (hI5 _ (.head _))
        have z4 : @Ne Nat (s₁.heap.objs.size + 1 + 1 + 1 + 1) I5 := Nat.ne_of_lt (hI5 _ (.tail _ (.head _)))
        have z04 : @Ne Nat (s₁.heap.objs.size + 1 + 1 + 1 + 1) 155 := Nat.ne_of_gt (Nat.lt_succ_of_lt (Nat.lt_succ_of_lt (Nat.lt_succ_of_lt (Nat.lt_succ_of_lt (l0)))))
        have z3 : @Ne Nat (s₁.heap.objs.size + 1 + 1 + 1) I5 := Nat.ne_of_lt (hI5 _ (.tail _ (.tail _ (.head _))))
        have z03 : @Ne Nat (s₁.heap.objs.size + 1 + 1 + 1) 155 := Nat.ne_of_gt (Nat.lt_succ_of_lt (Nat.lt_succ_of_lt (Nat.lt_succ_of_lt (l0))))
        have z2 : @Ne Nat (s₁.heap.objs.size + 1 + 1) I5 := Nat.ne_of_lt (hI5 _ (.tail _ (.tail _ (.tail _ (.head _)))))
        have z02 : @Ne Nat (s₁.heap.objs.size + 1 + 1) 155 := Nat.ne_of_gt (Nat.lt_succ_of_lt (Nat.lt_succ_of_lt (l0)))
        have z1 : @Ne Nat (s₁.heap.objs.size + 1) I5 := Nat.ne_of_lt (hI5 _ (.tail _ (.tail _ (.tail _ (.tail _ (.head _))))))
        have z01 : @Ne Nat (s₁.heap.objs.size + 1) 155 := Nat.ne_of_gt (Nat.lt_succ_of_lt (l0))
        refine rest_inv (fun j mx nx => ∃ bs g, mx (Str.ofString "power") = some (.ref g) ∧ (∀ y, y ≠ Str.ofString "power" → SP.contains y = false → mx y = m1 y) ∧ GridN bs g (pw ws j) ∧ GridN bs G (pw ws 0) ∧ LinesN bs ln ws ∧ (Dt9, tupO [.int 2 ta5, .int 3 tb5]) ∈ bs ∧ (∀ p ∈ bs, p.1 ∉ I5 :: [s₁.heap.objs.size + 1 + 1 + 1 + 1, s₁.heap.objs.size + 1 + 1 + 1, s₁.heap.objs.size + 1 + 1, s₁.heap.objs.size + 1]) ∧ ((j = 0 ∧ nx = (155, tabObj #[]) :: (s₁.heap.objs.size + 1 + 1 + 1 + 1, o4) :: (s₁.heap.objs.size + 1 + 1 + 1, o3) :: (s₁.heap.objs.size + 1 + 1, p2) :: (s₁.heap.objs.size + 1, p1) :: bs ∧ ∀ p ∈ bs, p.1 ≠ 155) ∨ (j ≠ 0 ∧ nx = (s₁.heap.objs.size + 1 + 1 + 1 + 1, o4) :: (s₁.heap.objs.size + 1 + 1 + 1, o3) :: (s₁.heap.objs.size + 1 + 1, p2) :: (s₁.heap.objs.size + 1, p1) :: bs ∧ TabC bs))) ?_ _ 0 _ _ ?_ ?_ ?_
        · rintro j mx nx ⟨bs, g, _, _, _, _, _, hD, _, ⟨_, rfl, _⟩ | ⟨_, rfl, _⟩⟩
          · exact ⟨.tail _ (.tail _ (.tail _ (.tail _ (.tail _ hD)))), trivial⟩
          · exact ⟨.tail _ (.tail _ (.tail _ (.tail _ hD))), trivial⟩
        · intro i a9 mx nx v hh tk6 ha1 ha2 hI0 F23 its hits N23
          refine cutW (W := fun R => wpAny _ _ _ (fun _ s₂ => wpAny _ _ _ R _ s₂) _ _) (fun RT hRT => ?_)
          obtain ⟨bs, g, hp1, hp2, hg, hG, hl, hD, hb, hcs⟩ := hI0
          obtain ⟨u, rfl⟩ := frame_form hp1 hp2
          obtain ⟨oI, rfl, hoI⟩ := objs1 hits
          simp only [List.cons_append, List.nil_append] at N23
          rw [Nat.zero_add] at hg hcs
          have hx6 : NoSeq ((I5, oI) :: [(s₁.heap.objs.size + 1 + 1 + 1 + 1, o4), (s₁.heap.objs.size + 1 + 1 + 1, o3), (s₁.heap.objs.size + 1 + 1, p2), (s₁.heap.objs.size + 1, p1)]) := List.forall_mem_cons.mpr ⟨noseq_cls hoI (by decide) (by decide), hx4⟩
          refine cutF (mid := fun R => ∀ h' tk' m' bs' g', m' (Str.ofString "power") = some (.ref g') → (∀ y, y ≠ Str.ofString "power" → SP.contains y = false → m' y = m1 y) → Fr (ghostOf s₁.heap [(159, 155)]) s₁.heap.objs.size h' m' → News (ghostOf s₁.heap [(159, 155)]) s₁.heap.objs.size h' ((I5, oI) :: (s₁.heap.objs.size + 1 + 1 + 1 + 1, o4) :: (s₁.heap.objs.size + 1 + 1 + 1, o3) :: (s₁.heap.objs.size + 1 + 1, p2) :: (s₁.heap.objs.size + 1, p1) :: bs') → GridN bs' g' (pw ws (i + 1)) → GridN bs' G (pw ws 0) → LinesN bs' ln ws → (Dt9, tupO [.int 2 ta5, .int 3 tb5]) ∈ bs' → (∀ p ∈ bs', p.1 ∉ I5 :: [s₁.heap.objs.size + 1 + 1 + 1 + 1, s₁.heap.objs.size + 1 + 1 + 1, s₁.heap.objs.size + 1 + 1, s₁.heap.objs.size + 1]) → TabC bs' → R .next { s₁ with heap := h', toks := tk' }) (W := fun R => wpAny _ _ _ (fun _ s₂ => wpAny _ _ _ R _ s₂) _ _) (fun RF hRF => ?_) ?_
          rotate_left
          · intro h' tk' m' bs' g' e1' e2' F' N' kg kG kl kD kb kt
            refine hRT _ _ ⟨_, _, _, _, (s₁.heap.objs.size + 1 + 1 + 1 + 1, o4) :: (s₁.heap.objs.size + 1 + 1 + 1, o3) :: (s₁.heap.objs.size + 1 + 1, p2) :: (s₁.heap.objs.size + 1, p1) :: bs', rfl, F', N', by walk_at "my sub", by walk_at "my sub", ?_, bs', g', e1', e2', by rw [Nat.zero_add]; exact kg, kG, kl, kD, kb, .inr ⟨by omega, rfl, kt⟩⟩
            intro p hp z hz
            rw [List.mem_singleton.mp hz]
            revert p
            exact List.forall_mem_cons.mpr ⟨z4, List.forall_mem_cons.mpr ⟨z3, List.forall_mem_cons.mpr ⟨z2, List.forall_mem_cons.mpr ⟨z1, fun p hp e => kb p hp (e ▸ .head _)⟩⟩⟩⟩
          clear hx5 hI5 N22 F22
          rcases i with _ | _ | i
          · rcases hcs with ⟨_, rfl, h55⟩ | ⟨h, _, _⟩
            rotate_left
            · exact absurd rfl h
            obtain rfl : v = .int 2 _ := by cases ha1; exact ha2
            walk_at "my stc"
            rename_i N24
            have N25 : News (ghostOf s₁.heap [(159, 155)]) s₁.heap.objs.size _ ((155, tabObj #[]) :: (I5, oI) :: (s₁.heap.objs.size + 1 + 1 + 1 + 1, o4) :: (s₁.heap.objs.size + 1 + 1 + 1, o3) :: (s₁.heap.objs.size + 1 + 1, p2) :: (s₁.heap.objs.size + 1, p1) :: bs) := drop N24 (by walk_at "my sub")
            clear N24
            refine cutW (W := fun R => wpAny _ _ _ R _ _) (fun RC hRC => ?_)
            refine' CallOKc.use (widerA w ((I5, oI) :: [(s₁.heap.objs.size + 1 + 1 + 1 + 1, o4), (s₁.heap.objs.size + 1 + 1 + 1, o3), (s₁.heap.objs.size + 1 + 1, p2), (s₁.heap.objs.size + 1, p1)]) bs _ g G (pw ws 0) (pw ws 0) hg hG (List.forall_mem_cons.mpr ⟨Ne.symm z0, List.forall_mem_cons.mpr ⟨z04, List.forall_mem_cons.mpr ⟨z03, List.forall_mem_cons.mpr ⟨z02, List.forall_mem_cons.mpr ⟨z01, h55⟩⟩⟩⟩⟩) hb hx6) ?u1 ?u2 ?u3 ?u4 ?u5 ?u6 ?u7 ?u8 ?u9 ?_
            (case u1 => assumption)
            (case u2 => k_asm); (case u3 => k_asm); (case u4 => k_asm); (case u5 => k_asm); (case u6 => exact codeHd); (case u7 => first | exact rfl | assumption); (case u8 => walk_at "my room"); (case u9 => walk_at "my room")
            rintro v30 n30 h30 tk30 F30 N30' ⟨ga, ba, rfl, rfl, ⟨hsa, hba⟩, hga, hT⟩
            refine hRC _ _ ?_
            clear hRC
            (try dsimp only)
            replace N30' : News (ghostOf s₁.heap [(159, 155)]) s₁.heap.objs.size _ ((I5, oI) :: (s₁.heap.objs.size + 1 + 1 + 1 + 1, o4) :: (s₁.heap.objs.size + 1 + 1 + 1, o3) :: (s₁.heap.objs.size + 1 + 1, p2) :: (s₁.heap.objs.size + 1, p1) :: ba) := N30'
            replace hga : GridN ba ga (pw ws 1) := hga
            walk_at "my stc"
            refine cutW (W := fun R => wpAny _ _ _ R _ _) (fun RC hRC => ?_)
            refine' CallOK.use (plainB w ((I5, oI) :: [(s₁.heap.objs.size + 1 + 1 + 1 + 1, o4), (s₁.heap.objs.size + 1 + 1 + 1, o3), (s₁.heap.objs.size + 1 + 1, p2), (s₁.heap.objs.size + 1, p1)]) ba ga (pw ws 1) hga hba hx6) ?u1 ?u2 ?u3 ?u4 ?u5 ?u6 ?u7 ?u8 ?_
            (case u1 => assumption)
            walk_at "my use2"
            rintro v31 n31 h31 tk31 F31 N31' ⟨qb, bb, rfl, rfl, ⟨hsb, hbb⟩, hdb⟩
            refine hRC _ _ ?_
            clear hRC
            (try dsimp only)
            replace N31' : News (ghostOf s₁.heap [(159, 155)]) s₁.heap.objs.size _ ((I5, oI) :: (s₁.heap.objs.size + 1 + 1 + 1 + 1, o4) :: (s₁.heap.objs.size + 1 + 1 + 1, o3) :: (s₁.heap.objs.size + 1 + 1, p2) :: (s₁.heap.objs.size + 1, p1) :: bb) := N31'
            walk_at "my stc"
            refine cutW (W := fun R => wpAny _ _ _ R _ _) (fun RC hRC => ?_)
            refine' CallOK.use (dueB w ((I5, oI) :: [(s₁.heap.objs.size + 1 + 1 + 1 + 1, o4), (s₁.heap.objs.size + 1 + 1 + 1, o3), (s₁.heap.objs.size + 1 + 1, p2), (s₁.heap.objs.size + 1, p1)]) bb ln ws 2 2 _ rfl (by decide) ((hl.mono hsa).mono hsb) hbb hx6) ?u1 ?u2 ?u3 ?u4 ?u5 ?u6 ?u7 ?u8 ?_
            (case u1 => assumption)
            walk_at "my use2"
            rintro v32 n32 h32 tk32 F32 N32' ⟨qc, bc, rfl, rfl, ⟨hsc, hbc⟩, hdc⟩
            refine hRC _ _ ?_
            clear hRC
            (try dsimp only)
            replace N32' : News (ghostOf s₁.heap [(159, 155)]) s₁.heap.objs.size _ ((I5, oI) :: (s₁.heap.objs.size + 1 + 1 + 1 + 1, o4) :: (s₁.heap.objs.size + 1 + 1 + 1, o3) :: (s₁.heap.objs.size + 1 + 1, p2) :: (s₁.heap.objs.size + 1, p1) :: bc) := N32'
            refine gd_ne N32' (by walk_at "my sub") (hdb.mono hsc) hdc (due_k ws hw 1 (by decide)) (by walk_at "my room") ?_
            walk_at "my stc"
            refine hRF _ _ _ bc ga rfl ?_ (by assumption) (by assumption) ((hga.mono hsb).mono hsc) (((hG.mono hsa).mono hsb).mono hsc) (((hl.mono hsa).mono hsb).mono hsc) (hsc _ (hsb _ (hsa _ hD))) hbc ((hT.mono hsb).mono hsc)
            exact sp_form
          · rcases hcs with ⟨h, _, _⟩ | ⟨_, rfl, hT⟩
            · exact absurd h (by decide)
            obtain rfl : v = .int 3 _ := by cases ha1; exact ha2
            walk_at "my stc"
            refine cutW (W := fun R => wpAny _ _ _ R _ _) (fun RC hRC => ?_)
            refine' CallOKc.use (widerB w ((I5, oI) :: [(s₁.heap.objs.size + 1 + 1 + 1 + 1, o4), (s₁.heap.objs.size + 1 + 1 + 1, o3), (s₁.heap.objs.size + 1 + 1, p2), (s₁.heap.objs.size + 1, p1)]) bs _ g G (pw ws 1) (pw ws 0) hg hG hT hb hx6) ?u1 ?u2 ?u3 ?u4 ?u5 ?u6 ?u7 ?u8 ?u9 ?_
            (case u1 => assumption)
            (case u2 => k_asm); (case u3 => k_asm); (case u4 => k_asm); (case u5 => k_asm); (case u6 => exact codeHd); (case u7 => first | exact rfl | assumption); (case u8 => walk_at "my room"); (case u9 => walk_at "my room")
            rintro v30 n30 h30 tk30 F30 N30' ⟨ga, ba, rfl, rfl, ⟨hsa, hba⟩, hga⟩
            refine hRC _ _ ?_
            clear hRC
            (try dsimp only)
            replace N30' : News (ghostOf s₁.heap [(159, 155)]) s₁.heap.objs.size _ ((I5, oI) :: (s₁.heap.objs.size + 1 + 1 + 1 + 1, o4) :: (s₁.heap.objs.size + 1 + 1 + 1, o3) :: (s₁.heap.objs.size + 1 + 1, p2) :: (s₁.heap.objs.size + 1, p1) :: ba) := N30'
            replace hT := hT.mono hsa
            replace hga : GridN ba ga (pw ws 2) := hga
            walk_at "my stc"
            refine cutW (W := fun R => wpAny _ _ _ R _ _) (fun RC hRC => ?_)
            refine' CallOK.use (plainB w ((I5, oI) :: [(s₁.heap.objs.size + 1 + 1 + 1 + 1, o4), (s₁.heap.objs.size + 1 + 1 + 1, o3), (s₁.heap.objs.size + 1 + 1, p2), (s₁.heap.objs.size + 1, p1)]) ba ga (pw ws 2) hga hba hx6) ?u1 ?u2 ?u3 ?u4 ?u5 ?u6 ?u7 ?u8 ?_
            (case u1 => assumption)
            walk_at "my use2"
            rintro v31 n31 h31 tk31 F31 N31' ⟨qb, bb, rfl, rfl, ⟨hsb, hbb⟩, hdb⟩
            refine hRC _ _ ?_
            clear hRC
            (try dsimp only)
            replace N31' : News (ghostOf s₁.heap [(159, 155)]) s₁.heap.objs.size _ ((I5, oI) :: (s₁.heap.objs.size + 1 + 1 + 1 + 1, o4) :: (s₁.heap.objs.size + 1 + 1 + 1, o3) :: (s₁.heap.objs.size + 1 + 1, p2) :: (s₁.heap.objs.size + 1, p1) :: bb) := N31'
            walk_at "my stc"
            refine cutW (W := fun R => wpAny _ _ _ R _ _) (fun RC hRC => ?_)
            refine' CallOK.use (dueB w ((I5, oI) :: [(s₁.heap.objs.size + 1 + 1 + 1 + 1, o4), (s₁.heap.objs.size + 1 + 1 + 1, o3), (s₁.heap.objs.size + 1 + 1, p2), (s₁.heap.objs.size + 1, p1)]) bb ln ws 3 3 _ rfl (by decide) ((hl.mono hsa).mono hsb) hbb hx6) ?u1 ?u2 ?u3 ?u4 ?u5 ?u6 ?u7 ?u8 ?_
            (case u1 => assumption)
            walk_at "my use2"
            rintro v32 n32 h32 tk32 F32 N32' ⟨qc, bc, rfl, rfl, ⟨hsc, hbc⟩, hdc⟩
            refine hRC _ _ ?_
            clear hRC
            (try dsimp only)
            replace N32' : News (ghostOf s₁.heap [(159, 155)]) s₁.heap.objs.size _ ((I5, oI) :: (s₁.heap.objs.size + 1 + 1 + 1 + 1, o4) :: (s₁.heap.objs.size + 1 + 1 + 1, o3) :: (s₁.heap.objs.size + 1 + 1, p2) :: (s₁.heap.objs.size + 1, p1) :: bc) := N32'
            refine gd_ne N32' (by walk_at "my sub") (hdb.mono hsc) hdc (due_k ws hw 2 (by decide)) (by walk_at "my room") ?_
            walk_at "my stc"
            refine hRF _ _ _ bc ga rfl ?_ (by assumption) (by assumption) ((hga.mono hsb).mono hsc) (((hG.mono hsa).mono hsb).mono hsc) (((hl.mono hsa).mono hsb).mono hsc) (hsc _ (hsb _ (hsa _ hD))) hbc ((hT.mono hsb).mono hsc)
            exact sp_form
          · exact absurd (List.getElem?_eq_some_iff.mp ha1).1 (by simp only [List.length_map, List.length_cons, List.length_nil]; omega)
        · rintro mx nx hh tk6 ⟨bs, g, hp1, hp2, hg, hG, hl, hD, hb, ⟨h, _, _⟩ | ⟨_, rfl, hT⟩⟩ F23 N23
          · exact absurd h (Nat.succ_ne_zero 1)
          obtain ⟨u, rfl⟩ := frame_form hp1 hp2
          have hb4 : ∀ p ∈ bs, p.1 ∉ exA [(s₁.heap.objs.size + 1 + 1 + 1 + 1, o4), (s₁.heap.objs.size + 1 + 1 + 1, o3), (s₁.heap.objs.size + 1 + 1, p2), (s₁.heap.objs.size + 1, p1)] := fun p hp h => hb p hp (.tail _ h)
          clear hb hx5 hI5 hp1 hp2 hD N22 F22 z0 z1 z2 z3 z4 z01 z02 z03 z04 lDt hbb
          refine hRQ _ _ ?_
          clear hRQ
          (try dsimp only)
          walk_at "my stc"
          refine cutW (W := fun R => wpAny _ _ _ R _ _) (fun RC hRC => ?_)
          refine' CallOK.use (plainB w [(s₁.heap.objs.size + 1 + 1 + 1 + 1, o4), (s₁.heap.objs.size + 1 + 1 + 1, o3), (s₁.heap.objs.size + 1 + 1, p2), (s₁.heap.objs.size + 1, p1)] bs g (pw ws 2) hg hb4 hx4) ?u1 ?u2 ?u3 ?u4 ?u5 ?u6 ?u7 ?u8 ?_
          (case u1 => assumption)
          walk_at "my use2"
          rintro v40 n40 h40 tk40 F40 N40' ⟨qt, bt, rfl, rfl, ⟨hst, hbt⟩, hdt⟩
          refine hRC _ _ ?_
          clear hRC
          (try dsimp only)
          replace N40' : News (ghostOf s₁.heap [(159, 155)]) s₁.heap.objs.size _ ((s₁.heap.objs.size + 1 + 1 + 1 + 1, o4) :: (s₁.heap.objs.size + 1 + 1 + 1, o3) :: (s₁.heap.objs.size + 1 + 1, p2) :: (s₁.heap.objs.size + 1, p1) :: bt) := N40'
          have yt3 : ∀ p ∈ bt, p.1 ≠ s₁.heap.objs.size + 1 + 1 + 1 := fun p hp e => hbt p hp (e ▸ .tail _ (.head _))
          replace hg := hg.mono hst
          replace hG := hG.mono hst
          replace hl := hl.mono hst
          replace hT := hT.mono hst
          walk_at "my stc"
          rename_i o5 F41 N41 d5
          have hx7 : NoSeq [(s₁.heap.objs.size + 1 + 1 + 1 + 1, o4), (s₁.heap.objs.size + 1 + 1 + 1, o5), (s₁.heap.objs.size + 1 + 1, p2), (s₁.heap.objs.size + 1, p1)] := List.forall_mem_cons.mpr ⟨noseq_cell d4, List.forall_mem_cons.mpr ⟨noseq_cell d5, List.forall_mem_cons.mpr ⟨noseq_cell e2, List.forall_mem_cons.mpr ⟨noseq_cell e1, List.forall_mem_nil _⟩⟩⟩⟩
          refine cutW (W := fun R => wpAny _ _ _ R _ _) (fun RC hRC => ?_)
          refine' CallOKc.use (widerB w [(s₁.heap.objs.size + 1 + 1 + 1 + 1, o4), (s₁.heap.objs.size + 1 + 1 + 1, o5), (s₁.heap.objs.size + 1 + 1, p2), (s₁.heap.objs.size + 1, p1)] bt _ g G (pw ws 2) (pw ws 0) hg hG hT hbt hx7) ?u1 ?u2 ?u3 ?u4 ?u5 ?u6 ?u7 ?u8 ?u9 ?_
          (case u1 => assumption)
          (case u2 => k_asm); (case u3 => k_asm); (case u4 => k_asm); (case u5 => k_asm); (case u6 => exact codeHd); (case u7 => first | exact rfl | assumption); (case u8 => walk_at "my room"); (case u9 => walk_at "my room")
          rintro v42 n42 h42 tk42 F42 N42' ⟨gw, bw, rfl, rfl, ⟨hsw, hbw⟩, hgw⟩
          refine hRC _ _ ?_
          clear hRC
          (try dsimp only)
          replace N42' : News (ghostOf s₁.heap [(159, 155)]) s₁.heap.objs.size _ ((s₁.heap.objs.size + 1 + 1 + 1 + 1, o4) :: (s₁.heap.objs.size + 1 + 1 + 1, o5) :: (s₁.heap.objs.size + 1 + 1, p2) :: (s₁.heap.objs.size + 1, p1) :: bw) := N42'
          replace hgw : GridN bw gw (pw ws 3) := hgw
          walk_at "my stc"
          refine cutW (W := fun R => wpAny _ _ _ R _ _) (fun RC hRC => ?_)
          refine' CallOK.use (plainB w [(s₁.heap.objs.size + 1 + 1 + 1 + 1, o4), (s₁.heap.objs.size + 1 + 1 + 1, o5), (s₁.heap.objs.size + 1 + 1, p2), (s₁.heap.objs.size + 1, p1)] bw gw (pw ws 3) hgw hbw hx7) ?u1 ?u2 ?u3 ?u4 ?u5 ?u6 ?u7 ?u8 ?_
          (case u1 => assumption)
          walk_at "my use2"
          rintro v43 n43 h43 tk43 F43 N43' ⟨qw, by', rfl, rfl, ⟨hsy, hby⟩, hdw⟩
          refine hRC _ _ ?_
          clear hRC
          (try dsimp only)
          replace N43' : News (ghostOf s₁.heap [(159, 155)]) s₁.heap.objs.size _ ((s₁.heap.objs.size + 1 + 1 + 1 + 1, o4) :: (s₁.heap.objs.size + 1 + 1 + 1, o5) :: (s₁.heap.objs.size + 1 + 1, p2) :: (s₁.heap.objs.size + 1, p1) :: by') := N43'
          walk_at "my stc"
          replace hdt := (hdt.mono hsw).mono hsy
          replace hl := (hl.mono hsw).mono hsy
          refine gd_ne N43' (by walk_at "my sub") hdw hdt (pw_stay ws hw) (by walk_at "my room") ?_
          replace hT := (hT.mono hsw).mono hsy
          clear hdw hgw hg hG hsw hbw hsy hbt hb4 hx4
          walk_at "my stc"
          k_dflt (refine Assign_ListComp_W (F₀ := by k_asm) rfl (by with_unfolding_all rfl) (by with_unfolding_all rfl) (by decide) (by rfl) (by decide) (by rfl) (by rfl) ?_)
          walk_at "my stc"
          unfold Stop
          obtain ⟨vl, kl, hvl6, hml, hlv⟩ := id hl
          have hz6 : vl.toArray.size ≤ sizeLine := Nat.le_trans (Nat.le_of_eq (by rw [List.size_toArray]; exact hvl6)) (by decide : 6 ≤ sizeLine)
          refine src_list (its := vl.toArray) (k := kl) rfl (by assumption) (by assumption) (.tail _ (.tail _ (.tail _ (.tail _ hml)))) hz6 (fun i v m2 => ∃ tc, m2 (Str.ofString "width") = some (.int (ws i) tc)) (WInv ws) ?_ ?_ ⟨[], .nil, fun j hj => absurd hj (Nat.not_lt_zero _), Nat.le_refl _⟩ ?_
          · intro C i v s' m' Q' E' hi hP hnews hn h
            obtain ⟨d, ta, tb, tc, rfl, hd⟩ := hlv i v (by simpa using hP)
            exact asg3 rfl ⟨_, hnews _ (.tail _ (.tail _ (.tail _ (.tail _ hd)))), rfl, _, rfl⟩ (lookup_relabel_local (by rfl)) (lookup_relabel_local (by rfl)) (lookup_relabel_local (by rfl)) (by rfl) hn fun h' tk' hn' hk => h h' tk' _ hn' ⟨tc, by simp⟩ hk
          · intro g' I C D hI hCD hfp hnw i v ys oC m2 h tk own E' hi hB hoC F60 hown N60 hInv
            obtain ⟨tc, hB⟩ := hB
            have N61 := drop N60 (fun p hp => List.mem_append_right own hp)
            walk_at "my stc"
            · exact ⟨_, _, rfl, F60, N60⟩
            · exact hInv.yes
            · exact ⟨_, _, rfl, F60, N60⟩
            · exact hInv.no (by assumption)
          · intro g' ys hW Dw h62 tk62 F62 N62 off62
            replace hW : WInv ws 6 ys := by rw [List.size_toArray, hvl6] at hW; exact hW
            obtain ⟨nsw, hnsw, hmw, hlw⟩ := hW
            obtain ⟨bz, hbz⟩ : ∃ bz, bz = (Dw, LCg.lst ys) :: by' := ⟨_, rfl⟩
            have hDw : (Dw, LCg.lst ys) ∈ bz := hbz ▸ .head _
            have hgi : GridI bz qt (pw ws 2) := (grid_int hdt).mono (hbz ▸ fun p hp => .tail _ hp)
            replace hdt : DatIn bz (.ref qt) (gd (pw ws 2)) := hdt.mono (hbz ▸ fun p hp => .tail _ hp)
            replace hT : TabC bz := hT.mono (hbz ▸ fun p hp => .tail _ hp)
            replace hl : LinesN bz ln ws := hl.mono (hbz ▸ fun p hp => .tail _ hp)
            obtain ⟨w4, w3, w2, w1, _⟩ := off62
            have y4 : ∀ p ∈ bz, p.1 ≠ s₁.heap.objs.size + 1 + 1 + 1 + 1 := hbz ▸ List.forall_mem_cons.mpr ⟨Ne.symm w4, fun p hp e => hby p hp (e ▸ .head _)⟩
            have y3 : ∀ p ∈ bz, p.1 ≠ s₁.heap.objs.size + 1 + 1 + 1 := hbz ▸ List.forall_mem_cons.mpr ⟨Ne.symm w3, fun p hp e => hby p hp (e ▸ .tail _ (.head _))⟩
            have y2 : ∀ p ∈ bz, p.1 ≠ s₁.heap.objs.size + 1 + 1 := hbz ▸ List.forall_mem_cons.mpr ⟨Ne.symm w2, fun p hp e => hby p hp (e ▸ .tail _ (.tail _ (.head _)))⟩
            have y1 : ∀ p ∈ bz, p.1 ≠ s₁.heap.objs.size + 1 := hbz ▸ List.forall_mem_cons.mpr ⟨Ne.symm w1, fun p hp e => hby p hp (e ▸ .tail _ (.tail _ (.tail _ (.head _))))⟩
            replace N62 : News (ghostOf s₁.heap [(159, 155)]) s₁.heap.objs.size _ ((s₁.heap.objs.size + 1 + 1 + 1 + 1, o4) :: (s₁.heap.objs.size + 1 + 1 + 1, o5) :: (s₁.heap.objs.size + 1 + 1, p2) :: (s₁.heap.objs.size + 1, p1) :: bz) := drop N62 (by rw [hbz]; walk_at "my sub")
            clear hbz hby w4 w3 w2 w1 hml hlv hvl6 yt3 hz6
            let m6 : Str → Option Value := fun z => if z = Str.ofString "widths" then some (.ref Dw) else if z = Str.ofString "power" then some (.ref g) else if SP.contains z = true then u z else m1 z
            replace F62 : Fr (ghostOf s₁.heap [(159, 155)]) s₁.heap.objs.size h62 m6 := F62
            walk_at "my stc"
            unfold Stop
            rename_i hr63 F63 N63 _
            refine cutW (W := fun R => wpAny _ _ _ (fun it s₂ => TurnsAt _ _ _ _ _ _ _ R _ it s₂) _ _) (fun RQ hRQ => ?_)
            refine iter_rangeT rfl hr63 (range_ok (n := 4) (by omega)).1 (range_ok (n := 4) (by omega)).2 F63 N63 ?_
            intro I6 hI6
            have z4 : @LT.lt Nat _ (s₁.heap.objs.size + 1 + 1 + 1 + 1) I6 := hI6 _ (.head _)
            have z3 : @LT.lt Nat _ (s₁.heap.objs.size + 1 + 1 + 1) I6 := hI6 _ (.tail _ (.head _))
            have z2 : @LT.lt Nat _ (s₁.heap.objs.size + 1 + 1) I6 := hI6 _ (.tail _ (.tail _ (.head _)))
            have z1 : @LT.lt Nat _ (s₁.heap.objs.size + 1) I6 := hI6 _ (.tail _ (.tail _ (.tail _ (.head _))))
            have zb : ∀ p ∈ bz, p.1 ≠ I6 := fun p hp => Nat.ne_of_lt (hI6 _ (.tail _ (.tail _ (.tail _ (.tail _ hp)))))
            clear hr63 hI6
            refine rest_inv (keep := []) (fun i mx nx => mx = m6 ∧ ∃ a b, nx = (s₁.heap.objs.size + 1 + 1 + 1 + 1, o4) :: (s₁.heap.objs.size + 1 + 1 + 1, o5) :: (s₁.heap.objs.size + 1 + 1, a) :: (s₁.heap.objs.size + 1, b) :: bz ∧ (∃ c, a.data = .cell c) ∧ (∃ c, b.data = .cell c)) (fun _ _ _ _ => by trivial) _ 0 _ _ ?_ ?_ ?_
            · intro i a9 mx nx v hh tk6 ha1 ha2 hI0 F64 its hits N64
              refine cutW (W := fun R => wpAny _ _ _ (fun _ s₂ => wpAny _ _ _ R _ s₂) _ _) (fun RT hRT => ?_)
              obtain ⟨rfl, a, b, rfl, ⟨ca, ea⟩, ⟨cb, eb⟩⟩ := hI0
              obtain ⟨hi4, ti, rfl⟩ := tok_at ha1 ha2
              obtain ⟨oI, rfl, _⟩ := objs1 hits
              simp only [List.cons_append, List.nil_append] at N64
              (try rw [Int.zero_add])
              clear F63 N63
              walk_at "my stc"
              unfold Stop
              rename_i b' _ _ eb' _ _ _ _ _ hr65 F65 N65 _
              refine cutW (W := fun R => wpAny _ _ _ (fun it s₂ => TurnsAt _ _ _ _ _ _ _ R _ it s₂) _ _) (fun RQ hRQ => ?_)
              refine iter_rangeT rfl hr65 (range_ok (n := 4) (by omega)).1 (range_ok (n := 4) (by omega)).2 F65 N65 ?_
              intro J7 hJ7
              have j0 : @LT.lt Nat _ I6 J7 := hJ7 _ (.head _)
              have j4 : @LT.lt Nat _ (s₁.heap.objs.size + 1 + 1 + 1 + 1) J7 := hJ7 _ (.tail _ (.head _))
              have j3 : @LT.lt Nat _ (s₁.heap.objs.size + 1 + 1 + 1) J7 := hJ7 _ (.tail _ (.tail _ (.head _)))
              have j2 : @LT.lt Nat _ (s₁.heap.objs.size + 1 + 1) J7 := hJ7 _ (.tail _ (.tail _ (.tail _ (.head _))))
              have j1 : @LT.lt Nat _ (s₁.heap.objs.size + 1) J7 := hJ7 _ (.tail _ (.tail _ (.tail _ (.tail _ (.head _)))))
              have jb : ∀ p ∈ bz, p.1 ≠ J7 := fun p hp => Nat.ne_of_lt (hJ7 _ (.tail _ (.tail _ (.tail _ (.tail _ (.tail _ hp))))))
              clear hr65 hJ7
              refine rest_inv (keep := []) (fun i mx nx => mx = m6 ∧ ∃ a, nx = (I6, oI) :: (s₁.heap.objs.size + 1 + 1 + 1 + 1, o4) :: (s₁.heap.objs.size + 1 + 1 + 1, o5) :: (s₁.heap.objs.size + 1 + 1, a) :: (s₁.heap.objs.size + 1, b') :: bz ∧ (∃ c, a.data = .cell c)) (fun _ _ _ _ => by trivial) _ 0 _ _ ?_ ?_ ?_
              · intro j a9 mx nx v hh tk6 hb1 hb2 hI0 F66 its hits N66
                refine cutW (W := fun R => wpAny _ _ _ (fun _ s₂ => wpAny _ _ _ R _ s₂) _ _) (fun RT hRT => ?_)
                obtain ⟨rfl, a, rfl, ⟨ca, ea⟩⟩ := hI0
                obtain ⟨hj4, tj, rfl⟩ := tok_at hb1 hb2
                obtain ⟨oJ, rfl, _⟩ := objs1 hits
                simp only [List.cons_append, List.nil_append] at N66
                (try rw [Int.zero_add])
                clear F65 N65
                refine cutF (mid := fun R => ∀ h' tk' a', (∃ c, a'.data = .cell c) → Fr (ghostOf s₁.heap [(159, 155)]) s₁.heap.objs.size h' m6 → News (ghostOf s₁.heap [(159, 155)]) s₁.heap.objs.size h' ((J7, oJ) :: (I6, oI) :: (s₁.heap.objs.size + 1 + 1 + 1 + 1, o4) :: (s₁.heap.objs.size + 1 + 1 + 1, o5) :: (s₁.heap.objs.size + 1 + 1, a') :: (s₁.heap.objs.size + 1, b') :: bz) → R .next { s₁ with heap := h', toks := tk' }) (W := fun R => wpAny _ _ _ (fun _ s₂ => wpAny _ _ _ R _ s₂) _ _) (fun RF hRF => ?_) ?_
                rotate_left
                · intro h' tk' a' ha' F' N'
                  refine hRT _ _ ⟨_, _, _, _, (I6, oI) :: (s₁.heap.objs.size + 1 + 1 + 1 + 1, o4) :: (s₁.heap.objs.size + 1 + 1 + 1, o5) :: (s₁.heap.objs.size + 1 + 1, a') :: (s₁.heap.objs.size + 1, b') :: bz, rfl, F', N', by walk_at "my sub", by walk_at "my sub", ?_, rfl, a', rfl, ha'⟩
                  intro p hp z hz
                  rw [List.mem_singleton.mp hz]
                  revert p
                  exact List.forall_mem_cons.mpr ⟨Nat.ne_of_lt j0, List.forall_mem_cons.mpr ⟨Nat.ne_of_lt j4, List.forall_mem_cons.mpr ⟨Nat.ne_of_lt j3, List.forall_mem_cons.mpr ⟨Nat.ne_of_lt j2, List.forall_mem_cons.mpr ⟨Nat.ne_of_lt j1, jb⟩⟩⟩⟩⟩
                walk_at "my stI"
                rename_i a' F68 N68 ea'
                refine cutF (mid := fun R => ∀ h' tk', Fr (ghostOf s₁.heap [(159, 155)]) s₁.heap.objs.size h' m6 → News (ghostOf s₁.heap [(159, 155)]) s₁.heap.objs.size h' ((J7, oJ) :: (I6, oI) :: (s₁.heap.objs.size + 1 + 1 + 1 + 1, o4) :: (s₁.heap.objs.size + 1 + 1 + 1, o5) :: (s₁.heap.objs.size + 1 + 1, a') :: (s₁.heap.objs.size + 1, b') :: bz) → R .next { s₁ with heap := h', toks := tk' }) (W := fun R => wpAny _ _ _ R _ _) (fun RG hRG => ?_) ?_
                · walk_at "my stc"
                  all_goals (try exact hRG _ _ (by assumption) (by assumption))
                  refine gridI_item (by assumption) (by walk_at "my sub") hgi hi4 (fun r hr => ?_)
                  walk_at "my stc"
                  refine rowI_item (by assumption) (by walk_at "my sub") hr hj4 (fun t => ?_)
                  walk_at "my stc"
                  rename_i hne l9 _ F71 N71 _
                  have N72 : News (ghostOf s₁.heap [(159, 155)]) s₁.heap.objs.size _ ((Dw, listOf ys.toArray ys.length) :: _) := ins N71 (List.mem_cons_of_mem _ (by repeat (first | exact hDw | refine List.mem_cons_of_mem _ ?_)))
                  clear N71
                  walk_at "my stc"
                  rename_i D9 us9 _ F73 N73 hus _
                  have hin : pw ws 2 i j ∈ [0] ++ nsw := by
                    rcases pw_width ws hw hi4 hj4 (fun e => hne (by rw [e])) with h | ⟨k9, hk9, hp9, e9⟩
                    · rw [h]; exact .head _
                    · rw [e9]; exact List.mem_append_right _ (hmw k9 hk9 hp9)
                  refine notin_ints N73 (.head _) hus ?_
                  rw [decide_eq_true hin, Bool.not_true]
                  walk_at "my stc"
                  exact hRG _ _ F73 (drop N73 (by walk_at "my sub"))
                · intro h68 tk68 F69 N69
                  clear F68 N68 F66 N66
                  walk_at "my stc"
                  k_dflt (refine LCt.ListComp_T (F₀ := by k_asm) (by with_unfolding_all rfl) (by decide) (by rfl) (by decide) (by rfl) ?_)
                  walk_at "my stc"
                  unfold Stop
                  k_dflt (refine LCt.CompSrcT.range (by rfl) (by k_asm) (by k_asm) (by assumption) (by first | decide | rfl) (by first | rfl | decide) (by first | size_fits | exact Nat.le_of_ble_eq_true rfl) ?_)
                  intro gR
                  refine comp_invT (fun k ys n2 => ys = [] ∧ n2 = ((J7, oJ) :: (I6, oI) :: (s₁.heap.objs.size + 1 + 1 + 1 + 1, o4) :: (s₁.heap.objs.size + 1 + 1 + 1, o5) :: (s₁.heap.objs.size + 1 + 1, a') :: (s₁.heap.objs.size + 1, b') :: bz)) 4 0 _ _ ?_ ?_ ⟨rfl, rfl⟩
                  · rintro k ys n2 v I3 oI3 C3 oC3 D3 m3 h3 tk3 E3 _ hk4 hv hC3 hx3 F70 N70 off3 ne3 ⟨rfl, rfl⟩
                    obtain ⟨tp, rfl⟩ := hv
                    rw [Int.zero_add] at hx3
                    walk_at "my stc"
                    refine gridI_item (by assumption) (by walk_at "my sub") hgi hi4 (fun r hr => ?_)
                    walk_at "my stc"
                    refine rowI_item (by assumption) (by walk_at "my sub") hr (by omega) (fun t => ?_)
                    walk_at "my stc"
                    refine gridI_item (by assumption) (by walk_at "my sub") hgi (by omega) (fun r hr => ?_)
                    walk_at "my stc"
                    refine rowI_item (by assumption) (by walk_at "my sub") hr hj4 (fun t => ?_)
                    walk_at "my stc"
                    refine gridI_item (by assumption) (by walk_at "my sub") hgi hi4 (fun r hr => ?_)
                    walk_at "my stc"
                    refine rowI_item (by assumption) (by walk_at "my sub") hr hj4 (fun t => ?_)
                    walk_at "my stc"
                    · rename_i hlt
                      exact absurd hlt (pw_no ws hw hi4 (by omega) hj4)
                    · exact LCg.CompEnd.intro (by assumption) (by assumption) _ (fun _ h9 => h9) off3 trivial ⟨trivial, rfl⟩
                  · rintro ys n2 ⟨rfl, rfl⟩
                    walk_at "my stc"
                    refine ne_nil2 (ka := 0) (kb := 0) (by assumption) (by k_mem) (by k_mem) (by walk_at "my room") ?_
                    walk_at "my stc"
                    exact hRF _ _ a' ⟨_, ea'⟩ (by assumption) (drop (by assumption) (by walk_at "my sub"))
              · rintro mx nx hh tk6 ⟨rfl, a, rfl, ⟨ca, ea⟩⟩ F66 N66
                clear F65 N65
                refine hRQ _ _ ?_
                clear hRQ
                (try dsimp only)
                walk_at "my stc"
                refine hRT _ _ ⟨_, _, _, _, (s₁.heap.objs.size + 1 + 1 + 1 + 1, o4) :: (s₁.heap.objs.size + 1 + 1 + 1, o5) :: (s₁.heap.objs.size + 1 + 1, a) :: (s₁.heap.objs.size + 1, b') :: bz, rfl, F66, N66, by walk_at "my sub", by walk_at "my sub", ?_, rfl, a, b', rfl, ⟨_, ea⟩, ⟨_, eb'⟩⟩
                intro p hp z hz
                rw [List.mem_singleton.mp hz]
                revert p
                exact List.forall_mem_cons.mpr ⟨Nat.ne_of_lt z4, List.forall_mem_cons.mpr ⟨Nat.ne_of_lt z3, List.forall_mem_cons.mpr ⟨Nat.ne_of_lt z2, List.forall_mem_cons.mpr ⟨Nat.ne_of_lt z1, zb⟩⟩⟩⟩
              · exact ⟨rfl, a, rfl, ⟨_, ea⟩⟩
            · rintro mx nx hh tk6 ⟨rfl, a, b, rfl, ⟨ca, ea⟩, ⟨cb, eb⟩⟩ F64 N64
              clear F63 N63
              refine hRQ _ _ ?_
              clear hRQ
              (try dsimp only)
              walk_at "my stc"
              unfold Stop
              rename_i U0 _ _ _ lU0 _ o9 F80 N80 d80
              obtain ⟨v1, v2, v3, hv3⟩ := pw_three ws hw
              obtain ⟨r0, r1, r2, r3, kq, hqm, hr0, hr1, hr2, hr3⟩ := id hgi
              replace N80 : News (ghostOf s₁.heap [(159, 155)]) s₁.heap.objs.size _ ((s₁.heap.objs.size + 1 + 1 + 1 + 1, o9) :: (s₁.heap.objs.size + 1 + 1 + 1, o5) :: (s₁.heap.objs.size + 1 + 1, a) :: (s₁.heap.objs.size + 1, b) :: (U0, listOf [].toArray 0) :: bz) := drop N80 (by walk_at "my sub")
              refine cutW (W := fun R => wpAny _ _ _ (fun it s₂ => TurnsAt _ _ _ _ _ _ _ R _ it s₂) _ _) (fun RQ hRQ => ?_)
              refine iter_listTurns (lo := listOf [Value.ref r0, .ref r1, .ref r2, .ref r3].toArray kq) (vs := [Value.ref r0, .ref r1, .ref r2, .ref r3]) rfl F80 N80 (.tail _ (.tail _ (.tail _ (.tail _ (.tail _ hqm))))) rfl rfl ?_
              intro K8 hK8
              have x4 : @LT.lt Nat _ (s₁.heap.objs.size + 1 + 1 + 1 + 1) K8 := hK8 _ (.head _)
              have x3 : @LT.lt Nat _ (s₁.heap.objs.size + 1 + 1 + 1) K8 := hK8 _ (.tail _ (.head _))
              have x2 : @LT.lt Nat _ (s₁.heap.objs.size + 1 + 1) K8 := hK8 _ (.tail _ (.tail _ (.head _)))
              have x1 : @LT.lt Nat _ (s₁.heap.objs.size + 1) K8 := hK8 _ (.tail _ (.tail _ (.tail _ (.head _))))
              refine rest_inv (fun i mx nx => (∀ y, SR.contains y = false → mx y = m6 y) ∧ ∃ o U vs us kU bs, nx = (s₁.heap.objs.size + 1 + 1 + 1 + 1, o) :: (s₁.heap.objs.size + 1 + 1 + 1, o5) :: (s₁.heap.objs.size + 1 + 1, a) :: (s₁.heap.objs.size + 1, b) :: bs ∧ o.data = .cell (some (.ref U)) ∧ (U, listOf vs.toArray kU) ∈ bs ∧ IntsAre vs us ∧ us.length ≤ 4 * i ∧ (∀ x ∈ us, V3 v1 v2 v3 x) ∧ (∀ p ∈ bz, p ∈ bs) ∧ (∀ p ∈ bs, p.1 ≠ s₁.heap.objs.size + 1 + 1 + 1 + 1) ∧ (∀ p ∈ bs, p.1 ≠ K8)) ?_ _ 0 _ _ ?_ ?_ ?_
              · rintro i mx nx ⟨_, o, U, vs, us, kU, bs, rfl, _, _, _, _, _, hs, _⟩
                exact ⟨.tail _ (.tail _ (.tail _ (.tail _ (hs _ hqm)))), trivial⟩
              · intro i a9 mx nx v hh tk6 ha1 ha2 hI0 F81 its hits N81
                refine cutW (W := fun R => wpAny _ _ _ (fun _ s₂ => wpAny _ _ _ R _ s₂) _ _) (fun RT hRT => ?_)
                obtain ⟨hm, o, U, vs, us, kU, bs, rfl, ho, hU, hus, hul, huv, hsb, hb4, hbK⟩ := hI0
                obtain ⟨r, rfl, ⟨vr, kr, hrm, hri⟩, hi4⟩ := rowsI_at hr0 hr1 hr2 hr3 ha1 ha2
                obtain ⟨oK, rfl, _⟩ := objs1 hits
                obtain ⟨u9, rfl⟩ := frame_form0 hm
                simp only [List.cons_append, List.nil_append] at N81
                clear F80 N80 hK8
                refine cutF (mid := fun R => ∀ h' tk' m' o' U' vs' us' kU' bs', (∀ y, SR.contains y = false → m' y = m6 y) → Fr (ghostOf s₁.heap [(159, 155)]) s₁.heap.objs.size h' m' → News (ghostOf s₁.heap [(159, 155)]) s₁.heap.objs.size h' ((K8, oK) :: (s₁.heap.objs.size + 1 + 1 + 1 + 1, o') :: (s₁.heap.objs.size + 1 + 1 + 1, o5) :: (s₁.heap.objs.size + 1 + 1, a) :: (s₁.heap.objs.size + 1, b) :: bs') → o'.data = .cell (some (.ref U')) → (U', listOf vs'.toArray kU') ∈ bs' → IntsAre vs' us' → us'.length ≤ 4 * (i + 1) → (∀ x ∈ us', V3 v1 v2 v3 x) → (∀ p ∈ bz, p ∈ bs') → (∀ p ∈ bs', p.1 ≠ s₁.heap.objs.size + 1 + 1 + 1 + 1) → (∀ p ∈ bs', p.1 ≠ K8) → R .next { s₁ with heap := h', toks := tk' }) (W := fun R => wpAny _ _ _ (fun _ s₂ => wpAny _ _ _ R _ s₂) _ _) (fun RF hRF => ?_) ?_
                rotate_left
                · intro h' tk' m' o' U' vs' us' kU' bs' hm' F' N' k1 k2 k3 k4 k5 k6 k7 k8
                  refine hRT _ _ ⟨_, _, _, _, (s₁.heap.objs.size + 1 + 1 + 1 + 1, o') :: (s₁.heap.objs.size + 1 + 1 + 1, o5) :: (s₁.heap.objs.size + 1 + 1, a) :: (s₁.heap.objs.size + 1, b) :: bs', rfl, F', N', by walk_at "my sub", by walk_at "my sub", ?_, hm', o', U', vs', us', kU', bs', rfl, k1, k2, k3, by rw [Nat.zero_add]; exact k4, k5, k6, k7, k8⟩
                  intro p hp z hz
                  rw [List.mem_singleton.mp hz]
                  revert p
                  exact List.forall_mem_cons.mpr ⟨Nat.ne_of_lt x4, List.forall_mem_cons.mpr ⟨Nat.ne_of_lt x3, List.forall_mem_cons.mpr ⟨Nat.ne_of_lt x2, List.forall_mem_cons.mpr ⟨Nat.ne_of_lt x1, k8⟩⟩⟩⟩
                have hU4 : @Ne Nat U (s₁.heap.objs.size + 1 + 1 + 1 + 1) := hb4 _ hU
                replace N81 : News (ghostOf s₁.heap [(159, 155)]) s₁.heap.objs.size _ ((U, listOf vs.toArray kU) :: (K8, oK) :: (s₁.heap.objs.size + 1 + 1 + 1 + 1, o) :: (s₁.heap.objs.size + 1 + 1 + 1, o5) :: (s₁.heap.objs.size + 1 + 1, a) :: (s₁.heap.objs.size + 1, b) :: bs) := ins N81 (List.mem_cons_of_mem _ (.tail _ (.tail _ (.tail _ (.tail _ hU)))))
                walk_at "my stc"
                k_dflt (refine LCt.ListComp_T (F₀ := by k_asm) (by with_unfolding_all rfl) (by decide) (by rfl) (by decide) (by rfl) ?_)
                walk_at "my stc"
                unfold Stop
                have hrm2 := hsb _ hrm
                k_dflt (refine LCt.CompSrcT.ledger (by rfl) (by k_asm) (by k_asm) (.tail _ (.tail _ (.tail _ (.tail _ (.tail _ (.tail _ hrm2)))))) (Nat.le_trans (Nat.le_of_eq (by rw [List.size_toArray, hri.length]; rfl)) (by decide : 4 ≤ sizeLine)) ?_)
                intro gR
                refine comp_invT (fun k ys n2 => n2 = (U, listOf vs.toArray kU) :: (K8, oK) :: (s₁.heap.objs.size + 1 + 1 + 1 + 1, o) :: (s₁.heap.objs.size + 1 + 1 + 1, o5) :: (s₁.heap.objs.size + 1 + 1, a) :: (s₁.heap.objs.size + 1, b) :: bs ∧ CInv v1 v2 v3 k ys) _ 0 _ _ ?_ ?_ ⟨rfl, [], .nil, Nat.le_refl _, fun _ h => nomatch h⟩
                · rintro k ys n2 v I3 oI3 C3 oC3 D3 m3 h3 tk3 E3 _ hk4 hv hC3 hx3 F82 N82 off3 ne3 ⟨rfl, hc⟩
                  obtain ⟨tv, rfl, hvm⟩ := ints_at hri (by simpa using hv)
                  have hS : LCg.SrcAt (ghostOf s₁.heap [(159, 155)]) r vr.toArray ((U, listOf vs.toArray kU) :: (K8, oK) :: (s₁.heap.objs.size + 1 + 1 + 1 + 1, o) :: (s₁.heap.objs.size + 1 + 1 + 1, o5) :: (s₁.heap.objs.size + 1 + 1, a) :: (s₁.heap.objs.size + 1, b) :: bs) := Or.inr ⟨_, .tail _ (.tail _ (.tail _ (.tail _ (.tail _ (.tail _ hrm2))))), rfl, _, rfl⟩
                  walk_at "my stc"
                  · refine notin_ints (by assumption) (by k_mem) hus ?_
                    rename_i hlt6
                    walk_at "my stc"
                    all_goals first | exact LCg.CompEnd.intro (by assumption) (by assumption) _ (fun _ h9 => h9) off3 hS ⟨rfl, hc.yes (row_v3 (fun c hc h6 => hv3 i hi4 c hc h6) hvm hlt6)⟩ | exact LCg.CompEnd.intro (by assumption) (by assumption) _ (fun _ h9 => h9) off3 hS ⟨rfl, hc.no⟩
                  · exact LCg.CompEnd.intro (by assumption) (by assumption) _ (fun _ h9 => h9) off3 hS ⟨rfl, hc.no⟩
                · rintro ys n2 ⟨rfl, ns, hns, hnl, hnv⟩
                  walk_at "my stc"
                  rename_i D9 _ _ F83 N83 oD9
                  replace N83 : News (ghostOf s₁.heap [(159, 155)]) s₁.heap.objs.size _ ((D9, listOf ys.toArray ys.length) :: _) := N83
                  have h4r : vr.toArray.size = 4 := by rw [List.size_toArray, hri.length]; rfl
                  have hrm9 : us.length + ns.length ≤ sizeLine := Nat.le_trans (by omega : us.length + ns.length ≤ 40) (by decide)
                  obtain ⟨o1, o2, o3', o4', _⟩ := id oD9
                  walk_at "my stc"
                  rename_i D10 us10 _ hus10 l10 _ o10 F84 N84 d84
                  exact hRF _ _ _ o10 D10 us10 (us ++ ns) 0 ((D10, listOf us10.toArray 0) :: bs) sr_form F84 (drop N84 (by walk_at "my sub")) d84 (.head _) hus10 (by rw [List.length_append]; omega) (fun x hx => (List.mem_append.mp hx).elim (huv x) (hnv x)) (fun p hp => .tail _ (hsb p hp)) (List.forall_mem_cons.mpr ⟨Nat.ne_of_gt l10.2.2.2.1, hb4⟩) (List.forall_mem_cons.mpr ⟨Nat.ne_of_gt l10.2.2.1, hbK⟩)
              · rintro mx nx hh tk6 ⟨hm, o, U, vs, us, kU, bs, rfl, ho, hU, hus, hul, huv, hsb, hb4, hbK⟩ F81 N81
                obtain ⟨u9, rfl⟩ := frame_form0 hm
                clear F80 N80 hK8
                refine hRQ _ _ ?_
                clear hRQ
                (try dsimp only)
                walk_at "my stc"
                replace hul : us.length ≤ 16 := hul
                have hzU : vs.toArray.size ≤ sizeLine := room2 hus (by omega)
                k_dflt (refine ListComp_W (F₀ := by k_asm) (by with_unfolding_all rfl) (by decide) (by rfl) (by decide) ?_)
                walk_at "my stc"
                refine src_enum (its := vs.toArray) (k := kU) rfl (by assumption) (by assumption) (.tail _ (.tail _ (.tail _ (.tail _ hU)))) hzU (fun i v m2 => ∃ t x, vs.toArray[i]? = some x ∧ m2 (Str.ofString "at") = some (.int (i : Int) t) ∧ m2 (Str.ofString "width") = some x) (UInv us) ?_ ?_ ⟨[], .nil, List.nodup_nil, fun _ h => nomatch h⟩ ?_
                · rintro C i v s' m' Q' E' hi ⟨T, vals, rfl, ⟨t, x, hx, rfl⟩, hT⟩ hnews hn h
                  exact kcp_assign rfl hT (lookup_relabel_local (by rfl)) (lookup_relabel_local (by rfl)) (by rfl) hn fun h' tk' hn' hk => h h' tk' _ hn' ⟨t, x, hx, n_at_w, if_pos rfl⟩ hk
                · intro g' I C D hI hCD hfp hnw i v ys oC m2 h tk own E' hi hB hoC F60 hown N60 hInv
                  obtain ⟨tat, x, hx, hat, hwd⟩ := hB
                  obtain ⟨tx, rfl, _⟩ := ints_at hus (by simpa using hx)
                  have hil : i < us.length := by rw [List.size_toArray, hus.length] at hi; exact hi
                  obtain ⟨T9, hT9⟩ : ∃ T, T = bs ++ own := ⟨_, rfl⟩
                  have hU9 : (U, listOf vs.toArray kU) ∈ T9 := hT9 ▸ List.mem_append_left _ hU
                  have N61 : News (ghostOf s₁.heap [(159, 155)]) s₁.heap.objs.size _ ((U, listOf vs.toArray kU) :: (C, oC) :: (D, LCg.lst ys) :: (s₁.heap.objs.size + 1 + 1 + 1 + 1, o) :: (s₁.heap.objs.size + 1 + 1 + 1, o5) :: (s₁.heap.objs.size + 1 + 1, a) :: (s₁.heap.objs.size + 1, b) :: T9) := drop N60 (List.forall_mem_cons.mpr ⟨List.mem_append_right _ (.tail _ (.tail _ (.tail _ (.tail _ (.tail _ (.tail _ hU)))))), by subst hT9; exact own_move⟩)
                  clear N60 F81 N81
                  walk_at "my std"
                  rename_i D9 us9 _ F83 N83 hus9 _ _ _
                  rw [Int.toNat_natCast] at hus9
                  refine notin_ints N83 (.head _) hus9 ?_
                  subst hT9
                  walk_at "my stc"
                  all_goals first | exact ⟨_, _, rfl, F83, drop N83 (fun p hp => .tail _ (.tail _ (own_back p hp)))⟩ | exact hInv.no | exact hInv.yes hil (by assumption) | (rename_i h9; exact hInv.yes hil (by simpa using h9))
                · intro g' ys hW Dl h82 tk82 F82 N82 off82
                  obtain ⟨ds, hds, hnd, hsub⟩ := hW
                  have hd3 : ds.length ≤ 3 := nodup_three hnd fun x hx => huv x (List.take_subset _ _ (hsub x hx))
                  replace N82 : News (ghostOf s₁.heap [(159, 155)]) s₁.heap.objs.size _ ((Dl, listOf ys.toArray ys.length) :: _) := N82
                  have hl3 : ((ds.length : Nat) : Int) ≤ 3 := by omega
                  walk_at "my stc"
                  refine cutW (W := fun R => wpAny _ _ _ R _ _) (fun RC hRC => ?_)
                  refine' CallOK.use (sp_due w bs ln ws 4 4 _ rfl (by decide) (hl.mono hsb)) (drop N82 (by walk_at "my sub")) ?u2 ?u3 ?u4 ?u5 ?u6 ?u7 ?u8 ?_
                  walk_at "my use2"
                  rintro v84 n84 h84 tk84 F84 N84 ⟨⟨q84, rfl⟩, hd84, hg84⟩
                  refine hRC _ _ ?_
                  clear hRC
                  (try dsimp only)
                  refine gd_eq N84 (fun _ h => h) (hdt.mono fun p hp => hg84.1 _ (hsb _ hp)) hd84 (due_4 ws hw) (by walk_at "my room") ?_
                  have hT84 : TabC n84 := hT.mono fun p hp => hg84.1 _ (hsb _ hp)
                  clear hd84 hg84 hdt hgi hqm hr0 hr1 hr2 hr3 hv3 hl hmw hnsw hDw F82 N82 off82 hds hnd hsub
                  obtain ⟨c1, c2, oc1, oc2, _, _, _, _, h155, _⟩ := hT84
                  have N85 := ins N84 h155
                  clear N84
                  (try dsimp only)
                  (try k_unfold)
                  (try dsimp only)
                  k_steps
              · refine ⟨fun _ _ => rfl, o9, U0, [], [], 0, (U0, listOf [].toArray 0) :: bz, rfl, d80, .head _, .nil, Nat.le_refl _, (fun _ h => nomatch h), fun p hp => .tail _ hp, ?_, ?_⟩
                · exact List.forall_mem_cons.mpr ⟨Nat.ne_of_gt lU0.1, y4⟩
                · exact fun p hp => Nat.ne_of_lt (hK8 p (.tail _ (.tail _ (.tail _ (.tail _ hp)))))
            · exact ⟨rfl, p2, p1, rfl, ⟨_, e2⟩, ⟨_, e1⟩⟩
        · refine ⟨(Dt9, tupO [.int 2 ta5, .int 3 tb5]) :: bb, G, rfl, ?_, hg.mono (fun p hp => .tail _ hp), hg.mono (fun p hp => .tail _ hp), hl.mono (fun p hp => .tail _ hp), .head _, ?_, .inl ⟨rfl, ?_, ?_⟩⟩
          · intro y h1 h2
            simp only [if_neg h1, (SP_no h2).2]
            rfl
          · refine List.forall_mem_cons.mpr ⟨?_, fun p hp h => ?_⟩
            · intro h
              rcases List.mem_cons.mp h with h | h
              · exact Nat.ne_of_lt (hI5 (Dt9, _) (.tail _ (.tail _ (.tail _ (.tail _ (.tail _ (.head _))))))) h
              · exact nmem4 (Nat.ne_of_gt lDt.2.1) (Nat.ne_of_gt lDt.2.2.1) (Nat.ne_of_gt lDt.2.2.2.1) (Nat.ne_of_gt lDt.2.2.2.2.1) h
            · rcases List.mem_cons.mp h with h | h
              · exact Nat.ne_of_lt (hI5 p (.tail _ (.tail _ (.tail _ (.tail _ (.tail _ (.tail _ hp))))))) h
              · exact hbb p hp (.tail _ h)
          · rfl
          · exact List.forall_mem_cons.mpr ⟨Nat.ne_of_gt lDt.1, fun p hp e => hbb p hp (e ▸ .head _)⟩
      · refine ⟨_, _, _, _, tups, rfl, ⟨_, _, _, _, rfl, .int _ _, .int _ _, .int _ _, .int _ _⟩, ⟨_, _, _, _, rfl, .int _ _, .int _ _, .int _ _, .int _ _⟩, ⟨_, _, _, _, rfl, .int _ _, .int _ _, .int _ _, .int _ _⟩, ⟨_, _, _, _, rfl, .int _ _, .int _ _, .int _ _, .int _ _⟩, fun _ h => h, ?_, fun _ _ => rfl⟩
        exact ⟨off1_mem oG.2.2.2.2.2.2.2.2.2.2, fun p hp => t3 p (.tail _ (.tail _ (.tail _ (.tail _ (.tail _ (.tail _ (hp))))))), fun p hp => t2 p (.tail _ (.tail _ (.tail _ (.tail _ (.tail _ (.tail _ (hp))))))), fun p hp => t1 p (.tail _ (.tail _ (.tail _ (.tail _ (.tail _ (.tail _ (hp))))))), fun p hp => t0 p (.tail _ (.tail _ (.tail _ (.tail _ (.tail _ (.tail _ (hp))))))), u1, u4, u5, u6, u7, u8, fun p hp => zJ p (.tail _ (.tail _ (.tail _ (.tail _ (.tail _ (.tail _ (hp))))))), fun p hp => zK p (.tail _ (.tail _ (.tail _ (.tail _ (.tail _ (.tail _ (hp))))))), trivial⟩
  · exact ⟨rfl, #[], 0, fun _ => 0, _, o2, o1, [], rfl, ⟨rfl, fun i x hx => by simp at hx⟩, fun _ => ⟨Int.le_refl 0, (by decide : (0 : Int) < 6)⟩, ⟨_, d2⟩, ⟨_, d1⟩, fun p hp => by cases hp⟩⟩
end
end Mine
theorem PySem.Challenge.cw_tk0001_01_holds : PySem.Challenge.rw_tk0001_01.Holds :=
  Mine.law_holds
