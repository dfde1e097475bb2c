import PyProof.Rows.All
import Wide.All
import OpenK.AllK
import Wide.FinOn
import PySem.Challenge.RW_pc0161_01
open PySem PySem.W PyProof.Rows
set_option Elab.async false

namespace Mine
section
set_option maxRecDepth 100000
set_option maxHeartbeats 8000000
open_top hd for PySem.Challenge.rw_pc0161_01
end
end Mine

section
-- A0
open PySem PySem.W PySem.Spec PySem.Calls PyProof.Rows
set_option maxRecDepth 100000
namespace Mine
theorem fresh0 : True := by
  k_with_none
  w_top off
  first | (walk1; fail) | trivial

/-- what a heap keeps, but for some addresses -/
def Keep (bs : List Addr) (h h' : Heap) : Prop := ∀ c o, c ∉ bs → h.get? c = some o → h'.get? c = some o
theorem Keep.refl (bs : List Addr) (h : Heap) : Keep bs h h := fun _ _ _ e => e
theorem Keep.trans {bs : List Addr} {h h' h'' : Heap} (a : Keep bs h h') (b : Keep bs h' h'') : Keep bs h h'' := fun c o n e => b c o n (a c o n e)
theorem Keep.mono {bs cs : List Addr} {h h' : Heap} (a : Keep bs h h') (s : ∀ b ∈ bs, b ∈ cs) : Keep cs h h' := fun c o n e => a c o (fun q => n (s c q)) e

section
variable {prog : Program} {w : World} {A A₀ : Around} {s : Shared} {K : Frag} {L : Addr} {h₀ base : Heap} {m mg mb : Str → Option Value} {news : List (Addr × Obj)} {p : Program} {loose : List Str} {mean : ExcName → Option Value}

theorem code_defF {env : Env} {outer : List Env} {Q E : Value → Shared → Prop} {name qual : Str} {params : Arguments} {body : List Stmt} {scope : Scope} {dV kV doc pm cdv ct oc : Value} {an od : Option Addr} {osl : Array (Option Value)} {f : Addr} {args : Args} {binds : List (Str × Value)}
    (B : Below A₀ base outer h₀) (F : Fr h₀ L s.heap m) (X₀ : K.In h₀) (N : News h₀ L s.heap news) (T : Top p loose mean mg mb h₀) (hA : A.frames = some (env :: outer)) (hf : env.frame = some L) (hke : env.scope.kind = .function)
    (ho : K.lookup f = some ⟨oc, od, .func (fnOf name qual params body scope dV kV doc pm an cdv ct), osl⟩) (hcd : codeIn K cdv qual = true) (hroom : A.depth < recursionLimit)
    (hbind : BindsTo s (fnOf name qual params body scope dV kV doc pm an cdv ct) args binds) (hloc : ∀ y ∈ binds, scope.names.lookup y.1 = some .local)
    (h : ∀ g L' h₁, (∀ c o, c ∉ news.map (·.1) → s.heap.get? c = some o → g.get? c = some o) → Fr g L' h₁ (fun y => binds.reverse.lookup y) → News g L' h₁ news → Below A base (env :: outer) g → K.In g → Top p loose mean mg mb g →
      wpAny (model prog w) (A.deeper (envOf qual scope L' f cdv)) (execs body (envOf qual scope L' f cdv))
        (fun fl s' => Q (match fl with | .ret v => v | _ => .none) s') (fun _ _ => False)
        { s with heap := h₁, toks := s.toks + binds.length })
    (hco : scope.isCoroutine = false) (hgen : scope.isGenerator = false) (hk : scope.kind = .function)
    (hcell : ∀ x ∈ scope.names, x.2 ≠ .cell) : codeAny (model prog w) A (.call (.ref f) args) (fun r s' => match r with | .ok (.ret v) => Q v s' | .ok _ => False | .error e => E e s') s := by
  obtain ⟨FG, BG, st, _⟩ := groundX (R := fun _ _ => True) B F N hA hf hke
  refine codeAny_call_def (fd := fnOf name qual params body scope dV kV doc pm an cdv ct) (body := body) (binds := binds) hroom ((X₀.keeps F.keep) _ _ ho) rfl (T.nolimit.keeps F.keep) (codeRec_of (X₀.keeps F.keep) hcd) rfl hbind hcell hloc (fun h₁ hns hk₁ => ?_) hco hgen hk
  exact wpAny_mono (h _ s.heap.objs.size h₁ (fun c o n e => hideAll_get _ e n) ⟨hns, fun b o e => hk₁ b o (of_hideAll _ e), Nat.le_of_eq (hideAll_size _ _)⟩
    (fun p hp => ⟨hk₁ _ _ (N p hp).1, Nat.ne_of_lt (Heap.lt_size (N p hp).1), hideAll_none _ (List.mem_map_of_mem hp)⟩) BG (X₀.keeps st) (T.keeps st)) (fun fl s' hl => hl) fun _ _ y => y.elim
end

/-- a frame's facts over a heap that keeps all but some new objects -/
theorem frKeep {h₀ h h' : Heap} {L : Addr} {m : Str → Option Value} {bs : List Addr} (F : Fr h₀ L h m) (hL : L ∉ bs) (hb : ∀ b ∈ bs, h₀.get? b = none) (k : Keep bs h h') : Fr h₀ L h' m := by
  obtain ⟨⟨o, es, ep, e, r⟩, kp, ab⟩ := F
  exact ⟨⟨o, es, ep, k _ _ hL e, r⟩, fun b o e => k _ _ (fun q => by rw [hb b q] at e; cases e) (kp b o e), ab⟩
theorem newsKeep {h₀ h h' : Heap} {L : Addr} {news : List (Addr × Obj)} {bs : List Addr} (N : News h₀ L h news) (hb : ∀ q ∈ news, q.1 ∉ bs) (k : Keep bs h h') : News h₀ L h' news :=
  fun q hq => ⟨k _ _ (hb q hq) (N q hq).1, (N q hq).2⟩

theorem fill : (PySem.Challenge.rw_pc0161_01, hd.heap_39) = (PySem.Challenge.rw_pc0161_01, hd.heap_39) := by
  k_fill
  rfl

end Mine

end

section
-- A1
open PySem PySem.W PySem.Spec PySem.Calls PyProof.Rows
set_option maxRecDepth 100000
set_option maxHeartbeats 8000000
namespace Mine
theorem fresh1 : True := by
  k_with_none
  w_top off
  first | (walk1; fail) | trivial

theorem take_spec {prog : Program} {w : World} {p : Program} {loose : List Str} {mean : ExcName → Option Value} {mg mb : Str → Option Value}
    {dp un : Nat} {gd : Option (List Code)} {cn : Str} {cs : Scope} {a : Addr} {ccd : Value} {cl : List (Str × Addr)} {outer : List Env} {A₀ : Around} {base h₀ : Heap} {L : Addr} {m : Str → Option Value} {s : Shared} {Q E : Value → Shared → Prop}
    (B : Below A₀ base outer h₀) (F : Fr h₀ L s.heap m) (X : (hd.heap_39 w.params).In h₀) (T : Top p loose mean mg mb h₀) (hk : cs.kind = .function)
    {b : Addr} {g n many : Int} {tg tn tm : Tok} {ep : Nat} (N : News h₀ L s.heap [(b, listOf #[.int g tg, .int n tn] ep)])
    (hg : 0 ≤ g) (hm : 2 ≤ many) (hm' : many ≤ 9) (hroom : dp < recursionLimit)
    (ret : ∀ d td g' tg' tn' ep' h' tk', 0 ≤ d → d < many → 0 ≤ g' → Keep [b] s.heap h' → h'.get? b = some (listOf #[.int g' tg', .int (n + 1) tn'] ep') → Q (.int d td) { s with heap := h', toks := tk' }) :
    wpAny (model prog w) (ktrTop dp un gd cn cs L a ccd cl outer) (call (.ref 42) [.ref b, .int many tm]) Q E s := by
  refine wpAny_call ?_
  k_dflt (refine' code_defF ?k1 ?k2 ?k3 ?k4 ?k5 ?kA ?kF ?kK ?k6 ?k7 ?k8 ?k9 ?kB ?_ ?c2 ?c3 ?c4 ?c5; (case kA => exact rfl); (case kF => exact rfl); (case kK => assumption); (case k1 => k_asm); (case k2 => k_asm); (case k3 => k_asm); (case k4 => k_asm); (case k5 => k_asm); (case k6 => k_is); (case k7 => k_is); (case k8 => assumption); (case k9 => exact BindsTo.of_eq rfl); (case c5 => decide); (case kB => exact locs rfl); (case c2 => exact rfl); (case c3 => exact rfl); (case c4 => exact rfl); k_whole)
  intro g' L' h' KG F' N' B' X' T'
  (try dsimp only)
  (try k_fold)
  k_steps
  all_goals (
    (rename Fr g' L' _ _ => FF); (rename News g' L' _ _ => NN)
    refine ret _ _ _ _ _ _ _ _ ?_ ?_ ?_ (fun c o n e => FF.keep c o (KG c o n e)) (NN _ (.head _)).1)
  · exact Int.fmod_nonneg_of_pos _ (by omega)
  · exact Int.fmod_lt_of_pos _ (by omega)
  · exact Int.fdiv_nonneg (by assumption) (by omega)
  · exact Int.fmod_nonneg_of_pos _ (by omega)
  · exact Int.fmod_lt_of_pos _ (by omega)
  · assumption
end Mine

end

section
-- A2
open PySem PySem.W PySem.Spec PySem.Calls PyProof.Rows
set_option maxRecDepth 100000
set_option maxHeartbeats 8000000
set_option linter.unusedVariables false
namespace Mine
theorem fresh2 : True := by
  k_with_none
  w_top off
  first | (walk1; fail) | trivial

theorem grand_nn (f : Int → Int) (l : List Int) : ∀ a : Int, 0 ≤ a → 0 ≤ l.foldl (fun a n => a * 65536 + Int.fmod (f n) 65536) a := by
  induction l with
  | nil => intro a h; exact h
  | cons n r ih =>
    intro a h
    refine ih _ ?_
    have := Int.fmod_nonneg_of_pos (f n) (show (0 : Int) < 65536 by omega)
    show 0 ≤ a * 65536 + Int.fmod (f n) 65536
    omega

theorem grand_spec {prog : Program} {w : World} {p : Program} {loose : List Str} {mean : ExcName → Option Value} {mg mb : Str → Option Value}
    {dp un : Nat} {gd : Option (List Code)} {cn : Str} {cs : Scope} {a : Addr} {ccd : Value} {cl : List (Str × Addr)} {outer : List Env} {A₀ : Around} {base h₀ : Heap} {L : Addr} {m : Str → Option Value} {s : Shared} {Q E : Value → Shared → Prop}
    (B : Below A₀ base outer h₀) (F : Fr h₀ L s.heap m) (X : (hd.heap_39 w.params).In h₀) (T : Top p loose mean mg mb h₀) (hk : cs.kind = .function)
    {sl : Addr} {vs : List Value} {ns : List Int} (hl : h₀.IsList sl vs.toArray) (hi : IntsAre vs ns) (hlen : ns.length ≤ 63)
    (hroom : dp < recursionLimit)
    (ret : ∀ d td h' tk', 0 ≤ d → Keep [] s.heap h' → Q (.int d td) { s with heap := h', toks := tk' }) :
    wpAny (model prog w) (ktrTop dp un gd cn cs L a ccd cl outer) (call (.ref 49) [.ref sl]) Q E s := by
  k_with "pyIter ref" => k_invariant "grand" (fun a => 0 ≤ a)
  have N : News h₀ L s.heap [] := News.nil
  refine wpAny_call ?_
  k_dflt (refine' code_defF ?k1 ?k2 ?k3 ?k4 ?k5 ?kA ?kF ?kK ?k6 ?k7 ?k8 ?k9 ?kB ?_ ?c2 ?c3 ?c4 ?c5; (case kA => exact rfl); (case kF => exact rfl); (case kK => assumption); (case k1 => k_asm); (case k2 => k_asm); (case k3 => k_asm); (case k4 => k_asm); (case k5 => k_asm); (case k6 => k_is); (case k7 => k_is); (case k8 => assumption); (case k9 => exact BindsTo.of_eq rfl); (case c5 => decide); (case kB => exact locs rfl); (case c2 => exact rfl); (case c3 => exact rfl); (case c4 => exact rfl); k_whole)
  intro g' L' h' KG F' N' B' X' T'
  have hl' : g'.IsList sl vs.toArray := hl.at fun o e => KG _ _ (by simp) (F.keep _ _ e)
  (try dsimp only)
  (try k_fold)
  k_steps
  (rename Fr g' _ _ _ => FF)
  exact ret _ _ _ _ (grand_nn (fun n' => if n' < 0 then -n' else n') _ _ (Int.le_refl 0)) (fun c o n e => FF.keep c o (KG c o n e))
end Mine

end

section
-- A3
open PySem PySem.W PySem.Spec PySem.Calls PyProof.Rows
set_option maxRecDepth 100000
set_option linter.unusedVariables false
namespace Mine
theorem fresh3 : True := by
  k_with_none
  w_top off
  first | (walk1; fail) | trivial

theorem bytes_eq_int (a : Array UInt8) (t : Tok) (b : Int) (u : Tok) :
    Gives (Builtin.«bytes.__eq__» ⟨[.bytes a t, .int b u], []⟩) (.val (Value.notImplemented)) :=
  .of_wp fun M A E s Q h => by obtain ⟨hp, g, d, tk, os⟩ := s; wp_walk; rw [F.sub_int_bytes]; refine wpAny_pure ?_; wp_walk; exact ⟨_, rfl, h⟩
theorem int_eq_bytes (a : Int) (t : Tok) (b : Array UInt8) (u : Tok) :
    Gives (Builtin.«int.__eq__» ⟨[.int a t, .bytes b u], []⟩) (.val (Value.notImplemented)) :=
  .of_wp fun M A E s Q h => by obtain ⟨hp, g, d, tk, os⟩ := s; wp_walk; exact ⟨_, rfl, h⟩
theorem typeIs_bytes (s : Shared) (b : Array UInt8) (t : Tok) : s.TypeIs (.bytes b t) "bytes" := rfl

section
variable {prog : Program} {w : World} {A : Around} {E : Value → Shared → Prop} {s : Shared}
theorem eqBool_bytes_int {a : Array UInt8} {t : Tok} {b : Int} {u : Tok} {Q : Bool → Shared → Prop} (h : Q false s) : wpAny (model prog w) A (eqBool (.bytes a t) (.int b u)) Q E s := by
  unfold eqBool
  refine wpAny_holding ?_
  rw [if_neg (by intro e; have := eq_of_beq e; cases this)]
  refine wpAny_bind ?_
  exact EqNone.wpAny_richCompare_eq_decline (k := false) (fun s' => typeIs_bytes s' a t) (fun s' => typeIs_int s' b u) (by decide) F.sub_int_bytes FB.slot_bytes_eq F.slot_int_eq_refl rfl
    (call_gives FB.slot_bytes_eq (typeIs_bytes s a t) FB.entry_bytes_eq (FB.args_bytes_eq_2 _ _) (bytes_eq_int a t b u)
      ⟨rfl, call_gives F.slot_int_eq_refl (typeIs_int s b u) F.entry_int_eq (F.args_int_eq_2 _ _) (int_eq_bytes b u a t) ⟨rfl, wpAny_truthy_bool h⟩⟩)
theorem eqBool_int_bytes {a : Int} {t : Tok} {b : Array UInt8} {u : Tok} {Q : Bool → Shared → Prop} (h : Q false s) : wpAny (model prog w) A (eqBool (.int a t) (.bytes b u)) Q E s := by
  unfold eqBool
  refine wpAny_holding ?_
  rw [if_neg (by intro e; have := eq_of_beq e; cases this)]
  refine wpAny_bind ?_
  exact EqNone.wpAny_richCompare_eq_decline (k := false) (fun s' => typeIs_int s' a t) (fun s' => typeIs_bytes s' b u) (by decide) F.sub_bytes_int F.slot_int_eq FB.slot_bytes_eq rfl
    (call_gives F.slot_int_eq (typeIs_int s a t) F.entry_int_eq (F.args_int_eq_2 _ _) (int_eq_bytes a t b u)
      ⟨rfl, call_gives FB.slot_bytes_eq (typeIs_bytes s b u) FB.entry_bytes_eq (FB.args_bytes_eq_2 _ _) (bytes_eq_int b u a t) ⟨rfl, wpAny_truthy_bool h⟩⟩)
end

/-- the law's keys: bytes and ints -/
abbrev Ky := List UInt8 ⊕ Int
def isKy : Ky → Value → Bool
  | .inl b, v => isBytes b v
  | .inr i, v => Value.isInt i v
def hashKy (w : World) : Ky → Int
  | .inl b => hashW w.params (.bytes b)
  | .inr i => hashInt i
def kyKind (prog : Program) (w : World) : KeyKind prog w Ky where
  is := isKy
  hash := hashKy w
  inj v a b ha hb := by
    cases a with
    | inl x =>
      obtain ⟨t, rfl⟩ := isBytes_shape (k := x) ha
      cases b with
      | inl y => rw [(bytesKind prog w).inj (.bytes x.toArray t) x y ha hb]
      | inr j => cases hb
    | inr i =>
      obtain ⟨t, rfl⟩ := Value.isInt_shape (k := i) ha
      cases b with
      | inl y => cases hb
      | inr j => rw [Value.isInt_inj (.int i t) i j ha hb]
  byValue k v h := by
    cases k with
    | inl x => exact (bytesKind prog w).byValue x v h
    | inr i => exact (intKind prog w).byValue i v h
  pyHash := fun {A E s k v Q} hv h => by
    cases k with
    | inl x => exact (bytesKind prog w).pyHash (k := x) hv h
    | inr i => exact (intKind prog w).pyHash (k := i) hv h
  eqBool := fun {A E s a b u v Q} hu hv h => by
    cases a with
    | inl x =>
      cases b with
      | inl y => exact (bytesKind prog w).eqBool (a := x) (b := y) hu hv (by simpa using h)
      | inr j =>
        obtain ⟨t, rfl⟩ := isBytes_shape (k := x) hu
        obtain ⟨t', rfl⟩ := Value.isInt_shape (k := j) hv
        exact eqBool_bytes_int (by simpa using h)
    | inr i =>
      cases b with
      | inl y =>
        obtain ⟨t, rfl⟩ := Value.isInt_shape (k := i) hu
        obtain ⟨t', rfl⟩ := isBytes_shape (k := y) hv
        exact eqBool_int_bytes (by simpa using h)
      | inr j => exact (intKind prog w).eqBool (a := i) (b := j) hu hv (by simpa using h)
  «strs» k x t v h := by
    cases k with
    | inl y => cases h
    | inr i => exact absurd h (by simp [isKy, Value.isInt])
end Mine

end

section
-- A4
open PySem PySem.W PySem.Spec PySem.Calls PyProof.Rows
set_option maxRecDepth 100000
set_option linter.unusedVariables false
set_option maxHeartbeats 4000000
namespace Mine
theorem fresh4 : True := by
  k_with_none
  w_top off
  first | (walk1; fail) | trivial

/-- the text's own defs, taken out of the row -/
def topAt (i : Nat) : Stmt := PySem.Challenge.pw_pc0161_01.main.body.getD i default
def bodyOf : Stmt → List Stmt
  | .FunctionDef _ _ b _ _ _ _ _ _ _ => b
  | .For _ _ b _ _ => b
  | .If _ b _ _ => b
  | _ => []
def valueOf : Stmt → Expr
  | .Assign _ v _ => v
  | _ => default
def eltsOf : Expr → List Expr
  | .List es _ => es
  | _ => []
def lamParams : Expr → Arguments
  | .Lambda a _ _ _ => a
  | _ => default
def lamBody : Expr → Expr
  | .Lambda _ b _ _ => b
  | _ => default
def lamScope : Expr → Scope
  | .Lambda _ _ s _ => s
  | _ => default
def lawBody : List Stmt := bodyOf (topAt 13)
def ownLam : Expr := valueOf (lawBody.getD 5 default)
def waysOf : List Expr := eltsOf (valueOf ((bodyOf (lawBody.getD 6 default)).getD 2 default))
def kindLam : Expr := waysOf.getD 0 default
def laterLam : Expr := waysOf.getD 2 default
def falseLam : Expr := waysOf.getD 3 default

abbrev lamQ : Str := "law.<locals>.<lambda>"

section
variable {prog : Program} {w : World} {A A₀ : Around} {s : Shared} {K : Frag} {L : Addr} {h₀ base : Heap} {m mg mb : Str → Option Value} {p : Program} {loose : List Str} {mean : ExcName → Option Value}

theorem code_lamF {env : Env} {outer : List Env} {Q E : Value → Shared → Prop} {name qual : Str} {params : Arguments} {body : Expr} {scope : Scope} {cl : List (Str × Addr)} {pm ctv : Value} {c' : Addr} {f : Addr} {args : Args} {binds : List (Str × Value)}
    (B : Below A₀ base outer h₀) (F : Fr h₀ L s.heap m) (X₀ : K.In h₀) (T : Top p loose mean mg mb h₀) (hA : A.frames = some (env :: outer)) (hf : env.frame = some L) (hke : env.scope.kind = .function)
    (ho : s.heap.get? f = some (kla_obj name qual params body scope cl pm c' ctv)) (hcd : s.heap.CodeRec (.ref c') qual) (hroom : A.depth < recursionLimit)
    (hbind : bindArgs (kla_fn name qual params body scope cl pm (.ref c') ctv) args = pure binds) (hloc : ∀ y ∈ binds, scope.names.lookup y.1 = some .local)
    (h : ∀ g L' h₁, (∀ c o, s.heap.get? c = some o → g.get? c = some o) → Fr g L' h₁ (fun y => binds.reverse.lookup y) → Below A base (env :: outer) g → K.In g → Top p loose mean mg mb g →
      wpAny (model prog w) (A.deeper (envX qual scope L' f (.ref c') cl)) (eval body (envX qual scope L' f (.ref c') cl))
        Q (fun _ _ => False)
        { s with heap := h₁, toks := s.toks + binds.length })
    (hco : scope.isCoroutine = false) (hgen : scope.isGenerator = false) (hk : scope.kind = .function)
    (hcell : ∀ x ∈ scope.names, x.2 ≠ .cell) : codeAny (model prog w) A (.call (.ref f) args) (fun r s' => match r with | .ok (.ret v) => Q v s' | .ok _ => False | .error e => E e s') s := by
  obtain ⟨FG, BG, st, lv⟩ := groundX (R := fun _ _ => True) B F (News.nil) hA hf hke
  refine kla_callFunE hroom ho rfl hco hgen rfl hcd ?_
  rw [hbind]
  refine wpAny_pure (wpAny_newFunctionEnv hcell hloc (fun h₁ hns hsb => ⟨((T.nolimit).keeps F.keep).fresh _ hsb, ?_⟩) hk)
  show codeAny _ _ (.expr body (envX qual scope s.heap.objs.size f (.ref c') cl)) _ _
  have hk₁ : ∀ b o, s.heap.get? b = some o → h₁.get? b = some o := fun b o e => hsb.extBut b o (Nat.ne_of_lt (Heap.lt_size e)) (Heap.get?_push_of_some _ e)
  exact kla_codeExpr (wpAny_mono (h s.heap s.heap.objs.size h₁ (fun _ _ e => e) ⟨hns, fun b o e => hk₁ b o e, Nat.le_refl _⟩
    BG (X₀.keeps st) (T.keeps st)) (fun v s' hl => hl) fun _ _ y => y.elim)
end

theorem nameB {M : Model} {A : Around} {E : Value → Shared → Prop} {s : Shared} {h₀ : Heap} {L a : Addr} {m : Str → Option Value} {cn : Str} {cs : Scope} {ccd : Value} {cl : List (Str × Addr)} {x : Str} {pos : Pos} {v : Value} {Q : Value → Shared → Prop} {c : Addr} {o : Obj}
    (F : Fr h₀ L s.heap m) (hc : cl.lookup x = some c) (hv : h₀.get? c = some o) (hd : o.data = .cell (some v)) (h : Q v s)
    (hk : cs.kind = .function := by rfl) (hx : (envX cn cs L a ccd cl).kindOf x = some .free := by rfl) (hb : (x == ("__debug__" : Str)) = false := by decide) (hn : (x == ("__classdict__" : Str)) = false := by decide) :
    wpAny M A (eval (.Name x pos) (envX cn cs L a ccd cl)) Q E s := wpAny_Name (wpAny_loadName_free hk hx hc ⟨o, F.keep _ _ hv, hd⟩ h hn) hb

theorem itemB {prog : Program} {w : World} {A : Around} {E : Value → Shared → Prop} {s : Shared} {value slice : PySem.Expr} {l : Addr} {vs : Array Value} {k : Int} {u : Tok} {v : Value} {Q : Value → Shared → Prop}
    (hl : s.heap.IsList l vs) (h0 : 0 ≤ k) (hhi : k < 2 ^ 63) (hx : vs[k.toNat]? = some v) (h : Q v s)
    (hs : subscripted slice false (.ref l) (.int k u) = operate [.ref l, .int k u] (getItem (.ref l) (.int k u)) := by with_unfolding_all rfl) :
    wpAny (model prog w) A (subscriptTail value slice (.ref l) (.int k u)) Q E s :=
  tail_any hl.typeIs slot_list_getitem.lookup (wpAny_getItem_list hl h0 hhi hx h) hs
theorem isList_keep {h h' : Heap} {l : Addr} {vs : Array Value} (x : h.IsList l vs) (k : ∀ c o, h.get? c = some o → h'.get? c = some o) : h'.IsList l vs :=
  let ⟨o, e, r⟩ := x; ⟨o, k _ _ e, r⟩

section
variable {prog : Program} {w : World} {p : Program} {loose : List Str} {mean : ExcName → Option Value} {mg mb : Str → Option Value}
    {dp un : Nat} {gd : Option (List Code)} {cn : Str} {cs : Scope} {a : Addr} {ccd : Value} {cl : List (Str × Addr)} {outer : List Env} {A₀ : Around} {base h₀ : Heap} {L : Addr} {m : Str → Option Value} {s : Shared} {Q E : Value → Shared → Prop}

theorem kind_spec (B : Below A₀ base outer h₀) (F : Fr h₀ L s.heap m) (X : (hd.heap_39 w.params).In h₀) (T : Top p loose mean mg mb h₀) (hk : cs.kind = .function)
    {f ck kl c' : Addr} {ock : Obj} {pm ctv : Value} {vs : Array Value} {v : Int} {t : Tok} {x : Value}
    (hf : s.heap.get? f = some (kla_obj "<lambda>" lamQ (lamParams kindLam) (lamBody kindLam) (lamScope kindLam) [("kinds", ck)] pm c' ctv))
    (hcd : s.heap.CodeRec (.ref c') lamQ) (hck : s.heap.get? ck = some ock) (hcv : ock.data = .cell (some (.ref kl))) (hkl : s.heap.IsList kl vs)
    (h0 : 0 ≤ v) (h9 : v < 9) (hx : vs[v.toNat]? = some x) (hroom : dp < recursionLimit)
    (ret : ∀ h' tk', Keep [] s.heap h' → Q x { s with heap := h', toks := tk' }) :
    wpAny (model prog w) (ktrTop dp un gd cn cs L a ccd cl outer) (call (.ref f) [.int v t]) Q E s := by
  refine wpAny_call ?_
  refine code_lamF (outer := outer) B F X T rfl rfl hk hf hcd hroom rfl (locs rfl) (fun g L' h₁ KG F' B' X' T' => ?_) rfl rfl rfl (by decide)
  have hcg := KG _ _ hck
  show wpAny _ _ (eval (.Subscript (.Name "kinds" _) (.Name "at" _) _) _) _ _ _
  refine Subscript_ (nameB F' rfl hcg hcv (nameX_L F' rfl ?_))
  refine itemB (isList_keep hkl fun c o e => F'.keep _ _ (KG c o e)) h0 (by omega) hx (ret _ _ fun c o _ e => F'.keep _ _ (KG c o e))
end

section
variable {prog : Program} {w : World} {p : Program} {loose : List Str} {mean : ExcName → Option Value} {mg mb : Str → Option Value}
    {dp un : Nat} {gd : Option (List Code)} {cn : Str} {cs : Scope} {a : Addr} {ccd : Value} {cl : List (Str × Addr)} {outer : List Env} {A₀ : Around} {base h₀ : Heap} {L : Addr} {m : Str → Option Value} {s : Shared} {Q E : Value → Shared → Prop}
theorem later_spec (B : Below A₀ base outer h₀) (F : Fr h₀ L s.heap m) (X : (hd.heap_39 w.params).In h₀) (T : Top p loose mean mg mb h₀) (hk : cs.kind = .function)
    {f ck kl c' : Addr} {ock : Obj} {pm ctv : Value} {vs : Array Value} {v : Int} {t : Tok} {x : Value}
    (hf : s.heap.get? f = some (kla_obj "<lambda>" lamQ (lamParams laterLam) (lamBody laterLam) (lamScope laterLam) [("later", ck)] pm c' ctv))
    (hcd : s.heap.CodeRec (.ref c') lamQ) (hck : s.heap.get? ck = some ock) (hcv : ock.data = .cell (some (.ref kl))) (hkl : s.heap.IsList kl vs)
    (h0 : 0 ≤ v) (h9 : v < 9) (hx : vs[v.toNat]? = some x) (hroom : dp < recursionLimit)
    (ret : ∀ h' tk', Keep [] s.heap h' → Q x { s with heap := h', toks := tk' }) :
    wpAny (model prog w) (ktrTop dp un gd cn cs L a ccd cl outer) (call (.ref f) [.int v t]) Q E s := by
  refine wpAny_call ?_
  refine code_lamF (outer := outer) B F X T rfl rfl hk hf hcd hroom rfl (locs rfl) (fun g L' h₁ KG F' B' X' T' => ?_) rfl rfl rfl (by decide)
  have hcg := KG _ _ hck
  show wpAny _ _ (eval (.Subscript (.Name "later" _) (.Name "at" _) _) _) _ _ _
  refine Subscript_ (nameB F' rfl hcg hcv (nameX_L F' rfl ?_))
  refine itemB (isList_keep hkl fun c o e => F'.keep _ _ (KG c o e)) h0 (by omega) hx (ret _ _ fun c o _ e => F'.keep _ _ (KG c o e))
theorem false_spec (B : Below A₀ base outer h₀) (F : Fr h₀ L s.heap m) (X : (hd.heap_39 w.params).In h₀) (T : Top p loose mean mg mb h₀) (hk : cs.kind = .function)
    {f c' : Addr} {pm ctv : Value} {v : Value}
    (hf : s.heap.get? f = some (kla_obj "<lambda>" lamQ (lamParams falseLam) (lamBody falseLam) (lamScope falseLam) [] pm c' ctv))
    (hcd : s.heap.CodeRec (.ref c') lamQ) (hroom : dp < recursionLimit)
    (ret : ∀ h' tk', Keep [] s.heap h' → Q (.bool false) { s with heap := h', toks := tk' }) :
    wpAny (model prog w) (ktrTop dp un gd cn cs L a ccd cl outer) (call (.ref f) [v]) Q E s := by
  refine wpAny_call ?_
  refine code_lamF (outer := outer) B F X T rfl rfl hk hf hcd hroom rfl (locs rfl) (fun g L' h₁ KG F' B' X' T' => ?_) rfl rfl rfl (by decide)
  show wpAny _ _ (eval (.Constant (.bool false) _ _) _) _ _ _
  refine wpAny_Constant_bool ?_
  exact ret _ _ fun c o _ e => F'.keep _ _ (KG c o e)
end

theorem dictOf_keep {prog : Program} {w : World} {K : Type} [DecidableEq K] {knd : KeyKind prog w K} {h h' : Heap} {d : Addr} {kvs : List (K × Value)} (x : h.DictOf knd d kvs) (k : ∀ c o, h.get? c = some o → h'.get? c = some o) : h'.DictOf knd d kvs :=
  let ⟨o, es, ep, e, r⟩ := x; ⟨o, es, ep, k _ _ e, r⟩
section
variable {prog : Program} {w : World} {K : Type} [DecidableEq K] {knd : KeyKind prog w K} {A : Around} {E : Value → Shared → Prop} {s : Shared} {d : Addr} {kvs : List (K × Value)} {k : K} {key : Value}
theorem dget_method {pl : Sem Bool} {Q : Value × List Value → Shared → Prop} (hD : s.heap.DictOf knd d kvs) (h : Q (.builtin "dict.get", [.ref d]) s) : wpAny (model prog w) A (getMethod (.ref d) "get" pl) Q E s :=
  getMethod_builtin hD.typeIs PySem.F.plainAttrs_dict PySem.F.slot_dict_get PySem.F.type_dict_get hD.mapOf.noDict h
theorem dget_call {Q : Value → Shared → Prop} (hD : s.heap.DictOf knd d kvs) (lo : (d == sysModules) = false) (hkey : knd.is k key = true) (h : Q ((valueAt kvs k).getD .none) { s with toks := s.toks + 1 }) :
    wpAny (model prog w) A (call (.builtin "dict.get") [.ref d, key]) Q E s :=
  call_meetsIn PySem.F.slot_dict_get hD.typeIs PySem.F.entry_dict_get (PySem.F.args_dict_get_2 _ _) (meets_dict_get knd d hkey lo) ⟨_, hD.mapOf, h⟩
end
local macro_rules | `(tactic| walk_at "getMethod ref") => `(tactic| (k_here; (with_reducible show wpAny _ _ (getMethod (Value.ref _) (Str.ofString "get") _) _ _ _); refine dget_method (by with_reducible assumption) ?_))
local macro_rules | `(tactic| walk_at "eval Name") => `(tactic| (k_here; kc_free; k_dflt (refine' nameB ?F ?c ?v ?d ?_ ?k ?x; (case F => k_asm); (case k => rfl); (case x => rfl); (case c => rfl); (case v => assumption); (case d => assumption); k_whole)))
local macro_rules | `(tactic| walk_at "call builtin:dict.get") => `(tactic| (k_here; (with_reducible show wpAny _ _ (call (Value.builtin "dict.get") [Value.ref _, _]) _ _ _); refine dget_call (by with_reducible assumption) (by with_reducible assumption) (by k_dflt assumption) ?_))
section
variable {prog : Program} {w : World} {p : Program} {loose : List Str} {mean : ExcName → Option Value} {mg mb : Str → Option Value}
    {dp un : Nat} {gd : Option (List Code)} {cn : Str} {cs : Scope} {a : Addr} {ccd : Value} {cl : List (Str × Addr)} {outer : List Env} {A₀ : Around} {base h₀ : Heap} {L : Addr} {m : Str → Option Value} {s : Shared} {Q E : Value → Shared → Prop}

theorem own_spec (B : Below A₀ base outer h₀) (F : Fr h₀ L s.heap m) (X : (hd.heap_39 w.params).In h₀) (T : Top p loose mean mg mb h₀) (hk : cs.kind = .function)
    {f ck kl c' : Addr} {ock : Obj} {pm ctv : Value} {vs : Array Value} {v : Int} {t : Tok} {d : Addr} {key : Value} {k : Ky} {kvs : List (Ky × Value)}
    (hf : s.heap.get? f = some (kla_obj "<lambda>" lamQ (lamParams ownLam) (lamBody ownLam) (lamScope ownLam) [("tables", ck)] pm c' ctv))
    (hcd : s.heap.CodeRec (.ref c') lamQ) (hck : s.heap.get? ck = some ock) (hcv : ock.data = .cell (some (.ref kl))) (hkl : s.heap.IsList kl vs)
    (h0 : 0 ≤ v) (h9 : v < 9) (hx : vs[v.toNat]? = some (.ref d)) (hd : s.heap.DictOf (kyKind prog w) d kvs) (hlo : (d == sysModules) = false) (hkey : isKy k key = true) (hroom : dp < recursionLimit)
    (ret : ∀ h' tk', Keep [] s.heap h' → Q ((valueAt kvs k).getD .none) { s with heap := h', toks := tk' }) :
    wpAny (model prog w) (ktrTop dp un gd cn cs L a ccd cl outer) (call (.ref f) [.int v t, key]) Q E s := by
  refine wpAny_call ?_
  refine code_lamF (outer := outer) B F X T rfl rfl hk hf hcd hroom rfl (locs rfl) (fun g L' h₁ KG F' B' X' T' => ?_) rfl rfl rfl (by decide)
  have hcg := KG _ _ hck
  have N' : News g L' h₁ [] := News.nil
  have hkl' := isList_keep hkl fun c o e => F'.keep _ _ (KG c o e)
  generalize hS : lamScope ownLam = sc
  generalize hBd : lamBody ownLam = bd
  generalize hPm : lamParams ownLam = pms
  conv at hS => lhs; whnf
  conv at hBd => lhs; whnf
  conv at hPm => lhs; whnf
  subst hS hBd hPm
  k_with "subscriptTail Name Name ref int" => refine itemB hkl' h0 (by omega) hx ?_
  have hd' : Heap.DictOf (kyKind prog w) h₁ d kvs := dictOf_keep hd fun c o e => F'.keep _ _ (KG c o e)
  k_steps
  exact ret _ _ fun c o _ e => F'.keep _ _ (KG c o e)
end
end Mine

end

section
-- A5
open PySem PySem.W PySem.Spec PySem.Calls PyProof.Rows
set_option maxRecDepth 100000
set_option linter.unusedVariables false
set_option maxHeartbeats 8000000
namespace Mine
theorem fresh5 : True := by
  k_with_none
  w_top off
  first | (walk1; fail) | trivial

/-- the six values' world, as the four defs tell it for one key -/
structure Wld where
  kb : Int → Bool
  lt : Int → Option Int
  hs : Int → Option Int

/-- what reading answers: outcome, thing, place -/
def rdZ (W : Wld) : Nat → Int → Int × Option Int × Int
  | 0, v => (3, none, v)
  | n + 1, v => match (if W.kb v then W.hs v else none) with
    | some x => (0, some x, v)
    | none => match W.lt v with
      | none => (if W.kb v then 0 else 2, none, v)
      | some v' => rdZ W n v'
def wrZ (W : Wld) : Nat → Int → Int × Option Int × Int
  | 0, v => (3, none, v)
  | n + 1, v => match (if W.kb v then W.hs v else none) with
    | some x => (4, none, v)
    | none => match W.lt v with
      | none => (if W.kb v then 4 else 2, none, v)
      | some v' => wrZ W n v'
/-- writing at the key None -/
def wrN (W : Wld) : Nat → Int → Int × Option Int × Int
  | 0, v => (3, none, v)
  | n + 1, v => if W.kb v then (5, none, v) else match W.lt v with
    | none => (2, none, v)
    | some v' => wrN W n v'

def thing : Option Int → Tok → Value
  | none, _ => .none
  | some i, t => .int i t

def FnAt (f : Addr) (h : Heap) : Prop := ∃ o fd, h.get? f = some o ∧ o.data = .func fd
theorem FnAt.keep {f : Addr} {h h' : Heap} (x : FnAt f h) (k : ∀ c o, h.get? c = some o → h'.get? c = some o) : FnAt f h' := let ⟨o, fd, e, r⟩ := x; ⟨o, fd, k _ _ e, r⟩

section
variable (prog : Program) (w : World) (p : Program) (loose : List Str) (mean : ExcName → Option Value) (mg mb : Str → Option Value)
/-- a function object of the heap answers, at every later heap, to R's arguments by R's answers; nothing old is changed -/
def Ans (f : Addr) (h : Heap) (R : List Value → (Value → Prop) → Prop) : Prop :=
  FnAt f h ∧ ∀ (dp un : Nat) (gd : Option (List Code)) (cn : Str) (cs : Scope) (a : Addr) (ccd : Value) (cl : List (Str × Addr)) (outer : List Env) (A₀ : Around) (base h₀ : Heap) (L : Addr) (m : Str → Option Value) (s : Shared) (Q E : Value → Shared → Prop) (args : List Value) (P : Value → Prop),
    Below A₀ base outer h₀ → Fr h₀ L s.heap m → (hd.heap_39 w.params).In h₀ → Top p loose mean mg mb h₀ → cs.kind = .function → (∀ c o, h.get? c = some o → s.heap.get? c = some o) → R args P → dp < recursionLimit →
    (∀ r h' tk', P r → Keep [] s.heap h' → Q r { s with heap := h', toks := tk' }) →
    wpAny (model prog w) (ktrTop dp un gd cn cs L a ccd cl outer) (call (.ref f) args) Q E s
def RK (W : Wld) (args : List Value) (P : Value → Prop) : Prop := ∃ v t, args = [.int v t] ∧ 0 ≤ v ∧ v < 6 ∧ P (.bool (W.kb v))
def RL (W : Wld) (args : List Value) (P : Value → Prop) : Prop := ∃ v t, args = [.int v t] ∧ 0 ≤ v ∧ v < 6 ∧ ∀ t', P (thing (W.lt v) t')
def RO (W : Wld) (key : Value) (args : List Value) (P : Value → Prop) : Prop := ∃ v t, args = [.int v t, key] ∧ 0 ≤ v ∧ v < 6 ∧ ∀ t', P (thing (W.hs v) t')
def RF (args : List Value) (P : Value → Prop) : Prop := ∃ v, args = [v] ∧ P (.bool false)

structure Ways (h : Heap) (W : Wld) (key : Value) (f1 f2 f3 f4 : Addr) : Prop where
  kinds : Ans prog w p loose mean mg mb f1 h (RK W)
  own : Ans prog w p loose mean mg mb f2 h (RO W key)
  later : Ans prog w p loose mean mg mb f3 h (RL W)
  fls : Ans prog w p loose mean mg mb f4 h RF
  lts : ∀ v j, W.lt v = some j → 0 ≤ j ∧ j < 6
end

theorem Ans.keep {prog w p loose mean mg mb f h h' R} (x : Ans prog w p loose mean mg mb f h R) (k : ∀ c o, h.get? c = some o → h'.get? c = some o) : Ans prog w p loose mean mg mb f h' R :=
  ⟨x.1.keep k, fun dp un gd cn cs a ccd cl outer A₀ base h₀ L m s Q E args P B F X T hk hh => x.2 dp un gd cn cs a ccd cl outer A₀ base h₀ L m s Q E args P B F X T hk fun c o e => hh c o (k c o e)⟩
theorem Ways.keep {prog w p loose mean mg mb h h' W key f1 f2 f3 f4} (x : Ways prog w p loose mean mg mb h W key f1 f2 f3 f4) (k : ∀ c o, h.get? c = some o → h'.get? c = some o) : Ways prog w p loose mean mg mb h' W key f1 f2 f3 f4 :=
  ⟨x.1.keep k, x.2.keep k, x.3.keep k, x.4.keep k, x.5⟩
theorem Ways.fn1 {prog w p loose mean mg mb h W key f1 f2 f3 f4} (x : Ways prog w p loose mean mg mb h W key f1 f2 f3 f4) : FnAt f1 h := x.1.1
theorem Ways.fn2 {prog w p loose mean mg mb h W key f1 f2 f3 f4} (x : Ways prog w p loose mean mg mb h W key f1 f2 f3 f4) : FnAt f2 h := x.2.1
theorem Ways.fn3 {prog w p loose mean mg mb h W key f1 f2 f3 f4} (x : Ways prog w p loose mean mg mb h W key f1 f2 f3 f4) : FnAt f3 h := x.3.1
theorem Ways.fn4 {prog w p loose mean mg mb h W key f1 f2 f3 f4} (x : Ways prog w p loose mean mg mb h W key f1 f2 f3 f4) : FnAt f4 h := x.4.1

section
variable {prog : Program} {w : World} {p : Program} {loose : List Str} {mean : ExcName → Option Value} {mg mb : Str → Option Value}
    {dp un : Nat} {gd : Option (List Code)} {cn : Str} {cs : Scope} {a : Addr} {ccd : Value} {cl : List (Str × Addr)} {outer : List Env} {A₀ : Around} {base h₀ : Heap} {L : Addr} {m : Str → Option Value} {s : Shared} {Q E : Value → Shared → Prop}
    {W : Wld} {key : Value} {f1 f2 f3 f4 : Addr} {f : Addr} {A : Around} {env : Env} {pos : Pos} {first : List Value} {e : PySem.Expr} {rest : List PySem.Expr}

theorem callWith_F (F : Fr h₀ L s.heap m) (hf : FnAt f h₀) (h : wpAny (model prog w) A (spliced (backTo pos (starEach (e :: rest) env))) (fun vs s₁ => FnAt f s₁.heap ∧ wpAny (model prog w) A (call (.ref f) (first ++ vs)) Q E s₁) E s)
    (he : starEach (e :: rest) env = (false, eval e env) :: starEach rest env := by rfl) (hplain : (backTo pos (starEach rest env)).any (·.1) = false := by rfl) :
    wpAny (model prog w) A (callWith pos (.ref f) first (backTo pos (starEach (e :: rest) env)) []) Q E s := by
  rw [he] at h ⊢
  exact callWith_of (P := FnAt f) (by show ((false || (backTo pos (starEach rest env)).any (·.1)) || false) = false; rw [hplain]; rfl)
    (fun h ⟨o, fd, ho, hd⟩ => ⟨.frame, .inl rfl, by
      obtain ⟨c, d, dt, sl⟩ := o
      simp only at hd
      subst hd
      exact (Looks.ld (part := none) ho).andThen .now⟩) (evalArgs_plain h)

theorem useK (Wy : Ways prog w p loose mean mg mb h₀ W key f1 f2 f3 f4) (B : Below A₀ base outer h₀) (F : Fr h₀ L s.heap m) (X : (hd.heap_39 w.params).In h₀) (T : Top p loose mean mg mb h₀) (hk : cs.kind = .function) {v : Int} {t : Tok} (h0 : 0 ≤ v) (h6 : v < 6) (hd : dp < recursionLimit)
    (r1 : ∀ h' tk', W.kb v = true → Keep [] s.heap h' → Q (.bool true) { s with heap := h', toks := tk' }) (r2 : ∀ h' tk', W.kb v = false → Keep [] s.heap h' → Q (.bool false) { s with heap := h', toks := tk' }) :
    wpAny (model prog w) (ktrTop dp un gd cn cs L a ccd cl outer) (call (.ref f1) [.int v t]) Q E s :=
  Wy.kinds.2 _ _ _ _ _ _ _ _ _ _ _ _ _ _ _ _ _ _ (fun r => r = .bool (W.kb v)) B F X T hk F.keep ⟨v, t, rfl, h0, h6, rfl⟩ hd fun r h' tk' hr k => by
    subst hr
    cases hb : W.kb v with
    | true => exact r1 h' tk' hb k
    | false => exact r2 h' tk' hb k
theorem useL (Wy : Ways prog w p loose mean mg mb h₀ W key f1 f2 f3 f4) (B : Below A₀ base outer h₀) (F : Fr h₀ L s.heap m) (X : (hd.heap_39 w.params).In h₀) (T : Top p loose mean mg mb h₀) (hk : cs.kind = .function) {v : Int} {t : Tok} (h0 : 0 ≤ v) (h6 : v < 6) (hd : dp < recursionLimit)
    (r1 : ∀ h' tk', W.lt v = none → Keep [] s.heap h' → Q .none { s with heap := h', toks := tk' }) (r2 : ∀ h' tk' j t', W.lt v = some j → 0 ≤ j → j < 6 → Keep [] s.heap h' → Q (.int j t') { s with heap := h', toks := tk' }) :
    wpAny (model prog w) (ktrTop dp un gd cn cs L a ccd cl outer) (call (.ref f3) [.int v t]) Q E s :=
  Wy.later.2 _ _ _ _ _ _ _ _ _ _ _ _ _ _ _ _ _ _ (fun r => ∃ t', r = thing (W.lt v) t') B F X T hk F.keep ⟨v, t, rfl, h0, h6, fun t' => ⟨t', rfl⟩⟩ hd fun r h' tk' hr k => by
    obtain ⟨t', rfl⟩ := hr
    cases hb : W.lt v with
    | none => exact r1 h' tk' hb k
    | some j => exact r2 h' tk' j t' hb (Wy.lts v j hb).1 (Wy.lts v j hb).2 k
theorem useO (Wy : Ways prog w p loose mean mg mb h₀ W key f1 f2 f3 f4) (B : Below A₀ base outer h₀) (F : Fr h₀ L s.heap m) (X : (hd.heap_39 w.params).In h₀) (T : Top p loose mean mg mb h₀) (hk : cs.kind = .function) {v : Int} {t : Tok} (h0 : 0 ≤ v) (h6 : v < 6) (hd : dp < recursionLimit)
    (r1 : ∀ h' tk', W.hs v = none → Keep [] s.heap h' → Q .none { s with heap := h', toks := tk' }) (r2 : ∀ h' tk' j t', W.hs v = some j → Keep [] s.heap h' → Q (.int j t') { s with heap := h', toks := tk' }) :
    wpAny (model prog w) (ktrTop dp un gd cn cs L a ccd cl outer) (call (.ref f2) [.int v t, key]) Q E s :=
  Wy.own.2 _ _ _ _ _ _ _ _ _ _ _ _ _ _ _ _ _ _ (fun r => ∃ t', r = thing (W.hs v) t') B F X T hk F.keep ⟨v, t, rfl, h0, h6, fun t' => ⟨t', rfl⟩⟩ hd fun r h' tk' hr k => by
    obtain ⟨t', rfl⟩ := hr
    cases hb : W.hs v with
    | none => exact r1 h' tk' hb k
    | some j => exact r2 h' tk' j t' hb k
theorem useF (Wy : Ways prog w p loose mean mg mb h₀ W key f1 f2 f3 f4) (B : Below A₀ base outer h₀) (F : Fr h₀ L s.heap m) (X : (hd.heap_39 w.params).In h₀) (T : Top p loose mean mg mb h₀) (hk : cs.kind = .function) {v : Value} (hd : dp < recursionLimit)
    (r1 : ∀ h' tk', Keep [] s.heap h' → Q (.bool false) { s with heap := h', toks := tk' }) :
    wpAny (model prog w) (ktrTop dp un gd cn cs L a ccd cl outer) (call (.ref f4) [v]) Q E s :=
  Wy.fls.2 _ _ _ _ _ _ _ _ _ _ _ _ _ _ _ _ _ _ (fun r => r = .bool false) B F X T hk F.keep ⟨v, rfl, rfl⟩ hd fun r h' tk' hr k => by
    subst hr; exact r1 h' tk' k
end
end Mine

end

section
-- A6
open PySem PySem.W PySem.Spec PySem.Calls PyProof.Rows
set_option maxRecDepth 100000
set_option linter.unusedVariables false
set_option maxHeartbeats 8000000
namespace Mine
theorem fresh6 : True := by
  k_with_none
  w_top off
  first | (walk1; fail) | trivial

local macro_rules | `(tactic| walk_at "callWith ref") => `(tactic| (k_here; k_dflt (refine' callWith_F ?F ?f ?_; (case F => k_asm); (case f => first | exact Ways.fn1 (by assumption) | exact Ways.fn2 (by assumption) | exact Ways.fn3 (by assumption) | exact Ways.fn4 (by assumption)); k_whole)))
local macro_rules | `(tactic| walk_at "And") => `(tactic| ((with_reducible show FnAt _ _ ∧ _); refine ⟨FnAt.keep (by first | exact Ways.fn1 (by assumption) | exact Ways.fn2 (by assumption) | exact Ways.fn3 (by assumption) | exact Ways.fn4 (by assumption)) (Fr.keep (by assumption)), ?_⟩; try dsimp only [List.nil_append, List.cons_append]))
local macro_rules | `(tactic| walk_at "call ref") => `(tactic| (k_here; (rename Fr _ _ _ _ => lF); (rename News _ _ _ _ => lN); k_dflt (first
  | (refine' useK ?W ?B lF ?X ?T ?k ?kz ?ky ?d ?_ ?_; (case W => assumption))
  | (refine' useO ?W ?B lF ?X ?T ?k ?kz ?ky ?d ?_ ?_; (case W => assumption))
  | (refine' useL ?W ?B lF ?X ?T ?k ?kz ?ky ?d ?_ ?_; (case W => assumption))
  | (refine' useF ?W ?B lF ?X ?T ?k ?d ?_; (case W => assumption))); (case B => k_asm); (case X => k_asm); (case T => k_asm); (case k => k_dflt (exact rfl)); (case d => assumption); (try (case kz => assumption)); (try (case ky => assumption)); all_goals (intros; (rename Keep _ _ _ => lK); (have F' := frKeep (bs := []) lF List.not_mem_nil (fun b hb => absurd hb List.not_mem_nil) lK); (have N' := newsKeep (bs := []) lN (fun _ _ hb => absurd hb List.not_mem_nil) lK); clear lK; (try k_sweep); (try dsimp only))))

abbrev tupO (vs : Array Value) : Obj := { cls := .type "tuple", data := .seq vs }
theorem fresh_of {h g : Heap} {b : Addr} (k : ∀ c o, c ∉ ([] : List Addr) → h.get? c = some o → g.get? c = some o) (n : g.get? b = none) : h.get? b = none := by
  cases e : h.get? b with
  | none => rfl
  | some o => rw [k b o List.not_mem_nil e] at n; cases n
theorem rd_open {W : Wld} {n k : Nat} {v x : Int} (h : rdZ W (n - k) x = rdZ W n v) (hlt : k < n) : rdZ W n v = (match (if W.kb x then W.hs x else none) with
    | some y => (0, some y, x)
    | none => match W.lt x with
      | none => (if W.kb x then 0 else 2, none, x)
      | some v' => rdZ W (n - k - 1) v') := by
  obtain ⟨j, hj⟩ : ∃ j, n - k = j + 1 := ⟨n - k - 1, by omega⟩
  rw [← h, hj, rdZ]
  rfl
theorem rd_step {W : Wld} {n : Nat} {v x j : Int} {pre : List Int} {kN : Int} (h : rdZ W (n - pre.length) x = rdZ W n v) (hlt : pre.length < n) (hl : W.lt x = some j) (hno : (if W.kb x then W.hs x else none) = none) :
    rdZ W (n - (pre ++ [kN]).length) j = rdZ W n v := by
  rw [← h]
  obtain ⟨k, hk⟩ : ∃ k, n - pre.length = k + 1 := ⟨n - pre.length - 1, by omega⟩
  have e : n - (pre ++ [kN]).length = k := by simp; omega
  rw [e, hk, rdZ, hno, hl]

theorem read_spec {prog : Program} {w : World} {p : Program} {loose : List Str} {mean : ExcName → Option Value} {mg mb : Str → Option Value}
    {dp un : Nat} {gd : Option (List Code)} {cn : Str} {cs : Scope} {a : Addr} {ccd : Value} {cl : List (Str × Addr)} {outer : List Env} {A₀ : Around} {base h₀ : Heap} {L : Addr} {m : Str → Option Value} {s : Shared} {Q E : Value → Shared → Prop}
    {W : Wld} {key : Value} {f1 f2 f3 f4 : Addr} {v : Int} {t tb : Tok} {n : Nat}
    (B : Below A₀ base outer h₀) (F : Fr h₀ L s.heap m) (X : (hd.heap_39 w.params).In h₀) (T : Top p loose mean mg mb h₀) (hk : cs.kind = .function) (Wy : Ways prog w p loose mean mg mb s.heap W key f1 f2 f3 f4)
    (h0 : 0 ≤ v) (h6 : v < 6) (hn : n ≤ 20) (hroom : dp + 1 < recursionLimit)
    (ret : ∀ tp c t1 th t2 at' t3 h' tk', rdZ W n v = (c, th, at') → Keep [] s.heap h' → h'.get? tp = some (tupO #[.int c t1, thing th t2, .int at' t3]) → s.heap.get? tp = none → Q (.ref tp) { s with heap := h', toks := tk' }) :
    wpAny (model prog w) (ktrTop dp un gd cn cs L a ccd cl outer) (call (.ref 21) [.ref f1, .ref f2, .ref f3, .ref f4, .int v t, key, .int n tb]) Q E s := by
  have N : News h₀ L s.heap [] := News.nil
  have hroom' : dp < recursionLimit := by omega
  refine wpAny_call ?_
  k_dflt (refine' code_defF ?k1 ?k2 ?k3 ?k4 ?k5 ?kA ?kF ?kK ?k6 ?k7 ?k8 ?k9 ?kB ?_ ?c2 ?c3 ?c4 ?c5; (case kA => exact rfl); (case kF => exact rfl); (case kK => assumption); (case k1 => k_asm); (case k2 => k_asm); (case k3 => k_asm); (case k4 => k_asm); (case k5 => k_asm); (case k6 => k_is); (case k7 => k_is); (case k8 => assumption); (case k9 => exact BindsTo.of_eq rfl); (case c5 => decide); (case kB => exact locs rfl); (case c2 => exact rfl); (case c3 => exact rfl); (case c4 => exact rfl); k_whole)
  intro g' L' h' KG F' N' B' X' T'
  have Wg := Wy.keep fun c o e => KG c o (List.not_mem_nil) e
  clear B F X T N
  (try dsimp only)
  (try k_fold)
  k_with "pyIter ref" => k_state (fun pre x => rdZ W (n - pre.length) x = rdZ W n v ∧ 0 ≤ x ∧ x < 6) "value"
  k_with "state" => exact ⟨rd_step (by assumption) (by omega) (by assumption) (by simp [*]), by assumption, by assumption⟩
  repeat' (first | (k_unfold; (try dsimp only)) | walk1 | (dsimp only; walk1) | fail "no step")
  · (rename Fr g' _ _ _ => FF); (rename News g' _ _ _ => NN); (rename (rdZ _ _ _ = rdZ _ _ _) => hR)
    exact ret _ _ _ none 0 _ _ _ _ ((rd_open hR (by omega)).trans (by simp [*])) (fun c o n e => FF.keep c o (KG c o n e)) (NN _ (.head _)).1 (fresh_of KG (NN _ (.head _)).2.2)
  · (rename Fr g' _ _ _ => FF); (rename News g' _ _ _ => NN); (rename (rdZ _ _ _ = rdZ _ _ _) => hR)
    exact ret _ _ _ (some _) _ _ _ _ _ ((rd_open hR (by omega)).trans (by simp [*])) (fun c o n e => FF.keep c o (KG c o n e)) (NN _ (.head _)).1 (fresh_of KG (NN _ (.head _)).2.2)
  · (rename Fr g' _ _ _ => FF); (rename News g' _ _ _ => NN); (rename (rdZ _ _ _ = rdZ _ _ _) => hR)
    exact ret _ _ _ none 0 _ _ _ _ ((rd_open hR (by omega)).trans (by simp [*])) (fun c o n e => FF.keep c o (KG c o n e)) (NN _ (.head _)).1 (fresh_of KG (NN _ (.head _)).2.2)
  · (rename Fr g' _ _ _ => FF); (rename News g' _ _ _ => NN); (rename (rdZ _ _ _ = rdZ _ _ _) => hR)
    have e : n - (rangeKs 0 ((n : Int) - 0).toNat).length = 0 := by rw [rangeKs_length]; omega
    rw [e] at hR
    exact ret _ _ _ none 0 _ _ _ _ (hR.symm.trans rfl) (fun c o n e => FF.keep c o (KG c o n e)) (NN _ (.head _)).1 (fresh_of KG (NN _ (.head _)).2.2)
end Mine

end

section
-- A7
open PySem PySem.W PySem.Spec PySem.Calls PyProof.Rows
set_option maxRecDepth 100000
set_option linter.unusedVariables false
set_option maxHeartbeats 8000000
namespace Mine
theorem fresh7 : True := by
  k_with_none
  w_top off
  first | (walk1; fail) | trivial

local macro_rules | `(tactic| walk_at "callWith ref") => `(tactic| (k_here; k_dflt (refine' callWith_F ?F ?f ?_; (case F => k_asm); (case f => first | exact Ways.fn1 (by assumption) | exact Ways.fn2 (by assumption) | exact Ways.fn3 (by assumption) | exact Ways.fn4 (by assumption)); k_whole)))
local macro_rules | `(tactic| walk_at "And") => `(tactic| ((with_reducible show FnAt _ _ ∧ _); refine ⟨FnAt.keep (by first | exact Ways.fn1 (by assumption) | exact Ways.fn2 (by assumption) | exact Ways.fn3 (by assumption) | exact Ways.fn4 (by assumption)) (Fr.keep (by assumption)), ?_⟩; try dsimp only [List.nil_append, List.cons_append]))
local macro_rules | `(tactic| walk_at "call ref") => `(tactic| (k_here; (rename Fr _ _ _ _ => lF); (rename News _ _ _ _ => lN); k_dflt (first
  | (refine' useK ?W ?B lF ?X ?T ?k ?kz ?ky ?d ?_ ?_; (case W => assumption))
  | (refine' useO ?W ?B lF ?X ?T ?k ?kz ?ky ?d ?_ ?_; (case W => assumption))
  | (refine' useL ?W ?B lF ?X ?T ?k ?kz ?ky ?d ?_ ?_; (case W => assumption))
  | (refine' useF ?W ?B lF ?X ?T ?k ?d ?_; (case W => assumption))); (case B => k_asm); (case X => k_asm); (case T => k_asm); (case k => k_dflt (exact rfl)); (case d => assumption); (try (case kz => assumption)); (try (case ky => assumption)); all_goals (intros; (rename Keep _ _ _ => lK); (have F' := frKeep (bs := []) lF List.not_mem_nil (fun b hb => absurd hb List.not_mem_nil) lK); (have N' := newsKeep (bs := []) lN (fun _ _ hb => absurd hb List.not_mem_nil) lK); clear lK; (try k_sweep); (try dsimp only))))

theorem wr_open {W : Wld} {n k : Nat} {v x : Int} (h : wrZ W (n - k) x = wrZ W n v) (hlt : k < n) : wrZ W n v = (match (if W.kb x then W.hs x else none) with
    | some y => (4, none, x)
    | none => match W.lt x with
      | none => (if W.kb x then 4 else 2, none, x)
      | some v' => wrZ W (n - k - 1) v') := by
  obtain ⟨j, hj⟩ : ∃ j, n - k = j + 1 := ⟨n - k - 1, by omega⟩
  rw [← h, hj, wrZ]
  rfl
theorem wr_step {W : Wld} {n : Nat} {v x j : Int} {pre : List Int} {kN : Int} (h : wrZ W (n - pre.length) x = wrZ W n v) (hlt : pre.length < n) (hl : W.lt x = some j) (hno : (if W.kb x then W.hs x else none) = none) :
    wrZ W (n - (pre ++ [kN]).length) j = wrZ W n v := by
  rw [← h]
  obtain ⟨k, hk⟩ : ∃ k, n - pre.length = k + 1 := ⟨n - pre.length - 1, by omega⟩
  have e : n - (pre ++ [kN]).length = k := by simp; omega
  rw [e, hk, wrZ, hno, hl]
theorem wn_open {W : Wld} {n k : Nat} {v x : Int} (h : wrN W (n - k) x = wrN W n v) (hlt : k < n) : wrN W n v = (if W.kb x then (5, none, x) else match W.lt x with
      | none => (2, none, x)
      | some v' => wrN W (n - k - 1) v') := by
  obtain ⟨j, hj⟩ : ∃ j, n - k = j + 1 := ⟨n - k - 1, by omega⟩
  rw [← h, hj, wrN]
  rfl
theorem wn_step {W : Wld} {n : Nat} {v x j : Int} {pre : List Int} {kN : Int} (h : wrN W (n - pre.length) x = wrN W n v) (hlt : pre.length < n) (hl : W.lt x = some j) (hno : W.kb x = false) :
    wrN W (n - (pre ++ [kN]).length) j = wrN W n v := by
  rw [← h]
  obtain ⟨k, hk⟩ : ∃ k, n - pre.length = k + 1 := ⟨n - pre.length - 1, by omega⟩
  have e : n - (pre ++ [kN]).length = k := by simp; omega
  rw [e, hk, wrN, if_neg (by simp [hno]), hl]

theorem write_spec_b {prog : Program} {w : World} {p : Program} {loose : List Str} {mean : ExcName → Option Value} {mg mb : Str → Option Value}
    {dp un : Nat} {gd : Option (List Code)} {cn : Str} {cs : Scope} {a : Addr} {ccd : Value} {cl : List (Str × Addr)} {outer : List Env} {A₀ : Around} {base h₀ : Heap} {L : Addr} {m : Str → Option Value} {s : Shared} {Q E : Value → Shared → Prop}
    {W : Wld} {kc : Array UInt8} {kt : Tok} {f1 f2 f3 f4 : Addr} {v : Int} {t tb : Tok} {n : Nat}
    (B : Below A₀ base outer h₀) (F : Fr h₀ L s.heap m) (X : (hd.heap_39 w.params).In h₀) (T : Top p loose mean mg mb h₀) (hk : cs.kind = .function) (Wy : Ways prog w p loose mean mg mb s.heap W (.bytes kc kt) f1 f2 f3 f4)
    (h0 : 0 ≤ v) (h6 : v < 6) (hn : n ≤ 20) (hroom : dp + 1 < recursionLimit)
    (ret : ∀ tp c t1 th t2 at' t3 h' tk', wrZ W n v = (c, th, at') → Keep [] s.heap h' → h'.get? tp = some (tupO #[.int c t1, thing th t2, .int at' t3]) → s.heap.get? tp = none → Q (.ref tp) { s with heap := h', toks := tk' }) :
    wpAny (model prog w) (ktrTop dp un gd cn cs L a ccd cl outer) (call (.ref 28) [.ref f1, .ref f2, .ref f3, .ref f4, .int v t, .bytes kc kt, .int n tb]) Q E s := by
  have N : News h₀ L s.heap [] := News.nil
  have hroom' : dp < recursionLimit := by omega
  refine wpAny_call ?_
  k_dflt (refine' code_defF ?k1 ?k2 ?k3 ?k4 ?k5 ?kA ?kF ?kK ?k6 ?k7 ?k8 ?k9 ?kB ?_ ?c2 ?c3 ?c4 ?c5; (case kA => exact rfl); (case kF => exact rfl); (case kK => assumption); (case k1 => k_asm); (case k2 => k_asm); (case k3 => k_asm); (case k4 => k_asm); (case k5 => k_asm); (case k6 => k_is); (case k7 => k_is); (case k8 => assumption); (case k9 => exact BindsTo.of_eq rfl); (case c5 => decide); (case kB => exact locs rfl); (case c2 => exact rfl); (case c3 => exact rfl); (case c4 => exact rfl); k_whole)
  intro g' L' h' KG F' N' B' X' T'
  have Wg := Wy.keep fun c o e => KG c o (List.not_mem_nil) e
  clear B F X T N
  (try dsimp only)
  (try k_fold)
  k_with "pyIter ref" => k_state (fun pre x => wrZ W (n - pre.length) x = wrZ W n v ∧ 0 ≤ x ∧ x < 6) "value"
  k_with "state" => exact ⟨wr_step (by assumption) (by omega) (by assumption) (by simp [*]), by assumption, by assumption⟩
  repeat' (first | (k_unfold; (try dsimp only)) | walk1 | (dsimp only; walk1) | fail "no step")
  · (rename Fr g' _ _ _ => FF); (rename News g' _ _ _ => NN); (rename (wrZ _ _ _ = wrZ _ _ _) => hR)
    exact ret _ _ _ none 0 _ _ _ _ ((wr_open hR (by omega)).trans (by simp [*])) (fun c o n e => FF.keep c o (KG c o n e)) (NN _ (.head _)).1 (fresh_of KG (NN _ (.head _)).2.2)
  · (rename Fr g' _ _ _ => FF); (rename News g' _ _ _ => NN); (rename (wrZ _ _ _ = wrZ _ _ _) => hR)
    exact ret _ _ _ none 0 _ _ _ _ ((wr_open hR (by omega)).trans (by simp [*])) (fun c o n e => FF.keep c o (KG c o n e)) (NN _ (.head _)).1 (fresh_of KG (NN _ (.head _)).2.2)
  · (rename Fr g' _ _ _ => FF); (rename News g' _ _ _ => NN); (rename (wrZ _ _ _ = wrZ _ _ _) => hR)
    exact ret _ _ _ none 0 _ _ _ _ ((wr_open hR (by omega)).trans (by simp [*])) (fun c o n e => FF.keep c o (KG c o n e)) (NN _ (.head _)).1 (fresh_of KG (NN _ (.head _)).2.2)
  · (rename Fr g' _ _ _ => FF); (rename News g' _ _ _ => NN); (rename (wrZ _ _ _ = wrZ _ _ _) => hR)
    have e : n - (rangeKs 0 ((n : Int) - 0).toNat).length = 0 := by rw [rangeKs_length]; omega
    rw [e] at hR
    exact ret _ _ _ none 0 _ _ _ _ (hR.symm.trans rfl) (fun c o n e => FF.keep c o (KG c o n e)) (NN _ (.head _)).1 (fresh_of KG (NN _ (.head _)).2.2)
theorem write_spec_i {prog : Program} {w : World} {p : Program} {loose : List Str} {mean : ExcName → Option Value} {mg mb : Str → Option Value}
    {dp un : Nat} {gd : Option (List Code)} {cn : Str} {cs : Scope} {a : Addr} {ccd : Value} {cl : List (Str × Addr)} {outer : List Env} {A₀ : Around} {base h₀ : Heap} {L : Addr} {m : Str → Option Value} {s : Shared} {Q E : Value → Shared → Prop}
    {W : Wld} {kc : Int} {kt : Tok} {f1 f2 f3 f4 : Addr} {v : Int} {t tb : Tok} {n : Nat}
    (B : Below A₀ base outer h₀) (F : Fr h₀ L s.heap m) (X : (hd.heap_39 w.params).In h₀) (T : Top p loose mean mg mb h₀) (hk : cs.kind = .function) (Wy : Ways prog w p loose mean mg mb s.heap W (.int kc kt) f1 f2 f3 f4)
    (h0 : 0 ≤ v) (h6 : v < 6) (hn : n ≤ 20) (hroom : dp + 1 < recursionLimit)
    (ret : ∀ tp c t1 th t2 at' t3 h' tk', wrZ W n v = (c, th, at') → Keep [] s.heap h' → h'.get? tp = some (tupO #[.int c t1, thing th t2, .int at' t3]) → s.heap.get? tp = none → Q (.ref tp) { s with heap := h', toks := tk' }) :
    wpAny (model prog w) (ktrTop dp un gd cn cs L a ccd cl outer) (call (.ref 28) [.ref f1, .ref f2, .ref f3, .ref f4, .int v t, .int kc kt, .int n tb]) Q E s := by
  have N : News h₀ L s.heap [] := News.nil
  have hroom' : dp < recursionLimit := by omega
  refine wpAny_call ?_
  k_dflt (refine' code_defF ?k1 ?k2 ?k3 ?k4 ?k5 ?kA ?kF ?kK ?k6 ?k7 ?k8 ?k9 ?kB ?_ ?c2 ?c3 ?c4 ?c5; (case kA => exact rfl); (case kF => exact rfl); (case kK => assumption); (case k1 => k_asm); (case k2 => k_asm); (case k3 => k_asm); (case k4 => k_asm); (case k5 => k_asm); (case k6 => k_is); (case k7 => k_is); (case k8 => assumption); (case k9 => exact BindsTo.of_eq rfl); (case c5 => decide); (case kB => exact locs rfl); (case c2 => exact rfl); (case c3 => exact rfl); (case c4 => exact rfl); k_whole)
  intro g' L' h' KG F' N' B' X' T'
  have Wg := Wy.keep fun c o e => KG c o (List.not_mem_nil) e
  clear B F X T N
  (try dsimp only)
  (try k_fold)
  k_with "pyIter ref" => k_state (fun pre x => wrZ W (n - pre.length) x = wrZ W n v ∧ 0 ≤ x ∧ x < 6) "value"
  k_with "state" => exact ⟨wr_step (by assumption) (by omega) (by assumption) (by simp [*]), by assumption, by assumption⟩
  repeat' (first | (k_unfold; (try dsimp only)) | walk1 | (dsimp only; walk1) | fail "no step")
  · (rename Fr g' _ _ _ => FF); (rename News g' _ _ _ => NN); (rename (wrZ _ _ _ = wrZ _ _ _) => hR)
    exact ret _ _ _ none 0 _ _ _ _ ((wr_open hR (by omega)).trans (by simp [*])) (fun c o n e => FF.keep c o (KG c o n e)) (NN _ (.head _)).1 (fresh_of KG (NN _ (.head _)).2.2)
  · (rename Fr g' _ _ _ => FF); (rename News g' _ _ _ => NN); (rename (wrZ _ _ _ = wrZ _ _ _) => hR)
    exact ret _ _ _ none 0 _ _ _ _ ((wr_open hR (by omega)).trans (by simp [*])) (fun c o n e => FF.keep c o (KG c o n e)) (NN _ (.head _)).1 (fresh_of KG (NN _ (.head _)).2.2)
  · (rename Fr g' _ _ _ => FF); (rename News g' _ _ _ => NN); (rename (wrZ _ _ _ = wrZ _ _ _) => hR)
    exact ret _ _ _ none 0 _ _ _ _ ((wr_open hR (by omega)).trans (by simp [*])) (fun c o n e => FF.keep c o (KG c o n e)) (NN _ (.head _)).1 (fresh_of KG (NN _ (.head _)).2.2)
  · (rename Fr g' _ _ _ => FF); (rename News g' _ _ _ => NN); (rename (wrZ _ _ _ = wrZ _ _ _) => hR)
    have e : n - (rangeKs 0 ((n : Int) - 0).toNat).length = 0 := by rw [rangeKs_length]; omega
    rw [e] at hR
    exact ret _ _ _ none 0 _ _ _ _ (hR.symm.trans rfl) (fun c o n e => FF.keep c o (KG c o n e)) (NN _ (.head _)).1 (fresh_of KG (NN _ (.head _)).2.2)
theorem write_spec_n {prog : Program} {w : World} {p : Program} {loose : List Str} {mean : ExcName → Option Value} {mg mb : Str → Option Value}
    {dp un : Nat} {gd : Option (List Code)} {cn : Str} {cs : Scope} {a : Addr} {ccd : Value} {cl : List (Str × Addr)} {outer : List Env} {A₀ : Around} {base h₀ : Heap} {L : Addr} {m : Str → Option Value} {s : Shared} {Q E : Value → Shared → Prop}
    {W : Wld} {key : Value} {f1 f2 f3 f4 : Addr} {v : Int} {t tb : Tok} {n : Nat}
    (B : Below A₀ base outer h₀) (F : Fr h₀ L s.heap m) (X : (hd.heap_39 w.params).In h₀) (T : Top p loose mean mg mb h₀) (hk : cs.kind = .function) (Wy : Ways prog w p loose mean mg mb s.heap W key f1 f2 f3 f4)
    (h0 : 0 ≤ v) (h6 : v < 6) (hn : n ≤ 20) (hroom : dp + 1 < recursionLimit)
    (ret : ∀ tp c t1 th t2 at' t3 h' tk', wrN W n v = (c, th, at') → Keep [] s.heap h' → h'.get? tp = some (tupO #[.int c t1, thing th t2, .int at' t3]) → s.heap.get? tp = none → Q (.ref tp) { s with heap := h', toks := tk' }) :
    wpAny (model prog w) (ktrTop dp un gd cn cs L a ccd cl outer) (call (.ref 28) [.ref f1, .ref f2, .ref f3, .ref f4, .int v t, .none, .int n tb]) Q E s := by
  have N : News h₀ L s.heap [] := News.nil
  have hroom' : dp < recursionLimit := by omega
  refine wpAny_call ?_
  k_dflt (refine' code_defF ?k1 ?k2 ?k3 ?k4 ?k5 ?kA ?kF ?kK ?k6 ?k7 ?k8 ?k9 ?kB ?_ ?c2 ?c3 ?c4 ?c5; (case kA => exact rfl); (case kF => exact rfl); (case kK => assumption); (case k1 => k_asm); (case k2 => k_asm); (case k3 => k_asm); (case k4 => k_asm); (case k5 => k_asm); (case k6 => k_is); (case k7 => k_is); (case k8 => assumption); (case k9 => exact BindsTo.of_eq rfl); (case c5 => decide); (case kB => exact locs rfl); (case c2 => exact rfl); (case c3 => exact rfl); (case c4 => exact rfl); k_whole)
  intro g' L' h' KG F' N' B' X' T'
  have Wg := Wy.keep fun c o e => KG c o (List.not_mem_nil) e
  clear B F X T N
  (try dsimp only)
  (try k_fold)
  k_with "pyIter ref" => k_state (fun pre x => wrN W (n - pre.length) x = wrN W n v ∧ 0 ≤ x ∧ x < 6) "value"
  k_with "state" => exact ⟨wn_step (by assumption) (by omega) (by assumption) (by assumption), by assumption, by assumption⟩
  repeat' (first | (k_unfold; (try dsimp only)) | walk1 | (dsimp only; walk1) | fail "no step")
  · (rename Fr g' _ _ _ => FF); (rename News g' _ _ _ => NN); (rename (wrN _ _ _ = wrN _ _ _) => hR)
    exact ret _ _ _ none 0 _ _ _ _ ((wn_open hR (by omega)).trans (by simp [*])) (fun c o n e => FF.keep c o (KG c o n e)) (NN _ (.head _)).1 (fresh_of KG (NN _ (.head _)).2.2)
  · (rename Fr g' _ _ _ => FF); (rename News g' _ _ _ => NN); (rename (wrN _ _ _ = wrN _ _ _) => hR)
    exact ret _ _ _ none 0 _ _ _ _ ((wn_open hR (by omega)).trans (by simp [*])) (fun c o n e => FF.keep c o (KG c o n e)) (NN _ (.head _)).1 (fresh_of KG (NN _ (.head _)).2.2)
  · (rename Fr g' _ _ _ => FF); (rename News g' _ _ _ => NN); (rename (wrN _ _ _ = wrN _ _ _) => hR)
    have e : n - (rangeKs 0 ((n : Int) - 0).toNat).length = 0 := by rw [rangeKs_length]; omega
    rw [e] at hR
    exact ret _ _ _ none 0 _ _ _ _ (hR.symm.trans rfl) (fun c o n e => FF.keep c o (KG c o n e)) (NN _ (.head _)).1 (fresh_of KG (NN _ (.head _)).2.2)
theorem write_spec {prog : Program} {w : World} {p : Program} {loose : List Str} {mean : ExcName → Option Value} {mg mb : Str → Option Value}
    {dp un : Nat} {gd : Option (List Code)} {cn : Str} {cs : Scope} {a : Addr} {ccd : Value} {cl : List (Str × Addr)} {outer : List Env} {A₀ : Around} {base h₀ : Heap} {L : Addr} {m : Str → Option Value} {s : Shared} {Q E : Value → Shared → Prop}
    {W : Wld} {key : Value} {k : Ky} {f1 f2 f3 f4 : Addr} {v : Int} {t tb : Tok} {n : Nat} (hky : isKy k key = true)
    (B : Below A₀ base outer h₀) (F : Fr h₀ L s.heap m) (X : (hd.heap_39 w.params).In h₀) (T : Top p loose mean mg mb h₀) (hk : cs.kind = .function) (Wy : Ways prog w p loose mean mg mb s.heap W key f1 f2 f3 f4)
    (h0 : 0 ≤ v) (h6 : v < 6) (hn : n ≤ 20) (hroom : dp + 1 < recursionLimit)
    (ret : ∀ tp c t1 th t2 at' t3 h' tk', wrZ W n v = (c, th, at') → Keep [] s.heap h' → h'.get? tp = some (tupO #[.int c t1, thing th t2, .int at' t3]) → s.heap.get? tp = none → Q (.ref tp) { s with heap := h', toks := tk' }) :
    wpAny (model prog w) (ktrTop dp un gd cn cs L a ccd cl outer) (call (.ref 28) [.ref f1, .ref f2, .ref f3, .ref f4, .int v t, key, .int n tb]) Q E s := by
  cases k with
  | inl b =>
    obtain ⟨t', rfl⟩ := isBytes_shape (k := b) hky
    exact write_spec_b B F X T hk Wy h0 h6 hn hroom ret
  | inr i =>
    obtain ⟨t', rfl⟩ := Value.isInt_shape (k := i) hky
    exact write_spec_i B F X T hk Wy h0 h6 hn hroom ret
end Mine

end

section
-- A8
open PySem PySem.W PySem.Spec PySem.Calls PyProof.Rows
set_option maxRecDepth 100000
set_option linter.unusedVariables false
set_option maxHeartbeats 2000000
namespace Mine
theorem fresh8 : True := by
  k_with_none
  w_top off
  first | (walk1; fail) | trivial

def scopeOf : Stmt → Scope
  | .FunctionDef _ _ _ _ _ _ s _ _ _ => s
  | _ => default
abbrev lawScope : Scope := scopeOf (topAt 13)
abbrev lawCells (ct cl ck cy cb : Addr) : List (Str × Addr) := [("tables", ct), ("later", cl), ("kinds", ck), ("key", cy), ("box", cb)]
theorem takeK {prog : Program} {w : World} {p : Program} {loose : List Str} {mean : ExcName → Option Value} {mg mb : Str → Option Value}
    {dp un : Nat} {gd : Option (List Code)} {cn : Str} {cs : Scope} {a : Addr} {ccd : Value} {cl : List (Str × Addr)} {outer : List Env} {A₀ : Around} {base h₀ : Heap} {L : Addr} {m : Str → Option Value} {s : Shared} {Q E : Value → Shared → Prop}
    (B : Below A₀ base outer h₀) (F : Fr h₀ L s.heap m) (X : (hd.heap_39 w.params).In h₀) (T : Top p loose mean mg mb h₀) (hk : cs.kind = .function)
    {b : Addr} {g n many : Int} {tg tn tm : Tok} {ep : Nat} {news : List (Addr × Obj)} {gg : Obj → List (Addr × Obj)} (N : News h₀ L s.heap news) (U : UpdF b (W.listOf #[.int g tg, .int n tn] ep) news gg)
    (hg : 0 ≤ g) (hm : 2 ≤ many) (hm' : many ≤ 9) (hroom : dp < recursionLimit)
    (ret : ∀ d td g' tg' tn' ep' h' tk', 0 ≤ d → d < many → 0 ≤ g' → Fr h₀ L h' m → News h₀ L h' (gg (W.listOf #[.int g' tg', .int (n + 1) tn'] ep')) → Q (.int d td) { s with heap := h', toks := tk' }) :
    wpAny (model prog w) (ktrTop dp un gd cn cs L a ccd cl outer) (call (.ref 42) [.ref b, .int many tm]) Q E s := by
  obtain ⟨pre, post, rfl, hgg, h1, h2⟩ := U.split
  have nb := N (b, _) (List.mem_append_right _ (.head _))
  refine take_spec (n := n) (tg := tg) (tn := tn) (ep := ep) B F X T hk (fun q hq => by rw [List.mem_singleton.mp hq]; exact nb) hg hm hm' hroom fun d td g' tg' tn' ep' h' tk' hd hd' hg' K' e => ?_
  refine ret d td g' tg' tn' ep' h' tk' hd hd' hg' (frKeep (bs := [b]) F (fun q => nb.2.1 (List.mem_singleton.mp q).symm) (fun x q => by rw [List.mem_singleton.mp q]; exact nb.2.2) K') ?_
  rw [hgg]
  intro q hq
  rcases List.mem_append.mp hq with hq | hq
  · exact ⟨K' _ _ (fun z => h1 q hq (List.mem_singleton.mp z)) (N q (List.mem_append_left _ hq)).1, (N q (List.mem_append_left _ hq)).2⟩
  · rcases List.mem_cons.mp hq with rfl | hq
    · exact ⟨e, nb.2⟩
    · exact ⟨K' _ _ (fun z => h2 q hq (List.mem_singleton.mp z)) (N q (List.mem_append_right _ (.tail _ hq))).1, (N q (List.mem_append_right _ (.tail _ hq))).2⟩

end Mine

end

section
-- A9
open PySem PySem.W PySem.Spec PySem.Calls PyProof.Rows
set_option maxRecDepth 100000
set_option linter.unusedVariables false
set_option maxHeartbeats 4000000
namespace Mine
theorem fresh9 : True := by
  k_with_none
  w_top off
  first | (walk1; fail) | trivial

def compElt : PySem.Expr → PySem.Expr
  | .ListComp e _ _ _ => e
  | _ => default
def compScope : PySem.Expr → Scope
  | .ListComp _ _ s _ => s
  | _ => default

theorem isDict_nil {prog : Program} {w : World} {K K' : Type} [DecidableEq K] [DecidableEq K'] {knd : KeyKind prog w K} (knd' : KeyKind prog w K') {o : Obj} (h : o.IsDictOf knd []) : o.IsDictOf knd' [] := by
  obtain ⟨es, ep, a, b, c, d, e⟩ := h
  cases hes : es.toList with
  | nil =>
    have he : es = #[] := by rw [← Array.toList_inj]; exact hes
    subst he
    exact ⟨#[], ep, a, b, fun _ h => by simp at h, Pairs.nil, List.nodup_nil⟩
  | cons x r => rw [hes] at d; cases d

theorem ltOf {l : List (Addr × Obj)} {d : Addr} (h : ∀ p ∈ l, p.1 < d) : ∀ p ∈ l, p.1 ≠ d := fun p hp e => Nat.lt_irrefl _ (e ▸ h p hp)

theorem dictRest {prog : Program} {w : World} {A : Around} {h₀ : Heap} {L : Addr} {m : Str → Option Value} {env : Env} {x : Str} {scope : Scope} {cl : List (Str × Addr)} {s : Shared} {P : Nat → Value → Prop} {Fin : List Value → List (Addr × Obj) → Prop} {pos : Pos}
    (hbig : h₀.NoLimit) {news0 : List (Addr × Obj)} {n : Nat}
    (fin : ∀ (ds : List Addr) (os : List Obj), ds.length = n → os.length = n → (∀ o ∈ os, o.IsDictOf (kyKind prog w) []) → (∀ d ∈ ds, (d == sysModules) = false ∧ ∀ p ∈ news0, p.1 < d) → ds.Pairwise (· < ·) → Fin (ds.map .ref) (news0 ++ ds.zip os)) :
    ∀ (k i : Nat) (ds : List Addr) (os : List Obj), ds.length = i → os.length = i → (∀ o ∈ os, o.IsDictOf (kyKind prog w) []) → (∀ d ∈ ds, (d == sysModules) = false ∧ ∀ p ∈ news0, p.1 < d) → ds.Pairwise (· < ·) → i + k = n →
      LCg.CompRest prog w A h₀ L m env (.Dict [] [] pos) x scope cl s (fun _ => True) P Fin k i (ds.map .ref) (news0 ++ ds.zip os) := by
  intro k
  induction k with
  | zero => intro i ds os h1 h2 h3 h4 h5 h6; exact LCg.CompRest.zero (fin ds os (by omega) (by omega) h3 h4 h5)
  | succ k ih =>
    intro i ds os h1 h2 h3 h4 h5 h6
    refine LCg.CompRest.succ fun v I oI C oC D m₂ h tk E' hv hC hx F N off ne => ?_
    refine newDict_K F N hbig fun d h' o F' N' l1 lo hs _ _ _ => ?_
    have hz : (ds ++ [d]).zip (os ++ [o]) = ds.zip os ++ [(d, o)] := by rw [List.zip_append (by omega)]; rfl
    have hds : ∀ x ∈ ds, x < d := fun x hx => by
      obtain ⟨j, hj, rfl⟩ := List.mem_iff_getElem.mp hx
      have : (ds[j], os[j]'(by omega)) ∈ ds.zip os := by
        rw [List.mem_iff_getElem]; exact ⟨j, by simp; omega, by simp⟩
      exact l1 (ds[j], os[j]'(by omega)) (List.mem_cons_of_mem _ (List.mem_cons_of_mem _ (List.mem_cons_of_mem _ (List.mem_append_right _ this))))
    refine LCg.CompEnd.intro F' N' (news0 ++ (ds ++ [d]).zip (os ++ [o])) (fun q hq => ?_) (LCg.Off3.of fun q hq => ?_) trivial ?_
    · rw [hz, ← List.append_assoc] at hq
      rcases List.mem_cons.mp hq with rfl | hq
      · exact .tail _ (.head _)
      · rcases List.mem_cons.mp hq with rfl | hq
        · exact .tail _ (.tail _ (.head _))
        · rcases List.mem_cons.mp hq with rfl | hq
          · exact .tail _ (.tail _ (.tail _ (.head _)))
          · rcases List.mem_append.mp hq with hq | hq
            · exact .tail _ (.tail _ (.tail _ (.tail _ hq)))
            · rw [List.mem_singleton.mp hq]; exact .head _
    · rw [hz, ← List.append_assoc] at hq
      rcases List.mem_append.mp hq with hq | hq
      · exact off.mem q hq
      · rw [List.mem_singleton.mp hq]
        exact ⟨Nat.ne_of_gt (l1 (I, oI) (.head _)), Nat.ne_of_gt (l1 (C, oC) (.tail _ (.head _))), Nat.ne_of_gt (l1 (D, LCg.lst _) (.tail _ (.tail _ (.head _))))⟩
    · have := ih (i + 1) (ds ++ [d]) (os ++ [o]) (by simp; omega) (by simp; omega) (fun o' ho => by
        rcases List.mem_append.mp ho with q | q
        · exact h3 o' q
        · rw [List.mem_singleton.mp q]; exact isDict_nil _ hs) (fun d' hd => by
        rcases List.mem_append.mp hd with q | q
        · exact h4 d' q
        · rw [List.mem_singleton.mp q]
          exact ⟨lo, fun p hp => l1 p (List.mem_cons_of_mem _ (List.mem_cons_of_mem _ (List.mem_cons_of_mem _ (List.mem_append_left _ hp))))⟩) (by
        rw [List.pairwise_append]
        exact ⟨h5, List.pairwise_singleton _ _, fun x hx y hy => by rw [List.mem_singleton.mp hy]; exact hds x hx⟩) (by omega)
      rw [List.map_append] at this
      exact this
end Mine

end

section
-- A10
open PySem PySem.W PySem.Spec PySem.Calls PyProof.Rows
set_option maxRecDepth 100000
set_option linter.unusedVariables false
set_option maxHeartbeats 4000000
namespace Mine
theorem fresh10 : True := by
  k_with_none
  w_top off
  first | (walk1; fail) | trivial

theorem kind_elt {prog : Program} {w : World} {p : Program} {loose : List Str} {mean : ExcName → Option Value} {mg mb : Str → Option Value}
    {dp un : Nat} {gd : Option (List Code)} {a : Addr} {outer : List Env} {A₀ : Around} {base h₀ : Heap} {L : Addr} {m : Str → Option Value} {s : Shared} {Q E : Value → Shared → Prop}
    {ct cl ck cy cb C b : Addr} {ocb : Obj} {g n : Int} {tg tn : Tok} {e : Nat}
    (B : Below A₀ base outer h₀) (F : Fr h₀ L s.heap m) (X : (hd.heap_39 w.params).In h₀) (T : Top p loose mean mg mb h₀)
    (N : News h₀ L s.heap [(cb, ocb), (b, W.listOf #[.int g tg, .int n tn] e)]) (hcb : ocb.data = .cell (some (.ref b))) (hg : 0 ≤ g) (hroom : dp < recursionLimit)
    (ret : ∀ bo g' tg' tn' e' h' tk', 0 ≤ g' → Fr h₀ L h' m → Keep [b] s.heap h' → h'.get? b = some (W.listOf #[.int g' tg', .int (n + 1) tn'] e') → Q (.bool bo) { s with heap := h', toks := tk' }) :
    wpAny (model prog w) (ktrTop dp un gd "law" lawScope L a (.ref 53) (lawCells ct cl ck cy cb) outer)
      (eval (compElt (valueOf (lawBody.getD 2 default))) (compEnvC (compScope (valueOf (lawBody.getD 2 default))) [("box", cb)] C (envX "law" lawScope L a (.ref 53) (lawCells ct cl ck cy cb)))) Q E s := by
  generalize hS0 : compElt (valueOf (lawBody.getD 2 default)) = S0
  generalize hS1 : compScope (valueOf (lawBody.getD 2 default)) = S1
  conv at hS0 => lhs; whnf
  conv at hS1 => lhs; whnf
  subst hS0 hS1
  have hSc : ∃ sc, lawScope = sc := ⟨_, rfl⟩
  obtain ⟨sc, hSc⟩ := hSc
  rw [hSc]
  conv at hSc => lhs; whnf
  subst hSc
  repeat' (first | (k_unfold; (try dsimp only)) | walk1 | (dsimp only; walk1) | fail "no step")
  have nb := N _ (.tail _ (.head _))
  k_dflt (refine' take_spec (g := g) (n := n) (tg := tg) (tn := tn) (ep := e) ?B ?F ?X ?T ?k ?N ?g ?m ?mm ?d ?_)
  case B => k_asm
  case F => k_asm
  case X => k_asm
  case T => k_asm
  case k => k_dflt (exact rfl)
  case N => intro q hq; rw [List.mem_singleton.mp hq]; exact nb
  case g => assumption
  case m => decide
  case mm => decide
  case d => assumption
  intro d td g' tg' tn' ep' h' tk' hd0 hd1 hg' K' e'
  have F' := frKeep (bs := [b]) F (fun q => nb.2.1 (List.mem_singleton.mp q).symm) (fun x q => by rw [List.mem_singleton.mp q]; exact nb.2.2) K'
  dsimp only
  repeat' (first | (k_unfold; (try dsimp only)) | walk1 | (dsimp only; walk1) | fail "no step")
  exact ret _ _ _ _ _ _ _ hg' F' K' e'

theorem kindRest {prog : Program} {w : World} {p : Program} {loose : List Str} {mean : ExcName → Option Value} {mg mb : Str → Option Value}
    {dp un : Nat} {gd : Option (List Code)} {a : Addr} {outer : List Env} {A₀ : Around} {base h₀ : Heap} {L : Addr} {m : Str → Option Value} {s : Shared}
    {ct cl ck cy cb b : Addr} {ocb : Obj} {x : Str} {P : Nat → Value → Prop} {Fin : List Value → List (Addr × Obj) → Prop}
    (B : Below A₀ base outer h₀) (X : (hd.heap_39 w.params).In h₀) (T : Top p loose mean mg mb h₀) (hcb : ocb.data = .cell (some (.ref b))) (hroom : dp < recursionLimit)
    {pre post : List (Addr × Obj)} (hcp : (cb, ocb) ∈ pre ∨ (cb, ocb) ∈ post) (h1 : ∀ q ∈ pre, q.1 ≠ b) (h2 : ∀ q ∈ post, q.1 ≠ b) {n : Nat}
    (fin : ∀ (kbs : List Bool) (g n' : Int) tg tn e, kbs.length = n → 0 ≤ g → Fin (kbs.map .bool) (pre ++ (b, W.listOf #[.int g tg, .int n' tn] e) :: post)) :
    ∀ (k i : Nat) (kbs : List Bool) (g n' : Int) (tg tn : Tok) (e : Nat), kbs.length = i → 0 ≤ g → i + k = n →
      LCg.CompRest prog w (ktrTop dp un gd "law" lawScope L a (.ref 53) (lawCells ct cl ck cy cb) outer) h₀ L m (envX "law" lawScope L a (.ref 53) (lawCells ct cl ck cy cb))
        (compElt (valueOf (lawBody.getD 2 default))) x (compScope (valueOf (lawBody.getD 2 default))) [("box", cb)] s (fun _ => True) P Fin k i (kbs.map .bool) (pre ++ (b, W.listOf #[.int g tg, .int n' tn] e) :: post) := by
  intro k
  induction k with
  | zero => intro i kbs g n' tg tn e hl hg hn; exact LCg.CompRest.zero (fin kbs g n' tg tn e (by omega) hg)
  | succ k ih =>
    intro i kbs g n' tg tn e hl hg hn
    refine LCg.CompRest.succ fun v I oI C oC D m₂ h tk E' hv hC hx F N off ne => ?_
    have mb1 : (b, W.listOf #[.int g tg, .int n' tn] e) ∈ pre ++ (b, W.listOf #[.int g tg, .int n' tn] e) :: post := List.mem_append_right _ (.head _)
    refine kind_elt (s := { s with heap := h, toks := tk }) (g := g) (n := n') (tg := tg) (tn := tn) (e := e) B F X T (fun q hq => ?_) hcb hg hroom fun bo g' tg' tn' e' h' tk' hg' F' K' he => ?_
    · rcases List.mem_cons.mp hq with rfl | hq
      · rcases hcp with hcp | hcp
        · exact N _ (.tail _ (.tail _ (.tail _ (List.mem_append_left _ hcp))))
        · exact N _ (.tail _ (.tail _ (.tail _ (List.mem_append_right _ (.tail _ hcp)))))
      · rw [List.mem_singleton.mp hq]; exact N _ (.tail _ (.tail _ (.tail _ mb1)))
    · have ob := off.mem _ mb1
      have NK : ∀ q ∈ (I, oI) :: (C, oC) :: (D, LCg.lst (kbs.map .bool)) :: (pre ++ (b, W.listOf #[.int g' tg', .int (n' + 1) tn'] e') :: post), h'.get? q.1 = some q.2 ∧ q.1 ≠ L ∧ h₀.get? q.1 = none := by
        intro q hq
        have keep : ∀ q : Addr × Obj, q.1 ≠ b → q ∈ (I, oI) :: (C, oC) :: (D, LCg.lst (kbs.map .bool)) :: (pre ++ (b, W.listOf #[.int g tg, .int n' tn] e) :: post) → h'.get? q.1 = some q.2 ∧ q.1 ≠ L ∧ h₀.get? q.1 = none := fun q hb hm =>
          ⟨K' _ _ (fun z => hb (List.mem_singleton.mp z)) (N q hm).1, (N q hm).2⟩
        rcases List.mem_cons.mp hq with rfl | hq
        · exact keep _ (Ne.symm ob.1) (.head _)
        · rcases List.mem_cons.mp hq with rfl | hq
          · exact keep _ (Ne.symm ob.2.1) (.tail _ (.head _))
          · rcases List.mem_cons.mp hq with rfl | hq
            · exact keep _ (Ne.symm ob.2.2) (.tail _ (.tail _ (.head _)))
            · rcases List.mem_append.mp hq with hq | hq
              · exact keep _ (h1 q hq) (.tail _ (.tail _ (.tail _ (List.mem_append_left _ hq))))
              · rcases List.mem_cons.mp hq with rfl | hq
                · exact ⟨he, (N (b, W.listOf #[.int g tg, .int n' tn] e) (.tail _ (.tail _ (.tail _ mb1)))).2⟩
                · exact keep _ (h2 q hq) (.tail _ (.tail _ (.tail _ (List.mem_append_right _ (.tail _ hq)))))
      refine LCg.CompEnd.intro F' NK (pre ++ (b, W.listOf #[.int g' tg', .int (n' + 1) tn'] e') :: post) (fun q hq => hq) (LCg.Off3.of fun q hq => ?_) trivial ?_
      · rcases List.mem_append.mp hq with hq | hq
        · exact off.mem q (List.mem_append_left _ hq)
        · rcases List.mem_cons.mp hq with rfl | hq
          · exact ob
          · exact off.mem q (List.mem_append_right _ (.tail _ hq))
      · have := ih (i + 1) (kbs ++ [bo]) g' (n' + 1) tg' tn' e' (by simp; omega) hg' (by omega)
        rw [List.map_append] at this
        exact this

theorem kindRest0 {prog : Program} {w : World} {p : Program} {loose : List Str} {mean : ExcName → Option Value} {mg mb : Str → Option Value}
    {dp un : Nat} {gd : Option (List Code)} {a : Addr} {outer : List Env} {A₀ : Around} {base h₀ : Heap} {L : Addr} {m : Str → Option Value} {s : Shared}
    {ct cl ck cy cb b : Addr} {ocb : Obj} {x : Str} {P : Nat → Value → Prop} {Fin : List Value → List (Addr × Obj) → Prop}
    (B : Below A₀ base outer h₀) (X : (hd.heap_39 w.params).In h₀) (T : Top p loose mean mg mb h₀) (hcb : ocb.data = .cell (some (.ref b))) (hroom : dp < recursionLimit)
    {g n' : Int} {tg tn : Tok} {e : Nat} {news : List (Addr × Obj)} {gg : Obj → List (Addr × Obj)} (U : UpdF b (W.listOf #[.int g tg, .int n' tn] e) news gg) (hcp : (cb, ocb) ∈ news) (hne : cb ≠ b) (hg : 0 ≤ g) {n : Nat}
    (fin : ∀ (kbs : List Bool) (g n' : Int) tg tn e, kbs.length = n → 0 ≤ g → Fin (kbs.map .bool) (gg (W.listOf #[.int g tg, .int n' tn] e))) :
    LCg.CompRest prog w (ktrTop dp un gd "law" lawScope L a (.ref 53) (lawCells ct cl ck cy cb) outer) h₀ L m (envX "law" lawScope L a (.ref 53) (lawCells ct cl ck cy cb))
        (compElt (valueOf (lawBody.getD 2 default))) x (compScope (valueOf (lawBody.getD 2 default))) [("box", cb)] s (fun _ => True) P Fin n 0 [] news := by
  obtain ⟨pre, post, rfl, hgg, h1, h2⟩ := U.split
  refine kindRest (n := n) B X T hcb hroom (pre := pre) (post := post) ?_ h1 h2 (fun kbs g n' tg tn e hl hg => hgg _ ▸ fin kbs g n' tg tn e hl hg) n 0 [] g n' tg tn e rfl hg (by omega)
  rcases List.mem_append.mp hcp with q | q
  · exact .inl q
  · rcases List.mem_cons.mp q with q | q
    · exact absurd (congrArg Prod.fst q) hne
    · exact .inr q
theorem dictRest0 {prog : Program} {w : World} {A : Around} {h₀ : Heap} {L : Addr} {m : Str → Option Value} {env : Env} {x : Str} {scope : Scope} {cl : List (Str × Addr)} {s : Shared} {P : Nat → Value → Prop} {Fin : List Value → List (Addr × Obj) → Prop} {pos : Pos}
    (hbig : h₀.NoLimit) {news0 : List (Addr × Obj)} {n : Nat}
    (fin : ∀ (ds : List Addr) (os : List Obj), ds.length = n → os.length = n → (∀ o ∈ os, o.IsDictOf (kyKind prog w) []) → (∀ d ∈ ds, (d == sysModules) = false ∧ AllLt d news0) → ds.Pairwise (fun x y => @LT.lt Nat _ x y) → Fin (ds.map .ref) (news0 ++ ds.zip os)) :
    LCg.CompRest prog w A h₀ L m env (.Dict [] [] pos) x scope cl s (fun _ => True) P Fin n 0 [] news0 := by
  have := dictRest (prog := prog) (w := w) (A := A) (L := L) (m := m) (env := env) (x := x) (scope := scope) (cl := cl) (s := s) (P := P) (pos := pos) hbig (fun ds os a b c d e => fin ds os a b c (fun x hx => ⟨(d x hx).1, allLt_of (d x hx).2⟩) e) n 0 [] [] rfl rfl (by simp) (by simp) List.Pairwise.nil (by omega)
  simpa using this
end Mine

end

section
-- A11
open PySem PySem.W PySem.Spec PySem.Calls PyProof.Rows
set_option maxRecDepth 100000
set_option linter.unusedVariables false
set_option maxHeartbeats 8000000
namespace Mine
theorem fresh11 : True := by
  k_with_none
  w_top off
  first | (walk1; fail) | trivial
local macro_rules | `(tactic| walk_at "call ref") => `(tactic| (k_here; (rename Fr _ _ _ _ => lF); k_dflt (refine' grand_spec ?B lF ?X ?T ?k ?l ?i ?z ?d ?_; (case B => k_asm); (case X => k_asm); (case T => k_asm); (case k => exact rfl); (case l => assumption); (case i => assumption); (case z => omega); (case d => first | assumption | decide)); intro gd' gt' h' tk' hgd' lK; (rename News _ _ _ _ => lN); (have F' := frKeep (bs := []) lF List.not_mem_nil (fun b hb => absurd hb List.not_mem_nil) lK); (have N' := newsKeep (bs := []) lN (fun _ _ hb => absurd hb List.not_mem_nil) lK); clear lK; (try k_sweep); (try dsimp only)))



theorem six {α : Type} {l : List α} (h : l.length = 6) : ∃ a b c d e f, l = [a, b, c, d, e, f] := by
  match l, h with
  | [a, b, c, d, e, f], _ => exact ⟨a, b, c, d, e, f, rfl⟩
theorem off1_ne {a D : Addr} {o : Obj} {l : List (Addr × Obj)} (h : LCg.Off1 D l) (hm : (a, o) ∈ l) : a ≠ D := by
  induction l with
  | nil => cases hm
  | cons p r ih =>
    rcases List.mem_cons.mp hm with e | e
    · exact fun q => h.1 (by rw [← e]; exact q)
    · exact ih h.2 e
local macro_rules | `(tactic| k_ne) => `(tactic| (refine neN ?_; (try dsimp only); first | exact off1_ne (by assumption) (by k_mem) | exact Ne.symm (off1_ne (by assumption) (by k_mem)) | omega))
local macro_rules | `(tactic| walk_at "FinE") => `(tactic| ((unfold LCg.FinE); intro D' h' tk' F' N' o1'; (try simp only [List.nil_append, List.cons_append, List.zip_cons_cons, List.zip_nil_left] at N'); (try dsimp only)))
local macro_rules | `(tactic| walk_at "FinA") => `(tactic| ((unfold LCg.FinA); intro D' h' tk' F' N' o1'; (try simp only [List.nil_append, List.cons_append] at N'); (try dsimp only)))
local macro_rules | `(tactic| walk_at "eval ListComp") => `(tactic| (k_here; k_dflt (refine LCg.ListComp_U (F₀ := by k_asm) (by with_unfolding_all rfl) (by decide) (by rfl) (by decide) (by rfl) ?_)))
theorem storeC {M : Model} {A : Around} {E : Value → Shared → Prop} {s : Shared} {h₀ : Heap} {L : Addr} {m : Str → Option Value} {env : Env} {x : Str} {v : Value} {Q : Unit → Shared → Prop} {news : List (Addr × Obj)} {g : Obj → List (Addr × Obj)} {c : Addr} {o : Obj} {v₀ : Option Value} (F : Fr h₀ L s.heap m) (N : News h₀ L s.heap news) (hc : env.cells.lookup x = some c) (U : UpdF c o news g) (hd : o.data = .cell v₀)
    (h : ∀ h' o', Fr h₀ L h' m → News h₀ L h' (g o') → o'.data = .cell (some v) → Q () { s with heap := h' })
    (hk : env.scope.kind = .function := by rfl) (hx : env.kindOf x = some .cell := by rfl) : wpAny M A (storeName env x v) Q E s := by
  obtain ⟨own, rest, rfl, hg, h1, h2⟩ := U.split
  have hmem := N (c, o) (List.mem_append_right _ (.head _))
  refine wpAny_storeName_cell hk hx hc ⟨o, hmem.1, hd⟩ fun h' hv hs => ?_
  obtain ⟨o', ho', hd'⟩ := hv
  refine h h' o' ⟨F.ns.sameBut hs (Ne.symm hmem.2.1), fun b ob e => (hs.2 b (fun q => ?_)).trans (F.keep b ob e), F.above⟩ (hg o' ▸ N.setAt h1 h2 hs ho') hd'
  rw [q, hmem.2.2] at e; cases e
local macro_rules | `(tactic| walk_at "CompSrc") => `(tactic| (k_here; k_dflt (refine LCg.CompSrc.range (by rfl) (by k_asm) (by k_asm) (by assumption) (by first | decide | rfl) (by first | rfl | decide) (by first | size_fits | exact Nat.le_of_ble_eq_true rfl) ?_; intro g'; lcg_lit; first
  | (refine dictRest0 (Top.nolimit (by k_asm)) ?_; intro ds' os' hl1' hl2' ho' hd' hp'; obtain ⟨d0, d1, d2, d3, d4, d5, e1'⟩ := six hl1'; subst e1'; obtain ⟨o0, o1, o2, o3, o4, o5, e2'⟩ := six hl2'; subst e2'; (simp only [List.forall_mem_cons, List.forall_mem_nil, and_true, AllLt] at hd'); (simp only [List.forall_mem_cons, List.forall_mem_nil, and_true] at ho'); (simp only [List.pairwise_cons, List.forall_mem_cons, List.forall_mem_nil, and_true] at hp'); (simp only [List.zip_cons_cons, List.zip_nil_left, List.cons_append, List.nil_append]); (try dsimp only [List.map]))
  | (refine' kindRest0 ?B ?X ?T ?c ?d ?U ?mm ?nn ?g ?_; (case B => k_asm); (case X => k_asm); (case T => k_asm); (case mm => k_mem); (case c => assumption); (case U => k_updF); (case d => assumption); (case nn => k_ne); (case g => assumption); intro kbs' g1' n1' tg1' tn1' e1' hkl' hg1'; obtain ⟨k0, k1, k2, k3, k4, k5, ek'⟩ := six hkl'; subst ek'; (try dsimp only [List.map])))))

/-- the law's own objects: their places -/
structure Ad where
  ct : Addr
  cl : Addr
  ck : Addr
  cy : Addr
  cb : Addr
  b : Addr
  tt : Addr
  ll : Addr
  kl : Addr
  ds : List Addr
def Ad.all (A : Ad) : List Addr := [51, A.cb, A.cy, A.ck, A.cl, A.ct, A.b, A.tt, A.ll, A.kl] ++ A.ds
/-- and what stands there -/
structure Co where
  oct : Obj
  ocl : Obj
  ock : Obj
  ocy : Obj
  ocb : Obj
  ob : Obj
  ott : Obj
  oll : Obj
  okl : Obj
  otab : Obj
  os : List Obj
def led (A : Ad) (c : Co) : List (Addr × Obj) := (A.ct, c.oct) :: (A.cl, c.ocl) :: (A.ck, c.ock) :: (A.cy, c.ocy) :: (A.cb, c.ocb) :: (A.b, c.ob) :: (A.tt, c.ott) :: (A.ll, c.oll) :: (A.kl, c.okl) :: (51, c.otab) :: A.ds.zip c.os
def Later (v : Value) : Prop := v = .none ∨ ∃ j t, v = .int j t ∧ 0 ≤ j ∧ j < 6
structure Ok (prog : Program) (w : World) (A : Ad) (c : Co) (bound : Nat) : Prop where
  nd : A.all.Nodup
  dl : A.ds.length = 6
  ol : c.os.length = 6
  lo : ∀ d ∈ A.ds, (d == sysModules) = false
  ct : c.oct.data = .cell (some (.ref A.tt))
  cl : c.ocl.data = .cell (some (.ref A.ll))
  ck : c.ock.data = .cell (some (.ref A.kl))
  cb : c.ocb.data = .cell (some (.ref A.b))
  cy : ∃ v, c.ocy.data = .cell v
  ob : ∃ g n tg tn e, 0 ≤ g ∧ c.ob = W.listOf #[.int g tg, .int n tn] e
  ott : ∃ e, c.ott = W.listOf (A.ds.map Value.ref).toArray e
  oll : ∃ (vs : List Value) (e : Nat), (∀ v ∈ vs, Later v) ∧ c.oll = W.listOf vs.toArray e
  okl : ∃ (ks : List Bool) (e : Nat), ks.length = 6 ∧ c.okl = W.listOf (ks.map Value.bool).toArray e
  dk : ∀ o ∈ c.os, ∃ kvs : List (Ky × Value), o.IsDictOf (kyKind prog w) kvs ∧ (∀ kv ∈ kvs, ∃ i t, kv.2 = .int i t) ∧ kvs.length ≤ bound
abbrev cellsOf (A : Ad) : List (Str × Addr) := lawCells A.ct A.cl A.ck A.cy A.cb

theorem part1 {prog : Program} {w : World} {p : Program} {loose : List Str} {mean : ExcName → Option Value} {mg mb : Str → Option Value}
    {dp un : Nat} {gd : Option (List Code)} {a : Addr} {outer : List Env} {A₀ : Around} {base h₀ : Heap} {L : Addr} {m : Str → Option Value} {s : Shared} {Q : Flow → Shared → Prop} {E : Value → Shared → Prop}
    {ct cl ck cy cb : Addr} {sl : Addr} {vs : List Value} {ns : List Int} {rest : List Stmt} {oct ocl ock ocy ocb : Obj}
    (B : Below A₀ base outer h₀) (F : Fr h₀ L s.heap m) (X : (hd.heap_39 w.params).In h₀) (T : Top p loose mean mg mb h₀)
    (hscr : m "script" = some (.ref sl)) (hl : h₀.IsList sl vs.toArray) (hi : IntsAre vs ns) (hlen : ns.length ≤ 63)
    (N : News h₀ L s.heap [(ct, oct), (cl, ocl), (ck, ock), (cy, ocy), (cb, ocb), (51, tabObj #[])])
    (hct : oct.data = .cell none) (hcl : ocl.data = .cell none) (hck : ock.data = .cell none) (hcy : ocy.data = .cell none) (hcb : ocb.data = .cell none)
    (l1 : 51 < cb) (l2 : cb < cy) (l3 : cy < ck) (l4 : ck < cl) (l5 : cl < ct) (hroom : dp + 2 < recursionLimit)
    (hroom' : dp < recursionLimit)
    (k : ∀ b tt ll kl ds c m' h' tk', Ok prog w ⟨ct, cl, ck, cy, cb, b, tt, ll, kl, ds⟩ c 0 → (∃ e, c.oll = W.listOf #[] e) → c.otab = tabObj #[] → Fr h₀ L h' m' → News h₀ L h' (led ⟨ct, cl, ck, cy, cb, b, tt, ll, kl, ds⟩ c) →
      wpAny (model prog w) (ktrTop dp un gd "law" lawScope L a (.ref 53) (lawCells ct cl ck cy cb) outer) (execs rest (envX "law" lawScope L a (.ref 53) (lawCells ct cl ck cy cb))) Q E { s with heap := h', toks := tk' })
    : wpAny (model prog w) (ktrTop dp un gd "law" lawScope L a (.ref 53) (lawCells ct cl ck cy cb) outer)
      (execs (lawBody.getD 0 default :: lawBody.getD 1 default :: lawBody.getD 2 default :: rest) (envX "law" lawScope L a (.ref 53) (lawCells ct cl ck cy cb))) Q E s := by
  generalize hS0 : lawBody.getD 0 default = S0
  generalize hS1 : lawBody.getD 1 default = S1
  generalize hS2 : lawBody.getD 2 default = S2
  conv at hS0 => lhs; whnf
  conv at hS1 => lhs; whnf
  conv at hS2 => lhs; whnf
  subst hS0 hS1 hS2
  have hSc : ∃ sc, lawScope = sc := ⟨_, rfl⟩
  obtain ⟨sc, hSc⟩ := hSc
  rw [hSc]
  conv at hSc => lhs; whnf
  subst hSc
  k_with "eval Name" => refine nameX_L (by assumption) hscr ?_
  replace l1 := ltN l1
  replace l2 := ltN l2
  replace l3 := ltN l3
  replace l4 := ltN l4
  replace l5 := ltN l5
  all_goals try k_fold
  repeat' (first | (k_unfold; (try dsimp only)) | walk1 | (dsimp only; walk1) | fail "no step")
  rename_i bb hb lb hc ocb' dcb' tkc hr tkr tr ur vr ar1 ar2 gg d0 d1 d2 d3 d4 d5 hl1 o0 o1 o2 o3 o4 o5 hl2 hds hos hps tt ht tkt of1 ll hll lll tp htp ltp h4 h5 oct' dct' h6 ocl' dcl' h7 tk3 t1 u1 v1 a1 a2 g' g1 n1 tg1 tn1 e1 hg1 k0 k1 k2 k3 k4 k5 hkl kl h8 tk8 of2 h9 ock' F' N' dck'
  refine k bb tt ll kl [d0, d1, d2, d3, d4, d5] ⟨oct', ocl', ock', ocy, ocb', W.listOf #[.int g1 tg1, .int n1 tn1] e1, LCg.lst [.ref d0, .ref d1, .ref d2, .ref d3, .ref d4, .ref d5], W.listOf #[] 0, LCg.lst [.bool k0, .bool k1, .bool k2, .bool k3, .bool k4, .bool k5], tabObj #[], [o0, o1, o2, o3, o4, o5]⟩ m h9 _ ?ok ⟨0, rfl⟩ rfl F' ?nw
  case nw =>
    intro q hq
    refine N' q ?_
    simp only [led, List.zip_cons_cons, List.zip_nil_left] at hq
    revert q
    refine List.forall_mem_cons.mpr ⟨by k_mem, ?_⟩
    refine List.forall_mem_cons.mpr ⟨by k_mem, ?_⟩
    refine List.forall_mem_cons.mpr ⟨by k_mem, ?_⟩
    refine List.forall_mem_cons.mpr ⟨by k_mem, ?_⟩
    refine List.forall_mem_cons.mpr ⟨by k_mem, ?_⟩
    refine List.forall_mem_cons.mpr ⟨by k_mem, ?_⟩
    refine List.forall_mem_cons.mpr ⟨by k_mem, ?_⟩
    refine List.forall_mem_cons.mpr ⟨by k_mem, ?_⟩
    refine List.forall_mem_cons.mpr ⟨by k_mem, ?_⟩
    refine List.forall_mem_cons.mpr ⟨by k_mem, ?_⟩
    refine List.forall_mem_cons.mpr ⟨by k_mem, ?_⟩
    refine List.forall_mem_cons.mpr ⟨by k_mem, ?_⟩
    refine List.forall_mem_cons.mpr ⟨by k_mem, ?_⟩
    refine List.forall_mem_cons.mpr ⟨by k_mem, ?_⟩
    refine List.forall_mem_cons.mpr ⟨by k_mem, ?_⟩
    refine List.forall_mem_cons.mpr ⟨by k_mem, ?_⟩
    exact List.forall_mem_nil _
  refine ⟨?nd, rfl, rfl, ?lo, dct', dcl', dck', dcb', ⟨_, hcy⟩, ⟨g1, n1, tg1, tn1, e1, hg1, rfl⟩, ⟨_, rfl⟩, ⟨[], _, (fun _ h => by cases h), rfl⟩, ⟨[k0, k1, k2, k3, k4, k5], _, rfl, rfl⟩, ?dk⟩
  case lo =>
    intro d hd
    obtain ⟨⟨a0, _⟩, ⟨a1, _⟩, ⟨a2, _⟩, ⟨a3, _⟩, ⟨a4, _⟩, ⟨a5, _⟩⟩ := hds
    revert d
    simp only [List.forall_mem_cons, List.forall_mem_nil, and_true]
    exact ⟨a0, a1, a2, a3, a4, a5.1, fun _ h => by cases h⟩
  case dk =>
    have z : ∀ o ∈ [o0, o1, o2, o3, o4, o5], o.IsDictOf (kyKind prog w) [] := by simpa using hos
    exact fun o ho => ⟨[], z o ho, fun _ h => (nomatch h), Nat.le_refl _⟩
  case nd =>
    obtain ⟨⟨_, a0⟩, ⟨_, a1⟩, ⟨_, a2⟩, ⟨_, a3⟩, ⟨_, a4⟩, ⟨_, a5⟩⟩ := hds
    clear X T N' B k
    simp only [Ad.all, List.cons_append, List.nil_append, List.nodup_cons, List.mem_cons, List.not_mem_nil, or_false, not_or, List.nodup_nil, and_true, not_false_eq_true]
    repeat' apply And.intro
    all_goals k_ne
end Mine

end

section
-- A12
open PySem PySem.W PySem.Spec PySem.Calls PyProof.Rows
set_option maxRecDepth 100000
set_option linter.unusedVariables false
set_option maxHeartbeats 4000000
namespace Mine
theorem fresh12 : True := by
  k_with_none
  w_top off
  first | (walk1; fail) | trivial

theorem rank_of (l : List Addr) (h : l.Nodup) : ∃ rk : Addr → Nat, (∀ (i : Nat) (hi : i < l.length), rk l[i] = i) ∧ ∀ x, x ∉ l → rk x = l.length :=
  ⟨fun x => l.idxOf x, fun i hi => h.idxOf_getElem i hi, fun x hx => List.idxOf_eq_length hx⟩
structure Rk (A : Ad) (rk : Addr → Nat) : Prop where
  tab : rk 51 = 0
  cb : rk A.cb = 1
  cy : rk A.cy = 2
  ck : rk A.ck = 3
  cl : rk A.cl = 4
  ct : rk A.ct = 5
  b : rk A.b = 6
  tt : rk A.tt = 7
  ll : rk A.ll = 8
  kl : rk A.kl = 9
  ds : ∀ d ∈ A.ds, 10 ≤ rk d
  els : ∀ x, x ∉ A.all → 10 ≤ rk x
theorem rk_of {A : Ad} (h : A.all.Nodup) : ∃ rk, Rk A rk := by
  obtain ⟨rk, hr, he⟩ := rank_of _ h
  refine ⟨rk, hr 0 (by simp [Ad.all]), hr 1 (by simp [Ad.all]), hr 2 (by simp [Ad.all]), hr 3 (by simp [Ad.all]), hr 4 (by simp [Ad.all]), hr 5 (by simp [Ad.all]), hr 6 (by simp [Ad.all]), hr 7 (by simp [Ad.all]), hr 8 (by simp [Ad.all]), hr 9 (by simp [Ad.all]), fun d hd => ?_, fun x hx => by rw [he x hx]; simp [Ad.all]⟩
  obtain ⟨i, hi, rfl⟩ := List.mem_iff_getElem.mp hd
  have := hr (10 + i) (by simp [Ad.all]; omega)
  have e : A.all[10 + i]'(by simp [Ad.all]; omega) = A.ds[i] := by
    simp only [Ad.all]
    rw [List.getElem_append_right (by simp)]
    simp
  rw [e] at this
  omega
theorem rk_ne {rk : Addr → Nat} {x y : Addr} {i j : Nat} (hx : rk x = i) (hy : rk y = j) (h : i ≠ j) : x ≠ y := fun e => h (by rw [← hx, ← hy, e])
theorem zip_rk {rk : Addr → Nat} {ds : List Addr} {os : List Obj} {x : Addr} {i : Nat} (hd : ∀ d ∈ ds, 10 ≤ rk d) (hx : rk x = i) (hi : i < 10) : ∀ p ∈ ds.zip os, p.1 ≠ x := fun p hp e => by
  have := hd p.1 (List.of_mem_zip hp).1
  rw [e, hx] at this
  omega
theorem tail_rk {rk : Addr → Nat} {ds : List Addr} {os : List Obj} {xs : List (Addr × Obj)} {x : Addr} {i : Nat} (hd : ∀ d ∈ ds, 10 ≤ rk d) (hs : ∀ q ∈ xs, 10 ≤ rk q.1) (hx : rk x = i) (hi : i < 10) : ∀ p ∈ ds.zip os ++ xs, p.1 ≠ x := fun p hp e => by
  rcases List.mem_append.mp hp with hp | hp
  · exact zip_rk hd hx hi p hp e
  · have := hs p hp
    rw [e, hx] at this
    omega
/-- what else the ledger bears stands elsewhere -/
def Else (A : Ad) (xs : List (Addr × Obj)) : Prop := ∀ q ∈ xs, q.1 ∉ A.all
theorem else_ne {xs : List (Addr × Obj)} {x : Addr} {l : List Addr} (h : ∀ q ∈ xs, q.1 ∉ l) (hx : x ∈ l) : ∀ p ∈ xs, p.1 ≠ x := fun p hp e => h p hp (e ▸ hx)

section
variable {prog : Program} {w : World} {A : Around} {E : Value → Shared → Prop} {s : Shared} {h₀ : Heap} {L : Addr} {m : Str → Option Value}
theorem zip_set {ds : List Addr} {os : List Obj} {i : Nat} {o' : Obj} : ds.zip (os.set i o') = (ds.zip os).modify i (fun p => (p.1, o')) := by
  induction ds generalizing os i with
  | nil => cases i <;> simp
  | cons d r ih =>
    cases os with
    | nil => cases i <;> simp
    | cons o t =>
      cases i with
      | zero => simp
      | succ i => simp [ih]
theorem dstore {ds : List Addr} {os : List Obj} {pre post : List (Addr × Obj)} {d : Addr} {o : Obj} {i : Nat} {k : Ky} {kvs : List (Ky × Value)} {key v : Value} {Q : Unit → Shared → Prop}
    (F : Fr h₀ L s.heap m) (N : News h₀ L s.heap (pre ++ (ds.zip os ++ post))) (hnd : ds.Nodup) (hi : ds[i]? = some d) (ho : os[i]? = some o) (hpre : ∀ p ∈ pre, p.1 ≠ d) (hpost : ∀ p ∈ post, p.1 ≠ d)
    (hd : o.IsDictOf (kyKind prog w) kvs) (hkey : isKy k key = true) (hsz : kvs.length ≤ sizeLine)
    (h : ∀ h' o', Fr h₀ L h' m → News h₀ L h' (pre ++ (ds.zip (os.set i o') ++ post)) → o'.IsDictOf (kyKind prog w) (stored kvs k v) → Q () { s with heap := h', toks := s.toks + 1 }) :
    wpAny (model prog w) A (setItem (.ref d) key v) Q E s := by
  have hz : (ds.zip os)[i]? = some (d, o) := by rw [List.getElem?_zip_eq_some]; exact ⟨hi, ho⟩
  have hm := N (d, o) (List.mem_append_right _ (List.mem_append_left _ (List.mem_of_getElem? hz)))
  refine wpAny_setItem_pairs (hsz := hsz) (knd := kyKind prog w) hkey (Heap.dictOf_iff.mpr ⟨o, hm.1, hd⟩) fun h' hmm hs => ?_
  obtain ⟨o', ho', hd'⟩ := Heap.dictOf_iff.mp hmm
  refine h h' o' (F.change hs hm.2.1 hm.2.2) (fun q hq => ?_) hd'
  have old : ∀ q : Addr × Obj, q.1 ≠ d → q ∈ pre ++ (ds.zip os ++ post) → h'.get? q.1 = some q.2 ∧ q.1 ≠ L ∧ h₀.get? q.1 = none := fun q hne hq => ⟨(hs.2 q.1 hne).trans (N q hq).1, (N q hq).2⟩
  rcases List.mem_append.mp hq with hq | hq
  · exact old q (hpre q hq) (List.mem_append_left _ hq)
  · rcases List.mem_append.mp hq with hq | hq
    · obtain ⟨j, hj⟩ := List.mem_iff_getElem?.mp hq
      rw [List.getElem?_zip_eq_some] at hj
      by_cases hji : i = j
      · subst hji
        have e1 : q.1 = d := by rw [hi] at hj; exact (Option.some.inj hj.1).symm
        have e2 : q.2 = o' := by
          have := hj.2
          rw [List.getElem?_set_self (by obtain ⟨h, _⟩ := List.getElem?_eq_some_iff.mp ho; exact h)] at this
          exact (Option.some.inj this).symm
        rw [e1, e2]
        exact ⟨ho', hm.2⟩
      · refine old q (fun e => hji ?_) (List.mem_append_right _ (List.mem_append_left _ ?_))
        · obtain ⟨hi1, hi2⟩ := List.getElem?_eq_some_iff.mp hi
          obtain ⟨hj1, hj2⟩ := List.getElem?_eq_some_iff.mp hj.1
          exact (List.getElem_inj (i := i) (j := j) (h₀ := hi1) (h₁ := hj1) hnd).mp (by rw [hi2, hj2, e])
        · exact List.mem_iff_getElem?.mpr ⟨j, by rw [List.getElem?_zip_eq_some]; exact ⟨hj.1, by rw [← hj.2, List.getElem?_set_ne hji]⟩⟩
    · exact old q (hpost q hq) (List.mem_append_right _ (List.mem_append_right _ hq))

theorem dstore10 {rk : Addr → Nat} {ds : List Addr} {os : List Obj} {p0 p1 p2 p3 p4 p5 p6 p7 p8 p9 : Addr × Obj} {post : List (Addr × Obj)} {d : Addr} {o : Obj} {i : Nat} {k : Ky} {kvs : List (Ky × Value)} {key v : Value} {Q : Unit → Shared → Prop}
    (F : Fr h₀ L s.heap m) (N : News h₀ L s.heap (p0 :: p1 :: p2 :: p3 :: p4 :: p5 :: p6 :: p7 :: p8 :: p9 :: (ds.zip os ++ post))) (hnd : ds.Nodup) (hi : ds[i]? = some d) (ho : os[i]? = some o)
    (hds : ∀ d ∈ ds, 10 ≤ rk d) (hpre : ∀ p ∈ [p0, p1, p2, p3, p4, p5, p6, p7, p8, p9], rk p.1 < 10) (hpost : ∀ p ∈ post, p.1 ≠ d)
    (hd : o.IsDictOf (kyKind prog w) kvs) (hkey : isKy k key = true) (hsz : kvs.length ≤ sizeLine)
    (h : ∀ h' o', Fr h₀ L h' m → News h₀ L h' (p0 :: p1 :: p2 :: p3 :: p4 :: p5 :: p6 :: p7 :: p8 :: p9 :: (ds.zip (os.set i o') ++ post)) → o'.IsDictOf (kyKind prog w) (stored kvs k v) → Q () { s with heap := h', toks := s.toks + 1 }) :
    wpAny (model prog w) A (setItem (.ref d) key v) Q E s :=
  dstore (pre := [p0, p1, p2, p3, p4, p5, p6, p7, p8, p9]) F N hnd hi ho (fun p hp e => by
    have h1 := hpre p hp
    have h2 := hds d (List.mem_of_getElem? hi)
    rw [e] at h1
    omega) hpost hd hkey hsz h
end
end Mine

end

section
-- A13
open PySem PySem.W PySem.Spec PySem.Calls PyProof.Rows
set_option maxRecDepth 100000
set_option linter.unusedVariables false
set_option maxHeartbeats 4000000
namespace Mine
theorem fresh13 : True := by
  k_with_none
  w_top off
  first | (walk1; fail) | trivial
local macro_rules | `(tactic| k_ne) => `(tactic| (refine neN ?_; (try dsimp only); first | exact rk_ne (by assumption) (by assumption) (by decide) | omega))
local macro_rules | `(tactic| k_all) => `(tactic| exact tail_rk (by assumption) (by assumption) (by assumption) (by decide))
local macro_rules | `(tactic| walk_at "call ref") => `(tactic| (k_here; k_dflt (refine' takeK ?B ?F ?X ?T ?k ?N ?U ?g ?m ?mm ?d ?_; (case B => k_asm); (case F => k_asm); (case N => k_asm); (case X => k_asm); (case T => k_asm); (case k => exact rfl); (case U => k_updF); (case g => assumption); (case m => decide); (case mm => decide); (case d => first | assumption | decide)); intro dg' dt' g' tg' tn' ep' h' tk' hd1' hd2' hg' F' N'; (try dsimp only at N'); (try k_sweep); (try dsimp only)))
local macro_rules | `(tactic| walk_at "setItem ref int") => `(tactic| (k_here; (with_reducible show wpAny _ _ (setItem (Value.ref _) _ _) _ _ _); (rename Fr _ _ _ _ => lF); (rename News _ _ _ _ => lN); k_dflt (refine' dstore10 ?F ?N ?nd ?i ?o ?ds ?pre ?post ?d ?key ?sz ?_; (case F => exact lF); (case N => exact lN); (case nd => assumption); (case i => assumption); (case o => assumption); (case ds => assumption); (case pre => (simp only [List.forall_mem_cons, List.forall_mem_nil, and_true]; (repeat' apply And.intro); (all_goals (first | omega | exact fun _ h => by cases h)))); (case post => assumption); (case d => assumption); (case key => assumption); (case sz => rw [sizeLine_eq]; omega)); intro h' o' F' N' hd'; (try k_sweep); (try dsimp only)))
def fillIf : Stmt := (bodyOf ((bodyOf (lawBody.getD 3 default)).getD 0 default)).getD 0 default

theorem stored_len (kvs : List (Ky × Value)) (k : Ky) (v : Value) : (stored kvs k v).length ≤ kvs.length + 1 := by
  unfold stored
  split <;> simp
theorem stored_ints {kvs : List (Ky × Value)} {k : Ky} {i : Int} {t : Tok} (h : ∀ kv ∈ kvs, ∃ i t, kv.2 = .int i t) : ∀ kv ∈ stored kvs k (.int i t), ∃ i t, kv.2 = .int i t := by
  intro kv hkv
  unfold stored at hkv
  split at hkv
  · obtain ⟨a, ha, rfl⟩ := List.mem_map.mp hkv
    split
    · exact ⟨_, _, rfl⟩
    · exact h a ha
  · rcases List.mem_append.mp hkv with q | q
    · exact h kv q
    · rw [List.mem_singleton.mp q]; exact ⟨_, _, rfl⟩

theorem fill_spec {prog : Program} {w : World} {p : Program} {loose : List Str} {mean : ExcName → Option Value} {mg mb : Str → Option Value}
    {dp un : Nat} {gd : Option (List Code)} {a : Addr} {outer : List Env} {A₀ : Around} {base h₀ : Heap} {L : Addr} {m : Str → Option Value} {s : Shared} {Q : Flow → Shared → Prop} {E : Value → Shared → Prop}
    {A : Ad} {c : Co} {xs : List (Addr × Obj)} {n : Nat} {kk : Int} {kt : Tok} {key : Value} {ky : Ky}
    (B : Below A₀ base outer h₀) (F : Fr h₀ L s.heap m) (X : (hd.heap_39 w.params).In h₀) (T : Top p loose mean mg mb h₀)
    (O : Ok prog w A c n) (N : News h₀ L s.heap (led A c ++ xs)) (hx : Else A xs)
    (hat : m "at" = some (.int kk kt)) (h0 : 0 ≤ kk) (h6 : kk < 6) (hcy : c.ocy.data = .cell (some key)) (hkey : isKy ky key = true) (hn : n ≤ 100) (hroom : dp < recursionLimit)
    (ret : ∀ c' h' tk', Ok prog w A c' (n + 1) → c'.oll = c.oll → c'.otab = c.otab → c'.ocy = c.ocy → Fr h₀ L h' m → News h₀ L h' (led A c' ++ xs) → Q .next { s with heap := h', toks := tk' }) :
    wpAny (model prog w) (ktrTop dp un gd "law" lawScope L a (.ref 53) (cellsOf A) outer) (exec fillIf (envX "law" lawScope L a (.ref 53) (cellsOf A))) Q E s := by
  generalize hS0 : fillIf = S0
  conv at hS0 => lhs; whnf
  subst hS0
  have hSc : ∃ sc, lawScope = sc := ⟨_, rfl⟩
  obtain ⟨sc, hSc⟩ := hSc
  rw [hSc]
  conv at hSc => lhs; whnf
  subst hSc
  obtain ⟨rk, R⟩ := rk_of O.nd
  have hxr : ∀ q ∈ xs, 10 ≤ rk q.1 := fun q hq => R.els _ (hx q hq)
  have hdnd : A.ds.Nodup := (List.nodup_append.mp O.nd).2.1
  have hdx : ∀ d ∈ A.ds, ∀ q ∈ xs, q.1 ≠ d := fun d hd q hq e => hx q hq (by rw [e]; exact List.mem_append_right _ hd)
  obtain ⟨R0, R1, R2, R3, R4, R5, R6, R7, R8, R9, Rd, Re⟩ := R
  obtain ⟨nd, dl, ol, lo, dct, dcl, dck, dcb, dcy, ⟨g, gn, tg, tn, eb, hg, eob⟩, ⟨et, eott⟩, hll, hkl, dk⟩ := O
  obtain ⟨ct, cl, ck, cy, cb, b, tt, ll, kl, ds⟩ := A
  obtain ⟨oct, ocl, ock, ocy, ocb, ob, ott, oll, okl, otab, os⟩ := c
  dsimp only at *
  subst eob eott
  have hlt : kk.toNat < ds.length := by omega
  have hlo' : kk.toNat < os.length := by omega
  obtain ⟨d, hdd⟩ : ∃ d, ds[kk.toNat]? = some d := ⟨_, List.getElem?_eq_getElem hlt⟩
  obtain ⟨od, hod⟩ : ∃ od, os[kk.toNat]? = some od := ⟨_, List.getElem?_eq_getElem hlo'⟩
  have hxd : (ds.map Value.ref).toArray[kk.toNat]? = some (.ref d) := by simp [hdd]
  have hpd := hdx d (List.mem_of_getElem? hdd)
  obtain ⟨kvs, hdo, hints, hbd⟩ := dk od (List.mem_of_getElem? hod)
  simp only [led, List.cons_append] at N
  k_with "eval Name" => refine nameX_L (by assumption) hat ?_
  k_with "subscriptTail Name Name ref int" => (rename News _ _ _ _ => lN); k_dflt refine itemB (l := tt) ⟨_, (lN (tt, W.listOf (ds.map Value.ref).toArray et) (by k_mem)).1, rfl, _, rfl⟩ h0 (by omega) hxd ?_
  repeat' (first | (k_unfold; (try dsimp only)) | walk1 | (dsimp only; walk1) | fail "no step")
  · rename_i dg1 dt1 gA tgA tnA epA hA tkA q1 q2 q3 q4 tk1 dg2 dt2 gB tgB tnB epB hB tkB r1 r2 hgB hC o' F' N' hd'
    refine ret ⟨oct, ocl, ock, ocy, ocb, W.listOf #[.int gB tgB, .int (gn + 1 + 1) tnB] epB, W.listOf (ds.map Value.ref).toArray et, oll, okl, otab, os.set kk.toNat o'⟩ hC _ ⟨nd, dl, by simp [ol], lo, dct, dcl, dck, dcb, ⟨_, hcy⟩, ⟨gB, _, _, _, _, hgB, rfl⟩, ⟨_, rfl⟩, hll, hkl, fun o ho => ?_⟩ rfl rfl rfl F' (by simpa only [led, List.cons_append] using N')
    rcases List.mem_or_eq_of_mem_set ho with ho | rfl
    · obtain ⟨kvs', x1, x2, x3⟩ := dk o ho
      exact ⟨kvs', x1, x2, by omega⟩
    · exact ⟨_, hd', stored_ints hints, Nat.le_trans (stored_len kvs ky _) (by omega)⟩
  · rename_i dg1 dt1 gA tgA tnA epA hA tkA q1 q2 hgA F' N' q4
    exact ret ⟨oct, ocl, ock, ocy, ocb, W.listOf #[.int gA tgA, .int (gn + 1) tnA] epA, W.listOf (ds.map Value.ref).toArray et, oll, okl, otab, os⟩ hA _ ⟨nd, dl, ol, lo, dct, dcl, dck, dcb, ⟨_, hcy⟩, ⟨gA, _, _, _, _, hgA, rfl⟩, ⟨_, rfl⟩, hll, hkl, fun o ho => (dk o ho).imp fun kvs' x => ⟨x.1, x.2.1, by omega⟩⟩ rfl rfl rfl F' (by simpa only [led, List.cons_append] using N')
end Mine

end

section
-- A14
open PySem PySem.W PySem.Spec PySem.Calls PyProof.Rows
set_option maxRecDepth 100000
set_option linter.unusedVariables false
set_option maxHeartbeats 4000000
namespace Mine
theorem fresh14 : True := by
  k_with_none
  w_top off
  first | (walk1; fail) | trivial

theorem keys_spec {prog : Program} {w : World} {p : Program} {loose : List Str} {mean : ExcName → Option Value} {mg mb : Str → Option Value}
    {dp un : Nat} {gd : Option (List Code)} {cn : Str} {cs : Scope} {a : Addr} {ccd : Value} {cl : List (Str × Addr)} {outer : List Env} {A₀ : Around} {base h₀ : Heap} {L : Addr} {m : Str → Option Value} {s : Shared} {Q E : Value → Shared → Prop}
    (B : Below A₀ base outer h₀) (F : Fr h₀ L s.heap m) (X : (hd.heap_39 w.params).In h₀) (T : Top p loose mean mg mb h₀) (hk : cs.kind = .function)
    (hroom : dp < recursionLimit)
    (ret : ∀ D t1 t2 t3 h' tk', Keep [] s.heap h' → s.heap.get? D = none → h'.get? D = some (W.listOf #[.bytes #[120] t1, .int 1 t2, .bytes #[121] t3] 0) → Q (.ref D) { s with heap := h', toks := tk' }) :
    wpAny (model prog w) (ktrTop dp un gd cn cs L a ccd cl outer) (call (.ref 35) []) Q E s := by
  have N : News h₀ L s.heap [] := News.nil
  refine wpAny_call ?_
  k_dflt (refine' code_defF ?k1 ?k2 ?k3 ?k4 ?k5 ?kA ?kF ?kK ?k6 ?k7 ?k8 ?k9 ?kB ?_ ?c2 ?c3 ?c4 ?c5; (case kA => exact rfl); (case kF => exact rfl); (case kK => assumption); (case k1 => k_asm); (case k2 => k_asm); (case k3 => k_asm); (case k4 => k_asm); (case k5 => k_asm); (case k6 => k_is); (case k7 => k_is); (case k8 => assumption); (case k9 => exact BindsTo.of_eq rfl); (case c5 => decide); (case kB => exact locs rfl); (case c2 => exact rfl); (case c3 => exact rfl); (case c4 => exact rfl); k_whole)
  intro g' L' h' KG F' N' B' X' T'
  clear B F X T N
  (try dsimp only)
  (try k_fold)
  repeat' (first | (k_unfold; (try dsimp only)) | walk1 | (dsimp only; walk1) | fail "no step")
  (rename Fr g' _ _ _ => FF); (rename News g' _ _ _ => NN)
  exact ret _ _ _ _ _ _ (fun c o n e => FF.keep c o (KG c o n e)) (fresh_of KG (NN _ (.head _)).2.2) (NN _ (.head _)).1

/-- one of the law's keys -/
def KeyV (v : Value) : Prop := ∃ k, isKy k v = true
theorem keyV_at {t1 t2 t3 : Tok} {i : Nat} {v : Value} (h : (#[.bytes #[120] t1, .int 1 t2, .bytes #[121] t3] : Array Value)[i]? = some v) : KeyV v := by
  match i, h with
  | 0, h => cases h; exact ⟨.inl [120], rfl⟩
  | 1, h => cases h; exact ⟨.inr 1, rfl⟩
  | 2, h => cases h; exact ⟨.inl [121], rfl⟩
  | n + 3, h => simp at h

theorem led_set_cy {A : Ad} {c : Co} {xs : List (Addr × Obj)} {rk : Addr → Nat} {h₀ h h' : Heap} {L : Addr} {o' : Obj} (R : Rk A rk) (hx : Else A xs) (N : News h₀ L h (led A c ++ xs)) (hs : ∀ b, b ≠ A.cy → h'.get? b = h.get? b) (ho : h'.get? A.cy = some o') :
    News h₀ L h' (led A { c with ocy := o' } ++ xs) := by
  have keep : ∀ q ∈ led A c ++ xs, q.1 ≠ A.cy → h'.get? q.1 = some q.2 ∧ q.1 ≠ L ∧ h₀.get? q.1 = none := fun q hq hn => ⟨(hs q.1 hn).trans (N q hq).1, (N q hq).2⟩
  have ncy : (A.cy, c.ocy) ∈ led A c ++ xs := List.mem_append_left _ (by simp [led])
  intro q hq
  rcases List.mem_append.mp hq with hq | hq
  · have hz := R.ds
    have m1 : ∀ q, q ∈ led A c → q ∈ led A c ++ xs := fun q h => List.mem_append_left _ h
    simp only [led, List.mem_cons] at hq
    rcases hq with rfl | rfl | rfl | rfl | rfl | rfl | rfl | rfl | rfl | rfl | hq
    · exact keep _ (m1 _ (by simp [led])) (rk_ne R.ct R.cy (by decide))
    · exact keep _ (m1 _ (by simp [led])) (rk_ne R.cl R.cy (by decide))
    · exact keep _ (m1 _ (by simp [led])) (rk_ne R.ck R.cy (by decide))
    · exact ⟨ho, (N _ ncy).2⟩
    · exact keep _ (m1 _ (by simp [led])) (rk_ne R.cb R.cy (by decide))
    · exact keep _ (m1 _ (by simp [led])) (rk_ne R.b R.cy (by decide))
    · exact keep _ (m1 _ (by simp [led])) (rk_ne R.tt R.cy (by decide))
    · exact keep _ (m1 _ (by simp [led])) (rk_ne R.ll R.cy (by decide))
    · exact keep _ (m1 _ (by simp [led])) (rk_ne R.kl R.cy (by decide))
    · exact keep _ (m1 _ (by simp [led])) (rk_ne R.tab R.cy (by decide))
    · exact keep _ (m1 _ (by simp [led, hq])) (zip_rk R.ds R.cy (by decide) q hq)
  · exact keep q (List.mem_append_right _ hq) (fun e => hx q hq (by rw [e]; simp [Ad.all]))
theorem Ok.setCy {prog : Program} {w : World} {A : Ad} {c : Co} {n : Nat} {o' : Obj} (O : Ok prog w A c n) {v : Option Value} (h : o'.data = .cell v) : Ok prog w A { c with ocy := o' } n :=
  ⟨O.nd, O.dl, O.ol, O.lo, O.ct, O.cl, O.ck, O.cb, ⟨v, h⟩, O.ob, O.ott, O.oll, O.okl, O.dk⟩

def fillFor : Stmt := (bodyOf (lawBody.getD 3 default)).getD 0 default
def forTarget : Stmt → PySem.Expr
  | .For t _ _ _ _ => t
  | _ => default
def forIter : Stmt → PySem.Expr
  | .For _ i _ _ _ => i
  | _ => default
theorem fillFor_eq : ∃ px pos, fillFor = .For (.Name "key" px) (forIter fillFor) [fillIf] [] pos := ⟨_, _, rfl⟩

theorem eval_keys {prog : Program} {w : World} {p : Program} {loose : List Str} {mean : ExcName → Option Value} {mg mb : Str → Option Value}
    {dp un : Nat} {gd : Option (List Code)} {a : Addr} {outer : List Env} {A₀ : Around} {base h₀ : Heap} {L : Addr} {m : Str → Option Value} {s : Shared} {Q E : Value → Shared → Prop} {A : Ad}
    (B : Below A₀ base outer h₀) (F : Fr h₀ L s.heap m) (X : (hd.heap_39 w.params).In h₀) (T : Top p loose mean mg mb h₀) (hroom : dp < recursionLimit)
    (ret : ∀ D t1 t2 t3 h' tk', Keep [] s.heap h' → s.heap.get? D = none → h'.get? D = some (W.listOf #[.bytes #[120] t1, .int 1 t2, .bytes #[121] t3] 0) → Q (.ref D) { s with heap := h', toks := tk' }) :
    wpAny (model prog w) (ktrTop dp un gd "law" lawScope L a (.ref 53) (cellsOf A) outer) (eval (forIter fillFor) (envX "law" lawScope L a (.ref 53) (cellsOf A))) Q E s := by
  generalize hS0 : forIter fillFor = S0
  conv at hS0 => lhs; whnf
  subst hS0
  have hSc : ∃ sc, lawScope = sc := ⟨_, rfl⟩
  obtain ⟨sc, hSc⟩ := hSc
  rw [hSc]
  conv at hSc => lhs; whnf
  subst hSc
  have N : News h₀ L s.heap [] := News.nil
  repeat' (first | (k_unfold; (try dsimp only)) | walk1 | (dsimp only; walk1) | fail "no step")
  k_dflt (refine' keys_spec ?B ?F ?X ?T ?k ?d ?_)
  case B => k_asm
  case F => k_asm
  case X => k_asm
  case T => k_asm
  case k => k_dflt (exact rfl)
  case d => assumption
  intro D t1 t2 t3 h' tk' K' e1 e2
  exact ret _ _ _ _ _ _ K' e1 e2

theorem led_has {prog : Program} {w : World} {A : Ad} {c : Co} {n : Nat} (O : Ok prog w A c n) : ∀ x ∈ A.all, ∃ o, (x, o) ∈ led A c := by
  intro x hx
  simp only [Ad.all, List.cons_append, List.nil_append, List.mem_cons] at hx
  rcases hx with rfl | rfl | rfl | rfl | rfl | rfl | rfl | rfl | rfl | rfl | hx
  · exact ⟨c.otab, by simp [led]⟩
  · exact ⟨c.ocb, by simp [led]⟩
  · exact ⟨c.ocy, by simp [led]⟩
  · exact ⟨c.ock, by simp [led]⟩
  · exact ⟨c.ocl, by simp [led]⟩
  · exact ⟨c.oct, by simp [led]⟩
  · exact ⟨c.ob, by simp [led]⟩
  · exact ⟨c.ott, by simp [led]⟩
  · exact ⟨c.oll, by simp [led]⟩
  · exact ⟨c.okl, by simp [led]⟩
  · obtain ⟨i, hi, rfl⟩ := List.mem_iff_getElem.mp hx
    refine ⟨c.os[i]'(by have := O.dl; have := O.ol; omega), ?_⟩
    have : (A.ds[i], c.os[i]'(by have := O.dl; have := O.ol; omega)) ∈ A.ds.zip c.os := List.mem_iff_getElem?.mpr ⟨i, by rw [List.getElem?_zip_eq_some]; exact ⟨List.getElem?_eq_getElem hi, List.getElem?_eq_getElem _⟩⟩
    simp only [led, List.mem_cons]
    simp [this]
theorem led_sub {A : Ad} {c : Co} : ∀ q ∈ led A c, q.1 ∈ A.all := by
  intro q hq
  simp only [led, List.mem_cons] at hq
  rcases hq with rfl | rfl | rfl | rfl | rfl | rfl | rfl | rfl | rfl | rfl | hq
  · simp [Ad.all]
  · simp [Ad.all]
  · simp [Ad.all]
  · simp [Ad.all]
  · simp [Ad.all]
  · simp [Ad.all]
  · simp [Ad.all]
  · simp [Ad.all]
  · simp [Ad.all]
  · simp [Ad.all]
  · exact List.mem_append_right _ (List.of_mem_zip hq).1
theorem off_all {prog : Program} {w : World} {A : Ad} {c : Co} {n : Nat} {h₀ h : Heap} {L : Addr} {xs : List (Addr × Obj)} {x : Addr} (O : Ok prog w A c n) (N : News h₀ L h (led A c ++ xs)) (hn : h.get? x = none) : x ∉ A.all := fun hx => by
  obtain ⟨o, ho⟩ := led_has O x hx
  have := (N _ (List.mem_append_left _ ho)).1
  rw [hn] at this; cases this
theorem get_none_size (h : Heap) : h.get? h.objs.size = none := by
  cases e : h.get? h.objs.size with
  | none => rfl
  | some o => exact absurd (Heap.lt_size e) (Nat.lt_irrefl _)

theorem inner3 {prog : Program} {w : World} {p : Program} {loose : List Str} {mean : ExcName → Option Value} {mg mb : Str → Option Value}
    {dp un : Nat} {gd : Option (List Code)} {a : Addr} {outer : List Env} {A₀ : Around} {base h₀ : Heap} {L : Addr} {m : Str → Option Value} {s : Shared} {Q : Flow → Shared → Prop} {E : Value → Shared → Prop}
    {A : Ad} {c : Co} {xs : List (Addr × Obj)} {n : Nat} {kk : Int} {kt : Tok}
    (B : Below A₀ base outer h₀) (F : Fr h₀ L s.heap m) (X : (hd.heap_39 w.params).In h₀) (T : Top p loose mean mg mb h₀)
    (O : Ok prog w A c n) (N : News h₀ L s.heap (led A c ++ xs)) (hx : Else A xs)
    (hat : m "at" = some (.int kk kt)) (h0 : 0 ≤ kk) (h6 : kk < 6) (hn : n ≤ 90) (hroom : dp < recursionLimit)
    (hE : PassesOwn (model prog w) (ktrTop dp un gd "law" lawScope L a (.ref 53) (cellsOf A) outer) (envX "law" lawScope L a (.ref 53) (cellsOf A)) E)
    (ret : ∀ c' h' tk', Ok prog w A c' (n + 3) → c'.oll = c.oll → c'.otab = c.otab → Fr h₀ L h' m → News h₀ L h' (led A c' ++ xs) → Q .next { s with heap := h', toks := tk' }) :
    wpAny (model prog w) (ktrTop dp un gd "law" lawScope L a (.ref 53) (cellsOf A) outer) (exec fillFor (envX "law" lawScope L a (.ref 53) (cellsOf A))) Q E s := by
  obtain ⟨px, pos, he⟩ := fillFor_eq
  rw [he]
  refine For_turns (h₀ := h₀) F ?_ (fun _ => rfl) hE
  refine eval_keys B F X T hroom fun D t1 t2 t3 h1 tk1 K1 hD1 hD2 => ?_
  have F1 := frKeep (bs := []) F List.not_mem_nil (fun b hb => absurd hb List.not_mem_nil) K1
  have N1 := newsKeep (bs := []) N (fun _ _ hb => absurd hb List.not_mem_nil) K1
  have hDall : D ∉ A.all := off_all O N hD1
  have hLD : L ≠ D := fun e => by obtain ⟨_, _, _, q, _⟩ := F.ns; rw [e, hD1] at q; cases q
  have hD₀ : h₀.get? D = none := by
    cases e : h₀.get? D with
    | none => rfl
    | some o => have := F.keep D o e; rw [hD1] at this; cases this
  have hls : h1.IsList D #[.bytes #[120] t1, .int 1 t2, .bytes #[121] t3] := ⟨_, hD2, rfl, _, rfl⟩
  obtain ⟨rk, R⟩ := rk_of O.nd
  have hIall : h1.objs.size ∉ A.all := off_all O N1 (get_none_size h1)
  have hDlt : D < h1.objs.size := Heap.lt_size hD2
  refine wpAny_pyIter_list (s := { s with heap := h1, toks := tk1 }) hls ?_
  refine ⟨h1.objs.size, [h1.objs.size, D], [h1.objs.size], 3, _, _, _, m, led A c ++ xs, fun i m₁ news₁ => m₁ = m ∧ ∃ c', news₁ = led A c' ++ xs ∧ Ok prog w A c' (n + i) ∧ c'.oll = c.oll ∧ c'.otab = c.otab, rfl,
    KTurns.ofWalks (Walks.list rfl h1.objs.size D (Nat.ne_of_lt hDlt) #[.bytes #[120] t1, .int 1 t2, .bytes #[121] t3]) (fun _ _ _ _ _ _ h => wpAny_pure h), ?_, ?_, ?_, ⟨⟨_, Heap.get?_push_size _ rfl, rfl, rfl⟩, hls.push _⟩, F1.push _, N1.grown (fun _ _ e => Heap.get?_push_of_some _ e), ⟨rfl, c, rfl, O, rfl, rfl⟩, ?_, ?_⟩
  · intro hm
    rcases List.mem_cons.mp hm with e | hm
    · exact absurd F1.ns.lt (e ▸ Nat.lt_irrefl _)
    · exact hLD (List.mem_singleton.mp hm)
  · intro b hb
    rw [List.mem_singleton.mp hb]
    exact next_is_new F1
  · intro q hq hI
    exact absurd (Heap.lt_size (N1 q hq).1) ((List.mem_singleton.mp hI) ▸ Nat.lt_irrefl _)
  · rintro i v m₁ news₁ h₂ tk₂ own hi hP ⟨rfl, c', rfl, O', e1, e2⟩ hoff hown _ _ _ F₂ N₂
    obtain ⟨ky, hky⟩ := keyV_at hP
    have hElse : Else A (xs ++ own) := fun q hq => by
      rcases List.mem_append.mp hq with hq | hq
      · exact hx q hq
      · rcases List.mem_cons.mp (hown q hq) with e | e
        · rw [e]; exact hIall
        · rw [List.mem_singleton.mp e]; exact hDall
    have N₂' : News h₀ L h₂ (led A c' ++ (xs ++ own)) := fun q hq => N₂ q (by
      rcases List.mem_append.mp hq with hq | hq
      · exact List.mem_append_right _ (List.mem_append_left _ hq)
      · rcases List.mem_append.mp hq with hq | hq
        · exact List.mem_append_right _ (List.mem_append_right _ hq)
        · exact List.mem_append_left _ hq)
    obtain ⟨vc, hvc⟩ := O'.cy
    have gcy := N₂' (A.cy, c'.ocy) (List.mem_append_left _ (by simp [led]))
    refine wpAny_assign_Name (wpAny_storeName_cell (c := A.cy) rfl rfl rfl ⟨c'.ocy, gcy.1, hvc⟩ fun h₃ hv hs => ?_)
    obtain ⟨o', ho', hd'⟩ := hv
    have F₃ : Fr h₀ L h₃ m₁ := ⟨F₂.ns.sameBut hs (Ne.symm gcy.2.1), fun b ob e => (hs.2 b (fun q => by rw [q, gcy.2.2] at e; cases e)).trans (F₂.keep b ob e), F₂.above⟩
    have N₃ := led_set_cy R hElse N₂' hs.2 ho'
    refine wpAny_execs_cons ?_
    refine fill_spec (s := { s with heap := h₃, toks := tk₂ }) (n := n + i) B F₃ X T (O'.setCy hd') N₃ hElse hat h0 h6 hd' hky (by have : i < 3 := hi; omega) hroom fun c'' h₄ tk₄ O₄ q1 q2 q3 F₄ N₄ => ?_
    refine wpAny_execs_nil ?_
    refine ⟨rfl, h₄, tk₄, m₁, led A c'' ++ xs, rfl, F₄, fun q hq => N₄ q ?_, fun q hq => ?_, rfl, c'', rfl, by rw [← Nat.add_assoc]; exact O₄, q1.trans e1, q2.trans e2⟩
    · rcases List.mem_append.mp hq with hq | hq
      · exact List.mem_append_right _ (List.mem_append_right _ hq)
      · rcases List.mem_append.mp hq with hq | hq
        · exact List.mem_append_left _ hq
        · exact List.mem_append_right _ (List.mem_append_left _ hq)
    · intro hI
      have e := List.mem_singleton.mp hI
      rcases List.mem_append.mp hq with hq | hq
      · obtain ⟨x, hx1, hx2⟩ : ∃ x ∈ A.all, x = q.1 := ⟨q.1, led_sub q hq, rfl⟩
        exact hIall (by rw [← e, ← hx2]; exact hx1)
      · exact hoff q (List.mem_append_right _ hq) hI
  · rintro h' tk m' news' F' N' _ ⟨rfl, c', rfl, O', e1, e2⟩
    exact ret c' h' tk O' e1 e2 F' N'
end Mine

end

section
-- A15
open PySem PySem.W PySem.Spec PySem.Calls PyProof.Rows
set_option maxRecDepth 100000
set_option linter.unusedVariables false
set_option maxHeartbeats 4000000
namespace Mine
theorem fresh15 : True := by
  k_with_none
  w_top off
  first | (walk1; fail) | trivial
local macro_rules | `(tactic| k_ne) => `(tactic| (refine neN ?_; (try dsimp only); first | exact rk_ne (by assumption) (by assumption) (by decide) | omega))
local macro_rules | `(tactic| k_all) => `(tactic| exact tail_rk (by assumption) (by assumption) (by assumption) (by decide))
local macro_rules | `(tactic| walk_at "call ref") => `(tactic| (k_here; k_dflt (refine' takeK ?B ?F ?X ?T ?k ?N ?U ?g ?m ?mm ?d ?_; (case B => k_asm); (case F => k_asm); (case N => k_asm); (case X => k_asm); (case T => k_asm); (case k => exact rfl); (case U => k_updF); (case g => assumption); (case m => decide); (case mm => decide); (case d => first | assumption | decide)); intro dg' dt' g' tg' tn' ep' h' tk' hd1' hd2' hg' F' N'; (try dsimp only at N'); (try k_sweep); (try dsimp only)))
theorem itemEx {prog : Program} {w : World} {A : Around} {E : Value → Shared → Prop} {s : Shared} {value slice : PySem.Expr} {l : Addr} {vs : Array Value} {k : Int} {u : Tok} {n : Nat} {Q : Value → Shared → Prop}
    (hl : s.heap.get? l = some (W.listOf vs n)) (h0 : 0 ≤ k) (hk : k < vs.size) (hhi : vs.size < 1000) (h : ∀ v, vs[k.toNat]? = some v → Q v s)
    (hs : subscripted slice false (.ref l) (.int k u) = operate [.ref l, .int k u] (getItem (.ref l) (.int k u)) := by with_unfolding_all rfl) :
    wpAny (model prog w) A (subscriptTail value slice (.ref l) (.int k u)) Q E s :=
  itemB (vs := vs) ⟨_, hl, rfl, _, rfl⟩ h0 (by omega) (Array.getElem?_eq_getElem (by omega)) (h _ (Array.getElem?_eq_getElem (by omega))) hs
theorem later_at {t0 t1 t2 t3 t4 t5 : Tok} {i : Nat} {v : Value} (h : (#[.none, .int 0 t0, .int 1 t1, .int 2 t2, .int 3 t3, .int 4 t4, .int 5 t5] : Array Value)[i]? = some v) : Later v := by
  match i, h with
  | 0, h => cases h; exact .inl rfl
  | 1, h => cases h; exact .inr ⟨_, _, rfl, by decide, by decide⟩
  | 2, h => cases h; exact .inr ⟨_, _, rfl, by decide, by decide⟩
  | 3, h => cases h; exact .inr ⟨_, _, rfl, by decide, by decide⟩
  | 4, h => cases h; exact .inr ⟨_, _, rfl, by decide, by decide⟩
  | 5, h => cases h; exact .inr ⟨_, _, rfl, by decide, by decide⟩
  | 6, h => cases h; exact .inr ⟨_, _, rfl, by decide, by decide⟩
  | n + 7, h => simp at h
def appStmt : Stmt := (bodyOf (lawBody.getD 3 default)).getD 1 default
local macro_rules | `(tactic| walk_at "subscriptTail Name Call ref int") => `(tactic| (k_here; (rename News _ _ _ _ => lN); k_dflt (refine' itemEx ?l ?z ?y ?x ?_; (case l => exact (lN (_, W.listOf _ _) (by k_mem)).1); (case z => assumption); (case y => simpa using (by assumption)); (case x => simp)); intro v' hv'))

local macro_rules | `(tactic| walk_at "callWith builtin:list.append") => `(tactic| (k_here; k_dflt (refine callWith_method1 ?_)))

theorem app_spec {prog : Program} {w : World} {p : Program} {loose : List Str} {mean : ExcName → Option Value} {mg mb : Str → Option Value}
    {dp un : Nat} {gd : Option (List Code)} {a : Addr} {outer : List Env} {A₀ : Around} {base h₀ : Heap} {L : Addr} {m : Str → Option Value} {s : Shared} {Q : Flow → Shared → Prop} {E : Value → Shared → Prop}
    {A : Ad} {c : Co} {xs : List (Addr × Obj)} {n : Nat} {vs : List Value} {e : Nat}
    (B : Below A₀ base outer h₀) (F : Fr h₀ L s.heap m) (X : (hd.heap_39 w.params).In h₀) (T : Top p loose mean mg mb h₀)
    (O : Ok prog w A c n) (N : News h₀ L s.heap (led A c ++ xs)) (hx : Else A xs) (hroom : dp < recursionLimit)
    (hvs : ∀ v ∈ vs, Later v) (hl : c.oll = W.listOf vs.toArray e) (hlen : vs.length ≤ 100)
    (ret : ∀ c' h' tk' v e', Ok prog w A c' n → Later v → c'.oll = W.listOf (vs ++ [v]).toArray e' → c'.otab = c.otab → Fr h₀ L h' m → News h₀ L h' (led A c' ++ xs) → Q .next { s with heap := h', toks := tk' }) :
    wpAny (model prog w) (ktrTop dp un gd "law" lawScope L a (.ref 53) (cellsOf A) outer) (exec appStmt (envX "law" lawScope L a (.ref 53) (cellsOf A))) Q E s := by
  generalize hS0 : appStmt = S0
  conv at hS0 => lhs; whnf
  subst hS0
  have hSc : ∃ sc, lawScope = sc := ⟨_, rfl⟩
  obtain ⟨sc, hSc⟩ := hSc
  rw [hSc]
  conv at hSc => lhs; whnf
  subst hSc
  obtain ⟨rk, R⟩ := rk_of O.nd
  have hxr : ∀ q ∈ xs, 10 ≤ rk q.1 := fun q hq => R.els _ (hx q hq)
  obtain ⟨R0, R1, R2, R3, R4, R5, R6, R7, R8, R9, Rd, Re⟩ := R
  obtain ⟨nd, dl, ol, lo, dct, dcl, dck, dcb, dcy, ⟨g, gn, tg, tn, eb, hg, eob⟩, ⟨et, eott⟩, hll, hkl, dk⟩ := O
  obtain ⟨ct, cl, ck, cy, cb, b, tt, ll, kl, ds⟩ := A
  obtain ⟨oct, ocl, ock, ocy, ocb, ob, ott, oll, okl, otab, os⟩ := c
  dsimp only at *
  subst eob eott hl
  simp only [led, List.cons_append] at N
  repeat' (first | (k_unfold; (try dsimp only)) | walk1 | (dsimp only; walk1) | fail "no step")
  rename_i lD h1 l1 dg dt g' tg' tn' ep' h2 tk2 hd1 hd2 hg' v hv h3 F' N'
  rw [List.push_toArray] at N'
  refine ret ⟨oct, ocl, ock, ocy, ocb, W.listOf #[.int g' tg', .int (gn + 1) tn'] ep', W.listOf (ds.map Value.ref).toArray et, W.listOf (vs ++ [v]).toArray _, okl, otab, os⟩ h3 _ v _
    ⟨nd, dl, ol, lo, dct, dcl, dck, dcb, dcy, ⟨g', _, _, _, _, hg', rfl⟩, ⟨_, rfl⟩, ⟨vs ++ [v], _, fun x hx => ?_, rfl⟩, hkl, dk⟩ (later_at hv) rfl rfl F' (fun q hq => N' q (List.mem_cons_of_mem _ (by simpa only [led, List.cons_append] using hq)))
  rcases List.mem_append.mp hx with hx | hx
  · exact hvs x hx
  · rw [List.mem_singleton.mp hx]; exact later_at hv

theorem turn3_eq : bodyOf (lawBody.getD 3 default) = [fillFor, appStmt] := rfl
theorem turn3 {prog : Program} {w : World} {p : Program} {loose : List Str} {mean : ExcName → Option Value} {mg mb : Str → Option Value}
    {dp un : Nat} {gd : Option (List Code)} {a : Addr} {outer : List Env} {A₀ : Around} {base h₀ : Heap} {L : Addr} {m : Str → Option Value} {s : Shared} {Q : Flow → Shared → Prop} {E : Value → Shared → Prop}
    {A : Ad} {c : Co} {xs : List (Addr × Obj)} {n : Nat} {kk : Int} {kt : Tok} {vs : List Value} {e : Nat}
    (B : Below A₀ base outer h₀) (F : Fr h₀ L s.heap m) (X : (hd.heap_39 w.params).In h₀) (T : Top p loose mean mg mb h₀)
    (O : Ok prog w A c n) (N : News h₀ L s.heap (led A c ++ xs)) (hx : Else A xs)
    (hat : m "at" = some (.int kk kt)) (h0 : 0 ≤ kk) (h6 : kk < 6) (hn : n ≤ 90) (hroom : dp < recursionLimit)
    (hE : PassesOwn (model prog w) (ktrTop dp un gd "law" lawScope L a (.ref 53) (cellsOf A) outer) (envX "law" lawScope L a (.ref 53) (cellsOf A)) E)
    (hvs : ∀ v ∈ vs, Later v) (hl : c.oll = W.listOf vs.toArray e) (hlen : vs.length ≤ 100)
    (ret : ∀ c' h' tk' v e', Ok prog w A c' (n + 3) → Later v → c'.oll = W.listOf (vs ++ [v]).toArray e' → c'.otab = c.otab → Fr h₀ L h' m → News h₀ L h' (led A c' ++ xs) → Q .next { s with heap := h', toks := tk' }) :
    wpAny (model prog w) (ktrTop dp un gd "law" lawScope L a (.ref 53) (cellsOf A) outer) (execs (bodyOf (lawBody.getD 3 default)) (envX "law" lawScope L a (.ref 53) (cellsOf A))) Q E s := by
  rw [turn3_eq]
  refine wpAny_execs_cons (inner3 B F X T O N hx hat h0 h6 hn hroom hE fun c1 h1 tk1 O1 e1 e2 F1 N1 => ?_)
  refine wpAny_execs_cons (app_spec (s := { s with heap := h1, toks := tk1 }) B F1 X T O1 N1 hx hroom hvs (e1.trans hl) hlen fun c2 h2 tk2 v e' O2 hv e3 e4 F2 N2 => ?_)
  exact wpAny_execs_nil (ret c2 h2 tk2 v e' O2 hv e3 (e4.trans e2) F2 N2)

theorem eval_range3 {prog : Program} {w : World} {p : Program} {loose : List Str} {mean : ExcName → Option Value} {mg mb : Str → Option Value}
    {dp un : Nat} {gd : Option (List Code)} {a : Addr} {outer : List Env} {A₀ : Around} {base h₀ : Heap} {L : Addr} {m : Str → Option Value} {s : Shared} {Q E : Value → Shared → Prop} {A : Ad}
    (B : Below A₀ base outer h₀) (F : Fr h₀ L s.heap m) (X : (hd.heap_39 w.params).In h₀) (T : Top p loose mean mg mb h₀)
    (ret : ∀ r t u v h' tk', Keep [] s.heap h' → IsRange h' r 0 6 1 t u v → Q (.ref r) { s with heap := h', toks := tk' }) :
    wpAny (model prog w) (ktrTop dp un gd "law" lawScope L a (.ref 53) (cellsOf A) outer) (eval (forIter (lawBody.getD 3 default)) (envX "law" lawScope L a (.ref 53) (cellsOf A))) Q E s := by
  generalize hS0 : forIter (lawBody.getD 3 default) = S0
  conv at hS0 => lhs; whnf
  subst hS0
  have hSc : ∃ sc, lawScope = sc := ⟨_, rfl⟩
  obtain ⟨sc, hSc⟩ := hSc
  rw [hSc]
  conv at hSc => lhs; whnf
  subst hSc
  have N : News h₀ L s.heap [] := News.nil
  repeat' (first | (k_unfold; (try dsimp only)) | walk1 | (dsimp only; walk1) | fail "no step")
  rename_i h1 tk1 t1 u1 v1 hR F1 N1 hk
  exact ret _ _ _ _ _ _ (fun c o _ e => hk c o e) hR

theorem for3_eq : ∃ px pos, lawBody.getD 3 default = .For (.Name "at" px) (forIter (lawBody.getD 3 default)) (bodyOf (lawBody.getD 3 default)) [] pos := ⟨_, _, rfl⟩
theorem part3 {prog : Program} {w : World} {p : Program} {loose : List Str} {mean : ExcName → Option Value} {mg mb : Str → Option Value}
    {dp un : Nat} {gd : Option (List Code)} {a : Addr} {outer : List Env} {A₀ : Around} {base h₀ : Heap} {L : Addr} {m : Str → Option Value} {s : Shared} {Q : Flow → Shared → Prop} {E : Value → Shared → Prop}
    {A : Ad} {c : Co} {e : Nat}
    (B : Below A₀ base outer h₀) (F : Fr h₀ L s.heap m) (X : (hd.heap_39 w.params).In h₀) (T : Top p loose mean mg mb h₀)
    (O : Ok prog w A c 0) (N : News h₀ L s.heap (led A c)) (hl : c.oll = W.listOf #[] e) (hroom : dp < recursionLimit)
    (hE : PassesOwn (model prog w) (ktrTop dp un gd "law" lawScope L a (.ref 53) (cellsOf A) outer) (envX "law" lawScope L a (.ref 53) (cellsOf A)) E)
    (ret : ∀ (c' : Co) (m' : Str → Option Value) (h' : Heap) (tk' : Nat) (vs : List Value) (e' : Nat), Ok prog w A c' 18 → vs.length = 6 → (∀ v ∈ vs, Later v) → c'.oll = W.listOf vs.toArray e' → c'.otab = c.otab → Fr h₀ L h' m' → News h₀ L h' (led A c') → Q .next { s with heap := h', toks := tk' }) :
    wpAny (model prog w) (ktrTop dp un gd "law" lawScope L a (.ref 53) (cellsOf A) outer) (exec (lawBody.getD 3 default) (envX "law" lawScope L a (.ref 53) (cellsOf A))) Q E s := by
  obtain ⟨px, pos, he⟩ := for3_eq
  rw [he]
  refine For_turns (h₀ := h₀) F ?_ (fun _ => rfl) hE
  refine eval_range3 B F X T fun r t u v h1 tk1 K1 hR => ?_
  have F1 := frKeep (bs := []) F List.not_mem_nil (fun b hb => absurd hb List.not_mem_nil) K1
  have N1 := newsKeep (bs := []) N (fun _ _ hb => absurd hb List.not_mem_nil) K1
  refine wpAny_pyIter_range (s := { s with heap := h1, toks := tk1 }) hR (by decide) ?_
  have hIall : h1.objs.size ∉ A.all := off_all (xs := []) O (by simpa using N1) (get_none_size h1)
  refine ⟨h1.objs.size, [h1.objs.size], [h1.objs.size], 6, _, _, _, m, led A c, fun i m₁ news₁ => ∃ (c' : Co) (vs : List Value) (e' : Nat), news₁ = led A c' ∧ Ok prog w A c' (3 * i) ∧ vs.length = i ∧ (∀ v ∈ vs, Later v) ∧ c'.oll = W.listOf vs.toArray e' ∧ c'.otab = c.otab, rfl,
    KTurns.ofWalks (LCg.range_walks rfl 0 6) (fun _ _ _ _ _ _ h => wpAny_pure h), ?_, ?_, ?_, (by exact Heap.get?_push_size h1 rfl), F1.push _, N1.grown (fun _ _ e => Heap.get?_push_of_some _ e), ⟨c, [], e, rfl, O, rfl, (fun _ h => by cases h), hl, rfl⟩, ?_, ?_⟩
  · intro hm
    exact absurd F1.ns.lt ((List.mem_singleton.mp hm) ▸ Nat.lt_irrefl _)
  · intro b hb
    rw [List.mem_singleton.mp hb]
    exact next_is_new F1
  · intro q hq hI
    exact absurd (Heap.lt_size (N1 q hq).1) ((List.mem_singleton.mp hI) ▸ Nat.lt_irrefl _)
  · rintro i v m₁ news₁ h₂ tk₂ own hi ⟨t', rfl⟩ ⟨c', vs, e', rfl, O', hvl, hvs, hl', ht'⟩ hoff hown _ _ _ F₂ N₂
    have hElse : Else A own := fun q hq => by
      rw [List.mem_singleton.mp (hown q hq)]; exact hIall
    have N₂' : News h₀ L h₂ (led A c' ++ own) := fun q hq => N₂ q ((List.mem_append.mp hq).elim (List.mem_append_right _) (List.mem_append_left _))
    refine wpAny_assign_Name (wpAny_storeName_local rfl F₂.ns (fun h₃ hn hs => ?_) rfl)
    have F₃ := F₂.set hn hs
    have N₃ := N₂'.set hs
    refine turn3 (s := { s with heap := h₃, toks := tk₂ + 1 }) (n := 3 * i) (kk := 0 + (i : Int)) (kt := t') B F₃ X T O' N₃ hElse (if_pos rfl) (by omega) (by omega) (by omega) hroom hE hvs hl' (by omega) fun c'' h₄ tk₄ v e'' O₄ hv q1 q2 F₄ N₄ => ?_
    refine ⟨rfl, h₄, tk₄, _, led A c'', rfl, F₄, fun q hq => N₄ q ((List.mem_append.mp hq).elim (List.mem_append_right _) (List.mem_append_left _)), fun q hq hI => ?_, c'', vs ++ [v], e'', rfl, by rw [Nat.mul_add]; exact O₄, by simp; omega, fun x hx => ?_, q1, q2.trans ht'⟩
    · exact hIall ((List.mem_singleton.mp hI) ▸ led_sub q hq)
    · rcases List.mem_append.mp hx with hx | hx
      · exact hvs x hx
      · rw [List.mem_singleton.mp hx]; exact hv
  · rintro h' tk m' news' F' N' _ ⟨c', vs, e', rfl, O', hvl, hvs, hl', ht'⟩
    exact ret c' m' h' tk vs e' O' hvl hvs hl' ht' F' N'
end Mine

end

section
-- A16
open PySem PySem.W PySem.Spec PySem.Calls PyProof.Rows
set_option maxRecDepth 100000
set_option linter.unusedVariables false
set_option maxHeartbeats 4000000
namespace Mine
theorem fresh16 : True := by
  k_with_none
  w_top off
  first | (walk1; fail) | trivial
def tupElts : PySem.Expr → List PySem.Expr
  | .Tuple es _ _ => es
  | _ => []
def dictX : PySem.Expr := (tupElts (valueOf (lawBody.getD 4 default))).getD 3 default
def dictY : PySem.Expr := (tupElts (valueOf (lawBody.getD 4 default))).getD 4 default
theorem dictX_eq : ∃ k p k2 p2 pos, dictX = .Dict [some (.Constant (.bytes [120]) k p)] [.Constant (.int 5) k2 p2] pos := ⟨_, _, _, _, _, rfl⟩
theorem dictY_eq : ∃ k p k2 p2 pos, dictY = .Dict [some (.Constant (.bytes [121]) k p)] [.Constant (.int 6) k2 p2] pos := ⟨_, _, _, _, _, rfl⟩
theorem dict1 {prog : Program} {w : World} {A : Around} {E : Value → Shared → Prop} {s : Shared} {env : Env} {h₀ : Heap} {L : Addr} {m : Str → Option Value} {news : List (Addr × Obj)} {Q : Value → Shared → Prop} {bs : List UInt8} {i : Int} {k k2 : Nat} {p p2 pos : Pos}
    (F : Fr h₀ L s.heap m) (N : News h₀ L s.heap news) (hbig : h₀.NoLimit)
    (ret : ∀ d h' tk' o t2, Fr h₀ L h' m → News h₀ L h' ((d, o) :: news) → (∀ p ∈ news, p.1 < d) → (d == sysModules) = false → o.IsDictOf (kyKind prog w) [(.inl bs, .int i t2)] → Q (.ref d) { s with heap := h', toks := tk' }) :
    wpAny (model prog w) A (eval (.Dict [some (.Constant (.bytes bs) k p)] [.Constant (.int i) k2 p2] pos) env) Q E s := by
  refine kdn_eval (knd := kyKind prog w) F N hbig rfl rfl (List.cons_ne_nil _ _) (by simp) fun d h' o F' N' l1 lo hd => ?_
  show wpAny _ _ (evalPairs [(eval (.Constant (.bytes bs) k p) env, do let x ← eval (.Constant (.int i) k2 p2) env; standAt pos; pure x)]) _ _ _
  refine evalPairs_cons ?_
  refine Constant_bytes (wpAny_bind (wpAny_Constant_int (wpAny_bind (wpAny_standAt (wpAny_pure ?_)))))
  refine evalPairs_nil ?_
  refine ⟨[(.inl bs, .int i _)], ⟨by simp [kyKind, isKy, isBytes], rfl, trivial⟩, Heap.dictOf_iff.mpr ⟨o, (N' _ (.head _)).1, hd⟩, fun h'' hm hs => ?_⟩
  obtain ⟨o', ho', hd'⟩ := Heap.dictOf_iff.mp hm
  have z := (N' (d, o) (.head _)).2
  refine ret d h'' _ o' _ (F'.change hs z.1 z.2) (fun q hq => ?_) l1 lo hd'
  rcases List.mem_cons.mp hq with rfl | hq
  · exact ⟨ho', z⟩
  · have y := N' q (List.mem_cons_of_mem _ hq)
    exact ⟨(hs.2 q.1 (Nat.ne_of_lt (l1 q hq))).trans y.1, y.2⟩
local macro_rules | `(tactic| k_ne) => `(tactic| (refine neN ?_; (try dsimp only); first | exact rk_ne (by assumption) (by assumption) (by decide) | omega))
local macro_rules | `(tactic| walk_at "eval Dict cons cons") => `(tactic| (k_here; k_dflt (refine' dict1 ?F ?N ?b ?_; (case F => k_asm); (case N => k_asm); (case b => exact Top.nolimit (by k_asm))); intro d' h' tk' o' t2' F' N' l1 lo' hd'; (try k_lt l1); (try k_sweep); (try dsimp only)))
/-- what the main loop leans on -/
def Main (c : Co) : Prop := (∃ (ks : List Bool) (e : Nat), ks.length = 6 ∧ ks[0]? = some true ∧ c.okl = W.listOf (ks.map Value.bool).toArray e) ∧ ∃ (vs : List Value) (e : Nat), vs.length = 6 ∧ (∀ v ∈ vs, Later v) ∧ c.oll = W.listOf vs.toArray e
theorem part4 {prog : Program} {w : World} {p : Program} {loose : List Str} {mean : ExcName → Option Value} {mg mb : Str → Option Value}
    {dp un : Nat} {gd : Option (List Code)} {a : Addr} {outer : List Env} {A₀ : Around} {base h₀ : Heap} {L : Addr} {m : Str → Option Value} {s : Shared} {Q : Flow → Shared → Prop} {E : Value → Shared → Prop}
    {A : Ad} {c : Co} {e : Nat} {vs : List Value}
    (B : Below A₀ base outer h₀) (F : Fr h₀ L s.heap m) (X : (hd.heap_39 w.params).In h₀) (T : Top p loose mean mg mb h₀)
    (O : Ok prog w A c 18) (N : News h₀ L s.heap (led A c)) (hv6 : vs.length = 6) (hvs : ∀ v ∈ vs, Later v) (hl : c.oll = W.listOf vs.toArray e) (ht : c.otab = tabObj #[]) (hroom : dp < recursionLimit)
    (ret : ∀ ds' c' h' tk', Ok prog w { A with ds := ds' } c' 18 → Main c' → c'.otab = tabObj #[] → Fr h₀ L h' m → News h₀ L h' (led { A with ds := ds' } c') → Q .next { s with heap := h', toks := tk' })
    : wpAny (model prog w) (ktrTop dp un gd "law" lawScope L a (.ref 53) (cellsOf A) outer) (exec (lawBody.getD 4 default) (envX "law" lawScope L a (.ref 53) (cellsOf A))) Q E s := by
  generalize hS0 : lawBody.getD 4 default = S0
  conv at hS0 => lhs; whnf
  subst hS0
  have hSc : ∃ sc, lawScope = sc := ⟨_, rfl⟩
  obtain ⟨sc, hSc⟩ := hSc
  rw [hSc]
  conv at hSc => lhs; whnf
  subst hSc
  obtain ⟨rk, hrk, _⟩ := rank_of _ O.nd
  obtain ⟨nd, dl, ol, lo, dct, dcl, dck, dcb, dcy, ⟨g, gn, tg, tn, eb, hg, eob⟩, ⟨et, eott⟩, hll, ⟨ks, ek, hk6, eokl⟩, dk⟩ := O
  obtain ⟨ct, cl, ck, cy, cb, b, tt, ll, kl, ds⟩ := A
  obtain ⟨oct, ocl, ock, ocy, ocb, ob, ott, oll, okl, otab, os⟩ := c
  dsimp only at *
  obtain ⟨d0, d1, d2, d3, d4, d5, rfl⟩ := six dl
  obtain ⟨o0, o1, o2, o3, o4, o5, rfl⟩ := six ol
  obtain ⟨k0, k1, k2, k3, k4, k5, rfl⟩ := six hk6
  obtain ⟨v0, v1, v2, v3, v4, v5, rfl⟩ := six hv6
  subst eob eott hl ht eokl
  simp only [led, List.zip_cons_cons, List.zip_nil_left, List.map_cons, List.map_nil] at N
  have R0 : rk 51 = 0 := hrk 0 (by simp [Ad.all])
  have R1 : rk cb = 1 := hrk 1 (by simp [Ad.all])
  have R2 : rk cy = 2 := hrk 2 (by simp [Ad.all])
  have R3 : rk ck = 3 := hrk 3 (by simp [Ad.all])
  have R4 : rk cl = 4 := hrk 4 (by simp [Ad.all])
  have R5 : rk ct = 5 := hrk 5 (by simp [Ad.all])
  have R6 : rk b = 6 := hrk 6 (by simp [Ad.all])
  have R7 : rk tt = 7 := hrk 7 (by simp [Ad.all])
  have R8 : rk ll = 8 := hrk 8 (by simp [Ad.all])
  have R9 : rk kl = 9 := hrk 9 (by simp [Ad.all])
  have R10 : rk d0 = 10 := hrk 10 (by simp [Ad.all])
  have R11 : rk d1 = 11 := hrk 11 (by simp [Ad.all])
  have R12 : rk d2 = 12 := hrk 12 (by simp [Ad.all])
  have R13 : rk d3 = 13 := hrk 13 (by simp [Ad.all])
  have R14 : rk d4 = 14 := hrk 14 (by simp [Ad.all])
  have R15 : rk d5 = 15 := hrk 15 (by simp [Ad.all])
  repeat' (first | (k_unfold; (try dsimp only)) | walk1 | (dsimp only; walk1) | fail "no step")
  rename_i dX hX tkX oX t2X loX hdX lX dY hY tkY oY t2Y loY hdY lY D hD lD hA1 FA1 NA1 hA2 FA2 NA2 hA3 FA3 NA3 hA4 FA4 NA4 hA5 FA5 NA5 h' F' N'
  refine' ret [dX, dY, d2, d3, d4, d5] ⟨oct, ocl, ock, ocy, ocb, W.listOf #[.int g tg, .int gn tn] eb, W.listOf ([dX, dY, d2, d3, d4, d5].map Value.ref).toArray _, W.listOf [.int 1 ?tk, v1, v2, v3, v4, v5].toArray _, W.listOf ([true, true, k2, k3, k4, k5].map Value.bool).toArray _, tabObj #[], [oX, oY, o2, o3, o4, o5]⟩ h' _ ⟨?nd, rfl, rfl, ?lo, dct, dcl, dck, dcb, dcy, ⟨g, gn, tg, tn, eb, hg, rfl⟩, ⟨_, rfl⟩, ⟨[.int 1 ?tk, v1, v2, v3, v4, v5], _, ?later1, rfl⟩, ⟨[true, true, k2, k3, k4, k5], _, rfl, rfl⟩, ?dk⟩ ⟨⟨[true, true, k2, k3, k4, k5], _, rfl, rfl, rfl⟩, ⟨[.int 1 ?tk, v1, v2, v3, v4, v5], _, rfl, ?later2, rfl⟩⟩ rfl F' ?nw
  case nw =>
    intro q hq
    refine N' q ?_
    simp only [led, List.zip_cons_cons, List.zip_nil_left, List.map_cons, List.map_nil] at hq
    revert q
    refine List.forall_mem_cons.mpr ⟨by k_mem, ?_⟩
    refine List.forall_mem_cons.mpr ⟨by k_mem, ?_⟩
    refine List.forall_mem_cons.mpr ⟨by k_mem, ?_⟩
    refine List.forall_mem_cons.mpr ⟨by k_mem, ?_⟩
    refine List.forall_mem_cons.mpr ⟨by k_mem, ?_⟩
    refine List.forall_mem_cons.mpr ⟨by k_mem, ?_⟩
    refine List.forall_mem_cons.mpr ⟨by k_mem, ?_⟩
    refine List.forall_mem_cons.mpr ⟨by k_mem, ?_⟩
    refine List.forall_mem_cons.mpr ⟨by k_mem, ?_⟩
    refine List.forall_mem_cons.mpr ⟨by k_mem, ?_⟩
    refine List.forall_mem_cons.mpr ⟨by k_mem, ?_⟩
    refine List.forall_mem_cons.mpr ⟨by k_mem, ?_⟩
    refine List.forall_mem_cons.mpr ⟨by k_mem, ?_⟩
    refine List.forall_mem_cons.mpr ⟨by k_mem, ?_⟩
    refine List.forall_mem_cons.mpr ⟨by k_mem, ?_⟩
    refine List.forall_mem_cons.mpr ⟨by k_mem, ?_⟩
    exact List.forall_mem_nil _
  case later1 =>
    simp only [List.forall_mem_cons] at hvs ⊢
    exact ⟨.inr ⟨1, _, rfl, by decide, by decide⟩, hvs.2⟩
  case later2 =>
    simp only [List.forall_mem_cons] at hvs ⊢
    exact ⟨.inr ⟨1, _, rfl, by decide, by decide⟩, hvs.2⟩
  case lo =>
    simp only [List.forall_mem_cons] at lo ⊢
    exact ⟨loX, loY, lo.2.2⟩
  case dk =>
    simp only [List.forall_mem_cons] at dk ⊢
    refine ⟨⟨_, hdX, fun kv h => ?_, by simp⟩, ⟨_, hdY, fun kv h => ?_, by simp⟩, dk.2.2⟩
    · rw [List.mem_singleton.mp h]; exact ⟨_, _, rfl⟩
    · rw [List.mem_singleton.mp h]; exact ⟨_, _, rfl⟩
  case nd =>
    clear N' NA1 NA2 NA3 NA4 NA5 F' FA1 FA2 FA3 FA4 FA5 dk
    simp only [Ad.all, List.cons_append, List.nil_append, List.nodup_cons, List.mem_cons, List.not_mem_nil, or_false, not_or, List.nodup_nil, and_true, not_false_eq_true]
    repeat' apply And.intro
    all_goals k_ne
end Mine

end

section
-- A17
open PySem PySem.W PySem.Spec PySem.Calls PyProof.Rows
set_option maxRecDepth 100000
set_option linter.unusedVariables false
set_option maxHeartbeats 4000000
namespace Mine
theorem fresh17 : True := by
  k_with_none
  w_top off
  first | (walk1; fail) | trivial

def CodeIn (xs : List (Addr × Obj)) (c' : Addr) : Prop := ∃ oc vs t, (c', oc) ∈ xs ∧ oc.data = .fields vs ∧ vs[1]? = some (.str lamQ t)
theorem CodeIn.mono {xs ys : List (Addr × Obj)} {c' : Addr} (h : CodeIn xs c') (s : ∀ q ∈ xs, q ∈ ys) : CodeIn ys c' := let ⟨oc, vs, t, a, b⟩ := h; ⟨oc, vs, t, s _ a, b⟩
def CodesOk (ps : Array Value) (xs : List (Addr × Obj)) : Prop := TriplesOk ps.toList ∧ ∀ pos, codeAmong pos ps.toList = none ∨ ∃ c', codeAmong pos ps.toList = some (.ref c') ∧ CodeIn xs c'
theorem triples_app {l : List Value} {i j : Int} {c : Value} (h : TriplesOk l) : TriplesOk (l ++ [rawInt i, rawInt j, c]) := by
  fun_induction TriplesOk l with
  | case1 => trivial
  | case2 a1 t1 a2 t2 x r ih => exact ih h
  | case3 => cases h
theorem among_app {l : List Value} {i j : Int} {c : Value} {pos : Pos} (h : TriplesOk l) : codeAmong pos (l ++ [rawInt i, rawInt j, c]) = codeAmong pos l ∨ codeAmong pos (l ++ [rawInt i, rawInt j, c]) = some c := by
  fun_induction TriplesOk l with
  | case1 =>
    simp only [List.nil_append, codeAmong, rawInt]
    split
    · exact .inr rfl
    · exact .inl rfl
  | case2 a1 t1 a2 t2 x r ih =>
    simp only [List.cons_append, codeAmong]
    split
    · exact .inl rfl
    · exact ih h
  | case3 => cases h
theorem CodesOk.app {ps : Array Value} {xs ys : List (Addr × Obj)} {i j : Int} {c' : Addr} (h : CodesOk ps xs) (s : ∀ q ∈ xs, q ∈ ys) (hc : CodeIn ys c') : CodesOk (ps ++ #[rawInt i, rawInt j, .ref c']) ys := by
  have e : (ps ++ #[rawInt i, rawInt j, .ref c']).toList = ps.toList ++ [rawInt i, rawInt j, .ref c'] := by simp
  refine ⟨by rw [e]; exact triples_app h.1, fun pos => ?_⟩
  rw [e]
  rcases among_app (i := i) (j := j) (c := .ref c') (pos := pos) h.1 with q | q
  · rw [q]
    exact (h.2 pos).imp id fun ⟨c2, x, y⟩ => ⟨c2, x, y.mono s⟩
  · exact .inr ⟨c', q, hc⟩
theorem CodesOk.nil : CodesOk #[] [] := ⟨trivial, fun _ => .inl rfl⟩

theorem updTab {A : Ad} {c : Co} {xs : List (Addr × Obj)} {rk : Addr → Nat} (R : Rk A rk) (hx : Else A xs) : UpdF 51 c.otab (led A c ++ xs) (fun o => led A { c with otab := o } ++ xs) := by
  unfold led
  refine UpdF.tail (rk_ne R.ct R.tab (by decide)) ?_
  refine UpdF.tail (rk_ne R.cl R.tab (by decide)) ?_
  refine UpdF.tail (rk_ne R.ck R.tab (by decide)) ?_
  refine UpdF.tail (rk_ne R.cy R.tab (by decide)) ?_
  refine UpdF.tail (rk_ne R.cb R.tab (by decide)) ?_
  refine UpdF.tail (rk_ne R.b R.tab (by decide)) ?_
  refine UpdF.tail (rk_ne R.tt R.tab (by decide)) ?_
  refine UpdF.tail (rk_ne R.ll R.tab (by decide)) ?_
  refine UpdF.tail (rk_ne R.kl R.tab (by decide)) ?_
  exact UpdF.head (tail_rk R.ds (fun q hq => R.els _ (hx q hq)) R.tab (by decide))
theorem Ok.setTab {prog : Program} {w : World} {A : Ad} {c : Co} {n : Nat} {o' : Obj} (O : Ok prog w A c n) : Ok prog w A { c with otab := o' } n :=
  ⟨O.nd, O.dl, O.ol, O.lo, O.ct, O.cl, O.ck, O.cb, O.cy, O.ob, O.ott, O.oll, O.okl, O.dk⟩

theorem lamQ_eq {sc : Scope} {L a : Addr} {cd : Value} {cells : List (Str × Addr)} : (envX "law" sc L a cd cells).qual ++ Str.ofString "<lambda>" = lamQ := by
  show (Str.ofString "law" ++ Str.ofString ".<locals>.") ++ Str.ofString "<lambda>" = lamQ
  decide +kernel
theorem lam_make {prog : Program} {w : World} {p : Program} {loose : List Str} {mean : ExcName → Option Value} {mg mb : Str → Option Value}
    {M : Model} {A₀ : Around} {a : Addr} {h₀ : Heap} {L : Addr} {m : Str → Option Value} {s : Shared} {Q E : Value → Shared → Prop}
    {A : Ad} {c : Co} {n : Nat} {xs : List (Addr × Obj)} {ps : Array Value} {params : Arguments} {body : PySem.Expr} {scope : Scope} {pos : Pos} {clos : List (Str × Addr)}
    (F : Fr h₀ L s.heap m) (T : Top p loose mean mg mb h₀) (C : CodeHd h₀ 53 51)
    (O : Ok prog w A c n) (N : News h₀ L s.heap (led A c ++ xs)) (hx : Else A xs) (ht : c.otab = tabObj ps) (hc : CodesOk ps xs)
    (hdef : defaultsOf params (envX "law" lawScope L a (.ref 53) (cellsOf A)) = ([], [])) (hcl : closureFor scope (envX "law" lawScope L a (.ref 53) (cellsOf A)) = pure clos)
    (ret : ∀ f c' ctv ps2 xs2 h' tk', CodesOk ps2 xs2 → (f, kla_obj "<lambda>" lamQ params body scope clos ((mg "__name__").getD .none) c' ctv) ∈ xs2 → CodeIn xs2 c' → (∀ q ∈ xs, q ∈ xs2) → Else A xs2 →
      Fr h₀ L h' m → News h₀ L h' (led A { c with otab := tabObj ps2 } ++ xs2) → Q (.ref f) { s with heap := h', toks := tk' }) :
    wpAny M A₀ (eval (.Lambda params body scope pos) (envX "law" lawScope L a (.ref 53) (cellsOf A))) Q E s := by
  obtain ⟨rk, R⟩ := rk_of O.nd
  have big : ∀ x, (∀ q ∈ led A c ++ xs, q.1 < x) → x ∉ A.all := fun x hlt hm => by
    obtain ⟨o, ho⟩ := led_has O x hm
    exact Nat.lt_irrefl _ (hlt _ (List.mem_append_left _ ho))
  refine kla_eval hdef ?_
  rw [lamQ_eq]
  rcases hc.2 pos with hn | ⟨c', hh, hci⟩
  · refine kla_nest F N T C rfl (ht ▸ updTab R hx) hc.1 hn hcl fun f c' oc vs t ctv h' tk F' N' hd hv hlt hcf => ?_
    have hcin : CodeIn ((f, kla_obj "<lambda>" lamQ params body scope clos ((mg "__name__").getD .none) c' ctv) :: (c', oc) :: xs) c' := ⟨oc, vs, t, .tail _ (.head _), hd, hv⟩
    refine ret f c' ctv (ps ++ #[rawInt pos.line, rawInt pos.col, .ref c']) ((f, kla_obj "<lambda>" lamQ params body scope clos ((mg "__name__").getD .none) c' ctv) :: (c', oc) :: xs) h' tk (hc.app (ys := (f, kla_obj "<lambda>" lamQ params body scope clos ((mg "__name__").getD .none) c' ctv) :: (c', oc) :: xs) (fun q hq => .tail _ (.tail _ hq)) hcin) (.head _) hcin (fun q hq => .tail _ (.tail _ hq)) (fun q hq => ?_) F' (fun q hq => N' q ?_)
    · rcases List.mem_cons.mp hq with rfl | hq
      · exact big f fun q hq => Nat.lt_trans (hlt q hq) hcf
      · rcases List.mem_cons.mp hq with rfl | hq
        · exact big c' hlt
        · exact hx q hq
    · rcases List.mem_append.mp hq with hq | hq
      · exact .tail _ (.tail _ (List.mem_append_left _ hq))
      · rcases List.mem_cons.mp hq with rfl | hq
        · exact .head _
        · rcases List.mem_cons.mp hq with rfl | hq
          · exact .tail _ (.head _)
          · exact .tail _ (.tail _ (List.mem_append_right _ hq))
  · refine kla_hit F N T C rfl (List.mem_append_left _ (by rw [← ht]; simp [led])) hc.1 hh hcl fun f ctv h' tk F' N' hlt => ?_
    refine ret f c' ctv ps ((f, kla_obj "<lambda>" lamQ params body scope clos ((mg "__name__").getD .none) c' ctv) :: xs) h' tk ⟨hc.1, fun pos => (hc.2 pos).imp id fun ⟨c2, x, y⟩ => ⟨c2, x, y.mono fun q hq => .tail _ hq⟩⟩ (.head _) (hci.mono fun q hq => .tail _ hq) (fun q hq => .tail _ hq) (fun q hq => ?_) F' (fun q hq => N' q ?_)
    · rcases List.mem_cons.mp hq with rfl | hq
      · exact big f hlt
      · exact hx q hq
    · rw [← ht] at hq
      rcases List.mem_append.mp hq with hq | hq
      · exact .tail _ (List.mem_append_left _ hq)
      · rcases List.mem_cons.mp hq with rfl | hq
        · exact .head _
        · exact .tail _ (List.mem_append_right _ hq)
end Mine

end

section
-- A18
open PySem PySem.W PySem.Spec PySem.Calls PyProof.Rows
set_option maxRecDepth 100000
set_option linter.unusedVariables false
namespace Mine
theorem fresh18 : True := by
  k_with_none
  w_top off
  first | (walk1; fail) | trivial

/-- the way from v to where writing ends -/
inductive Rch (W : Wld) (z : Int) : Nat → Int → Prop
  | here : Rch W z 0 z
  | step {k : Nat} {v v' : Int} : v ≠ z → (W.kb v = true → W.hs v = none) → W.lt v = some v' → Rch W z k v' → Rch W z (k + 1) v

/-- where writing puts: a table that has a thing there, or at which the chain ends -/
def PutAt (W : Wld) (z : Int) : Prop := W.kb z = true ∧ (W.hs z ≠ none ∨ W.lt z = none)

theorem wr_cases (W : Wld) : ∀ (n : Nat) (v : Int), (∃ z k, wrZ W n v = (4, none, z) ∧ PutAt W z ∧ Rch W z k v ∧ k < n ∧ rdZ W n v = (0, W.hs z, z)) ∨
    (∃ z c, wrZ W n v = (c, none, z) ∧ rdZ W n v = (c, none, z) ∧ (c = 2 ∨ c = 3)) := by
  intro n
  induction n with
  | zero => intro v; exact .inr ⟨v, 3, rfl, rfl, .inr rfl⟩
  | succ n ih =>
    intro v
    cases hb : W.kb v with
    | true =>
      cases hh : W.hs v with
      | some x =>
        refine .inl ⟨v, 0, ?_, ⟨hb, .inl (by simp [hh])⟩, .here, Nat.succ_pos _, ?_⟩
        · simp [wrZ, hb, hh]
        · simp [rdZ, hb, hh]
      | none =>
        cases hl : W.lt v with
        | none =>
          refine .inl ⟨v, 0, ?_, ⟨hb, .inr hl⟩, .here, Nat.succ_pos _, ?_⟩
          · simp [wrZ, hb, hh, hl]
          · simp [rdZ, hb, hh, hl]
        | some v' =>
          have e1 : wrZ W (n + 1) v = wrZ W n v' := by simp [wrZ, hb, hh, hl]
          have e2 : rdZ W (n + 1) v = rdZ W n v' := by simp [rdZ, hb, hh, hl]
          rw [e1, e2]
          rcases ih v' with ⟨z, k, a, b, c, d, e⟩ | x
          · refine .inl ⟨z, k + 1, a, b, .step (fun q => ?_) (fun _ => hh) hl c, by omega, e⟩
            subst q
            rcases b.2 with q | q
            · exact q hh
            · rw [hl] at q; cases q
          · exact .inr x
    | false =>
      cases hl : W.lt v with
      | none => exact .inr ⟨v, 2, by simp [wrZ, hb, hl], by simp [rdZ, hb, hl], .inl rfl⟩
      | some v' =>
        have e1 : wrZ W (n + 1) v = wrZ W n v' := by simp [wrZ, hb, hl]
        have e2 : rdZ W (n + 1) v = rdZ W n v' := by simp [rdZ, hb, hl]
        rw [e1, e2]
        rcases ih v' with ⟨z, k, a, b, c, d, e⟩ | x
        · refine .inl ⟨z, k + 1, a, b, .step (fun q => ?_) (fun q => by rw [hb] at q; cases q) hl c, by omega, e⟩
          subst q
          have b1 := b.1
          rw [hb] at b1; cases b1
        · exact .inr x

theorem wn_code (W : Wld) : ∀ (n : Nat) (v : Int), (wrN W n v).1 ≠ 4 := by
  intro n
  induction n with
  | zero => intro v; simp [wrN]
  | succ n ih =>
    intro v
    cases hb : W.kb v with
    | true => simp [wrN, hb]
    | false =>
      cases hl : W.lt v with
      | none => simp [wrN, hb, hl]
      | some v' => rw [show wrN W (n + 1) v = wrN W n v' by simp [wrN, hb, hl]]; exact ih v'

/-- behind the put: reading finds the thing, just there -/
theorem rd_after {W W' : Wld} {z x : Int} (hk : W'.kb = W.kb) (hl : W'.lt = W.lt) (hz : W'.hs z = some x) (ho : ∀ v, v ≠ z → W'.hs v = W.hs v) (hp : W.kb z = true) :
    ∀ {k n : Nat} {v : Int}, Rch W z k v → k < n → rdZ W' n v = (0, some x, z) := by
  intro k n v h
  induction h generalizing n with
  | here =>
    intro hn
    obtain ⟨j, rfl⟩ : ∃ j, n = j + 1 := ⟨n - 1, by omega⟩
    simp [rdZ, hk, hp, hz]
  | @step k v v' hne hno hlt _ ih =>
    intro hn
    obtain ⟨j, rfl⟩ : ∃ j, n = j + 1 := ⟨n - 1, by omega⟩
    have e : (if W'.kb v = true then W'.hs v else none) = none := by
      rw [hk, ho v hne]
      split
      · exact hno (by assumption)
      · rfl
    rw [rdZ, e, hl, hlt]
    exact ih (by omega)
theorem wn_first {W : Wld} {n : Nat} {v : Int} (h : W.kb v = true) : wrN W (n + 1) v = (5, none, v) := by simp [wrN, h]
end Mine

end

section
-- A19
open PySem PySem.W PySem.Spec PySem.Calls PyProof.Rows
set_option maxRecDepth 100000
set_option linter.unusedVariables false
set_option maxHeartbeats 4000000
namespace Mine
theorem fresh19 : True := by
  k_with_none
  w_top off
  first | (walk1; fail) | trivial

/-- what the ledger's objects hold -/
structure Dat (prog : Program) (w : World) (c : Co) (ks : List Bool) (vs : List Value) (kv : Nat → List (Ky × Value)) (n : Nat) : Prop where
  kl : ks.length = 6
  k0 : ks[0]? = some true
  ke : ∃ e, c.okl = W.listOf (ks.map Value.bool).toArray e
  vl : vs.length = 6
  vo : ∀ v ∈ vs, Later v
  ve : ∃ e, c.oll = W.listOf vs.toArray e
  dk : ∀ i, i < 6 → ∃ o, c.os[i]? = some o ∧ o.IsDictOf (kyKind prog w) (kv i) ∧ (∀ p ∈ kv i, ∃ j t, p.2 = .int j t) ∧ (kv i).length ≤ n
theorem dat_of {prog : Program} {w : World} {A : Ad} {c : Co} {n : Nat} (O : Ok prog w A c n) (M : Main c) : ∃ ks vs kv, Dat prog w c ks vs kv n := by
  obtain ⟨⟨ks, e1, a1, a2, a3⟩, vs, e2, b1, b2, b3⟩ := M
  have : ∀ i : Nat, ∃ kv : List (Ky × Value), i < 6 → ∃ o, c.os[i]? = some o ∧ o.IsDictOf (kyKind prog w) kv ∧ (∀ p ∈ kv, ∃ j t, p.2 = .int j t) ∧ kv.length ≤ n := fun i => by
    by_cases h : i < 6
    · have hi : i < c.os.length := by rw [O.ol]; exact h
      obtain ⟨kvs, x⟩ := O.dk c.os[i] (List.getElem_mem hi)
      exact ⟨kvs, fun _ => ⟨c.os[i], List.getElem?_eq_getElem hi, x⟩⟩
    · exact ⟨[], fun q => absurd q h⟩
  obtain ⟨kv, hkv⟩ := Classical.skolem.mp this
  exact ⟨ks, vs, kv, a1, a2, ⟨e1, a3⟩, b1, b2, ⟨e2, b3⟩, hkv⟩

def asInt : Value → Option Int
  | .int j _ => some j
  | _ => none
def mkW (ks : List Bool) (vs : List Value) (kv : Nat → List (Ky × Value)) (k : Ky) : Wld where
  kb v := ks.getD v.toNat false
  lt v := asInt (vs.getD v.toNat .none)
  hs v := (valueAt (kv v.toNat) k).bind asInt
theorem later_thing {v : Value} (h : Later v) : ∃ t, v = thing (asInt v) t := by
  rcases h with rfl | ⟨j, t, rfl, _⟩
  · exact ⟨0, rfl⟩
  · exact ⟨t, rfl⟩
theorem valueAt_mem {kvs : List (Ky × Value)} {k : Ky} {v : Value} (h : valueAt kvs k = some v) : ∃ p ∈ kvs, p.2 = v := by
  unfold valueAt at h
  cases hf : kvs.find? (fun kv => kv.1 = k) with
  | none => rw [hf] at h; cases h
  | some p => rw [hf] at h; exact ⟨p, List.mem_of_find?_eq_some hf, Option.some.inj h⟩
theorem dict_thing {kvs : List (Ky × Value)} {k : Ky} (h : ∀ p ∈ kvs, ∃ j t, p.2 = .int j t) : ∃ t, (valueAt kvs k).getD .none = thing ((valueAt kvs k).bind asInt) t := by
  cases hv : valueAt kvs k with
  | none => exact ⟨0, rfl⟩
  | some v =>
    obtain ⟨p, hp, e⟩ := valueAt_mem hv
    obtain ⟨j, t, e2⟩ := h p hp
    refine ⟨t, ?_⟩
    rw [← e, e2]; rfl

abbrev lamO (mg : Str → Option Value) (e : PySem.Expr) (clos : List (Str × Addr)) (c' : Addr) (ctv : Value) : Obj := kla_obj "<lambda>" lamQ (lamParams e) (lamBody e) (lamScope e) clos ((mg "__name__").getD .none) c' ctv

theorem codeRec_at {h h' : Heap} {h₀ : Heap} {L : Addr} {l xs : List (Addr × Obj)} {c' : Addr} (N : News h₀ L h (l ++ xs)) (hh : ∀ c o, h.get? c = some o → h'.get? c = some o) (hc : CodeIn xs c') : h'.CodeRec (.ref c') lamQ :=
  let ⟨oc, vs, t, hm, hd, hv⟩ := hc
  ⟨c', oc, vs, t, rfl, hh _ _ (N _ (List.mem_append_right _ hm)).1, hd, hv⟩

theorem ways_of {prog : Program} {w : World} {p : Program} {loose : List Str} {mean : ExcName → Option Value} {mg mb : Str → Option Value} {h₀ h : Heap} {L : Addr}
    {A : Ad} {c : Co} {n n' : Nat} {xs : List (Addr × Obj)} {ks : List Bool} {vs : List Value} {kv : Nat → List (Ky × Value)} {k : Ky} {key : Value} {f1 f2 f3 f4 c1 c2 c3 c4 : Addr} {t1 t2 t3 t4 : Value}
    (N : News h₀ L h (led A c ++ xs)) (O : Ok prog w A c n) (D : Dat prog w c ks vs kv n') (hk : isKy k key = true)
    (m1 : (f1, lamO mg kindLam [("kinds", A.ck)] c1 t1) ∈ xs) (m2 : (f2, lamO mg ownLam [("tables", A.ct)] c2 t2) ∈ xs) (m3 : (f3, lamO mg laterLam [("later", A.cl)] c3 t3) ∈ xs) (m4 : (f4, lamO mg falseLam [] c4 t4) ∈ xs)
    (i1 : CodeIn xs c1) (i2 : CodeIn xs c2) (i3 : CodeIn xs c3) (i4 : CodeIn xs c4) :
    Ways prog w p loose mean mg mb h (mkW ks vs kv k) key f1 f2 f3 f4 := by
  have gx : ∀ q ∈ xs, h.get? q.1 = some q.2 := fun q hq => (N q (List.mem_append_right _ hq)).1
  have gl : ∀ q ∈ led A c, h.get? q.1 = some q.2 := fun q hq => (N q (List.mem_append_left _ hq)).1
  have gck := gl (A.ck, c.ock) (by simp [led])
  have gcl := gl (A.cl, c.ocl) (by simp [led])
  have gct := gl (A.ct, c.oct) (by simp [led])
  have gkl := gl (A.kl, c.okl) (by simp [led])
  have gll := gl (A.ll, c.oll) (by simp [led])
  have gtt := gl (A.tt, c.ott) (by simp [led])
  obtain ⟨e1, ke⟩ := D.ke
  obtain ⟨e2, ve⟩ := D.ve
  obtain ⟨e3, te⟩ := O.ott
  have d0 := D.kl
  have d1 := D.vl
  refine ⟨⟨⟨_, _, gx _ m1, rfl⟩, ?_⟩, ⟨⟨_, _, gx _ m2, rfl⟩, ?_⟩, ⟨⟨_, _, gx _ m3, rfl⟩, ?_⟩, ⟨⟨_, _, gx _ m4, rfl⟩, ?_⟩, ?_⟩
  · rintro dp un gd cn cs a ccd cl outer A₀ base h₁ L₁ m s Q E args P B F X T hcs hh ⟨v, t, rfl, h0, h6, hP⟩ hroom ret
    refine kind_spec B F X T hcs (hh _ _ (gx _ m1)) (codeRec_at N hh i1) (hh _ _ gck) O.ck ⟨_, hh _ _ gkl, by rw [ke], _, by rw [ke]⟩ h0 (by omega) (x := .bool ((mkW ks vs kv k).kb v)) ?_ hroom fun h' tk' K' => ret _ h' tk' hP K'
    have hv : v.toNat < ks.length := by omega
    simp [mkW, List.getD, List.getElem?_eq_getElem hv]
  · rintro dp un gd cn cs a ccd cl outer A₀ base h₁ L₁ m s Q E args P B F X T hcs hh ⟨v, t, rfl, h0, h6, hP⟩ hroom ret
    have hv : v.toNat < 6 := by omega
    obtain ⟨o, ho, hd, hi, _⟩ := D.dk v.toNat hv
    have hvd : v.toNat < A.ds.length := by rw [O.dl]; exact hv
    have hz : (A.ds[v.toNat], o) ∈ led A c := by
      have : (A.ds[v.toNat], o) ∈ A.ds.zip c.os := List.mem_iff_getElem?.mpr ⟨v.toNat, by rw [List.getElem?_zip_eq_some]; exact ⟨List.getElem?_eq_getElem hvd, ho⟩⟩
      simp only [led, List.mem_cons]
      simp [this]
    obtain ⟨tt, htt⟩ := dict_thing (k := k) hi
    refine own_spec (d := A.ds[v.toNat]) (k := k) (kvs := kv v.toNat) B F X T hcs (hh _ _ (gx _ m2)) (codeRec_at N hh i2) (hh _ _ gct) O.ct ⟨_, hh _ _ gtt, by rw [te], _, by rw [te]⟩ h0 (by omega) (by simp [hvd]) (Heap.dictOf_iff.mpr ⟨o, hh _ _ (gl _ hz), hd⟩) (O.lo _ (List.getElem_mem hvd)) hk hroom fun h' tk' K' => ret _ h' tk' ?_ K'
    rw [htt]; exact hP tt
  · rintro dp un gd cn cs a ccd cl outer A₀ base h₁ L₁ m s Q E args P B F X T hcs hh ⟨v, t, rfl, h0, h6, hP⟩ hroom ret
    have hv : v.toNat < vs.length := by omega
    obtain ⟨tt, htt⟩ := later_thing (D.vo _ (List.getElem_mem hv))
    refine later_spec B F X T hcs (hh _ _ (gx _ m3)) (codeRec_at N hh i3) (hh _ _ gcl) O.cl ⟨_, hh _ _ gll, by rw [ve], _, by rw [ve]⟩ h0 (by omega) (x := vs[v.toNat]) (by simp [hv]) hroom fun h' tk' K' => ret _ h' tk' ?_ K'
    have := hP tt
    simp only [mkW, List.getD, List.getElem?_eq_getElem hv, Option.getD_some] at this
    rw [htt]; exact this
  · rintro dp un gd cn cs a ccd cl outer A₀ base h₁ L₁ m s Q E args P B F X T hcs hh ⟨v, rfl, hP⟩ hroom ret
    exact false_spec B F X T hcs (hh _ _ (gx _ m4)) (codeRec_at N hh i4) hroom fun h' tk' K' => ret _ h' tk' hP K'
  · intro v j hj
    simp only [mkW, List.getD] at hj
    cases hx : vs[v.toNat]? with
    | none => rw [hx] at hj; cases hj
    | some x =>
      rw [hx] at hj
      rcases D.vo x (List.mem_of_getElem? hx) with rfl | ⟨i, t, rfl, q⟩
      · cases hj
      · have : i = j := Option.some.inj hj
        exact this ▸ q
end Mine

end

section
-- A20
open PySem PySem.W PySem.Spec PySem.Calls PyProof.Rows
set_option maxRecDepth 100000
set_option linter.unusedVariables false
set_option maxHeartbeats 4000000
namespace Mine
theorem fresh20 : True := by
  k_with_none
  w_top off
  first | (walk1; fail) | trivial
def turnAt (i : Nat) : Stmt := (bodyOf (lawBody.getD 6 default)).getD i default
theorem rk_ne10 {rk : Addr → Nat} {x y : Addr} {j : Nat} (hx : 10 ≤ rk x) (hy : rk y = j) (h : j < 10) : x ≠ y := fun e => by rw [e, hy] at hx; omega
local macro_rules | `(tactic| k_ne) => `(tactic| (refine neN ?_; (try dsimp only); first | exact rk_ne (by assumption) (by assumption) (by decide) | exact rk_ne10 (by assumption) (by assumption) (by decide) | exact Ne.symm (rk_ne10 (by assumption) (by assumption) (by decide)) | omega))
local macro_rules | `(tactic| k_all) => `(tactic| exact tail_rk (by assumption) (by assumption) (by assumption) (by decide))
local macro_rules | `(tactic| walk_at "call ref") => `(tactic| (k_here; k_dflt (refine' takeK ?B ?F ?X ?T ?k ?N ?U ?g ?m ?mm ?d ?_; (case B => k_asm); (case F => k_asm); (case N => k_asm); (case X => k_asm); (case T => k_asm); (case k => exact rfl); (case U => k_updF); (case g => assumption); (case m => decide); (case mm => decide); (case d => first | assumption | decide)); intro dg' dt' g' tg' tn' ep' h' tk' hd1' hd2' hg' F' N'; (try dsimp only at N'); (try k_sweep); (try dsimp only)))
local macro_rules | `(tactic| walk_at "subscriptTail Name Call ref int") => `(tactic| (k_here; (rename News _ _ _ _ => lN); k_dflt (refine' itemEx ?l ?z ?y ?x ?_; (case l => exact (lN (_, W.listOf _ _) (by k_mem)).1); (case z => assumption); (case y => simpa using (by assumption)); (case x => simp)); intro v' hv'))
theorem News.cons' {h₀ h : Heap} {L : Addr} {l : List (Addr × Obj)} {q : Addr × Obj} (N : News h₀ L h l) (hq : h.get? q.1 = some q.2 ∧ q.1 ≠ L ∧ h₀.get? q.1 = none) : News h₀ L h (q :: l) := fun p hp => by
  rcases List.mem_cons.mp hp with rfl | hp
  · exact hq
  · exact N p hp
theorem bound_at {t0 t1 t2 t3 : Tok} {i : Nat} {v : Value} (h : (#[.int 1 t0, .int 3 t1, .int 9 t2, .int 20 t3] : Array Value)[i]? = some v) : ∃ (n : Nat) (t : Tok), v = .int (n : Int) t ∧ n ≤ 20 := by
  match i, h with
  | 0, h => cases h; exact ⟨1, _, rfl, by decide⟩
  | 1, h => cases h; exact ⟨3, _, rfl, by decide⟩
  | 2, h => cases h; exact ⟨9, _, rfl, by decide⟩
  | 3, h => cases h; exact ⟨20, _, rfl, by decide⟩
  | n + 4, h => simp at h

theorem menu4 (i : Nat) : ∃ b : Nat, b ≤ 20 ∧ ([1, 3, 9, 20] : List Int).getD i 0 = (b : Int) := by
  match i with
  | 0 => exact ⟨1, by decide, rfl⟩
  | 1 => exact ⟨3, by decide, rfl⟩
  | 2 => exact ⟨9, by decide, rfl⟩
  | 3 => exact ⟨20, by decide, rfl⟩
  | n + 4 => exact ⟨0, by decide, rfl⟩
theorem turnA {prog : Program} {w : World} {p : Program} {loose : List Str} {mean : ExcName → Option Value} {mg mb : Str → Option Value}
    {dp un : Nat} {gd : Option (List Code)} {a : Addr} {outer : List Env} {A₀ : Around} {base h₀ : Heap} {L : Addr} {m : Str → Option Value} {s : Shared} {Q : Flow → Shared → Prop} {E : Value → Shared → Prop}
    {A : Ad} {c : Co} {xs : List (Addr × Obj)} {n : Nat}
    (B : Below A₀ base outer h₀) (F : Fr h₀ L s.heap m) (X : (hd.heap_39 w.params).In h₀) (T : Top p loose mean mg mb h₀)
    (O : Ok prog w A c n) (N : News h₀ L s.heap (led A c ++ xs)) (hx : Else A xs) (hroom : dp < recursionLimit)
    (ret : ∀ c' m' h' tk' v tv key (b : Nat) tb, Ok prog w A c' n → c'.oll = c.oll → c'.okl = c.okl → c'.otab = c.otab → c'.os = c.os → c'.ocy.data = .cell (some key) → KeyV key → 0 ≤ v → v < 6 → b ≤ 20 →
      m' "start" = some (.int v tv) → m' "bound" = some (.int (b : Int) tb) → (∀ y : Str, y ≠ Str.ofString "start" → y ≠ Str.ofString "bound" → m' y = m y) → Fr h₀ L h' m' → News h₀ L h' (led A c' ++ xs) → Q .next { s with heap := h', toks := tk' }) :
    wpAny (model prog w) (ktrTop dp un gd "law" lawScope L a (.ref 53) (cellsOf A) outer) (exec (turnAt 0) (envX "law" lawScope L a (.ref 53) (cellsOf A))) Q E s := by
  generalize hS0 : turnAt 0 = S0
  conv at hS0 => lhs; whnf
  subst hS0
  have hSc : ∃ sc, lawScope = sc := ⟨_, rfl⟩
  obtain ⟨sc, hSc⟩ := hSc
  rw [hSc]
  conv at hSc => lhs; whnf
  subst hSc
  obtain ⟨rk, R⟩ := rk_of O.nd
  have hxr : ∀ q ∈ xs, 10 ≤ rk q.1 := fun q hq => R.els _ (hx q hq)
  have hoff : ∀ {h : Heap} {x : Addr} {c : Co}, Ok prog w A c n → News h₀ L h (led A c ++ xs) → h.get? x = none → 10 ≤ rk x := fun O N e => R.els _ (off_all O N e)
  obtain ⟨R0, R1, R2, R3, R4, R5, R6, R7, R8, R9, Rd, Re⟩ := R
  obtain ⟨nd, dl, ol, lo, dct, dcl, dck, dcb, dcy, ⟨g, gn, tg, tn, eb, hg, eob⟩, ⟨et, eott⟩, hll, hkl, dk⟩ := O
  obtain ⟨ct, cl, ck, cy, cb, b, tt, ll, kl, ds⟩ := A
  obtain ⟨oct, ocl, ock, ocy, ocb, ob, ott, oll, okl, otab, os⟩ := c
  dsimp only at *
  subst eob eott
  simp only [led, List.cons_append] at N
  obtain ⟨cyv, dcy⟩ := dcy
  repeat' (first | (k_unfold; (try dsimp only)) | walk1 | (dsimp only; walk1) | fail "no step")
  rename_i dg1 dt1 g1 tg1 tn1 ep1 h1 tk1 q1 q2 hg1 F1 N1
  have O1 : Ok prog w ⟨ct, cl, ck, cy, cb, b, tt, ll, kl, ds⟩ ⟨oct, ocl, ock, ocy, ocb, W.listOf #[.int g1 tg1, .int (gn + 1) tn1] ep1, W.listOf (ds.map Value.ref).toArray et, oll, okl, otab, os⟩ n :=
    ⟨nd, dl, ol, lo, dct, dcl, dck, dcb, ⟨_, dcy⟩, ⟨_, _, _, _, _, hg1, rfl⟩, ⟨_, rfl⟩, hll, hkl, dk⟩
  k_dflt (refine' keys_spec ?B ?F ?X ?T ?k ?d ?_)
  case B => k_asm
  case F => k_asm
  case X => k_asm
  case T => k_asm
  case k => k_dflt (exact rfl)
  case d => assumption
  intro D t1 t2 t3 h2 tk2 K2 hD1 hD2
  have hDr : 10 ≤ rk D := hoff O1 N1 hD1
  have F2 := frKeep (bs := []) F1 List.not_mem_nil (fun b hb => absurd hb List.not_mem_nil) K2
  have hLD : D ≠ L := fun e => by obtain ⟨_, _, _, q, _⟩ := F1.ns; rw [← e, hD1] at q; cases q
  have hD₀ : h₀.get? D = none := by
    cases e : h₀.get? D with
    | none => rfl
    | some o => have := F1.keep D o e; rw [hD1] at this; cases this
  have N2' := newsKeep (bs := []) N1 (fun _ _ hb => absurd hb List.not_mem_nil) K2
  have N2 := News.cons' (q := (D, W.listOf #[.bytes #[120] t1, .int 1 t2, .bytes #[121] t3] 0)) N2' ⟨hD2, hLD, hD₀⟩
  clear N2' N1 F1 K2 hD1
  dsimp only
  repeat' (first | (k_unfold; (try dsimp only)) | walk1 | (dsimp only; walk1) | fail "no step")
  rename_i dg2 dt2 g2 tg2 tn2 ep2 h3 tk3 r1 r2 hg2 v hv lD2 h4 ll2 dg3 dt3 g3 tg3 tn3 ep3 h5 tk5 u1 u2 hg3 tb D2 h6 lD3 h7 h8 h9 ocy' hcy' h10 F' N'
  obtain ⟨bn, hbn, hbe⟩ := menu4 dg3.toNat
  rw [hbe] at F'
  refine ret ⟨oct, ocl, ock, ocy', ocb, W.listOf #[.int g3 tg3, .int (gn + 1 + 1 + 1) tn3] ep3, W.listOf (ds.map Value.ref).toArray et, oll, okl, otab, os⟩ _ h10 _ dg1 dt1 v bn tb
    ⟨nd, dl, ol, lo, dct, dcl, dck, dcb, ⟨_, hcy'⟩, ⟨_, _, _, _, _, hg3, rfl⟩, ⟨_, rfl⟩, hll, hkl, dk⟩ rfl rfl rfl rfl hcy' (keyV_at hv) q1 q2 hbn ?_ ?_ ?_ F' (fun q hq => N' q (List.mem_cons_of_mem _ (List.mem_cons_of_mem _ (List.mem_cons_of_mem _ (by simpa only [led, List.cons_append] using hq)))))
  · rfl
  · rfl
  · intro y h1 h2
    show (if y = Str.ofString "bound" then _ else if y = Str.ofString "start" then _ else m y) = m y
    rw [if_neg h2, if_neg h1]
end Mine

end

section
-- A21
open PySem PySem.W PySem.Spec PySem.Calls PyProof.Rows
set_option maxRecDepth 100000
set_option linter.unusedVariables false
set_option maxHeartbeats 4000000
namespace Mine
theorem fresh21 : True := by
  k_with_none
  w_top off
  first | (walk1; fail) | trivial
local macro_rules | `(tactic| k_ne) => `(tactic| (refine neN ?_; (try dsimp only); first | exact rk_ne (by assumption) (by assumption) (by decide) | exact rk_ne10 (by assumption) (by assumption) (by decide) | exact Ne.symm (rk_ne10 (by assumption) (by assumption) (by decide)) | omega))
local macro_rules | `(tactic| k_all) => `(tactic| exact tail_rk (by assumption) (by assumption) (by assumption) (by decide))

theorem turnB {prog : Program} {w : World} {p : Program} {loose : List Str} {mean : ExcName → Option Value} {mg mb : Str → Option Value}
    {dp un : Nat} {gd : Option (List Code)} {a : Addr} {outer : List Env} {A₀ : Around} {base h₀ : Heap} {L : Addr} {m : Str → Option Value} {s : Shared} {Q : Flow → Shared → Prop} {E : Value → Shared → Prop}
    {A : Ad} {c : Co} {xs : List (Addr × Obj)} {n : Nat} {kk : Int} {kt : Tok} {v0 : Int} {tv0 tb0 : Tok} {key0 : Value} {b0 : Nat}
    (B : Below A₀ base outer h₀) (F : Fr h₀ L s.heap m) (X : (hd.heap_39 w.params).In h₀) (T : Top p loose mean mg mb h₀)
    (O : Ok prog w A c n) (N : News h₀ L s.heap (led A c ++ xs)) (hx : Else A xs) (hroom : dp < recursionLimit) (htn : m "turn" = some (.int kk kt))
    (hc0 : c.ocy.data = .cell (some key0)) (hk0 : KeyV key0) (hv0 : 0 ≤ v0) (hv6 : v0 < 6) (hb0 : b0 ≤ 20) (hms : m "start" = some (.int v0 tv0)) (hmb : m "bound" = some (.int (b0 : Int) tb0))
    (ret : ∀ c' m' h' tk' v tv key (b : Nat) tb, Ok prog w A c' n → c'.oll = c.oll → c'.okl = c.okl → c'.otab = c.otab → c'.os = c.os → c'.ocy.data = .cell (some key) → KeyV key → 0 ≤ v → v < 6 → b ≤ 20 →
      m' "start" = some (.int v tv) → m' "bound" = some (.int (b : Int) tb) → (∀ y : Str, y ≠ Str.ofString "start" → y ≠ Str.ofString "bound" → m' y = m y) → Fr h₀ L h' m' → News h₀ L h' (led A c' ++ xs) → Q .next { s with heap := h', toks := tk' }) :
    wpAny (model prog w) (ktrTop dp un gd "law" lawScope L a (.ref 53) (cellsOf A) outer) (exec (turnAt 1) (envX "law" lawScope L a (.ref 53) (cellsOf A))) Q E s := by
  generalize hS0 : turnAt 1 = S0
  conv at hS0 => lhs; whnf
  subst hS0
  have hSc : ∃ sc, lawScope = sc := ⟨_, rfl⟩
  obtain ⟨sc, hSc⟩ := hSc
  rw [hSc]
  conv at hSc => lhs; whnf
  subst hSc
  obtain ⟨rk, R⟩ := rk_of O.nd
  have hxr : ∀ q ∈ xs, 10 ≤ rk q.1 := fun q hq => R.els _ (hx q hq)
  obtain ⟨R0, R1, R2, R3, R4, R5, R6, R7, R8, R9, Rd, Re⟩ := R
  have Oc := O
  have Nc : ∀ q ∈ led A c ++ xs, s.heap.get? q.1 = some q.2 ∧ q.1 ≠ L ∧ h₀.get? q.1 = none := N
  obtain ⟨nd, dl, ol, lo, dct, dcl, dck, dcb, dcy, hob, hott, hll, hkl, dk⟩ := O
  obtain ⟨ct, cl, ck, cy, cb, b, tt, ll, kl, ds⟩ := A
  obtain ⟨oct, ocl, ock, ocy, ocb, ob, ott, oll, okl, otab, os⟩ := c
  dsimp only at *
  simp only [led, List.cons_append] at N
  k_with "eval Name" => refine nameX_L (by assumption) htn ?_
  repeat' (first | (k_unfold; (try dsimp only)) | walk1 | (dsimp only; walk1) | fail "no step")
  · rename_i hz tkA D hA lA hB hC hD ocy' hcy' hE F' N'
    refine ret ⟨oct, ocl, ock, ocy', ocb, ob, ott, oll, okl, otab, os⟩ _ hE _ 0 tkA (.bytes #[120] (tkA + 1)) 9 (tkA + 1 + 1)
      ⟨nd, dl, ol, lo, dct, dcl, dck, dcb, ⟨_, hcy'⟩, hob, hott, hll, hkl, dk⟩ rfl rfl rfl rfl hcy' ⟨.inl [120], rfl⟩ (by decide) (by decide) (by decide) ?_ ?_ ?_ F' (fun q hq => N' q (List.mem_cons_of_mem _ (by simpa only [led, List.cons_append] using hq)))
    · rfl
    · rfl
    · intro y h1 h2
      show (if y = Str.ofString "bound" then _ else if y = Str.ofString "start" then _ else m y) = m y
      rw [if_neg h2, if_neg h1]
  · exact ret _ m s.heap _ v0 tv0 key0 b0 tb0 Oc rfl rfl rfl rfl hc0 hk0 hv0 hv6 hb0 hms hmb (fun _ _ _ => rfl) (by assumption) Nc

theorem allLt_mem {d : Addr} : ∀ {l : List (Addr × Obj)}, AllLt d l → ∀ q ∈ l, q.1 < d
  | [], _, _, h => nomatch h
  | p :: r, h, q, hq => by
    rcases List.mem_cons.mp hq with rfl | hq
    · exact h.1
    · exact allLt_mem h.2 q hq
theorem turnC {prog : Program} {w : World} {p : Program} {loose : List Str} {mean : ExcName → Option Value} {mg mb : Str → Option Value}
    {dp un : Nat} {gd : Option (List Code)} {a : Addr} {outer : List Env} {A₀ : Around} {base h₀ : Heap} {L : Addr} {m : Str → Option Value} {s : Shared} {Q : Flow → Shared → Prop} {E : Value → Shared → Prop}
    {A : Ad} {c : Co} {xs : List (Addr × Obj)} {n : Nat} {ps : Array Value} {f2 : Addr}
    (B : Below A₀ base outer h₀) (F : Fr h₀ L s.heap m) (X : (hd.heap_39 w.params).In h₀) (T : Top p loose mean mg mb h₀) (C : CodeHd h₀ 53 51)
    (O : Ok prog w A c n) (N : News h₀ L s.heap (led A c ++ xs)) (hx : Else A xs) (hroom : dp < recursionLimit) (ht : c.otab = tabObj ps) (hc : CodesOk ps xs) (hown : m "own" = some (.ref f2))
    (ret : ∀ f1 f3 f4 c1 c3 c4 t1 t3 t4 wl ps2 xs2 m' h' tk', CodesOk ps2 xs2 → (f1, lamO mg kindLam [("kinds", A.ck)] c1 t1) ∈ xs2 → (f3, lamO mg laterLam [("later", A.cl)] c3 t3) ∈ xs2 → (f4, lamO mg falseLam [] c4 t4) ∈ xs2 →
      CodeIn xs2 c1 → CodeIn xs2 c3 → CodeIn xs2 c4 → (wl, W.listOf #[.ref f1, .ref f2, .ref f3, .ref f4] 0) ∈ xs2 → (∀ q ∈ xs, q ∈ xs2) → Else A xs2 → m' "ways" = some (.ref wl) → (∀ y : Str, y ≠ Str.ofString "ways" → m' y = m y) →
      Fr h₀ L h' m' → News h₀ L h' (led A { c with otab := tabObj ps2 } ++ xs2) → Q .next { s with heap := h', toks := tk' }) :
    wpAny (model prog w) (ktrTop dp un gd "law" lawScope L a (.ref 53) (cellsOf A) outer) (exec (turnAt 2) (envX "law" lawScope L a (.ref 53) (cellsOf A))) Q E s := by
  generalize hS0 : turnAt 2 = S0
  conv at hS0 => lhs; whnf
  subst hS0
  repeat' (first | (k_unfold; (try dsimp only)) | walk1 | (dsimp only; walk1) | fail "no step")
  refine lam_make F T C O N hx ht hc rfl rfl fun f1 c1 t1 ps1 xs1 h1 tk1 hc1 m1 i1 s1 e1 F1 N1 => ?_
  clear F N
  repeat' (first | (k_unfold; (try dsimp only)) | walk1 | (dsimp only; walk1) | fail "no step")
  refine nameX_L (v := .ref f2) F1 hown ?_
  repeat' (first | (k_unfold; (try dsimp only)) | walk1 | (dsimp only; walk1) | fail "no step")
  refine lam_make (s := { s with heap := h1, toks := tk1 }) F1 T C (O.setTab (o' := tabObj ps1)) N1 e1 rfl hc1 rfl rfl fun f3 c3 t3 ps3 xs3 h3 tk3 hc3 m3 i3 s3 e3 F3 N3 => ?_
  clear F1 N1
  repeat' (first | (k_unfold; (try dsimp only)) | walk1 | (dsimp only; walk1) | fail "no step")
  refine lam_make (s := { s with heap := h3, toks := tk3 }) F3 T C (O.setTab (o' := tabObj ps3)) N3 e3 rfl hc3 rfl rfl fun f4 c4 t4 ps4 xs4 h4 tk4 hc4 m4 i4 s4 e4 F4 N4 => ?_
  clear F3 N3
  repeat' (first | (k_unfold; (try dsimp only)) | walk1 | (dsimp only; walk1) | fail "no step")
  rename_i wl h5 l1 h6 F' N'
  have hwl : wl ∉ A.all := fun hm => by
    obtain ⟨o, ho⟩ := led_has (O.setTab (o' := tabObj ps4)) wl hm
    exact Nat.lt_irrefl _ (allLt_mem l1 _ (List.mem_append_left _ ho))
  have s14 : ∀ q ∈ xs1, q ∈ xs4 := fun q hq => s4 q (s3 q hq)
  refine ret f1 f3 f4 c1 c3 c4 t1 t3 t4 wl ps4 ((wl, W.listOf #[.ref f1, .ref f2, .ref f3, .ref f4] 0) :: xs4) _ h6 _ ⟨hc4.1, fun pos => (hc4.2 pos).imp id fun ⟨c2, x, y⟩ => ⟨c2, x, y.mono fun q hq => .tail _ hq⟩⟩
    (.tail _ (s14 _ m1)) (.tail _ (s4 _ m3)) (.tail _ m4) ((i1.mono s14).mono fun q hq => .tail _ hq) ((i3.mono s4).mono fun q hq => .tail _ hq) (i4.mono fun q hq => .tail _ hq) (.head _) (fun q hq => .tail _ (s14 q (s1 q hq))) (fun q hq => ?_) ?_ ?_ F' (fun q hq => N' q ?_)
  · rcases List.mem_cons.mp hq with rfl | hq
    · exact hwl
    · exact e4 q hq
  · rfl
  · intro y hy
    exact if_neg hy
  · rcases List.mem_append.mp hq with hq | hq
    · exact .tail _ (List.mem_append_left _ hq)
    · rcases List.mem_cons.mp hq with rfl | hq
      · exact .head _
      · exact .tail _ (List.mem_append_right _ hq)
end Mine

end

section
-- A22
open PySem PySem.W PySem.Spec PySem.Calls PyProof.Rows
set_option maxRecDepth 100000
set_option linter.unusedVariables false
set_option maxHeartbeats 4000000
namespace Mine
theorem fresh22 : True := by
  k_with_none
  w_top off
  first | (walk1; fail) | trivial
theorem nameCell {M : Model} {A : Around} {E : Value → Shared → Prop} {s : Shared} {L a : Addr} {cn : Str} {cs : Scope} {ccd : Value} {cl : List (Str × Addr)} {x : Str} {pos : Pos} {v : Value} {Q : Value → Shared → Prop} {c : Addr} {o : Obj}
    (hm : s.heap.get? c = some o) (hd : o.data = .cell (some v)) (hc : cl.lookup x = some c) (h : Q v s)
    (hk : cs.kind = .function := by rfl) (hx : (envX cn cs L a ccd cl).kindOf x = some .cell := by rfl) (hb : (x == ("__debug__" : Str)) = false := by decide) :
    wpAny M A (eval (.Name x pos) (envX cn cs L a ccd cl)) Q E s := wpAny_Name (wpAny_loadName_cell hk hx hc ⟨o, hm, hd⟩ h) hb

theorem fresh_news {h₀ h : Heap} {L D : Addr} {m : Str → Option Value} (F : Fr h₀ L h m) (e : h.get? D = none) : D ≠ L ∧ h₀.get? D = none := by
  refine ⟨fun q => ?_, ?_⟩
  · obtain ⟨_, _, _, x, _⟩ := F.ns
    rw [← q, e] at x; cases x
  · cases x : h₀.get? D with
    | none => rfl
    | some o => have := F.keep D o x; rw [e] at this; cases this
theorem turnD {prog : Program} {w : World} {p : Program} {loose : List Str} {mean : ExcName → Option Value} {mg mb : Str → Option Value}
    {dp un : Nat} {gd : Option (List Code)} {a : Addr} {outer : List Env} {A₀ : Around} {base h₀ : Heap} {L : Addr} {m : Str → Option Value} {s : Shared} {Q : Flow → Shared → Prop} {E : Value → Shared → Prop}
    {A : Ad} {c : Co} {xs : List (Addr × Obj)} {n : Nat} {wl f1 f2 f3 f4 : Addr} {v : Int} {tv tb : Tok} {key : Value} {b : Nat} {W : Wld}
    (B : Below A₀ base outer h₀) (F : Fr h₀ L s.heap m) (X : (hd.heap_39 w.params).In h₀) (T : Top p loose mean mg mb h₀)
    (O : Ok prog w A c n) (N : News h₀ L s.heap (led A c ++ xs)) (hx : Else A xs) (hroom : dp + 1 < recursionLimit)
    (hw : (wl, PySem.W.listOf #[.ref f1, .ref f2, .ref f3, .ref f4] 0) ∈ xs) (hmw : m "ways" = some (.ref wl)) (hms : m "start" = some (.int v tv)) (hmb : m "bound" = some (.int (b : Int) tb)) (hcy : c.ocy.data = .cell (some key))
    (h0 : 0 ≤ v) (h6 : v < 6) (hb : b ≤ 20) (Wy : Ways prog w p loose mean mg mb s.heap W key f1 f2 f3 f4)
    (ret : ∀ tp code t1 th t2 z t3 m' h' tk', rdZ W b v = (code, th, z) → m' "had" = some (.ref tp) → (∀ y : Str, y ≠ Str.ofString "had" → m' y = m y) → Else A ((tp, tupO #[.int code t1, thing th t2, .int z t3]) :: xs) →
      Fr h₀ L h' m' → News h₀ L h' (led A c ++ ((tp, tupO #[.int code t1, thing th t2, .int z t3]) :: xs)) → Q .next { s with heap := h', toks := tk' }) :
    wpAny (model prog w) (ktrTop dp un gd "law" lawScope L a (.ref 53) (cellsOf A) outer) (exec (turnAt 3) (envX "law" lawScope L a (.ref 53) (cellsOf A))) Q E s := by
  generalize hS0 : turnAt 3 = S0
  conv at hS0 => lhs; whnf
  subst hS0
  have gw := (N _ (List.mem_append_right _ hw)).1
  have gcy := (N (A.cy, c.ocy) (List.mem_append_left _ (by simp [led]))).1
  dsimp only at gw gcy
  have hN : ∀ q, q ∈ led A c ++ xs → s.heap.get? q.1 = some q.2 ∧ q.1 ≠ L ∧ h₀.get? q.1 = none := N
  clear N
  k_with "subscriptTail Name Constant ref int" => k_dflt refine itemB (vs := #[.ref f1, .ref f2, .ref f3, .ref f4]) ⟨_, gw, rfl, _, rfl⟩ (by decide) (by decide) rfl ?_
  k_with "eval Name" => first | refine nameX_L (by assumption) hmw ?_ | refine nameX_L (by assumption) hms ?_ | refine nameX_L (by assumption) hmb ?_ | refine nameCell gcy hcy rfl ?_
  repeat' (first | (k_unfold; (try dsimp only)) | walk1 | (dsimp only; walk1) | fail "no step")
  k_dflt (refine' read_spec (W := W) (key := key) (f1 := f1) (f2 := f2) (f3 := f3) (f4 := f4) (v := v) (t := tv) (tb := tb) (n := b) ?B ?F ?X ?T ?k ?Wy ?kz ?ky ?kn ?d ?_)
  case B => k_asm
  case F => k_asm
  case X => k_asm
  case T => k_asm
  case k => k_dflt (exact rfl)
  case Wy => exact Wy
  case kz => assumption
  case ky => assumption
  case kn => assumption
  case d => assumption
  intro tp code t1 th t2 z t3 h' tk' hr K' g1 g2
  have F' := frKeep (bs := []) F List.not_mem_nil (fun b hb => absurd hb List.not_mem_nil) K'
  have N' := newsKeep (bs := []) (show News h₀ L s.heap (led A c ++ xs) from hN) (fun _ _ hb => absurd hb List.not_mem_nil) K'
  have htp := fresh_news F g2
  refine storeX_L (news := led A c ++ ((tp, tupO #[.int code t1, thing th t2, .int z t3]) :: xs)) F' (fun q hq => ?_) fun h2 F2 N2 => ?_
  · rcases List.mem_append.mp hq with hq | hq
    · exact N' q (List.mem_append_left _ hq)
    · rcases List.mem_cons.mp hq with rfl | hq
      · exact ⟨g1, htp⟩
      · exact N' q (List.mem_append_right _ hq)
  · refine ret tp code t1 th t2 z t3 _ h2 _ hr ?_ ?_ (fun q hq => ?_) F2 N2
    · rfl
    · intro y hy
      exact if_neg hy
    · rcases List.mem_cons.mp hq with rfl | hq
      · exact off_all O hN g2
      · exact hx q hq
end Mine

end

section
-- A23
open PySem PySem.W PySem.Spec PySem.Calls PyProof.Rows
set_option maxRecDepth 100000
set_option linter.unusedVariables false
set_option maxHeartbeats 4000000
namespace Mine
theorem fresh23 : True := by
  k_with_none
  w_top off
  first | (walk1; fail) | trivial
theorem turnE {prog : Program} {w : World} {p : Program} {loose : List Str} {mean : ExcName → Option Value} {mg mb : Str → Option Value}
    {dp un : Nat} {gd : Option (List Code)} {a : Addr} {outer : List Env} {A₀ : Around} {base h₀ : Heap} {L : Addr} {m : Str → Option Value} {s : Shared} {Q : Flow → Shared → Prop} {E : Value → Shared → Prop}
    {A : Ad} {c : Co} {xs : List (Addr × Obj)} {n : Nat} {wl f1 f2 f3 f4 : Addr} {v : Int} {tv tb : Tok} {key : Value} {b : Nat} {W : Wld} {ky : Ky} (hky : isKy ky key = true)
    (B : Below A₀ base outer h₀) (F : Fr h₀ L s.heap m) (X : (hd.heap_39 w.params).In h₀) (T : Top p loose mean mg mb h₀)
    (O : Ok prog w A c n) (N : News h₀ L s.heap (led A c ++ xs)) (hx : Else A xs) (hroom : dp + 1 < recursionLimit)
    (hw : (wl, PySem.W.listOf #[.ref f1, .ref f2, .ref f3, .ref f4] 0) ∈ xs) (hmw : m "ways" = some (.ref wl)) (hms : m "start" = some (.int v tv)) (hmb : m "bound" = some (.int (b : Int) tb)) (hcy : c.ocy.data = .cell (some key))
    (h0 : 0 ≤ v) (h6 : v < 6) (hb : b ≤ 20) (Wy : Ways prog w p loose mean mg mb s.heap W key f1 f2 f3 f4)
    (ret : ∀ tp code t1 th t2 z t3 m' h' tk', wrZ W b v = (code, th, z) → m' "told" = some (.ref tp) → (∀ y : Str, y ≠ Str.ofString "told" → m' y = m y) → Else A ((tp, tupO #[.int code t1, thing th t2, .int z t3]) :: xs) →
      Fr h₀ L h' m' → News h₀ L h' (led A c ++ ((tp, tupO #[.int code t1, thing th t2, .int z t3]) :: xs)) → Q .next { s with heap := h', toks := tk' }) :
    wpAny (model prog w) (ktrTop dp un gd "law" lawScope L a (.ref 53) (cellsOf A) outer) (exec (turnAt 4) (envX "law" lawScope L a (.ref 53) (cellsOf A))) Q E s := by
  generalize hS0 : turnAt 4 = S0
  conv at hS0 => lhs; whnf
  subst hS0
  have gw := (N _ (List.mem_append_right _ hw)).1
  have gcy := (N (A.cy, c.ocy) (List.mem_append_left _ (by simp [led]))).1
  dsimp only at gw gcy
  have hN : ∀ q, q ∈ led A c ++ xs → s.heap.get? q.1 = some q.2 ∧ q.1 ≠ L ∧ h₀.get? q.1 = none := N
  clear N
  k_with "subscriptTail Name Constant ref int" => k_dflt refine itemB (vs := #[.ref f1, .ref f2, .ref f3, .ref f4]) ⟨_, gw, rfl, _, rfl⟩ (by decide) (by decide) rfl ?_
  k_with "eval Name" => first | refine nameX_L (by assumption) hmw ?_ | refine nameX_L (by assumption) hms ?_ | refine nameX_L (by assumption) hmb ?_ | refine nameCell gcy hcy rfl ?_
  repeat' (first | (k_unfold; (try dsimp only)) | walk1 | (dsimp only; walk1) | fail "no step")
  k_dflt (refine' write_spec (k := ky) (W := W) (key := key) (f1 := f1) (f2 := f2) (f3 := f3) (f4 := f4) (v := v) (t := tv) (tb := tb) (n := b) hky ?B ?F ?X ?T ?k ?Wy ?kz ?ky ?kn ?d ?_)
  case B => k_asm
  case F => k_asm
  case X => k_asm
  case T => k_asm
  case k => k_dflt (exact rfl)
  case Wy => exact Wy
  case kz => assumption
  case ky => assumption
  case kn => assumption
  case d => assumption
  intro tp code t1 th t2 z t3 h' tk' hr K' g1 g2
  have F' := frKeep (bs := []) F List.not_mem_nil (fun b hb => absurd hb List.not_mem_nil) K'
  have N' := newsKeep (bs := []) (show News h₀ L s.heap (led A c ++ xs) from hN) (fun _ _ hb => absurd hb List.not_mem_nil) K'
  have htp := fresh_news F g2
  refine storeX_L (news := led A c ++ ((tp, tupO #[.int code t1, thing th t2, .int z t3]) :: xs)) F' (fun q hq => ?_) fun h2 F2 N2 => ?_
  · rcases List.mem_append.mp hq with hq | hq
    · exact N' q (List.mem_append_left _ hq)
    · rcases List.mem_cons.mp hq with rfl | hq
      · exact ⟨g1, htp⟩
      · exact N' q (List.mem_append_right _ hq)
  · refine ret tp code t1 th t2 z t3 _ h2 _ hr ?_ ?_ (fun q hq => ?_) F2 N2
    · rfl
    · intro y hy
      exact if_neg hy
    · rcases List.mem_cons.mp hq with rfl | hq
      · exact off_all O hN g2
      · exact hx q hq
theorem turnG {prog : Program} {w : World} {p : Program} {loose : List Str} {mean : ExcName → Option Value} {mg mb : Str → Option Value}
    {dp un : Nat} {gd : Option (List Code)} {a : Addr} {outer : List Env} {A₀ : Around} {base h₀ : Heap} {L : Addr} {m : Str → Option Value} {s : Shared} {Q : Flow → Shared → Prop} {E : Value → Shared → Prop}
    {A : Ad} {c : Co} {xs : List (Addr × Obj)} {n : Nat} {wl f1 f2 f3 f4 : Addr} {v : Int} {tv tb : Tok} {key : Value} {b : Nat} {W : Wld}
    (B : Below A₀ base outer h₀) (F : Fr h₀ L s.heap m) (X : (hd.heap_39 w.params).In h₀) (T : Top p loose mean mg mb h₀)
    (O : Ok prog w A c n) (N : News h₀ L s.heap (led A c ++ xs)) (hx : Else A xs) (hroom : dp + 1 < recursionLimit)
    (hw : (wl, PySem.W.listOf #[.ref f1, .ref f2, .ref f3, .ref f4] 0) ∈ xs) (hmw : m "ways" = some (.ref wl)) (hms : m "start" = some (.int v tv)) (hmb : m "bound" = some (.int (b : Int) tb)) (hcy : c.ocy.data = .cell (some key))
    (h0 : 0 ≤ v) (h6 : v < 6) (hb : b ≤ 20) (Wy : Ways prog w p loose mean mg mb s.heap W key f1 f2 f3 f4)
    (ret : ∀ h' tk', Fr h₀ L h' m → News h₀ L h' (led A c ++ xs) → Q .next { s with heap := h', toks := tk' }) :
    wpAny (model prog w) (ktrTop dp un gd "law" lawScope L a (.ref 53) (cellsOf A) outer) (exec (turnAt 5) (envX "law" lawScope L a (.ref 53) (cellsOf A))) Q E s := by
  generalize hS0 : turnAt 5 = S0
  conv at hS0 => lhs; whnf
  subst hS0
  have gw := (N _ (List.mem_append_right _ hw)).1
  have gcy := (N (A.cy, c.ocy) (List.mem_append_left _ (by simp [led]))).1
  dsimp only at gw gcy
  have hN : ∀ q, q ∈ led A c ++ xs → s.heap.get? q.1 = some q.2 ∧ q.1 ≠ L ∧ h₀.get? q.1 = none := N
  clear N
  k_with "subscriptTail Name Constant ref int" => k_dflt refine itemB (vs := #[.ref f1, .ref f2, .ref f3, .ref f4]) ⟨_, gw, rfl, _, rfl⟩ (by decide) (by decide) rfl ?_
  k_with "eval Name" => first | refine nameX_L (by assumption) hmw ?_ | refine nameX_L (by assumption) hms ?_ | refine nameX_L (by assumption) hmb ?_ | refine nameCell gcy hcy rfl ?_
  repeat' (first | (k_unfold; (try dsimp only)) | walk1 | (dsimp only; walk1) | fail "no step")
  k_dflt (refine' write_spec_n (W := W) (key := key) (f1 := f1) (f2 := f2) (f3 := f3) (f4 := f4) (v := v) (t := tv) (tb := tb) (n := b) ?B ?F ?X ?T ?k ?Wy ?kz ?ky ?kn ?d ?_)
  case B => k_asm
  case F => k_asm
  case X => k_asm
  case T => k_asm
  case k => k_dflt (exact rfl)
  case Wy => exact Wy
  case kz => assumption
  case ky => assumption
  case kn => assumption
  case d => assumption
  intro tp code t1 th t2 z t3 h' tk' hr K' g1 g2
  have F' := frKeep (bs := []) F List.not_mem_nil (fun b hb => absurd hb List.not_mem_nil) K'
  have N' := newsKeep (bs := []) (show News h₀ L s.heap (led A c ++ xs) from hN) (fun _ _ hb => absurd hb List.not_mem_nil) K'
  have htp := fresh_news F g2
  have hne : code ≠ 4 := by have := wn_code W b v; rw [hr] at this; exact this
  have NN : ∀ q, q ∈ led A c ++ xs → h'.get? q.1 = some q.2 ∧ q.1 ≠ L ∧ h₀.get? q.1 = none := N'
  clear N' hN F
  have N2 : News h₀ L h' [(tp, tupO #[.int code t1, thing th t2, .int z t3])] := fun q hq => by rw [List.mem_singleton.mp hq]; exact ⟨g1, htp⟩
  dsimp only
  repeat' (first | (k_unfold; (try dsimp only)) | walk1 | (dsimp only; walk1) | fail "no step")
  · exact absurd (by assumption) hne
  · exact ret _ _ F' NN
end Mine

end

section
-- A24
open PySem PySem.W PySem.Spec PySem.Calls PyProof.Rows
set_option maxRecDepth 100000
set_option linter.unusedVariables false
set_option maxHeartbeats 4000000
namespace Mine
theorem fresh24 : True := by
  k_with_none
  w_top off
  first | (walk1; fail) | trivial
/-- no put: told is had -/
theorem turnN {prog : Program} {w : World} {p : Program} {loose : List Str} {mean : ExcName → Option Value} {mg mb : Str → Option Value}
    {dp un : Nat} {gd : Option (List Code)} {a : Addr} {outer : List Env} {A₀ : Around} {base h₀ : Heap} {L : Addr} {m : Str → Option Value} {s : Shared} {Q : Flow → Shared → Prop} {E : Value → Shared → Prop}
    {A : Ad} {c : Co} {xs : List (Addr × Obj)} {tp tq : Addr} {z code : Int} {t1 t3 r1 r3 : Tok}
    (B : Below A₀ base outer h₀) (F : Fr h₀ L s.heap m) (X : (hd.heap_39 w.params).In h₀) (T : Top p loose mean mg mb h₀)
    (N : News h₀ L s.heap (led A c ++ xs)) (hroom : dp + 1 < recursionLimit) (hun : un + 100 < cLine)
    (hp : (tp, tupO #[.int code t1, .none, .int z t3]) ∈ xs) (hq : (tq, tupO #[.int code r1, .none, .int z r3]) ∈ xs) (hmh : m "had" = some (.ref tp)) (hmt : m "told" = some (.ref tq)) (hc : code = 2 ∨ code = 3)
    (ret : ∀ h' tk', Fr h₀ L h' m → News h₀ L h' (led A c ++ xs) → Q .next { s with heap := h', toks := tk' }) :
    wpAny (model prog w) (ktrTop dp un gd "law" lawScope L a (.ref 53) (cellsOf A) outer) (exec (turnAt 6) (envX "law" lawScope L a (.ref 53) (cellsOf A))) Q E s := by
  generalize hS0 : turnAt 6 = S0
  conv at hS0 => lhs; whnf
  subst hS0
  have np := N _ (List.mem_append_right _ hp)
  have nq := N _ (List.mem_append_right _ hq)
  have N2 : News h₀ L s.heap ((tp, tupO #[.int code t1, .none, .int z t3]) :: (tq, tupO #[.int code r1, .none, .int z r3]) :: (led A c ++ xs)) := fun q hq => by
    rcases List.mem_cons.mp hq with rfl | hq
    · exact np
    · rcases List.mem_cons.mp hq with rfl | hq
      · exact nq
      · exact N q hq
  clear N
  k_with "eval Name" => first | refine nameX_L (by assumption) hmt ?_ | refine nameX_L (by assumption) hmh ?_
  rcases hc with rfl | rfl
  all_goals repeat' (first | (k_unfold; (try dsimp only)) | walk1 | (dsimp only; walk1) | fail "no step")
  all_goals (
    (rename Fr _ _ _ _ => FF); (rename News _ _ _ _ => NN)
    exact ret _ _ FF fun q hq => NN q (List.mem_cons_of_mem _ (List.mem_cons_of_mem _ (List.mem_cons_of_mem _ hq))))
end Mine

end

section
-- A25
open PySem PySem.W PySem.Spec PySem.Calls PyProof.Rows
set_option maxRecDepth 100000
set_option linter.unusedVariables false
set_option maxHeartbeats 4000000
namespace Mine
theorem fresh25 : True := by
  k_with_none
  w_top off
  first | (walk1; fail) | trivial
def putBody : List Stmt := bodyOf (turnAt 6)
def whTest : Stmt → PySem.Expr
  | .While t _ _ _ => t
  | .If t _ _ _ => t
  | _ => default
def whBody : Stmt → List Stmt
  | .While _ b _ _ => b
  | _ => []
def whS : Stmt := putBody.getD 1 default
theorem whS_eq : ∃ pos, whS = .While (whTest whS) (whBody whS) [] pos := ⟨_, rfl⟩
/-- a value that the way has passed: no thing there -/
def Passed (W : Wld) (v : Value) : Prop := ∃ x t, v = .int x t ∧ 0 ≤ x ∧ x < 6 ∧ (W.kb x = true → W.hs x = none)
local macro_rules | `(tactic| walk_at "callWith builtin:list.append") => `(tactic| (k_here; k_dflt (refine callWith_method1 ?_)))
local macro_rules | `(tactic| k_all) => `(tactic| assumption)

theorem while_spec {prog : Program} {w : World} {p : Program} {loose : List Str} {mean : ExcName → Option Value} {mg mb : Str → Option Value}
    {dp un : Nat} {gd : Option (List Code)} {a : Addr} {outer : List Env} {A₀ : Around} {base h₀ : Heap} {L : Addr} {m : Str → Option Value} {s : Shared} {Q : Flow → Shared → Prop} {E : Value → Shared → Prop}
    {A : Ad} {c : Co} {xs : List (Addr × Obj)} {n : Nat} {la tq : Addr} {W : Wld} {v z : Int} {tv q1 q3 : Tok} {k : Nat} {vs : List Value} {ev : Nat}
    (B : Below A₀ base outer h₀) (F : Fr h₀ L s.heap m) (X : (hd.heap_39 w.params).In h₀) (T : Top p loose mean mg mb h₀)
    (O : Ok prog w A c n) (N : News h₀ L s.heap ((la, PySem.W.listOf #[] 0) :: (tq, tupO #[.int 4 q1, .none, .int z q3]) :: (led A c ++ xs))) (hla : ∀ q ∈ (tq, tupO #[.int 4 q1, .none, .int z q3]) :: (led A c ++ xs), q.1 ≠ la) (hroom : dp + 1 < recursionLimit)
    (hma : m "ahead" = some (.ref la)) (hmt : m "told" = some (.ref tq)) (hat : m "at" = some (.int v tv)) (h0 : 0 ≤ v) (h6 : v < 6)
    (hvs : vs.length = 6) (hvl : ∀ v ∈ vs, Later v) (hev : c.oll = PySem.W.listOf vs.toArray ev) (hlt : ∀ x, W.lt x = asInt (vs.getD x.toNat .none)) (hR : Rch W z k v) (hk : k ≤ 20)
    (ret : ∀ (us : List Value) (e : Nat) (m' : Str → Option Value) (h' : Heap) (tk' : Nat), (∀ u ∈ us, Passed W u) → us.length ≤ 20 → (∀ y : Str, y ≠ Str.ofString "at" → m' y = m y) → Fr h₀ L h' m' → News h₀ L h' ((la, PySem.W.listOf us.toArray e) :: (tq, tupO #[.int 4 q1, .none, .int z q3]) :: (led A c ++ xs)) → Q .next { s with heap := h', toks := tk' }) :
    wpAny (model prog w) (ktrTop dp un gd "law" lawScope L a (.ref 53) (cellsOf A) outer) (exec whS (envX "law" lawScope L a (.ref 53) (cellsOf A))) Q E s := by
  obtain ⟨pos, he⟩ := whS_eq
  rw [he]
  refine wpAny_While (codeAny_whileLoop (fun j s' => ∃ (u : Int) (tu : Tok) (us : List Value) (e : Nat) (h : Heap) (tk : Nat) (m₁ : Str → Option Value), s' = { s with heap := h, toks := tk } ∧ Rch W z j u ∧ 0 ≤ u ∧ u < 6 ∧ m₁ "at" = some (.int u tu) ∧
    (∀ y : Str, y ≠ Str.ofString "at" → m₁ y = m y) ∧ (∀ u ∈ us, Passed W u) ∧ us.length + j ≤ 20 ∧ Fr h₀ L h m₁ ∧ News h₀ L h ((la, PySem.W.listOf us.toArray e) :: (tq, tupO #[.int 4 q1, .none, .int z q3]) :: (led A c ++ xs))) ?_ k
    ⟨v, tv, [], 0, s.heap, s.toks, m, rfl, hR, h0, h6, hat, fun _ _ => rfl, (fun _ h => by cases h), by simpa using hk, F, N⟩)
  rintro j s' ⟨u, tu, us, e, h, tk, m₁, rfl, hRu, hu0, hu6, hmu, hmo, hus, hul, F1, N1⟩
  clear F N
  have hma1 : m₁ "ahead" = some (.ref la) := (hmo _ (by decide)).trans hma
  have hmt1 : m₁ "told" = some (.ref tq) := (hmo _ (by decide)).trans hmt
  generalize hS0 : whTest whS = S0
  conv at hS0 => lhs; whnf
  subst hS0
  generalize hS1 : whBody whS = S1
  k_with "eval Name" => first | refine nameX_L (by assumption) hma1 ?_ | refine nameX_L (by assumption) hmt1 ?_ | refine nameX_L (by assumption) hmu ?_
  repeat' (first | (k_unfold; (try dsimp only)) | walk1 | (dsimp only; walk1) | fail "no step")
  · have hne : u ≠ z := by assumption
    cases hRu with
    | here => exact absurd rfl hne
    | @step j' _ v' _ hno hl hR' =>
      obtain ⟨tv', hx, hv0, hv6⟩ : ∃ t, vs[u.toNat]? = some (.int v' t) ∧ 0 ≤ v' ∧ v' < 6 := by
        rw [hlt u] at hl
        have hu : u.toNat < vs.length := by omega
        rw [List.getD, List.getElem?_eq_getElem hu, Option.getD_some] at hl
        rcases hvl _ (List.getElem_mem hu) with q | ⟨i, t, q, q1, q2⟩
        · rw [q] at hl; cases hl
        · rw [q] at hl
          have : i = v' := Option.some.inj hl
          exact ⟨t, by rw [List.getElem?_eq_getElem hu, q, this], this ▸ q1, this ▸ q2⟩
      have hx' : vs.toArray[u.toNat]? = some (.int v' tv') := by simpa using hx
      have hcl := O.cl
      conv at hS1 => lhs; whnf
      subst hS1
      have hmem : (A.ll, c.oll) ∈ (la, PySem.W.listOf us.toArray e) :: (tq, tupO #[.int 4 q1, .none, .int z q3]) :: (led A c ++ xs) := .tail _ (.tail _ (List.mem_append_left _ (by simp [led])))
      have hlen : us.length ≤ 20 := by omega
      repeat' (first | (k_unfold; (try dsimp only)) | walk1 | (dsimp only; walk1) | fail "no step")
      (rename News _ _ _ _ => lN)
      have gll := (lN (A.ll, c.oll) (.tail _ (.tail _ (List.mem_append_left _ (by simp [led]))))).1
      refine itemB (l := A.ll) (vs := vs.toArray) ⟨_, gll, by rw [hev], _, by rw [hev]⟩ hu0 (by omega) hx' ?_
      clear gll
      (rename Fr _ _ _ _ => lF)
      refine storeX_L lF lN (fun h9 F' N' => ?_)
      refine wpAny_execs_nil ?_
      rw [List.push_toArray] at N'
      refine ⟨j', Nat.lt_succ_self _, v', tv', us ++ [.int u tu], _, _, _, _, rfl, hR', hv0, hv6, ?_, fun y hy => ?_, fun x hx => ?_, by simp; omega, F', N'⟩
      · rfl
      · exact (if_neg hy).trans (hmo y hy)
      · rcases List.mem_append.mp hx with hx | hx
        · exact hus x hx
        · rw [List.mem_singleton.mp hx]; exact ⟨u, tu, rfl, hu0, hu6, hno⟩
  · exact ret us e m₁ h _ hus (by omega) hmo F1 N1
end Mine

end

section
-- A26
open PySem PySem.W PySem.Spec PySem.Calls PyProof.Rows
set_option maxRecDepth 100000
set_option linter.unusedVariables false
set_option maxHeartbeats 4000000
namespace Mine
theorem fresh26 : True := by
  k_with_none
  w_top off
  first | (walk1; fail) | trivial
def ifComp : Stmt := putBody.getD 2 default
def orElts : PySem.Expr → List PySem.Expr
  | .BoolOp _ es _ => es
  | _ => []
def cmpLeft : PySem.Expr → PySem.Expr
  | .Compare l _ _ _ => l
  | _ => default
def filtComp : PySem.Expr := cmpLeft ((orElts (whTest ifComp)).getD 0 default)
def compIfs : PySem.Expr → List PySem.Expr
  | .ListComp _ [g] _ _ => g.ifs
  | _ => []
def filtT : PySem.Expr := (compIfs filtComp).getD 0 default

theorem filt_test {prog : Program} {w : World} {p : Program} {loose : List Str} {mean : ExcName → Option Value} {mg mb : Str → Option Value}
    {dp un : Nat} {gd : Option (List Code)} {a : Addr} {outer : List Env} {A₀ : Around} {base h₀ : Heap} {L : Addr} {m m₂ : Str → Option Value} {s : Shared} {Q : Bool → Shared → Prop} {E : Value → Shared → Prop}
    {A : Ad} {c : Co} {xs : List (Addr × Obj)} {n n' : Nat} {ks : List Bool} {vs : List Value} {kv : Nat → List (Ky × Value)} {ky : Ky} {key : Value} {Cn : Addr} {oC : Obj} {x : Int} {t : Tok}
    (B : Below A₀ base outer h₀) (F : Fr h₀ L s.heap m) (X : (hd.heap_39 w.params).In h₀) (T : Top p loose mean mg mb h₀)
    (O : Ok prog w A c n) (D : Dat prog w c ks vs kv n') (N : News h₀ L s.heap ((Cn, oC) :: (led A c ++ xs))) (hoC : LCg.NsObj oC m₂) (hone : m₂ "one" = some (.int x t)) (h0 : 0 ≤ x) (h6 : x < 6)
    (hcy : c.ocy.data = .cell (some key)) (hky : isKy ky key = true) (hpass : (mkW ks vs kv ky).kb x = true → (mkW ks vs kv ky).hs x = none)
    (ret : ∀ tk', Q false { s with toks := tk' }) :
    wpAny (model prog w) (ktrTop dp un gd "law" lawScope L a (.ref 53) (cellsOf A) outer)
      (PySem.isTrue filtT (compEnvC (compScope filtComp) [("tables", A.ct), ("kinds", A.ck), ("key", A.cy)] Cn (envX "law" lawScope L a (.ref 53) (cellsOf A))) (eval filtT (compEnvC (compScope filtComp) [("tables", A.ct), ("kinds", A.ck), ("key", A.cy)] Cn (envX "law" lawScope L a (.ref 53) (cellsOf A))))) Q E s := by
  generalize hS0 : filtT = S0
  generalize hS1 : compScope filtComp = S1
  conv at hS0 => lhs; whnf
  conv at hS1 => lhs; whnf
  subst hS0 hS1
  obtain ⟨e1, ke⟩ := D.ke
  obtain ⟨e3, te⟩ := O.ott
  have d0 := D.kl
  have hoct := O.ct
  have hock := O.ck
  obtain ⟨od, hod, hdd, hdi, _⟩ := D.dk x.toNat (by omega)
  have hk : (ks.map Value.bool).toArray[x.toNat]? = some (.bool ((mkW ks vs kv ky).kb x)) := by
    have hv : x.toNat < ks.length := by omega
    simp [mkW, List.getD, List.getElem?_eq_getElem hv]
  have hxd : x.toNat < A.ds.length := by rw [O.dl]; omega
  have hd : (A.ds.map Value.ref).toArray[x.toNat]? = some (.ref A.ds[x.toNat]) := by simp [hxd]
  have gkl : s.heap.get? A.kl = some c.okl := (N (A.kl, c.okl) (.tail _ (List.mem_append_left _ (by simp [led])))).1
  have gtt : s.heap.get? A.tt = some c.ott := (N (A.tt, c.ott) (.tail _ (List.mem_append_left _ (by simp [led])))).1
  have hz : (A.ds[x.toNat], od) ∈ led A c := by
    have : (A.ds[x.toNat], od) ∈ A.ds.zip c.os := List.mem_iff_getElem?.mpr ⟨x.toNat, by rw [List.getElem?_zip_eq_some]; exact ⟨List.getElem?_eq_getElem hxd, hod⟩⟩
    simp only [led, List.mem_cons]
    simp [this]
  have gD : s.heap.DictOf (kyKind prog w) A.ds[x.toNat] (kv x.toNat) := Heap.dictOf_iff.mpr ⟨od, (N (A.ds[x.toNat], od) (.tail _ (List.mem_append_left _ hz))).1, hdd⟩
  have glo := O.lo _ (List.getElem_mem hxd)
  k_with "subscriptTail Name Name ref int" => k_dflt first | refine itemB (vs := (ks.map Value.bool).toArray) ⟨_, gkl, by rw [ke], _, by rw [ke]⟩ h0 (by omega) hk ?_ | refine itemB (vs := (A.ds.map Value.ref).toArray) ⟨_, gtt, by rw [te], _, by rw [te]⟩ h0 (by omega) hd ?_
  cases hb : (mkW ks vs kv ky).kb x with
  | false =>
    rw [hb] at hk
    repeat' (first | (k_unfold; (try dsimp only)) | walk1 | (dsimp only; walk1) | fail "no step")
    exact ret _
  | true =>
    rw [hb] at hk
    have hno : (valueAt (kv x.toNat) ky).isSome = false := by
      have q := hpass hb
      cases hv : valueAt (kv x.toNat) ky with
      | none => rfl
      | some v =>
        obtain ⟨pr, hp, e⟩ := valueAt_mem hv
        obtain ⟨j, t, e2⟩ := hdi pr hp
        simp only [mkW, hv, ← e, e2] at q
        cases q
    repeat' (first | (k_unfold; (try dsimp only)) | walk1 | (dsimp only; walk1) | fail "no step")
    refine wpAny_in_of (knd := kyKind prog w) hky glo gD.mapOf ?_
    rw [hno]
    repeat' (first | (k_unfold; (try dsimp only)) | walk1 | (dsimp only; walk1) | fail "no step")
    exact ret _

theorem filtRest {prog : Program} {w : World} {p : Program} {loose : List Str} {mean : ExcName → Option Value} {mg mb : Str → Option Value}
    {dp un : Nat} {gd : Option (List Code)} {a : Addr} {outer : List Env} {A₀ : Around} {base h₀ : Heap} {L : Addr} {m : Str → Option Value} {s : Shared}
    {A : Ad} {c : Co} {xs : List (Addr × Obj)} {n n' : Nat} {ks : List Bool} {vs : List Value} {kv : Nat → List (Ky × Value)} {ky : Ky} {key : Value} {la tq : Addr} {us : List Value} {e : Nat} {oq : Obj} {elt : PySem.Expr} {Fin : List Value → List (Addr × Obj) → Prop}
    (B : Below A₀ base outer h₀) (X : (hd.heap_39 w.params).In h₀) (T : Top p loose mean mg mb h₀)
    (O : Ok prog w A c n) (D : Dat prog w c ks vs kv n') (hcy : c.ocy.data = .cell (some key)) (hky : isKy ky key = true) (hus : ∀ u ∈ us, Passed (mkW ks vs kv ky) u)
    (fin : Fin [] ((la, PySem.W.listOf us.toArray e) :: (tq, oq) :: (led A c ++ xs))) :
    ∀ k i, LCt.CompRestT prog w (ktrTop dp un gd "law" lawScope L a (.ref 53) (cellsOf A) outer) h₀ L m (envX "law" lawScope L a (.ref 53) (cellsOf A)) filtT elt "one" (compScope filtComp) [("tables", A.ct), ("kinds", A.ck), ("key", A.cy)] s
      (LCg.SrcAt h₀ la us.toArray) (fun i v => us.toArray[i]? = some v) Fin k i [] ((la, PySem.W.listOf us.toArray e) :: (tq, oq) :: (led A c ++ xs)) := by
  intro k
  induction k with
  | zero => intro i; exact LCt.CompRestT.zero fin
  | succ k ih =>
    intro i
    refine LCt.CompRestT.succ fun v I oI C oC D' m₂ h tk E' hv hC hx F N off ne => ?_
    obtain ⟨x, t, rfl, h0, h6, hp⟩ := hus v (by have := Array.mem_of_getElem? hv; simpa using this)
    refine filt_test (xs := xs) (oC := oC) (n' := n') (key := key) (s := { s with heap := h, toks := tk }) B F X T O D (fun q hq => N q ?nn) hC hx h0 h6 hcy hky hp fun tk' => ?_
    case nn =>
      rcases List.mem_cons.mp hq with rfl | hq
      · exact .tail _ (.head _)
      · exact .tail _ (.tail _ (.tail _ (.tail _ (.tail _ hq))))
    · rw [if_neg Bool.false_ne_true]
      exact LCg.CompEnd.intro F N ((la, PySem.W.listOf us.toArray e) :: (tq, oq) :: (led A c ++ xs)) (fun q hq => hq) off (.inr ⟨_, .head _, rfl, _, rfl⟩) (ih (i + 1))
end Mine

end

section
-- A27
open PySem PySem.W PySem.Spec PySem.Calls PyProof.Rows
set_option maxRecDepth 100000
set_option linter.unusedVariables false
set_option maxHeartbeats 4000000
namespace Mine
theorem fresh27 : True := by
  k_with_none
  w_top off
  first | (walk1; fail) | trivial
theorem putIf {prog : Program} {w : World} {p : Program} {loose : List Str} {mean : ExcName → Option Value} {mg mb : Str → Option Value}
    {dp un : Nat} {gd : Option (List Code)} {a : Addr} {outer : List Env} {A₀ : Around} {base h₀ : Heap} {L : Addr} {m : Str → Option Value} {s : Shared} {Q : Flow → Shared → Prop} {E : Value → Shared → Prop}
    {A : Ad} {c : Co} {xs : List (Addr × Obj)} {n n' : Nat} {ks : List Bool} {vs : List Value} {kv : Nat → List (Ky × Value)} {ky : Ky} {key : Value} {la tq : Addr} {us : List Value} {e : Nat} {z : Int} {q1 q3 : Tok}
    (B : Below A₀ base outer h₀) (F : Fr h₀ L s.heap m) (X : (hd.heap_39 w.params).In h₀) (T : Top p loose mean mg mb h₀)
    (O : Ok prog w A c n) (D : Dat prog w c ks vs kv n') (N : News h₀ L s.heap ((la, PySem.W.listOf us.toArray e) :: (tq, tupO #[.int 4 q1, .none, .int z q3]) :: (led A c ++ xs)))
    (hcy : c.ocy.data = .cell (some key)) (hky : isKy ky key = true) (hus : ∀ u ∈ us, Passed (mkW ks vs kv ky) u) (hul : us.length ≤ 20) (hroom : dp + 1 < recursionLimit) (hun : un + 100 < cLine)
    (hma : m "ahead" = some (.ref la)) (hmt : m "told" = some (.ref tq)) (h0 : 0 ≤ z) (h6 : z < 6) (hz : (mkW ks vs kv ky).kb z = true)
    (ret : ∀ h' tk', Fr h₀ L h' m → News h₀ L h' ((la, PySem.W.listOf us.toArray e) :: (tq, tupO #[.int 4 q1, .none, .int z q3]) :: (led A c ++ xs)) → Q .next { s with heap := h', toks := tk' }) :
    wpAny (model prog w) (ktrTop dp un gd "law" lawScope L a (.ref 53) (cellsOf A) outer) (exec ifComp (envX "law" lawScope L a (.ref 53) (cellsOf A))) Q E s := by
  generalize hS0 : ifComp = S0
  conv at hS0 => lhs; whnf
  subst hS0
  have hsz : us.toArray.size ≤ sizeLine := by rw [List.size_toArray]; exact Nat.le_trans hul (by decide)
  obtain ⟨e1, ke⟩ := D.ke
  have d0 := D.kl
  have hock := O.ck
  have hk : (ks.map Value.bool).toArray[z.toNat]? = some (.bool true) := by
    have hv : z.toNat < ks.length := by omega
    have := hz
    simp only [mkW, List.getD, List.getElem?_eq_getElem hv, Option.getD_some] at this
    simp [List.getElem?_eq_getElem hv, this]
  k_with "eval Name" => first | refine nameX_L (by assumption) hma ?_ | refine nameX_L (by assumption) hmt ?_
  k_with "subscriptTail Name Subscript ref int" => (k_here; (rename News _ _ _ _ => lN); k_dflt (refine itemB (l := A.kl) (vs := (ks.map Value.bool).toArray) ⟨_, (lN (A.kl, c.okl) (by simp [led])).1, by rw [ke], _, by rw [ke]⟩ h0 (by simp; omega) hk ?_))
  walk1
  walk1
  walk1
  k_dflt (refine LCt.ListComp_T (F₀ := F) (cl := [("tables", A.ct), ("kinds", A.ck), ("key", A.cy)]) (by with_unfolding_all rfl) (by decide) (by rfl) (by decide) (by rfl) ?_)
  refine nameX_L F hma ?_
  k_dflt (refine LCt.CompSrcT.ledger (by rfl) F N (.head _) hsz fun g' => ?_)
  k_dflt (refine filtRest B X T O D hcy hky hus ?_ _ 0)
  clear F N
  repeat' (first | (k_unfold; (try dsimp only)) | walk1 | (dsimp only; walk1) | fail "no step")
  (rename News _ _ _ _ => NN); (rename Fr _ _ _ _ => FF)
  exact ret _ _ FF fun q hq => NN q (List.mem_cons_of_mem _ (List.mem_cons_of_mem _ hq))
end Mine

end

section
-- A28
open PySem PySem.W PySem.Spec PySem.Calls PyProof.Rows
set_option maxRecDepth 100000
set_option linter.unusedVariables false
set_option maxHeartbeats 4000000
namespace Mine
theorem fresh28 : True := by
  k_with_none
  w_top off
  first | (walk1; fail) | trivial
theorem putA {prog : Program} {w : World} {p : Program} {loose : List Str} {mean : ExcName → Option Value} {mg mb : Str → Option Value}
    {dp un : Nat} {gd : Option (List Code)} {a : Addr} {outer : List Env} {A₀ : Around} {base h₀ : Heap} {L : Addr} {m : Str → Option Value} {s : Shared} {Q : Flow → Shared → Prop} {E : Value → Shared → Prop}
    {A : Ad} {c : Co} {xs : List (Addr × Obj)} {v : Int} {tv : Tok}
    (B : Below A₀ base outer h₀) (F : Fr h₀ L s.heap m) (X : (hd.heap_39 w.params).In h₀) (T : Top p loose mean mg mb h₀)
    (N : News h₀ L s.heap (led A c ++ xs)) (hms : m "start" = some (.int v tv))
    (ret : ∀ la m' h' tk', (∀ q ∈ led A c ++ xs, q.1 < la) → m' "ahead" = some (.ref la) → m' "at" = some (.int v tv) → (∀ y : Str, y ≠ Str.ofString "ahead" → y ≠ Str.ofString "at" → m' y = m y) →
      Fr h₀ L h' m' → News h₀ L h' ((la, PySem.W.listOf #[] 0) :: (led A c ++ xs)) → Q .next { s with heap := h', toks := tk' }) :
    wpAny (model prog w) (ktrTop dp un gd "law" lawScope L a (.ref 53) (cellsOf A) outer) (exec (putBody.getD 0 default) (envX "law" lawScope L a (.ref 53) (cellsOf A))) Q E s := by
  generalize hS0 : putBody.getD 0 default = S0
  conv at hS0 => lhs; whnf
  subst hS0
  k_with "eval Name" => first | refine nameX_L (by assumption) hms ?_
  repeat' (first | (k_unfold; (try dsimp only)) | walk1 | (dsimp only; walk1) | fail "no step")
  rename_i la hA lA D hB lB hC hD hE F' N'
  refine ret la _ hE _ lA ?_ ?_ ?_ F' (fun q hq => N' q (List.mem_cons_of_mem _ hq))
  · rfl
  · rfl
  · intro y h1 h2
    show (if y = Str.ofString "ahead" then _ else if y = Str.ofString "at" then _ else m y) = m y
    rw [if_neg h1, if_neg h2]

local macro_rules | `(tactic| walk_at "getMethod ref") => `(tactic| (k_here; (with_reducible show wpAny _ _ (getMethod (Value.ref _) (Str.ofString "get") _) _ _ _); k_dflt (refine dget_method (by assumption) ?_)))
theorem putH {prog : Program} {w : World} {p : Program} {loose : List Str} {mean : ExcName → Option Value} {mg mb : Str → Option Value}
    {dp un : Nat} {gd : Option (List Code)} {a : Addr} {outer : List Env} {A₀ : Around} {base h₀ : Heap} {L : Addr} {m : Str → Option Value} {s : Shared} {Q : Flow → Shared → Prop} {E : Value → Shared → Prop}
    {A : Ad} {c : Co} {xs : List (Addr × Obj)} {n n' : Nat} {ks : List Bool} {vs : List Value} {kv : Nat → List (Ky × Value)} {ky : Ky} {key : Value} {tp tq : Addr} {z : Int} {t1 th t3 q1 q3 : Tok}
    (B : Below A₀ base outer h₀) (F : Fr h₀ L s.heap m) (X : (hd.heap_39 w.params).In h₀) (T : Top p loose mean mg mb h₀)
    (O : Ok prog w A c n) (D : Dat prog w c ks vs kv n') (N : News h₀ L s.heap ((tp, tupO #[.int 0 t1, thing ((mkW ks vs kv ky).hs z) th, .int z t3]) :: (tq, tupO #[.int 4 q1, .none, .int z q3]) :: (led A c ++ xs)))
    (hcy : c.ocy.data = .cell (some key)) (hkey : isKy ky key = true) (hroom : dp + 1 < recursionLimit) (hun : un + 100 < cLine)
    (hmh : m "had" = some (.ref tp)) (hmt : m "told" = some (.ref tq)) (h0 : 0 ≤ z) (h6 : z < 6)
    (ret : ∀ h' tk', Fr h₀ L h' m → News h₀ L h' ((tp, tupO #[.int 0 t1, thing ((mkW ks vs kv ky).hs z) th, .int z t3]) :: (tq, tupO #[.int 4 q1, .none, .int z q3]) :: (led A c ++ xs)) → Q .next { s with heap := h', toks := tk' }) :
    wpAny (model prog w) (ktrTop dp un gd "law" lawScope L a (.ref 53) (cellsOf A) outer) (exec (putBody.getD 3 default) (envX "law" lawScope L a (.ref 53) (cellsOf A))) Q E s := by
  generalize hS0 : putBody.getD 3 default = S0
  conv at hS0 => lhs; whnf
  subst hS0
  obtain ⟨e3, te⟩ := O.ott
  obtain ⟨od, hod, hdd, hdi, _⟩ := D.dk z.toNat (by omega)
  have hoct := O.ct
  have hxd : z.toNat < A.ds.length := by rw [O.dl]; omega
  have hd : (A.ds.map Value.ref).toArray[z.toNat]? = some (.ref A.ds[z.toNat]) := by simp [hxd]
  have hz : (A.ds[z.toNat], od) ∈ led A c := by
    have : (A.ds[z.toNat], od) ∈ A.ds.zip c.os := List.mem_iff_getElem?.mpr ⟨z.toNat, by rw [List.getElem?_zip_eq_some]; exact ⟨List.getElem?_eq_getElem hxd, hod⟩⟩
    simp only [led, List.mem_cons]
    simp [this]
  have gtt : s.heap.get? A.tt = some c.ott := (N (A.tt, c.ott) (.tail _ (.tail _ (List.mem_append_left _ (by simp [led]))))).1
  have gD : s.heap.DictOf (kyKind prog w) A.ds[z.toNat] (kv z.toNat) := Heap.dictOf_iff.mpr ⟨od, (N (A.ds[z.toNat], od) (.tail _ (.tail _ (List.mem_append_left _ hz)))).1, hdd⟩
  have hlo := O.lo _ (List.getElem_mem hxd)
  obtain ⟨tt, htt⟩ := dict_thing (k := ky) hdi
  have ehs : (valueAt (kv z.toNat) ky).bind asInt = (mkW ks vs kv ky).hs z := rfl
  rw [ehs] at htt
  generalize (mkW ks vs kv ky).hs z = hv at *
  generalize hdv : A.ds[z.toNat] = d at *
  k_with "eval Name" => first | refine nameX_L (by assumption) hmh ?_ | refine nameX_L (by assumption) hmt ?_
  k_with "subscriptTail Name Subscript ref int" => (k_here; k_dflt (refine itemB (l := A.tt) (vs := (A.ds.map Value.ref).toArray) ⟨_, gtt, by rw [te], _, by rw [te]⟩ h0 (by simp; omega) hd ?_))
  k_with "call builtin:dict.get" => k_dflt (refine dget_call gD hlo hkey ?_; rw [htt])
  cases hv with
  | none =>
    dsimp only [thing] at htt N
    repeat' (first | (k_unfold; (try dsimp only)) | walk1 | (dsimp only; walk1) | fail "no step")
    (rename Fr _ _ _ _ => FF); (rename News _ _ _ _ => NN)
    exact ret _ _ FF fun q hq => NN q (.tail _ hq)
  | some x =>
    dsimp only [thing] at htt N
    repeat' (first | (k_unfold; (try dsimp only)) | walk1 | (dsimp only; walk1) | fail "no step")
    (rename Fr _ _ _ _ => FF); (rename News _ _ _ _ => NN)
    exact ret _ _ FF fun q hq => NN q (.tail _ hq)
end Mine

end

section
-- A29
open PySem PySem.W PySem.Spec PySem.Calls PyProof.Rows
set_option maxRecDepth 100000
set_option linter.unusedVariables false
set_option maxHeartbeats 4000000
namespace Mine
theorem fresh29 : True := by
  k_with_none
  w_top off
  first | (walk1; fail) | trivial
theorem putS {prog : Program} {w : World} {p : Program} {loose : List Str} {mean : ExcName → Option Value} {mg mb : Str → Option Value}
    {dp un : Nat} {gd : Option (List Code)} {a : Addr} {outer : List Env} {A₀ : Around} {base h₀ : Heap} {L : Addr} {m : Str → Option Value} {s : Shared} {Q : Flow → Shared → Prop} {E : Value → Shared → Prop}
    {A : Ad} {c : Co} {xs : List (Addr × Obj)} {n : Nat} {kvs : List (Ky × Value)} {od : Obj} {ky : Ky} {key : Value} {tq : Addr} {z kk : Int} {q1 q3 kt : Tok}
    (B : Below A₀ base outer h₀) (F : Fr h₀ L s.heap m) (X : (hd.heap_39 w.params).In h₀) (T : Top p loose mean mg mb h₀)
    (O : Ok prog w A c n) (N : News h₀ L s.heap (led A c ++ xs)) (hx : Else A xs) (htq : (tq, tupO #[.int 4 q1, .none, .int z q3]) ∈ xs)
    (hod : c.os[z.toNat]? = some od) (hdd : od.IsDictOf (kyKind prog w) kvs) (hlen : kvs.length ≤ 100)
    (hcy : c.ocy.data = .cell (some key)) (hkey : isKy ky key = true) (hroom : dp + 1 < recursionLimit) (hun : un + 100 < cLine)
    (hmt : m "told" = some (.ref tq)) (hmk : m "turn" = some (.int kk kt)) (h0 : 0 ≤ z) (h6 : z < 6)
    (ret : ∀ h' tk' o' t, o'.IsDictOf (kyKind prog w) (stored kvs ky (.int (70 + kk) t)) → Fr h₀ L h' m → News h₀ L h' (led A { c with os := c.os.set z.toNat o' } ++ xs) → Q .next { s with heap := h', toks := tk' }) :
    wpAny (model prog w) (ktrTop dp un gd "law" lawScope L a (.ref 53) (cellsOf A) outer) (exec (putBody.getD 4 default) (envX "law" lawScope L a (.ref 53) (cellsOf A))) Q E s := by
  generalize hS0 : putBody.getD 4 default = S0
  conv at hS0 => lhs; whnf
  subst hS0
  obtain ⟨e3, te⟩ := O.ott
  have hoct := O.ct
  have hxd : z.toNat < A.ds.length := by rw [O.dl]; omega
  have hdd0 : A.ds[z.toNat]? = some A.ds[z.toNat] := List.getElem?_eq_getElem hxd
  have hd : (A.ds.map Value.ref).toArray[z.toNat]? = some (.ref A.ds[z.toNat]) := by simp [hxd]
  have gtt : s.heap.get? A.tt = some c.ott := (N (A.tt, c.ott) (List.mem_append_left _ (by simp [led]))).1
  have hdm := List.getElem_mem hxd
  have hdx : ∀ q ∈ xs, q.1 ≠ A.ds[z.toNat] := fun q hq e => hx q hq (by rw [e]; exact List.mem_append_right _ hdm)
  have hdnd : A.ds.Nodup := (List.nodup_append.mp O.nd).2.1
  generalize hdv : A.ds[z.toNat] = d at *
  have N2 : News h₀ L s.heap ((tq, tupO #[.int 4 q1, .none, .int z q3]) :: (led A c ++ xs)) := News.cons' N (N _ (List.mem_append_right _ htq))
  have hN : ∀ q, q ∈ led A c ++ xs → s.heap.get? q.1 = some q.2 ∧ q.1 ≠ L ∧ h₀.get? q.1 = none := N
  clear N
  k_with "eval Name" => first | refine nameX_L (by assumption) hmk ?_ | refine nameX_L (by assumption) hmt ?_
  k_with "subscriptTail Name Subscript ref int" => (k_here; k_dflt (refine itemB (l := A.tt) (vs := (A.ds.map Value.ref).toArray) ⟨_, gtt, by rw [te], _, by rw [te]⟩ h0 (by simp; omega) hd ?_))
  repeat' (first | (k_unfold; (try dsimp only)) | walk1 | (dsimp only; walk1) | fail "no step")
  dsimp only
  obtain ⟨rk, R⟩ := rk_of O.nd
  obtain ⟨R0, R1, R2, R3, R4, R5, R6, R7, R8, R9, Rd, Re⟩ := R
  refine dstore10 (ds := A.ds) (os := c.os) (post := xs) (p0 := (A.ct, c.oct)) (p1 := (A.cl, c.ocl)) (p2 := (A.ck, c.ock)) (p3 := (A.cy, c.ocy)) (p4 := (A.cb, c.ocb)) (p5 := (A.b, c.ob)) (p6 := (A.tt, c.ott)) (p7 := (A.ll, c.oll)) (p8 := (A.kl, c.okl)) (p9 := (51, c.otab)) F ?N hdnd hdd0 hod Rd ?pre hdx hdd hkey (by rw [sizeLine_eq]; omega) fun h' o' F' N' hd' => ?_
  case N => exact fun q hq => hN q (by simpa only [led, List.cons_append] using hq)
  case pre =>
    simp only [List.forall_mem_cons]
    refine ⟨?_, ?_, ?_, ?_, ?_, ?_, ?_, ?_, ?_, ?_, fun _ h => by cases h⟩
    all_goals omega
  exact ret h' _ o' _ hd' F' fun q hq => N' q (by simpa only [led, List.cons_append] using hq)
end Mine

end

section
-- A30
open PySem PySem.W PySem.Spec PySem.Calls PyProof.Rows
set_option maxRecDepth 100000
set_option linter.unusedVariables false
set_option maxHeartbeats 4000000
namespace Mine
theorem fresh30 : True := by
  k_with_none
  w_top off
  first | (walk1; fail) | trivial
theorem putR {prog : Program} {w : World} {p : Program} {loose : List Str} {mean : ExcName → Option Value} {mg mb : Str → Option Value}
    {dp un : Nat} {gd : Option (List Code)} {a : Addr} {outer : List Env} {A₀ : Around} {base h₀ : Heap} {L : Addr} {m : Str → Option Value} {s : Shared} {Q : Flow → Shared → Prop} {E : Value → Shared → Prop}
    {A : Ad} {c : Co} {xs : List (Addr × Obj)} {n : Nat} {wl f1 f2 f3 f4 : Addr} {v : Int} {tv tb kt : Tok} {key : Value} {b : Nat} {W : Wld} {tq : Addr} {z kk : Int} {q1 q3 : Tok}
    (B : Below A₀ base outer h₀) (F : Fr h₀ L s.heap m) (X : (hd.heap_39 w.params).In h₀) (T : Top p loose mean mg mb h₀)
    (O : Ok prog w A c n) (N : News h₀ L s.heap (led A c ++ xs)) (hroom : dp + 1 < recursionLimit) (hun : un + 100 < cLine)
    (hw : (wl, PySem.W.listOf #[.ref f1, .ref f2, .ref f3, .ref f4] 0) ∈ xs) (htq : (tq, tupO #[.int 4 q1, .none, .int z q3]) ∈ xs) (hmw : m "ways" = some (.ref wl)) (hms : m "start" = some (.int v tv)) (hmb : m "bound" = some (.int (b : Int) tb)) (hcy : c.ocy.data = .cell (some key))
    (hmt : m "told" = some (.ref tq)) (hmk : m "turn" = some (.int kk kt))
    (h0 : 0 ≤ v) (h6 : v < 6) (hb : b ≤ 20) (Wy : Ways prog w p loose mean mg mb s.heap W key f1 f2 f3 f4) (hR : rdZ W b v = (0, some (70 + kk), z))
    (ret : ∀ h' tk', Fr h₀ L h' m → News h₀ L h' (led A c ++ xs) → Q .next { s with heap := h', toks := tk' }) :
    wpAny (model prog w) (ktrTop dp un gd "law" lawScope L a (.ref 53) (cellsOf A) outer) (exec (putBody.getD 5 default) (envX "law" lawScope L a (.ref 53) (cellsOf A))) Q E s := by
  generalize hS0 : putBody.getD 5 default = S0
  conv at hS0 => lhs; whnf
  subst hS0
  have gw := (N _ (List.mem_append_right _ hw)).1
  have gq := N _ (List.mem_append_right _ htq)
  have gcy := (N (A.cy, c.ocy) (List.mem_append_left _ (by simp [led]))).1
  dsimp only at gw gcy
  have hN : ∀ q, q ∈ led A c ++ xs → s.heap.get? q.1 = some q.2 ∧ q.1 ≠ L ∧ h₀.get? q.1 = none := N
  clear N
  k_with "subscriptTail Name Constant ref int" => k_dflt refine itemB (vs := #[.ref f1, .ref f2, .ref f3, .ref f4]) ⟨_, gw, rfl, _, rfl⟩ (by decide) (by decide) rfl ?_
  k_with "eval Name" => first | refine nameX_L (by assumption) hmw ?_ | refine nameX_L (by assumption) hms ?_ | refine nameX_L (by assumption) hmb ?_ | refine nameX_L (by assumption) hmt ?_ | refine nameX_L (by assumption) hmk ?_ | refine nameCell gcy hcy rfl ?_
  repeat' (first | (k_unfold; (try dsimp only)) | walk1 | (dsimp only; walk1) | fail "no step")
  k_dflt (refine' read_spec (W := W) (key := key) (f1 := f1) (f2 := f2) (f3 := f3) (f4 := f4) (v := v) (t := tv) (tb := tb) (n := b) ?B ?F ?X ?T ?k ?Wy ?kz ?ky ?kn ?d ?_)
  case B => k_asm
  case F => k_asm
  case X => k_asm
  case T => k_asm
  case k => k_dflt (exact rfl)
  case Wy => exact Wy
  case kz => assumption
  case ky => assumption
  case kn => assumption
  case d => assumption
  intro tp code t1 th t2 zz t3 h' tk' hr K' g1 g2
  rw [hR] at hr
  obtain ⟨rfl, rfl, rfl⟩ : 0 = code ∧ some (70 + kk) = th ∧ z = zz := by simpa using hr
  have F' := frKeep (bs := []) F List.not_mem_nil (fun b hb => absurd hb List.not_mem_nil) K'
  have N' := newsKeep (bs := []) (show News h₀ L s.heap (led A c ++ xs) from hN) (fun _ _ hb => absurd hb List.not_mem_nil) K'
  have htp := fresh_news F g2
  have NN : ∀ q, q ∈ led A c ++ xs → h'.get? q.1 = some q.2 ∧ q.1 ≠ L ∧ h₀.get? q.1 = none := N'
  have gq' := NN _ (List.mem_append_right _ htq)
  clear N' hN F
  have N2 : News h₀ L h' ((tp, tupO #[.int 0 t1, thing (some (70 + kk)) t2, .int z t3]) :: (tq, tupO #[.int 4 q1, .none, .int z q3]) :: (led A c ++ xs)) := News.cons' (News.cons' NN gq') ⟨g1, htp⟩
  dsimp only [thing] at N2
  dsimp only
  repeat' (first | (k_unfold; (try dsimp only)) | walk1 | (dsimp only; walk1) | fail "no step")
  (rename Fr _ _ _ _ => FF); (rename News _ _ _ _ => N9)
  exact ret _ _ FF fun q hq => N9 q (.tail _ (.tail _ (.tail _ hq)))
end Mine

end

section
-- A31
open PySem PySem.W PySem.Spec PySem.Calls PyProof.Rows
set_option maxRecDepth 100000
set_option linter.unusedVariables false
set_option maxHeartbeats 4000000
namespace Mine
theorem fresh31 : True := by
  k_with_none
  w_top off
  first | (walk1; fail) | trivial
theorem stored_self {kvs : List (Ky × Value)} {k : Ky} {v : Value} : valueAt (stored kvs k v) k = some v := by
  unfold stored valueAt
  split
  · rename_i h
    induction kvs with
    | nil => simp at h
    | cons p r ih =>
      by_cases hp : p.1 = k
      · simp [hp]
      · simp only [List.any_cons, hp, decide_false, Bool.false_or] at h
        have := ih h
        simp only [List.map_cons, hp, if_false, List.find?_cons, decide_false]
        exact this
  · rename_i h
    have : kvs.find? (fun kv => kv.1 = k) = none := by
      rw [List.find?_eq_none]
      intro x hx he
      exact h (List.any_eq_true.mpr ⟨x, hx, he⟩)
    rw [List.find?_append, this]
    simp

theorem rd_after2 {W W' : Wld} {z x : Int} (hk : W'.kb = W.kb) (hl : W'.lt = W.lt) (hz : W'.hs z = some x) (ho : ∀ v, 0 ≤ v → v ≠ z → W'.hs v = W.hs v) (hp : W.kb z = true) (hpos : ∀ u j, W.lt u = some j → 0 ≤ j ∧ j < 6) :
    ∀ {k n : Nat} {v : Int}, Rch W z k v → 0 ≤ v → k < n → rdZ W' n v = (0, some x, z) := by
  intro k n v h
  induction h generalizing n with
  | here =>
    intro _ hn
    obtain ⟨j, rfl⟩ : ∃ j, n = j + 1 := ⟨n - 1, by omega⟩
    simp [rdZ, hk, hp, hz]
  | @step k v v' hne hno hlt _ ih =>
    intro h0 hn
    obtain ⟨j, rfl⟩ : ∃ j, n = j + 1 := ⟨n - 1, by omega⟩
    have e : (if W'.kb v = true then W'.hs v else none) = none := by
      rw [hk, ho v h0 hne]
      split
      · exact hno (by assumption)
      · rfl
    rw [rdZ, e, hl, hlt]
    exact ih (hpos _ _ hlt).1 (by omega)
theorem rch_in {W : Wld} {z : Int} (hpos : ∀ u j, W.lt u = some j → 0 ≤ j ∧ j < 6) : ∀ {k : Nat} {v : Int}, Rch W z k v → 0 ≤ v → v < 6 → 0 ≤ z ∧ z < 6 := by
  intro k v h
  induction h with
  | here => exact fun a b => ⟨a, b⟩
  | step _ _ hlt _ ih => exact fun _ _ => ih (hpos _ _ hlt).1 (hpos _ _ hlt).2

def kvUp (kv : Nat → List (Ky × Value)) (i : Nat) (kvs : List (Ky × Value)) : Nat → List (Ky × Value) := fun j => if j = i then kvs else kv j
theorem Dat.up {prog : Program} {w : World} {c : Co} {ks : List Bool} {vs : List Value} {kv : Nat → List (Ky × Value)} {n : Nat} {i : Nat} {ky : Ky} {x : Int} {t : Tok} {o' : Obj} (D : Dat prog w c ks vs kv n) (hi : i < c.os.length)
    (hd : o'.IsDictOf (kyKind prog w) (stored (kv i) ky (.int x t))) (hi6 : i < 6) : Dat prog w { c with os := c.os.set i o' } ks vs (kvUp kv i (stored (kv i) ky (.int x t))) (n + 1) := by
  refine ⟨D.kl, D.k0, D.ke, D.vl, D.vo, D.ve, fun j hj => ?_⟩
  by_cases h : j = i
  · subst h
    obtain ⟨o, _, _, hin, hln⟩ := D.dk j hj
    refine ⟨o', by simp [hi], ?_, ?_, ?_⟩
    · simpa [kvUp] using hd
    · simp only [kvUp, if_pos]; exact stored_ints hin
    · simp only [kvUp, if_pos]; exact Nat.le_trans (stored_len _ _ _) (by omega)
  · obtain ⟨o, a, b, hin, hln⟩ := D.dk j hj
    refine ⟨o, ?_, ?_, ?_, ?_⟩
    · simp only [List.getElem?_set]; rw [if_neg (Ne.symm h)]; exact a
    · simp only [kvUp, if_neg h]; exact b
    · simp only [kvUp, if_neg h]; exact hin
    · simp only [kvUp, if_neg h]; omega
theorem Ok.up {prog : Program} {w : World} {A : Ad} {c : Co} {n i : Nat} {ky : Ky} {x : Int} {t : Tok} {o' : Obj} (O : Ok prog w A c n) {kvs : List (Ky × Value)} (hln : kvs.length ≤ n) (hin : ∀ p ∈ kvs, ∃ j t, p.2 = .int j t)
    (hd : o'.IsDictOf (kyKind prog w) (stored kvs ky (.int x t))) : Ok prog w A { c with os := c.os.set i o' } (n + 1) := by
  refine ⟨O.nd, O.dl, by simp [O.ol], O.lo, O.ct, O.cl, O.ck, O.cb, O.cy, O.ob, O.ott, O.oll, O.okl, fun o ho => ?_⟩
  rcases List.mem_or_eq_of_mem_set ho with ho | rfl
  · obtain ⟨kvs', x1, x2, x3⟩ := O.dk o ho
    exact ⟨kvs', x1, x2, by omega⟩
  · exact ⟨_, hd, stored_ints hin, Nat.le_trans (stored_len _ _ _) (by omega)⟩
end Mine

end

section
-- A32
open PySem PySem.W PySem.Spec PySem.Calls PyProof.Rows
set_option maxRecDepth 100000
set_option linter.unusedVariables false
set_option maxHeartbeats 4000000
namespace Mine
theorem fresh32 : True := by
  k_with_none
  w_top off
  first | (walk1; fail) | trivial
def elseOf : Stmt → List Stmt
  | .If _ _ e _ => e
  | _ => []
theorem t6_eq : ∃ pos, turnAt 6 = .If (whTest (turnAt 6)) putBody (elseOf (turnAt 6)) pos := ⟨_, rfl⟩
theorem put_eq : putBody = [putBody.getD 0 default, whS, ifComp, putBody.getD 3 default, putBody.getD 4 default, putBody.getD 5 default] := rfl
theorem putAll {prog : Program} {w : World} {p : Program} {loose : List Str} {mean : ExcName → Option Value} {mg mb : Str → Option Value}
    {dp un : Nat} {gd : Option (List Code)} {a : Addr} {outer : List Env} {A₀ : Around} {base h₀ : Heap} {L : Addr} {m : Str → Option Value} {s : Shared} {Q : Flow → Shared → Prop} {E : Value → Shared → Prop}
    {A : Ad} {c : Co} {xs : List (Addr × Obj)} {n : Nat} {ks : List Bool} {vs : List Value} {kv : Nat → List (Ky × Value)} {ky : Ky} {key : Value} {wl f1 f2 f3 f4 c1 c2 c3 c4 : Addr} {y1 y2 y3 y4 : Value}
    {v kk z : Int} {tv tb kt t1 th t3 q1 q3 : Tok} {b k : Nat} {tp tq : Addr}
    (B : Below A₀ base outer h₀) (F : Fr h₀ L s.heap m) (X : (hd.heap_39 w.params).In h₀) (T : Top p loose mean mg mb h₀)
    (O : Ok prog w A c n) (D : Dat prog w c ks vs kv n) (N : News h₀ L s.heap (led A c ++ xs)) (hx : Else A xs) (hroom : dp + 1 < recursionLimit) (hun : un + 100 < cLine) (hn : n ≤ 90)
    (hw : (wl, PySem.W.listOf #[.ref f1, .ref f2, .ref f3, .ref f4] 0) ∈ xs) (htp : (tp, tupO #[.int 0 t1, thing ((mkW ks vs kv ky).hs z) th, .int z t3]) ∈ xs) (htq : (tq, tupO #[.int 4 q1, .none, .int z q3]) ∈ xs)
    (hmw : m "ways" = some (.ref wl)) (hms : m "start" = some (.int v tv)) (hmb : m "bound" = some (.int (b : Int) tb)) (hmh : m "had" = some (.ref tp)) (hmt : m "told" = some (.ref tq)) (hmk : m "turn" = some (.int kk kt)) (hcy : c.ocy.data = .cell (some key)) (hky : isKy ky key = true)
    (h0 : 0 ≤ v) (h6 : v < 6) (hb : b ≤ 20)
    (m1 : (f1, lamO mg kindLam [("kinds", A.ck)] c1 y1) ∈ xs) (m2 : (f2, lamO mg ownLam [("tables", A.ct)] c2 y2) ∈ xs) (m3 : (f3, lamO mg laterLam [("later", A.cl)] c3 y3) ∈ xs) (m4 : (f4, lamO mg falseLam [] c4 y4) ∈ xs)
    (i1 : CodeIn xs c1) (i2 : CodeIn xs c2) (i3 : CodeIn xs c3) (i4 : CodeIn xs c4)
    (hP : PutAt (mkW ks vs kv ky) z) (hR : Rch (mkW ks vs kv ky) z k v) (hk : k < b)
    (ret : ∀ os' m' h' tk', Ok prog w A { c with os := os' } (n + 1) → (∀ y : Str, y ≠ Str.ofString "ahead" → y ≠ Str.ofString "at" → m' y = m y) → Fr h₀ L h' m' → News h₀ L h' (led A { c with os := os' } ++ xs) → Q .next { s with heap := h', toks := tk' }) :
    wpAny (model prog w) (ktrTop dp un gd "law" lawScope L a (.ref 53) (cellsOf A) outer) (execs putBody (envX "law" lawScope L a (.ref 53) (cellsOf A))) Q E s := by
  rw [put_eq]
  have Wy := ways_of (p := p) (loose := loose) (mean := mean) (mb := mb) N O D hky m1 m2 m3 m4 i1 i2 i3 i4
  have hpos := Wy.lts
  obtain ⟨z0, z6⟩ := rch_in hpos hR h0 h6
  obtain ⟨ev, hev⟩ := D.ve
  have hzo : z.toNat < c.os.length := by rw [O.ol]; omega
  obtain ⟨od, hod, hdd, hdi, hln⟩ := D.dk z.toNat (by omega)
  refine wpAny_execs_cons (putA B F X T N hms fun la m1' h1 tk1 hlt e1 e2 e3 F1 N1 => ?_)
  have w1 : ∀ y : Str, y ≠ Str.ofString "ahead" → y ≠ Str.ofString "at" → m1' y = m y := e3
  have nq := N1 _ (.tail _ (List.mem_append_right _ htq))
  have N1' : News h₀ L h1 ((la, PySem.W.listOf #[] 0) :: (tq, tupO #[.int 4 q1, .none, .int z q3]) :: (led A c ++ xs)) := fun q hq => by
    rcases List.mem_cons.mp hq with rfl | hq
    · exact N1 _ (.head _)
    · rcases List.mem_cons.mp hq with rfl | hq
      · exact nq
      · exact N1 q (.tail _ hq)
  refine wpAny_execs_cons (while_spec (s := { s with heap := h1, toks := tk1 }) (W := mkW ks vs kv ky) B F1 X T O N1' (fun q hq e => ?_) hroom e1 ((w1 _ (by decide) (by decide)).trans hmt) e2 h0 h6 D.vl D.vo hev (fun _ => rfl) hR (by omega) fun us e m2' h2 tk2 hus hul g1 F2 N2 => ?_)
  · have : q.1 < la := by
      rcases List.mem_cons.mp hq with rfl | hq
      · exact hlt _ (List.mem_append_right _ htq)
      · exact hlt _ hq
    exact Nat.lt_irrefl _ (e ▸ this)
  have w2 : ∀ y : Str, y ≠ Str.ofString "ahead" → y ≠ Str.ofString "at" → m2' y = m y := fun y a b => (g1 y b).trans (w1 y a b)
  refine wpAny_execs_cons (putIf (s := { s with heap := h2, toks := tk2 }) B F2 X T O D N2 hcy hky hus hul hroom hun ((g1 _ (by decide)).trans e1) ((w2 _ (by decide) (by decide)).trans hmt) z0 z6 hP.1 fun h3 tk3 F3 N3 => ?_)
  have N3b : News h₀ L h3 (led A c ++ xs) := fun q hq => N3 q (.tail _ (.tail _ hq))
  refine wpAny_execs_cons (putH (s := { s with heap := h3, toks := tk3 }) B F3 X T O D (News.cons' (News.cons' N3b (N3b _ (List.mem_append_right _ htq))) (N3b _ (List.mem_append_right _ htp))) hcy hky hroom hun ((w2 _ (by decide) (by decide)).trans hmh) ((w2 _ (by decide) (by decide)).trans hmt) z0 z6 fun h4 tk4 F4 N4 => ?_)
  have N4b : News h₀ L h4 (led A c ++ xs) := fun q hq => N4 q (.tail _ (.tail _ hq))
  refine wpAny_execs_cons (putS (s := { s with heap := h4, toks := tk4 }) (kk := kk) (kt := kt) B F4 X T O N4b hx htq hod hdd (by omega) hcy hky hroom hun ((w2 _ (by decide) (by decide)).trans hmt) ((w2 _ (by decide) (by decide)).trans hmk) z0 z6 fun h5 tk5 o' t hd' F5 N5 => ?_)
  have D5 := D.up (i := z.toNat) hzo hd' (by omega)
  have O5 := Ok.up (i := z.toNat) O hln hdi hd'
  have Wy5 := ways_of (p := p) (loose := loose) (mean := mean) (mb := mb) N5 O5 D5 hky m1 m2 m3 m4 i1 i2 i3 i4
  refine wpAny_execs_cons (putR (s := { s with heap := h5, toks := tk5 }) (kk := kk) (kt := kt) (z := z) B F5 X T O5 N5 hroom hun hw htq ((w2 _ (by decide) (by decide)).trans hmw) ((w2 _ (by decide) (by decide)).trans hms) ((w2 _ (by decide) (by decide)).trans hmb) hcy ((w2 _ (by decide) (by decide)).trans hmt) ((w2 _ (by decide) (by decide)).trans hmk) h0 h6 hb Wy5 ?_ fun h6' tk6 F6 N6 => wpAny_execs_nil ?_)
  · refine rd_after2 (W := mkW ks vs kv ky) (W' := mkW ks vs (kvUp kv z.toNat (stored (kv z.toNat) ky (.int (70 + kk) t))) ky) rfl rfl ?_ (fun u hu0 hne => ?_) hP.1 hpos hR h0 hk
    · show (valueAt (kvUp kv z.toNat _ z.toNat) ky).bind asInt = _
      rw [kvUp, if_pos rfl, stored_self]
      rfl
    · show (valueAt (kvUp kv z.toNat _ u.toNat) ky).bind asInt = (valueAt (kv u.toNat) ky).bind asInt
      rw [kvUp, if_neg (by omega)]
  · exact ret _ _ _ _ O5 w2 F6 N6
end Mine

end

section
-- A33
open PySem PySem.W PySem.Spec PySem.Calls PyProof.Rows
set_option maxRecDepth 100000
set_option linter.unusedVariables false
set_option maxHeartbeats 4000000
namespace Mine
theorem fresh33 : True := by
  k_with_none
  w_top off
  first | (walk1; fail) | trivial
theorem turnP {prog : Program} {w : World} {p : Program} {loose : List Str} {mean : ExcName → Option Value} {mg mb : Str → Option Value}
    {dp un : Nat} {gd : Option (List Code)} {a : Addr} {outer : List Env} {A₀ : Around} {base h₀ : Heap} {L : Addr} {m : Str → Option Value} {s : Shared} {Q : Flow → Shared → Prop} {E : Value → Shared → Prop}
    {A : Ad} {c : Co} {xs : List (Addr × Obj)} {tq : Addr} {z : Int} {q1 q3 : Tok}
    (B : Below A₀ base outer h₀) (F : Fr h₀ L s.heap m) (X : (hd.heap_39 w.params).In h₀) (T : Top p loose mean mg mb h₀)
    (N : News h₀ L s.heap (led A c ++ xs)) (hun : un + 100 < cLine) (htq : (tq, tupO #[.int 4 q1, .none, .int z q3]) ∈ xs) (hmt : m "told" = some (.ref tq))
    (ret : ∀ tk', wpAny (model prog w) (ktrTop dp un gd "law" lawScope L a (.ref 53) (cellsOf A) outer) (execs putBody (envX "law" lawScope L a (.ref 53) (cellsOf A))) Q E { s with toks := tk' }) :
    wpAny (model prog w) (ktrTop dp un gd "law" lawScope L a (.ref 53) (cellsOf A) outer) (exec (turnAt 6) (envX "law" lawScope L a (.ref 53) (cellsOf A))) Q E s := by
  obtain ⟨pos, he⟩ := t6_eq
  rw [he]
  generalize hS0 : whTest (turnAt 6) = S0
  generalize hS1 : elseOf (turnAt 6) = S1
  generalize hS2 : putBody = pb at ret ⊢
  clear hS1 he
  conv at hS0 => lhs; whnf
  subst hS0
  have nq := N _ (List.mem_append_right _ htq)
  have N2 : News h₀ L s.heap [(tq, tupO #[.int 4 q1, .none, .int z q3])] := fun q hq => by rw [List.mem_singleton.mp hq]; exact nq
  clear N
  k_with "eval Name" => first | refine nameX_L (by assumption) hmt ?_
  repeat' (first | (k_unfold; (try dsimp only)) | walk1 | (dsimp only; walk1) | fail "no step")
  all_goals exact ret _
end Mine

end

section
-- A34
open PySem PySem.W PySem.Spec PySem.Calls PyProof.Rows
set_option maxRecDepth 100000
set_option linter.unusedVariables false
set_option maxHeartbeats 4000000
namespace Mine
theorem fresh34 : True := by
  k_with_none
  w_top off
  first | (walk1; fail) | trivial
theorem turn_eq : bodyOf (lawBody.getD 6 default) = [turnAt 0, turnAt 1, turnAt 2, turnAt 3, turnAt 4, turnAt 5, turnAt 6] := rfl
theorem main_of {c c' : Co} (M : Main c) (h1 : c'.okl = c.okl) (h2 : c'.oll = c.oll) : Main c' := by
  unfold Main at *
  rw [h1, h2]; exact M
def Held (mg : Str → Option Value) (A : Ad) (xs : List (Addr × Obj)) (f2 : Addr) : Prop := ∃ c2 t2, (f2, lamO mg ownLam [("tables", A.ct)] c2 t2) ∈ xs ∧ CodeIn xs c2
def WaysIn (mg : Str → Option Value) (A : Ad) (xs : List (Addr × Obj)) (f2 : Addr) (m : Str → Option Value) : Prop :=
  ∃ wl f1 f3 f4 c1 c3 c4 t1 t3 t4, m "ways" = some (.ref wl) ∧ (wl, PySem.W.listOf #[.ref f1, .ref f2, .ref f3, .ref f4] 0) ∈ xs ∧ (f1, lamO mg kindLam [("kinds", A.ck)] c1 t1) ∈ xs ∧ (f3, lamO mg laterLam [("later", A.cl)] c3 t3) ∈ xs ∧ (f4, lamO mg falseLam [] c4 t4) ∈ xs ∧ CodeIn xs c1 ∧ CodeIn xs c3 ∧ CodeIn xs c4
theorem oneTurn {prog : Program} {w : World} {p : Program} {loose : List Str} {mean : ExcName → Option Value} {mg mb : Str → Option Value}
    {dp un : Nat} {gd : Option (List Code)} {a : Addr} {outer : List Env} {A₀ : Around} {base h₀ : Heap} {L : Addr} {m : Str → Option Value} {s : Shared} {Q : Flow → Shared → Prop} {E : Value → Shared → Prop}
    {A : Ad} {c : Co} {xs : List (Addr × Obj)} {n : Nat} {ps : Array Value} {f2 : Addr} {kk : Int} {kt : Tok}
    (B : Below A₀ base outer h₀) (F : Fr h₀ L s.heap m) (X : (hd.heap_39 w.params).In h₀) (T : Top p loose mean mg mb h₀) (C : CodeHd h₀ 53 51)
    (O : Ok prog w A c n) (M : Main c) (N : News h₀ L s.heap (led A c ++ xs)) (hx : Else A xs) (hroom : dp + 1 < recursionLimit) (hun : un + 100 < cLine) (hn : n ≤ 80) (ht : c.otab = tabObj ps) (hc : CodesOk ps xs) (hh : Held mg A xs f2) (hown : m "own" = some (.ref f2)) (htn : m "turn" = some (.int kk kt))
    (ret : ∀ c' ps' xs' m' h' tk', Ok prog w A c' (n + 1) → Main c' → c'.otab = tabObj ps' → CodesOk ps' xs' → Else A xs' → Held mg A xs' f2 → WaysIn mg A xs' f2 m' → m' "own" = some (.ref f2) → (∃ key, c'.ocy.data = .cell (some key) ∧ KeyV key) → (∀ q ∈ xs, q ∈ xs') → Fr h₀ L h' m' → News h₀ L h' (led A c' ++ xs') → Q .next { s with heap := h', toks := tk' }) :
    wpAny (model prog w) (ktrTop dp un gd "law" lawScope L a (.ref 53) (cellsOf A) outer) (execs (bodyOf (lawBody.getD 6 default)) (envX "law" lawScope L a (.ref 53) (cellsOf A))) Q E s := by
  rw [turn_eq]
  have hroom' : dp < recursionLimit := Nat.lt_of_succ_lt hroom
  refine wpAny_execs_cons (turnA B F X T O N hx hroom' fun c1 m1 h1 tk1 v tv key b tb O1 a1 a2 a3 a4 hcy hkv v0 v6 b20 ems emb em F1 N1 => ?_)
  have htn1 := (em "turn" (by decide) (by decide)).trans htn
  refine wpAny_execs_cons (turnB (s := { s with heap := h1, toks := tk1 }) B F1 X T O1 N1 hx hroom' htn1 hcy hkv v0 v6 b20 ems emb fun c2 m2 h2 tk2 v tv key b tb O2 b1 b2 b3 b4 hcy hkv v0 v6 b20 ems emb em2 F2 N2 => ?_)
  have htn2 := (em2 "turn" (by decide) (by decide)).trans htn1
  have hown2 : m2 "own" = some (.ref f2) := (em2 _ (by decide) (by decide)).trans ((em _ (by decide) (by decide)).trans hown)
  clear em em2
  have M2 : Main c2 := main_of M (b2.trans a2) (b1.trans a1)
  refine wpAny_execs_cons (turnC (s := { s with heap := h2, toks := tk2 }) B F2 X T C O2 N2 hx hroom' ((b3.trans a3).trans ht) hc hown2 fun f1 f3 f4 d1 d3 d4 y1 y3 y4 wl ps2 xs2 m3 h3 tk3 hc2 l1 l3 l4 i1 i3 i4 hw sub hx2 ewl em3 F3 N3 => ?_)
  generalize hc3 : ({ c2 with otab := tabObj ps2 } : Co) = c3 at N3
  have O3 : Ok prog w A c3 n := hc3 ▸ O2.setTab
  have M3 : Main c3 := hc3 ▸ main_of M2 rfl rfl
  have ht3 : c3.otab = tabObj ps2 := by rw [← hc3]
  have hcy3 : c3.ocy.data = .cell (some key) := by rw [← hc3]; exact hcy
  clear hc3
  obtain ⟨d2, y2, l2, i2⟩ := hh
  have l2 := sub _ l2
  have i2 := i2.mono sub
  obtain ⟨ks, vs, kv, D⟩ := dat_of O3 M3
  have hkv' := hkv
  obtain ⟨ky, hky⟩ := hkv
  have htn3 := (em3 "turn" (by decide)).trans htn2
  have hown3 : m3 "own" = some (.ref f2) := (em3 _ (by decide)).trans hown2
  have ems3 := (em3 "start" (by decide)).trans ems
  have emb3 := (em3 "bound" (by decide)).trans emb
  refine wpAny_execs_cons (turnD (s := { s with heap := h3, toks := tk3 }) B F3 X T O3 N3 hx2 hroom hw ewl ems3 emb3 hcy3 v0 v6 b20 (ways_of N3 O3 D hky l1 l2 l3 l4 i1 i2 i3 i4) fun tp code t1 th t2 z t3 m4 h4 tk4 hr emh em4 hx4 F4 N4 => ?_)
  generalize hxs4 : (tp, tupO #[.int code t1, thing th t2, .int z t3]) :: xs2 = xs4 at N4 hx4
  have sub4 : ∀ q ∈ xs2, q ∈ xs4 := fun q hq => hxs4 ▸ .tail _ hq
  have htp : (tp, tupO #[.int code t1, thing th t2, .int z t3]) ∈ xs4 := hxs4 ▸ .head _
  refine wpAny_execs_cons (turnE (s := { s with heap := h4, toks := tk4 }) hky B F4 X T O3 N4 hx4 hroom (sub4 _ hw) ((em4 _ (by decide)).trans ewl) ((em4 _ (by decide)).trans ems3) ((em4 _ (by decide)).trans emb3) hcy3 v0 v6 b20 (ways_of N4 O3 D hky (sub4 _ l1) (sub4 _ l2) (sub4 _ l3) (sub4 _ l4) (i1.mono sub4) (i2.mono sub4) (i3.mono sub4) (i4.mono sub4)) fun tq code' r1 th' r2 z' r3 m5 h5 tk5 hr' emt em5 hx5 F5 N5 => ?_)
  generalize hxs5 : (tq, tupO #[.int code' r1, thing th' r2, .int z' r3]) :: xs4 = xs5 at N5 hx5
  have sub5 : ∀ q ∈ xs4, q ∈ xs5 := fun q hq => hxs5 ▸ .tail _ hq
  have htq : (tq, tupO #[.int code' r1, thing th' r2, .int z' r3]) ∈ xs5 := hxs5 ▸ .head _
  have s5 : ∀ q ∈ xs2, q ∈ xs5 := fun q hq => sub5 q (sub4 q hq)
  have htp := sub5 _ htp
  clear hxs4 hxs5
  have ew : ∀ y : Str, y ≠ Str.ofString "had" → y ≠ Str.ofString "told" → m5 y = m3 y := fun y p q => (em5 y q).trans (em4 y p)
  have ewl5 := (ew _ (by decide) (by decide)).trans ewl
  have ems5 := (ew _ (by decide) (by decide)).trans ems3
  have emb5 := (ew _ (by decide) (by decide)).trans emb3
  have htn5 := (ew _ (by decide) (by decide)).trans htn3
  have hown5 := (ew _ (by decide) (by decide)).trans hown3
  have emh5 := (em5 _ (by decide)).trans emh
  have l1 := s5 _ l1
  have l2 := s5 _ l2
  have l3 := s5 _ l3
  have l4 := s5 _ l4
  have i1 := i1.mono s5
  have i2 := i2.mono s5
  have i3 := i3.mono s5
  have i4 := i4.mono s5
  have hw := s5 _ hw
  have hc5 : CodesOk ps2 xs5 := ⟨hc2.1, fun pos => (hc2.2 pos).imp id fun ⟨c2, x, y⟩ => ⟨c2, x, y.mono s5⟩⟩
  refine wpAny_execs_cons (turnG (s := { s with heap := h5, toks := tk5 }) B F5 X T O3 N5 hx5 hroom hw ewl5 ems5 emb5 hcy3 v0 v6 b20 (ways_of N5 O3 D hky l1 l2 l3 l4 i1 i2 i3 i4) fun h6 tk6 F6 N6 => ?_)
  rcases wr_cases (mkW ks vs kv ky) b v with ⟨z0, k, e1, hP, hR, hk, e2⟩ | ⟨z0, c0, e1, e2, hcc⟩
  · rw [e1] at hr'
    rw [e2] at hr
    obtain ⟨rfl, rfl, rfl⟩ : 4 = code' ∧ none = th' ∧ z0 = z' := by simpa using hr'
    obtain ⟨rfl, rfl, rfl⟩ : 0 = code ∧ (mkW ks vs kv ky).hs z0 = th ∧ z0 = z := by simpa using hr
    refine wpAny_execs_cons (turnP (s := { s with heap := h6, toks := tk6 }) B F6 X T N6 hun htq emt fun tk7 => ?_)
    refine putAll (s := { s with heap := h6, toks := tk7 }) B F6 X T O3 D N6 hx5 hroom hun (by omega) hw htp htq ewl5 ems5 emb5 emh5 emt htn5 hcy3 hky v0 v6 b20 l1 l2 l3 l4 i1 i2 i3 i4 hP hR hk fun os' m7 h7 tk8 O7 em7 F7 N7 => wpAny_execs_nil ?_
    exact ret _ ps2 xs5 m7 h7 tk8 O7 (main_of M3 rfl rfl) ht3 hc5 hx5 ⟨d2, y2, l2, i2⟩ ⟨wl, f1, f3, f4, d1, d3, d4, y1, y3, y4, (em7 _ (by decide) (by decide)).trans ewl5, hw, l1, l3, l4, i1, i3, i4⟩ ((em7 _ (by decide) (by decide)).trans hown5) ⟨key, hcy3, hkv'⟩ (fun q hq => s5 q (sub q hq)) F7 N7
  · rw [e1] at hr'
    rw [e2] at hr
    obtain ⟨rfl, rfl, rfl⟩ : c0 = code' ∧ none = th' ∧ z0 = z' := by simpa using hr'
    obtain ⟨rfl, rfl, rfl⟩ : c0 = code ∧ none = th ∧ z0 = z := by simpa using hr
    refine wpAny_execs_cons (turnN (s := { s with heap := h6, toks := tk6 }) B F6 X T N6 hroom hun htp htq emh5 emt hcc fun h7 tk7 F7 N7 => wpAny_execs_nil ?_)
    exact ret c3 ps2 xs5 m5 h7 tk7 ⟨O3.nd, O3.dl, O3.ol, O3.lo, O3.ct, O3.cl, O3.ck, O3.cb, O3.cy, O3.ob, O3.ott, O3.oll, O3.okl, fun o ho => (O3.dk o ho).imp fun kvs' x => ⟨x.1, x.2.1, Nat.le_succ_of_le x.2.2⟩⟩ M3 ht3 hc5 hx5 ⟨d2, y2, l2, i2⟩ ⟨wl, f1, f3, f4, d1, d3, d4, y1, y3, y4, ewl5, hw, l1, l3, l4, i1, i3, i4⟩ hown5 ⟨key, hcy3, hkv'⟩ (fun q hq => s5 q (sub q hq)) F7 N7
end Mine

end

section
-- A35
open PySem PySem.W PySem.Spec PySem.Calls PyProof.Rows
set_option maxRecDepth 100000
set_option linter.unusedVariables false
set_option maxHeartbeats 4000000
namespace Mine
theorem fresh35 : True := by
  k_with_none
  w_top off
  first | (walk1; fail) | trivial
theorem part5 {prog : Program} {w : World} {p : Program} {loose : List Str} {mean : ExcName → Option Value} {mg mb : Str → Option Value}
    {dp un : Nat} {gd : Option (List Code)} {a : Addr} {outer : List Env} {A₀ : Around} {base h₀ : Heap} {L : Addr} {m : Str → Option Value} {s : Shared} {Q : Flow → Shared → Prop} {E : Value → Shared → Prop}
    {A : Ad} {c : Co} {n : Nat}
    (B : Below A₀ base outer h₀) (F : Fr h₀ L s.heap m) (X : (hd.heap_39 w.params).In h₀) (T : Top p loose mean mg mb h₀) (C : CodeHd h₀ 53 51)
    (O : Ok prog w A c n) (N : News h₀ L s.heap (led A c)) (ht : c.otab = tabObj #[])
    (ret : ∀ f2 ps xs m' h' tk', CodesOk ps xs → Held mg A xs f2 → Else A xs → m' "own" = some (.ref f2) → Fr h₀ L h' m' → News h₀ L h' (led A { c with otab := tabObj ps } ++ xs) → Q .next { s with heap := h', toks := tk' }) :
    wpAny (model prog w) (ktrTop dp un gd "law" lawScope L a (.ref 53) (cellsOf A) outer) (exec (lawBody.getD 5 default) (envX "law" lawScope L a (.ref 53) (cellsOf A))) Q E s := by
  generalize hS0 : lawBody.getD 5 default = S0
  conv at hS0 => lhs; whnf
  subst hS0
  repeat' (first | (k_unfold; (try dsimp only)) | walk1 | (dsimp only; walk1) | fail "no step")
  refine lam_make (xs := []) F T C O (by simpa using N) (fun _ h => by cases h) ht CodesOk.nil rfl rfl fun f2 c2 t2 ps2 xs2 h1 tk1 hc2 m2 i2 s2 e2 F1 N1 => ?_
  clear F N
  repeat' (first | (k_unfold; (try dsimp only)) | walk1 | (dsimp only; walk1) | fail "no step")
  (rename Fr _ _ _ _ => FF); (rename News _ _ _ _ => NN)
  exact ret f2 ps2 xs2 _ _ _ hc2 ⟨c2, t2, m2, i2⟩ e2 rfl FF NN

theorem keepF {h₀ h : Heap} {L I : Addr} {l xs : List (Addr × Obj)} {oI : Obj} (N : News h₀ L h (l ++ xs)) (hI : (I, oI) ∈ xs) {q : Addr × Obj} (hq : q ∈ xs) (hne : q.2.data ≠ oI.data) : q ∈ xs.filter (fun q => decide (q.1 ≠ I)) := by
  refine List.mem_filter.mpr ⟨hq, decide_eq_true fun e => hne ?_⟩
  have e1 := (N q (List.mem_append_right _ hq)).1
  have e2 := (N (I, oI) (List.mem_append_right _ hI)).1
  rw [e] at e1
  rw [e1] at e2
  exact congrArg Obj.data (Option.some.inj e2)
theorem codeF {h₀ h : Heap} {L I : Addr} {l xs : List (Addr × Obj)} {oI : Obj} {x y z : Int} (N : News h₀ L h (l ++ xs)) (hI : (I, oI) ∈ xs) (hd : oI.data = .fields #[rawInt x, rawInt y, rawInt z]) {c' : Addr} (hc : CodeIn xs c') : CodeIn (xs.filter (fun q => decide (q.1 ≠ I))) c' := by
  obtain ⟨oc, vs, t, hm, hdc, hv⟩ := hc
  refine ⟨oc, vs, t, keepF N hI hm (fun e => ?_), hdc, hv⟩
  have e' : oc.data = oI.data := e
  rw [hdc, hd] at e'
  have : vs = #[rawInt x, rawInt y, rawInt z] := by injection e'
  rw [this] at hv
  cases hv
theorem eval_range6 {prog : Program} {w : World} {p : Program} {loose : List Str} {mean : ExcName → Option Value} {mg mb : Str → Option Value}
    {dp un : Nat} {gd : Option (List Code)} {a : Addr} {outer : List Env} {A₀ : Around} {base h₀ : Heap} {L : Addr} {m : Str → Option Value} {s : Shared} {Q E : Value → Shared → Prop} {A : Ad}
    (B : Below A₀ base outer h₀) (F : Fr h₀ L s.heap m) (X : (hd.heap_39 w.params).In h₀) (T : Top p loose mean mg mb h₀)
    (ret : ∀ r t u v h' tk', Keep [] s.heap h' → IsRange h' r 0 6 1 t u v → Q (.ref r) { s with heap := h', toks := tk' }) :
    wpAny (model prog w) (ktrTop dp un gd "law" lawScope L a (.ref 53) (cellsOf A) outer) (eval (forIter (lawBody.getD 6 default)) (envX "law" lawScope L a (.ref 53) (cellsOf A))) Q E s := by
  generalize hS0 : forIter (lawBody.getD 6 default) = S0
  conv at hS0 => lhs; whnf
  subst hS0
  have hSc : ∃ sc, lawScope = sc := ⟨_, rfl⟩
  obtain ⟨sc, hSc⟩ := hSc
  rw [hSc]
  conv at hSc => lhs; whnf
  subst hSc
  have N : News h₀ L s.heap [] := News.nil
  repeat' (first | (k_unfold; (try dsimp only)) | walk1 | (dsimp only; walk1) | fail "no step")
  rename_i h1 tk1 t1 u1 v1 hR F1 N1 hk
  exact ret _ _ _ _ _ _ (fun c o _ e => hk c o e) hR
theorem for6_eq : ∃ px pos, lawBody.getD 6 default = .For (.Name "turn" px) (forIter (lawBody.getD 6 default)) (bodyOf (lawBody.getD 6 default)) [] pos := ⟨_, _, rfl⟩
theorem part6 {prog : Program} {w : World} {p : Program} {loose : List Str} {mean : ExcName → Option Value} {mg mb : Str → Option Value}
    {dp un : Nat} {gd : Option (List Code)} {a : Addr} {outer : List Env} {A₀ : Around} {base h₀ : Heap} {L : Addr} {m : Str → Option Value} {s : Shared} {Q : Flow → Shared → Prop} {E : Value → Shared → Prop}
    {A : Ad} {c : Co} {xs : List (Addr × Obj)} {ps : Array Value} {f2 : Addr}
    (B : Below A₀ base outer h₀) (F : Fr h₀ L s.heap m) (X : (hd.heap_39 w.params).In h₀) (T : Top p loose mean mg mb h₀) (C : CodeHd h₀ 53 51)
    (O : Ok prog w A c 18) (M : Main c) (N : News h₀ L s.heap (led A c ++ xs)) (hx : Else A xs) (hroom : dp + 1 < recursionLimit) (hun : un + 100 < cLine) (ht : c.otab = tabObj ps) (hc : CodesOk ps xs) (hh : Held mg A xs f2) (hown : m "own" = some (.ref f2))
    (hE : PassesOwn (model prog w) (ktrTop dp un gd "law" lawScope L a (.ref 53) (cellsOf A) outer) (envX "law" lawScope L a (.ref 53) (cellsOf A)) E)
    (ret : ∀ c' ps' xs' m' h' tk', Ok prog w A c' 24 → Main c' → c'.otab = tabObj ps' → CodesOk ps' xs' → Else A xs' → Held mg A xs' f2 → WaysIn mg A xs' f2 m' → (∃ key, c'.ocy.data = .cell (some key) ∧ KeyV key) → Fr h₀ L h' m' → News h₀ L h' (led A c' ++ xs') → Q .next { s with heap := h', toks := tk' }) :
    wpAny (model prog w) (ktrTop dp un gd "law" lawScope L a (.ref 53) (cellsOf A) outer) (exec (lawBody.getD 6 default) (envX "law" lawScope L a (.ref 53) (cellsOf A))) Q E s := by
  obtain ⟨px, pos, he⟩ := for6_eq
  rw [he]
  refine For_turns (h₀ := h₀) F ?_ (fun _ => rfl) hE
  refine eval_range6 B F X T fun r t u v h1 tk1 K1 hR => ?_
  have F1 := frKeep (bs := []) F List.not_mem_nil (fun b hb => absurd hb List.not_mem_nil) K1
  have N1 := newsKeep (bs := []) N (fun _ _ hb => absurd hb List.not_mem_nil) K1
  refine wpAny_pyIter_range (s := { s with heap := h1, toks := tk1 }) hR (by decide) ?_
  have hIall : h1.objs.size ∉ A.all := off_all O N1 (get_none_size h1)
  refine ⟨h1.objs.size, [h1.objs.size], [h1.objs.size], 6, _, _, _, m, led A c ++ xs, fun i m₁ news₁ => ∃ (c' : Co) (ps' : Array Value) (xs' : List (Addr × Obj)), news₁ = led A c' ++ xs' ∧ Ok prog w A c' (18 + i) ∧ Main c' ∧ c'.otab = tabObj ps' ∧ CodesOk ps' xs' ∧ Else A xs' ∧ Held mg A xs' f2 ∧ m₁ "own" = some (.ref f2) ∧ (0 < i → WaysIn mg A xs' f2 m₁ ∧ (∃ key, c'.ocy.data = .cell (some key) ∧ KeyV key)), rfl,
    KTurns.ofWalks (LCg.range_walks rfl 0 6) (fun _ _ _ _ _ _ h => wpAny_pure h), ?_, ?_, ?_, (by exact Heap.get?_push_size h1 rfl), F1.push _, N1.grown (fun _ _ e => Heap.get?_push_of_some _ e), ⟨c, ps, xs, rfl, O, M, ht, hc, hx, hh, hown, fun h => absurd h (Nat.lt_irrefl _)⟩, ?_, ?_⟩
  · intro hm
    exact absurd F1.ns.lt ((List.mem_singleton.mp hm) ▸ Nat.lt_irrefl _)
  · intro b hb
    rw [List.mem_singleton.mp hb]
    exact next_is_new F1
  · intro q hq hI
    exact absurd (Heap.lt_size (N1 q hq).1) ((List.mem_singleton.mp hI) ▸ Nat.lt_irrefl _)
  · rintro i v m₁ news₁ h₂ tk₂ own hi ⟨t', rfl⟩ ⟨c', ps', xs', rfl, O', M', ht', hc', hx', hh', hown', _⟩ hoff howned hget hcov st F₂ N₂
    have hst : h₂.get? h1.objs.size = some _ := st
    have hIown := hcov _ (List.mem_singleton.mpr rfl) (next_is_new F1) _ hst
    have hElse : Else A (xs' ++ own) := fun q hq => by
      rcases List.mem_append.mp hq with hq | hq
      · exact hx' q hq
      · rw [List.mem_singleton.mp (howned q hq)]; exact hIall
    have N₂' : News h₀ L h₂ (led A c' ++ (xs' ++ own)) := fun q hq => N₂ q (by
      rcases List.mem_append.mp hq with hq | hq
      · exact List.mem_append_right _ (List.mem_append_left _ hq)
      · rcases List.mem_append.mp hq with hq | hq
        · exact List.mem_append_right _ (List.mem_append_right _ hq)
        · exact List.mem_append_left _ hq)
    have sl : ∀ q ∈ xs', q ∈ xs' ++ own := fun q hq => List.mem_append_left _ hq
    refine wpAny_assign_Name (wpAny_storeName_local rfl F₂.ns (fun h₃ hn hs => ?_) rfl)
    have F₃ := F₂.set hn hs
    have N₃ := N₂'.set hs
    refine oneTurn (s := { s with heap := h₃, toks := tk₂ + 1 }) (n := 18 + i) (kk := 0 + (i : Int)) (kt := t') B F₃ X T C O' M' N₃ hElse hroom hun (by omega) ht' ⟨hc'.1, fun pos => (hc'.2 pos).imp id fun ⟨c2, x, y⟩ => ⟨c2, x, y.mono sl⟩⟩ (let ⟨c2, t2, x, y⟩ := hh'; ⟨c2, t2, sl _ x, y.mono sl⟩) ((if_neg (by decide)).trans hown') (if_pos rfl) fun c4 ps4 xs4 m4 h4 tk4 O4 M4 ht4 hc4 hx4 hh4 hw4 hown4 hcy4 sub4 F4 N4 => ?_
    have hI4 := sub4 _ (List.mem_append_right _ hIown)
    have hcode : ∀ {c2 : Addr}, CodeIn xs4 c2 → CodeIn (xs4.filter (fun q => decide (q.1 ≠ h1.objs.size))) c2 := fun x => codeF N4 hI4 rfl x
    have sf : ∀ q ∈ xs4.filter (fun q => decide (q.1 ≠ h1.objs.size)), q ∈ xs4 := fun q hq => (List.mem_filter.mp hq).1
    refine ⟨rfl, h4, tk4, _, led A c4 ++ xs4.filter (fun q => decide (q.1 ≠ h1.objs.size)), rfl, F4, fun q hq => N4 q ?_, fun q hq hI => ?_, c4, ps4, _, rfl, O4, M4, ht4, ⟨hc4.1, fun pos => (hc4.2 pos).imp id fun ⟨c2, x, y⟩ => ⟨c2, x, hcode y⟩⟩, fun q hq => hx4 q (sf q hq), ?_, hown4, fun _ => ⟨?_, hcy4⟩⟩
    · rcases List.mem_append.mp hq with hq | hq
      · exact List.mem_append_right _ (sub4 _ (List.mem_append_right _ hq))
      · rcases List.mem_append.mp hq with hq | hq
        · exact List.mem_append_left _ hq
        · exact List.mem_append_right _ (sf q hq)
    · rcases List.mem_append.mp hq with hq | hq
      · exact hIall ((List.mem_singleton.mp hI) ▸ led_sub q hq)
      · exact absurd (List.mem_singleton.mp hI) (of_decide_eq_true (List.mem_filter.mp hq).2)
    · obtain ⟨c2, t2, x, y⟩ := hh4
      exact ⟨c2, t2, keepF N4 hI4 x (fun e => by cases e), hcode y⟩
    · obtain ⟨wl, f1, f3, f4, c1, c3, c4', t1, t3, t4, a0, a1, a2, a3, a4, a5, a6, a7⟩ := hw4
      exact ⟨wl, f1, f3, f4, c1, c3, c4', t1, t3, t4, a0, keepF N4 hI4 a1 (fun e => by cases e), keepF N4 hI4 a2 (fun e => by cases e), keepF N4 hI4 a3 (fun e => by cases e), keepF N4 hI4 a4 (fun e => by cases e), hcode a5, hcode a6, hcode a7⟩
  · rintro h' tk m' news' F' N' _ ⟨c', ps', xs', rfl, O', M', ht', hc', hx', hh', hown', hw'⟩
    obtain ⟨hw1, hw2⟩ := hw' (by decide)
    exact ret c' ps' xs' m' h' tk O' M' ht' hc' hx' hh' hw1 hw2 F' N'
end Mine

end

section
-- A36
open PySem PySem.W PySem.Spec PySem.Calls PyProof.Rows
set_option maxRecDepth 100000
set_option linter.unusedVariables false
set_option maxHeartbeats 4000000
namespace Mine
theorem fresh36 : True := by
  k_with_none
  w_top off
  first | (walk1; fail) | trivial
theorem part7 {prog : Program} {w : World} {p : Program} {loose : List Str} {mean : ExcName → Option Value} {mg mb : Str → Option Value}
    {dp un : Nat} {gd : Option (List Code)} {a : Addr} {outer : List Env} {A₀ : Around} {base h₀ : Heap} {L : Addr} {m : Str → Option Value} {s : Shared} {Q : Flow → Shared → Prop} {E : Value → Shared → Prop}
    {A : Ad} {c : Co} {xs : List (Addr × Obj)} {n : Nat} {f2 : Addr}
    (B : Below A₀ base outer h₀) (F : Fr h₀ L s.heap m) (X : (hd.heap_39 w.params).In h₀) (T : Top p loose mean mg mb h₀)
    (O : Ok prog w A c n) (M : Main c) (N : News h₀ L s.heap (led A c ++ xs)) (hroom : dp + 1 < recursionLimit) (hun : un + 100 < cLine) (hh : Held mg A xs f2) (hw : WaysIn mg A xs f2 m) (hk : ∃ key, c.ocy.data = .cell (some key) ∧ KeyV key)
    (ret : ∀ h' tk', Fr h₀ L h' m → News h₀ L h' (led A c ++ xs) → Q (.ret (.bool true)) { s with heap := h', toks := tk' }) :
    wpAny (model prog w) (ktrTop dp un gd "law" lawScope L a (.ref 53) (cellsOf A) outer) (exec (lawBody.getD 7 default) (envX "law" lawScope L a (.ref 53) (cellsOf A))) Q E s := by
  generalize hS0 : lawBody.getD 7 default = S0
  conv at hS0 => lhs; whnf
  subst hS0
  obtain ⟨wl, f1, f3, f4, c1, c3, c4, y1, y3, y4, hmw, hw, l1, l3, l4, i1, i3, i4⟩ := hw
  obtain ⟨c2, y2, l2, i2⟩ := hh
  obtain ⟨key, _, ky, hky⟩ := hk
  obtain ⟨ks, vs, kv, D⟩ := dat_of O M
  have Wy := ways_of (p := p) (loose := loose) (mean := mean) (mb := mb) N O D hky l1 l2 l3 l4 i1 i2 i3 i4
  have hkb : (mkW ks vs kv ky).kb 0 = true := by
    show ks.getD 0 false = true
    rw [List.getD, D.k0]; rfl
  have hwn : wrN (mkW ks vs kv ky) 5 0 = (5, none, 0) := wn_first hkb
  have gw := (N _ (List.mem_append_right _ hw)).1
  dsimp only at gw
  have hN : ∀ q, q ∈ led A c ++ xs → s.heap.get? q.1 = some q.2 ∧ q.1 ≠ L ∧ h₀.get? q.1 = none := N
  clear N
  k_with "subscriptTail Name Constant ref int" => k_dflt refine itemB (vs := #[.ref f1, .ref f2, .ref f3, .ref f4]) ⟨_, gw, rfl, _, rfl⟩ (by decide) (by decide) rfl ?_
  k_with "eval Name" => first | refine nameX_L (by assumption) hmw ?_
  repeat' (first | (k_unfold; (try dsimp only)) | walk1 | (dsimp only; walk1) | fail "no step")
  k_dflt (refine' write_spec_n (W := mkW ks vs kv ky) (key := key) (f1 := f1) (f2 := f2) (f3 := f3) (f4 := f4) (v := 0) (n := 5) ?B ?F ?X ?T ?k ?Wy ?kz ?ky ?kn ?d ?_)
  case B => k_asm
  case F => k_asm
  case X => k_asm
  case T => k_asm
  case k => k_dflt (exact rfl)
  case Wy => exact Wy
  case kz => decide
  case ky => decide
  case kn => decide
  case d => assumption
  intro tp code t1 th t2 z t3 h' tk' hr K' g1 g2
  rw [hwn] at hr
  obtain ⟨rfl, rfl, rfl⟩ : 5 = code ∧ none = th ∧ 0 = z := by simpa using hr
  have F' := frKeep (bs := []) F List.not_mem_nil (fun b hb => absurd hb List.not_mem_nil) K'
  have N' := newsKeep (bs := []) (show News h₀ L s.heap (led A c ++ xs) from hN) (fun _ _ hb => absurd hb List.not_mem_nil) K'
  have htp := fresh_news F g2
  clear hN F
  have N2 : News h₀ L h' ((tp, tupO #[.int 5 t1, thing none t2, .int 0 t3]) :: (led A c ++ xs)) := News.cons' N' ⟨g1, htp⟩
  dsimp only [thing] at N2
  clear N'
  dsimp only
  repeat' (first | (k_unfold; (try dsimp only)) | walk1 | (dsimp only; walk1) | fail "no step")
  (rename Fr _ _ _ _ => FF); (rename News _ _ _ _ => NN)
  exact ret _ _ FF fun q hq => NN q (.tail _ (.tail _ hq))
end Mine

end

section
-- A37
open PySem PySem.W PySem.Spec PySem.Calls PyProof.Rows
set_option maxRecDepth 100000
set_option linter.unusedVariables false
set_option maxHeartbeats 200000
namespace Mine
theorem fresh37 : True := by
  k_with_none
  w_top off
  first | (walk1; fail) | trivial

theorem law7 {prog : Program} {w : World} {p : Program} {loose : List Str} {mean : ExcName → Option Value} {mg mb : Str → Option Value}
    {dp un : Nat} {gd : Option (List Code)} {a : Addr} {outer : List Env} {A₀ : Around} {base h₀ : Heap} {L : Addr} {m : Str → Option Value} {s : Shared} {Q : Flow → Shared → Prop} {E : Value → Shared → Prop}
    {A : Ad} {c : Co} {xs : List (Addr × Obj)} {n : Nat} {f2 : Addr} {ps : Array Value}
    (B : Below A₀ base outer h₀) (F : Fr h₀ L s.heap m) (X : (hd.heap_39 w.params).In h₀) (T : Top p loose mean mg mb h₀)
    (O : Ok prog w A c n) (M : Main c) (N : News h₀ L s.heap (led A c ++ xs)) (hr1 : dp + 1 < recursionLimit) (hun : un + 100 < cLine) (hh : Held mg A xs f2) (hw : WaysIn mg A xs f2 m) (ht : c.otab = tabObj ps) (hk : ∃ key, c.ocy.data = .cell (some key) ∧ KeyV key)
    (ret : ∀ h' tk' m' news' ps, (51, tabObj ps) ∈ news' → Fr h₀ L h' m' → News h₀ L h' news' → Q (.ret (.bool true)) { s with heap := h', toks := tk' }) :
    wpAny (model prog w) (ktrTop dp un gd "law" lawScope L a (.ref 53) (cellsOf A) outer) (execs [lawBody.getD 7 default] (envX "law" lawScope L a (.ref 53) (cellsOf A))) Q E s := by
  refine wpAny_execs_cons ?_
  refine part7 B F X T O M N hr1 hun hh hw hk fun h6 tk6 F6 N6 => ?_
  refine ret _ _ _ _ ps (List.mem_append_left _ ?_) F6 N6
  rw [← ht]
  exact .tail _ (.tail _ (.tail _ (.tail _ (.tail _ (.tail _ (.tail _ (.tail _ (.tail _ (.head _)))))))))

theorem law6 {prog : Program} {w : World} {p : Program} {loose : List Str} {mean : ExcName → Option Value} {mg mb : Str → Option Value}
    {dp un : Nat} {gd : Option (List Code)} {a : Addr} {outer : List Env} {A₀ : Around} {base h₀ : Heap} {L : Addr} {m : Str → Option Value} {s : Shared} {Q : Flow → Shared → Prop} {E : Value → Shared → Prop}
    {A : Ad} {c : Co} {xs : List (Addr × Obj)} {ps : Array Value} {f2 : Addr}
    (B : Below A₀ base outer h₀) (F : Fr h₀ L s.heap m) (X : (hd.heap_39 w.params).In h₀) (T : Top p loose mean mg mb h₀)
    (C : CodeHd h₀ 53 51) (O : Ok prog w A c 18) (M : Main c) (N : News h₀ L s.heap (led A c ++ xs)) (hx : Else A xs) (hr1 : dp + 1 < recursionLimit) (hun : un + 100 < cLine) (ht : c.otab = tabObj ps) (hc : CodesOk ps xs) (hh : Held mg A xs f2) (hown : m "own" = some (.ref f2)) (hE : PassesOwn (model prog w) (ktrTop dp un gd "law" lawScope L a (.ref 53) (cellsOf A) outer) (envX "law" lawScope L a (.ref 53) (cellsOf A)) E)
    (ret : ∀ h' tk' m' news' ps, (51, tabObj ps) ∈ news' → Fr h₀ L h' m' → News h₀ L h' news' → Q (.ret (.bool true)) { s with heap := h', toks := tk' }) :
    wpAny (model prog w) (ktrTop dp un gd "law" lawScope L a (.ref 53) (cellsOf A) outer) (execs [lawBody.getD 6 default, lawBody.getD 7 default] (envX "law" lawScope L a (.ref 53) (cellsOf A))) Q E s := by
  refine wpAny_execs_cons ?_
  refine part6 B F X T C O M N hx hr1 hun ht hc hh hown hE fun c5 ps5 xs5 m5 h5 tk5 O5 M5 ht5 hc5 hx5 hh5 hw5 hk5 F5 N5 => ?_
  exact law7 (s := { s with heap := h5, toks := tk5 }) B F5 X T O5 M5 N5 hr1 hun hh5 hw5 ht5 hk5 ret

theorem law5 {prog : Program} {w : World} {p : Program} {loose : List Str} {mean : ExcName → Option Value} {mg mb : Str → Option Value}
    {dp un : Nat} {gd : Option (List Code)} {a : Addr} {outer : List Env} {A₀ : Around} {base h₀ : Heap} {L : Addr} {m : Str → Option Value} {s : Shared} {Q : Flow → Shared → Prop} {E : Value → Shared → Prop}
    {A : Ad} {c : Co}
    (B : Below A₀ base outer h₀) (F : Fr h₀ L s.heap m) (X : (hd.heap_39 w.params).In h₀) (T : Top p loose mean mg mb h₀)
    (C : CodeHd h₀ 53 51) (O : Ok prog w A c 18) (M : Main c) (N : News h₀ L s.heap (led A c)) (ht : c.otab = tabObj #[]) (hr1 : dp + 1 < recursionLimit) (hun : un + 100 < cLine) (hE : PassesOwn (model prog w) (ktrTop dp un gd "law" lawScope L a (.ref 53) (cellsOf A) outer) (envX "law" lawScope L a (.ref 53) (cellsOf A)) E)
    (ret : ∀ h' tk' m' news' ps, (51, tabObj ps) ∈ news' → Fr h₀ L h' m' → News h₀ L h' news' → Q (.ret (.bool true)) { s with heap := h', toks := tk' }) :
    wpAny (model prog w) (ktrTop dp un gd "law" lawScope L a (.ref 53) (cellsOf A) outer) (execs [lawBody.getD 5 default, lawBody.getD 6 default, lawBody.getD 7 default] (envX "law" lawScope L a (.ref 53) (cellsOf A))) Q E s := by
  refine wpAny_execs_cons ?_
  refine part5 B F X T C O N ht fun f2 ps xs m4 h4 tk4 hc4 hh4 hx4 hown4 F4 N4 => ?_
  exact law6 (s := { s with heap := h4, toks := tk4 }) (c := { c with otab := tabObj ps }) B F4 X T C O.setTab (main_of M rfl rfl) N4 hx4 hr1 hun rfl hc4 hh4 hown4 hE ret

theorem law4 {prog : Program} {w : World} {p : Program} {loose : List Str} {mean : ExcName → Option Value} {mg mb : Str → Option Value}
    {dp un : Nat} {gd : Option (List Code)} {a : Addr} {outer : List Env} {A₀ : Around} {base h₀ : Heap} {L : Addr} {m : Str → Option Value} {s : Shared} {Q : Flow → Shared → Prop} {E : Value → Shared → Prop}
    {A : Ad} {c : Co} {e : Nat} {vs : List Value}
    (B : Below A₀ base outer h₀) (F : Fr h₀ L s.heap m) (X : (hd.heap_39 w.params).In h₀) (T : Top p loose mean mg mb h₀)
    (C : CodeHd h₀ 53 51) (O : Ok prog w A c 18) (N : News h₀ L s.heap (led A c)) (hv6 : vs.length = 6) (hvs : ∀ v ∈ vs, Later v) (hl : c.oll = W.listOf vs.toArray e) (ht : c.otab = tabObj #[]) (hr0 : dp < recursionLimit) (hr1 : dp + 1 < recursionLimit) (hun : un + 100 < cLine) (hE : PassesOwn (model prog w) (ktrTop dp un gd "law" lawScope L a (.ref 53) (cellsOf A) outer) (envX "law" lawScope L a (.ref 53) (cellsOf A)) E)
    (ret : ∀ h' tk' m' news' ps, (51, tabObj ps) ∈ news' → Fr h₀ L h' m' → News h₀ L h' news' → Q (.ret (.bool true)) { s with heap := h', toks := tk' }) :
    wpAny (model prog w) (ktrTop dp un gd "law" lawScope L a (.ref 53) (cellsOf A) outer) (execs [lawBody.getD 4 default, lawBody.getD 5 default, lawBody.getD 6 default, lawBody.getD 7 default] (envX "law" lawScope L a (.ref 53) (cellsOf A))) Q E s := by
  refine wpAny_execs_cons ?_
  refine @part4 prog w p loose mean mg mb dp un gd a outer A₀ base h₀ L m s _ E A c e vs B F X T O N hv6 hvs hl ht hr0 ?_
  intro ds3 c3 h3 tk3 O3 M3 ht3 F3 N3
  exact law5 (s := { s with heap := h3, toks := tk3 }) (A := { A with ds := ds3 }) B F3 X T C O3 M3 N3 ht3 hr1 hun hE ret

theorem law3 {prog : Program} {w : World} {p : Program} {loose : List Str} {mean : ExcName → Option Value} {mg mb : Str → Option Value}
    {dp un : Nat} {gd : Option (List Code)} {a : Addr} {outer : List Env} {A₀ : Around} {base h₀ : Heap} {L : Addr} {m : Str → Option Value} {s : Shared} {Q : Flow → Shared → Prop} {E : Value → Shared → Prop}
    {A : Ad} {c : Co} {e : Nat}
    (B : Below A₀ base outer h₀) (F : Fr h₀ L s.heap m) (X : (hd.heap_39 w.params).In h₀) (T : Top p loose mean mg mb h₀)
    (C : CodeHd h₀ 53 51) (O : Ok prog w A c 0) (N : News h₀ L s.heap (led A c)) (hl : c.oll = W.listOf #[] e) (ht : c.otab = tabObj #[]) (hr0 : dp < recursionLimit) (hr1 : dp + 1 < recursionLimit) (hun : un + 100 < cLine) (hE : PassesOwn (model prog w) (ktrTop dp un gd "law" lawScope L a (.ref 53) (cellsOf A) outer) (envX "law" lawScope L a (.ref 53) (cellsOf A)) E)
    (ret : ∀ h' tk' m' news' ps, (51, tabObj ps) ∈ news' → Fr h₀ L h' m' → News h₀ L h' news' → Q (.ret (.bool true)) { s with heap := h', toks := tk' }) :
    wpAny (model prog w) (ktrTop dp un gd "law" lawScope L a (.ref 53) (cellsOf A) outer) (execs [lawBody.getD 3 default, lawBody.getD 4 default, lawBody.getD 5 default, lawBody.getD 6 default, lawBody.getD 7 default] (envX "law" lawScope L a (.ref 53) (cellsOf A))) Q E s := by
  refine wpAny_execs_cons ?_
  refine @part3 prog w p loose mean mg mb dp un gd a outer A₀ base h₀ L m s _ E A c e B F X T O N hl hr0 hE ?_
  intro c2 m2 h2 tk2 vs2 e2 O2 hv6 hvs ho2 ht2 F2 N2
  refine @law4 prog w p loose mean mg mb dp un gd a outer A₀ base h₀ L m2 { s with heap := h2, toks := tk2 } Q E A c2 e2 vs2 B F2 X T C O2 N2 hv6 hvs ho2 (ht2.trans ht) hr0 hr1 hun hE ret

theorem law_eq : lawBody = [lawBody.getD 0 default, lawBody.getD 1 default, lawBody.getD 2 default, lawBody.getD 3 default, lawBody.getD 4 default, lawBody.getD 5 default, lawBody.getD 6 default, lawBody.getD 7 default] := rfl

theorem lawAll {prog : Program} {w : World} {p : Program} {loose : List Str} {mean : ExcName → Option Value} {mg mb : Str → Option Value}
    {dp un : Nat} {gd : Option (List Code)} {a : Addr} {outer : List Env} {A₀ : Around} {base h₀ : Heap} {L : Addr} {m : Str → Option Value} {s : Shared} {Q : Flow → Shared → Prop} {E : Value → Shared → Prop}
    {ct cl ck cy cb : Addr} {sl : Addr} {vs : List Value} {ns : List Int} {oct ocl ock ocy ocb : Obj}
    (B : Below A₀ base outer h₀) (F : Fr h₀ L s.heap m) (X : (hd.heap_39 w.params).In h₀) (T : Top p loose mean mg mb h₀) (C : CodeHd h₀ 53 51)
    (hscr : m "script" = some (.ref sl)) (hl : h₀.IsList sl vs.toArray) (hi : IntsAre vs ns) (hlen : ns.length ≤ 63)
    (N : News h₀ L s.heap [(ct, oct), (cl, ocl), (ck, ock), (cy, ocy), (cb, ocb), (51, tabObj #[])])
    (hct : oct.data = .cell none) (hcl : ocl.data = .cell none) (hck : ock.data = .cell none) (hcy : ocy.data = .cell none) (hcb : ocb.data = .cell none)
    (l1 : 51 < cb) (l2 : cb < cy) (l3 : cy < ck) (l4 : ck < cl) (l5 : cl < ct) (hroom : dp + 2 < recursionLimit) (hun : un + 100 < cLine)
    (hE : PassesOwn (model prog w) (ktrTop dp un gd "law" lawScope L a (.ref 53) (lawCells ct cl ck cy cb) outer) (envX "law" lawScope L a (.ref 53) (lawCells ct cl ck cy cb)) E)
    (ret : ∀ h' tk' m' news' ps, (51, tabObj ps) ∈ news' → Fr h₀ L h' m' → News h₀ L h' news' → Q (.ret (.bool true)) { s with heap := h', toks := tk' }) :
    wpAny (model prog w) (ktrTop dp un gd "law" lawScope L a (.ref 53) (lawCells ct cl ck cy cb) outer) (execs lawBody (envX "law" lawScope L a (.ref 53) (lawCells ct cl ck cy cb))) Q E s := by
  rw [law_eq]
  have hr0 : dp < recursionLimit := Nat.lt_of_le_of_lt (Nat.le_add_right _ 2) hroom
  have hr1 : dp + 1 < recursionLimit := Nat.lt_of_succ_lt hroom
  refine @part1 prog w p loose mean mg mb dp un gd a outer A₀ base h₀ L m s Q E ct cl ck cy cb sl vs ns _ oct ocl ock ocy ocb B F X T hscr hl hi hlen N hct hcl hck hcy hcb l1 l2 l3 l4 l5 hroom hr0 ?_
  intro b tt ll kl ds c1 m1 h1 tk1 O1 ho1 ht1 F1 N1
  obtain ⟨e1, ho1⟩ := ho1
  refine @law3 prog w p loose mean mg mb dp un gd a outer A₀ base h₀ L m1 { s with heap := h1, toks := tk1 } Q E ⟨ct, cl, ck, cy, cb, b, tt, ll, kl, ds⟩ c1 e1 B F1 X T C O1 N1 ho1 ht1 hr0 hr1 hun hE ret

end Mine

end

namespace Mine
section
set_option maxRecDepth 100000
theorem cast_wp {M : Model} {A A' : Around} {b b' : List Stmt} {env env' : Env} {Q : Flow → Shared → Prop} {E : Value → Shared → Prop} {s : Shared} (h1 : A' = A) (h2 : b' = b) (h3 : env' = env)
    (h : wpAny M A (execs b env) Q E s) : wpAny M A' (execs b' env') Q E s := by subst h1 h2 h3; exact h
end
end Mine
open Mine
set_option maxRecDepth 100000 in
set_option maxHeartbeats 8000000 in
theorem PySem.Challenge.cw_pc0161_01_holds : PySem.Challenge.rw_pc0161_01.Holds := by
  refine hd ?_
  k_go0
  rename_i w s0 s1 mg mb G Y fa o pm doc ho hg X0 V T0 B0 TE TW hcd ns hs hlay0 hL1 hr1 hl2 u9 u8 sl vs u5 hLs ra w1 r0 hI hr hcond hcond2 hD h1 tk1 o4 o3 o2 o1 o0 hc4 hc3 hc2 hc1 hc0 XC X T K F N l0
  refine cast_wp (A := ktrTop (1 + claimMargin + 1) 7 (some []) "law" lawScope s1.heap.objs.size fa (.ref 53) (lawCells (s1.heap.objs.size + 1 + 1 + 1 + 1 + 1) (s1.heap.objs.size + 1 + 1 + 1 + 1) (s1.heap.objs.size + 1 + 1 + 1) (s1.heap.objs.size + 1 + 1) (s1.heap.objs.size + 1)) []) (b := lawBody) (env := envX "law" lawScope s1.heap.objs.size fa (.ref 53) (lawCells (s1.heap.objs.size + 1 + 1 + 1 + 1 + 1) (s1.heap.objs.size + 1 + 1 + 1 + 1) (s1.heap.objs.size + 1 + 1 + 1) (s1.heap.objs.size + 1 + 1) (s1.heap.objs.size + 1))) ?h1 ?h2 ?h3 ?_
  case h2 => with_unfolding_all rfl
  case h3 => with_unfolding_all rfl
  case h1 => with_unfolding_all rfl
  refine lawAll (prog := PySem.Challenge.rw_pc0161_01.row.prog) (dp := 1 + claimMargin + 1) (un := 7) (gd := some []) (outer := []) (A₀ := callerA) (s := { heap := h1, gens := s1.gens, drawn := s1.drawn, toks := tk1, os := s1.os }) (L := s1.heap.objs.size) (a := fa) (h₀ := ghostOf s1.heap [(53, 51)]) K F X T codeHd ?hscr lifted hI ?hlen N ?hct ?hcl ?hck ?hcy ?hcb ?l1 ?l2 ?l3 ?l4 ?l5 ?hroom ?hun ?hE ?ret
  case hscr => with_unfolding_all rfl
  case hlen => omega
  case hct => exact hc4.trans (by with_unfolding_all rfl)
  case hcl => exact hc3.trans (by with_unfolding_all rfl)
  case hck => exact hc2.trans (by with_unfolding_all rfl)
  case hcy => exact hc1.trans (by with_unfolding_all rfl)
  case hcb => exact hc0.trans (by with_unfolding_all rfl)
  case l1 => exact Nat.lt_succ_of_lt l0
  case l2 => exact Nat.lt_succ_self _
  case l3 => exact Nat.lt_succ_self _
  case l4 => exact Nat.lt_succ_self _
  case l5 => exact Nat.lt_succ_self _
  case hroom => decide
  case hun => decide
  case hE => passes_own
  intro h' tk' m' news' ps hp F2 N2
  clear F N
  refine ⟨?_, ⟨ps, (N2 _ hp).1⟩, trivial⟩
  refine ⟨.inl ⟨.bool true, .bool true, [], rfl, fun _ => rfl, ?rd, ?post, fun _ => ⟨List.nodup_nil, fun _ h => (nomatch h)⟩⟩, ?keep, rfl, hg⟩
  case rd => exact ReadsW.bool _
  case post => first | (wrow_post; done) | with_unfolding_all rfl
  case keep => exact F2.keep
