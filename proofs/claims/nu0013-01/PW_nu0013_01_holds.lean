import PyProof.Rows.All
import Wide.All
import OpenK.AllK
import Wide.FinOn
import Lean
import PySem.Challenge.RW_nu0013_01
open PySem PySem.W PyProof.Rows
set_option Elab.async false
set_option maxRecDepth 100000
set_option maxHeartbeats 8000000
set_option rowWalk.seconds 0
namespace Mine
def qbody : List Stmt := ((((PySem.Challenge.pw_nu0013_01.main.body.eraseIdx 19).eraseIdx 12).eraseIdx 6).eraseIdx 3).eraseIdx 0
def qv : Program := { PySem.Challenge.pw_nu0013_01 with main := { PySem.Challenge.pw_nu0013_01.main with body := qbody } }
local macro_rules | `(tactic| o_head $H) => `(tactic| (
  refine holds_open (q := qv) (loose := [Str.ofString "fraction"]) (Xt := fun s => xlAt qv [] s && recOk (RowW.records (OpenRow.toRowW PySem.Challenge.rw_nu0013_01.row)) s) (XP := XL qv []) (Yf := Hook.obs $H) (Ya := Hook.val $H) (YP := Hook.says $H) (N := 3768) ?hl (Hook.of $H) (Hook.keeps $H) (fun s e => xl_of s (Bool.and_eq_true_iff.mp e).1) XL.keeps (by rfl) (by rfl) (by rfl) (fun s e => recFacts_of (Bool.and_eq_true_iff.mp e).2) (by rfl) (by first | assumption | decide +kernel) (by decide +kernel) ⟨rfl, rfl, rfl, rfl, rfl, by decide +kernel⟩ ?hw ?hc
  case hl => intro w; kernel_rfl))
local macro_rules | `(tactic| o_law) => `(tactic| refine holds_law (by decide +kernel) fun said => ?_)
local macro_rules | `(tactic| k_qdec) => `(tactic| decide +kernel)
open_top hd for PySem.Challenge.rw_nu0013_01
end Mine

theorem Mine.toff : True := by
  w_top off
  trivial
namespace Mine
noncomputable abbrev Led := List (Addr × Obj)
noncomputable def NoE : Value → Shared → Prop := fun _ _ => False
noncomputable def flV : Flow → Value
  | .ret v => v
  | _ => .none
noncomputable def Fill (_ : Params → Frag) (_ : OpenLaw) : Prop := True
theorem fillT {K : Params → Frag} {l : OpenLaw} (_ : Fill K l) : True := trivial
noncomputable abbrev TopQ (mean : ExcName → Option Value) (mg mb : Str → Option Value) (h : Heap) : Prop := Top qv (looseW qv [Str.ofString "fraction"]) mean mg mb h
noncomputable def Ctr (w : World) (mean : ExcName → Option Value) (mg mb : Str → Option Value) (f : Addr) (dm um : Nat) (vs : List Value) (news : Led) (Post : Value → Led → Prop) : Prop :=
  ∀ (dp un : Nat) (gd : Option (List Code)) (cn : Str) (cs : Scope) (a : Addr) (ccd : Value) (cl : List (Str × Addr)) (outer : List Env) (A₀ : Around) (base h₀ : Heap) (L : Addr) (m : Str → Option Value) (s : Shared) (Q : Value → Shared → Prop),
    Below A₀ base outer h₀ → Fr h₀ L s.heap m → (hd.heap_1 w.params).In h₀ → News h₀ L s.heap news → Top qv (looseW qv [Str.ofString "fraction"]) mean mg mb h₀ → cs.kind = .function → dp + dm < recursionLimit → un + um < cLine →
    (∀ r news' h' tk', Fr h₀ L h' m → News h₀ L h' news' → Post r news' → Q r { s with heap := h', toks := tk' }) →
    wpAny (model PySem.Challenge.rw_nu0013_01.prog w) (ktrTop dp un gd cn cs L a ccd cl outer) (call (.ref f) vs) Q NoE s

theorem Ctr.use {w : World} {mean : ExcName → Option Value} {mg mb : Str → Option Value} {f : Addr} {dm um : Nat} {vs : List Value} {news : Led} {Post : Value → Led → Prop}
    (C : Ctr w mean mg mb f dm um vs news Post)
    {dp un : Nat} {gd : Option (List Code)} {cn : Str} {cs : Scope} {a : Addr} {ccd : Value} {cl : List (Str × Addr)} {outer : List Env} {A₀ : Around} {base h₀ : Heap} {L : Addr} {m : Str → Option Value} {s : Shared} {Q E : Value → Shared → Prop}
    (B : Below A₀ base outer h₀) (F : Fr h₀ L s.heap m) (X : (hd.heap_1 w.params).In h₀) (N : News h₀ L s.heap news) (T : Top qv (looseW qv [Str.ofString "fraction"]) mean mg mb h₀) (hk : cs.kind = .function) (h1 : dp + dm < recursionLimit) (h2 : un + um < cLine)
    (ret : ∀ r news' h' tk', Fr h₀ L h' m → News h₀ L h' news' → Post r news' → Q r { s with heap := h', toks := tk' }) :
    wpAny (model PySem.Challenge.rw_nu0013_01.prog w) (ktrTop dp un gd cn cs L a ccd cl outer) (call (.ref f) vs) Q E s :=
  wpAny_mono (C _ _ _ _ _ _ _ _ _ _ _ _ _ _ _ _ B F X N T hk h1 h2 ret) (fun _ _ h => h) (fun _ _ h => h.elim)

theorem Ctr.body {w : World} {mean : ExcName → Option Value} {mg mb : Str → Option Value} {f : Addr} {dm um : Nat} {vs : List Value} {news : Led} {Post : Value → Led → Prop}
    {name qual : Str} {params : Arguments} {body : List Stmt} {scope : Scope} {dV kV doc pm cdv ct oc : Value} {an od : Option Addr} {osl : Array (Option Value)} {binds : List (Str × Value)}
    (ho : (hd.heap_1 w.params).lookup f = some ⟨oc, od, .func (fnOf name qual params body scope dV kV doc pm an cdv ct), osl⟩) (hcd : codeIn (hd.heap_1 w.params) cdv qual = true)
    (hbind : ∀ s : Shared, (hd.heap_1 w.params).In s.heap → BindsTo s (fnOf name qual params body scope dV kV doc pm an cdv ct) ⟨vs, []⟩ binds) (hloc : ∀ y ∈ binds, scope.names.lookup y.1 = some .local)
    (hco : scope.isCoroutine = false) (hgen : scope.isGenerator = false) (hk : scope.kind = .function) (hcell : ∀ x ∈ scope.names, x.2 ≠ .cell)
    (h : ∀ (dp un : Nat) (gd : Option (List Code)) (A₀ : Around) (base g : Heap) (outer : List Env) (L : Addr) (hp : Heap) (gens : Array GenState) (drawn : Drawn) (toks : Nat) (os : OsState) (QQ : Flow → Shared → Prop),
      Below A₀ base outer g → (hd.heap_1 w.params).In g → Top qv (looseW qv [Str.ofString "fraction"]) mean mg mb g → Fr g L hp (fun y => binds.reverse.lookup y) → News g L hp news → dp + dm < recursionLimit → un + um < cLine →
      (∀ v news' h' tk' L' m', Fr g L' h' m' → News g L' h' news' → Post v news' → QQ (.ret v) ⟨h', gens, drawn, tk', os⟩) →
      (∀ news' h' tk' L' m', Fr g L' h' m' → News g L' h' news' → Post .none news' → QQ .next ⟨h', gens, drawn, tk', os⟩) →
      wpAny (model PySem.Challenge.rw_nu0013_01.prog w) (ktrTop dp un gd qual scope L f cdv [] outer) (execs body (envOf qual scope L f cdv)) QQ NoE ⟨hp, gens, drawn, toks, os⟩) :
    Ctr w mean mg mb f (dm + 1) (um + 3) vs news Post := by
  intro dp un gd cn cs a ccd cl outer A₀ base h₀ L m s Q B F X N T hks h1 h2 ret
  refine wpAny_call ?_
  refine code_def B F X N T rfl rfl hks ho hcd (show dp < recursionLimit by omega) (hbind s (X.keeps F.keep)) hloc (fun g L' h₁ FG F' N' B' X' T' => ?_) hco hgen hk hcell
  refine wpAny_mono (h (dp + 1) (un + 3) gd _ base g (envX cn cs L a ccd cl :: outer) L' h₁ s.gens s.drawn (s.toks + binds.length) s.os (fun fl s' => LeaveK h₀ L m g (fun r s' => match r with | .ok (.ret v) => Q v s' | .ok _ => False | .error e => NoE e s') (match fl with | .ret v => v | _ => .none) s') B' X' T' F' N' (by omega) (by omega) ?_ ?_) (fun _ _ h => h) (fun _ _ h => h.elim)
  · intro v news' h' tk' L'' m' F'' N'' hp
    refine leaveK_ F'' N'' fun F3 N3 => ?_
    exact ret v news' h' tk' F3 N3 hp
  · intro news' h' tk' L'' m' F'' N'' hp
    refine leaveK_ F'' N'' fun F3 N3 => ?_
    exact ret .none news' h' tk' F3 N3 hp

theorem Ctr.bodyC {w : World} {mean : ExcName → Option Value} {mg mb : Str → Option Value} {f : Addr} {dm um : Nat} {vs : List Value} {news : Led} {Post : Value → Led → Prop}
    {name qual : Str} {params : Arguments} {body : List Stmt} {scope : Scope} {dV kV doc pm cdv ct oc : Value} {an od : Option Addr} {osl : Array (Option Value)} {binds : List (Str × Value)}
    (ho : (hd.heap_1 w.params).lookup f = some ⟨oc, od, .func (fnOf name qual params body scope dV kV doc pm an cdv ct), osl⟩) (hcd : codeIn (hd.heap_1 w.params) cdv qual = true)
    (hbind : ∀ s : Shared, (hd.heap_1 w.params).In s.heap → BindsTo s (fnOf name qual params body scope dV kV doc pm an cdv ct) ⟨vs, []⟩ binds)
    (hkind : (binds.all fun y => scope.names.lookup y.1 == some .local || scope.names.lookup y.1 == some .cell) = true) (hnd : ((cellsFrom 0 scope.names []).map (·.1)).Nodup)
    (hco : scope.isCoroutine = false) (hgen : scope.isGenerator = false) (hk : scope.kind = .function)
    (h : ∀ (dp un : Nat) (gd : Option (List Code)) (A₀ : Around) (base g : Heap) (outer : List Env) (L : Addr) (hp : Heap) (gens : Array GenState) (drawn : Drawn) (toks : Nat) (os : OsState) (QQ : Flow → Shared → Prop) (cells : Led),
      Below A₀ base outer g → (hd.heap_1 w.params).In g → Top qv (looseW qv [Str.ofString "fraction"]) mean mg mb g → Fr g L hp (bindL (envOfC qual scope L f cdv).kindOf binds fun _ => none) → News g L hp (cells ++ news) →
      CellsAre (bindC (envOfC qual scope L f cdv).kindOf binds fun _ => none) (cellsFrom (L + 1) scope.names []) cells → (∀ p ∈ news, p.1 < L) → dp + dm < recursionLimit → un + um < cLine →
      (∀ v news' h' tk' L' m', Fr g L' h' m' → News g L' h' news' → Post v news' → QQ (.ret v) ⟨h', gens, drawn, tk', os⟩) →
      (∀ news' h' tk' L' m', Fr g L' h' m' → News g L' h' news' → Post .none news' → QQ .next ⟨h', gens, drawn, tk', os⟩) →
      wpAny (model PySem.Challenge.rw_nu0013_01.prog w) (ktrTop dp un gd qual scope L f cdv (cellsFrom (L + 1) scope.names []) outer) (execs body (envOfC qual scope L f cdv)) QQ NoE ⟨hp, gens, drawn, toks, os⟩) :
    Ctr w mean mg mb f (dm + 1) (um + 3) vs news Post := by
  intro dp un gd cn cs a ccd cl outer A₀ base h₀ L m s Q B F X N T hks h1 h2 ret
  refine wpAny_call ?_
  refine code_defC B F X N T rfl rfl hks ho hcd (show dp < recursionLimit by omega) (hbind s (X.keeps F.keep)) hkind hnd (fun g L' h₁ tk cells FG F' N' Y B' X' T' l1 => ?_) hco hgen hk
  refine wpAny_mono (h (dp + 1) (un + 3) gd _ base g (envX cn cs L a ccd cl :: outer) L' h₁ s.gens s.drawn tk s.os (fun fl s' => LeaveK h₀ L m g (fun r s' => match r with | .ok (.ret v) => Q v s' | .ok _ => False | .error e => NoE e s') (match fl with | .ret v => v | _ => .none) s') cells B' X' T' F' N' Y l1 (by omega) (by omega) ?_ ?_) (fun _ _ h => h) (fun _ _ h => h.elim)
  · intro v news' h' tk' L'' m' F'' N'' hp
    refine leaveK_ F'' N'' fun F3 N3 => ?_
    exact ret v news' h' tk' F3 N3 hp
  · intro news' h' tk' L'' m' F'' N'' hp
    refine leaveK_ F'' N'' fun F3 N3 => ?_
    exact ret .none news' h' tk' F3 N3 hp

mutual
inductive TIn (T : Led) : Value → Dat → Prop
  | none : TIn T Value.none Dat.none
  | bool (b : Bool) : TIn T (Value.bool b) (Dat.bool b)
  | int (i : Int) (t : Tok) : TIn T (Value.int i t) (Dat.int i)
  | str (x : Str) (t : Tok) : TIn T (Value.str x t) (Dat.str x)
  | tuple {a : Addr} {vs : List Value} {n : Nat} {ds : List Dat} : (a, ({ cls := .type "tuple", data := .seq vs.toArray n } : Obj)) ∈ T → TAll T vs ds → TIn T (Value.ref a) (Dat.tuple ds)
inductive TAll (T : Led) : List Value → List Dat → Prop
  | nil : TAll T [] []
  | cons {v : Value} {vs : List Value} {d : Dat} {ds : List Dat} : TIn T v d → TAll T vs ds → TAll T (v :: vs) (d :: ds)
end
noncomputable def Sub (T T' : Led) : Prop := ∀ p ∈ T, p ∈ T'
noncomputable def NoT (o : Obj) : Prop := o.cls = .type "tuple" → ∃ v, o.data = .cell v
noncomputable def IsT (o : Obj) : Prop := o.cls = .type "tuple" ∧ ∀ v, o.data ≠ .cell v
theorem NoT.of {o : Obj} (h : o.cls ≠ .type "tuple") : NoT o := fun e => absurd e h
theorem NoT.cell {o : Obj} {v : Option Value} (h : o.data = .cell v) : NoT o := fun _ => ⟨v, h⟩
theorem isT {vs : Array Value} {n : Nat} : IsT { cls := .type "tuple", data := .seq vs n } := ⟨rfl, fun _ e => by cases e⟩
noncomputable def SubT (T T' : Led) : Prop := ∀ p ∈ T, IsT p.2 → p ∈ T'
noncomputable def Tup (T : Led) : Prop := ∀ p ∈ T, p.2.cls = .type "tuple"
theorem Sub.use {T T' : Led} {p : Addr × Obj} (h : Sub T T') (hp : p ∈ T) : p ∈ T' := h p hp
theorem SubT.use {T T' : Led} {p : Addr × Obj} (h : SubT T T') (hp : p ∈ T) (hc : IsT p.2) : p ∈ T' := h p hp hc
mutual
theorem TIn.monoT {T T' : Led} (hs : SubT T T') : ∀ {v : Value} {d : Dat}, TIn T v d → TIn T' v d
  | _, _, .none => .none
  | _, _, .bool b => .bool b
  | _, _, .int i t => .int i t
  | _, _, .str x t => .str x t
  | _, _, .tuple h r => .tuple (hs _ h isT) (TAll.monoT hs r)
theorem TAll.monoT {T T' : Led} (hs : SubT T T') : ∀ {vs : List Value} {ds : List Dat}, TAll T vs ds → TAll T' vs ds
  | _, _, .nil => .nil
  | _, _, .cons h r => .cons (TIn.monoT hs h) (TAll.monoT hs r)
end
mutual
theorem TIn.dat {T : Led} : ∀ {v : Value} {d : Dat}, TIn T v d → DatIn T v d
  | _, _, .none => .none
  | _, _, .bool b => .bool b
  | _, _, .int i t => .int i t
  | _, _, .str x t => .str x t
  | _, _, .tuple h r => .tuple h (TAll.dat r)
theorem TAll.dat {T : Led} : ∀ {vs : List Value} {ds : List Dat}, TAll T vs ds → DatAll T vs ds
  | _, _, .nil => .nil
  | _, _, .cons h r => .cons (TIn.dat h) (TAll.dat r)
end
theorem Sub.T {T T' : Led} (h : Sub T T') : SubT T T' := fun p hp _ => h p hp
theorem TIn.mono {T T' : Led} (hs : Sub T T') {v : Value} {d : Dat} (h : TIn T v d) : TIn T' v d := h.monoT hs.T
theorem TIn.intE {T : Led} {i j : Int} {t : Tok} (h : i = j) : TIn T (Value.int i t) (Dat.int j) := by subst h; exact .int _ _
noncomputable abbrev fr (x : Int) : Dat := .tuple [.int x, .int 1]
noncomputable abbrev rawp (x y : Int) : Dat := .tuple [.int x, .int y]
noncomputable abbrev pt (x y : Int) : Dat := .tuple [fr x, fr y]
noncomputable abbrev tupO (vs : List Value) (n : Nat) : Obj := { cls := .type "tuple", data := .seq vs.toArray n }
theorem TIn.raw_inv {T : Led} {v : Value} {x y : Int} (h : TIn T v (rawp x y)) : ∃ a t u n, v = .ref a ∧ (a, tupO [.int x t, .int y u] n) ∈ T := by
  cases h with
  | tuple hm r =>
    cases r with
    | cons h1 r =>
      cases h1 with
      | int _ t =>
        cases r with
        | cons h2 r =>
          cases h2 with
          | int _ u =>
            cases r
            exact ⟨_, _, _, _, rfl, hm⟩
theorem TIn.pt_inv {T : Led} {v : Value} {x y : Int} (h : TIn T v (pt x y)) : ∃ a b c t u t' u' n n' n'', v = .ref a ∧ (a, tupO [.ref b, .ref c] n) ∈ T ∧ (b, tupO [.int x t, .int 1 u] n') ∈ T ∧ (c, tupO [.int y t', .int 1 u'] n'') ∈ T := by
  cases h with
  | tuple hm r =>
    cases r with
    | cons h1 r =>
      obtain ⟨b, t, u, n', rfl, g1⟩ := TIn.raw_inv h1
      cases r with
      | cons h2 r =>
        obtain ⟨c, t', u', n'', rfl, g2⟩ := TIn.raw_inv h2
        cases r
        exact ⟨_, _, _, _, _, _, _, _, _, _, rfl, hm, g1, g2⟩


noncomputable def Apart (T : Led) (as : List Addr) : Prop := ∀ p ∈ T, ∀ a ∈ as, p.1 ≠ a
theorem Apart.ne {T : Led} {as : List Addr} {d : Addr} (h : Apart T as) (hd : d ∈ as) : ∀ p ∈ T, p.1 ≠ d := fun p hp => h p hp d hd
theorem Apart.nil {T : Led} : Apart T [] := fun _ _ _ h => nomatch h
theorem Apart.mk {T : Led} {a : Addr} {as : List Addr} (h : ∀ p ∈ T, p.1 ≠ a) (r : Apart T as) : Apart T (a :: as) := fun p hp b hb => by
  rcases List.mem_cons.mp hb with rfl | hb
  · exact h p hp
  · exact r p hp b hb
theorem allLt_ne {T : Led} {d : Addr} (h : AllLt d T) : ∀ p ∈ T, p.1 ≠ d := fun p hp => Nat.ne_of_lt (kst_ltOf h p hp)
inductive Core : Led → Led → Led → Led → Prop
  | tail {T : Led} : Core T [] T T
  | tup {a : Addr} {vs : List Value} {n : Nat} {r k T q : Led} : Core r k T q → Core ((a, tupO vs n) :: r) k T ((a, tupO vs n) :: q)
  | keep {p : Addr × Obj} {r k T q : Led} : Core r k T q → Core (p :: r) (p :: k) T q
theorem Core.left {R k T q : Led} (C : Core R k T q) : ∀ p ∈ k, p ∈ R := by
  induction C with
  | tail => intro p hp; cases hp
  | tup _ ih => intro p hp; exact .tail _ (ih p hp)
  | keep _ ih =>
    intro p hp
    rcases List.mem_cons.mp hp with rfl | hp
    · exact .head _
    · exact .tail _ (ih p hp)
theorem Core.right {R k T q : Led} (C : Core R k T q) : ∀ p ∈ q, p ∈ R ∧ (IsT p.2 ∨ p ∈ T) := by
  induction C with
  | tail => intro p hp; exact ⟨hp, .inr hp⟩
  | tup _ ih =>
    intro p hp
    rcases List.mem_cons.mp hp with rfl | hp
    · exact ⟨.head _, .inl isT⟩
    · exact ⟨.tail _ (ih p hp).1, (ih p hp).2⟩
  | keep _ ih => intro p hp; exact ⟨.tail _ (ih p hp).1, (ih p hp).2⟩
noncomputable def SepL (T : Led) : Led → Prop
  | [] => True
  | u :: r => (∀ p ∈ T, p.1 ≠ u.1) ∧ SepL T r
theorem SepL.at {T : Led} {l : Led} (h : SepL T l) : ∀ u ∈ l, ∀ p ∈ T, p.1 ≠ u.1 := by
  induction l with
  | nil => intro u hu; cases hu
  | cons x r ih =>
    intro u hu
    rcases List.mem_cons.mp hu with rfl | hu
    · exact h.1
    · exact ih h.2 u hu
noncomputable def NoTup : Led → Prop
  | [] => True
  | u :: r => NoT u.2 ∧ NoTup r
theorem NoTup.at {l : Led} (h : NoTup l) : ∀ u ∈ l, NoT u.2 := by
  induction l with
  | nil => intro u hu; cases hu
  | cons x r ih =>
    intro u hu
    rcases List.mem_cons.mp hu with rfl | hu
    · exact h.1
    · exact ih h.2 u hu
theorem tidy {h₀ h : Heap} {L : Addr} {news9 U R k T q : Led} (hU : Sub U news9) (hs : Sub R news9) (N : News h₀ L h news9) (C : Core R k T q) (hk : SepL T (U ++ k)) (hc : NoTup (U ++ k)) :
    ∃ T9, Apart T9 ((U ++ k).map (·.1)) ∧ SubT news9 T9 ∧ Sub q T9 ∧ News h₀ L h (U ++ (k ++ T9)) := by
  have key : SubT news9 (news9.filter fun p => decide (p.1 ∉ (U ++ k).map (·.1))) := by
    rintro ⟨a, o⟩ hp ho
    refine List.mem_filter.mpr ⟨hp, decide_eq_true ?_⟩
    intro hq
    obtain ⟨⟨b, o'⟩, hb, e⟩ := List.mem_map.mp hq
    have e' : b = a := e
    subst e'
    have h2 : (b, o') ∈ news9 := by
      rcases List.mem_append.mp hb with hb | hb
      · exact hU _ hb
      · exact hs _ (C.left _ hb)
    have h3 := (N _ hp).1
    have h4 := (N _ h2).1
    have h5 : o = o' := Option.some.inj (h3.symm.trans h4)
    obtain ⟨h6, h7⟩ := h5 ▸ ho
    obtain ⟨v, h8⟩ := hc.at _ hb h6
    exact h7 v h8
  refine ⟨news9.filter fun p => decide (p.1 ∉ (U ++ k).map (·.1)), fun p hp a ha e => ?_, key, fun p hp => ?_, fun p hp => ?_⟩
  · have := (List.mem_filter.mp hp).2
    simp only [decide_eq_true_eq] at this
    exact this (e ▸ ha)
  · have hR := (C.right p hp).1
    rcases (C.right p hp).2 with h1 | hT
    · exact key p (hs p hR) h1
    · refine List.mem_filter.mpr ⟨hs p hR, decide_eq_true ?_⟩
      intro hq
      obtain ⟨u, hu, e⟩ := List.mem_map.mp hq
      exact hk.at u hu p hT e.symm
  · rcases List.mem_append.mp hp with hp | hp
    · exact N p (hU p hp)
    · rcases List.mem_append.mp hp with hp | hp
      · exact N p (hs p (C.left p hp))
      · exact N p (List.mem_filter.mp hp).1
theorem Sub.nil {T : Led} : Sub [] T := fun _ h => nomatch h
theorem Sub.mk {p : Addr × Obj} {r T : Led} (h : p ∈ T) (hr : Sub r T) : Sub (p :: r) T := fun q hq => by
  rcases List.mem_cons.mp hq with rfl | hq
  · exact h
  · exact hr q hq
inductive Pick (p : Addr × Obj) : Led → Led → Prop
  | here {r : Led} : Pick p (p :: r) r
  | there {q : Addr × Obj} {r r' : Led} : Pick p r r' → Pick p (q :: r) (q :: r')
theorem Pick.sub {p : Addr × Obj} {l r : Led} (h : Pick p l r) : Sub (p :: r) l := by
  induction h with
  | here => intro q hq; exact hq
  | there _ ih =>
    intro q hq
    rcases List.mem_cons.mp hq with rfl | hq
    · exact .tail _ (ih _ (.head _))
    · rcases List.mem_cons.mp hq with rfl | hq
      · exact .head _
      · exact .tail _ (ih _ (.tail _ hq))
theorem Sub.refl {T : Led} : Sub T T := fun _ h => h
theorem Sub.trans {T T' T'' : Led} (h : Sub T T') (h' : Sub T' T'') : Sub T T'' := fun p hp => h' p (h p hp)
theorem Sub.cons {T T' : Led} {p : Addr × Obj} (h : Sub T T') : Sub (p :: T) (p :: T') := fun q hq => by
  rcases List.mem_cons.mp hq with rfl | hq
  · exact .head _
  · exact .tail _ (h q hq)
theorem Ctr.weaken {w : World} {mean : ExcName → Option Value} {mg mb : Str → Option Value} {f : Addr} {dm um : Nat} {vs : List Value} {news cur : Led} {Post : Value → Led → Prop}
    (hs : Sub news cur) (C : Ctr w mean mg mb f dm um vs news Post) : Ctr w mean mg mb f dm um vs cur Post := by
  intro dp un gd cn cs a ccd cl outer A₀ base h₀ L m s Q B F X N T hk h1 h2 ret
  exact C dp un gd cn cs a ccd cl outer A₀ base h₀ L m s Q B F X (fun p hp => N p (hs p hp)) T hk h1 h2 ret
theorem TAll.append {T : Led} {vs ws : List Value} {ds es : List Dat} (h : TAll T vs ds) (k : TAll T ws es) : TAll T (vs ++ ws) (ds ++ es) := by
  induction vs generalizing ds with
  | nil => cases h; exact k
  | cons v vs ih => cases h with | cons h r => exact .cons h (ih r)
theorem TAll.length {T : Led} {vs : List Value} {ds : List Dat} (h : TAll T vs ds) : vs.length = ds.length := by
  induction vs generalizing ds with
  | nil => cases h; rfl
  | cons v vs ih => cases h with | cons _ r => rw [List.length_cons, List.length_cons, ih r]
theorem TAll.mono {T T' : Led} (hs : Sub T T') {vs : List Value} {ds : List Dat} (h : TAll T vs ds) : TAll T' vs ds := h.monoT hs.T

theorem cls_list {xs : Array Value} {n : Nat} : NoT (listOf xs n) := NoT.of (by show Value.type "list" ≠ Value.type "tuple"; decide)
theorem cls_dict {es : List DictEntry} {n : Nat} : NoT (dictOf es n) := NoT.of (by show Value.type "dict" ≠ Value.type "tuple"; decide)
theorem cls_inst {C d : Addr} : NoT (instObj C d) := NoT.of (by intro h; cases h)
theorem cls_rng {x l c : Int} : NoT (krsIt x l c) := NoT.of (by show Value.type "range_iterator" ≠ Value.type "tuple"; decide)
theorem my_in_str {prog : Program} {w : World} {A : Around} {E : Value → Shared → Prop} {s : Shared} {x y : Str} {t u : Tok} {b : Bool} {Q : Value → Shared → Prop} (hb : (!(Builtin.Str.occurrences x y 0 x.length 1).isEmpty) = b) (h : Q (.bool b) s) :
    wpAny (model prog w) A (compareOp .In (.str y u) (.str x t)) Q E s := by
  subst hb
  exact PyProof.Rows.in_str h
theorem my_append {prog : Program} {w : World} {A : Around} {E : Value → Shared → Prop} {s : Shared} {h₀ : Heap} {L D : Addr} {m : Str → Option Value} {news news' : Led} {vs : List Value} {n : Nat} {x : Value} {Q : Value → Shared → Prop} (F : Fr h₀ L s.heap m) (N : News h₀ L s.heap news) (U : Upd D (listOf vs.toArray n) (listOf (vs ++ [x]).toArray (n + 1)) news news')
    (hz : vs.length ≤ 1000) (h : ∀ h', Fr h₀ L h' m → News h₀ L h' news' → Q .none { s with heap := h' }) : wpAny (model prog w) A (call (.builtin "list.append") [.ref D, x]) Q E s := by
  refine append_K (its := vs.toArray) F N (by rw [List.push_toArray]; exact U) h ?_
  rw [sizeLine_eq, List.size_toArray]; omega

noncomputable def CNz (T : Led) (kd : Str) (vc : Value) (x y : Int) : Prop := kd ≠ Str.ofString "" → TIn T vc (pt x y)
theorem CNz.mono {T T' : Led} {kd : Str} {vc : Value} {x y : Int} (hs : Sub T T') (h : CNz T kd vc x y) : CNz T' kd vc x y := fun e => (h e).mono hs
theorem CNz.monoT {T T' : Led} {kd : Str} {vc : Value} {x y : Int} (hs : SubT T T') (h : CNz T kd vc x y) : CNz T' kd vc x y := fun e => (h e).monoT hs
structure PP where
  hx : Int
  hy : Int
  sx : Int
  sy : Int
  cx : Int
  cy : Int
  kd : Str
  cl : Bool
  found : List Dat
noncomputable abbrev penD (h1 h2 h3 h4 h5 h6 : Int) (t1 t2 t3 t4 t5 t6 : Tok) (vh vs vc vk vl vf : Value) : Obj := dictOf [⟨h1, .str (Str.ofString "here") t1, vh⟩, ⟨h2, .str (Str.ofString "start") t2, vs⟩, ⟨h3, .str (Str.ofString "control") t3, vc⟩, ⟨h4, .str (Str.ofString "kind") t4, vk⟩, ⟨h5, .str (Str.ofString "is_closed") t5, vl⟩, ⟨h6, .str (Str.ofString "found") t6, vf⟩] 6
noncomputable def PenPost (pn pd fl : Addr) (h1 h2 h3 h4 h5 h6 : Int) (t1 t2 t3 t4 t5 t6 : Tok) (R : Led) (S : PP) (news' : Led) : Prop :=
  ∃ (k' : Nat) (tk' : Tok) (fv' : List Value) (vh' vs' vc' : Value),
    Sub [(pn, instObj 184 pd), (pd, penD h1 h2 h3 h4 h5 h6 t1 t2 t3 t4 t5 t6 vh' vs' vc' (.str S.kd tk') (.bool S.cl) (.ref fl)), (fl, listOf fv'.toArray k')] news' ∧
    Sub R news' ∧ TIn news' vh' (pt S.hx S.hy) ∧ TIn news' vs' (pt S.sx S.sy) ∧ CNz news' S.kd vc' S.cx S.cy ∧ TAll news' fv' S.found

theorem seqIdx_first {α : Type} {x : α} {r : List α} : seqIndex? 0 (x :: r).length = some 0 := by
  unfold seqIndex?; simp
theorem get_first {α : Type} {x : α} {r : List α} : (x :: r)[0]? = some x := rfl
theorem seqIdx_last {α : Type} {x y : α} {r : List α} : seqIndex? (-1) (x :: (r ++ [y])).length = some (r.length + 1) := by
  unfold seqIndex?; simp; omega
theorem get_last {α : Type} {x y : α} {r : List α} : (x :: (r ++ [y]))[r.length + 1]? = some y := by simp
theorem TIn.ref {T : Led} {v : Value} {ds : List Dat} (h : TIn T v (.tuple ds)) : ∃ a, v = .ref a := by
  cases h with | tuple hm r => exact ⟨_, rfl⟩

theorem bne_t {a b : Str} (h : (a != b) = true) : (a == b) = false := by simpa [bne] using h
theorem bne_f {a b : Str} (h : (a != b) = false) : (a == b) = true := by simpa [bne] using h

theorem my_unrEnd {h₀ : Heap} {L I : Addr} {it : Obj} {rest : (Str → Option Value) → List (Addr × Obj) → Prop} {s₁ : Shared} {h' : Heap} {tk : Nat} {m' : Str → Option Value} {all r' : Led} (F : Fr h₀ L h' m') (N : News h₀ L h' all)
    (P : Pick (I, it) all r') (off : ∀ p ∈ r', p.1 ≠ I) (r : rest m' r') : UnrEnd h₀ L s₁ I it rest { s₁ with heap := h', toks := tk } := UnrEnd.intro F N r' P.sub off r

noncomputable def CIn (T : Led) (kd k : Str) (vc : Value) (x y : Int) : Prop := kd = k → TIn T vc (pt x y)
theorem CIn.mono {T T' : Led} {kd k : Str} {vc : Value} {x y : Int} (hs : Sub T T') (h : CIn T kd k vc x y) : CIn T' kd k vc x y := fun e => (h e).mono hs
theorem my_eq_pt {prog : Program} {w : World} {A : Around} {E : Value → Shared → Prop} {s : Shared} {h₀ : Heap} {L a b : Addr} {news : Led} {Q : Value → Shared → Prop} {x y x' y' : Int} (N : News h₀ L s.heap news) (Ha : TIn news (.ref a) (pt x y)) (Hb : TIn news (.ref b) (pt x' y')) (hu : A.units + 64 < cLine)
    (h : Q (.bool (decide (x = x' ∧ y = y'))) s) : wpAny (model prog w) A (compareOp .Eq (.ref a) (.ref b)) Q E s := by
  obtain ⟨as, ra⟩ := kqd_in N 8 Ha.dat rfl
  obtain ⟨bs, rb⟩ := kqd_in N 8 Hb.dat rfl
  refine eq_dataH ra rb rfl rfl hu ?_
  have e : PyData.eqv (kqdP (pt x y)) (kqdP (pt x' y')) = decide (x = x' ∧ y = y') := by
    simp [kqdP, kqdPs, PyData.eqv, PyData.eqvAll]; rfl
  rw [e]; exact h
theorem my_eq_zero {prog : Program} {w : World} {A : Around} {E : Value → Shared → Prop} {s : Shared} {K : Frag} {h₀ : Heap} {L a z : Addr} {m : Str → Option Value} {news : Led} {Q : Value → Shared → Prop} {x : Int} {t u : Tok} {n : Nat} {dd : Option Addr} {sl : Array (Option Value)} (F : Fr h₀ L s.heap m) (X : K.In h₀) (hl : K.lookup z = some ⟨.type "tuple", dd, .seq [.int 0 t, .int 1 u].toArray n, sl⟩) (N : News h₀ L s.heap news) (Ha : TIn news (.ref a) (fr x)) (hu : A.units + 64 < cLine)
    (h : Q (.bool (decide (x = 0))) s) : wpAny (model prog w) A (compareOp .Eq (.ref a) (.ref z)) Q E s := by
  obtain ⟨as, ra⟩ := kqd_in N 8 Ha.dat rfl
  have rb : Reads s.heap (.ref z) (.tuple [.int 0, .int 1]) _ := reads_tuple_at (F.keep _ _ (X _ _ hl)) rfl rfl (.cons (.int 0 t) (.cons (.int 1 u) .nil))
  refine eq_dataH ra rb rfl rfl hu ?_
  have e : PyData.eqv (kqdP (fr x)) (.tuple [.int 0, .int 1]) = decide (x = 0) := by
    simp [kqdP, kqdPs, PyData.eqv, PyData.eqvAll]; rfl
  rw [e]; exact h
theorem sepL_of {T : Led} : ∀ {l : Led}, Apart T (l.map (·.1)) → SepL T l
  | [], _ => trivial
  | u :: r, h => ⟨fun p hp => h p hp u.1 (.head _), sepL_of (l := r) fun p hp a ha => h p hp a (.tail _ ha)⟩
theorem room9 {dp a b r : Nat} (h : dp + a < r) (e : Nat.ble b a = true) : dp + b < r := by have := Nat.le_of_ble_eq_true e; omega
theorem ltNe9 {L : Led} {a d : Addr} {o : Obj} (h : ∀ p ∈ L, p.1 < d) (hm : (a, o) ∈ L) : a ≠ d := Nat.ne_of_lt (h _ hm)
theorem gtNe9 {L : Led} {a d : Addr} {o : Obj} (h : ∀ p ∈ L, p.1 < d) (hm : (a, o) ∈ L) : d ≠ a := Nat.ne_of_gt (h _ hm)
theorem ltNe8 {L : Led} {a d e : Addr} {o : Obj} (h : ∀ p ∈ L, p.1 < d) (hm : (a, o) ∈ L) (hl : d < e) : a ≠ e := Nat.ne_of_lt (Nat.lt_trans (h _ hm) hl)
theorem gtNe8 {L : Led} {a d e : Addr} {o : Obj} (h : ∀ p ∈ L, p.1 < d) (hm : (a, o) ∈ L) (hl : d < e) : e ≠ a := Nat.ne_of_gt (Nat.lt_trans (h _ hm) hl)
theorem rawLt_ne {T L : Led} {d : Addr} (h : ∀ p ∈ L, p.1 < d) (hs : Sub T L) : ∀ p ∈ T, p.1 ≠ d := fun p hp => Nat.ne_of_lt (h p (hs p hp))
theorem rawLt_ne8 {T L : Led} {d e : Addr} (h : ∀ p ∈ L, p.1 < d) (hl : d < e) (hs : Sub T L) : ∀ p ∈ T, p.1 ≠ e := fun p hp => Nat.ne_of_lt (Nat.lt_trans (h p (hs p hp)) hl)
theorem ltNe1 {L : Led} {a d : Addr} {o : Obj} (h : ∀ p ∈ L, p.1 < d) (hm : (a, o) ∈ L) : @Ne Nat a (d + 1) := Nat.ne_of_lt (Nat.lt_succ_of_lt (h _ hm))
theorem gtNe1 {L : Led} {a d : Addr} {o : Obj} (h : ∀ p ∈ L, p.1 < d) (hm : (a, o) ∈ L) : @Ne Nat (d + 1) a := Nat.ne_of_gt (Nat.lt_succ_of_lt (h _ hm))
theorem rawLt_ne1 {T L : Led} {d : Addr} (h : ∀ p ∈ L, p.1 < d) (hs : Sub T L) : ∀ p ∈ T, @Ne Nat p.1 (d + 1) := fun p hp => Nat.ne_of_lt (Nat.lt_succ_of_lt (h p (hs p hp)))
theorem size9 {n : Nat} (h : Nat.ble n 1000 = true) : n ≤ sizeLine := by have := Nat.le_of_ble_eq_true h; rw [sizeLine_eq]; omega
theorem TIn.pt_elim {T : Led} {v : Value} {x y : Int} (h : TIn T v (pt x y)) {C : Prop}
    (k : ∀ a b c t u t' u' n n' n'', (a, tupO [.ref b, .ref c] n) ∈ T → (b, tupO [.int x t, .int 1 u] n') ∈ T → (c, tupO [.int y t', .int 1 u'] n'') ∈ T → v = .ref a → C) : C := by
  obtain ⟨a, b, c, t, u, t', u', n, n', n'', e, h1, h2, h3⟩ := h.pt_inv
  exact k a b c t u t' u' n n' n'' h1 h2 h3 e
theorem TIn.raw_elim {T : Led} {v : Value} {x y : Int} (h : TIn T v (rawp x y)) {C : Prop}
    (k : ∀ a t u n, (a, tupO [.int x t, .int y u] n) ∈ T → v = .ref a → C) : C := by
  obtain ⟨a, t, u, n, e, h1⟩ := h.raw_inv
  exact k a t u n h1 e
theorem Ctr.useV {w : World} {mean : ExcName → Option Value} {mg mb : Str → Option Value} {f : Addr} {dm um : Nat} {vs : List Value} {news R k T0 qq : Led} {D : Dat}
    (C : Ctr w mean mg mb f dm um vs news (fun r news' => Sub R news' ∧ TIn news' r D)) {dp un : Nat} {gd : Option (List Code)} {cn : Str} {cs : Scope} {a₀ : Addr} {ccd : Value} {cl₀ : List (Str × Addr)} {outer : List Env} {A₀ : Around} {base h₀ hp : Heap} {gens : Array GenState} {drawn : Drawn} {toks : Nat} {os : OsState} {L : Addr} {m : Str → Option Value} {Q E : Value → Shared → Prop}
    (B : Below A₀ base outer h₀) (F : Fr h₀ L hp m) (X : (hd.heap_1 w.params).In h₀) (N : News h₀ L hp news) (T : Top qv (looseW qv [Str.ofString "fraction"]) mean mg mb h₀) (hk : cs.kind = .function) (h1 : dp + dm < recursionLimit) (h2 : un + um < cLine)
    (CR : Core R k T0 qq) (hS : Apart T0 (k.map (·.1))) (hc : NoTup k)
    (ret : ∀ (r : Value) (T9 : Led) (h' : Heap) (tk9 : Nat), Fr h₀ L h' m → News h₀ L h' ((k ++ T9)) → Apart T9 (k.map (·.1)) → Sub qq T9 → TIn T9 r D → Q r ⟨h', gens, drawn, tk9, os⟩) :
    wpAny (model PySem.Challenge.rw_nu0013_01.prog w) (ktrTop dp un gd cn cs L a₀ ccd cl₀ outer) (call (.ref f) vs) Q E ⟨hp, gens, drawn, toks, os⟩ := by
  refine C.use (s := ⟨hp, gens, drawn, toks, os⟩) B F X N T hk h1 h2 fun r9 n9 h9 tk9 F9 N9 hp9 => ?_
  obtain ⟨hs9, hr9⟩ := hp9
  obtain ⟨T9, hAp9, hST9, hSR9, N9'⟩ := tidy (U := []) Sub.nil hs9 N9 CR (sepL_of hS) hc
  exact ret r9 T9 h9 tk9 F9 N9' hAp9 hSR9 (hr9.monoT hST9)
theorem Ctr.useR {w : World} {mean : ExcName → Option Value} {mg mb : Str → Option Value} {f : Addr} {dm um : Nat} {vs : List Value} {news R k T0 qq : Led} {x y : Int}
    (C : Ctr w mean mg mb f dm um vs news (fun r news' => Sub R news' ∧ TIn news' r (rawp x y))) {dp un : Nat} {gd : Option (List Code)} {cn : Str} {cs : Scope} {a₀ : Addr} {ccd : Value} {cl₀ : List (Str × Addr)} {outer : List Env} {A₀ : Around} {base h₀ hp : Heap} {gens : Array GenState} {drawn : Drawn} {toks : Nat} {os : OsState} {L : Addr} {m : Str → Option Value} {Q E : Value → Shared → Prop}
    (B : Below A₀ base outer h₀) (F : Fr h₀ L hp m) (X : (hd.heap_1 w.params).In h₀) (N : News h₀ L hp news) (T : Top qv (looseW qv [Str.ofString "fraction"]) mean mg mb h₀) (hk : cs.kind = .function) (h1 : dp + dm < recursionLimit) (h2 : un + um < cLine)
    (CR : Core R k T0 qq) (hS : Apart T0 (k.map (·.1))) (hc : NoTup k)
    (ret : ∀ (a : Addr) (t u : Tok) (n : Nat) (T9 : Led) (h' : Heap) (tk9 : Nat), Fr h₀ L h' m → News h₀ L h' ((k ++ T9)) → Apart T9 (k.map (·.1)) → Sub qq T9 → (a, tupO [.int x t, .int y u] n) ∈ T9 → TIn T9 (.ref a) (rawp x y) → Q (.ref a) ⟨h', gens, drawn, tk9, os⟩) :
    wpAny (model PySem.Challenge.rw_nu0013_01.prog w) (ktrTop dp un gd cn cs L a₀ ccd cl₀ outer) (call (.ref f) vs) Q E ⟨hp, gens, drawn, toks, os⟩ := by
  refine C.use (s := ⟨hp, gens, drawn, toks, os⟩) B F X N T hk h1 h2 fun r9 n9 h9 tk9 F9 N9 hp9 => ?_
  obtain ⟨hs9, hr9⟩ := hp9
  obtain ⟨T9, hAp9, hST9, hSR9, N9'⟩ := tidy (U := []) Sub.nil hs9 N9 CR (sepL_of hS) hc
  have hr := hr9.monoT hST9
  obtain ⟨a, t, u, n, e, hm⟩ := hr.raw_inv
  subst e
  exact ret a t u n T9 h9 tk9 F9 N9' hAp9 hSR9 hm hr
theorem Ctr.useP {w : World} {mean : ExcName → Option Value} {mg mb : Str → Option Value} {f : Addr} {dm um : Nat} {vs : List Value} {news R k T0 qq : Led} {x y : Int}
    (C : Ctr w mean mg mb f dm um vs news (fun r news' => Sub R news' ∧ TIn news' r (pt x y))) {dp un : Nat} {gd : Option (List Code)} {cn : Str} {cs : Scope} {a₀ : Addr} {ccd : Value} {cl₀ : List (Str × Addr)} {outer : List Env} {A₀ : Around} {base h₀ hp : Heap} {gens : Array GenState} {drawn : Drawn} {toks : Nat} {os : OsState} {L : Addr} {m : Str → Option Value} {Q E : Value → Shared → Prop}
    (B : Below A₀ base outer h₀) (F : Fr h₀ L hp m) (X : (hd.heap_1 w.params).In h₀) (N : News h₀ L hp news) (T : Top qv (looseW qv [Str.ofString "fraction"]) mean mg mb h₀) (hk : cs.kind = .function) (h1 : dp + dm < recursionLimit) (h2 : un + um < cLine)
    (CR : Core R k T0 qq) (hS : Apart T0 (k.map (·.1))) (hc : NoTup k)
    (ret : ∀ (a b c : Addr) (t u t' u' : Tok) (n n' n'' : Nat) (T9 : Led) (h' : Heap) (tk9 : Nat), Fr h₀ L h' m → News h₀ L h' ((k ++ T9)) → Apart T9 (k.map (·.1)) → Sub qq T9 → (a, tupO [.ref b, .ref c] n) ∈ T9 → (b, tupO [.int x t, .int 1 u] n') ∈ T9 → (c, tupO [.int y t', .int 1 u'] n'') ∈ T9 → TIn T9 (.ref a) (pt x y) → Q (.ref a) ⟨h', gens, drawn, tk9, os⟩) :
    wpAny (model PySem.Challenge.rw_nu0013_01.prog w) (ktrTop dp un gd cn cs L a₀ ccd cl₀ outer) (call (.ref f) vs) Q E ⟨hp, gens, drawn, toks, os⟩ := by
  refine C.use (s := ⟨hp, gens, drawn, toks, os⟩) B F X N T hk h1 h2 fun r9 n9 h9 tk9 F9 N9 hp9 => ?_
  obtain ⟨hs9, hr9⟩ := hp9
  obtain ⟨T9, hAp9, hST9, hSR9, N9'⟩ := tidy (U := []) Sub.nil hs9 N9 CR (sepL_of hS) hc
  have hr := hr9.monoT hST9
  obtain ⟨a, b, c, t, u, t', u', n, n', n'', e, hm, hm', hm''⟩ := hr.pt_inv
  subst e
  exact ret a b c t u t' u' n n' n'' T9 h9 tk9 F9 N9' hAp9 hSR9 hm hm' hm'' hr
theorem Ctr.useF {w : World} {mean : ExcName → Option Value} {mg mb : Str → Option Value} {f : Addr} {dm um : Nat} {vs : List Value} {news R k T0 qq : Led} {ds : List Dat}
    (C : Ctr w mean mg mb f dm um vs news (fun r news' => Sub R news' ∧ TIn news' r (.tuple ds))) {dp un : Nat} {gd : Option (List Code)} {cn : Str} {cs : Scope} {a₀ : Addr} {ccd : Value} {cl₀ : List (Str × Addr)} {outer : List Env} {A₀ : Around} {base h₀ hp : Heap} {gens : Array GenState} {drawn : Drawn} {toks : Nat} {os : OsState} {L : Addr} {m : Str → Option Value} {Q E : Value → Shared → Prop}
    (B : Below A₀ base outer h₀) (F : Fr h₀ L hp m) (X : (hd.heap_1 w.params).In h₀) (N : News h₀ L hp news) (T : Top qv (looseW qv [Str.ofString "fraction"]) mean mg mb h₀) (hk : cs.kind = .function) (h1 : dp + dm < recursionLimit) (h2 : un + um < cLine)
    (CR : Core R k T0 qq) (hS : Apart T0 (k.map (·.1))) (hc : NoTup k)
    (ret : ∀ (a : Addr) (T9 : Led) (h' : Heap) (tk9 : Nat), Fr h₀ L h' m → News h₀ L h' ((k ++ T9)) → Apart T9 (k.map (·.1)) → Sub qq T9 → TIn T9 (.ref a) (.tuple ds) → Q (.ref a) ⟨h', gens, drawn, tk9, os⟩) :
    wpAny (model PySem.Challenge.rw_nu0013_01.prog w) (ktrTop dp un gd cn cs L a₀ ccd cl₀ outer) (call (.ref f) vs) Q E ⟨hp, gens, drawn, toks, os⟩ := by
  refine C.use (s := ⟨hp, gens, drawn, toks, os⟩) B F X N T hk h1 h2 fun r9 n9 h9 tk9 F9 N9 hp9 => ?_
  obtain ⟨hs9, hr9⟩ := hp9
  obtain ⟨T9, hAp9, hST9, hSR9, N9'⟩ := tidy (U := []) Sub.nil hs9 N9 CR (sepL_of hS) hc
  have hr := hr9.monoT hST9
  obtain ⟨a, e⟩ := hr.ref
  subst e
  exact ret a T9 h9 tk9 F9 N9' hAp9 hSR9 hr
theorem Ctr.useI {w : World} {mean : ExcName → Option Value} {mg mb : Str → Option Value} {f : Addr} {dm um : Nat} {vs : List Value} {news R k T0 qq : Led} {i : Int}
    (C : Ctr w mean mg mb f dm um vs news (fun r news' => Sub R news' ∧ ∃ t, r = .int i t)) {dp un : Nat} {gd : Option (List Code)} {cn : Str} {cs : Scope} {a₀ : Addr} {ccd : Value} {cl₀ : List (Str × Addr)} {outer : List Env} {A₀ : Around} {base h₀ hp : Heap} {gens : Array GenState} {drawn : Drawn} {toks : Nat} {os : OsState} {L : Addr} {m : Str → Option Value} {Q E : Value → Shared → Prop}
    (B : Below A₀ base outer h₀) (F : Fr h₀ L hp m) (X : (hd.heap_1 w.params).In h₀) (N : News h₀ L hp news) (T : Top qv (looseW qv [Str.ofString "fraction"]) mean mg mb h₀) (hk : cs.kind = .function) (h1 : dp + dm < recursionLimit) (h2 : un + um < cLine)
    (CR : Core R k T0 qq) (hS : Apart T0 (k.map (·.1))) (hc : NoTup k)
    (ret : ∀ (t : Tok) (T9 : Led) (h' : Heap) (tk9 : Nat), Fr h₀ L h' m → News h₀ L h' ((k ++ T9)) → Apart T9 (k.map (·.1)) → Sub qq T9 → Q (.int i t) ⟨h', gens, drawn, tk9, os⟩) :
    wpAny (model PySem.Challenge.rw_nu0013_01.prog w) (ktrTop dp un gd cn cs L a₀ ccd cl₀ outer) (call (.ref f) vs) Q E ⟨hp, gens, drawn, toks, os⟩ := by
  refine C.use (s := ⟨hp, gens, drawn, toks, os⟩) B F X N T hk h1 h2 fun r9 n9 h9 tk9 F9 N9 hp9 => ?_
  obtain ⟨hs9, t, e⟩ := hp9
  obtain ⟨T9, hAp9, hST9, hSR9, N9'⟩ := tidy (U := []) Sub.nil hs9 N9 CR (sepL_of hS) hc
  subst e
  exact ret t T9 h9 tk9 F9 N9' hAp9 hSR9
theorem Ctr.usePen {w : World} {mean : ExcName → Option Value} {mg mb : Str → Option Value} {f : Addr} {dm um : Nat} {vs : List Value} {news R k T0 qq : Led} {pn pd fl : Addr} {h1' h2' h3' h4' h5' h6' : Int} {t1 t2 t3 t4 t5 t6 : Tok} {S : PP}
    (C : Ctr w mean mg mb f dm um vs news (fun r news' => r = .none ∧ PenPost pn pd fl h1' h2' h3' h4' h5' h6' t1 t2 t3 t4 t5 t6 R S news')) {dp un : Nat} {gd : Option (List Code)} {cn : Str} {cs : Scope} {a₀ : Addr} {ccd : Value} {cl₀ : List (Str × Addr)} {outer : List Env} {A₀ : Around} {base h₀ hp : Heap} {gens : Array GenState} {drawn : Drawn} {toks : Nat} {os : OsState} {L : Addr} {m : Str → Option Value} {Q E : Value → Shared → Prop}
    (B : Below A₀ base outer h₀) (F : Fr h₀ L hp m) (X : (hd.heap_1 w.params).In h₀) (N : News h₀ L hp news) (T : Top qv (looseW qv [Str.ofString "fraction"]) mean mg mb h₀) (hk : cs.kind = .function) (h1 : dp + dm < recursionLimit) (h2 : un + um < cLine)
    (CR : Core R k T0 qq) (hS : Apart T0 (pn :: pd :: fl :: k.map (·.1))) (hc : NoTup k)
    (ret : ∀ (k9 : Nat) (tk9k : Tok) (fv9 : List Value) (vh9 vs9 vc9 : Value) (T9 : Led) (h' : Heap) (tk9 : Nat), Fr h₀ L h' m → News h₀ L h' ((pn, instObj 184 pd) :: (pd, penD h1' h2' h3' h4' h5' h6' t1 t2 t3 t4 t5 t6 vh9 vs9 vc9 (.str S.kd tk9k) (.bool S.cl) (.ref fl)) :: (fl, listOf fv9.toArray k9) :: (k ++ T9)) → Apart T9 (pn :: pd :: fl :: k.map (·.1)) → Sub qq T9 → TIn T9 vh9 (pt S.hx S.hy) → TIn T9 vs9 (pt S.sx S.sy) → CNz T9 S.kd vc9 S.cx S.cy → TAll T9 fv9 S.found → Q .none ⟨h', gens, drawn, tk9, os⟩) :
    wpAny (model PySem.Challenge.rw_nu0013_01.prog w) (ktrTop dp un gd cn cs L a₀ ccd cl₀ outer) (call (.ref f) vs) Q E ⟨hp, gens, drawn, toks, os⟩ := by
  refine C.use (s := ⟨hp, gens, drawn, toks, os⟩) B F X N T hk h1 h2 fun r9 n9 h9 tk9 F9 N9 hp9 => ?_
  obtain ⟨er9, k9, tk9k, fv9, vh9, vs9, vc9, hU9, hs9, g1, g2, g3, g4⟩ := hp9
  obtain ⟨T9, hAp9, hST9, hSR9, N9'⟩ := tidy (U := [(pn, instObj 184 pd), (pd, penD h1' h2' h3' h4' h5' h6' t1 t2 t3 t4 t5 t6 vh9 vs9 vc9 (.str S.kd tk9k) (.bool S.cl) (.ref fl)), (fl, listOf fv9.toArray k9)]) hU9 hs9 N9 CR (sepL_of hS) ⟨cls_inst, cls_dict, cls_list, hc⟩
  subst er9
  exact ret k9 tk9k fv9 vh9 vs9 vc9 T9 h9 tk9 F9 N9' hAp9 hSR9 (g1.monoT hST9) (g2.monoT hST9) (g3.monoT hST9) (g4.monoT hST9)
theorem PenPost.mk {pn pd fl : Addr} {h1 h2 h3 h4 h5 h6 : Int} {t1 t2 t3 t4 t5 t6 : Tok} {R news' : Led} {S : PP} {k' : Nat} {tk' : Tok} {fv' : List Value} {vh' vs' vc' : Value}
    (hU : Sub [(pn, instObj 184 pd), (pd, penD h1 h2 h3 h4 h5 h6 t1 t2 t3 t4 t5 t6 vh' vs' vc' (.str S.kd tk') (.bool S.cl) (.ref fl)), (fl, listOf fv'.toArray k')] news')
    (hs : Sub R news') (g1 : TIn news' vh' (pt S.hx S.hy)) (g2 : TIn news' vs' (pt S.sx S.sy)) (g3 : CNz news' S.kd vc' S.cx S.cy) (g4 : TAll news' fv' S.found) : Value.none = .none ∧ PenPost pn pd fl h1 h2 h3 h4 h5 h6 t1 t2 t3 t4 t5 t6 R S news' := ⟨rfl, _, _, _, _, _, _, hU, hs, g1, g2, g3, g4⟩
noncomputable def PutPost (pn pd fl : Addr) (h1' h2' h3' h4' h5' h6' : Int) (t1 t2 t3 t4 t5 t6 : Tok) (ve v2 v3 : Value) (R : Led) (ds : List Dat) (news' : Led) : Prop :=
  ∃ (k9 : Nat) (tk9k : Tok) (fv9 : List Value), Sub [(pn, instObj 184 pd), (pd, penD h1' h2' h3' h4' h5' h6' t1 t2 t3 t4 t5 t6 ve v2 v3 (.str (Str.ofString "") tk9k) (.bool false) (.ref fl)), (fl, listOf fv9.toArray k9)] news' ∧ Sub R news' ∧ TAll news' fv9 ds
theorem PutPost.mk {pn pd fl : Addr} {h1' h2' h3' h4' h5' h6' : Int} {t1 t2 t3 t4 t5 t6 : Tok} {ve v2 v3 : Value} {R : Led} {ds : List Dat} {news' : Led} {k9 : Nat} {tk9k : Tok} {fv9 : List Value} (hU : Sub [(pn, instObj 184 pd), (pd, penD h1' h2' h3' h4' h5' h6' t1 t2 t3 t4 t5 t6 ve v2 v3 (.str (Str.ofString "") tk9k) (.bool false) (.ref fl)), (fl, listOf fv9.toArray k9)] news') (hs : Sub R news') (g : TAll news' fv9 ds) :
    Value.none = .none ∧ PutPost pn pd fl h1' h2' h3' h4' h5' h6' t1 t2 t3 t4 t5 t6 ve v2 v3 R ds news' := ⟨rfl, _, _, _, hU, hs, g⟩
theorem Ctr.usePut {w : World} {mean : ExcName → Option Value} {mg mb : Str → Option Value} {f : Addr} {dm um : Nat} {vs : List Value} {news R k T0 qq : Led} {pn pd fl : Addr} {h1' h2' h3' h4' h5' h6' : Int} {t1 t2 t3 t4 t5 t6 : Tok} {ve v2 v3 : Value} {ds : List Dat}
    (C : Ctr w mean mg mb f dm um vs news (fun r news' => r = .none ∧ PutPost pn pd fl h1' h2' h3' h4' h5' h6' t1 t2 t3 t4 t5 t6 ve v2 v3 R ds news')) {dp un : Nat} {gd : Option (List Code)} {cn : Str} {cs : Scope} {a₀ : Addr} {ccd : Value} {cl₀ : List (Str × Addr)} {outer : List Env} {A₀ : Around} {base h₀ hp : Heap} {gens : Array GenState} {drawn : Drawn} {toks : Nat} {os : OsState} {L : Addr} {m : Str → Option Value} {Q E : Value → Shared → Prop}
    (B : Below A₀ base outer h₀) (F : Fr h₀ L hp m) (X : (hd.heap_1 w.params).In h₀) (N : News h₀ L hp news) (T : Top qv (looseW qv [Str.ofString "fraction"]) mean mg mb h₀) (hk : cs.kind = .function) (h1 : dp + dm < recursionLimit) (h2 : un + um < cLine)
    (CR : Core R k T0 qq) (hS : Apart T0 (pn :: pd :: fl :: k.map (·.1))) (hc : NoTup k)
    (ret : ∀ (k9 : Nat) (tk9k : Tok) (fv9 : List Value) (T9 : Led) (h' : Heap) (tk9 : Nat), Fr h₀ L h' m → News h₀ L h' ((pn, instObj 184 pd) :: (pd, penD h1' h2' h3' h4' h5' h6' t1 t2 t3 t4 t5 t6 ve v2 v3 (.str (Str.ofString "") tk9k) (.bool false) (.ref fl)) :: (fl, listOf fv9.toArray k9) :: (k ++ T9)) → Apart T9 (pn :: pd :: fl :: k.map (·.1)) → Sub qq T9 → TAll T9 fv9 ds → Q .none ⟨h', gens, drawn, tk9, os⟩) :
    wpAny (model PySem.Challenge.rw_nu0013_01.prog w) (ktrTop dp un gd cn cs L a₀ ccd cl₀ outer) (call (.ref f) vs) Q E ⟨hp, gens, drawn, toks, os⟩ := by
  refine C.use (s := ⟨hp, gens, drawn, toks, os⟩) B F X N T hk h1 h2 fun r9 n9 h9 tk9 F9 N9 hp9 => ?_
  obtain ⟨er9, k9, tk9k, fv9, hU9, hs9, g4⟩ := hp9
  obtain ⟨T9, hAp9, hST9, hSR9, N9'⟩ := tidy (U := [(pn, instObj 184 pd), (pd, penD h1' h2' h3' h4' h5' h6' t1 t2 t3 t4 t5 t6 ve v2 v3 (.str (Str.ofString "") tk9k) (.bool false) (.ref fl)), (fl, listOf fv9.toArray k9)]) hU9 hs9 N9 CR (sepL_of hS) ⟨cls_inst, cls_dict, cls_list, hc⟩
  subst er9
  exact ret k9 tk9k fv9 T9 h9 tk9 F9 N9' hAp9 hSR9 (g4.monoT hST9)
end Mine

set_option maxHeartbeats 4000000
set_option pp.deepTerms false
set_option pp.proofs false
set_option linter.unusedVariables false
set_option linter.all false
namespace Mine
local macro_rules | `(tactic| keq_rows) => `(tactic| k_extra "rows9")
local macro_rules | `(tactic| k_mem) => `(tactic| keq_rows)
local macro_rules | `(tactic| kat_tups) => `(tactic| k_extra "mono9")
local macro_rules | `(tactic| kbo_bools) => `(tactic| k_extra "amono9")
local macro_rules | `(tactic| keq_hits) => `(tactic| k_extra "tin9")
local macro_rules | `(tactic| kct_strs) => `(tactic| k_extra "tall9")
local macro_rules | `(tactic| kp_flats) => `(tactic| k_extra "sub9")
local macro_rules | `(tactic| k_all) => `(tactic| k_extra "all9")
local macro_rules | `(tactic| k_lt $h:ident) => `(tactic| k_extra "lt9")
local macro_rules | `(tactic| k_ne) => `(tactic| k_extra "ne9")
local macro_rules | `(tactic| kmk_size) => `(tactic| k_extra "size9")
local macro_rules | `(tactic| k_upd) => `(tactic| k_extra "upd9")
local macro_rules | `(tactic| k_room) => `(tactic| ktr_room)
local macro_rules | `(tactic| k_units) => `(tactic| ktr_units)
local macro_rules | `(tactic| walk_at $s:str) => `(tactic| k_extra $s)
theorem wdJ1PNx1 : True := by
  k_with "rows9" => first | with_reducible assumption | exact List.mem_cons_self | (refine List.mem_cons_of_mem _ ?_; keq_rows) | (refine Sub.use (by with_reducible assumption) ?_; keq_rows) | fail "keq_rows"
  k_with "mono9" => first | with_reducible assumption | (refine' TIn.mono ?ms ?mh; (case ms => exact (fun _ h => List.mem_cons_of_mem _ h)); (case mh => kat_tups)) | (refine' TIn.mono ?ms ?mh; (case ms => with_reducible assumption); (case mh => kat_tups)) | (refine' CIn.mono ?ms ?mh; (case ms => exact (fun _ h => List.mem_cons_of_mem _ h)); (case mh => kat_tups)) | (refine' CIn.mono ?ms ?mh; (case ms => with_reducible assumption); (case mh => kat_tups)) | (refine' CNz.mono ?ms ?mh; (case ms => exact (fun _ h => List.mem_cons_of_mem _ h)); (case mh => kat_tups)) | (refine' CNz.mono ?ms ?mh; (case ms => with_reducible assumption); (case mh => kat_tups)) | fail "kat_tups"
  k_with "amono9" => first | with_reducible assumption | (refine' TAll.mono ?ms ?mh; (case ms => exact (fun _ h => List.mem_cons_of_mem _ h)); (case mh => kbo_bools)) | (refine' TAll.mono ?ms ?mh; (case ms => with_reducible assumption); (case mh => kbo_bools)) | fail "kbo_bools"
  k_with "tin9" => first | with_reducible assumption | exact TIn.none | exact TIn.int _ _ | exact TIn.str _ _ | exact TIn.bool _ | (refine TIn.mono ?_ (by with_reducible assumption); kp_flats) | (refine TIn.intE ?_; first | omega | (simp; done)) | exact TIn.tuple (by keq_rows) (by kct_strs) | kat_tups | fail "keq_hits"
  k_with "tall9" => first | with_reducible assumption | exact TAll.nil | (refine TAll.mono ?_ (by with_reducible assumption); kp_flats) | exact TAll.cons (by keq_hits) (by kct_strs) | exact TAll.append (by kct_strs) (by kct_strs) | kbo_bools | fail "kct_strs"
  k_with "sub9" => first | with_reducible exact Sub.refl | with_reducible exact Sub.nil | with_reducible assumption | (with_reducible refine Sub.mk ?sm ?sr; (case sm => keq_rows); (case sr => kp_flats)) | (intro p9 h9; (repeat (first | with_reducible assumption | (with_reducible refine List.mem_cons_of_mem _ ?_) | refine Sub.use (by with_reducible assumption) ?_)); done) | fail "kp_flats"
  k_with "lt9" => skip
  k_with "size9" => exact size9 rfl
  k_with "ne9" => ((try dsimp only); first | with_reducible assumption | exact Ne.symm (by with_reducible assumption) | exact ltNe9 (by with_reducible assumption) (by keq_rows) | exact gtNe9 (by with_reducible assumption) (by keq_rows) | exact Nat.ne_of_lt (by with_reducible assumption) | exact Nat.ne_of_gt (by with_reducible assumption) | exact ltNe1 (by with_reducible assumption) (by keq_rows) | exact gtNe1 (by with_reducible assumption) (by keq_rows) | exact neOf9 (by with_reducible assumption) (by keq_rows) | exact Ne.symm (neOf9 (by with_reducible assumption) (by keq_rows)) | exact ltNe8 (by with_reducible assumption) (by keq_rows) (by with_reducible assumption) | exact gtNe8 (by with_reducible assumption) (by keq_rows) (by with_reducible assumption) | fail "ne9")
  k_with "all9" => first | with_reducible assumption | exact List.forall_mem_nil _ | (refine' List.forall_mem_cons.mpr ⟨?a, ?b⟩; (case a => k_ne); (case b => k_all)) | exact Apart.ne (by with_reducible assumption) (by keq_rows) | exact allLt_ne (by with_reducible assumption) | exact rawLt_ne (by with_reducible assumption) (by kp_flats) | exact rawNe9 (by with_reducible assumption) (by kp_flats) | exact rawLt_ne1 (by with_reducible assumption) (by kp_flats) | exact rawLt_ne8 (by with_reducible assumption) (by with_reducible assumption) (by kp_flats) | fail "k_all"
  k_with "upd9" => first | ((with_reducible show Pick _ _ _); first | exact Pick.here | (refine' Pick.there ?pk; (case pk => k_upd)) | fail "pick") | ((with_reducible show Core _ _ _ _); first | (refine' Core.tup ?ck; (case ck => k_upd)) | (refine' Core.keep ?ck; (case ck => k_upd)) | exact Core.tail | fail "core") | ((with_reducible show Apart _ _); first | with_reducible assumption | exact Apart.nil | (refine Apart.mk ?sa ?sb; (case sa => k_all); (case sb => k_upd)) | fail "apart") | ((with_reducible show SepL _ _); (try dsimp only [List.cons_append, List.nil_append]); first | exact True.intro | (refine And.intro ?sa ?sb; (case sa => k_all); (case sb => k_upd)) | fail "sep") | ((with_reducible show NoTup _); (try dsimp only [List.cons_append, List.nil_append]); first | exact True.intro | (refine And.intro ?sa ?sb; (case sa => first | exact cls_list | exact cls_dict | exact cls_inst | exact cls_rng | with_reducible assumption | exact NoT.of (by with_reducible assumption) | exact NoT.cell (by with_reducible assumption) | exact cls_pen (by with_reducible assumption) | exact cls_src (by with_reducible assumption) | exact LawIn.cls (by with_reducible assumption) | fail "cls"); (case sb => k_upd)) | fail "notup")
  k_with "tallD9" => first | assumption | (refine TAll.mono ?_ (by assumption); kp_flats) | fail "tallD9"
  k_with "len9" => first | with_reducible assumption | exact Nat.le_trans (by with_reducible assumption) (Nat.le_of_ble_eq_true rfl) | exact Nat.le_of_ble_eq_true rfl | omega | (simp only [List.length_append, List.length_cons, List.length_nil]; omega) | fail "len9"
  k_with "rnz9" => first | exact RNz.nul | exact RNz.of (by keq_hits) | with_reducible assumption | (refine RNz.mono ?_ (by with_reducible assumption); kp_flats) | fail "rnz9"
  k_with "law9" => first | with_reducible assumption | (refine LawIn.mono ?_ (by with_reducible assumption); kp_flats) | fail "law9"
  k_with "WhlIf" => (refine WhlIf.no (decide_eq_false (by rw [Int.fmod_one]; decide)) ?_)
  k_with "call builtin:list.append" => (k_here; (with_reducible show wpAny _ _ (call (Value.builtin _) [Value.ref _, _]) _ _ _); k_dflt (refine' my_append ?k1 ?k2 ?k3 ?z ?_; (case k1 => k_asm); (case k2 => k_asm); (case k3 => k_upd); (case z => first | exact Nat.le_of_ble_eq_true rfl | omega | (simp only [List.length_append, List.length_cons, List.length_nil]; omega)); k_whole); intro h' F' N'; (try dsimp only [List.nil_append, List.cons_append] at N'); (try k_sweep))
  k_with "compareOp In str str" => k_dflt (first | refine my_in_str (b := true) (by decide +kernel) ?_ | refine my_in_str (b := false) (by decide +kernel) ?_)
  k_with "UnrEnd" => (k_here; k_dflt (refine' my_unrEnd ?F ?N ?P ?o ?_; (case F => k_asm); (case N => k_asm); (case P => k_upd); (case o => k_all)))
  k_with "compareOp Eq ref ref" => (k_here; (with_reducible show wpAny _ _ (compareOp CmpOp.Eq (Value.ref _) (Value.ref 47)) _ _ _); k_dflt (refine' my_eq_zero ?F ?X ?l ?N ?a ?u ?_; (case F => k_asm); (case X => k_asm); (case l => k_is); (case N => k_asm); (case a => keq_hits); (case u => ktr_units)))
  k_with "compareOp Eq ref ref" => (k_here; (with_reducible show wpAny _ _ (compareOp CmpOp.Eq (Value.ref _) (Value.ref _)) _ _ _); k_dflt (refine' my_eq_pt ?N ?a ?b ?u ?_; (case N => k_asm); (case a => keq_hits); (case b => keq_hits); (case u => ktr_units)))
  k_with "subscriptTail Name Constant ref int" => (k_here; (with_reducible show wpAny _ _ (subscriptTail _ _ (Value.ref _) (Value.int _ _)) _ _ _); k_dflt (refine' item_litK ?t ?a ?b ?c ?_ ?d; (case t => exact News.isList (by k_asm) (by keq_rows)); (case a => decide); (case b => decide); (case c => exact rfl); (case d => with_unfolding_all rfl); k_whole))
  k_with "subscriptTail Name Constant ref int" => (k_here; (with_reducible show wpAny _ _ (subscriptTail _ _ (Value.ref _) (Value.int _ _)) _ _ _); k_dflt (refine item_tupleT (News.isTup (by k_asm) (by keq_rows)) (by decide) (by decide) (by exact rfl) (by exact rfl) ?_; k_whole))
  k_with "subscriptTail Name Name ref int" => (k_here; (with_reducible show wpAny _ _ (subscriptTail _ _ (Value.ref _) (Value.int _ _)) _ _ _); k_dflt (refine item_tupleT (News.isTup (by k_asm) (by keq_rows)) (by decide) (by decide) (by exact rfl) (by exact rfl) ?_; k_whole))
  k_with "subscriptTail Name BinOp ref int" => (k_here; (with_reducible show wpAny _ _ (subscriptTail _ _ (Value.ref _) (Value.int _ _)) _ _ _); k_dflt (refine item_tupleT (News.isTup (by k_asm) (by keq_rows)) (by decide) (by decide) (by exact rfl) (by exact rfl) ?_; k_whole))
  trivial
noncomputable def Stop (P : Prop) : Prop := P
theorem stopAt {P : Prop} (h : Stop P) : P := h
inductive Cmd where
  | M (x y : Int)
  | L (x y : Int)
  | H (x : Int)
  | V (y : Int)
  | C (a b c d x y : Int)
  | S (a b x y : Int)
  | Q (a b x y : Int)
  | T (x y : Int)
  | A (rx ry tn lg sw x y : Int)
  | Z
noncomputable def Cmd.letter (rel : Bool) : Cmd → Str
  | .M .. => if rel then Str.ofString "m" else Str.ofString "M"
  | .L .. => if rel then Str.ofString "l" else Str.ofString "L"
  | .H .. => if rel then Str.ofString "h" else Str.ofString "H"
  | .V .. => if rel then Str.ofString "v" else Str.ofString "V"
  | .C .. => if rel then Str.ofString "c" else Str.ofString "C"
  | .S .. => if rel then Str.ofString "s" else Str.ofString "S"
  | .Q .. => if rel then Str.ofString "q" else Str.ofString "Q"
  | .T .. => if rel then Str.ofString "t" else Str.ofString "T"
  | .A .. => if rel then Str.ofString "a" else Str.ofString "A"
  | .Z => if rel then Str.ofString "z" else Str.ofString "Z"
noncomputable def Cmd.nums : Cmd → List Dat
  | .M x y => [fr x, fr y]
  | .L x y => [fr x, fr y]
  | .H x => [fr x]
  | .V y => [fr y]
  | .C a b c d x y => [fr a, fr b, fr c, fr d, fr x, fr y]
  | .S a b x y => [fr a, fr b, fr x, fr y]
  | .Q a b x y => [fr a, fr b, fr x, fr y]
  | .T x y => [fr x, fr y]
  | .A rx ry tn lg sw x y => [fr rx, fr ry, fr tn, .int lg, .int sw, fr x, fr y]
  | .Z => []
noncomputable def flat : List (Int × Int) → List Dat
  | [] => []
  | p :: r => fr p.1 :: fr p.2 :: flat r
noncomputable def raws : List (Int × Int) → List Dat
  | [] => []
  | p :: r => rawp p.1 p.2 :: raws r
theorem flat_app : ∀ (a b : List (Int × Int)), flat (a ++ b) = flat a ++ flat b
  | [], _ => rfl
  | p :: r, b => congrArg (fun t => fr p.1 :: fr p.2 :: t) (flat_app r b)
theorem flat_len : ∀ (a : List (Int × Int)), (flat a).length = 2 * a.length
  | [] => rfl
  | _ :: r => by show (flat r).length + 1 + 1 = 2 * (r.length + 1); rw [flat_len r]; rfl
noncomputable def Cmd.dat (rel : Bool) (c : Cmd) : Dat := .tuple [.str (c.letter rel), .tuple c.nums]
noncomputable def PP.mv (S : PP) : List Dat := if S.cl && !false then [Dat.tuple [.str (Str.ofString "move"), pt S.hx S.hy]] else []
noncomputable def PP.rx (S : PP) (rel : Bool) (x : Int) : Int := if rel then S.hx + x else x
noncomputable def PP.ry (S : PP) (rel : Bool) (y : Int) : Int := if rel then S.hy + y else y
noncomputable def PP.mx (S : PP) (k : Str) : Int := if S.kd = k then 2 * S.hx - S.cx else S.hx
noncomputable def PP.my (S : PP) (k : Str) : Int := if S.kd = k then 2 * S.hy - S.cy else S.hy
noncomputable def PP.put (S : PP) (seg : List Dat) (x y : Int) : PP := ⟨x, y, S.sx, S.sy, S.cx, S.cy, Str.ofString "", false, S.found ++ S.mv ++ [Dat.tuple seg]⟩
noncomputable def absI (r : Int) : Int := if r < 0 then -r else r
noncomputable def step (S : PP) (rel : Bool) : Cmd → PP
  | .M x y => ⟨S.rx rel x, S.ry rel y, S.rx rel x, S.ry rel y, S.cx, S.cy, Str.ofString "", false, S.found ++ (if S.cl && !true then [Dat.tuple [.str (Str.ofString "move"), pt S.hx S.hy]] else []) ++ [Dat.tuple [.str (Str.ofString "move"), pt (S.rx rel x) (S.ry rel y)]]⟩
  | .L x y => S.put [.str (Str.ofString "line"), pt (S.rx rel x) (S.ry rel y)] (S.rx rel x) (S.ry rel y)
  | .H x => S.put [.str (Str.ofString "line"), pt (S.rx rel x) S.hy] (S.rx rel x) S.hy
  | .V y => S.put [.str (Str.ofString "line"), pt S.hx (S.ry rel y)] S.hx (S.ry rel y)
  | .C a b c d x y => { S.put [.str (Str.ofString "cubic"), pt (S.rx rel a) (S.ry rel b), pt (S.rx rel c) (S.ry rel d), pt (S.rx rel x) (S.ry rel y)] (S.rx rel x) (S.ry rel y) with cx := S.rx rel c, cy := S.ry rel d, kd := Str.ofString "cubic" }
  | .S a b x y => { S.put [.str (Str.ofString "cubic"), pt (S.mx (Str.ofString "cubic")) (S.my (Str.ofString "cubic")), pt (S.rx rel a) (S.ry rel b), pt (S.rx rel x) (S.ry rel y)] (S.rx rel x) (S.ry rel y) with cx := S.rx rel a, cy := S.ry rel b, kd := Str.ofString "cubic" }
  | .Q a b x y => { S.put [.str (Str.ofString "quad"), pt (S.rx rel a) (S.ry rel b), pt (S.rx rel x) (S.ry rel y)] (S.rx rel x) (S.ry rel y) with cx := S.rx rel a, cy := S.ry rel b, kd := Str.ofString "quad" }
  | .T x y => { S.put [.str (Str.ofString "quad"), pt (S.mx (Str.ofString "quad")) (S.my (Str.ofString "quad")), pt (S.rx rel x) (S.ry rel y)] (S.rx rel x) (S.ry rel y) with cx := S.mx (Str.ofString "quad"), cy := S.my (Str.ofString "quad"), kd := Str.ofString "quad" }
  | .A rx ry tn lg sw x y => if S.rx rel x = S.hx ∧ S.ry rel y = S.hy then ⟨S.hx, S.hy, S.sx, S.sy, S.cx, S.cy, Str.ofString "", S.cl, S.found⟩
      else if absI rx = 0 ∨ absI ry = 0 then S.put [.str (Str.ofString "line"), pt (S.rx rel x) (S.ry rel y)] (S.rx rel x) (S.ry rel y)
      else S.put [.str (Str.ofString "arc"), fr (absI rx), fr (absI ry), fr tn, .bool (lg == 1), .bool (sw == 1), pt (S.rx rel x) (S.ry rel y)] (S.rx rel x) (S.ry rel y)
  | .Z => ⟨S.sx, S.sy, S.sx, S.sy, S.cx, S.cy, Str.ofString "", true, S.found ++ (if S.cl then [Dat.tuple [.str (Str.ofString "move"), pt S.hx S.hy]] else []) ++ [Dat.tuple [.str (Str.ofString "close")]]⟩
theorem my_unrEndW {h₀ : Heap} {L I : Addr} {it : Obj} {rest : (Str → Option Value) → List (Addr × Obj) → Prop} {s₁ : Shared} {h' : Heap} {tk : Nat} {m' : Str → Option Value} {all r' : Led} (F : Fr h₀ L h' m') (N : News h₀ L h' all)
    (P : Pick (I, it) all r') (off : ∀ p ∈ r', p.1 ≠ I) (r : rest m' r') : UnrEndW h₀ L s₁ [(I, it)] rest { s₁ with heap := h', toks := tk } :=
  ⟨h', tk, m', r', rfl, F, fun p hp => N p (P.sub p hp), fun p hp q hq => by rw [List.mem_singleton.mp hq]; exact off p hp, r⟩
theorem map_keep {m : Str → Option Value} {x : Str} {v : Value} (h : m x = some v) : m = fun y => if y = x then some v else m y := by
  funext y
  by_cases e : y = x
  · rw [if_pos e, e]; exact h
  · rw [if_neg e]
theorem fine_ctr {w : World} {mean : ExcName → Option Value} {mg mb : Str → Option Value} {v : Value} {x y : Int} {news : Led} (hv : TIn news v (rawp x y)) :
    Ctr w mean mg mb 244 3 40 [v] news (fun r news' => Sub news news' ∧ TIn news' r (pt x y)) := by
  obtain ⟨va, t, u, n, rfl, hm⟩ := hv.raw_inv
  (have hfill : True := fillT (K := Mine.hd.heap_1) (l := PySem.Challenge.rw_nu0013_01) (by k_fill; exact trivial); clear hfill; k_dflt (refine' Ctr.body ?k6 ?k7 ?k9 ?kB ?c2 ?c3 ?c4 ?c5 ?_; (case k6 => k_is); (case k7 => k_is); (case k9 => exact fun s X => BindsTo.of_eq rfl); (case kB => exact locs rfl); (case c2 => exact rfl); (case c3 => exact rfl); (case c4 => exact rfl); (case c5 => decide)); intro dp un gd A₀ base g outer L hp gens drawn toks os QQ B X T F N hd1 hd2 hret hnx; (try dsimp only); (try k_fold))
  repeat' (first | (k_unfold; (try dsimp only)) | (k_end; (fail_if_success (with_reducible show QQ _ _)); wrow_close) | walk1 | (dsimp only; walk1) | (leave1; walk_say "STEP leave1"; try dsimp only) | fail "no step")
  all_goals exact hret _ _ _ _ _ _ (by k_asm) (by k_asm) ⟨by kp_flats, by keq_hits⟩
theorem moved_exact {w : World} {mean : ExcName → Option Value} {mg mb : Str → Option Value} {v v' : Value} {x y x' y' : Int} {news : Led} (hv : TIn news v (rawp x y)) (hv' : TIn news v' (rawp x' y')) :
    Ctr w mean mg mb 237 3 40 [v, v'] news (fun r news' => ∃ D t u n, r = .ref D ∧ news' = (D, tupO [.int (x' - x) t, .int (y' - y) u] n) :: news ∧ ∀ p ∈ news, p.1 < D) := by
  obtain ⟨va, t, u, n, rfl, hm⟩ := hv.raw_inv
  obtain ⟨va', t', u', n', rfl, hm'⟩ := hv'.raw_inv
  (have hfill : True := fillT (K := Mine.hd.heap_1) (l := PySem.Challenge.rw_nu0013_01) (by k_fill; exact trivial); clear hfill; k_dflt (refine' Ctr.body ?k6 ?k7 ?k9 ?kB ?c2 ?c3 ?c4 ?c5 ?_; (case k6 => k_is); (case k7 => k_is); (case k9 => exact fun s X => BindsTo.of_eq rfl); (case kB => exact locs rfl); (case c2 => exact rfl); (case c3 => exact rfl); (case c4 => exact rfl); (case c5 => decide)); intro dp un gd A₀ base g outer L hp gens drawn toks os QQ B X T F N hd1 hd2 hret hnx; (try dsimp only); (try k_fold))
  repeat' (first | (k_unfold; (try dsimp only)) | (k_end; (fail_if_success (with_reducible show QQ _ _)); wrow_close) | walk1 | (dsimp only; walk1) | (leave1; walk_say "STEP leave1"; try dsimp only) | fail "no step")
  all_goals exact hret _ _ _ _ _ _ (by k_asm) (by k_asm) ⟨_, _, _, _, rfl, rfl, by with_reducible assumption⟩
theorem moved_ctr {w : World} {mean : ExcName → Option Value} {mg mb : Str → Option Value} {v v' : Value} {x y x' y' : Int} {news : Led} (hv : TIn news v (rawp x y)) (hv' : TIn news v' (rawp x' y')) :
    Ctr w mean mg mb 237 3 40 [v, v'] news (fun r news' => Sub news news' ∧ TIn news' r (rawp (x' - x) (y' - y))) := by
  intro dp un gd cn cs a ccd cl outer A₀ base h₀ L m s Q B F X N T hk h1 h2 ret
  refine moved_exact hv hv' dp un gd cn cs a ccd cl outer A₀ base h₀ L m s Q B F X N T hk h1 h2 ?_
  rintro r n h' tk' F' N' ⟨D, t, u, k, rfl, rfl, _⟩
  exact ret _ _ h' tk' F' N' ⟨fun q hq => .tail _ hq, .tuple (.head _) (.cons (.int _ _) (.cons (.int _ _) .nil))⟩
theorem gcd_ctr {w : World} {mean : ExcName → Option Value} {mg mb : Str → Option Value} {x : Int} {t u : Tok} {news : Led} :
    Ctr w mean mg mb 54 3 40 [.int x t, .int 1 u] news (fun r news' => Sub news news' ∧ ∃ t, r = .int 1 t) := by
  (have hfill : True := fillT (K := Mine.hd.heap_1) (l := PySem.Challenge.rw_nu0013_01) (by k_fill; exact trivial); clear hfill; k_dflt (refine' Ctr.body ?k6 ?k7 ?k9 ?kB ?c2 ?c3 ?c4 ?c5 ?_; (case k6 => k_is); (case k7 => k_is); (case k9 => exact fun s X => BindsTo.of_eq rfl); (case kB => exact locs rfl); (case c2 => exact rfl); (case c3 => exact rfl); (case c4 => exact rfl); (case c5 => decide)); intro dp un gd A₀ base g outer L hp gens drawn toks os QQ B X T F N hd1 hd2 hret hnx; (try dsimp only); (try k_fold))
  repeat' (first | (k_unfold; (try dsimp only)) | (k_end; (fail_if_success (with_reducible show QQ _ _)); wrow_close) | walk1 | (dsimp only; walk1) | (leave1; walk_say "STEP leave1"; try dsimp only) | fail "no step")
  all_goals exact hret _ _ _ _ _ _ (by k_asm) (by k_asm) ⟨by kp_flats, _, rfl⟩
theorem wdJ3N1x2 : True := by
  k_with "call ref" => (k_here; (with_reducible show wpAny _ _ (call (Value.ref 54) _) _ _ _); k_dflt (refine' Ctr.useI (gcd_ctr ) ?k1 ?k2 ?k3 ?k4 ?k5 ?k6 ?k7 ?k8 ?CR9 ?hS9 ?hc9 ?_; (case k1 => k_asm); (case k2 => k_asm); (case k3 => k_asm); (case k4 => k_asm); (case k5 => k_asm); (case k6 => first | exact rfl | assumption);  (case k7 => first | exact room9 hd1 rfl | ktr_room); (case k8 => first | exact room9 hd2 rfl | ktr_units); (case CR9 => k_upd); (case hS9 => ((try dsimp only [List.map]); k_upd)); (case hc9 => k_upd)); k_dflt (intro t9 T9 h9 tk9 F9 N9 hAp9 hSR9 ; dsimp only [List.map, List.cons_append, List.nil_append] at hAp9 N9); (try dsimp only); (try k_sweep); (try k_fold))
  k_with "call ref" => (k_here; (with_reducible show wpAny _ _ (call (Value.ref 244) _) _ _ _); k_dflt (refine' Ctr.useP (fine_ctr ?hv) ?k1 ?k2 ?k3 ?k4 ?k5 ?k6 ?k7 ?k8 ?CR9 ?hS9 ?hc9 ?_; (case k1 => k_asm); (case k2 => k_asm); (case k3 => k_asm); (case k4 => k_asm); (case k5 => k_asm); (case k6 => first | exact rfl | assumption); (case hv => keq_hits); (case k7 => first | exact room9 hd1 rfl | ktr_room); (case k8 => first | exact room9 hd2 rfl | ktr_units); (case CR9 => k_upd); (case hS9 => ((try dsimp only [List.map]); k_upd)); (case hc9 => k_upd)); k_dflt (intro a9 b9 c9 t9 u9 t9' u9' m9 m9' m9'' T9 h9 tk9 F9 N9 hAp9 hSR9 hm9 hm9' hm9'' hr9; dsimp only [List.map, List.cons_append, List.nil_append] at hAp9 N9); (try dsimp only); (try k_sweep); (try k_fold))
  k_with "call ref" => (k_here; (with_reducible show wpAny _ _ (call (Value.ref 237) _) _ _ _); k_dflt (refine' Ctr.useR (moved_ctr ?hv ?hv') ?k1 ?k2 ?k3 ?k4 ?k5 ?k6 ?k7 ?k8 ?CR9 ?hS9 ?hc9 ?_; (case k1 => k_asm); (case k2 => k_asm); (case k3 => k_asm); (case k4 => k_asm); (case k5 => k_asm); (case k6 => first | exact rfl | assumption); (case hv => keq_hits); (case hv' => keq_hits); (case k7 => first | exact room9 hd1 rfl | ktr_room); (case k8 => first | exact room9 hd2 rfl | ktr_units); (case CR9 => k_upd); (case hS9 => ((try dsimp only [List.map]); k_upd)); (case hc9 => k_upd)); k_dflt (intro a9 t9 u9 m9 T9 h9 tk9 F9 N9 hAp9 hSR9 hm9 hr9; dsimp only [List.map, List.cons_append, List.nil_append] at hAp9 N9); (try dsimp only); (try k_sweep); (try k_fold))
  trivial
theorem fraction_ctr {w : World} {mean : ExcName → Option Value} {mg mb : Str → Option Value} {x b : Int} {t u : Tok} {news : Led} (hb : b = 1) :
    Ctr w mean mg mb 62 5 80 [.int x t, .int b u] news (fun r news' => Sub news news' ∧ TIn news' r (fr x)) := by
  subst hb
  (have hfill : True := fillT (K := Mine.hd.heap_1) (l := PySem.Challenge.rw_nu0013_01) (by k_fill; exact trivial); clear hfill; k_dflt (refine' Ctr.body ?k6 ?k7 ?k9 ?kB ?c2 ?c3 ?c4 ?c5 ?_; (case k6 => k_is); (case k7 => k_is); (case k9 => exact fun s X => binds_K (by k_in) rfl (by k_is) rfl rfl rfl); (case kB => exact locs rfl); (case c2 => exact rfl); (case c3 => exact rfl); (case c4 => exact rfl); (case c5 => decide)); intro dp un gd A₀ base g outer L hp gens drawn toks os QQ B X T F N hd1 hd2 hret hnx; (try dsimp only); (try k_fold))
  repeat' (first | (k_unfold; (try dsimp only)) | (k_end; (fail_if_success (with_reducible show QQ _ _)); wrow_close) | walk1 | (dsimp only; walk1) | (leave1; walk_say "STEP leave1"; try dsimp only) | fail "no step")
  all_goals exact hret _ _ _ _ _ _ (by k_asm) (by k_asm) ⟨by kp_flats, by keq_hits⟩
theorem wdJ4N2x3 : True := by
  k_with "call ref" => (k_here; (with_reducible show wpAny _ _ (call (Value.ref 62) _) _ _ _); k_dflt (refine' Ctr.useR (fraction_ctr ?hb) ?k1 ?k2 ?k3 ?k4 ?k5 ?k6 ?k7 ?k8 ?CR9 ?hS9 ?hc9 ?_; (case k1 => k_asm); (case k2 => k_asm); (case k3 => k_asm); (case k4 => k_asm); (case k5 => k_asm); (case k6 => first | exact rfl | assumption); (case hb => rfl); (case k7 => first | exact room9 hd1 rfl | ktr_room); (case k8 => first | exact room9 hd2 rfl | ktr_units); (case CR9 => k_upd); (case hS9 => ((try dsimp only [List.map]); k_upd)); (case hc9 => k_upd)); k_dflt (intro a9 t9 u9 m9 T9 h9 tk9 F9 N9 hAp9 hSR9 hm9 hr9; dsimp only [List.map, List.cons_append, List.nil_append] at hAp9 N9); (try dsimp only); (try k_sweep); (try k_fold))
  trivial
theorem plus_ctr {w : World} {mean : ExcName → Option Value} {mg mb : Str → Option Value} {v v' : Value} {x y : Int} {news : Led} (hv : TIn news v (fr x)) (hv' : TIn news v' (fr y)) :
    Ctr w mean mg mb 69 7 120 [v, v'] news (fun r news' => Sub news news' ∧ TIn news' r (fr (x + y))) := by
  obtain ⟨va, t, u, n, rfl, hm⟩ := hv.raw_inv
  obtain ⟨va', t', u', n', rfl, hm'⟩ := hv'.raw_inv
  (have hfill : True := fillT (K := Mine.hd.heap_1) (l := PySem.Challenge.rw_nu0013_01) (by k_fill; exact trivial); clear hfill; k_dflt (refine' Ctr.body ?k6 ?k7 ?k9 ?kB ?c2 ?c3 ?c4 ?c5 ?_; (case k6 => k_is); (case k7 => k_is); (case k9 => exact fun s X => BindsTo.of_eq rfl); (case kB => exact locs rfl); (case c2 => exact rfl); (case c3 => exact rfl); (case c4 => exact rfl); (case c5 => decide)); intro dp un gd A₀ base g outer L hp gens drawn toks os QQ B X T F N hd1 hd2 hret hnx; (try dsimp only); (try k_fold))
  repeat' (first | (k_unfold; (try dsimp only)) | (k_end; (fail_if_success (with_reducible show QQ _ _)); wrow_close) | walk1 | (dsimp only; walk1) | (leave1; walk_say "STEP leave1"; try dsimp only) | fail "no step")
  all_goals exact hret _ _ _ _ _ _ (by k_asm) (by k_asm) ⟨by kp_flats, by keq_hits⟩
theorem wdJ4N2x4 : True := by
  k_with "call ref" => (k_here; (with_reducible show wpAny _ _ (call (Value.ref 69) _) _ _ _); k_dflt (refine' Ctr.useR (plus_ctr ?hv ?hv') ?k1 ?k2 ?k3 ?k4 ?k5 ?k6 ?k7 ?k8 ?CR9 ?hS9 ?hc9 ?_; (case k1 => k_asm); (case k2 => k_asm); (case k3 => k_asm); (case k4 => k_asm); (case k5 => k_asm); (case k6 => first | exact rfl | assumption); (case hv => keq_hits); (case hv' => keq_hits); (case k7 => first | exact room9 hd1 rfl | ktr_room); (case k8 => first | exact room9 hd2 rfl | ktr_units); (case CR9 => k_upd); (case hS9 => ((try dsimp only [List.map]); k_upd)); (case hc9 => k_upd)); k_dflt (intro a9 t9 u9 m9 T9 h9 tk9 F9 N9 hAp9 hSR9 hm9 hr9; dsimp only [List.map, List.cons_append, List.nil_append] at hAp9 N9); (try dsimp only); (try k_sweep); (try k_fold))
  trivial
theorem minus_ctr {w : World} {mean : ExcName → Option Value} {mg mb : Str → Option Value} {v v' : Value} {x y : Int} {news : Led} (hv : TIn news v (fr x)) (hv' : TIn news v' (fr y)) :
    Ctr w mean mg mb 76 7 120 [v, v'] news (fun r news' => Sub news news' ∧ TIn news' r (fr (x - y))) := by
  obtain ⟨va, t, u, n, rfl, hm⟩ := hv.raw_inv
  obtain ⟨va', t', u', n', rfl, hm'⟩ := hv'.raw_inv
  (have hfill : True := fillT (K := Mine.hd.heap_1) (l := PySem.Challenge.rw_nu0013_01) (by k_fill; exact trivial); clear hfill; k_dflt (refine' Ctr.body ?k6 ?k7 ?k9 ?kB ?c2 ?c3 ?c4 ?c5 ?_; (case k6 => k_is); (case k7 => k_is); (case k9 => exact fun s X => BindsTo.of_eq rfl); (case kB => exact locs rfl); (case c2 => exact rfl); (case c3 => exact rfl); (case c4 => exact rfl); (case c5 => decide)); intro dp un gd A₀ base g outer L hp gens drawn toks os QQ B X T F N hd1 hd2 hret hnx; (try dsimp only); (try k_fold))
  repeat' (first | (k_unfold; (try dsimp only)) | (k_end; (fail_if_success (with_reducible show QQ _ _)); wrow_close) | walk1 | (dsimp only; walk1) | (leave1; walk_say "STEP leave1"; try dsimp only) | fail "no step")
  all_goals exact hret _ _ _ _ _ _ (by k_asm) (by k_asm) ⟨by kp_flats, by keq_hits⟩
theorem wdJ4N2x5 : True := by
  k_with "call ref" => (k_here; (with_reducible show wpAny _ _ (call (Value.ref 76) _) _ _ _); k_dflt (refine' Ctr.useR (minus_ctr ?hv ?hv') ?k1 ?k2 ?k3 ?k4 ?k5 ?k6 ?k7 ?k8 ?CR9 ?hS9 ?hc9 ?_; (case k1 => k_asm); (case k2 => k_asm); (case k3 => k_asm); (case k4 => k_asm); (case k5 => k_asm); (case k6 => first | exact rfl | assumption); (case hv => keq_hits); (case hv' => keq_hits); (case k7 => first | exact room9 hd1 rfl | ktr_room); (case k8 => first | exact room9 hd2 rfl | ktr_units); (case CR9 => k_upd); (case hS9 => ((try dsimp only [List.map]); k_upd)); (case hc9 => k_upd)); k_dflt (intro a9 t9 u9 m9 T9 h9 tk9 F9 N9 hAp9 hSR9 hm9 hr9; dsimp only [List.map, List.cons_append, List.nil_append] at hAp9 N9); (try dsimp only); (try k_sweep); (try k_fold))
  trivial
theorem negated_ctr {w : World} {mean : ExcName → Option Value} {mg mb : Str → Option Value} {v : Value} {x : Int} {news : Led} (hv : TIn news v (fr x)) :
    Ctr w mean mg mb 83 3 40 [v] news (fun r news' => Sub news news' ∧ TIn news' r (fr (-x))) := by
  obtain ⟨va, t, u, n, rfl, hm⟩ := hv.raw_inv
  (have hfill : True := fillT (K := Mine.hd.heap_1) (l := PySem.Challenge.rw_nu0013_01) (by k_fill; exact trivial); clear hfill; k_dflt (refine' Ctr.body ?k6 ?k7 ?k9 ?kB ?c2 ?c3 ?c4 ?c5 ?_; (case k6 => k_is); (case k7 => k_is); (case k9 => exact fun s X => BindsTo.of_eq rfl); (case kB => exact locs rfl); (case c2 => exact rfl); (case c3 => exact rfl); (case c4 => exact rfl); (case c5 => decide)); intro dp un gd A₀ base g outer L hp gens drawn toks os QQ B X T F N hd1 hd2 hret hnx; (try dsimp only); (try k_fold))
  repeat' (first | (k_unfold; (try dsimp only)) | (k_end; (fail_if_success (with_reducible show QQ _ _)); wrow_close) | walk1 | (dsimp only; walk1) | (leave1; walk_say "STEP leave1"; try dsimp only) | fail "no step")
  all_goals exact hret _ _ _ _ _ _ (by k_asm) (by k_asm) ⟨by kp_flats, by keq_hits⟩
theorem wdJ4N2x6 : True := by
  k_with "call ref" => (k_here; (with_reducible show wpAny _ _ (call (Value.ref 83) _) _ _ _); k_dflt (refine' Ctr.useR (negated_ctr ?hv) ?k1 ?k2 ?k3 ?k4 ?k5 ?k6 ?k7 ?k8 ?CR9 ?hS9 ?hc9 ?_; (case k1 => k_asm); (case k2 => k_asm); (case k3 => k_asm); (case k4 => k_asm); (case k5 => k_asm); (case k6 => first | exact rfl | assumption); (case hv => keq_hits); (case k7 => first | exact room9 hd1 rfl | ktr_room); (case k8 => first | exact room9 hd2 rfl | ktr_units); (case CR9 => k_upd); (case hS9 => ((try dsimp only [List.map]); k_upd)); (case hc9 => k_upd)); k_dflt (intro a9 t9 u9 m9 T9 h9 tk9 F9 N9 hAp9 hSR9 hm9 hr9; dsimp only [List.map, List.cons_append, List.nil_append] at hAp9 N9); (try dsimp only); (try k_sweep); (try k_fold))
  trivial
theorem mirrored_ctr {w : World} {mean : ExcName → Option Value} {mg mb : Str → Option Value} {v v' : Value} {x y x' y' : Int} {news : Led} (hv : TIn news v (pt x y)) (hv' : TIn news v' (pt x' y')) :
    Ctr w mean mg mb 104 10 200 [v, v'] news (fun r news' => Sub news news' ∧ TIn news' r (pt (2 * x - x') (2 * y - y'))) := by
  obtain ⟨a, b, c, t, u, t', u', n, n', n'', rfl, hm, hm', hm''⟩ := hv.pt_inv
  obtain ⟨a1, b1, c1, t1, u1, t1', u1', n1, n1', n1'', rfl, hm1, hm1', hm1''⟩ := hv'.pt_inv
  (have hfill : True := fillT (K := Mine.hd.heap_1) (l := PySem.Challenge.rw_nu0013_01) (by k_fill; exact trivial); clear hfill; k_dflt (refine' Ctr.body ?k6 ?k7 ?k9 ?kB ?c2 ?c3 ?c4 ?c5 ?_; (case k6 => k_is); (case k7 => k_is); (case k9 => exact fun s X => BindsTo.of_eq rfl); (case kB => exact locs rfl); (case c2 => exact rfl); (case c3 => exact rfl); (case c4 => exact rfl); (case c5 => decide)); intro dp un gd A₀ base g outer L hp gens drawn toks os QQ B X T F N hd1 hd2 hret hnx; (try dsimp only); (try k_fold))
  repeat' (first | (k_unfold; (try dsimp only)) | (k_end; (fail_if_success (with_reducible show QQ _ _)); wrow_close) | walk1 | (dsimp only; walk1) | (leave1; walk_say "STEP leave1"; try dsimp only) | fail "no step")
  all_goals exact hret _ _ _ _ _ _ (by k_asm) (by k_asm) ⟨by kp_flats, by keq_hits⟩
theorem wdJ4N2x7 : True := by
  k_with "call ref" => (k_here; (with_reducible show wpAny _ _ (call (Value.ref 104) _) _ _ _); k_dflt (refine' Ctr.useP (mirrored_ctr ?hv ?hv') ?k1 ?k2 ?k3 ?k4 ?k5 ?k6 ?k7 ?k8 ?CR9 ?hS9 ?hc9 ?_; (case k1 => k_asm); (case k2 => k_asm); (case k3 => k_asm); (case k4 => k_asm); (case k5 => k_asm); (case k6 => first | exact rfl | assumption); (case hv => keq_hits); (case hv' => keq_hits); (case k7 => first | exact room9 hd1 rfl | ktr_room); (case k8 => first | exact room9 hd2 rfl | ktr_units); (case CR9 => k_upd); (case hS9 => ((try dsimp only [List.map]); k_upd)); (case hc9 => k_upd)); k_dflt (intro a9 b9 c9 t9 u9 t9' u9' m9 m9' m9'' T9 h9 tk9 F9 N9 hAp9 hSR9 hm9 hm9' hm9'' hr9; dsimp only [List.map, List.cons_append, List.nil_append] at hAp9 N9); (try dsimp only); (try k_sweep); (try k_fold))
  trivial
theorem point_ctr {w : World} {mean : ExcName → Option Value} {mg mb : Str → Option Value} {news : Led} {pn pd : Addr} {h1 h2 h3 h4 h5 h6 : Int} {t1 t2 t3 t4 t5 t6 : Tok} {vh v2 v3 v4 v5 v6 vx vy : Value} {rel : Bool} {hx hy x y : Int}
    (hp : (pn, instObj 184 pd) ∈ news)
    (hd : (pd, penD h1 h2 h3 h4 h5 h6 t1 t2 t3 t4 t5 t6 vh v2 v3 v4 v5 v6) ∈ news)
    (hh : TIn news vh (pt hx hy)) (hvx : TIn news vx (fr x)) (hvy : TIn news vy (fr y)) :
    Ctr w mean mg mb 132 10 200 [.ref pn, .bool rel, vx, vy] news (fun r news' => Sub news news' ∧ TIn news' r (pt (if rel then hx + x else x) (if rel then hy + y else y))) := by
  obtain ⟨ha, hb, hc, g1, g2, g3, g4, j1, j2, j3, rfl, hm1, hm2, hm3⟩ := hh.pt_inv
  cases rel
  · (have hfill : True := fillT (K := Mine.hd.heap_1) (l := PySem.Challenge.rw_nu0013_01) (by k_fill; exact trivial); clear hfill; k_dflt (refine' Ctr.body ?k6 ?k7 ?k9 ?kB ?c2 ?c3 ?c4 ?c5 ?_; (case k6 => k_is); (case k7 => k_is); (case k9 => exact fun s X => BindsTo.of_eq rfl); (case kB => exact locs rfl); (case c2 => exact rfl); (case c3 => exact rfl); (case c4 => exact rfl); (case c5 => decide)); intro dp un gd A₀ base g outer L hp gens drawn toks os QQ B X T F N hd1 hd2 hret hnx; (try dsimp only); (try k_fold))
    repeat' (first | (k_unfold; (try dsimp only)) | (k_end; (fail_if_success (with_reducible show QQ _ _)); wrow_close) | walk1 | (dsimp only; walk1) | (leave1; walk_say "STEP leave1"; try dsimp only) | fail "no step")
    all_goals exact hret _ _ _ _ _ _ (by k_asm) (by k_asm) ⟨by kp_flats, by (simp only [Bool.false_eq_true, if_false]; keq_hits)⟩
  · (have hfill : True := fillT (K := Mine.hd.heap_1) (l := PySem.Challenge.rw_nu0013_01) (by k_fill; exact trivial); clear hfill; k_dflt (refine' Ctr.body ?k6 ?k7 ?k9 ?kB ?c2 ?c3 ?c4 ?c5 ?_; (case k6 => k_is); (case k7 => k_is); (case k9 => exact fun s X => BindsTo.of_eq rfl); (case kB => exact locs rfl); (case c2 => exact rfl); (case c3 => exact rfl); (case c4 => exact rfl); (case c5 => decide)); intro dp un gd A₀ base g outer L hp gens drawn toks os QQ B X T F N hd1 hd2 hret hnx; (try dsimp only); (try k_fold))
    repeat' (first | (k_unfold; (try dsimp only)) | (k_end; (fail_if_success (with_reducible show QQ _ _)); wrow_close) | walk1 | (dsimp only; walk1) | (leave1; walk_say "STEP leave1"; try dsimp only) | fail "no step")
    all_goals exact hret _ _ _ _ _ _ (by k_asm) (by k_asm) ⟨by kp_flats, by (simp only [if_true]; keq_hits)⟩
theorem wdJ5N3x8 : True := by
  k_with "call ref" => (k_here; (with_reducible show wpAny _ _ (call (Value.ref 132) _) _ _ _); k_dflt (refine' Ctr.useP (point_ctr ?hp ?hd ?hh ?hvx ?hvy) ?k1 ?k2 ?k3 ?k4 ?k5 ?k6 ?k7 ?k8 ?CR9 ?hS9 ?hc9 ?_; (case k1 => k_asm); (case k2 => k_asm); (case k3 => k_asm); (case k4 => k_asm); (case k5 => k_asm); (case k6 => first | exact rfl | assumption); (case hp => keq_rows); (case hd => keq_rows); (case hh => keq_hits); (case hvx => keq_hits); (case hvy => keq_hits); (case k7 => first | exact room9 hd1 rfl | ktr_room); (case k8 => first | exact room9 hd2 rfl | ktr_units); (case CR9 => k_upd); (case hS9 => ((try dsimp only [List.map]); k_upd)); (case hc9 => k_upd)); k_dflt (intro a9 b9 c9 t9 u9 t9' u9' m9 m9' m9'' T9 h9 tk9 F9 N9 hAp9 hSR9 hm9 hm9' hm9'' hr9; dsimp only [List.map, List.cons_append, List.nil_append] at hAp9 N9); (try dsimp only); (try k_sweep); (try k_fold))
  trivial
theorem wdJ6N4x9 : True := by
  k_with "subscriptTail" => (k_here; (with_reducible show wpAny _ _ (subscriptTail _ _ (Value.ref _) (Value.int _ _)) _ _ _); k_dflt (refine item_tupleT (j := 0) (News.isTup (by k_asm) (by keq_rows)) (by decide) (by decide) (by exact seqIdx_first) (by exact get_first) ?_; k_whole))
  k_with "subscriptTail" => (k_here; (with_reducible show wpAny _ _ (subscriptTail _ _ (Value.ref _) (Value.int _ _)) _ _ _); k_dflt (refine item_tupleT (News.isTup (by k_asm) (by keq_rows)) (by decide) (by decide) (by exact seqIdx_last) (by exact get_last) ?_; k_whole))
  trivial
theorem put_ctr {w : World} {mean : ExcName → Option Value} {mg mb : Str → Option Value} {cur r1 r2 R : Led} {pn pd fl sa : Addr} {h1 h2 h3 h4 h5 h6 : Int} {t1 t2 t3 t4 t5 t6 : Tok} {vh v2 v3 v4 : Value} {k ns : Nat} {cl b : Bool} {hx hy px py : Int} {ts : Tok} {nm : Str} {mid : List Value} {ve : Value} {D : Dat} {fv : List Value} {ds : List Dat}
    (P1 : Pick (pn, instObj 184 pd) cur r1) (P2 : Pick (pd, penD h1 h2 h3 h4 h5 h6 t1 t2 t3 t4 t5 t6 vh v2 v3 v4 (.bool cl) (.ref fl)) r1 r2) (P3 : Pick (fl, listOf fv.toArray k) r2 R)
    (q1 : @Ne Nat pn pd) (q2 : @Ne Nat pn fl) (q3 : @Ne Nat pd fl) (hA : Apart R [pn, pd, fl])
    (hsa : (sa, tupO (.str nm ts :: (mid ++ [ve])) ns) ∈ R) (hh : TIn R vh (pt hx hy)) (hf : TAll R fv ds) (hl : ds.length ≤ 900) (hD : TIn R (.ref sa) D) (hve : TIn R ve (pt px py)) (hb : (nm == Str.ofString "move") = b) :
    Ctr w mean mg mb 139 4 60 [.ref pn, .ref sa] cur (fun r news' => r = .none ∧ PutPost pn pd fl h1 h2 h3 h4 h5 h6 t1 t2 t3 t4 t5 t6 ve v2 v3 R (ds ++ (if cl && !b then [Dat.tuple [.str (Str.ofString "move"), pt hx hy]] else []) ++ [D]) news') := by
  refine Ctr.weaken (news := (pn, instObj 184 pd) :: (pd, penD h1 h2 h3 h4 h5 h6 t1 t2 t3 t4 t5 t6 vh v2 v3 v4 (.bool cl) (.ref fl)) :: (fl, listOf fv.toArray k) :: R) (fun p hp => P1.sub _ (Sub.cons (fun p hp => P2.sub _ (Sub.cons P3.sub _ hp)) _ hp)) ?_
  have hlen := hf.length
  obtain ⟨y0, hve1⟩ := hve.ref
  subst hve1
  cases cl
  all_goals (
    (have hfill : True := fillT (K := Mine.hd.heap_1) (l := PySem.Challenge.rw_nu0013_01) (by k_fill; exact trivial); clear hfill; k_dflt (refine' Ctr.body ?k6 ?k7 ?k9 ?kB ?c2 ?c3 ?c4 ?c5 ?_; (case k6 => k_is); (case k7 => k_is); (case k9 => exact fun s X => BindsTo.of_eq rfl); (case kB => exact locs rfl); (case c2 => exact rfl); (case c3 => exact rfl); (case c4 => exact rfl); (case c5 => decide)); intro dp un gd A₀ base g outer L hp gens drawn toks os QQ B X T F N hd1 hd2 hret hnx; (try dsimp only); (try k_fold))
    repeat' (first | (k_unfold; (try dsimp only)) | (k_end; (fail_if_success (with_reducible show QQ _ _)); wrow_close) | walk1 | (dsimp only; walk1) | (leave1; walk_say "STEP leave1"; try dsimp only) | fail "no step"))
  · refine hnx _ _ _ _ _ (by k_asm) (by k_asm) (PutPost.mk (by kp_flats) (by kp_flats) ?_)
    simp only [Bool.false_and, Bool.false_eq_true, if_false, List.append_nil]
    kct_strs
  all_goals refine hnx _ _ _ _ _ (by k_asm) (by k_asm) (PutPost.mk (by kp_flats) (by kp_flats) ?_)
  · have hq : b = false := hb.symm.trans (bne_t (by assumption))
    simp only [hq, Bool.true_and, Bool.not_false, if_true]
    kct_strs
  · have hq : b = true := hb.symm.trans (bne_f (by assumption))
    simp only [hq, Bool.true_and, Bool.not_true, Bool.false_eq_true, if_false, List.append_nil]
    kct_strs
theorem wdJ6N4x10 : True := by
  k_with "call ref" => (k_here; (with_reducible show wpAny _ _ (call (Value.ref 139) _) _ _ _); k_dflt (refine' Ctr.usePut (put_ctr (b := true) (mid := []) ?P1 ?P2 ?P3 ?q1 ?q2 ?q3 ?hA ?hsa ?hh ?hf ?hl ?hD ?hve ?hb) ?k1 ?k2 ?k3 ?k4 ?k5 ?k6 ?k7 ?k8 ?CR9 ?hS9 ?hc9 ?_; (case k1 => k_asm); (case k2 => k_asm); (case k3 => k_asm); (case k4 => k_asm); (case k5 => k_asm); (case k6 => first | exact rfl | assumption); (case P1 => k_upd); (case P2 => k_upd); (case P3 => k_upd); (case q1 => k_ne); (case q2 => k_ne); (case q3 => k_ne); (case hA => k_upd); (case hsa => keq_rows); (case hh => keq_hits); (case hf => kct_strs); (case hl => k_extra "len9"); (case hD => keq_hits); (case hve => keq_hits); (case hb => decide); (case k7 => first | exact room9 hd1 rfl | ktr_room); (case k8 => first | exact room9 hd2 rfl | ktr_units); (case CR9 => k_upd); (case hS9 => ((try dsimp only [List.map]); k_upd)); (case hc9 => k_upd)); k_dflt (intro k9' tk9' fv9 T9 h9 tk9 F9 N9 hAp9 hSR9 hf9; dsimp only [List.map, List.cons_append, List.nil_append] at hAp9 N9); (try dsimp only); (try k_sweep); (try k_fold))
  k_with "call ref" => (k_here; (with_reducible show wpAny _ _ (call (Value.ref 139) _) _ _ _); k_dflt (refine' Ctr.usePut (put_ctr (b := false) (mid := [_, _, _, _, _]) ?P1 ?P2 ?P3 ?q1 ?q2 ?q3 ?hA ?hsa ?hh ?hf ?hl ?hD ?hve ?hb) ?k1 ?k2 ?k3 ?k4 ?k5 ?k6 ?k7 ?k8 ?CR9 ?hS9 ?hc9 ?_; (case k1 => k_asm); (case k2 => k_asm); (case k3 => k_asm); (case k4 => k_asm); (case k5 => k_asm); (case k6 => first | exact rfl | assumption); (case P1 => k_upd); (case P2 => k_upd); (case P3 => k_upd); (case q1 => k_ne); (case q2 => k_ne); (case q3 => k_ne); (case hA => k_upd); (case hsa => keq_rows); (case hh => keq_hits); (case hf => kct_strs); (case hl => k_extra "len9"); (case hD => keq_hits); (case hve => keq_hits); (case hb => decide); (case k7 => first | exact room9 hd1 rfl | ktr_room); (case k8 => first | exact room9 hd2 rfl | ktr_units); (case CR9 => k_upd); (case hS9 => ((try dsimp only [List.map]); k_upd)); (case hc9 => k_upd)); k_dflt (intro k9' tk9' fv9 T9 h9 tk9 F9 N9 hAp9 hSR9 hf9; dsimp only [List.map, List.cons_append, List.nil_append] at hAp9 N9); (try dsimp only); (try k_sweep); (try k_fold))
  k_with "call ref" => (k_here; (with_reducible show wpAny _ _ (call (Value.ref 139) _) _ _ _); k_dflt (refine' Ctr.usePut (put_ctr (b := false) (mid := [_, _]) ?P1 ?P2 ?P3 ?q1 ?q2 ?q3 ?hA ?hsa ?hh ?hf ?hl ?hD ?hve ?hb) ?k1 ?k2 ?k3 ?k4 ?k5 ?k6 ?k7 ?k8 ?CR9 ?hS9 ?hc9 ?_; (case k1 => k_asm); (case k2 => k_asm); (case k3 => k_asm); (case k4 => k_asm); (case k5 => k_asm); (case k6 => first | exact rfl | assumption); (case P1 => k_upd); (case P2 => k_upd); (case P3 => k_upd); (case q1 => k_ne); (case q2 => k_ne); (case q3 => k_ne); (case hA => k_upd); (case hsa => keq_rows); (case hh => keq_hits); (case hf => kct_strs); (case hl => k_extra "len9"); (case hD => keq_hits); (case hve => keq_hits); (case hb => decide); (case k7 => first | exact room9 hd1 rfl | ktr_room); (case k8 => first | exact room9 hd2 rfl | ktr_units); (case CR9 => k_upd); (case hS9 => ((try dsimp only [List.map]); k_upd)); (case hc9 => k_upd)); k_dflt (intro k9' tk9' fv9 T9 h9 tk9 F9 N9 hAp9 hSR9 hf9; dsimp only [List.map, List.cons_append, List.nil_append] at hAp9 N9); (try dsimp only); (try k_sweep); (try k_fold))
  k_with "call ref" => (k_here; (with_reducible show wpAny _ _ (call (Value.ref 139) _) _ _ _); k_dflt (refine' Ctr.usePut (put_ctr (b := false) (mid := [_]) ?P1 ?P2 ?P3 ?q1 ?q2 ?q3 ?hA ?hsa ?hh ?hf ?hl ?hD ?hve ?hb) ?k1 ?k2 ?k3 ?k4 ?k5 ?k6 ?k7 ?k8 ?CR9 ?hS9 ?hc9 ?_; (case k1 => k_asm); (case k2 => k_asm); (case k3 => k_asm); (case k4 => k_asm); (case k5 => k_asm); (case k6 => first | exact rfl | assumption); (case P1 => k_upd); (case P2 => k_upd); (case P3 => k_upd); (case q1 => k_ne); (case q2 => k_ne); (case q3 => k_ne); (case hA => k_upd); (case hsa => keq_rows); (case hh => keq_hits); (case hf => kct_strs); (case hl => k_extra "len9"); (case hD => keq_hits); (case hve => keq_hits); (case hb => decide); (case k7 => first | exact room9 hd1 rfl | ktr_room); (case k8 => first | exact room9 hd2 rfl | ktr_units); (case CR9 => k_upd); (case hS9 => ((try dsimp only [List.map]); k_upd)); (case hc9 => k_upd)); k_dflt (intro k9' tk9' fv9 T9 h9 tk9 F9 N9 hAp9 hSR9 hf9; dsimp only [List.map, List.cons_append, List.nil_append] at hAp9 N9); (try dsimp only); (try k_sweep); (try k_fold))
  k_with "call ref" => (k_here; (with_reducible show wpAny _ _ (call (Value.ref 139) _) _ _ _); k_dflt (refine' Ctr.usePut (put_ctr (b := false) (mid := []) ?P1 ?P2 ?P3 ?q1 ?q2 ?q3 ?hA ?hsa ?hh ?hf ?hl ?hD ?hve ?hb) ?k1 ?k2 ?k3 ?k4 ?k5 ?k6 ?k7 ?k8 ?CR9 ?hS9 ?hc9 ?_; (case k1 => k_asm); (case k2 => k_asm); (case k3 => k_asm); (case k4 => k_asm); (case k5 => k_asm); (case k6 => first | exact rfl | assumption); (case P1 => k_upd); (case P2 => k_upd); (case P3 => k_upd); (case q1 => k_ne); (case q2 => k_ne); (case q3 => k_ne); (case hA => k_upd); (case hsa => keq_rows); (case hh => keq_hits); (case hf => kct_strs); (case hl => k_extra "len9"); (case hD => keq_hits); (case hve => keq_hits); (case hb => decide); (case k7 => first | exact room9 hd1 rfl | ktr_room); (case k8 => first | exact room9 hd2 rfl | ktr_units); (case CR9 => k_upd); (case hS9 => ((try dsimp only [List.map]); k_upd)); (case hc9 => k_upd)); k_dflt (intro k9' tk9' fv9 T9 h9 tk9 F9 N9 hAp9 hSR9 hf9; dsimp only [List.map, List.cons_append, List.nil_append] at hAp9 N9); (try dsimp only); (try k_sweep); (try k_fold))
  trivial
theorem my_eq_str5 {prog : Program} {w : World} {A : Around} {E : Value → Shared → Prop} {s : Shared} {x y : Str} {t u : Tok} {b : Bool} {Q : Value → Shared → Prop} (h : (x == y) = b) (hq : Q (.bool b) s) : wpAny (model prog w) A (compareOp .Eq (.str x t) (.str y u)) Q E s := by
  subst h
  exact PyProof.Rows.eq_str hq
theorem wdJ7N5x11 : True := by
  k_with "compareOp Eq str str" => (k_here; (have j9 := mirc9); (clear j9); first | refine my_eq_str5 (beq_iff_eq.mpr hk0) ?_ | refine my_eq_str5 (beq_eq_false_iff_ne.mpr hk0) ?_)
  trivial
theorem mirc_ctr {w : World} {mean : ExcName → Option Value} {mg mb : Str → Option Value} {news : Led} {pn pd : Addr} {h1 h2 h3 h4 h5 h6 : Int} {t1 t2 t3 t4 t5 t6 : Tok} {vh v2 vc v5 v6 : Value} {tk tq : Tok} {kd K : Str} {hx hy cx cy : Int}
    (hp : (pn, instObj 184 pd) ∈ news)
    (hd : (pd, penD h1 h2 h3 h4 h5 h6 t1 t2 t3 t4 t5 t6 vh v2 vc (.str kd tk) v5 v6) ∈ news)
    (hh : TIn news vh (pt hx hy)) (hc : CIn news kd K vc cx cy) :
    Ctr w mean mg mb 160 13 300 [.ref pn, .str K tq] news (fun r news' => Sub news news' ∧ TIn news' r (pt (if kd = K then 2 * hx - cx else hx) (if kd = K then 2 * hy - cy else hy))) := by
  have mirc9 := True.intro
  by_cases hk0 : kd = K
  · have hc' := hc hk0
    clear hc
    (have hfill : True := fillT (K := Mine.hd.heap_1) (l := PySem.Challenge.rw_nu0013_01) (by k_fill; exact trivial); clear hfill; k_dflt (refine' Ctr.body ?k6 ?k7 ?k9 ?kB ?c2 ?c3 ?c4 ?c5 ?_; (case k6 => k_is); (case k7 => k_is); (case k9 => exact fun s X => BindsTo.of_eq rfl); (case kB => exact locs rfl); (case c2 => exact rfl); (case c3 => exact rfl); (case c4 => exact rfl); (case c5 => decide)); intro dp un gd A₀ base g outer L hp gens drawn toks os QQ B X T F N hd1 hd2 hret hnx; (try dsimp only); (try k_fold))
    repeat' (first | (k_unfold; (try dsimp only)) | (k_end; (fail_if_success (with_reducible show QQ _ _)); wrow_close) | walk1 | (dsimp only; walk1) | (leave1; walk_say "STEP leave1"; try dsimp only) | fail "no step")
    exact hret _ _ _ _ _ _ (by k_asm) (by k_asm) ⟨by kp_flats, by (rw [if_pos hk0, if_pos hk0]; keq_hits)⟩
  · clear hc
    (have hfill : True := fillT (K := Mine.hd.heap_1) (l := PySem.Challenge.rw_nu0013_01) (by k_fill; exact trivial); clear hfill; k_dflt (refine' Ctr.body ?k6 ?k7 ?k9 ?kB ?c2 ?c3 ?c4 ?c5 ?_; (case k6 => k_is); (case k7 => k_is); (case k9 => exact fun s X => BindsTo.of_eq rfl); (case kB => exact locs rfl); (case c2 => exact rfl); (case c3 => exact rfl); (case c4 => exact rfl); (case c5 => decide)); intro dp un gd A₀ base g outer L hp gens drawn toks os QQ B X T F N hd1 hd2 hret hnx; (try dsimp only); (try k_fold))
    repeat' (first | (k_unfold; (try dsimp only)) | (k_end; (fail_if_success (with_reducible show QQ _ _)); wrow_close) | walk1 | (dsimp only; walk1) | (leave1; walk_say "STEP leave1"; try dsimp only) | fail "no step")
    exact hret _ _ _ _ _ _ (by k_asm) (by k_asm) ⟨by kp_flats, by (rw [if_neg hk0, if_neg hk0]; keq_hits)⟩
theorem wdJ7N5x12 : True := by
  k_with "call ref" => (k_here; (with_reducible show wpAny _ _ (call (Value.ref 160) _) _ _ _); k_dflt (refine' Ctr.useV (mirc_ctr ?hp ?hd ?hh ?hc) ?k1 ?k2 ?k3 ?k4 ?k5 ?k6 ?k7 ?k8 ?CR9 ?hS9 ?hc9 ?_; (case k1 => k_asm); (case k2 => k_asm); (case k3 => k_asm); (case k4 => k_asm); (case k5 => k_asm); (case k6 => first | exact rfl | assumption); (case hp => keq_rows); (case hd => keq_rows); (case hh => keq_hits); (case hc => kat_tups); (case k7 => first | exact room9 hd1 rfl | ktr_room); (case k8 => first | exact room9 hd2 rfl | ktr_units); (case CR9 => k_upd); (case hS9 => ((try dsimp only [List.map]); k_upd)); (case hc9 => k_upd)); k_dflt (intro r9 T9 h9 tk9 F9 N9 hAp9 hSR9 hr9; dsimp only [List.map, List.cons_append, List.nil_append] at hAp9 N9); (try dsimp only); (try k_sweep); (try k_fold))
  trivial
theorem size_of_ctr {w : World} {mean : ExcName → Option Value} {mg mb : Str → Option Value} {v : Value} {x : Int} {news : Led} (hv : TIn news v (fr x)) :
    Ctr w mean mg mb 111 10 200 [v] news (fun r news' => Sub news news' ∧ TIn news' r (fr (if x < 0 then -x else x))) := by
  obtain ⟨va, t, u, n, rfl, hm⟩ := hv.raw_inv
  (have hfill : True := fillT (K := Mine.hd.heap_1) (l := PySem.Challenge.rw_nu0013_01) (by k_fill; exact trivial); clear hfill; k_dflt (refine' Ctr.body ?k6 ?k7 ?k9 ?kB ?c2 ?c3 ?c4 ?c5 ?_; (case k6 => k_is); (case k7 => k_is); (case k9 => exact fun s X => BindsTo.of_eq rfl); (case kB => exact locs rfl); (case c2 => exact rfl); (case c3 => exact rfl); (case c4 => exact rfl); (case c5 => decide)); intro dp un gd A₀ base g outer L hp gens drawn toks os QQ B X T F N hd1 hd2 hret hnx; (try dsimp only); (try k_fold))
  repeat' (first | (k_unfold; (try dsimp only)) | (k_end; (fail_if_success (with_reducible show QQ _ _)); wrow_close) | walk1 | (dsimp only; walk1) | (leave1; walk_say "STEP leave1"; try dsimp only) | fail "no step")
  all_goals first | exact hret _ _ _ _ _ _ (by k_asm) (by k_asm) ⟨by kp_flats, by keq_hits⟩
theorem wdJ7N5x13 : True := by
  k_with "call ref" => (k_here; (with_reducible show wpAny _ _ (call (Value.ref 111) _) _ _ _); k_dflt (refine' Ctr.useR (size_of_ctr ?hv) ?k1 ?k2 ?k3 ?k4 ?k5 ?k6 ?k7 ?k8 ?CR9 ?hS9 ?hc9 ?_; (case k1 => k_asm); (case k2 => k_asm); (case k3 => k_asm); (case k4 => k_asm); (case k5 => k_asm); (case k6 => first | exact rfl | assumption); (case hv => keq_hits); (case k7 => first | exact room9 hd1 rfl | ktr_room); (case k8 => first | exact room9 hd2 rfl | ktr_units); (case CR9 => k_upd); (case hS9 => ((try dsimp only [List.map]); k_upd)); (case hc9 => k_upd)); k_dflt (intro a9 t9 u9 m9 T9 h9 tk9 F9 N9 hAp9 hSR9 hm9 hr9; dsimp only [List.map, List.cons_append, List.nil_append] at hAp9 N9); (try dsimp only); (try k_sweep); (try k_fold))
  trivial
theorem draw_L_ctr {w : World} {mean : ExcName → Option Value} {mg mb : Str → Option Value} {cur r1 r2 R : Led} {pn pd fl na : Addr} {h1 h2 h3 h4 h5 h6 : Int} {t1 t2 t3 t4 t5 t6 : Tok} {vh vs vc : Value} {k nn : Nat} {kd : Str} {cl rel : Bool} {hx hy sx sy cx cy x0 x1 : Int} {tk tl : Tok} {n0 n1 : Value} {fv : List Value} {ds : List Dat}
    (P1 : Pick (pn, instObj 184 pd) cur r1) (P2 : Pick (pd, penD h1 h2 h3 h4 h5 h6 t1 t2 t3 t4 t5 t6 vh vs vc (.str kd tk) (.bool cl) (.ref fl)) r1 r2) (P3 : Pick (fl, listOf fv.toArray k) r2 R)
    (q1 : @Ne Nat pn pd) (q2 : @Ne Nat pn fl) (q3 : @Ne Nat pd fl) (hA : Apart R [pn, pd, fl])
    (hna : (na, tupO [n0, n1] nn) ∈ R) (hn0 : TIn R n0 (fr x0)) (hn1 : TIn R n1 (fr x1)) (hh : TIn R vh (pt hx hy)) (hs : TIn R vs (pt sx sy)) (hc : CNz R kd vc cx cy) (hf : TAll R fv ds) (hl : ds.length ≤ 800) :
    Ctr w mean mg mb 202 20 400 [.ref pn, .str (Str.ofString "L") tl, .bool rel, .ref na] cur (fun r news' => r = .none ∧ PenPost pn pd fl h1 h2 h3 h4 h5 h6 t1 t2 t3 t4 t5 t6 R ⟨(if rel then hx + x0 else x0), (if rel then hy + x1 else x1), sx, sy, cx, cy, Str.ofString "", false, ds ++ (if cl && !false then [Dat.tuple [.str (Str.ofString "move"), pt hx hy]] else []) ++ [Dat.tuple [.str (Str.ofString "line"), pt (if rel then hx + x0 else x0) (if rel then hy + x1 else x1)]]⟩ news') := by
  refine Ctr.weaken (news := (pn, instObj 184 pd) :: (pd, penD h1 h2 h3 h4 h5 h6 t1 t2 t3 t4 t5 t6 vh vs vc (.str kd tk) (.bool cl) (.ref fl)) :: (fl, listOf fv.toArray k) :: R) (fun p hp => P1.sub _ (Sub.cons (fun p hp => P2.sub _ (Sub.cons P3.sub _ hp)) _ hp)) ?_
  have hlen := hf.length
  refine hh.pt_elim fun ha hb hd g1 g2 g3 g4 j1 j2 j3 hm1 hm2 hm3 ehh => ?_
  subst ehh
  (have hfill : True := fillT (K := Mine.hd.heap_1) (l := PySem.Challenge.rw_nu0013_01) (by k_fill; exact trivial); clear hfill; k_dflt (refine' Ctr.body ?k6 ?k7 ?k9 ?kB ?c2 ?c3 ?c4 ?c5 ?_; (case k6 => k_is); (case k7 => k_is); (case k9 => exact fun s X => BindsTo.of_eq rfl); (case kB => exact locs rfl); (case c2 => exact rfl); (case c3 => exact rfl); (case c4 => exact rfl); (case c5 => decide)); intro dp un gd A₀ base g outer L hp gens drawn toks os QQ B X T F N hd1 hd2 hret hnx; (try dsimp only); (try k_fold))
  repeat' (first | (k_unfold; (try dsimp only)) | (k_end; (fail_if_success (with_reducible show QQ _ _)); wrow_close) | walk1 | (dsimp only; walk1) | (leave1; walk_say "STEP leave1"; try dsimp only) | fail "no step")
  all_goals exact hret _ _ _ _ _ _ (by k_asm) (by k_asm) (PenPost.mk (by kp_flats) (by kp_flats) (by keq_hits) (by keq_hits) (fun hq => absurd rfl hq) (by kct_strs))
theorem wdJ8N6LMx14 : True := by
  k_with "call ref" => (k_here; (with_reducible show wpAny _ _ (call (Value.ref 202) _) _ _ _); k_dflt (refine' Ctr.usePen (draw_L_ctr ?P1 ?P2 ?P3 ?q1 ?q2 ?q3 ?hA ?hna ?hn0 ?hn1 ?hh ?hs ?hc ?hf ?hl) ?k1 ?k2 ?k3 ?k4 ?k5 ?k6 ?k7 ?k8 ?CR9 ?hS9 ?hc9 ?_; (case k1 => k_asm); (case k2 => k_asm); (case k3 => k_asm); (case k4 => k_asm); (case k5 => k_asm); (case k6 => first | exact rfl | assumption); (case P1 => k_upd); (case P2 => k_upd); (case P3 => k_upd); (case q1 => k_ne); (case q2 => k_ne); (case q3 => k_ne); (case hA => k_upd); (case hna => keq_rows); (case hn0 => keq_hits); (case hn1 => keq_hits); (case hh => keq_hits); (case hs => keq_hits); (case hc => kat_tups); (case hf => kct_strs); (case hl => k_extra "len9"); (case k7 => first | exact room9 hd1 rfl | ktr_room); (case k8 => first | exact room9 hd2 rfl | ktr_units); (case CR9 => k_upd); (case hS9 => ((try dsimp only [List.map]); k_upd)); (case hc9 => k_upd)); k_dflt (intro k9' tk9' fv9 vh9 vs9 vc9 T9 h9 tk9 F9 N9 hAp9 hSR9 hh9 hss9 hc9 hf9; dsimp only [List.map, List.cons_append, List.nil_append] at hAp9 N9); (try dsimp only); (try k_sweep); (try k_fold))
  trivial
inductive DX (S : PP) (rel : Bool) : Str → List (Int × Int) → PP → Prop
  | M (x y : Int) : DX S rel (Str.ofString "M") [(x, y)] (step S rel (.M x y))
  | C (a b c d x y : Int) : DX S rel (Str.ofString "C") [(a, b), (c, d), (x, y)] (step S rel (.C a b c d x y))
  | S (a b x y : Int) : DX S rel (Str.ofString "S") [(a, b), (x, y)] (step S rel (.S a b x y))
  | Q (a b x y : Int) : DX S rel (Str.ofString "Q") [(a, b), (x, y)] (step S rel (.Q a b x y))
  | T (x y : Int) : DX S rel (Str.ofString "T") [(x, y)] (step S rel (.T x y))
section
variable {S S' : PP} {rel : Bool} {L : Str} {ps : List (Int × Int)} {C : Prop}
theorem DX.lhv (h : DX S rel L ps S') : (!(Builtin.Str.occurrences (Str.ofString "LHV") L 0 (Str.ofString "LHV").length 1).isEmpty) = false := by cases h <;> decide +kernel
theorem DX.nA (h : DX S rel L ps S') : L ≠ Str.ofString "A" := by cases h <;> decide
theorem DX.len (h : DX S rel L ps S') : 1 ≤ ps.length ∧ ps.length ≤ 3 := by cases h <;> exact ⟨Nat.le_of_ble_eq_true rfl, Nat.le_of_ble_eq_true rfl⟩
theorem DX.m (h : DX S rel L ps S') (e : L = Str.ofString "M") (k : ∀ x y, ps = [(x, y)] → S' = ⟨(if rel then S.hx + x else x), (if rel then S.hy + y else y), (if rel then S.hx + x else x), (if rel then S.hy + y else y), S.cx, S.cy, Str.ofString "", false, S.found ++ (if S.cl && !true then [Dat.tuple [.str (Str.ofString "move"), pt S.hx S.hy]] else []) ++ [Dat.tuple [.str (Str.ofString "move"), pt (if rel then S.hx + x else x) (if rel then S.hy + y else y)]]⟩ → C) : C := by cases h <;> first | exact k _ _ rfl rfl | exact absurd e (by decide)
theorem DX.c (h : DX S rel L ps S') (e : L = Str.ofString "C") (k : ∀ a b c d x y, ps = [(a, b), (c, d), (x, y)] → S' = ⟨(if rel then S.hx + x else x), (if rel then S.hy + y else y), S.sx, S.sy, (if rel then S.hx + c else c), (if rel then S.hy + d else d), Str.ofString "cubic", false, S.found ++ (if S.cl && !false then [Dat.tuple [.str (Str.ofString "move"), pt S.hx S.hy]] else []) ++ [Dat.tuple [.str (Str.ofString "cubic"), pt (if rel then S.hx + a else a) (if rel then S.hy + b else b), pt (if rel then S.hx + c else c) (if rel then S.hy + d else d), pt (if rel then S.hx + x else x) (if rel then S.hy + y else y)]]⟩ → C) : C := by cases h <;> first | exact k _ _ _ _ _ _ rfl rfl | exact absurd e (by decide)
theorem DX.s (h : DX S rel L ps S') (e : L = Str.ofString "S") (k : ∀ a b x y, ps = [(a, b), (x, y)] → S' = ⟨(if rel then S.hx + x else x), (if rel then S.hy + y else y), S.sx, S.sy, (if rel then S.hx + a else a), (if rel then S.hy + b else b), Str.ofString "cubic", false, S.found ++ (if S.cl && !false then [Dat.tuple [.str (Str.ofString "move"), pt S.hx S.hy]] else []) ++ [Dat.tuple [.str (Str.ofString "cubic"), pt (if S.kd = Str.ofString "cubic" then 2 * S.hx - S.cx else S.hx) (if S.kd = Str.ofString "cubic" then 2 * S.hy - S.cy else S.hy), pt (if rel then S.hx + a else a) (if rel then S.hy + b else b), pt (if rel then S.hx + x else x) (if rel then S.hy + y else y)]]⟩ → C) : C := by cases h <;> first | exact k _ _ _ _ rfl rfl | exact absurd e (by decide)
theorem DX.q (h : DX S rel L ps S') (e : L = Str.ofString "Q") (k : ∀ a b x y, ps = [(a, b), (x, y)] → S' = ⟨(if rel then S.hx + x else x), (if rel then S.hy + y else y), S.sx, S.sy, (if rel then S.hx + a else a), (if rel then S.hy + b else b), Str.ofString "quad", false, S.found ++ (if S.cl && !false then [Dat.tuple [.str (Str.ofString "move"), pt S.hx S.hy]] else []) ++ [Dat.tuple [.str (Str.ofString "quad"), pt (if rel then S.hx + a else a) (if rel then S.hy + b else b), pt (if rel then S.hx + x else x) (if rel then S.hy + y else y)]]⟩ → C) : C := by cases h <;> first | exact k _ _ _ _ rfl rfl | exact absurd e (by decide)
theorem DX.t (h : DX S rel L ps S') (e : L = Str.ofString "T") (k : ∀ x y, ps = [(x, y)] → S' = ⟨(if rel then S.hx + x else x), (if rel then S.hy + y else y), S.sx, S.sy, (if S.kd = Str.ofString "quad" then 2 * S.hx - S.cx else S.hx), (if S.kd = Str.ofString "quad" then 2 * S.hy - S.cy else S.hy), Str.ofString "quad", false, S.found ++ (if S.cl && !false then [Dat.tuple [.str (Str.ofString "move"), pt S.hx S.hy]] else []) ++ [Dat.tuple [.str (Str.ofString "quad"), pt (if S.kd = Str.ofString "quad" then 2 * S.hx - S.cx else S.hx) (if S.kd = Str.ofString "quad" then 2 * S.hy - S.cy else S.hy), pt (if rel then S.hx + x else x) (if rel then S.hy + y else y)]]⟩ → C) : C := by cases h <;> first | exact k _ _ rfl rfl | exact absurd e (by decide)
theorem DX.none (h : DX S rel L ps S') (e1 : L ≠ Str.ofString "M") (e2 : L ≠ Str.ofString "C") (e3 : L ≠ Str.ofString "S") (e4 : L ≠ Str.ofString "Q") (e5 : L ≠ Str.ofString "T") : C := by
  cases h
  · exact absurd rfl e1
  · exact absurd rfl e2
  · exact absurd rfl e3
  · exact absurd rfl e4
  · exact absurd rfl e5
end
noncomputable def rpts (S : PP) (rel : Bool) : List (Int × Int) → List Dat
  | [] => []
  | p :: r => pt (if rel then S.hx + p.1 else p.1) (if rel then S.hy + p.2 else p.2) :: rpts S rel r
theorem rpts_app (S : PP) (rel : Bool) : ∀ (a b : List (Int × Int)), rpts S rel (a ++ b) = rpts S rel a ++ rpts S rel b
  | [], _ => rfl
  | p :: r, b => congrArg (fun t => pt (if rel then S.hx + p.1 else p.1) (if rel then S.hy + p.2 else p.2) :: t) (rpts_app S rel r b)
theorem rpts_len (S : PP) (rel : Bool) : ∀ (a : List (Int × Int)), (rpts S rel a).length = a.length
  | [] => rfl
  | p :: r => congrArg (· + 1) (rpts_len S rel r)
theorem rg2_small {k : Nat} (h : 1 ≤ k ∧ k ≤ 3) : Builtin.Range.small 0 (2 * (k : Int)) 2 = true := by
  rcases (show k = 1 ∨ k = 2 ∨ k = 3 by omega) with rfl | rfl | rfl <;> decide
theorem rg2_size {k : Nat} (h : 1 ≤ k ∧ k ≤ 3) : Builtin.Range.rangeSize 0 (2 * (k : Int)) 2 = (k : Int) := by
  rcases (show k = 1 ∨ k = 2 ∨ k = 3 by omega) with rfl | rfl | rfl <;> decide
theorem six0 {i n : Nat} (h : 2 * i + 1 < n) : seqIndex? (0 + (i : Int) * 2) n = some (2 * i) := by
  unfold seqIndex?
  simp only [show ¬ (0 + (i : Int) * 2 < 0) by omega, if_false, show (0 : Int) ≤ 0 + (i : Int) * 2 by omega, show 0 + (i : Int) * 2 < (n : Int) by omega, decide_true, Bool.and_self, if_true]
  congr 1; omega
theorem six1 {i n : Nat} (h : 2 * i + 1 < n) : seqIndex? (0 + (i : Int) * 2 + 1) n = some (2 * i + 1) := by
  unfold seqIndex?
  simp only [show ¬ (0 + (i : Int) * 2 + 1 < 0) by omega, if_false, show (0 : Int) ≤ 0 + (i : Int) * 2 + 1 by omega, show 0 + (i : Int) * 2 + 1 < (n : Int) by omega, decide_true, Bool.and_self, if_true]
  congr 1; omega
theorem pts_ind {P : Nat → Nat → (Str → Option Value) → Led → Prop} {S : PP} {rel : Bool} {ps : List (Int × Int)} {nv : List Value} {R T0 : Led} {pn pd pl fl : Addr} {oD oF : Obj} {k0 : Nat} {m0 : Str → Option Value} {h₀ h : Heap} {Lc : Addr} (I : Addr)
    (nN : News h₀ Lc h ((pl, listOf ([] : List Value).toArray k0) :: (pn, instObj 184 pd) :: (pd, oD) :: (fl, oF) :: T0)) (hn : TAll R nv (flat ps)) (hR : Sub R T0) (hA : Apart T0 [pl, pn, pd, fl, I]) (hlp : ps.length ≤ 3)
    (kz : ∀ (pvs : List Value) (k' : Nat) (T : Led) (m : Str → Option Value) (u : Option Value), (m = fun y => if y = Str.ofString "at" then u else m0 y) → Apart T [pl, pn, pd, fl, I] → Sub R T → TAll T pvs (rpts S rel ps) → P 0 ps.length m ((pl, listOf pvs.toArray k') :: (pn, instObj 184 pd) :: (pd, oD) :: (fl, oF) :: T))
    (kt : ∀ (j i : Nat) (x y : Int) (v v' : Value) (pvs : List Value) (k' : Nat) (T : Led) (m : Str → Option Value) (ds : List Dat), 2 * i + 1 < nv.length → nv[2 * i]? = some v → nv[2 * i + 1]? = some v' → TIn R v (fr x) → TIn R v' (fr y) → (∀ u, (fun z => if z = Str.ofString "at" then u else m z) = fun z => if z = Str.ofString "at" then u else m0 z) → Apart T [pl, pn, pd, fl, I] → Sub R T → TAll T pvs ds → pvs.length ≤ 100 →
      (∀ (pvs' : List Value) (k'' : Nat) (T' : Led) (u : Option Value) (m' : Str → Option Value), (m' = fun z => if z = Str.ofString "at" then u else m0 z) → Apart T' [pl, pn, pd, fl, I] → Sub R T' → TAll T' pvs' (ds ++ [pt (if rel then S.hx + x else x) (if rel then S.hy + y else y)]) → P j (i + 1) m' ((pl, listOf pvs'.toArray k'') :: (pn, instObj 184 pd) :: (pd, oD) :: (fl, oF) :: T')) →
      P (j + 1) i m ((pl, listOf pvs.toArray k') :: (pn, instObj 184 pd) :: (pd, oD) :: (fl, oF) :: T)) :
    P ps.length 0 m0 ((pl, listOf ([] : List Value).toArray k0) :: (pn, instObj 184 pd) :: (pd, oD) :: (fl, oF) :: T0) := by
  have key : ∀ (r dn : List (Int × Int)) (wv nv0 pvs : List Value) (k' : Nat) (T : Led) (m : Str → Option Value) (u : Option Value), ps = dn ++ r → nv = nv0 ++ wv → nv0.length = 2 * dn.length → TAll R wv (flat r) → (m = fun y => if y = Str.ofString "at" then u else m0 y) → Apart T [pl, pn, pd, fl, I] → Sub R T → TAll T pvs (rpts S rel dn) →
      P r.length dn.length m ((pl, listOf pvs.toArray k') :: (pn, instObj 184 pd) :: (pd, oD) :: (fl, oF) :: T) := by
    intro r
    induction r with
    | nil =>
      intro dn wv nv0 pvs k' T m u e e1 e2 ht hm hA hs hp
      rw [List.append_nil] at e
      subst e
      exact kz pvs k' T m u hm hA hs hp
    | cons p r ih =>
      intro dn wv nv0 pvs k' T m u e e1 e2 ht hm hA hs hp
      cases ht with
      | @cons v _ _ _ h1 ht =>
        cases ht with
        | @cons v' us _ _ h2 h3 =>
          have l1 := hp.length
          rw [rpts_len] at l1
          refine kt r.length dn.length p.1 p.2 v v' pvs k' T m (rpts S rel dn) ?_ ?_ ?_ h1 h2 ?_ hA hs hp ?_ fun pvs' k'' T' u' m' a b c d => ?_
          · rw [e1, List.length_append, e2]; simp only [List.length_cons]; omega
          · rw [e1, ← e2]; simp
          · rw [e1, ← e2]; simp
          · intro w; funext z; rw [hm]; dsimp only; split <;> rfl
          · have e3 := congrArg List.length e; simp only [List.length_append, List.length_cons] at e3; omega
          · have := ih (dn ++ [p]) us (nv0 ++ [v, v']) pvs' k'' T' m' u' (by rw [e, List.append_assoc]; rfl) (by rw [e1, List.append_assoc]; rfl) (by simp only [List.length_append, List.length_cons, List.length_nil, e2]; omega) h3 a b c (by rw [rpts_app]; exact d)
            rw [List.length_append] at this
            exact this
  exact key ps [] nv [] [] k0 T0 m0 (m0 (Str.ofString "at")) rfl rfl rfl hn (by
    funext z
    by_cases e : z = Str.ofString "at"
    · rw [e, if_pos rfl]
    · rw [if_neg e]) hA hR .nil
theorem tall1 {T : Led} {vs : List Value} {d : Dat} {C : Prop} (h : TAll T vs [d]) (k : ∀ v, vs = [v] → TIn T v d → C) : C := by
  cases h with | cons h1 r => cases r; exact k _ rfl h1
theorem tall2 {T : Led} {vs : List Value} {d d' : Dat} {C : Prop} (h : TAll T vs [d, d']) (k : ∀ v v', vs = [v, v'] → TIn T v d → TIn T v' d' → C) : C := by
  cases h with | cons h1 r => exact tall1 r fun v' e h2 => k _ v' (by rw [e]) h1 h2
theorem tall3 {T : Led} {vs : List Value} {d d' d'' : Dat} {C : Prop} (h : TAll T vs [d, d', d'']) (k : ∀ v v' v'', vs = [v, v', v''] → TIn T v d → TIn T v' d' → TIn T v'' d'' → C) : C := by
  cases h with | cons h1 r => exact tall2 r fun v' v'' e h2 h3 => k _ v' v'' (by rw [e]) h1 h2 h3
noncomputable def Hid (P : Prop) : Prop := P
theorem hid9 {b : Int} {C : Prop} (k : ∀ c, Hid (c = b) → C) : C := k b rfl
theorem my_eq_strG {prog : Program} {w : World} {A : Around} {E : Value → Shared → Prop} {s : Shared} {x y : Str} {t u : Tok} {Q : Value → Shared → Prop} (h1 : x = y → Stop (Q (.bool true) s)) (h2 : x ≠ y → Q (.bool false) s) : wpAny (model prog w) A (compareOp .Eq (.str x t) (.str y u)) Q E s := by
  refine PyProof.Rows.eq_str ?_
  by_cases h : x = y
  · rw [beq_iff_eq.mpr h]; exact h1 h
  · rw [beq_eq_false_iff_ne.mpr h]; exact h2 h
theorem my_eq_strN {prog : Program} {w : World} {A : Around} {E : Value → Shared → Prop} {s : Shared} {x y : Str} {t u : Tok} {Q : Value → Shared → Prop} (h : x ≠ y) (hq : Q (.bool false) s) : wpAny (model prog w) A (compareOp .Eq (.str x t) (.str y u)) Q E s := by
  refine PyProof.Rows.eq_str ?_
  rw [beq_eq_false_iff_ne.mpr h]; exact hq
theorem wdJ9N6Gx15 : True := by
  k_with "compareOp Eq str str" => (k_here; (have j9 := drawg9); (clear j9); first | refine my_eq_strN (by with_reducible assumption) ?_ | ((with_reducible show wpAny _ _ (compareOp _ _ (Value.str (Str.ofString "T") _)) _ _ _); refine my_eq_strG (fun hcw9 => ?_) (fun hcw9 => DX.none hD (by assumption) (by assumption) (by assumption) (by assumption) hcw9)) | refine my_eq_strG (fun hcw9 => ?_) (fun hcw9 => ?_))
  k_with "compareOp In str str" => ((have j9 := drawg9); (clear j9); k_dflt (refine my_in_str (by with_reducible assumption) ?_))
  k_with "pyIter ref" => ((have j9 := drawg9); (clear j9); (with_reducible show wpAny _ _ (pyIter (Value.ref _)) (fun it s₂ => LoopAtV _ _ _ _ _ _ _ _ _ it s₂) _ _); refine stopAt ?_)
  k_with "call builtin:len" => (k_here; (have j9 := drawg9); (clear j9); k_dflt (refine' kun_lenT ?k1 ?k2 ?k3 ?_; (case k1 => exact News.isTup (by k_asm) (by keq_rows)); (case k2 => with_reducible assumption); (case k3 => with_reducible assumption)))
  k_with "UnrEnd" => ((have j9 := drawg9); (clear j9); refine stopAt ?_)
  k_with "subscriptTail Name Name ref int" => (k_here; (have j9 := drawg9); (clear j9); k_dflt (refine item_tupleT (News.isTup (by k_asm) (by keq_rows)) (by omega) (by omega) (six0 (by with_reducible assumption)) (by with_reducible assumption) ?_; k_whole))
  k_with "subscriptTail Name BinOp ref int" => (k_here; (have j9 := drawg9); (clear j9); k_dflt (refine item_tupleT (News.isTup (by k_asm) (by keq_rows)) (by omega) (by omega) (six1 (by with_reducible assumption)) (by with_reducible assumption) ?_; k_whole))
  trivial
theorem drawG_ctr {w : World} {mean : ExcName → Option Value} {mg mb : Str → Option Value} {cur r1 r2 R : Led} {pn pd fl na : Addr} {h1 h2 h3 h4 h5 h6 : Int} {t1 t2 t3 t4 t5 t6 : Tok} {vh vs vc : Value} {k nn : Nat} {S S' : PP} {rel : Bool} {L : Str} {ps : List (Int × Int)} {tk tl : Tok} {nv fv : List Value}
    (P1 : Pick (pn, instObj 184 pd) cur r1) (P2 : Pick (pd, penD h1 h2 h3 h4 h5 h6 t1 t2 t3 t4 t5 t6 vh vs vc (.str S.kd tk) (.bool S.cl) (.ref fl)) r1 r2) (P3 : Pick (fl, listOf fv.toArray k) r2 R)
    (q1 : @Ne Nat pn pd) (q2 : @Ne Nat pn fl) (q3 : @Ne Nat pd fl) (hA : Apart R [pn, pd, fl])
    (hna : (na, tupO nv nn) ∈ R) (hnv : TAll R nv (flat ps)) (hh : TIn R vh (pt S.hx S.hy)) (hs : TIn R vs (pt S.sx S.sy)) (hc : CNz R S.kd vc S.cx S.cy) (hf : TAll R fv S.found) (hl : S.found.length ≤ 800) (hD : DX S rel L ps S') :
    Ctr w mean mg mb 202 20 400 [.ref pn, .str L tl, .bool rel, .ref na] cur (fun r news' => r = .none ∧ PenPost pn pd fl h1 h2 h3 h4 h5 h6 t1 t2 t3 t4 t5 t6 R S' news') := by
  refine Ctr.weaken (news := (pn, instObj 184 pd) :: (pd, penD h1 h2 h3 h4 h5 h6 t1 t2 t3 t4 t5 t6 vh vs vc (.str S.kd tk) (.bool S.cl) (.ref fl)) :: (fl, listOf fv.toArray k) :: R) (fun p hp => P1.sub _ (Sub.cons (fun _ hp => P2.sub _ (Sub.cons P3.sub _ hp)) _ hp)) ?_
  have hlen := hf.length
  refine hh.pt_elim fun ha hb hd g1 g2 g3 g4 j1 j2 j3 hm1 hm2 hm3 ehh => ?_
  subst ehh
  have hin := hD.lhv
  have hnA := hD.nA
  refine hid9 (b := 2 * (ps.length : Int)) fun b hb9 => ?_
  have hsz : ((nv.toArray).size : Int) = b := by have e := hnv.length; rw [flat_len] at e; rw [List.size_toArray, e, show b = _ from hb9]; omega
  have hsz2 : b ≤ 16384 := by have e := hD.len.2; rw [show b = _ from hb9]; omega
  have hnl : nv.length ≤ 16384 := by have e := hsz; rw [List.size_toArray] at e; omega
  have drawg9 := True.intro
  (have hfill : True := fillT (K := Mine.hd.heap_1) (l := PySem.Challenge.rw_nu0013_01) (by k_fill; exact trivial); clear hfill; k_dflt (refine' Ctr.body ?k6 ?k7 ?k9 ?kB ?c2 ?c3 ?c4 ?c5 ?_; (case k6 => k_is); (case k7 => k_is); (case k9 => exact fun s X => BindsTo.of_eq rfl); (case kB => exact locs rfl); (case c2 => exact rfl); (case c3 => exact rfl); (case c4 => exact rfl); (case c5 => decide)); intro dp un gd A₀ base g outer L hp gens drawn toks os QQ B X T F N hd1 hd2 hret hnx; (try dsimp only); (try k_fold))
  repeat' (first | (k_unfold; (try dsimp only)) | (k_end; (fail_if_success (with_reducible show QQ _ _)); wrow_close) | walk1 | (dsimp only; walk1) | (leave1; walk_say "STEP leave1"; try dsimp only) | fail "no step")
  unfold Stop
  have hb8 : b = 2 * (ps.length : Int) := hb9
  subst hb8
  (rename Fr _ _ _ _ => lF)
  (rename News _ _ _ _ => lN)
  (rename IsRange _ _ _ _ _ _ _ _ => lR)
  k_dflt (refine krs_iter (by with_unfolding_all rfl) lR (rg2_small hD.len) (rg2_size hD.len) lF lN ?_)
  intro I lI
  k_lt lI
  refine' pts_ind (P := KrsRest _ _ _ _ _ _ _ _ _ _ _ _ _ _) (S := S) (rel := rel) (R := R) I lN hnv ?pR ?pA hD.len.2 ?kz ?kt
  case pR => kp_flats
  case pA => k_upd
  case kt =>
    clear lF lN lR
    intro j i x y v v' pvs k' T m7 ds hi hv hv' hx hy hm hA7 hS7 hp7 hln7 IH
    refine hx.raw_elim fun a1 u1 w1 n1 hm1' e1 => ?_
    cases e1
    refine hy.raw_elim fun a2 u2 w2 n2 hm2' e2 => ?_
    cases e2
    refine KrsRest.succ rfl ?_
    intro t5 h5 tk5 F5 N5
    rw [hm] at F5
    (try dsimp only at N5)
    repeat' (first | (k_unfold; (try dsimp only)) | (k_end; (fail_if_success (with_reducible show QQ _ _)); wrow_close) | walk1 | (dsimp only; walk1) | (leave1; walk_say "STEP leave1"; try dsimp only) | fail "no step")
    unfold Stop
    refine' my_unrEnd ?F ?N ?P ?o (IH _ _ _ _ _ rfl ?A ?s ?c)
    case F => k_asm
    case N => k_asm
    case P => k_upd
    case o => k_all
    case A => k_upd
    case s => kp_flats
    case c => kct_strs
  case kz =>
    clear lF lN lR
    intro pvs k' T m7 u hm hA7 hS7 hp7
    refine KrsRest.zero ?_
    intro h5 tk5 F5 N5
    rw [hm] at F5
    (try dsimp only at N5)
    repeat' (first | (k_unfold; (try dsimp only)) | (k_end; (fail_if_success (with_reducible show QQ _ _)); wrow_close) | walk1 | (dsimp only; walk1) | (leave1; walk_say "STEP leave1"; try dsimp only) | fail "no step")
    · unfold Stop
      refine hD.m hcw9 fun x y e1 e2 => ?_
      subst e1 e2
      dsimp only [rpts] at hp7
      refine tall1 hp7 fun v0 e3 g90 => ?_
      clear hp7
      subst e3
      (try dsimp only)
      repeat' (first | (k_unfold; (try dsimp only)) | (k_end; (fail_if_success (with_reducible show QQ _ _)); wrow_close) | walk1 | (dsimp only; walk1) | (leave1; walk_say "STEP leave1"; try dsimp only) | fail "no step")
      exact hnx _ _ _ _ _ (by k_asm) (by k_asm) (PenPost.mk (by kp_flats) (by kp_flats) (by keq_hits) (by keq_hits) (fun hq => absurd rfl hq) (by kct_strs))
    · unfold Stop
      refine hD.c hcw9 fun a b c d x y e1 e2 => ?_
      subst e1 e2
      dsimp only [rpts] at hp7
      refine tall3 hp7 fun v0 v1 v2 e3 g90 g91 g92 => ?_
      clear hp7
      subst e3
      (try dsimp only)
      repeat' (first | (k_unfold; (try dsimp only)) | (k_end; (fail_if_success (with_reducible show QQ _ _)); wrow_close) | walk1 | (dsimp only; walk1) | (leave1; walk_say "STEP leave1"; try dsimp only) | fail "no step")
      exact hnx _ _ _ _ _ (by k_asm) (by k_asm) (PenPost.mk (by kp_flats) (by kp_flats) (by keq_hits) (by keq_hits) (fun _ => by keq_hits) (by kct_strs))
    · unfold Stop
      refine hD.s hcw9 fun a b x y e1 e2 => ?_
      subst e1 e2
      dsimp only [rpts] at hp7
      refine tall2 hp7 fun v0 v1 e3 g90 g91 => ?_
      clear hp7
      subst e3
      have hck : CIn R S.kd (Str.ofString "cubic") vc S.cx S.cy := fun hq => hc (by rw [hq]; decide)
      (try dsimp only)
      repeat' (first | (k_unfold; (try dsimp only)) | (k_end; (fail_if_success (with_reducible show QQ _ _)); wrow_close) | walk1 | (dsimp only; walk1) | (leave1; walk_say "STEP leave1"; try dsimp only) | fail "no step")
      exact hnx _ _ _ _ _ (by k_asm) (by k_asm) (PenPost.mk (by kp_flats) (by kp_flats) (by keq_hits) (by keq_hits) (fun _ => by keq_hits) (by kct_strs))
    · unfold Stop
      refine hD.q hcw9 fun a b x y e1 e2 => ?_
      subst e1 e2
      dsimp only [rpts] at hp7
      refine tall2 hp7 fun v0 v1 e3 g90 g91 => ?_
      clear hp7
      subst e3
      (try dsimp only)
      repeat' (first | (k_unfold; (try dsimp only)) | (k_end; (fail_if_success (with_reducible show QQ _ _)); wrow_close) | walk1 | (dsimp only; walk1) | (leave1; walk_say "STEP leave1"; try dsimp only) | fail "no step")
      exact hnx _ _ _ _ _ (by k_asm) (by k_asm) (PenPost.mk (by kp_flats) (by kp_flats) (by keq_hits) (by keq_hits) (fun _ => by keq_hits) (by kct_strs))
    · unfold Stop
      refine hD.t hcw9 fun x y e1 e2 => ?_
      subst e1 e2
      dsimp only [rpts] at hp7
      refine tall1 hp7 fun v0 e3 g90 => ?_
      clear hp7
      subst e3
      have hck : CIn R S.kd (Str.ofString "quad") vc S.cx S.cy := fun hq => hc (by rw [hq]; decide)
      (try dsimp only)
      repeat' (first | (k_unfold; (try dsimp only)) | (k_end; (fail_if_success (with_reducible show QQ _ _)); wrow_close) | walk1 | (dsimp only; walk1) | (leave1; walk_say "STEP leave1"; try dsimp only) | fail "no step")
      exact hnx _ _ _ _ _ (by k_asm) (by k_asm) (PenPost.mk (by kp_flats) (by kp_flats) (by keq_hits) (by keq_hits) (fun _ => by keq_hits) (by kct_strs))
theorem draw_H_ctr {w : World} {mean : ExcName → Option Value} {mg mb : Str → Option Value} {cur r1 r2 R : Led} {pn pd fl na : Addr} {h1 h2 h3 h4 h5 h6 : Int} {t1 t2 t3 t4 t5 t6 : Tok} {vh vs vc : Value} {k nn : Nat} {kd : Str} {cl rel : Bool} {hx hy sx sy cx cy x0 : Int} {tk tl : Tok} {n0 : Value} {fv : List Value} {ds : List Dat}
    (P1 : Pick (pn, instObj 184 pd) cur r1) (P2 : Pick (pd, penD h1 h2 h3 h4 h5 h6 t1 t2 t3 t4 t5 t6 vh vs vc (.str kd tk) (.bool cl) (.ref fl)) r1 r2) (P3 : Pick (fl, listOf fv.toArray k) r2 R)
    (q1 : @Ne Nat pn pd) (q2 : @Ne Nat pn fl) (q3 : @Ne Nat pd fl) (hA : Apart R [pn, pd, fl])
    (hna : (na, tupO [n0] nn) ∈ R) (hn0 : TIn R n0 (fr x0)) (hh : TIn R vh (pt hx hy)) (hs : TIn R vs (pt sx sy)) (hc : CNz R kd vc cx cy) (hf : TAll R fv ds) (hl : ds.length ≤ 800) :
    Ctr w mean mg mb 202 20 400 [.ref pn, .str (Str.ofString "H") tl, .bool rel, .ref na] cur (fun r news' => r = .none ∧ PenPost pn pd fl h1 h2 h3 h4 h5 h6 t1 t2 t3 t4 t5 t6 R ⟨(if rel then hx + x0 else x0), hy, sx, sy, cx, cy, Str.ofString "", false, ds ++ (if cl && !false then [Dat.tuple [.str (Str.ofString "move"), pt hx hy]] else []) ++ [Dat.tuple [.str (Str.ofString "line"), pt (if rel then hx + x0 else x0) hy]]⟩ news') := by
  refine Ctr.weaken (news := (pn, instObj 184 pd) :: (pd, penD h1 h2 h3 h4 h5 h6 t1 t2 t3 t4 t5 t6 vh vs vc (.str kd tk) (.bool cl) (.ref fl)) :: (fl, listOf fv.toArray k) :: R) (fun p hp => P1.sub _ (Sub.cons (fun p hp => P2.sub _ (Sub.cons P3.sub _ hp)) _ hp)) ?_
  have hlen := hf.length
  refine hh.pt_elim fun ha hb hd g1 g2 g3 g4 j1 j2 j3 hm1 hm2 hm3 ehh => ?_
  subst ehh
  cases rel
  all_goals (
    (have hfill : True := fillT (K := Mine.hd.heap_1) (l := PySem.Challenge.rw_nu0013_01) (by k_fill; exact trivial); clear hfill; k_dflt (refine' Ctr.body ?k6 ?k7 ?k9 ?kB ?c2 ?c3 ?c4 ?c5 ?_; (case k6 => k_is); (case k7 => k_is); (case k9 => exact fun s X => BindsTo.of_eq rfl); (case kB => exact locs rfl); (case c2 => exact rfl); (case c3 => exact rfl); (case c4 => exact rfl); (case c5 => decide)); intro dp un gd A₀ base g outer L hp gens drawn toks os QQ B X T F N hd1 hd2 hret hnx; (try dsimp only); (try k_fold))
    repeat' (first | (k_unfold; (try dsimp only)) | (k_end; (fail_if_success (with_reducible show QQ _ _)); wrow_close) | walk1 | (dsimp only; walk1) | (leave1; walk_say "STEP leave1"; try dsimp only) | fail "no step"))
  all_goals exact hret _ _ _ _ _ _ (by k_asm) (by k_asm) (PenPost.mk (by kp_flats) (by kp_flats) (by ((try simp only [Bool.false_eq_true, if_false, if_true]); keq_hits)) (by keq_hits) (fun hq => absurd rfl hq) (by ((try simp only [Bool.false_eq_true, if_false, if_true]); kct_strs)))
theorem wdJ10N6HVx16 : True := by
  k_with "call ref" => (k_here; (with_reducible show wpAny _ _ (call (Value.ref 202) _) _ _ _); k_dflt (refine' Ctr.usePen (draw_H_ctr ?P1 ?P2 ?P3 ?q1 ?q2 ?q3 ?hA ?hna ?hn0 ?hh ?hs ?hc ?hf ?hl) ?k1 ?k2 ?k3 ?k4 ?k5 ?k6 ?k7 ?k8 ?CR9 ?hS9 ?hc9 ?_; (case k1 => k_asm); (case k2 => k_asm); (case k3 => k_asm); (case k4 => k_asm); (case k5 => k_asm); (case k6 => first | exact rfl | assumption); (case P1 => k_upd); (case P2 => k_upd); (case P3 => k_upd); (case q1 => k_ne); (case q2 => k_ne); (case q3 => k_ne); (case hA => k_upd); (case hna => keq_rows); (case hn0 => keq_hits); (case hh => keq_hits); (case hs => keq_hits); (case hc => kat_tups); (case hf => kct_strs); (case hl => k_extra "len9"); (case k7 => first | exact room9 hd1 rfl | ktr_room); (case k8 => first | exact room9 hd2 rfl | ktr_units); (case CR9 => k_upd); (case hS9 => ((try dsimp only [List.map]); k_upd)); (case hc9 => k_upd)); k_dflt (intro k9' tk9' fv9 vh9 vs9 vc9 T9 h9 tk9 F9 N9 hAp9 hSR9 hh9 hss9 hc9 hf9; dsimp only [List.map, List.cons_append, List.nil_append] at hAp9 N9); (try dsimp only); (try k_sweep); (try k_fold))
  trivial
theorem draw_V_ctr {w : World} {mean : ExcName → Option Value} {mg mb : Str → Option Value} {cur r1 r2 R : Led} {pn pd fl na : Addr} {h1 h2 h3 h4 h5 h6 : Int} {t1 t2 t3 t4 t5 t6 : Tok} {vh vs vc : Value} {k nn : Nat} {kd : Str} {cl rel : Bool} {hx hy sx sy cx cy x0 : Int} {tk tl : Tok} {n0 : Value} {fv : List Value} {ds : List Dat}
    (P1 : Pick (pn, instObj 184 pd) cur r1) (P2 : Pick (pd, penD h1 h2 h3 h4 h5 h6 t1 t2 t3 t4 t5 t6 vh vs vc (.str kd tk) (.bool cl) (.ref fl)) r1 r2) (P3 : Pick (fl, listOf fv.toArray k) r2 R)
    (q1 : @Ne Nat pn pd) (q2 : @Ne Nat pn fl) (q3 : @Ne Nat pd fl) (hA : Apart R [pn, pd, fl])
    (hna : (na, tupO [n0] nn) ∈ R) (hn0 : TIn R n0 (fr x0)) (hh : TIn R vh (pt hx hy)) (hs : TIn R vs (pt sx sy)) (hc : CNz R kd vc cx cy) (hf : TAll R fv ds) (hl : ds.length ≤ 800) :
    Ctr w mean mg mb 202 20 400 [.ref pn, .str (Str.ofString "V") tl, .bool rel, .ref na] cur (fun r news' => r = .none ∧ PenPost pn pd fl h1 h2 h3 h4 h5 h6 t1 t2 t3 t4 t5 t6 R ⟨hx, (if rel then hy + x0 else x0), sx, sy, cx, cy, Str.ofString "", false, ds ++ (if cl && !false then [Dat.tuple [.str (Str.ofString "move"), pt hx hy]] else []) ++ [Dat.tuple [.str (Str.ofString "line"), pt hx (if rel then hy + x0 else x0)]]⟩ news') := by
  refine Ctr.weaken (news := (pn, instObj 184 pd) :: (pd, penD h1 h2 h3 h4 h5 h6 t1 t2 t3 t4 t5 t6 vh vs vc (.str kd tk) (.bool cl) (.ref fl)) :: (fl, listOf fv.toArray k) :: R) (fun p hp => P1.sub _ (Sub.cons (fun p hp => P2.sub _ (Sub.cons P3.sub _ hp)) _ hp)) ?_
  have hlen := hf.length
  refine hh.pt_elim fun ha hb hd g1 g2 g3 g4 j1 j2 j3 hm1 hm2 hm3 ehh => ?_
  subst ehh
  cases rel
  all_goals (
    (have hfill : True := fillT (K := Mine.hd.heap_1) (l := PySem.Challenge.rw_nu0013_01) (by k_fill; exact trivial); clear hfill; k_dflt (refine' Ctr.body ?k6 ?k7 ?k9 ?kB ?c2 ?c3 ?c4 ?c5 ?_; (case k6 => k_is); (case k7 => k_is); (case k9 => exact fun s X => BindsTo.of_eq rfl); (case kB => exact locs rfl); (case c2 => exact rfl); (case c3 => exact rfl); (case c4 => exact rfl); (case c5 => decide)); intro dp un gd A₀ base g outer L hp gens drawn toks os QQ B X T F N hd1 hd2 hret hnx; (try dsimp only); (try k_fold))
    repeat' (first | (k_unfold; (try dsimp only)) | (k_end; (fail_if_success (with_reducible show QQ _ _)); wrow_close) | walk1 | (dsimp only; walk1) | (leave1; walk_say "STEP leave1"; try dsimp only) | fail "no step"))
  all_goals exact hret _ _ _ _ _ _ (by k_asm) (by k_asm) (PenPost.mk (by kp_flats) (by kp_flats) (by ((try simp only [Bool.false_eq_true, if_false, if_true]); keq_hits)) (by keq_hits) (fun hq => absurd rfl hq) (by ((try simp only [Bool.false_eq_true, if_false, if_true]); kct_strs)))
theorem wdJ10N6HVx17 : True := by
  k_with "call ref" => (k_here; (with_reducible show wpAny _ _ (call (Value.ref 202) _) _ _ _); k_dflt (refine' Ctr.usePen (draw_V_ctr ?P1 ?P2 ?P3 ?q1 ?q2 ?q3 ?hA ?hna ?hn0 ?hh ?hs ?hc ?hf ?hl) ?k1 ?k2 ?k3 ?k4 ?k5 ?k6 ?k7 ?k8 ?CR9 ?hS9 ?hc9 ?_; (case k1 => k_asm); (case k2 => k_asm); (case k3 => k_asm); (case k4 => k_asm); (case k5 => k_asm); (case k6 => first | exact rfl | assumption); (case P1 => k_upd); (case P2 => k_upd); (case P3 => k_upd); (case q1 => k_ne); (case q2 => k_ne); (case q3 => k_ne); (case hA => k_upd); (case hna => keq_rows); (case hn0 => keq_hits); (case hh => keq_hits); (case hs => keq_hits); (case hc => kat_tups); (case hf => kct_strs); (case hl => k_extra "len9"); (case k7 => first | exact room9 hd1 rfl | ktr_room); (case k8 => first | exact room9 hd2 rfl | ktr_units); (case CR9 => k_upd); (case hS9 => ((try dsimp only [List.map]); k_upd)); (case hc9 => k_upd)); k_dflt (intro k9' tk9' fv9 vh9 vs9 vc9 T9 h9 tk9 F9 N9 hAp9 hSR9 hh9 hss9 hc9 hf9; dsimp only [List.map, List.cons_append, List.nil_append] at hAp9 N9); (try dsimp only); (try k_sweep); (try k_fold))
  trivial
theorem draw_A_ctr {w : World} {mean : ExcName → Option Value} {mg mb : Str → Option Value} {cur r1 r2 R : Led} {pn pd fl na : Addr} {h1 h2 h3 h4 h5 h6 : Int} {t1 t2 t3 t4 t5 t6 : Tok} {vh vs vc : Value} {k nn : Nat} {kd : Str} {cl rel : Bool} {hx hy sx sy cx cy rx ry tn lg sw x0 x1 : Int} {tk tl tg tw : Tok} {m0 m1 m2 n0 n1 : Value} {fv : List Value} {ds : List Dat}
    (P1 : Pick (pn, instObj 184 pd) cur r1) (P2 : Pick (pd, penD h1 h2 h3 h4 h5 h6 t1 t2 t3 t4 t5 t6 vh vs vc (.str kd tk) (.bool cl) (.ref fl)) r1 r2) (P3 : Pick (fl, listOf fv.toArray k) r2 R)
    (q1 : @Ne Nat pn pd) (q2 : @Ne Nat pn fl) (q3 : @Ne Nat pd fl) (hA : Apart R [pn, pd, fl])
    (hna : (na, tupO [m0, m1, m2, .int lg tg, .int sw tw, n0, n1] nn) ∈ R) (hm0 : TIn R m0 (fr rx)) (hm1 : TIn R m1 (fr ry)) (hm2 : TIn R m2 (fr tn)) (hn0 : TIn R n0 (fr x0)) (hn1 : TIn R n1 (fr x1)) (hh : TIn R vh (pt hx hy)) (hs : TIn R vs (pt sx sy)) (hc : CNz R kd vc cx cy) (hf : TAll R fv ds) (hl : ds.length ≤ 800) :
    Ctr w mean mg mb 202 20 400 [.ref pn, .str (Str.ofString "A") tl, .bool rel, .ref na] cur (fun r news' => r = .none ∧ PenPost pn pd fl h1 h2 h3 h4 h5 h6 t1 t2 t3 t4 t5 t6 R (if ((if rel then hx + x0 else x0) = hx ∧ (if rel then hy + x1 else x1) = hy) then (⟨hx, hy, sx, sy, cx, cy, Str.ofString "", cl, ds⟩ : PP) else if ((if rx < 0 then -rx else rx) = 0 ∨ (if ry < 0 then -ry else ry) = 0) then (⟨(if rel then hx + x0 else x0), (if rel then hy + x1 else x1), sx, sy, cx, cy, Str.ofString "", false, ds ++ (if cl && !false then [Dat.tuple [.str (Str.ofString "move"), pt hx hy]] else []) ++ [Dat.tuple [.str (Str.ofString "line"), pt (if rel then hx + x0 else x0) (if rel then hy + x1 else x1)]]⟩ : PP) else (⟨(if rel then hx + x0 else x0), (if rel then hy + x1 else x1), sx, sy, cx, cy, Str.ofString "", false, ds ++ (if cl && !false then [Dat.tuple [.str (Str.ofString "move"), pt hx hy]] else []) ++ [Dat.tuple [.str (Str.ofString "arc"), fr (if rx < 0 then -rx else rx), fr (if ry < 0 then -ry else ry), fr tn, .bool (lg == 1), .bool (sw == 1), pt (if rel then hx + x0 else x0) (if rel then hy + x1 else x1)]]⟩ : PP)) news') := by
  refine Ctr.weaken (news := (pn, instObj 184 pd) :: (pd, penD h1 h2 h3 h4 h5 h6 t1 t2 t3 t4 t5 t6 vh vs vc (.str kd tk) (.bool cl) (.ref fl)) :: (fl, listOf fv.toArray k) :: R) (fun p hp => P1.sub _ (Sub.cons (fun p hp => P2.sub _ (Sub.cons P3.sub _ hp)) _ hp)) ?_
  have hlen := hf.length
  refine hh.pt_elim fun ha hb hd g1 g2 g3 g4 j1 j2 j3 hm1' hm2' hm3' ehh => ?_
  subst ehh
  (have hfill : True := fillT (K := Mine.hd.heap_1) (l := PySem.Challenge.rw_nu0013_01) (by k_fill; exact trivial); clear hfill; k_dflt (refine' Ctr.body ?k6 ?k7 ?k9 ?kB ?c2 ?c3 ?c4 ?c5 ?_; (case k6 => k_is); (case k7 => k_is); (case k9 => exact fun s X => BindsTo.of_eq rfl); (case kB => exact locs rfl); (case c2 => exact rfl); (case c3 => exact rfl); (case c4 => exact rfl); (case c5 => decide)); intro dp un gd A₀ base g outer L hp gens drawn toks os QQ B X T F N hd1 hd2 hret hnx; (try dsimp only); (try k_fold))
  repeat' (first | (k_unfold; (try dsimp only)) | (k_end; (fail_if_success (with_reducible show QQ _ _)); wrow_close) | walk1 | (dsimp only; walk1) | (leave1; walk_say "STEP leave1"; try dsimp only) | fail "no step")
  all_goals refine hnx _ _ _ _ _ (by k_asm) (by k_asm) ?_
  all_goals first
    | (rw [if_pos (show ((if rel then hx + x0 else x0) = hx ∧ (if rel then hy + x1 else x1) = hy) by assumption)]; exact PenPost.mk (by kp_flats) (by kp_flats) (by keq_hits) (by keq_hits) (fun hq => absurd rfl hq) (by kct_strs))
    | (rw [if_neg (show ¬ ((if rel then hx + x0 else x0) = hx ∧ (if rel then hy + x1 else x1) = hy) by assumption), if_pos (show ((if rx < 0 then -rx else rx) = 0 ∨ (if ry < 0 then -ry else ry) = 0) from Or.inl (by assumption))]; exact PenPost.mk (by kp_flats) (by kp_flats) (by keq_hits) (by keq_hits) (fun hq => absurd rfl hq) (by kct_strs))
    | (rw [if_neg (show ¬ ((if rel then hx + x0 else x0) = hx ∧ (if rel then hy + x1 else x1) = hy) by assumption), if_pos (show ((if rx < 0 then -rx else rx) = 0 ∨ (if ry < 0 then -ry else ry) = 0) from Or.inr (by assumption))]; exact PenPost.mk (by kp_flats) (by kp_flats) (by keq_hits) (by keq_hits) (fun hq => absurd rfl hq) (by kct_strs))
    | (rw [if_neg (show ¬ ((if rel then hx + x0 else x0) = hx ∧ (if rel then hy + x1 else x1) = hy) by assumption), if_neg (show ¬ ((if rx < 0 then -rx else rx) = 0 ∨ (if ry < 0 then -ry else ry) = 0) from fun hq => hq.elim (by assumption) (by assumption))]; exact PenPost.mk (by kp_flats) (by kp_flats) (by keq_hits) (by keq_hits) (fun hq => absurd rfl hq) (by kct_strs))
    | skip
theorem wdJ11N6Ax18 : True := by
  k_with "call ref" => (k_here; (with_reducible show wpAny _ _ (call (Value.ref 202) _) _ _ _); k_dflt (refine' Ctr.usePen (draw_A_ctr ?P1 ?P2 ?P3 ?q1 ?q2 ?q3 ?hA ?hna ?hm0 ?hm1 ?hm2 ?hn0 ?hn1 ?hh ?hs ?hc ?hf ?hl) ?k1 ?k2 ?k3 ?k4 ?k5 ?k6 ?k7 ?k8 ?CR9 ?hS9 ?hc9 ?_; (case k1 => k_asm); (case k2 => k_asm); (case k3 => k_asm); (case k4 => k_asm); (case k5 => k_asm); (case k6 => first | exact rfl | assumption); (case P1 => k_upd); (case P2 => k_upd); (case P3 => k_upd); (case q1 => k_ne); (case q2 => k_ne); (case q3 => k_ne); (case hA => k_upd); (case hna => keq_rows); (case hm0 => keq_hits); (case hm1 => keq_hits); (case hm2 => keq_hits); (case hn0 => keq_hits); (case hn1 => keq_hits); (case hh => keq_hits); (case hs => keq_hits); (case hc => kat_tups); (case hf => kct_strs); (case hl => k_extra "len9"); (case k7 => first | exact room9 hd1 rfl | ktr_room); (case k8 => first | exact room9 hd2 rfl | ktr_units); (case CR9 => k_upd); (case hS9 => ((try dsimp only [List.map]); k_upd)); (case hc9 => k_upd)); k_dflt (intro k9' tk9' fv9 vh9 vs9 vc9 T9 h9 tk9 F9 N9 hAp9 hSR9 hh9 hss9 hc9 hf9; dsimp only [List.map, List.cons_append, List.nil_append] at hAp9 N9); (try dsimp only); (try k_sweep); (try k_fold))
  trivial
theorem close_ctr {w : World} {mean : ExcName → Option Value} {mg mb : Str → Option Value} {cur r1 r2 R : Led} {pn pd fl : Addr} {h1 h2 h3 h4 h5 h6 : Int} {t1 t2 t3 t4 t5 t6 : Tok} {vh vs vc : Value} {k : Nat} {kd : Str} {cl : Bool} {hx hy sx sy cx cy : Int} {tk : Tok} {fv : List Value} {ds : List Dat}
    (P1 : Pick (pn, instObj 184 pd) cur r1) (P2 : Pick (pd, penD h1 h2 h3 h4 h5 h6 t1 t2 t3 t4 t5 t6 vh vs vc (.str kd tk) (.bool cl) (.ref fl)) r1 r2) (P3 : Pick (fl, listOf fv.toArray k) r2 R)
    (q1 : @Ne Nat pn pd) (q2 : @Ne Nat pn fl) (q3 : @Ne Nat pd fl) (hA : Apart R [pn, pd, fl])
    (hh : TIn R vh (pt hx hy)) (hs : TIn R vs (pt sx sy)) (hf : TAll R fv ds) (hl : ds.length ≤ 800) :
    Ctr w mean mg mb 153 4 60 [.ref pn] cur (fun r news' => r = .none ∧ PenPost pn pd fl h1 h2 h3 h4 h5 h6 t1 t2 t3 t4 t5 t6 R ⟨sx, sy, sx, sy, cx, cy, Str.ofString "", true, ds ++ (if cl then [Dat.tuple [.str (Str.ofString "move"), pt hx hy]] else []) ++ [Dat.tuple [.str (Str.ofString "close")]]⟩ news') := by
  refine Ctr.weaken (news := (pn, instObj 184 pd) :: (pd, penD h1 h2 h3 h4 h5 h6 t1 t2 t3 t4 t5 t6 vh vs vc (.str kd tk) (.bool cl) (.ref fl)) :: (fl, listOf fv.toArray k) :: R) (fun p hp => P1.sub _ (Sub.cons (fun p hp => P2.sub _ (Sub.cons P3.sub _ hp)) _ hp)) ?_
  have hlen := hf.length
  obtain ⟨y0, hve1⟩ := hs.ref
  subst hve1
  obtain ⟨y1, hve2⟩ := hh.ref
  subst hve2
  cases cl
  all_goals (
    (have hfill : True := fillT (K := Mine.hd.heap_1) (l := PySem.Challenge.rw_nu0013_01) (by k_fill; exact trivial); clear hfill; k_dflt (refine' Ctr.body ?k6 ?k7 ?k9 ?kB ?c2 ?c3 ?c4 ?c5 ?_; (case k6 => k_is); (case k7 => k_is); (case k9 => exact fun s X => BindsTo.of_eq rfl); (case kB => exact locs rfl); (case c2 => exact rfl); (case c3 => exact rfl); (case c4 => exact rfl); (case c5 => decide)); intro dp un gd A₀ base g outer L hp gens drawn toks os QQ B X T F N hd1 hd2 hret hnx; (try dsimp only); (try k_fold))
    repeat' (first | (k_unfold; (try dsimp only)) | (k_end; (fail_if_success (with_reducible show QQ _ _)); wrow_close) | walk1 | (dsimp only; walk1) | (leave1; walk_say "STEP leave1"; try dsimp only) | fail "no step"))
  · exact hnx _ _ _ _ _ (by k_asm) (by k_asm) (PenPost.mk (by kp_flats) (by kp_flats) (by keq_hits) (by keq_hits) (fun hq => absurd rfl hq) (by (simp only [Bool.false_eq_true, if_false, List.append_nil]; kct_strs)))
  · exact hnx _ _ _ _ _ (by k_asm) (by k_asm) (PenPost.mk (by kp_flats) (by kp_flats) (by keq_hits) (by keq_hits) (fun hq => absurd rfl hq) (by (simp only [if_true]; kct_strs)))
theorem plus0_ctr {w : World} {mean : ExcName → Option Value} {mg mb : Str → Option Value} {v' : Value} {y : Int} {news : Led} (hv' : TIn news v' (fr y)) :
    Ctr w mean mg mb 69 7 120 [.ref 47, v'] news (fun r news' => Sub news news' ∧ TIn news' r (fr (0 + y))) := by
  obtain ⟨va', t', u', n', rfl, hm'⟩ := hv'.raw_inv
  (have hfill : True := fillT (K := Mine.hd.heap_1) (l := PySem.Challenge.rw_nu0013_01) (by k_fill; exact trivial); clear hfill; k_dflt (refine' Ctr.body ?k6 ?k7 ?k9 ?kB ?c2 ?c3 ?c4 ?c5 ?_; (case k6 => k_is); (case k7 => k_is); (case k9 => exact fun s X => BindsTo.of_eq rfl); (case kB => exact locs rfl); (case c2 => exact rfl); (case c3 => exact rfl); (case c4 => exact rfl); (case c5 => decide)); intro dp un gd A₀ base g outer L hp gens drawn toks os QQ B X T F N hd1 hd2 hret hnx; (try dsimp only); (try k_fold))
  repeat' (first | (k_unfold; (try dsimp only)) | (k_end; (fail_if_success (with_reducible show QQ _ _)); wrow_close) | walk1 | (dsimp only; walk1) | (leave1; walk_say "STEP leave1"; try dsimp only) | fail "no step")
  all_goals exact hret _ _ _ _ _ _ (by k_asm) (by k_asm) ⟨by kp_flats, by keq_hits⟩
theorem wdJ13N7bx19 : True := by
  k_with "call ref" => (k_here; (with_reducible show wpAny _ _ (call (Value.ref 69) _) _ _ _); k_dflt (refine' Ctr.useR (plus0_ctr ?hv') ?k1 ?k2 ?k3 ?k4 ?k5 ?k6 ?k7 ?k8 ?CR9 ?hS9 ?hc9 ?_; (case k1 => k_asm); (case k2 => k_asm); (case k3 => k_asm); (case k4 => k_asm); (case k5 => k_asm); (case k6 => first | exact rfl | assumption); (case hv' => keq_hits); (case k7 => first | exact room9 hd1 rfl | ktr_room); (case k8 => first | exact room9 hd2 rfl | ktr_units); (case CR9 => k_upd); (case hS9 => ((try dsimp only [List.map]); k_upd)); (case hc9 => k_upd)); k_dflt (intro a9 t9 u9 m9 T9 h9 tk9 F9 N9 hAp9 hSR9 hm9 hr9; dsimp only [List.map, List.cons_append, List.nil_append] at hAp9 N9); (try dsimp only); (try k_sweep); (try k_fold))
  trivial
theorem point0_ctr {w : World} {mean : ExcName → Option Value} {mg mb : Str → Option Value} {news : Led} {pn pd ha : Addr} {h1 h2 h3 h4 h5 h6 : Int} {t1 t2 t3 t4 t5 t6 : Tok} {v2 v3 v4 v5 v6 vx vy : Value} {rel : Bool} {x y : Int} {nh : Nat}
    (hp : (pn, instObj 184 pd) ∈ news)
    (hd : (pd, penD h1 h2 h3 h4 h5 h6 t1 t2 t3 t4 t5 t6 (.ref ha) v2 v3 v4 v5 v6) ∈ news)
    (hh : (ha, tupO [.ref 47, .ref 47] nh) ∈ news) (hvx : TIn news vx (fr x)) (hvy : TIn news vy (fr y)) :
    Ctr w mean mg mb 132 10 200 [.ref pn, .bool rel, vx, vy] news (fun r news' => Sub news news' ∧ TIn news' r (pt (if rel then 0 + x else x) (if rel then 0 + y else y))) := by
  cases rel
  · (have hfill : True := fillT (K := Mine.hd.heap_1) (l := PySem.Challenge.rw_nu0013_01) (by k_fill; exact trivial); clear hfill; k_dflt (refine' Ctr.body ?k6 ?k7 ?k9 ?kB ?c2 ?c3 ?c4 ?c5 ?_; (case k6 => k_is); (case k7 => k_is); (case k9 => exact fun s X => BindsTo.of_eq rfl); (case kB => exact locs rfl); (case c2 => exact rfl); (case c3 => exact rfl); (case c4 => exact rfl); (case c5 => decide)); intro dp un gd A₀ base g outer L hp gens drawn toks os QQ B X T F N hd1 hd2 hret hnx; (try dsimp only); (try k_fold))
    repeat' (first | (k_unfold; (try dsimp only)) | (k_end; (fail_if_success (with_reducible show QQ _ _)); wrow_close) | walk1 | (dsimp only; walk1) | (leave1; walk_say "STEP leave1"; try dsimp only) | fail "no step")
    all_goals exact hret _ _ _ _ _ _ (by k_asm) (by k_asm) ⟨by kp_flats, by (simp only [Bool.false_eq_true, if_false]; keq_hits)⟩
  · (have hfill : True := fillT (K := Mine.hd.heap_1) (l := PySem.Challenge.rw_nu0013_01) (by k_fill; exact trivial); clear hfill; k_dflt (refine' Ctr.body ?k6 ?k7 ?k9 ?kB ?c2 ?c3 ?c4 ?c5 ?_; (case k6 => k_is); (case k7 => k_is); (case k9 => exact fun s X => BindsTo.of_eq rfl); (case kB => exact locs rfl); (case c2 => exact rfl); (case c3 => exact rfl); (case c4 => exact rfl); (case c5 => decide)); intro dp un gd A₀ base g outer L hp gens drawn toks os QQ B X T F N hd1 hd2 hret hnx; (try dsimp only); (try k_fold))
    repeat' (first | (k_unfold; (try dsimp only)) | (k_end; (fail_if_success (with_reducible show QQ _ _)); wrow_close) | walk1 | (dsimp only; walk1) | (leave1; walk_say "STEP leave1"; try dsimp only) | fail "no step")
    all_goals exact hret _ _ _ _ _ _ (by k_asm) (by k_asm) ⟨by kp_flats, by (simp only [if_true]; keq_hits)⟩
theorem wdJ13N7bx20 : True := by
  k_with "call ref" => (k_here; (with_reducible show wpAny _ _ (call (Value.ref 132) _) _ _ _); k_dflt (refine' Ctr.useP (point0_ctr ?hp ?hd ?hh ?hvx ?hvy) ?k1 ?k2 ?k3 ?k4 ?k5 ?k6 ?k7 ?k8 ?CR9 ?hS9 ?hc9 ?_; (case k1 => k_asm); (case k2 => k_asm); (case k3 => k_asm); (case k4 => k_asm); (case k5 => k_asm); (case k6 => first | exact rfl | assumption); (case hp => keq_rows); (case hd => keq_rows); (case hh => keq_rows); (case hvx => keq_hits); (case hvy => keq_hits); (case k7 => first | exact room9 hd1 rfl | ktr_room); (case k8 => first | exact room9 hd2 rfl | ktr_units); (case CR9 => k_upd); (case hS9 => ((try dsimp only [List.map]); k_upd)); (case hc9 => k_upd)); k_dflt (intro a9 b9 c9 t9 u9 t9' u9' m9 m9' m9'' T9 h9 tk9 F9 N9 hAp9 hSR9 hm9 hm9' hm9'' hr9; dsimp only [List.map, List.cons_append, List.nil_append] at hAp9 N9); (try dsimp only); (try k_sweep); (try k_fold))
  trivial
theorem draw_M0_ctr {w : World} {mean : ExcName → Option Value} {mg mb : Str → Option Value} {cur r1 r2 R : Led} {pn pd fl na ha : Addr} {h1 h2 h3 h4 h5 h6 : Int} {t1 t2 t3 t4 t5 t6 : Tok} {vs : Value} {k nn nh : Nat} {rel : Bool} {x0 x1 : Int} {tk tl : Tok} {n0 n1 : Value}
    (P1 : Pick (pn, instObj 184 pd) cur r1) (P2 : Pick (pd, penD h1 h2 h3 h4 h5 h6 t1 t2 t3 t4 t5 t6 (.ref ha) vs (.none) (.str (Str.ofString "") tk) (.bool false) (.ref fl)) r1 r2) (P3 : Pick (fl, listOf ([] : List Value).toArray k) r2 R)
    (q1 : @Ne Nat pn pd) (q2 : @Ne Nat pn fl) (q3 : @Ne Nat pd fl) (hA : Apart R [pn, pd, fl]) (hh : (ha, tupO [.ref 47, .ref 47] nh) ∈ R)
    (hna : (na, tupO [n0, n1] nn) ∈ R) (hn0 : TIn R n0 (fr x0)) (hn1 : TIn R n1 (fr x1)) :
    Ctr w mean mg mb 202 20 400 [.ref pn, .str (Str.ofString "M") tl, .bool rel, .ref na] cur (fun r news' => r = .none ∧ PenPost pn pd fl h1 h2 h3 h4 h5 h6 t1 t2 t3 t4 t5 t6 R ⟨(if rel then 0 + x0 else x0), (if rel then 0 + x1 else x1), (if rel then 0 + x0 else x0), (if rel then 0 + x1 else x1), 0, 0, Str.ofString "", false, [Dat.tuple [.str (Str.ofString "move"), pt (if rel then 0 + x0 else x0) (if rel then 0 + x1 else x1)]]⟩ news') := by
  refine Ctr.weaken (news := (pn, instObj 184 pd) :: (pd, penD h1 h2 h3 h4 h5 h6 t1 t2 t3 t4 t5 t6 (.ref ha) vs (.none) (.str (Str.ofString "") tk) (.bool false) (.ref fl)) :: (fl, listOf ([] : List Value).toArray k) :: R) (fun p hp => P1.sub _ (Sub.cons (fun p hp => P2.sub _ (Sub.cons P3.sub _ hp)) _ hp)) ?_
  (have hfill : True := fillT (K := Mine.hd.heap_1) (l := PySem.Challenge.rw_nu0013_01) (by k_fill; exact trivial); clear hfill; k_dflt (refine' Ctr.body ?k6 ?k7 ?k9 ?kB ?c2 ?c3 ?c4 ?c5 ?_; (case k6 => k_is); (case k7 => k_is); (case k9 => exact fun s X => BindsTo.of_eq rfl); (case kB => exact locs rfl); (case c2 => exact rfl); (case c3 => exact rfl); (case c4 => exact rfl); (case c5 => decide)); intro dp un gd A₀ base g outer L hp gens drawn toks os QQ B X T F N hd1 hd2 hret hnx; (try dsimp only); (try k_fold))
  repeat' (first | (k_unfold; (try dsimp only)) | (k_end; (fail_if_success (with_reducible show QQ _ _)); wrow_close) | walk1 | (dsimp only; walk1) | (leave1; walk_say "STEP leave1"; try dsimp only) | fail "no step")
  all_goals exact hnx _ _ _ _ _ (by k_asm) (by k_asm) (PenPost.mk (by kp_flats) (by kp_flats) (by keq_hits) (by keq_hits) (fun hq => absurd rfl hq) (by kct_strs))
theorem rst14 : True := by
  k_with_none
  trivial
theorem wdJ15PNx21 : True := by
  k_with "rows9" => first | with_reducible assumption | exact List.mem_cons_self | (refine List.mem_cons_of_mem _ ?_; keq_rows) | (refine Sub.use (by with_reducible assumption) ?_; keq_rows) | fail "keq_rows"
  k_with "mono9" => first | with_reducible assumption | (refine' TIn.mono ?ms ?mh; (case ms => exact (fun _ h => List.mem_cons_of_mem _ h)); (case mh => kat_tups)) | (refine' TIn.mono ?ms ?mh; (case ms => with_reducible assumption); (case mh => kat_tups)) | (refine' CIn.mono ?ms ?mh; (case ms => exact (fun _ h => List.mem_cons_of_mem _ h)); (case mh => kat_tups)) | (refine' CIn.mono ?ms ?mh; (case ms => with_reducible assumption); (case mh => kat_tups)) | (refine' CNz.mono ?ms ?mh; (case ms => exact (fun _ h => List.mem_cons_of_mem _ h)); (case mh => kat_tups)) | (refine' CNz.mono ?ms ?mh; (case ms => with_reducible assumption); (case mh => kat_tups)) | fail "kat_tups"
  k_with "amono9" => first | with_reducible assumption | (refine' TAll.mono ?ms ?mh; (case ms => exact (fun _ h => List.mem_cons_of_mem _ h)); (case mh => kbo_bools)) | (refine' TAll.mono ?ms ?mh; (case ms => with_reducible assumption); (case mh => kbo_bools)) | fail "kbo_bools"
  k_with "tin9" => first | with_reducible assumption | exact TIn.none | exact TIn.int _ _ | exact TIn.str _ _ | exact TIn.bool _ | (refine TIn.mono ?_ (by with_reducible assumption); kp_flats) | (refine TIn.intE ?_; first | omega | (simp; done)) | exact TIn.tuple (by keq_rows) (by kct_strs) | kat_tups | fail "keq_hits"
  k_with "tall9" => first | with_reducible assumption | exact TAll.nil | (refine TAll.mono ?_ (by with_reducible assumption); kp_flats) | exact TAll.cons (by keq_hits) (by kct_strs) | exact TAll.append (by kct_strs) (by kct_strs) | kbo_bools | fail "kct_strs"
  k_with "sub9" => first | with_reducible exact Sub.refl | with_reducible exact Sub.nil | with_reducible assumption | (with_reducible refine Sub.mk ?sm ?sr; (case sm => keq_rows); (case sr => kp_flats)) | (intro p9 h9; (repeat (first | with_reducible assumption | (with_reducible refine List.mem_cons_of_mem _ ?_) | refine Sub.use (by with_reducible assumption) ?_)); done) | fail "kp_flats"
  k_with "lt9" => skip
  k_with "size9" => exact size9 rfl
  k_with "ne9" => ((try dsimp only); first | with_reducible assumption | exact Ne.symm (by with_reducible assumption) | exact ltNe9 (by with_reducible assumption) (by keq_rows) | exact gtNe9 (by with_reducible assumption) (by keq_rows) | exact Nat.ne_of_lt (by with_reducible assumption) | exact Nat.ne_of_gt (by with_reducible assumption) | exact ltNe1 (by with_reducible assumption) (by keq_rows) | exact gtNe1 (by with_reducible assumption) (by keq_rows) | exact neOf9 (by with_reducible assumption) (by keq_rows) | exact Ne.symm (neOf9 (by with_reducible assumption) (by keq_rows)) | exact ltNe8 (by with_reducible assumption) (by keq_rows) (by with_reducible assumption) | exact gtNe8 (by with_reducible assumption) (by keq_rows) (by with_reducible assumption) | fail "ne9")
  k_with "all9" => first | with_reducible assumption | exact List.forall_mem_nil _ | (refine' List.forall_mem_cons.mpr ⟨?a, ?b⟩; (case a => k_ne); (case b => k_all)) | exact Apart.ne (by with_reducible assumption) (by keq_rows) | exact allLt_ne (by with_reducible assumption) | exact rawLt_ne (by with_reducible assumption) (by kp_flats) | exact rawNe9 (by with_reducible assumption) (by kp_flats) | exact rawLt_ne1 (by with_reducible assumption) (by kp_flats) | exact rawLt_ne8 (by with_reducible assumption) (by with_reducible assumption) (by kp_flats) | fail "k_all"
  k_with "upd9" => first | ((with_reducible show Pick _ _ _); first | exact Pick.here | (refine' Pick.there ?pk; (case pk => k_upd)) | fail "pick") | ((with_reducible show Core _ _ _ _); first | (refine' Core.tup ?ck; (case ck => k_upd)) | (refine' Core.keep ?ck; (case ck => k_upd)) | exact Core.tail | fail "core") | ((with_reducible show Apart _ _); first | with_reducible assumption | exact Apart.nil | (refine Apart.mk ?sa ?sb; (case sa => k_all); (case sb => k_upd)) | fail "apart") | ((with_reducible show SepL _ _); (try dsimp only [List.cons_append, List.nil_append]); first | exact True.intro | (refine And.intro ?sa ?sb; (case sa => k_all); (case sb => k_upd)) | fail "sep") | ((with_reducible show NoTup _); (try dsimp only [List.cons_append, List.nil_append]); first | exact True.intro | (refine And.intro ?sa ?sb; (case sa => first | exact cls_list | exact cls_dict | exact cls_inst | exact cls_rng | with_reducible assumption | exact NoT.of (by with_reducible assumption) | exact NoT.cell (by with_reducible assumption) | exact cls_pen (by with_reducible assumption) | exact cls_src (by with_reducible assumption) | exact LawIn.cls (by with_reducible assumption) | fail "cls"); (case sb => k_upd)) | fail "notup")
  k_with "tallD9" => first | assumption | (refine TAll.mono ?_ (by assumption); kp_flats) | fail "tallD9"
  k_with "len9" => first | with_reducible assumption | exact Nat.le_trans (by with_reducible assumption) (Nat.le_of_ble_eq_true rfl) | exact Nat.le_of_ble_eq_true rfl | omega | (simp only [List.length_append, List.length_cons, List.length_nil]; omega) | fail "len9"
  k_with "rnz9" => first | exact RNz.nul | exact RNz.of (by keq_hits) | with_reducible assumption | (refine RNz.mono ?_ (by with_reducible assumption); kp_flats) | fail "rnz9"
  k_with "law9" => first | with_reducible assumption | (refine LawIn.mono ?_ (by with_reducible assumption); kp_flats) | fail "law9"
  k_with "WhlIf" => (refine WhlIf.no (decide_eq_false (by rw [Int.fmod_one]; decide)) ?_)
  k_with "call builtin:list.append" => (k_here; (with_reducible show wpAny _ _ (call (Value.builtin _) [Value.ref _, _]) _ _ _); k_dflt (refine' my_append ?k1 ?k2 ?k3 ?z ?_; (case k1 => k_asm); (case k2 => k_asm); (case k3 => k_upd); (case z => first | exact Nat.le_of_ble_eq_true rfl | omega | (simp only [List.length_append, List.length_cons, List.length_nil]; omega)); k_whole); intro h' F' N'; (try dsimp only [List.nil_append, List.cons_append] at N'); (try k_sweep))
  k_with "compareOp In str str" => k_dflt (first | refine my_in_str (b := true) (by decide +kernel) ?_ | refine my_in_str (b := false) (by decide +kernel) ?_)
  k_with "UnrEnd" => (k_here; k_dflt (refine' my_unrEnd ?F ?N ?P ?o ?_; (case F => k_asm); (case N => k_asm); (case P => k_upd); (case o => k_all)))
  k_with "compareOp Eq ref ref" => (k_here; (with_reducible show wpAny _ _ (compareOp CmpOp.Eq (Value.ref _) (Value.ref 47)) _ _ _); k_dflt (refine' my_eq_zero ?F ?X ?l ?N ?a ?u ?_; (case F => k_asm); (case X => k_asm); (case l => k_is); (case N => k_asm); (case a => keq_hits); (case u => ktr_units)))
  k_with "compareOp Eq ref ref" => (k_here; (with_reducible show wpAny _ _ (compareOp CmpOp.Eq (Value.ref _) (Value.ref _)) _ _ _); k_dflt (refine' my_eq_pt ?N ?a ?b ?u ?_; (case N => k_asm); (case a => keq_hits); (case b => keq_hits); (case u => ktr_units)))
  k_with "subscriptTail Name Constant ref int" => (k_here; (with_reducible show wpAny _ _ (subscriptTail _ _ (Value.ref _) (Value.int _ _)) _ _ _); k_dflt (refine' item_litK ?t ?a ?b ?c ?_ ?d; (case t => exact News.isList (by k_asm) (by keq_rows)); (case a => decide); (case b => decide); (case c => exact rfl); (case d => with_unfolding_all rfl); k_whole))
  k_with "subscriptTail Name Constant ref int" => (k_here; (with_reducible show wpAny _ _ (subscriptTail _ _ (Value.ref _) (Value.int _ _)) _ _ _); k_dflt (refine item_tupleT (News.isTup (by k_asm) (by keq_rows)) (by decide) (by decide) (by exact rfl) (by exact rfl) ?_; k_whole))
  k_with "subscriptTail Name Name ref int" => (k_here; (with_reducible show wpAny _ _ (subscriptTail _ _ (Value.ref _) (Value.int _ _)) _ _ _); k_dflt (refine item_tupleT (News.isTup (by k_asm) (by keq_rows)) (by decide) (by decide) (by exact rfl) (by exact rfl) ?_; k_whole))
  k_with "subscriptTail Name BinOp ref int" => (k_here; (with_reducible show wpAny _ _ (subscriptTail _ _ (Value.ref _) (Value.int _ _)) _ _ _); k_dflt (refine item_tupleT (News.isTup (by k_asm) (by keq_rows)) (by decide) (by decide) (by exact rfl) (by exact rfl) ?_; k_whole))
  trivial
theorem TIn.tup_inv {T : Led} {a : Addr} {ds : List Dat} (h : TIn T (.ref a) (.tuple ds)) : ∃ vs n, (a, tupO vs n) ∈ T ∧ TAll T vs ds := by
  cases h with | tuple hm r => exact ⟨_, _, hm, r⟩
theorem TAll.cons_inv {T : Led} {vs : List Value} {d : Dat} {ds : List Dat} (h : TAll T vs (d :: ds)) : ∃ v us, vs = v :: us ∧ TIn T v d ∧ TAll T us ds := by
  cases h with | cons h r => exact ⟨_, _, rfl, h, r⟩
theorem TAll.nil_inv {T : Led} {vs : List Value} (h : TAll T vs []) : vs = [] := by
  cases h; rfl
theorem TIn.int_inv {T : Led} {v : Value} {i : Int} (h : TIn T v (.int i)) : ∃ t, v = .int i t := by
  cases h; exact ⟨_, rfl⟩
theorem TIn.str_inv {T : Led} {v : Value} {x : Str} (h : TIn T v (.str x)) : ∃ t, v = .str x t := by
  cases h; exact ⟨_, rfl⟩
noncomputable def Cmd.isZ : Cmd → Bool
  | .Z => true
  | _ => false
theorem letter_up (c : Cmd) (rel : Bool) : Txt.upper (c.letter rel) = c.letter false := by cases c <;> cases rel <;> (dsimp only [Cmd.letter, Cmd.isZ]; decide +kernel)
theorem letter_fits (c : Cmd) (rel : Bool) : Builtin.Str.tooLong (Txt.upper (c.letter rel)).length = false := by cases c <;> cases rel <;> (dsimp only [Cmd.letter, Cmd.isZ]; decide +kernel)
theorem letter_low (c : Cmd) (rel : Bool) : Txt.islower (c.letter rel) = rel := by cases c <;> cases rel <;> (dsimp only [Cmd.letter, Cmd.isZ]; decide +kernel)
theorem letter_Z (c : Cmd) (rel : Bool) : (!(Builtin.Str.occurrences (Str.ofString "Zz") (c.letter rel) 0 (Str.ofString "Zz").length 1).isEmpty) = c.isZ := by cases c <;> cases rel <;> (dsimp only [Cmd.letter, Cmd.isZ]; decide +kernel)
noncomputable def S0 : PP := ⟨0, 0, 0, 0, 0, 0, Str.ofString "", false, []⟩
theorem draw_ctr {w : World} {mean : ExcName → Option Value} {mg mb : Str → Option Value} {cur r1 r2 R : Led} {pn pd fl na : Addr} {h1 h2 h3 h4 h5 h6 : Int} {t1 t2 t3 t4 t5 t6 : Tok} {vh vs vc : Value} {k : Nat} {S : PP} {rel : Bool} {c : Cmd} {tk tl : Tok} {fv : List Value}
    (P1 : Pick (pn, instObj 184 pd) cur r1) (P2 : Pick (pd, penD h1 h2 h3 h4 h5 h6 t1 t2 t3 t4 t5 t6 vh vs vc (.str S.kd tk) (.bool S.cl) (.ref fl)) r1 r2) (P3 : Pick (fl, listOf fv.toArray k) r2 R)
    (q1 : @Ne Nat pn pd) (q2 : @Ne Nat pn fl) (q3 : @Ne Nat pd fl) (hA : Apart R [pn, pd, fl])
    (hz : c.isZ = false) (hna : TIn R (.ref na) (.tuple c.nums)) (hh : TIn R vh (pt S.hx S.hy)) (hs : TIn R vs (pt S.sx S.sy)) (hc : CNz R S.kd vc S.cx S.cy) (hf : TAll R fv S.found) (hl : S.found.length ≤ 800) :
    Ctr w mean mg mb 202 20 400 [.ref pn, .str (c.letter false) tl, .bool rel, .ref na] cur (fun r news' => r = .none ∧ PenPost pn pd fl h1 h2 h3 h4 h5 h6 t1 t2 t3 t4 t5 t6 R (step S rel c) news') := by
  obtain ⟨hx, hy, sx, sy, cx, cy, kd, cl, ds⟩ := S
  obtain ⟨us, nn, hm, hr⟩ := hna.tup_inv
  cases c with
  | M x y => exact drawG_ctr (S := ⟨hx, hy, sx, sy, cx, cy, kd, cl, ds⟩) (ps := [(x, y)]) P1 P2 P3 q1 q2 q3 hA hm hr hh hs hc hf hl (.M x y)
  | L x y =>
    obtain ⟨n0, us, rfl, g0, hr⟩ := TAll.cons_inv hr
    obtain ⟨n1, us, rfl, g1, hr⟩ := TAll.cons_inv hr
    obtain rfl := TAll.nil_inv hr
    exact draw_L_ctr P1 P2 P3 q1 q2 q3 hA hm g0 g1 hh hs hc hf hl
  | H x =>
    obtain ⟨n0, us, rfl, g0, hr⟩ := TAll.cons_inv hr
    obtain rfl := TAll.nil_inv hr
    exact draw_H_ctr P1 P2 P3 q1 q2 q3 hA hm g0 hh hs hc hf hl
  | V y =>
    obtain ⟨n0, us, rfl, g0, hr⟩ := TAll.cons_inv hr
    obtain rfl := TAll.nil_inv hr
    exact draw_V_ctr P1 P2 P3 q1 q2 q3 hA hm g0 hh hs hc hf hl
  | C a b c d x y => exact drawG_ctr (S := ⟨hx, hy, sx, sy, cx, cy, kd, cl, ds⟩) (ps := [(a, b), (c, d), (x, y)]) P1 P2 P3 q1 q2 q3 hA hm hr hh hs hc hf hl (.C a b c d x y)
  | S a b x y => exact drawG_ctr (S := ⟨hx, hy, sx, sy, cx, cy, kd, cl, ds⟩) (ps := [(a, b), (x, y)]) P1 P2 P3 q1 q2 q3 hA hm hr hh hs hc hf hl (.S a b x y)
  | Q a b x y => exact drawG_ctr (S := ⟨hx, hy, sx, sy, cx, cy, kd, cl, ds⟩) (ps := [(a, b), (x, y)]) P1 P2 P3 q1 q2 q3 hA hm hr hh hs hc hf hl (.Q a b x y)
  | T x y => exact drawG_ctr (S := ⟨hx, hy, sx, sy, cx, cy, kd, cl, ds⟩) (ps := [(x, y)]) P1 P2 P3 q1 q2 q3 hA hm hr hh hs hc hf hl (.T x y)
  | A rx ry tn lg sw x y =>
    obtain ⟨n0, us, rfl, g0, hr⟩ := TAll.cons_inv hr
    obtain ⟨n1, us, rfl, g1, hr⟩ := TAll.cons_inv hr
    obtain ⟨n2, us, rfl, g2, hr⟩ := TAll.cons_inv hr
    obtain ⟨n3, us, rfl, g3, hr⟩ := TAll.cons_inv hr
    obtain ⟨n4, us, rfl, g4, hr⟩ := TAll.cons_inv hr
    obtain ⟨n5, us, rfl, g5, hr⟩ := TAll.cons_inv hr
    obtain ⟨n6, us, rfl, g6, hr⟩ := TAll.cons_inv hr
    obtain rfl := TAll.nil_inv hr
    obtain ⟨tg, rfl⟩ := g3.int_inv
    obtain ⟨tw, rfl⟩ := g4.int_inv
    exact draw_A_ctr P1 P2 P3 q1 q2 q3 hA hm g0 g1 g2 g5 g6 hh hs hc hf hl
  | Z => cases hz
theorem drawM0_ctr {w : World} {mean : ExcName → Option Value} {mg mb : Str → Option Value} {cur r1 r2 R : Led} {pn pd fl na ha : Addr} {h1 h2 h3 h4 h5 h6 : Int} {t1 t2 t3 t4 t5 t6 : Tok} {vs : Value} {k nh : Nat} {rel : Bool} {x y : Int} {tk tl : Tok}
    (P1 : Pick (pn, instObj 184 pd) cur r1) (P2 : Pick (pd, penD h1 h2 h3 h4 h5 h6 t1 t2 t3 t4 t5 t6 (.ref ha) vs (.none) (.str (Str.ofString "") tk) (.bool false) (.ref fl)) r1 r2) (P3 : Pick (fl, listOf ([] : List Value).toArray k) r2 R)
    (q1 : @Ne Nat pn pd) (q2 : @Ne Nat pn fl) (q3 : @Ne Nat pd fl) (hA : Apart R [pn, pd, fl]) (hh : (ha, tupO [.ref 47, .ref 47] nh) ∈ R)
    (hna : TIn R (.ref na) (.tuple (Cmd.M x y).nums)) :
    Ctr w mean mg mb 202 20 400 [.ref pn, .str ((Cmd.M x y).letter false) tl, .bool rel, .ref na] cur (fun r news' => r = .none ∧ PenPost pn pd fl h1 h2 h3 h4 h5 h6 t1 t2 t3 t4 t5 t6 R (step S0 rel (.M x y)) news') := by
  obtain ⟨us, nn, hm, hr⟩ := hna.tup_inv
  obtain ⟨n0, us, rfl, g0, hr⟩ := TAll.cons_inv hr
  obtain ⟨n1, us, rfl, g1, hr⟩ := TAll.cons_inv hr
  obtain rfl := TAll.nil_inv hr
  exact draw_M0_ctr P1 P2 P3 q1 q2 q3 hA hh hm g0 g1
theorem wdJ16N8bx22 : True := by
  k_with "call ref" => (k_here; (with_reducible show wpAny _ _ (call (Value.ref 153) _) _ _ _); k_dflt (refine' Ctr.usePen (close_ctr ?P1 ?P2 ?P3 ?q1 ?q2 ?q3 ?hA ?hh ?hs ?hf ?hl) ?k1 ?k2 ?k3 ?k4 ?k5 ?k6 ?k7 ?k8 ?CR9 ?hS9 ?hc9 ?_; (case k1 => k_asm); (case k2 => k_asm); (case k3 => k_asm); (case k4 => k_asm); (case k5 => k_asm); (case k6 => first | exact rfl | assumption); (case P1 => k_upd); (case P2 => k_upd); (case P3 => k_upd); (case q1 => k_ne); (case q2 => k_ne); (case q3 => k_ne); (case hA => k_upd); (case hh => keq_hits); (case hs => keq_hits); (case hf => kct_strs); (case hl => k_extra "len9"); (case k7 => first | exact room9 hd1 rfl | ktr_room); (case k8 => first | exact room9 hd2 rfl | ktr_units); (case CR9 => k_upd); (case hS9 => ((try dsimp only [List.map]); k_upd)); (case hc9 => k_upd)); k_dflt (intro k9' tk9' fv9 vh9 vs9 vc9 T9 h9 tk9 F9 N9 hAp9 hSR9 hh9 hss9 hc9 hf9; dsimp only [List.map, List.cons_append, List.nil_append] at hAp9 N9); (try dsimp only); (try k_sweep); (try k_fold))
  k_with "call ref" => (k_here; (with_reducible show wpAny _ _ (call (Value.ref 202) _) _ _ _); k_dflt (refine' Ctr.usePen (draw_ctr ?P1 ?P2 ?P3 ?q1 ?q2 ?q3 ?hA ?hz ?hna ?hh ?hs ?hc ?hf ?hl) ?k1 ?k2 ?k3 ?k4 ?k5 ?k6 ?k7 ?k8 ?CR9 ?hS9 ?hc9 ?_; (case k1 => k_asm); (case k2 => k_asm); (case k3 => k_asm); (case k4 => k_asm); (case k5 => k_asm); (case k6 => first | exact rfl | assumption); (case P1 => k_upd); (case P2 => k_upd); (case P3 => k_upd); (case q1 => k_ne); (case q2 => k_ne); (case q3 => k_ne); (case hA => k_upd); (case hz => assumption); (case hna => keq_hits); (case hh => keq_hits); (case hs => keq_hits); (case hc => kat_tups); (case hf => kct_strs); (case hl => k_extra "len9"); (case k7 => first | exact room9 hd1 rfl | ktr_room); (case k8 => first | exact room9 hd2 rfl | ktr_units); (case CR9 => k_upd); (case hS9 => ((try dsimp only [List.map]); k_upd)); (case hc9 => k_upd)); k_dflt (intro k9' tk9' fv9 vh9 vs9 vc9 T9 h9 tk9 F9 N9 hAp9 hSR9 hh9 hss9 hc9 hf9; dsimp only [List.map, List.cons_append, List.nil_append] at hAp9 N9); (try dsimp only); (try k_sweep); (try k_fold))
  k_with "call ref" => (k_here; (with_reducible show wpAny _ _ (call (Value.ref 202) _) _ _ _); k_dflt (refine' Ctr.usePen (drawM0_ctr ?P1 ?P2 ?P3 ?q1 ?q2 ?q3 ?hA ?hh ?hna) ?k1 ?k2 ?k3 ?k4 ?k5 ?k6 ?k7 ?k8 ?CR9 ?hS9 ?hc9 ?_; (case k1 => k_asm); (case k2 => k_asm); (case k3 => k_asm); (case k4 => k_asm); (case k5 => k_asm); (case k6 => first | exact rfl | assumption); (case P1 => k_upd); (case P2 => k_upd); (case P3 => k_upd); (case q1 => k_ne); (case q2 => k_ne); (case q3 => k_ne); (case hA => k_upd); (case hh => keq_rows); (case hna => keq_hits); (case k7 => first | exact room9 hd1 rfl | ktr_room); (case k8 => first | exact room9 hd2 rfl | ktr_units); (case CR9 => k_upd); (case hS9 => ((try dsimp only [List.map]); k_upd)); (case hc9 => k_upd)); k_dflt (intro k9' tk9' fv9 vh9 vs9 vc9 T9 h9 tk9 F9 N9 hAp9 hSR9 hh9 hss9 hc9 hf9; dsimp only [List.map, List.cons_append, List.nil_append] at hAp9 N9); (try dsimp only); (try k_sweep); (try k_fold))
  trivial
theorem mv_le (S : PP) (b : Bool) (d : Dat) : (if S.cl && b then [d] else []).length ≤ 1 := by split <;> simp
theorem put_found (S : PP) (seg : List Dat) (x y : Int) : (S.put seg x y).found.length ≤ S.found.length + 2 := by
  have := mv_le S (!false) (Dat.tuple [.str (Str.ofString "move"), pt S.hx S.hy])
  simp only [PP.put, PP.mv, List.length_append, List.length_cons, List.length_nil] at *
  omega
theorem step_found (S : PP) (rel : Bool) (c : Cmd) : (step S rel c).found.length ≤ S.found.length + 2 := by
  cases c with
  | M x y =>
    have := mv_le S (!true) (Dat.tuple [.str (Str.ofString "move"), pt S.hx S.hy])
    simp only [step, List.length_append, List.length_cons, List.length_nil] at *
    omega
  | Z =>
    simp only [step, List.length_append, List.length_cons, List.length_nil]
    split <;> simp <;> omega
  | A rx ry tn lg sw x y =>
    simp only [step]
    split
    · simp
    · split
      · exact put_found _ _ _ _
      · exact put_found _ _ _ _
  | L x y => exact put_found S [.str (Str.ofString "line"), pt (S.rx rel x) (S.ry rel y)] (S.rx rel x) (S.ry rel y)
  | H x => exact put_found S [.str (Str.ofString "line"), pt (S.rx rel x) S.hy] (S.rx rel x) S.hy
  | V y => exact put_found S [.str (Str.ofString "line"), pt S.hx (S.ry rel y)] S.hx (S.ry rel y)
  | C a b c d x y => exact put_found S [.str (Str.ofString "cubic"), pt (S.rx rel a) (S.ry rel b), pt (S.rx rel c) (S.ry rel d), pt (S.rx rel x) (S.ry rel y)] (S.rx rel x) (S.ry rel y)
  | S a b x y => exact put_found S [.str (Str.ofString "cubic"), pt (S.mx (Str.ofString "cubic")) (S.my (Str.ofString "cubic")), pt (S.rx rel a) (S.ry rel b), pt (S.rx rel x) (S.ry rel y)] (S.rx rel x) (S.ry rel y)
  | Q a b x y => exact put_found S [.str (Str.ofString "quad"), pt (S.rx rel a) (S.ry rel b), pt (S.rx rel x) (S.ry rel y)] (S.rx rel x) (S.ry rel y)
  | T x y => exact put_found S [.str (Str.ofString "quad"), pt (S.mx (Str.ofString "quad")) (S.my (Str.ofString "quad")), pt (S.rx rel x) (S.ry rel y)] (S.rx rel x) (S.ry rel y)
theorem seg_all {P : List Itm → (Str → Option Value) → Led → Prop} {I : PP → (Str → Option Value) → Led → Prop} {news0 : Led} {Sf : PP} {m0 : Str → Option Value} {L0 : Led} {rel0 : Bool} {x0 y0 : Int} {v0 : Value} {cs : List (Bool × Cmd)} {vs : List Value}
    (hv0 : TIn news0 v0 ((Cmd.M x0 y0).dat rel0)) (hvs : TAll news0 vs (cs.map fun p => p.2.dat p.1)) (hl : cs.length ≤ 300)
    (hf : cs.foldl (fun S p => step S p.1 p.2) (step S0 rel0 (.M x0 y0)) = Sf)
    (h0 : ∀ m L, I Sf m L → P [] m L)
    (h1 : ∀ (rel : Bool) (c : Cmd) (v : Value) (r : List Value) (S : PP) (m : Str → Option Value) (L : Led), TIn news0 v (Cmd.dat rel c) → S.found.length ≤ 800 → I S m L → (∀ m' L', I (step S rel c) m' L' → P (r.map Itm.val) m' L') → P (Itm.val v :: r.map Itm.val) m L)
    (hM : (∀ m' L', I (step S0 rel0 (.M x0 y0)) m' L' → P (vs.map Itm.val) m' L') → P (Itm.val v0 :: vs.map Itm.val) m0 L0) : P ((v0 :: vs).map Itm.val) m0 L0 := by
  have key : ∀ (cs : List (Bool × Cmd)) (vs : List Value) (S : PP) (m : Str → Option Value) (L : Led), TAll news0 vs (cs.map fun p => p.2.dat p.1) → S.found.length + 2 * cs.length ≤ 800 → cs.foldl (fun S p => step S p.1 p.2) S = Sf → I S m L → P (vs.map Itm.val) m L := by
    intro cs
    induction cs with
    | nil =>
      intro vs S m L ht _ hf hI
      obtain rfl := TAll.nil_inv ht
      have e : S = Sf := hf
      subst e
      exact h0 m L hI
    | cons p cs ih =>
      intro vs S m L ht hl hf hI
      obtain ⟨v, us, rfl, hv, hr⟩ := TAll.cons_inv ht
      have hsf := step_found S p.1 p.2
      have e : (p :: cs).length = cs.length + 1 := rfl
      refine h1 p.1 p.2 v us S m L hv (by omega) hI fun m' L' hI' => ih us (step S p.1 p.2) m' L' hr (by omega) hf hI'
  refine hM fun m' L' hI => key cs vs (step S0 rel0 (.M x0 y0)) m' L' hvs ?_ hf hI
  have := step_found S0 rel0 (.M x0 y0)
  have e : S0.found.length = 0 := rfl
  omega
noncomputable def SegInv (pn pd fl I : Addr) (h1 h2 h3 h4 h5 h6 : Int) (t1 t2 t3 t4 t5 t6 : Tok) (news0 : Led) (S : PP) (m : Str → Option Value) (L : Led) : Prop :=
  ∃ (vh vs vc : Value) (tk : Tok) (k : Nat) (fv : List Value) (T : Led), L = (pn, instObj 184 pd) :: (pd, penD h1 h2 h3 h4 h5 h6 t1 t2 t3 t4 t5 t6 vh vs vc (.str S.kd tk) (.bool S.cl) (.ref fl)) :: (fl, listOf fv.toArray k) :: T ∧ m (Str.ofString "pen") = some (.ref pn) ∧ Apart T [pn, pd, fl, I] ∧ Sub news0 T ∧ TIn T vh (pt S.hx S.hy) ∧ TIn T vs (pt S.sx S.sy) ∧ CNz T S.kd vc S.cx S.cy ∧ TAll T fv S.found
theorem seg_allN {P : List Itm → (Str → Option Value) → Led → Prop} {h₀ h : Heap} {L : Addr} {pn pd fl D1 D2 : Addr} (I : Addr) {h1 h2 h3 h4 h5 h6 : Int} {t1 t2 t3 t4 t5 t6 : Tok} {va vb vd vk vl vf : Value} {o1 o2 o3 : Obj} {news : Led} {Sf : PP} {m0 : Str → Option Value} {L0 : Led} {rel0 : Bool} {x0 y0 : Int} {v0 : Value} {cs : List (Bool × Cmd)} {vs : List Value}
    (nN : News h₀ L h ((fl, o1) :: (D1, o2) :: (D2, o3) :: (pn, instObj 184 pd) :: (pd, penD h1 h2 h3 h4 h5 h6 t1 t2 t3 t4 t5 t6 va vb vd vk vl vf) :: news))
    (hv0 : TIn news v0 ((Cmd.M x0 y0).dat rel0)) (hvs : TAll news vs (cs.map fun p => p.2.dat p.1)) (hl : cs.length ≤ 300)
    (hf : cs.foldl (fun S p => step S p.1 p.2) (step S0 rel0 (.M x0 y0)) = Sf)
    (k0 : ∀ m L, SegInv pn pd fl I h1 h2 h3 h4 h5 h6 t1 t2 t3 t4 t5 t6 news Sf m L → P [] m L)
    (k1 : ∀ (rel : Bool) (c : Cmd) (v : Value) (r : List Value) (S : PP) (m : Str → Option Value) (L : Led), TIn news v (Cmd.dat rel c) → S.found.length ≤ 800 → SegInv pn pd fl I h1 h2 h3 h4 h5 h6 t1 t2 t3 t4 t5 t6 news S m L → (∀ m' L', SegInv pn pd fl I h1 h2 h3 h4 h5 h6 t1 t2 t3 t4 t5 t6 news (step S rel c) m' L' → P (r.map Itm.val) m' L') → P (Itm.val v :: r.map Itm.val) m L)
    (kM : (∀ m' L', SegInv pn pd fl I h1 h2 h3 h4 h5 h6 t1 t2 t3 t4 t5 t6 news (step S0 rel0 (.M x0 y0)) m' L' → P (vs.map Itm.val) m' L') → P (Itm.val v0 :: vs.map Itm.val) m0 L0) : P ((v0 :: vs).map Itm.val) m0 L0 := seg_all hv0 hvs hl hf k0 k1 kM
theorem closeS_ctr {w : World} {mean : ExcName → Option Value} {mg mb : Str → Option Value} {cur r1 r2 R : Led} {pn pd fl : Addr} {h1 h2 h3 h4 h5 h6 : Int} {t1 t2 t3 t4 t5 t6 : Tok} {vh vs vc : Value} {k : Nat} {S : PP} {tk : Tok} {fv : List Value}
    (P1 : Pick (pn, instObj 184 pd) cur r1) (P2 : Pick (pd, penD h1 h2 h3 h4 h5 h6 t1 t2 t3 t4 t5 t6 vh vs vc (.str S.kd tk) (.bool S.cl) (.ref fl)) r1 r2) (P3 : Pick (fl, listOf fv.toArray k) r2 R)
    (q1 : @Ne Nat pn pd) (q2 : @Ne Nat pn fl) (q3 : @Ne Nat pd fl) (hA : Apart R [pn, pd, fl])
    (hh : TIn R vh (pt S.hx S.hy)) (hs : TIn R vs (pt S.sx S.sy)) (hf : TAll R fv S.found) (hl : S.found.length ≤ 800) :
    Ctr w mean mg mb 153 4 60 [.ref pn] cur (fun r news' => r = .none ∧ PenPost pn pd fl h1 h2 h3 h4 h5 h6 t1 t2 t3 t4 t5 t6 R (step S false .Z) news') := by
  obtain ⟨hx, hy, sx, sy, cx, cy, kd, cl, ds⟩ := S
  exact close_ctr P1 P2 P3 q1 q2 q3 hA hh hs hf hl
theorem wdJ17N8cx23 : True := by
  k_with "call ref" => (k_here; (with_reducible show wpAny _ _ (call (Value.ref 153) _) _ _ _); k_dflt (refine' Ctr.usePen (closeS_ctr ?P1 ?P2 ?P3 ?q1 ?q2 ?q3 ?hA ?hh ?hs ?hf ?hl) ?k1 ?k2 ?k3 ?k4 ?k5 ?k6 ?k7 ?k8 ?CR9 ?hS9 ?hc9 ?_; (case k1 => k_asm); (case k2 => k_asm); (case k3 => k_asm); (case k4 => k_asm); (case k5 => k_asm); (case k6 => first | exact rfl | assumption); (case P1 => k_upd); (case P2 => k_upd); (case P3 => k_upd); (case q1 => k_ne); (case q2 => k_ne); (case q3 => k_ne); (case hA => k_upd); (case hh => keq_hits); (case hs => keq_hits); (case hf => kct_strs); (case hl => k_extra "len9"); (case k7 => first | exact room9 hd1 rfl | ktr_room); (case k8 => first | exact room9 hd2 rfl | ktr_units); (case CR9 => k_upd); (case hS9 => ((try dsimp only [List.map]); k_upd)); (case hc9 => k_upd)); k_dflt (intro k9' tk9' fv9 vh9 vs9 vc9 T9 h9 tk9 F9 N9 hAp9 hSR9 hh9 hss9 hc9 hf9; dsimp only [List.map, List.cons_append, List.nil_append] at hAp9 N9); (try dsimp only); (try k_sweep); (try k_fold))
  trivial
theorem wdJ18N8dx24 : True := by
  k_with "exec For Tuple Name cons nil" => (k_here; (rename Fr _ _ _ _ => lF'); (with_unfolding_all refine For_turns lF' ?_); k_whole)
  k_with "pyIter ref" => ((with_reducible show wpAny _ _ (pyIter (Value.ref _)) (fun it s₂ => TurnsAt _ _ _ _ _ _ _ _ _ it s₂) _ _); refine stopAt ?_)
  k_with "UnrPostW" => (dsimp only [UnrPostW])
  k_with "UnrEndW" => (refine stopAt ?_)
  k_with "call builtin:str.upper" => (k_here; (with_reducible show wpAny _ _ (call (Value.builtin "str.upper") [Value.str (Cmd.letter _ _) _]) _ _ _); k_dflt (refine KXw.upper (letter_up _ _) (letter_fits _ _) ?_); intro _ _)
  k_with "call builtin:str.islower" => (k_here; (with_reducible show wpAny _ _ (call (Value.builtin "str.islower") [Value.str (Cmd.letter _ _) _]) _ _ _); k_dflt (refine KXw.islower (letter_low _ _) ?_))
  k_with "compareOp In str str" => ((with_reducible show wpAny _ _ (compareOp CmpOp.In (Value.str (Cmd.letter _ _) _) (Value.str _ _)) _ _ _); k_dflt (refine my_in_str ((letter_Z _ _).trans (by assumption)) ?_))
  trivial
theorem step_Z (S : PP) (rel : Bool) : step S rel .Z = step S false .Z := rfl
theorem dat_inv {T : Led} {v : Value} {rel : Bool} {c : Cmd} (h : TIn T v (Cmd.dat rel c)) : ∃ a t na n, v = .ref a ∧ (a, tupO [.str (c.letter rel) t, .ref na] n) ∈ T ∧ TIn T (.ref na) (.tuple c.nums) := by
  cases h with
  | tuple hm r =>
    obtain ⟨v0, us, rfl, g0, r⟩ := TAll.cons_inv r
    obtain ⟨v1, us, rfl, g1, r⟩ := TAll.cons_inv r
    obtain rfl := TAll.nil_inv r
    obtain ⟨t, rfl⟩ := g0.str_inv
    obtain ⟨na, rfl⟩ := g1.ref
    exact ⟨_, _, _, _, rfl, hm, g1⟩
theorem Apart.neS {T news : Led} {as : List Addr} {d : Addr} (hA : Apart T as) (hS : Sub news T) (hd : d ∈ as) : ∀ p ∈ news, p.1 ≠ d := fun p hp => hA p (hS p hp) d hd
theorem segs_ctr {w : World} {mean : ExcName → Option Value} {mg mb : Str → Option Value} {cl : Addr} {v0 : Value} {vs : List Value} {n : Nat} {news : Led} {rel0 : Bool} {x0 y0 : Int} {cs : List (Bool × Cmd)} {Sf : PP} (hcl : (cl, listOf (v0 :: vs).toArray n) ∈ news)
    (hv0 : TIn news v0 ((Cmd.M x0 y0).dat rel0)) (hvs : TAll news vs (cs.map fun p => p.2.dat p.1)) (hl : cs.length ≤ 300)
    (hf : cs.foldl (fun S p => step S p.1 p.2) (step S0 rel0 (.M x0 y0)) = Sf) :
    Ctr w mean mg mb 209 25 500 [.ref cl] news (fun r news' => Sub news news' ∧ ∃ fl k fv, r = .ref fl ∧ (fl, listOf fv.toArray k) ∈ news' ∧ TAll news' fv Sf.found ∧ ∀ p ∈ news, p.1 ≠ fl) := by
  obtain ⟨a0, t0, na0, n0, rfl, g0, g1⟩ := dat_inv hv0
  (have hfill : True := fillT (K := Mine.hd.heap_1) (l := PySem.Challenge.rw_nu0013_01) (by k_fill; exact trivial); clear hfill; k_dflt (refine' Ctr.body ?k6 ?k7 ?k9 ?kB ?c2 ?c3 ?c4 ?c5 ?_; (case k6 => k_is); (case k7 => k_is); (case k9 => exact fun s X => BindsTo.of_eq rfl); (case kB => exact locs rfl); (case c2 => exact rfl); (case c3 => exact rfl); (case c4 => exact rfl); (case c5 => decide)); intro dp un gd A₀ base g outer L hp gens drawn toks os QQ B X T F N hd1 hd2 hret hnx; (try dsimp only); (try k_fold))
  repeat' (first | (k_unfold; (try dsimp only)) | (k_end; (fail_if_success (with_reducible show QQ _ _)); wrow_close) | walk1 | (dsimp only; walk1) | (leave1; walk_say "STEP leave1"; try dsimp only) | fail "no step")
  unfold Stop
  (rename (∀ p ∈ news, p.1 < _) => lz1)
  (rename (@LT.lt Nat _ _ _) => lz0)
  have lz2 := allLt_of lz1
  have lz3 := allLt_of (fun p hp => Nat.lt_trans (lz1 p hp) lz0)
  (rename Fr _ _ _ _ => lF)
  (rename News _ _ _ _ => lN)
  k_dflt (refine iter_listTurns (vs := .ref a0 :: vs) rfl lF lN (by keq_rows) rfl rfl ?_)
  intro I lI
  k_lt lI
  refine' seg_allN (P := ItemsRest _ _ _ _ _ _ _ _ _ _ _ _) I lN hv0 hvs hl hf ?h0 ?h1 ?hM
  case hM =>
    intro IH
    refine ItemsRest.val ?_
    intro h5 tk5 F5
    refine AllObj.cons (fun o5 hc5 => ?_)
    refine AllObj.nil (fun N5 => ?_)
    dsimp only [List.cons_append, List.nil_append] at N5
    dsimp only at hc5
    have ho5 : o5.cls ≠ .type "tuple" := by rw [hc5]; decide
    have hz : (Cmd.M x0 y0).isZ = false := rfl
    skip
    repeat' (first | (k_unfold; (try dsimp only)) | (k_end; (fail_if_success (with_reducible show QQ _ _)); wrow_close) | walk1 | (dsimp only; walk1) | (leave1; walk_say "STEP leave1"; try dsimp only) | fail "no step")
    unfold Stop
    k_dflt (refine' my_unrEndW ?F ?N ?P ?o ?_; (case F => k_asm); (case N => k_asm); (case P => k_upd); (case o => k_all))
    refine ⟨⟨by keq_rows, trivial⟩, ?_⟩
    refine IH _ _ ?_
    refine ⟨_, _, _, _, _, _, _, rfl, ?_⟩
    refine ⟨rfl, by k_upd, by kp_flats, by keq_hits, by keq_hits, by kat_tups, by kct_strs⟩
  case h1 =>
    intro rel c v r S m L hv hl hI IH
    obtain ⟨vh, vs, vc, tk, k, fv, T, rfl, hm, hA, hS, hh, hs, hc, hf⟩ := hI
    obtain ⟨a0, t0, na0, n0, rfl, g0, g1⟩ := dat_inv (hv.mono hS)
    refine ItemsRest.val ?_
    intro h5 tk5 F5
    rw [map_keep hm] at F5
    refine AllObj.cons (fun o5 hc5 => ?_)
    refine AllObj.nil (fun N5 => ?_)
    dsimp only [List.cons_append, List.nil_append] at N5
    dsimp only at hc5
    have ho5 : o5.cls ≠ .type "tuple" := by rw [hc5]; decide
    skip
    cases hz : c.isZ
    · repeat' (first | (k_unfold; (try dsimp only)) | (k_end; (fail_if_success (with_reducible show QQ _ _)); wrow_close) | walk1 | (dsimp only; walk1) | (leave1; walk_say "STEP leave1"; try dsimp only) | fail "no step")
      unfold Stop
      k_dflt (refine' my_unrEndW ?F ?N ?P ?o ?_; (case F => k_asm); (case N => k_asm); (case P => k_upd); (case o => k_all))
      refine ⟨⟨by keq_rows, trivial⟩, ?_⟩
      refine IH _ _ ?_
      refine ⟨_, _, _, _, _, _, _, rfl, ?_⟩
      refine ⟨rfl, by k_upd, by kp_flats, by keq_hits, by keq_hits, by kat_tups, by kct_strs⟩
    · repeat' (first | (k_unfold; (try dsimp only)) | (k_end; (fail_if_success (with_reducible show QQ _ _)); wrow_close) | walk1 | (dsimp only; walk1) | (leave1; walk_say "STEP leave1"; try dsimp only) | fail "no step")
      unfold Stop
      obtain rfl : c = .Z := by cases c <;> first | rfl | cases hz
      rw [step_Z S rel] at IH
      k_dflt (refine' my_unrEndW ?F ?N ?P ?o ?_; (case F => k_asm); (case N => k_asm); (case P => k_upd); (case o => k_all))
      refine ⟨⟨by keq_rows, trivial⟩, ?_⟩
      refine IH _ _ ?_
      refine ⟨_, _, _, _, _, _, _, rfl, ?_⟩
      refine ⟨rfl, by k_upd, by kp_flats, by keq_hits, by keq_hits, by kat_tups, by kct_strs⟩
  case h0 =>
    intro m L hI
    obtain ⟨vh, vs, vc, tk, k, fv, T, rfl, hm, hA, hS, hh, hs, hc, hf⟩ := hI
    refine ItemsRest.zero ?_
    intro h5 tk5 F5 N5
    rw [map_keep hm] at F5
    skip
    repeat' (first | (k_unfold; (try dsimp only)) | (k_end; (fail_if_success (with_reducible show QQ _ _)); wrow_close) | walk1 | (dsimp only; walk1) | (leave1; walk_say "STEP leave1"; try dsimp only) | fail "no step")
    exact hret _ _ _ _ _ _ (by k_asm) (by k_asm) ⟨by kp_flats, _, _, _, rfl, by keq_rows, by kct_strs, Apart.neS hA hS (by keq_rows)⟩
theorem rst19 : True := by
  k_with_none
  trivial
theorem wdJ20PNx25 : True := by
  k_with "rows9" => first | with_reducible assumption | exact List.mem_cons_self | (refine List.mem_cons_of_mem _ ?_; keq_rows) | (refine Sub.use (by with_reducible assumption) ?_; keq_rows) | fail "keq_rows"
  k_with "mono9" => first | with_reducible assumption | (refine' TIn.mono ?ms ?mh; (case ms => exact (fun _ h => List.mem_cons_of_mem _ h)); (case mh => kat_tups)) | (refine' TIn.mono ?ms ?mh; (case ms => with_reducible assumption); (case mh => kat_tups)) | (refine' CIn.mono ?ms ?mh; (case ms => exact (fun _ h => List.mem_cons_of_mem _ h)); (case mh => kat_tups)) | (refine' CIn.mono ?ms ?mh; (case ms => with_reducible assumption); (case mh => kat_tups)) | (refine' CNz.mono ?ms ?mh; (case ms => exact (fun _ h => List.mem_cons_of_mem _ h)); (case mh => kat_tups)) | (refine' CNz.mono ?ms ?mh; (case ms => with_reducible assumption); (case mh => kat_tups)) | fail "kat_tups"
  k_with "amono9" => first | with_reducible assumption | (refine' TAll.mono ?ms ?mh; (case ms => exact (fun _ h => List.mem_cons_of_mem _ h)); (case mh => kbo_bools)) | (refine' TAll.mono ?ms ?mh; (case ms => with_reducible assumption); (case mh => kbo_bools)) | fail "kbo_bools"
  k_with "tin9" => first | with_reducible assumption | exact TIn.none | exact TIn.int _ _ | exact TIn.str _ _ | exact TIn.bool _ | (refine TIn.mono ?_ (by with_reducible assumption); kp_flats) | (refine TIn.intE ?_; first | omega | (simp; done)) | exact TIn.tuple (by keq_rows) (by kct_strs) | kat_tups | fail "keq_hits"
  k_with "tall9" => first | with_reducible assumption | exact TAll.nil | (refine TAll.mono ?_ (by with_reducible assumption); kp_flats) | exact TAll.cons (by keq_hits) (by kct_strs) | exact TAll.append (by kct_strs) (by kct_strs) | kbo_bools | fail "kct_strs"
  k_with "sub9" => first | with_reducible exact Sub.refl | with_reducible exact Sub.nil | with_reducible assumption | (with_reducible refine Sub.mk ?sm ?sr; (case sm => keq_rows); (case sr => kp_flats)) | (intro p9 h9; (repeat (first | with_reducible assumption | (with_reducible refine List.mem_cons_of_mem _ ?_) | refine Sub.use (by with_reducible assumption) ?_)); done) | fail "kp_flats"
  k_with "lt9" => skip
  k_with "size9" => exact size9 rfl
  k_with "ne9" => ((try dsimp only); first | with_reducible assumption | exact Ne.symm (by with_reducible assumption) | exact ltNe9 (by with_reducible assumption) (by keq_rows) | exact gtNe9 (by with_reducible assumption) (by keq_rows) | exact Nat.ne_of_lt (by with_reducible assumption) | exact Nat.ne_of_gt (by with_reducible assumption) | exact ltNe1 (by with_reducible assumption) (by keq_rows) | exact gtNe1 (by with_reducible assumption) (by keq_rows) | exact neOf9 (by with_reducible assumption) (by keq_rows) | exact Ne.symm (neOf9 (by with_reducible assumption) (by keq_rows)) | exact ltNe8 (by with_reducible assumption) (by keq_rows) (by with_reducible assumption) | exact gtNe8 (by with_reducible assumption) (by keq_rows) (by with_reducible assumption) | fail "ne9")
  k_with "all9" => first | with_reducible assumption | exact List.forall_mem_nil _ | (refine' List.forall_mem_cons.mpr ⟨?a, ?b⟩; (case a => k_ne); (case b => k_all)) | exact Apart.ne (by with_reducible assumption) (by keq_rows) | exact allLt_ne (by with_reducible assumption) | exact rawLt_ne (by with_reducible assumption) (by kp_flats) | exact rawNe9 (by with_reducible assumption) (by kp_flats) | exact rawLt_ne1 (by with_reducible assumption) (by kp_flats) | exact rawLt_ne8 (by with_reducible assumption) (by with_reducible assumption) (by kp_flats) | fail "k_all"
  k_with "upd9" => first | ((with_reducible show Pick _ _ _); first | exact Pick.here | (refine' Pick.there ?pk; (case pk => k_upd)) | fail "pick") | ((with_reducible show Core _ _ _ _); first | (refine' Core.tup ?ck; (case ck => k_upd)) | (refine' Core.keep ?ck; (case ck => k_upd)) | exact Core.tail | fail "core") | ((with_reducible show Apart _ _); first | with_reducible assumption | exact Apart.nil | (refine Apart.mk ?sa ?sb; (case sa => k_all); (case sb => k_upd)) | fail "apart") | ((with_reducible show SepL _ _); (try dsimp only [List.cons_append, List.nil_append]); first | exact True.intro | (refine And.intro ?sa ?sb; (case sa => k_all); (case sb => k_upd)) | fail "sep") | ((with_reducible show NoTup _); (try dsimp only [List.cons_append, List.nil_append]); first | exact True.intro | (refine And.intro ?sa ?sb; (case sa => first | exact cls_list | exact cls_dict | exact cls_inst | exact cls_rng | with_reducible assumption | exact NoT.of (by with_reducible assumption) | exact NoT.cell (by with_reducible assumption) | exact cls_pen (by with_reducible assumption) | exact cls_src (by with_reducible assumption) | exact LawIn.cls (by with_reducible assumption) | fail "cls"); (case sb => k_upd)) | fail "notup")
  k_with "tallD9" => first | assumption | (refine TAll.mono ?_ (by assumption); kp_flats) | fail "tallD9"
  k_with "len9" => first | with_reducible assumption | exact Nat.le_trans (by with_reducible assumption) (Nat.le_of_ble_eq_true rfl) | exact Nat.le_of_ble_eq_true rfl | omega | (simp only [List.length_append, List.length_cons, List.length_nil]; omega) | fail "len9"
  k_with "rnz9" => first | exact RNz.nul | exact RNz.of (by keq_hits) | with_reducible assumption | (refine RNz.mono ?_ (by with_reducible assumption); kp_flats) | fail "rnz9"
  k_with "law9" => first | with_reducible assumption | (refine LawIn.mono ?_ (by with_reducible assumption); kp_flats) | fail "law9"
  k_with "WhlIf" => (refine WhlIf.no (decide_eq_false (by rw [Int.fmod_one]; decide)) ?_)
  k_with "call builtin:list.append" => (k_here; (with_reducible show wpAny _ _ (call (Value.builtin _) [Value.ref _, _]) _ _ _); k_dflt (refine' my_append ?k1 ?k2 ?k3 ?z ?_; (case k1 => k_asm); (case k2 => k_asm); (case k3 => k_upd); (case z => first | exact Nat.le_of_ble_eq_true rfl | omega | (simp only [List.length_append, List.length_cons, List.length_nil]; omega)); k_whole); intro h' F' N'; (try dsimp only [List.nil_append, List.cons_append] at N'); (try k_sweep))
  k_with "compareOp In str str" => k_dflt (first | refine my_in_str (b := true) (by decide +kernel) ?_ | refine my_in_str (b := false) (by decide +kernel) ?_)
  k_with "UnrEnd" => (k_here; k_dflt (refine' my_unrEnd ?F ?N ?P ?o ?_; (case F => k_asm); (case N => k_asm); (case P => k_upd); (case o => k_all)))
  k_with "compareOp Eq ref ref" => (k_here; (with_reducible show wpAny _ _ (compareOp CmpOp.Eq (Value.ref _) (Value.ref 47)) _ _ _); k_dflt (refine' my_eq_zero ?F ?X ?l ?N ?a ?u ?_; (case F => k_asm); (case X => k_asm); (case l => k_is); (case N => k_asm); (case a => keq_hits); (case u => ktr_units)))
  k_with "compareOp Eq ref ref" => (k_here; (with_reducible show wpAny _ _ (compareOp CmpOp.Eq (Value.ref _) (Value.ref _)) _ _ _); k_dflt (refine' my_eq_pt ?N ?a ?b ?u ?_; (case N => k_asm); (case a => keq_hits); (case b => keq_hits); (case u => ktr_units)))
  k_with "subscriptTail Name Constant ref int" => (k_here; (with_reducible show wpAny _ _ (subscriptTail _ _ (Value.ref _) (Value.int _ _)) _ _ _); k_dflt (refine' item_litK ?t ?a ?b ?c ?_ ?d; (case t => exact News.isList (by k_asm) (by keq_rows)); (case a => decide); (case b => decide); (case c => exact rfl); (case d => with_unfolding_all rfl); k_whole))
  k_with "subscriptTail Name Constant ref int" => (k_here; (with_reducible show wpAny _ _ (subscriptTail _ _ (Value.ref _) (Value.int _ _)) _ _ _); k_dflt (refine item_tupleT (News.isTup (by k_asm) (by keq_rows)) (by decide) (by decide) (by exact rfl) (by exact rfl) ?_; k_whole))
  k_with "subscriptTail Name Name ref int" => (k_here; (with_reducible show wpAny _ _ (subscriptTail _ _ (Value.ref _) (Value.int _ _)) _ _ _); k_dflt (refine item_tupleT (News.isTup (by k_asm) (by keq_rows)) (by decide) (by decide) (by exact rfl) (by exact rfl) ?_; k_whole))
  k_with "subscriptTail Name BinOp ref int" => (k_here; (with_reducible show wpAny _ _ (subscriptTail _ _ (Value.ref _) (Value.int _ _)) _ _ _); k_dflt (refine item_tupleT (News.isTup (by k_asm) (by keq_rows)) (by decide) (by decide) (by exact rfl) (by exact rfl) ?_; k_whole))
  trivial
theorem wdJ21N1x26 : True := by
  k_with "call ref" => (k_here; (with_reducible show wpAny _ _ (call (Value.ref 54) _) _ _ _); k_dflt (refine' Ctr.useI (gcd_ctr ) ?k1 ?k2 ?k3 ?k4 ?k5 ?k6 ?k7 ?k8 ?CR9 ?hS9 ?hc9 ?_; (case k1 => k_asm); (case k2 => k_asm); (case k3 => k_asm); (case k4 => k_asm); (case k5 => k_asm); (case k6 => first | exact rfl | assumption);  (case k7 => first | exact room9 hd1 rfl | ktr_room); (case k8 => first | exact room9 hd2 rfl | ktr_units); (case CR9 => k_upd); (case hS9 => ((try dsimp only [List.map]); k_upd)); (case hc9 => k_upd)); k_dflt (intro t9 T9 h9 tk9 F9 N9 hAp9 hSR9 ; dsimp only [List.map, List.cons_append, List.nil_append] at hAp9 N9); (try dsimp only); (try k_sweep); (try k_fold))
  k_with "call ref" => (k_here; (with_reducible show wpAny _ _ (call (Value.ref 244) _) _ _ _); k_dflt (refine' Ctr.useP (fine_ctr ?hv) ?k1 ?k2 ?k3 ?k4 ?k5 ?k6 ?k7 ?k8 ?CR9 ?hS9 ?hc9 ?_; (case k1 => k_asm); (case k2 => k_asm); (case k3 => k_asm); (case k4 => k_asm); (case k5 => k_asm); (case k6 => first | exact rfl | assumption); (case hv => keq_hits); (case k7 => first | exact room9 hd1 rfl | ktr_room); (case k8 => first | exact room9 hd2 rfl | ktr_units); (case CR9 => k_upd); (case hS9 => ((try dsimp only [List.map]); k_upd)); (case hc9 => k_upd)); k_dflt (intro a9 b9 c9 t9 u9 t9' u9' m9 m9' m9'' T9 h9 tk9 F9 N9 hAp9 hSR9 hm9 hm9' hm9'' hr9; dsimp only [List.map, List.cons_append, List.nil_append] at hAp9 N9); (try dsimp only); (try k_sweep); (try k_fold))
  k_with "call ref" => (k_here; (with_reducible show wpAny _ _ (call (Value.ref 237) _) _ _ _); k_dflt (refine' Ctr.useR (moved_ctr ?hv ?hv') ?k1 ?k2 ?k3 ?k4 ?k5 ?k6 ?k7 ?k8 ?CR9 ?hS9 ?hc9 ?_; (case k1 => k_asm); (case k2 => k_asm); (case k3 => k_asm); (case k4 => k_asm); (case k5 => k_asm); (case k6 => first | exact rfl | assumption); (case hv => keq_hits); (case hv' => keq_hits); (case k7 => first | exact room9 hd1 rfl | ktr_room); (case k8 => first | exact room9 hd2 rfl | ktr_units); (case CR9 => k_upd); (case hS9 => ((try dsimp only [List.map]); k_upd)); (case hc9 => k_upd)); k_dflt (intro a9 t9 u9 m9 T9 h9 tk9 F9 N9 hAp9 hSR9 hm9 hr9; dsimp only [List.map, List.cons_append, List.nil_append] at hAp9 N9); (try dsimp only); (try k_sweep); (try k_fold))
  trivial
noncomputable abbrev lawKvs (vh vst : Value) (kd : Str) (tk : Tok) (vc : Value) (cl : Bool) (du gr sm : Addr) (ww : Str) (tw : Tok) : List (Str × Value) :=
  [(Str.ofString "here", vh), (Str.ofString "start", vst), (Str.ofString "kind", .str kd tk), (Str.ofString "control", vc), (Str.ofString "closed", .bool cl), (Str.ofString "due", .ref du), (Str.ofString "great", .ref gr), (Str.ofString "small", .ref sm), (Str.ofString "word", .str ww tw)]
noncomputable abbrev IsPen (w : World) (o : Obj) (vh vst : Value) (kd : Str) (tk : Tok) (vc : Value) (cl : Bool) (du gr sm : Addr) (ww : Str) (tw : Tok) : Prop :=
  o.IsDictOf (PySem.strKind PySem.Challenge.rw_nu0013_01.prog w) (lawKvs vh vst kd tk vc cl du gr sm ww tw)
section
variable {w : World} {o : Obj} {vh vst v' : Value} {kd kd' : Str} {tk tk' : Tok} {vc : Value} {cl cl' : Bool} {du gr sm : Addr} {ww ww' : Str} {tw tw' : Tok}
theorem cls_pen (h : IsPen w o vh vst kd tk vc cl du gr sm ww tw) : NoT o := by
  obtain ⟨_, _, h1, _⟩ := h
  refine NoT.of fun e => ?_
  have h2 := h1.1
  rw [e] at h2
  exact absurd h2 (by decide)
theorem at_here : valueAt (lawKvs vh vst kd tk vc cl du gr sm ww tw) (Str.ofString "here") = some vh := by rfl
theorem at_start : valueAt (lawKvs vh vst kd tk vc cl du gr sm ww tw) (Str.ofString "start") = some vst := by rfl
theorem at_kind : valueAt (lawKvs vh vst kd tk vc cl du gr sm ww tw) (Str.ofString "kind") = some (.str kd tk) := by rfl
theorem at_control : valueAt (lawKvs vh vst kd tk vc cl du gr sm ww tw) (Str.ofString "control") = some vc := by rfl
theorem at_closed : valueAt (lawKvs vh vst kd tk vc cl du gr sm ww tw) (Str.ofString "closed") = some (.bool cl) := by rfl
theorem at_due : valueAt (lawKvs vh vst kd tk vc cl du gr sm ww tw) (Str.ofString "due") = some (.ref du) := by rfl
theorem at_great : valueAt (lawKvs vh vst kd tk vc cl du gr sm ww tw) (Str.ofString "great") = some (.ref gr) := by rfl
theorem at_small : valueAt (lawKvs vh vst kd tk vc cl du gr sm ww tw) (Str.ofString "small") = some (.ref sm) := by rfl
theorem at_word : valueAt (lawKvs vh vst kd tk vc cl du gr sm ww tw) (Str.ofString "word") = some (.str ww tw) := by rfl
theorem to_here : stored (lawKvs vh vst kd tk vc cl du gr sm ww tw) (Str.ofString "here") v' = lawKvs v' vst kd tk vc cl du gr sm ww tw := by rfl
theorem to_start : stored (lawKvs vh vst kd tk vc cl du gr sm ww tw) (Str.ofString "start") v' = lawKvs vh v' kd tk vc cl du gr sm ww tw := by rfl
theorem to_kind : stored (lawKvs vh vst kd tk vc cl du gr sm ww tw) (Str.ofString "kind") (.str kd' tk') = lawKvs vh vst kd' tk' vc cl du gr sm ww tw := by rfl
theorem to_control : stored (lawKvs vh vst kd tk vc cl du gr sm ww tw) (Str.ofString "control") v' = lawKvs vh vst kd tk v' cl du gr sm ww tw := by rfl
theorem to_closed : stored (lawKvs vh vst kd tk vc cl du gr sm ww tw) (Str.ofString "closed") (.bool cl') = lawKvs vh vst kd tk vc cl' du gr sm ww tw := by rfl
theorem to_word : stored (lawKvs vh vst kd tk vc cl du gr sm ww tw) (Str.ofString "word") (.str ww' tw') = lawKvs vh vst kd tk vc cl du gr sm ww' tw' := by rfl
theorem new_word : stored [(Str.ofString "here", vh), (Str.ofString "start", vst), (Str.ofString "kind", .str kd tk), (Str.ofString "control", vc), (Str.ofString "closed", .bool cl), (Str.ofString "due", .ref du), (Str.ofString "great", .ref gr), (Str.ofString "small", .ref sm)] (Str.ofString "word") (.str ww' tw') = lawKvs vh vst kd tk vc cl du gr sm ww' tw' := by rfl
end
theorem word_t {kn ww : Str} (h : (kn != Str.ofString "") = true) : (if kn = Str.ofString "" then ww else kn) = kn := if_neg (fun e => by rw [e] at h; exact absurd h (by decide))
theorem word_f {kn ww : Str} (h : (kn != Str.ofString "") = false) : (if kn = Str.ofString "" then ww else kn) = ww := if_pos (eq_of_beq (bne_f h))
theorem my_item {w : World} {A : Around} {E : Value → Shared → Prop} {s : Shared} {h₀ : Heap} {L d : Addr} {news : Led} {o : Obj} {kvs : List (Str × Value)} {k : Str} {t : Tok} {v : Value} {value slice : PySem.Expr} {Q : Value → Shared → Prop}
    (N : News h₀ L s.heap news) (hd : o.IsDictOf (PySem.strKind PySem.Challenge.rw_nu0013_01.prog w) kvs) (hp : (d, o) ∈ news) (hl : valueAt kvs k = some v) (h : Q v { s with toks := s.toks + 1 })
    (hs : subscripted slice false (.ref d) (.str k t) = operate [.ref d, .str k t] (getItem (.ref d) (.str k t)) := by with_unfolding_all rfl) (hg : ∀ r, letTemporaryGo value (.ref d) r = pure () := by intro _; with_unfolding_all rfl) :
    wpAny (model PySem.Challenge.rw_nu0013_01.prog w) A (subscriptTail value slice (.ref d) (.str k t)) Q E s := kda_item N hp hd (strKind_is _ _ _ _) hl h hs hg
theorem my_set {w : World} {A : Around} {E : Value → Shared → Prop} {s : Shared} {h₀ : Heap} {L d : Addr} {m : Str → Option Value} {news : Led} {g : Obj → Led} {o : Obj} {kvs kvs' : List (Str × Value)} {k : Str} {t : Tok} {v : Value} {Q : Unit → Shared → Prop}
    (hd : o.IsDictOf (PySem.strKind PySem.Challenge.rw_nu0013_01.prog w) kvs) (F : Fr h₀ L s.heap m) (N : News h₀ L s.heap news) (U : UpdF d o news g) (e : stored kvs k v = kvs') (hz : kvs.length ≤ 15)
    (h : ∀ h' o', Fr h₀ L h' m → News h₀ L h' (g o') → o'.IsDictOf (PySem.strKind PySem.Challenge.rw_nu0013_01.prog w) kvs' → Q () { s with heap := h', toks := s.toks + 1 }) :
    wpAny (model PySem.Challenge.rw_nu0013_01.prog w) A (setItem (.ref d) (.str k t) v) Q E s := by
  subst e
  exact kda_set F N U hd (strKind_is _ _ _ _) (by rw [sizeLine_eq]; omega) h
theorem wdJ22NLx27 : True := by
  k_with "subscriptTail Name Constant ref str" => (k_here; (with_reducible show wpAny _ _ (subscriptTail _ _ (Value.ref _) (Value.str _ _)) _ _ _); (first | ((with_reducible show wpAny _ _ (subscriptTail _ _ (Value.ref _) (Value.str (Str.ofString "here") _)) _ _ _); k_dflt (refine my_item (by k_asm) (by with_reducible assumption) (by keq_rows) at_here ?_)) | ((with_reducible show wpAny _ _ (subscriptTail _ _ (Value.ref _) (Value.str (Str.ofString "start") _)) _ _ _); k_dflt (refine my_item (by k_asm) (by with_reducible assumption) (by keq_rows) at_start ?_)) | ((with_reducible show wpAny _ _ (subscriptTail _ _ (Value.ref _) (Value.str (Str.ofString "kind") _)) _ _ _); k_dflt (refine my_item (by k_asm) (by with_reducible assumption) (by keq_rows) at_kind ?_)) | ((with_reducible show wpAny _ _ (subscriptTail _ _ (Value.ref _) (Value.str (Str.ofString "control") _)) _ _ _); k_dflt (refine my_item (by k_asm) (by with_reducible assumption) (by keq_rows) at_control ?_)) | ((with_reducible show wpAny _ _ (subscriptTail _ _ (Value.ref _) (Value.str (Str.ofString "closed") _)) _ _ _); k_dflt (refine my_item (by k_asm) (by with_reducible assumption) (by keq_rows) at_closed ?_)) | ((with_reducible show wpAny _ _ (subscriptTail _ _ (Value.ref _) (Value.str (Str.ofString "due") _)) _ _ _); k_dflt (refine my_item (by k_asm) (by with_reducible assumption) (by keq_rows) at_due ?_)) | ((with_reducible show wpAny _ _ (subscriptTail _ _ (Value.ref _) (Value.str (Str.ofString "great") _)) _ _ _); k_dflt (refine my_item (by k_asm) (by with_reducible assumption) (by keq_rows) at_great ?_)) | ((with_reducible show wpAny _ _ (subscriptTail _ _ (Value.ref _) (Value.str (Str.ofString "small") _)) _ _ _); k_dflt (refine my_item (by k_asm) (by with_reducible assumption) (by keq_rows) at_small ?_)) | ((with_reducible show wpAny _ _ (subscriptTail _ _ (Value.ref _) (Value.str (Str.ofString "word") _)) _ _ _); k_dflt (refine my_item (by k_asm) (by with_reducible assumption) (by keq_rows) at_word ?_)) | fail "key"); k_dflt k_whole; (try dsimp only))
  k_with "setItem ref str" => (k_here; (with_reducible show wpAny _ _ (setItem (Value.ref _) (Value.str _ _) _) _ _ _); (first | ((with_reducible show wpAny _ _ (setItem (Value.ref _) (Value.str (Str.ofString "here") _) _) _ _ _); k_dflt (refine my_set (by with_reducible assumption) (by k_asm) (by k_asm) (by k_updF) to_here (Nat.le_of_ble_eq_true rfl) ?_)) | ((with_reducible show wpAny _ _ (setItem (Value.ref _) (Value.str (Str.ofString "start") _) _) _ _ _); k_dflt (refine my_set (by with_reducible assumption) (by k_asm) (by k_asm) (by k_updF) to_start (Nat.le_of_ble_eq_true rfl) ?_)) | ((with_reducible show wpAny _ _ (setItem (Value.ref _) (Value.str (Str.ofString "kind") _) _) _ _ _); k_dflt (refine my_set (by with_reducible assumption) (by k_asm) (by k_asm) (by k_updF) to_kind (Nat.le_of_ble_eq_true rfl) ?_)) | ((with_reducible show wpAny _ _ (setItem (Value.ref _) (Value.str (Str.ofString "control") _) _) _ _ _); k_dflt (refine my_set (by with_reducible assumption) (by k_asm) (by k_asm) (by k_updF) to_control (Nat.le_of_ble_eq_true rfl) ?_)) | ((with_reducible show wpAny _ _ (setItem (Value.ref _) (Value.str (Str.ofString "closed") _) _) _ _ _); k_dflt (refine my_set (by with_reducible assumption) (by k_asm) (by k_asm) (by k_updF) to_closed (Nat.le_of_ble_eq_true rfl) ?_)) | ((with_reducible show wpAny _ _ (setItem (Value.ref _) (Value.str (Str.ofString "word") _) _) _ _ _); k_dflt (refine my_set (by with_reducible assumption) (by k_asm) (by k_asm) (by k_updF) to_word (Nat.le_of_ble_eq_true rfl) ?_)) | fail "key"); k_dflt k_whole; intro h' o' F' N' hd'; (try dsimp only at N'); (try dsimp only); (try k_sweep))
  trivial
noncomputable def IsSrc (o : Obj) : Prop := ∃ (x y : Int) (t u : Tok) (n : Nat), o = listOf [.int x t, .int y u].toArray n ∧ 0 ≤ y ∧ y < 2147483647
theorem cls_src {o : Obj} (h : IsSrc o) : NoT o := by
  obtain ⟨_, _, _, _, _, rfl, _, _⟩ := h
  exact cls_list
theorem IsSrc.elim {o : Obj} (h : IsSrc o) {C : Prop} (k : ∀ x y t u n, 0 ≤ y → y < 2147483647 → o = listOf [.int x t, .int y u].toArray n → C) : C := by
  obtain ⟨x, y, t, u, n, e, h1, h2⟩ := h
  exact k x y t u n h1 h2 e
noncomputable def TakePost (so : Addr) (top : Int) (R : Led) (r : Value) (news' : Led) : Prop := ∃ (d : Int) (td : Tok) (o9 : Obj), IsSrc o9 ∧ r = .int d td ∧ 0 ≤ d ∧ d < top ∧ Sub [(so, o9)] news' ∧ Sub R news'
theorem TakePost.mk {so : Addr} {top : Int} {R : Led} {d : Int} {td : Tok} {news' : Led} {x y : Int} {t u : Tok} {n : Nat} (h1 : 0 ≤ d) (h2 : d < top) (h3 : 0 ≤ y) (h4 : y < 2147483647) (hU : Sub [(so, listOf [.int x t, .int y u].toArray n)] news') (hs : Sub R news') : TakePost so top R (.int d td) news' := ⟨d, td, _, ⟨x, y, t, u, n, rfl, h3, h4⟩, rfl, h1, h2, hU, hs⟩
noncomputable def PointPost (so : Addr) (R : Led) (r : Value) (news' : Led) : Prop := ∃ (px py : Int) (o9 : Obj), IsSrc o9 ∧ TIn news' r (rawp px py) ∧ Sub [(so, o9)] news' ∧ Sub R news'
theorem PointPost.mk {so : Addr} {R : Led} {r : Value} {px py : Int} {news' : Led} {o9 : Obj} (hs : IsSrc o9) (hr : TIn news' r (rawp px py)) (hU : Sub [(so, o9)] news') (hs : Sub R news') : PointPost so R r news' := ⟨px, py, o9, ‹_›, hr, hU, hs⟩
theorem Ctr.useTake {w : World} {mean : ExcName → Option Value} {mg mb : Str → Option Value} {f : Addr} {dm um : Nat} {vs : List Value} {news R k T0 qq : Led} {so : Addr} {top : Int}
    (C : Ctr w mean mg mb f dm um vs news (fun r news' => TakePost so top R r news')) {dp un : Nat} {gd : Option (List Code)} {cn : Str} {cs : Scope} {a₀ : Addr} {ccd : Value} {cl₀ : List (Str × Addr)} {outer : List Env} {A₀ : Around} {base h₀ hp : Heap} {gens : Array GenState} {drawn : Drawn} {toks : Nat} {os : OsState} {L : Addr} {m : Str → Option Value} {Q E : Value → Shared → Prop}
    (B : Below A₀ base outer h₀) (F : Fr h₀ L hp m) (X : (hd.heap_1 w.params).In h₀) (N : News h₀ L hp news) (T : Top qv (looseW qv [Str.ofString "fraction"]) mean mg mb h₀) (hk : cs.kind = .function) (h1 : dp + dm < recursionLimit) (h2 : un + um < cLine)
    (CR : Core R k T0 qq) (hS : Apart T0 (so :: k.map (·.1))) (hc : NoTup k)
    (ret : ∀ (d : Int) (td : Tok) (o9 : Obj) (T9 : Led) (h' : Heap) (tk9 : Nat), Fr h₀ L h' m → News h₀ L h' ((so, o9) :: (k ++ T9)) → Apart T9 (so :: k.map (·.1)) → Sub qq T9 → IsSrc o9 → 0 ≤ d → d < top → Q (.int d td) ⟨h', gens, drawn, tk9, os⟩) :
    wpAny (model PySem.Challenge.rw_nu0013_01.prog w) (ktrTop dp un gd cn cs L a₀ ccd cl₀ outer) (call (.ref f) vs) Q E ⟨hp, gens, drawn, toks, os⟩ := by
  refine C.use (s := ⟨hp, gens, drawn, toks, os⟩) B F X N T hk h1 h2 fun r9 n9 h9 tk9 F9 N9 hp9 => ?_
  obtain ⟨d, td, o9, hs, er9, g1, g2, hU9, hs9⟩ := hp9
  obtain ⟨T9, hAp9, hST9, hSR9, N9'⟩ := tidy (U := [(so, o9)]) hU9 hs9 N9 CR (sepL_of hS) (show NoTup ((so, o9) :: k) from ⟨cls_src hs, hc⟩)
  subst er9
  exact ret d td o9 T9 h9 tk9 F9 N9' hAp9 hSR9 hs g1 g2
theorem Ctr.useSrc {w : World} {mean : ExcName → Option Value} {mg mb : Str → Option Value} {f : Addr} {dm um : Nat} {vs : List Value} {news R k T0 qq : Led} {so : Addr}
    (C : Ctr w mean mg mb f dm um vs news (fun r news' => PointPost so R r news')) {dp un : Nat} {gd : Option (List Code)} {cn : Str} {cs : Scope} {a₀ : Addr} {ccd : Value} {cl₀ : List (Str × Addr)} {outer : List Env} {A₀ : Around} {base h₀ hp : Heap} {gens : Array GenState} {drawn : Drawn} {toks : Nat} {os : OsState} {L : Addr} {m : Str → Option Value} {Q E : Value → Shared → Prop}
    (B : Below A₀ base outer h₀) (F : Fr h₀ L hp m) (X : (hd.heap_1 w.params).In h₀) (N : News h₀ L hp news) (T : Top qv (looseW qv [Str.ofString "fraction"]) mean mg mb h₀) (hk : cs.kind = .function) (h1 : dp + dm < recursionLimit) (h2 : un + um < cLine)
    (CR : Core R k T0 qq) (hS : Apart T0 (so :: k.map (·.1))) (hc : NoTup k)
    (ret : ∀ (a : Addr) (px py : Int) (tx ux : Tok) (mx : Nat) (o9 : Obj) (T9 : Led) (h' : Heap) (tk9 : Nat), Fr h₀ L h' m → News h₀ L h' ((so, o9) :: (k ++ T9)) → Apart T9 (so :: k.map (·.1)) → Sub qq T9 → IsSrc o9 → (a, tupO [.int px tx, .int py ux] mx) ∈ T9 → TIn T9 (.ref a) (rawp px py) → Q (.ref a) ⟨h', gens, drawn, tk9, os⟩) :
    wpAny (model PySem.Challenge.rw_nu0013_01.prog w) (ktrTop dp un gd cn cs L a₀ ccd cl₀ outer) (call (.ref f) vs) Q E ⟨hp, gens, drawn, toks, os⟩ := by
  refine C.use (s := ⟨hp, gens, drawn, toks, os⟩) B F X N T hk h1 h2 fun r9 n9 h9 tk9 F9 N9 hp9 => ?_
  obtain ⟨px, py, o9, hs, hr9, hU9, hs9⟩ := hp9
  obtain ⟨T9, hAp9, hST9, hSR9, N9'⟩ := tidy (U := [(so, o9)]) hU9 hs9 N9 CR (sepL_of hS) (show NoTup ((so, o9) :: k) from ⟨cls_src hs, hc⟩)
  have hr := hr9.monoT hST9
  obtain ⟨a, t, u, n, e, hm⟩ := hr.raw_inv
  subst e
  exact ret a px py t u n o9 T9 h9 tk9 F9 N9' hAp9 hSR9 hs hm hr
noncomputable def LputPost (w : World) (po du gr sm : Addr) (ve vst vc : Value) (kn : Str) (tn : Tok) (c : Bool) (ww : Str) (R : Led) (ds : List Dat) (news' : Led) : Prop := ∃ (o9 : Obj) (k9 : Nat) (fv9 : List Value) (tw9 : Tok), IsPen w o9 ve vst kn tn vc c du gr sm ww tw9 ∧ Sub [(po, o9), (du, listOf fv9.toArray k9)] news' ∧ Sub R news' ∧ TAll news' fv9 ds
theorem LputPost.mk {w : World} {po du gr sm : Addr} {ve vst vc : Value} {kn : Str} {tn : Tok} {c : Bool} {ww : Str} {R : Led} {ds : List Dat} {news' : Led} {o9 : Obj} {k9 : Nat} {fv9 : List Value} {tw9 : Tok} (hd : IsPen w o9 ve vst kn tn vc c du gr sm ww tw9) (hU : Sub [(po, o9), (du, listOf fv9.toArray k9)] news') (hs : Sub R news') (hf : TAll news' fv9 ds) : Value.none = .none ∧ LputPost w po du gr sm ve vst vc kn tn c ww R ds news' := ⟨rfl, _, _, _, _, hd, hU, hs, hf⟩
theorem Ctr.useLput {w : World} {mean : ExcName → Option Value} {mg mb : Str → Option Value} {f : Addr} {dm um : Nat} {vs : List Value} {news R k T0 qq : Led} {po du gr sm : Addr} {ve vst vc : Value} {kn : Str} {tn : Tok} {c : Bool} {ww : Str} {ds : List Dat}
    (C : Ctr w mean mg mb f dm um vs news (fun r news' => r = .none ∧ LputPost w po du gr sm ve vst vc kn tn c ww R ds news')) {dp un : Nat} {gd : Option (List Code)} {cn : Str} {cs : Scope} {a₀ : Addr} {ccd : Value} {cl₀ : List (Str × Addr)} {outer : List Env} {A₀ : Around} {base h₀ hp : Heap} {gens : Array GenState} {drawn : Drawn} {toks : Nat} {os : OsState} {L : Addr} {m : Str → Option Value} {Q E : Value → Shared → Prop}
    (B : Below A₀ base outer h₀) (F : Fr h₀ L hp m) (X : (hd.heap_1 w.params).In h₀) (N : News h₀ L hp news) (T : Top qv (looseW qv [Str.ofString "fraction"]) mean mg mb h₀) (hk : cs.kind = .function) (h1 : dp + dm < recursionLimit) (h2 : un + um < cLine)
    (CR : Core R k T0 qq) (hS : Apart T0 (po :: du :: k.map (·.1))) (hc : NoTup k)
    (ret : ∀ (o9 : Obj) (k9 : Nat) (fv9 : List Value) (tw9 : Tok) (T9 : Led) (h' : Heap) (tk9 : Nat), Fr h₀ L h' m → News h₀ L h' ((po, o9) :: (du, listOf fv9.toArray k9) :: (k ++ T9)) → Apart T9 (po :: du :: k.map (·.1)) → Sub qq T9 → IsPen w o9 ve vst kn tn vc c du gr sm ww tw9 → TAll T9 fv9 ds → Q .none ⟨h', gens, drawn, tk9, os⟩) :
    wpAny (model PySem.Challenge.rw_nu0013_01.prog w) (ktrTop dp un gd cn cs L a₀ ccd cl₀ outer) (call (.ref f) vs) Q E ⟨hp, gens, drawn, toks, os⟩ := by
  refine C.use (s := ⟨hp, gens, drawn, toks, os⟩) B F X N T hk h1 h2 fun r9 n9 h9 tk9 F9 N9 hp9 => ?_
  obtain ⟨er9, o9, k9, fv9, tw9, hd9, hU9, hs9, hf9⟩ := hp9
  obtain ⟨T9, hAp9, hST9, hSR9, N9'⟩ := tidy (U := [(po, o9), (du, listOf fv9.toArray k9)]) hU9 hs9 N9 CR (sepL_of hS) (show NoTup ((po, o9) :: (du, listOf fv9.toArray k9) :: k) from ⟨cls_pen hd9, cls_list, hc⟩)
  subst er9
  exact ret o9 k9 fv9 tw9 T9 h9 tk9 F9 N9' hAp9 hSR9 hd9 (hf9.monoT hST9)
noncomputable def ToldPost (gr sm : Addr) (R : Led) (gs ss : List Dat) (news' : Led) : Prop := ∃ (k9 m9 : Nat) (fg9 fs9 : List Value), Sub [(gr, listOf fg9.toArray k9), (sm, listOf fs9.toArray m9)] news' ∧ Sub R news' ∧ TAll news' fg9 gs ∧ TAll news' fs9 ss
theorem ToldPost.mk {gr sm : Addr} {R : Led} {gs ss : List Dat} {news' : Led} {k9 m9 : Nat} {fg9 fs9 : List Value} (hU : Sub [(gr, listOf fg9.toArray k9), (sm, listOf fs9.toArray m9)] news') (hs : Sub R news') (hg : TAll news' fg9 gs) (hq : TAll news' fs9 ss) : Value.none = .none ∧ ToldPost gr sm R gs ss news' := ⟨rfl, _, _, _, _, hU, hs, hg, hq⟩
theorem Ctr.useTold {w : World} {mean : ExcName → Option Value} {mg mb : Str → Option Value} {f : Addr} {dm um : Nat} {vs : List Value} {news R k T0 qq : Led} {gr sm : Addr} {gs ss : List Dat}
    (C : Ctr w mean mg mb f dm um vs news (fun r news' => r = .none ∧ ToldPost gr sm R gs ss news')) {dp un : Nat} {gd : Option (List Code)} {cn : Str} {cs : Scope} {a₀ : Addr} {ccd : Value} {cl₀ : List (Str × Addr)} {outer : List Env} {A₀ : Around} {base h₀ hp : Heap} {gens : Array GenState} {drawn : Drawn} {toks : Nat} {os : OsState} {L : Addr} {m : Str → Option Value} {Q E : Value → Shared → Prop}
    (B : Below A₀ base outer h₀) (F : Fr h₀ L hp m) (X : (hd.heap_1 w.params).In h₀) (N : News h₀ L hp news) (T : Top qv (looseW qv [Str.ofString "fraction"]) mean mg mb h₀) (hk : cs.kind = .function) (h1 : dp + dm < recursionLimit) (h2 : un + um < cLine)
    (CR : Core R k T0 qq) (hS : Apart T0 (gr :: sm :: k.map (·.1))) (hc : NoTup k)
    (ret : ∀ (k9 m9 : Nat) (fg9 fs9 : List Value) (T9 : Led) (h' : Heap) (tk9 : Nat), Fr h₀ L h' m → News h₀ L h' ((gr, listOf fg9.toArray k9) :: (sm, listOf fs9.toArray m9) :: (k ++ T9)) → Apart T9 (gr :: sm :: k.map (·.1)) → Sub qq T9 → TAll T9 fg9 gs → TAll T9 fs9 ss → Q .none ⟨h', gens, drawn, tk9, os⟩) :
    wpAny (model PySem.Challenge.rw_nu0013_01.prog w) (ktrTop dp un gd cn cs L a₀ ccd cl₀ outer) (call (.ref f) vs) Q E ⟨hp, gens, drawn, toks, os⟩ := by
  refine C.use (s := ⟨hp, gens, drawn, toks, os⟩) B F X N T hk h1 h2 fun r9 n9 h9 tk9 F9 N9 hp9 => ?_
  obtain ⟨er9, k9, m9, fg9, fs9, hU9, hs9, g1, g2⟩ := hp9
  obtain ⟨T9, hAp9, hST9, hSR9, N9'⟩ := tidy (U := [(gr, listOf fg9.toArray k9), (sm, listOf fs9.toArray m9)]) hU9 hs9 N9 CR (sepL_of hS) ⟨cls_list, cls_list, hc⟩
  subst er9
  exact ret k9 m9 fg9 fs9 T9 h9 tk9 F9 N9' hAp9 hSR9 (g1.monoT hST9) (g2.monoT hST9)
theorem rst24 : True := by
  k_with_none
  trivial
theorem wdJ25PNx28 : True := by
  k_with "rows9" => first | with_reducible assumption | exact List.mem_cons_self | (refine List.mem_cons_of_mem _ ?_; keq_rows) | (refine Sub.use (by with_reducible assumption) ?_; keq_rows) | fail "keq_rows"
  k_with "mono9" => first | with_reducible assumption | (refine' TIn.mono ?ms ?mh; (case ms => exact (fun _ h => List.mem_cons_of_mem _ h)); (case mh => kat_tups)) | (refine' TIn.mono ?ms ?mh; (case ms => with_reducible assumption); (case mh => kat_tups)) | (refine' CIn.mono ?ms ?mh; (case ms => exact (fun _ h => List.mem_cons_of_mem _ h)); (case mh => kat_tups)) | (refine' CIn.mono ?ms ?mh; (case ms => with_reducible assumption); (case mh => kat_tups)) | (refine' CNz.mono ?ms ?mh; (case ms => exact (fun _ h => List.mem_cons_of_mem _ h)); (case mh => kat_tups)) | (refine' CNz.mono ?ms ?mh; (case ms => with_reducible assumption); (case mh => kat_tups)) | fail "kat_tups"
  k_with "amono9" => first | with_reducible assumption | (refine' TAll.mono ?ms ?mh; (case ms => exact (fun _ h => List.mem_cons_of_mem _ h)); (case mh => kbo_bools)) | (refine' TAll.mono ?ms ?mh; (case ms => with_reducible assumption); (case mh => kbo_bools)) | fail "kbo_bools"
  k_with "tin9" => first | with_reducible assumption | exact TIn.none | exact TIn.int _ _ | exact TIn.str _ _ | exact TIn.bool _ | (refine TIn.mono ?_ (by with_reducible assumption); kp_flats) | (refine TIn.intE ?_; first | omega | (simp; done)) | exact TIn.tuple (by keq_rows) (by kct_strs) | kat_tups | fail "keq_hits"
  k_with "tall9" => first | with_reducible assumption | exact TAll.nil | (refine TAll.mono ?_ (by with_reducible assumption); kp_flats) | exact TAll.cons (by keq_hits) (by kct_strs) | exact TAll.append (by kct_strs) (by kct_strs) | kbo_bools | fail "kct_strs"
  k_with "sub9" => first | with_reducible exact Sub.refl | with_reducible exact Sub.nil | with_reducible assumption | (with_reducible refine Sub.mk ?sm ?sr; (case sm => keq_rows); (case sr => kp_flats)) | (intro p9 h9; (repeat (first | with_reducible assumption | (with_reducible refine List.mem_cons_of_mem _ ?_) | refine Sub.use (by with_reducible assumption) ?_)); done) | fail "kp_flats"
  k_with "lt9" => skip
  k_with "size9" => exact size9 rfl
  k_with "ne9" => ((try dsimp only); first | with_reducible assumption | exact Ne.symm (by with_reducible assumption) | exact ltNe9 (by with_reducible assumption) (by keq_rows) | exact gtNe9 (by with_reducible assumption) (by keq_rows) | exact Nat.ne_of_lt (by with_reducible assumption) | exact Nat.ne_of_gt (by with_reducible assumption) | exact ltNe1 (by with_reducible assumption) (by keq_rows) | exact gtNe1 (by with_reducible assumption) (by keq_rows) | exact neOf9 (by with_reducible assumption) (by keq_rows) | exact Ne.symm (neOf9 (by with_reducible assumption) (by keq_rows)) | exact ltNe8 (by with_reducible assumption) (by keq_rows) (by with_reducible assumption) | exact gtNe8 (by with_reducible assumption) (by keq_rows) (by with_reducible assumption) | fail "ne9")
  k_with "all9" => first | with_reducible assumption | exact List.forall_mem_nil _ | (refine' List.forall_mem_cons.mpr ⟨?a, ?b⟩; (case a => k_ne); (case b => k_all)) | exact Apart.ne (by with_reducible assumption) (by keq_rows) | exact allLt_ne (by with_reducible assumption) | exact rawLt_ne (by with_reducible assumption) (by kp_flats) | exact rawNe9 (by with_reducible assumption) (by kp_flats) | exact rawLt_ne1 (by with_reducible assumption) (by kp_flats) | exact rawLt_ne8 (by with_reducible assumption) (by with_reducible assumption) (by kp_flats) | fail "k_all"
  k_with "upd9" => first | ((with_reducible show Pick _ _ _); first | exact Pick.here | (refine' Pick.there ?pk; (case pk => k_upd)) | fail "pick") | ((with_reducible show Core _ _ _ _); first | (refine' Core.tup ?ck; (case ck => k_upd)) | (refine' Core.keep ?ck; (case ck => k_upd)) | exact Core.tail | fail "core") | ((with_reducible show Apart _ _); first | with_reducible assumption | exact Apart.nil | (refine Apart.mk ?sa ?sb; (case sa => k_all); (case sb => k_upd)) | fail "apart") | ((with_reducible show SepL _ _); (try dsimp only [List.cons_append, List.nil_append]); first | exact True.intro | (refine And.intro ?sa ?sb; (case sa => k_all); (case sb => k_upd)) | fail "sep") | ((with_reducible show NoTup _); (try dsimp only [List.cons_append, List.nil_append]); first | exact True.intro | (refine And.intro ?sa ?sb; (case sa => first | exact cls_list | exact cls_dict | exact cls_inst | exact cls_rng | with_reducible assumption | exact NoT.of (by with_reducible assumption) | exact NoT.cell (by with_reducible assumption) | exact cls_pen (by with_reducible assumption) | exact cls_src (by with_reducible assumption) | exact LawIn.cls (by with_reducible assumption) | fail "cls"); (case sb => k_upd)) | fail "notup")
  k_with "tallD9" => first | assumption | (refine TAll.mono ?_ (by assumption); kp_flats) | fail "tallD9"
  k_with "len9" => first | with_reducible assumption | exact Nat.le_trans (by with_reducible assumption) (Nat.le_of_ble_eq_true rfl) | exact Nat.le_of_ble_eq_true rfl | omega | (simp only [List.length_append, List.length_cons, List.length_nil]; omega) | fail "len9"
  k_with "rnz9" => first | exact RNz.nul | exact RNz.of (by keq_hits) | with_reducible assumption | (refine RNz.mono ?_ (by with_reducible assumption); kp_flats) | fail "rnz9"
  k_with "law9" => first | with_reducible assumption | (refine LawIn.mono ?_ (by with_reducible assumption); kp_flats) | fail "law9"
  k_with "WhlIf" => (refine WhlIf.no (decide_eq_false (by rw [Int.fmod_one]; decide)) ?_)
  k_with "call builtin:list.append" => (k_here; (with_reducible show wpAny _ _ (call (Value.builtin _) [Value.ref _, _]) _ _ _); k_dflt (refine' my_append ?k1 ?k2 ?k3 ?z ?_; (case k1 => k_asm); (case k2 => k_asm); (case k3 => k_upd); (case z => first | exact Nat.le_of_ble_eq_true rfl | omega | (simp only [List.length_append, List.length_cons, List.length_nil]; omega)); k_whole); intro h' F' N'; (try dsimp only [List.nil_append, List.cons_append] at N'); (try k_sweep))
  k_with "compareOp In str str" => k_dflt (first | refine my_in_str (b := true) (by decide +kernel) ?_ | refine my_in_str (b := false) (by decide +kernel) ?_)
  k_with "UnrEnd" => (k_here; k_dflt (refine' my_unrEnd ?F ?N ?P ?o ?_; (case F => k_asm); (case N => k_asm); (case P => k_upd); (case o => k_all)))
  k_with "compareOp Eq ref ref" => (k_here; (with_reducible show wpAny _ _ (compareOp CmpOp.Eq (Value.ref _) (Value.ref 47)) _ _ _); k_dflt (refine' my_eq_zero ?F ?X ?l ?N ?a ?u ?_; (case F => k_asm); (case X => k_asm); (case l => k_is); (case N => k_asm); (case a => keq_hits); (case u => ktr_units)))
  k_with "compareOp Eq ref ref" => (k_here; (with_reducible show wpAny _ _ (compareOp CmpOp.Eq (Value.ref _) (Value.ref _)) _ _ _); k_dflt (refine' my_eq_pt ?N ?a ?b ?u ?_; (case N => k_asm); (case a => keq_hits); (case b => keq_hits); (case u => ktr_units)))
  k_with "subscriptTail Name Constant ref int" => (k_here; (with_reducible show wpAny _ _ (subscriptTail _ _ (Value.ref _) (Value.int _ _)) _ _ _); k_dflt (refine' item_litK ?t ?a ?b ?c ?_ ?d; (case t => exact News.isList (by k_asm) (by keq_rows)); (case a => decide); (case b => decide); (case c => exact rfl); (case d => with_unfolding_all rfl); k_whole))
  k_with "subscriptTail Name Constant ref int" => (k_here; (with_reducible show wpAny _ _ (subscriptTail _ _ (Value.ref _) (Value.int _ _)) _ _ _); k_dflt (refine item_tupleT (News.isTup (by k_asm) (by keq_rows)) (by decide) (by decide) (by exact rfl) (by exact rfl) ?_; k_whole))
  k_with "subscriptTail Name Name ref int" => (k_here; (with_reducible show wpAny _ _ (subscriptTail _ _ (Value.ref _) (Value.int _ _)) _ _ _); k_dflt (refine item_tupleT (News.isTup (by k_asm) (by keq_rows)) (by decide) (by decide) (by exact rfl) (by exact rfl) ?_; k_whole))
  k_with "subscriptTail Name BinOp ref int" => (k_here; (with_reducible show wpAny _ _ (subscriptTail _ _ (Value.ref _) (Value.int _ _)) _ _ _); k_dflt (refine item_tupleT (News.isTup (by k_asm) (by keq_rows)) (by decide) (by decide) (by exact rfl) (by exact rfl) ?_; k_whole))
  trivial
theorem wdJ26N1x29 : True := by
  k_with "call ref" => (k_here; (with_reducible show wpAny _ _ (call (Value.ref 54) _) _ _ _); k_dflt (refine' Ctr.useI (gcd_ctr ) ?k1 ?k2 ?k3 ?k4 ?k5 ?k6 ?k7 ?k8 ?CR9 ?hS9 ?hc9 ?_; (case k1 => k_asm); (case k2 => k_asm); (case k3 => k_asm); (case k4 => k_asm); (case k5 => k_asm); (case k6 => first | exact rfl | assumption);  (case k7 => first | exact room9 hd1 rfl | ktr_room); (case k8 => first | exact room9 hd2 rfl | ktr_units); (case CR9 => k_upd); (case hS9 => ((try dsimp only [List.map]); k_upd)); (case hc9 => k_upd)); k_dflt (intro t9 T9 h9 tk9 F9 N9 hAp9 hSR9 ; dsimp only [List.map, List.cons_append, List.nil_append] at hAp9 N9); (try dsimp only); (try k_sweep); (try k_fold))
  k_with "call ref" => (k_here; (with_reducible show wpAny _ _ (call (Value.ref 244) _) _ _ _); k_dflt (refine' Ctr.useP (fine_ctr ?hv) ?k1 ?k2 ?k3 ?k4 ?k5 ?k6 ?k7 ?k8 ?CR9 ?hS9 ?hc9 ?_; (case k1 => k_asm); (case k2 => k_asm); (case k3 => k_asm); (case k4 => k_asm); (case k5 => k_asm); (case k6 => first | exact rfl | assumption); (case hv => keq_hits); (case k7 => first | exact room9 hd1 rfl | ktr_room); (case k8 => first | exact room9 hd2 rfl | ktr_units); (case CR9 => k_upd); (case hS9 => ((try dsimp only [List.map]); k_upd)); (case hc9 => k_upd)); k_dflt (intro a9 b9 c9 t9 u9 t9' u9' m9 m9' m9'' T9 h9 tk9 F9 N9 hAp9 hSR9 hm9 hm9' hm9'' hr9; dsimp only [List.map, List.cons_append, List.nil_append] at hAp9 N9); (try dsimp only); (try k_sweep); (try k_fold))
  k_with "call ref" => (k_here; (with_reducible show wpAny _ _ (call (Value.ref 237) _) _ _ _); k_dflt (refine' Ctr.useR (moved_ctr ?hv ?hv') ?k1 ?k2 ?k3 ?k4 ?k5 ?k6 ?k7 ?k8 ?CR9 ?hS9 ?hc9 ?_; (case k1 => k_asm); (case k2 => k_asm); (case k3 => k_asm); (case k4 => k_asm); (case k5 => k_asm); (case k6 => first | exact rfl | assumption); (case hv => keq_hits); (case hv' => keq_hits); (case k7 => first | exact room9 hd1 rfl | ktr_room); (case k8 => first | exact room9 hd2 rfl | ktr_units); (case CR9 => k_upd); (case hS9 => ((try dsimp only [List.map]); k_upd)); (case hc9 => k_upd)); k_dflt (intro a9 t9 u9 m9 T9 h9 tk9 F9 N9 hAp9 hSR9 hm9 hr9; dsimp only [List.map, List.cons_append, List.nil_append] at hAp9 N9); (try dsimp only); (try k_sweep); (try k_fold))
  trivial
theorem wdJ27NLx30 : True := by
  k_with "subscriptTail Name Constant ref str" => (k_here; (with_reducible show wpAny _ _ (subscriptTail _ _ (Value.ref _) (Value.str _ _)) _ _ _); (first | ((with_reducible show wpAny _ _ (subscriptTail _ _ (Value.ref _) (Value.str (Str.ofString "here") _)) _ _ _); k_dflt (refine my_item (by k_asm) (by with_reducible assumption) (by keq_rows) at_here ?_)) | ((with_reducible show wpAny _ _ (subscriptTail _ _ (Value.ref _) (Value.str (Str.ofString "start") _)) _ _ _); k_dflt (refine my_item (by k_asm) (by with_reducible assumption) (by keq_rows) at_start ?_)) | ((with_reducible show wpAny _ _ (subscriptTail _ _ (Value.ref _) (Value.str (Str.ofString "kind") _)) _ _ _); k_dflt (refine my_item (by k_asm) (by with_reducible assumption) (by keq_rows) at_kind ?_)) | ((with_reducible show wpAny _ _ (subscriptTail _ _ (Value.ref _) (Value.str (Str.ofString "control") _)) _ _ _); k_dflt (refine my_item (by k_asm) (by with_reducible assumption) (by keq_rows) at_control ?_)) | ((with_reducible show wpAny _ _ (subscriptTail _ _ (Value.ref _) (Value.str (Str.ofString "closed") _)) _ _ _); k_dflt (refine my_item (by k_asm) (by with_reducible assumption) (by keq_rows) at_closed ?_)) | ((with_reducible show wpAny _ _ (subscriptTail _ _ (Value.ref _) (Value.str (Str.ofString "due") _)) _ _ _); k_dflt (refine my_item (by k_asm) (by with_reducible assumption) (by keq_rows) at_due ?_)) | ((with_reducible show wpAny _ _ (subscriptTail _ _ (Value.ref _) (Value.str (Str.ofString "great") _)) _ _ _); k_dflt (refine my_item (by k_asm) (by with_reducible assumption) (by keq_rows) at_great ?_)) | ((with_reducible show wpAny _ _ (subscriptTail _ _ (Value.ref _) (Value.str (Str.ofString "small") _)) _ _ _); k_dflt (refine my_item (by k_asm) (by with_reducible assumption) (by keq_rows) at_small ?_)) | ((with_reducible show wpAny _ _ (subscriptTail _ _ (Value.ref _) (Value.str (Str.ofString "word") _)) _ _ _); k_dflt (refine my_item (by k_asm) (by with_reducible assumption) (by keq_rows) at_word ?_)) | fail "key"); k_dflt k_whole; (try dsimp only))
  k_with "setItem ref str" => (k_here; (with_reducible show wpAny _ _ (setItem (Value.ref _) (Value.str _ _) _) _ _ _); (first | ((with_reducible show wpAny _ _ (setItem (Value.ref _) (Value.str (Str.ofString "here") _) _) _ _ _); k_dflt (refine my_set (by with_reducible assumption) (by k_asm) (by k_asm) (by k_updF) to_here (Nat.le_of_ble_eq_true rfl) ?_)) | ((with_reducible show wpAny _ _ (setItem (Value.ref _) (Value.str (Str.ofString "start") _) _) _ _ _); k_dflt (refine my_set (by with_reducible assumption) (by k_asm) (by k_asm) (by k_updF) to_start (Nat.le_of_ble_eq_true rfl) ?_)) | ((with_reducible show wpAny _ _ (setItem (Value.ref _) (Value.str (Str.ofString "kind") _) _) _ _ _); k_dflt (refine my_set (by with_reducible assumption) (by k_asm) (by k_asm) (by k_updF) to_kind (Nat.le_of_ble_eq_true rfl) ?_)) | ((with_reducible show wpAny _ _ (setItem (Value.ref _) (Value.str (Str.ofString "control") _) _) _ _ _); k_dflt (refine my_set (by with_reducible assumption) (by k_asm) (by k_asm) (by k_updF) to_control (Nat.le_of_ble_eq_true rfl) ?_)) | ((with_reducible show wpAny _ _ (setItem (Value.ref _) (Value.str (Str.ofString "closed") _) _) _ _ _); k_dflt (refine my_set (by with_reducible assumption) (by k_asm) (by k_asm) (by k_updF) to_closed (Nat.le_of_ble_eq_true rfl) ?_)) | ((with_reducible show wpAny _ _ (setItem (Value.ref _) (Value.str (Str.ofString "word") _) _) _ _ _); k_dflt (refine my_set (by with_reducible assumption) (by k_asm) (by k_asm) (by k_updF) to_word (Nat.le_of_ble_eq_true rfl) ?_)) | fail "key"); k_dflt k_whole; intro h' o' F' N' hd'; (try dsimp only at N'); (try dsimp only); (try k_sweep))
  trivial
theorem Ctr.imp {w : World} {mean : ExcName → Option Value} {mg mb : Str → Option Value} {f : Addr} {dm um : Nat} {vs : List Value} {news cur : Led} {Post Post' : Value → Led → Prop} (hs : Sub news cur) (C : Ctr w mean mg mb f dm um vs news Post) (h : ∀ r n, Post r n → Post' r n) : Ctr w mean mg mb f dm um vs cur Post' := by
  refine Ctr.weaken hs ?_
  intro dp un gd cn cs a ccd cl outer A₀ base h₀ L m s Q B F X N T hk h1 h2 ret
  exact C dp un gd cn cs a ccd cl outer A₀ base h₀ L m s Q B F X N T hk h1 h2 fun r n h' tk' F' N' p => ret r n h' tk' F' N' (h r n p)
theorem take_exact {w : World} {mean : ExcName → Option Value} {mg mb : Str → Option Value} {R : Led} {so : Addr} {oS : Obj} {top : Int} {tt : Tok}
    (hs : IsSrc oS) (hA : Apart R [so]) (ht0 : 0 < top) (ht1 : top ≤ 1000) :
    Ctr w mean mg mb 223 3 40 [.ref so, .int top tt] ((so, oS) :: R) (fun r news' => ∃ d td o9, r = .int d td ∧ news' = (so, o9) :: R ∧ IsSrc o9 ∧ 0 ≤ d ∧ d < top) := by
  refine hs.elim fun x y t u n hy0 hy1 e => ?_
  subst e
  (have hfill : True := fillT (K := Mine.hd.heap_1) (l := PySem.Challenge.rw_nu0013_01) (by k_fill; exact trivial); clear hfill; k_dflt (refine' Ctr.body ?k6 ?k7 ?k9 ?kB ?c2 ?c3 ?c4 ?c5 ?_; (case k6 => k_is); (case k7 => k_is); (case k9 => exact fun s X => BindsTo.of_eq rfl); (case kB => exact locs rfl); (case c2 => exact rfl); (case c3 => exact rfl); (case c4 => exact rfl); (case c5 => decide)); intro dp un gd A₀ base g outer L hp gens drawn toks os QQ B X T F N hd1 hd2 hret hnx; (try dsimp only); (try k_fold))
  repeat' (first | (k_unfold; (try dsimp only)) | (k_end; (fail_if_success (with_reducible show QQ _ _)); wrow_close) | walk1 | (dsimp only; walk1) | (leave1; walk_say "STEP leave1"; try dsimp only) | fail "no step")
  all_goals (refine' hret _ _ _ _ _ _ ?za ?zb ?_; (case za => k_asm); (case zb => k_asm); first
    | exact ⟨_, _, _, rfl, rfl, ⟨_, _, _, _, _, rfl, hy0, hy1⟩, Int.fmod_nonneg_of_pos _ ht0, Int.fmod_lt_of_pos _ ht0⟩
    | exact ⟨_, _, _, rfl, rfl, ⟨_, _, _, _, _, rfl, Int.fmod_nonneg_of_pos _ (by decide), Int.fmod_lt_of_pos _ (by decide)⟩, Int.fmod_nonneg_of_pos _ ht0, Int.fmod_lt_of_pos _ ht0⟩)
theorem take_ctr {w : World} {mean : ExcName → Option Value} {mg mb : Str → Option Value} {cur R : Led} {so : Addr} {oS : Obj} {top : Int} {tt : Tok}
    (P : Pick (so, oS) cur R) (hs : IsSrc oS) (hA : Apart R [so]) (ht0 : 0 < top) (ht1 : top ≤ 1000) :
    Ctr w mean mg mb 223 3 40 [.ref so, .int top tt] cur (fun r news' => TakePost so top R r news') := by
  refine (take_exact (R := R) hs hA ht0 ht1).imp P.sub ?_
  rintro r n ⟨d, td, o9, rfl, rfl, a, b, c⟩
  exact ⟨d, td, o9, a, rfl, b, c, Sub.mk (.head _) Sub.nil, fun p hp => .tail _ hp⟩
theorem wdJ28N20x31 : True := by
  k_with "call ref" => (k_here; (with_reducible show wpAny _ _ (call (Value.ref 223) _) _ _ _); k_dflt (refine' Ctr.useTake (take_ctr ?P ?hs ?hA ?ht0 ?ht1) ?k1 ?k2 ?k3 ?k4 ?k5 ?k6 ?k7 ?k8 ?CR9 ?hS9 ?hc9 ?_; (case k1 => k_asm); (case k2 => k_asm); (case k3 => k_asm); (case k4 => k_asm); (case k5 => k_asm); (case k6 => first | exact rfl | assumption); (case P => k_upd); (case hs => with_reducible assumption); (case hA => k_upd); (case ht0 => decide); (case ht1 => decide); (case k7 => first | exact room9 hd1 rfl | ktr_room); (case k8 => first | exact room9 hd2 rfl | ktr_units); (case CR9 => k_upd); (case hS9 => ((try dsimp only [List.map]); k_upd)); (case hc9 => k_upd)); k_dflt (intro d9 td9 o9 T9 h9 tk9 F9 N9 hAp9 hSR9 hs9 hd9 he9; dsimp only [List.map, List.cons_append, List.nil_append] at hAp9 N9); (try dsimp only); (try k_sweep); (try k_fold))
  trivial
theorem lpoint_ctr {w : World} {mean : ExcName → Option Value} {mg mb : Str → Option Value} {cur R : Led} {so : Addr} {oS : Obj}
    (P : Pick (so, oS) cur R) (hs : IsSrc oS) (hA : Apart R [so]) :
    Ctr w mean mg mb 258 6 100 [.ref so] cur (fun r news' => PointPost so R r news') := by
  refine Ctr.weaken (news := (so, oS) :: R) P.sub ?_
  (have hfill : True := fillT (K := Mine.hd.heap_1) (l := PySem.Challenge.rw_nu0013_01) (by k_fill; exact trivial); clear hfill; k_dflt (refine' Ctr.body ?k6 ?k7 ?k9 ?kB ?c2 ?c3 ?c4 ?c5 ?_; (case k6 => k_is); (case k7 => k_is); (case k9 => exact fun s X => BindsTo.of_eq rfl); (case kB => exact locs rfl); (case c2 => exact rfl); (case c3 => exact rfl); (case c4 => exact rfl); (case c5 => decide)); intro dp un gd A₀ base g outer L hp gens drawn toks os QQ B X T F N hd1 hd2 hret hnx; (try dsimp only); (try k_fold))
  repeat' (first | (k_unfold; (try dsimp only)) | (k_end; (fail_if_success (with_reducible show QQ _ _)); wrow_close) | walk1 | (dsimp only; walk1) | (leave1; walk_say "STEP leave1"; try dsimp only) | fail "no step")
  all_goals exact hret _ _ _ _ _ _ (by k_asm) (by k_asm) (PointPost.mk (by with_reducible assumption) (by keq_hits) (by kp_flats) (by kp_flats))
theorem wdJ28N20x32 : True := by
  k_with "call ref" => (k_here; (with_reducible show wpAny _ _ (call (Value.ref 258) _) _ _ _); k_dflt (refine' Ctr.useSrc (lpoint_ctr ?P ?hs ?hA) ?k1 ?k2 ?k3 ?k4 ?k5 ?k6 ?k7 ?k8 ?CR9 ?hS9 ?hc9 ?_; (case k1 => k_asm); (case k2 => k_asm); (case k3 => k_asm); (case k4 => k_asm); (case k5 => k_asm); (case k6 => first | exact rfl | assumption); (case P => k_upd); (case hs => with_reducible assumption); (case hA => k_upd); (case k7 => first | exact room9 hd1 rfl | ktr_room); (case k8 => first | exact room9 hd2 rfl | ktr_units); (case CR9 => k_upd); (case hS9 => ((try dsimp only [List.map]); k_upd)); (case hc9 => k_upd)); k_dflt (intro a9 px9 py9 tx9 ux9 mx9 o9 T9 h9 tk9 F9 N9 hAp9 hSR9 hs9 hm9 hr9; dsimp only [List.map, List.cons_append, List.nil_append] at hAp9 N9); (try dsimp only); (try k_sweep); (try k_fold))
  trivial
theorem Ctr.useTakeX {w : World} {mean : ExcName → Option Value} {mg mb : Str → Option Value} {f : Addr} {dm um : Nat} {vs : List Value} {news R : Led} {so : Addr} {top : Int}
    (C : Ctr w mean mg mb f dm um vs news (fun r news' => ∃ d td o9, r = .int d td ∧ news' = (so, o9) :: R ∧ IsSrc o9 ∧ 0 ≤ d ∧ d < top))
    {dp un : Nat} {gd : Option (List Code)} {cn : Str} {cs : Scope} {a : Addr} {ccd : Value} {cl : List (Str × Addr)} {outer : List Env} {A₀ : Around} {base h₀ hp : Heap} {gens : Array GenState} {drawn : Drawn} {toks : Nat} {os : OsState} {L : Addr} {m : Str → Option Value} {Q E : Value → Shared → Prop}
    (B : Below A₀ base outer h₀) (F : Fr h₀ L hp m) (X : (hd.heap_1 w.params).In h₀) (N : News h₀ L hp news) (T : Top qv (looseW qv [Str.ofString "fraction"]) mean mg mb h₀) (hk : cs.kind = .function) (h1 : dp + dm < recursionLimit) (h2 : un + um < cLine)
    (ret : ∀ (d : Int) (td : Tok) (o9 : Obj) (h' : Heap) (tk' : Nat), Fr h₀ L h' m → News h₀ L h' ((so, o9) :: R) → IsSrc o9 → 0 ≤ d → d < top → Q (.int d td) ⟨h', gens, drawn, tk', os⟩) :
    wpAny (model PySem.Challenge.rw_nu0013_01.prog w) (ktrTop dp un gd cn cs L a ccd cl outer) (call (.ref f) vs) Q E ⟨hp, gens, drawn, toks, os⟩ := by
  refine C.use (s := ⟨hp, gens, drawn, toks, os⟩) B F X N T hk h1 h2 fun r9 n9 h9 tk9 F9 N9 hp9 => ?_
  obtain ⟨d, td, o9, rfl, rfl, a1, a2, a3⟩ := hp9
  exact ret d td o9 h9 tk9 F9 N9 a1 a2 a3
theorem my_item2v {prog : Program} {w : World} {A : Around} {E : Value → Shared → Prop} {s : Shared} {value slice : PySem.Expr} {l : Addr} {v0 v1 : Value} {i : Int} {u : Tok} {Q : Value → Shared → Prop} (hl : s.heap.IsList l [v0, v1].toArray) (h0 : 0 ≤ i) (h1 : i < 2) (k : ∀ v, v = v0 ∨ v = v1 → Q v s)
    (hs : ∀ k, subscripted slice false (.ref l) (.int k u) = operate [.ref l, .int k u] (getItem (.ref l) (.int k u)) := by intro _; with_unfolding_all rfl) :
    wpAny (model prog w) A (subscriptTail value slice (.ref l) (.int i u)) Q E s := by
  rcases (show i = 0 ∨ i = 1 by omega) with rfl | rfl
  · exact item_litK hl (by decide) (by decide) rfl (k _ (.inl rfl)) (hs 0)
  · exact item_litK hl (by decide) (by decide) rfl (k _ (.inr rfl)) (hs 1)
theorem wdJ29NOx33 : True := by
  k_with "subscriptTail" => (k_here; (with_reducible show wpAny _ _ (subscriptTail _ _ (Value.ref _) (Value.int _ _)) _ _ _); k_dflt (refine my_item2v (News.isList (by k_asm) (by keq_rows)) (by with_reducible assumption) (by with_reducible assumption) ?_); intro W9 hW9; (try dsimp only))
  k_with "call ref" => (k_here; (with_reducible show wpAny _ _ (call (Value.ref 223) _) _ _ _); k_dflt (refine' Ctr.useTakeX (take_exact ?hs ?hA ?ht0 ?ht1) ?k1 ?k2 ?k3 ?k4 ?k5 ?k6 ?k7 ?k8 ?_; (case k1 => k_asm); (case k2 => k_asm); (case k3 => k_asm); (case k4 => k_asm); (case k5 => k_asm); (case k6 => first | exact rfl | assumption); (case hs => with_reducible assumption); (case hA => k_upd); (case ht0 => decide); (case ht1 => decide); (case k7 => first | exact room9 hd1 rfl | ktr_room); (case k8 => first | exact room9 hd2 rfl | ktr_units)); intro d9 td9 o9 h9 tk9 F9 N9 hs9 hd9 he9; (try dsimp only); (try k_sweep))
  trivial
theorem one_exact {w : World} {mean : ExcName → Option Value} {mg mb : Str → Option Value} {R : Led} {so tl : Addr} {oS : Obj} {v0 v1 : Value} {n : Nat}
    (hs : IsSrc oS) (hA : Apart R [so]) (htl : (tl, listOf [v0, v1].toArray n) ∈ R) :
    Ctr w mean mg mb 230 6 100 [.ref so, .ref tl] ((so, oS) :: R) (fun r news' => ∃ o9, news' = (so, o9) :: R ∧ IsSrc o9 ∧ (r = v0 ∨ r = v1)) := by
  (have hfill : True := fillT (K := Mine.hd.heap_1) (l := PySem.Challenge.rw_nu0013_01) (by k_fill; exact trivial); clear hfill; k_dflt (refine' Ctr.body ?k6 ?k7 ?k9 ?kB ?c2 ?c3 ?c4 ?c5 ?_; (case k6 => k_is); (case k7 => k_is); (case k9 => exact fun s X => BindsTo.of_eq rfl); (case kB => exact locs rfl); (case c2 => exact rfl); (case c3 => exact rfl); (case c4 => exact rfl); (case c5 => decide)); intro dp un gd A₀ base g outer L hp gens drawn toks os QQ B X T F N hd1 hd2 hret hnx; (try dsimp only); (try k_fold))
  repeat' (first | (k_unfold; (try dsimp only)) | (k_end; (fail_if_success (with_reducible show QQ _ _)); wrow_close) | walk1 | (dsimp only; walk1) | (leave1; walk_say "STEP leave1"; try dsimp only) | fail "no step")
  skip
  refine' hret _ _ _ _ _ _ ?za ?zb ?_
  case za => k_asm
  case zb => k_asm
  exact ⟨_, rfl, by with_reducible assumption, by with_reducible assumption⟩
theorem Ctr.useOneX {w : World} {mean : ExcName → Option Value} {mg mb : Str → Option Value} {f : Addr} {dm um : Nat} {vs : List Value} {news R : Led} {so : Addr} {v0 v1 : Value}
    (C : Ctr w mean mg mb f dm um vs news (fun r news' => ∃ o9, news' = (so, o9) :: R ∧ IsSrc o9 ∧ (r = v0 ∨ r = v1)))
    {dp un : Nat} {gd : Option (List Code)} {cn : Str} {cs : Scope} {a : Addr} {ccd : Value} {cl : List (Str × Addr)} {outer : List Env} {A₀ : Around} {base h₀ hp : Heap} {gens : Array GenState} {drawn : Drawn} {toks : Nat} {os : OsState} {L : Addr} {m : Str → Option Value} {Q E : Value → Shared → Prop}
    (B : Below A₀ base outer h₀) (F : Fr h₀ L hp m) (X : (hd.heap_1 w.params).In h₀) (N : News h₀ L hp news) (T : Top qv (looseW qv [Str.ofString "fraction"]) mean mg mb h₀) (hk : cs.kind = .function) (h1 : dp + dm < recursionLimit) (h2 : un + um < cLine)
    (ret : ∀ (r : Value) (o9 : Obj) (h' : Heap) (tk' : Nat), Fr h₀ L h' m → News h₀ L h' ((so, o9) :: R) → IsSrc o9 → (r = v0 ∨ r = v1) → Q r ⟨h', gens, drawn, tk', os⟩) :
    wpAny (model PySem.Challenge.rw_nu0013_01.prog w) (ktrTop dp un gd cn cs L a ccd cl outer) (call (.ref f) vs) Q E ⟨hp, gens, drawn, toks, os⟩ := by
  refine C.use (s := ⟨hp, gens, drawn, toks, os⟩) B F X N T hk h1 h2 fun r9 n9 h9 tk9 F9 N9 hp9 => ?_
  obtain ⟨o9, rfl, a1, a2⟩ := hp9
  exact ret r9 o9 h9 tk9 F9 N9 a1 a2
theorem Ctr.perm {w : World} {mean : ExcName → Option Value} {mg mb : Str → Option Value} {f : Addr} {dm um : Nat} {vs : List Value} {news cur : Led} {Post : Value → Led → Prop} (hs : Sub news cur) (C : Ctr w mean mg mb f dm um vs news Post) : Ctr w mean mg mb f dm um vs cur Post := C.weaken hs
theorem wdJ29NOx34 : True := by
  k_with "call ref" => (k_here; (with_reducible show wpAny _ _ (call (Value.ref 230) _) _ _ _); k_dflt (refine' Ctr.useOneX (Ctr.perm (Pick.sub ?P9) (one_exact ?hs ?hA ?htl)) ?k1 ?k2 ?k3 ?k4 ?k5 ?k6 ?k7 ?k8 ?_; (case k1 => k_asm); (case k2 => k_asm); (case k3 => k_asm); (case k4 => k_asm); (case k5 => k_asm); (case k6 => first | exact rfl | assumption); (case P9 => k_upd); (case hs => with_reducible assumption); (case hA => k_upd); (case htl => keq_rows); (case k7 => first | exact room9 hd1 rfl | ktr_room); (case k8 => first | exact room9 hd2 rfl | ktr_units)); intro r9 o9 h9 tk9 F9 N9 hs9 hr9; (try dsimp only); (try k_sweep))
  trivial
theorem rst30 : True := by
  k_with_none
  trivial
theorem wdJ31PNx35 : True := by
  k_with "rows9" => first | with_reducible assumption | exact List.mem_cons_self | (refine List.mem_cons_of_mem _ ?_; keq_rows) | (refine Sub.use (by with_reducible assumption) ?_; keq_rows) | fail "keq_rows"
  k_with "mono9" => first | with_reducible assumption | (refine' TIn.mono ?ms ?mh; (case ms => exact (fun _ h => List.mem_cons_of_mem _ h)); (case mh => kat_tups)) | (refine' TIn.mono ?ms ?mh; (case ms => with_reducible assumption); (case mh => kat_tups)) | (refine' CIn.mono ?ms ?mh; (case ms => exact (fun _ h => List.mem_cons_of_mem _ h)); (case mh => kat_tups)) | (refine' CIn.mono ?ms ?mh; (case ms => with_reducible assumption); (case mh => kat_tups)) | (refine' CNz.mono ?ms ?mh; (case ms => exact (fun _ h => List.mem_cons_of_mem _ h)); (case mh => kat_tups)) | (refine' CNz.mono ?ms ?mh; (case ms => with_reducible assumption); (case mh => kat_tups)) | fail "kat_tups"
  k_with "amono9" => first | with_reducible assumption | (refine' TAll.mono ?ms ?mh; (case ms => exact (fun _ h => List.mem_cons_of_mem _ h)); (case mh => kbo_bools)) | (refine' TAll.mono ?ms ?mh; (case ms => with_reducible assumption); (case mh => kbo_bools)) | fail "kbo_bools"
  k_with "tin9" => first | with_reducible assumption | exact TIn.none | exact TIn.int _ _ | exact TIn.str _ _ | exact TIn.bool _ | (refine TIn.mono ?_ (by with_reducible assumption); kp_flats) | (refine TIn.intE ?_; first | omega | (simp; done)) | exact TIn.tuple (by keq_rows) (by kct_strs) | kat_tups | fail "keq_hits"
  k_with "tall9" => first | with_reducible assumption | exact TAll.nil | (refine TAll.mono ?_ (by with_reducible assumption); kp_flats) | exact TAll.cons (by keq_hits) (by kct_strs) | exact TAll.append (by kct_strs) (by kct_strs) | kbo_bools | fail "kct_strs"
  k_with "sub9" => first | with_reducible exact Sub.refl | with_reducible exact Sub.nil | with_reducible assumption | (with_reducible refine Sub.mk ?sm ?sr; (case sm => keq_rows); (case sr => kp_flats)) | (intro p9 h9; (repeat (first | with_reducible assumption | (with_reducible refine List.mem_cons_of_mem _ ?_) | refine Sub.use (by with_reducible assumption) ?_)); done) | fail "kp_flats"
  k_with "lt9" => skip
  k_with "size9" => exact size9 rfl
  k_with "ne9" => ((try dsimp only); first | with_reducible assumption | exact Ne.symm (by with_reducible assumption) | exact ltNe9 (by with_reducible assumption) (by keq_rows) | exact gtNe9 (by with_reducible assumption) (by keq_rows) | exact Nat.ne_of_lt (by with_reducible assumption) | exact Nat.ne_of_gt (by with_reducible assumption) | exact ltNe1 (by with_reducible assumption) (by keq_rows) | exact gtNe1 (by with_reducible assumption) (by keq_rows) | exact neOf9 (by with_reducible assumption) (by keq_rows) | exact Ne.symm (neOf9 (by with_reducible assumption) (by keq_rows)) | exact ltNe8 (by with_reducible assumption) (by keq_rows) (by with_reducible assumption) | exact gtNe8 (by with_reducible assumption) (by keq_rows) (by with_reducible assumption) | fail "ne9")
  k_with "all9" => first | with_reducible assumption | exact List.forall_mem_nil _ | (refine' List.forall_mem_cons.mpr ⟨?a, ?b⟩; (case a => k_ne); (case b => k_all)) | exact Apart.ne (by with_reducible assumption) (by keq_rows) | exact allLt_ne (by with_reducible assumption) | exact rawLt_ne (by with_reducible assumption) (by kp_flats) | exact rawNe9 (by with_reducible assumption) (by kp_flats) | exact rawLt_ne1 (by with_reducible assumption) (by kp_flats) | exact rawLt_ne8 (by with_reducible assumption) (by with_reducible assumption) (by kp_flats) | fail "k_all"
  k_with "upd9" => first | ((with_reducible show Pick _ _ _); first | exact Pick.here | (refine' Pick.there ?pk; (case pk => k_upd)) | fail "pick") | ((with_reducible show Core _ _ _ _); first | (refine' Core.tup ?ck; (case ck => k_upd)) | (refine' Core.keep ?ck; (case ck => k_upd)) | exact Core.tail | fail "core") | ((with_reducible show Apart _ _); first | with_reducible assumption | exact Apart.nil | (refine Apart.mk ?sa ?sb; (case sa => k_all); (case sb => k_upd)) | fail "apart") | ((with_reducible show SepL _ _); (try dsimp only [List.cons_append, List.nil_append]); first | exact True.intro | (refine And.intro ?sa ?sb; (case sa => k_all); (case sb => k_upd)) | fail "sep") | ((with_reducible show NoTup _); (try dsimp only [List.cons_append, List.nil_append]); first | exact True.intro | (refine And.intro ?sa ?sb; (case sa => first | exact cls_list | exact cls_dict | exact cls_inst | exact cls_rng | with_reducible assumption | exact NoT.of (by with_reducible assumption) | exact NoT.cell (by with_reducible assumption) | exact cls_pen (by with_reducible assumption) | exact cls_src (by with_reducible assumption) | exact LawIn.cls (by with_reducible assumption) | fail "cls"); (case sb => k_upd)) | fail "notup")
  k_with "tallD9" => first | assumption | (refine TAll.mono ?_ (by assumption); kp_flats) | fail "tallD9"
  k_with "len9" => first | with_reducible assumption | exact Nat.le_trans (by with_reducible assumption) (Nat.le_of_ble_eq_true rfl) | exact Nat.le_of_ble_eq_true rfl | omega | (simp only [List.length_append, List.length_cons, List.length_nil]; omega) | fail "len9"
  k_with "rnz9" => first | exact RNz.nul | exact RNz.of (by keq_hits) | with_reducible assumption | (refine RNz.mono ?_ (by with_reducible assumption); kp_flats) | fail "rnz9"
  k_with "law9" => first | with_reducible assumption | (refine LawIn.mono ?_ (by with_reducible assumption); kp_flats) | fail "law9"
  k_with "WhlIf" => (refine WhlIf.no (decide_eq_false (by rw [Int.fmod_one]; decide)) ?_)
  k_with "call builtin:list.append" => (k_here; (with_reducible show wpAny _ _ (call (Value.builtin _) [Value.ref _, _]) _ _ _); k_dflt (refine' my_append ?k1 ?k2 ?k3 ?z ?_; (case k1 => k_asm); (case k2 => k_asm); (case k3 => k_upd); (case z => first | exact Nat.le_of_ble_eq_true rfl | omega | (simp only [List.length_append, List.length_cons, List.length_nil]; omega)); k_whole); intro h' F' N'; (try dsimp only [List.nil_append, List.cons_append] at N'); (try k_sweep))
  k_with "compareOp In str str" => k_dflt (first | refine my_in_str (b := true) (by decide +kernel) ?_ | refine my_in_str (b := false) (by decide +kernel) ?_)
  k_with "UnrEnd" => (k_here; k_dflt (refine' my_unrEnd ?F ?N ?P ?o ?_; (case F => k_asm); (case N => k_asm); (case P => k_upd); (case o => k_all)))
  k_with "compareOp Eq ref ref" => (k_here; (with_reducible show wpAny _ _ (compareOp CmpOp.Eq (Value.ref _) (Value.ref 47)) _ _ _); k_dflt (refine' my_eq_zero ?F ?X ?l ?N ?a ?u ?_; (case F => k_asm); (case X => k_asm); (case l => k_is); (case N => k_asm); (case a => keq_hits); (case u => ktr_units)))
  k_with "compareOp Eq ref ref" => (k_here; (with_reducible show wpAny _ _ (compareOp CmpOp.Eq (Value.ref _) (Value.ref _)) _ _ _); k_dflt (refine' my_eq_pt ?N ?a ?b ?u ?_; (case N => k_asm); (case a => keq_hits); (case b => keq_hits); (case u => ktr_units)))
  k_with "subscriptTail Name Constant ref int" => (k_here; (with_reducible show wpAny _ _ (subscriptTail _ _ (Value.ref _) (Value.int _ _)) _ _ _); k_dflt (refine' item_litK ?t ?a ?b ?c ?_ ?d; (case t => exact News.isList (by k_asm) (by keq_rows)); (case a => decide); (case b => decide); (case c => exact rfl); (case d => with_unfolding_all rfl); k_whole))
  k_with "subscriptTail Name Constant ref int" => (k_here; (with_reducible show wpAny _ _ (subscriptTail _ _ (Value.ref _) (Value.int _ _)) _ _ _); k_dflt (refine item_tupleT (News.isTup (by k_asm) (by keq_rows)) (by decide) (by decide) (by exact rfl) (by exact rfl) ?_; k_whole))
  k_with "subscriptTail Name Name ref int" => (k_here; (with_reducible show wpAny _ _ (subscriptTail _ _ (Value.ref _) (Value.int _ _)) _ _ _); k_dflt (refine item_tupleT (News.isTup (by k_asm) (by keq_rows)) (by decide) (by decide) (by exact rfl) (by exact rfl) ?_; k_whole))
  k_with "subscriptTail Name BinOp ref int" => (k_here; (with_reducible show wpAny _ _ (subscriptTail _ _ (Value.ref _) (Value.int _ _)) _ _ _); k_dflt (refine item_tupleT (News.isTup (by k_asm) (by keq_rows)) (by decide) (by decide) (by exact rfl) (by exact rfl) ?_; k_whole))
  trivial
theorem wdJ32N1x36 : True := by
  k_with "call ref" => (k_here; (with_reducible show wpAny _ _ (call (Value.ref 54) _) _ _ _); k_dflt (refine' Ctr.useI (gcd_ctr ) ?k1 ?k2 ?k3 ?k4 ?k5 ?k6 ?k7 ?k8 ?CR9 ?hS9 ?hc9 ?_; (case k1 => k_asm); (case k2 => k_asm); (case k3 => k_asm); (case k4 => k_asm); (case k5 => k_asm); (case k6 => first | exact rfl | assumption);  (case k7 => first | exact room9 hd1 rfl | ktr_room); (case k8 => first | exact room9 hd2 rfl | ktr_units); (case CR9 => k_upd); (case hS9 => ((try dsimp only [List.map]); k_upd)); (case hc9 => k_upd)); k_dflt (intro t9 T9 h9 tk9 F9 N9 hAp9 hSR9 ; dsimp only [List.map, List.cons_append, List.nil_append] at hAp9 N9); (try dsimp only); (try k_sweep); (try k_fold))
  k_with "call ref" => (k_here; (with_reducible show wpAny _ _ (call (Value.ref 244) _) _ _ _); k_dflt (refine' Ctr.useP (fine_ctr ?hv) ?k1 ?k2 ?k3 ?k4 ?k5 ?k6 ?k7 ?k8 ?CR9 ?hS9 ?hc9 ?_; (case k1 => k_asm); (case k2 => k_asm); (case k3 => k_asm); (case k4 => k_asm); (case k5 => k_asm); (case k6 => first | exact rfl | assumption); (case hv => keq_hits); (case k7 => first | exact room9 hd1 rfl | ktr_room); (case k8 => first | exact room9 hd2 rfl | ktr_units); (case CR9 => k_upd); (case hS9 => ((try dsimp only [List.map]); k_upd)); (case hc9 => k_upd)); k_dflt (intro a9 b9 c9 t9 u9 t9' u9' m9 m9' m9'' T9 h9 tk9 F9 N9 hAp9 hSR9 hm9 hm9' hm9'' hr9; dsimp only [List.map, List.cons_append, List.nil_append] at hAp9 N9); (try dsimp only); (try k_sweep); (try k_fold))
  k_with "call ref" => (k_here; (with_reducible show wpAny _ _ (call (Value.ref 237) _) _ _ _); k_dflt (refine' Ctr.useR (moved_ctr ?hv ?hv') ?k1 ?k2 ?k3 ?k4 ?k5 ?k6 ?k7 ?k8 ?CR9 ?hS9 ?hc9 ?_; (case k1 => k_asm); (case k2 => k_asm); (case k3 => k_asm); (case k4 => k_asm); (case k5 => k_asm); (case k6 => first | exact rfl | assumption); (case hv => keq_hits); (case hv' => keq_hits); (case k7 => first | exact room9 hd1 rfl | ktr_room); (case k8 => first | exact room9 hd2 rfl | ktr_units); (case CR9 => k_upd); (case hS9 => ((try dsimp only [List.map]); k_upd)); (case hc9 => k_upd)); k_dflt (intro a9 t9 u9 m9 T9 h9 tk9 F9 N9 hAp9 hSR9 hm9 hr9; dsimp only [List.map, List.cons_append, List.nil_append] at hAp9 N9); (try dsimp only); (try k_sweep); (try k_fold))
  trivial
theorem wdJ33NLx37 : True := by
  k_with "subscriptTail Name Constant ref str" => (k_here; (with_reducible show wpAny _ _ (subscriptTail _ _ (Value.ref _) (Value.str _ _)) _ _ _); (first | ((with_reducible show wpAny _ _ (subscriptTail _ _ (Value.ref _) (Value.str (Str.ofString "here") _)) _ _ _); k_dflt (refine my_item (by k_asm) (by with_reducible assumption) (by keq_rows) at_here ?_)) | ((with_reducible show wpAny _ _ (subscriptTail _ _ (Value.ref _) (Value.str (Str.ofString "start") _)) _ _ _); k_dflt (refine my_item (by k_asm) (by with_reducible assumption) (by keq_rows) at_start ?_)) | ((with_reducible show wpAny _ _ (subscriptTail _ _ (Value.ref _) (Value.str (Str.ofString "kind") _)) _ _ _); k_dflt (refine my_item (by k_asm) (by with_reducible assumption) (by keq_rows) at_kind ?_)) | ((with_reducible show wpAny _ _ (subscriptTail _ _ (Value.ref _) (Value.str (Str.ofString "control") _)) _ _ _); k_dflt (refine my_item (by k_asm) (by with_reducible assumption) (by keq_rows) at_control ?_)) | ((with_reducible show wpAny _ _ (subscriptTail _ _ (Value.ref _) (Value.str (Str.ofString "closed") _)) _ _ _); k_dflt (refine my_item (by k_asm) (by with_reducible assumption) (by keq_rows) at_closed ?_)) | ((with_reducible show wpAny _ _ (subscriptTail _ _ (Value.ref _) (Value.str (Str.ofString "due") _)) _ _ _); k_dflt (refine my_item (by k_asm) (by with_reducible assumption) (by keq_rows) at_due ?_)) | ((with_reducible show wpAny _ _ (subscriptTail _ _ (Value.ref _) (Value.str (Str.ofString "great") _)) _ _ _); k_dflt (refine my_item (by k_asm) (by with_reducible assumption) (by keq_rows) at_great ?_)) | ((with_reducible show wpAny _ _ (subscriptTail _ _ (Value.ref _) (Value.str (Str.ofString "small") _)) _ _ _); k_dflt (refine my_item (by k_asm) (by with_reducible assumption) (by keq_rows) at_small ?_)) | ((with_reducible show wpAny _ _ (subscriptTail _ _ (Value.ref _) (Value.str (Str.ofString "word") _)) _ _ _); k_dflt (refine my_item (by k_asm) (by with_reducible assumption) (by keq_rows) at_word ?_)) | fail "key"); k_dflt k_whole; (try dsimp only))
  k_with "setItem ref str" => (k_here; (with_reducible show wpAny _ _ (setItem (Value.ref _) (Value.str _ _) _) _ _ _); (first | ((with_reducible show wpAny _ _ (setItem (Value.ref _) (Value.str (Str.ofString "here") _) _) _ _ _); k_dflt (refine my_set (by with_reducible assumption) (by k_asm) (by k_asm) (by k_updF) to_here (Nat.le_of_ble_eq_true rfl) ?_)) | ((with_reducible show wpAny _ _ (setItem (Value.ref _) (Value.str (Str.ofString "start") _) _) _ _ _); k_dflt (refine my_set (by with_reducible assumption) (by k_asm) (by k_asm) (by k_updF) to_start (Nat.le_of_ble_eq_true rfl) ?_)) | ((with_reducible show wpAny _ _ (setItem (Value.ref _) (Value.str (Str.ofString "kind") _) _) _ _ _); k_dflt (refine my_set (by with_reducible assumption) (by k_asm) (by k_asm) (by k_updF) to_kind (Nat.le_of_ble_eq_true rfl) ?_)) | ((with_reducible show wpAny _ _ (setItem (Value.ref _) (Value.str (Str.ofString "control") _) _) _ _ _); k_dflt (refine my_set (by with_reducible assumption) (by k_asm) (by k_asm) (by k_updF) to_control (Nat.le_of_ble_eq_true rfl) ?_)) | ((with_reducible show wpAny _ _ (setItem (Value.ref _) (Value.str (Str.ofString "closed") _) _) _ _ _); k_dflt (refine my_set (by with_reducible assumption) (by k_asm) (by k_asm) (by k_updF) to_closed (Nat.le_of_ble_eq_true rfl) ?_)) | ((with_reducible show wpAny _ _ (setItem (Value.ref _) (Value.str (Str.ofString "word") _) _) _ _ _); k_dflt (refine my_set (by with_reducible assumption) (by k_asm) (by k_asm) (by k_updF) to_word (Nat.le_of_ble_eq_true rfl) ?_)) | fail "key"); k_dflt k_whole; intro h' o' F' N' hd'; (try dsimp only at N'); (try dsimp only); (try k_sweep))
  trivial
theorem wdJ34N20x38 : True := by
  k_with "call ref" => (k_here; (with_reducible show wpAny _ _ (call (Value.ref 223) _) _ _ _); k_dflt (refine' Ctr.useTake (take_ctr ?P ?hs ?hA ?ht0 ?ht1) ?k1 ?k2 ?k3 ?k4 ?k5 ?k6 ?k7 ?k8 ?CR9 ?hS9 ?hc9 ?_; (case k1 => k_asm); (case k2 => k_asm); (case k3 => k_asm); (case k4 => k_asm); (case k5 => k_asm); (case k6 => first | exact rfl | assumption); (case P => k_upd); (case hs => with_reducible assumption); (case hA => k_upd); (case ht0 => decide); (case ht1 => decide); (case k7 => first | exact room9 hd1 rfl | ktr_room); (case k8 => first | exact room9 hd2 rfl | ktr_units); (case CR9 => k_upd); (case hS9 => ((try dsimp only [List.map]); k_upd)); (case hc9 => k_upd)); k_dflt (intro d9 td9 o9 T9 h9 tk9 F9 N9 hAp9 hSR9 hs9 hd9 he9; dsimp only [List.map, List.cons_append, List.nil_append] at hAp9 N9); (try dsimp only); (try k_sweep); (try k_fold))
  k_with "call ref" => (k_here; (with_reducible show wpAny _ _ (call (Value.ref 258) _) _ _ _); k_dflt (refine' Ctr.useSrc (lpoint_ctr ?P ?hs ?hA) ?k1 ?k2 ?k3 ?k4 ?k5 ?k6 ?k7 ?k8 ?CR9 ?hS9 ?hc9 ?_; (case k1 => k_asm); (case k2 => k_asm); (case k3 => k_asm); (case k4 => k_asm); (case k5 => k_asm); (case k6 => first | exact rfl | assumption); (case P => k_upd); (case hs => with_reducible assumption); (case hA => k_upd); (case k7 => first | exact room9 hd1 rfl | ktr_room); (case k8 => first | exact room9 hd2 rfl | ktr_units); (case CR9 => k_upd); (case hS9 => ((try dsimp only [List.map]); k_upd)); (case hc9 => k_upd)); k_dflt (intro a9 px9 py9 tx9 ux9 mx9 o9 T9 h9 tk9 F9 N9 hAp9 hSR9 hs9 hm9 hr9; dsimp only [List.map, List.cons_append, List.nil_append] at hAp9 N9); (try dsimp only); (try k_sweep); (try k_fold))
  trivial
theorem wdJ35N23x39 : True := by
  k_with "call builtin:str.lower" => (k_here; (with_reducible show wpAny _ _ (call (Value.builtin "str.lower") [Value.str _ _]) _ _ _); k_dflt (refine KXw.lower (by with_reducible assumption) (by with_reducible assumption) ?_); intro _ _)
  trivial
theorem told_ctr {w : World} {mean : ExcName → Option Value} {mg mb : Str → Option Value} {cur r1 R : Led} {po du gr sm : Addr} {o : Obj} {vh vst vc va vb : Value} {kd ww x y : Str} {tk tw tx : Tok} {cl : Bool} {k1 k2 : Nat} {fg fs : List Value} {gs ss : List Dat} {Da Db : Dat}
    (hp0 : (po, o) ∈ cur) (hd : IsPen w o vh vst kd tk vc cl du gr sm ww tw) (P1 : Pick (gr, listOf fg.toArray k1) cur r1) (P2 : Pick (sm, listOf fs.toArray k2) r1 R) (q1 : @Ne Nat gr sm) (hA : Apart R [gr, sm])
    (hpo : (po, o) ∈ R) (hg : TAll R fg gs) (hs : TAll R fs ss) (hl : gs.length ≤ 900) (hl' : ss.length ≤ 900) (ha : TIn R va Da) (hb : TIn R vb Db) (hx : Txt.lower x = y) (hf : Builtin.Str.tooLong (Txt.lower x).length = false) :
    Ctr w mean mg mb 279 4 60 [.ref po, .str x tx, va, vb] cur (fun r news' => r = .none ∧ ToldPost gr sm R (gs ++ [Dat.tuple [.str x, Da]]) (ss ++ [Dat.tuple [.str y, Db]]) news') := by
  refine Ctr.weaken (news := (gr, listOf fg.toArray k1) :: (sm, listOf fs.toArray k2) :: R) (fun p hp => P1.sub _ (Sub.cons P2.sub _ hp)) ?_
  have hlen := hg.length
  have hlen' := hs.length
  (have hfill : True := fillT (K := Mine.hd.heap_1) (l := PySem.Challenge.rw_nu0013_01) (by k_fill; exact trivial); clear hfill; k_dflt (refine' Ctr.body ?k6 ?k7 ?k9 ?kB ?c2 ?c3 ?c4 ?c5 ?_; (case k6 => k_is); (case k7 => k_is); (case k9 => exact fun s X => BindsTo.of_eq rfl); (case kB => exact locs rfl); (case c2 => exact rfl); (case c3 => exact rfl); (case c4 => exact rfl); (case c5 => decide)); intro dp un gd A₀ base g outer L hp gens drawn toks os QQ B X T F N hd1 hd2 hret hnx; (try dsimp only); (try k_fold))
  repeat' (first | (k_unfold; (try dsimp only)) | (k_end; (fail_if_success (with_reducible show QQ _ _)); wrow_close) | walk1 | (dsimp only; walk1) | (leave1; walk_say "STEP leave1"; try dsimp only) | fail "no step")
  all_goals exact hnx _ _ _ _ _ (by k_asm) (by k_asm) (ToldPost.mk (by kp_flats) (by kp_flats) (by kct_strs) (by kct_strs))
theorem lowM : Txt.lower (Str.ofString "M") = Str.ofString "m" := by decide +kernel
theorem fitM : Builtin.Str.tooLong (Txt.lower (Str.ofString "M")).length = false := by decide +kernel
theorem lowL : Txt.lower (Str.ofString "L") = Str.ofString "l" := by decide +kernel
theorem fitL : Builtin.Str.tooLong (Txt.lower (Str.ofString "L")).length = false := by decide +kernel
theorem lowH : Txt.lower (Str.ofString "H") = Str.ofString "h" := by decide +kernel
theorem fitH : Builtin.Str.tooLong (Txt.lower (Str.ofString "H")).length = false := by decide +kernel
theorem lowV : Txt.lower (Str.ofString "V") = Str.ofString "v" := by decide +kernel
theorem fitV : Builtin.Str.tooLong (Txt.lower (Str.ofString "V")).length = false := by decide +kernel
theorem lowC : Txt.lower (Str.ofString "C") = Str.ofString "c" := by decide +kernel
theorem fitC : Builtin.Str.tooLong (Txt.lower (Str.ofString "C")).length = false := by decide +kernel
theorem lowS : Txt.lower (Str.ofString "S") = Str.ofString "s" := by decide +kernel
theorem fitS : Builtin.Str.tooLong (Txt.lower (Str.ofString "S")).length = false := by decide +kernel
theorem lowQ : Txt.lower (Str.ofString "Q") = Str.ofString "q" := by decide +kernel
theorem fitQ : Builtin.Str.tooLong (Txt.lower (Str.ofString "Q")).length = false := by decide +kernel
theorem lowT : Txt.lower (Str.ofString "T") = Str.ofString "t" := by decide +kernel
theorem fitT : Builtin.Str.tooLong (Txt.lower (Str.ofString "T")).length = false := by decide +kernel
theorem lowA : Txt.lower (Str.ofString "A") = Str.ofString "a" := by decide +kernel
theorem fitA : Builtin.Str.tooLong (Txt.lower (Str.ofString "A")).length = false := by decide +kernel
theorem lowZ : Txt.lower (Str.ofString "Z") = Str.ofString "z" := by decide +kernel
theorem fitZ : Builtin.Str.tooLong (Txt.lower (Str.ofString "Z")).length = false := by decide +kernel
theorem wdJ35N23x40 : True := by
  k_with "call ref" => (k_here; (with_reducible show wpAny _ _ (call (Value.ref 279) _) _ _ _); k_dflt (refine' Ctr.useTold (told_ctr ?hp0 ?hd ?P1 ?P2 ?q1 ?hA ?hpo ?hg ?hs ?hl ?hl' ?ha ?hb ?hx ?hf) ?k1 ?k2 ?k3 ?k4 ?k5 ?k6 ?k7 ?k8 ?CR9 ?hS9 ?hc9 ?_; (case k1 => k_asm); (case k2 => k_asm); (case k3 => k_asm); (case k4 => k_asm); (case k5 => k_asm); (case k6 => first | exact rfl | assumption); (case hp0 => keq_rows); (case hd => with_reducible assumption); (case P1 => k_upd); (case P2 => k_upd); (case q1 => k_ne); (case hA => k_upd); (case hpo => keq_rows); (case hg => kct_strs); (case hs => kct_strs); (case hl => k_extra "len9"); (case hl' => k_extra "len9"); (case ha => keq_hits); (case hb => keq_hits); (case hx => first | with_reducible exact lowM | with_reducible exact lowL | with_reducible exact lowH | with_reducible exact lowV | with_reducible exact lowC | with_reducible exact lowS | with_reducible exact lowQ | with_reducible exact lowT | with_reducible exact lowA | with_reducible exact lowZ); (case hf => first | with_reducible exact fitM | with_reducible exact fitL | with_reducible exact fitH | with_reducible exact fitV | with_reducible exact fitC | with_reducible exact fitS | with_reducible exact fitQ | with_reducible exact fitT | with_reducible exact fitA | with_reducible exact fitZ); (case k7 => first | exact room9 hd1 rfl | ktr_room); (case k8 => first | exact room9 hd2 rfl | ktr_units); (case CR9 => k_upd); (case hS9 => ((try dsimp only [List.map]); k_upd)); (case hc9 => k_upd)); k_dflt (intro k9' m9' fg9 fs9 T9 h9 tk9 F9 N9 hAp9 hSR9 hfg9 hfs9; dsimp only [List.map, List.cons_append, List.nil_append] at hAp9 N9); (try dsimp only); (try k_sweep); (try k_fold))
  trivial
theorem wdJ36N22x41 : True := by
  k_with "subscriptTail" => (k_here; (with_reducible show wpAny _ _ (subscriptTail _ _ (Value.ref _) (Value.int _ _)) _ _ _); k_dflt (refine item_tupleT (j := 0) (News.isTup (by k_asm) (by keq_rows)) (by decide) (by decide) (by exact seqIdx_first) (by exact get_first) ?_; k_whole))
  trivial
theorem mv_le1 (cl b : Bool) (d : Dat) : (if cl && b then [d] else []).length ≤ 1 := by split <;> simp
noncomputable def PutMid (g : Heap) (L : Addr) (m : Str → Option Value) (gens : Array GenState) (drawn : Drawn) (os : OsState) (po du : Addr) (o : Obj) (R : Led) (ds : List Dat) (fl : Flow) (s' : Shared) : Prop :=
  fl = .next ∧ ∃ (k' : Nat) (fv' : List Value) (T9 : Led) (h' : Heap) (tk' : Nat), s' = ⟨h', gens, drawn, tk', os⟩ ∧ Fr g L h' m ∧ News g L h' ((po, o) :: (du, listOf fv'.toArray k') :: T9) ∧ Apart T9 [po, du] ∧ Sub R T9 ∧ TAll T9 fv' ds
theorem PutMid.mk {g h' : Heap} {L : Addr} {m : Str → Option Value} {gens : Array GenState} {drawn : Drawn} {tk' : Nat} {os : OsState} {po du : Addr} {o : Obj} {R r1 T9 all : Led} {ds : List Dat} {k' : Nat} {fv' : List Value} (F : Fr g L h' m) (N : News g L h' all) (P1 : Pick (po, o) all r1) (P2 : Pick (du, listOf fv'.toArray k') r1 T9) (hA : Apart T9 [po, du]) (hR : Sub R T9) (hf : TAll T9 fv' ds) :
    PutMid g L m gens drawn os po du o R ds .next ⟨h', gens, drawn, tk', os⟩ := ⟨rfl, _, _, _, _, _, rfl, F, fun p hp => N p (P1.sub _ (Sub.cons P2.sub _ hp)), hA, hR, hf⟩
theorem put_join {prog : Program} {w : World} {A : Around} {E : Value → Shared → Prop} {t : Sem Flow} {Q : Flow → Shared → Prop} {g h : Heap} {L : Addr} {m : Str → Option Value} {gens : Array GenState} {drawn : Drawn} {tk : Nat} {os : OsState} {po du : Addr} {o : Obj} {R : Led} {fv : List Value} {k : Nat} {ds : List Dat} {cl b : Bool} {D : Dat}
    (nF : Fr g L h m) (nN : News g L h ((po, o) :: (du, listOf fv.toArray k) :: R)) (hl : ds.length ≤ 900)
    (h1 : wpAny (model prog w) A t (PutMid g L m gens drawn os po du o R (ds ++ (if cl && b then [D] else []))) E ⟨h, gens, drawn, tk, os⟩)
    (h2 : ∀ (k' : Nat) (fv' : List Value) (T9 : Led) (h' : Heap) (tk' : Nat), Fr g L h' m → News g L h' ((po, o) :: (du, listOf fv'.toArray k') :: T9) → Apart T9 [po, du] → Sub R T9 → TAll T9 fv' (ds ++ (if cl && b then [D] else [])) → fv'.length ≤ 950 → Q .next ⟨h', gens, drawn, tk', os⟩) :
    wpAny (model prog w) A t Q E ⟨h, gens, drawn, tk, os⟩ := by
  refine wpAny_mono h1 ?_ (fun _ _ h => h)
  rintro fl s' ⟨rfl, k', fv', T9, h', tk', rfl, a, c, d, e, f⟩
  refine h2 k' fv' T9 h' tk' a c d e f ?_
  have := f.length
  have := mv_le1 cl b D
  rw [List.length_append] at *
  omega
theorem wdJ36N22x42 : True := by
  k_with "exec If BoolOp cons nil" => (k_here; (fail_if_success (have j9 := joined9)); (with_reducible show wpAny _ _ (exec (Stmt.If (Expr.BoolOp _ _ _) _ _ _) _) _ _ _); refine stopAt ?_)
  trivial
theorem lput_ctr {w : World} {mean : ExcName → Option Value} {mg mb : Str → Option Value} {cur r1 R : Led} {po du gr sm sa : Addr} {o : Obj} {vh vst vc ve : Value} {kd ww kn nm : Str} {tk tw tn ts : Tok} {cl b c : Bool} {k ns : Nat} {mid : List Value} {hx hy : Int} {fv : List Value} {ds : List Dat} {D : Dat}
    (P1 : Pick (po, o) cur r1) (hd : IsPen w o vh vst kd tk vc cl du gr sm ww tw) (P2 : Pick (du, listOf fv.toArray k) r1 R) (q1 : @Ne Nat po du) (hA : Apart R [po, du])
    (hsa : (sa, tupO (.str nm ts :: mid) ns) ∈ R) (hh : TIn R vh (rawp hx hy)) (hf : TAll R fv ds) (hl : ds.length ≤ 900) (hD : TIn R (.ref sa) D) (hb : (nm == Str.ofString "move") = b) (hc : (nm == Str.ofString "close") = c) :
    Ctr w mean mg mb 272 4 60 [.ref po, .ref sa, ve, .str kn tn] cur (fun r news' => r = .none ∧ LputPost w po du gr sm ve vst vc kn tn c (if kn = Str.ofString "" then ww else kn) R (ds ++ (if cl && !b then [Dat.tuple [.str (Str.ofString "move"), pt hx hy]] else []) ++ [D]) news') := by
  refine Ctr.weaken (news := (po, o) :: (du, listOf fv.toArray k) :: R) (fun p hp => P1.sub _ (Sub.cons P2.sub _ hp)) ?_
  have hlen := hf.length
  subst hc
  (have hfill : True := fillT (K := Mine.hd.heap_1) (l := PySem.Challenge.rw_nu0013_01) (by k_fill; exact trivial); clear hfill; k_dflt (refine' Ctr.body ?k6 ?k7 ?k9 ?kB ?c2 ?c3 ?c4 ?c5 ?_; (case k6 => k_is); (case k7 => k_is); (case k9 => exact fun s X => BindsTo.of_eq rfl); (case kB => exact locs rfl); (case c2 => exact rfl); (case c3 => exact rfl); (case c4 => exact rfl); (case c5 => decide)); intro dp un gd A₀ base g outer L hp gens drawn toks os QQ B X T F N hd1 hd2 hret hnx; (try dsimp only); (try k_fold))
  repeat' (first | (k_unfold; (try dsimp only)) | (k_end; (fail_if_success (with_reducible show QQ _ _)); wrow_close) | walk1 | (dsimp only; walk1) | (leave1; walk_say "STEP leave1"; try dsimp only) | fail "no step")
  unfold Stop
  refine put_join (po := po) (du := du) (o := o) (R := R) (fv := fv) (k := k) (ds := ds) (cl := cl) (b := !b) (D := Dat.tuple [.str (Str.ofString "move"), pt hx hy]) (by assumption) (by assumption) hl ?_ ?_
  · have joined9 := True.intro
    cases cl
    · repeat' (first | (k_unfold; (try dsimp only)) | (k_end; (fail_if_success (with_reducible show QQ _ _)); wrow_close) | walk1 | (dsimp only; walk1) | (leave1; walk_say "STEP leave1"; try dsimp only) | fail "no step")
      exact PutMid.mk (by k_asm) (by k_asm) (by k_upd) (by k_upd) (by k_upd) (by kp_flats) (by simp only [Bool.false_and, Bool.false_eq_true, if_false, List.append_nil]; kct_strs)
    · repeat' (first | (k_unfold; (try dsimp only)) | (k_end; (fail_if_success (with_reducible show QQ _ _)); wrow_close) | walk1 | (dsimp only; walk1) | (leave1; walk_say "STEP leave1"; try dsimp only) | fail "no step")
      all_goals exact PutMid.mk (by k_asm) (by k_asm) (by k_upd) (by k_upd) (by k_upd) (by kp_flats) (by first
      | (have hq : b = false := hb.symm.trans (bne_t (by assumption)); simp only [hq, Bool.true_and, Bool.not_false, if_true]; kct_strs)
      | (have hq : b = true := hb.symm.trans (bne_f (by assumption)); simp only [hq, Bool.true_and, Bool.not_true, Bool.false_eq_true, if_false, List.append_nil]; kct_strs))
  · have joined9 := True.intro
    intro k' fv' T9 h9 tk9 F9 N9 hAp9 hSR9 hf9 hln9
    (try dsimp only)
    (try k_sweep)
    repeat' (first | (k_unfold; (try dsimp only)) | (k_end; (fail_if_success (with_reducible show QQ _ _)); wrow_close) | walk1 | (dsimp only; walk1) | (leave1; walk_say "STEP leave1"; try dsimp only) | fail "no step")
    all_goals exact hnx _ _ _ _ _ (by k_asm) (by k_asm) (LputPost.mk (by first
      | (rw [word_t (by with_reducible assumption)]; with_reducible assumption)
      | (rw [word_f (by with_reducible assumption)]; with_reducible assumption)) (by kp_flats) (by kp_flats) (by kct_strs))
theorem wdJ36N22x43 : True := by
  k_with "call ref" => (k_here; (with_reducible show wpAny _ _ (call (Value.ref 272) _) _ _ _); k_dflt (refine' Ctr.useLput (lput_ctr (b := false) (c := false) ?P1 ?hd ?P2 ?q1 ?hA ?hsa ?hh ?hf ?hl ?hD ?hb ?hc) ?k1 ?k2 ?k3 ?k4 ?k5 ?k6 ?k7 ?k8 ?CR9 ?hS9 ?hc9 ?_; (case k1 => k_asm); (case k2 => k_asm); (case k3 => k_asm); (case k4 => k_asm); (case k5 => k_asm); (case k6 => first | exact rfl | assumption); (case P1 => k_upd); (case hd => with_reducible assumption); (case P2 => k_upd); (case q1 => k_ne); (case hA => k_upd); (case hsa => keq_rows); (case hh => keq_hits); (case hf => kct_strs); (case hl => k_extra "len9"); (case hD => keq_hits); (case hb => decide); (case hc => decide); (case k7 => first | exact room9 hd1 rfl | ktr_room); (case k8 => first | exact room9 hd2 rfl | ktr_units); (case CR9 => k_upd); (case hS9 => ((try dsimp only [List.map]); k_upd)); (case hc9 => k_upd)); k_dflt (intro o9 k9' fv9 tw9 T9 h9 tk9 F9 N9 hAp9 hSR9 hd9 hf9; dsimp only [List.map, List.cons_append, List.nil_append] at hAp9 N9); (try dsimp only); (try k_sweep); (try k_fold))
  k_with "call ref" => (k_here; (with_reducible show wpAny _ _ (call (Value.ref 272) _) _ _ _); k_dflt (refine' Ctr.useLput (lput_ctr (b := true) (c := false) ?P1 ?hd ?P2 ?q1 ?hA ?hsa ?hh ?hf ?hl ?hD ?hb ?hc) ?k1 ?k2 ?k3 ?k4 ?k5 ?k6 ?k7 ?k8 ?CR9 ?hS9 ?hc9 ?_; (case k1 => k_asm); (case k2 => k_asm); (case k3 => k_asm); (case k4 => k_asm); (case k5 => k_asm); (case k6 => first | exact rfl | assumption); (case P1 => k_upd); (case hd => with_reducible assumption); (case P2 => k_upd); (case q1 => k_ne); (case hA => k_upd); (case hsa => keq_rows); (case hh => keq_hits); (case hf => kct_strs); (case hl => k_extra "len9"); (case hD => keq_hits); (case hb => decide); (case hc => decide); (case k7 => first | exact room9 hd1 rfl | ktr_room); (case k8 => first | exact room9 hd2 rfl | ktr_units); (case CR9 => k_upd); (case hS9 => ((try dsimp only [List.map]); k_upd)); (case hc9 => k_upd)); k_dflt (intro o9 k9' fv9 tw9 T9 h9 tk9 F9 N9 hAp9 hSR9 hd9 hf9; dsimp only [List.map, List.cons_append, List.nil_append] at hAp9 N9); (try dsimp only); (try k_sweep); (try k_fold))
  k_with "call ref" => (k_here; (with_reducible show wpAny _ _ (call (Value.ref 272) _) _ _ _); k_dflt (refine' Ctr.useLput (lput_ctr (b := false) (c := true) ?P1 ?hd ?P2 ?q1 ?hA ?hsa ?hh ?hf ?hl ?hD ?hb ?hc) ?k1 ?k2 ?k3 ?k4 ?k5 ?k6 ?k7 ?k8 ?CR9 ?hS9 ?hc9 ?_; (case k1 => k_asm); (case k2 => k_asm); (case k3 => k_asm); (case k4 => k_asm); (case k5 => k_asm); (case k6 => first | exact rfl | assumption); (case P1 => k_upd); (case hd => with_reducible assumption); (case P2 => k_upd); (case q1 => k_ne); (case hA => k_upd); (case hsa => keq_rows); (case hh => keq_hits); (case hf => kct_strs); (case hl => k_extra "len9"); (case hD => keq_hits); (case hb => decide); (case hc => decide); (case k7 => first | exact room9 hd1 rfl | ktr_room); (case k8 => first | exact room9 hd2 rfl | ktr_units); (case CR9 => k_upd); (case hS9 => ((try dsimp only [List.map]); k_upd)); (case hc9 => k_upd)); k_dflt (intro o9 k9' fv9 tw9 T9 h9 tk9 F9 N9 hAp9 hSR9 hd9 hf9; dsimp only [List.map, List.cons_append, List.nil_append] at hAp9 N9); (try dsimp only); (try k_sweep); (try k_fold))
  trivial
theorem wdJ37N21x44 : True := by
  k_with "exec For Tuple Name cons nil" => (k_here; (rename Fr _ _ _ _ => lF'); (with_unfolding_all refine For_turns lF' ?_); k_whole)
  k_with "pyIter ref" => ((with_reducible show wpAny _ _ (pyIter (Value.ref _)) (fun it s₂ => TurnsAt _ _ _ _ _ _ _ _ _ it s₂) _ _); refine stopAt ?_)
  k_with "UnrPostW" => (dsimp only [UnrPostW])
  k_with "UnrEndW" => (refine stopAt ?_)
  trivial
theorem lnum_ind {P : List Itm → (Str → Option Value) → Led → Prop} {us : List Value} {p0 : Int × Int} {ps : List (Int × Int)} {u0 : Value} {news0 : Led} {m0 : Str → Option Value} (I : Addr) (h : TAll news0 us (raws ps)) (hln : ps.length ≤ 9)
    (kz : ∀ (fa : Addr) (m : Str → Option Value) (L : Led), m (Str.ofString "found") = some (.ref fa) → Sub news0 L → (∀ q ∈ L, q.1 ≠ I) → TIn L (.ref fa) (.tuple (flat (p0 :: ps))) → P [] m L)
    (kt : ∀ (v : Value) (x y : Int) (r : List Value) (d : Dat) (ds : List Dat) (fa : Addr) (m : Str → Option Value) (L : Led), TIn news0 v (rawp x y) → m (Str.ofString "found") = some (.ref fa) → Sub news0 L → (∀ q ∈ L, q.1 ≠ I) → TIn L (.ref fa) (.tuple (d :: ds)) → ds.length ≤ 100 →
      (∀ fa' m' L', m' (Str.ofString "found") = some (.ref fa') → Sub news0 L' → (∀ q ∈ L', q.1 ≠ I) → TIn L' (.ref fa') (.tuple ((d :: ds) ++ [fr x, fr y])) → P (r.map Itm.val) m' L') → P (Itm.val v :: r.map Itm.val) m L)
    (kM : (∀ fa' m' L', m' (Str.ofString "found") = some (.ref fa') → Sub news0 L' → (∀ q ∈ L', q.1 ≠ I) → TIn L' (.ref fa') (.tuple [fr p0.1, fr p0.2]) → P (us.map Itm.val) m' L') → P (Itm.val u0 :: us.map Itm.val) m0 news0) : P ((u0 :: us).map Itm.val) m0 news0 := by
  have key : ∀ (r : List (Int × Int)) (us : List Value) (dn : List (Int × Int)) (fa : Addr) (m : Str → Option Value) (L : Led), p0 :: ps = p0 :: (dn ++ r) → TAll news0 us (raws r) → m (Str.ofString "found") = some (.ref fa) → Sub news0 L → (∀ q ∈ L, q.1 ≠ I) → TIn L (.ref fa) (.tuple (flat (p0 :: dn))) → P (us.map Itm.val) m L := by
    intro r
    induction r with
    | nil =>
      intro us dn fa m L e ht hm hs ho hf
      cases ht
      rw [List.append_nil] at e
      exact kz fa m L hm hs ho (e ▸ hf)
    | cons p r ih =>
      intro us dn fa m L e ht hm hs ho hf
      cases ht with
      | cons h1 h2 =>
        have e1 : ps.length = dn.length + (r.length + 1) := by have := congrArg List.length e; simp only [List.length_cons, List.length_append] at this; omega
        refine kt _ p.1 p.2 _ _ (fr p0.2 :: flat dn) fa m L h1 hm hs ho hf (by show (flat dn).length + 1 ≤ 100; rw [flat_len]; omega) fun fa' m' L' a b c d => ih _ (dn ++ [p]) fa' m' L' (by rw [e, List.append_assoc]; rfl) h2 a b c ?_
        have e2 : flat (p0 :: (dn ++ [p])) = (fr p0.1 :: (fr p0.2 :: flat dn)) ++ [fr p.1, fr p.2] := by show fr p0.1 :: fr p0.2 :: flat (dn ++ [p]) = _; rw [flat_app]; rfl
        rw [e2]; exact d
  exact kM fun fa' m' L' a b c d => key ps us [] fa' m' L' rfl h a b c d
theorem my_addS {prog : Program} {w : World} {A : Around} {E : Value → Shared → Prop} {s : Shared} {h₀ : Heap} {L a b : Addr} {m : Str → Option Value} {news T : Led} {v : Value} {vs : List Value} {n : Nat} {d : Dat} {ds : List Dat} {Q : Value → Shared → Prop}
    (F : Fr h₀ L s.heap m) (N : News h₀ L s.heap news) (ha : TIn T (.ref a) (.tuple (d :: ds))) (hs : Sub T news) (hb : (b, tupO (v :: vs) n) ∈ news) (hz : ds.length ≤ 100) (hz' : Nat.ble vs.length 100 = true)
    (h : ∀ D h' ws, TAll T ws (d :: ds) → Fr h₀ L h' m → News h₀ L h' ((D, tupO (ws ++ (v :: vs)) 0) :: news) → (∀ p ∈ news, p.1 < D) → Q (.ref D) { s with heap := h' }) : wpAny (model prog w) A (binaryOp .Add (.ref a) (.ref b)) Q E s := by
  cases ha with
  | @tuple _ ws k _ hm r =>
    have hlen := r.length
    have hz2 := Nat.le_of_ble_eq_true hz'
    refine kde_addT F N (its := ws.toArray) (its2 := (v :: vs).toArray) (zs := ws ++ (v :: vs)) (News.isTup N (hs _ hm)) (News.isTup N hb) (by simp; intro e; subst e; simp at hlen) (by simp) ?_ (by simp) fun D h' F' N' l => ?_
    · simp only [List.length_cons, List.length_append] at hlen ⊢; omega
    · exact h D h' ws r F' N' l
theorem wdJ37N21x45 : True := by
  k_with "binaryOp Add ref ref" => (k_here; (with_reducible show wpAny _ _ (binaryOp _ (Value.ref _) (Value.ref _)) _ _ _); k_dflt (refine my_addS (by k_asm) (by k_asm) (by with_reducible assumption) (by kp_flats) (by keq_rows) (by with_reducible assumption) rfl ?_); intro D' h' ws' hw' F' N' l1; (try k_sweep))
  trivial
theorem lnumC_ctr {w : World} {mean : ExcName → Option Value} {mg mb : Str → Option Value} {news : Led} {pl : Addr} {v : Value} {us : List Value} {p0 : Int × Int} {ps : List (Int × Int)} {n : Nat}
    (hp : (pl, listOf (v :: us).toArray n) ∈ news) (hv : TIn news v (rawp p0.1 p0.2)) (h : TAll news us (raws ps)) (hln : ps.length ≤ 9) :
    Ctr w mean mg mb 251 6 100 [.ref pl] news (fun r news' => Sub news news' ∧ TIn news' r (.tuple (flat (p0 :: ps)))) := by
  obtain ⟨a0, t0, u0, n0, rfl, hm0⟩ := hv.raw_inv
  (have hfill : True := fillT (K := Mine.hd.heap_1) (l := PySem.Challenge.rw_nu0013_01) (by k_fill; exact trivial); clear hfill; k_dflt (refine' Ctr.body ?k6 ?k7 ?k9 ?kB ?c2 ?c3 ?c4 ?c5 ?_; (case k6 => k_is); (case k7 => k_is); (case k9 => exact fun s X => BindsTo.of_eq rfl); (case kB => exact locs rfl); (case c2 => exact rfl); (case c3 => exact rfl); (case c4 => exact rfl); (case c5 => decide)); intro dp un gd A₀ base g outer L hp gens drawn toks os QQ B X T F N hd1 hd2 hret hnx; (try dsimp only); (try k_fold))
  repeat' (first | (k_unfold; (try dsimp only)) | (k_end; (fail_if_success (with_reducible show QQ _ _)); wrow_close) | walk1 | (dsimp only; walk1) | (leave1; walk_say "STEP leave1"; try dsimp only) | fail "no step")
  unfold Stop
  (rename Fr _ _ _ _ => lF)
  (rename News _ _ _ _ => lN)
  k_dflt (refine iter_listTurns (vs := .ref a0 :: us) rfl lF lN (by keq_rows) rfl rfl ?_)
  intro I lI
  k_lt lI
  refine' lnum_ind (P := ItemsRest _ _ _ _ _ _ _ _ _ _ _ _) (p0 := p0) (ps := ps) I (by kct_strs) hln ?lz ?lt ?lM
  case lM =>
    clear lF lN
    intro IH
    refine ItemsRest.val ?_
    intro h5 tk5 F5
    refine AllObj.cons (fun o5 hc5 => ?_)
    refine AllObj.nil (fun N5 => ?_)
    dsimp only [List.cons_append, List.nil_append] at N5
    skip
    repeat' (first | (k_unfold; (try dsimp only)) | (k_end; (fail_if_success (with_reducible show QQ _ _)); wrow_close) | walk1 | (dsimp only; walk1) | (leave1; walk_say "STEP leave1"; try dsimp only) | fail "no step")
    unfold Stop
    k_dflt (refine' my_unrEndW ?F ?N ?P ?o ?_; (case F => k_asm); (case N => k_asm); (case P => k_upd); (case o => k_all))
    refine ⟨⟨by keq_rows, trivial⟩, ?_⟩
    exact IH _ _ _ rfl (by kp_flats) (by k_all) (by keq_hits)
  case lt =>
    clear lF lN
    intro v x y r d ds fa m7 L7 hv7 hm7 hs7 ho7 hf7 hd7 IH
    refine hv7.raw_elim fun a1 t1 u1 n1 hm1 ehv => ?_
    subst ehv
    refine ItemsRest.val ?_
    intro h5 tk5 F5
    rw [map_keep hm7] at F5
    refine AllObj.cons (fun o5 hc5 => ?_)
    refine AllObj.nil (fun N5 => ?_)
    dsimp only [List.cons_append, List.nil_append] at N5
    skip
    repeat' (first | (k_unfold; (try dsimp only)) | (k_end; (fail_if_success (with_reducible show QQ _ _)); wrow_close) | walk1 | (dsimp only; walk1) | (leave1; walk_say "STEP leave1"; try dsimp only) | fail "no step")
    unfold Stop
    k_dflt (refine' my_unrEndW ?F ?N ?P ?o ?_; (case F => k_asm); (case N => k_asm); (case P => k_upd); (case o => k_all))
    refine ⟨⟨by keq_rows, trivial⟩, ?_⟩
    exact IH _ _ _ rfl (by kp_flats) (by k_all) (by keq_hits)
  case lz =>
    clear lF lN
    intro fa m7 L7 hm7 hs7 ho7 hf7
    refine ItemsRest.zero ?_
    intro h5 tk5 F5 N5
    rw [map_keep hm7] at F5
    skip
    repeat' (first | (k_unfold; (try dsimp only)) | (k_end; (fail_if_success (with_reducible show QQ _ _)); wrow_close) | walk1 | (dsimp only; walk1) | (leave1; walk_say "STEP leave1"; try dsimp only) | fail "no step")
    exact hret _ _ _ _ _ _ (by k_asm) (by k_asm) ⟨by kp_flats, by keq_hits⟩
theorem lnumN_ctr {w : World} {mean : ExcName → Option Value} {mg mb : Str → Option Value} {news : Led} {pl : Addr} {vs : List Value} {ps : List (Int × Int)} {n : Nat}
    (hp : (pl, listOf vs.toArray n) ∈ news) (h : TAll news vs (raws ps)) (hl : 1 ≤ ps.length ∧ ps.length ≤ 3) :
    Ctr w mean mg mb 251 6 100 [.ref pl] news (fun r news' => Sub news news' ∧ TIn news' r (.tuple (flat ps))) := by
  match ps, hl with
  | [], hl => exact absurd hl.1 (by decide)
  | p0 :: ps, hl => cases h with | cons h1 h2 => exact lnumC_ctr hp h1 h2 (Nat.le_trans (Nat.le_of_succ_le_succ hl.2) (Nat.le_of_ble_eq_true rfl))
theorem lnum1_ctr {w : World} {mean : ExcName → Option Value} {mg mb : Str → Option Value} {news : Led} {pl : Addr} {v1 : Value} {x1 y1 : Int} {n : Nat}
    (hp : (pl, listOf [v1].toArray n) ∈ news) (h1 : TIn news v1 (rawp x1 y1)) :
    Ctr w mean mg mb 251 6 100 [.ref pl] news (fun r news' => Sub news news' ∧ TIn news' r (.tuple [fr x1, fr y1])) := lnumC_ctr (p0 := (x1, y1)) (ps := []) hp h1 .nil (Nat.zero_le _)
theorem wdJ37N21x46 : True := by
  k_with "call ref" => (k_here; (with_reducible show wpAny _ _ (call (Value.ref 251) _) _ _ _); k_dflt (refine' Ctr.useF (lnum1_ctr ?hp ?h1) ?k1 ?k2 ?k3 ?k4 ?k5 ?k6 ?k7 ?k8 ?CR9 ?hS9 ?hc9 ?_; (case k1 => k_asm); (case k2 => k_asm); (case k3 => k_asm); (case k4 => k_asm); (case k5 => k_asm); (case k6 => first | exact rfl | assumption); (case hp => keq_rows); (case h1 => keq_hits); (case k7 => first | exact room9 hd1 rfl | ktr_room); (case k8 => first | exact room9 hd2 rfl | ktr_units); (case CR9 => k_upd); (case hS9 => ((try dsimp only [List.map]); k_upd)); (case hc9 => k_upd)); k_dflt (intro a9 T9 h9 tk9 F9 N9 hAp9 hSR9 hr9; dsimp only [List.map, List.cons_append, List.nil_append] at hAp9 N9); (try dsimp only); (try k_sweep); (try k_fold))
  trivial
noncomputable def W3 (ww : Str) : Prop := ww = Str.ofString "" ∨ ww = Str.ofString "cubic" ∨ ww = Str.ofString "quad"
theorem W3.put {ww kn : Str} (h : W3 ww) (hk : W3 kn) : W3 (if kn = Str.ofString "" then ww else kn) := by
  split
  · exact h
  · exact hk
theorem W3.e : W3 (Str.ofString "") := .inl rfl
theorem W3.c : W3 (Str.ofString "cubic") := .inr (.inl rfl)
theorem W3.q : W3 (Str.ofString "quad") := .inr (.inr rfl)
noncomputable def RNz (T : Led) (kd : Str) (vc : Value) (x y : Int) : Prop := kd ≠ Str.ofString "" → TIn T vc (rawp x y)
theorem RNz.mono {T T' : Led} {kd : Str} {vc : Value} {x y : Int} (hs : Sub T T') (h : RNz T kd vc x y) : RNz T' kd vc x y := fun e => (h e).mono hs
theorem RNz.monoT {T T' : Led} {kd : Str} {vc : Value} {x y : Int} (hs : SubT T T') (h : RNz T kd vc x y) : RNz T' kd vc x y := fun e => (h e).monoT hs
theorem RNz.nul {T : Led} {vc : Value} {x y : Int} : RNz T (Str.ofString "") vc x y := fun e => absurd rfl e
theorem RNz.of {T : Led} {kd : Str} {vc : Value} {x y : Int} (h : TIn T vc (rawp x y)) : RNz T kd vc x y := fun _ => h
noncomputable def LawIn (w : World) (T : Led) (oP : Obj) (du gr sm : Addr) (fd fg fs : List Value) (S : PP) (gs ss : List Dat) : Prop :=
  ∃ (vh vst vc : Value) (tk : Tok) (ww : Str) (tw : Tok), IsPen w oP vh vst S.kd tk vc S.cl du gr sm ww tw ∧ W3 ww ∧ TIn T vh (rawp S.hx S.hy) ∧ TIn T vst (rawp S.sx S.sy) ∧ RNz T S.kd vc S.cx S.cy ∧ TAll T fd S.found ∧ TAll T fg gs ∧ TAll T fs ss
section
variable {w : World} {T T' : Led} {oS oP : Obj} {so po du gr sm : Addr} {fd fg fs : List Value} {S : PP} {gs ss : List Dat}
theorem LawIn.elim (h : LawIn w T oP du gr sm fd fg fs S gs ss) {C : Prop} (k : ∀ (vh vst vc : Value) (tk : Tok) (ww : Str) (tw : Tok), IsPen w oP vh vst S.kd tk vc S.cl du gr sm ww tw → W3 ww → TIn T vh (rawp S.hx S.hy) → TIn T vst (rawp S.sx S.sy) → RNz T S.kd vc S.cx S.cy → TAll T fd S.found → TAll T fg gs → TAll T fs ss → C) : C := by
  obtain ⟨vh, vst, vc, tk, ww, tw, h1, h2, h3, h4, h5, h6, h7, h8⟩ := h
  exact k vh vst vc tk ww tw h1 h2 h3 h4 h5 h6 h7 h8
theorem LawIn.monoT (hs : SubT T T') (h : LawIn w T oP du gr sm fd fg fs S gs ss) : LawIn w T' oP du gr sm fd fg fs S gs ss := by
  obtain ⟨vh, vst, vc, tk, ww, tw, h1, h2, h3, h4, h5, h6, h7, h8⟩ := h
  exact ⟨vh, vst, vc, tk, ww, tw, h1, h2, h3.monoT hs, h4.monoT hs, h5.monoT hs, h6.monoT hs, h7.monoT hs, h8.monoT hs⟩
theorem LawIn.mono (hs : Sub T T') (h : LawIn w T oP du gr sm fd fg fs S gs ss) : LawIn w T' oP du gr sm fd fg fs S gs ss := h.monoT hs.T
theorem LawIn.cls (h : LawIn w T oP du gr sm fd fg fs S gs ss) : NoT oP := by
  obtain ⟨_, _, _, _, _, _, h1, _⟩ := h
  exact cls_pen h1
theorem LawIn.mk {hx hy sx sy cx cy : Int} {kd : Str} {cl : Bool} {found : List Dat} {vh vst vc : Value} {tk : Tok} {ww : Str} {tw : Tok} (hd : IsPen w oP vh vst kd tk vc cl du gr sm ww tw) (hw : W3 ww)
    (h1 : TIn T vh (rawp hx hy)) (h2 : TIn T vst (rawp sx sy)) (h3 : RNz T kd vc cx cy) (h4 : TAll T fd found) (h5 : TAll T fg gs) (h6 : TAll T fs ss) : LawIn w T oP du gr sm fd fg fs ⟨hx, hy, sx, sy, cx, cy, kd, cl, found⟩ gs ss := ⟨_, _, _, _, _, _, hd, hw, h1, h2, h3, h4, h5, h6⟩
noncomputable def LawSt (w : World) (so po du gr sm : Addr) (R : Led) (S : PP) (gs ss : List Dat) (news' : Led) : Prop :=
  ∃ (oS oP : Obj) (k0 k1 k2 : Nat) (fd fg fs : List Value), IsSrc oS ∧ Sub [(so, oS), (po, oP), (du, listOf fd.toArray k0), (gr, listOf fg.toArray k1), (sm, listOf fs.toArray k2)] news' ∧ Sub R news' ∧ LawIn w news' oP du gr sm fd fg fs S gs ss
noncomputable def TurnPost (w : World) (so po du gr sm : Addr) (R : Led) (S : PP) (gs ss : List Dat) (news' : Led) : Prop :=
  ∃ cg cs : Cmd, step S true cs = step S false cg ∧ LawSt w so po du gr sm R (step S false cg) (gs ++ [cg.dat false]) (ss ++ [cs.dat true]) news'
theorem TurnPost.mk {R news' : Led} {k0 k1 k2 : Nat} {cg cs : Cmd} {S' : PP} (ht : step S true cs = step S false cg) (he : step S false cg = S') (hs : IsSrc oS)
    (hU : Sub [(so, oS), (po, oP), (du, listOf fd.toArray k0), (gr, listOf fg.toArray k1), (sm, listOf fs.toArray k2)] news') (hR : Sub R news') (hI : LawIn w news' oP du gr sm fd fg fs S' (gs ++ [cg.dat false]) (ss ++ [cs.dat true])) :
    Value.none = .none ∧ TurnPost w so po du gr sm R S gs ss news' := by
  subst he
  exact ⟨rfl, cg, cs, ht, oS, oP, k0, k1, k2, fd, fg, fs, hs, hU, hR, hI⟩
noncomputable def BeginPost (w : World) (so po du gr sm : Addr) (R : Led) (S : PP) (gs ss : List Dat) (news' : Led) : Prop :=
  ∃ px py : Int, LawSt w so po du gr sm R (step S false (.M px py)) (gs ++ [(Cmd.M px py).dat false]) (ss ++ [(Cmd.M (px - S.hx) (py - S.hy)).dat true]) news'
theorem BeginPost.mk {R news' : Led} {k0 k1 k2 : Nat} {px py : Int} {S' : PP} (he : step S false (.M px py) = S') (hs : IsSrc oS)
    (hU : Sub [(so, oS), (po, oP), (du, listOf fd.toArray k0), (gr, listOf fg.toArray k1), (sm, listOf fs.toArray k2)] news') (hR : Sub R news') (hI : LawIn w news' oP du gr sm fd fg fs S' (gs ++ [(Cmd.M px py).dat false]) (ss ++ [(Cmd.M (px - S.hx) (py - S.hy)).dat true])) :
    Value.none = .none ∧ BeginPost w so po du gr sm R S gs ss news' := by
  subst he
  exact ⟨rfl, px, py, oS, oP, k0, k1, k2, fd, fg, fs, hs, hU, hR, hI⟩
theorem rx_t (S : PP) (x : Int) : S.rx true (x - S.hx) = S.rx false x := by simp only [PP.rx, if_true, Bool.false_eq_true, if_false]; omega
theorem ry_t (S : PP) (y : Int) : S.ry true (y - S.hy) = S.ry false y := by simp only [PP.ry, if_true, Bool.false_eq_true, if_false]; omega
theorem turn_M (S : PP) (x y : Int) : step S true (.M (x - S.hx) (y - S.hy)) = step S false (.M x y) := by simp only [step, rx_t, ry_t]
theorem turn_L (S : PP) (x y : Int) : step S true (.L (x - S.hx) (y - S.hy)) = step S false (.L x y) := by simp only [step, rx_t, ry_t]
theorem turn_H (S : PP) (x : Int) : step S true (.H (x - S.hx)) = step S false (.H x) := by simp only [step, rx_t, ry_t]
theorem turn_V (S : PP) (y : Int) : step S true (.V (y - S.hy)) = step S false (.V y) := by simp only [step, rx_t, ry_t]
theorem turn_C (S : PP) (a b c d x y : Int) : step S true (.C (a - S.hx) (b - S.hy) (c - S.hx) (d - S.hy) (x - S.hx) (y - S.hy)) = step S false (.C a b c d x y) := by simp only [step, rx_t, ry_t]
theorem turn_S (S : PP) (a b x y : Int) : step S true (.S (a - S.hx) (b - S.hy) (x - S.hx) (y - S.hy)) = step S false (.S a b x y) := by simp only [step, rx_t, ry_t]
theorem turn_Q (S : PP) (a b x y : Int) : step S true (.Q (a - S.hx) (b - S.hy) (x - S.hx) (y - S.hy)) = step S false (.Q a b x y) := by simp only [step, rx_t, ry_t]
theorem turn_T (S : PP) (x y : Int) : step S true (.T (x - S.hx) (y - S.hy)) = step S false (.T x y) := by simp only [step, rx_t, ry_t]
theorem turn_A (S : PP) (rx ry tn lg sw x y : Int) : step S true (.A rx ry tn lg sw (x - S.hx) (y - S.hy)) = step S false (.A rx ry tn lg sw x y) := by simp only [step, rx_t, ry_t]
theorem turn_Z (S : PP) : step S true .Z = step S false .Z := rfl
theorem st_M (S : PP) (x y : Int) : step S false (.M x y) = ⟨x, y, x, y, S.cx, S.cy, Str.ofString "", false, S.found ++ (if S.cl && !true then [Dat.tuple [.str (Str.ofString "move"), pt S.hx S.hy]] else []) ++ [Dat.tuple [.str (Str.ofString "move"), pt x y]]⟩ := rfl
theorem st_L (S : PP) (x y : Int) : step S false (.L x y) = ⟨x, y, S.sx, S.sy, S.cx, S.cy, Str.ofString "", false, S.found ++ (if S.cl && !false then [Dat.tuple [.str (Str.ofString "move"), pt S.hx S.hy]] else []) ++ [Dat.tuple [.str (Str.ofString "line"), pt x y]]⟩ := rfl
theorem st_H (S : PP) (x : Int) : step S false (.H x) = ⟨x, S.hy, S.sx, S.sy, S.cx, S.cy, Str.ofString "", false, S.found ++ (if S.cl && !false then [Dat.tuple [.str (Str.ofString "move"), pt S.hx S.hy]] else []) ++ [Dat.tuple [.str (Str.ofString "line"), pt x S.hy]]⟩ := rfl
theorem st_V (S : PP) (y : Int) : step S false (.V y) = ⟨S.hx, y, S.sx, S.sy, S.cx, S.cy, Str.ofString "", false, S.found ++ (if S.cl && !false then [Dat.tuple [.str (Str.ofString "move"), pt S.hx S.hy]] else []) ++ [Dat.tuple [.str (Str.ofString "line"), pt S.hx y]]⟩ := rfl
theorem st_C (S : PP) (a b c d x y : Int) : step S false (.C a b c d x y) = ⟨x, y, S.sx, S.sy, c, d, Str.ofString "cubic", false, S.found ++ (if S.cl && !false then [Dat.tuple [.str (Str.ofString "move"), pt S.hx S.hy]] else []) ++ [Dat.tuple [.str (Str.ofString "cubic"), pt a b, pt c d, pt x y]]⟩ := rfl
theorem st_S (S : PP) (a b x y : Int) : step S false (.S a b x y) = ⟨x, y, S.sx, S.sy, a, b, Str.ofString "cubic", false, S.found ++ (if S.cl && !false then [Dat.tuple [.str (Str.ofString "move"), pt S.hx S.hy]] else []) ++ [Dat.tuple [.str (Str.ofString "cubic"), pt (S.mx (Str.ofString "cubic")) (S.my (Str.ofString "cubic")), pt a b, pt x y]]⟩ := rfl
theorem st_Q (S : PP) (a b x y : Int) : step S false (.Q a b x y) = ⟨x, y, S.sx, S.sy, a, b, Str.ofString "quad", false, S.found ++ (if S.cl && !false then [Dat.tuple [.str (Str.ofString "move"), pt S.hx S.hy]] else []) ++ [Dat.tuple [.str (Str.ofString "quad"), pt a b, pt x y]]⟩ := rfl
theorem st_T (S : PP) (x y : Int) : step S false (.T x y) = ⟨x, y, S.sx, S.sy, S.mx (Str.ofString "quad"), S.my (Str.ofString "quad"), Str.ofString "quad", false, S.found ++ (if S.cl && !false then [Dat.tuple [.str (Str.ofString "move"), pt S.hx S.hy]] else []) ++ [Dat.tuple [.str (Str.ofString "quad"), pt (S.mx (Str.ofString "quad")) (S.my (Str.ofString "quad")), pt x y]]⟩ := rfl
theorem st_Z (S : PP) : step S false .Z = ⟨S.sx, S.sy, S.sx, S.sy, S.cx, S.cy, Str.ofString "", true, S.found ++ (if S.cl && !false then [Dat.tuple [.str (Str.ofString "move"), pt S.hx S.hy]] else []) ++ [Dat.tuple [.str (Str.ofString "close")]]⟩ := by
  cases h : S.cl <;> simp only [step, h, Bool.false_and, Bool.true_and, Bool.not_false, Bool.false_eq_true, if_false, if_true]
theorem st_A0 (S : PP) (rx ry tn lg sw x y : Int) (h : x = S.hx ∧ y = S.hy) : step S false (.A rx ry tn lg sw x y) = ⟨S.hx, S.hy, S.sx, S.sy, S.cx, S.cy, Str.ofString "", S.cl, S.found⟩ := if_pos h
theorem st_A1 (S : PP) (rx ry tn lg sw x y : Int) (h : ¬ (x = S.hx ∧ y = S.hy)) (h' : absI rx = 0 ∨ absI ry = 0) : step S false (.A rx ry tn lg sw x y) = ⟨x, y, S.sx, S.sy, S.cx, S.cy, Str.ofString "", false, S.found ++ (if S.cl && !false then [Dat.tuple [.str (Str.ofString "move"), pt S.hx S.hy]] else []) ++ [Dat.tuple [.str (Str.ofString "line"), pt x y]]⟩ := (if_neg h).trans (if_pos h')
theorem st_A2 (S : PP) (rx ry tn lg sw x y : Int) (h : ¬ (x = S.hx ∧ y = S.hy)) (h' : ¬ (absI rx = 0 ∨ absI ry = 0)) : step S false (.A rx ry tn lg sw x y) = ⟨x, y, S.sx, S.sy, S.cx, S.cy, Str.ofString "", false, S.found ++ (if S.cl && !false then [Dat.tuple [.str (Str.ofString "move"), pt S.hx S.hy]] else []) ++ [Dat.tuple [.str (Str.ofString "arc"), fr (absI rx), fr (absI ry), fr tn, .bool (lg == 1), .bool (sw == 1), pt x y]]⟩ := (if_neg h).trans (if_neg h')
end
theorem Ctr.useTurn {w : World} {mean : ExcName → Option Value} {mg mb : Str → Option Value} {f : Addr} {dm um : Nat} {vs : List Value} {news R k T0 qq : Led} {so po du gr sm : Addr} {S : PP} {gs ss : List Dat}
    (C : Ctr w mean mg mb f dm um vs news (fun r news' => r = .none ∧ TurnPost w so po du gr sm R S gs ss news')) {dp un : Nat} {gd : Option (List Code)} {cn : Str} {cs : Scope} {a₀ : Addr} {ccd : Value} {cl₀ : List (Str × Addr)} {outer : List Env} {A₀ : Around} {base h₀ hp : Heap} {gens : Array GenState} {drawn : Drawn} {toks : Nat} {os : OsState} {L : Addr} {m : Str → Option Value} {Q E : Value → Shared → Prop}
    (B : Below A₀ base outer h₀) (F : Fr h₀ L hp m) (X : (hd.heap_1 w.params).In h₀) (N : News h₀ L hp news) (T : Top qv (looseW qv [Str.ofString "fraction"]) mean mg mb h₀) (hk : cs.kind = .function) (h1 : dp + dm < recursionLimit) (h2 : un + um < cLine)
    (CR : Core R k T0 qq) (hS : Apart T0 (so :: po :: du :: gr :: sm :: k.map (·.1))) (hc : NoTup k)
    (ret : ∀ (cg c' : Cmd) (oS oP : Obj) (k0 k1 k2 : Nat) (fd fg fs : List Value) (T9 : Led) (h' : Heap) (tk9 : Nat), Fr h₀ L h' m → News h₀ L h' ((so, oS) :: (po, oP) :: (du, listOf fd.toArray k0) :: (gr, listOf fg.toArray k1) :: (sm, listOf fs.toArray k2) :: (k ++ T9)) → Apart T9 (so :: po :: du :: gr :: sm :: k.map (·.1)) → Sub qq T9 → step S true c' = step S false cg → IsSrc oS → LawIn w T9 oP du gr sm fd fg fs (step S false cg) (gs ++ [cg.dat false]) (ss ++ [c'.dat true]) → Q .none ⟨h', gens, drawn, tk9, os⟩) :
    wpAny (model PySem.Challenge.rw_nu0013_01.prog w) (ktrTop dp un gd cn cs L a₀ ccd cl₀ outer) (call (.ref f) vs) Q E ⟨hp, gens, drawn, toks, os⟩ := by
  refine C.use (s := ⟨hp, gens, drawn, toks, os⟩) B F X N T hk h1 h2 fun r9 n9 h9 tk9 F9 N9 hp9 => ?_
  obtain ⟨er9, cg, c', ht, oS, oP, k0, k1, k2, fd, fg, fs, hs, hU9, hs9, hI⟩ := hp9
  obtain ⟨T9, hAp9, hST9, hSR9, N9'⟩ := tidy (U := [(so, oS), (po, oP), (du, listOf fd.toArray k0), (gr, listOf fg.toArray k1), (sm, listOf fs.toArray k2)]) hU9 hs9 N9 CR (sepL_of hS) ⟨cls_src hs, hI.cls, cls_list, cls_list, cls_list, hc⟩
  subst er9
  exact ret cg c' oS oP k0 k1 k2 fd fg fs T9 h9 tk9 F9 N9' hAp9 hSR9 ht hs (hI.monoT hST9)
theorem Ctr.useBegin {w : World} {mean : ExcName → Option Value} {mg mb : Str → Option Value} {f : Addr} {dm um : Nat} {vs : List Value} {news R k T0 qq : Led} {so po du gr sm : Addr} {S : PP} {gs ss : List Dat}
    (C : Ctr w mean mg mb f dm um vs news (fun r news' => r = .none ∧ BeginPost w so po du gr sm R S gs ss news')) {dp un : Nat} {gd : Option (List Code)} {cn : Str} {cs : Scope} {a₀ : Addr} {ccd : Value} {cl₀ : List (Str × Addr)} {outer : List Env} {A₀ : Around} {base h₀ hp : Heap} {gens : Array GenState} {drawn : Drawn} {toks : Nat} {os : OsState} {L : Addr} {m : Str → Option Value} {Q E : Value → Shared → Prop}
    (B : Below A₀ base outer h₀) (F : Fr h₀ L hp m) (X : (hd.heap_1 w.params).In h₀) (N : News h₀ L hp news) (T : Top qv (looseW qv [Str.ofString "fraction"]) mean mg mb h₀) (hk : cs.kind = .function) (h1 : dp + dm < recursionLimit) (h2 : un + um < cLine)
    (CR : Core R k T0 qq) (hS : Apart T0 (so :: po :: du :: gr :: sm :: k.map (·.1))) (hc : NoTup k)
    (ret : ∀ (px py : Int) (oS oP : Obj) (k0 k1 k2 : Nat) (fd fg fs : List Value) (T9 : Led) (h' : Heap) (tk9 : Nat), Fr h₀ L h' m → News h₀ L h' ((so, oS) :: (po, oP) :: (du, listOf fd.toArray k0) :: (gr, listOf fg.toArray k1) :: (sm, listOf fs.toArray k2) :: (k ++ T9)) → Apart T9 (so :: po :: du :: gr :: sm :: k.map (·.1)) → Sub qq T9 → IsSrc oS → LawIn w T9 oP du gr sm fd fg fs (step S false (.M px py)) (gs ++ [(Cmd.M px py).dat false]) (ss ++ [(Cmd.M (px - S.hx) (py - S.hy)).dat true]) → Q .none ⟨h', gens, drawn, tk9, os⟩) :
    wpAny (model PySem.Challenge.rw_nu0013_01.prog w) (ktrTop dp un gd cn cs L a₀ ccd cl₀ outer) (call (.ref f) vs) Q E ⟨hp, gens, drawn, toks, os⟩ := by
  refine C.use (s := ⟨hp, gens, drawn, toks, os⟩) B F X N T hk h1 h2 fun r9 n9 h9 tk9 F9 N9 hp9 => ?_
  obtain ⟨er9, px, py, oS, oP, k0, k1, k2, fd, fg, fs, hs, hU9, hs9, hI⟩ := hp9
  obtain ⟨T9, hAp9, hST9, hSR9, N9'⟩ := tidy (U := [(so, oS), (po, oP), (du, listOf fd.toArray k0), (gr, listOf fg.toArray k1), (sm, listOf fs.toArray k2)]) hU9 hs9 N9 CR (sepL_of hS) ⟨cls_src hs, hI.cls, cls_list, cls_list, cls_list, hc⟩
  subst er9
  exact ret px py oS oP k0 k1 k2 fd fg fs T9 h9 tk9 F9 N9' hAp9 hSR9 hs (hI.monoT hST9)
theorem five9 {a b c d e : Addr × Obj} {cur r1 r2 r3 r4 R : Led} (P1 : Pick a cur r1) (P2 : Pick b r1 r2) (P3 : Pick c r2 r3) (P4 : Pick d r3 r4) (P5 : Pick e r4 R) : Sub (a :: b :: c :: d :: e :: R) cur :=
  fun _ hp => P1.sub _ (Sub.cons (fun _ hp => P2.sub _ (Sub.cons (fun _ hp => P3.sub _ (Sub.cons (fun _ hp => P4.sub _ (Sub.cons P5.sub _ hp)) _ hp)) _ hp)) _ hp)
theorem law_begin_ctr {w : World} {mean : ExcName → Option Value} {mg mb : Str → Option Value} {cur r1 r2 r3 r4 R : Led} {so po du gr sm : Addr} {S : PP} {gs ss : List Dat} {oS oP : Obj} {k0 k1 k2 : Nat} {fd fg fs : List Value}
    (P1 : Pick (so, oS) cur r1) (P2 : Pick (po, oP) r1 r2) (P3 : Pick (du, listOf fd.toArray k0) r2 r3) (P4 : Pick (gr, listOf fg.toArray k1) r3 r4) (P5 : Pick (sm, listOf fs.toArray k2) r4 R)
    (q1 : @Ne Nat so po ∧ @Ne Nat so du ∧ @Ne Nat so gr ∧ @Ne Nat so sm ∧ @Ne Nat po du ∧ @Ne Nat po gr ∧ @Ne Nat po sm ∧ @Ne Nat du gr ∧ @Ne Nat du sm ∧ @Ne Nat gr sm) (hA : Apart R [so, po, du, gr, sm])
    (hs : IsSrc oS) (hI : LawIn w R oP du gr sm fd fg fs S gs ss) (hl : S.found.length ≤ 800 ∧ gs.length ≤ 800 ∧ ss.length ≤ 800) :
    Ctr w mean mg mb 305 10 200 [.ref so, .ref po] cur (fun r news' => r = .none ∧ BeginPost w so po du gr sm R S gs ss news') := by
  refine Ctr.weaken (news := (so, oS) :: (po, oP) :: (du, listOf fd.toArray k0) :: (gr, listOf fg.toArray k1) :: (sm, listOf fs.toArray k2) :: R) (five9 P1 P2 P3 P4 P5) ?_
  refine hI.elim fun vh vst vc tk ww tw hd hw hh hst hcz hfd hfg hfs => ?_
  refine hh.raw_elim fun ha th uh nh hmh ehh => ?_
  subst ehh
  obtain ⟨q1, q2, q3, q4, q5, q6, q7, q8, q9, q10⟩ := q1
  obtain ⟨hl, hl1, hl2⟩ := hl
  (have hfill : True := fillT (K := Mine.hd.heap_1) (l := PySem.Challenge.rw_nu0013_01) (by k_fill; exact trivial); clear hfill; k_dflt (refine' Ctr.body ?k6 ?k7 ?k9 ?kB ?c2 ?c3 ?c4 ?c5 ?_; (case k6 => k_is); (case k7 => k_is); (case k9 => exact fun s X => BindsTo.of_eq rfl); (case kB => exact locs rfl); (case c2 => exact rfl); (case c3 => exact rfl); (case c4 => exact rfl); (case c5 => decide)); intro dp un gd A₀ base g outer L hp gens drawn toks os QQ B X T F N hd1 hd2 hret hnx; (try dsimp only); (try k_fold))
  repeat' (first | (k_unfold; (try dsimp only)) | (k_end; (fail_if_success (with_reducible show QQ _ _)); wrow_close) | walk1 | (dsimp only; walk1) | (leave1; walk_say "STEP leave1"; try dsimp only) | fail "no step")
  all_goals exact hnx _ _ _ _ _ (by k_asm) (by k_asm) (BeginPost.mk (st_M S _ _) (by with_reducible assumption) (by kp_flats) (by kp_flats) (LawIn.mk (by assumption) (W3.put ‹W3 _› W3.e) (by keq_hits) (by keq_hits) RNz.nul (by kct_strs) (by k_extra "tallD9") (by k_extra "tallD9")))
theorem wdJ39N24x47 : True := by
  k_with "call ref" => (k_here; (with_reducible show wpAny _ _ (call (Value.ref 305) _) _ _ _); k_dflt (refine' Ctr.useBegin (law_begin_ctr ?P1 ?P2 ?P3 ?P4 ?P5 ?q1 ?hA ?hs ?hI ?hl) ?k1 ?k2 ?k3 ?k4 ?k5 ?k6 ?k7 ?k8 ?CR9 ?hS9 ?hc9 ?_; (case k1 => k_asm); (case k2 => k_asm); (case k3 => k_asm); (case k4 => k_asm); (case k5 => k_asm); (case k6 => first | exact rfl | assumption); (case P1 => k_upd); (case P2 => k_upd); (case P3 => k_upd); (case P4 => k_upd); (case P5 => k_upd); (case q1 => (refine ⟨?_, ?_, ?_, ?_, ?_, ?_, ?_, ?_, ?_, ?_⟩ <;> k_ne)); (case hA => k_upd); (case hs => with_reducible assumption); (case hI => k_extra "law9"); (case hl => (refine ⟨?_, ?_, ?_⟩ <;> k_extra "len9")); (case k7 => first | exact room9 hd1 rfl | ktr_room); (case k8 => first | exact room9 hd2 rfl | ktr_units); (case CR9 => k_upd); (case hS9 => ((try dsimp only [List.map]); k_upd)); (case hc9 => k_upd)); k_dflt (intro px9 py9 oS9 oP9 k0' k1' k2' fd9 fg9 fs9 T9 h9 tk9 F9 N9 hAp9 hSR9 hs9 hI9; dsimp only [List.map, List.cons_append, List.nil_append] at hAp9 N9); (try dsimp only); (try k_sweep); (try k_fold))
  trivial
noncomputable def LineRes (S : PP) (x y : Int) (cg c' : Cmd) : Prop := step S true c' = step S false cg ∧ step S false cg = ⟨x, y, S.sx, S.sy, S.cx, S.cy, Str.ofString "", false, S.found ++ (if S.cl && !false then [Dat.tuple [.str (Str.ofString "move"), pt S.hx S.hy]] else []) ++ [Dat.tuple [.str (Str.ofString "line"), pt x y]]⟩
inductive LineMid (g : Heap) (L : Addr) (m : Str → Option Value) (gens : Array GenState) (drawn : Drawn) (os : OsState) (so po du gr sm : Addr) (oS oP : Obj) (fd : List Value) (k0 : Nat) (R : Led) (S : PP) (gs ss : List Dat) : Flow → Shared → Prop
  | mk {pa : Addr} {x y : Int} {cg c' : Cmd} {k1 k2 : Nat} {fg fs : List Value} {T9 : Led} {h' : Heap} {tk' : Nat} : LineRes S x y cg c' → Fr g L h' (fun z => if z = Str.ofString "p" then some (.ref pa) else m z) →
      News g L h' ((so, oS) :: (po, oP) :: (du, listOf fd.toArray k0) :: (gr, listOf fg.toArray k1) :: (sm, listOf fs.toArray k2) :: T9) → Apart T9 [so, po, du, gr, sm] → Sub R T9 → TIn T9 (.ref pa) (rawp x y) → TAll T9 fg (gs ++ [cg.dat false]) → TAll T9 fs (ss ++ [c'.dat true]) →
      LineMid g L m gens drawn os so po du gr sm oS oP fd k0 R S gs ss .next ⟨h', gens, drawn, tk', os⟩
theorem line_end9 {g h' : Heap} {L : Addr} {m : Str → Option Value} {gens : Array GenState} {drawn : Drawn} {tk' : Nat} {os : OsState} {so po du gr sm : Addr} {oS oP : Obj} {fd fg fs : List Value} {k0 k1 k2 : Nat} {R T9 r1 r2 r3 r4 all : Led} {S : PP} {gs ss : List Dat} {pa : Addr} {x y : Int} {cg c' : Cmd} (hr : LineRes S x y cg c') (F : Fr g L h' (fun z => if z = Str.ofString "p" then some (.ref pa) else m z)) (N : News g L h' all)
    (P1 : Pick (so, oS) all r1) (P2 : Pick (po, oP) r1 r2) (P3 : Pick (du, listOf fd.toArray k0) r2 r3) (P4 : Pick (gr, listOf fg.toArray k1) r3 r4) (P5 : Pick (sm, listOf fs.toArray k2) r4 T9) (hA : Apart T9 [so, po, du, gr, sm]) (hR : Sub R T9) (hp : TIn T9 (.ref pa) (rawp x y)) (hg : TAll T9 fg (gs ++ [cg.dat false])) (hs : TAll T9 fs (ss ++ [c'.dat true])) :
    LineMid g L m gens drawn os so po du gr sm oS oP fd k0 R S gs ss .next ⟨h', gens, drawn, tk', os⟩ := .mk hr F (fun p hp => N p (five9 P1 P2 P3 P4 P5 p hp)) hA hR hp hg hs
theorem line_join {prog : Program} {w : World} {A : Around} {E : Value → Shared → Prop} {t : Sem Flow} {Q : Flow → Shared → Prop} {g h : Heap} {L : Addr} {m : Str → Option Value} {gens : Array GenState} {drawn : Drawn} {tk : Nat} {os : OsState} {so po du gr sm : Addr} {oS oP : Obj} {fd fg0 fs0 : List Value} {k0 k10 k20 : Nat} {R : Led} {S : PP} {gs ss : List Dat}
    (nF : Fr g L h m) (nN : News g L h ((so, oS) :: (po, oP) :: (du, listOf fd.toArray k0) :: (gr, listOf fg0.toArray k10) :: (sm, listOf fs0.toArray k20) :: R))
    (h1 : wpAny (model prog w) A t (LineMid g L m gens drawn os so po du gr sm oS oP fd k0 R S gs ss) E ⟨h, gens, drawn, tk, os⟩)
    (h2 : ∀ (pa : Addr) (x y : Int) (cg c' : Cmd) (k1 k2 : Nat) (fg fs : List Value) (T9 : Led) (h' : Heap) (tk' : Nat), LineRes S x y cg c' → Fr g L h' (fun z => if z = Str.ofString "p" then some (.ref pa) else m z) →
      News g L h' ((so, oS) :: (po, oP) :: (du, listOf fd.toArray k0) :: (gr, listOf fg.toArray k1) :: (sm, listOf fs.toArray k2) :: T9) → Apart T9 [so, po, du, gr, sm] → Sub R T9 → TIn T9 (.ref pa) (rawp x y) → TAll T9 fg (gs ++ [cg.dat false]) → TAll T9 fs (ss ++ [c'.dat true]) → Q .next ⟨h', gens, drawn, tk', os⟩) :
    wpAny (model prog w) A t Q E ⟨h, gens, drawn, tk, os⟩ := by
  refine wpAny_mono h1 ?_ (fun _ _ h => h)
  rintro fl s' ⟨a1, a2, a3, a4, a5, a6, a7, a8⟩
  exact h2 _ _ _ _ _ _ _ _ _ _ _ _ a1 a2 a3 a4 a5 a6 a7 a8
theorem fr_keepL {g h' : Heap} {L : Addr} {m : Str → Option Value} {x : Str} {v : Value} (F : Fr g L h' m) (e : m x = some v) : Fr g L h' (fun y => if y = x then some v else m y) := map_keep e ▸ F
theorem TurnPost.mkR {w : World} {oS oP : Obj} {so po du gr sm : Addr} {fd fg fs : List Value} {S : PP} {gs ss : List Dat} {R news' : Led} {k0 k1 k2 : Nat} {cg c' : Cmd} {x y : Int} (hr : LineRes S x y cg c') (hs : IsSrc oS)
    (hU : Sub [(so, oS), (po, oP), (du, listOf fd.toArray k0), (gr, listOf fg.toArray k1), (sm, listOf fs.toArray k2)] news') (hR : Sub R news')
    (hI : LawIn w news' oP du gr sm fd fg fs ⟨x, y, S.sx, S.sy, S.cx, S.cy, Str.ofString "", false, S.found ++ (if S.cl && !false then [Dat.tuple [.str (Str.ofString "move"), pt S.hx S.hy]] else []) ++ [Dat.tuple [.str (Str.ofString "line"), pt x y]]⟩ (gs ++ [cg.dat false]) (ss ++ [c'.dat true])) : Value.none = .none ∧ TurnPost w so po du gr sm R S gs ss news' := TurnPost.mk hr.1 hr.2 hs hU hR hI
theorem wdJ40N25x48 : True := by
  k_with "exec If Compare cons cons" => (k_here; (have j9 := line9); (clear j9); (with_reducible show wpAny _ _ (exec (Stmt.If (Expr.Compare (Expr.Name _ _) _ _ _) _ _ _) _) _ _ _); refine stopAt ?_)
  trivial
theorem law_line_ctr {w : World} {mean : ExcName → Option Value} {mg mb : Str → Option Value} {cur r1 r2 r3 r4 R : Led} {so po du gr sm : Addr} {S : PP} {gs ss : List Dat} {oS oP : Obj} {k0 k1 k2 : Nat} {fd fg fs : List Value}
    (P1 : Pick (so, oS) cur r1) (P2 : Pick (po, oP) r1 r2) (P3 : Pick (du, listOf fd.toArray k0) r2 r3) (P4 : Pick (gr, listOf fg.toArray k1) r3 r4) (P5 : Pick (sm, listOf fs.toArray k2) r4 R)
    (q1 : @Ne Nat so po ∧ @Ne Nat so du ∧ @Ne Nat so gr ∧ @Ne Nat so sm ∧ @Ne Nat po du ∧ @Ne Nat po gr ∧ @Ne Nat po sm ∧ @Ne Nat du gr ∧ @Ne Nat du sm ∧ @Ne Nat gr sm) (hA : Apart R [so, po, du, gr, sm])
    (hs : IsSrc oS) (hI : LawIn w R oP du gr sm fd fg fs S gs ss) (hl : S.found.length ≤ 800 ∧ gs.length ≤ 800 ∧ ss.length ≤ 800) :
    Ctr w mean mg mb 286 10 200 [.ref so, .ref po] cur (fun r news' => r = .none ∧ TurnPost w so po du gr sm R S gs ss news') := by
  refine Ctr.weaken (news := (so, oS) :: (po, oP) :: (du, listOf fd.toArray k0) :: (gr, listOf fg.toArray k1) :: (sm, listOf fs.toArray k2) :: R) (five9 P1 P2 P3 P4 P5) ?_
  refine hI.elim fun vh vst vc tk ww tw hd hw hh hst hcz hfd hfg hfs => ?_
  refine hh.raw_elim fun ha th uh nh hmh ehh => ?_
  subst ehh
  obtain ⟨q1, q2, q3, q4, q5, q6, q7, q8, q9, q10⟩ := q1
  obtain ⟨hl, hl1, hl2⟩ := hl
  have line9 := True.intro
  (have hfill : True := fillT (K := Mine.hd.heap_1) (l := PySem.Challenge.rw_nu0013_01) (by k_fill; exact trivial); clear hfill; k_dflt (refine' Ctr.body ?k6 ?k7 ?k9 ?kB ?c2 ?c3 ?c4 ?c5 ?_; (case k6 => k_is); (case k7 => k_is); (case k9 => exact fun s X => BindsTo.of_eq rfl); (case kB => exact locs rfl); (case c2 => exact rfl); (case c3 => exact rfl); (case c4 => exact rfl); (case c5 => decide)); intro dp un gd A₀ base g outer L hp gens drawn toks os QQ B X T F N hd1 hd2 hret hnx; (try dsimp only); (try k_fold))
  repeat' (first | (k_unfold; (try dsimp only)) | (k_end; (fail_if_success (with_reducible show QQ _ _)); wrow_close) | walk1 | (dsimp only; walk1) | (leave1; walk_say "STEP leave1"; try dsimp only) | fail "no step")
  unfold Stop
  clear line9
  (rename News _ _ _ _ => lN)
  refine line_join (so := so) (po := po) (du := du) (gr := gr) (sm := sm) (fd := fd) (k0 := k0) (S := S) (gs := gs) (ss := ss) (by assumption) (fun p hp => lN p (List.mem_cons_of_mem _ hp)) ?_ ?_
  · repeat' (first | (k_unfold; (try dsimp only)) | (k_end; (fail_if_success (with_reducible show QQ _ _)); wrow_close) | walk1 | (dsimp only; walk1) | (leave1; walk_say "STEP leave1"; try dsimp only) | fail "no step")
    · exact line_end9 ⟨turn_H S _, st_H S _⟩ (by with_reducible assumption) (by k_asm) (by k_upd) (by k_upd) (by k_upd) (by k_upd) (by k_upd) (by k_upd) (by kp_flats) (by keq_hits) (by k_extra "tallD9") (by k_extra "tallD9")
    · exact line_end9 ⟨turn_V S _, st_V S _⟩ (by with_reducible assumption) (by k_asm) (by k_upd) (by k_upd) (by k_upd) (by k_upd) (by k_upd) (by k_upd) (by kp_flats) (by keq_hits) (by k_extra "tallD9") (by k_extra "tallD9")
    · exact line_end9 ⟨turn_L S _ _, st_L S _ _⟩ (fr_keepL (by with_reducible assumption) rfl) (by k_asm) (by k_upd) (by k_upd) (by k_upd) (by k_upd) (by k_upd) (by k_upd) (by kp_flats) (by keq_hits) (by k_extra "tallD9") (by k_extra "tallD9")
  · clear lN
    intro pa x y cg c' k1 k2 fg fs T9 h9 tk9 hLR F9 N9 hAp9 hSR9 hp9 hg9 hf9
    refine hp9.raw_elim fun a1 t1 u1 n1 hm1 eh1 => ?_
    cases eh1
    (try dsimp only)
    (try k_sweep)
    repeat' (first | (k_unfold; (try dsimp only)) | (k_end; (fail_if_success (with_reducible show QQ _ _)); wrow_close) | walk1 | (dsimp only; walk1) | (leave1; walk_say "STEP leave1"; try dsimp only) | fail "no step")
    exact hnx _ _ _ _ _ (by k_asm) (by k_asm) (TurnPost.mkR hLR (by with_reducible assumption) (by kp_flats) (by kp_flats) (LawIn.mk (by assumption) (W3.put ‹W3 _› W3.e) (by keq_hits) (by keq_hits) RNz.nul (by k_extra "tallD9") (by k_extra "tallD9") (by k_extra "tallD9")))
theorem wdJ40N25x49 : True := by
  k_with "call ref" => (k_here; (with_reducible show wpAny _ _ (call (Value.ref 286) _) _ _ _); k_dflt (refine' Ctr.useTurn (law_line_ctr ?P1 ?P2 ?P3 ?P4 ?P5 ?q1 ?hA ?hs ?hI ?hl) ?k1 ?k2 ?k3 ?k4 ?k5 ?k6 ?k7 ?k8 ?CR9 ?hS9 ?hc9 ?_; (case k1 => k_asm); (case k2 => k_asm); (case k3 => k_asm); (case k4 => k_asm); (case k5 => k_asm); (case k6 => first | exact rfl | assumption); (case P1 => k_upd); (case P2 => k_upd); (case P3 => k_upd); (case P4 => k_upd); (case P5 => k_upd); (case q1 => (refine ⟨?_, ?_, ?_, ?_, ?_, ?_, ?_, ?_, ?_, ?_⟩ <;> k_ne)); (case hA => k_upd); (case hs => with_reducible assumption); (case hI => k_extra "law9"); (case hl => (refine ⟨?_, ?_, ?_⟩ <;> k_extra "len9")); (case k7 => first | exact room9 hd1 rfl | ktr_room); (case k8 => first | exact room9 hd2 rfl | ktr_units); (case CR9 => k_upd); (case hS9 => ((try dsimp only [List.map]); k_upd)); (case hc9 => k_upd)); k_dflt (intro cg9 cs9 oS9 oP9 k0' k1' k2' fd9 fg9 fs9 T9 h9 tk9 F9 N9 hAp9 hSR9 ht9 hs9 hI9; dsimp only [List.map, List.cons_append, List.nil_append] at hAp9 N9); (try dsimp only); (try k_sweep); (try k_fold))
  trivial
noncomputable def ArcMid (g : Heap) (L : Addr) (m : Str → Option Value) (gens : Array GenState) (drawn : Drawn) (os : OsState) (so po du gr sm : Addr) (oP : Obj) (fd fg fs : List Value) (k0 k1 k2 : Nat) (R : Led) (fl : Flow) (s' : Shared) : Prop :=
  fl = .next ∧ ∃ (pa : Addr) (px py : Int) (T9 : Led) (o9 : Obj) (h' : Heap) (tk' : Nat), s' = ⟨h', gens, drawn, tk', os⟩ ∧ Fr g L h' (fun y => if y = Str.ofString "p" then some (.ref pa) else m y) ∧ News g L h' ((so, o9) :: (po, oP) :: (du, listOf fd.toArray k0) :: (gr, listOf fg.toArray k1) :: (sm, listOf fs.toArray k2) :: T9) ∧ Apart T9 [so, po, du, gr, sm] ∧ Sub R T9 ∧ IsSrc o9 ∧ TIn T9 (.ref pa) (rawp px py)
theorem arc_join {prog : Program} {w : World} {A : Around} {E : Value → Shared → Prop} {t : Sem Flow} {Q : Flow → Shared → Prop} {g h : Heap} {L : Addr} {m : Str → Option Value} {gens : Array GenState} {drawn : Drawn} {tk : Nat} {os : OsState} {so po du gr sm : Addr} {oP : Obj} {fd fg fs : List Value} {k0 k1 k2 : Nat} {R : Led}
    (nF : Fr g L h m)
    (h1 : wpAny (model prog w) A t (ArcMid g L m gens drawn os so po du gr sm oP fd fg fs k0 k1 k2 R) E ⟨h, gens, drawn, tk, os⟩)
    (h2 : ∀ (pa : Addr) (px py : Int) (T9 : Led) (o9 : Obj) (h' : Heap) (tk' : Nat), Fr g L h' (fun y => if y = Str.ofString "p" then some (.ref pa) else m y) → News g L h' ((so, o9) :: (po, oP) :: (du, listOf fd.toArray k0) :: (gr, listOf fg.toArray k1) :: (sm, listOf fs.toArray k2) :: T9) → Apart T9 [so, po, du, gr, sm] → Sub R T9 → IsSrc o9 → TIn T9 (.ref pa) (rawp px py) → Q .next ⟨h', gens, drawn, tk', os⟩) :
    wpAny (model prog w) A t Q E ⟨h, gens, drawn, tk, os⟩ := by
  refine wpAny_mono h1 ?_ (fun _ _ h => h)
  rintro fl s' ⟨rfl, pa, px, py, T9, o9, h', tk', rfl, a, b, c, d, e, f⟩
  exact h2 pa px py T9 o9 h' tk' a b c d e f
theorem arc_end {g h' : Heap} {L : Addr} {m : Str → Option Value} {gens : Array GenState} {drawn : Drawn} {tk' : Nat} {os : OsState} {so po du gr sm : Addr} {oP : Obj} {fd fg fs : List Value} {k0 k1 k2 : Nat} {R T9 : Led} {o9 : Obj} {pa : Addr} {px py : Int}
    (F : Fr g L h' (fun y => if y = Str.ofString "p" then some (.ref pa) else m y)) (N : News g L h' ((so, o9) :: (po, oP) :: (du, listOf fd.toArray k0) :: (gr, listOf fg.toArray k1) :: (sm, listOf fs.toArray k2) :: T9)) (hA : Apart T9 [so, po, du, gr, sm]) (hR : Sub R T9) (hs : IsSrc o9) (hp : TIn T9 (.ref pa) (rawp px py)) :
    ArcMid g L m gens drawn os so po du gr sm oP fd fg fs k0 k1 k2 R .next ⟨h', gens, drawn, tk', os⟩ := ⟨rfl, _, _, _, _, _, _, _, rfl, F, N, hA, hR, hs, hp⟩
theorem fr_keep {g h' : Heap} {L : Addr} {m : Str → Option Value} {x : Str} {v : Value} (F : Fr g L h' m) (e : m x = some v) : Fr g L h' (fun y => if y = x then some v else m y) := map_keep e ▸ F
theorem TurnPost.mk2 {w : World} {oS oP : Obj} {so po du gr sm : Addr} {fd fg fs : List Value} {S : PP} {gs ss : List Dat} {R news' : Led} {k0 k1 k2 : Nat} {cg cs : Cmd} {S' : PP} (hs : IsSrc oS)
    (hU : Sub [(so, oS), (po, oP), (du, listOf fd.toArray k0), (gr, listOf fg.toArray k1), (sm, listOf fs.toArray k2)] news') (hR : Sub R news') (hI : LawIn w news' oP du gr sm fd fg fs S' (gs ++ [cg.dat false]) (ss ++ [cs.dat true]))
    (ht : step S true cs = step S false cg) (he : step S false cg = S') : Value.none = .none ∧ TurnPost w so po du gr sm R S gs ss news' := TurnPost.mk ht he hs hU hR hI
theorem absI_p {r : Int} (h : 0 < r) : r = absI r := by unfold absI; rw [if_neg (by omega)]
theorem absI_n {r : Int} (h : ¬ 0 < r) : 0 - r = absI r := by
  unfold absI
  split <;> omega
theorem absI_z {r : Int} (h : r = 0) : absI r = 0 := by subst h; rfl
theorem absI_nz {r : Int} (h : r ≠ 0) : absI r ≠ 0 := by
  unfold absI
  split <;> omega
theorem st_A1' (S : PP) {rx ry tn lg sw x y : Int} (h : ¬ (x = S.hx ∧ y = S.hy)) (h' : rx = 0 ∨ ry = 0) : step S false (.A rx ry tn lg sw x y) = ⟨x, y, S.sx, S.sy, S.cx, S.cy, Str.ofString "", false, S.found ++ (if S.cl && !false then [Dat.tuple [.str (Str.ofString "move"), pt S.hx S.hy]] else []) ++ [Dat.tuple [.str (Str.ofString "line"), pt x y]]⟩ := st_A1 S _ _ _ _ _ _ _ h (h'.imp absI_z absI_z)
theorem st_A2' (S : PP) {rx ry tn lg sw x y e1 e2 : Int} (h : ¬ (x = S.hx ∧ y = S.hy)) (h1 : rx ≠ 0) (h2 : ry ≠ 0) (he1 : e1 = absI rx) (he2 : e2 = absI ry) : step S false (.A rx ry tn lg sw x y) = ⟨x, y, S.sx, S.sy, S.cx, S.cy, Str.ofString "", false, S.found ++ (if S.cl && !false then [Dat.tuple [.str (Str.ofString "move"), pt S.hx S.hy]] else []) ++ [Dat.tuple [.str (Str.ofString "arc"), fr e1, fr e2, fr tn, .bool (lg == 1), .bool (sw == 1), pt x y]]⟩ := by
  subst he1 he2
  exact st_A2 S _ _ _ _ _ _ _ h (fun q => q.elim (absI_nz h1) (absI_nz h2))
theorem my_addT {prog : Program} {w : World} {A : Around} {E : Value → Shared → Prop} {s : Shared} {h₀ : Heap} {L a b : Addr} {m : Str → Option Value} {news T : Led} {v : Value} {vs : List Value} {n : Nat} {d : Dat} {ds : List Dat} {Q : Value → Shared → Prop}
    (F : Fr h₀ L s.heap m) (N : News h₀ L s.heap news) (ha : (a, tupO (v :: vs) n) ∈ news) (hb : TIn T (.ref b) (.tuple (d :: ds))) (hs : Sub T news) (hz : Nat.ble (vs.length + ds.length) 1000 = true)
    (h : ∀ D h' ws, TAll T ws (d :: ds) → Fr h₀ L h' m → News h₀ L h' ((D, tupO (v :: (vs ++ ws)) 0) :: news) → (∀ p ∈ news, p.1 < D) → Q (.ref D) { s with heap := h' }) : wpAny (model prog w) A (binaryOp .Add (.ref a) (.ref b)) Q E s := by
  cases hb with
  | @tuple _ ws k _ hm r =>
    have hlen := r.length
    have hz' := Nat.le_of_ble_eq_true hz
    refine kde_addT F N (its := (v :: vs).toArray) (its2 := ws.toArray) (zs := v :: (vs ++ ws)) (News.isTup N ha) (News.isTup N (hs _ hm)) (by simp) (by simp; intro e; subst e; simp at hlen) ?_ (by simp) fun D h' F' N' l => ?_
    · simp only [List.length_cons] at hlen ⊢; omega
    · exact h D h' ws r F' N' l
theorem wdJ41N26x50 : True := by
  k_with "binaryOp Add ref ref" => (k_here; (with_reducible show wpAny _ _ (binaryOp _ (Value.ref _) (Value.ref _)) _ _ _); k_dflt (refine my_addT (by k_asm) (by k_asm) (by keq_rows) (by with_reducible assumption) (by kp_flats) rfl ?_); intro D' h' ws' hw' F' N' l1; (try k_sweep))
  trivial
theorem my_eq_raw {prog : Program} {w : World} {A : Around} {E : Value → Shared → Prop} {s : Shared} {h₀ : Heap} {L a b : Addr} {news : Led} {Q : Value → Shared → Prop} {x y x' y' : Int} (N : News h₀ L s.heap news) (Ha : TIn news (.ref a) (rawp x y)) (Hb : TIn news (.ref b) (rawp x' y')) (hu : A.units + 64 < cLine)
    (h : Q (.bool (decide (x = x' ∧ y = y'))) s) : wpAny (model prog w) A (compareOp .Eq (.ref a) (.ref b)) Q E s := by
  obtain ⟨as, ra⟩ := kqd_in N 8 Ha.dat rfl
  obtain ⟨bs, rb⟩ := kqd_in N 8 Hb.dat rfl
  refine eq_dataH ra rb rfl rfl hu ?_
  have e : PyData.eqv (kqdP (rawp x y)) (kqdP (rawp x' y')) = decide (x = x' ∧ y = y') := by
    simp [kqdP, kqdPs, PyData.eqv, PyData.eqvAll]; rfl
  rw [e]; exact h
theorem wdJ41N26x51 : True := by
  k_with "compareOp Eq ref ref" => (k_here; (with_reducible show wpAny _ _ (compareOp CmpOp.Eq (Value.ref _) (Value.ref _)) _ _ _); k_dflt (refine my_eq_raw (by k_asm) (by keq_hits) (by keq_hits) (by ktr_units) ?_))
  trivial
noncomputable def AbsMid (r : Int) (hp : Heap) (gens : Array GenState) (drawn : Drawn) (os : OsState) (v : Value) (s' : Shared) : Prop := ∃ (tk : Nat) (t : Tok), v = .int (absI r) t ∧ s' = ⟨hp, gens, drawn, tk, os⟩
theorem AbsMid.pos {r : Int} {hp : Heap} {gens : Array GenState} {drawn : Drawn} {os : OsState} {tk : Nat} {t : Tok} (h : 0 < r) : AbsMid r hp gens drawn os (.int r t) ⟨hp, gens, drawn, tk, os⟩ := ⟨tk, t, by rw [← absI_p h], rfl⟩
theorem AbsMid.neg {r : Int} {hp : Heap} {gens : Array GenState} {drawn : Drawn} {os : OsState} {tk : Nat} {t : Tok} (h : ¬ 0 < r) : AbsMid r hp gens drawn os (.int (0 - r) t) ⟨hp, gens, drawn, tk, os⟩ := ⟨tk, t, by rw [← absI_n h], rfl⟩
theorem abs_join {prog : Program} {w : World} {A : Around} {E Q : Value → Shared → Prop} {g hp : Heap} {L : Addr} {m : Str → Option Value} {gens : Array GenState} {drawn : Drawn} {toks : Nat} {os : OsState} {x : Str} {px pos : Pos} {test els : PySem.Expr} {env : Env} {r : Int} {t0 : Tok} (nF : Fr g L hp m) (nhr : m x = some (.int r t0))
    (h1 : wpAny (model prog w) A (eval (.IfExp test (.Name x px) els pos) env) (AbsMid r hp gens drawn os) E ⟨hp, gens, drawn, toks, os⟩)
    (h2 : ∀ (tk : Nat) (t : Tok), Q (.int (absI r) t) ⟨hp, gens, drawn, tk, os⟩) : wpAny (model prog w) A (eval (.IfExp test (.Name x px) els pos) env) Q E ⟨hp, gens, drawn, toks, os⟩ := by
  refine wpAny_mono h1 ?_ (fun _ _ h => h)
  rintro v s' ⟨tk, t, rfl, rfl⟩
  exact h2 tk t
noncomputable def OrMid (p q : Int) (hp : Heap) (gens : Array GenState) (drawn : Drawn) (os : OsState) (b : Bool) (s' : Shared) : Prop := ∃ tk : Nat, s' = ⟨hp, gens, drawn, tk, os⟩ ∧ ((b = true ∧ (p = 0 ∨ q = 0)) ∨ (b = false ∧ p ≠ 0 ∧ q ≠ 0))
theorem OrMid.t1 {p q : Int} {hp : Heap} {gens : Array GenState} {drawn : Drawn} {os : OsState} {tk : Nat} (h : p = 0) : OrMid p q hp gens drawn os true ⟨hp, gens, drawn, tk, os⟩ := ⟨tk, rfl, .inl ⟨rfl, .inl h⟩⟩
theorem OrMid.t2 {p q : Int} {hp : Heap} {gens : Array GenState} {drawn : Drawn} {os : OsState} {tk : Nat} (h : q = 0) : OrMid p q hp gens drawn os true ⟨hp, gens, drawn, tk, os⟩ := ⟨tk, rfl, .inl ⟨rfl, .inr h⟩⟩
theorem OrMid.f {p q : Int} {hp : Heap} {gens : Array GenState} {drawn : Drawn} {os : OsState} {tk : Nat} (h : p ≠ 0) (h' : q ≠ 0) : OrMid p q hp gens drawn os false ⟨hp, gens, drawn, tk, os⟩ := ⟨tk, rfl, .inr ⟨rfl, h, h'⟩⟩
theorem or_join {prog : Program} {w : World} {A : Around} {E : Value → Shared → Prop} {Q : Bool → Shared → Prop} {t : Sem Bool} {g hp : Heap} {L : Addr} {m : Str → Option Value} {gens : Array GenState} {drawn : Drawn} {toks : Nat} {os : OsState} {p q : Int} {t0 t1 : Tok} (nF : Fr g L hp m) (nhp : m (Str.ofString "rx") = some (.int p t0)) (nhq : m (Str.ofString "ry") = some (.int q t1))
    (h1 : wpAny (model prog w) A t (OrMid p q hp gens drawn os) E ⟨hp, gens, drawn, toks, os⟩)
    (h2 : p = 0 ∨ q = 0 → ∀ tk : Nat, Q true ⟨hp, gens, drawn, tk, os⟩) (h3 : p ≠ 0 → q ≠ 0 → ∀ tk : Nat, Q false ⟨hp, gens, drawn, tk, os⟩) : wpAny (model prog w) A t Q E ⟨hp, gens, drawn, toks, os⟩ := by
  refine wpAny_mono h1 ?_ (fun _ _ h => h)
  rintro b s' ⟨tk, rfl, ⟨rfl, h⟩ | ⟨rfl, h, h'⟩⟩
  · exact h2 h tk
  · exact h3 h h' tk
theorem st_A2'' (S : PP) {rx ry tn lg sw x y : Int} (h : ¬ (x = S.hx ∧ y = S.hy)) (h1 : rx ≠ 0) (h2 : ry ≠ 0) : step S false (.A rx ry tn lg sw x y) = ⟨x, y, S.sx, S.sy, S.cx, S.cy, Str.ofString "", false, S.found ++ (if S.cl && !false then [Dat.tuple [.str (Str.ofString "move"), pt S.hx S.hy]] else []) ++ [Dat.tuple [.str (Str.ofString "arc"), fr (absI rx), fr (absI ry), fr tn, .bool (lg == 1), .bool (sw == 1), pt x y]]⟩ := st_A2' S h h1 h2 rfl rfl
theorem wdJ41N26x52 : True := by
  k_with "eval IfExp" => (k_here; (fail_if_success (have j9 := abs9)); k_dflt (refine abs_join (by k_asm) (by rfl) (stopAt ?_) ?_))
  k_with "isTrue BoolOp" => (k_here; (fail_if_success (have j9 := abs9)); k_dflt (refine or_join (by k_asm) (by rfl) (by rfl) (stopAt ?_) ?_ ?_))
  k_with "exec If Compare cons nil" => (k_here; (fail_if_success (have j9 := joined9)); (with_reducible show wpAny _ _ (exec (Stmt.If (Expr.Compare (Expr.Call _ _ _ _) _ _ _) _ _ _) _) _ _ _); refine stopAt ?_)
  k_with "exec If Compare cons cons" => (k_here; (fail_if_success (have j9 := joined9)); (with_reducible show wpAny _ _ (exec (Stmt.If (Expr.Compare (Expr.Call _ _ _ _) _ _ _) _ _ _) _) _ _ _); refine stopAt ?_)
  trivial
theorem law_arc_ctr {w : World} {mean : ExcName → Option Value} {mg mb : Str → Option Value} {cur r1 r2 r3 r4 R : Led} {so po du gr sm : Addr} {S : PP} {gs ss : List Dat} {oS oP : Obj} {k0 k1 k2 : Nat} {fd fg fs : List Value}
    (P1 : Pick (so, oS) cur r1) (P2 : Pick (po, oP) r1 r2) (P3 : Pick (du, listOf fd.toArray k0) r2 r3) (P4 : Pick (gr, listOf fg.toArray k1) r3 r4) (P5 : Pick (sm, listOf fs.toArray k2) r4 R)
    (q1 : @Ne Nat so po ∧ @Ne Nat so du ∧ @Ne Nat so gr ∧ @Ne Nat so sm ∧ @Ne Nat po du ∧ @Ne Nat po gr ∧ @Ne Nat po sm ∧ @Ne Nat du gr ∧ @Ne Nat du sm ∧ @Ne Nat gr sm) (hA : Apart R [so, po, du, gr, sm])
    (hs : IsSrc oS) (hI : LawIn w R oP du gr sm fd fg fs S gs ss) (hl : S.found.length ≤ 800 ∧ gs.length ≤ 800 ∧ ss.length ≤ 800) :
    Ctr w mean mg mb 293 10 200 [.ref so, .ref po] cur (fun r news' => r = .none ∧ TurnPost w so po du gr sm R S gs ss news') := by
  refine Ctr.weaken (news := (so, oS) :: (po, oP) :: (du, listOf fd.toArray k0) :: (gr, listOf fg.toArray k1) :: (sm, listOf fs.toArray k2) :: R) (five9 P1 P2 P3 P4 P5) ?_
  refine hI.elim fun vh vst vc tk ww tw hd hw hh hst hcz hfd hfg hfs => ?_
  refine hh.raw_elim fun ha th uh nh hmh ehh => ?_
  subst ehh
  obtain ⟨q1, q2, q3, q4, q5, q6, q7, q8, q9, q10⟩ := q1
  obtain ⟨hl, hl1, hl2⟩ := hl
  (have hfill : True := fillT (K := Mine.hd.heap_1) (l := PySem.Challenge.rw_nu0013_01) (by k_fill; exact trivial); clear hfill; k_dflt (refine' Ctr.body ?k6 ?k7 ?k9 ?kB ?c2 ?c3 ?c4 ?c5 ?_; (case k6 => k_is); (case k7 => k_is); (case k9 => exact fun s X => BindsTo.of_eq rfl); (case kB => exact locs rfl); (case c2 => exact rfl); (case c3 => exact rfl); (case c4 => exact rfl); (case c5 => decide)); intro dp un gd A₀ base g outer L hp gens drawn toks os QQ B X T F N hd1 hd2 hret hnx; (try dsimp only); (try k_fold))
  repeat' (first | (k_unfold; (try dsimp only)) | (k_end; (fail_if_success (with_reducible show QQ _ _)); wrow_close) | walk1 | (dsimp only; walk1) | (leave1; walk_say "STEP leave1"; try dsimp only) | fail "no step")
  unfold Stop
  refine arc_join (so := so) (po := po) (du := du) (gr := gr) (sm := sm) (oP := oP) (fd := fd) (fg := fg) (fs := fs) (k0 := k0) (k1 := k1) (k2 := k2) (R := R) (by assumption) ?_ ?_
  · have joined9 := True.intro
    repeat' (first | (k_unfold; (try dsimp only)) | (k_end; (fail_if_success (with_reducible show QQ _ _)); wrow_close) | walk1 | (dsimp only; walk1) | (leave1; walk_say "STEP leave1"; try dsimp only) | fail "no step")
    all_goals first
      | exact arc_end (by with_reducible assumption) (by k_asm) (by with_reducible assumption) (by kp_flats) (by with_reducible assumption) (by keq_hits)
      | exact arc_end (fr_keep (by with_reducible assumption) rfl) (by k_asm) (by with_reducible assumption) (by kp_flats) (by with_reducible assumption) (by keq_hits)
  · have joined9 := True.intro
    intro pa px py T9 o9 h9 tk9 F9 N9 hAp9 hSR9 hs9 hr9
    (try dsimp only)
    (try k_sweep)
    repeat' (first | (k_unfold; (try dsimp only)) | (k_end; (fail_if_success (with_reducible show QQ _ _)); wrow_close) | walk1 | (dsimp only; walk1) | (leave1; walk_say "STEP leave1"; try dsimp only) | fail "no step")
    any_goals (
      unfold Stop
      have abs9 := True.intro
      repeat' (first | (k_unfold; (try dsimp only)) | (k_end; (fail_if_success (with_reducible show QQ _ _)); wrow_close) | walk1 | (dsimp only; walk1) | (leave1; walk_say "STEP leave1"; try dsimp only) | fail "no step")
      all_goals first | exact AbsMid.pos (by assumption) | exact AbsMid.neg (by assumption) | exact OrMid.t1 (by assumption) | exact OrMid.f (by assumption) (by assumption) | exact OrMid.t2 (by assumption))
    · exact hnx _ _ _ _ _ (by k_asm) (by k_asm) (TurnPost.mk2 (by with_reducible assumption) (by kp_flats) (by kp_flats) (LawIn.mk (by assumption) (by first | exact W3.put ‹W3 _› W3.e | assumption) (by keq_hits) (by keq_hits) RNz.nul (by k_extra "tallD9") (by k_extra "tallD9") (by k_extra "tallD9")) (turn_A S _ _ _ _ _ _ _) (st_A0 S _ _ _ _ _ _ _ (by assumption)))
    · exact hnx _ _ _ _ _ (by k_asm) (by k_asm) (TurnPost.mk2 (by with_reducible assumption) (by kp_flats) (by kp_flats) (LawIn.mk (by assumption) (by first | exact W3.put ‹W3 _› W3.e | assumption) (by keq_hits) (by keq_hits) RNz.nul (by k_extra "tallD9") (by k_extra "tallD9") (by k_extra "tallD9")) (turn_A S _ _ _ _ _ _ _) (st_A1' S (by assumption) (by assumption)))
    · exact hnx _ _ _ _ _ (by k_asm) (by k_asm) (TurnPost.mk2 (by with_reducible assumption) (by kp_flats) (by kp_flats) (LawIn.mk (by assumption) (by first | exact W3.put ‹W3 _› W3.e | assumption) (by keq_hits) (by keq_hits) RNz.nul (by k_extra "tallD9") (by k_extra "tallD9") (by k_extra "tallD9")) (turn_A S _ _ _ _ _ _ _) (st_A2'' S (by assumption) (by assumption) (by assumption)))
theorem wdJ41N26x53 : True := by
  k_with "call ref" => (k_here; (with_reducible show wpAny _ _ (call (Value.ref 293) _) _ _ _); k_dflt (refine' Ctr.useTurn (law_arc_ctr ?P1 ?P2 ?P3 ?P4 ?P5 ?q1 ?hA ?hs ?hI ?hl) ?k1 ?k2 ?k3 ?k4 ?k5 ?k6 ?k7 ?k8 ?CR9 ?hS9 ?hc9 ?_; (case k1 => k_asm); (case k2 => k_asm); (case k3 => k_asm); (case k4 => k_asm); (case k5 => k_asm); (case k6 => first | exact rfl | assumption); (case P1 => k_upd); (case P2 => k_upd); (case P3 => k_upd); (case P4 => k_upd); (case P5 => k_upd); (case q1 => (refine ⟨?_, ?_, ?_, ?_, ?_, ?_, ?_, ?_, ?_, ?_⟩ <;> k_ne)); (case hA => k_upd); (case hs => with_reducible assumption); (case hI => k_extra "law9"); (case hl => (refine ⟨?_, ?_, ?_⟩ <;> k_extra "len9")); (case k7 => first | exact room9 hd1 rfl | ktr_room); (case k8 => first | exact room9 hd2 rfl | ktr_units); (case CR9 => k_upd); (case hS9 => ((try dsimp only [List.map]); k_upd)); (case hc9 => k_upd)); k_dflt (intro cg9 cs9 oS9 oP9 k0' k1' k2' fd9 fg9 fs9 T9 h9 tk9 F9 N9 hAp9 hSR9 ht9 hs9 hI9; dsimp only [List.map, List.cons_append, List.nil_append] at hAp9 N9); (try dsimp only); (try k_sweep); (try k_fold))
  trivial
theorem Core.tail_sub {R k T q : Led} (C : Core R k T q) : ∀ p ∈ T, p ∈ R := by
  induction C with
  | tail => exact fun _ h => h
  | tup _ ih => exact fun p hp => .tail _ (ih p hp)
  | keep _ ih => exact fun p hp => .tail _ (ih p hp)
theorem neOf9 {L : Led} {a d : Addr} {o : Obj} (h : ∀ p ∈ L, p.1 ≠ d) (hm : (a, o) ∈ L) : a ≠ d := h _ hm
noncomputable def mvd (hx hy : Int) : List (Int × Int) → List (Int × Int)
  | [] => []
  | p :: r => (p.1 - hx, p.2 - hy) :: mvd hx hy r
noncomputable def CurveIs (S : PP) (W : Str) (ps : List (Int × Int)) (segd : List Dat) (x y cx cy : Int) (cg c' : Cmd) : Prop :=
  cg.nums = flat ps ∧ c'.nums = flat (mvd S.hx S.hy ps) ∧ step S true c' = step S false cg ∧ step S false cg = ⟨x, y, S.sx, S.sy, cx, cy, W, false, S.found ++ (if S.cl && !false then [Dat.tuple [.str (Str.ofString "move"), pt S.hx S.hy]] else []) ++ [Dat.tuple (.str W :: segd)]⟩
theorem curveC (S : PP) (a b c d x y : Int) : CurveIs S (Str.ofString "cubic") [(a, b), (c, d), (x, y)] [pt a b, pt c d, pt x y] x y c d (.C a b c d x y) (.C (a - S.hx) (b - S.hy) (c - S.hx) (d - S.hy) (x - S.hx) (y - S.hy)) := ⟨rfl, rfl, turn_C S _ _ _ _ _ _, st_C S _ _ _ _ _ _⟩
theorem curveS (S : PP) (a b x y : Int) : CurveIs S (Str.ofString "cubic") [(a, b), (x, y)] [pt (S.mx (Str.ofString "cubic")) (S.my (Str.ofString "cubic")), pt a b, pt x y] x y a b (.S a b x y) (.S (a - S.hx) (b - S.hy) (x - S.hx) (y - S.hy)) := ⟨rfl, rfl, turn_S S _ _ _ _, st_S S _ _ _ _⟩
theorem curveQ (S : PP) (a b x y : Int) : CurveIs S (Str.ofString "quad") [(a, b), (x, y)] [pt a b, pt x y] x y a b (.Q a b x y) (.Q (a - S.hx) (b - S.hy) (x - S.hx) (y - S.hy)) := ⟨rfl, rfl, turn_Q S _ _ _ _, st_Q S _ _ _ _⟩
theorem curveT (S : PP) (x y : Int) : CurveIs S (Str.ofString "quad") [(x, y)] [pt (S.mx (Str.ofString "quad")) (S.my (Str.ofString "quad")), pt x y] x y (S.mx (Str.ofString "quad")) (S.my (Str.ofString "quad")) (.T x y) (.T (x - S.hx) (y - S.hy)) := ⟨rfl, rfl, turn_T S _ _, st_T S _ _⟩
inductive CurvePost (w : World) (so po du gr sm : Addr) (vh vst : Value) (W ww : Str) (tw : Tok) (R : Led) (S : PP) : Value → Led → Prop
  | mk {cg c' : Cmd} {ps : List (Int × Int)} {segd : List Dat} {x y cx cy : Int} {oS' oP' : Obj} {tk' tl ts : Tok} {vc' vl : Value} {ra pl sg : Addr} {nr ns nl : Nat} {mid us : List Value} {news' : Led} : Sub [(so, oS'), (po, oP'), (pl, listOf (us ++ [vl]).toArray nl)] news' → Sub R news' → (IsSrc oS') → (IsPen w oP' vh vst S.kd tk' vc' S.cl du gr sm ww tw) → ((ra, tupO [.str (cg.letter false) tl, .ref pl, .ref sg] nr) ∈ news') → (TAll news' (us ++ [vl]) (raws ps)) → (TIn news' vl (rawp x y)) → ((sg, tupO (.str W ts :: mid) ns) ∈ news') → (TIn news' (.ref sg) (.tuple (.str W :: segd))) → (TIn news' vc' (rawp cx cy)) → (CurveIs S W ps segd x y cx cy cg c') → (Txt.lower (cg.letter false) = c'.letter true) → (Builtin.Str.tooLong (Txt.lower (cg.letter false)).length = false) → (1 ≤ ps.length ∧ ps.length ≤ 3) → ((us ++ [vl]).toArray.size ≤ sizeLine) → (∀ p ∈ R, p.1 ≠ pl) → (pl ≠ so) → (pl ≠ po) → CurvePost w so po du gr sm vh vst W ww tw R S (.ref ra) news'
theorem CPost.mk {w : World} {so po du gr sm : Addr} {vh vst : Value} {ww : Str} {tw : Tok} {R : Led} {S : PP} {news' : Led} {a b c d x y : Int} {oS' oP' : Obj} {tk' : Tok} {vc' : Value} {ra pl sg : Addr} {tl ts : Tok} {nr ns nl : Nat} {mid : List Value} {v0 v1 v2 : Value}
    (g1 : Sub [(so, oS'), (po, oP'), (pl, listOf [v0, v1, v2].toArray nl)] news') (g2 : Sub R news') (f0 : IsSrc oS') (f1 : IsPen w oP' vh vst S.kd tk' vc' S.cl du gr sm ww tw) (f2 : (ra, tupO [.str (Str.ofString "C") tl, .ref pl, .ref sg] nr) ∈ news') (p0 : TIn news' v0 (rawp a b)) (p1 : TIn news' v1 (rawp c d)) (p2 : TIn news' v2 (rawp x y)) (f5 : (sg, tupO (.str (Str.ofString "cubic") ts :: mid) ns) ∈ news') (f6 : TIn news' (.ref sg) (.tuple [.str (Str.ofString "cubic"), pt a b, pt c d, pt x y])) (f7 : TIn news' vc' (rawp c d)) (e0 : ∀ p ∈ R, p.1 ≠ pl) (e1 : pl ≠ so) (e2 : pl ≠ po) : CurvePost w so po du gr sm vh vst (Str.ofString "cubic") ww tw R S (.ref ra) news' :=
  .mk (cg := .C a b c d x y) (ps := [(a, b), (c, d), (x, y)]) (x := x) (y := y) (us := [v0, v1]) (vl := v2) g1 g2 f0 f1 f2 (TAll.cons p0 (TAll.cons p1 (TAll.cons p2 TAll.nil))) p2 f5 f6 f7 (curveC S _ _ _ _ _ _) lowC fitC ⟨Nat.le_of_ble_eq_true rfl, Nat.le_of_ble_eq_true rfl⟩ (size9 rfl) e0 e1 e2
theorem SPost.mk {w : World} {so po du gr sm : Addr} {vh vst : Value} {ww : Str} {tw : Tok} {R : Led} {S : PP} {news' : Led} {a b x y : Int} {oS' oP' : Obj} {tk' : Tok} {vc' : Value} {ra pl sg : Addr} {tl ts : Tok} {nr ns nl : Nat} {mid : List Value} {v0 v1 : Value}
    (g1 : Sub [(so, oS'), (po, oP'), (pl, listOf [v0, v1].toArray nl)] news') (g2 : Sub R news') (f0 : IsSrc oS') (f1 : IsPen w oP' vh vst S.kd tk' vc' S.cl du gr sm ww tw) (f2 : (ra, tupO [.str (Str.ofString "S") tl, .ref pl, .ref sg] nr) ∈ news') (p0 : TIn news' v0 (rawp a b)) (p1 : TIn news' v1 (rawp x y)) (f5 : (sg, tupO (.str (Str.ofString "cubic") ts :: mid) ns) ∈ news') (f6 : TIn news' (.ref sg) (.tuple [.str (Str.ofString "cubic"), pt (S.mx (Str.ofString "cubic")) (S.my (Str.ofString "cubic")), pt a b, pt x y])) (f7 : TIn news' vc' (rawp a b)) (e0 : ∀ p ∈ R, p.1 ≠ pl) (e1 : pl ≠ so) (e2 : pl ≠ po) : CurvePost w so po du gr sm vh vst (Str.ofString "cubic") ww tw R S (.ref ra) news' :=
  .mk (cg := .S a b x y) (ps := [(a, b), (x, y)]) (x := x) (y := y) (us := [v0]) (vl := v1) g1 g2 f0 f1 f2 (TAll.cons p0 (TAll.cons p1 TAll.nil)) p1 f5 f6 f7 (curveS S _ _ _ _) lowS fitS ⟨Nat.le_of_ble_eq_true rfl, Nat.le_of_ble_eq_true rfl⟩ (size9 rfl) e0 e1 e2
theorem QPost.mk {w : World} {so po du gr sm : Addr} {vh vst : Value} {ww : Str} {tw : Tok} {R : Led} {S : PP} {news' : Led} {a b x y : Int} {oS' oP' : Obj} {tk' : Tok} {vc' : Value} {ra pl sg : Addr} {tl ts : Tok} {nr ns nl : Nat} {mid : List Value} {v0 v1 : Value}
    (g1 : Sub [(so, oS'), (po, oP'), (pl, listOf [v0, v1].toArray nl)] news') (g2 : Sub R news') (f0 : IsSrc oS') (f1 : IsPen w oP' vh vst S.kd tk' vc' S.cl du gr sm ww tw) (f2 : (ra, tupO [.str (Str.ofString "Q") tl, .ref pl, .ref sg] nr) ∈ news') (p0 : TIn news' v0 (rawp a b)) (p1 : TIn news' v1 (rawp x y)) (f5 : (sg, tupO (.str (Str.ofString "quad") ts :: mid) ns) ∈ news') (f6 : TIn news' (.ref sg) (.tuple [.str (Str.ofString "quad"), pt a b, pt x y])) (f7 : TIn news' vc' (rawp a b)) (e0 : ∀ p ∈ R, p.1 ≠ pl) (e1 : pl ≠ so) (e2 : pl ≠ po) : CurvePost w so po du gr sm vh vst (Str.ofString "quad") ww tw R S (.ref ra) news' :=
  .mk (cg := .Q a b x y) (ps := [(a, b), (x, y)]) (x := x) (y := y) (us := [v0]) (vl := v1) g1 g2 f0 f1 f2 (TAll.cons p0 (TAll.cons p1 TAll.nil)) p1 f5 f6 f7 (curveQ S _ _ _ _) lowQ fitQ ⟨Nat.le_of_ble_eq_true rfl, Nat.le_of_ble_eq_true rfl⟩ (size9 rfl) e0 e1 e2
theorem TPost.mk {w : World} {so po du gr sm : Addr} {vh vst : Value} {ww : Str} {tw : Tok} {R : Led} {S : PP} {news' : Led} {x y : Int} {oS' oP' : Obj} {tk' : Tok} {vc' : Value} {ra pl sg : Addr} {tl ts : Tok} {nr ns nl : Nat} {mid : List Value} {v0 : Value}
    (g1 : Sub [(so, oS'), (po, oP'), (pl, listOf [v0].toArray nl)] news') (g2 : Sub R news') (f0 : IsSrc oS') (f1 : IsPen w oP' vh vst S.kd tk' vc' S.cl du gr sm ww tw) (f2 : (ra, tupO [.str (Str.ofString "T") tl, .ref pl, .ref sg] nr) ∈ news') (p0 : TIn news' v0 (rawp x y)) (f5 : (sg, tupO (.str (Str.ofString "quad") ts :: mid) ns) ∈ news') (f6 : TIn news' (.ref sg) (.tuple [.str (Str.ofString "quad"), pt (S.mx (Str.ofString "quad")) (S.my (Str.ofString "quad")), pt x y])) (f7 : TIn news' vc' (rawp (S.mx (Str.ofString "quad")) (S.my (Str.ofString "quad")))) (e0 : ∀ p ∈ R, p.1 ≠ pl) (e1 : pl ≠ so) (e2 : pl ≠ po) : CurvePost w so po du gr sm vh vst (Str.ofString "quad") ww tw R S (.ref ra) news' :=
  .mk (cg := .T x y) (ps := [(x, y)]) (x := x) (y := y) (us := []) (vl := v0) g1 g2 f0 f1 f2 (TAll.cons p0 TAll.nil) p0 f5 f6 f7 (curveT S _ _) lowT fitT ⟨Nat.le_of_ble_eq_true rfl, Nat.le_of_ble_eq_true rfl⟩ (size9 rfl) e0 e1 e2
theorem Ctr.useCurve {w : World} {mean : ExcName → Option Value} {mg mb : Str → Option Value} {f : Addr} {dm um : Nat} {vs : List Value} {news R k T0 qq : Led} {so po du gr sm : Addr} {vh vst : Value} {W ww : Str} {tw : Tok} {S : PP}
    (C : Ctr w mean mg mb f dm um vs news (fun r news' => CurvePost w so po du gr sm vh vst W ww tw R S r news')) {dp un : Nat} {gd : Option (List Code)} {cn : Str} {cs : Scope} {a₀ : Addr} {ccd : Value} {cl₀ : List (Str × Addr)} {outer : List Env} {A₀ : Around} {base h₀ hp : Heap} {gens : Array GenState} {drawn : Drawn} {toks : Nat} {os : OsState} {L : Addr} {m : Str → Option Value} {Q E : Value → Shared → Prop}
    (B : Below A₀ base outer h₀) (F : Fr h₀ L hp m) (X : (hd.heap_1 w.params).In h₀) (N : News h₀ L hp news) (T : Top qv (looseW qv [Str.ofString "fraction"]) mean mg mb h₀) (hk : cs.kind = .function) (h1 : dp + dm < recursionLimit) (h2 : un + um < cLine)
    (CR : Core R k T0 qq) (hS : Apart T0 (so :: po :: k.map (·.1))) (hc : NoTup k)
    (ret : ∀ (cg c' : Cmd) (ps : List (Int × Int)) (segd : List Dat) (x y cx cy : Int) (oS' oP' : Obj) (tk' tl ts : Tok) (vc' vl : Value) (ra pl sg : Addr) (nr ns nl : Nat) (mid us : List Value) (T9 : Led) (h' : Heap) (tk9 : Nat), Fr h₀ L h' m → News h₀ L h' ((so, oS') :: (po, oP') :: (pl, listOf (us ++ [vl]).toArray nl) :: (k ++ T9)) → Apart T9 (so :: po :: pl :: k.map (·.1)) → Sub qq T9 → (IsSrc oS') → (IsPen w oP' vh vst S.kd tk' vc' S.cl du gr sm ww tw) → ((ra, tupO [.str (cg.letter false) tl, .ref pl, .ref sg] nr) ∈ T9) → (TAll T9 (us ++ [vl]) (raws ps)) → (TIn T9 vl (rawp x y)) → ((sg, tupO (.str W ts :: mid) ns) ∈ T9) → (TIn T9 (.ref sg) (.tuple (.str W :: segd))) → (TIn T9 vc' (rawp cx cy)) → (CurveIs S W ps segd x y cx cy cg c') → (Txt.lower (cg.letter false) = c'.letter true) → (Builtin.Str.tooLong (Txt.lower (cg.letter false)).length = false) → (1 ≤ ps.length ∧ ps.length ≤ 3) → ((us ++ [vl]).toArray.size ≤ sizeLine) → (∀ p ∈ R, p.1 ≠ pl) → (pl ≠ so) → (pl ≠ po) → Q (.ref ra) ⟨h', gens, drawn, tk9, os⟩) :
    wpAny (model PySem.Challenge.rw_nu0013_01.prog w) (ktrTop dp un gd cn cs L a₀ ccd cl₀ outer) (call (.ref f) vs) Q E ⟨hp, gens, drawn, toks, os⟩ := by
  refine C.use (s := ⟨hp, gens, drawn, toks, os⟩) B F X N T hk h1 h2 fun r9 n9 h9 tk9 F9 N9 hp9 => ?_
  cases hp9 with
  | @mk cg c' ps segd x y cx cy oS' oP' tk' tl ts vc' vl ra pl sg nr ns nl mid us n9 hU9 hs9 f0 f1 f2 f3 f4 f5 f6 f7 f8 f9 f10 f11 f12 f13 f14 f15 =>
  obtain ⟨T9, hAp9, hST9, hSR9, N9'⟩ := tidy (news9 := n9) (U := [(so, oS'), (po, oP'), (pl, listOf (us ++ [vl]).toArray nl)]) hU9 hs9 N9 CR ⟨fun p hp => hS p hp so (.head _), fun p hp => hS p hp po (.tail _ (.head _)), fun p hp => f13 p (CR.tail_sub p hp), sepL_of fun p hp a ha => hS p hp a (.tail _ (.tail _ ha))⟩ ⟨cls_src f0, cls_pen f1, cls_list, hc⟩
  exact ret cg c' ps segd x y cx cy oS' oP' tk' tl ts vc' vl ra pl sg nr ns nl mid us T9 h9 tk9 F9 N9' hAp9 hSR9 f0 f1 (hST9.use f2 isT) (f3.monoT hST9) (f4.monoT hST9) (hST9.use f5 isT) (f6.monoT hST9) (f7.monoT hST9) f8 f9 f10 f11 f12 f13 f14 f15
theorem raws_app : ∀ (a b : List (Int × Int)), raws (a ++ b) = raws a ++ raws b
  | [], _ => rfl
  | p :: r, b => by show rawp p.1 p.2 :: raws (r ++ b) = _; rw [raws_app r b]; rfl
theorem mvd_app (hx hy : Int) : ∀ (a b : List (Int × Int)), mvd hx hy (a ++ b) = mvd hx hy a ++ mvd hx hy b
  | [], _ => rfl
  | p :: r, b => by show _ :: mvd hx hy (r ++ b) = _; rw [mvd_app hx hy r b]; rfl
theorem comp_ind {P : Nat → Nat → List Value → Led → Prop} {vs : List Value} {ps : List (Int × Int)} {hx0 hy0 : Int} {news0 : Led} (hv : TAll news0 vs (raws ps))
    (k0 : ∀ ys T, Sub news0 T → TAll T ys (raws (mvd hx0 hy0 ps)) → P 0 vs.toArray.size ys T)
    (k1 : ∀ (j i : Nat) (ys : List Value) (v : Value) (x y : Int) (T : Led), vs.toArray[i]? = some v → Sub news0 T → TIn T v (rawp x y) → (∀ (D : Addr) (t u : Tok) (n : Nat), P j (i + 1) (ys ++ [.ref D]) ((D, tupO [.int (x - hx0) t, .int (y - hy0) u] n) :: T)) → P (j + 1) i ys T) : P vs.toArray.size 0 [] news0 := by
  have key : ∀ (ps' : List (Int × Int)) (vs0 vs' : List Value) (ps0 : List (Int × Int)) (ys : List Value) (T : Led), vs = vs0 ++ vs' → raws ps = raws ps0 ++ raws ps' → raws (mvd hx0 hy0 ps) = raws (mvd hx0 hy0 ps0) ++ raws (mvd hx0 hy0 ps') → TAll news0 vs' (raws ps') → Sub news0 T → TAll T ys (raws (mvd hx0 hy0 ps0)) → P vs'.length vs0.length ys T := by
    intro ps'
    induction ps' with
    | nil =>
      intro vs0 vs' ps0 ys T e e1 e2 h hs hy
      cases h
      have e3 : vs0.length = vs.toArray.size := by subst e; simp
      have e4 : raws (mvd hx0 hy0 ps) = raws (mvd hx0 hy0 ps0) := by rw [e2]; exact List.append_nil _
      rw [e3]
      exact k0 ys T hs (e4 ▸ hy)
    | cons p r ih =>
      intro vs0 vs' ps0 ys T e e1 e2 h hs hy
      cases h with
      | @cons v us _ _ h1 hr =>
        refine k1 us.length vs0.length ys v p.1 p.2 T (by subst e; simp) hs (h1.mono hs) fun D t u n => ?_
        have := ih (vs0 ++ [v]) us (ps0 ++ [p]) (ys ++ [.ref D]) ((D, tupO [.int (p.1 - hx0) t, .int (p.2 - hy0) u] n) :: T) (by rw [e]; simp) (by rw [e1, raws_app]; simp [raws]) (by rw [e2, mvd_app, raws_app]; simp [raws, mvd]) hr (hs.trans fun q hq => .tail _ hq) (by
          rw [mvd_app, raws_app]
          exact (hy.mono fun q hq => .tail _ hq).append (.cons (.tuple (.head _) (.cons (.int _ _) (.cons (.int _ _) .nil))) .nil))
        rw [List.length_append] at this
        exact this
  have := key ps [] vs [] [] news0 rfl rfl rfl hv Sub.refl .nil
  rw [show vs.toArray.size = vs.length from by simp]
  exact this
theorem tidy_elim {h₀ h : Heap} {L : Addr} {news9 U T : Led} {C : Prop} (hU : Sub U news9) (hs : Sub T news9) (N : News h₀ L h news9) (hk : Apart T (U.map (·.1))) (hc : NoTup U) (k : ∀ T9, News h₀ L h (U ++ T9) → Apart T9 (U.map (·.1)) → SubT news9 T9 → Sub T T9 → C) : C := by
  obtain ⟨T9, a, b, c, d⟩ := tidy (k := []) (q := T) hU hs N Core.tail (by rw [List.append_nil]; exact sepL_of hk) (by rw [List.append_nil]; exact hc)
  rw [List.append_nil] at a
  exact k T9 d a b c
theorem my_eq_int2 {prog : Program} {w : World} {A : Around} {E : Value → Shared → Prop} {s : Shared} {x y : Int} {t u : Tok} {Q : Value → Shared → Prop} (h1 : x = y → Q (.bool true) s) (h2 : x ≠ y → Q (.bool false) s) : wpAny (model prog w) A (compareOp .Eq (.int x t) (.int y u)) Q E s := by
  refine PyProof.Rows.eq_int ?_
  by_cases h : x = y
  · rw [beq_iff_eq.mpr h]; exact h1 h
  · rw [beq_eq_false_iff_ne.mpr h]; exact h2 h
theorem my_eq_str2 {prog : Program} {w : World} {A : Around} {E : Value → Shared → Prop} {s : Shared} {x y : Str} {t u : Tok} {b : Bool} {Q : Value → Shared → Prop} (h : (x == y) = b) (hq : Q (.bool b) s) : wpAny (model prog w) A (compareOp .Eq (.str x t) (.str y u)) Q E s := by
  subst h
  exact PyProof.Rows.eq_str hq
theorem my_eq_strS {prog : Program} {w : World} {A : Around} {E : Value → Shared → Prop} {s : Shared} {x y : Str} {t u : Tok} {Q : Value → Shared → Prop} (h1 : x = y → Q (.bool true) s) (h2 : x ≠ y → Q (.bool false) s) : wpAny (model prog w) A (compareOp .Eq (.str x t) (.str y u)) Q E s := by
  refine PyProof.Rows.eq_str ?_
  by_cases h : x = y
  · rw [beq_iff_eq.mpr h]; exact h1 h
  · rw [beq_eq_false_iff_ne.mpr h]; exact h2 h
noncomputable def CurMid (g : Heap) (L : Addr) (m : Str → Option Value) (gens : Array GenState) (drawn : Drawn) (os : OsState) (so po : Addr) (oS oP : Obj) (R : Led) (x y : Int) (fl : Flow) (s' : Shared) : Prop :=
  fl = .next ∧ ∃ (ca : Addr) (T9 : Led) (h' : Heap) (tk' : Nat), s' = ⟨h', gens, drawn, tk', os⟩ ∧ Fr g L h' (fun z => if z = Str.ofString "c" then some (.ref ca) else m z) ∧ News g L h' ((so, oS) :: (po, oP) :: T9) ∧ Apart T9 [so, po] ∧ Sub R T9 ∧ TIn T9 (.ref ca) (rawp x y)
theorem cur_join {prog : Program} {w : World} {A : Around} {E : Value → Shared → Prop} {t : Sem Flow} {Q : Flow → Shared → Prop} {g h : Heap} {L : Addr} {m : Str → Option Value} {gens : Array GenState} {drawn : Drawn} {tk : Nat} {os : OsState} {so po : Addr} {oS oP : Obj} {R : Led} {x y : Int}
    (nF : Fr g L h m) (nN : News g L h ((so, oS) :: (po, oP) :: R))
    (h1 : wpAny (model prog w) A t (CurMid g L m gens drawn os so po oS oP R x y) E ⟨h, gens, drawn, tk, os⟩)
    (h2 : ∀ (ca : Addr) (T9 : Led) (h' : Heap) (tk' : Nat), Fr g L h' (fun z => if z = Str.ofString "c" then some (.ref ca) else m z) → News g L h' ((so, oS) :: (po, oP) :: T9) → Apart T9 [so, po] → Sub R T9 → TIn T9 (.ref ca) (rawp x y) → Q .next ⟨h', gens, drawn, tk', os⟩) :
    wpAny (model prog w) A t Q E ⟨h, gens, drawn, tk, os⟩ := by
  refine wpAny_mono h1 ?_ (fun _ _ h => h)
  rintro fl s' ⟨rfl, ca, T9, h', tk', rfl, a, b, c, d, e⟩
  exact h2 ca T9 h' tk' a b c d e
theorem cur_end {g h' : Heap} {L : Addr} {m : Str → Option Value} {gens : Array GenState} {drawn : Drawn} {tk' : Nat} {os : OsState} {so po : Addr} {oS oP : Obj} {R all : Led} {x y x' y' : Int} {ca : Addr} {r1 T9 : Led} (ex : x' = x) (ey : y' = y)
    (F : Fr g L h' (fun z => if z = Str.ofString "c" then some (.ref ca) else m z)) (N : News g L h' all) (P1 : Pick (so, oS) all r1) (P2 : Pick (po, oP) r1 T9) (hA : Apart T9 [so, po]) (hR : Sub R T9) (hp : TIn T9 (.ref ca) (rawp x' y')) :
    CurMid g L m gens drawn os so po oS oP R x y .next ⟨h', gens, drawn, tk', os⟩ := by
  subst ex ey
  exact ⟨rfl, _, _, _, _, rfl, F, fun p hp => N p (P1.sub _ (Sub.cons P2.sub _ hp)), hA, hR, hp⟩
theorem fr_keepC {g h' : Heap} {L : Addr} {m : Str → Option Value} {x : Str} {v : Value} (F : Fr g L h' m) (e : m x = some v) : Fr g L h' (fun y => if y = x then some v else m y) := map_keep e ▸ F
theorem wdJ43N28x54 : True := by
  k_with "compareOp Eq int int" => (k_here; refine my_eq_int2 ?_ ?_ <;> intro hsh9)
  k_with "compareOp Eq str str" => (k_here; refine my_eq_strS ?_ ?_ <;> intro hcw9)
  k_with "compareOp Eq str str" => (k_here; first | refine my_eq_str2 (beq_iff_eq.mpr (by with_reducible assumption)) ?_ | refine my_eq_str2 (beq_eq_false_iff_ne.mpr (by with_reducible assumption)) ?_)
  k_with "exec If Compare cons nil" => (k_here; (fail_if_success (have j9 := joined9)); (with_reducible show wpAny _ _ (exec (Stmt.If (Expr.Compare (Expr.Subscript _ _ _) _ _ _) _ _ _) _) _ _ _); refine stopAt ?_)
  trivial
theorem cq_ne {W : Str} (h : W = Str.ofString "cubic" ∨ W = Str.ofString "quad") : W ≠ Str.ofString "" := by rcases h with rfl | rfl <;> decide
theorem curve_ctr {w : World} {mean : ExcName → Option Value} {mg mb : Str → Option Value} {cur r1 R : Led} {so po du gr sm : Addr} {S : PP} {oS oP : Obj} {vh vst vc : Value} {tk tw tq : Tok} {W ww : Str} (hW : W = Str.ofString "cubic" ∨ W = Str.ofString "quad")
    (P1 : Pick (so, oS) cur r1) (P2 : Pick (po, oP) r1 R) (q1 : @Ne Nat so po) (hA : Apart R [so, po]) (hs : IsSrc oS) (hd : IsPen w oP vh vst S.kd tk vc S.cl du gr sm ww tw) (hh : TIn R vh (rawp S.hx S.hy)) (hcz : RNz R S.kd vc S.cx S.cy) :
    Ctr w mean mg mb 265 10 200 [.ref so, .ref po, .str W tq] cur (fun r news' => CurvePost w so po du gr sm vh vst W ww tw R S r news') := by
  refine Ctr.weaken (news := (so, oS) :: (po, oP) :: R) (fun p hp => P1.sub _ (Sub.cons P2.sub _ hp)) ?_
  refine hh.raw_elim fun ha th uh nh hmh ehh => ?_
  subst ehh
  (have hfill : True := fillT (K := Mine.hd.heap_1) (l := PySem.Challenge.rw_nu0013_01) (by k_fill; exact trivial); clear hfill; k_dflt (refine' Ctr.body ?k6 ?k7 ?k9 ?kB ?c2 ?c3 ?c4 ?c5 ?_; (case k6 => k_is); (case k7 => k_is); (case k9 => exact fun s X => BindsTo.of_eq rfl); (case kB => exact locs rfl); (case c2 => exact rfl); (case c3 => exact rfl); (case c4 => exact rfl); (case c5 => decide)); intro dp un gd A₀ base g outer L hp gens drawn toks os QQ B X T F N hd1 hd2 hret hnx; (try dsimp only); (try k_fold))
  repeat' (first | (k_unfold; (try dsimp only)) | (k_end; (fail_if_success (with_reducible show QQ _ _)); wrow_close) | walk1 | (dsimp only; walk1) | (leave1; walk_say "STEP leave1"; try dsimp only) | fail "no step")
  · unfold Stop
    (rename Fr _ _ _ _ => lF)
    (rename News _ _ _ _ => lN)
    refine cur_join (so := so) (po := po) (R := T9) (x := S.mx W) (y := S.my W) lF (fun p hp => lN p (List.mem_cons_of_mem _ hp)) ?_ ?_
    · have joined9 := True.intro
      by_cases hk : S.kd = W
      · have hc := hcz (by rw [hk]; exact cq_ne hW)
        refine hc.raw_elim fun hc1 tc uc nc hmc ehc => ?_
        subst ehc
        repeat' (first | (k_unfold; (try dsimp only)) | (k_end; (fail_if_success (with_reducible show QQ _ _)); wrow_close) | walk1 | (dsimp only; walk1) | (leave1; walk_say "STEP leave1"; try dsimp only) | fail "no step")
        exact cur_end (if_pos hk).symm (if_pos hk).symm (by with_reducible assumption) (by k_asm) (by k_upd) (by k_upd) (by k_upd) (by kp_flats) (by keq_hits)
      · repeat' (first | (k_unfold; (try dsimp only)) | (k_end; (fail_if_success (with_reducible show QQ _ _)); wrow_close) | walk1 | (dsimp only; walk1) | (leave1; walk_say "STEP leave1"; try dsimp only) | fail "no step")
        exact cur_end (if_neg hk).symm (if_neg hk).symm (fr_keepC (by with_reducible assumption) rfl) (by k_asm) (by k_upd) (by k_upd) (by k_upd) (by kp_flats) (by keq_hits)
    · have joined9 := True.intro
      clear lF lN
      intro ca T9 h9 tk9 F9 N9 hAp9 hSR9 hr9
      refine hr9.raw_elim fun hc1 tc uc nc hmc ehc => ?_
      cases ehc
      (try dsimp only)
      (try k_sweep)
      repeat' (first | (k_unfold; (try dsimp only)) | (k_end; (fail_if_success (with_reducible show QQ _ _)); wrow_close) | walk1 | (dsimp only; walk1) | (leave1; walk_say "STEP leave1"; try dsimp only) | fail "no step")
      · subst hcw9
        exact hret _ _ _ _ _ _ (by k_asm) (by k_asm) (SPost.mk (by kp_flats) (by kp_flats) (by with_reducible assumption) (by assumption) (by keq_rows) (by keq_hits) (by keq_hits) (by keq_rows) (by keq_hits) (by keq_hits) (rawLt_ne (by with_reducible assumption) (by kp_flats)) (by k_ne) (by k_ne))
      · have e := hW.resolve_left hcw9
        subst e
        exact hret _ _ _ _ _ _ (by k_asm) (by k_asm) (TPost.mk (by kp_flats) (by kp_flats) (by with_reducible assumption) (by assumption) (by keq_rows) (by keq_hits) (by keq_rows) (by keq_hits) (by keq_hits) (rawLt_ne (by with_reducible assumption) (by kp_flats)) (by k_ne) (by k_ne))
  · subst hcw9
    exact hret _ _ _ _ _ _ (by k_asm) (by k_asm) (CPost.mk (by kp_flats) (by kp_flats) (by with_reducible assumption) (by assumption) (by keq_rows) (by keq_hits) (by keq_hits) (by keq_hits) (by keq_rows) (by keq_hits) (by keq_hits) (rawLt_ne (by with_reducible assumption) (by kp_flats)) (by k_ne) (by k_ne))
  · have e := hW.resolve_left hcw9
    subst e
    exact hret _ _ _ _ _ _ (by k_asm) (by k_asm) (QPost.mk (by kp_flats) (by kp_flats) (by with_reducible assumption) (by assumption) (by keq_rows) (by keq_hits) (by keq_hits) (by keq_rows) (by keq_hits) (by keq_hits) (rawLt_ne (by with_reducible assumption) (by kp_flats)) (by k_ne) (by k_ne))
theorem W3.ne {W : Str} (h : W3 W) (e : (W != Str.ofString "") = true) : W = Str.ofString "cubic" ∨ W = Str.ofString "quad" := h.elim (fun q => by subst q; exact absurd e (by decide)) id
theorem wdJ43N28x55 : True := by
  k_with "call ref" => (k_here; (with_reducible show wpAny _ _ (call (Value.ref 265) _) _ _ _); k_dflt (refine' Ctr.useCurve (curve_ctr ?hW ?P1 ?P2 ?q1 ?hA ?hs ?hd ?hh ?hcz) ?k1 ?k2 ?k3 ?k4 ?k5 ?k6 ?k7 ?k8 ?CR9 ?hS9 ?hc9 ?_; (case k1 => k_asm); (case k2 => k_asm); (case k3 => k_asm); (case k4 => k_asm); (case k5 => k_asm); (case k6 => first | exact rfl | assumption); (case hW => first | with_reducible assumption | exact W3.ne (by with_reducible assumption) (by with_reducible assumption)); (case P1 => k_upd); (case P2 => k_upd); (case q1 => k_ne); (case hA => k_upd); (case hs => with_reducible assumption); (case hd => with_reducible assumption); (case hh => keq_hits); (case hcz => k_extra "rnz9"); (case k7 => first | exact room9 hd1 rfl | ktr_room); (case k8 => first | exact room9 hd2 rfl | ktr_units); (case CR9 => k_upd); (case hS9 => ((try dsimp only [List.map]); k_upd)); (case hc9 => k_upd)); k_dflt (intro cg9 cs9 ps9 sd9 x9 y9 cx9 cy9 oS9 oP9 tk9' tl9 ts9 vc9 vl9 ra9 pl9 sg9 nr9 ns9 nl9 mid9 us9 T9 h9 tk9 F9 N9 hAp9 hSR9 hs9 hd9 hra9 hpa9 hpl9 hsg9 hsd9 hvc9 hC9 hlo9 hfi9 hln9 hsz9 hn9a hn9b hn9c; dsimp only [List.map, List.cons_append, List.nil_append] at hAp9 N9); (try dsimp only); (try k_sweep); (try k_fold))
  trivial
theorem rawNe9 {T L : Led} {d : Addr} (h : ∀ p ∈ L, p.1 ≠ d) (hs : Sub T L) : ∀ p ∈ T, p.1 ≠ d := fun p hp => h p (hs p hp)
theorem off1_mem {D : Addr} : ∀ {l : Led}, LCg.Off1 D l → ∀ p ∈ l, p.1 ≠ D
  | [], _, _, h => nomatch h
  | _ :: _, x, p, h => by
    rcases List.mem_cons.mp h with rfl | h
    · exact x.1
    · exact off1_mem x.2 p h
theorem my_compEnd {h₀ : Heap} {L I C D : Addr} {m : Str → Option Value} {s₁ : Shared} {oI oC oD : Obj} {S : Led → Prop} {rest : Value → Led → Prop} {y : Value} {h' : Heap} {tk : Nat} {all r1 r2 news' : Led}
    (F : Fr h₀ L h' m) (N : News h₀ L h' all) (P1 : Pick (I, oI) all r1) (P2 : Pick (C, oC) r1 r2) (P3 : Pick (D, oD) r2 news') (oi : ∀ p ∈ news', p.1 ≠ I) (oc : ∀ p ∈ news', p.1 ≠ C) (od : ∀ p ∈ news', p.1 ≠ D) (hS : S news') (r : rest y news') :
    LCg.CompEnd h₀ L m s₁ I oI C oC D oD S rest y { s₁ with heap := h', toks := tk } :=
  LCg.CompEnd.intro F N news' (fun p hp => P1.sub p (Sub.cons (fun p hp => P2.sub p (Sub.cons P3.sub p hp)) p hp)) (LCg.Off3.of fun p hp => ⟨oi p hp, oc p hp, od p hp⟩) hS r
theorem Ctr.useExact {w : World} {mean : ExcName → Option Value} {mg mb : Str → Option Value} {f : Addr} {dm um : Nat} {vs : List Value} {news : Led} {x y : Int}
    (C : Ctr w mean mg mb f dm um vs news (fun r news' => ∃ D t u n, r = .ref D ∧ news' = (D, tupO [.int x t, .int y u] n) :: news ∧ ∀ p ∈ news, p.1 < D))
    {dp un : Nat} {gd : Option (List Code)} {cn : Str} {cs : Scope} {a : Addr} {ccd : Value} {cl : List (Str × Addr)} {outer : List Env} {A₀ : Around} {base h₀ hp : Heap} {gens : Array GenState} {drawn : Drawn} {toks : Nat} {os : OsState} {L : Addr} {m : Str → Option Value} {Q E : Value → Shared → Prop}
    (B : Below A₀ base outer h₀) (F : Fr h₀ L hp m) (X : (hd.heap_1 w.params).In h₀) (N : News h₀ L hp news) (T : Top qv (looseW qv [Str.ofString "fraction"]) mean mg mb h₀) (hk : cs.kind = .function) (h1 : dp + dm < recursionLimit) (h2 : un + um < cLine)
    (ret : ∀ (D : Addr) (t u : Tok) (n : Nat) (h' : Heap) (tk' : Nat), Fr h₀ L h' m → News h₀ L h' ((D, tupO [.int x t, .int y u] n) :: news) → (∀ p ∈ news, p.1 < D) → Q (.ref D) ⟨h', gens, drawn, tk', os⟩) :
    wpAny (model PySem.Challenge.rw_nu0013_01.prog w) (ktrTop dp un gd cn cs L a ccd cl outer) (call (.ref f) vs) Q E ⟨hp, gens, drawn, toks, os⟩ := by
  refine C.use (s := ⟨hp, gens, drawn, toks, os⟩) B F X N T hk h1 h2 fun r9 n9 h9 tk9 F9 N9 hp9 => ?_
  obtain ⟨D, t, u, n, rfl, rfl, l⟩ := hp9
  exact ret D t u n h9 tk9 F9 N9 l
theorem wdJ44N29x56 : True := by
  k_with "call ref" => (k_here; (with_reducible show wpAny _ _ (call (Value.ref 237) _) _ _ _); k_dflt (refine' Ctr.useExact (moved_exact ?hv ?hv') ?k1 ?k2 ?k3 ?k4 ?k5 ?k6 ?k7 ?k8 ?_; (case k1 => k_asm); (case k2 => k_asm); (case k3 => k_asm); (case k4 => k_asm); (case k5 => k_asm); (case k6 => first | exact rfl | assumption); (case hv => keq_hits); (case hv' => keq_hits); (case k7 => first | exact room9 hd1 rfl | ktr_room); (case k8 => first | exact room9 hd2 rfl | ktr_units)); intro a9 t9 u9 m9 h9 tk9 F9 N9 l9; (try dsimp only); (try k_sweep))
  k_with "CompEnd" => (k_here; k_dflt (refine my_compEnd (by k_asm) (by k_asm) (by k_upd) (by k_upd) (by k_upd) (by k_all) (by k_all) (by k_all) (Or.inr ⟨_, by k_mem, rfl, _, rfl⟩) ?_))
  trivial
theorem my_item2 {prog : Program} {w : World} {A : Around} {E : Value → Shared → Prop} {s : Shared} {value slice : PySem.Expr} {l : Addr} {x0 x1 : Str} {t0 t1 : Tok} {i : Int} {u : Tok} {Q : Value → Shared → Prop} (hl : s.heap.IsList l [.str x0 t0, .str x1 t1].toArray) (h0 : 0 ≤ i) (h1 : i < 2) (k : ∀ W t, W = x0 ∨ W = x1 → Q (.str W t) s)
    (hs : ∀ k, subscripted slice false (.ref l) (.int k u) = operate [.ref l, .int k u] (getItem (.ref l) (.int k u)) := by intro _; with_unfolding_all rfl) :
    wpAny (model prog w) A (subscriptTail value slice (.ref l) (.int i u)) Q E s := by
  rcases (show i = 0 ∨ i = 1 by omega) with rfl | rfl
  · exact item_litK hl (by decide) (by decide) rfl (k _ _ (.inl rfl)) (hs 0)
  · exact item_litK hl (by decide) (by decide) rfl (k _ _ (.inr rfl)) (hs 1)
theorem mvd_len (ax0 ay0 : Int) : ∀ (ps : List (Int × Int)), (mvd ax0 ay0 ps).length = ps.length
  | [] => rfl
  | p :: r => by show (mvd ax0 ay0 r).length + 1 = _; rw [mvd_len ax0 ay0 r]; rfl
theorem wdJ44N29x57 : True := by
  k_with "call ref" => (k_here; (with_reducible show wpAny _ _ (call (Value.ref 251) _) _ _ _); k_dflt (refine' Ctr.useF (lnumN_ctr ?hp ?h ?hl) ?k1 ?k2 ?k3 ?k4 ?k5 ?k6 ?k7 ?k8 ?CR9 ?hS9 ?hc9 ?_; (case k1 => k_asm); (case k2 => k_asm); (case k3 => k_asm); (case k4 => k_asm); (case k5 => k_asm); (case k6 => first | exact rfl | assumption); (case hp => keq_rows); (case h => kct_strs); (case hl => first | with_reducible assumption | (rw [mvd_len]; with_reducible assumption)); (case k7 => first | exact room9 hd1 rfl | ktr_room); (case k8 => first | exact room9 hd2 rfl | ktr_units); (case CR9 => k_upd); (case hS9 => ((try dsimp only [List.map]); k_upd)); (case hc9 => k_upd)); k_dflt (intro a9 T9 h9 tk9 F9 N9 hAp9 hSR9 hr9; dsimp only [List.map, List.cons_append, List.nil_append] at hAp9 N9); (try dsimp only); (try k_sweep); (try k_fold))
  trivial
theorem cq_move {W : Str} (h : W = Str.ofString "cubic" ∨ W = Str.ofString "quad") : (W == Str.ofString "move") = false := by rcases h with rfl | rfl <;> decide
theorem cq_close {W : Str} (h : W = Str.ofString "cubic" ∨ W = Str.ofString "quad") : (W == Str.ofString "close") = false := by rcases h with rfl | rfl <;> decide
theorem W3.cq {W : Str} (h : W = Str.ofString "cubic" ∨ W = Str.ofString "quad") : W3 W := .inr h
theorem TurnPost.mkC {w : World} {oS oP : Obj} {so po du gr sm : Addr} {fd fg fs : List Value} {S : PP} {gs ss : List Dat} {R news' : Led} {k0 k1 k2 : Nat} {cg c' : Cmd} {W : Str} {ps : List (Int × Int)} {segd : List Dat} {x y cx cy : Int} (hC : CurveIs S W ps segd x y cx cy cg c') (hs : IsSrc oS)
    (hU : Sub [(so, oS), (po, oP), (du, listOf fd.toArray k0), (gr, listOf fg.toArray k1), (sm, listOf fs.toArray k2)] news') (hR : Sub R news')
    (hI : LawIn w news' oP du gr sm fd fg fs ⟨x, y, S.sx, S.sy, cx, cy, W, false, S.found ++ (if S.cl && !false then [Dat.tuple [.str (Str.ofString "move"), pt S.hx S.hy]] else []) ++ [Dat.tuple (.str W :: segd)]⟩ (gs ++ [Dat.tuple [.str (cg.letter false), .tuple (flat ps)]]) (ss ++ [Dat.tuple [.str (c'.letter true), .tuple (flat (mvd S.hx S.hy ps))]])) :
    Value.none = .none ∧ TurnPost w so po du gr sm R S gs ss news' := by
  obtain ⟨e1, e2, e3, e4⟩ := hC
  rw [← e1, ← e2] at hI
  exact TurnPost.mk (cg := cg) (cs := c') e3 e4 hs hU hR hI
theorem wdJ44N29x58 : True := by
  k_with "subscriptTail" => (k_here; (with_reducible show wpAny _ _ (subscriptTail _ _ (Value.ref _) (Value.int _ _)) _ _ _); k_dflt (refine my_item2 (News.isList (by k_asm) (by keq_rows)) (by with_reducible assumption) (by with_reducible assumption) ?_); intro W9 tq9 hW9; (try dsimp only))
  k_with "subscriptTail Name UnaryOp ref int" => (k_here; (with_reducible show wpAny _ _ (subscriptTail _ _ (Value.ref _) (Value.int (-1) _)) _ _ _); k_dflt (refine item_last (News.isList (by k_asm) (by keq_rows)) ?_; k_whole))
  k_with "CompRest" => (refine stopAt ?_)
  k_with "CompSrc" => (k_here; k_dflt (refine' LCg.CompSrc.ledger ?c1 ?c2 ?c3 ?c4 ?c5 ?_; (case c1 => exact rfl); (case c2 => k_asm); (case c3 => k_asm); (case c4 => keq_rows); (case c5 => with_reducible assumption)); intro g9)
  k_with "call ref" => (k_here; (with_reducible show wpAny _ _ (call (Value.ref 272) _) _ _ _); k_dflt (refine' Ctr.useLput (lput_ctr (b := false) (c := false) ?P1 ?hd ?P2 ?q1 ?hA ?hsa ?hh ?hf ?hl ?hD ?hb ?hc) ?k1 ?k2 ?k3 ?k4 ?k5 ?k6 ?k7 ?k8 ?CR9 ?hS9 ?hc9 ?_; (case k1 => k_asm); (case k2 => k_asm); (case k3 => k_asm); (case k4 => k_asm); (case k5 => k_asm); (case k6 => first | exact rfl | assumption); (case P1 => k_upd); (case hd => with_reducible assumption); (case P2 => k_upd); (case q1 => k_ne); (case hA => k_upd); (case hsa => keq_rows); (case hh => keq_hits); (case hf => kct_strs); (case hl => k_extra "len9"); (case hD => keq_hits); (case hb => with_reducible assumption); (case hc => with_reducible assumption); (case k7 => first | exact room9 hd1 rfl | ktr_room); (case k8 => first | exact room9 hd2 rfl | ktr_units); (case CR9 => k_upd); (case hS9 => ((try dsimp only [List.map]); k_upd)); (case hc9 => k_upd)); k_dflt (intro o9 k9' fv9 tw9 T9 h9 tk9 F9 N9 hAp9 hSR9 hd9 hf9; dsimp only [List.map, List.cons_append, List.nil_append] at hAp9 N9); (try dsimp only); (try k_sweep); (try k_fold))
  k_with "call ref" => (k_here; (with_reducible show wpAny _ _ (call (Value.ref 279) _) _ _ _); k_dflt (refine' Ctr.useTold (told_ctr ?hp0 ?hd ?P1 ?P2 ?q1 ?hA ?hpo ?hg ?hs ?hl ?hl' ?ha ?hb ?hx ?hf) ?k1 ?k2 ?k3 ?k4 ?k5 ?k6 ?k7 ?k8 ?CR9 ?hS9 ?hc9 ?_; (case k1 => k_asm); (case k2 => k_asm); (case k3 => k_asm); (case k4 => k_asm); (case k5 => k_asm); (case k6 => first | exact rfl | assumption); (case hp0 => keq_rows); (case hd => with_reducible assumption); (case P1 => k_upd); (case P2 => k_upd); (case q1 => k_ne); (case hA => k_upd); (case hpo => keq_rows); (case hg => kct_strs); (case hs => kct_strs); (case hl => k_extra "len9"); (case hl' => k_extra "len9"); (case ha => keq_hits); (case hb => keq_hits); (case hx => with_reducible assumption); (case hf => with_reducible assumption); (case k7 => first | exact room9 hd1 rfl | ktr_room); (case k8 => first | exact room9 hd2 rfl | ktr_units); (case CR9 => k_upd); (case hS9 => ((try dsimp only [List.map]); k_upd)); (case hc9 => k_upd)); k_dflt (intro k9' m9' fg9 fs9 T9 h9 tk9 F9 N9 hAp9 hSR9 hfg9 hfs9; dsimp only [List.map, List.cons_append, List.nil_append] at hAp9 N9); (try dsimp only); (try k_sweep); (try k_fold))
  trivial
theorem law_step_ctr {w : World} {mean : ExcName → Option Value} {mg mb : Str → Option Value} {cur r1 r2 r3 r4 R : Led} {so po du gr sm : Addr} {S : PP} {gs ss : List Dat} {oS oP : Obj} {k0 k1 k2 : Nat} {fd fg fs : List Value}
    (P1 : Pick (so, oS) cur r1) (P2 : Pick (po, oP) r1 r2) (P3 : Pick (du, listOf fd.toArray k0) r2 r3) (P4 : Pick (gr, listOf fg.toArray k1) r3 r4) (P5 : Pick (sm, listOf fs.toArray k2) r4 R)
    (q1 : @Ne Nat so po ∧ @Ne Nat so du ∧ @Ne Nat so gr ∧ @Ne Nat so sm ∧ @Ne Nat po du ∧ @Ne Nat po gr ∧ @Ne Nat po sm ∧ @Ne Nat du gr ∧ @Ne Nat du sm ∧ @Ne Nat gr sm) (hA : Apart R [so, po, du, gr, sm])
    (hs : IsSrc oS) (hI : LawIn w R oP du gr sm fd fg fs S gs ss) (hl : S.found.length ≤ 800 ∧ gs.length ≤ 800 ∧ ss.length ≤ 800) :
    Ctr w mean mg mb 298 20 400 [.ref so, .ref po] cur (fun r news' => r = .none ∧ TurnPost w so po du gr sm R S gs ss news') := by
  refine Ctr.weaken (news := (so, oS) :: (po, oP) :: (du, listOf fd.toArray k0) :: (gr, listOf fg.toArray k1) :: (sm, listOf fs.toArray k2) :: R) (five9 P1 P2 P3 P4 P5) ?_
  refine hI.elim fun vh vst vc tk ww tw hd hw hh hst hcz hfd hfg hfs => ?_
  refine hh.raw_elim fun ha th uh nh hmh ehh => ?_
  subst ehh
  obtain ⟨q1, q2, q3, q4, q5, q6, q7, q8, q9, q10⟩ := q1
  obtain ⟨hl, hl1, hl2⟩ := hl
  (have hfill : True := fillT (K := Mine.hd.heap_1) (l := PySem.Challenge.rw_nu0013_01) (by k_fill; exact trivial); clear hfill; k_dflt (refine' Ctr.bodyC ?k6 ?k7 ?k9 ?kB ?kD ?c2 ?c3 ?c4 ?_; (case k6 => k_is); (case k7 => k_is); (case k9 => exact fun s X => BindsTo.of_eq rfl); (case kB => exact rfl); (case kD => decide +kernel); (case c2 => exact rfl); (case c3 => exact rfl); (case c4 => exact rfl)); intro dp un gd A₀ base g outer L hp gens drawn toks os QQ cells B X T F N Y lC hd1 hd2 hret hnx; k_cells Y; (try simp only [List.cons_append, List.nil_append] at N); (try dsimp only); (try k_fold))
  repeat' (first | (k_unfold; (try dsimp only)) | (k_end; (fail_if_success (with_reducible show QQ _ _)); wrow_close) | walk1 | (dsimp only; walk1) | (leave1; walk_say "STEP leave1"; try dsimp only) | fail "no step")
  · unfold Stop
    have hbm9 := cq_move hW9
    have hbc9 := cq_close hW9
    refine comp_ind (P := LCg.CompRest _ _ _ _ _ _ _ _ _ _ _ _ _ _ _) (hx0 := S.hx) (hy0 := S.hy) (ps := ps9) (by kct_strs) ?_ ?_
    · intro ys T hS hT
      refine LCg.CompRest.zero ?_
      unfold LCg.FinE
      intro D' h' tk' F' N' o1'
      have o2' := off1_mem o1'
      clear o1'
      refine' tidy_elim (U := [(D', _), (so, _), (po, _), (du, _), (gr, _), (sm, _), (L + 1, _), (pl9, _)]) (T := T9) ?z1 ?z2 N' ?z3 ?z4 ?_
      case z1 => kp_flats
      case z2 => kp_flats
      case z3 => (dsimp only [List.map]; k_upd)
      case z4 => k_upd
      intro T10 N10 hAp10 hST10 hS10
      dsimp only [List.map, List.cons_append, List.nil_append] at hAp10 N10
      have hT10 := hT.monoT (fun p hp h => hST10 p (.tail _ hp) h)
      have o3' := fun p hp => o2' p (hS p hp)
      clear hST10 o2' N' hT hS
      (try dsimp only)
      (try k_sweep)
      repeat' (first | (k_unfold; (try dsimp only)) | (k_end; (fail_if_success (with_reducible show QQ _ _)); wrow_close) | walk1 | (dsimp only; walk1) | (leave1; walk_say "STEP leave1"; try dsimp only) | fail "no step")
      exact hnx _ _ _ _ _ (by k_asm) (by k_asm) (TurnPost.mkC hC9 (by with_reducible assumption) (by kp_flats) (by kp_flats) (LawIn.mk (by assumption) (W3.put ‹W3 _› (W3.cq hW9)) (by keq_hits) (by keq_hits) (by k_extra "rnz9") (by k_extra "tallD9") (by k_extra "tallD9") (by k_extra "tallD9")))
    · intro j i ys v x y T hi hS hvT IH
      refine LCg.CompRest.succ ?_
      intro v' I' oI' C' oC' D' m' h' tk' E' hv' hC' hx' F' N' off' ne'
      obtain rfl : v' = v := Option.some.inj (hv'.symm.trans hi)
      have offI := fun p hp => (LCg.Off3.mem off' p hp).1
      have offC := fun p hp => (LCg.Off3.mem off' p hp).2.1
      have offD := fun p hp => (LCg.Off3.mem off' p hp).2.2
      have neIC := ne'.1
      have neID := ne'.2.1
      have neCD := ne'.2.2
      clear off' ne' hv' hi
      skip
      repeat' (first | (k_unfold; (try dsimp only)) | (k_end; (fail_if_success (with_reducible show QQ _ _)); wrow_close) | walk1 | (dsimp only; walk1) | (leave1; walk_say "STEP leave1"; try dsimp only) | fail "no step")
      exact IH _ _ _ _
  · exact hnx _ _ _ _ _ (by k_asm) (by k_asm) (TurnPost.mk2 (by with_reducible assumption) (by kp_flats) (by kp_flats) (by k_extra "law9") (by with_reducible assumption) rfl)
  · exact hnx _ _ _ _ _ (by k_asm) (by k_asm) (TurnPost.mk2 (by with_reducible assumption) (by kp_flats) (by kp_flats) (by k_extra "law9") (by with_reducible assumption) rfl)
  · exact hnx _ _ _ _ _ (by k_asm) (by k_asm) (TurnPost.mk2 (by with_reducible assumption) (by kp_flats) (by kp_flats) (LawIn.mk (by assumption) (by first | exact W3.put ‹W3 _› W3.e | assumption) (by keq_hits) (by keq_hits) RNz.nul (by k_extra "tallD9") (by k_extra "tallD9") (by k_extra "tallD9")) (turn_Z S) (st_Z S))
  · exact hnx _ _ _ _ _ (by k_asm) (by k_asm) (TurnPost.mk2 (by with_reducible assumption) (by kp_flats) (by kp_flats) (by k_extra "law9") (turn_M S _ _) rfl)
theorem wdJ44N29x59 : True := by
  k_with "call ref" => (k_here; (with_reducible show wpAny _ _ (call (Value.ref 298) _) _ _ _); k_dflt (refine' Ctr.useTurn (law_step_ctr ?P1 ?P2 ?P3 ?P4 ?P5 ?q1 ?hA ?hs ?hI ?hl) ?k1 ?k2 ?k3 ?k4 ?k5 ?k6 ?k7 ?k8 ?CR9 ?hS9 ?hc9 ?_; (case k1 => k_asm); (case k2 => k_asm); (case k3 => k_asm); (case k4 => k_asm); (case k5 => k_asm); (case k6 => first | exact rfl | assumption); (case P1 => k_upd); (case P2 => k_upd); (case P3 => k_upd); (case P4 => k_upd); (case P5 => k_upd); (case q1 => (refine ⟨?_, ?_, ?_, ?_, ?_, ?_, ?_, ?_, ?_, ?_⟩ <;> k_ne)); (case hA => k_upd); (case hs => with_reducible assumption); (case hI => k_extra "law9"); (case hl => (refine ⟨?_, ?_, ?_⟩ <;> k_extra "len9")); (case k7 => first | exact room9 hd1 rfl | ktr_room); (case k8 => first | exact room9 hd2 rfl | ktr_units); (case CR9 => k_upd); (case hS9 => ((try dsimp only [List.map]); k_upd)); (case hc9 => k_upd)); k_dflt (intro cg9 cs9 oS9 oP9 k0' k1' k2' fd9 fg9 fs9 T9 h9 tk9 F9 N9 hAp9 hSR9 ht9 hs9 hI9; dsimp only [List.map, List.cons_append, List.nil_append] at hAp9 N9); (try dsimp only); (try k_sweep); (try k_fold))
  trivial
section
open PySem.Calls PyProof.Rows.LCg
variable {prog : Program} {w : World} {A : Around} {E : Value → Shared → Prop} {s : Shared} {h₀ : Heap} {L : Addr} {m : Str → Option Value} {env : Env}
inductive Mix : List Value → List Value → List Value → Prop
  | nil : Mix [] [] []
  | l {x y : Value} {xs ys zs : List Value} : Mix xs ys zs → Mix (x :: xs) (y :: ys) (x :: zs)
  | r {x y : Value} {xs ys zs : List Value} : Mix xs ys zs → Mix (x :: xs) (y :: ys) (y :: zs)
theorem Mix.snoc {xs ys zs : List Value} {x y v : Value} (h : Mix xs ys zs) (e : v = x ∨ v = y) : Mix (xs ++ [x]) (ys ++ [y]) (zs ++ [v]) := by
  induction h with
  | nil =>
    rcases e with rfl | rfl
    · exact .l .nil
    · exact .r .nil
  | l _ ih => exact .l ih
  | r _ ih => exact .r ih
noncomputable def MixEnd (h₀ : Heap) (L : Addr) (m : Str → Option Value) (s₁ : Shared) (so : Addr) (HT : Led) (v1 v2 : Value) (y : Value) (s₂ : Shared) : Prop :=
  ∃ (h' : Heap) (tk' : Nat) (o' : Obj), s₂ = { s₁ with heap := h', toks := tk' } ∧ Fr h₀ L h' m ∧ News h₀ L h' ((so, o') :: HT) ∧ IsSrc o' ∧ (y = v1 ∨ y = v2)
noncomputable def MixTurn (prog : Program) (w : World) (A : Around) (h₀ : Heap) (L : Addr) (m : Str → Option Value) (env : Env) (elt : PySem.Expr) (a b : Str) (scope : Scope) (cl : List (Str × Addr)) (s : Shared) (so : Addr) (T : Led) : Prop :=
  ∀ (HT : Led) (C : Addr) (oC : Obj) (m₂ : Str → Option Value) (h : Heap) (tk : Nat) (v1 v2 : Value) (o : Obj) (E' : Value → Shared → Prop), Sub T HT → IsSrc o → (C, oC) ∈ HT → NsObj oC m₂ → m₂ a = some v1 → m₂ b = some v2 → Fr h₀ L h m → News h₀ L h ((so, o) :: HT) → (∀ p ∈ HT, p.1 ≠ so) →
    wpAny (model prog w) A (eval elt (compEnvC scope cl C env)) (MixEnd h₀ L m { s with heap := h, toks := tk } so HT v1 v2) E' { s with heap := h, toks := tk }
noncomputable abbrev ZSt (z TI TO i1 i2 l1 l2 : Addr) (xs ys : List Value) (i : Nat) (h : Heap) : Prop := IsZip h z TI TO .none ∧ IsPair h TI (.ref i1) (.ref i2) ∧ (∃ a b, IsPair h TO a b) ∧ h.IsListIter i1 l1 i ∧ h.IsListIter i2 l2 i ∧ h.IsList l1 xs.toArray ∧ h.IsList l2 ys.toArray
theorem m45 {a b c d e x : Addr} (h : x ∈ [a, c, d, e]) : x ∈ [a, b, c, d, e] := by
  rcases List.mem_cons.mp h with rfl | h
  · exact .head _
  · exact .tail _ (.tail _ h)
theorem m57 {a b c d e f g x : Addr} (h : x ∈ [a, b, c, d, e]) : x ∈ [a, b, c, d, e, f, g] := List.mem_append_left [f, g] h
inductive MInv (h₀ : Heap) (L : Addr) (m : Str → Option Value) (s₂ : Shared) (z TI TO i1 i2 l1 l2 so C D : Addr) (xs ys : List Value) (T : Led) : Nat → Shared → Prop
  | mk {h' : Heap} {tk i : Nat} {acc : List Value} {m' : Str → Option Value} {o' : Obj} : i ≤ xs.length → acc.length = i → ZSt z TI TO i1 i2 l1 l2 xs ys i h' → Fr h₀ L h' m → h'.Ns C m' → News h₀ L h' ((D, lst acc) :: (so, o') :: T) → IsSrc o' → Mix (xs.take i) (ys.take i) acc →
      MInv h₀ L m s₂ z TI TO i1 i2 l1 l2 so C D xs ys T (xs.length + 1 - i) { s₂ with heap := h', toks := tk }
theorem zmem {z TI TO i1 i2 l1 l2 C D : Addr} {oz oI oO o1 o2 oC oD ol1 ol2 : Obj} {T : Led} (h1 : (l1, ol1) ∈ T) (h2 : (l2, ol2) ∈ T) : ∀ c ∈ [z, TI, TO, i1, i2, l1, l2], ∃ ob, (c, ob) ∈ ((z, oz) :: (TI, oI) :: (TO, oO) :: (i1, o1) :: (i2, o2) :: (C, oC) :: (D, oD) :: T : Led) :=
  List.forall_mem_cons.mpr ⟨⟨_, .head _⟩, List.forall_mem_cons.mpr ⟨⟨_, .tail _ (.head _)⟩, List.forall_mem_cons.mpr ⟨⟨_, .tail _ (.tail _ (.head _))⟩, List.forall_mem_cons.mpr ⟨⟨_, .tail _ (.tail _ (.tail _ (.head _)))⟩, List.forall_mem_cons.mpr ⟨⟨_, .tail _ (.tail _ (.tail _ (.tail _ (.head _))))⟩,
    List.forall_mem_cons.mpr ⟨⟨_, .tail _ (.tail _ (.tail _ (.tail _ (.tail _ (.tail _ (.tail _ h1))))))⟩, List.forall_mem_cons.mpr ⟨⟨_, .tail _ (.tail _ (.tail _ (.tail _ (.tail _ (.tail _ (.tail _ h2))))))⟩, fun _ h => nomatch h⟩⟩⟩⟩⟩⟩⟩
theorem zst_ex {z TI TO i1 i2 l1 l2 : Addr} {xs ys : List Value} {i : Nat} {h : Heap} (hst : ZSt z TI TO i1 i2 l1 l2 xs ys i h) : ∀ c ∈ [z, TI, TO, i1, i2, l1, l2], ∃ o, h.get? c = some o := by
  obtain ⟨e1, e2, ⟨_, _, e3⟩, ⟨_, e4, _⟩, ⟨_, e5, _⟩, ⟨_, e6, _⟩, ⟨_, e7, _⟩⟩ := hst
  exact List.forall_mem_cons.mpr ⟨⟨_, e1⟩, List.forall_mem_cons.mpr ⟨⟨_, e2⟩, List.forall_mem_cons.mpr ⟨⟨_, e3⟩, List.forall_mem_cons.mpr ⟨⟨_, e4⟩, List.forall_mem_cons.mpr ⟨⟨_, e5⟩, List.forall_mem_cons.mpr ⟨⟨_, e6⟩, List.forall_mem_cons.mpr ⟨⟨_, e7⟩, fun _ h => nomatch h⟩⟩⟩⟩⟩⟩⟩
theorem zwalk {prog : Program} {w : World} {A : Around} (hh : A.handled = none) {z TI TO i1 i2 l1 l2 : Addr} (D0 : ZipApart z TI TO i1 i2 l1 l2) {xs ys : List Value} (hlen : xs.length = ys.length) :
    ∃ Mid, WalksT prog w A z [z, TI, TO, i1, i2, l1, l2] [z, TO, i1, i2] xs.length (fun i vals => ∃ x y, xs.toArray[i]? = some x ∧ ys.toArray[i]? = some y ∧ vals = #[x, y]) (fun i h => ZSt z TI TO i1 i2 l1 l2 xs ys i h) Mid := by
  have W := WalksT.zip2 (prog := prog) (w := w) hh z TI TO i1 i2 l1 l2 D0 xs.toArray ys.toArray
  rw [show min xs.toArray.size ys.toArray.size = xs.length by simp [hlen]] at W
  exact ⟨_, W⟩
theorem mix_block {elt iter : PySem.Expr} {a b : Str} {pa pb tp : Pos} {kk : Nat} {scope : Scope} {cl : List (Str × Addr)} {pos : Pos} {s₂ : Shared} {z TI TO i1 i2 l1 l2 so : Addr} {oS : Obj} {xs ys : List Value} {n1 n2 : Nat} {T : Led}
    {RR : Value → Addr → Result → Shared → Prop}
    (hh : A.handled = none) (D0 : ZipApart z TI TO i1 i2 l1 l2) (hst : ZSt z TI TO i1 i2 l1 l2 xs ys 0 s₂.heap) (hlen : xs.length = ys.length) (hsz : xs.length ≤ sizeLine)
    (hcell : ∀ y ∈ scope.names, y.2 ≠ .cell) (hkind : scope.kind = .function) (hxa : scope.names.lookup a = some .local) (hxb : scope.names.lookup b = some .local) (hab : ¬ a = b)
    (F : Fr h₀ L s₂.heap m) (N : News h₀ L s₂.heap ((so, oS) :: T)) (hs : IsSrc oS) (hso : ∀ p ∈ T, p.1 ≠ so) (hm1 : (l1, listOf xs.toArray n1) ∈ T) (hm2 : (l2, listOf ys.toArray n2) ∈ T)
    (hid : ∀ c ∈ [z, TI, TO, i1, i2], h₀.get? c = none ∧ c ≠ L ∧ c ≠ so ∧ ∀ p ∈ T, p.1 ≠ c)
    (R : MixTurn prog w A h₀ L m env elt a b scope cl s₂ so T)
    (hRR : ∀ D C h tk m' zs o', Fr h₀ L h m → News h₀ L h ((D, lst zs) :: (so, o') :: T) → (∀ p ∈ (so, o') :: T, p.1 ≠ D) → IsSrc o' → Mix xs ys zs → h.Ns C m' → h₀.get? C = none → C ≠ L → C ≠ D → (∀ p ∈ (so, o') :: T, p.1 ≠ C) → RR (.ref D) C (.ok .next) { s₂ with heap := h, toks := tk }) :
    wpAny (model prog w) A (newList []) (fun acc s₃ => wpAny (model prog w) A (newFunctionEnv scope env.globals cl [] env.qual none .none (some env)) (fun cenv s₄ =>
      codeAny (model prog w) A (.compStart (.ListComp elt [⟨.Tuple [.Name a pa, .Name b pb] kk tp, iter, [], 0⟩] scope pos) 0 (.ref z) acc { cenv with scope := relabel scope env }) (RR acc cenv.locals) s₄) E s₃) E s₂ := by
  refine wpAny_newObj_type (wpAny_newFunctionEnv hcell (by intro y hy; simp at hy) (fun h₁ hns₁ hsb₁ => ?_) hkind)
  dsimp only at hns₁ hsb₁ ⊢
  generalize hH2 : s₂.heap.push { cls := .type "list", dict := none, data := .seq ([] : List Value).toArray } = H2 at hns₁ hsb₁ ⊢
  have hC : H2.objs.size = s₂.heap.objs.size + 1 := by rw [← hH2, Heap.size_push]
  generalize hDd : s₂.heap.objs.size = D at *
  generalize hCd : H2.objs.size = C at *
  have hDC : D ≠ C := by rw [hC]; exact Nat.ne_of_lt (Nat.lt_succ_self _)
  have below : ∀ {b o}, s₂.heap.get? b = some o → b ≠ C ∧ b ≠ D := fun {b o} e => by
    have hb : b < D := hDd ▸ Heap.lt_size e
    exact ⟨by rw [hC]; exact Nat.ne_of_lt (Nat.lt_succ_of_lt hb), Nat.ne_of_lt hb⟩
  have old : ∀ b o, s₂.heap.get? b = some o → h₁.get? b = some o := fun b o e => hsb₁.extBut b o (below e).1 (Heap.get?_push_of_some _ (hH2 ▸ Heap.get?_push_of_some _ e))
  have hacc : h₁.get? D = some (lst []) := hsb₁.extBut _ _ hDC (Heap.get?_push_of_some _ (hDd ▸ hH2 ▸ Heap.get?_push_size _ rfl))
  obtain ⟨Mid, W⟩ := zwalk (prog := prog) (w := w) hh D0 hlen
  have hfC : ∀ c ∈ [z, TI, TO, i1, i2, l1, l2], c ≠ C ∧ c ≠ D := fun c hc => by
    obtain ⟨o, e⟩ := zst_ex hst c hc
    exact below e
  have fresh₀ : ∀ c, D ≤ c → h₀.get? c = none := fun c hc => by
    cases e : h₀.get? c with
    | none => rfl
    | some o' => exact absurd (Heap.lt_size (F.keep c o' e)) (by rw [hDd]; exact Nat.not_lt.mpr hc)
  have hD₀ : h₀.get? D = none := fresh₀ _ (Nat.le_refl _)
  have hC₀ : h₀.get? C = none := fresh₀ _ (by rw [hC]; exact Nat.le_succ _)
  have hLlt : L < D := hDd ▸ F.ns.lt
  have hDL : D ≠ L := Nat.ne_of_gt hLlt
  have hCL : C ≠ L := by rw [hC]; exact Nat.ne_of_gt (Nat.lt_succ_of_lt hLlt)
  have hTlt : ∀ p ∈ (so, oS) :: T, p.1 ≠ C ∧ p.1 ≠ D := fun p hp => below (N p hp).1
  have hsoC : so ≠ C := (hTlt _ (.head _)).1
  have hsoD : so ≠ D := (hTlt _ (.head _)).2
  have hTC : ∀ p ∈ T, p.1 ≠ C ∧ p.1 ≠ D := fun p hp => hTlt p (.tail _ hp)
  have hL₀ : ∀ c, c = L → c ∉ [z, TO, i1, i2] := fun c e hm => (hid c (m45 hm)).2.1 e
  have hwT : ∀ p ∈ T, p.1 ∉ [z, TO, i1, i2] := fun p hp hm => (hid _ (m45 hm)).2.2.2 p hp rfl
  have hwS : so ∉ [z, TO, i1, i2] := fun hm => (hid _ (m45 hm)).2.2.1 rfl
  have hwC : C ∉ [z, TO, i1, i2] := fun hm => (hfC _ (m57 (m45 hm))).1 rfl
  have hwD : D ∉ [z, TO, i1, i2] := fun hm => (hfC _ (m57 (m45 hm))).2 rfl
  have hw0 : ∀ c o, h₀.get? c = some o → c ∉ [z, TO, i1, i2] := fun c o e hm => by rw [(hid c (m45 hm)).1] at e; cases e
  have loop : ∀ s₃ : Shared, s₃ = { s₂ with heap := h₁, toks := s₂.toks + ([] : List (Str × Value)).length } →
      codeAny (model prog w) A (.compLoop (.ListComp elt [⟨.Tuple [.Name a pa, .Name b pb] kk tp, iter, [], 0⟩] scope pos) 0 (.ref z) (.ref D) (compEnvC scope cl C env))
        (RR (.ref D) C) s₃ := by
    rintro s₃ rfl
    refine kcp_loop (MInv h₀ L m s₂ z TI TO i1 i2 l1 l2 so C D xs ys T) ?_ (xs.length + 1)
      (.mk (i := 0) (acc := []) (Nat.zero_le _) rfl (W.frame _ _ _ hst (fun c _ o e => old c o e)) (F.keeps old) hns₁ (fun p hp => ?_) hs (by rw [List.take_zero, List.take_zero]; exact .nil))
    · intro k s' hinv
      cases hinv with
      | @mk h' tk i acc m' o' hi hyl hst' F' hn' N' hs' hmx =>
      by_cases hlt : i < xs.length
      · refine W.item i _ _ _ hlt hst' fun T' vals h₂ tk₂ hP hge hT hMd hk₂ => ?_
        refine W.go _ _ _ i T' _ _ _ hMd fun h₃ hst₃ hk₃ => ?_
        obtain ⟨x, y, hx, hy, rfl⟩ := hP
        have hT₃ : h₃.IsTuple T' #[x, y] := by
          obtain ⟨o, e, r⟩ := hT
          exact ⟨o, hk₃ _ _ (W.apart _ _ _ hMd) e, r⟩
        have up₃ : ∀ c o, c ∉ [z, TO, i1, i2] → h'.get? c = some o → h₃.get? c = some o := fun c o hc e => hk₃ c o hc (hk₂ c o hc e)
        refine kcp_assign (env := compEnvC scope cl C env) hh hT₃ (lookup_relabel_local hxa) (lookup_relabel_local hxb) (by simp [compEnvC, relabel, hkind]) (hn'.at' fun o e => up₃ _ o hwC e) fun h₄ tk₄ hn₄ hs₄ => ?_
        have up : ∀ c o, c ∉ [z, TO, i1, i2] → c ≠ C → h'.get? c = some o → h₄.get? c = some o := fun c o h1 h2 e => hs₄ c o h2 (up₃ c o h1 e)
        have hst₄ : ZSt z TI TO i1 i2 l1 l2 xs ys (i + 1) h₄ := W.frame _ _ _ hst₃ fun c hc o e => hs₄ c o (hfC c hc).1 e
        obtain ⟨oC, heC, hoC⟩ := ns_obj hn₄
        have F₄ : Fr h₀ L h₄ m := ⟨F'.ns.at' fun o e => up _ o (hL₀ _ rfl) (Ne.symm hCL) e, fun c o e => up c o (hw0 c o e) (fun q => by rw [q, hC₀] at e; cases e) (F'.keep c o e), F'.above⟩
        have ex := zst_ex hst₄
        obtain ⟨oz, ez⟩ := ex z (.head _)
        obtain ⟨oI, eI⟩ := ex TI (.tail _ (.head _))
        obtain ⟨oO, eO⟩ := ex TO (.tail _ (.tail _ (.head _)))
        obtain ⟨o1, e1⟩ := ex i1 (.tail _ (.tail _ (.tail _ (.head _))))
        obtain ⟨o2, e2⟩ := ex i2 (.tail _ (.tail _ (.tail _ (.tail _ (.head _)))))
        have up5 : ∀ {c o}, h₄.get? c = some o → c ∈ [z, TI, TO, i1, i2] → h₄.get? c = some o ∧ c ≠ L ∧ h₀.get? c = none := fun e hc => ⟨e, (hid _ hc).2.1, (hid _ hc).1⟩
        have N₄ : ∀ p ∈ ((z, oz) :: (TI, oI) :: (TO, oO) :: (i1, o1) :: (i2, o2) :: (C, oC) :: (D, lst acc) :: T : Led), h₄.get? p.1 = some p.2 ∧ p.1 ≠ L ∧ h₀.get? p.1 = none := by
          refine List.forall_mem_cons.mpr ⟨up5 ez (.head _), List.forall_mem_cons.mpr ⟨up5 eI (.tail _ (.head _)), List.forall_mem_cons.mpr ⟨up5 eO (.tail _ (.tail _ (.head _))), List.forall_mem_cons.mpr ⟨up5 e1 (.tail _ (.tail _ (.tail _ (.head _)))), List.forall_mem_cons.mpr ⟨up5 e2 (.tail _ (.tail _ (.tail _ (.tail _ (.head _))))), List.forall_mem_cons.mpr ⟨⟨heC, hCL, hC₀⟩, List.forall_mem_cons.mpr ⟨?_, fun p hp => ?_⟩⟩⟩⟩⟩⟩⟩
          · have q := N' _ (.head _)
            exact ⟨up _ _ hwD hDC q.1, q.2⟩
          · have q := N' p (.tail _ (.tail _ hp))
            exact ⟨up _ _ (hwT p hp) (hTC p hp).1 q.1, q.2⟩
        have hN₄ : News h₀ L h₄ ((so, o') :: (z, oz) :: (TI, oI) :: (TO, oO) :: (i1, o1) :: (i2, o2) :: (C, oC) :: (D, lst acc) :: T) := List.forall_mem_cons.mpr ⟨by
          have q := N' _ (.tail _ (.head _))
          exact ⟨up _ _ hwS hsoC q.1, q.2⟩, N₄⟩
        have hs5 : ∀ {c : Addr}, c ∈ [z, TI, TO, i1, i2] → c ≠ so := fun hc => (hid _ hc).2.2.1
        have hHs : ∀ p ∈ ((z, oz) :: (TI, oI) :: (TO, oO) :: (i1, o1) :: (i2, o2) :: (C, oC) :: (D, lst acc) :: T : Led), p.1 ≠ so :=
          List.forall_mem_cons.mpr ⟨hs5 (.head _), List.forall_mem_cons.mpr ⟨hs5 (.tail _ (.head _)), List.forall_mem_cons.mpr ⟨hs5 (.tail _ (.tail _ (.head _))), List.forall_mem_cons.mpr ⟨hs5 (.tail _ (.tail _ (.tail _ (.head _)))), List.forall_mem_cons.mpr ⟨hs5 (.tail _ (.tail _ (.tail _ (.tail _ (.head _))))), List.forall_mem_cons.mpr ⟨Ne.symm hsoC, List.forall_mem_cons.mpr ⟨Ne.symm hsoD, hso⟩⟩⟩⟩⟩⟩⟩
        have mC : ∀ {p : Addr × Obj}, p ∈ ((C, oC) :: (D, lst acc) :: T : Led) → p ∈ ((z, oz) :: (TI, oI) :: (TO, oO) :: (i1, o1) :: (i2, o2) :: (C, oC) :: (D, lst acc) :: T : Led) := fun h => .tail _ (.tail _ (.tail _ (.tail _ (.tail _ h))))
        refine wpAny_mono (R _ C oC _ h₄ _ x y o' _ (fun p hp => mC (.tail _ (.tail _ hp))) hs' (mC (.head _)) hoC (by simp [hab]) (by simp) F₄ hN₄ hHs) (fun v s₅ h₅ => ?_) fun _ _ e => e
        obtain ⟨h₅, tk₅, o₅, rfl, F₅, N₅, hs₅, hv⟩ := h₅
        have zD := (N₅ (D, lst acc) (.tail _ (mC (.tail _ (.head _))))).1
        have zC := (N₅ (C, oC) (.tail _ (mC (.head _)))).1
        refine append_at (hsz := by show acc.toArray.size ≤ sizeLine; rw [List.size_toArray, hyl]; exact Nat.le_trans hi hsz) zD fun h₆ hs₆ hD₆ => ?_
        refine ⟨xs.length + 1 - (i + 1), by omega, .mk hlt (by rw [List.length_append, List.length_singleton, hyl]) (W.frame _ _ _ hst₄ fun c hc o e => hs₆.extBut c o (hfC c hc).2 ?_) (F₅.change hs₆ hDL hD₀) ((hoC.ns zC).sameBut hs₆ (Ne.symm hDC)) (List.forall_mem_cons.mpr ⟨⟨hD₆.trans (congrArg some (lst_snoc acc v)), hDL, hD₀⟩, List.forall_mem_cons.mpr ⟨?_, fun p hp => ?_⟩⟩) hs₅ ?_⟩
        · obtain ⟨ob, hob⟩ := zmem (z := z) (TI := TI) (TO := TO) (i1 := i1) (i2 := i2) (C := C) (D := D) (oz := oz) (oI := oI) (oO := oO) (o1 := o1) (o2 := o2) (oC := oC) (oD := lst acc) hm1 hm2 c hc
          rw [(N₅ _ (.tail _ hob)).1, ← (N₄ _ hob).1, e]
        · have q := N₅ _ (.head _)
          exact ⟨hs₆.extBut _ _ hsoD q.1, q.2⟩
        · have q := N₅ p (.tail _ (mC (.tail _ (.tail _ hp))))
          exact ⟨hs₆.extBut _ _ (hTC p hp).2 q.1, q.2⟩
        · have hx' : xs[i]? = some x := by simpa using hx
          have hy' : ys[i]? = some y := by simpa using hy
          rw [List.take_add_one, List.take_add_one, hx', hy']
          exact hmx.snoc hv
      · obtain rfl : i = xs.length := Nat.le_antisymm hi (Nat.not_lt.mp hlt)
        refine W.done _ _ _ hst' fun h₂ tk₂ hk₂ => ?_
        have F₂ : Fr h₀ L h₂ m := ⟨F'.ns.at' fun o e => hk₂ _ o (hL₀ _ rfl) e, fun c o e => hk₂ c o (hw0 c o e) (F'.keep c o e), F'.above⟩
        rw [List.take_length, hlen, List.take_length] at hmx
        have up : ∀ {c o}, c ∉ [z, TO, i1, i2] → h'.get? c = some o ∧ c ≠ L ∧ h₀.get? c = none → h₂.get? c = some o ∧ c ≠ L ∧ h₀.get? c = none := fun hc q => ⟨hk₂ _ _ hc q.1, q.2⟩
        exact hRR D C h₂ tk₂ _ acc o' F₂ (List.forall_mem_cons.mpr ⟨up hwD (N' _ (.head _)), List.forall_mem_cons.mpr ⟨up hwS (N' _ (.tail _ (.head _))), fun p hp => up (hwT p hp) (N' p (.tail _ (.tail _ hp)))⟩⟩) (List.forall_mem_cons.mpr ⟨hsoD, fun p hp => (hTC p hp).2⟩) hs' hmx
          (hn'.at' fun o e => hk₂ _ o hwC e) hC₀ hCL (Ne.symm hDC) (List.forall_mem_cons.mpr ⟨hsoC, fun p hp => (hTC p hp).1⟩)
    · rcases List.mem_cons.mp hp with rfl | hp
      · exact ⟨hacc, hDL, hD₀⟩
      · exact ⟨old _ _ (N p hp).1, (N p hp).2⟩
  exact codeAny_compStart_list (loop _ rfl) (wpAny_pyIter_zip (old _ _ hst.1) (loop _ rfl))
end
section
open PySem.Calls PyProof.Rows.LCg
variable {prog : Program} {w : World} {A : Around} {E : Value → Shared → Prop} {s : Shared} {h₀ : Heap} {L : Addr} {m : Str → Option Value} {env : Env}
noncomputable def MixFin (h₀ : Heap) (L : Addr) (m : Str → Option Value) (y : Str) (Q : Flow → Shared → Prop) (s : Shared) (so : Addr) (T : Led) (xs ys : List Value) : Prop :=
  ∀ (D : Addr) (h : Heap) (tk : Nat) (zs : List Value) (o' : Obj), Fr h₀ L h (fun z => if z = y then some (.ref D) else m z) → News h₀ L h ((D, lst zs) :: (so, o') :: T) → (∀ p ∈ (so, o') :: T, p.1 ≠ D) → IsSrc o' → Mix xs ys zs → Q .next { s with heap := h, toks := tk }
inductive MixSrc (prog : Program) (w : World) (A : Around) (h₀ : Heap) (L : Addr) (m : Str → Option Value) (env : Env) (elt : PySem.Expr) (a b y : Str) (scope : Scope) (cl : List (Str × Addr)) (Q : Flow → Shared → Prop) : Value → Shared → Prop
  | mk {z TI TO i1 i2 l1 l2 so : Addr} {oS : Obj} {xs ys : List Value} {n1 n2 : Nat} {T : Led} {s₁ : Shared} : A.handled = none → ZipApart z TI TO i1 i2 l1 l2 → ZSt z TI TO i1 i2 l1 l2 xs ys 0 s₁.heap → xs.length = ys.length → xs.length ≤ sizeLine →
    Fr h₀ L s₁.heap m → News h₀ L s₁.heap ((so, oS) :: T) → IsSrc oS → (∀ p ∈ T, p.1 ≠ so) → (l1, listOf xs.toArray n1) ∈ T → (l2, listOf ys.toArray n2) ∈ T → (∀ c ∈ [z, TI, TO, i1, i2], h₀.get? c = none ∧ c ≠ L ∧ c ≠ so ∧ ∀ p ∈ T, p.1 ≠ c) →
    MixTurn prog w A h₀ L m env elt a b scope cl s₁ so T → MixFin h₀ L m y Q s₁ so T xs ys → MixSrc prog w A h₀ L m env elt a b y scope cl Q (.ref z) s₁
theorem mix_call {elt : PySem.Expr} {a b y : Str} {scope : Scope} {cl : List (Str × Addr)} {Q : Flow → Shared → Prop} {l1 l2 so : Addr} {oS : Obj} {xs ys : List Value} {n1 n2 : Nat} {all T : Led}
    (hh : A.handled = none) (F : Fr h₀ L s.heap m) (N : News h₀ L s.heap all) (P : Pick (so, oS) all T) (hs : IsSrc oS) (hso : ∀ p ∈ T, p.1 ≠ so) (hm1 : (l1, listOf xs.toArray n1) ∈ T) (hm2 : (l2, listOf ys.toArray n2) ∈ T) (hlen : xs.length = ys.length) (hsz : xs.length ≤ sizeLine)
    (turn : ∀ g, MixTurn prog w A h₀ L m env elt a b scope cl { s with heap := g } so T) (fin : ∀ g, MixFin h₀ L m y Q { s with heap := g } so T xs ys) :
    wpAny (model prog w) A (call (.type "zip") [.ref l1, .ref l2]) (MixSrc prog w A h₀ L m env elt a b y scope cl Q) E s := by
  have N : News h₀ L s.heap ((so, oS) :: T) := fun p hp => N p (P.sub p hp)
  have hax1 := (N _ (.tail _ hm1)).1
  have hax2 := (N _ (.tail _ hm2)).1
  have hl1 : s.heap.IsList l1 xs.toArray := ⟨_, hax1, rfl, n1, rfl⟩
  have hl2 : s.heap.IsList l2 ys.toArray := ⟨_, hax2, rfl, n2, rfl⟩
  refine call_zip_2 hl1 hl2 fun h' hz hTI hTO hi1 hi2 hsz' hk => ?_
  have new : ∀ k, h₀.get? (s.heap.objs.size + k) = none := fun k => ktu_new F (Nat.le_add_right _ _)
  have ne : ∀ (c k : Nat), c < s.heap.objs.size → s.heap.objs.size + k ≠ c := fun c k h => Nat.ne_of_gt (Nat.lt_of_lt_of_le h (Nat.le_add_right _ _))
  have hid1 : ∀ k, h₀.get? (s.heap.objs.size + k) = none ∧ s.heap.objs.size + k ≠ L ∧ s.heap.objs.size + k ≠ so ∧ ∀ p ∈ T, p.1 ≠ s.heap.objs.size + k := fun k =>
    ⟨new k, ne _ k F.ns.lt, ne _ k (Heap.lt_size (N _ (.head _)).1), fun p hp => Ne.symm (ne _ k (Heap.lt_size (N p (.tail _ hp)).1))⟩
  refine .mk (TI := s.heap.objs.size + 2) (TO := s.heap.objs.size + 3) (i1 := s.heap.objs.size) (i2 := s.heap.objs.size + 1) hh (ktu_apart _ _ _ (Heap.lt_size hax1) (Heap.lt_size hax2))
    ⟨hz, hTI, ⟨_, _, hTO⟩, hi1, hi2, hl1.at fun o e => hk _ o e, hl2.at fun o e => hk _ o e⟩ hlen hsz (F.keeps hk) (N.grown hk) hs hso hm1 hm2 ?_ (turn _) (fin _)
  exact List.forall_mem_cons.mpr ⟨hid1 4, List.forall_mem_cons.mpr ⟨hid1 2, List.forall_mem_cons.mpr ⟨hid1 3, List.forall_mem_cons.mpr ⟨hid1 0, List.forall_mem_cons.mpr ⟨hid1 1, fun _ h => nomatch h⟩⟩⟩⟩⟩
theorem mix_Assign {elt iter : PySem.Expr} {a b y : Str} {pa pb tp py : Pos} {kk : Nat} {scope : Scope} {cl : List (Str × Addr)} {pos spos : Pos} {Q : Flow → Shared → Prop} (nF₀ : Fr h₀ L s.heap m) (hLe : env.locals = L)
    (hsw : swapsWith (.ListComp elt [⟨.Tuple [.Name a pa, .Name b pb] kk tp, iter, [], 0⟩] scope pos) (some (.Name y py)) spos.line env = pure true)
    (hclos : closureFor scope env = pure cl) (hcell : ∀ z ∈ scope.names, z.2 ≠ .cell) (hkind : scope.kind = .function)
    (hnames : ∀ z ∈ scope.names, z.2 = .local → scope.names.lookup z.1 = some .local) (hxa : scope.names.lookup a = some .local) (hxb : scope.names.lookup b = some .local) (hab : ¬ a = b)
    (hy : env.kindOf y = some .local) (hp : (env.scope.kind == .class || (env.scope.kind == .module && env.locals != env.globals)) = false)
    (h : wpAny (model prog w) A (eval iter env) (MixSrc prog w A h₀ L m env elt a b y scope cl Q) E s)
    (hs : ∀ x, foldedSetIterable iter env x = pure x := by intro _; rfl) :
    wpAny (model prog w) A (exec (.Assign [.Name y py] (.ListComp elt [⟨.Tuple [.Name a pa, .Name b pb] kk tp, iter, [], 0⟩] scope pos) spos) env) Q E s := by
  subst hLe
  rw [exec_Assign_Name_used _ _ _ _ hsw]
  refine wpAny_bind (wpAny_standAt (wpAny_bind ?_))
  show wpAny _ A (do let _ ← comprehension (.ListComp elt [⟨.Tuple [.Name a pa, .Name b pb] kk tp, iter, [], 0⟩] scope pos) scope env _ (newList []) false (eval iter env) (some (assign (.Name y py) env))) _ _ s
  refine wpAny_bind (wpAny_mono (wpAny_comprehension_free (use := some (assign (.Name y py) env)) (Q := fun _ s' => Q .next s') rfl hs hclos hkind hnames
    (wpAny_mono h (fun xv s₁ h₁ => ?_) fun _ _ e => e)) (fun _ s' hq => wpAny_pure (wpAny_pure hq)) fun _ _ e => e)
  cases h₁ with
  | @mk z TI TO i1 i2 l1 l2 so oS xs ys n1 n2 T _ hh D0 hst hlen hsz F N hsS hso hm1 hm2 hid R fin =>
  refine wpAny_pyIter_zip hst.1 ?_
  refine mix_block hh D0 hst hlen hsz hcell hkind hxa hxb hab F N hsS hso hm1 hm2 hid R ?_
  intro D C h' tk m' zs o' F' N' o1 hs' hmx hn hC₀ hCL hCD offC
  show wpAny _ A (assign (.Name y py) env (.ref D)) _ _ _
  refine wpAny_assign_Name (wpAny_storeName_local hy F'.ns (fun h₂ hn₂ hs₂ => ?_) hp)
  have hL₀ : h₀.get? env.locals = none := Heap.get?_none_of_le F'.above
  have F₂ : Fr h₀ env.locals h₂ (fun z => if z = y then some (.ref D) else m z) := ⟨hn₂, fun b o e => hs₂.extBut b o (fun q => by rw [q, hL₀] at e; cases e) (F'.keep b o e), F'.above⟩
  refine ⟨m', hn.sameBut hs₂ hCL, fun h'' hs'' => fin D h'' _ zs o' (F₂.change hs'' hCL hC₀) (fun p hp => ?_) o1 hs' hmx⟩
  have z : h₂.get? p.1 = some p.2 := hs₂.extBut _ _ (N' p hp).2.1 (N' p hp).1
  refine ⟨hs''.extBut _ _ ?_ z, (N' p hp).2⟩
  rcases List.mem_cons.mp hp with rfl | hp
  · exact Ne.symm hCD
  · exact offC p hp
end
noncomputable def DOk (d : Dat) : Prop := (kqdP d).canLay0 = true ∧ (kqdP d).depth ≤ 5 ∧ PyData.eqv (kqdP d) (kqdP d) = true
theorem dok_seg {nm : Str} {ds : List Dat} (h0 : (PyData.str nm).canLay0 = true) (h : ∀ d ∈ ds, (∃ x y, d = pt x y) ∨ (∃ x, d = fr x) ∨ ∃ b, d = .bool b) : DOk (.tuple (.str nm :: ds)) := by
  have key : PyData.canLayAll0 (kqdPs ds) = true ∧ PyData.depthAll (kqdPs ds) ≤ 4 ∧ PyData.eqvAll (kqdPs ds) (kqdPs ds) = true := by
    induction ds with
    | nil => simp [kqdPs, PyData.canLayAll0, PyData.depthAll, PyData.eqvAll]
    | cons d r ih =>
      have i := ih fun e he => h e (.tail _ he)
      have q : (kqdP d).canLay0 = true ∧ (kqdP d).depth ≤ 4 ∧ PyData.eqv (kqdP d) (kqdP d) = true := by
        rcases h d (.head _) with ⟨x, y, rfl⟩ | ⟨x, rfl⟩ | ⟨b, rfl⟩
        · simp [kqdP, kqdPs, PyData.canLay0, PyData.canLayAll0, PyData.depth, PyData.depthAll, PyData.eqv, PyData.eqvAll]
        · simp [kqdP, kqdPs, PyData.canLay0, PyData.canLayAll0, PyData.depth, PyData.depthAll, PyData.eqv, PyData.eqvAll]
        · simp [kqdP, PyData.canLay0, PyData.depth, PyData.eqv]
      simp only [kqdPs, PyData.canLayAll0, PyData.depthAll, PyData.eqvAll, q.1, q.2.2, i.1, i.2.2, Bool.and_self, true_and, and_true]
      have := q.2.1
      have := i.2.1
      omega
  have h1 : (PyData.str nm).depth ≤ 4 := by simp [PyData.depth]
  have h2 : PyData.eqv (.str nm) (.str nm) = true := by simp [PyData.eqv]
  refine ⟨?_, ?_, ?_⟩
  · simp only [kqdP, kqdPs, PyData.canLay0, PyData.canLayAll0, key.1, Bool.and_true]; exact h0
  · simp only [kqdP, kqdPs, PyData.depth, PyData.depthAll] at h1 ⊢; have := key.2.1; omega
  · simp only [kqdP, kqdPs, PyData.eqv, PyData.eqvAll, key.2.2, Bool.and_true] at h2 ⊢; exact h2
theorem segL_nil {P : Dat → Prop} : ∀ d ∈ ([] : List Dat), P d := fun _ h => nomatch h
theorem segL_pt {ds : List Dat} {x y : Int} (h : ∀ d ∈ ds, (∃ x y, d = pt x y) ∨ (∃ x, d = fr x) ∨ ∃ b, d = .bool b) : ∀ d ∈ pt x y :: ds, (∃ x y, d = pt x y) ∨ (∃ x, d = fr x) ∨ ∃ b, d = .bool b := List.forall_mem_cons.mpr ⟨.inl ⟨_, _, rfl⟩, h⟩
theorem segL_fr {ds : List Dat} {x : Int} (h : ∀ d ∈ ds, (∃ x y, d = pt x y) ∨ (∃ x, d = fr x) ∨ ∃ b, d = .bool b) : ∀ d ∈ fr x :: ds, (∃ x y, d = pt x y) ∨ (∃ x, d = fr x) ∨ ∃ b, d = .bool b := List.forall_mem_cons.mpr ⟨.inr (.inl ⟨_, rfl⟩), h⟩
theorem segL_b {ds : List Dat} {b : Bool} (h : ∀ d ∈ ds, (∃ x y, d = pt x y) ∨ (∃ x, d = fr x) ∨ ∃ b, d = .bool b) : ∀ d ∈ Dat.bool b :: ds, (∃ x y, d = pt x y) ∨ (∃ x, d = fr x) ∨ ∃ b, d = .bool b := List.forall_mem_cons.mpr ⟨.inr (.inr ⟨_, rfl⟩), h⟩
theorem found_ok {S : PP} {rel : Bool} {c : Cmd} (h : ∀ d ∈ S.found, DOk d) : ∀ d ∈ (step S rel c).found, DOk d := by
  have hm : ∀ (b : Bool) (seg : Dat), DOk seg → ∀ d ∈ S.found ++ (if S.cl && b then [Dat.tuple [.str (Str.ofString "move"), pt S.hx S.hy]] else []) ++ [seg], DOk d := by
    intro b seg hs d hd
    rcases List.mem_append.mp hd with hd | hd
    · rcases List.mem_append.mp hd with hd | hd
      · exact h d hd
      · split at hd
        · rw [List.mem_singleton.mp hd]; exact dok_seg (by decide +kernel) (segL_pt segL_nil)
        · cases hd
    · rw [List.mem_singleton.mp hd]; exact hs
  have ln : ∀ x y, DOk (Dat.tuple [.str (Str.ofString "line"), pt x y]) := fun x y => dok_seg (by decide +kernel) (segL_pt segL_nil)
  have cu : ∀ a b c d x y, DOk (Dat.tuple [.str (Str.ofString "cubic"), pt a b, pt c d, pt x y]) := fun _ _ _ _ _ _ => dok_seg (by decide +kernel) (segL_pt (segL_pt (segL_pt segL_nil)))
  have qu : ∀ a b x y, DOk (Dat.tuple [.str (Str.ofString "quad"), pt a b, pt x y]) := fun _ _ _ _ => dok_seg (by decide +kernel) (segL_pt (segL_pt segL_nil))
  cases c with
  | M x y => exact hm (!true) _ (dok_seg (by decide +kernel) (segL_pt segL_nil))
  | L x y => exact hm (!false) _ (ln _ _)
  | H x => exact hm (!false) _ (ln _ _)
  | V y => exact hm (!false) _ (ln _ _)
  | C a b c d x y => exact hm (!false) _ (cu _ _ _ _ _ _)
  | S a b x y => exact hm (!false) _ (cu _ _ _ _ _ _)
  | Q a b x y => exact hm (!false) _ (qu _ _ _ _)
  | T x y => exact hm (!false) _ (qu _ _ _ _)
  | A rx ry tn lg sw x y =>
    simp only [step]
    split
    · exact h
    · split
      · exact hm (!false) _ (ln _ _)
      · exact hm (!false) _ (dok_seg (by decide +kernel) (segL_fr (segL_fr (segL_fr (segL_b (segL_b (segL_pt segL_nil)))))))
  | Z =>
    have := hm true (Dat.tuple [.str (Str.ofString "close")]) (dok_seg (by decide +kernel) segL_nil)
    rw [Bool.and_true] at this
    exact this
inductive Hist (x0 y0 x1 y1 : Int) : List Dat → List Dat → List (Cmd × Cmd) → PP → Prop
  | start : step S0 true (.M x1 y1) = step S0 false (.M x0 y0) → Hist x0 y0 x1 y1 [(Cmd.M x0 y0).dat false] [(Cmd.M x1 y1).dat true] [] (step S0 false (.M x0 y0))
  | snoc {gs ss : List Dat} {cs : List (Cmd × Cmd)} {S : PP} {cg c' : Cmd} : Hist x0 y0 x1 y1 gs ss cs S → step S true c' = step S false cg → Hist x0 y0 x1 y1 (gs ++ [cg.dat false]) (ss ++ [c'.dat true]) (cs ++ [(cg, c')]) (step S false cg)
theorem Hist.len {x0 y0 x1 y1 : Int} {gs ss : List Dat} {cs : List (Cmd × Cmd)} {S : PP} (h : Hist x0 y0 x1 y1 gs ss cs S) : gs.length = cs.length + 1 ∧ ss.length = cs.length + 1 ∧ S.found.length ≤ 2 * (cs.length + 1) := by
  induction h with
  | start e => exact ⟨rfl, rfl, step_found S0 false (.M x0 y0)⟩
  | @snoc gs ss cs S cg c' _ _ ih =>
    have := step_found S false cg
    simp only [List.length_append, List.length_cons, List.length_nil]
    omega
theorem Hist.ok {x0 y0 x1 y1 : Int} {gs ss : List Dat} {cs : List (Cmd × Cmd)} {S : PP} (h : Hist x0 y0 x1 y1 gs ss cs S) : ∀ d ∈ S.found, DOk d := by
  induction h with
  | start e => exact found_ok (S := S0) (c := .M x0 y0) fun _ h => nomatch h
  | snoc _ _ ih => exact found_ok ih
noncomputable def SegOk (T : Led) (zs : List Value) (S : PP) : Prop :=
  ∃ (v0 : Value) (vs : List Value) (rel0 : Bool) (a b : Int) (qs : List (Bool × Cmd)), zs = v0 :: vs ∧ TIn T v0 ((Cmd.M a b).dat rel0) ∧ TAll T vs (qs.map fun p => p.2.dat p.1) ∧ qs.length ≤ 300 ∧ qs.foldl (fun S p => step S p.1 p.2) (step S0 rel0 (.M a b)) = S
theorem SegOk.mono {T T' : Led} {zs : List Value} {S : PP} (hs : Sub T T') (h : SegOk T zs S) : SegOk T' zs S := by
  obtain ⟨v0, vs, rel0, a, b, qs, e, h1, h2, h3, h4⟩ := h
  exact ⟨v0, vs, rel0, a, b, qs, e, h1.mono hs, h2.mono hs, h3, h4⟩
theorem TAll.snoc_inv {T : Led} {d : Dat} : ∀ {ds : List Dat} {vs : List Value}, TAll T vs (ds ++ [d]) → ∃ us v, vs = us ++ [v] ∧ TAll T us ds ∧ TIn T v d
  | [], _, h => by
    obtain ⟨v, us, rfl, h1, h2⟩ := TAll.cons_inv h
    obtain rfl := TAll.nil_inv h2
    exact ⟨[], v, rfl, .nil, h1⟩
  | _ :: ds, _, h => by
    obtain ⟨v, us, rfl, h1, h2⟩ := TAll.cons_inv h
    obtain ⟨us', v', rfl, h3, h4⟩ := TAll.snoc_inv (ds := ds) h2
    exact ⟨v :: us', v', rfl, .cons h1 h3, h4⟩
theorem Mix.len {xs ys zs : List Value} (h : Mix xs ys zs) : xs.length = ys.length := by
  induction h with
  | nil => rfl
  | l _ ih => exact congrArg (· + 1) ih
  | r _ ih => exact congrArg (· + 1) ih
theorem Mix.snoc_inv {x y : Value} : ∀ {xs ys zs : List Value}, xs.length = ys.length → Mix (xs ++ [x]) (ys ++ [y]) zs → ∃ ws v, zs = ws ++ [v] ∧ Mix xs ys ws ∧ (v = x ∨ v = y)
  | [], [], _, _, .l .nil => ⟨[], _, rfl, .nil, .inl rfl⟩
  | [], [], _, _, .r .nil => ⟨[], _, rfl, .nil, .inr rfl⟩
  | [], _ :: _, _, e, _ => nomatch e
  | _ :: _, [], _, e, _ => nomatch e
  | _ :: xs, _ :: ys, _, e, .l h => by
    obtain ⟨ws, v, rfl, h1, h2⟩ := Mix.snoc_inv (xs := xs) (ys := ys) (Nat.succ.inj e) h
    exact ⟨_ :: ws, v, rfl, .l h1, h2⟩
  | _ :: xs, _ :: ys, _, e, .r h => by
    obtain ⟨ws, v, rfl, h1, h2⟩ := Mix.snoc_inv (xs := xs) (ys := ys) (Nat.succ.inj e) h
    exact ⟨_ :: ws, v, rfl, .r h1, h2⟩
theorem Mix.left : ∀ {xs ys : List Value}, xs.length = ys.length → Mix xs ys xs
  | [], [], _ => .nil
  | _ :: _, _ :: _, e => .l (Mix.left (Nat.succ.inj e))
theorem Mix.right : ∀ {xs ys : List Value}, xs.length = ys.length → Mix xs ys ys
  | [], [], _ => .nil
  | _ :: _, _ :: _, e => .r (Mix.right (Nat.succ.inj e))
theorem hist_mix {T : Led} {x0 y0 x1 y1 : Int} {gs ss : List Dat} {cs : List (Cmd × Cmd)} {S : PP} (h : Hist x0 y0 x1 y1 gs ss cs S) : ∀ {fg fs zs : List Value}, cs.length ≤ 300 → TAll T fg gs → TAll T fs ss → Mix fg fs zs → SegOk T zs S := by
  induction h with
  | start e =>
    intro fg fs zs _ hg hs hm
    obtain ⟨v, us, rfl, h1, h2⟩ := TAll.cons_inv hg
    obtain rfl := TAll.nil_inv h2
    obtain ⟨v', us', rfl, h3, h4⟩ := TAll.cons_inv hs
    obtain rfl := TAll.nil_inv h4
    cases hm with
    | l h => cases h; exact ⟨_, _, false, x0, y0, [], rfl, h1, .nil, Nat.zero_le _, rfl⟩
    | r h => cases h; exact ⟨_, _, true, x1, y1, [], rfl, h3, .nil, Nat.zero_le _, e⟩
  | @snoc gs ss cs S cg c' hh e ih =>
    intro fg fs zs hl hg hs hm
    obtain ⟨ug, vg, rfl, g1, g2⟩ := TAll.snoc_inv hg
    obtain ⟨us, vs, rfl, s1, s2⟩ := TAll.snoc_inv hs
    have hlen : ug.length = us.length := by rw [g1.length, s1.length, hh.len.1, hh.len.2.1]
    obtain ⟨ws, v, rfl, hm', hv⟩ := hm.snoc_inv hlen
    have hl' : cs.length + 1 ≤ 300 := by rw [List.length_append] at hl; exact hl
    obtain ⟨v0, vs0, rel0, a, b, qs, rfl, q1, q2, _, q4⟩ := ih (Nat.le_of_succ_le hl') g1 s1 hm'
    have ql : qs.length ≤ cs.length := by
      have e1 := q2.length
      have e2 : (v0 :: vs0).length = ug.length := by
        clear e g2 s2 hv q4 hl hl' hs hg hm
        have k : ∀ {xs ys zs : List Value}, Mix xs ys zs → zs.length = xs.length := by
          intro xs ys zs h
          induction h with
          | nil => rfl
          | l _ ih => exact congrArg (· + 1) ih
          | r _ ih => exact congrArg (· + 1) ih
        exact k hm'
      rw [g1.length, hh.len.1, List.length_cons, e1, List.length_map] at e2
      omega
    rcases hv with rfl | rfl
    · refine ⟨v0, vs0 ++ [v], rel0, a, b, qs ++ [(false, cg)], rfl, q1, ?_, ?_, ?_⟩
      · rw [List.map_append]; exact q2.append (.cons g2 .nil)
      · rw [List.length_append]; exact Nat.le_trans (Nat.succ_le_succ ql) hl'
      · rw [List.foldl_append, q4]; rfl
    · refine ⟨v0, vs0 ++ [v], rel0, a, b, qs ++ [(true, c')], rfl, q1, ?_, ?_, ?_⟩
      · rw [List.map_append]; exact q2.append (.cons s2 .nil)
      · rw [List.length_append]; exact Nat.le_trans (Nat.succ_le_succ ql) hl'
      · rw [List.foldl_append, q4]; exact e
theorem segsOk_ctr {w : World} {mean : ExcName → Option Value} {mg mb : Str → Option Value} {cl : Addr} {zs : List Value} {n : Nat} {news : Led} {S : PP} (hcl : (cl, listOf zs.toArray n) ∈ news) (hz : SegOk news zs S) :
    Ctr w mean mg mb 209 25 500 [.ref cl] news (fun r news' => Sub news news' ∧ ∃ fl k fv, r = .ref fl ∧ (fl, listOf fv.toArray k) ∈ news' ∧ TAll news' fv S.found ∧ ∀ p ∈ news, p.1 ≠ fl) := by
  obtain ⟨v0, vs, rel0, a, b, qs, rfl, h1, h2, h3, h4⟩ := hz
  exact segs_ctr hcl h1 h2 h3 h4
mutual
theorem rd_in {h₀ h : Heap} {L : Addr} {T : Led} (N : News h₀ L h T) : ∀ {v : Value} {d : Dat}, TIn T v d → ∃ as, Reads h v (kqdP d) as
  | _, _, .none => ⟨_, Reads.none⟩
  | _, _, .bool b => ⟨_, Reads.bool b⟩
  | _, _, .int i t => ⟨_, Reads.int i t⟩
  | _, _, .str x t => ⟨_, Reads.str x t⟩
  | _, _, .tuple hm r => by
    obtain ⟨as, q⟩ := rd_all N r
    rw [kqdP]
    exact ⟨as, reads_tuple_at (N.get hm) rfl rfl (by simpa using q)⟩
theorem rd_all {h₀ h : Heap} {L : Addr} {T : Led} (N : News h₀ L h T) : ∀ {vs : List Value} {ds : List Dat}, TAll T vs ds → ∃ as, ReadsAll h vs (kqdPs ds) as
  | _, _, .nil => ⟨_, ReadsAll.nil⟩
  | _, _, .cons hd r => by
    obtain ⟨as, q⟩ := rd_in N hd
    obtain ⟨bs, p⟩ := rd_all N r
    rw [kqdPs]
    exact ⟨_, ReadsAll.cons q p⟩
end
theorem dok_all {ds : List Dat} (h : ∀ d ∈ ds, DOk d) : PyData.canLayAll0 (kqdPs ds) = true ∧ PyData.depthAll (kqdPs ds) ≤ 5 ∧ PyData.eqvAll (kqdPs ds) (kqdPs ds) = true := by
  induction ds with
  | nil => simp [kqdPs, PyData.canLayAll0, PyData.depthAll, PyData.eqvAll]
  | cons d r ih =>
    have i := ih fun e he => h e (.tail _ he)
    have q := h d (.head _)
    simp only [kqdPs, PyData.canLayAll0, PyData.depthAll, PyData.eqvAll, q.1, q.2.2, i.1, i.2.2, Bool.and_self, true_and, and_true]
    have := q.2.1
    have := i.2.1
    omega
theorem segs_ne {prog : Program} {w : World} {A : Around} {E : Value → Shared → Prop} {s : Shared} {h₀ : Heap} {L a b : Addr} {news : Led} {xs ys : List Value} {ka kb : Nat} {ds : List Dat} {Q : Value → Shared → Prop} (N : News h₀ L s.heap news) (ma : (a, listOf xs.toArray ka) ∈ news) (Da : TAll news xs ds) (mb : (b, listOf ys.toArray kb) ∈ news) (Db : TAll news ys ds)
    (ha : ∀ d ∈ ds, DOk d) (hu : A.units + 64 < cLine) (h : Q (.bool false) s) : wpAny (model prog w) A (compareOp .NotEq (.ref a) (.ref b)) Q E s := by
  obtain ⟨as, ra⟩ := rd_all N Da
  obtain ⟨bs, rb⟩ := rd_all N Db
  have l := dok_all ha
  have e : PyData.eqv (.list (kqdPs ds)) (.list (kqdPs ds)) = true := by rw [PyData.eqv]; exact l.2.2
  have sh : SeqAt.shaped (.list (kqdPs ds)) = true := by
    unfold SeqAt.shaped
    simp only [PyData.canLay0, PyData.depth, l.1, Bool.true_and]
    have := l.2.1
    exact decide_eq_true (by omega)
  refine ne_dataH (reads_list_at (N.get ma) rfl rfl (by simpa using ra)) (reads_list_at (N.get mb) rfl rfl (by simpa using rb)) sh sh hu (by rw [e]; exact h)
theorem Ctr.useSegs {w : World} {mean : ExcName → Option Value} {mg mb : Str → Option Value} {f : Addr} {dm um : Nat} {vs : List Value} {news : Led} {ds : List Dat}
    (C : Ctr w mean mg mb f dm um vs news (fun r news' => Sub news news' ∧ ∃ fl k fv, r = .ref fl ∧ (fl, listOf fv.toArray k) ∈ news' ∧ TAll news' fv ds ∧ ∀ p ∈ news, p.1 ≠ fl))
    {k T0 qq : Led} {dp un : Nat} {gd : Option (List Code)} {cn : Str} {cs : Scope} {a : Addr} {ccd : Value} {cl : List (Str × Addr)} {outer : List Env} {A₀ : Around} {base h₀ hp : Heap} {gens : Array GenState} {drawn : Drawn} {toks : Nat} {os : OsState} {L : Addr} {m : Str → Option Value} {Q E : Value → Shared → Prop}
    (B : Below A₀ base outer h₀) (F : Fr h₀ L hp m) (X : (hd.heap_1 w.params).In h₀) (N : News h₀ L hp news) (T : Top qv (looseW qv [Str.ofString "fraction"]) mean mg mb h₀) (hk : cs.kind = .function) (h1 : dp + dm < recursionLimit) (h2 : un + um < cLine)
    (CR : Core news k T0 qq) (hS : Apart T0 (k.map (·.1))) (hc : NoTup k)
    (ret : ∀ (fl : Addr) (n : Nat) (fv : List Value) (T9 : Led) (h' : Heap) (tk' : Nat), Fr h₀ L h' m → News h₀ L h' ((fl, listOf fv.toArray n) :: (k ++ T9)) → Apart T9 (fl :: k.map (·.1)) → Sub qq T9 → TAll T9 fv ds → (∀ p ∈ news, p.1 ≠ fl) → Q (.ref fl) ⟨h', gens, drawn, tk', os⟩) :
    wpAny (model PySem.Challenge.rw_nu0013_01.prog w) (ktrTop dp un gd cn cs L a ccd cl outer) (call (.ref f) vs) Q E ⟨hp, gens, drawn, toks, os⟩ := by
  refine C.use (s := ⟨hp, gens, drawn, toks, os⟩) B F X N T hk h1 h2 fun r9 n9 h9 tk9 F9 N9 hp9 => ?_
  obtain ⟨hs9, fl, n, fv, rfl, hm, hf, hne⟩ := hp9
  obtain ⟨T9, hAp9, hST9, hSR9, N9'⟩ := tidy (U := [(fl, listOf fv.toArray n)]) (Sub.mk hm Sub.nil) hs9 N9 CR ⟨fun p hp => hne p (CR.tail_sub p hp), sepL_of hS⟩ (show NoTup ((fl, listOf fv.toArray n) :: k) from ⟨cls_list, hc⟩)
  exact ret fl n fv T9 h9 tk9 F9 N9' hAp9 hSR9 (hf.monoT hST9) hne
noncomputable def LawMid (g : Heap) (L : Addr) (gens : Array GenState) (drawn : Drawn) (os : OsState) (fl : Flow) (s' : Shared) : Prop :=
  ∃ (h' : Heap) (tk' : Nat) (m' : Str → Option Value) (news' : Led), fl = .ret (.bool true) ∧ s' = ⟨h', gens, drawn, tk', os⟩ ∧ Fr g L h' m' ∧ News g L h' news'
theorem law_split {prog : Program} {w : World} {A : Around} {t : Sem Flow} {Q : Flow → Shared → Prop} {E : Value → Shared → Prop} {g : Heap} {L : Addr} {m : Str → Option Value} {h₁ : Heap} {gens : Array GenState} {drawn : Drawn} {tk : Nat} {os : OsState} (nF : Fr g L h₁ m)
    (h1 : wpAny (model prog w) A t (LawMid g L gens drawn os) NoE ⟨h₁, gens, drawn, tk, os⟩) (h2 : ∀ h' tk' m' news', Fr g L h' m' → News g L h' news' → Q (.ret (.bool true)) ⟨h', gens, drawn, tk', os⟩) : wpAny (model prog w) A t Q E ⟨h₁, gens, drawn, tk, os⟩ := by
  refine wpAny_mono h1 ?_ (fun _ _ h => h.elim)
  rintro fl s' ⟨h', tk', m', news', rfl, rfl, a, b⟩
  exact h2 h' tk' m' news' a b
theorem LawMid.mk {g h' : Heap} {L : Addr} {gens : Array GenState} {drawn : Drawn} {tk' : Nat} {os : OsState} {m' : Str → Option Value} {news' : Led} (F : Fr g L h' m') (N : News g L h' news') : LawMid g L gens drawn os (.ret (.bool true)) ⟨h', gens, drawn, tk', os⟩ := ⟨h', tk', m', news', rfl, rfl, F, N⟩
noncomputable def PoolMid (g : Heap) (L : Addr) (m : Str → Option Value) (gens : Array GenState) (drawn : Drawn) (os : OsState) (news : Led) (v : Value) (s' : Shared) : Prop :=
  ∃ (so : Addr) (oS : Obj) (h' : Heap) (tk' : Nat), v = .ref so ∧ s' = ⟨h', gens, drawn, tk', os⟩ ∧ Fr g L h' m ∧ News g L h' ((so, oS) :: news) ∧ IsSrc oS ∧ ∀ p ∈ news, p.1 < so
theorem pool_split {prog : Program} {w : World} {A : Around} {t : Sem Value} {Q : Value → Shared → Prop} {E : Value → Shared → Prop} {g : Heap} {L : Addr} {m : Str → Option Value} {h₁ : Heap} {gens : Array GenState} {drawn : Drawn} {tk : Nat} {os : OsState} {news : Led} (nF : Fr g L h₁ m) (nN : News g L h₁ news)
    (h1 : wpAny (model prog w) A t (PoolMid g L m gens drawn os news) NoE ⟨h₁, gens, drawn, tk, os⟩) (h2 : ∀ so oS h' tk', Fr g L h' m → News g L h' ((so, oS) :: news) → IsSrc oS → (∀ p ∈ news, p.1 < so) → Q (.ref so) ⟨h', gens, drawn, tk', os⟩) : wpAny (model prog w) A t Q E ⟨h₁, gens, drawn, tk, os⟩ := by
  refine wpAny_mono h1 ?_ (fun _ _ h => h.elim)
  rintro v s' ⟨so, oS, h', tk', rfl, rfl, a, b, c, d⟩
  exact h2 so oS h' tk' a b c d
theorem PoolMid.mk {g : Heap} {L : Addr} {m : Str → Option Value} {gens : Array GenState} {drawn : Drawn} {os : OsState} {news : Led} {so : Addr} {x y : Int} {t u : Tok} {n : Nat} {h' : Heap} {tk' : Nat} (F : Fr g L h' m) (N : News g L h' ((so, listOf [.int x t, .int y u].toArray n) :: news)) (h1 : 0 ≤ y) (h2 : y < 2147483647) (l : ∀ p ∈ news, p.1 < so) :
    PoolMid g L m gens drawn os news (.ref so) ⟨h', gens, drawn, tk', os⟩ := ⟨so, _, h', tk', rfl, rfl, F, N, ⟨_, _, _, _, _, rfl, h1, h2⟩, l⟩
theorem wdJ47N30x60 : True := by
  k_with "call ref" => (k_here; (fail_if_success (have j9 := pool9)); (with_reducible show wpAny _ _ (call (Value.ref 216) _) _ _ _); refine stopAt ?_)
  trivial
theorem law_start {w : World} {T : Led} {oP : Obj} {vh vst vc : Value} {du gr sm : Addr} {tk tw : Tok} (hd : oP.IsDictOf (PySem.strKind PySem.Challenge.rw_nu0013_01.prog w) [(Str.ofString "here", vh), (Str.ofString "start", vst), (Str.ofString "kind", .str (Str.ofString "") tk), (Str.ofString "control", vc), (Str.ofString "closed", .bool false), (Str.ofString "due", .ref du), (Str.ofString "great", .ref gr), (Str.ofString "small", .ref sm), (Str.ofString "word", .str (Str.ofString "") tw)]) (h1 : TIn T vh (rawp 0 0)) (h2 : TIn T vst (rawp 0 0)) : LawIn w T oP du gr sm [] [] [] ⟨0, 0, 0, 0, 0, 0, Str.ofString "", false, []⟩ [] [] := LawIn.mk (show IsPen w oP vh vst (Str.ofString "") tk vc false du gr sm (Str.ofString "") tw from hd) W3.e h1 h2 RNz.nul TAll.nil TAll.nil TAll.nil
theorem law_begin0_ctr {w : World} {mean : ExcName → Option Value} {mg mb : Str → Option Value} {cur r1 r2 r3 r4 R : Led} {so po du gr sm : Addr} {oS oP : Obj} {k0 k1 k2 : Nat} {vh vst vc : Value} {tk tw : Tok}
    (hd : oP.IsDictOf (PySem.strKind PySem.Challenge.rw_nu0013_01.prog w) [(Str.ofString "here", vh), (Str.ofString "start", vst), (Str.ofString "kind", .str (Str.ofString "") tk), (Str.ofString "control", vc), (Str.ofString "closed", .bool false), (Str.ofString "due", .ref du), (Str.ofString "great", .ref gr), (Str.ofString "small", .ref sm), (Str.ofString "word", .str (Str.ofString "") tw)])
    (P1 : Pick (so, oS) cur r1) (P2 : Pick (po, oP) r1 r2) (P3 : Pick (du, listOf ([] : List Value).toArray k0) r2 r3) (P4 : Pick (gr, listOf ([] : List Value).toArray k1) r3 r4) (P5 : Pick (sm, listOf ([] : List Value).toArray k2) r4 R)
    (q1 : @Ne Nat so po ∧ @Ne Nat so du ∧ @Ne Nat so gr ∧ @Ne Nat so sm ∧ @Ne Nat po du ∧ @Ne Nat po gr ∧ @Ne Nat po sm ∧ @Ne Nat du gr ∧ @Ne Nat du sm ∧ @Ne Nat gr sm) (hA : Apart R [so, po, du, gr, sm])
    (hs : IsSrc oS) (h1 : TIn R vh (rawp 0 0)) (h2 : TIn R vst (rawp 0 0)) :
    Ctr w mean mg mb 305 10 200 [.ref so, .ref po] cur (fun r news' => r = .none ∧ BeginPost w so po du gr sm R ⟨0, 0, 0, 0, 0, 0, Str.ofString "", false, []⟩ [] [] news') :=
  law_begin_ctr P1 P2 P3 P4 P5 q1 hA hs (law_start hd h1 h2) ⟨Nat.zero_le _, Nat.zero_le _, Nat.zero_le _⟩
theorem wdJ47N30x61 : True := by
  k_with "call ref" => (k_here; (with_reducible show wpAny _ _ (call (Value.ref 305) _) _ _ _); k_dflt (refine' Ctr.useBegin (law_begin0_ctr ?hd ?P1 ?P2 ?P3 ?P4 ?P5 ?q1 ?hA ?hs ?h1 ?h2) ?k1 ?k2 ?k3 ?k4 ?k5 ?k6 ?k7 ?k8 ?CR9 ?hS9 ?hc9 ?_; (case k1 => k_asm); (case k2 => k_asm); (case k3 => k_asm); (case k4 => k_asm); (case k5 => k_asm); (case k6 => first | exact rfl | assumption); (case hd => with_reducible assumption); (case P1 => k_upd); (case P2 => k_upd); (case P3 => k_upd); (case P4 => k_upd); (case P5 => k_upd); (case q1 => (refine ⟨?_, ?_, ?_, ?_, ?_, ?_, ?_, ?_, ?_, ?_⟩ <;> k_ne)); (case hA => k_upd); (case hs => with_reducible assumption); (case h1 => keq_hits); (case h2 => keq_hits); (case k7 => first | exact room9 hd1 rfl | ktr_room); (case k8 => first | exact room9 hd2 rfl | ktr_units); (case CR9 => k_upd); (case hS9 => ((try dsimp only [List.map]); k_upd)); (case hc9 => k_upd)); k_dflt (intro px9 py9 oS9 oP9 k0' k1' k2' fd9 fg9 fs9 T9 h9 tk9 F9 N9 hAp9 hSR9 hs9 hI9; dsimp only [List.map, List.cons_append, List.nil_append] at hAp9 N9); (try dsimp only); (try k_sweep); (try k_fold))
  k_with "pyIter ref" => ((fail_if_success (have j9 := D6)); (with_reducible show wpAny _ _ (pyIter (Value.ref _)) (fun it s₂ => LoopAtV _ _ _ _ _ _ _ _ _ it s₂) _ _); refine stopAt ?_)
  k_with "UnrEnd" => (refine stopAt ?_)
  k_with "CompRest" => (refine stopAt ?_)
  k_with "exec Assign cons ListComp" => (k_here; k_dflt (refine mix_Assign (by k_asm) (by rfl) (by with_unfolding_all rfl) (by with_unfolding_all rfl) (by decide) (by rfl) (by decide) (by rfl) (by rfl) (by decide) (by rfl) (by rfl) ?_))
  k_with "call type:zip" => (refine stopAt ?_)
  trivial
inductive LoopInv (w : World) (so po du gr sm c1 c2 I : Addr) (oc2 : Obj) (x0 y0 x1 y1 : Int) (i : Nat) (m : Str → Option Value) : Led → Prop
  | mk0 {S : PP} {gs ss : List Dat} {cs : List (Cmd × Cmd)} {oS oP oc1 : Obj} {v1 : Option Value} {k0 k1 k2 : Nat} {fd fg fs : List Value} {T : Led} : m (Str.ofString "pen") = some (.ref po) → Apart T [so, po, du, gr, sm, c1, c2, I] → IsSrc oS → oc1.data = .cell v1 → LawIn w T oP du gr sm fd fg fs S gs ss → Hist x0 y0 x1 y1 gs ss cs S → cs.length = i →
      LoopInv w so po du gr sm c1 c2 I oc2 x0 y0 x1 y1 i m ((so, oS) :: (po, oP) :: (du, listOf fd.toArray k0) :: (gr, listOf fg.toArray k1) :: (sm, listOf fs.toArray k2) :: (c1, oc1) :: (c2, oc2) :: T)
theorem loop_allN {P : Nat → Nat → (Str → Option Value) → Led → Prop} {n : Nat} {w : World} {h₀ h : Heap} {L so po du gr sm c1 c2 : Addr} (I : Addr) {oS oP oc1 oc2 : Obj} {v1 : Option Value} {k0 k1 k2 : Nat} {fd fg fs : List Value} {T : Led} {m : Str → Option Value} {S : PP} {gs ss : List Dat} {x0 y0 x1 y1 : Int}
    (nN : News h₀ L h ((so, oS) :: (po, oP) :: (du, listOf fd.toArray k0) :: (gr, listOf fg.toArray k1) :: (sm, listOf fs.toArray k2) :: (c1, oc1) :: (c2, oc2) :: T)) (hI : LawIn w T oP du gr sm fd fg fs S gs ss) (hH : Hist x0 y0 x1 y1 gs ss [] S) (hs : IsSrc oS) (hc1 : oc1.data = .cell v1) (hm : m (Str.ofString "pen") = some (.ref po))
    (hA : Apart T [so, po, du, gr, sm, c1, c2]) (hlt : ∀ p ∈ (so, oS) :: (po, oP) :: (du, listOf fd.toArray k0) :: (gr, listOf fg.toArray k1) :: (sm, listOf fs.toArray k2) :: (c1, oc1) :: (c2, oc2) :: T, p.1 < I) (hn : n ≤ 5)
    (kz : ∀ (S : PP) (gs ss : List Dat) (cs : List (Cmd × Cmd)) (oS oP oc1 : Obj) (v1 : Option Value) (k0 k1 k2 : Nat) (fd fg fs : List Value) (T : Led) (m : Str → Option Value), m (Str.ofString "pen") = some (.ref po) → Apart T [so, po, du, gr, sm, c1, c2, I] → IsSrc oS → oc1.data = .cell v1 → LawIn w T oP du gr sm fd fg fs S gs ss → Hist x0 y0 x1 y1 gs ss cs S → cs.length = n →
      P 0 n m ((so, oS) :: (po, oP) :: (du, listOf fd.toArray k0) :: (gr, listOf fg.toArray k1) :: (sm, listOf fs.toArray k2) :: (c1, oc1) :: (c2, oc2) :: T))
    (kt : ∀ (j i : Nat) (S : PP) (gs ss : List Dat) (cs : List (Cmd × Cmd)) (oS oP oc1 : Obj) (v1 : Option Value) (k0 k1 k2 : Nat) (fd fg fs : List Value) (T : Led) (m : Str → Option Value), m (Str.ofString "pen") = some (.ref po) → Apart T [so, po, du, gr, sm, c1, c2, I] → IsSrc oS → oc1.data = .cell v1 → LawIn w T oP du gr sm fd fg fs S gs ss → Hist x0 y0 x1 y1 gs ss cs S → cs.length = i → (S.found.length ≤ 800 ∧ gs.length ≤ 800 ∧ ss.length ≤ 800) →
      (∀ m' L', LoopInv w so po du gr sm c1 c2 I oc2 x0 y0 x1 y1 (i + 1) m' L' → P j (i + 1) m' L') → P (j + 1) i m ((so, oS) :: (po, oP) :: (du, listOf fd.toArray k0) :: (gr, listOf fg.toArray k1) :: (sm, listOf fs.toArray k2) :: (c1, oc1) :: (c2, oc2) :: T)) :
    P n 0 m ((so, oS) :: (po, oP) :: (du, listOf fd.toArray k0) :: (gr, listOf fg.toArray k1) :: (sm, listOf fs.toArray k2) :: (c1, oc1) :: (c2, oc2) :: T) := by
  have key : ∀ (j i : Nat) (m : Str → Option Value) (L : Led), i + j = n → LoopInv w so po du gr sm c1 c2 I oc2 x0 y0 x1 y1 i m L → P j i m L := by
    intro j
    induction j with
    | zero =>
      rintro i m L e ⟨a1, a2, a3, a4, a5, a6, a7⟩
      obtain rfl : i = n := e
      exact kz _ _ _ _ _ _ _ _ _ _ _ _ _ _ _ m a1 a2 a3 a4 a5 a6 a7
    | succ j ih =>
      rintro i m L e ⟨a1, a2, a3, a4, a5, a6, a7⟩
      have hl := a6.len
      exact kt j i _ _ _ _ _ _ _ _ _ _ _ _ _ _ _ m a1 a2 a3 a4 a5 a6 a7 ⟨by omega, by omega, by omega⟩ fun m' L' h => ih (i + 1) m' L' (by omega) h
  refine key n 0 m _ (Nat.zero_add n) (.mk0 hm ?_ hs hc1 hI hH rfl)
  intro p hp a ha
  have ha' : a ∈ [so, po, du, gr, sm, c1, c2] ∨ a = I := by
    rcases List.mem_append.mp (show a ∈ [so, po, du, gr, sm, c1, c2] ++ [I] from ha) with h | h
    · exact .inl h
    · exact .inr (List.mem_singleton.mp h)
  rcases ha' with ha' | rfl
  · exact hA p hp a ha'
  · exact Nat.ne_of_lt (hlt p (.tail _ (.tail _ (.tail _ (.tail _ (.tail _ (.tail _ (.tail _ hp))))))))
theorem my_unrEndL {h₀ : Heap} {L I : Addr} {it : Obj} {rest : (Str → Option Value) → List (Addr × Obj) → Prop} {s₁ : Shared} {h' : Heap} {tk : Nat} {m' : Str → Option Value} {all : Led} (news' : Led) (F : Fr h₀ L h' m') (N : News h₀ L h' all)
    (hs : Sub ((I, it) :: news') all) (off : ∀ p ∈ news', p.1 ≠ I) (r : rest m' news') : UnrEnd h₀ L s₁ I it rest { s₁ with heap := h', toks := tk } := ⟨h', tk, m', news', rfl, F, fun p hp => N p (hs p hp), off, r⟩
theorem LoopInv.mk {w : World} {so po du gr sm c1 c2 I : Addr} {oc2 oS oP oc1 : Obj} {x0 y0 x1 y1 : Int} {i : Nat} {m : Str → Option Value} {S : PP} {gs ss : List Dat} {cs : List (Cmd × Cmd)} {v1 : Option Value} {k0 k1 k2 : Nat} {fd fg fs : List Value} {T : Led} {cg c' : Cmd}
    (hH : Hist x0 y0 x1 y1 gs ss cs S) (hl : cs.length = i) (ht : step S true c' = step S false cg) (hm : m (Str.ofString "pen") = some (.ref po)) (hA : Apart T [so, po, du, gr, sm, c1, c2, I]) (hs : IsSrc oS) (hc1 : oc1.data = .cell v1) (hI : LawIn w T oP du gr sm fd fg fs (step S false cg) (gs ++ [cg.dat false]) (ss ++ [c'.dat true])) :
    LoopInv w so po du gr sm c1 c2 I oc2 x0 y0 x1 y1 (i + 1) m ((so, oS) :: (po, oP) :: (du, listOf fd.toArray k0) :: (gr, listOf fg.toArray k1) :: (sm, listOf fs.toArray k2) :: (c1, oc1) :: (c2, oc2) :: T) :=
  .mk0 hm hA hs hc1 hI (hH.snoc ht) (by rw [List.length_append, hl]; rfl)
theorem LoopInv.mkC {w : World} {so po du gr sm c1 c2 I : Addr} {oc2 oS oP oc1 : Obj} {x0 y0 x1 y1 : Int} {i : Nat} {m : Str → Option Value} {S : PP} {gs ss : List Dat} {cs : List (Cmd × Cmd)} {v1 : Option Value} {k0 k1 k2 : Nat} {fd fg fs : List Value} {T : Led} {cg c' : Cmd} {W : Str} {ps : List (Int × Int)} {segd : List Dat} {x y cx cy : Int} (hC : CurveIs S W ps segd x y cx cy cg c')
    (hH : Hist x0 y0 x1 y1 gs ss cs S) (hl : cs.length = i) (hm : m (Str.ofString "pen") = some (.ref po)) (hA : Apart T [so, po, du, gr, sm, c1, c2, I]) (hs : IsSrc oS) (hc1 : oc1.data = .cell v1)
    (hI : LawIn w T oP du gr sm fd fg fs ⟨x, y, S.sx, S.sy, cx, cy, W, false, S.found ++ (if S.cl && !false then [Dat.tuple [.str (Str.ofString "move"), pt S.hx S.hy]] else []) ++ [Dat.tuple (.str W :: segd)]⟩ (gs ++ [Dat.tuple [.str (cg.letter false), .tuple (flat ps)]]) (ss ++ [Dat.tuple [.str (c'.letter true), .tuple (flat (mvd S.hx S.hy ps))]])) :
    LoopInv w so po du gr sm c1 c2 I oc2 x0 y0 x1 y1 (i + 1) m ((so, oS) :: (po, oP) :: (du, listOf fd.toArray k0) :: (gr, listOf fg.toArray k1) :: (sm, listOf fs.toArray k2) :: (c1, oc1) :: (c2, oc2) :: T) := by
  obtain ⟨e1, e2, e3, e4⟩ := hC
  rw [← e1, ← e2] at hI
  exact LoopInv.mk hH hl e3 hm hA hs hc1 (by rw [e4]; exact hI)
theorem rng_small {d : Int} (h0 : 0 ≤ d) (h1 : d < 4) : Builtin.Range.small 0 (2 + d) 1 = true := by
  rcases (show d = 0 ∨ d = 1 ∨ d = 2 ∨ d = 3 by omega) with rfl | rfl | rfl | rfl <;> decide
theorem rng_size {d : Int} (h0 : 0 ≤ d) (h1 : d < 4) : Builtin.Range.rangeSize 0 (2 + d) 1 = (((2 + d).toNat : Nat) : Int) := by
  rcases (show d = 0 ∨ d = 1 ∨ d = 2 ∨ d = 3 by omega) with rfl | rfl | rfl | rfl <;> decide
theorem tidyL {w : World} {so po du gr sm c1 c2 I : Addr} {oc2 : Obj} {x0 y0 x1 y1 : Int} {i : Nat} {P : (Str → Option Value) → Led → Prop} (nih : ∀ m' L', LoopInv w so po du gr sm c1 c2 I oc2 x0 y0 x1 y1 i m' L' → P m' L') {D' pl : Addr} {oD oS oP od og os' oc1 oI opl : Obj} {h₀ h : Heap} {L : Addr} {news9 T : Led} {C : Prop}
    (hU : Sub [(D', oD), (so, oS), (po, oP), (du, od), (gr, og), (sm, os'), (c1, oc1), (c2, oc2), (I, oI), (pl, opl)] news9) (hs : Sub T news9) (N : News h₀ L h news9) (hk : Apart T [D', so, po, du, gr, sm, c1, c2, I, pl]) (hc : NoTup [(D', oD), (so, oS), (po, oP), (du, od), (gr, og), (sm, os'), (c1, oc1), (c2, oc2), (I, oI), (pl, opl)])
    (k : ∀ T9, News h₀ L h ([(D', oD), (so, oS), (po, oP), (du, od), (gr, og), (sm, os'), (c1, oc1), (c2, oc2), (I, oI), (pl, opl)] ++ T9) → Apart T9 [D', so, po, du, gr, sm, c1, c2, I, pl] → SubT news9 T9 → Sub T T9 → C) : C := tidy_elim hU hs N hk hc k
theorem wdJ47N30x62 : True := by
  k_with "subL9" => first | with_reducible assumption | (refine Sub.mk (by keq_rows) ?_; k_extra "subL9") | kp_flats | fail "subL9"
  trivial
noncomputable def LawRest (w : World) : Prop :=
  ∀ (mean : ExcName → Option Value) (mg mb : Str → Option Value) (name qual : Str) (params : Arguments) (s0 : Stmt) (rest : List Stmt) (scope : Scope) (dV kV doc pm cdv ct oc : Value) (an od : Option Addr) (osl : Array (Option Value)),
    (hd.heap_1 w.params).lookup 310 = some ⟨oc, od, .func (fnOf name qual params (s0 :: rest) scope dV kV doc pm an cdv ct), osl⟩ →
    ∀ (dp un : Nat) (gd : Option (List Code)) (A₀ : Around) (base g : Heap) (outer : List Env) (L : Addr) (hp : Heap) (gens : Array GenState) (drawn : Drawn) (toks : Nat) (os : OsState) (QQ : Flow → Shared → Prop) (m : Str → Option Value) (so : Addr) (oS oc1 oc2 : Obj) (v1 : Option Value) (fa : Addr) (cd : Value),
      Below A₀ base outer g → (hd.heap_1 w.params).In g → Top qv (looseW qv [Str.ofString "fraction"]) mean mg mb g → Fr g L hp m → News g L hp [(so, oS), (L + 1 + 1, oc1), (L + 1, oc2)] → IsSrc oS → oc2.data = .cell (some (.ref so)) → oc1.data = .cell v1 → (∀ p ∈ [(L + 1 + 1, oc1), (L + 1, oc2)], p.1 < so) → dp + 40 < recursionLimit → un + 800 < cLine →
      (∀ h' tk' m' news', Fr g L h' m' → News g L h' news' → QQ (.ret (.bool true)) ⟨h', gens, drawn, tk', os⟩) →
      wpAny (model PySem.Challenge.rw_nu0013_01.prog w) (ktrTop dp un gd qual scope L fa cd (cellsFrom (L + 1) scope.names []) outer) (execs rest (envOfC qual scope L fa cd)) QQ NoE ⟨hp, gens, drawn, toks, os⟩
theorem law_rest_of {w : World} {name qual : Str} {params : Arguments} {s0 : Stmt} {rest : List Stmt} {scope : Scope} {dV kV doc pm cdv ct oc : Value} {an od : Option Addr} {osl : Array (Option Value)}
    (ho : (hd.heap_1 w.params).lookup 310 = some ⟨oc, od, .func (fnOf name qual params (s0 :: rest) scope dV kV doc pm an cdv ct), osl⟩)
    (h : ∀ (mean : ExcName → Option Value) (mg mb : Str → Option Value) (dp un : Nat) (gd : Option (List Code)) (A₀ : Around) (base g : Heap) (outer : List Env) (L : Addr) (hp : Heap) (gens : Array GenState) (drawn : Drawn) (toks : Nat) (os : OsState) (QQ : Flow → Shared → Prop) (m : Str → Option Value) (so : Addr) (oS oc1 oc2 : Obj) (v1 : Option Value) (fa : Addr) (cd : Value),
      Below A₀ base outer g → (hd.heap_1 w.params).In g → Top qv (looseW qv [Str.ofString "fraction"]) mean mg mb g → Fr g L hp m → News g L hp [(so, oS), (L + 1 + 1, oc1), (L + 1, oc2)] → IsSrc oS → oc2.data = .cell (some (.ref so)) → oc1.data = .cell v1 → (∀ p ∈ [(L + 1 + 1, oc1), (L + 1, oc2)], p.1 < so) → dp + 40 < recursionLimit → un + 800 < cLine →
      (∀ h' tk' m' news', Fr g L h' m' → News g L h' news' → QQ (.ret (.bool true)) ⟨h', gens, drawn, tk', os⟩) →
      wpAny (model PySem.Challenge.rw_nu0013_01.prog w) (ktrTop dp un gd qual scope L fa cd (cellsFrom (L + 1) scope.names []) outer) (execs rest (envOfC qual scope L fa cd)) QQ NoE ⟨hp, gens, drawn, toks, os⟩) : LawRest w := by
  intro mean mg mb name' qual' params' s0' rest' scope' dV' kV' doc' pm' cdv' ct' oc' an' od' osl' ho'
  have e := Option.some.inj (ho.symm.trans ho')
  simp only [Obj.mk.injEq, fnOf] at e
  obtain ⟨rfl, rfl, e, rfl⟩ := e
  injection e with e
  injection e
  rename_i n1 n2 n3 e1 e2 e3 e4 e5 e6 e7 e8 e9 e10 e11 e12
  injection e1 with e1
  injection e1 with e0 e1
  subst n2 e2 e10 e1
  exact h mean mg mb
theorem MixEnd.mk {h₀ : Heap} {L : Addr} {m : Str → Option Value} {g h' : Heap} {gens : Array GenState} {drawn : Drawn} {tk tk' : Nat} {os : OsState} {so : Addr} {HT all : Led} {v1 v2 y : Value} {o' : Obj} (F : Fr h₀ L h' m) (N : News h₀ L h' all) (hs : Sub ((so, o') :: HT) all) (hS : IsSrc o') (hy : y = v1 ∨ y = v2) : MixEnd h₀ L m ⟨g, gens, drawn, tk, os⟩ so HT v1 v2 y ⟨h', gens, drawn, tk', os⟩ := ⟨h', tk', o', rfl, F, fun p hp => N p (hs p hp), hS, hy⟩
theorem wdJ47N30x63 : True := by
  k_with "call ref" => (k_here; (with_reducible show wpAny _ _ (call (Value.ref 209) _) _ _ _); k_dflt (refine' Ctr.useSegs (segsOk_ctr ?hcl ?hz) ?k1 ?k2 ?k3 ?k4 ?k5 ?k6 ?k7 ?k8 ?CR9 ?hS9 ?hc9 ?_; (case k1 => k_asm); (case k2 => k_asm); (case k3 => k_asm); (case k4 => k_asm); (case k5 => k_asm); (case k6 => first | exact rfl | assumption); (case hcl => keq_rows); (case hz => first | with_reducible assumption | (refine SegOk.mono ?_ (by with_reducible assumption); kp_flats)); (case k7 => first | exact room9 hd1 rfl | ktr_room); (case k8 => first | exact room9 hd2 rfl | ktr_units); (case CR9 => k_upd); (case hS9 => ((try dsimp only [List.map]); k_upd)); (case hc9 => k_upd)); k_dflt (intro fl9 n9 fv9 T9 h9 tk9 F9 N9 hAp9 hSR9 hf9 hnf9; dsimp only [List.map, List.cons_append, List.nil_append] at hAp9 N9); (try dsimp only); (try k_sweep); (try k_fold))
  k_with "compareOp NotEq ref ref" => (k_here; (with_reducible show wpAny _ _ (compareOp CmpOp.NotEq (Value.ref _) (Value.ref _)) _ _ _); k_dflt (refine' segs_ne ?N ?ma ?Da ?mb ?Db ?ha ?hu ?_; (case N => k_asm); (case ma => keq_rows); (case Da => kct_strs); (case mb => keq_rows); (case Db => kct_strs); (case ha => with_reducible assumption); (case hu => ktr_units)))
  k_with "call ref" => (k_here; (with_reducible show wpAny _ _ (call (Value.ref 230) _) _ _ _); k_dflt (refine' Ctr.useOneX (Ctr.perm (Pick.sub ?P9) (one_exact ?hs ?hA ?htl)) ?k1 ?k2 ?k3 ?k4 ?k5 ?k6 ?k7 ?k8 ?_; (case k1 => k_asm); (case k2 => k_asm); (case k3 => k_asm); (case k4 => k_asm); (case k5 => k_asm); (case k6 => first | exact rfl | assumption); (case P9 => k_upd); (case hs => with_reducible assumption); (case hA => k_upd); (case htl => keq_rows); (case k7 => first | exact room9 hd1 rfl | ktr_room); (case k8 => first | exact room9 hd2 rfl | ktr_units)); intro r9 o9 h9 tk9 F9 N9 hs9 hr9; (try dsimp only); (try k_sweep))
  trivial
theorem list_ind {P : List Value → (Str → Option Value) → Led → Prop} {h₀ h : Heap} {L pn : Addr} {m0 : Str → Option Value} {news0 : Led} {S : PP} {vs : List Value} (I : Addr) (nN : News h₀ L h news0) (hlt : ∀ p ∈ news0, p.1 < I) (hm : m0 (Str.ofString "pen") = some (.ref pn))
    (hg : ∀ v ∈ vs, ∃ cl zs n, v = .ref cl ∧ (cl, listOf zs.toArray n) ∈ news0 ∧ SegOk news0 zs S)
    (kz : ∀ m L, m (Str.ofString "pen") = some (.ref pn) → Sub news0 L → P [] m L)
    (kt : ∀ (cl : Addr) (zs : List Value) (n : Nat) (r : List Value) (m : Str → Option Value) (L : Led), (cl, listOf zs.toArray n) ∈ L → SegOk L zs S → m (Str.ofString "pen") = some (.ref pn) → Sub news0 L → (∀ p ∈ L, p.1 ≠ I) → (∀ m' L', m' (Str.ofString "pen") = some (.ref pn) → Sub news0 L' → (∀ p ∈ L', p.1 ≠ I) → P r m' L') → P (.ref cl :: r) m L) : P vs m0 news0 := by
  have key : ∀ (ws : List Value), (∀ v ∈ ws, v ∈ vs) → ∀ m L, m (Str.ofString "pen") = some (.ref pn) → Sub news0 L → (∀ p ∈ L, p.1 ≠ I) → P ws m L := by
    intro ws
    induction ws with
    | nil => intro _ m L a b _; exact kz m L a b
    | cons v r ih =>
      intro hw m L a b c
      obtain ⟨cl, zs, n, rfl, q1, q2⟩ := hg v (hw v (.head _))
      exact kt cl zs n r m L (b _ q1) (q2.mono b) a b c (ih fun v hv => hw v (.tail _ hv))
  exact key vs (fun _ h => h) m0 news0 hm Sub.refl fun p hp => Nat.ne_of_lt (hlt p hp)
theorem law_rest {w : World} : LawRest w := by
  have hfill : True := fillT (K := Mine.hd.heap_1) (l := PySem.Challenge.rw_nu0013_01) (by k_fill; exact trivial); clear hfill
  refine' law_rest_of ?k6 ?_
  case k6 => k_is
  intro mean mg mb dp un gd A₀ base g outer L hp gens drawn toks os QQ m so oS oc1 oc2 v1 fa cd B X T F N hs d2 d1 lS hd1 hd2 hend
  have joined9 := True.intro
  (try dsimp only)
  (try k_fold)
  repeat' (first | (k_unfold; (try dsimp only)) | (k_end; (fail_if_success (with_reducible show LawMid _ _ _ _ _ _ _)); (fail_if_success (with_reducible show PoolMid _ _ _ _ _ _ _ _ _)); (fail_if_success (with_reducible show MixEnd _ _ _ _ _ _ _ _ _ _)); wrow_close) | walk1 | (dsimp only; walk1) | (leave1; walk_say "STEP leave1"; try dsimp only))
  unfold Stop
  (rename Fr _ _ _ _ => lF)
  (rename News _ _ _ _ => lN)
  (rename IsRange _ _ _ _ _ _ _ _ => lR)
  (rename _ < (4 : Int) => lD)
  (rename 0 ≤ _ => lD0)
  k_dflt (refine krs_iter (by with_unfolding_all rfl) lR (rng_small lD0 lD) (rng_size lD0 lD) lF lN ?_)
  intro I lI
  k_lt lI
  refine' loop_allN (P := KrsRest _ _ _ _ _ _ _ _ _ _ _ _ _ _) I lN ?hI ?hH ?hs ?hc1 ?hm ?hA lI ?hn ?kz ?kt
  case hI => k_extra "law9"
  case hH => exact Hist.start (turn_M S0 _ _)
  case hs => with_reducible assumption
  case hc1 => with_reducible assumption
  case hm => rfl
  case hA => k_upd
  case hn => omega
  case kt =>
    clear lF lN lR
    (repeat (rename Fr _ _ _ _ => zz; clear zz)); (repeat (rename News _ _ _ _ => zz; clear zz)); (repeat (rename Obj.IsDictOf _ _ _ => zz; clear zz)); (repeat (rename IsSrc _ => zz; clear zz)); (repeat (rename LawIn _ _ _ _ _ _ _ _ _ _ _ _ => zz; clear zz)); (repeat (rename Sub _ _ => zz; clear zz))
    intro j i S gs ss cs oS oP oc1 v1 k0 k1 k2 fd fg fs T m hm hA hs hc1 hI hH hcs hl IH
    refine KrsRest.succ rfl ?_
    intro t5 h5 tk5 F5 N5
    rw [map_keep hm] at F5
    refine hI.elim fun vh vst vc tk ww tw hd hw hh hst hcz hfd hfg hfs => ?_
    refine hh.raw_elim fun ha th uh nh hmh ehh => ?_
    subst ehh
    have hl0 := hl.1
    have hl1 := hl.2.1
    have hl2 := hl.2.2
    (try dsimp only at N5)
    repeat' (first | (k_unfold; (try dsimp only)) | (k_end; (fail_if_success (with_reducible show LawMid _ _ _ _ _ _ _)); (fail_if_success (with_reducible show PoolMid _ _ _ _ _ _ _ _ _)); (fail_if_success (with_reducible show MixEnd _ _ _ _ _ _ _ _ _ _)); wrow_close) | walk1 | (dsimp only; walk1) | (leave1; walk_say "STEP leave1"; try dsimp only))
    · unfold Stop
      have hW9 := W3.ne hw (by with_reducible assumption)
      have hbm9 := cq_move hW9
      have hbc9 := cq_close hW9
      refine comp_ind (P := LCg.CompRest _ _ _ _ _ _ _ _ _ _ _ _ _ _ _) (hx0 := S.hx) (hy0 := S.hy) (ps := ps9) (by kct_strs) ?_ ?_
      · intro ys T hS hT
        refine LCg.CompRest.zero ?_
        unfold LCg.FinE
        intro D' h' tk' F' N' o1'
        have o2' := off1_mem o1'
        clear o1'
        refine' tidyL IH (D' := D') (pl := pl9) (T := T9) ?z1 ?z2 N' ?z3 ?z4 ?_
        case z1 => k_extra "subL9"
        case z2 => kp_flats
        case z3 => k_upd
        case z4 => k_upd
        intro T10 N10 hAp10 hST10 hS10
        dsimp only [List.cons_append, List.nil_append] at N10
        have hT10 := hT.monoT (fun p hp h => hST10 p (.tail _ hp) h)
        have o3' := fun p hp => o2' p (hS p hp)
        clear hST10 o2' N' hT hS
        (try dsimp only)
        (try k_sweep)
        repeat' (first | (k_unfold; (try dsimp only)) | (k_end; (fail_if_success (with_reducible show LawMid _ _ _ _ _ _ _)); (fail_if_success (with_reducible show PoolMid _ _ _ _ _ _ _ _ _)); (fail_if_success (with_reducible show MixEnd _ _ _ _ _ _ _ _ _ _)); wrow_close) | walk1 | (dsimp only; walk1) | (leave1; walk_say "STEP leave1"; try dsimp only))
        unfold Stop
        refine' my_unrEndL _ ?F ?N ?P ?o (IH _ _ (LoopInv.mkC (T := T9) hC9 hH hcs ?m ?A ?s ?c ?I))
        case F => k_asm
        case N => k_asm
        case P => k_extra "subL9"
        case o => k_all
        case m => rfl
        case A => k_upd
        case s => with_reducible assumption
        case c => with_reducible assumption
        case I => exact LawIn.mk (by assumption) (W3.put ‹W3 _› (W3.cq hW9)) (by keq_hits) (by keq_hits) (by k_extra "rnz9") (by k_extra "tallD9") (by k_extra "tallD9") (by k_extra "tallD9")
      · intro j i ys v x y T hi hS hvT IH
        refine LCg.CompRest.succ ?_
        intro v' I' oI' C' oC' D' m' h' tk' E' hv' hC' hx' F' N' off' ne'
        obtain rfl : v' = v := Option.some.inj (hv'.symm.trans hi)
        have offI := fun p hp => (LCg.Off3.mem off' p hp).1
        have offC := fun p hp => (LCg.Off3.mem off' p hp).2.1
        have offD := fun p hp => (LCg.Off3.mem off' p hp).2.2
        have neIC := ne'.1
        have neID := ne'.2.1
        have neCD := ne'.2.2
        clear off' ne' hv' hi
        skip
        repeat' (first | (k_unfold; (try dsimp only)) | (k_end; (fail_if_success (with_reducible show LawMid _ _ _ _ _ _ _)); (fail_if_success (with_reducible show PoolMid _ _ _ _ _ _ _ _ _)); (fail_if_success (with_reducible show MixEnd _ _ _ _ _ _ _ _ _ _)); wrow_close) | walk1 | (dsimp only; walk1) | (leave1; walk_say "STEP leave1"; try dsimp only))
        exact IH _ _ _ _
    all_goals (
      unfold Stop
      refine' my_unrEndL _ ?F ?N ?P ?o (IH _ _ (LoopInv.mk (T := T9) hH hcs (by with_reducible assumption) ?m ?A ?s ?c ?I))
      case F => k_asm
      case N => k_asm
      case P => k_extra "subL9"
      case o => k_all
      case m => rfl
      case A => k_upd
      case s => with_reducible assumption
      case c => with_reducible assumption
      case I => k_extra "law9")
  case kz =>
    clear lF lN lR
    (repeat (rename Fr _ _ _ _ => zz; clear zz)); (repeat (rename News _ _ _ _ => zz; clear zz)); (repeat (rename Obj.IsDictOf _ _ _ => zz; clear zz)); (repeat (rename IsSrc _ => zz; clear zz)); (repeat (rename LawIn _ _ _ _ _ _ _ _ _ _ _ _ => zz; clear zz)); (repeat (rename Sub _ _ => zz; clear zz))
    intro S gs ss cs oS oP oc1 v1 k0 k1 k2 fd fg fs T m hm hA hs hc1 hI hH hcs
    refine KrsRest.zero ?_
    intro h5 tk5 F5 N5
    rw [map_keep hm] at F5
    refine hI.elim fun vh vst vc tk ww tw hd hw hh hst hcz hfd hfg hfs => ?_
    have hcl : cs.length ≤ 300 := by omega
    have hlen : fg.length = fs.length := by rw [hfg.length, hfs.length, hH.len.1, hH.len.2.1]
    have hsz : fg.length ≤ sizeLine := by have e1 := hfg.length; have e2 := hH.len.1; rw [sizeLine_eq]; omega
    (try dsimp only at N5)
    repeat' (first | (k_unfold; (try dsimp only)) | (k_end; (fail_if_success (with_reducible show LawMid _ _ _ _ _ _ _)); (fail_if_success (with_reducible show PoolMid _ _ _ _ _ _ _ _ _)); (fail_if_success (with_reducible show MixEnd _ _ _ _ _ _ _ _ _ _)); wrow_close) | walk1 | (dsimp only; walk1) | (leave1; walk_say "STEP leave1"; try dsimp only))
    unfold Stop
    refine' mix_call (so := so) (xs := fg) (ys := fs) ?m1 ?m2 ?m3 ?m4 ?m5 ?m6 ?m7 ?m8 hlen hsz ?mt ?mf
    case m1 => with_unfolding_all rfl
    case m2 => k_asm
    case m3 => k_asm
    case m4 => k_upd
    case m5 => with_reducible assumption
    case m6 => k_all
    case m7 => keq_rows
    case m8 => keq_rows
    case mt =>
      intro g2 HT C oC m2 h6 tk6 va vb o6 E6 hsub hs6 hC6 hN6 hx6 hy6 F6 N6 hso6
      (try dsimp only)
      repeat' (first | (k_unfold; (try dsimp only)) | (k_end; (fail_if_success (with_reducible show LawMid _ _ _ _ _ _ _)); (fail_if_success (with_reducible show PoolMid _ _ _ _ _ _ _ _ _)); (fail_if_success (with_reducible show MixEnd _ _ _ _ _ _ _ _ _ _)); wrow_close) | walk1 | (dsimp only; walk1) | (leave1; walk_say "STEP leave1"; try dsimp only))
      exact MixEnd.mk (by k_asm) (by k_asm) (by k_extra "subL9") (by with_reducible assumption) (by with_reducible assumption)
    case mf =>
      intro g2 D6 h6 tk6 zs o6 F6 N6 hD6 hs6 hmx
      have z1 := hist_mix hH hcl hfg hfs (Mix.left hlen)
      have z2 := hist_mix hH hcl hfg hfs (Mix.right hlen)
      have z3 := hist_mix hH hcl hfg hfs hmx
      have hok := hH.ok
      (try dsimp only)
      repeat' (first | (k_unfold; (try dsimp only)) | (k_end; (fail_if_success (with_reducible show LawMid _ _ _ _ _ _ _)); (fail_if_success (with_reducible show PoolMid _ _ _ _ _ _ _ _ _)); (fail_if_success (with_reducible show MixEnd _ _ _ _ _ _ _ _ _ _)); wrow_close) | walk1 | (dsimp only; walk1) | (leave1; walk_say "STEP leave1"; try dsimp only))
      (rename Fr _ _ _ _ => lF2)
      (rename News _ _ _ _ => lN2)
      k_dflt (refine iter_listUnr (vs := [_, _, _]) (by with_unfolding_all rfl) lF2 lN2 (by keq_rows) rfl rfl ?_)
      intro I2 lI2
      k_lt lI2
      refine' list_ind (P := ListRest _ _ _ _ _ _ _ _ _ _ _ _) I2 lN2 lI2 ?lm ?lg ?lz ?lt
      case lm => rfl
      case lg =>
        refine List.forall_mem_cons.mpr ⟨⟨_, _, _, rfl, by keq_rows, SegOk.mono (by kp_flats) z1⟩, ?_⟩
        refine List.forall_mem_cons.mpr ⟨⟨_, _, _, rfl, by keq_rows, SegOk.mono (by kp_flats) z2⟩, ?_⟩
        refine List.forall_mem_cons.mpr ⟨⟨_, _, _, rfl, by keq_rows, SegOk.mono (by kp_flats) z3⟩, ?_⟩
        exact fun _ h => nomatch h
      case lz =>
        clear lF2 lN2
        intro m7 L7 hm7 hS7
        refine ListRest.zero ?_
        intro h7 tk7 F7 N7
        repeat' (first | (k_unfold; (try dsimp only)) | (k_end; (fail_if_success (with_reducible show LawMid _ _ _ _ _ _ _)); (fail_if_success (with_reducible show PoolMid _ _ _ _ _ _ _ _ _)); (fail_if_success (with_reducible show MixEnd _ _ _ _ _ _ _ _ _ _)); wrow_close) | walk1 | (dsimp only; walk1) | (leave1; walk_say "STEP leave1"; try dsimp only))
        exact hend _ _ _ _ (by k_asm) (by k_asm)
      case lt =>
        clear lF2 lN2
        intro cl zs n r m7 L7 hcl7 hz7 hm7 hS7 hI7 IH
        refine ListRest.succ ?_
        intro it7 h7 tk7 hit7 F7 N7
        rw [map_keep hm7] at F7
        have hnt7 : NoT it7 := NoT.of (by rw [hit7]; decide)
        (try dsimp only)
        repeat' (first | (k_unfold; (try dsimp only)) | (k_end; (fail_if_success (with_reducible show LawMid _ _ _ _ _ _ _)); (fail_if_success (with_reducible show PoolMid _ _ _ _ _ _ _ _ _)); (fail_if_success (with_reducible show MixEnd _ _ _ _ _ _ _ _ _ _)); wrow_close) | walk1 | (dsimp only; walk1) | (leave1; walk_say "STEP leave1"; try dsimp only))
        unfold Stop
        refine' my_unrEndL T9 ?F ?N ?P ?o ⟨?lp, IH _ _ ?m ?s ?o2⟩
        case F => k_asm
        case N => k_asm
        case P => k_extra "subL9"
        case o => k_all
        case lp => keq_rows
        case m => rfl
        case s => kp_flats
        case o2 => k_all
theorem rst48 : True := by
  k_with_none
  trivial
theorem wdJ49PNx64 : True := by
  k_with "rows9" => first | with_reducible assumption | exact List.mem_cons_self | (refine List.mem_cons_of_mem _ ?_; keq_rows) | (refine Sub.use (by with_reducible assumption) ?_; keq_rows) | fail "keq_rows"
  k_with "mono9" => first | with_reducible assumption | (refine' TIn.mono ?ms ?mh; (case ms => exact (fun _ h => List.mem_cons_of_mem _ h)); (case mh => kat_tups)) | (refine' TIn.mono ?ms ?mh; (case ms => with_reducible assumption); (case mh => kat_tups)) | (refine' CIn.mono ?ms ?mh; (case ms => exact (fun _ h => List.mem_cons_of_mem _ h)); (case mh => kat_tups)) | (refine' CIn.mono ?ms ?mh; (case ms => with_reducible assumption); (case mh => kat_tups)) | (refine' CNz.mono ?ms ?mh; (case ms => exact (fun _ h => List.mem_cons_of_mem _ h)); (case mh => kat_tups)) | (refine' CNz.mono ?ms ?mh; (case ms => with_reducible assumption); (case mh => kat_tups)) | fail "kat_tups"
  k_with "amono9" => first | with_reducible assumption | (refine' TAll.mono ?ms ?mh; (case ms => exact (fun _ h => List.mem_cons_of_mem _ h)); (case mh => kbo_bools)) | (refine' TAll.mono ?ms ?mh; (case ms => with_reducible assumption); (case mh => kbo_bools)) | fail "kbo_bools"
  k_with "tin9" => first | with_reducible assumption | exact TIn.none | exact TIn.int _ _ | exact TIn.str _ _ | exact TIn.bool _ | (refine TIn.mono ?_ (by with_reducible assumption); kp_flats) | (refine TIn.intE ?_; first | omega | (simp; done)) | exact TIn.tuple (by keq_rows) (by kct_strs) | kat_tups | fail "keq_hits"
  k_with "tall9" => first | with_reducible assumption | exact TAll.nil | (refine TAll.mono ?_ (by with_reducible assumption); kp_flats) | exact TAll.cons (by keq_hits) (by kct_strs) | exact TAll.append (by kct_strs) (by kct_strs) | kbo_bools | fail "kct_strs"
  k_with "sub9" => first | with_reducible exact Sub.refl | with_reducible exact Sub.nil | with_reducible assumption | (with_reducible refine Sub.mk ?sm ?sr; (case sm => keq_rows); (case sr => kp_flats)) | (intro p9 h9; (repeat (first | with_reducible assumption | (with_reducible refine List.mem_cons_of_mem _ ?_) | refine Sub.use (by with_reducible assumption) ?_)); done) | fail "kp_flats"
  k_with "lt9" => skip
  k_with "size9" => exact size9 rfl
  k_with "ne9" => ((try dsimp only); first | with_reducible assumption | exact Ne.symm (by with_reducible assumption) | exact ltNe9 (by with_reducible assumption) (by keq_rows) | exact gtNe9 (by with_reducible assumption) (by keq_rows) | exact Nat.ne_of_lt (by with_reducible assumption) | exact Nat.ne_of_gt (by with_reducible assumption) | exact ltNe1 (by with_reducible assumption) (by keq_rows) | exact gtNe1 (by with_reducible assumption) (by keq_rows) | exact neOf9 (by with_reducible assumption) (by keq_rows) | exact Ne.symm (neOf9 (by with_reducible assumption) (by keq_rows)) | exact ltNe8 (by with_reducible assumption) (by keq_rows) (by with_reducible assumption) | exact gtNe8 (by with_reducible assumption) (by keq_rows) (by with_reducible assumption) | fail "ne9")
  k_with "all9" => first | with_reducible assumption | exact List.forall_mem_nil _ | (refine' List.forall_mem_cons.mpr ⟨?a, ?b⟩; (case a => k_ne); (case b => k_all)) | exact Apart.ne (by with_reducible assumption) (by keq_rows) | exact allLt_ne (by with_reducible assumption) | exact rawLt_ne (by with_reducible assumption) (by kp_flats) | exact rawNe9 (by with_reducible assumption) (by kp_flats) | exact rawLt_ne1 (by with_reducible assumption) (by kp_flats) | exact rawLt_ne8 (by with_reducible assumption) (by with_reducible assumption) (by kp_flats) | fail "k_all"
  k_with "upd9" => first | ((with_reducible show Pick _ _ _); first | exact Pick.here | (refine' Pick.there ?pk; (case pk => k_upd)) | fail "pick") | ((with_reducible show Core _ _ _ _); first | (refine' Core.tup ?ck; (case ck => k_upd)) | (refine' Core.keep ?ck; (case ck => k_upd)) | exact Core.tail | fail "core") | ((with_reducible show Apart _ _); first | with_reducible assumption | exact Apart.nil | (refine Apart.mk ?sa ?sb; (case sa => k_all); (case sb => k_upd)) | fail "apart") | ((with_reducible show SepL _ _); (try dsimp only [List.cons_append, List.nil_append]); first | exact True.intro | (refine And.intro ?sa ?sb; (case sa => k_all); (case sb => k_upd)) | fail "sep") | ((with_reducible show NoTup _); (try dsimp only [List.cons_append, List.nil_append]); first | exact True.intro | (refine And.intro ?sa ?sb; (case sa => first | exact cls_list | exact cls_dict | exact cls_inst | exact cls_rng | with_reducible assumption | exact NoT.of (by with_reducible assumption) | exact NoT.cell (by with_reducible assumption) | exact cls_pen (by with_reducible assumption) | exact cls_src (by with_reducible assumption) | exact LawIn.cls (by with_reducible assumption) | fail "cls"); (case sb => k_upd)) | fail "notup")
  k_with "tallD9" => first | assumption | (refine TAll.mono ?_ (by assumption); kp_flats) | fail "tallD9"
  k_with "len9" => first | with_reducible assumption | exact Nat.le_trans (by with_reducible assumption) (Nat.le_of_ble_eq_true rfl) | exact Nat.le_of_ble_eq_true rfl | omega | (simp only [List.length_append, List.length_cons, List.length_nil]; omega) | fail "len9"
  k_with "rnz9" => first | exact RNz.nul | exact RNz.of (by keq_hits) | with_reducible assumption | (refine RNz.mono ?_ (by with_reducible assumption); kp_flats) | fail "rnz9"
  k_with "law9" => first | with_reducible assumption | (refine LawIn.mono ?_ (by with_reducible assumption); kp_flats) | fail "law9"
  k_with "WhlIf" => (refine WhlIf.no (decide_eq_false (by rw [Int.fmod_one]; decide)) ?_)
  k_with "call builtin:list.append" => (k_here; (with_reducible show wpAny _ _ (call (Value.builtin _) [Value.ref _, _]) _ _ _); k_dflt (refine' my_append ?k1 ?k2 ?k3 ?z ?_; (case k1 => k_asm); (case k2 => k_asm); (case k3 => k_upd); (case z => first | exact Nat.le_of_ble_eq_true rfl | omega | (simp only [List.length_append, List.length_cons, List.length_nil]; omega)); k_whole); intro h' F' N'; (try dsimp only [List.nil_append, List.cons_append] at N'); (try k_sweep))
  k_with "compareOp In str str" => k_dflt (first | refine my_in_str (b := true) (by decide +kernel) ?_ | refine my_in_str (b := false) (by decide +kernel) ?_)
  k_with "UnrEnd" => (k_here; k_dflt (refine' my_unrEnd ?F ?N ?P ?o ?_; (case F => k_asm); (case N => k_asm); (case P => k_upd); (case o => k_all)))
  k_with "compareOp Eq ref ref" => (k_here; (with_reducible show wpAny _ _ (compareOp CmpOp.Eq (Value.ref _) (Value.ref 47)) _ _ _); k_dflt (refine' my_eq_zero ?F ?X ?l ?N ?a ?u ?_; (case F => k_asm); (case X => k_asm); (case l => k_is); (case N => k_asm); (case a => keq_hits); (case u => ktr_units)))
  k_with "compareOp Eq ref ref" => (k_here; (with_reducible show wpAny _ _ (compareOp CmpOp.Eq (Value.ref _) (Value.ref _)) _ _ _); k_dflt (refine' my_eq_pt ?N ?a ?b ?u ?_; (case N => k_asm); (case a => keq_hits); (case b => keq_hits); (case u => ktr_units)))
  k_with "subscriptTail Name Constant ref int" => (k_here; (with_reducible show wpAny _ _ (subscriptTail _ _ (Value.ref _) (Value.int _ _)) _ _ _); k_dflt (refine' item_litK ?t ?a ?b ?c ?_ ?d; (case t => exact News.isList (by k_asm) (by keq_rows)); (case a => decide); (case b => decide); (case c => exact rfl); (case d => with_unfolding_all rfl); k_whole))
  k_with "subscriptTail Name Constant ref int" => (k_here; (with_reducible show wpAny _ _ (subscriptTail _ _ (Value.ref _) (Value.int _ _)) _ _ _); k_dflt (refine item_tupleT (News.isTup (by k_asm) (by keq_rows)) (by decide) (by decide) (by exact rfl) (by exact rfl) ?_; k_whole))
  k_with "subscriptTail Name Name ref int" => (k_here; (with_reducible show wpAny _ _ (subscriptTail _ _ (Value.ref _) (Value.int _ _)) _ _ _); k_dflt (refine item_tupleT (News.isTup (by k_asm) (by keq_rows)) (by decide) (by decide) (by exact rfl) (by exact rfl) ?_; k_whole))
  k_with "subscriptTail Name BinOp ref int" => (k_here; (with_reducible show wpAny _ _ (subscriptTail _ _ (Value.ref _) (Value.int _ _)) _ _ _); k_dflt (refine item_tupleT (News.isTup (by k_asm) (by keq_rows)) (by decide) (by decide) (by exact rfl) (by exact rfl) ?_; k_whole))
  trivial
theorem wdJ50N1x65 : True := by
  k_with "call ref" => (k_here; (with_reducible show wpAny _ _ (call (Value.ref 54) _) _ _ _); k_dflt (refine' Ctr.useI (gcd_ctr ) ?k1 ?k2 ?k3 ?k4 ?k5 ?k6 ?k7 ?k8 ?CR9 ?hS9 ?hc9 ?_; (case k1 => k_asm); (case k2 => k_asm); (case k3 => k_asm); (case k4 => k_asm); (case k5 => k_asm); (case k6 => first | exact rfl | assumption);  (case k7 => first | exact room9 hd1 rfl | ktr_room); (case k8 => first | exact room9 hd2 rfl | ktr_units); (case CR9 => k_upd); (case hS9 => ((try dsimp only [List.map]); k_upd)); (case hc9 => k_upd)); k_dflt (intro t9 T9 h9 tk9 F9 N9 hAp9 hSR9 ; dsimp only [List.map, List.cons_append, List.nil_append] at hAp9 N9); (try dsimp only); (try k_sweep); (try k_fold))
  k_with "call ref" => (k_here; (with_reducible show wpAny _ _ (call (Value.ref 244) _) _ _ _); k_dflt (refine' Ctr.useP (fine_ctr ?hv) ?k1 ?k2 ?k3 ?k4 ?k5 ?k6 ?k7 ?k8 ?CR9 ?hS9 ?hc9 ?_; (case k1 => k_asm); (case k2 => k_asm); (case k3 => k_asm); (case k4 => k_asm); (case k5 => k_asm); (case k6 => first | exact rfl | assumption); (case hv => keq_hits); (case k7 => first | exact room9 hd1 rfl | ktr_room); (case k8 => first | exact room9 hd2 rfl | ktr_units); (case CR9 => k_upd); (case hS9 => ((try dsimp only [List.map]); k_upd)); (case hc9 => k_upd)); k_dflt (intro a9 b9 c9 t9 u9 t9' u9' m9 m9' m9'' T9 h9 tk9 F9 N9 hAp9 hSR9 hm9 hm9' hm9'' hr9; dsimp only [List.map, List.cons_append, List.nil_append] at hAp9 N9); (try dsimp only); (try k_sweep); (try k_fold))
  k_with "call ref" => (k_here; (with_reducible show wpAny _ _ (call (Value.ref 237) _) _ _ _); k_dflt (refine' Ctr.useR (moved_ctr ?hv ?hv') ?k1 ?k2 ?k3 ?k4 ?k5 ?k6 ?k7 ?k8 ?CR9 ?hS9 ?hc9 ?_; (case k1 => k_asm); (case k2 => k_asm); (case k3 => k_asm); (case k4 => k_asm); (case k5 => k_asm); (case k6 => first | exact rfl | assumption); (case hv => keq_hits); (case hv' => keq_hits); (case k7 => first | exact room9 hd1 rfl | ktr_room); (case k8 => first | exact room9 hd2 rfl | ktr_units); (case CR9 => k_upd); (case hS9 => ((try dsimp only [List.map]); k_upd)); (case hc9 => k_upd)); k_dflt (intro a9 t9 u9 m9 T9 h9 tk9 F9 N9 hAp9 hSR9 hm9 hr9; dsimp only [List.map, List.cons_append, List.nil_append] at hAp9 N9); (try dsimp only); (try k_sweep); (try k_fold))
  trivial
theorem wdJ51NLx66 : True := by
  k_with "subscriptTail Name Constant ref str" => (k_here; (with_reducible show wpAny _ _ (subscriptTail _ _ (Value.ref _) (Value.str _ _)) _ _ _); (first | ((with_reducible show wpAny _ _ (subscriptTail _ _ (Value.ref _) (Value.str (Str.ofString "here") _)) _ _ _); k_dflt (refine my_item (by k_asm) (by with_reducible assumption) (by keq_rows) at_here ?_)) | ((with_reducible show wpAny _ _ (subscriptTail _ _ (Value.ref _) (Value.str (Str.ofString "start") _)) _ _ _); k_dflt (refine my_item (by k_asm) (by with_reducible assumption) (by keq_rows) at_start ?_)) | ((with_reducible show wpAny _ _ (subscriptTail _ _ (Value.ref _) (Value.str (Str.ofString "kind") _)) _ _ _); k_dflt (refine my_item (by k_asm) (by with_reducible assumption) (by keq_rows) at_kind ?_)) | ((with_reducible show wpAny _ _ (subscriptTail _ _ (Value.ref _) (Value.str (Str.ofString "control") _)) _ _ _); k_dflt (refine my_item (by k_asm) (by with_reducible assumption) (by keq_rows) at_control ?_)) | ((with_reducible show wpAny _ _ (subscriptTail _ _ (Value.ref _) (Value.str (Str.ofString "closed") _)) _ _ _); k_dflt (refine my_item (by k_asm) (by with_reducible assumption) (by keq_rows) at_closed ?_)) | ((with_reducible show wpAny _ _ (subscriptTail _ _ (Value.ref _) (Value.str (Str.ofString "due") _)) _ _ _); k_dflt (refine my_item (by k_asm) (by with_reducible assumption) (by keq_rows) at_due ?_)) | ((with_reducible show wpAny _ _ (subscriptTail _ _ (Value.ref _) (Value.str (Str.ofString "great") _)) _ _ _); k_dflt (refine my_item (by k_asm) (by with_reducible assumption) (by keq_rows) at_great ?_)) | ((with_reducible show wpAny _ _ (subscriptTail _ _ (Value.ref _) (Value.str (Str.ofString "small") _)) _ _ _); k_dflt (refine my_item (by k_asm) (by with_reducible assumption) (by keq_rows) at_small ?_)) | ((with_reducible show wpAny _ _ (subscriptTail _ _ (Value.ref _) (Value.str (Str.ofString "word") _)) _ _ _); k_dflt (refine my_item (by k_asm) (by with_reducible assumption) (by keq_rows) at_word ?_)) | fail "key"); k_dflt k_whole; (try dsimp only))
  k_with "setItem ref str" => (k_here; (with_reducible show wpAny _ _ (setItem (Value.ref _) (Value.str _ _) _) _ _ _); (first | ((with_reducible show wpAny _ _ (setItem (Value.ref _) (Value.str (Str.ofString "here") _) _) _ _ _); k_dflt (refine my_set (by with_reducible assumption) (by k_asm) (by k_asm) (by k_updF) to_here (Nat.le_of_ble_eq_true rfl) ?_)) | ((with_reducible show wpAny _ _ (setItem (Value.ref _) (Value.str (Str.ofString "start") _) _) _ _ _); k_dflt (refine my_set (by with_reducible assumption) (by k_asm) (by k_asm) (by k_updF) to_start (Nat.le_of_ble_eq_true rfl) ?_)) | ((with_reducible show wpAny _ _ (setItem (Value.ref _) (Value.str (Str.ofString "kind") _) _) _ _ _); k_dflt (refine my_set (by with_reducible assumption) (by k_asm) (by k_asm) (by k_updF) to_kind (Nat.le_of_ble_eq_true rfl) ?_)) | ((with_reducible show wpAny _ _ (setItem (Value.ref _) (Value.str (Str.ofString "control") _) _) _ _ _); k_dflt (refine my_set (by with_reducible assumption) (by k_asm) (by k_asm) (by k_updF) to_control (Nat.le_of_ble_eq_true rfl) ?_)) | ((with_reducible show wpAny _ _ (setItem (Value.ref _) (Value.str (Str.ofString "closed") _) _) _ _ _); k_dflt (refine my_set (by with_reducible assumption) (by k_asm) (by k_asm) (by k_updF) to_closed (Nat.le_of_ble_eq_true rfl) ?_)) | ((with_reducible show wpAny _ _ (setItem (Value.ref _) (Value.str (Str.ofString "word") _) _) _ _ _); k_dflt (refine my_set (by with_reducible assumption) (by k_asm) (by k_asm) (by k_updF) to_word (Nat.le_of_ble_eq_true rfl) ?_)) | fail "key"); k_dflt k_whole; intro h' o' F' N' hd'; (try dsimp only at N'); (try dsimp only); (try k_sweep))
  trivial
theorem wdJ52N31x67 : True := by
  k_with "call ref" => (k_here; (fail_if_success (have j9 := pool9)); (with_reducible show wpAny _ _ (call (Value.ref 216) _) _ _ _); refine stopAt ?_)
  trivial
theorem law_rest_use {w : World} (LR : LawRest w) {mean : ExcName → Option Value} {mg mb : Str → Option Value} {name qual : Str} {params : Arguments} {s0 : Stmt} {rest : List Stmt} {scope : Scope} {dV kV doc pm cdv ct oc : Value} {an od : Option Addr} {osl : Array (Option Value)}
    (ho : (hd.heap_1 w.params).lookup 310 = some ⟨oc, od, .func (fnOf name qual params (s0 :: rest) scope dV kV doc pm an cdv ct), osl⟩)
    {dp un : Nat} {gd : Option (List Code)} {A₀ : Around} {base g : Heap} {outer : List Env} {L : Addr} {hp : Heap} {gens : Array GenState} {drawn : Drawn} {toks : Nat} {os : OsState} {QQ : Flow → Shared → Prop} {m : Str → Option Value} {so : Addr} {oS oc1 oc2 : Obj} {v1 : Option Value} {fa : Addr} {cd : Value} {cl : List (Str × Addr)} (hcl : cellsFrom (L + 1) scope.names [] = cl)
    (B : Below A₀ base outer g) (X : (hd.heap_1 w.params).In g) (T : Top qv (looseW qv [Str.ofString "fraction"]) mean mg mb g) (F : Fr g L hp m) (N : News g L hp [(so, oS), (L + 1 + 1, oc1), (L + 1, oc2)]) (hs : IsSrc oS) (d2 : oc2.data = .cell (some (.ref so))) (d1 : oc1.data = .cell v1) (lS : ∀ p ∈ [(L + 1 + 1, oc1), (L + 1, oc2)], p.1 < so) (h1 : dp + 40 < recursionLimit) (h2 : un + 800 < cLine)
    (hend : ∀ h' tk' m' news', Fr g L h' m' → News g L h' news' → QQ (.ret (.bool true)) ⟨h', gens, drawn, tk', os⟩) :
    wpAny (model PySem.Challenge.rw_nu0013_01.prog w) (ktrTop dp un gd qual scope L fa cd cl outer) (execs rest (envOfC qual scope L fa cd)) QQ NoE ⟨hp, gens, drawn, toks, os⟩ :=
  hcl ▸ LR mean mg mb name qual params s0 rest scope dV kV doc pm cdv ct oc an od osl ho dp un gd A₀ base g outer L hp gens drawn toks os QQ m so oS oc1 oc2 v1 fa cd B X T F N hs d2 d1 lS h1 h2 hend
theorem lt_two {a b so : Addr} {o1 o2 o3 : Obj} (h : ∀ p ∈ [(a, o1), (b, o2)], p.1 < so) : ∀ p ∈ [(a, o1), (b, o3)], p.1 < so := List.forall_mem_cons.mpr ⟨h _ List.mem_cons_self, List.forall_mem_cons.mpr ⟨h (b, o2) (List.mem_cons_of_mem _ List.mem_cons_self), fun _ h => nomatch h⟩⟩
theorem cw_all : PySem.Challenge.rw_nu0013_01.Holds := Mine.hd (by
  k_go0
  refine law_split (by k_asm) ?_ ?_
  · repeat' (first | (k_unfold; (try dsimp only)) | (k_end; (fail_if_success (with_reducible show LawMid _ _ _ _ _ _ _)); (fail_if_success (with_reducible show PoolMid _ _ _ _ _ _ _ _ _)); (fail_if_success (with_reducible show MixEnd _ _ _ _ _ _ _ _ _ _)); wrow_close) | walk1 | (dsimp only; walk1) | (leave1; walk_say "STEP leave1"; try dsimp only))
    unfold Stop
    refine pool_split (by k_asm) (by k_asm) ?_ ?_
    · have pool9 := True.intro
      repeat' (first | (k_unfold; (try dsimp only)) | (k_end; (fail_if_success (with_reducible show LawMid _ _ _ _ _ _ _)); (fail_if_success (with_reducible show PoolMid _ _ _ _ _ _ _ _ _)); (fail_if_success (with_reducible show MixEnd _ _ _ _ _ _ _ _ _ _)); wrow_close) | walk1 | (dsimp only; walk1) | (leave1; walk_say "STEP leave1"; try dsimp only))
      all_goals exact PoolMid.mk (by k_asm) (by k_asm) (Int.fmod_nonneg_of_pos _ (by decide)) (Int.fmod_lt_of_pos _ (by decide)) (by with_reducible assumption)
    · have pool9 := True.intro
      intro so oS h' tk' F' N' hsS lS
      (try dsimp only)
      (try k_sweep)
      iterate 2 (first | (k_unfold; (try dsimp only)) | (k_end; (fail_if_success (with_reducible show LawMid _ _ _ _ _ _ _)); (fail_if_success (with_reducible show PoolMid _ _ _ _ _ _ _ _ _)); (fail_if_success (with_reducible show MixEnd _ _ _ _ _ _ _ _ _ _)); wrow_close) | walk1 | (dsimp only; walk1) | (leave1; walk_say "STEP leave1"; try dsimp only))
      k_dflt (refine' law_rest_use ?LR ?ho ?hcl ?z1 ?z2 ?z3 ?z4 ?z5 ?z0 ?z6 ?z7 ?z8 ?z9 ?za ?zb)
      case LR => exact law_rest
      case z0 => exact hsS
      case ho => k_is
      case hcl => exact rfl
      case z1 => k_asm
      case z2 => k_asm
      case z3 => k_asm
      case z4 => k_asm
      case z5 => k_asm
      case z6 => assumption
      case z7 => assumption
      case z8 => exact lt_two lS
      case z9 => ktr_room
      case za => ktr_units
      case zb =>
        intro h'' tk'' m'' news'' F'' N''
        exact LawMid.mk F'' N''
  · intro h' tk' m' news' F' N'
    (try dsimp only)
    repeat' (first | (k_unfold; (try dsimp only)) | (k_end; (fail_if_success (with_reducible show LawMid _ _ _ _ _ _ _)); (fail_if_success (with_reducible show PoolMid _ _ _ _ _ _ _ _ _)); (fail_if_success (with_reducible show MixEnd _ _ _ _ _ _ _ _ _ _)); wrow_close) | walk1 | (dsimp only; walk1) | (leave1; walk_say "STEP leave1"; try dsimp only)))
end Mine
theorem PySem.Challenge.cw_nu0013_01_holds : PySem.Challenge.rw_nu0013_01.Holds := by
  exact Mine.cw_all
