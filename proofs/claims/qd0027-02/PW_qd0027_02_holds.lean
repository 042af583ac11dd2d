import PyProof.Rows.All
import Wide.All
import OpenK.AllK
import Wide.FinOn
import PySem.Challenge.RW_qd0027_02
open PySem PySem.W PyProof.Rows PySem.Calls PySem.Spec
set_option Elab.async false
set_option maxRecDepth 100000
set_option maxHeartbeats 8000000
set_option pp.deepTerms false
set_option pp.maxSteps 300
set_option compiler.extract_closed false
namespace Mine
section -- Seed
local macro_rules | `(tactic| o_head $_) => `(tactic| exact False.elim (by assumption))
theorem seed : False → PySem.Challenge.rw_qd0027_02.Holds := by
  intro f
  refine holds_law f.elim fun said => ?_
  x_head
noncomputable def vw : Program := view PySem.Challenge.rw_qd0027_02.row.prog [36]
noncomputable def lo : List Str := [Str.ofString "_wall", Str.ofString "FdError", Str.ofString "SpotFault", Str.ofString "KindFault", Str.ofString "INT", Str.ofString "BOOL", Str.ofString "INTS", Str.ofString "BOOLS", Str.ofString "KNOWN", Str.ofString "KNOWNS", Str.ofString "ROWS", Str.ofString "SET", Str.ofString "TEXT", Str.ofString "TEXTS", Str.ofString "SETS", Str.ofString "TRUTHS", Str.ofString "CALLS", Str.ofString "OPEN_CALLS", Str.ofString "kind_text", Str.ofString "fits", Str.ofString "want", Str.ofString "common", Str.ofString "Names", Str.ofString "Kinds", Str.ofString "_law_bases", Str.ofString "_law_letters", Str.ofString "_law_calls", Str.ofString "_law_dip", Str.ofString "_law_may", Str.ofString "_law_due", Str.ofString "_law_is_right", Str.ofString "_law_is_read", Str.ofString "_law_round"]
end
section -- MBase
structure KD where
  b : Str
  v : Bool
  d : Int

noncomputable abbrev Led := List (Addr × Obj)
noncomputable abbrev KF (w : World) : Frag := seed.heap_1 w.params
noncomputable abbrev MM (w : World) : Model := model PySem.Challenge.rw_qd0027_02.row.prog w
noncomputable abbrev TT (mean : ExcName → Option Value) (mg mb : Str → Option Value) (h : Heap) : Prop := Top vw (looseW vw lo) mean mg mb h

noncomputable abbrev tup (vs : List Value) : Obj := { cls := .type "tuple", data := .seq vs.toArray }
noncomputable abbrev lst (vs : List Value) : Obj := { cls := .type "list", data := .seq vs.toArray }

/-- the object a lies in the written part or in the ledger -/
noncomputable def At (K : Frag) (news : Led) (a : Addr) (o : Obj) : Prop := K.lookup a = some o ∨ (a, o) ∈ news
section
variable {K : Frag} {news news' : Led} {a : Addr} {o : Obj} {h₀ h : Heap} {L : Addr} {m : Str → Option Value}
theorem At.get (x : At K news a o) (X : K.In h₀) (F : Fr h₀ L h m) (N : News h₀ L h news) : h.get? a = some o := by
  rcases x with x | x
  · exact F.keep _ _ (X _ _ x)
  · exact (N _ x).1
theorem At.mono (x : At K news a o) (hs : ∀ p ∈ news, p ∈ news') : At K news' a o := x.imp id (hs _)
theorem At.tup {vs : List Value} (x : At K news a (Mine.tup vs)) (X : K.In h₀) (F : Fr h₀ L h m) (N : News h₀ L h news') (hs : ∀ p ∈ news, p ∈ news') : IsTup h a vs.toArray :=
  ⟨_, (x.mono hs).get X F N, rfl, _, rfl⟩
theorem At.lst {vs : List Value} (x : At K news a (Mine.lst vs)) (X : K.In h₀) (F : Fr h₀ L h m) (N : News h₀ L h news') (hs : ∀ p ∈ news, p ∈ news') : h.IsList a vs.toArray :=
  ⟨_, (x.mono hs).get X F N, rfl, _, rfl⟩

noncomputable def KindAt (K : Frag) (news : Led) (a : Addr) (k : KD) : Prop := ∃ t u, At K news a (Mine.tup [.str k.b t, .bool k.v, .int k.d u])
theorem KindAt.mono {k : KD} (x : KindAt K news a k) (hs : ∀ p ∈ news, p ∈ news') : KindAt K news' a k := by
  obtain ⟨t, u, h⟩ := x
  exact ⟨t, u, h.mono hs⟩
end

/-- the frames below, as entries of the ledger -/
inductive FrOK : List Env → Led → Prop
  | nil : FrOK [] []
  | cons {env : Env} {es : List Env} {a : Addr} {o : Obj} {ps : Led} {ds : Array DictEntry} {n : Nat} : env.scope.kind ≠ .module → env.frame = some a → o.data = .dict ds n → FrOK es ps → FrOK (env :: es) ((a, o) :: ps)
inductive SlotEq : Led → Led → Prop
  | nil : SlotEq [] []
  | cons {a : Addr} {o : Obj} {sl : Array (Option Value)} {ps qs : Led} : SlotEq ps qs → SlotEq ((a, o) :: ps) ((a, { o with slots := sl }) :: qs)
noncomputable def Off (frs news : Led) : Prop := ∀ p ∈ news, p.1 ∉ frs.map (·.1)
noncomputable def NFo (o : Obj) : Prop := (o.cls ≠ .ref 88 ∧ o.cls ≠ .type "traceback") ∨ ∀ vs, o.data ≠ .fields vs
noncomputable def NF (news : Led) : Prop := ∀ p ∈ news, NFo p.2
theorem SlotEq.refl (frs : Led) : SlotEq frs frs := by
  induction frs with
  | nil => exact .nil
  | cons p ps ih => exact SlotEq.cons (a := p.1) (o := p.2) (sl := p.2.slots) ih
theorem SlotEq.trans {a b c : Led} (x : SlotEq a b) (y : SlotEq b c) : SlotEq a c := by
  induction x generalizing c with
  | nil => exact y
  | cons _ ih =>
    cases y with
    | cons y => exact SlotEq.cons (ih y)
theorem SlotEq.keys {a b : Led} (x : SlotEq a b) : a.map (·.1) = b.map (·.1) := by
  induction x with
  | nil => rfl
  | cons _ ih => rw [List.map_cons, List.map_cons, ih]
theorem SlotEq.fr {es : List Env} {a b : Led} (x : SlotEq a b) (y : FrOK es a) : FrOK es b := by
  induction x generalizing es with
  | nil => exact y
  | cons _ ih =>
    cases y with
    | cons k1 k2 k3 k4 => exact FrOK.cons k1 k2 k3 (ih k4)
theorem Off.slot {a b news : Led} (x : SlotEq a b) (o : Off a news) : Off b news := fun p hp => by rw [← x.keys]; exact o p hp
theorem Off.of_lt {frs all : Led} {a : Addr} (h : ∀ q ∈ all, q.1 < a) (hs : ∀ q ∈ frs, q ∈ all) : a ∉ frs.map (·.1) := fun hm => by
  obtain ⟨q, hq, e⟩ := List.mem_map.mp hm
  have := h q (hs q hq)
  rw [e] at this
  exact Nat.lt_irrefl _ this
theorem Off.nil (frs : Led) : Off frs [] := fun _ h => nomatch h
theorem Off.cons {frs news : Led} {a : Addr} {o : Obj} (h : a ∉ frs.map (·.1)) (x : Off frs news) : Off frs ((a, o) :: news) := fun p hp => by
  rcases List.mem_cons.mp hp with rfl | hp
  · exact h
  · exact x p hp
theorem NF.nil : NF [] := fun _ h => nomatch h
theorem NF.cons {news : Led} {a : Addr} {o : Obj} (h : NFo o) (x : NF news) : NF ((a, o) :: news) := fun p hp => by
  rcases List.mem_cons.mp hp with rfl | hp
  · exact h
  · exact x p hp
theorem FrOK.fun {base h : Heap} {L : Addr} {es : List Env} {frs all : Led} (x : FrOK es frs) (N : News base L h all) (hs : ∀ q ∈ frs, q ∈ all) : h.FunFrames base es := by
  induction x with
  | nil => trivial
  | cons k1 k2 k3 _ ih => exact ⟨k1, ⟨_, _, k2, (N _ (hs _ (.head _))).2.2, (N _ (hs _ (.head _))).1, fun vs q => by rw [k3] at q; cases q⟩, ih fun q hq => hs q (.tail _ hq)⟩
theorem FrOK.frames {es : List Env} {frs : Led} (x : FrOK es frs) : es.filterMap (·.frame) = frs.map (·.1) := by
  induction x with
  | nil => rfl
  | cons _ k2 _ _ ih => rw [List.filterMap_cons, k2, List.map_cons, ih]

section
variable {base h : Heap} {L : Addr} {p p2 p3 p4 p5 p6 : Addr × Obj} {f n : Led}
theorem sw1 (N : News base L h (p :: (f ++ n))) : News base L h (f ++ (p :: n)) := fun q hq => N q (by simp only [List.mem_append, List.mem_cons] at hq ⊢; rcases hq with h | h | h <;> simp [h])
theorem sw2 (N : News base L h (p :: p2 :: (f ++ n))) : News base L h (f ++ (p :: p2 :: n)) := fun q hq => N q (by simp only [List.mem_append, List.mem_cons] at hq ⊢; rcases hq with h | h | h | h <;> simp [h])
end

/-- back to the caller's frame -/
noncomputable def Back (base : Heap) (L : Addr) (m : Str → Option Value) (frs frs₁ : Led) : Prop :=
  ∀ (frs₂ : Led) (L' : Addr) (m' : Str → Option Value) (h' : Heap) (X : Led), SlotEq frs₁ frs₂ → Fr base L' h' m' → News base L' h' (frs₂ ++ X) → Off frs₁ X → ∃ frs', SlotEq frs frs' ∧ Fr base L h' m ∧ News base L h' (frs' ++ X) ∧ Off frs' X

theorem back_of {base : Heap} {L : Addr} {oL : Obj} {m : Str → Option Value} {frs : Led} {es : Array DictEntry} {ep : Nat} (hd : oL.data = .dict es ep) (hk : StrKeys es) (hf : ∀ name, nsFind es name = m name) (ha : base.objs.size ≤ L)
    (ho : L ∉ frs.map (·.1)) : Back base L m frs ((L, oL) :: frs) := by
  intro frs₂ L' m' h' X se F N off
  cases se with
  | @cons _ _ sl _ frs₂ h3 =>
    have hg := (N _ (List.mem_append_left _ (List.Mem.head _))).1
    refine ⟨frs₂, h3, ⟨⟨_, es, ep, hg, hd, hk, hf⟩, F.keep, ha⟩, fun q hq => ?_, fun q hq hm => ?_⟩
    · have nq := N q (by rcases List.mem_append.mp hq with x | x; exact List.mem_append_left _ (.tail _ x); exact List.mem_append_right _ x)
      refine ⟨nq.1, fun e => ?_, nq.2.2⟩
      rcases List.mem_append.mp hq with x | x
      · exact ho (h3.keys ▸ (e ▸ List.mem_map_of_mem x))
      · exact off q x (by rw [e]; exact List.Mem.head _)
    · exact off q hq (by rw [← h3.keys] at hm; exact List.Mem.tail _ hm)

section
variable {prog : Program} {w : World} {A : Around} {K : Frag}
theorem enter {R : Result → Shared → Prop} {name qual : Str} {params : Arguments} {body : List Stmt} {scope : Scope} {dV kV doc pm cdv ct oc : Value} {an od : Option Addr} {osl : Array (Option Value)} {f : Addr} {args : Args} {binds : List (Str × Value)}
    {base : Heap} {L : Addr} {m : Str → Option Value} {frs news : Led} {env : Env} {outer : List Env} {s : Shared} {p : Program} {loose : List Str} {mean : ExcName → Option Value} {mg mb : Str → Option Value}
    (F : Fr base L s.heap m) (X : K.In base) (T : Top p loose mean mg mb base) (N : News base L s.heap (frs ++ news)) (O : FrOK outer frs) (Of : Off frs news)
    (_hA : A.frames = some (env :: outer)) (hf : env.frame = some L) (hke : env.scope.kind = .function)
    (ho : K.lookup f = some ⟨oc, od, .func (fnOf name qual params body scope dV kV doc pm an cdv ct), osl⟩) (hcd : codeIn K cdv qual = true) (hroom : A.depth < recursionLimit)
    (hbind : BindsTo s (fnOf name qual params body scope dV kV doc pm an cdv ct) args binds) (hloc : ∀ y ∈ binds, scope.names.lookup y.1 = some .local)
    (h : ∀ L' h₁ frs₁, FrOK (env :: outer) frs₁ → Off frs₁ news → Back base L m frs frs₁ → Fr base L' h₁ (fun y => binds.reverse.lookup y) → News base L' h₁ (frs₁ ++ news) → (∀ p ∈ frs₁ ++ news, p.1 < L') →
      wpAny (model prog w) (A.deeper (envOf qual scope L' f cdv)) (execs body (envOf qual scope L' f cdv))
        (fun fl s' => R (.ok (.ret (match fl with | .ret v => v | _ => .none))) s')
        (fun e s' => wpAny (model prog w) (A.deeper (envOf qual scope L' f cdv)) (leaving (envOf qual scope L' f cdv) e) (fun _ s'' => R (.error e) s'') (fun e' s'' => R (.error e') s'') s')
        { s with heap := h₁, toks := s.toks + binds.length })
    (hco : scope.isCoroutine = false) (hgen : scope.isGenerator = false) (hk : scope.kind = .function)
    (hcell : ∀ x ∈ scope.names, x.2 ≠ .cell) : codeAny (model prog w) A (.call (.ref f) args) R s := by
  refine codeAny_call_def (fd := fnOf name qual params body scope dV kV doc pm an cdv ct) (body := body) (binds := binds) hroom (F.keep _ _ (X _ _ ho)) rfl (T.nolimit.keeps F.keep) (codeRec_of (X.keeps F.keep) hcd) rfl hbind hcell hloc (fun h₁ hns hk₁ => ?_) hco hgen hk
  obtain ⟨oL, es, ep, hL, hLd, hLk, hLf⟩ := F.ns
  have hbL : base.get? L = none := by
    cases q : base.get? L with
    | none => rfl
    | some o => exact absurd (Nat.lt_of_lt_of_le (Heap.lt_size q) F.above) (Nat.lt_irrefl _)
  have hLo : L ∉ frs.map (·.1) := fun hm => by
    obtain ⟨q, hq, e⟩ := List.mem_map.mp hm
    exact (N q (List.mem_append_left _ hq)).2.1 e
  have lt : ∀ q ∈ ((L, oL) :: frs) ++ news, q.1 < s.heap.objs.size := fun q hq => by
    rcases List.mem_cons.mp hq with rfl | hq
    · exact Heap.lt_size hL
    · exact Heap.lt_size (N q hq).1
  refine h s.heap.objs.size h₁ ((L, oL) :: frs) (FrOK.cons (by rw [hke]; decide) hf hLd O) (fun q hq hm => ?_) (back_of hLd hLk hLf F.above hLo) ⟨hns, fun b o e => hk₁ b o (F.keep b o e), Nat.le_of_lt (Nat.lt_of_le_of_lt F.above (Heap.lt_size hL))⟩ (fun q hq => ?_) lt
  · rcases List.mem_cons.mp hm with e | hm
    · exact (N q (List.mem_append_right _ hq)).2.1 e
    · exact Of q hq hm
  · rcases List.mem_cons.mp hq with rfl | hq'
    · exact ⟨hk₁ _ _ hL, Nat.ne_of_lt (Heap.lt_size hL), hbL⟩
    · exact ⟨hk₁ _ _ (N q hq').1, Nat.ne_of_lt (Heap.lt_size (N q hq').1), (N q hq').2.2⟩
end

/-- an exception in flight -/
noncomputable def ExcIs (h : Heap) (e dx : Addr) (c t : Value) : Prop := ∃ vs sl, h.get? e = some ⟨c, some dx, .fields vs, sl⟩ ∧ vs[1]? = some t
noncomputable def TbIs (h : Heap) (T : Addr) (fl : Value) : Prop := ∃ oT ts, h.get? T = some oT ∧ oT.cls = .type "traceback" ∧ oT.data = .fields ts ∧ ts[3]? = some fl
noncomputable def FlyAt (base : Heap) (e dx : Addr) (fl : Value) (h : Heap) : Prop := base.get? e = none ∧ ∃ T, ExcIs h e dx (.ref 88) (.ref T) ∧ TbIs h T fl ∧ T ≠ e ∧ base.get? T = none
noncomputable abbrev Fly (base : Heap) (e dx : Addr) (h : Heap) : Prop := FlyAt base e dx .none h

/-- a contract of a def: f called upon vs; 'news' the ledger but the frames -/
noncomputable def Cn (w : World) (mean : ExcName → Option Value) (mg mb : Str → Option Value) (f : Addr) (vs : List Value) (news : Led) (dd uu : Nat) (Rt : Value → Led → Prop) (Ex : Addr → Led → Prop) : Prop :=
  ∀ (dp un : Nat) (gd : Option (List Code)) (cn : Str) (cs : Scope) (a : Addr) (ccd : Value) (cl : List (Str × Addr)) (outer : List Env) (base : Heap) (L : Addr) (m : Str → Option Value) (frs : Led) (s : Shared) (Q E : Value → Shared → Prop),
    Fr base L s.heap m → (seed.heap_1 w.params).In base → Top vw (looseW vw lo) mean mg mb base → News base L s.heap (frs ++ news) → FrOK outer frs → Off frs news → NF news → cs.kind = .function → dp + dd < recursionLimit → un + uu < cLine →
    (∀ r frs' tl h' tk', Rt r tl → SlotEq frs frs' → Fr base L h' m → News base L h' (frs' ++ tl) → Off frs' tl → NF tl → Q r { s with heap := h', toks := tk' }) →
    (∀ e dx frs' tl h' tk', Ex dx tl → Fly base e dx h' → SlotEq frs frs' → Fr base L h' m → News base L h' (frs' ++ tl) → Off frs' tl → NF tl → E (.ref e) { s with heap := h', toks := tk' }) →
    wpAny (model PySem.Challenge.rw_qd0027_02.row.prog w) (ktrTop dp un gd cn cs L a ccd cl outer) (call (.ref f) vs) Q E s

theorem Back.slot {base : Heap} {L : Addr} {m : Str → Option Value} {frs frs₁ frs₂ : Led} (b : Back base L m frs frs₁) (se : SlotEq frs₁ frs₂) : Back base L m frs frs₂ :=
  fun frs₃ L' m' h' X s3 F N o => b frs₃ L' m' h' X (se.trans s3) F N fun p hp => by rw [se.keys]; exact o p hp
theorem Cn.use {w : World} {mean : ExcName → Option Value} {mg mb : Str → Option Value} {f : Addr} {vs : List Value} {news : Led} {dd uu : Nat} {Rt : Value → Led → Prop} {Ex : Addr → Led → Prop} {dp un : Nat} {gd : Option (List Code)} {cn : Str} {cs : Scope} {a : Addr} {ccd : Value} {cl : List (Str × Addr)} {outer : List Env} {base : Heap} {L L₀ : Addr} {m m₀ : Str → Option Value} {frs frs₀ : Led} {s : Shared} {Q E : Value → Shared → Prop}
    (C : Cn w mean mg mb f vs news dd uu Rt Ex) (F : Fr base L s.heap m) (X : (seed.heap_1 w.params).In base) (T : Top vw (looseW vw lo) mean mg mb base) (N : News base L s.heap (frs ++ news)) (O : FrOK outer frs) (Of : Off frs news) (nf : NF news) (bk : Back base L₀ m₀ frs₀ frs) (hk : cs.kind = .function) (hd : dp + dd < recursionLimit) (hu : un + uu < cLine)
    (ret : ∀ r frs' tl h' tk', Rt r tl → SlotEq frs frs' → FrOK outer frs' → Off frs' tl → NF tl → Back base L₀ m₀ frs₀ frs' → Fr base L h' m → News base L h' (frs' ++ tl) → Q r { s with heap := h', toks := tk' })
    (exc : ∀ e dx frs' tl h' tk', Ex dx tl → Fly base e dx h' → SlotEq frs frs' → FrOK outer frs' → Off frs' tl → NF tl → Back base L₀ m₀ frs₀ frs' → Fr base L h' m → News base L h' (frs' ++ tl) → E (.ref e) { s with heap := h', toks := tk' }) :
    wpAny (model PySem.Challenge.rw_qd0027_02.row.prog w) (ktrTop dp un gd cn cs L a ccd cl outer) (call (.ref f) vs) Q E s :=
  C dp un gd cn cs a ccd cl outer base L m frs s Q E F X T N O Of nf hk hd hu (fun r frs' tl h' tk' hR se F' N' o' n' => ret r frs' tl h' tk' hR se (se.fr O) o' n' (bk.slot se) F' N') fun e dx frs' tl h' tk' hE fl se F' N' o' n' => exc e dx frs' tl h' tk' hE fl se (se.fr O) o' n' (bk.slot se) F' N'

theorem fin_ {base h' : Heap} {L L' : Addr} {m m' : Str → Option Value} {frs frs₁ frs₂ all : Led} {s : Shared} {tk : Nat} {Q : Value → Shared → Prop} {Rt : Value → Led → Prop} {r : Value}
    (hret : ∀ r frs' tl h' tk', Rt r tl → SlotEq frs frs' → Fr base L h' m → News base L h' (frs' ++ tl) → Off frs' tl → NF tl → Q r { s with heap := h', toks := tk' })
    (bk : Back base L m frs frs₁) (se : SlotEq frs₁ frs₂) (F : Fr base L' h' m') (N : News base L' h' all) (X : Led) (hs : ∀ p ∈ frs₂ ++ X, p ∈ all) (off : Off frs₁ X) (nf : NF X) (hR : Rt r X) :
    Q r { s with heap := h', toks := tk } := by
  obtain ⟨frs', h1, h2, h3, h4⟩ := bk frs₂ L' m' h' X se F (fun p hp => N p (hs p hp)) off
  exact hret r frs' X h' tk hR h1 h2 h3 h4 nf

structure LenLe (s : Str) (n : Nat) : Prop where
  le : s.length ≤ n
structure Digit (k : Int) : Prop where
  lo : 0 ≤ k
  hi : k ≤ 99
theorem len_hyp {s : Str} {n : Nat} (h : LenLe s n) : s.length ≤ n := h.le
theorem len_app {a b : Str} {n m : Nat} (ha : a.length ≤ n) (hb : b.length ≤ m) : (a ++ b).length ≤ n + m := by
  rw [PySem.Str.length_append]; exact Nat.add_le_add ha hb
theorem fmt_int {prog : Program} {w : World} {A : Around} {E : Value → Shared → Prop} {s : Shared} {a : Int} {t : Tok} {Q : Value → Shared → Prop} (hk : Digit a)
    (h : ∀ tk t', Q (.str (Str.ofString (toString a)) t') { s with toks := tk }) : wpAny (model prog w) A (formatField (.int a t) Str.empty) Q E s := by
  refine wpAny_formatField_int ?_ (h _ _)
  have h0 := hk.lo
  have h9 := hk.hi
  have : a.natAbs < 2 ^ 1920 := Nat.lt_of_le_of_lt (show a.natAbs ≤ 99 by omega) (by decide +kernel)
  by_cases e : a.natAbs = 0
  · rw [e]; decide +kernel
  · exact (Nat.log2_lt e).2 this
theorem add_any {prog : Program} {w : World} {A : Around} {E : Value → Shared → Prop} {s : Shared} {x y : Str} {t u : Tok} {n m : Nat} {Q : Value → Shared → Prop} (ha : x.length ≤ n) (hb : y.length ≤ m) (hs : n + m ≤ 16777216)
    (h : ∀ z t' k, LenLe z (n + m) → Q (.str z t') { s with toks := k }) : wpAny (model prog w) A (binaryOp .Add (.str x t) (.str y u)) Q E s :=
  KXadd.add ha hb hs fun t' k hl => h _ t' k ⟨Nat.le_trans hl.2 (Nat.add_le_add ha hb)⟩
theorem len_le {s : Str} {n m : Nat} (h : s.length ≤ n) (hn : n ≤ m) : LenLe s m := ⟨Nat.le_trans h hn⟩
theorem len_str (x : String) : (Str.ofString x).length ≤ (Str.ofString x).length := Nat.le_refl _
theorem len_empty : Str.empty.length ≤ 0 := by decide
theorem len_int {k : Int} (h : Digit k) : (Str.ofString (toString k)).length ≤ 3 := by
  have h0 := h.lo
  have h9 := h.hi
  rw [PySem.ofString_length]
  exact PySem.int_text_length_le10 (k := 2) (by decide) (by omega)
theorem sz_of {a : Str} {n : Nat} (h : a.length ≤ n) (hn : n ≤ sizeLine) : a.length ≤ sizeLine := Nat.le_trans h hn

theorem reg : (seed.heap_1, PySem.Challenge.rw_qd0027_02) = (seed.heap_1, PySem.Challenge.rw_qd0027_02) := by
  k_fill
  rfl

theorem cut_news {base h : Heap} {L : Addr} {all all' : Led} (N : News base L h all) (hs : ∀ p ∈ all', p ∈ all) : News base L h all' := fun p hp => N p (hs p hp)
/-- a list of objects within another one -/
theorem sb_nil {B : Led} : ∀ p ∈ ([] : Led), p ∈ B := fun _ h => nomatch h
theorem sb_cons {x : Addr × Obj} {A B : Led} (h : x ∈ B) (t : ∀ p ∈ A, p ∈ B) : ∀ p ∈ x :: A, p ∈ B := fun p hp => by
  rcases List.mem_cons.mp hp with rfl | hp
  · exact h
  · exact t p hp
theorem sb_app {A A' B : Led} (h : ∀ p ∈ A, p ∈ B) (t : ∀ p ∈ A', p ∈ B) : ∀ p ∈ A ++ A', p ∈ B := fun p hp => (List.mem_append.mp hp).elim (h p) (t p)
theorem sb_self {A : Led} : ∀ p ∈ A, p ∈ A := fun _ h => h
theorem sb_tl {x : Addr × Obj} {A B : Led} (h : ∀ p ∈ A, p ∈ B) : ∀ p ∈ A, p ∈ x :: B := fun p hp => .tail _ (h p hp)
theorem sb_l {A B C : Led} (h : ∀ p ∈ A, p ∈ B) : ∀ p ∈ A, p ∈ B ++ C := fun p hp => List.mem_append_left _ (h p hp)
theorem sb_r {A B C : Led} (h : ∀ p ∈ A, p ∈ C) : ∀ p ∈ A, p ∈ B ++ C := fun p hp => List.mem_append_right _ (h p hp)
theorem me_hd {x : Addr × Obj} {B : Led} : x ∈ x :: B := .head _
theorem me_tl {x y : Addr × Obj} {B : Led} (h : x ∈ B) : x ∈ y :: B := .tail _ h
theorem me_l {x : Addr × Obj} {B C : Led} (h : x ∈ B) : x ∈ B ++ C := List.mem_append_left _ h
theorem me_r {x : Addr × Obj} {B C : Led} (h : x ∈ C) : x ∈ B ++ C := List.mem_append_right _ h
theorem me_eq {x q : Addr × Obj} {B : Led} (h : q = x) (m : x ∈ B) : q ∈ B := h ▸ m
theorem gen_wp {α : Type} {M : Model} {A : Around} {t : Sem α} {Q : α → Shared → Prop} {E : Value → Shared → Prop} {s : Shared} (h : ∀ Q', Q = Q' → wpAny M A t Q' E s) : wpAny M A t Q E s := h Q rfl
theorem gen_wpE {α : Type} {M : Model} {A : Around} {t : Sem α} {Q : α → Shared → Prop} {E : Value → Shared → Prop} {s : Shared} (h : ∀ E', E = E' → wpAny M A t Q E' s) : wpAny M A t Q E s := h E rfl
theorem Off.consOf {f X A : Led} {p : Addr × Obj} (o : Off f X) (h : p ∈ X) (t : Off f A) : Off f (p :: A) := Off.cons (a := p.1) (o := p.2) (o p h) t
theorem Off.app {f A B : Led} (a : Off f A) (b : Off f B) : Off f (A ++ B) := fun p hp => (List.mem_append.mp hp).elim (a p) (b p)
theorem NF.consOf {X A : Led} {p : Addr × Obj} (n : NF X) (h : p ∈ X) (t : NF A) : NF (p :: A) := NF.cons (a := p.1) (o := p.2) (n p h) t
theorem NF.app {A B : Led} (a : NF A) (b : NF B) : NF (A ++ B) := fun p hp => (List.mem_append.mp hp).elim (a p) (b p)
/-- several quantifiers, or several facts, opened at once: the goal is named once -/
theorem ex2 {α1 α2 : Type} {p : α1 → α2 → Prop} {G : Prop} (h : ∃ a1 a2, p a1 a2) (k : ∀ a1 a2, p a1 a2 → G) : G := by
  obtain ⟨a1, a2, h⟩ := h
  exact k a1 a2 h
theorem ex3 {α1 α2 α3 : Type} {p : α1 → α2 → α3 → Prop} {G : Prop} (h : ∃ a1 a2 a3, p a1 a2 a3) (k : ∀ a1 a2 a3, p a1 a2 a3 → G) : G := by
  obtain ⟨a1, a2, a3, h⟩ := h
  exact k a1 a2 a3 h
theorem ex4 {α1 α2 α3 α4 : Type} {p : α1 → α2 → α3 → α4 → Prop} {G : Prop} (h : ∃ a1 a2 a3 a4, p a1 a2 a3 a4) (k : ∀ a1 a2 a3 a4, p a1 a2 a3 a4 → G) : G := by
  obtain ⟨a1, a2, a3, a4, h⟩ := h
  exact k a1 a2 a3 a4 h
theorem ex5 {α1 α2 α3 α4 α5 : Type} {p : α1 → α2 → α3 → α4 → α5 → Prop} {G : Prop} (h : ∃ a1 a2 a3 a4 a5, p a1 a2 a3 a4 a5) (k : ∀ a1 a2 a3 a4 a5, p a1 a2 a3 a4 a5 → G) : G := by
  obtain ⟨a1, a2, a3, a4, a5, h⟩ := h
  exact k a1 a2 a3 a4 a5 h
theorem ex7 {α1 α2 α3 α4 α5 α6 α7 : Type} {p : α1 → α2 → α3 → α4 → α5 → α6 → α7 → Prop} {G : Prop} (h : ∃ a1 a2 a3 a4 a5 a6 a7, p a1 a2 a3 a4 a5 a6 a7) (k : ∀ a1 a2 a3 a4 a5 a6 a7, p a1 a2 a3 a4 a5 a6 a7 → G) : G := by
  obtain ⟨a1, a2, a3, a4, a5, a6, a7, h⟩ := h
  exact k a1 a2 a3 a4 a5 a6 a7 h
theorem and2 {A1 A2 G : Prop} (h : A1 ∧ A2) (k : A1 → A2 → G) : G := by
  obtain ⟨h1, h2⟩ := h
  exact k h1 h2
theorem and3 {A1 A2 A3 G : Prop} (h : A1 ∧ A2 ∧ A3) (k : A1 → A2 → A3 → G) : G := by
  obtain ⟨h1, h2, h3⟩ := h
  exact k h1 h2 h3
theorem and4 {A1 A2 A3 A4 G : Prop} (h : A1 ∧ A2 ∧ A3 ∧ A4) (k : A1 → A2 → A3 → A4 → G) : G := by
  obtain ⟨h1, h2, h3, h4⟩ := h
  exact k h1 h2 h3 h4
theorem and5 {A1 A2 A3 A4 A5 G : Prop} (h : A1 ∧ A2 ∧ A3 ∧ A4 ∧ A5) (k : A1 → A2 → A3 → A4 → A5 → G) : G := by
  obtain ⟨h1, h2, h3, h4, h5⟩ := h
  exact k h1 h2 h3 h4 h5
theorem and7 {A1 A2 A3 A4 A5 A6 A7 G : Prop} (h : A1 ∧ A2 ∧ A3 ∧ A4 ∧ A5 ∧ A6 ∧ A7) (k : A1 → A2 → A3 → A4 → A5 → A6 → A7 → G) : G := by
  obtain ⟨h1, h2, h3, h4, h5, h6, h7⟩ := h
  exact k h1 h2 h3 h4 h5 h6 h7
theorem and9 {A1 A2 A3 A4 A5 A6 A7 A8 A9 G : Prop} (h : A1 ∧ A2 ∧ A3 ∧ A4 ∧ A5 ∧ A6 ∧ A7 ∧ A8 ∧ A9) (k : A1 → A2 → A3 → A4 → A5 → A6 → A7 → A8 → A9 → G) : G := by
  obtain ⟨h1, h2, h3, h4, h5, h6, h7, h8, h9⟩ := h
  exact k h1 h2 h3 h4 h5 h6 h7 h8 h9
theorem lt6 : ∀ {a : Nat}, a < 6 → a = 0 ∨ a = 1 ∨ a = 2 ∨ a = 3 ∨ a = 4 ∨ a = 5
  | 0, _ => .inl rfl
  | 1, _ => .inr (.inl rfl)
  | 2, _ => .inr (.inr (.inl rfl))
  | 3, _ => .inr (.inr (.inr (.inl rfl)))
  | 4, _ => .inr (.inr (.inr (.inr (.inl rfl))))
  | 5, _ => .inr (.inr (.inr (.inr (.inr rfl))))
  | n + 6, h => absurd h (Nat.not_lt.mpr (Nat.le_add_left 6 n))
theorem room1 {u a c N : Nat} (h : u + c < N) (ha : a ≤ c) : u + a < N := Nat.lt_of_le_of_lt (Nat.add_le_add_left ha u) h
theorem room2 {u a b c N : Nat} (h : u + c < N) (hab : a + b ≤ c) : u + a + b < N := by
  rw [Nat.add_assoc]; exact room1 h hab
theorem le_of {a b c d : Nat} (e : a = b) (h : b ≤ c) (hc : c ≤ d) : a ≤ d := e ▸ Nat.le_trans h hc
theorem kx_hd {a : Addr} {o : Obj} {X : Led} : a ∈ ((a, o) :: X).map (·.1) := .head _
theorem kx_tl {a : Addr} {p : Addr × Obj} {X : Led} (h : a ∈ X.map (·.1)) : a ∈ (p :: X).map (·.1) := .tail _ h
theorem kx_l {a : Addr} {A B : Led} (h : a ∈ A.map (·.1)) : a ∈ (A ++ B).map (·.1) := by rw [List.map_append]; exact List.mem_append_left _ h
theorem kx_r {a : Addr} {A B : Led} (h : a ∈ B.map (·.1)) : a ∈ (A ++ B).map (·.1) := by rw [List.map_append]; exact List.mem_append_right _ h
theorem ks_nil {X : Led} : ∀ q ∈ ([] : Led), q.1 ∈ X.map (·.1) := fun _ h => nomatch h
theorem ks_cons {a : Addr} {o : Obj} {A X : Led} (h : a ∈ X.map (·.1)) (t : ∀ q ∈ A, q.1 ∈ X.map (·.1)) : ∀ q ∈ (a, o) :: A, q.1 ∈ X.map (·.1) := fun q hq => by
  rcases List.mem_cons.mp hq with rfl | hq
  · exact h
  · exact t q hq
theorem ks_app {A B X : Led} (h : ∀ q ∈ A, q.1 ∈ X.map (·.1)) (t : ∀ q ∈ B, q.1 ∈ X.map (·.1)) : ∀ q ∈ A ++ B, q.1 ∈ X.map (·.1) := fun q hq => (List.mem_append.mp hq).elim (h q) (t q)
theorem ks_sub {A X : Led} (h : ∀ q ∈ A, q ∈ X) : ∀ q ∈ A, q.1 ∈ X.map (·.1) := fun q hq => List.mem_map_of_mem (f := Prod.fst) (h q hq)
theorem ks_inl {A X own : Led} (h : ∀ q ∈ A, q.1 ∈ X.map (·.1)) : ∀ q ∈ A, q.1 ∈ X.map (·.1) ∨ q.1 ∉ own.map (·.1) := fun q hq => .inl (h q hq)
theorem en_cons {a : Addr} {o : Obj} {A X own : Led} (h : a ∈ X.map (·.1)) (t : ∀ q ∈ A, q.1 ∈ X.map (·.1) ∨ q.1 ∉ own.map (·.1)) : ∀ q ∈ (a, o) :: A, q.1 ∈ X.map (·.1) ∨ q.1 ∉ own.map (·.1) := fun q hq => by
  rcases List.mem_cons.mp hq with rfl | hq
  · exact .inl h
  · exact t q hq
theorem en_app {A B X own : Led} (h : ∀ q ∈ A, q.1 ∈ X.map (·.1) ∨ q.1 ∉ own.map (·.1)) (t : ∀ q ∈ B, q.1 ∈ X.map (·.1) ∨ q.1 ∉ own.map (·.1)) : ∀ q ∈ A ++ B, q.1 ∈ X.map (·.1) ∨ q.1 ∉ own.map (·.1) := fun q hq => (List.mem_append.mp hq).elim (h q) (t q)
end
section -- MLi
noncomputable abbrev liO (vs : List Value) (c : Nat) : Obj := ⟨.type "list", none, .seq vs.toArray c, #[]⟩
end
section -- MSetD
noncomputable def setObj2 (es : Array (Int × Value)) (ep : Nat) (pl : Array Nat) (led : Bool) : Obj := ⟨.type "set", none, .set es ep ⟨7, pl, #[], 0, led, 0, true⟩, #[]⟩
/-- a set of at most two small ints, as its table lies -/
inductive Set2 (w : World) (a b : Nat) : Obj → Prop
  | one (c : Nat) (h : Int) (u : Tok) (ep : Nat) : (c = a ∨ c = b) → Set2 w a b (setObj2 #[(h, .int c u)] ep #[c] (!w.params.followText "set-order"))
  | two (c d : Nat) (h1 h2 : Int) (u v : Tok) (ep : Nat) : (c = a ∨ c = b) → (d = a ∨ d = b) → c < d → Set2 w a b (setObj2 #[(h1, .int c u), (h2, .int d v)] ep #[c, d] (!w.params.followText "set-order"))
end
section -- MSetI
namespace SetF
theorem owner_it : Manifest.owners.lookup (String.ofList ['r', 'o', 't', 'a', 'r', 'e', 't', 'i', '_', 't', 'e', 's'].reverse) = some Manifest.sig_set_iterator := by kernel_rfl
theorem slot_next : Slot "set_iterator" "__next__" "set_iterator.__next__" :=
  .of (owner := "set_iterator") (n := "__next__") (by rw [typeLookup_type, builtinLookup_eq_fast]; kernel_rfl) (by decide +kernel) (by decide +kernel) (by decide +kernel)
    (by first | exact .inl (by decide +kernel) | exact .inr (by decide +kernel)) (by rw [isSubtype_type]; kernel_rfl)
theorem entry_next : entryFor table "set_iterator.__next__" = some Builtin.«set_iterator.__next__» := entryFor_of_tree (by kernel_rfl)
theorem args_next (a : Value) : argsOk "set_iterator.__next__" ⟨[a], []⟩ := by
  unfold argsOk; rw [signature?_of (id := "set_iterator.__next__") (n := ['_', '_', 't', 'x', 'e', 'n', '_', '_']) (o := ['r', 'o', 't', 'a', 'r', 'e', 't', 'i', '_', 't', 'e', 's']) (by kernel_rfl) owner_it]; kernel_rfl
theorem slot_iter : Slot "set_iterator" "__iter__" "set_iterator.__iter__" :=
  .of (owner := "set_iterator") (n := "__iter__") (by rw [typeLookup_type, builtinLookup_eq_fast]; kernel_rfl) (by decide +kernel) (by decide +kernel) (by decide +kernel)
    (by first | exact .inl (by decide +kernel) | exact .inr (by decide +kernel)) (by rw [isSubtype_type]; kernel_rfl)
theorem entry_iter : entryFor table "set_iterator.__iter__" = some Builtin.«dict_keyiterator.__iter__» :=
  entryFor_alias (id' := "dict_keyiterator.__iter__") (by kernel_rfl) (by first | rfl | decide +kernel) (by decide +kernel) (by kernel_rfl)
theorem args_iter (a : Value) : argsOk "set_iterator.__iter__" ⟨[a], []⟩ := by
  unfold argsOk; rw [signature?_of (id := "set_iterator.__iter__") (n := ['_', '_', 'r', 'e', 't', 'i', '_', '_']) (o := ['r', 'o', 't', 'a', 'r', 'e', 't', 'i', '_', 't', 'e', 's']) (by kernel_rfl) owner_it]; kernel_rfl
theorem entry_set_iter : entryFor table "set.__iter__" = some Builtin.«frozenset.__iter__» :=
  entryFor_alias (id' := "frozenset.__iter__") (by kernel_rfl) rfl (by decide +kernel) (by kernel_rfl)
theorem no_len : typeLookup (.type "set_iterator") "__len__" = pure none := by rw [typeLookup_type, builtinLookup_eq_fast]; kernel_rfl
theorem hint : typeLookup (.type "set_iterator") "__length_hint__" = pure (some (.builtin "set_iterator.__length_hint__")) := by rw [typeLookup_type, builtinLookup_eq_fast]; kernel_rfl
end SetF
end
section -- MSetW
section
variable {prog : Program} {w : World} {A : Around} {E : Value → Shared → Prop} {s : Shared}
noncomputable def nextOf (w : World) (S : Addr) (es : Array (Int × Value)) (ep : Nat) (pl : Array Nat) (slot i : Nat) : Option (Value × Nat) :=
  if w.params.followText "set-order" then ((pickOrder (w.params.setOrder S ep) es)[i]?).map fun e => (e.2, slot)
  else match es[SetTable.below pl slot]?, pl[SetTable.below pl slot]? with
    | some (_, x), some j => some (x, j + 1)
    | _, _ => none
theorem set_next {S : Addr} {es : Array (Int × Value)} {ep : Nat} {pl : Array Nat} {slot i : Nat} {Q : Option (Value × Nat) → Shared → Prop} (hS : s.heap.get? S = some (setObj2 es ep pl (!w.params.followText "set-order"))) (hf : pl.size = es.size) (h7 : es.size ≤ 7)
    (h : Q (nextOf w S es ep pl slot i) s) : wpAny (model prog w) A (setNext S slot i ep) Q E s := by
  have hfit : (⟨7, pl, #[], 0, !w.params.followText "set-order", 0, true⟩ : SetTable).fits es.size = true := by
    simp only [SetTable.fits, SetTable.fill, Bool.and_eq_true, beq_iff_eq, decide_eq_true_eq]
    exact ⟨hf, by simp [hf]; omega⟩
  unfold setNext
  refine wpAny_bind (wpAny_setState_of hS rfl hfit ?_)
  dsimp only
  unfold setsByText
  refine wpAny_bind (wpAny_bind (wpAny_askSetting (wpAny_pure ?_)))
  unfold nextOf at h
  show wpAny _ _ (if w.params.followText "set-order" = true then _ else _) _ _ _
  cases hb : w.params.followText "set-order"
  · rw [hb] at h
    simp only [Bool.false_eq_true, if_false] at h ⊢
    split
    · rename_i hd
      exact absurd (show false = true from hd) Bool.false_ne_true
    · exact wpAny_bind (show wpAny _ _ (pure ()) _ _ _ from wpAny_pure (wpAny_pure h))
  · rw [hb] at h hS hfit
    simp only [if_true] at h ⊢
    rw [if_neg (by simp)]
    refine wpAny_bind ?_
    unfold setWalk
    refine wpAny_bind (wpAny_setState_of hS rfl hfit ?_)
    dsimp only
    unfold setsByText
    refine wpAny_bind (wpAny_bind (wpAny_askSetting (wpAny_pure ?_)))
    show wpAny _ _ (if w.params.followText "set-order" = true then _ else _) _ _ _
    rw [if_pos hb]
    exact wpAny_bind (wpAny_askSetting (wpAny_pure (wpAny_pure h)))
noncomputable def IsSetIt (h : Heap) (it S : Addr) (slot i n ep : Nat) : Prop := ∃ o, h.get? it = some o ∧ o.cls = .type "set_iterator" ∧ o.data = .fields #[.int slot 0, .int i 0, .ref S, .int n 0, .int ep 0]
theorem IsSetIt.typeIs {s : Shared} {it S : Addr} {slot i n ep : Nat} (x : IsSetIt s.heap it S slot i n ep) : s.TypeIs (.ref it) "set_iterator" := let ⟨o, ho, hc, _⟩ := x; ⟨o, ho, hc⟩
theorem set_entries {S : Addr} {es : Array (Int × Value)} {ep : Nat} {pl : Array Nat} {led : Bool} {Q : Array (Int × Value) → Shared → Prop} (hS : s.heap.get? S = some (setObj2 es ep pl led)) (hf : pl.size = es.size) (h7 : es.size ≤ 7) (h : Q es s) : wpAny (model prog w) A (setEntries S) Q E s := by
  have hfit : (⟨7, pl, #[], 0, led, 0, true⟩ : SetTable).fits es.size = true := by
    simp only [SetTable.fits, SetTable.fill, Bool.and_eq_true, beq_iff_eq]
    exact ⟨hf, by simp [hf]; omega⟩
  unfold setEntries
  exact wpAny_bind (wpAny_setState_of hS rfl hfit (wpAny_pure h))
theorem next_item {it S : Addr} {slot slot' i ep : Nat} {es : Array (Int × Value)} {pl : Array Nat} {x : Value} {Q : Option Value → Shared → Prop} (hit : IsSetIt s.heap it S slot i es.size ep) (hS : s.heap.get? S = some (setObj2 es ep pl (!w.params.followText "set-order"))) (hf : pl.size = es.size) (h7 : es.size ≤ 7)
    (hx : nextOf w S es ep pl slot i = some (x, slot')) (hQ : ∀ h', IsSetIt h' it S slot' (i + 1) es.size ep → Heap.SameBut it s.heap h' → Q (some x) { s with heap := h' }) :
    wpAny (model prog w) A (pyNext (.ref it)) Q E s := by
  obtain ⟨o, ho, hc, hd⟩ := id hit
  unfold pyNext
  refine wpAny_bind (wpAny_attempt (wpAny_callSpecial?_slot (name := Str.ofString "__next__") hit.typeIs SetF.slot_next
    (wpAny_call_entry SetF.slot_next hit.typeIs SetF.entry_next ?_ (SetF.args_next _))))
  show wpAny _ _ (fieldsOf (.ref it) >>= _) _ _ s
  refine wpAny_bind (wpAny_fieldsOf ho hd ?_)
  dsimp only
  refine wpAny_bind (set_entries hS hf h7 ?_)
  rw [if_neg (by simp)]
  refine wpAny_bind (set_next (by simpa using hS) hf h7 ?_)
  simp only [Int.toNat_natCast, hx]
  refine wpAny_bind (wpAny_setField ho hd (by simp) ?_)
  have ho2 := Heap.get?_update_self (Obj.mapFields fun x => x.setIfInBounds 0 (rawInt (slot' : Int))) ho (Obj.isFreed_of_fields (Obj.data_mapFields hd _))
  have hd2 := Obj.data_mapFields hd (fun x => x.setIfInBounds 0 (rawInt (slot' : Int)))
  refine wpAny_bind (wpAny_setField ho2 hd2 (by simp) (wpAny_pure ⟨x, rfl, wpAny_pure (hQ _ ?_ ((Heap.SameBut.update ..).trans (Heap.SameBut.update ..)))⟩))
  exact ⟨_, Heap.get?_update_self _ ho2 (Obj.isFreed_of_fields (Obj.data_mapFields hd2 _)), (Obj.cls_mapFields ..).trans ((Obj.cls_mapFields ..).trans hc), by
    rw [Obj.data_mapFields hd2]; simp [rawInt]⟩
theorem next_end {it S : Addr} {slot i ep : Nat} {es : Array (Int × Value)} {pl : Array Nat} {Q : Option Value → Shared → Prop} (hh : A.handled = none) (hit : IsSetIt s.heap it S slot i es.size ep) (hS : s.heap.get? S = some (setObj2 es ep pl (!w.params.followText "set-order"))) (hf : pl.size = es.size) (h7 : es.size ≤ 7)
    (hx : nextOf w S es ep pl slot i = none) (hQ : ∀ h', Heap.ExtBut it s.heap h' → Q none { s with heap := h' }) :
    wpAny (model prog w) A (pyNext (.ref it)) Q E s := by
  obtain ⟨o, ho, hc, hd⟩ := id hit
  unfold pyNext
  refine wpAny_bind (wpAny_attempt (wpAny_callSpecial?_slot (name := Str.ofString "__next__") hit.typeIs SetF.slot_next
    (wpAny_call_entry SetF.slot_next hit.typeIs SetF.entry_next ?_ (SetF.args_next _))))
  show wpAny _ _ (fieldsOf (.ref it) >>= _) _ _ s
  refine wpAny_bind (wpAny_fieldsOf ho hd ?_)
  dsimp only
  refine wpAny_bind (set_entries hS hf h7 ?_)
  rw [if_neg (by simp)]
  refine wpAny_bind (set_next (by simpa using hS) hf h7 ?_)
  simp only [Int.toNat_natCast, hx]
  refine wpAny_bind (wpAny_setField ho hd (by simp) ?_)
  show wpAny _ _ (newExc (.type "StopIteration") [] >>= _) _ _ _
  refine wpAny_bind ?_
  simp only [newExc, newTuple]
  refine wpAny_bind (wpAny_newObj_type ?_ (by size_fits))
  refine wpAny_bind (m := firstArgMember _ _) (wpAny_of_eq (a := Value.none) (by first | rfl | (simp only [firstArgMember]; rfl)) ?_)
  refine wpAny_newObj_type ?_ (by size_fits)
  simp only [raiseNew]
  refine wpAny_bind (wpAny_handled ?_)
  first | rw [show A.in1.handled = none from hh] | rw [hh]
  refine wpAny_bind (wpAny_pure (wpAny_throw ?_))
  refine wpAny_bind (wpAny_isInstance (T := "StopIteration") (b := true) ⟨_, Heap.get?_push_size _ rfl, rfl⟩ isSubtype_stop ?_)
  exact wpAny_pure (hQ _ (((Heap.SameBut.update ..).extBut.push _).push _))
theorem iter_set {S : Addr} {ep : Nat} {es : Array (Int × Value)} {pl : Array Nat} {Q : Value → Shared → Prop} (hS : s.heap.get? S = some (setObj2 es ep pl (!w.params.followText "set-order"))) (hf : pl.size = es.size) (h7 : es.size ≤ 7)
    (hQ : Q (.ref s.heap.objs.size) { s with heap := s.heap.push { cls := .type "set_iterator", data := .fields #[.int 0 0, .int 0 0, .ref S, .int es.size 0, .int ep 0] } }) :
    wpAny (model prog w) A (pyIter (.ref S)) Q E s := by
  have hT : s.TypeIs (.ref S) "set" := ⟨_, hS, rfl⟩
  have hfit : (⟨7, pl, #[], 0, !w.params.followText "set-order", 0, true⟩ : SetTable).fits es.size = true := by
    simp only [SetTable.fits, SetTable.fill, Bool.and_eq_true, beq_iff_eq]
    exact ⟨hf, by simp [hf]; omega⟩
  refine wpAny_pyIter_slot hT PySem.F.slot_set_iter (wpAny_call_entry PySem.F.slot_set_iter hT SetF.entry_set_iter ?_ (PySem.F.args_set_iter_1 _))
  unfold Builtin.«frozenset.__iter__» Builtin.Frozenset.slot0 slotArgs
  simp only [List.isEmpty_nil, Bool.not_true, Bool.false_eq_true, ↓reduceIte, bind_assoc, List.length_nil, bne_self_eq_false]
  unfold Builtin.Frozenset.addrOf Builtin.Frozenset.sizeOf
  refine wpAny_bind (wpAny_pure ?_)
  try dsimp only
  refine wpAny_bind (wpAny_pure ?_)
  refine wpAny_bind (wpAny_bind (set_entries hS hf h7 (wpAny_pure ?_)))
  refine wpAny_bind ?_
  unfold setDrawn
  refine wpAny_bind (wpAny_setState_of hS rfl hfit ?_)
  dsimp only
  unfold setsByText
  refine wpAny_bind (wpAny_bind (wpAny_askSetting (wpAny_pure (wpAny_pure ?_))))
  split
  · rename_i hd
    have hd' : (!w.params.followText "set-order" && false) = true := hd
    rw [Bool.and_false] at hd'
    cases hd'
  · refine wpAny_bind (wpAny_pure ?_)
    refine wpAny_bind (wpAny_setEpoch_of hS rfl hfit ?_)
    exact wpAny_bind (wpAny_newObj_type (wpAny_pure ⟨_, rfl, "set_iterator", _, ⟨_, Heap.get?_push_size _ rfl, rfl⟩, SetF.slot_next.lookup, hQ⟩))
end
theorem IsSetIt.at {h h' : Heap} {it S : Addr} {slot i n ep : Nat} (x : IsSetIt h it S slot i n ep) (e : ∀ o, h.get? it = some o → h'.get? it = some o) : IsSetIt h' it S slot i n ep := let ⟨o, ho, r⟩ := x; ⟨o, e _ ho, r⟩
theorem pyIter_setit {prog : Program} {w : World} {A : Around} {E : Value → Shared → Prop} {s : Shared} {it S : Addr} {slot i n ep : Nat} {Q : Value → Shared → Prop} (hit : IsSetIt s.heap it S slot i n ep) (h : Q (.ref it) s) : wpAny (model prog w) A (pyIter (.ref it)) Q E s := by
  refine wpAny_pyIter_slot hit.typeIs SetF.slot_iter (wpAny_call_entry SetF.slot_iter hit.typeIs SetF.entry_iter ?_ (SetF.args_iter _))
  show wpAny _ _ (ret (.ref it)) _ _ s
  exact wpAny_pure ⟨_, rfl, "set_iterator", _, hit.typeIs, SetF.slot_next.lookup, h⟩
theorem walks_set {prog : Program} {w : World} {A : Around} (hh : A.handled = none) (I S : Addr) (hne : S ≠ I) {es : Array (Int × Value)} {ep : Nat} {pl : Array Nat} (hf : pl.size = es.size) (h7 : es.size ≤ 7) (sl : Nat → Nat) (P : Nat → Value → Prop)
    (hseq : ∀ i, i < es.size → ∃ x, nextOf w S es ep pl (sl i) i = some (x, sl (i + 1)) ∧ P i x) (hend : nextOf w S es ep pl (sl es.size) es.size = none) :
    Walks prog w A I [I, S] [I] es.size P (fun i h => IsSetIt h I S (sl i) i es.size ep ∧ h.get? S = some (setObj2 es ep pl (!w.params.followText "set-order"))) where
  sub := fun b hb => by simp at hb; simp [hb]
  frame := fun _ _ _ st hk => ⟨st.1.at fun o e => hk I (by simp) o e, hk S (by simp) _ st.2⟩
  item := fun i s Q E hi st hQ => by
    obtain ⟨x, hx, hP⟩ := hseq i hi
    refine next_item st.1 st.2 hf h7 hx fun h' hit' hs' => ?_
    exact hQ _ h' s.toks hP ⟨hit', hs'.extBut _ _ hne st.2⟩ fun b o hb e => hs'.extBut b o (fun h => hb (by simp [h])) e
  done := fun s Q E st hQ => next_end hh st.1 st.2 hf h7 hend fun h' he' => hQ h' s.toks fun b o hb e => he' b o (fun h => hb (by simp [h])) e
  self := fun _ _ _ _ st hQ => pyIter_setit st.1 hQ
theorem pick1 {f : Nat → Nat} {e : Int × Value} : pickOrder f #[e] = #[e] := by
  simp [pickOrder, pickOrder.go, Nat.mod_one]
theorem pick2 {f : Nat → Nat} {e g : Int × Value} : pickOrder f #[e, g] = #[e, g] ∨ pickOrder f #[e, g] = #[g, e] := by
  rcases Nat.mod_two_eq_zero_or_one (f 0) with h | h
  · left; simp [pickOrder, pickOrder.go, h, Nat.mod_one]
  · right; simp [pickOrder, pickOrder.go, h, Nat.mod_one]
theorem bel10 {c : Nat} : SetTable.below #[c] 0 = 0 := by simp [SetTable.below, SetTable.below.go]
theorem bel11 {c : Nat} : SetTable.below #[c] (c + 1) = 1 := by simp [SetTable.below, SetTable.below.go]
theorem bel20 {c d : Nat} : SetTable.below #[c, d] 0 = 0 := by simp [SetTable.below, SetTable.below.go]
theorem bel21 {c d : Nat} (h : c < d) : SetTable.below #[c, d] (c + 1) = 1 := by
  have h1 : ¬ d < c + 1 := by omega
  simp [SetTable.below, SetTable.below.go, h1]
theorem bel22 {c d : Nat} : SetTable.below #[c, d] (d + 1) = 2 := by simp [SetTable.below, SetTable.below.go]
theorem arr_lt1 {i : Nat} {e : Int × Value} (h : i < (#[e] : Array (Int × Value)).size) : i = 0 := by
  have : i < 1 := h
  omega
theorem arr_lt2 {i : Nat} {e g : Int × Value} (h : i < (#[e, g] : Array (Int × Value)).size) : i = 0 ∨ i = 1 := by
  have : i < 2 := h
  omega
section
variable {w : World} {S : Addr} {c d ep : Nat} {h1 h2 : Int} {u v : Tok}
theorem n1a (hb : w.params.followText "set-order" = false) : nextOf w S #[(h1, Value.int (c : Int) u)] ep #[c] 0 0 = some (Value.int (c : Int) u, c + 1) := by
  unfold nextOf
  rw [if_neg (by rw [hb]; exact Bool.false_ne_true), bel10]
  rfl
theorem n1b (hb : w.params.followText "set-order" = false) : nextOf w S #[(h1, Value.int (c : Int) u)] ep #[c] (c + 1) 1 = none := by
  unfold nextOf
  rw [if_neg (by rw [hb]; exact Bool.false_ne_true), bel11]
  rfl
theorem n2a (hb : w.params.followText "set-order" = false) : nextOf w S #[(h1, Value.int (c : Int) u), (h2, Value.int (d : Int) v)] ep #[c, d] 0 0 = some (Value.int (c : Int) u, c + 1) := by
  unfold nextOf
  rw [if_neg (by rw [hb]; exact Bool.false_ne_true), bel20]
  rfl
theorem n2b (hb : w.params.followText "set-order" = false) (hlt : c < d) : nextOf w S #[(h1, Value.int (c : Int) u), (h2, Value.int (d : Int) v)] ep #[c, d] (c + 1) 1 = some (Value.int (d : Int) v, d + 1) := by
  unfold nextOf
  rw [if_neg (by rw [hb]; exact Bool.false_ne_true), bel21 hlt]
  rfl
theorem n2c (hb : w.params.followText "set-order" = false) : nextOf w S #[(h1, Value.int (c : Int) u), (h2, Value.int (d : Int) v)] ep #[c, d] (d + 1) 2 = none := by
  unfold nextOf
  rw [if_neg (by rw [hb]; exact Bool.false_ne_true), bel22]
  rfl
theorem nt {es : Array (Int × Value)} {pl : Array Nat} {i : Nat} (hb : w.params.followText "set-order" = true) : nextOf w S es ep pl 0 i = ((pickOrder (w.params.setOrder S ep) es)[i]?).map fun e => (e.2, 0) := by
  unfold nextOf
  rw [if_pos hb]
end
/-- the set's items, gone through in one order or another -/
theorem seq_of {w : World} {a b : Nat} {so : Obj} (h : Set2 w a b so) (S : Addr) : ∃ (es : Array (Int × Value)) (ep : Nat) (pl : Array Nat) (sl : Nat → Nat), so = setObj2 es ep pl (!w.params.followText "set-order") ∧ pl.size = es.size ∧ es.size ≤ 2 ∧
    (∀ i, i < es.size → ∃ x, nextOf w S es ep pl (sl i) i = some (x, sl (i + 1)) ∧ ∃ (c : Int) (t : Tok), x = .int c t ∧ (c = (a : Int) ∨ c = (b : Int))) ∧ nextOf w S es ep pl (sl es.size) es.size = none ∧ sl 0 = 0 := by
  cases h with
  | one c hs u ep hc =>
    have hc' : (c : Int) = (a : Int) ∨ (c : Int) = (b : Int) := hc.imp (congrArg (fun n : Nat => (n : Int))) (congrArg (fun n : Nat => (n : Int)))
    cases hb : w.params.followText "set-order"
    · refine ⟨_, ep, _, fun i => if i = 0 then 0 else c + 1, rfl, rfl, (by show 1 ≤ 2; decide), fun i hi => ?_, n1b hb, rfl⟩
      obtain rfl := arr_lt1 hi
      exact ⟨.int c u, n1a hb, c, u, rfl, hc'⟩
    · refine ⟨_, ep, _, fun _ => 0, rfl, rfl, (by show 1 ≤ 2; decide), fun i hi => ?_, ?_, rfl⟩
      · obtain rfl := arr_lt1 hi
        exact ⟨.int c u, by rw [nt hb, pick1]; rfl, c, u, rfl, hc'⟩
      · rw [nt hb, pick1]; rfl
  | two c d h1 h2 u v ep hc hd hlt =>
    have hc' : (c : Int) = (a : Int) ∨ (c : Int) = (b : Int) := hc.imp (congrArg (fun n : Nat => (n : Int))) (congrArg (fun n : Nat => (n : Int)))
    have hd' : (d : Int) = (a : Int) ∨ (d : Int) = (b : Int) := hd.imp (congrArg (fun n : Nat => (n : Int))) (congrArg (fun n : Nat => (n : Int)))
    cases hb : w.params.followText "set-order"
    · refine ⟨_, ep, _, fun i => if i = 0 then 0 else if i = 1 then c + 1 else d + 1, rfl, rfl, (by show 2 ≤ 2; decide), fun i hi => ?_, n2c hb, rfl⟩
      rcases arr_lt2 hi with rfl | rfl
      · exact ⟨.int c u, n2a hb, c, u, rfl, hc'⟩
      · exact ⟨.int d v, n2b hb hlt, d, v, rfl, hd'⟩
    · rcases pick2 (f := w.params.setOrder S ep) (e := (h1, Value.int c u)) (g := (h2, Value.int d v)) with hp | hp
      · refine ⟨_, ep, _, fun _ => 0, rfl, rfl, (by show 2 ≤ 2; decide), fun i hi => ?_, by rw [nt hb, hp]; rfl, rfl⟩
        rcases arr_lt2 hi with rfl | rfl
        · exact ⟨.int c u, by rw [nt hb, hp]; rfl, c, u, rfl, hc'⟩
        · exact ⟨.int d v, by rw [nt hb, hp]; rfl, d, v, rfl, hd'⟩
      · refine ⟨_, ep, _, fun _ => 0, rfl, rfl, (by show 2 ≤ 2; decide), fun i hi => ?_, by rw [nt hb, hp]; rfl, rfl⟩
        rcases arr_lt2 hi with rfl | rfl
        · exact ⟨.int d v, by rw [nt hb, hp]; rfl, d, v, rfl, hd'⟩
        · exact ⟨.int c u, by rw [nt hb, hp]; rfl, c, u, rfl, hc'⟩
end
section -- MSetS
open PySem.F in
theorem collect_set {prog : Program} {w : World} {A : Around} {E : Value → Shared → Prop} {s : Shared} {S : Addr} {ep : Nat} {es : Array (Int × Value)} {pl : Array Nat} {sl : Nat → Nat} {P : Nat → Value → Prop} {Q : List Value → Shared → Prop} (hh : A.handled = none) (hS : s.heap.get? S = some (setObj2 es ep pl (!w.params.followText "set-order"))) (hf : pl.size = es.size) (h7 : es.size ≤ 7)
    (hseq : ∀ i, i < es.size → ∃ x, nextOf w S es ep pl (sl i) i = some (x, sl (i + 1)) ∧ P i x) (hend : nextOf w S es ep pl (sl es.size) es.size = none) (h0 : sl 0 = 0)
    (hQ : ∀ h' tk acc, (∀ b o, s.heap.get? b = some o → h'.get? b = some o) → ItemsOf P acc es.size → Q acc.toList { s with heap := h', toks := tk }) :
    wpAny (model prog w) A (collect (.ref S)) Q E s := by
  have hSl : S < s.heap.objs.size := Heap.lt_size hS
  unfold collect
  refine wpAny_bind (wpAny_runValue (codeAny_builtin entry_proto_collect ?_))
  rw [Around.under_plainId plain_proto_collect _]
  show wpAny _ A.in1 (newList [] >>= fun l => again (.builtin "list.__iadd__" ⟨[l, .ref S], []⟩)) _ _ s
  refine wpAny_bind (wpAny_newObj_type ?_)
  refine wpAny_pure ⟨plainId_quiet plain_list_iadd _, codeAny_builtin entry_list_iadd ?_⟩
  rw [Around.under_plainId plain_list_iadd _]
  show wpAny _ A.in1 (Builtin.List.listExtendWith (.ref s.heap.objs.size) (.ref S) (.ref s.heap.objs.size)) _ _ _
  generalize hH1 : s.heap.push { cls := .type "list", data := .seq ([] : List Value).toArray } = H1
  have hD1 : H1.get? s.heap.objs.size = some { cls := .type "list", data := .seq ([] : List Value).toArray } := by rw [← hH1]; exact Heap.get?_push_size _ rfl
  have up1 : ∀ b o, s.heap.get? b = some o → H1.get? b = some o := fun b o e => by rw [← hH1]; exact Heap.get?_push_of_some _ e
  have sz1 : H1.objs.size = s.heap.objs.size + 1 := by rw [← hH1, Heap.size_push]
  unfold Builtin.List.listExtendWith
  have hS1 := up1 _ _ hS
  refine wpAny_bind (wpAny_typeOf (T := "set") ⟨_, hS1, rfl⟩ ?_)
  have e1 : Builtin.List.listSameRef (.ref s.heap.objs.size) (.ref S) = false := by
    simp only [Builtin.List.listSameRef]
    exact beq_eq_false_iff_ne.mpr (Nat.ne_of_gt hSl)
  have e2 : (Value.type "set" == Value.type "list") = false := by decide
  have e3 : (Value.type "set" == Value.type "tuple") = false := by decide
  simp only [e1, e2, e3, Bool.or_false, Bool.false_eq_true, if_false]
  refine wpAny_bind (iter_set hS1 hf h7 ?_)
  generalize hH2 : H1.push { cls := .type "set_iterator", data := .fields #[.int 0 0, .int 0 0, .ref S, .int es.size 0, .int ep 0] } = H2
  have hI2 : H2.get? H1.objs.size = some { cls := .type "set_iterator", data := .fields #[.int 0 0, .int 0 0, .ref S, .int es.size 0, .int ep 0] } := by rw [← hH2]; exact Heap.get?_push_size _ rfl
  have up2 : ∀ b o, H1.get? b = some o → H2.get? b = some o := fun b o e => by rw [← hH2]; exact Heap.get?_push_of_some _ e
  refine wpAny_bind (wpAny_holding ?_)
  unfold Builtin.List.listLengthHint
  have hS2 := up2 _ _ hS1
  refine wpAny_bind (wpAny_specialOf (T := "set") ⟨_, hS2, rfl⟩ slot_set_len.lookup ?_)
  dsimp only
  rw [show splitId "set.__len__" = some ("set", "__len__") from by decide +kernel]
  dsimp only
  refine wpAny_bind (wpAny_isInstance (T := "set") (b := true) ⟨_, hS2, rfl⟩ sub_set_self ?_)
  rw [if_neg (show ¬ ((!true) = true) by decide)]
  refine wpAny_ite ?_
  rw [if_pos]
  rotate_left
  · decide +kernel
  refine wpAny_bind (wpAny_typeOf (T := "set") ⟨_, hS2, rfl⟩ ?_)
  refine wpAny_pure ?_
  refine wpAny_ite_true (by decide +kernel) ?_
  refine wpAny_bind (wpAny_rule ?_)
  refine wpAny_bind ?_
  have hD2 := up2 _ _ hD1
  show wpAny _ A.in1 (updateSeq s.heap.objs.size (·.push .none) >>= fun _ => updateSeq s.heap.objs.size (·.pop)) _ _ _
  refine wpAny_bind (wpAny_updateSeq hD2 rfl ?_)
  have hD3 := Heap.get?_update_self (Obj.mapSeq (·.push Value.none)) hD2 rfl
  refine wpAny_updateSeq hD3 rfl ?_
  have hD4 := Heap.get?_update_self (Obj.mapSeq (·.pop)) hD3 rfl
  have oth : ∀ b o, b ≠ s.heap.objs.size → H2.get? b = some o → ((H2.update s.heap.objs.size (Obj.mapSeq (·.push Value.none))).update s.heap.objs.size (Obj.mapSeq (·.pop))).get? b = some o :=
    fun b o hb e => (Heap.get?_update_other _ _ (Ne.symm hb)).trans ((Heap.get?_update_other _ _ (Ne.symm hb)).trans e)
  have hDI : H1.objs.size ≠ s.heap.objs.size := by rw [sz1]; exact Nat.succ_ne_self _
  have hSI : S ≠ H1.objs.size := by rw [sz1]; exact Nat.ne_of_lt (Nat.lt_succ_of_lt hSl)
  have hSD : S ≠ s.heap.objs.size := Nat.ne_of_lt hSl
  have W := (walks_set (prog := prog) (w := w) (A := A.in1) (by exact hh) H1.objs.size S hSI hf h7 sl P hseq hend).toS
  refine wpAny_pure ⟨plainId_quiet plain_extend_loop _, codeAny_extend_loopS W (by rw [sizeLine_eq]; omega) s.heap.objs.size (by simp; exact ⟨Ne.symm hDI, Ne.symm hSD⟩) _ es.size 0 _ _ _ rfl (Nat.zero_le _) ⟨⟨_, oth _ _ hDI hI2, rfl, by rw [h0]; rfl⟩, oth _ _ hSD hS2⟩ hD4 (ItemsOf.nil P) fun s' acc' c' hm hS' hacc => ?_⟩
  show wpAny _ A (load s.heap.objs.size >>= _) _ _ s'
  refine wpAny_bind (wpAny_load hS' ?_)
  obtain ⟨h', g', d', tk', os'⟩ := s'
  have eg : g' = s.gens := hm.gens
  have ed : d' = s.drawn := hm.drawn
  have eo : os' = s.os := hm.os
  subst eg; subst ed; subst eo
  refine wpAny_pure (hQ h' tk' acc' (fun b o e => ?_) hacc)
  have hb : b < s.heap.objs.size := Heap.lt_size e
  refine hm.heap b o ?_ (oth _ _ (Nat.ne_of_lt hb) (up2 _ _ (up1 _ _ e)))
  simp only [List.mem_cons, List.mem_singleton, List.not_mem_nil, or_false, not_or]
  exact ⟨Nat.ne_of_lt hb, by rw [sz1]; exact Nat.ne_of_lt (Nat.lt_succ_of_lt hb)⟩
theorem ints_of {a b : Nat} {acc : Array Value} {n : Nat} (h : ItemsOf (fun _ x => ∃ (c : Int) (t : Tok), x = .int c t ∧ (c = (a : Int) ∨ c = (b : Int))) acc n) : ∃ ns, IntsAre acc.toList ns ∧ ∀ n ∈ ns, n = (a : Int) ∨ n = (b : Int) := by
  have : ∀ l : List Value, (∀ x ∈ l, ∃ (c : Int) (t : Tok), x = .int c t ∧ (c = (a : Int) ∨ c = (b : Int))) → ∃ ns, IntsAre l ns ∧ ∀ n ∈ ns, n = (a : Int) ∨ n = (b : Int) := by
    intro l
    induction l with
    | nil => exact fun _ => ⟨[], .nil, fun _ h => nomatch h⟩
    | cons x l ih =>
      intro hx
      obtain ⟨c, t, rfl, hc⟩ := hx x (.head _)
      obtain ⟨ns, h1, h2⟩ := ih fun y hy => hx y (.tail _ hy)
      refine ⟨c :: ns, .cons c t h1, fun n hn => ?_⟩
      rcases List.mem_cons.mp hn with rfl | hn
      · exact hc
      · exact h2 n hn
  refine this _ fun x hx => ?_
  obtain ⟨i, hi⟩ := List.getElem?_of_mem hx
  exact h.2 i x (by rw [← Array.getElem?_toList]; exact hi)
theorem sorted2 {prog : Program} {w : World} {A : Around} {E : Value → Shared → Prop} {s : Shared} {base : Heap} {L : Addr} {m : Str → Option Value} {all : Led} {S : Addr} {a b : Nat} {so : Obj} {Q : Value → Shared → Prop} (hs : Set2 w a b so) (hh : A.handled = none) (F : Fr base L s.heap m) (N : News base L s.heap all) (hm : (S, so) ∈ all)
    (h : ∀ h' tk D vs ns c, IntsAre vs ns → (∀ n ∈ ns, n = (a : Int) ∨ n = (b : Int)) → ns.length ≤ 2 → Fr base L h' m → News base L h' ((D, liO vs c) :: all) → (∀ p ∈ all, p.1 < D) → Q (.ref D) { s with heap := h', toks := tk }) : wpAny (model prog w) A (call (.builtin "sorted") [.ref S]) Q E s := by
  obtain ⟨es, ep, pl, sl, rfl, hf, h2, hseq, hend, h0⟩ := seq_of hs S
  have hS := (N _ hm).1
  refine Calls.call_function_entry kind_sorted plain_sorted entry_sorted (args_sorted1 _) ?_
  unfold Builtin.«sorted»
  refine wpAny_bind (m := checkCount "sorted" 1 1 _) (wpAny_pure ?_)
  refine wpAny_bind (collect_set (P := fun _ x => ∃ (c : Int) (t : Tok), x = .int c t ∧ (c = (a : Int) ∨ c = (b : Int))) (by exact hh) hS hf (by omega) hseq hend h0 fun h1 tk1 acc up hacc => ?_)
  obtain ⟨ns, hI, hns⟩ := ints_of hacc
  have hal : acc.toList.length = es.size := by rw [Array.length_toList]; exact hacc.1
  refine wpAny_bind (wpAny_newList ?_)
  have hoL : (h1.push (seqObj "list" acc.toList.toArray 0)).get? h1.objs.size = some (seqObj "list" acc.toList.toArray 0) := Heap.get?_push_size _ rfl
  show wpAny _ _ _ _ _ { s with heap := h1.push (seqObj "list" acc.toList.toArray 0), toks := tk1 }
  refine wpAny_bind (wpAny_holding (wpAny_call_entry slot_list_sort ⟨_, hoL, rfl⟩ entry_list_sort (list_sort_tree hoL hI (by rw [hal]; omega) fun out ns' a1 a2 a3 => ⟨_, rfl, ?_⟩) (args_list_sort _)))
  refine wpAny_pure ⟨_, rfl, ?_⟩
  obtain ⟨e, he⟩ := sortedHeap_at (out := out) hoL
  have old : ∀ b o, s.heap.get? b = some o → (sortedHeap (h1.push (seqObj "list" acc.toList.toArray 0)) h1.objs.size acc.toList out).get? b = some o := fun b o e => by
    have hb : b < h1.objs.size := Heap.lt_size (up b o e)
    rw [sortedHeap_old (Nat.ne_of_lt hb) (by rw [Heap.size_push]; exact Nat.lt_succ_of_lt hb)]
    exact Heap.get?_push_of_some _ (up b o e)
  have hlt : ∀ p ∈ all, p.1 < h1.objs.size := fun p hp => Heap.lt_size (up _ _ (N p hp).1)
  obtain ⟨oL, _, _, hL, _⟩ := F.ns
  refine h _ _ h1.objs.size out.toList ns' e a1 (fun n hn => hns n (a2.mem_iff.mp hn)) (by rw [a2.length_eq, ← hI.length, hal]; exact h2) (F.kept old) (fun p hp => ?_) hlt
  rcases List.mem_cons.mp hp with rfl | hp
  · refine ⟨?_, Nat.ne_of_gt (Heap.lt_size (up _ _ hL)), ?_⟩
    · exact he
    · cases hq : base.get? h1.objs.size with
      | none => rfl
      | some o => exact absurd (Heap.lt_size (up _ _ (F.keep _ _ hq))) (Nat.lt_irrefl _)
  · exact ⟨old _ _ (N p hp).1, (N p hp).2⟩
end
section -- MExc
section
variable {M : Model} {A : Around} {E : Value → Shared → Prop} {s : Shared}


structure Passed (fs : List Addr) (e : Addr) (T : Option Addr) (h h' : Heap) : Prop where
  size : h.objs.size ≤ h'.objs.size
  other : ∀ b o, h.get? b = some o → b ∉ fs → b ≠ e → T ≠ some b → h'.get? b = some o
  frame : ∀ b o, h.get? b = some o → (∀ vs, o.data ≠ .fields vs) → ∃ sl, h'.get? b = some { o with slots := sl }

theorem mapFields_mk (c : Value) (d : Option Addr) (vs : Array Value) (sl : Array (Option Value)) (f : Array Value → Array Value) : Obj.mapFields f ⟨c, d, .fields vs, sl⟩ = ⟨c, d, .fields (f vs), sl⟩ := rfl

theorem set_tb {e dx T : Addr} {c t : Value} {Q : Unit → Shared → Prop} (hx : ExcIs s.heap e dx c t) 
    (h : ∀ h', h' = s.heap.update e (Obj.mapFields (·.setIfInBounds 1 (.ref T))) → ExcIs h' e dx c (.ref T) → (∀ b, b ≠ e → h'.get? b = s.heap.get? b) → Q () { s with heap := h' }) :
    wpAny M A (setField (.ref e) 1 (.ref T)) Q E s := by
  obtain ⟨vs, sl, he, h1⟩ := hx
  have hsz := (Array.getElem?_eq_some_iff.mp h1).1
  refine wpAny_setField he rfl hsz (h _ rfl ⟨_, sl, Heap.get?_update_self _ he rfl, ?_⟩ fun b hb => Heap.get?_update_other _ _ (Ne.symm hb))
  simp [hsz]

theorem set_flight {e dx T : Addr} {c fl : Value} {fr : Option Addr} {Q : Unit → Shared → Prop} (hx : ExcIs s.heap e dx c (.ref T)) (hT : TbIs s.heap T fl) (hTe : T ≠ e)
    (h : ∀ h', ExcIs h' e dx c (.ref T) → TbIs h' T (fr.elim .none fun f => rawInt f) → h'.objs.size = s.heap.objs.size → (∀ b, b ≠ T → h'.get? b = s.heap.get? b) → Q () { s with heap := h' }) :
    wpAny M A (setFlight (.ref e) fr) Q E s := by
  obtain ⟨vs, sl, he, h1⟩ := hx
  obtain ⟨oT, ts, hg, hct, hd, h3⟩ := hT
  have hsz := (Array.getElem?_eq_some_iff.mp h3).1
  unfold setFlight
  refine wpAny_bind (wpAny_field he rfl h1 ?_)
  rw [if_pos (show (Value.ref T != Value.none) = true from by simp)]
  have oth : ∀ b, b ≠ T → (s.heap.update T (Obj.mapFields (·.setIfInBounds 3 (fr.elim .none fun f => rawInt f)))).get? b = s.heap.get? b := fun b hb => Heap.get?_update_other _ _ (Ne.symm hb)
  refine wpAny_setField hg hd hsz (h _ ⟨vs, sl, (oth e (Ne.symm hTe)).trans he, h1⟩ ⟨_, _, Heap.get?_update_self _ hg (Obj.isFreed_of_fields (Obj.data_mapFields hd _)), (Obj.cls_mapFields ..).trans hct, Obj.data_mapFields hd _, ?_⟩ (Heap.size_after_update ..) oth)
  simp [hsz]

theorem entry_of {base : Heap} {env : Env} {outer : List Env} {L e dx : Addr} {c t head : Value} {hadNext : Bool} {Q : Unit → Shared → Prop}
    (hfr : A.frames = some (env :: outer)) (hl : s.heap.FunFrames base (env :: outer)) (hf : env.frame = some L) (hx : ExcIs s.heap e dx c t)
    (h : ∀ h' T, s.heap.get? T = none → T ≠ e → ExcIs h' e dx c (.ref T) → TbIs h' T (rawInt L) → Passed ((env :: outer).filterMap (·.frame)) e none s.heap h' → Q () { s with heap := h' }) :
    wpAny M A (do let a ← frameOf env; let pl ← entryPlaceOf L hadNext; let b ← EntryCells.newEntry head a .none (rawInt L) .none pl; setField (.ref e) 1 b) Q E s := by
  obtain ⟨vs, sl, he, h1⟩ := hx
  have hene : e ∉ (env :: outer).filterMap (·.frame) := fun hm => by
    obtain ⟨_, o, ho, hnf⟩ := hl.mem hm
    rw [he] at ho; cases ho; exact hnf vs rfl
  refine wpAny_bind (wpAny_frameOf_fun hfr hl hf fun h₁ hs₁ => ?_)
  refine wpAny_bind (wpAny_entryPlaceOf fun pl hpl => ?_)
  unfold EntryCells.newEntry newFields
  refine wpAny_bind (wpAny_newObj_type ?_ (hpl.sizeOk5 _ _ _ _ _))
  have he₁ : h₁.get? e = some ⟨c, some dx, .fields vs, sl⟩ := (hs₁.2.1 e hene).trans he
  generalize hTo : ({ cls := .type "traceback", dict := none, data := .fields ([head, .ref L, .none, rawInt L, .none] ++ (if pl.isEmpty then List.replicate 6 Value.none else pl)).toArray } : Obj) = TO
  have he₂ := Heap.get?_push_of_some (h := h₁) TO he₁
  have hTe : h₁.objs.size ≠ e := Nat.ne_of_gt (Heap.lt_size he₁)
  have hTnone : s.heap.get? h₁.objs.size = none := by
    cases q : s.heap.get? h₁.objs.size with
    | none => rfl
    | some o => exact absurd (hs₁.1 ▸ Heap.lt_size q) (Nat.lt_irrefl _)
  refine set_tb (s := { s with heap := h₁.push TO }) ⟨vs, sl, he₂, h1⟩ fun h' hh hx' hoth => h h' h₁.objs.size hTnone hTe hx' ?_ ⟨?_, fun b o hb hbf hbe _ => ?_, fun b o hb hnf => ?_⟩
  · subst hTo
    refine ⟨_, _, (hoth _ hTe).trans (Heap.get?_push_size h₁ rfl), rfl, rfl, ?_⟩
    first | (simp; done) | (rcases hpl with rfl | ⟨_, _, _, _, _, _, _, rfl⟩ <;> simp)
  · rw [hh, Heap.size_after_update, Heap.size_push, hs₁.1]; exact Nat.le_succ _
  · exact (hoth b hbe).trans (Heap.get?_push_of_some _ ((hs₁.2.1 b hbf).trans hb))
  · obtain ⟨sl', hs⟩ := hs₁.2.2 b o hb
    have hbe : b ≠ e := fun q => by subst q; rw [he] at hb; cases hb; exact hnf vs rfl
    exact ⟨sl', (hoth b hbe).trans (Heap.get?_push_of_some _ hs)⟩

/-- noteFrame, the exception's first frame -/
theorem note_first {base : Heap} {env : Env} {outer : List Env} {L e dx : Addr} {c : Value} {Q : Unit → Shared → Prop}
    (hfr : A.frames = some (env :: outer)) (hl : s.heap.FunFrames base (env :: outer)) (hf : env.frame = some L) (hx : ExcIs s.heap e dx c .none)
    (h : ∀ h' T, s.heap.get? T = none → T ≠ e → ExcIs h' e dx c (.ref T) → TbIs h' T (rawInt L) → Passed ((env :: outer).filterMap (·.frame)) e none s.heap h' → Q () { s with heap := h' }) :
    wpAny M A (noteFrame (.ref e) env) Q E s := by
  obtain ⟨vs, sl, he, h1⟩ := hx
  unfold noteFrame
  simp only [hf]
  refine wpAny_bind (wpAny_field he rfl h1 ?_)
  rw [if_neg (by decide)]
  exact entry_of hfr hl hf ⟨vs, sl, he, h1⟩ h

/-- noteFrame, a further frame -/
theorem note_next {base : Heap} {env : Env} {outer : List Env} {L e dx T₀ : Addr} {c : Value} {Q : Unit → Shared → Prop}
    (hfr : A.frames = some (env :: outer)) (hl : s.heap.FunFrames base (env :: outer)) (hf : env.frame = some L) (hx : ExcIs s.heap e dx c (.ref T₀)) (hT : TbIs s.heap T₀ .none) (hTe : T₀ ≠ e)
    (h : ∀ h' T, s.heap.get? T = none → T ≠ e → ExcIs h' e dx c (.ref T) → TbIs h' T (rawInt L) → Passed ((env :: outer).filterMap (·.frame)) e (some T₀) s.heap h' → Q () { s with heap := h' }) :
    wpAny M A (noteFrame (.ref e) env) Q E s := by
  obtain ⟨vs, sl, he, h1⟩ := hx
  obtain ⟨oT, ts, hg, hct, hd, h3⟩ := hT
  unfold noteFrame
  simp only [hf]
  refine wpAny_bind (wpAny_field he rfl h1 ?_)
  rw [if_pos (show (Value.ref T₀ != Value.none) = true from by simp)]
  refine wpAny_bind (wpAny_field hg hd h3 ?_)
  rw [if_neg (show ¬ ((Value.none == rawInt L) = true) from by simp [rawInt])]
  refine wpAny_bind (wpAny_setField hg hd (Array.getElem?_eq_some_iff.mp h3).1 ?_)
  have oth : ∀ b, b ≠ T₀ → (s.heap.update T₀ (Obj.mapFields (·.setIfInBounds 3 Value.none))).get? b = s.heap.get? b := fun b hb => Heap.get?_update_other _ _ (Ne.symm hb)
  have noT : ∀ b o, s.heap.get? b = some o → (∀ vs, o.data ≠ .fields vs) → b ≠ T₀ := fun b o hb hnf q => by
    rw [q, hg] at hb; cases hb; exact hnf ts hd
  refine entry_of (base := base) hfr (hl.of_keeps fun b o hb hnf => ⟨o, (oth b (noT b o hb hnf)).trans hb, rfl⟩) hf ⟨vs, sl, (oth e (Ne.symm hTe)).trans he, h1⟩ fun h' T hTn hT'e hx' hT' P => ?_
  have hTn' : s.heap.get? T = none := by
    by_cases q : T = T₀
    · subst q
      have := Heap.get?_update_self (Obj.mapFields (·.setIfInBounds 3 Value.none)) hg (Obj.isFreed_of_fields (Obj.data_mapFields hd _))
      rw [this] at hTn; cases hTn
    · rw [← oth T q]; exact hTn
  exact h h' T hTn' hT'e hx' hT' ⟨by have := P.size; rwa [Heap.size_after_update] at this, fun b o hb hbf hbe hbT => P.other b o ((oth b fun q => hbT (by rw [q])).trans hb) hbf hbe (fun q => nomatch q), fun b o hb hnf => P.frame b o ((oth b (noT b o hb hnf)).trans hb) hnf⟩

end
end
section -- MHead0
/-- the top's run over a tree of objects, by the library's twins -/
noncomputable abbrev segQ (p : Program) (w : World) (n : Nat) (s : SharedT) (t : Thread) : Option (Flow × SharedT × Code × Pos) := Fast.tw10110043849684766642 Fast.tw14364793385576792824 p w 11 (some (Value.ref 6)) 1 n s t
theorem segQ_eq {p : Program} {w : World} {n : Nat} {s : SharedT} {t : Thread} : segQ p w n s t = segRunT treeTable p w 11 (some (Value.ref 6)) 1 n s t := by
  unfold segQ
  rw [← Fast.te10110043849684766642, ← Fast.te14364793385576792824]
theorem segQ_of {p : Program} {w : World} {n : Nat} {s s' : SharedT} {t : Thread} {f : Flow} {c : Code} {q : Pos} (h : segQ p w n s t = some (f, s', c, q)) : segRun treeTable p w 11 (some (Value.ref 6)) 1 n s.abs t = some (f, s'.abs, c, q) :=
  segRun_of (segQ_eq ▸ h)
noncomputable def treeOf (l : List Obj) : BT := (l.foldl (fun (x : BT × Nat) o => (x.1.ins x.2 o, x.2 + 1)) (.nil, 0)).1
/-- the objects of a state, by address: those of S, and those of K where S has none -/
noncomputable def fillS : Nat → Nat → List (Addr × Obj) → Frag → List Obj
  | 0, _, _, _ => []
  | n + 1, i, S, K => match S with
    | (j, o) :: S' => (match Nat.beq j i with
      | true => o :: fillS n (i + 1) S' (match K with | (a, x) :: K' => (match Nat.beq a i with | true => K' | false => (a, x) :: K') | [] => [])
      | false => (match K with | (_, x) :: K' => x :: fillS n (i + 1) ((j, o) :: S') K' | [] => []))
    | [] => (match K with | (_, x) :: K' => x :: fillS n (i + 1) [] K' | [] => [])
noncomputable def stS (S : Params → List (Addr × Obj)) (n toks : Nat) (w : World) (os : OsState) : SharedT := ⟨treeOf (fillS n 0 (S w.params) (seed.heap_1 w.params)), n, {}, Array.mk [], {}, toks, os⟩
/-- the addresses of S and K are those from i on, each once -/
noncomputable def okF : Nat → Nat → List Nat → List Nat → Bool
  | 0, _, _, K => K.isEmpty
  | n + 1, i, S, K => match S with
    | j :: S' => (match Nat.beq j i with
      | true => (match K with | a :: K' => !Nat.beq a i && okF n (i + 1) S' (a :: K') | [] => okF n (i + 1) S' [])
      | false => (match K with | a :: K' => Nat.beq a i && okF n (i + 1) (j :: S') K' | [] => false))
    | [] => (match K with | a :: K' => Nat.beq a i && okF n (i + 1) [] K' | [] => true)
theorem fill_at : ∀ (n i : Nat) (S : List (Addr × Obj)) (K : Frag), okF n i (S.map (·.1)) (K.map (·.1)) = true → ∀ (a : Nat) (o : Obj), K.lookup a = some o → ∃ k, a = i + k ∧ (fillS n i S K)[k]? = some o
  | 0, i, S, K, h, a, o, e => by
    cases K with
    | nil => cases e
    | cons p K => cases h
  | n + 1, i, S, K, h, a, o, e => by
    have one : ∀ (K' : Frag) (b : Nat) (x : Obj) (S' : List (Addr × Obj)), Nat.beq b i = true → okF n (i + 1) (S'.map (·.1)) (K'.map (·.1)) = true → List.lookup a ((b, x) :: K') = some o → ∃ k, a = i + k ∧ (x :: fillS n (i + 1) S' K')[k]? = some o := fun K' b x S' hb hk he => by
      have hb := Nat.eq_of_beq_eq_true hb
      subst hb
      simp only [List.lookup] at he
      cases q : (a == b) with
      | true =>
        rw [q] at he
        exact ⟨0, by rw [beq_iff_eq.mp q]; rfl, he⟩
      | false =>
        rw [q] at he
        obtain ⟨k, e1, e2⟩ := fill_at n (b + 1) S' K' hk a o he
        exact ⟨k + 1, by omega, e2⟩
    cases S with
    | nil =>
      cases K with
      | nil => cases e
      | cons p K =>
        obtain ⟨b, x⟩ := p
        simp only [okF, List.map_cons, List.map_nil, Bool.and_eq_true] at h
        exact one K b x [] h.1 h.2 e
    | cons s S =>
      obtain ⟨j, y⟩ := s
      simp only [okF, List.map_cons] at h
      simp only [fillS]
      cases q : Nat.beq j i with
      | true =>
        rw [q] at h
        cases K with
        | nil => cases e
        | cons p K =>
          obtain ⟨b, x⟩ := p
          simp only [List.map_cons, Bool.and_eq_true, Bool.not_eq_true'] at h
          simp only [h.1]
          obtain ⟨k, e1, e2⟩ := fill_at n (i + 1) S ((b, x) :: K) h.2 a o e
          exact ⟨k + 1, by omega, e2⟩
      | false =>
        rw [q] at h
        cases K with
        | nil => cases e
        | cons p K =>
          obtain ⟨b, x⟩ := p
          simp only [List.map_cons, Bool.and_eq_true] at h
          exact one K b x ((j, y) :: S) h.1 (by rw [List.map_cons]; exact h.2) e
theorem in_of_fill {S : List (Addr × Obj)} {K : Frag} {n : Nat} {h : Heap} (e : h.objs.toList = fillS n 0 S K) (ok : okF n 0 (S.map (·.1)) (K.map (·.1)) = true) (nf : (K.all fun p => match p.2.data with | .freed => false | _ => true) = true) : K.In h := fun a o ho => by
  obtain ⟨k, e1, e2⟩ := fill_at n 0 S K ok a o ho
  have hk : k = a := by omega
  subst hk
  have hn : (match o.data with | .freed => false | _ => true) = true := by
    have : ∀ (K : Frag), (K.all fun p => match p.2.data with | .freed => false | _ => true) = true → K.lookup k = some o → (match o.data with | .freed => false | _ => true) = true := fun K => by
      induction K with
      | nil => intro _ h; cases h
      | cons p K ih =>
        intro h1 h2
        simp only [List.all_cons, Bool.and_eq_true] at h1
        simp only [List.lookup] at h2
        split at h2
        · cases h2; exact h1.1
        · exact ih h1.2 h2
    exact this K nf ho
  unfold Heap.get?
  rw [← Array.getElem?_toList, e, e2]
  obtain ⟨c, d, dt, sl⟩ := o
  cases dt <;> first | rfl | cases hn
theorem fin_run {p : Program} {w : World} {s : Shared} {c : Code} {pos q : Pos} : topRun treeTable p w 11 (some (Value.ref 6)) 2 s ⟨doneF .next, c, pos, [topFrame q]⟩ = some s := by
  obtain ⟨h, g, d, t, os⟩ := s
  rfl
theorem left_of {p q : Program} {loose : List Str} {Xt : Shared → Bool} {α : Type} {Yf : Shared → α} {Ya : World → α} {N M : Nat} {m₀ : Nat} {ann : Option Value} (w : World)
    (open_ : (fencedOpening treeTable p w N).map (fun s => (s.heap, s.gens, s.drawn, s.toks)) = some (boot_heap w.params, Array.mk [], boot_drawn, boot_toks))
    (size : ((boot_heap w.params).isNs mainGlobals && (Array.mk [] : Array GenState).size == 0, (boot_heap w.params).objs.size, (boot_heap w.params).nsMap mainGlobals "__annotations__") = (true, m₀, ann))
    (run : ∀ os : OsState, ∃ s₁ : Shared, topRun treeTable p w m₀ ann M ⟨boot_heap w.params, Array.mk [], boot_drawn, boot_toks, os⟩ (topStub p) = some s₁ ∧ ((staticsOk (importedModules p.main.body) (boot_heap w.params) s₁.heap && namesBound p s₁.heap && gensDone s₁ && laidKept (boot_heap w.params) s₁.heap),
        Fast.tw4187177175401517315 q loose (importedModules p.main.body) Xt true s₁, Yf s₁) = (true, openGood q loose, Ya w)) (le : Nat.ble M N = true) :
    (openEnds treeTable p w N).map (fun s => (openSeen q loose (importedModules p.main.body) Xt true s, Yf s)) = some (openGood q loose, Ya w) := by
  obtain ⟨⟨h, gs, d, k, os⟩, e, e'⟩ := Option.map_eq_some_iff.mp open_
  obtain ⟨rfl, rfl, rfl, rfl⟩ : h = boot_heap w.params ∧ gs = Array.mk [] ∧ d = boot_drawn ∧ k = boot_toks := by simpa using e'
  obtain ⟨z1, z2, z3⟩ : _ ∧ _ ∧ _ := by simpa only [Prod.mk.injEq] using size
  obtain ⟨s₁, r0, l0⟩ := run os
  have l1 := congrArg Prod.fst l0
  have l2 := congrArg (fun x => x.2.1) l0
  have l3 := congrArg (fun x => x.2.2) l0
  dsimp only at l1 l2 l3
  rw [← Fast.te4187177175401517315] at l2
  have r := topRun_mono (N - M) _ _ _ _ r0
  rw [show M + (N - M) = N by have := Nat.le_of_ble_eq_true le; omega] at r
  have t : topFrom treeTable p w N ⟨boot_heap w.params, Array.mk [], boot_drawn, boot_toks, os⟩ = some s₁ := by
    unfold topFrom
    dsimp only
    rw [z1, z2, z3, r]
    show (match staticsOk (importedModules p.main.body) (boot_heap w.params) s₁.heap && namesBound p s₁.heap && gensDone s₁ && laidKept (boot_heap w.params) s₁.heap with | true => _ | false => _) = _
    rw [l1]
  unfold openEnds
  rw [e]
  show (topFrom treeTable p w N _).map _ = _
  rw [t]
  exact congrArg some (Prod.ext l2 l3)
end
section -- MHead
noncomputable def asL : List Addr := [0, 1, 2, 3, 4, 5, 6, 7, 8, 9, 10, 11, 12, 13, 14, 15, 16, 17, 18, 19, 20, 21, 22, 25, 30, 31, 32, 33, 34, 35, 36, 37, 38, 39, 40, 41, 42, 43, 44, 45, 46, 47, 48, 51, 54, 59, 60, 61, 62, 63, 64, 65, 66, 67, 68, 69, 70, 71, 72, 73, 74, 75, 76, 79, 86, 87, 88, 91, 92, 93, 94, 95, 96, 97, 98, 99, 100, 101, 102, 103, 104, 105, 106, 107, 108, 109, 110, 111, 112, 113, 114, 115, 116, 117, 118, 119, 120, 121, 122, 123, 124, 125, 126, 127, 128, 129, 130, 131, 132, 133, 134, 135, 136, 137, 139, 140, 141, 142, 143, 144, 145, 146, 147, 148, 149, 150, 151, 152, 153, 154, 155, 156, 157, 158, 159, 160, 161, 162, 163, 164, 165, 166, 167, 168, 169, 170, 171, 172, 174, 175, 176, 177, 178, 179, 180, 181, 182, 183, 184, 185, 186, 187, 188, 189, 190, 191, 192, 193, 194, 195, 196, 197, 198, 199, 200, 201, 202, 203, 204, 205, 206, 207, 208, 209, 210, 211, 212, 220, 221, 222, 223, 224, 225, 226, 227, 228, 229, 230, 231, 232, 233, 234, 235, 236, 237, 238, 239, 240, 241, 242, 243, 244, 245, 246, 247, 248, 249, 250, 251, 252, 253, 254, 255, 256, 257, 258, 259, 269, 270, 271, 272, 273, 274, 275, 276, 277, 278, 279, 280, 281, 282, 283, 284, 285, 286, 287, 288, 289, 290, 291, 292, 293, 294, 295, 296, 297, 298, 299, 300, 301, 302, 303, 304, 305, 306, 307, 308, 309, 310, 311, 312, 313, 314, 315, 316, 317, 318, 319, 320, 321, 322, 323, 324, 325, 326, 327, 328, 329, 330, 331, 332, 333, 334, 335, 336, 337, 338, 339, 340, 341, 342, 343, 344, 345, 346, 347, 348, 349, 350, 351, 352, 353, 354, 355, 356, 357, 358, 359, 360, 361, 362, 363, 364, 365, 366, 367, 368, 369, 370, 371, 372, 373, 374, 375, 376, 377, 378, 379, 380, 381, 382, 383, 384, 385, 386, 387, 388, 389, 390, 391, 392, 393, 394, 395, 396, 397, 398, 399, 400, 401, 402, 403, 404, 405, 406, 407, 408, 409, 410, 411, 412, 413, 414, 415, 416, 417, 418, 419, 420, 421, 422, 423, 424, 425, 426, 427, 428, 429, 430, 431, 432, 433, 434, 435, 436, 437, 438, 439, 440, 441, 442, 443, 444, 445, 446, 447, 448, 449, 450, 451, 452, 453, 454, 455, 456, 457, 458, 459, 460, 461, 462, 463, 464, 465, 466, 467, 468, 469, 470, 471, 472, 473, 474, 475, 476, 477, 478, 479, 480, 481, 482, 483, 484, 485, 486, 487, 488, 489, 490, 491, 492, 493, 494, 495, 496, 499, 500, 501, 502, 503, 504, 505, 506, 507, 508, 509, 510, 511, 512, 513, 514, 515, 516, 517, 518, 519, 520, 521, 522, 523, 524, 525, 526, 527, 528, 529, 530, 531, 532, 533, 534, 535, 536, 537, 538, 539, 540, 541, 542, 543, 544, 545, 546, 547, 548, 549, 550, 551, 552, 553, 554, 555, 556, 557, 558, 559, 560, 561, 562, 563, 564, 565, 566, 567, 568, 569, 570, 571, 572, 573, 574, 575, 576, 577, 578, 579, 580, 581, 582, 583, 584, 585, 586, 587, 588, 589, 590, 591, 592, 593, 594, 595, 596, 597, 598, 599, 600, 601, 602, 603, 604, 605, 606, 607]
noncomputable def ob2 (_ : Params) : Obj := { cls := Value.none, data := Data.dict #[] }
noncomputable def ob3 (P : Params) : Obj := { cls := Value.type "dict", data := Data.dict #[{ hash := PyData.keyHash P (Str.ofString "__name__"), key := Value.str (Str.ofString "__name__") 165, val := Value.str (Str.ofString "__main__") 164 }, { hash := PyData.keyHash P (Str.ofString "__doc__"), key := Value.str (Str.ofString "__doc__") 166, val := Value.none }, { hash := PyData.keyHash P (Str.ofString "__package__"), key := Value.str (Str.ofString "__package__") 167, val := Value.none }, { hash := PyData.keyHash P (Str.ofString "__loader__"), key := Value.str (Str.ofString "__loader__") 168, val := Value.builtin "__main__.__loader__#opaque" }, { hash := PyData.keyHash P (Str.ofString "__spec__"), key := Value.str (Str.ofString "__spec__") 169, val := Value.none }, { hash := PyData.keyHash P (Str.ofString "__annotations__"), key := Value.str (Str.ofString "__annotations__") 170, val := Value.ref 6 }, { hash := PyData.keyHash P (Str.ofString "__builtins__"), key := Value.str (Str.ofString "__builtins__") 171, val := Value.ref 4 }, { hash := PyData.keyHash P (Str.ofString "__file__"), key := Value.str (Str.ofString "__file__") 173, val := Value.str (Str.ofString "/claim/cut.py") 172 }, { hash := PyData.keyHash P (Str.ofString "__cached__"), key := Value.str (Str.ofString "__cached__") 174, val := Value.none }] 9 }
noncomputable def ob12 (_ : Params) : Obj := { cls := Value.none, data := Data.fields #[] }
noncomputable def sp_a (P : Params) : List (Addr × Obj) := [(2, ob2 P), (3, ob3 P), (12, ob12 P)]
noncomputable abbrev po_a : Pos := { line := 0, col := 0, endLine := 0, endCol := 0 }
noncomputable abbrev st_a (w : World) (os : OsState) : SharedT := stS sp_a 15 187 w os
noncomputable def ob3x1 (P : Params) : Obj := { cls := Value.type "dict", data := Data.dict #[{ hash := PyData.keyHash P (Str.ofString "__name__"), key := Value.str (Str.ofString "__name__") 165, val := Value.str (Str.ofString "fdsolve.kinds") 285 }, { hash := PyData.keyHash P (Str.ofString "__doc__"), key := Value.str (Str.ofString "__doc__") 166, val := Value.none }, { hash := PyData.keyHash P (Str.ofString "__package__"), key := Value.str (Str.ofString "__package__") 167, val := Value.none }, { hash := PyData.keyHash P (Str.ofString "__loader__"), key := Value.str (Str.ofString "__loader__") 168, val := Value.builtin "__main__.__loader__#opaque" }, { hash := PyData.keyHash P (Str.ofString "__spec__"), key := Value.str (Str.ofString "__spec__") 169, val := Value.none }, { hash := PyData.keyHash P (Str.ofString "__annotations__"), key := Value.str (Str.ofString "__annotations__") 170, val := Value.ref 6 }, { hash := PyData.keyHash P (Str.ofString "__builtins__"), key := Value.str (Str.ofString "__builtins__") 171, val := Value.ref 4 }, { hash := PyData.keyHash P (Str.ofString "__file__"), key := Value.str (Str.ofString "__file__") 173, val := Value.str (Str.ofString "/claim/cut.py") 172 }, { hash := PyData.keyHash P (Str.ofString "__cached__"), key := Value.str (Str.ofString "__cached__") 174, val := Value.none }, { hash := PyData.keyHash P (Str.ofString "_wall"), key := Value.str (Str.ofString "_wall") 193, val := Value.ref 21 }, { hash := PyData.keyHash P (Str.ofString "FdError"), key := Value.str (Str.ofString "FdError") 233, val := Value.ref 47 }, { hash := PyData.keyHash P (Str.ofString "SpotFault"), key := Value.str (Str.ofString "SpotFault") 268, val := Value.ref 76 }, { hash := PyData.keyHash P (Str.ofString "KindFault"), key := Value.str (Str.ofString "KindFault") 284, val := Value.ref 88 }, { hash := PyData.keyHash P (Str.ofString "INT"), key := Value.str (Str.ofString "INT") 289, val := Value.ref 91 }, { hash := PyData.keyHash P (Str.ofString "BOOL"), key := Value.str (Str.ofString "BOOL") 292, val := Value.ref 92 }, { hash := PyData.keyHash P (Str.ofString "INTS"), key := Value.str (Str.ofString "INTS") 295, val := Value.ref 93 }, { hash := PyData.keyHash P (Str.ofString "BOOLS"), key := Value.str (Str.ofString "BOOLS") 298, val := Value.ref 94 }, { hash := PyData.keyHash P (Str.ofString "KNOWN"), key := Value.str (Str.ofString "KNOWN") 301, val := Value.ref 95 }, { hash := PyData.keyHash P (Str.ofString "KNOWNS"), key := Value.str (Str.ofString "KNOWNS") 304, val := Value.ref 96 }, { hash := PyData.keyHash P (Str.ofString "ROWS"), key := Value.str (Str.ofString "ROWS") 307, val := Value.ref 97 }, { hash := PyData.keyHash P (Str.ofString "SET"), key := Value.str (Str.ofString "SET") 310, val := Value.ref 98 }, { hash := PyData.keyHash P (Str.ofString "TEXT"), key := Value.str (Str.ofString "TEXT") 313, val := Value.ref 99 }, { hash := PyData.keyHash P (Str.ofString "TEXTS"), key := Value.str (Str.ofString "TEXTS") 316, val := Value.ref 100 }, { hash := PyData.keyHash P (Str.ofString "SETS"), key := Value.str (Str.ofString "SETS") 319, val := Value.ref 101 }, { hash := PyData.keyHash P (Str.ofString "TRUTHS"), key := Value.str (Str.ofString "TRUTHS") 322, val := Value.ref 102 }] 25 }
noncomputable def ob12x1 (_ : Params) : Obj := { cls := Value.none, data := Data.fields #[Value.int 1 0, Value.int 0 0, Value.ref 20, Value.int 5 0, Value.int 0 0, Value.ref 28, Value.int 13 0, Value.int 0 0, Value.ref 57, Value.int 21 0, Value.int 0 0, Value.ref 84] }
noncomputable def ob23 (_ : Params) : Obj := { cls := Value.type "builtin_function_or_method", data := Data.fields #[Value.builtin "type.__prepare__", Value.type "type"] }
noncomputable def ob24 (P : Params) : Obj := { cls := Value.type "dict", data := Data.dict #[{ hash := PyData.keyHash P (Str.ofString "__module__"), key := Value.str (Str.ofString "__module__") 203, val := Value.str (Str.ofString "fdsolve.errors") 194 }, { hash := PyData.keyHash P (Str.ofString "__qualname__"), key := Value.str (Str.ofString "__qualname__") 205, val := Value.str (Str.ofString "FdError") 204 }, { hash := PyData.keyHash P (Str.ofString "__firstlineno__"), key := Value.str (Str.ofString "__firstlineno__") 207, val := Value.int 5 206 }, { hash := PyData.keyHash P (Str.ofString "__init__"), key := Value.str (Str.ofString "__init__") 216, val := Value.ref 37 }, { hash := PyData.keyHash P (Str.ofString "told"), key := Value.str (Str.ofString "told") 223, val := Value.ref 44 }, { hash := PyData.keyHash P (Str.ofString "__static_attributes__"), key := Value.str (Str.ofString "__static_attributes__") 225, val := Value.ref 45 }, { hash := PyData.keyHash P (Str.ofString "__classcell__"), key := Value.str (Str.ofString "__classcell__") 226, val := Value.ref 25 }] 7 }
noncomputable def ob26 (_ : Params) : Obj := { cls := Value.type "tuple", data := Data.seq #[] }
noncomputable def ob27 (_ : Params) : Obj := { cls := Value.none, data := Data.fields #[Value.int 7 0, Value.int 4 0, Value.ref 36, Value.int 11 0, Value.int 4 0, Value.ref 43] }
noncomputable def ob28 (_ : Params) : Obj := { cls := Value.type "code", data := Data.fields #[Value.str (Str.ofString "FdError") 198, Value.str (Str.ofString "FdError") 199, Value.str (Str.ofString "/claim/cut.py") 200, Value.int 5 0, Value.int 0 0, Value.int 0 0, Value.int 0 0, Value.int 0 0, Value.ref 26, Value.bool false, Value.int 181 0, Value.ref 27, Value.none, Value.none, Value.none, Value.none, Value.int 201 0, Value.int 5 0, Value.str (Str.ofString "/claim/cut.py") 202] }
noncomputable def ob29 (_ : Params) : Obj := { cls := Value.type "frame", slots := #[some (Value.ref 28), some (Value.ref 3), some (Value.ref 24), none, some (Value.str (Str.ofString "fdsolve.errors") 194), none, some (Value.ref 0)] }
noncomputable def ob49 (_ : Params) : Obj := { cls := Value.type "super", data := Data.fields #[Value.ref 47, Value.ref 47, Value.ref 47] }
noncomputable def ob50 (_ : Params) : Obj := { cls := Value.type "builtin_function_or_method", data := Data.fields #[Value.builtin "object.__init_subclass__", Value.ref 47] }
noncomputable def ob52 (_ : Params) : Obj := { cls := Value.type "builtin_function_or_method", data := Data.fields #[Value.builtin "type.__prepare__", Value.type "type"] }
noncomputable def ob53 (P : Params) : Obj := { cls := Value.type "dict", data := Data.dict #[{ hash := PyData.keyHash P (Str.ofString "__module__"), key := Value.str (Str.ofString "__module__") 241, val := Value.str (Str.ofString "fdsolve.errors") 194 }, { hash := PyData.keyHash P (Str.ofString "__qualname__"), key := Value.str (Str.ofString "__qualname__") 243, val := Value.str (Str.ofString "SpotFault") 242 }, { hash := PyData.keyHash P (Str.ofString "__firstlineno__"), key := Value.str (Str.ofString "__firstlineno__") 245, val := Value.int 13 244 }, { hash := PyData.keyHash P (Str.ofString "__init__"), key := Value.str (Str.ofString "__init__") 255, val := Value.ref 66 }, { hash := PyData.keyHash P (Str.ofString "told"), key := Value.str (Str.ofString "told") 262, val := Value.ref 73 }, { hash := PyData.keyHash P (Str.ofString "__static_attributes__"), key := Value.str (Str.ofString "__static_attributes__") 264, val := Value.ref 74 }, { hash := PyData.keyHash P (Str.ofString "__classcell__"), key := Value.str (Str.ofString "__classcell__") 265, val := Value.ref 54 }] 7 }
noncomputable def ob55 (_ : Params) : Obj := { cls := Value.type "tuple", data := Data.seq #[] }
noncomputable def ob56 (_ : Params) : Obj := { cls := Value.none, data := Data.fields #[Value.int 15 0, Value.int 4 0, Value.ref 65, Value.int 19 0, Value.int 4 0, Value.ref 72] }
noncomputable def ob57 (_ : Params) : Obj := { cls := Value.type "code", data := Data.fields #[Value.str (Str.ofString "SpotFault") 236, Value.str (Str.ofString "SpotFault") 237, Value.str (Str.ofString "/claim/cut.py") 238, Value.int 13 0, Value.int 0 0, Value.int 0 0, Value.int 0 0, Value.int 0 0, Value.ref 55, Value.bool false, Value.int 181 0, Value.ref 56, Value.none, Value.none, Value.none, Value.none, Value.int 239 0, Value.int 13 0, Value.str (Str.ofString "/claim/cut.py") 240] }
noncomputable def ob58 (_ : Params) : Obj := { cls := Value.type "frame", slots := #[some (Value.ref 57), some (Value.ref 3), some (Value.ref 53), none, some (Value.str (Str.ofString "fdsolve.errors") 194), none, some (Value.ref 0)] }
noncomputable def ob77 (_ : Params) : Obj := { cls := Value.type "super", data := Data.fields #[Value.ref 76, Value.ref 76, Value.ref 76] }
noncomputable def ob78 (_ : Params) : Obj := { cls := Value.type "builtin_function_or_method", data := Data.fields #[Value.builtin "object.__init_subclass__", Value.ref 76] }
noncomputable def ob80 (_ : Params) : Obj := { cls := Value.type "builtin_function_or_method", data := Data.fields #[Value.builtin "type.__prepare__", Value.type "type"] }
noncomputable def ob81 (P : Params) : Obj := { cls := Value.type "dict", data := Data.dict #[{ hash := PyData.keyHash P (Str.ofString "__module__"), key := Value.str (Str.ofString "__module__") 276, val := Value.str (Str.ofString "fdsolve.errors") 194 }, { hash := PyData.keyHash P (Str.ofString "__qualname__"), key := Value.str (Str.ofString "__qualname__") 278, val := Value.str (Str.ofString "KindFault") 277 }, { hash := PyData.keyHash P (Str.ofString "__firstlineno__"), key := Value.str (Str.ofString "__firstlineno__") 280, val := Value.int 21 279 }, { hash := PyData.keyHash P (Str.ofString "__static_attributes__"), key := Value.str (Str.ofString "__static_attributes__") 281, val := Value.ref 86 }] 4 }
noncomputable def ob82 (_ : Params) : Obj := { cls := Value.type "tuple", data := Data.seq #[] }
noncomputable def ob83 (_ : Params) : Obj := { cls := Value.none, data := Data.fields #[] }
noncomputable def ob84 (_ : Params) : Obj := { cls := Value.type "code", data := Data.fields #[Value.str (Str.ofString "KindFault") 271, Value.str (Str.ofString "KindFault") 272, Value.str (Str.ofString "/claim/cut.py") 273, Value.int 21 0, Value.int 0 0, Value.int 0 0, Value.int 0 0, Value.int 0 0, Value.ref 82, Value.bool false, Value.int 181 0, Value.ref 83, Value.none, Value.none, Value.none, Value.none, Value.int 274 0, Value.int 21 0, Value.str (Str.ofString "/claim/cut.py") 275] }
noncomputable def ob85 (_ : Params) : Obj := { cls := Value.type "frame", slots := #[some (Value.ref 84), some (Value.ref 3), some (Value.ref 81), none, some (Value.str (Str.ofString "fdsolve.errors") 194), none, some (Value.ref 0)] }
noncomputable def ob89 (_ : Params) : Obj := { cls := Value.type "super", data := Data.fields #[Value.ref 88, Value.ref 88, Value.ref 88] }
noncomputable def ob90 (_ : Params) : Obj := { cls := Value.type "builtin_function_or_method", data := Data.fields #[Value.builtin "object.__init_subclass__", Value.ref 88] }
noncomputable def sp_s17 (P : Params) : List (Addr × Obj) := [(3, ob3x1 P), (12, ob12x1 P), (23, ob23 P), (24, ob24 P), (26, ob26 P), (27, ob27 P), (28, ob28 P), (29, ob29 P), (49, ob49 P), (50, ob50 P), (52, ob52 P), (53, ob53 P), (55, ob55 P), (56, ob56 P), (57, ob57 P), (58, ob58 P), (77, ob77 P), (78, ob78 P), (80, ob80 P), (81, ob81 P), (82, ob82 P), (83, ob83 P), (84, ob84 P), (85, ob85 P), (89, ob89 P), (90, ob90 P)]
noncomputable abbrev po_s17 : Pos := { line := 35, col := 0, endLine := 35, endCol := 6 }
noncomputable abbrev st_s17 (w : World) (os : OsState) : SharedT := stS sp_s17 103 323 w os
noncomputable def ob3x2 (P : Params) : Obj := { cls := Value.type "dict", data := Data.dict #[{ hash := PyData.keyHash P (Str.ofString "__name__"), key := Value.str (Str.ofString "__name__") 165, val := Value.str (Str.ofString "fdsolve.kinds") 285 }, { hash := PyData.keyHash P (Str.ofString "__doc__"), key := Value.str (Str.ofString "__doc__") 166, val := Value.none }, { hash := PyData.keyHash P (Str.ofString "__package__"), key := Value.str (Str.ofString "__package__") 167, val := Value.none }, { hash := PyData.keyHash P (Str.ofString "__loader__"), key := Value.str (Str.ofString "__loader__") 168, val := Value.builtin "__main__.__loader__#opaque" }, { hash := PyData.keyHash P (Str.ofString "__spec__"), key := Value.str (Str.ofString "__spec__") 169, val := Value.none }, { hash := PyData.keyHash P (Str.ofString "__annotations__"), key := Value.str (Str.ofString "__annotations__") 170, val := Value.ref 6 }, { hash := PyData.keyHash P (Str.ofString "__builtins__"), key := Value.str (Str.ofString "__builtins__") 171, val := Value.ref 4 }, { hash := PyData.keyHash P (Str.ofString "__file__"), key := Value.str (Str.ofString "__file__") 173, val := Value.str (Str.ofString "/claim/cut.py") 172 }, { hash := PyData.keyHash P (Str.ofString "__cached__"), key := Value.str (Str.ofString "__cached__") 174, val := Value.none }, { hash := PyData.keyHash P (Str.ofString "_wall"), key := Value.str (Str.ofString "_wall") 193, val := Value.ref 21 }, { hash := PyData.keyHash P (Str.ofString "FdError"), key := Value.str (Str.ofString "FdError") 233, val := Value.ref 47 }, { hash := PyData.keyHash P (Str.ofString "SpotFault"), key := Value.str (Str.ofString "SpotFault") 268, val := Value.ref 76 }, { hash := PyData.keyHash P (Str.ofString "KindFault"), key := Value.str (Str.ofString "KindFault") 284, val := Value.ref 88 }, { hash := PyData.keyHash P (Str.ofString "INT"), key := Value.str (Str.ofString "INT") 289, val := Value.ref 91 }, { hash := PyData.keyHash P (Str.ofString "BOOL"), key := Value.str (Str.ofString "BOOL") 292, val := Value.ref 92 }, { hash := PyData.keyHash P (Str.ofString "INTS"), key := Value.str (Str.ofString "INTS") 295, val := Value.ref 93 }, { hash := PyData.keyHash P (Str.ofString "BOOLS"), key := Value.str (Str.ofString "BOOLS") 298, val := Value.ref 94 }, { hash := PyData.keyHash P (Str.ofString "KNOWN"), key := Value.str (Str.ofString "KNOWN") 301, val := Value.ref 95 }, { hash := PyData.keyHash P (Str.ofString "KNOWNS"), key := Value.str (Str.ofString "KNOWNS") 304, val := Value.ref 96 }, { hash := PyData.keyHash P (Str.ofString "ROWS"), key := Value.str (Str.ofString "ROWS") 307, val := Value.ref 97 }, { hash := PyData.keyHash P (Str.ofString "SET"), key := Value.str (Str.ofString "SET") 310, val := Value.ref 98 }, { hash := PyData.keyHash P (Str.ofString "TEXT"), key := Value.str (Str.ofString "TEXT") 313, val := Value.ref 99 }, { hash := PyData.keyHash P (Str.ofString "TEXTS"), key := Value.str (Str.ofString "TEXTS") 316, val := Value.ref 100 }, { hash := PyData.keyHash P (Str.ofString "SETS"), key := Value.str (Str.ofString "SETS") 319, val := Value.ref 101 }, { hash := PyData.keyHash P (Str.ofString "TRUTHS"), key := Value.str (Str.ofString "TRUTHS") 322, val := Value.ref 102 }, { hash := PyData.keyHash P (Str.ofString "CALLS"), key := Value.str (Str.ofString "CALLS") 440, val := Value.ref 103 }] 26 }
noncomputable def ob138 (P : Params) : Obj := { cls := Value.type "dict", data := Data.dict #[{ hash := PyData.keyHash P (Str.ofString "circuit"), key := Value.str (Str.ofString "circuit") 374, val := Value.ref 140 }, { hash := PyData.keyHash P (Str.ofString "increasing"), key := Value.str (Str.ofString "increasing") 377, val := Value.ref 142 }, { hash := PyData.keyHash P (Str.ofString "decreasing"), key := Value.str (Str.ofString "decreasing") 380, val := Value.ref 144 }, { hash := PyData.keyHash P (Str.ofString "inverse"), key := Value.str (Str.ofString "inverse") 383, val := Value.ref 146 }, { hash := PyData.keyHash P (Str.ofString "lex_less"), key := Value.str (Str.ofString "lex_less") 386, val := Value.ref 148 }, { hash := PyData.keyHash P (Str.ofString "lex_lesseq"), key := Value.str (Str.ofString "lex_lesseq") 389, val := Value.ref 150 }, { hash := PyData.keyHash P (Str.ofString "lex_greater"), key := Value.str (Str.ofString "lex_greater") 392, val := Value.ref 152 }, { hash := PyData.keyHash P (Str.ofString "lex_greatereq"), key := Value.str (Str.ofString "lex_greatereq") 395, val := Value.ref 154 }, { hash := PyData.keyHash P (Str.ofString "element"), key := Value.str (Str.ofString "element") 398, val := Value.ref 156 }, { hash := PyData.keyHash P (Str.ofString "table"), key := Value.str (Str.ofString "table") 401, val := Value.ref 158 }, { hash := PyData.keyHash P (Str.ofString "cumulative"), key := Value.str (Str.ofString "cumulative") 404, val := Value.ref 160 }, { hash := PyData.keyHash P (Str.ofString "disjunctive"), key := Value.str (Str.ofString "disjunctive") 407, val := Value.ref 162 }, { hash := PyData.keyHash P (Str.ofString "regular"), key := Value.str (Str.ofString "regular") 410, val := Value.ref 164 }, { hash := PyData.keyHash P (Str.ofString "value_precede"), key := Value.str (Str.ofString "value_precede") 413, val := Value.ref 166 }, { hash := PyData.keyHash P (Str.ofString "global_cardinality"), key := Value.str (Str.ofString "global_cardinality") 416, val := Value.ref 168 }, { hash := PyData.keyHash P (Str.ofString "global_cardinality_low_up"), key := Value.str (Str.ofString "global_cardinality_low_up") 419, val := Value.ref 170 }, { hash := PyData.keyHash P (Str.ofString "nvalue"), key := Value.str (Str.ofString "nvalue") 422, val := Value.ref 172 }] 17 }
noncomputable def ob173 (P : Params) : Obj := { cls := Value.type "dict", data := Data.dict #[{ hash := PyData.keyHash P (Str.ofString "at_least"), key := Value.str (Str.ofString "at_least") 425, val := Value.ref 175 }, { hash := PyData.keyHash P (Str.ofString "at_most"), key := Value.str (Str.ofString "at_most") 427, val := Value.ref 177 }, { hash := PyData.keyHash P (Str.ofString "exactly"), key := Value.str (Str.ofString "exactly") 429, val := Value.ref 179 }, { hash := PyData.keyHash P (Str.ofString "maximum"), key := Value.str (Str.ofString "maximum") 431, val := Value.ref 181 }, { hash := PyData.keyHash P (Str.ofString "minimum"), key := Value.str (Str.ofString "minimum") 433, val := Value.ref 183 }] 5 }
noncomputable def sp_s18 (P : Params) : List (Addr × Obj) := [(3, ob3x2 P), (12, ob12x1 P), (23, ob23 P), (24, ob24 P), (26, ob26 P), (27, ob27 P), (28, ob28 P), (29, ob29 P), (49, ob49 P), (50, ob50 P), (52, ob52 P), (53, ob53 P), (55, ob55 P), (56, ob56 P), (57, ob57 P), (58, ob58 P), (77, ob77 P), (78, ob78 P), (80, ob80 P), (81, ob81 P), (82, ob82 P), (83, ob83 P), (84, ob84 P), (85, ob85 P), (89, ob89 P), (90, ob90 P), (138, ob138 P), (173, ob173 P)]
noncomputable abbrev po_s18 : Pos := { line := 36, col := 0, endLine := 36, endCol := 5 }
noncomputable abbrev st_s18 (w : World) (os : OsState) : SharedT := stS sp_s18 184 441 w os
noncomputable def ob3x3 (P : Params) : Obj := { cls := Value.type "dict", data := Data.dict #[{ hash := PyData.keyHash P (Str.ofString "__name__"), key := Value.str (Str.ofString "__name__") 165, val := Value.str (Str.ofString "fdsolve.kinds") 285 }, { hash := PyData.keyHash P (Str.ofString "__doc__"), key := Value.str (Str.ofString "__doc__") 166, val := Value.none }, { hash := PyData.keyHash P (Str.ofString "__package__"), key := Value.str (Str.ofString "__package__") 167, val := Value.none }, { hash := PyData.keyHash P (Str.ofString "__loader__"), key := Value.str (Str.ofString "__loader__") 168, val := Value.builtin "__main__.__loader__#opaque" }, { hash := PyData.keyHash P (Str.ofString "__spec__"), key := Value.str (Str.ofString "__spec__") 169, val := Value.none }, { hash := PyData.keyHash P (Str.ofString "__annotations__"), key := Value.str (Str.ofString "__annotations__") 170, val := Value.ref 6 }, { hash := PyData.keyHash P (Str.ofString "__builtins__"), key := Value.str (Str.ofString "__builtins__") 171, val := Value.ref 4 }, { hash := PyData.keyHash P (Str.ofString "__file__"), key := Value.str (Str.ofString "__file__") 173, val := Value.str (Str.ofString "/claim/cut.py") 172 }, { hash := PyData.keyHash P (Str.ofString "__cached__"), key := Value.str (Str.ofString "__cached__") 174, val := Value.none }, { hash := PyData.keyHash P (Str.ofString "_wall"), key := Value.str (Str.ofString "_wall") 193, val := Value.ref 21 }, { hash := PyData.keyHash P (Str.ofString "FdError"), key := Value.str (Str.ofString "FdError") 233, val := Value.ref 47 }, { hash := PyData.keyHash P (Str.ofString "SpotFault"), key := Value.str (Str.ofString "SpotFault") 268, val := Value.ref 76 }, { hash := PyData.keyHash P (Str.ofString "KindFault"), key := Value.str (Str.ofString "KindFault") 284, val := Value.ref 88 }, { hash := PyData.keyHash P (Str.ofString "INT"), key := Value.str (Str.ofString "INT") 289, val := Value.ref 91 }, { hash := PyData.keyHash P (Str.ofString "BOOL"), key := Value.str (Str.ofString "BOOL") 292, val := Value.ref 92 }, { hash := PyData.keyHash P (Str.ofString "INTS"), key := Value.str (Str.ofString "INTS") 295, val := Value.ref 93 }, { hash := PyData.keyHash P (Str.ofString "BOOLS"), key := Value.str (Str.ofString "BOOLS") 298, val := Value.ref 94 }, { hash := PyData.keyHash P (Str.ofString "KNOWN"), key := Value.str (Str.ofString "KNOWN") 301, val := Value.ref 95 }, { hash := PyData.keyHash P (Str.ofString "KNOWNS"), key := Value.str (Str.ofString "KNOWNS") 304, val := Value.ref 96 }, { hash := PyData.keyHash P (Str.ofString "ROWS"), key := Value.str (Str.ofString "ROWS") 307, val := Value.ref 97 }, { hash := PyData.keyHash P (Str.ofString "SET"), key := Value.str (Str.ofString "SET") 310, val := Value.ref 98 }, { hash := PyData.keyHash P (Str.ofString "TEXT"), key := Value.str (Str.ofString "TEXT") 313, val := Value.ref 99 }, { hash := PyData.keyHash P (Str.ofString "TEXTS"), key := Value.str (Str.ofString "TEXTS") 316, val := Value.ref 100 }, { hash := PyData.keyHash P (Str.ofString "SETS"), key := Value.str (Str.ofString "SETS") 319, val := Value.ref 101 }, { hash := PyData.keyHash P (Str.ofString "TRUTHS"), key := Value.str (Str.ofString "TRUTHS") 322, val := Value.ref 102 }, { hash := PyData.keyHash P (Str.ofString "CALLS"), key := Value.str (Str.ofString "CALLS") 440, val := Value.ref 103 }, { hash := PyData.keyHash P (Str.ofString "OPEN_CALLS"), key := Value.str (Str.ofString "OPEN_CALLS") 455, val := Value.ref 184 }, { hash := PyData.keyHash P (Str.ofString "kind_text"), key := Value.str (Str.ofString "kind_text") 466, val := Value.ref 191 }, { hash := PyData.keyHash P (Str.ofString "fits"), key := Value.str (Str.ofString "fits") 474, val := Value.ref 198 }, { hash := PyData.keyHash P (Str.ofString "want"), key := Value.str (Str.ofString "want") 484, val := Value.ref 205 }, { hash := PyData.keyHash P (Str.ofString "common"), key := Value.str (Str.ofString "common") 496, val := Value.ref 212 }, { hash := PyData.keyHash P (Str.ofString "Names"), key := Value.str (Str.ofString "Names") 559, val := Value.ref 257 }, { hash := PyData.keyHash P (Str.ofString "Kinds"), key := Value.str (Str.ofString "Kinds") 915, val := Value.ref 494 }] 33 }
noncomputable def ob12x2 (_ : Params) : Obj := { cls := Value.none, data := Data.fields #[Value.int 1 0, Value.int 0 0, Value.ref 20, Value.int 5 0, Value.int 0 0, Value.ref 28, Value.int 13 0, Value.int 0 0, Value.ref 57, Value.int 21 0, Value.int 0 0, Value.ref 84, Value.int 38 0, Value.int 0 0, Value.ref 190, Value.int 42 0, Value.int 0 0, Value.ref 197, Value.int 46 0, Value.int 0 0, Value.ref 204, Value.int 49 0, Value.int 0 0, Value.ref 211, Value.int 55 0, Value.int 0 0, Value.ref 218, Value.int 79 0, Value.int 0 0, Value.ref 267] }
noncomputable def ob213 (_ : Params) : Obj := { cls := Value.type "tuple", data := Data.seq #[] }
noncomputable def ob214 (_ : Params) : Obj := { cls := Value.type "builtin_function_or_method", data := Data.fields #[Value.builtin "type.__prepare__", Value.type "type"] }
noncomputable def ob215 (P : Params) : Obj := { cls := Value.type "dict", data := Data.dict #[{ hash := PyData.keyHash P (Str.ofString "__module__"), key := Value.str (Str.ofString "__module__") 504, val := Value.str (Str.ofString "fdsolve.kinds") 285 }, { hash := PyData.keyHash P (Str.ofString "__qualname__"), key := Value.str (Str.ofString "__qualname__") 506, val := Value.str (Str.ofString "Names") 505 }, { hash := PyData.keyHash P (Str.ofString "__firstlineno__"), key := Value.str (Str.ofString "__firstlineno__") 508, val := Value.int 55 507 }, { hash := PyData.keyHash P (Str.ofString "__init__"), key := Value.str (Str.ofString "__init__") 515, val := Value.ref 226 }, { hash := PyData.keyHash P (Str.ofString "push"), key := Value.str (Str.ofString "push") 522, val := Value.ref 233 }, { hash := PyData.keyHash P (Str.ofString "pop"), key := Value.str (Str.ofString "pop") 529, val := Value.ref 240 }, { hash := PyData.keyHash P (Str.ofString "put"), key := Value.str (Str.ofString "put") 539, val := Value.ref 247 }, { hash := PyData.keyHash P (Str.ofString "kind_of"), key := Value.str (Str.ofString "kind_of") 549, val := Value.ref 254 }, { hash := PyData.keyHash P (Str.ofString "__static_attributes__"), key := Value.str (Str.ofString "__static_attributes__") 552, val := Value.ref 255 }] 9 }
noncomputable def ob216 (_ : Params) : Obj := { cls := Value.type "tuple", data := Data.seq #[] }
noncomputable def ob217 (_ : Params) : Obj := { cls := Value.none, data := Data.fields #[Value.int 57 0, Value.int 4 0, Value.ref 225, Value.int 61 0, Value.int 4 0, Value.ref 232, Value.int 64 0, Value.int 4 0, Value.ref 239, Value.int 67 0, Value.int 4 0, Value.ref 246, Value.int 72 0, Value.int 4 0, Value.ref 253] }
noncomputable def ob218 (_ : Params) : Obj := { cls := Value.type "code", data := Data.fields #[Value.str (Str.ofString "Names") 499, Value.str (Str.ofString "Names") 500, Value.str (Str.ofString "/claim/cut.py") 501, Value.int 55 0, Value.int 0 0, Value.int 0 0, Value.int 0 0, Value.int 0 0, Value.ref 216, Value.bool false, Value.int 181 0, Value.ref 217, Value.none, Value.none, Value.none, Value.none, Value.int 502 0, Value.int 55 0, Value.str (Str.ofString "/claim/cut.py") 503] }
noncomputable def ob219 (_ : Params) : Obj := { cls := Value.type "frame", slots := #[some (Value.ref 218), some (Value.ref 3), some (Value.ref 215), none, some (Value.str (Str.ofString "fdsolve.kinds") 285), none, some (Value.ref 0)] }
noncomputable def ob260 (_ : Params) : Obj := { cls := Value.type "super", data := Data.fields #[Value.ref 257, Value.ref 257, Value.ref 257] }
noncomputable def ob261 (_ : Params) : Obj := { cls := Value.type "builtin_function_or_method", data := Data.fields #[Value.builtin "object.__init_subclass__", Value.ref 257] }
noncomputable def ob262 (_ : Params) : Obj := { cls := Value.type "tuple", data := Data.seq #[] }
noncomputable def ob263 (_ : Params) : Obj := { cls := Value.type "builtin_function_or_method", data := Data.fields #[Value.builtin "type.__prepare__", Value.type "type"] }
noncomputable def ob264 (P : Params) : Obj := { cls := Value.type "dict", data := Data.dict #[{ hash := PyData.keyHash P (Str.ofString "__module__"), key := Value.str (Str.ofString "__module__") 567, val := Value.str (Str.ofString "fdsolve.kinds") 285 }, { hash := PyData.keyHash P (Str.ofString "__qualname__"), key := Value.str (Str.ofString "__qualname__") 569, val := Value.str (Str.ofString "Kinds") 568 }, { hash := PyData.keyHash P (Str.ofString "__firstlineno__"), key := Value.str (Str.ofString "__firstlineno__") 571, val := Value.int 79 570 }, { hash := PyData.keyHash P (Str.ofString "__init__"), key := Value.str (Str.ofString "__init__") 578, val := Value.ref 275 }, { hash := PyData.keyHash P (Str.ofString "kind_of"), key := Value.str (Str.ofString "kind_of") 588, val := Value.ref 282 }, { hash := PyData.keyHash P (Str.ofString "kind"), key := Value.str (Str.ofString "kind") 594, val := Value.ref 287 }, { hash := PyData.keyHash P (Str.ofString "known_set"), key := Value.str (Str.ofString "known_set") 603, val := Value.ref 294 }, { hash := PyData.keyHash P (Str.ofString "chain"), key := Value.str (Str.ofString "chain") 613, val := Value.ref 301 }, { hash := PyData.keyHash P (Str.ofString "joined"), key := Value.str (Str.ofString "joined") 625, val := Value.ref 308 }, { hash := PyData.keyHash P (Str.ofString "put_together"), key := Value.str (Str.ofString "put_together") 636, val := Value.ref 315 }, { hash := PyData.keyHash P (Str.ofString "compared"), key := Value.str (Str.ofString "compared") 648, val := Value.ref 322 }, { hash := PyData.keyHash P (Str.ofString "turned"), key := Value.str (Str.ofString "turned") 659, val := Value.ref 329 }, { hash := PyData.keyHash P (Str.ofString "indexed"), key := Value.str (Str.ofString "indexed") 672, val := Value.ref 336 }, { hash := PyData.keyHash P (Str.ofString "of_all"), key := Value.str (Str.ofString "of_all") 684, val := Value.ref 343 }, { hash := PyData.keyHash P (Str.ofString "gathered"), key := Value.str (Str.ofString "gathered") 695, val := Value.ref 350 }, { hash := PyData.keyHash P (Str.ofString "generated"), key := Value.str (Str.ofString "generated") 710, val := Value.ref 357 }, { hash := PyData.keyHash P (Str.ofString "goes_through"), key := Value.str (Str.ofString "goes_through") 719, val := Value.ref 364 }, { hash := PyData.keyHash P (Str.ofString "source"), key := Value.str (Str.ofString "source") 728, val := Value.ref 371 }, { hash := PyData.keyHash P (Str.ofString "put_names"), key := Value.str (Str.ofString "put_names") 740, val := Value.ref 378 }, { hash := PyData.keyHash P (Str.ofString "chosen"), key := Value.str (Str.ofString "chosen") 755, val := Value.ref 385 }, { hash := PyData.keyHash P (Str.ofString "within"), key := Value.str (Str.ofString "within") 765, val := Value.ref 392 }, { hash := PyData.keyHash P (Str.ofString "call"), key := Value.str (Str.ofString "call") 771, val := Value.ref 397 }, { hash := PyData.keyHash P (Str.ofString "want_each"), key := Value.str (Str.ofString "want_each") 784, val := Value.ref 404 }, { hash := PyData.keyHash P (Str.ofString "open_call"), key := Value.str (Str.ofString "open_call") 797, val := Value.ref 411 }, { hash := PyData.keyHash P (Str.ofString "listing_call"), key := Value.str (Str.ofString "listing_call") 809, val := Value.ref 418 }, { hash := PyData.keyHash P (Str.ofString "extreme"), key := Value.str (Str.ofString "extreme") 819, val := Value.ref 425 }, { hash := PyData.keyHash P (Str.ofString "type_kind"), key := Value.str (Str.ofString "type_kind") 833, val := Value.ref 432 }, { hash := PyData.keyHash P (Str.ofString "declared"), key := Value.str (Str.ofString "declared") 839, val := Value.ref 437 }, { hash := PyData.keyHash P (Str.ofString "check"), key := Value.str (Str.ofString "check") 847, val := Value.ref 444 }, { hash := PyData.keyHash P (Str.ofString "plain_kind"), key := Value.str (Str.ofString "plain_kind") 855, val := Value.ref 451 }, { hash := PyData.keyHash P (Str.ofString "note_predicate"), key := Value.str (Str.ofString "note_predicate") 861, val := Value.ref 456 }, { hash := PyData.keyHash P (Str.ofString "note_assigned"), key := Value.str (Str.ofString "note_assigned") 869, val := Value.ref 463 }, { hash := PyData.keyHash P (Str.ofString "ordered"), key := Value.str (Str.ofString "ordered") 878, val := Value.ref 470 }, { hash := PyData.keyHash P (Str.ofString "asked_within"), key := Value.str (Str.ofString "asked_within") 885, val := Value.ref 477 }, { hash := PyData.keyHash P (Str.ofString "check_item"), key := Value.str (Str.ofString "check_item") 893, val := Value.ref 484 }, { hash := PyData.keyHash P (Str.ofString "check_predicate"), key := Value.str (Str.ofString "check_predicate") 901, val := Value.ref 491 }, { hash := PyData.keyHash P (Str.ofString "__static_attributes__"), key := Value.str (Str.ofString "__static_attributes__") 908, val := Value.ref 492 }] 37 }
noncomputable def ob265 (_ : Params) : Obj := { cls := Value.type "tuple", data := Data.seq #[] }
noncomputable def ob266 (_ : Params) : Obj := { cls := Value.none, data := Data.fields #[Value.int 81 0, Value.int 4 0, Value.ref 274, Value.int 89 0, Value.int 4 0, Value.ref 281, Value.int 100 0, Value.int 4 0, Value.ref 286, Value.int 124 0, Value.int 4 0, Value.ref 293, Value.int 127 0, Value.int 4 0, Value.ref 300, Value.int 138 0, Value.int 4 0, Value.ref 307, Value.int 164 0, Value.int 4 0, Value.ref 314, Value.int 170 0, Value.int 4 0, Value.ref 321, Value.int 178 0, Value.int 4 0, Value.ref 328, Value.int 183 0, Value.int 4 0, Value.ref 335, Value.int 195 0, Value.int 4 0, Value.ref 342, Value.int 204 0, Value.int 4 0, Value.ref 349, Value.int 222 0, Value.int 4 0, Value.ref 356, Value.int 243 0, Value.int 4 0, Value.ref 363, Value.int 247 0, Value.int 4 0, Value.ref 370, Value.int 255 0, Value.int 4 0, Value.ref 377, Value.int 261 0, Value.int 4 0, Value.ref 384, Value.int 276 0, Value.int 4 0, Value.ref 391, Value.int 291 0, Value.int 4 0, Value.ref 396, Value.int 305 0, Value.int 4 0, Value.ref 403, Value.int 311 0, Value.int 4 0, Value.ref 410, Value.int 333 0, Value.int 4 0, Value.ref 417, Value.int 344 0, Value.int 4 0, Value.ref 424, Value.int 353 0, Value.int 4 0, Value.ref 431, Value.int 364 0, Value.int 4 0, Value.ref 436, Value.int 373 0, Value.int 4 0, Value.ref 443, Value.int 376 0, Value.int 4 0, Value.ref 450, Value.int 379 0, Value.int 4 0, Value.ref 455, Value.int 385 0, Value.int 4 0, Value.ref 462, Value.int 388 0, Value.int 4 0, Value.ref 469, Value.int 391 0, Value.int 4 0, Value.ref 476, Value.int 394 0, Value.int 4 0, Value.ref 483, Value.int 397 0, Value.int 4 0, Value.ref 490] }
noncomputable def ob267 (_ : Params) : Obj := { cls := Value.type "code", data := Data.fields #[Value.str (Str.ofString "Kinds") 562, Value.str (Str.ofString "Kinds") 563, Value.str (Str.ofString "/claim/cut.py") 564, Value.int 79 0, Value.int 0 0, Value.int 0 0, Value.int 0 0, Value.int 0 0, Value.ref 265, Value.bool false, Value.int 181 0, Value.ref 266, Value.none, Value.none, Value.none, Value.none, Value.int 565 0, Value.int 79 0, Value.str (Str.ofString "/claim/cut.py") 566] }
noncomputable def ob268 (_ : Params) : Obj := { cls := Value.type "frame", slots := #[some (Value.ref 267), some (Value.ref 3), some (Value.ref 264), none, some (Value.str (Str.ofString "fdsolve.kinds") 285), none, some (Value.ref 0)] }
noncomputable def ob497 (_ : Params) : Obj := { cls := Value.type "super", data := Data.fields #[Value.ref 494, Value.ref 494, Value.ref 494] }
noncomputable def ob498 (_ : Params) : Obj := { cls := Value.type "builtin_function_or_method", data := Data.fields #[Value.builtin "object.__init_subclass__", Value.ref 494] }
noncomputable def sp_s25 (P : Params) : List (Addr × Obj) := [(3, ob3x3 P), (12, ob12x2 P), (23, ob23 P), (24, ob24 P), (26, ob26 P), (27, ob27 P), (28, ob28 P), (29, ob29 P), (49, ob49 P), (50, ob50 P), (52, ob52 P), (53, ob53 P), (55, ob55 P), (56, ob56 P), (57, ob57 P), (58, ob58 P), (77, ob77 P), (78, ob78 P), (80, ob80 P), (81, ob81 P), (82, ob82 P), (83, ob83 P), (84, ob84 P), (85, ob85 P), (89, ob89 P), (90, ob90 P), (138, ob138 P), (173, ob173 P), (213, ob213 P), (214, ob214 P), (215, ob215 P), (216, ob216 P), (217, ob217 P), (218, ob218 P), (219, ob219 P), (260, ob260 P), (261, ob261 P), (262, ob262 P), (263, ob263 P), (264, ob264 P), (265, ob265 P), (266, ob266 P), (267, ob267 P), (268, ob268 P), (497, ob497 P), (498, ob498 P)]
noncomputable abbrev po_s25 : Pos := { line := 79, col := 0, endLine := 398, endCol := 16 }
noncomputable abbrev st_s25 (w : World) (os : OsState) : SharedT := stS sp_s25 499 916 w os
noncomputable def sp_e (P : Params) : List (Addr × Obj) := [(23, ob23 P), (24, ob24 P), (26, ob26 P), (27, ob27 P), (28, ob28 P), (29, ob29 P), (49, ob49 P), (50, ob50 P), (52, ob52 P), (53, ob53 P), (55, ob55 P), (56, ob56 P), (57, ob57 P), (58, ob58 P), (77, ob77 P), (78, ob78 P), (80, ob80 P), (81, ob81 P), (82, ob82 P), (83, ob83 P), (84, ob84 P), (85, ob85 P), (89, ob89 P), (90, ob90 P), (138, ob138 P), (173, ob173 P), (213, ob213 P), (214, ob214 P), (215, ob215 P), (216, ob216 P), (217, ob217 P), (218, ob218 P), (219, ob219 P), (260, ob260 P), (261, ob261 P), (262, ob262 P), (263, ob263 P), (264, ob264 P), (265, ob265 P), (266, ob266 P), (267, ob267 P), (268, ob268 P), (497, ob497 P), (498, ob498 P)]
noncomputable abbrev po_e : Pos := { line := 447, col := 0, endLine := 473, endCol := 31 }
noncomputable abbrev st_e (w : World) (os : OsState) : SharedT := stS sp_e 608 1143 w os
noncomputable abbrev pr0 : Program := PySem.Challenge.rw_qd0027_02.row.prog
theorem open0 (w : World) : (fencedOpening treeTable pr0 w 100000).map (fun s => (s.heap, s.gens, s.drawn, s.toks)) = some (boot_heap w.params, Array.mk [], boot_drawn, boot_toks) :=
  boot_open (p := pr0) (N := 100000) (by kernel_rfl) (by decide) (fun s => by kernel_rfl) w
theorem size0 (w : World) : ((boot_heap w.params).isNs mainGlobals && (Array.mk [] : Array GenState).size == 0, (boot_heap w.params).objs.size, (boot_heap w.params).nsMap mainGlobals "__annotations__") = (true, 11, some (Value.ref 6)) := by kernel_rfl
theorem asK (P : Params) : asL = (seed.heap_1 P).map (·.1) := by kernel_rfl
noncomputable abbrev hk0 : Hook := kHook seed.heap_1 asL asK
noncomputable abbrev Xt0 : Shared → Bool := fun s => xlAt vw [] s && recOk (PySem.Challenge.rw_qd0027_02.row.toRowW.records) s
noncomputable abbrev bo0 : List Stmt := behindTheImports pr0
noncomputable abbrev en0 : Env := { scope := pr0.main.scope, locals := mainNs, globals := mainNs, cells := [], code := .ref 13, frame := some 14 }
noncomputable abbrev co0 : Code := .body bo0 en0
noncomputable abbrev q0 : Pos := { line := 0, col := 0, endLine := 0, endCol := 0 }
noncomputable abbrev l1 : List Stmt := bo0.take 18
noncomputable abbrev l2 : List Stmt := (bo0.drop 18).take 1
noncomputable abbrev l3 : List Stmt := (bo0.drop 19).take 7
noncomputable abbrev l4 : List Stmt := bo0.drop 26
theorem cut0 : bo0 = l1 ++ (l2 ++ (l3 ++ (l4 ++ []))) := by
  rw [List.append_nil]
  show bo0 = bo0.take 18 ++ ((bo0.drop 18).take 1 ++ ((bo0.drop 19).take 7 ++ bo0.drop 26))
  rw [show bo0.drop 26 = (bo0.drop 19).drop 7 by rw [List.drop_drop], List.take_append_drop, show bo0.drop 19 = (bo0.drop 18).drop 1 by rw [List.drop_drop], List.take_append_drop, List.take_append_drop]
theorem pre0 (w : World) : (fun os : OsState => topGo treeTable pr0 w 11 (some (Value.ref 6)) 12 ⟨boot_heap w.params, Array.mk [], boot_drawn, boot_toks, os⟩ (topStub pr0)) = fun os => some ((st_a w os).abs, ⟨denote treeTable co0, co0, po_a, [topFrame q0]⟩) := by kernel_rfl
theorem block0 (w : World) : (fun os : OsState => segQ pr0 w 1 (st_a w os) (blockOf bo0 en0 co0 po_a [topFrame q0])) = fun os => some (.next, st_a w os, co0, po_a) := by kernel_rfl
theorem part1 (w : World) : (fun os : OsState => segQ pr0 w 1000 (st_a w os) (piecesOf l1 en0 co0 po_a [topFrame q0])) = fun os => some (.next, st_s17 w os, co0, po_s17) := by kernel_rfl
noncomputable abbrev Part2 (w : World) : Prop := (fun os : OsState => segQ pr0 w 1100 (st_s17 w os) (piecesOf l2 en0 co0 po_s17 [topFrame q0])) = fun os => some (.next, st_s18 w os, co0, po_s18)
theorem part2f (w : World) : Part2 (w.withFollow "special-get-raises" false) := by kernel_rfl
theorem part2t (w : World) : Part2 (w.withFollow "special-get-raises" true) := by kernel_rfl
theorem part3 (w : World) : (fun os : OsState => segQ pr0 w 1900 (st_s18 w os) (piecesOf l3 en0 co0 po_s18 [topFrame q0])) = fun os => some (.next, st_s25 w os, co0, po_s25) := by kernel_rfl
theorem part4 (w : World) : (fun os : OsState => segQ pr0 w 600 (st_s25 w os) (piecesOf l4 en0 co0 po_s25 [topFrame q0])) = fun os => some (.next, st_e w os, co0, po_e) := by kernel_rfl
noncomputable abbrev ob1 (P : Params) : List Obj := fillS 608 0 (sp_e P) (seed.heap_1 P)
noncomputable abbrev he1 (P : Params) : Heap := ⟨(ob1 P).toArray, {}⟩
noncomputable abbrev sh1 (w : World) (os : OsState) : Shared := ⟨he1 w.params, Array.mk [], {}, 1143, os⟩
theorem abs1 (w : World) : (fun os : OsState => (st_e w os).abs) = fun os => sh1 w os := by kernel_rfl
theorem look1 (w : World) : (staticsOk (importedModules pr0.main.body) (boot_heap w.params) (he1 w.params) && namesBound pr0 (he1 w.params) && laidKept (boot_heap w.params) (he1 w.params)) = true := by kernel_rfl
theorem look2 (w : World) : (fun os : OsState => Fast.tw4187177175401517315 vw lo (importedModules pr0.main.body) Xt0 true (sh1 w os)) = fun _ => openGood vw lo := by kernel_rfl
theorem fill1 (P : Params) : okF 608 0 ((sp_e P).map (·.1)) ((seed.heap_1 P).map (·.1)) = true := by kernel_rfl
theorem live1 (P : Params) : ((seed.heap_1 P).all fun p => match p.2.data with | .freed => false | _ => true) = true := by kernel_rfl
noncomputable abbrev obs1 : Shared → List Obj := fun s => s.heap.objs.toList
theorem says1 (w : World) (s : Shared) (e : obs1 s = ob1 w.params) : hk0.says w s.heap := in_of_fill e (fill1 w.params) (live1 w.params)
theorem left0 : LeftO pr0 vw lo Xt0 obs1 (fun w => ob1 w.params) 100000 := fun w => by
  refine left_of (q := vw) (loose := lo) (Xt := Xt0) (Yf := obs1) (Ya := fun w => ob1 w.params) (M := 12 + (1 + (1000 + (1100 + (1900 + (600 + 2)))))) (m₀ := 11) (ann := some (Value.ref 6)) w (open0 w) (size0 w) (fun os => ?_) (by decide)
  refine ⟨sh1 w os, ?_, ?_⟩
  · refine go_top (congrFun (pre0 w) os) ?_
    refine piece_block (segQ_of (congrFun (block0 w) os)) ?_
    have k := piece_nil (env := en0) (fin_run (p := pr0) (w := w) (s := (st_e w os).abs) (c := co0) (pos := po_e) (q := q0))
    have k := piece_app (segQ_of (congrFun (part4 w) os)) k
    have k := piece_app (segQ_of (congrFun (part3 w) os)) k
    have k := piece_app (segQ_of (congrFun (byRow2 "special-get-raises" (P := Part2) part2f part2t w) os)) k
    have k := piece_app (segQ_of (congrFun (part1 w) os)) k
    rw [← cut0, show (st_e w os).abs = sh1 w os from congrFun (abs1 w) os] at k
    exact k
  · have a := look1 w
    rw [Bool.and_eq_true, Bool.and_eq_true] at a
    refine Prod.ext ?_ (Prod.ext (congrFun (look2 w) os) rfl)
    show (_ && _ && gensDone (sh1 w os) && _) = true
    rw [a.1.1, a.1.2, a.2]
    rfl
theorem quick1 {c : _} {b : List Stmt} (h : Fast.tw8326940854005059898 c b = true) : noRoadLSs c b = true := by
  rw [Fast.te8326940854005059898]
  exact h
theorem said1 : namesResolve pr0 = true := by decide +kernel
theorem said2 : noRoadLSs { strict := !(importedModules pr0.main.body).all cThrough.contains, foot := none, bare := (["vars", "dir", "locals"] : List Str).filter (readsOut pr0 pr0.main.body) } pr0.main.body = true := quick1 (by decide +kernel)
theorem said3 : (namesMeet pr0 pr0.main.body fun _ n => attrL n) = true := by decide +kernel
theorem said4 : looksOpen pr0 = true := look_both (look_both (look_both (look_both (by decide +kernel) said1) (by decide +kernel)) said2) said3
theorem said5 : PySem.Challenge.rw_qd0027_02.row.wellSaid = true := by
  unfold OpenRow.wellSaid OpenRow.partSaid
  repeat' (with_reducible refine look_both ?_ ?_)
  all_goals first | with_reducible exact said4 | decide +kernel
theorem said0 : PySem.Challenge.rw_qd0027_02.wellSaid = true := by
  unfold OpenLaw.wellSaid
  repeat' (with_reducible refine look_both ?_ ?_)
  all_goals first | with_reducible exact said5 | decide +kernel
theorem opens0 : (chainsOk vw && opensWell pr0 && (frees PySem.Challenge.rw_qd0027_02.row.toRowW && PySem.Challenge.rw_qd0027_02.row.within.isEmpty)) = true := by decide +kernel
theorem bare0 : pr0.bare := ⟨rfl, rfl, rfl, rfl, rfl, by decide +kernel⟩
end
section -- MSetN
theorem lay1 {a : Nat} (h : a < 6) (led : Bool) (x : Value) : layNew (SetTable.fresh 0 0 led) #[] (hashInt (a : Int)) x = (#[(hashInt (a : Int), x)], ⟨7, #[a], #[], 0, led, 0, true⟩, false, false) := by
  rcases lt6 h with rfl | rfl | rfl | rfl | rfl | rfl <;> rfl
theorem lay2 {a b : Nat} (h : a < 6) (h' : b < 6) (hne : a < b) (led : Bool) (x y : Value) : layNew ⟨7, #[a], #[], 0, led, 0, true⟩ #[(hashInt (a : Int), x)] (hashInt (b : Int)) y = (#[(hashInt (a : Int), x), (hashInt (b : Int), y)], ⟨7, #[a, b], #[], 0, led, 0, true⟩, false, false) := by
  rcases lt6 h with rfl | rfl | rfl | rfl | rfl | rfl <;> rcases lt6 h' with rfl | rfl | rfl | rfl | rfl | rfl <;> first | exact absurd hne (by decide) | rfl | kernel_rfl
theorem lay3 {a b : Nat} (h : a < 6) (h' : b < 6) (hne : b < a) (led : Bool) (x y : Value) : layNew ⟨7, #[a], #[], 0, led, 0, true⟩ #[(hashInt (a : Int), x)] (hashInt (b : Int)) y = (#[(hashInt (b : Int), y), (hashInt (a : Int), x)], ⟨7, #[b, a], #[], 0, led, 0, true⟩, false, false) := by
  rcases lt6 h with rfl | rfl | rfl | rfl | rfl | rfl <;> rcases lt6 h' with rfl | rfl | rfl | rfl | rfl | rfl <;> first | exact absurd hne (by decide) | rfl | kernel_rfl
section
variable {prog : Program} {w : World} {A : Around} {E : Value → Shared → Prop} {s : Shared}
/-- an int that is not yet there is laid into a set -/
theorem add_new {S : Addr} {es es1 : Array (Int × Value)} {ep : Nat} {t : SetTable} {pl1 : Array Nat} {led : Bool} {k : Int} {u : Tok} {Q : Bool → Shared → Prop}
    (ho : s.heap.get? S = some ⟨.type "set", none, .set es ep t, #[]⟩) (hf : t.fits es.size = true) (hel : ElemsOf (intKind prog w) es.toList) (h7 : es.size ≤ 7) (hn : es.toList.findIdx? (fun e => (intKind prog w).is k e.2) = none)
    (hlay : layNew t es (hashInt k) (.int k u) = (es1, ⟨7, pl1, #[], 0, led, 0, true⟩, false, false)) (h2 : pl1.size ≤ 2) (h3 : es1.size ≤ 7)
    (h : ∀ h', Heap.SameBut S s.heap h' → h'.get? S = some (setObj2 es1 (ep + 1) pl1 led) → Q true { s with heap := h', toks := s.toks + 1 }) : wpAny (model prog w) A (setAdd S (.int k u)) Q E s := by
  unfold setAdd
  refine wpAny_holding ?_
  refine wpAny_bind ((intKind prog w).pyHash (k := k) (intKind_is _ _ _ _) ?_)
  unfold setAddHashed setAddHashedIn
  refine wpAny_holding (wpAny_bind (wpAny_setState_of (s := { s with toks := s.toks + 1 }) ho rfl hf ?_))
  dsimp only
  rw [byScan_of (knd := intKind prog w) rfl (by unfold scanBound; omega) hel]
  simp only [↓reduceIte]
  unfold setAddByScan
  refine wpAny_bind ?_
  refine wpAny_bind (wpAny_rule ?_)
  refine wpAny_bind (wpAny_setScan_of (knd := intKind prog w) (k := k) (s := { s with toks := s.toks + 1 }) (intKind_is _ _ _ _) ho rfl hf hel ?_)
  rw [hn]
  dsimp only
  rw [show (intKind prog w).hash k = hashInt k from rfl, hlay]
  dsimp only
  refine wpAny_bind (wpAny_pure ?_)
  simp only [↓reduceIte]
  rw [hashByValue_scannable 8 rfl]
  refine wpAny_bind (wpAny_pure ?_)
  have htf : (⟨7, pl1, #[], 0, led, 0, true⟩ : SetTable).tooFull = false := by
    unfold SetTable.tooFull SetTable.fill
    refine decide_eq_false ?_
    show ¬ (pl1.size + 0) * 5 ≥ 7 * 3
    omega
  simp only [plainKind, if_true]
  refine wpAny_bind (wpAny_storeSet_of (s := { s with toks := s.toks + 1 }) ho rfl ?_ (by rw [sizeLine_eq]; omega))
  refine wpAny_ite_false (by rw [htf]; rfl) (wpAny_pure (wpAny_pure (h _ (Heap.SameBut.update ..) ?_)))
  have hg := Heap.get?_update_self (Obj.putSet es1 ⟨7, pl1, #[], 0, led, 0, true⟩) ho (by rw [putSet_of _ _ rfl]; rfl)
  rw [putSet_of _ _ rfl] at hg
  exact hg
theorem add_old {S : Addr} {es : Array (Int × Value)} {ep j : Nat} {t : SetTable} {k : Int} {u : Tok} {Q : Bool → Shared → Prop}
    (ho : s.heap.get? S = some ⟨.type "set", none, .set es ep t, #[]⟩) (hf : t.fits es.size = true) (hel : ElemsOf (intKind prog w) es.toList) (h7 : es.size ≤ 7) (hn : es.toList.findIdx? (fun e => (intKind prog w).is k e.2) = some j)
    (h : Q false { s with toks := s.toks + 1 }) : wpAny (model prog w) A (setAdd S (.int k u)) Q E s := by
  unfold setAdd
  refine wpAny_holding ?_
  refine wpAny_bind ((intKind prog w).pyHash (k := k) (intKind_is _ _ _ _) ?_)
  unfold setAddHashed setAddHashedIn
  refine wpAny_holding (wpAny_bind (wpAny_setState_of (s := { s with toks := s.toks + 1 }) ho rfl hf ?_))
  dsimp only
  rw [byScan_of (knd := intKind prog w) rfl (by unfold scanBound; omega) hel]
  simp only [↓reduceIte]
  unfold setAddByScan
  refine wpAny_bind ?_
  refine wpAny_bind (wpAny_rule ?_)
  refine wpAny_bind (wpAny_setScan_of (knd := intKind prog w) (k := k) (s := { s with toks := s.toks + 1 }) (intKind_is _ _ _ _) ho rfl hf hel ?_)
  rw [hn]
  dsimp only
  exact wpAny_pure (wpAny_pure h)
theorem elems0 : ElemsOf (intKind prog w) (#[] : Array (Int × Value)).toList := fun e he => nomatch he
theorem elems1 {k : Int} {u : Tok} : ElemsOf (intKind prog w) (#[(hashInt k, Value.int k u)] : Array (Int × Value)).toList := fun e he => by
  obtain rfl := List.mem_singleton.mp he
  exact ⟨⟨k, intKind_is _ _ _ _, rfl⟩, rfl⟩
theorem find1 {a b : Int} {u : Tok} {h : Int} : (#[(h, Value.int a u)] : Array (Int × Value)).toList.findIdx? (fun e => (intKind prog w).is b e.2) = if a = b then some 0 else none := by
  by_cases e : a = b
  · subst e
    rw [if_pos rfl]
    simp [intKind, Value.isInt]
  · rw [if_neg e]
    simp [intKind, Value.isInt, e]
/-- set.__new__, its ledger's flag told -/
theorem code_set_new_led (a : Value) {Q₁ : Value → Shared → Prop}
    (h : Q₁ (.ref s.heap.objs.size) { s with heap := s.heap.push (setObj2 #[] 0 #[] (!w.params.followText "set-order")) }) :
    codeAny (model prog w) A (.call (.builtin "set.__new__") ⟨[.type "set", a], []⟩) (wants Q₁ E) s := by
  refine codeAny_of_tree ?_
  show wpAny _ A.in1 (do checkBuiltinCall "set.__new__" ⟨[.type "set", a], []⟩; again (.builtin "set.__new__" ⟨[.type "set", a], []⟩)) _ _ s
  refine wpAny_bind (wpAny_of_eq (PySem.F.newCall_set_1 a) (wpAny_pure ⟨plainId_quiet PySem.F.plain_set_new _, codeAny_builtin PySem.F.entry_set_new ?_⟩))
  rw [Around.under_plainId PySem.F.plain_set_new _]
  unfold Builtin.«set.__new__» Builtin.Frozenset.newClass
  have hsub := sub_set_self
  obtain ⟨hp, g, d, tk, os⟩ := s
  dsimp only
  wp_walk
  refine wpAny_askSetting (wpAny_pure ?_)
  dsimp only
  simp only [newObj]
  refine wpAny_bind (wpAny_alloc (wpAny_pure ?_))
  exact wpAny_pure h
end
end
section -- MSetM
section
variable {prog : Program} {w : World} {A : Around} {E : Value → Shared → Prop} {s : Shared}
theorem upd_end {I S : Addr} {fp wr : List Addr} {n : Nat} {P : Nat → Value → Prop} {St : Nat → Shared → Prop} {R : Result → Shared → Prop} (W : WalksS prog w A.in1 I fp wr (fun x y => y = x) n P St) (hst : St n s) (h : ∀ s', Moved wr (fun x y => y = x) s s' → R (.ok (.ret .none)) s') :
    codeAny (model prog w) A (.builtin "set.update.loop" ⟨[.ref S, .ref I], []⟩) R s := by
  refine codeAny_builtin PyProof.Rows.F.entry_set_update_loop ?_
  rw [Around.under_plainId PyProof.Rows.F.plain_set_update_loop _]
  show wpAny _ A.in1 (pyNext (.ref I) >>= _) _ _ s
  refine wpAny_bind (W.done s _ _ hst fun s' hm => ?_)
  show wpAny _ A.in1 (ret Value.none) _ _ s'
  exact wpAny_pure (h s' hm)
theorem upd_item {I S : Addr} {fp wr : List Addr} {n i : Nat} {P : Nat → Value → Prop} {St : Nat → Shared → Prop} {R : Result → Shared → Prop} (W : WalksS prog w A.in1 I fp wr (fun x y => y = x) n P St) (hi : i < n) (hst : St i s)
    (h : ∀ v s', P i v → St (i + 1) s' → Moved wr (fun x y => y = x) s s' → ∀ E', wpAny (model prog w) A.in1 (setAdd S v) (fun _ s'' => codeAny (model prog w) A (.builtin "set.update.loop" ⟨[.ref S, .ref I], []⟩) R s'') E' s') :
    codeAny (model prog w) A (.builtin "set.update.loop" ⟨[.ref S, .ref I], []⟩) R s := by
  refine codeAny_builtin PyProof.Rows.F.entry_set_update_loop ?_
  rw [Around.under_plainId PyProof.Rows.F.plain_set_update_loop _]
  show wpAny _ A.in1 (pyNext (.ref I) >>= _) _ _ s
  refine wpAny_bind (W.item i s _ _ hi hst fun v s' hP hst' hm => ?_)
  show wpAny _ A.in1 (holding [v] (setAdd S v) >>= _) _ _ s'
  exact wpAny_bind (wpAny_holding (wpAny_mono (h v s' hP hst' hm _) (fun _ s'' hc => wpAny_pure ⟨plainId_quiet PyProof.Rows.F.plain_set_update_loop _, hc⟩) fun _ _ e => e))
theorem moved_set {S I : Addr} {s s1 : Shared} {h' : Heap} (hm : Moved [I] (fun x y => y = x) s s1) (hs : Heap.SameBut S s1.heap h') : Moved [S, I] (fun x y => y = x) s { s1 with heap := h', toks := s1.toks + 1 } :=
  (hm.mono fun b hb => .tail _ hb).then_heap (Nat.le_succ _) fun b o hb e => hs.extBut b o (fun q => hb (by rw [q]; exact .head _)) e
theorem moved_tok {S I : Addr} {s s1 : Shared} (hm : Moved [I] (fun x y => y = x) s s1) : Moved [S, I] (fun x y => y = x) s { s1 with toks := s1.toks + 1 } :=
  (hm.mono fun b hb => .tail _ hb).then_heap (h' := s1.heap) (Nat.le_succ _) fun b o hb e => e
theorem upd_two (hh : A.handled = none) {S I l : Addr} (hSI : S ≠ I) (hSl : S ≠ l) (hlI : l ≠ I) {a b : Nat} {ta tb : Tok} (ha : a < 6) (hb : b < 6) {R : Result → Shared → Prop} (hit : s.heap.IsListIter I l 0) (hl : s.heap.IsList l #[.int a ta, .int b tb]) (hS : s.heap.get? S = some (setObj2 #[] 0 #[] (!w.params.followText "set-order")))
    (hR : ∀ s' so, Moved [S, I] (fun x y => y = x) s s' → s'.heap.get? S = some so → Set2 w a b so → R (.ok (.ret .none)) s') :
    codeAny (model prog w) A (.builtin "set.update.loop" ⟨[.ref S, .ref I], []⟩) R s := by
  have W := (Walks.list (prog := prog) (w := w) (A := A.in1) (by exact hh) I l hlI #[.int a ta, .int b tb]).toS
  have gt : ∀ x y z : Array GenState, y = x → z = y → z = x := fun _ _ _ h1 h2 => h2.trans h1
  have hSf : ∀ q ∈ [I, l], S ≠ q := fun q hq => by
    rcases List.mem_cons.mp hq with rfl | hq
    · exact hSI
    · rw [List.mem_singleton.mp hq]; exact hSl
  refine upd_item W (i := 0) (by show 0 < 2; decide) ⟨hit, hl⟩ fun v s1 hP hst1 hm1 E1 => ?_
  obtain rfl : Value.int (a : Int) ta = v := Option.some.inj hP
  refine add_new (es := #[]) (t := SetTable.fresh 0 0 (!w.params.followText "set-order")) (pl1 := #[a]) (ep := 0) (hm1.heap S _ (by simp [hSI]) hS) rfl elems0 (by decide) rfl (lay1 ha _ _) (by show 1 ≤ 2; decide) (by show 1 ≤ 7; decide) fun h1 hs1 hg1 => ?_
  have mv1 := moved_set hm1 hs1
  have st1 := W.frame 1 s1 h1 (s1.toks + 1) hst1 (Nat.le_succ _) fun q hq o e => hs1.extBut q o (fun z => hSf q hq z.symm) e
  refine upd_item W (i := 1) (by show 1 < 2; decide) st1 fun v s2 hP hst2 hm2 E2 => ?_
  obtain rfl : Value.int (b : Int) tb = v := Option.some.inj hP
  have hg2 := hm2.heap S _ (by simp [hSI]) hg1
  have fit1 : (⟨7, #[a], #[], 0, !w.params.followText "set-order", 0, true⟩ : SetTable).fits (#[(hashInt (a : Int), Value.int (a : Int) ta)] : Array (Int × Value)).size = true := rfl
  rcases Nat.lt_trichotomy a b with hlt | heq | hgt
  · have hne : ¬ (a : Int) = (b : Int) := by omega
    refine add_new (pl1 := #[a, b]) hg2 fit1 elems1 (by show 1 ≤ 7; decide) (by rw [find1, if_neg hne]) (lay2 ha hb hlt _ _ _) (by show 2 ≤ 2; decide) (by show 2 ≤ 7; decide) fun h3 hs3 hg3 => ?_
    have mv3 := Moved.trans gt mv1 (moved_set hm2 hs3)
    refine upd_end W (W.frame 2 s2 h3 (s2.toks + 1) hst2 (Nat.le_succ _) fun q hq o e => hs3.extBut q o (fun z => hSf q hq z.symm) e) fun s4 hm4 => ?_
    exact hR s4 _ (Moved.trans gt mv3 (hm4.mono fun b hb => .tail _ hb)) (hm4.heap S _ (by simp [hSI]) hg3) (.two a b _ _ _ _ _ (.inl rfl) (.inr rfl) hlt)
  · refine add_old hg2 fit1 elems1 (by show 1 ≤ 7; decide) (by rw [find1, if_pos (by omega)]) ?_
    have mv3 := Moved.trans gt mv1 (moved_tok (S := S) hm2)
    refine upd_end W (W.frame 2 s2 s2.heap (s2.toks + 1) hst2 (Nat.le_succ _) fun q hq o e => e) fun s4 hm4 => ?_
    exact hR s4 _ (Moved.trans gt mv3 (hm4.mono fun b hb => .tail _ hb)) (hm4.heap S _ (by simp [hSI]) hg2) (.one a _ _ _ (.inl rfl))
  · have hne : ¬ (a : Int) = (b : Int) := by omega
    refine add_new (pl1 := #[b, a]) hg2 fit1 elems1 (by show 1 ≤ 7; decide) (by rw [find1, if_neg hne]) (lay3 ha hb hgt _ _ _) (by show 2 ≤ 2; decide) (by show 2 ≤ 7; decide) fun h3 hs3 hg3 => ?_
    have mv3 := Moved.trans gt mv1 (moved_set hm2 hs3)
    refine upd_end W (W.frame 2 s2 h3 (s2.toks + 1) hst2 (Nat.le_succ _) fun q hq o e => hs3.extBut q o (fun z => hSf q hq z.symm) e) fun s4 hm4 => ?_
    exact hR s4 _ (Moved.trans gt mv3 (hm4.mono fun b hb => .tail _ hb)) (hm4.heap S _ (by simp [hSI]) hg3) (.two b a _ _ _ _ _ (.inr rfl) (.inl rfl) hgt)
end
end
section -- MSetC
local macro_rules | `(tactic| walk_at "d0") => `(tactic| skip)
open PySem.F in
theorem call_set2 {prog : Program} {w : World} {A : Around} {E : Value → Shared → Prop} {s : Shared} {l : Addr} {a b : Nat} {ta tb : Tok} {Q : Value → Shared → Prop} (ha : a < 6) (hb : b < 6) (hh : A.handled = none) (hl : s.heap.IsList l #[.int a ta, .int b tb])
    (h : ∀ (h' : Heap) (tk : Nat) so, h'.get? s.heap.objs.size = some so → Set2 w a b so → (∀ c o, c < s.heap.objs.size → s.heap.get? c = some o → h'.get? c = some o) → Q (.ref s.heap.objs.size) { s with heap := h', toks := tk }) :
    wpAny (model prog w) A (call (.type "set") [.ref l]) Q E s := by
  obtain ⟨led, hled⟩ : ∃ led, led = !w.params.followText "set-order" := ⟨_, rfl⟩
  obtain ⟨SO, hSO⟩ : ∃ o : Obj, o = { cls := .type "set", dict := none, data := .set #[] 0 (.fresh 0 0 led) } := ⟨_, rfl⟩
  obtain ⟨S0, hS0⟩ : ∃ n, n = s.heap.objs.size := ⟨_, rfl⟩
  obtain ⟨H1, hH1⟩ : ∃ H, H = s.heap.push SO := ⟨_, rfl⟩
  rw [← hS0] at h
  have hS : H1.get? S0 = some SO := by rw [hH1, hS0]; exact Heap.get?_push_size _ (by rw [hSO]; rfl)
  have up : ∀ b o, s.heap.get? b = some o → H1.get? b = some o := fun b o e => by rw [hH1]; exact Heap.get?_push_of_some _ e
  have hsz : H1.objs.size = S0 + 1 := by rw [hH1, hS0, Heap.size_push]
  have hT0 : SO.cls = .type "set" := by rw [hSO]
  have hnew : ∀ {E : Value → Shared → Prop} {A : Around} {Q₁ : Value → Shared → Prop}, Q₁ (.ref S0) { s with heap := H1 } → codeAny (model prog w) A (.call (.builtin "set.__new__") ⟨[.type "set", .ref l], []⟩) (wants Q₁ E) s := fun q => by
    subst hH1 hSO hS0 hled
    exact code_set_new_led (.ref l) q
  have hup : H1.get? S0 = some ⟨.type "set", none, .set #[] 0 (.fresh 0 0 (!w.params.followText "set-order")), #[]⟩ := by rw [hS, hSO, hled]
  clear hH1 hSO
  obtain ⟨RI, hRI⟩ : ∃ R : Value → Shared → Prop, R = (fun r s₂ => r = .none ∧ ∃ h' tk so, s₂ = { s with heap := h', toks := tk } ∧ h'.get? S0 = some so ∧ Set2 w a b so ∧
          (∀ c o, c < S0 → s.heap.get? c = some o → h'.get? c = some o)) := ⟨_, rfl⟩
  have toRI : ∀ h' tk so, h'.get? S0 = some so → Set2 w a b so → (∀ c o, c < S0 → s.heap.get? c = some o → h'.get? c = some o) → RI .none { s with heap := h', toks := tk } := fun h' tk so h1 h2 h3 => by
    rw [hRI]; exact ⟨rfl, h', tk, so, rfl, h1, h2, h3⟩
  have ofRI : ∀ r s₂, RI r s₂ → r = .none ∧ ∃ h' tk so, s₂ = { s with heap := h', toks := tk } ∧ h'.get? S0 = some so ∧ Set2 w a b so ∧ (∀ c o, c < S0 → s.heap.get? c = some o → h'.get? c = some o) := fun r s₂ z => by
    rw [hRI] at z; exact z
  clear hRI
  obtain ⟨c, tl, hmro⟩ := called_set.mro
  have hmade := called_set.made
  have hsub := called_set.sub
  refine wpAny_call (codeAny_of_tree ?_)
  show wpAny _ _ (callAny (.type "set") _) _ _ _
  refine wpAny_pure ⟨Code.quiet_builtin _ (by decide +kernel), codeAny_builtin PySem.F.entry_type_call ?_⟩
  rw [Around.under_plain (weight_type_call_type "set" [.ref l] []) rfl]
  have h1 := called_set.notType
  have h2 := called_set.canCreate
  have hct := typeCall_set_1 (.ref l)
  repeat (any_goals (first | assumption | wp_step))
  refine codeAny_mono (hnew (E := E) (Q₁ := fun obj s₁ => obj = .ref S0 ∧ s₁ = { s with heap := H1 }) ⟨rfl, rfl⟩) fun r s₁ hr => ?_
  cases r with
  | error e => exact hr
  | ok fl =>
    cases fl with
    | ret obj =>
      obtain ⟨rfl, rfl⟩ := hr
      have hT : Shared.TypeIs { s with heap := H1 } (.ref S0) "set" := ⟨_, hS, hT0⟩
      have hli := called_set.init.lookup
      have hbi := called_set.init.bind (.ref S0)
      repeat (any_goals (first | assumption | wp_step))
      refine codeAny_mono (codeAny_call_builtin (R := wants RI E) called_set.init.plain entry_set_init (check_set_init_1 hT ?_)) fun r₂ s₂ hr₂ => ?_
      · obtain ⟨ol, hol, hcl, nl, hdl⟩ := hl
        obtain ⟨ocls, odict, odata, oslots⟩ := ol
        simp only at hcl hdl
        subst hcl; subst hdl
        have hol' : H1.get? l = some { cls := .type "list", dict := odict, data := .seq #[.int a ta, .int b tb] nl, slots := oslots } := up _ _ hol
        have hsls := sub_list_set
        have hslf := sub_list_frozenset
        have hne : (Value.type "list" == Value.type "dict") = false := by decide
        have hl1 : H1.IsList l #[.int a ta, .int b tb] := ⟨_, hol', rfl, nl, rfl⟩
        unfold Builtin.«set.__init__» noKeywords Builtin.Frozenset.updateFrom
        generalize hPI : pyIter = PI
        wp_walk
        subst hPI
        refine wpAny_pyIter_list hl1 ?_
        refine wpAny_bind (wpAny_runValue ?_)
        have hlS : l < S0 := hS0 ▸ Heap.lt_size hol
        have hh3 : A.in1.in1.in1.handled = none := by simp [hh]
        have hneI : l ≠ H1.objs.size := by rw [hsz]; exact Nat.ne_of_lt (Nat.lt_succ_of_lt hlS)
        have hSI : S0 ≠ H1.objs.size := by rw [hsz]; exact Nat.ne_of_lt (Nat.lt_succ_self _)
        refine upd_two (by first | exact hh3 | simp [hh]) hSI (Nat.ne_of_gt hlS) hneI ha hb ⟨_, Heap.get?_push_size _ rfl, rfl, rfl⟩ (hl1.push _) (Heap.get?_push_of_some _ hup) fun s' so hm hg h2 => ?_
        obtain ⟨h', g', d', tk', os'⟩ := s'
        have eg : g' = s.gens := hm.gens
        have ed : d' = s.drawn := hm.drawn
        have eo : os' = s.os := hm.os
        subst eg; subst ed; subst eo
        show wpAny _ _ _ _ _ _
        refine wpAny_pure ?_
        show wpAny _ _ (ret Value.none) _ _ _
        refine wpAny_pure (toRI h' tk' so hg h2 fun c o hc e => ?_)
        exact hm.heap c o (by
          simp only [List.mem_cons, List.mem_singleton, List.not_mem_nil, or_false, not_or]
          exact ⟨Nat.ne_of_lt hc, by rw [hsz]; exact Nat.ne_of_lt (Nat.lt_succ_of_lt hc)⟩) (Heap.get?_push_of_some _ (up _ _ e))
      · cases r₂ with
        | error e => exact hr₂
        | ok fl₂ =>
          cases fl₂ with
          | ret r =>
            obtain ⟨rfl, h', tk, so, rfl, hg, h2, hk'⟩ := ofRI _ _ hr₂
            repeat (any_goals (first | assumption | wp_step))
            exact h _ _ _ hg h2 hk'
          | _ => exact hr₂.elim
    | _ => exact hr.elim
theorem set_new2 {prog : Program} {w : World} {A : Around} {E : Value → Shared → Prop} {s : Shared} {base : Heap} {L : Addr} {m : Str → Option Value} {all : Led} {l : Addr} {a b : Nat} {ta tb : Tok} {c : Nat} {Q : Value → Shared → Prop} (ha : a < 6) (hb : b < 6) (hh : A.handled = none) (F : Fr base L s.heap m) (N : News base L s.heap all) (hl : (l, liO [.int a ta, .int b tb] c) ∈ all)
    (h : ∀ h' tk D so, Set2 w a b so → Fr base L h' m → News base L h' ((D, so) :: all) → (∀ p ∈ all, p.1 < D) → Q (.ref D) { s with heap := h', toks := tk }) : wpAny (model prog w) A (call (.type "set") [.ref l]) Q E s := by
  refine call_set2 ha hb hh ⟨_, (N _ hl).1, rfl, c, rfl⟩ fun h' tk so hg h2 hk => ?_
  have up : ∀ b o, s.heap.get? b = some o → h'.get? b = some o := fun b o e => hk b o (Heap.lt_size e) e
  obtain ⟨oL, _, _, hL, _⟩ := F.ns
  refine h h' tk _ so h2 (F.kept up) (fun p hp => ?_) fun p hp => Heap.lt_size (N p hp).1
  rcases List.mem_cons.mp hp with rfl | hp
  · refine ⟨hg, Nat.ne_of_gt (Heap.lt_size hL), ?_⟩
    cases hq : base.get? s.heap.objs.size with
    | none => rfl
    | some o => exact absurd (Heap.lt_size (F.keep _ _ hq)) (Nat.lt_irrefl _)
  · exact ⟨up _ _ (N p hp).1, (N p hp).2⟩
end
section -- MSup
section
variable {prog : Program} {w : World} {A : Around} {K : Frag}
theorem enterS {R : Result → Shared → Prop} {name qual : Str} {params : Arguments} {body : List Stmt} {scope : Scope} {dV kV doc pm cdv ct oc : Value} {an od : Option Addr} {osl : Array (Option Value)} {f cc : Addr} {args : Args} {binds : List (Str × Value)}
    {base : Heap} {L : Addr} {m : Str → Option Value} {frs news : Led} {env : Env} {outer : List Env} {s : Shared} {p : Program} {loose : List Str} {mean : ExcName → Option Value} {mg mb : Str → Option Value}
    (F : Fr base L s.heap m) (X : K.In base) (T : Top p loose mean mg mb base) (N : News base L s.heap (frs ++ news)) (O : FrOK outer frs) (Of : Off frs news)
    (_hA : A.frames = some (env :: outer)) (hf : env.frame = some L) (hke : env.scope.kind = .function)
    (ho : K.lookup f = some ⟨oc, od, .func (ksFn name qual params body scope dV kV doc pm an cdv ct cc), osl⟩) (hcd : codeIn K cdv qual = true) (hroom : A.depth < recursionLimit)
    (hbind : BindsTo s (ksFn name qual params body scope dV kV doc pm an cdv ct cc) args binds) (hloc : ∀ y ∈ binds, scope.names.lookup y.1 = some .local)
    (h : ∀ L' h₁ frs₁, FrOK (env :: outer) frs₁ → Off frs₁ news → Back base L m frs frs₁ → Fr base L' h₁ (fun y => binds.reverse.lookup y) → News base L' h₁ (frs₁ ++ news) → (∀ p ∈ frs₁ ++ news, p.1 < L') →
      _root_.PySem.wpAt (model prog w) (A.deeper (ksEnv qual scope L' f cdv cc)) (.func body (ksEnv qual scope L' f cdv cc)) (execs body (ksEnv qual scope L' f cdv cc))
        (fun fl s' => R (.ok (.ret (match fl with | .ret v => v | _ => .none))) s')
        (fun e s' => wpAny (model prog w) (A.deeper (ksEnv qual scope L' f cdv cc)) (leaving (ksEnv qual scope L' f cdv cc) e) (fun _ s'' => R (.error e) s'') (fun e' s'' => R (.error e') s'') s')
        { s with heap := h₁, toks := s.toks + binds.length })
    (hco : scope.isCoroutine = false) (hgen : scope.isGenerator = false) (hk : scope.kind = .function)
    (hcell : ∀ x ∈ scope.names, x.2 ≠ .cell) : codeAny (model prog w) A (.call (.ref f) args) R s := by
  refine ks_codeAny_call_defAt (fd := ksFn name qual params body scope dV kV doc pm an cdv ct cc) (body := body) (binds := binds) hroom (F.keep _ _ (X _ _ ho)) rfl (T.nolimit.keeps F.keep) (codeRec_of (X.keeps F.keep) hcd) rfl hbind hcell hloc (fun h₁ hns hk₁ => ?_) hco hgen hk
  obtain ⟨oL, es, ep, hL, hLd, hLk, hLf⟩ := F.ns
  have hbL : base.get? L = none := by
    cases q : base.get? L with
    | none => rfl
    | some o => exact absurd (Nat.lt_of_lt_of_le (Heap.lt_size q) F.above) (Nat.lt_irrefl _)
  have hLo : L ∉ frs.map (·.1) := fun hm => by
    obtain ⟨q, hq, e⟩ := List.mem_map.mp hm
    exact (N q (List.mem_append_left _ hq)).2.1 e
  have lt : ∀ q ∈ ((L, oL) :: frs) ++ news, q.1 < s.heap.objs.size := fun q hq => by
    rcases List.mem_cons.mp hq with rfl | hq
    · exact Heap.lt_size hL
    · exact Heap.lt_size (N q hq).1
  refine h s.heap.objs.size h₁ ((L, oL) :: frs) (FrOK.cons (by rw [hke]; decide) hf hLd O) (fun q hq hm => ?_) (back_of hLd hLk hLf F.above hLo) ⟨hns, fun b o e => hk₁ b o (F.keep b o e), Nat.le_of_lt (Nat.lt_of_le_of_lt F.above (Heap.lt_size hL))⟩ (fun q hq => ?_) lt
  · rcases List.mem_cons.mp hm with e | hm
    · exact (N q (List.mem_append_right _ hq)).2.1 e
    · exact Of q hq hm
  · rcases List.mem_cons.mp hq with rfl | hq'
    · exact ⟨hk₁ _ _ hL, Nat.ne_of_lt (Heap.lt_size hL), hbL⟩
    · exact ⟨hk₁ _ _ (N q hq').1, Nat.ne_of_lt (Heap.lt_size (N q hq').1), (N q hq').2.2⟩
end

/-- the exception as __new__ leaves it -/
noncomputable abbrev excObj (a : Addr) (d : Option Addr) : Obj := { cls := .ref 88, dict := d, data := .fields #[.ref a, .none, .none, .none, .bool false, .none] }
end
section -- MKf
open PySem.W.X
/-- what the end of a run must be: said by one word, so that x_close finds it -/
noncomputable def EndX (s : Shared) (o : Addr → Obj → Prop) (Q : Value → Shared → Prop) : Prop := ∀ h' e ob, (∀ b o, s.heap.get? b = some o → h'.get? b = some o) → s.heap.get? e = none → h'.get? e = some ob → o e ob → Q (.ref e) { s with heap := h' }
theorem EndX.here {s : Shared} {o : Addr → Obj → Prop} {Q : Value → Shared → Prop} (x : EndX s o Q) {h' : Heap} {e : Addr} {ob : Obj} {r : List (Addr × Obj)} (D : Mem s.heap h' [] ((e, ob) :: r)) (ho : o e ob) : Q (.ref e) ⟨h', s.gens, s.drawn, s.toks, s.os⟩ :=
  x h' e ob (fun b o e => D.old b o e (by rw [Bool.or_eq_true]; exact .inr rfl)) (D.nw _ (.head _)).2 (D.nw _ (.head _)).1 ho
local macro_rules | `(tactic| x_close) => `(tactic| (refine EndX.here (by assumption) (by assumption) ?_; first | exact ⟨_, rfl⟩ | rfl))
section
variable {prog : Program} {w : World} {A : Around} {R : Result → Shared → Prop} {h : Heap} {g : Array GenState} {d : Drawn} {tk : Nat} {os : OsState}
theorem new88 {nm q : Str} {C N : Addr} {bs bm : List Value} {hdct : Bool} {sn : List Str} {sub : List Value} {ab : Bool} {col : Option Bool} {dd : Option Addr} {k0 k1 k2 k3 k5 : Option Value} {rest : List Value} (hC : h.get? C = some (excClassObj nm q C N bs bm hdct sn sub ab col dd k0 k1 k2 k3 k5 "Exception.__new__"))
    (hcB : (Value.ref C :: bm).contains (.type "Exception") = true) (hcA : (Value.ref C :: bm).contains (.type "AttributeError") = false) (hcN : (Value.ref C :: bm).contains (.type "NameError") = false)
    (hq : R (.ok (.ret (.ref (h.objs.size + 1)))) ⟨(h.push { cls := .type "tuple", data := .seq rest.toArray }).push
      { cls := .ref C, data := .fields #[.ref h.objs.size, .none, .none, .none, .bool false, .none] }, g, d, tk, os⟩) (hrest : rest.length ≤ sizeLine) :
    codeAny (model prog w) A (.builtin "Exception.__new__" ⟨.ref C :: rest, []⟩) R ⟨h, g, d, tk, os⟩ := by
  have F := PySem.F.excBase_Exception
  have hends := F.ends
  refine codeAny_builtinAt F.entry ?_
  unfold Builtin.«BaseException.__new__»
  refine _root_.PySem.wpAt_bind ?_
  show _root_.PySem.wpAt _ _ _ (stack >>= _) _ _ _
  refine _root_.PySem.wpAt_bind (_root_.PySem.wpAt_stack fun p below => _root_.PySem.wpAt_of_wpAny ?_)
  wp_walk
  refine _root_.PySem.wpAt_of_wpAny ?_
  rw [F.owner]
  repeat (first | with_reducible refine wpAny_madeHere_exc F.canon hC ?_ | with_reducible refine wpAny_loadPart_at hC ?_ | (with_reducible refine wpAny_isSubtype_exc hC ?_; first | rw [hcB] | rw [hcA] | rw [hcN]) | wp_step)
  show R _ _
  rw [Heap.size_push]
  exact hq
end
theorem wrap_get (w : World) (A : Around) (s : Shared) (Q E : Value → Shared → Prop) (e a : Addr) (KX : (seed.heap_1 w.params).In s.heap)
    (he : s.heap.get? e = some ⟨.ref 88, none, .fields #[.ref a, .none, .none, .none, .bool false, .none], #[]⟩)
    (hh : EndX s (fun _ ob => ob = { cls := .type "method-wrapper", data := .fields #[.builtin "Exception.__init__", .ref e] }) Q) :
    wpAny (model PySem.Challenge.rw_qd0027_02.row.prog w) A (call (.builtin "wrapper_descriptor.__get__") [.builtin "Exception.__init__", .ref e, .ref 88]) Q E s := by
  x_run
section
variable {w : World} {A : Around} {E : Value → Shared → Prop} {h : Heap} {g : Array GenState} {d : Drawn} {tk : Nat} {os : OsState}
theorem mw_entry : entryFor table "Exception.__init__" = some Builtin.«BaseException.__init__» := PySem.F.excCall_Exception.initEntry
theorem mw_call {mw e a : Addr} {x : Str} {t : Tok} {Q : Value → Shared → Prop} (KX : (seed.heap_1 w.params).In h)
    (hm : h.get? mw = some { cls := .type "method-wrapper", data := .fields #[.builtin "Exception.__init__", .ref e] }) (he : h.get? e = some (excObj a none))
    (hq : ∀ h' a', (∀ b o, b ≠ e → h.get? b = some o → h'.get? b = some o) → h'.get? e = some (excObj a' none) → Q .none ⟨h', g, d, tk, os⟩) :
    wpAny (model PySem.Challenge.rw_qd0027_02.row.prog w) A (call (.ref mw) [.str x t]) Q E ⟨h, g, d, tk, os⟩ := by
  have h88 := KX 88 _ rfl
  refine wpAny_call (codeAny_of_tree ?_)
  show wpAny _ A.in1 (callAny (.ref mw) ⟨[.str x t], []⟩) _ _ _
  unfold callAny
  refine wpAny_bind (wpAny_load hm ?_)
  show wpAny _ _ (checkBoundCall "Exception.__init__" ⟨[.ref e, .str x t], []⟩ >>= fun _ => again (.builtin "Exception.__init__" ⟨[.ref e, .str x t], []⟩)) _ _ _
  refine wpAny_bind ?_
  unfold checkBoundCall
  repeat lk
  refine ⟨Code.quiet_builtin _ (by decide +kernel), codeAny_builtin mw_entry ?_⟩
  unfold Builtin.«BaseException.__init__»
  have he' : (h.push { cls := .type "tuple", data := .seq #[.str x t] }).get? e = some (excObj a none) := Heap.get?_push_of_some _ he
  show wpAny _ _ (newTuple [.str x t] >>= fun v => Builtin.BaseException.bexcPut (.ref e) 0 v >>= fun _ => ret .none) _ _ _
  refine wpAny_bind (wpAny_newTuple ?_ (Nat.le_of_ble_eq_true rfl))
  refine wpAny_bind ?_
  unfold Builtin.BaseException.bexcPut
  refine wpAny_bind (wpAny_field he' rfl rfl (wpAny_bind (wpAny_setField_rec he' (Nat.zero_lt_succ _) fun h' e1 sb => wpAny_letGo ?_)))
  exact wpAny_pure (hq h' _ (fun b o hb eo => (sb.2 b hb).trans (Heap.get?_push_of_some _ eo)) e1)
end
noncomputable abbrev mwObj (e : Addr) : Obj := { cls := .type "method-wrapper", data := .fields #[.builtin "Exception.__init__", .ref e] }
noncomputable abbrev sup47 (e : Addr) : Obj := { cls := .type "super", dict := none, data := .fields #[.ref 47, .ref e, .ref 88], slots := #[] }
noncomputable abbrev mro88 : List Value := [.ref 88, .ref 76, .ref 47, .type "Exception", .type "BaseException", .type "object"]
theorem k88 (P : Params) : ∃ cd, clsIn (seed.heap_1 P) 88 = some cd ∧ cd.mro = mro88 ∧ cd.hasDict = true ∧ cd.abstract = false ∧ cd.hasDel = false := ⟨_, rfl, rfl, rfl, rfl, rfl⟩
theorem init_along (P : Params) : alongIn (seed.heap_1 P) (Str.ofString "__init__") [.type "Exception", .type "BaseException", .type "object"] = some (some (.builtin "Exception.__init__")) := by kernel_rfl
theorem wkind : builtinKind "Exception.__init__" = some .slot := by kernel_rfl
theorem wget : typeLookup (.type "wrapper_descriptor") (Str.ofString "__get__") = pure (some (.builtin "wrapper_descriptor.__get__")) := by rw [typeLookup_type, builtinLookup_eq_fast]; kernel_rfl
theorem drop47 : (mro88.dropWhile (· != .ref 47)).drop 1 = [.type "Exception", .type "BaseException", .type "object"] := by decide +kernel
section
variable {w : World} {A : Around} {E : Value → Shared → Prop} {h : Heap} {g : Array GenState} {d : Drawn} {tk : Nat} {os : OsState}
theorem looks_mro88 {M : Model} (KX : (seed.heap_1 w.params).In h) : Looks M h (mroOf (.ref 88)) mro88 := by
  obtain ⟨cd, hc, hm, -⟩ := k88 w.params
  rw [← hm]
  exact fun A Q E s k q => wpAny_bind ((looks_clsIn KX hc) A _ E s k (wpAny_pure q))
theorem super_gab {so e a : Addr} {t : Tok} {Q : PySem.Fin → Shared → Prop} (KX : (seed.heap_1 w.params).In h) (hso : h.get? so = some (sup47 e)) (he : h.get? e = some (excObj a none)) (hne : e ≠ 88)
    (hq : ∀ h' q, (∀ b o, h.get? b = some o → h'.get? b = some o) → h.get? q = none → h'.get? q = some (mwObj e) → Q (.done (.ret (.ref q))) ⟨h', g, d, tk, os⟩) :
    wpAny (model PySem.Challenge.rw_qd0027_02.row.prog w) A (Builtin.«super.__getattribute__» ⟨[.ref so, .str (Str.ofString "__init__") t], []⟩) Q E ⟨h, g, d, tk, os⟩ := by
  have hno : Looks (model PySem.Challenge.rw_qd0027_02.row.prog w) h (opaqueClassAbove (.ref 88)) none := looks_opaque KX (by kernel_rfl)
  have hC := looks_mro88 (M := model PySem.Challenge.rw_qd0027_02.row.prog w) KX
  have hnb : (Value.ref e == Value.ref 88) = false := by simp [hne]
  have hl := init_along w.params
  have hdt : (sup47 e).data = .fields #[.ref 47, .ref e, .ref 88] := rfl
  have f0 : (#[.ref 47, .ref e, .ref 88] : Array Value)[0]? = some (.ref 47) := rfl
  have f1 : (#[.ref 47, .ref e, .ref 88] : Array Value)[1]? = some (.ref e) := rfl
  have f2 : (#[.ref 47, .ref e, .ref 88] : Array Value)[2]? = some (.ref 88) := rfl
  have hn : ((Str.ofString "__init__") == ("__class__" : Str)) = false := by decide +kernel
  generalize hN : Str.ofString "__init__" = N at hl hn ⊢
  unfold Builtin.«super.__getattribute__»
  iterate 34 (first
    | (with_reducible refine wpAny_field hso hdt f0 ?_) | (with_reducible refine wpAny_field hso hdt f1 ?_) | (with_reducible refine wpAny_field hso hdt f2 ?_)
    | (with_reducible refine ks_wpAny_notOpaque hno ?_)
    | (with_reducible refine Looks.at hC ?_; rw [drop47])
    | (refine ks_forIn_along KX (fun _ _ => rfl) rfl ?_ hl)
    | (simp only [hn, hnb, Bool.or_false, Bool.false_eq_true, if_false])
    | wp_step
    | dsimp only | skip)
  rw [wkind]
  dsimp only
  rw [wget]
  refine wpAny_pure ?_
  dsimp only
  refine wpAny_bind (wpAny_holding (wrap_get w _ _ _ _ e a KX he ?_))
  intro h' q ob k hn' hq' ho
  subst ho
  refine wpAny_bind (wpAny_pure (wpAny_pure ?_))
  dsimp only
  refine wpAny_pure ?_
  exact hq h' q k hn' hq'
end
section
variable {w : World} {A : Around} {E : Value → Shared → Prop} {h : Heap} {g : Array GenState} {d : Drawn} {tk : Nat} {os : OsState}
theorem super_meth {so e a : Addr} {pl : Sem Bool} {Q : Value × List Value → Shared → Prop} (KX : (seed.heap_1 w.params).In h) (hso : h.get? so = some (sup47 e)) (he : h.get? e = some (excObj a none)) (hne : e ≠ 88)
    (hq : ∀ h' q, (∀ b o, h.get? b = some o → h'.get? b = some o) → h.get? q = none → h'.get? q = some (mwObj e) → Q (.ref q, []) ⟨h', g, d, tk + 1, os⟩) :
    wpAny (model PySem.Challenge.rw_qd0027_02.row.prog w) A (getMethod (.ref so) (Str.ofString "__init__") pl) Q E ⟨h, g, d, tk, os⟩ := by
  have hlk := PySem.F.ks_slot_super_ga.lookup
  have hcan := PySem.F.ks_canon_super_ga
  have hT : ∀ t', (⟨h, g, d, t', os⟩ : Shared).TypeIs (.ref so) "super" := fun _ => ⟨_, hso, rfl⟩
  unfold getMethod
  refine wpAny_bind (wpAny_specialOf (hT _) hlk ?_)
  show wpAny _ _ (if (Manifest.canonical "super.__getattribute__" != "object.__getattribute__") = true then _ else _) _ _ _
  rw [if_pos hcan]
  unfold getAttr getAttrBy
  refine wpAny_bind (wpAny_bind (wpAny_mkText (wpAny_holding (wpAny_bind (wpAny_typeOf (hT _) (wpAny_bind (wpAny_of_eq hlk ?_)))))))
  show wpAny _ _ (getAttrByItsOwn (.ref so) (.str (Str.ofString "__init__") tk) (.type "super") (.builtin "super.__getattribute__") true false) _ _ _
  unfold getAttrByItsOwn hookBefore callGetattribute boundAndCalled
  refine wpAny_bind (wpAny_of_eq (show (if onTheHeap (.type "super") then typeLookup (.type "super") "__getattr__" else pure none) = pure none from rfl) ?_)
  refine wpAny_bind (wpAny_attempt (wpAny_holding ?_))
  show wpAny _ _ (bindSpecial (.builtin "super.__getattribute__") (.ref so) >>= _) _ _ _
  refine wpAny_bind (wpAny_of_eq (PySem.F.ks_slot_super_ga.bind _) ?_)
  refine wpAny_call_entry PySem.F.ks_slot_super_ga (hT _) PySem.F.ks_entry_super_ga (super_gab KX hso he hne fun h' q k1 k2 k3 => ⟨_, rfl, ?_⟩) (PySem.F.ks_gaArgs_super _ _)
  exact wpAny_pure (wpAny_pure (hq h' q k1 k2 k3))
end
end
section -- MKs
open Builtin Builtin.ObjectAttr
theorem refuse88 (self : Value) : refuseLoop self "__setattr__" mro88 = pure () := by
  rw [refuseLoop_ref, refuseLoop_ref, refuseLoop_ref]
  exact PySem.F.store_Exception.passes self
section
variable {w : World} {A : Around} {R : Result → Shared → Prop} {E : Value → Shared → Prop} {s : Shared}
theorem typeOf_exc {M : Model} {e a : Addr} {d : Option Addr} (he : s.heap.get? e = some (excObj a d)) : Looks M s.heap (typeOf (.ref e)) (.ref 88) := (Looks.ld he).andThen .now
theorem osa_exc {e a : Addr} {d : Option Addr} {name : Str} {tk : Tok} {v : Value} (KX : (seed.heap_1 w.params).In s.heap) (he : s.heap.get? e = some (excObj a d)) (ht : findIn (seed.heap_1 w.params) (.ref 88) name = some none)
    (hq : wpAny (model PySem.Challenge.rw_qd0027_02.row.prog w) A.in1 (storeInOwnDict (.ref e) (.ref 88) (.str name tk) name v false)
      (fun fin s' => match fin with | .done f => R (.ok f) s' | .again c' => c'.quiet = true ∧ codeAny (model PySem.Challenge.rw_qd0027_02.row.prog w) A c' R s') (fun e s' => R (.error e) s') s) :
    codeAny (model PySem.Challenge.rw_qd0027_02.row.prog w) A (.call (.builtin "object.__setattr__") ⟨[.ref e, .str name tk, v], []⟩) R s := by
  have SF := PySem.F.store_object
  have hT := typeOf_exc (M := model PySem.Challenge.rw_qd0027_02.row.prog w) he
  have hm := looks_mro88 (M := model PySem.Challenge.rw_qd0027_02.row.prog w) KX
  have sub : Looks (model PySem.Challenge.rw_qd0027_02.row.prog w) s.heap (isInstance (.ref e) (.type "object")) true := hT.andThen (looks_mroIn KX (by obtain ⟨cd, hc, hm, -⟩ := k88 w.params; unfold mroIn; rw [hc, Option.bind_some, hm]; decide +kernel))
  refine codeAny_call_builtin SF.slot.plain SF.entry (@check_slot (model PySem.Challenge.rw_qd0027_02.row.prog w) _ _ s "object.__setattr__" "object" "__setattr__" (.ref e) [.str name tk, v] [] _ SF.kind SF.split sub (SF.args (.ref e) (.str name tk) v) ?_)
  rw [osa_eq, refuse_eq]
  refine wpAny_bind (wpAny_bind (hT.here (wpAny_bind (hm.here ?_))))
  rw [refuse88]
  refine wpAny_pure (wpAny_bind (hT.here (wpAny_bind ((looks_findIn KX ht).here (wpAny_bind (wpAny_pure ?_))))))
  exact hq
theorem store_d {dx : Addr} {od od' : Obj} {name : Str} {tk : Tok} {v : Value} {es : List DictEntry} {n : Nat} {Q : PySem.Fin → Shared → Prop} (D : s.heap.get? dx = some od) (hl : (lookIn name od).isSome = true)
    (e : Obj.putName name (PyData.keyHash w.params name) (.str name s.toks) v od = od') (e' : od'.data = .dict es.toArray n) (hz : es.length ≤ 1000)
    (h : ∀ h', h'.get? dx = some od' → (∀ b, b ≠ dx → h'.get? b = s.heap.get? b) → Q (.done (.ret .none)) { s with heap := h', toks := s.toks + 1 }) :
    wpAny (model PySem.Challenge.rw_qd0027_02.row.prog w) A (storeInDict dx (.str name tk) name v) Q E s := by
  have D' : (s.heap.update dx (Obj.putName name (PyData.keyHash w.params name) (.str name s.toks) v)).get? dx = some od' := by
    rw [Heap.get?_update_self _ D (by rw [e]; obtain ⟨_, _, dd, _⟩ := od'; cases e'; rfl), e]
  unfold storeInDict newKeyGuard
  refine wpAny_bind (wpAny_pure (wpAny_bind ?_))
  unfold nsSet
  refine wpAny_bind (wpAny_bind (wpAny_askSetting (wpAny_pure (wpAny_bind (wpAny_mkText (wpAny_bind (wpAny_loadPart D ?_)))))))
  unfold lookIn at hl
  split at hl
  · rename_i es₀ n₀ q
    rw [q]
    dsimp only
    have c : (!es₀.any (·.key.isStr name) && es₀.any (·.refKey)) = false := by
      rw [← Array.any_toList, ← Array.any_toList]
      split at hl
      · rename_i en he
        rw [List.any_eq_true.mpr ⟨en, List.mem_of_find?_eq_some he, List.find?_some he⟩]; rfl
      · split at hl
        · cases hl
        · rename_i z; rw [Bool.not_eq_true] at z; rw [z, Bool.and_false]
    rw [aRefKeyMayBeTheName_at, c]
    refine wpAny_updatePart D ?_
    refine wpAny_bind (wpAny_lookBehind D' (by rw [e']; exact pastItsLine_dict (by rw [List.size_toArray, sizeLine_eq]; omega)) ?_)
    exact wpAny_pure (h _ D' fun b hb => Heap.get?_update_other _ _ (Ne.symm hb))
  · cases hl
theorem find88 (P : Params) : findIn (seed.heap_1 P) (.ref 88) (Str.ofString "__setattr__") = some (some (.builtin "object.__setattr__")) := by kernel_rfl
/-- the attribute of an exception that has its dict -/
theorem set_more {e a dx : Addr} {od : Obj} {od' : Tok → Obj} {name : Str} {v : Value} {es : Tok → List DictEntry} {n : Tok → Nat} {Q : Unit → Shared → Prop} (KX : (seed.heap_1 w.params).In s.heap) (he : s.heap.get? e = some (excObj a (some dx))) (D : s.heap.get? dx = some od)
    (ht : findIn (seed.heap_1 w.params) (.ref 88) name = some none) (hl : (lookIn name od).isSome = true)
    (eo : ∀ t, Obj.putName name (PyData.keyHash w.params name) (.str name t) v od = od' t) (e' : ∀ t, (od' t).data = .dict (es t).toArray (n t)) (hz : ∀ t, (es t).length ≤ 1000)
    (h : ∀ h' t tk', h'.get? dx = some (od' t) → (∀ b, b ≠ dx → h'.get? b = s.heap.get? b) → Q () { s with heap := h', toks := tk' }) :
    wpAny (model PySem.Challenge.rw_qd0027_02.row.prog w) A (setAttr (.ref e) name v) Q E s := by
  refine wpAny_bind (wpAny_mkText (wpAny_bind (wpAny_bind (wpAny_bind ((typeOf_exc he) _ _ _ _ (fun _ _ e => e) (looks_findIn KX (find88 w.params) _ _ _ _ (fun _ _ e => e) (wpAny_holding ?_)))))))
  rw [PySem.F.store_object.slot.bind]
  refine wpAny_bind (wpAny_pure (wpAny_bind (wpAny_call (osa_exc (s := { s with toks := s.toks + 1 }) KX he ht ?_))))
  obtain ⟨cd, hc, -, hdict, -⟩ := k88 w.params
  unfold storeInOwnDict ownDictForStores instanceDict
  refine wpAny_bind (wpAny_pure (wpAny_bind (wpAny_bind (wpAny_loadPart he (wpAny_bind ((looks_clsIn KX hc) _ _ _ _ (fun _ _ e => e) ?_))))))
  rw [hdict]
  refine wpAny_pure (a := some dx) ?_
  refine store_d (s := { s with toks := s.toks + 1 }) (es := es _) (n := n _) D hl (eo _) (e' _) (hz _) fun h' h1 h2 => ?_
  exact wpAny_pure (wpAny_pure (h h' _ _ h1 h2))
/-- the first attribute of an exception -/
theorem set_first {e a : Addr} {od' : Tok → Obj} {name : Str} {v : Value} {es : Tok → List DictEntry} {n : Tok → Nat} {Q : Unit → Shared → Prop} (KX : (seed.heap_1 w.params).In s.heap) (he : s.heap.get? e = some (excObj a none))
    (ht : findIn (seed.heap_1 w.params) (.ref 88) name = some none)
    (eo : ∀ t, Obj.putName name (PyData.keyHash w.params name) (.str name t) v emptyDict = od' t) (e' : ∀ t, (od' t).data = .dict (es t).toArray (n t)) (hz : ∀ t, (es t).length ≤ 1000)
    (h : ∀ h' dx t tk', s.heap.get? dx = none → h'.get? e = some (excObj a (some dx)) → h'.get? dx = some (od' t) → (∀ b o, b ≠ e → s.heap.get? b = some o → h'.get? b = some o) → Q () { s with heap := h', toks := tk' }) :
    wpAny (model PySem.Challenge.rw_qd0027_02.row.prog w) A (setAttr (.ref e) name v) Q E s := by
  refine wpAny_bind (wpAny_mkText (wpAny_bind (wpAny_bind (wpAny_bind ((typeOf_exc he) _ _ _ _ (fun _ _ e => e) (looks_findIn KX (find88 w.params) _ _ _ _ (fun _ _ e => e) (wpAny_holding ?_)))))))
  rw [PySem.F.store_object.slot.bind]
  refine wpAny_bind (wpAny_pure (wpAny_bind (wpAny_call (osa_exc (s := { s with toks := s.toks + 1 }) KX he ht ?_))))
  obtain ⟨cd, hc, -, hdict, -⟩ := k88 w.params
  have hlt := Heap.lt_size he
  have hne : s.heap.objs.size ≠ e := Nat.ne_of_gt hlt
  have he2 : (s.heap.push emptyDict).get? e = some (excObj a none) := Heap.get?_push_of_some _ he
  have he3 : ((s.heap.push emptyDict).update e fun o => { o with dict := some s.heap.objs.size }).get? e = some (excObj a (some s.heap.objs.size)) := Heap.get?_update_self _ he2 rfl
  have oth : ∀ b, b ≠ e → ((s.heap.push emptyDict).update e fun o => { o with dict := some s.heap.objs.size }).get? b = (s.heap.push emptyDict).get? b := fun b hb => Heap.get?_update_other _ _ (Ne.symm hb)
  have hD : ((s.heap.push emptyDict).update e fun o => { o with dict := some s.heap.objs.size }).get? s.heap.objs.size = some emptyDict := (oth _ hne).trans (Heap.get?_push_size _ rfl)
  unfold storeInOwnDict ownDictForStores instanceDict
  refine wpAny_bind (wpAny_pure (wpAny_bind (wpAny_bind (wpAny_loadPart he (wpAny_bind ((looks_clsIn KX hc) _ _ _ _ (fun _ _ e => e) ?_))))))
  rw [hdict]
  refine wpAny_bind (wpAny_alloc (wpAny_bind (wpAny_update he2 ?_)))
  refine wpAny_pure (a := some s.heap.objs.size) ?_
  refine store_d (s := { s with heap := (s.heap.push emptyDict).update e fun o => { o with dict := some s.heap.objs.size }, toks := s.toks + 1 }) (es := es _) (n := n _) hD (by unfold lookIn; rfl) (eo _) (e' _) (hz _) fun h' h1 h2 => ?_
  exact wpAny_pure (wpAny_pure (h h' _ _ _ (Heap.get?_none_of_le (Nat.le_refl _)) ((h2 e (Ne.symm hne)).trans he3) h1 fun b o hb eo => (h2 b (fun q => by rw [q] at eo; exact absurd (Heap.lt_size eo) (Nat.lt_irrefl _))).trans ((oth b hb).trans (Heap.get?_push_of_some _ eo))))
end
end
section -- MTup
local macro_rules | `(tactic| walk_at "d0") => `(tactic| skip)
theorem tm0 (t r : Addr) (u : Tok) (n : Nat) : Meets (Builtin.«tuple.__mul__» ⟨[.ref t, .int 0 u], []⟩) (fun _ R s => s.heap.get? t = some ⟨.type "tuple", none, .seq #[.ref r] n, #[]⟩ ∧ R (.ok (.ret (.ref s.heap.objs.size))) { s with heap := s.heap.push { cls := .type "tuple", data := .seq #[] }, toks := s.toks }) :=
  .of_wp fun prog w A R s h => by obtain ⟨hp, g, d, tk, os⟩ := s; obtain ⟨hl, h⟩ := h; have hsub := PySem.F.isi_sub_tuple; wp_walk; exact ⟨_, rfl, h⟩
theorem tm1 (t r : Addr) (u : Tok) (n : Nat) : Meets (Builtin.«tuple.__mul__» ⟨[.ref t, .int 1 u], []⟩) (fun _ R s => s.heap.get? t = some ⟨.type "tuple", none, .seq #[.ref r] n, #[]⟩ ∧ R (.ok (.ret (.ref t))) s) :=
  .of_wp fun prog w A R s h => by obtain ⟨hp, g, d, tk, os⟩ := s; obtain ⟨hl, h⟩ := h; have hsub := PySem.F.isi_sub_tuple; wp_walk; exact ⟨_, rfl, h⟩
theorem tm2 (t r : Addr) (u : Tok) (n : Nat) : Meets (Builtin.«tuple.__mul__» ⟨[.ref t, .int 2 u], []⟩) (fun _ R s => s.heap.get? t = some ⟨.type "tuple", none, .seq #[.ref r] n, #[]⟩ ∧ R (.ok (.ret (.ref s.heap.objs.size))) { s with heap := s.heap.push { cls := .type "tuple", data := .seq #[.ref r, .ref r] }, toks := s.toks }) :=
  .of_wp fun prog w A R s h => by obtain ⟨hp, g, d, tk, os⟩ := s; obtain ⟨hl, h⟩ := h; have hsub := PySem.F.isi_sub_tuple; wp_walk; exact ⟨_, rfl, h⟩
theorem tmr (a : Int) (t : Tok) (l : Addr) (items : Array Value) (n : Nat) :
    Meets (Builtin.«int.__rmul__» ⟨[.int a t, .ref l], []⟩) (fun _ R s => s.heap.get? l = some { cls := .type "tuple", dict := none, data := .seq items n, slots := #[] } ∧ R (.ok (.ret Value.notImplemented)) s) :=
  .of_wp fun prog w A R s h => by obtain ⟨hp, g, d, tk, os⟩ := s; obtain ⟨hl, h⟩ := h; wp_walk; exact ⟨_, rfl, h⟩
theorem noFill_tuple_mul : fillsNumberSlot (.type "tuple") "mul" = pure false :=
  PySem.fillsNumberSlot_seq (id := "tuple.__mul__") (r := some (.builtin "tuple.__rmul__")) PySem.F.slot_tuple_mul.lookup (by decide +kernel) PySem.F.slot_tuple_rmul.lookup (by decide +kernel)
theorem repeat_tuple : seqRepeat? (.type "tuple") = pure (some (.builtin "tuple.__mul__")) := by
  unfold seqRepeat?
  rw [PySem.seqSlot_of (T := "tuple") (name := "__mul__") (id := "tuple.__mul__") PySem.F.slot_tuple_mul.lookup (by decide +kernel), PySem.seqSlot_of (T := "tuple") (name := "__rmul__") (id := "tuple.__rmul__") PySem.F.slot_tuple_rmul.lookup (by decide +kernel)]
  rfl
/-- (x,) * n, n being 0, 1 or 2, in the ledger -/
theorem tup_times {w : World} {A : Around} {s : Shared} {Q E : Value → Shared → Prop} {t r : Addr} {d : Nat} {u : Tok} {base : Heap} {L : Addr} {m : Str → Option Value} {all : Led} (KX : (seed.heap_1 w.params).In base) (F : Fr base L s.heap m) (N : News base L s.heap all) (hm : (t, tup [.ref r]) ∈ all) (hd : d ≤ 2)
    (h : ∀ h' D new ds, Fr base L h' m → News base L h' (new ++ all) → (∀ p ∈ all, ∀ q ∈ new, p.1 ≠ q.1) → NF new → ((D, tup ds) ∈ new ∨ (D = t ∧ ds = [.ref r])) → ds.length = d → Q (.ref D) { s with heap := h' }) :
    wpAny (model PySem.Challenge.rw_qd0027_02.row.prog w) A (binaryOp .Mult (.ref t) (.int (d : Int) u)) Q E s := by
  have ht := (N _ hm).1
  have X := KX.keeps F.keep
  refine wpAny_binaryOp_repeat_ref (T := "tuple") (U := "int") (by decide) ⟨_, ht, rfl⟩ (fun s' => typeIs_int s' _ u) noFill_tuple_mul PySem.F.fills_int_mul PySem.F.slot_int_rmul repeat_tuple PySem.F.slot_int_index.lookup (call_meets PySem.F.slot_int_rmul (typeIs_int _ _ _) PySem.F.entry_int_rmul (PySem.F.args_int_rmul_2 _ _) (tmr d u t _ 0) ⟨ht, rfl, ⟨_, ht, rfl⟩, ?_⟩)
  have fin : ∀ (vs : List Value), vs.length = d → Q (.ref s.heap.objs.size) { s with heap := s.heap.push { cls := .type "tuple", data := .seq vs.toArray } } := fun vs hl => by
    have up : ∀ b o, s.heap.get? b = some o → (s.heap.push { cls := .type "tuple", data := .seq vs.toArray }).get? b = some o := fun b o e => Heap.get?_push_of_some _ e
    obtain ⟨oL, _, _, hL, _⟩ := F.ns
    refine h _ _ [(_, tup vs)] vs (F.kept up) (fun p hp => ?_) (fun p hp q hq e => ?_) (NF.cons (.inl ⟨(fun e => nomatch e), fun e => absurd (Value.type.inj e) (by decide)⟩) NF.nil) (.inl (.head _)) hl
    · rcases List.mem_cons.mp hp with rfl | hp
      · refine ⟨Heap.get?_push_size _ rfl, Nat.ne_of_gt (Heap.lt_size hL), ?_⟩
        cases hq : base.get? s.heap.objs.size with
        | none => rfl
        | some o => exact absurd (Heap.lt_size (F.keep _ _ hq)) (Nat.lt_irrefl _)
      · exact ⟨up _ _ (N p hp).1, (N p hp).2⟩
    · rw [List.mem_singleton.mp hq] at e
      exact Nat.ne_of_lt (Heap.lt_size (N p hp).1) e
  match d, hd with
  | 0, _ => exact call_meets PySem.F.slot_tuple_mul ⟨_, ht, rfl⟩ PySem.F.entry_tuple_mul (PySem.F.args_tuple_mul_2 _ _) (tm0 t r u 0) ⟨ht, fin [] rfl⟩
  | 1, _ => exact call_meets PySem.F.slot_tuple_mul ⟨_, ht, rfl⟩ PySem.F.entry_tuple_mul (PySem.F.args_tuple_mul_2 _ _) (tm1 t r u 0) ⟨ht, h s.heap t [] [.ref r] F N (fun _ _ _ hq => nomatch hq) NF.nil (.inr ⟨rfl, rfl⟩) rfl⟩
  | 2, _ => exact call_meets PySem.F.slot_tuple_mul ⟨_, ht, rfl⟩ PySem.F.entry_tuple_mul (PySem.F.args_tuple_mul_2 _ _) (tm2 t r u 0) ⟨ht, fin [.ref r, .ref r] rfl⟩
end
section -- MZip
section
variable {prog : Program} {w : World} {A : Around} {E : Value → Shared → Prop} {s : Shared}
theorem nextOf_tuple_item {it l : Addr} {i : Nat} {items} {x : Value} {Q : Value → Shared → Prop} (hit : s.heap.IsTupleIter it l i) (hl : s.heap.IsTuple l items) (hx : items[i]? = some x)
    (hQ : ∀ h', h'.IsTupleIter it l (i + 1) → Heap.SameBut it s.heap h' → Q x { s with heap := h' }) : wpAny (model prog w) A (Builtin.SmallTypes.nextOf (.ref it)) Q E s := by
  obtain ⟨o, ho, hc, hd⟩ := id hit
  obtain ⟨ol, hol, _, nl, hdl⟩ := hl
  unfold Builtin.SmallTypes.nextOf
  refine wpAny_bind (wpAny_callSpecial?_slot (name := Str.ofString "__next__") hit.typeIs PySem.F.slot_tuple_iterator_next
    (wpAny_call_entry PySem.F.slot_tuple_iterator_next hit.typeIs PySem.F.entry_tuple_iterator_next ?_ (PySem.F.args_tuple_iterator_next_1 _)))
  show wpAny _ _ (field (.ref it) 0 >>= _) _ _ s
  refine wpAny_bind (wpAny_field ho hd (x := .ref l) rfl ?_)
  show wpAny _ _ (if (Value.ref l == Value.none) = true then _ else _) _ _ s
  rw [if_neg (show ¬ ((Value.ref l == Value.none) = true) from Bool.false_ne_true)]
  show wpAny _ _ (field (.ref it) 1 >>= _) _ _ s
  refine wpAny_bind (wpAny_field ho hd (x := .int i 0) rfl ?_)
  show wpAny _ _ (seqItems? (.ref l) >>= _) _ _ s
  refine wpAny_bind (wpAny_seqItems hol hdl ?_)
  simp only [Int.toNat_natCast, hx]
  refine wpAny_bind (wpAny_setField ho hd (by simp) (wpAny_pure ⟨x, rfl, wpAny_pure (hQ _ ?_ (Heap.SameBut.update ..))⟩))
  exact ⟨_, Heap.get?_update_self _ ho (Obj.isFreed_of_fields (Obj.data_mapFields hd _)), (Obj.cls_mapFields ..).trans hc, by
    rw [Obj.data_mapFields hd]; simp [rawInt]⟩
theorem nextOf_tuple_end {it l : Addr} {i : Nat} {items} {Q : Value → Shared → Prop} (hh : A.handled = none) (hit : s.heap.IsTupleIter it l i) (hl : s.heap.IsTuple l items) (hx : items[i]? = none)
    (hE : ∀ h' e, Heap.ExtBut it s.heap h' → (∃ o, h'.get? e = some o ∧ o.cls = .type "StopIteration") → E (.ref e) { s with heap := h' }) : wpAny (model prog w) A (Builtin.SmallTypes.nextOf (.ref it)) Q E s := by
  obtain ⟨o, ho, hc, hd⟩ := id hit
  obtain ⟨ol, hol, _, nl, hdl⟩ := hl
  unfold Builtin.SmallTypes.nextOf
  refine wpAny_bind (wpAny_callSpecial?_slot (name := Str.ofString "__next__") hit.typeIs PySem.F.slot_tuple_iterator_next
    (wpAny_call_entry PySem.F.slot_tuple_iterator_next hit.typeIs PySem.F.entry_tuple_iterator_next ?_ (PySem.F.args_tuple_iterator_next_1 _)))
  show wpAny _ _ (field (.ref it) 0 >>= _) _ _ s
  refine wpAny_bind (wpAny_field ho hd (x := .ref l) rfl ?_)
  show wpAny _ _ (if (Value.ref l == Value.none) = true then _ else _) _ _ s
  rw [if_neg (show ¬ ((Value.ref l == Value.none) = true) from Bool.false_ne_true)]
  show wpAny _ _ (field (.ref it) 1 >>= _) _ _ s
  refine wpAny_bind (wpAny_field ho hd (x := .int i 0) rfl ?_)
  show wpAny _ _ (seqItems? (.ref l) >>= _) _ _ s
  refine wpAny_bind (wpAny_seqItems hol hdl ?_)
  simp only [Int.toNat_natCast, hx]
  refine wpAny_bind (wpAny_rule (wpAny_bind (wpAny_setField ho hd (by simp) ?_)))
  show wpAny _ _ (newExc (.type "StopIteration") [] >>= _) _ _ _
  refine wpAny_bind ?_
  simp only [newExc, newTuple]
  refine wpAny_bind (wpAny_newObj_type ?_ (Nat.zero_le _))
  refine wpAny_bind (m := firstArgMember _ _) (wpAny_of_eq (a := Value.none) (by first | rfl | (simp only [firstArgMember]; rfl)) ?_)
  refine wpAny_newObj_type ?_ (Nat.le_of_ble_eq_true rfl)
  refine wpAny_raiseNew_none hh ?_
  exact hE _ _ (((Heap.SameBut.update ..).extBut.push _).push _) ⟨_, Heap.get?_push_size _ rfl, rfl⟩
theorem Draws.tup (hh : A.handled = none) (it l : Addr) (hne : l ≠ it) (items : Array Value) :
    Draws prog w A it [it, l] items.size (fun i v => items[i]? = some v) (fun i h => h.IsTupleIter it l i ∧ h.IsTuple l items) where
  live := fun _ _ st => let ⟨⟨o, ho, _⟩, _⟩ := st; ⟨o, ho⟩
  frame := fun _ _ _ st hk => let ⟨⟨o, ho, r⟩, ⟨ol, hol, rl⟩⟩ := st; ⟨⟨o, hk it (by simp) o ho, r⟩, ⟨ol, hk l (by simp) ol hol, rl⟩⟩
  item := fun i s Q E hi st hQ => nextOf_tuple_item st.1 st.2 (Array.getElem?_eq_getElem hi) fun h' h1 hs => hQ _ h' s.toks (Array.getElem?_eq_getElem hi) ⟨h1, st.2.extBut hs.extBut hne⟩ hs
  done := fun s Q E st hE => nextOf_tuple_end hh st.1 st.2 (Array.getElem?_eq_none (Nat.le_refl _)) hE
end
structure ZA (z TI TO i1 i2 : Addr) (fp1 fp2 : List Addr) : Prop where
  zTI : z ≠ TI
  zTO : z ≠ TO
  zi1 : z ≠ i1
  zi2 : z ≠ i2
  TITO : TI ≠ TO
  TIi1 : TI ≠ i1
  TIi2 : TI ≠ i2
  TOi1 : TO ≠ i1
  TOi2 : TO ≠ i2
  i12 : i1 ≠ i2
  z1 : z ∉ fp1
  z2 : z ∉ fp2
  o1 : TO ∉ fp1
  o2 : TO ∉ fp2
  a1 : i2 ∉ fp1
  a2 : i1 ∉ fp2
section
variable {prog : Program} {w : World} {A : Around} {E : Value → Shared → Prop} {s : Shared}
variable {z TI TO i1 i2 : Addr} {fp1 fp2 : List Addr} {n1 n2 : Nat} {P1 P2 : Nat → Value → Prop} {St1 St2 : Nat → Heap → Prop}
theorem Draws.but {i b : Addr} {fp : List Addr} {n : Nat} {P : Nat → Value → Prop} {St : Nat → Heap → Prop} (D : Draws prog w A i fp n P St) {k : Nat} {h h' : Heap} (st : St k h) (sb : Heap.ExtBut b h h') (hb : b ∉ fp) : St k h' :=
  D.frame k h h' st fun c hc o e => sb c o (fun q => hb (q ▸ hc)) e
theorem zip_next_itemD (D1 : Draws prog w A i1 fp1 n1 P1 St1) (D2 : Draws prog w A i2 fp2 n2 P2 St2) (Z : ZA z TI TO i1 i2 fp1 fp2) {k : Nat} {a b : Value} {Q : Value → Shared → Prop}
    (hz : IsZip s.heap z TI TO .none) (hTI : IsPair s.heap TI (.ref i1) (.ref i2)) (hTO : IsPair s.heap TO a b) (h1 : St1 k s.heap) (h2 : St2 k s.heap) (l1 : k < n1) (l2 : k < n2)
    (hQ : ∀ x y h' tk, P1 k x → P2 k y → IsZip h' z TI TO (rawInt s.heap.objs.size) → IsPair h' TO x y → St1 (k + 1) h' → St2 (k + 1) h' → IsPair h' s.heap.objs.size x y →
      (∀ c o, c ≠ z → c ≠ TO → c ≠ i1 → c ≠ i2 → s.heap.get? c = some o → h'.get? c = some o) → Q (.ref s.heap.objs.size) { s with heap := h', toks := tk }) :
    wpAny (model prog w) A (Builtin.«zip.__next__» ⟨[.ref z], []⟩) (fun fin s' => ∃ v, fin = .done (.ret v) ∧ Q v s') E s := by
  show wpAny _ _ (field (.ref z) 2 >>= _) _ _ _
  refine wpAny_bind (wpAny_field hz rfl (x := .bool false) rfl ?_)
  show wpAny _ _ (field (.ref z) 3 >>= _) _ _ _
  refine wpAny_bind (wpAny_field hz rfl (x := .ref TI) rfl ?_)
  refine wpAny_bind (wpAny_seqItems hTI rfl ?_)
  show wpAny _ _ (Builtin.SmallTypes.ownedTupleIsFree (.ref z) >>= _) _ _ _
  refine wpAny_bind ?_
  unfold Builtin.SmallTypes.ownedTupleIsFree
  refine wpAny_bind (wpAny_field hz rfl (x := .none) rfl (wpAny_pure ?_))
  simp only [if_true]
  refine wpAny_bind (wpAny_rule ?_)
  refine wpAny_bind (wpAny_field hz rfl (x := .ref TO) rfl ?_)
  refine wpAny_bind (wpAny_setField_rec hz (by simp) fun h₁ hz₁ hs₁ => ?_)
  replace hz₁ : IsZip h₁ z TI TO .ellipsis := hz₁
  refine wpAny_bind ?_
  simp only [List.zipIdx_cons, List.zipIdx_nil, List.forIn_cons, List.forIn_nil]
  refine wpAny_bind (wpAny_bind (wpAny_onRaise ?_))
  show wpAny _ _ (Builtin.SmallTypes.nextOf (.ref i1) >>= _) _ _ _
  have h1₁ : St1 k h₁ := Draws.but D1 h1 hs₁.extBut Z.z1
  have h2₁ : St2 k h₁ := Draws.but D2 h2 hs₁.extBut Z.z2
  refine wpAny_bind (D1.item k _ _ _ l1 h1₁ fun x h₂ tk₂ hx h1₂ hs₂ => wpAny_pure ?_)
  replace hs₂ : Heap.SameBut i1 h₁ h₂ := hs₂
  have hTO₂ : IsPair h₂ TO a b := hs₂.extBut _ _ Z.TOi1 (hs₁.extBut _ _ Z.zTO.symm hTO)
  refine wpAny_bind (wpAny_seqItems hTO₂ rfl ?_)
  refine wpAny_bind (wpAny_updateSeq_pair hTO₂ fun h₃ hTO₃ hs₃ => ?_)
  replace hTO₃ : IsPair h₃ TO x b := hTO₃
  replace hs₃ : Heap.SameBut TO h₂ h₃ := hs₃
  refine wpAny_bind (wpAny_letGo (wpAny_pure ?_))
  refine wpAny_bind (wpAny_bind (wpAny_onRaise ?_))
  show wpAny _ _ (Builtin.SmallTypes.nextOf (.ref i2) >>= _) _ _ _
  have h2₃ : St2 k h₃ := Draws.but D2 (Draws.but D2 h2₁ hs₂.extBut Z.a2) hs₃.extBut Z.o2
  have h1₃ : St1 (k + 1) h₃ := Draws.but D1 h1₂ hs₃.extBut Z.o1
  refine wpAny_bind (D2.item k _ _ _ l2 h2₃ fun y h₄ tk₄ hy h2₄ hs₄ => wpAny_pure ?_)
  replace hs₄ : Heap.SameBut i2 h₃ h₄ := hs₄
  have hTO₄ : IsPair h₄ TO x b := hs₄.extBut _ _ Z.TOi2 hTO₃
  refine wpAny_bind (wpAny_seqItems hTO₄ rfl ?_)
  refine wpAny_bind (wpAny_updateSeq_pair hTO₄ fun h₅ hTO₅ hs₅ => ?_)
  replace hTO₅ : IsPair h₅ TO x y := hTO₅
  replace hs₅ : Heap.SameBut TO h₄ h₅ := hs₅
  refine wpAny_bind (wpAny_letGo (wpAny_pure (wpAny_pure ?_)))
  refine wpAny_bind (wpAny_seqItems hTO₅ rfl ?_)
  refine wpAny_bind (wpAny_newTuple ?_)
  have hsz : h₅.objs.size = s.heap.objs.size := by rw [hs₅.1, hs₄.1, hs₃.1, hs₂.1]; exact hs₁.1
  have hz₅ : IsZip h₅ z TI TO .ellipsis := hs₅.extBut _ _ Z.zTO (hs₄.extBut _ _ Z.zi2 (hs₃.extBut _ _ Z.zTO (hs₂.extBut _ _ Z.zi1 hz₁)))
  have hk₅ : ∀ c o, c ≠ z → c ≠ TO → c ≠ i1 → c ≠ i2 → s.heap.get? c = some o → h₅.get? c = some o := fun c o c1 c2 c3 c4 e =>
    hs₅.extBut _ _ c2 (hs₄.extBut _ _ c4 (hs₃.extBut _ _ c2 (hs₂.extBut _ _ c3 (hs₁.extBut _ _ c1 e))))
  have h1₅ : St1 (k + 1) h₅ := Draws.but D1 (Draws.but D1 h1₃ hs₄.extBut Z.a1) hs₅.extBut Z.o1
  have h2₅ : St2 (k + 1) h₅ := Draws.but D2 h2₄ hs₅.extBut Z.o2
  have hzlt : z < h₅.objs.size := Heap.lt_size hz₅
  show wpAny _ _ (Builtin.SmallTypes.ownedTupleHandOut (.ref z) (.ref h₅.objs.size) >>= _) _ _ _
  refine wpAny_bind ?_
  unfold Builtin.SmallTypes.ownedTupleHandOut
  have hz₆ : IsZip (h₅.push { cls := .type "tuple", data := .seq #[x, y] }) z TI TO .ellipsis := Heap.get?_push_of_some _ hz₅
  refine wpAny_bind (wpAny_setField_rec hz₆ (by simp) fun h₇ hz₇ hs₇ => ?_)
  replace hz₇ : IsZip h₇ z TI TO (rawInt h₅.objs.size) := hz₇
  refine wpAny_setField_rec hz₇ (by simp) fun h₈ hz₈ hs₈ => ?_
  replace hz₈ : IsZip h₈ z TI TO (rawInt h₅.objs.size) := hz₈
  replace hs₇ : Heap.SameBut z (h₅.push { cls := .type "tuple", data := .seq #[x, y] }) h₇ := hs₇
  replace hs₈ : Heap.SameBut z h₇ h₈ := hs₈
  have up : Heap.ExtBut z h₅ h₈ := fun c o c1 e => hs₈.extBut _ _ c1 (hs₇.extBut _ _ c1 (Heap.get?_push_of_some _ e))
  have hT₈ : IsPair h₈ h₅.objs.size x y := hs₈.extBut _ _ (Nat.ne_of_gt hzlt) (hs₇.extBut _ _ (Nat.ne_of_gt hzlt) (Heap.get?_push_size _ rfl))
  rw [hsz] at hz₈ hT₈
  refine wpAny_pure ⟨_, rfl, ?_⟩
  show Q (.ref h₅.objs.size) _
  rw [hsz]
  exact hQ x y h₈ _ hx hy hz₈ (up _ _ Z.zTO.symm hTO₅) (Draws.but D1 h1₅ up Z.z1) (Draws.but D2 h2₅ up Z.z2) hT₈ fun c o c1 c2 c3 c4 e => up c o c1 (hk₅ c o c1 c2 c3 c4 e)
theorem zip_next_endD (D1 : Draws prog w A i1 fp1 n1 P1 St1) (D2 : Draws prog w A i2 fp2 n2 P2 St2) (Z : ZA z TI TO i1 i2 fp1 fp2) {a b : Value} {Q : PySem.Fin → Shared → Prop}
    (hz : IsZip s.heap z TI TO .none) (hTI : IsPair s.heap TI (.ref i1) (.ref i2)) (hTO : IsPair s.heap TO a b) (h1 : St1 (min n1 n2) s.heap) (h2 : St2 (min n1 n2) s.heap)
    (hE : ∀ h' e tk, (∀ c o, c ≠ z → c ≠ TO → c ≠ i1 → c ≠ i2 → s.heap.get? c = some o → h'.get? c = some o) → (∃ o, h'.get? e = some o ∧ o.cls = .type "StopIteration") → E (.ref e) { s with heap := h', toks := tk }) :
    wpAny (model prog w) A (Builtin.«zip.__next__» ⟨[.ref z], []⟩) Q E s := by
  show wpAny _ _ (field (.ref z) 2 >>= _) _ _ _
  refine wpAny_bind (wpAny_field hz rfl (x := .bool false) rfl ?_)
  show wpAny _ _ (field (.ref z) 3 >>= _) _ _ _
  refine wpAny_bind (wpAny_field hz rfl (x := .ref TI) rfl ?_)
  refine wpAny_bind (wpAny_seqItems hTI rfl ?_)
  show wpAny _ _ (Builtin.SmallTypes.ownedTupleIsFree (.ref z) >>= _) _ _ _
  refine wpAny_bind ?_
  unfold Builtin.SmallTypes.ownedTupleIsFree
  refine wpAny_bind (wpAny_field hz rfl (x := .none) rfl (wpAny_pure ?_))
  simp only [if_true]
  refine wpAny_bind (wpAny_rule ?_)
  refine wpAny_bind (wpAny_field hz rfl (x := .ref TO) rfl ?_)
  refine wpAny_bind (wpAny_setField_rec hz (by simp) fun h₁ hz₁ hs₁ => ?_)
  replace hz₁ : IsZip h₁ z TI TO .ellipsis := hz₁
  refine wpAny_bind ?_
  simp only [List.zipIdx_cons, List.zipIdx_nil, List.forIn_cons, List.forIn_nil]
  refine wpAny_bind (wpAny_bind (wpAny_onRaise ?_))
  show wpAny _ _ (Builtin.SmallTypes.nextOf (.ref i1) >>= _) _ _ _
  have h1₁ := Draws.but D1 h1 hs₁.extBut Z.z1
  have h2₁ := Draws.but D2 h2 hs₁.extBut Z.z2
  by_cases c : n1 ≤ n2
  · rw [Nat.min_eq_left c] at h1₁
    refine wpAny_bind (D1.done _ _ _ h1₁ fun h₂ e hs₂ he => ?_)
    replace hs₂ : Heap.ExtBut i1 h₁ h₂ := hs₂
    obtain ⟨oe, hoe, hce⟩ := he
    have hz₂ : IsZip h₂ z TI TO .ellipsis := hs₂ _ _ Z.zi1 hz₁
    have hez : e ≠ z := fun x => by subst x; rw [hz₂] at hoe; cases hoe; simp at hce
    exact wpAny_setField_rec hz₂ (by simp) fun h₃ _ hs₃ => hE h₃ e _ (fun c o c1 _ c3 _ x => hs₃.extBut _ _ c1 (hs₂ _ _ c3 (hs₁.extBut _ _ c1 x))) ⟨oe, hs₃.extBut _ _ hez hoe, hce⟩
  · have hm : min n1 n2 = n2 := Nat.min_eq_right (Nat.le_of_not_le c)
    rw [hm] at h1₁ h2₁
    refine wpAny_bind (D1.item n2 _ _ _ (Nat.lt_of_not_le c) h1₁ fun x h₂ tk₂ hx h1₂ hs₂ => wpAny_pure ?_)
    replace hs₂ : Heap.SameBut i1 h₁ h₂ := hs₂
    have hTO₂ : IsPair h₂ TO a b := hs₂.extBut _ _ Z.TOi1 (hs₁.extBut _ _ Z.zTO.symm hTO)
    refine wpAny_bind (wpAny_seqItems hTO₂ rfl ?_)
    refine wpAny_bind (wpAny_updateSeq_pair hTO₂ fun h₃ hTO₃ hs₃ => ?_)
    replace hs₃ : Heap.SameBut TO h₂ h₃ := hs₃
    refine wpAny_bind (wpAny_letGo (wpAny_pure ?_))
    refine wpAny_bind (wpAny_bind (wpAny_onRaise ?_))
    show wpAny _ _ (Builtin.SmallTypes.nextOf (.ref i2) >>= _) _ _ _
    have h2₃ : St2 n2 h₃ := Draws.but D2 (Draws.but D2 h2₁ hs₂.extBut Z.a2) hs₃.extBut Z.o2
    refine wpAny_bind (D2.done _ _ _ h2₃ fun h₄ e hs₄ he => ?_)
    replace hs₄ : Heap.ExtBut i2 h₃ h₄ := hs₄
    obtain ⟨oe, hoe, hce⟩ := he
    have hz₄ : IsZip h₄ z TI TO .ellipsis := hs₄ _ _ Z.zi2 (hs₃.extBut _ _ Z.zTO (hs₂.extBut _ _ Z.zi1 hz₁))
    have hez : e ≠ z := fun x => by subst x; rw [hz₄] at hoe; cases hoe; simp at hce
    exact wpAny_setField_rec hz₄ (by simp) fun h₅ _ hs₅ => hE h₅ e _ (fun c o c1 c2 c3 c4 x => hs₅.extBut _ _ c1 (hs₄ _ _ c4 (hs₃.extBut _ _ c2 (hs₂.extBut _ _ c3 (hs₁.extBut _ _ c1 x))))) ⟨oe, hs₅.extBut _ _ hez hoe, hce⟩
theorem pyNext_zipD (D1 : Draws prog w A.in1 i1 fp1 n1 P1 St1) (D2 : Draws prog w A.in1 i2 fp2 n2 P2 St2) (Z : ZA z TI TO i1 i2 fp1 fp2) {k : Nat} {a b : Value} {Q : Option Value → Shared → Prop}
    (hz : IsZip s.heap z TI TO .none) (hTI : IsPair s.heap TI (.ref i1) (.ref i2)) (hTO : IsPair s.heap TO a b) (h1 : St1 k s.heap) (h2 : St2 k s.heap) (l1 : k < n1) (l2 : k < n2)
    (hQ : ∀ x y h' tk, P1 k x → P2 k y → IsZip h' z TI TO (rawInt s.heap.objs.size) → IsPair h' TO x y → St1 (k + 1) h' → St2 (k + 1) h' → IsPair h' s.heap.objs.size x y →
      (∀ c o, c ≠ z → c ≠ TO → c ≠ i1 → c ≠ i2 → s.heap.get? c = some o → h'.get? c = some o) → Q (some (.ref s.heap.objs.size)) { s with heap := h', toks := tk }) :
    wpAny (model prog w) A (pyNext (.ref z)) Q E s := by
  have hT : s.TypeIs (.ref z) "zip" := ⟨_, hz, rfl⟩
  unfold pyNext
  exact wpAny_bind (wpAny_attempt (wpAny_callSpecial?_slot (name := Str.ofString "__next__") hT PySem.F.slot_zip_next
    (wpAny_call_entry PySem.F.slot_zip_next hT PySem.F.entry_zip_next
      (zip_next_itemD D1 D2 Z hz hTI hTO h1 h2 l1 l2 fun x y h' tk a0 a1 a2 a3 a4 a5 a6 a7 => wpAny_pure (hQ x y h' tk a0 a1 a2 a3 a4 a5 a6 a7)) (PySem.F.args_zip_next_1 _))))
theorem pyNext_zip_endD (D1 : Draws prog w A.in1 i1 fp1 n1 P1 St1) (D2 : Draws prog w A.in1 i2 fp2 n2 P2 St2) (Z : ZA z TI TO i1 i2 fp1 fp2) {a b : Value} {Q : Option Value → Shared → Prop}
    (hz : IsZip s.heap z TI TO .none) (hTI : IsPair s.heap TI (.ref i1) (.ref i2)) (hTO : IsPair s.heap TO a b) (h1 : St1 (min n1 n2) s.heap) (h2 : St2 (min n1 n2) s.heap)
    (hQ : ∀ h' tk, (∀ c o, c ≠ z → c ≠ TO → c ≠ i1 → c ≠ i2 → s.heap.get? c = some o → h'.get? c = some o) → Q none { s with heap := h', toks := tk }) : wpAny (model prog w) A (pyNext (.ref z)) Q E s := by
  have hT : s.TypeIs (.ref z) "zip" := ⟨_, hz, rfl⟩
  unfold pyNext
  refine wpAny_bind (wpAny_attempt (wpAny_callSpecial?_slot (name := Str.ofString "__next__") hT PySem.F.slot_zip_next
    (wpAny_call_entry PySem.F.slot_zip_next hT PySem.F.entry_zip_next (zip_next_endD D1 D2 Z hz hTI hTO h1 h2 fun h' e tk hk he => ?_) (PySem.F.args_zip_next_1 _))))
  obtain ⟨o, ho, hc⟩ := he
  refine wpAny_bind (wpAny_isInstance (T := "StopIteration") (b := true) ⟨o, ho, hc⟩ isSubtype_stop ?_)
  exact wpAny_pure (hQ _ _ hk)
theorem zip_walks (D1 : Draws prog w A.in1 i1 fp1 n1 P1 St1) (D2 : Draws prog w A.in1 i2 fp2 n2 P2 St2) (Z : ZA z TI TO i1 i2 fp1 fp2) (m1 : i1 ∈ fp1) (m2 : i2 ∈ fp2) :
    WalksT prog w A z (z :: TI :: TO :: (fp1 ++ fp2)) [z, TO, i1, i2] (min n1 n2) (fun k vals => ∃ x y, P1 k x ∧ P2 k y ∧ vals = #[x, y])
      (fun k h => IsZip h z TI TO .none ∧ IsPair h TI (.ref i1) (.ref i2) ∧ (∃ a b, IsPair h TO a b) ∧ St1 k h ∧ St2 k h)
      (fun k T h => IsZip h z TI TO (rawInt T) ∧ IsPair h TI (.ref i1) (.ref i2) ∧ (∃ a b, IsPair h TO a b) ∧ St1 (k + 1) h ∧ St2 (k + 1) h ∧ T ≠ z ∧ T ≠ TO ∧ T ≠ i1 ∧ T ≠ i2) where
  sub := fun c hc => by
    simp only [List.mem_cons, List.not_mem_nil, or_false, List.mem_append] at hc ⊢
    rcases hc with rfl | rfl | rfl | rfl
    · exact .inl rfl
    · exact .inr (.inr (.inl rfl))
    · exact .inr (.inr (.inr (.inl m1)))
    · exact .inr (.inr (.inr (.inr m2)))
  frame := fun k h h' st hk => by
    obtain ⟨hz, hTI, ⟨a, b, hTO⟩, h1, h2⟩ := st
    exact ⟨hk z (.head _) _ hz, hk TI (.tail _ (.head _)) _ hTI, ⟨a, b, hk TO (.tail _ (.tail _ (.head _))) _ hTO⟩, D1.frame _ _ _ h1 fun c hc o e => hk c (.tail _ (.tail _ (.tail _ (List.mem_append_left _ hc)))) o e,
      D2.frame _ _ _ h2 fun c hc o e => hk c (.tail _ (.tail _ (.tail _ (List.mem_append_right _ hc)))) o e⟩
  item := fun k s Q E hi st hQ => by
    obtain ⟨hz, hTI, ⟨a, b, hTO⟩, h1, h2⟩ := st
    have lt : ∀ {c o}, s.heap.get? c = some o → s.heap.objs.size ≠ c := fun e => Nat.ne_of_gt (Heap.lt_size e)
    obtain ⟨oi1, e1⟩ := D1.live _ _ h1
    obtain ⟨oi2, e2⟩ := D2.live _ _ h2
    refine pyNext_zipD D1 D2 Z hz hTI hTO h1 h2 (Nat.lt_of_lt_of_le hi (Nat.min_le_left ..)) (Nat.lt_of_lt_of_le hi (Nat.min_le_right ..)) fun x y h' tk hx hy a1 a2 a3 a4 a5 hk => ?_
    exact hQ s.heap.objs.size #[x, y] h' tk ⟨x, y, hx, hy, rfl⟩ (Nat.le_refl _) ⟨_, a5, rfl, _, rfl⟩
      ⟨a1, hk _ _ Z.zTI.symm Z.TITO Z.TIi1 Z.TIi2 hTI, ⟨_, _, a2⟩, a3, a4, lt hz, lt hTO, lt e1, lt e2⟩
      fun c o hc e => hk c o (fun x => hc (by simp [x])) (fun x => hc (by simp [x])) (fun x => hc (by simp [x])) (fun x => hc (by simp [x])) e
  go := fun elts k pos i T s Q E hm hQ => by
    obtain ⟨hz, hTI, ⟨a, b, hTO⟩, h1, h2, _⟩ := hm
    refine wpAny_letOwnedTupleGo_zip hz fun h' hz' hs' => hQ h' ⟨hz', hs'.extBut _ _ Z.zTI.symm hTI, ⟨a, b, hs'.extBut _ _ Z.zTO.symm hTO⟩, Draws.but D1 h1 hs'.extBut Z.z1, Draws.but D2 h2 hs'.extBut Z.z2⟩ fun c o hc e => hs'.extBut _ _ (fun x => hc (by simp [x])) e
  apart := fun i T h hm hT => by
    obtain ⟨_, _, _, _, _, t1, t2, t3, t4⟩ := hm
    simp only [List.mem_cons, List.not_mem_nil, or_false] at hT
    rcases hT with rfl | rfl | rfl | rfl
    · exact t1 rfl
    · exact t2 rfl
    · exact t3 rfl
    · exact t4 rfl
  done := fun s Q E st hQ => by
    obtain ⟨hz, hTI, ⟨a, b, hTO⟩, h1, h2⟩ := st
    exact pyNext_zip_endD D1 D2 Z hz hTI hTO h1 h2 fun h' tk hk => hQ h' tk fun c o hc e =>
      hk c o (fun x => hc (by simp [x])) (fun x => hc (by simp [x])) (fun x => hc (by simp [x])) (fun x => hc (by simp [x])) e
  self := fun i s Q E st hQ => wpAny_pyIter_zip st.1 hQ
end
end
section -- MZipT
theorem nadd {n i j : Nat} (h : i ≠ j) : n + i ≠ n + j := fun e => h (Nat.add_left_cancel e)
theorem nlt {a n : Nat} (k : Nat) (h : a < n) : a ≠ n + k := Nat.ne_of_lt (Nat.lt_of_lt_of_le h (Nat.le_add_right _ _))
theorem nlt' {n : Nat} (k : Nat) : n + (k + 1) ≠ n := Ne.symm (Nat.ne_of_lt (Nat.lt_add_of_pos_right (Nat.succ_pos k)))
theorem nsing {a b : Addr} (h : a ≠ b) : a ∉ [b] := fun hm => h (List.mem_singleton.mp hm)
theorem ntwo {a b c : Addr} (h : a ≠ b) (h2 : a ≠ c) : a ∉ [b, c] := fun hm => by
  rcases List.mem_cons.mp hm with e | hm
  · exact h e
  · exact h2 (List.mem_singleton.mp hm)
section
noncomputable abbrev sit (x : Str) (t : Tok) : Obj := { cls := .type "str_ascii_iterator", data := .fields #[.str x t, .int 0 0] }
noncomputable abbrev lit (l : Addr) : Obj := { cls := .type "list_iterator", data := .fields #[.ref l, .int 0 0] }
noncomputable def zsA (h : Heap) (x : Str) (t : Tok) : Heap := h.push (sit x t)
noncomputable def zsB (h : Heap) (x : Str) (t : Tok) (l : Addr) : Heap := (zsA h x t).push (lit l)
noncomputable def zsC (h : Heap) (x : Str) (t : Tok) (l : Addr) : Heap := (zsB h x t l).push { cls := .type "tuple", data := .seq #[.ref h.objs.size, .ref (zsA h x t).objs.size] }
noncomputable def zsD (h : Heap) (x : Str) (t : Tok) (l : Addr) : Heap := (zsC h x t l).push { cls := .type "tuple", data := .seq #[.none, .none] }
noncomputable def zsE (h : Heap) (x : Str) (t : Tok) (l : Addr) : Heap := (zsD h x t l).push { cls := .type "zip", data := .fields #[.none, .bool false, .bool false, .ref (zsB h x t l).objs.size, .ref (zsC h x t l).objs.size] }
theorem zs_new (x : Str) (t : Tok) (l : Addr) (ys : Array Value) (ha : x.cps.all (· < 128) = true) :
    Meets (Builtin.«zip.__new__» ⟨[.type "zip", .str x t, .ref l], []⟩) (fun _ R s => s.heap.IsList l ys ∧ R (.ok (.ret (.ref (zsD s.heap x t l).objs.size))) { s with heap := zsE s.heap x t l }) :=
  .of_wp fun prog w A R s h => by
    obtain ⟨hp, g, d, tk, os⟩ := s; obtain ⟨hl, h⟩ := h
    have hsub := sub_zip
    have hL2 : Heap.IsList (Shared.heap ⟨hp.push (sit x t), g, d, tk, os⟩) l ys := Heap.IsList.push hl _
    wp_walk using wpAny_pyIter_ascii (t := t) ha, wpAny_pyIter_list hL2
    exact ⟨_, rfl, h⟩
variable {prog : Program} {w : World} {A : Around} {E : Value → Shared → Prop} {s : Shared}
theorem zs_call {x : Str} {t : Tok} {l : Addr} {ys : Array Value} {Q : Value → Shared → Prop} (ha : x.cps.all (· < 128) = true) (hl : s.heap.IsList l ys)
    (h : ∀ h' n, n = s.heap.objs.size → IsZip h' (n + 4) (n + 2) (n + 3) .none → IsPair h' (n + 2) (.ref n) (.ref (n + 1)) → IsPair h' (n + 3) .none .none → h'.IsStrIter n "str_ascii_iterator" x t 0 → h'.IsListIter (n + 1) l 0 → h'.objs.size = n + 5 →
      (∀ c o, s.heap.get? c = some o → h'.get? c = some o) → Q (.ref (n + 4)) { s with heap := h' }) :
    wpAny (model prog w) A (call (.type "zip") [.str x t, .ref l]) Q E s := by
  refine callType_new F.called_zip (by decide) (F.typeCall_zip_2 _ _) (F.newCall_zip_2 _ _) (fun obj => F.args_object_init_3 obj _ _) F.entry_zip_new (zs_new x t l ys ha) ⟨hl, ?_⟩
  have z1 : (zsA s.heap x t).objs.size = s.heap.objs.size + 1 := Heap.size_push ..
  have z2 : (zsB s.heap x t l).objs.size = s.heap.objs.size + 2 := by rw [zsB, Heap.size_push, z1]
  have z3 : (zsC s.heap x t l).objs.size = s.heap.objs.size + 3 := by rw [zsC, Heap.size_push, z2]
  have z4 : (zsD s.heap x t l).objs.size = s.heap.objs.size + 4 := by rw [zsD, Heap.size_push, z3]
  have z5 : (zsE s.heap x t l).objs.size = s.heap.objs.size + 5 := by rw [zsE, Heap.size_push, z4]
  have k1 : ∀ c o, s.heap.get? c = some o → (zsA s.heap x t).get? c = some o := fun c o e => Heap.get?_push_of_some _ e
  have k2 : ∀ c o, (zsA s.heap x t).get? c = some o → (zsB s.heap x t l).get? c = some o := fun c o e => Heap.get?_push_of_some _ e
  have k3 : ∀ c o, (zsB s.heap x t l).get? c = some o → (zsC s.heap x t l).get? c = some o := fun c o e => Heap.get?_push_of_some _ e
  have k4 : ∀ c o, (zsC s.heap x t l).get? c = some o → (zsD s.heap x t l).get? c = some o := fun c o e => Heap.get?_push_of_some _ e
  have k5 : ∀ c o, (zsD s.heap x t l).get? c = some o → (zsE s.heap x t l).get? c = some o := fun c o e => Heap.get?_push_of_some _ e
  have g1 : (zsE s.heap x t l).get? s.heap.objs.size = some (sit x t) := k5 _ _ (k4 _ _ (k3 _ _ (k2 _ _ (Heap.get?_push_size _ rfl))))
  have g2 : (zsE s.heap x t l).get? (zsA s.heap x t).objs.size = some (lit l) := k5 _ _ (k4 _ _ (k3 _ _ (Heap.get?_push_size _ rfl)))
  have g3 : (zsE s.heap x t l).get? (zsB s.heap x t l).objs.size = some _ := k5 _ _ (k4 _ _ (Heap.get?_push_size _ rfl))
  have g4 : (zsE s.heap x t l).get? (zsC s.heap x t l).objs.size = some _ := k5 _ _ (Heap.get?_push_size _ rfl)
  have g5 : (zsE s.heap x t l).get? (zsD s.heap x t l).objs.size = some _ := Heap.get?_push_size _ rfl
  rw [z1] at g2
  rw [z1, z2] at g3
  rw [z3] at g4
  rw [z4, z2, z3] at g5
  show _ ∧ _
  rw [z4]
  exact ⟨⟨_, g5, rfl⟩, h _ _ rfl g5 g3 g4 ⟨_, g1, rfl, rfl⟩ ⟨_, g2, rfl, rfl⟩ z5 fun c o e => k5 _ _ (k4 _ _ (k3 _ _ (k2 _ _ (k1 _ _ e))))⟩
end
end
section -- MZipN
local macro_rules | `(tactic| walk_at "d0") => `(tactic| skip)
open PySem.W.X
/-- the end of a zip's making: the five new objects -/
noncomputable def EndZ (s : Shared) (c1 c2 : String) (v1 v2 : Value) (Q : Value → Shared → Prop) : Prop := ∀ h' i1 i2 TI TO z, Mem s.heap h' [] [(z, { cls := .type "zip", data := .fields #[.none, .bool false, .bool false, .ref TI, .ref TO] }), (TO, { cls := .type "tuple", data := .seq #[.none, .none] }), (TI, { cls := .type "tuple", data := .seq #[.ref i1, .ref i2] }), (i2, { cls := .type c2, data := .fields #[v2, .int 0 0] }), (i1, { cls := .type c1, data := .fields #[v1, .int 0 0] })] → Q (.ref z) { s with heap := h' }
section
noncomputable abbrev tit (l : Addr) : Obj := { cls := .type "tuple_iterator", data := .fields #[.ref l, .int 0 0] }
noncomputable def zlA (h : Heap) (l1 : Addr) : Heap := h.push (lit l1)
noncomputable def zlB (h : Heap) (l1 l2 : Addr) : Heap := (zlA h l1).push (tit l2)
noncomputable def zlC (h : Heap) (l1 l2 : Addr) : Heap := (zlB h l1 l2).push { cls := .type "tuple", data := .seq #[.ref h.objs.size, .ref (zlA h l1).objs.size] }
noncomputable def zlD (h : Heap) (l1 l2 : Addr) : Heap := (zlC h l1 l2).push { cls := .type "tuple", data := .seq #[.none, .none] }
noncomputable def zlE (h : Heap) (l1 l2 : Addr) : Heap := (zlD h l1 l2).push { cls := .type "zip", data := .fields #[.none, .bool false, .bool false, .ref (zlB h l1 l2).objs.size, .ref (zlC h l1 l2).objs.size] }
theorem zl_new (l1 l2 : Addr) (xs ys : Array Value) :
    Meets (Builtin.«zip.__new__» ⟨[.type "zip", .ref l1, .ref l2], []⟩) (fun _ R s => s.heap.IsList l1 xs ∧ s.heap.IsTuple l2 ys ∧ R (.ok (.ret (.ref (zlD s.heap l1 l2).objs.size))) { s with heap := zlE s.heap l1 l2 }) :=
  .of_wp fun prog w A R s h => by
    obtain ⟨hp, g, d, tk, os⟩ := s; obtain ⟨hl, ht, h⟩ := h
    have hsub := sub_zip
    have hT2 : Heap.IsTuple (Shared.heap ⟨hp.push (lit l1), g, d, tk, os⟩) l2 ys := ht.at fun o e => Heap.get?_push_of_some _ e
    wp_walk using wpAny_pyIter_list hl, wpAny_pyIter_tuple hT2
    exact ⟨_, rfl, h⟩
theorem zip_new_lt (w : World) (A : Around) (s : Shared) (Q E : Value → Shared → Prop) (l1 l2 : Addr) (xs ys : Array Value) (n1 n2 : Nat) (_KX : (seed.heap_1 w.params).In s.heap)
    (h1 : s.heap.get? l1 = some ⟨.type "list", none, .seq xs n1, #[]⟩) (h2 : s.heap.get? l2 = some ⟨.type "tuple", none, .seq ys n2, #[]⟩) (hh : EndZ s "list_iterator" "tuple_iterator" (.ref l1) (.ref l2) Q) :
    wpAny (model PySem.Challenge.rw_qd0027_02.row.prog w) A (call (.type "zip") [.ref l1, .ref l2]) Q E s := by
  refine callType_new F.called_zip (by decide) (F.typeCall_zip_2 _ _) (F.newCall_zip_2 _ _) (fun obj => F.args_object_init_3 obj _ _) F.entry_zip_new (zl_new l1 l2 xs ys) ⟨⟨_, h1, rfl, _, rfl⟩, ⟨_, h2, rfl, _, rfl⟩, ?_⟩
  have z1 : (zlA s.heap l1).objs.size = s.heap.objs.size + 1 := Heap.size_push ..
  have z2 : (zlB s.heap l1 l2).objs.size = s.heap.objs.size + 2 := by rw [zlB, Heap.size_push, z1]
  have z3 : (zlC s.heap l1 l2).objs.size = s.heap.objs.size + 3 := by rw [zlC, Heap.size_push, z2]
  have z4 : (zlD s.heap l1 l2).objs.size = s.heap.objs.size + 4 := by rw [zlD, Heap.size_push, z3]
  have k1 : ∀ c o, s.heap.get? c = some o → (zlA s.heap l1).get? c = some o := fun c o e => Heap.get?_push_of_some _ e
  have k2 : ∀ c o, (zlA s.heap l1).get? c = some o → (zlB s.heap l1 l2).get? c = some o := fun c o e => Heap.get?_push_of_some _ e
  have k3 : ∀ c o, (zlB s.heap l1 l2).get? c = some o → (zlC s.heap l1 l2).get? c = some o := fun c o e => Heap.get?_push_of_some _ e
  have k4 : ∀ c o, (zlC s.heap l1 l2).get? c = some o → (zlD s.heap l1 l2).get? c = some o := fun c o e => Heap.get?_push_of_some _ e
  have k5 : ∀ c o, (zlD s.heap l1 l2).get? c = some o → (zlE s.heap l1 l2).get? c = some o := fun c o e => Heap.get?_push_of_some _ e
  have g1 : (zlE s.heap l1 l2).get? s.heap.objs.size = some (lit l1) := k5 _ _ (k4 _ _ (k3 _ _ (k2 _ _ (Heap.get?_push_size _ rfl))))
  have g2 : (zlE s.heap l1 l2).get? (zlA s.heap l1).objs.size = some (tit l2) := k5 _ _ (k4 _ _ (k3 _ _ (Heap.get?_push_size _ rfl)))
  have g3 : (zlE s.heap l1 l2).get? (zlB s.heap l1 l2).objs.size = some _ := k5 _ _ (k4 _ _ (Heap.get?_push_size _ rfl))
  have g4 : (zlE s.heap l1 l2).get? (zlC s.heap l1 l2).objs.size = some _ := k5 _ _ (Heap.get?_push_size _ rfl)
  have g5 : (zlE s.heap l1 l2).get? (zlD s.heap l1 l2).objs.size = some _ := Heap.get?_push_size _ rfl
  rw [z1] at g2
  rw [z1, z2] at g3
  rw [z3] at g4
  rw [z4, z2, z3] at g5
  have nn : ∀ k, s.heap.get? (s.heap.objs.size + k) = none := fun k => Heap.get?_none_of_le (Nat.le_add_right _ _)
  have lt : ∀ i j : Nat, i < j → s.heap.objs.size + j > s.heap.objs.size + i := fun i j h => Nat.add_lt_add_left h _
  show _ ∧ _
  rw [z4]
  refine ⟨⟨_, g5, rfl⟩, hh (zlE s.heap l1 l2) s.heap.objs.size (s.heap.objs.size + 1) (s.heap.objs.size + 2) (s.heap.objs.size + 3) (s.heap.objs.size + 4) ⟨fun b o e _ => k5 _ _ (k4 _ _ (k3 _ _ (k2 _ _ (k1 _ _ e)))), (fun _ h => nomatch h), List.nodup_nil, ?_, ?_⟩⟩
  · intro p hp
    rcases List.mem_cons.mp hp with rfl | hp
    · exact ⟨g5, nn 4⟩
    rcases List.mem_cons.mp hp with rfl | hp
    · exact ⟨g4, nn 3⟩
    rcases List.mem_cons.mp hp with rfl | hp
    · exact ⟨g3, nn 2⟩
    rcases List.mem_cons.mp hp with rfl | hp
    · exact ⟨g2, nn 1⟩
    rcases List.mem_cons.mp hp with rfl | hp
    · exact ⟨g1, nn 0⟩
    · cases hp
  · have m0 : ∀ j : Nat, 0 < j → s.heap.objs.size + j > s.heap.objs.size := fun j h => Nat.lt_add_of_pos_right h
    refine .cons (fun b hb => ?_) (.cons (fun b hb => ?_) (.cons (fun b hb => ?_) (.cons (fun b hb => ?_) (.cons (fun b hb => nomatch hb) .nil))))
    · rcases List.mem_cons.mp hb with rfl | hb
      · exact lt 3 4 (by decide)
      rcases List.mem_cons.mp hb with rfl | hb
      · exact lt 2 4 (by decide)
      rcases List.mem_cons.mp hb with rfl | hb
      · exact lt 1 4 (by decide)
      · rw [List.mem_singleton.mp hb]; exact m0 4 (by decide)
    · rcases List.mem_cons.mp hb with rfl | hb
      · exact lt 2 3 (by decide)
      rcases List.mem_cons.mp hb with rfl | hb
      · exact lt 1 3 (by decide)
      · rw [List.mem_singleton.mp hb]; exact m0 3 (by decide)
    · rcases List.mem_cons.mp hb with rfl | hb
      · exact lt 1 2 (by decide)
      · rw [List.mem_singleton.mp hb]; exact m0 2 (by decide)
    · rw [List.mem_singleton.mp hb]; exact m0 1 (by decide)
end
end
section
local macro_rules | `(tactic| walk_at "H0") => `(tactic| (k_here; (with_reducible show wpAny _ _ (call (Value.ref _) _) _ _ _); k_dflt (refine' Cn.use (by assumption) (by k_asm) (by k_asm) (by k_asm) (by k_asm) (by assumption) (by assumption) (by assumption) (by assumption) (by first | assumption | rfl) (by ktr_room) (by first | walk_at "RM0" | (dsimp only [ktrTop]; walk_at "RM0")) ?_ ?_; rotate_left; (intro _ _ _ _ _ _ R _ _ _ _ _ _ _ _); (first | exact False.elim R | ((try dsimp only); (try k_fold))); rotate_right; (intro _ _ _ _ _ R _ _ _ _ _ _ _); (first | ((first | (obtain ⟨R, T⟩ := R; subst R) | (obtain ⟨⟨_, _, R, _⟩, T⟩ := R; subst R) | (obtain ⟨_, R, T⟩ := R; subst R)); replace T := Eq.symm T; subst T) | skip); (try dsimp only); (try k_fold))))
local macro_rules | `(tactic| walk_at "LEN") => `(tactic| (repeat' (first | (with_reducible exact len_hyp (by assumption)) | (with_reducible refine' len_app ?_ ?_) | (with_reducible exact len_int (by assumption)) | (with_reducible exact len_str _) | (with_reducible exact len_empty))))
local macro_rules | `(tactic| walk_at "RM0") => `(tactic| first | exact room2 (by assumption) (by decide) | exact room1 (by assumption) (by decide) | omega)
local macro_rules | `(tactic| walk_at "subscriptTail") => `(tactic| (k_here; (with_reducible show wpAny _ _ (subscriptTail _ _ (Value.ref _) (Value.int _ _)) _ _ _); k_dflt (refine' item_tupleT (by kun_tup) (by decide) (by decide) (by rfl) (by rfl) ?_; k_whole)))
-- to enter a def
local macro_rules | `(tactic| ktr_enter) => `(tactic| (refine' enter (by k_asm) (by k_asm) (by k_asm) (by assumption) (by assumption) (by assumption) (by exact rfl) (by exact rfl) (by assumption) (by k_is) (by k_is) (by ktr_room) (by exact BindsTo.of_eq rfl) (by exact locs rfl) ?_ (by exact rfl) (by exact rfl) (by exact rfl) (by decide); k_whole; intro _ _ _ _ _ _ _ _ _; (try dsimp only); (try k_fold)))
local macro_rules | `(tactic| kun_tup) => `(tactic| (refine' At.tup (by with_reducible assumption) (by k_asm) (by k_asm) (by k_asm) (by ktd_sub)))
local macro_rules | `(tactic| kun_lst) => `(tactic| (refine' At.lst (by with_reducible assumption) (by k_asm) (by k_asm) (by k_asm) (by ktd_sub)))
local macro_rules | `(tactic| size_fits) => `(tactic| ((with_reducible show PySem.Str.length _ ≤ sizeLine); refine' sz_of (by walk_at "LEN") (by k_dflt (decide +kernel))))
local macro_rules | `(tactic| walk_at "And") => `(tactic| ((try dsimp only); (with_reducible show PySem.Str.length _ ≤ sizeLine ∧ wpAny _ _ _ _ _ _); k_dflt (refine ⟨by size_fits, ?_⟩)))
local macro_rules | `(tactic| walk_at "formatField int") => `(tactic| (k_here; (with_reducible show wpAny _ _ (formatField (Value.int _ _) _) _ _ _); k_dflt (refine fmt_int (by assumption) ?_); intro _ _; (try dsimp only)))
local macro_rules | `(tactic| walk_at "binaryOp Add str str") => `(tactic| (k_here; (with_reducible show wpAny _ _ (binaryOp Operator.Add (Value.str _ _) (Value.str _ _)) _ _ _); k_dflt (refine' add_any (by walk_at "LEN") (by walk_at "LEN") (by decide +kernel) ?_); intro _ _ _ _; (try dsimp only)))
local macro_rules | `(tactic| walk_at "call ref") => `(tactic| walk_at "H0")
local macro_rules | `(tactic| walk_at "call ref cons nil") => `(tactic| walk_at "call ref")
local macro_rules | `(tactic| walk_at "joinParts") => `(tactic| (k_here; (with_reducible show wpAny _ _ (joinParts _ (evalEach [] _)) _ _ _); (refine' joinParts_nilE ?_); (refine' joinParts_nil ?_ ?jn); (case jn => size_fits)))
local macro_rules | `(tactic| walk_at "LMEM") => `(tactic| first | exact me_hd | (refine me_tl ?_; walk_at "LMEM") | (refine me_l ?_; walk_at "LMEM") | (refine me_r ?_; walk_at "LMEM") | assumption)
local macro_rules | `(tactic| walk_at "LATOM") => `(tactic| first | exact sb_self | (refine sb_tl ?_; walk_at "LATOM") | (refine sb_l ?_; walk_at "LATOM") | (refine sb_r ?_; walk_at "LATOM") | assumption)
local macro_rules | `(tactic| walk_at "LSUB") => `(tactic| first | exact sb_nil | exact sb_self | (refine sb_cons ?_ ?_; (focus walk_at "LMEM"); walk_at "LSUB") | (refine sb_app ?_ ?_; (focus walk_at "LSUB"); walk_at "LSUB") | walk_at "LATOM")
local macro_rules | `(tactic| walk_at "LKEY") => `(tactic| first | exact kx_hd | assumption | (refine kx_tl ?_; walk_at "LKEY") | (refine kx_l ?_; walk_at "LKEY") | (refine kx_r ?_; walk_at "LKEY"))
local macro_rules | `(tactic| walk_at "LKS") => `(tactic| first | exact ks_nil | (refine ks_cons ?_ ?_; (focus walk_at "LKEY"); walk_at "LKS") | (refine ks_app ?_ ?_; (focus walk_at "LKS"); walk_at "LKS") | (refine ks_sub ?_; walk_at "LATOM"))
section -- CFits
-- to enter a def

noncomputable def fitsB (k w : KD) : Bool := (k.d == w.d && (!k.v || w.v)) && ((w.b == k.b || Str.ofString "none" == k.b) || (w.b == Str.ofString "int" && k.b == Str.ofString "bool"))

theorem fe1 {k w : KD} (h : k.d ≠ w.d) : false = fitsB k w := by
  have : (k.d == w.d) = false := beq_eq_false_iff_ne.mpr h
  simp only [fitsB, this, Bool.false_and]
theorem fe2 {k w : KD} (h1 : k.v = true) (h2 : w.v = false) : false = fitsB k w := by
  simp only [fitsB, h1, h2, Bool.not_true, Bool.or_false, Bool.and_false, Bool.false_and]
theorem fe0 {k w : KD} (h : k.d = w.d) (hv : k.v = false ∨ w.v = true) : (k.d == w.d && (!k.v || w.v)) = true := by
  rw [h]; rcases hv with hv | hv <;> simp [hv]
theorem fe3 {k w : KD} (h : k.d = w.d) (hv : k.v = false ∨ w.v = true) (a : ([w.b, Str.ofString "none"].any fun x => x == k.b) = true) : ([w.b, Str.ofString "none"].any fun x => x == k.b) = fitsB k w := by
  rw [a, fitsB, fe0 h hv]
  simp only [List.any_cons, List.any_nil, Bool.or_false] at a
  rw [a]; rfl
theorem fe4 {k w : KD} (h : k.d = w.d) (hv : k.v = false ∨ w.v = true) (a : ([w.b, Str.ofString "none"].any fun x => x == k.b) = false) (b : (w.b == Str.ofString "int") = true) : (k.b == Str.ofString "bool") = fitsB k w := by
  rw [fitsB, fe0 h hv, b]
  simp only [List.any_cons, List.any_nil, Bool.or_false] at a
  rw [a]; rfl
theorem fe5 {k w : KD} (h : k.d = w.d) (hv : k.v = false ∨ w.v = true) (a : ([w.b, Str.ofString "none"].any fun x => x == k.b) = false) (b : (w.b == Str.ofString "int") = false) : (w.b == Str.ofString "int") = fitsB k w := by
  rw [fitsB, fe0 h hv, b]
  simp only [List.any_cons, List.any_nil, Bool.or_false] at a
  rw [a]; rfl

set_option pp.deepTerms false in
set_option pp.maxSteps 2000 in
theorem fits_c (w : World) (mean : ExcName → Option Value) (mg mb : Str → Option Value) (news : Led) (a1 a2 : Addr) (k1 k2 : KD)
    (h1 : KindAt (seed.heap_1 w.params) news a1 k1) (h2 : KindAt (seed.heap_1 w.params) news a2 k2) :
    Cn w mean mg mb 198 [.ref a1, .ref a2] news 2 20 (fun r tl => r = .bool (fitsB k1 k2) ∧ tl = news) (fun _ _ => False) := by
  intro dp un gd cn cs a ccd cl outer base L m frs s Q E F X T N O Of nf hk hd hu hret hexc
  obtain ⟨t1, u1, h1⟩ := h1
  obtain ⟨t2, u2, h2⟩ := h2
  refine wpAny_call ?_
  k_dflt ktr_enter
  k_steps
  all_goals (try dsimp only)
  all_goals (first | (refine fin_ hret (by assumption) (SlotEq.refl _) (by k_asm) (by k_asm) news (by ktd_sub) (by assumption) nf ⟨?_, rfl⟩) | (k_unfold; dsimp only; refine fin_ hret (by assumption) (SlotEq.refl _) (by k_asm) (by k_asm) news (by ktd_sub) (by assumption) nf ⟨?_, rfl⟩))
  all_goals (refine congrArg Value.bool ?_)
  all_goals (first
    | exact fe1 (by assumption)
    | exact fe2 (by assumption) (by assumption)
    | exact fe3 (by assumption) (by first | exact .inl (by assumption) | exact .inr (by assumption)) (by assumption)
    | exact fe4 (by assumption) (by first | exact .inl (by assumption) | exact .inr (by assumption)) (by assumption) (by assumption)
    | exact fe5 (by assumption) (by first | exact .inl (by assumption) | exact .inr (by assumption)) (by assumption) (by assumption))
end
section -- KText
local macro_rules | `(tactic| walk_at "d0") => `(tactic| skip)
set_option maxHeartbeats 3000000 in
theorem kind_text_c (w : World) (mean : ExcName → Option Value) (mg mb : Str → Option Value) (news : Led) (a1 : Addr) (k1 : KD)
    (h1 : KindAt (seed.heap_1 w.params) news a1 k1) (hb : LenLe k1.b 8) (h0 : Digit k1.d) :
    Cn w mean mg mb 191 [.ref a1] news 2 20 (fun r tl => (∃ x t, r = .str x t ∧ LenLe x 100) ∧ tl = news) (fun _ _ => False) := by
  intro dp un gd cn cs a ccd cl outer base L m frs s Q E F X T N O Of nf hk hd hu hret hexc
  obtain ⟨t1, u1, h1⟩ := h1
  refine wpAny_call ?_
  k_dflt ktr_enter
  k_steps
  all_goals (try dsimp only)
  all_goals first | refine fin_ hret (by assumption) (SlotEq.refl _) (by k_asm) (by k_asm) news (by ktd_sub) (by assumption) nf ⟨⟨_, _, rfl, ?_⟩, rfl⟩ | (k_unfold; dsimp only; refine fin_ hret (by assumption) (SlotEq.refl _) (by k_asm) (by k_asm) news (by ktd_sub) (by assumption) nf ⟨⟨_, _, rfl, ?_⟩, rfl⟩)
  all_goals (refine' len_le ?sa ?sb; (case sa => (repeat' (first | (with_reducible exact len_hyp (by assumption)) | (with_reducible refine' len_app ?_ ?_) | (with_reducible exact len_int (by assumption)) | (with_reducible exact len_str _) | (with_reducible exact len_empty)))); (case sb => decide +kernel))
end
section -- MCon
section
variable {w : World} {A : Around} {E : Value → Shared → Prop} {s : Shared} {base : Heap} {L : Addr} {m : Str → Option Value} {all frs news : Led} {e a : Addr}
theorem ne88 (X : (seed.heap_1 w.params).In base) (N : base.get? e = none) : e ≠ 88 := fun q => by
  have := X 88 _ rfl
  rw [← q, N] at this
  cases this
theorem fresh_news {h' : Heap} {q : Addr} {o : Obj} (F : Fr base L s.heap m) (N : News base L s.heap all) (k : ∀ b o, s.heap.get? b = some o → h'.get? b = some o) (n : s.heap.get? q = none) (hq : h'.get? q = some o) : Fr base L h' m ∧ News base L h' ((q, o) :: all) := by
  refine ⟨F.keeps k, fun p hp => ?_⟩
  rcases List.mem_cons.mp hp with rfl | hp
  · refine ⟨hq, fun z => ?_, ?_⟩
    · obtain ⟨oL, _, _, hL, _⟩ := F.ns
      dsimp only at z
      rw [z, hL] at n; cases n
    · cases z : base.get? q with
      | none => rfl
      | some o => rw [F.keep _ _ z] at n; cases n
  · exact ⟨k _ _ (N p hp).1, (N p hp).2⟩
theorem changed_news {h' : Heap} {o o' : Obj} (F : Fr base L s.heap m) (N : News base L s.heap all) (he : (e, o) ∈ all) (k : ∀ b o, b ≠ e → s.heap.get? b = some o → h'.get? b = some o) (hq : h'.get? e = some o') :
    Fr base L h' m ∧ ∀ all', (∀ p ∈ all', p ∈ all ∧ p.1 ≠ e) → News base L h' ((e, o') :: all') := by
  have ne := N _ he
  refine ⟨⟨?_, fun b o eb => k b o (fun z => by rw [z, ne.2.2] at eb; cases eb) (F.keep b o eb), F.above⟩, fun all' hs p hp => ?_⟩
  · obtain ⟨oL, es, ep, hL, r⟩ := F.ns
    exact ⟨oL, es, ep, k _ _ (fun z => ne.2.1 z.symm) hL, r⟩
  · rcases List.mem_cons.mp hp with rfl | hp
    · exact ⟨hq, ne.2⟩
    · exact ⟨k _ _ (hs p hp).2 (N p (hs p hp).1).1, (N p (hs p hp).1).2⟩
theorem meth_L {so : Addr} {pl : Sem Bool} {Q : Value × List Value → Shared → Prop} (F : Fr base L s.heap m) (X : (seed.heap_1 w.params).In base) (N : News base L s.heap all) (hso : (so, ks_superObj 47 e 88) ∈ all) (he : (e, excObj a none) ∈ all)
    (h : ∀ q h', Fr base L h' m → News base L h' ((q, mwObj e) :: all) → Q (.ref q, []) { s with heap := h', toks := s.toks + 1 }) :
    wpAny (model PySem.Challenge.rw_qd0027_02.row.prog w) A (getMethod (.ref so) (Str.ofString "__init__") pl) Q E s := by
  obtain ⟨hh, g, d, t, os⟩ := s
  refine super_meth (X.keeps F.keep) (N _ hso).1 (N _ he).1 (ne88 X (N _ he).2.2) fun h' q k n hq => ?_
  obtain ⟨F', N'⟩ := fresh_news F N k n hq
  exact h q h' F' N'
theorem mw_L {q : Addr} {x : Str} {t : Tok} {Q : Value → Shared → Prop} (F : Fr base L s.heap m) (X : (seed.heap_1 w.params).In base) (N : News base L s.heap all) (hq : (q, mwObj e) ∈ all) (he : (e, excObj a none) ∈ all) (all' : Led) (hs : ∀ p ∈ all', p ∈ all ∧ p.1 ≠ e)
    (h : ∀ a' h', Fr base L h' m → News base L h' ((e, excObj a' none) :: all') → Q .none { s with heap := h' }) :
    wpAny (model PySem.Challenge.rw_qd0027_02.row.prog w) A (call (.ref q) [.str x t]) Q E s := by
  obtain ⟨hh, g, d, tk, os⟩ := s
  refine mw_call (X.keeps F.keep) (N _ hq).1 (N _ he).1 fun h' a' k h1 => ?_
  obtain ⟨F', N'⟩ := changed_news (h' := h') F N he k h1
  exact h a' h' F' (N' all' hs)
noncomputable abbrev whatObj (P : Params) (x : Str) (t k : Tok) : Obj := { cls := .type "dict", data := .dict #[⟨PyData.keyHash P (Str.ofString "what"), .str (Str.ofString "what") k, .str x t⟩] 1 }
noncomputable abbrev spotObj (P : Params) (x : Str) (t k : Tok) (spot : Int) (u k' : Tok) : Obj := { cls := .type "dict", data := .dict #[⟨PyData.keyHash P (Str.ofString "what"), .str (Str.ofString "what") k, .str x t⟩, ⟨PyData.keyHash P (Str.ofString "spot"), .str (Str.ofString "spot") k', .int spot u⟩] 2 }
theorem what_L {x : Str} {t : Tok} {Q : Unit → Shared → Prop} (F : Fr base L s.heap m) (X : (seed.heap_1 w.params).In base) (N : News base L s.heap all) (he : (e, excObj a none) ∈ all) (all' : Led) (hs : ∀ p ∈ all', p ∈ all ∧ p.1 ≠ e)
    (h : ∀ dx k h' tk', s.heap.get? dx = none → Fr base L h' m → News base L h' ((e, excObj a (some dx)) :: (dx, whatObj w.params x t k) :: all') → Q () { s with heap := h', toks := tk' }) :
    wpAny (model PySem.Challenge.rw_qd0027_02.row.prog w) A (setAttr (.ref e) (Str.ofString "what") (.str x t)) Q E s := by
  refine set_first (od' := fun k => whatObj w.params x t k) (es := fun k => [⟨PyData.keyHash w.params (Str.ofString "what"), .str (Str.ofString "what") k, .str x t⟩]) (n := fun _ => 1) (X.keeps F.keep) (N _ he).1 (by kernel_rfl) (fun t => by rfl) (fun t => rfl) (fun t => Nat.le_of_ble_eq_true rfl) fun h' dx k tk' n h1 h2 kk => ?_
  obtain ⟨F', N'⟩ := changed_news (h' := h') F N he kk h1
  refine h dx k h' tk' n F' fun p hp => ?_
  rcases List.mem_cons.mp hp with rfl | hp
  · exact N' [] (fun _ h => nomatch h) _ (.head _)
  · rcases List.mem_cons.mp hp with rfl | hp
    · refine ⟨h2, fun z => ?_, ?_⟩
      · obtain ⟨oL, _, _, hL, _⟩ := F.ns
        dsimp only at z
        rw [z, hL] at n; cases n
      · cases z : base.get? dx with
        | none => rfl
        | some o => rw [F.keep _ _ z] at n; cases n
    · exact N' all' hs p (.tail _ hp)
theorem spot_L {x : Str} {t k u : Tok} {spot : Int} {dx : Addr} {Q : Unit → Shared → Prop} (F : Fr base L s.heap m) (X : (seed.heap_1 w.params).In base) (N : News base L s.heap all) (he : (e, excObj a (some dx)) ∈ all) (hdx : (dx, whatObj w.params x t k) ∈ all) (all' : Led) (hs : ∀ p ∈ all', p ∈ all ∧ p.1 ≠ dx)
    (h : ∀ k' h' tk', Fr base L h' m → News base L h' ((dx, spotObj w.params x t k spot u k') :: all') → Q () { s with heap := h', toks := tk' }) :
    wpAny (model PySem.Challenge.rw_qd0027_02.row.prog w) A (setAttr (.ref e) (Str.ofString "spot") (.int spot u)) Q E s := by
  refine set_more (od' := fun k' => spotObj w.params x t k spot u k') (es := fun k' => [⟨PyData.keyHash w.params (Str.ofString "what"), .str (Str.ofString "what") k, .str x t⟩, ⟨PyData.keyHash w.params (Str.ofString "spot"), .str (Str.ofString "spot") k', .int spot u⟩]) (n := fun _ => 2) (X.keeps F.keep) (N _ he).1 (N _ hdx).1 (by kernel_rfl) (by rfl) (fun t => by rfl) (fun t => rfl) (fun t => Nat.le_of_ble_eq_true rfl) fun h' k' tk' h1 h2 => ?_
  obtain ⟨F', N'⟩ := changed_news (h' := h') F N hdx (fun b o hb eb => (h2 b hb).trans eb) h1
  exact h k' h' tk' F' (N' all' hs)
end
section
variable {M : Model} {A : Around} {E : Value → Shared → Prop} {s : Shared} {u e : Addr}
theorem callWith_mw {pos : Pos} {env : Env} {x : Expr} {rest : List Expr} {Q : Value → Shared → Prop}
    (h : wpAny M A (spliced (backTo pos (starEach (x :: rest) env))) (fun vs s₁ => s₁.heap.get? u = some (mwObj e) ∧ wpAny M A (call (.ref u) vs) Q E s₁) E s)
    (he : starEach (x :: rest) env = (false, eval x env) :: starEach rest env := by rfl) (hplain : (backTo pos (starEach rest env)).any (·.1) = false := by rfl) :
    wpAny M A (callWith pos (.ref u) [] (backTo pos (starEach (x :: rest) env)) []) Q E s := by
  rw [he] at h ⊢
  have hp : (backTo pos ((false, eval x env) :: starEach rest env)).any (·.1) = false := by
    show (false || (backTo pos (starEach rest env)).any (·.1)) = false
    rw [hplain]; rfl
  unfold callWith
  refine wpAny_bind (wpAny_holding (Calls.evalArgs_plain (wpAny_mono h (fun vs s₁ h₁ => ?_) fun _ _ x => x)))
  obtain ⟨ho, hcall⟩ := h₁
  refine wpAny_bind (wpAny_standAt ?_)
  rw [hp]
  simp only [List.any_nil, Bool.or_false]
  refine wpAny_bind (m := keeperOf (.ref u)) ?_
  unfold keeperOf
  refine wpAny_bind (wpAny_load ho ?_)
  simp only [show (Value.type "method-wrapper" != Value.type "method") = true by decide, show (Value.type "method-wrapper" == Value.type "builtin_function_or_method" || Value.type "method-wrapper" == Value.type "method-wrapper") = true by decide, if_true]
  refine wpAny_pure ?_
  exact wpAny_bind (wpAny_mono hcall (fun r s₂ hr => wpAny_bind (wpAny_holding (wpAny_point (wpAny_pure hr)))) fun _ _ x => x)
end
end
section -- MInit
local macro_rules | `(tactic| walk_at "d0") => `(tactic| skip)
local macro_rules | `(tactic| walk_at "getMethod ref") => `(tactic| (k_here; k_dflt (refine' meth_L (by k_asm) (by k_asm) (by k_asm) (by k_mem) (by k_mem) ?_); intro q' h' F' N'))
theorem Back.use {base : Heap} {L L' : Addr} {m m' : Str → Option Value} {frs frs₁ X : Led} {h' : Heap} (b : Back base L m frs frs₁) (F : Fr base L' h' m') (N : News base L' h' (frs₁ ++ X)) (o : Off frs₁ X) : ∃ frs', SlotEq frs frs' ∧ Fr base L h' m ∧ News base L h' (frs' ++ X) ∧ Off frs' X := b frs₁ L' m' h' X (SlotEq.refl _) F N o
theorem inst_exc {h : Heap} {e a : Addr} (he : h.get? e = some (excObj a none)) : InstAt h e (excObj a none) 88 none := ⟨he, rfl, rfl, trivial⟩
theorem init37 (w : World) (mean : ExcName → Option Value) (mg mb : Str → Option Value) (news : Led) (e a0 : Addr) (x : Str) (t : Tok) (A : Around)
    (dp un : Nat) (gd : Option (List Code)) (cn : Str) (cs : Scope) (a : Addr) (ccd : Value) (cl : List (Str × Addr)) (outer : List Env) (base : Heap) (L : Addr) (m : Str → Option Value) (frs : Led) (s : Shared) (R : Result → Shared → Prop)
    (hA : A = ktrTop dp un gd cn cs L a ccd cl outer)
    (F : Fr base L s.heap m) (X : (seed.heap_1 w.params).In base) (T : Top vw (looseW vw lo) mean mg mb base) (N : News base L s.heap (frs ++ ((e, excObj a0 none) :: news))) (O : FrOK outer frs) (Of : Off frs ((e, excObj a0 none) :: news)) (hen : ∀ p ∈ news, p.1 ≠ e)
    (hk : cs.kind = .function) (hd : dp + 1 < recursionLimit) (hu : un + 8 < cLine)
    (hret : ∀ frs' a' dx k h' tk', SlotEq frs frs' → Fr base L h' m → News base L h' (frs' ++ ((e, excObj a' (some dx)) :: (dx, whatObj w.params x t k) :: news)) → Off frs' ((e, excObj a' (some dx)) :: (dx, whatObj w.params x t k) :: news) → (∀ p ∈ news, p.1 ≠ dx) → dx ≠ e → R (.ok (.ret .none)) { s with heap := h', toks := tk' }) :
    codeAny (model PySem.Challenge.rw_qd0027_02.row.prog w) A (.call (.ref 37) ⟨[.ref e, .str x t], []⟩) R s := by
  subst hA
  refine enterS F X T N O Of rfl rfl hk (by k_is) (by k_is) (by ktr_room) (BindsTo.of_eq rfl) (locs rfl) (fun L' h₁ frs₁ fo of' bk F' N' lt => ?_) rfl rfl rfl (by decide)
  refine ks_wpAt_execs_cons (ks_wpAt_Expr_any (ks_wpAt_MethodCall ?_))
  refine ks_node F' X N' T (by k_is) (by rfl) (by rfl) (inst_exc (N' _ (List.mem_append_right _ (.head _))).1) (by k_is) (by rfl) (by first | rfl | decide +kernel) (by k_is) (by k_is) (by k_is) (by k_is) (by decide) (by rfl) (by rfl) (by rfl) (by rfl) (by decide +kernel) (by first | boot_by_name | rfl | kernel_rfl) (fun so h2 F2 N2 l2 => ?_)
  refine meth_L F2 X N2 (.head _) (.tail _ (List.mem_append_right _ (.head _))) (fun q h3 F3 N3 => ?_)
  try dsimp only
  try k_fold
  refine callWith_mw (e := e) ?_
  k_steps
  · exact (N3 _ (.head _)).1
  have hne : ∀ p ∈ frs₁ ++ news, p.1 ≠ e := fun p hp z => by
    rcases List.mem_append.mp hp with hp | hp
    · have y := List.mem_map_of_mem (f := Prod.fst) hp
      rw [z] at y
      exact of' (e, excObj a0 none) (.head _) y
    · exact hen p hp z
  have hin : ∀ p ∈ frs₁ ++ news, p ∈ frs₁ ++ ((e, excObj a0 none) :: news) := fun p hp => by
    rcases List.mem_append.mp hp with hp | hp
    · exact List.mem_append_left _ hp
    · exact List.mem_append_right _ (.tail _ hp)
  refine mw_L F3 X N3 (.head _) (.tail _ (.tail _ (List.mem_append_right _ (.head _)))) (frs₁ ++ news) (fun p hp => ⟨.tail _ (.tail _ (hin p hp)), hne p hp⟩) (fun a1 h4 F4 N4 => ?_)
  try dsimp only
  try k_fold
  k_steps
  refine what_L F4 X N4 (.head _) (frs₁ ++ news) (fun p hp => ⟨.tail _ hp, hne p hp⟩) (fun dx k h5 tk5 n5 F5 N5 => ?_)
  try dsimp only
  try k_fold
  k_steps
  have hdx : ∀ p ∈ (e, excObj a1 none) :: (frs₁ ++ news), p.1 ≠ dx := fun p hp z => by
    have := (N4 p hp).1
    rw [z] at this
    rw [n5] at this; cases this
  have off : Off frs₁ ((e, excObj a1 (some dx)) :: (dx, whatObj w.params x t k) :: news) := by
    refine Off.cons (of' _ (.head _)) (Off.cons (fun hm => ?_) fun p hp => of' p (.tail _ hp))
    obtain ⟨p, hp, z⟩ := List.mem_map.mp hm
    exact hdx p (.tail _ (List.mem_append_left _ hp)) z
  obtain ⟨frs', se, F6, N6, off6⟩ := Back.use (by assumption) F5 (sw2 N5) off
  exact hret frs' a1 dx k h5 tk5 se F6 N6 off6 (fun p hp => hdx p (.tail _ (List.mem_append_right _ hp))) (Ne.symm (hdx _ (.head _)))
end
section -- MInit2
theorem Back.use2 {base : Heap} {L L' : Addr} {m m' : Str → Option Value} {frs frs₁ frs₂ X : Led} {h' : Heap} (b : Back base L m frs frs₁) (se : SlotEq frs₁ frs₂) (F : Fr base L' h' m') (N : News base L' h' (frs₂ ++ X)) (o : Off frs₂ X) : ∃ frs', SlotEq frs frs' ∧ Fr base L h' m ∧ News base L h' (frs' ++ X) ∧ Off frs' X := b frs₂ L' m' h' X se F N (fun p hp => by rw [se.keys]; exact o p hp)
theorem init66 (w : World) (mean : ExcName → Option Value) (mg mb : Str → Option Value) (news : Led) (e a0 : Addr) (x : Str) (t u : Tok) (spot : Int) (A : Around)
    (dp un : Nat) (gd : Option (List Code)) (cn : Str) (cs : Scope) (a : Addr) (ccd : Value) (cl : List (Str × Addr)) (outer : List Env) (base : Heap) (L : Addr) (m : Str → Option Value) (frs : Led) (s : Shared) (R : Result → Shared → Prop)
    (hA : A = ktrTop dp un gd cn cs L a ccd cl outer)
    (F : Fr base L s.heap m) (X : (seed.heap_1 w.params).In base) (T : Top vw (looseW vw lo) mean mg mb base) (N : News base L s.heap (frs ++ ((e, excObj a0 none) :: news))) (O : FrOK outer frs) (Of : Off frs ((e, excObj a0 none) :: news)) (hen : ∀ p ∈ news, p.1 ≠ e)
    (hk : cs.kind = .function) (hd : dp + 2 < recursionLimit) (hu : un + 20 < cLine)
    (hret : ∀ frs' a' dx k k' h' tk', SlotEq frs frs' → Fr base L h' m → News base L h' (frs' ++ ((e, excObj a' (some dx)) :: (dx, spotObj w.params x t k spot u k') :: news)) → Off frs' ((e, excObj a' (some dx)) :: (dx, spotObj w.params x t k spot u k') :: news) → (∀ p ∈ news, p.1 ≠ dx) → dx ≠ e → R (.ok (.ret .none)) { s with heap := h', toks := tk' }) :
    codeAny (model PySem.Challenge.rw_qd0027_02.row.prog w) A (.call (.ref 66) ⟨[.ref e, .str x t, .int spot u], []⟩) R s := by
  subst hA
  refine enterS F X T N O Of rfl rfl hk (by k_is) (by k_is) (by ktr_room) (BindsTo.of_eq rfl) (locs rfl) (fun L' h₁ frs₁ fo of' bk' F' N' lt => ?_) rfl rfl rfl (by decide)
  refine ks_wpAt_execs_cons (ks_wpAt_Expr_any (ks_wpAt_MethodCall ?_))
  refine ks_node F' X N' T (by k_is) (by rfl) (by rfl) (inst_exc (N' _ (List.mem_append_right _ (.head _))).1) (by k_is) (by rfl) (by first | rfl | decide +kernel) (by k_is) (by k_is) (by k_is) (by k_is) (by decide) (by rfl) (by rfl) (by rfl) (by rfl) (by decide +kernel) (by first | boot_by_name | rfl | kernel_rfl) (fun so h2 F2 N2 l2 => ?_)
  refine ks_method (f2 := 37) F2 X N2 (.head _) (inst_exc (N2 _ (.tail _ (List.mem_append_right _ (.head _)))).1) (by k_is) (by ks_is) (by k_is) (by decide) (fun q h3 F3 N3 l3 => ?_)
  try dsimp only
  try k_fold
  k_steps
  refine wpAny_call (ks_codeAny_call_bound (N3 _ (.head _)).1 ?_)
  refine init37 w mean mg mb news e a0 x t _ _ _ _ _ _ _ _ _ _ base L' _ frs₁ _ _ rfl F3 X T (fun p hp => N3 p (.tail _ (.tail _ hp))) (by assumption) (by assumption) hen rfl ?_ ?_ (fun frs₂ a1 dx k h4 tk4 se4 F4 N4 off4 nd4 de4 => ?_)
  · ktr_room
  · show un + 3 + 8 < cLine
    omega
  try dsimp only
  try k_fold
  k_steps
  have hne : ∀ p ∈ frs₂ ++ ((e, excObj a1 (some dx)) :: news), p.1 ≠ dx := fun p hp z => by
    rcases List.mem_append.mp hp with hp | hp
    · have y := List.mem_map_of_mem (f := Prod.fst) hp
      rw [z] at y
      exact off4 _ (.tail _ (.head _)) y
    · rcases List.mem_cons.mp hp with rfl | hp
      · exact de4 z.symm
      · exact nd4 p hp z
  have hin : ∀ p ∈ frs₂ ++ ((e, excObj a1 (some dx)) :: news), p ∈ frs₂ ++ ((e, excObj a1 (some dx)) :: (dx, whatObj w.params x t k) :: news) := fun p hp => by
    rcases List.mem_append.mp hp with hp | hp
    · exact List.mem_append_left _ hp
    · refine List.mem_append_right _ ?_
      rcases List.mem_cons.mp hp with rfl | hp
      · exact .head _
      · exact .tail _ (.tail _ hp)
  refine spot_L F4 X N4 (List.mem_append_right _ (.head _)) (List.mem_append_right _ (.tail _ (.head _))) (frs₂ ++ ((e, excObj a1 (some dx)) :: news)) (fun p hp => ⟨hin p hp, hne p hp⟩) (fun k' h5 tk5 F5 N5 => ?_)
  try dsimp only
  try k_fold
  k_steps
  have off : Off frs₂ ((e, excObj a1 (some dx)) :: (dx, spotObj w.params x t k spot u k') :: news) := by
    refine Off.cons (off4 _ (.head _)) (Off.cons (off4 _ (.tail _ (.head _))) fun p hp => off4 p (.tail _ (.tail _ hp)))
  have N6 : News base L' h5 (frs₂ ++ ((e, excObj a1 (some dx)) :: (dx, spotObj w.params x t k spot u k') :: news)) := fun p hp => by
    rcases List.mem_append.mp hp with hp | hp
    · exact N5 p (.tail _ (List.mem_append_left _ hp))
    · rcases List.mem_cons.mp hp with rfl | hp
      · exact N5 _ (.tail _ (List.mem_append_right _ (.head _)))
      · rcases List.mem_cons.mp hp with rfl | hp
        · exact N5 _ (.head _)
        · exact N5 _ (.tail _ (List.mem_append_right _ (.tail _ hp)))
  obtain ⟨frs', se, F7, N7, off7⟩ := Back.use2 (by assumption) se4 F5 N6 off
  exact hret frs' a1 dx k k' h5 tk5 se F7 N7 off7 nd4 de4
end
section -- MMake
open Builtin
section
variable {w : World} {A : Around} {R : Result → Shared → Prop} {h : Heap} {g : Array GenState} {d : Drawn} {tk : Nat} {os : OsState}
theorem made88 {M : Model} (KX : (seed.heap_1 w.params).In h) : Looks M h (Bind.madeBy (.ref 88)) (some "Exception.__new__") := by
  have hm := looks_mro88 (M := M) KX
  have h88 := KX 88 _ rfl
  intro A Q E s k q
  unfold Bind.madeBy
  refine wpAny_bind (hm A _ E s k ?_)
  rw [show mro88 = .ref 88 :: mro88.tail from rfl, List.forIn_cons]
  refine wpAny_bind (wpAny_bind (wpAny_bind (wpAny_bind (wpAny_loadPart (k _ _ h88) (wpAny_pure ?_)))))
  dsimp only
  exact wpAny_pure (wpAny_pure (wpAny_pure q))
theorem chk88 {w : World} {A : Around} {E : Value → Shared → Prop} {h : Heap} {g : Array GenState} {d : Drawn} {tk : Nat} {os : OsState} {rest : List Value} {Q : Unit → Shared → Prop} (KX : (seed.heap_1 w.params).In h) (hq : Q () ⟨h, g, d, tk, os⟩) :
    wpAny (model PySem.Challenge.rw_qd0027_02.row.prog w) A (checkBuiltinCall "Exception.__new__" ⟨.ref 88 :: rest, []⟩) Q E ⟨h, g, d, tk, os⟩ := by
  obtain ⟨M, hM⟩ : ∃ M, M = model PySem.Challenge.rw_qd0027_02.row.prog w := ⟨_, rfl⟩
  rw [← hM]
  have hC := KX 88 _ rfl
  have made := made88 (M := M) KX
  have s1 : Looks M h (isSubtype (.ref 88) (.type "Exception")) true := looks_mroIn KX (by kernel_rfl)
  clear KX
  unfold checkBuiltinCall
  repeat lk
  exact hq
theorem exc_new (w : World) (A : Around) (s : Shared) (Q E : Value → Shared → Prop) (x : Str) (t u : Tok) (spot : Int) (KX : (seed.heap_1 w.params).In s.heap)
    (hh : EndX s (fun _ ob => ∃ a, ob = excObj a none) Q) : wpAny (model PySem.Challenge.rw_qd0027_02.row.prog w) A (call (.builtin "Exception.__new__") [.ref 88, .str x t, .int spot u]) Q E s := by
  obtain ⟨h, g, d, tk, os⟩ := s
  have F := PySem.F.excBase_Exception
  have hC := KX 88 _ rfl
  refine wpAny_call (codeAny_of_tree ?_)
  show wpAny _ A.in1 (checkBuiltinCall "Exception.__new__" ⟨[.ref 88, .str x t, .int spot u], []⟩ >>= fun _ => again (.builtin "Exception.__new__" ⟨[.ref 88, .str x t, .int spot u], []⟩)) _ _ _
  refine wpAny_bind (chk88 KX ?_)
  refine wpAny_pure ⟨plainId_quiet excClass_Exception.newPlain _, ?_⟩
  refine new88 hC (by decide +kernel) (by decide +kernel) (by decide +kernel) ?_ (Nat.le_of_ble_eq_true rfl)
  refine hh _ _ _ (fun b o e => Heap.get?_push_of_some _ (Heap.get?_push_of_some _ e)) ?_ (by rw [← Heap.size_push]; exact Heap.get?_push_size _ rfl) ⟨_, rfl⟩
  exact Heap.get?_none_of_le (Nat.le_succ _)
theorem make88 {x : Str} {t u : Tok} {spot : Int} (KX : (seed.heap_1 w.params).In h)
    (hq : ∀ h' e a, (∀ b o, h.get? b = some o → h'.get? b = some o) → h.get? e = none → h'.get? e = some (excObj a none) →
      codeAny (model PySem.Challenge.rw_qd0027_02.row.prog w) (A.under (.builtin "type.__call__" ⟨[.ref 88, .str x t, .int spot u], []⟩)) (.call (.ref 66) ⟨[.ref e, .str x t, .int spot u], []⟩) (InitBack e R) ⟨h', g, d, tk, os⟩) :
    codeAny (model PySem.Challenge.rw_qd0027_02.row.prog w) A (.call (.ref 88) ⟨[.str x t, .int spot u], []⟩) R ⟨h, g, d, tk, os⟩ := by
  have hC := KX 88 _ rfl
  have made := made88 (M := model PySem.Challenge.rw_qd0027_02.row.prog w) KX
  have hm := looks_mro88 (M := model PySem.Challenge.rw_qd0027_02.row.prog w) KX
  have call : Looks (model PySem.Challenge.rw_qd0027_02.row.prog w) h (specialOf (.ref 88) "__call__") (some (.builtin "type.__call__")) := looks_specialIn KX (by kernel_rfl)
  have typ : Looks (model PySem.Challenge.rw_qd0027_02.row.prog w) h (isInstance (.ref 88) (.type "type")) true := looks_instIn KX (by kernel_rfl)
  have self : Looks (model PySem.Challenge.rw_qd0027_02.row.prog w) h (isSubtype (.ref 88) (.ref 88)) true := looks_mroIn KX (by kernel_rfl)
  have hi : Looks (model PySem.Challenge.rw_qd0027_02.row.prog w) h (typeLookup (.ref 88) "__init__") (some (.ref 66)) := looks_findIn KX (by kernel_rfl)
  have hb : ∀ v, Looks (model PySem.Challenge.rw_qd0027_02.row.prog w) h (bindSpecial (.ref 66) v) (.ref 66, [v]) := fun v => bind_fn KX v (by kernel_rfl)
  refine codeAny_of_tree ?_
  show wpAny _ _ (callAny (.ref 88) _) _ _ _
  refine nd_load hC ?_
  show wpAny _ _ (callAny.viaDunder (.ref 88) _) _ _ _
  unfold callAny.viaDunder
  refine wpAny_bind (call.at ?_)
  dsimp only
  rw [PySem.tc_bind]
  refine wpAny_bind (wpAny_pure (wpAny_bind (wpAny_pure ?_)))
  refine wpAny_pure (a := PySem.Fin.again (.call (.builtin "type.__call__") ⟨[.ref 88, .str x t, .int spot u], []⟩)) (And.intro rfl ?_)
  refine codeAny_call_builtin_at (Code.quiet_builtin _ (by decide +kernel)) entry_typeCall (check_slot PySem.tc_kind PySem.tc_split typ (tc_args _ _ _) ?_)
  unfold Builtin.«type.__call__»
  repeat (first | with_reducible refine exc_new w _ _ _ _ x t u spot KX ?_ | lk)
  intro h' e ob k n he ho
  obtain ⟨a, rfl⟩ := ho
  have t1 : Looks (model PySem.Challenge.rw_qd0027_02.row.prog w) h' (typeOf (.ref e)) (.ref 88) := (Looks.ld he).andThen .now
  have s1 := self.keeps k
  have i1 := hi.keeps k
  have b1 := (hb (.ref e)).keeps k
  dsimp only
  unfold isInstance callSpecial? specialOf
  repeat (first | with_reducible refine wpAny_call ?_ | lk)
  refine codeAny_mono (hq h' e a k n he) fun r s' z => ?_
  rcases r with e | (v | _ | _ | _) <;> first | exact z | exact z.elim | skip
  obtain ⟨rfl, z⟩ := z
  exact wpAny_pure (wpAny_pure z)
end
end
section -- MMakeL
theorem make_L (w : World) (mean : ExcName → Option Value) (mg mb : Str → Option Value) (news : Led) (x : Str) (t u : Tok) (spot : Int)
    (dp un : Nat) (gd : Option (List Code)) (cn : Str) (cs : Scope) (a : Addr) (ccd : Value) (cl : List (Str × Addr)) (outer : List Env) (base : Heap) (L : Addr) (m : Str → Option Value) (frs : Led) (s : Shared) (Q E : Value → Shared → Prop)
    (F : Fr base L s.heap m) (X : (seed.heap_1 w.params).In base) (T : Top vw (looseW vw lo) mean mg mb base) (N : News base L s.heap (frs ++ news)) (O : FrOK outer frs) (Of : Off frs news)
    (hk : cs.kind = .function) (hd : dp + 4 < recursionLimit) (hu : un + 30 < cLine)
    (hret : ∀ e frs' a' dx k k' h' tk', SlotEq frs frs' → Fr base L h' m → News base L h' (frs' ++ ((e, excObj a' (some dx)) :: (dx, spotObj w.params x t k spot u k') :: news)) → Off frs' ((e, excObj a' (some dx)) :: (dx, spotObj w.params x t k spot u k') :: news) →
      (∀ p ∈ news, p.1 ≠ e) → (∀ p ∈ news, p.1 ≠ dx) → dx ≠ e → base.get? e = none → Q (.ref e) { s with heap := h', toks := tk' }) :
    wpAny (model PySem.Challenge.rw_qd0027_02.row.prog w) (ktrTop dp un gd cn cs L a ccd cl outer) (call (.ref 88) [.str x t, .int spot u]) Q E s := by
  refine wpAny_call ?_
  obtain ⟨hh, g, d, tk, os⟩ := s
  refine make88 (X.keeps F.keep) fun h' e a0 k n he => ?_
  obtain ⟨F', N'⟩ := fresh_news F N k n he
  have hen : ∀ p ∈ frs ++ news, p.1 ≠ e := fun p hp z => by
    have := (N p hp).1
    rw [z] at this
    exact absurd (n.symm.trans this) (by simp)
  have off : Off frs ((e, excObj a0 none) :: news) := Off.cons (fun hm => by
    obtain ⟨p, hp, z⟩ := List.mem_map.mp hm
    exact hen p (List.mem_append_left _ hp) z) Of
  refine init66 w mean mg mb news e a0 x t u spot _ (dp + 1) (un + 1) gd cn cs a ccd cl outer base L m frs _ _ ?_ F' X T (sw1 N') O off (fun p hp => hen p (List.mem_append_right _ hp)) hk (by omega) (by omega) (fun frs' a' dx k1 k2 h2 tk2 se F2 N2 off2 nd de => ?_)
  · rfl
  refine ⟨rfl, ?_⟩
  exact hret e frs' a' dx k1 k2 h2 tk2 se F2 N2 off2 (fun p hp => hen p (List.mem_append_right _ hp)) nd de (N' _ (.head _)).2.2
end
section -- MRaise
/-- what a raise of an own exception asks of its value -/
noncomputable def RaiseP (w : World) (E : Value → Shared → Prop) (v : Value) (s : Shared) : Prop := ∃ e a dx, v = .ref e ∧ (seed.heap_1 w.params).In s.heap ∧ s.heap.get? e = some (excObj a (some dx)) ∧ E v s
section
variable {w : World} {A : Around} {E : Value → Shared → Prop} {s : Shared} {env : Env}
theorem raiseStmt_own {M : Model} {x : Sem Value} {Q : Flow → Shared → Prop} (hh : A.handled = none) (h : wpAny M A x (RaiseP w E) E s) : wpAny M A (raiseStmt env (some x) none) Q E s := by
  unfold raiseStmt
  refine wpAny_bind (wpAny_mono h (fun v s₁ h₁ => ?_) fun _ _ x => x)
  obtain ⟨e, a, dx, rfl, KX, he, hE⟩ := h₁
  obtain ⟨hh', g, d, t, os⟩ := s₁
  have h88 := KX 88 _ rfl
  have sub : Looks M hh' (isSubtype (.ref 88) (.type "BaseException")) true := looks_mroIn KX (by kernel_rfl)
  unfold excFromValue isExcClass isInstance setFlight raisedInstance
  repeat lk
  show wpAny _ _ handled _ _ _
  refine wpAny_handled ?_
  rw [hh]
  exact wpAny_throw hE
theorem raise_own {ex : Expr} {pos : Pos} {Q : Flow → Shared → Prop} (hh : A.handled = none) (h : wpAny (model PySem.Challenge.rw_qd0027_02.row.prog w) A (eval ex env) (RaiseP w E) E s) :
    wpAny (model PySem.Challenge.rw_qd0027_02.row.prog w) A (exec (.Raise (some ex) none pos) env) Q E s := by
  rw [arm_exec_Raise]
  exact wpAny_bind (wpAny_standAt (raiseStmt_own hh (wpAny_bind (wpAny_mono h (fun v s₁ h₁ => wpAny_bind (wpAny_standAt (wpAny_pure h₁))) fun _ _ x => x))))
end
section
variable {base h h' : Heap} {L e dx T : Addr} {m : Str → Option Value} {frs news : Led} {outer : List Env} {fs : List Addr}
theorem slots_of {es : List Env} (O : FrOK es frs) (hf : ∀ p ∈ frs, h.get? p.1 = some p.2) (P : ∀ b o, h.get? b = some o → (∀ vs, o.data ≠ .fields vs) → ∃ sl, h'.get? b = some { o with slots := sl }) : ∃ frs', SlotEq frs frs' ∧ ∀ p ∈ frs', h'.get? p.1 = some p.2 := by
  induction O with
  | nil => exact ⟨[], .nil, fun _ h => nomatch h⟩
  | @cons env es a o ps ds n k1 k2 k3 _ ih =>
    obtain ⟨frs', h1, h2⟩ := ih fun p hp => hf p (.tail _ hp)
    obtain ⟨sl, hs⟩ := P a o (hf _ (.head _)) fun vs q => by rw [k3] at q; cases q
    refine ⟨(a, { o with slots := sl }) :: frs', .cons h1, fun p hp => ?_⟩
    rcases List.mem_cons.mp hp with rfl | hp
    · exact hs
    · exact h2 p hp
theorem base_L (F : Fr base L h m) : base.get? L = none := by
  cases q : base.get? L with
  | none => rfl
  | some o => exact absurd (Nat.lt_of_lt_of_le (Heap.lt_size q) F.above) (Nat.lt_irrefl _)
theorem pass_L {T : Option Addr} (P : Passed (L :: frs.map (·.1)) e T h h') (F : Fr base L h m) (N : News base L h (frs ++ news)) (O : FrOK outer frs) (off : Off frs news) (he : base.get? e = none) (hen : ∀ p ∈ news, p.1 ≠ e)
    (hT : ∀ b, T = some b → base.get? b = none ∧ ∀ p ∈ news, p.1 ≠ b) : ∃ frs', SlotEq frs frs' ∧ Fr base L h' m ∧ News base L h' (frs' ++ news) ∧ Off frs' news := by
  obtain ⟨frs', se, hf⟩ := slots_of O (fun p hp => (N p (List.mem_append_left _ hp)).1) P.frame
  refine ⟨frs', se, ⟨?_, fun b o eb => ?_, F.above⟩, fun p hp => ?_, off.slot se⟩
  · obtain ⟨oL, es, ep, hL, hd, r⟩ := F.ns
    obtain ⟨sl, hs⟩ := P.frame L oL hL fun vs q => by rw [hd] at q; cases q
    exact ⟨_, es, ep, hs, hd, r⟩
  · refine P.other b o (F.keep b o eb) (fun hm => ?_) (fun z => by rw [z, he] at eb; cases eb) (fun z => by rw [(hT b z).1] at eb; cases eb)
    rcases List.mem_cons.mp hm with rfl | hm
    · rw [base_L F] at eb; cases eb
    · obtain ⟨p, hp, z⟩ := List.mem_map.mp hm
      have := (N p (List.mem_append_left _ hp)).2.2
      rw [z, eb] at this; cases this
  · rcases List.mem_append.mp hp with hp | hp
    · obtain ⟨q, hq, z⟩ : ∃ q ∈ frs, q.1 = p.1 := by
        have : p.1 ∈ frs.map (·.1) := by rw [se.keys]; exact List.mem_map_of_mem hp
        exact List.mem_map.mp this
      have := (N q (List.mem_append_left _ hq)).2
      rw [z] at this
      exact ⟨hf p hp, this⟩
    · have n := N p (List.mem_append_right _ hp)
      refine ⟨P.other p.1 p.2 n.1 (fun hm => ?_) (hen p hp) (fun z => (hT _ z).2 p hp rfl), n.2⟩
      rcases List.mem_cons.mp hm with z | hm
      · exact n.2.1 z
      · exact off p hp hm
/-- objects that stay: all but T, which is new -/
theorem still_L (F : Fr base L h' m) (N : News base L h' (frs ++ news)) {h₂ : Heap} (oth : ∀ b, b ≠ T → h₂.get? b = h'.get? b) (hb : base.get? T = none) (hL : L ≠ T) (hn : ∀ p ∈ frs ++ news, p.1 ≠ T) : Fr base L h₂ m ∧ News base L h₂ (frs ++ news) := by
  refine ⟨⟨?_, fun b o eb => (oth b fun z => by rw [z, hb] at eb; cases eb).trans (F.keep b o eb), F.above⟩, fun p hp => ⟨(oth _ (hn p hp)).trans (N p hp).1, (N p hp).2⟩⟩
  obtain ⟨oL, es, ep, hg, r⟩ := F.ns
  exact ⟨oL, es, ep, (oth L hL).trans hg, r⟩
end
section
variable {M : Model} {A : Around} {E : Value → Shared → Prop} {s : Shared} {base : Heap} {L e dx : Addr} {m : Str → Option Value} {frs news : Led} {outer : List Env} {env : Env}
theorem fun_L (F : Fr base L s.heap m) (N : News base L s.heap (frs ++ news)) (O : FrOK outer frs) (hf : env.frame = some L) (hk : env.scope.kind ≠ .module) : s.heap.FunFrames base (env :: outer) := by
  obtain ⟨oL, es, ep, hL, hd, _⟩ := F.ns
  exact ⟨hk, ⟨L, oL, hf, base_L F, hL, fun vs q => by rw [hd] at q; cases q⟩, O.fun N fun q hq => List.mem_append_left _ hq⟩
theorem frames_L (O : FrOK outer frs) (hf : env.frame = some L) : (env :: outer).filterMap (·.frame) = L :: frs.map (·.1) := by
  rw [List.filterMap_cons, hf]
  show L :: _ = _
  rw [O.frames]
/-- the frame is left by an exception that was raised in it -/
theorem leave_first {a : Addr} {Q : Unit → Shared → Prop} (hfr : A.frames = some (env :: outer)) (hf : env.frame = some L) (hk : env.scope.kind ≠ .module)
    (F : Fr base L s.heap m) (N : News base L s.heap (frs ++ news)) (O : FrOK outer frs) (off : Off frs news) (he : s.heap.get? e = some (excObj a (some dx))) (heb : base.get? e = none) (heL : L ≠ e) (hen : ∀ p ∈ frs ++ news, p.1 ≠ e)
    (h : ∀ h' frs', SlotEq frs frs' → Fr base L h' m → News base L h' (frs' ++ news) → Off frs' news → Fly base e dx h' → Q () { s with heap := h' }) :
    wpAny M A (leaving env (.ref e)) Q E s := by
  have FF := fun_L (env := env) F N O hf hk
  refine wpAny_bind (note_first hfr FF hf ⟨_, _, he, rfl⟩ fun h' T hT hTe hx hTb P => ?_)
  rw [frames_L O hf] at P
  obtain ⟨frs', se, F', N', off'⟩ := pass_L P F N O off heb (fun p hp => hen p (List.mem_append_right _ hp)) (fun b z => nomatch z)
  have hTb' : base.get? T = none := by
    cases q : base.get? T with
    | none => rfl
    | some o => rw [F.keep _ _ q] at hT; cases hT
  have hTL : L ≠ T := fun z => by
    obtain ⟨oL, _, _, hL, _⟩ := F.ns
    rw [z, hT] at hL; cases hL
  have hTn : ∀ p ∈ frs' ++ news, p.1 ≠ T := fun p hp z => by
    have hm : p.1 ∈ (frs ++ news).map (·.1) := by
      rw [List.map_append, se.keys, ← List.map_append]; exact List.mem_map_of_mem hp
    obtain ⟨q, hq, zq⟩ := List.mem_map.mp hm
    have := (N q hq).1
    rw [zq, z, hT] at this; cases this
  refine set_flight (s := { s with heap := h' }) (fr := none) hx hTb hTe fun h₂ hx2 hTb2 _ oth => ?_
  obtain ⟨F2, N2⟩ := still_L F' N' oth hTb' hTL hTn
  exact h h₂ frs' se F2 N2 off' ⟨heb, T, hx2, hTb2, hTe, hTb'⟩
/-- the frame is left by an exception that came from a call -/
theorem leave_next {Q : Unit → Shared → Prop} (hfr : A.frames = some (env :: outer)) (hf : env.frame = some L) (hk : env.scope.kind ≠ .module)
    (F : Fr base L s.heap m) (N : News base L s.heap (frs ++ news)) (O : FrOK outer frs) (off : Off frs news) (nf : NF news) (fly : Fly base e dx s.heap)
    (h : ∀ h' frs', SlotEq frs frs' → Fr base L h' m → News base L h' (frs' ++ news) → Off frs' news → Fly base e dx h' → Q () { s with heap := h' }) :
    wpAny M A (leaving env (.ref e)) Q E s := by
  have FF := fun_L (env := env) F N O hf hk
  obtain ⟨heb, T₀, hx0, hT0, hT0e, hT0b⟩ := fly
  have nfe : ∀ p ∈ news, p.1 ≠ e := fun p hp z => by
    obtain ⟨vs, sl, hg, _⟩ := hx0
    have := (N p (List.mem_append_right _ hp)).1
    rw [z, hg] at this
    rcases nf p hp with q | q
    · exact q.1 (by rw [← Option.some.inj this])
    · exact q vs (by rw [← Option.some.inj this])
  have nfT : ∀ p ∈ news, p.1 ≠ T₀ := fun p hp z => by
    obtain ⟨oT, ts, hg, hct, hd, _⟩ := hT0
    have := (N p (List.mem_append_right _ hp)).1
    rw [z, hg] at this
    rcases nf p hp with q | q
    · exact q.2 (by rw [← Option.some.inj this]; exact hct)
    · exact q ts (by rw [← Option.some.inj this]; exact hd)
  refine wpAny_bind (note_next hfr FF hf hx0 hT0 hT0e fun h' T hT hTe hx hTb P => ?_)
  rw [frames_L O hf] at P
  obtain ⟨frs', se, F', N', off'⟩ := pass_L P F N O off heb nfe (fun b z => by cases z; exact ⟨hT0b, nfT⟩)
  have hTb' : base.get? T = none := by
    cases q : base.get? T with
    | none => rfl
    | some o => rw [F.keep _ _ q] at hT; cases hT
  have hTL : L ≠ T := fun z => by
    obtain ⟨oL, _, _, hL, _⟩ := F.ns
    rw [z, hT] at hL; cases hL
  have hTn : ∀ p ∈ frs' ++ news, p.1 ≠ T := fun p hp z => by
    have hm : p.1 ∈ (frs ++ news).map (·.1) := by
      rw [List.map_append, se.keys, ← List.map_append]; exact List.mem_map_of_mem hp
    obtain ⟨q, hq, zq⟩ := List.mem_map.mp hm
    have := (N q hq).1
    rw [zq, z, hT] at this; cases this
  refine set_flight (s := { s with heap := h' }) (fr := none) hx hTb hTe fun h₂ hx2 hTb2 _ oth => ?_
  obtain ⟨F2, N2⟩ := still_L F' N' oth hTb' hTL hTn
  exact h h₂ frs' se F2 N2 off' ⟨heb, T, hx2, hTb2, hTe, hTb'⟩
end
theorem finx_ {base h' : Heap} {L L' e dx : Addr} {m m' : Str → Option Value} {frs frs₁ X : Led} {s : Shared} {tk : Nat} {E : Value → Shared → Prop} {Ex : Addr → Led → Prop}
    (hexc : ∀ e dx frs' tl h' tk', Ex dx tl → Fly base e dx h' → SlotEq frs frs' → Fr base L h' m → News base L h' (frs' ++ tl) → Off frs' tl → NF tl → E (.ref e) { s with heap := h', toks := tk' })
    (bk : Back base L m frs frs₁) (F : Fr base L' h' m') (N : News base L' h' (frs₁ ++ X)) (off : Off frs₁ X) (nf : NF X) (fly : Fly base e dx h') (hE : Ex dx X) : E (.ref e) { s with heap := h', toks := tk } := by
  obtain ⟨frs', h1, h2, h3, h4⟩ := bk frs₁ L' m' h' X (SlotEq.refl _) F N off
  exact hexc e dx frs' X h' tk hE fly h1 h2 h3 h4 nf
theorem leave_made {M : Model} {A : Around} {E : Value → Shared → Prop} {s : Shared} {base : Heap} {L e dx a : Addr} {od : Obj} {m : Str → Option Value} {frs news : Led} {outer : List Env} {env : Env} {Q : Unit → Shared → Prop}
    (hfr : A.frames = some (env :: outer)) (hf : env.frame = some L) (hk : env.scope.kind ≠ .module)
    (F : Fr base L s.heap m) (N : News base L s.heap (frs ++ ((e, excObj a (some dx)) :: (dx, od) :: news))) (O : FrOK outer frs) (off : Off frs ((e, excObj a (some dx)) :: (dx, od) :: news)) (ne1 : ∀ p ∈ news, p.1 ≠ e) (de : dx ≠ e) (eb : base.get? e = none)
    (h : ∀ h' frs', SlotEq frs frs' → Fr base L h' m → News base L h' (frs' ++ ((dx, od) :: news)) → Off frs' ((dx, od) :: news) → Fly base e dx h' → Q () { s with heap := h' }) :
    wpAny M A (leaving env (.ref e)) Q E s := by
  have he := N _ (List.mem_append_right _ (.head _))
  have N3 : News base L s.heap (frs ++ ((dx, od) :: news)) := cut_news N fun p hp => by
    rcases List.mem_append.mp hp with hp | hp
    · exact List.mem_append_left _ hp
    · exact List.mem_append_right _ (.tail _ hp)
  have hne : ∀ p ∈ frs ++ ((dx, od) :: news), p.1 ≠ e := fun p hp z => by
    rcases List.mem_append.mp hp with hp | hp
    · have y := List.mem_map_of_mem (f := Prod.fst) hp
      rw [z] at y
      exact off _ (.head _) y
    · rcases List.mem_cons.mp hp with rfl | hp
      · exact de z
      · exact ne1 p hp z
  exact leave_first hfr hf hk F N3 O (fun p hp => off p (.tail _ hp)) he.1 eb (fun z => he.2.1 z.symm) hne h
theorem NF.ty {o : Obj} {T : String} (h : o.cls = .type T) (hn : T ≠ "traceback") : NFo o := by
  refine .inl ?_
  rw [h]
  exact ⟨(fun q => nomatch q), fun q => hn (Value.type.inj q)⟩
end
section -- MComp
section
variable {prog : Program} {w : World} {A : Around} {E : Value → Shared → Prop} {s : Shared} {R : Result → Shared → Prop}
theorem compLoop_gen {elt target iter : Expr} {ifs : List Expr} {scope : Scope} {pos : Pos} {it acc : Value} {env : Env} (I : Nat → Shared → Prop)
    (turn : ∀ n s, I n s → wpAny (model prog w) A (pyNext it) (fun r s₁ => match r with
      | none => R (.ok .next) s₁
      | some v => wpAny (model prog w) A (letOwnedTupleGo target it v) (fun _ s₁' => wpAny (model prog w) A (assign target env v) (fun _ s₂ =>
          wpAny (model prog w) A (forIn ifs true fun c r => if r = true then do let ok ← isTrue c env (eval c env); pure (ForInStep.yield ok) else pure (ForInStep.yield r)) (fun ok s₃ =>
            if ok = true then wpAny (model prog w) A (eval elt env) (fun x s₄ =>
              wpAny (model prog w) A (call (.builtin "list.append") [acc, x]) (fun _ s₅ => ∃ m, m < n ∧ I m s₅) (notedBy (model prog w) A env fun e s' => R (.error e) s') s₄) (notedBy (model prog w) A env fun e s' => R (.error e) s') s₃
            else ∃ m, m < n ∧ I m s₃) (notedBy (model prog w) A env fun e s' => R (.error e) s') s₂) (notedBy (model prog w) A env fun e s' => R (.error e) s') s₁') (notedBy (model prog w) A env fun e s' => R (.error e) s') s₁) (notedBy (model prog w) A env fun e s' => R (.error e) s') s)
    (n : Nat) (h : I n s) : codeAny (model prog w) A (.compLoop (.ListComp elt [⟨target, iter, ifs, 0⟩] scope pos) 0 it acc env) R s := by
  refine codeAny_loop rfl I (fun n s hI => ?_) n h
  show wpAny _ A ((compTurn (.ListComp elt [⟨target, iter, ifs, 0⟩] scope pos) 0 it acc env).onRaise (fun x => do noteFrame x env; theTreesLotGoes x)) _ _ s
  refine wpAny_noted ?_
  rw [compTurn_list]
  refine wpAny_bind (wpAny_standAt (wpAny_bind (wpAny_mono (turn n s hI) (fun r s₁ h₁ => ?_) fun _ _ h' => h')))
  cases r with
  | none => exact wpAny_pure h₁
  | some v =>
    refine wpAny_bind (wpAny_mono h₁ (fun _ s₁' h₁' => ?_) fun _ _ h' => h')
    refine wpAny_bind (wpAny_mono h₁' (fun _ s₂ h₂ => wpAny_bind (wpAny_mono h₂ (fun ok s₃ h₃ => ?_) fun _ _ h' => h')) fun _ _ h' => h')
    cases ok with
    | false => exact wpAny_pure ⟨rfl, h₃⟩
    | true =>
      exact wpAny_bind (wpAny_bind (wpAny_mono h₃ (fun x s₄ h₄ => wpAny_bind (wpAny_mono h₄ (fun _ s₅ h₅ => wpAny_pure (wpAny_pure ⟨rfl, h₅⟩)) fun _ _ h' => h')) fun _ _ h' => h'))
end
noncomputable abbrev NsO (o : Obj) (m : Str → Option Value) : Prop := LCg.NsObj o m
noncomputable abbrev lstN (ys : List Value) : Obj := { cls := .type "list", data := .seq ys.toArray ys.length }
/-- the iterator's objects that the call has made -/
noncomputable def ownOf (base h : Heap) (fp : List Addr) : Led := fp.filterMap fun b => match base.get? b with | some _ => none | none => (h.get? b).map fun o => (b, o)
theorem mem_ownOf {base h : Heap} {fp : List Addr} {b : Addr} {o : Obj} (hb : b ∈ fp) (n : base.get? b = none) (g : h.get? b = some o) : (b, o) ∈ ownOf base h fp := by
  refine List.mem_filterMap.mpr ⟨b, hb, ?_⟩
  simp only [n, g, Option.map_some]
theorem of_ownOf {base h : Heap} {fp : List Addr} {p : Addr × Obj} (hp : p ∈ ownOf base h fp) : p.1 ∈ fp ∧ base.get? p.1 = none ∧ h.get? p.1 = some p.2 := by
  obtain ⟨b, hb, e⟩ := List.mem_filterMap.mp hp
  cases n : base.get? b with
  | some _ => simp only [n] at e; cases e
  | none =>
    simp only [n] at e
    obtain ⟨o, g, rfl⟩ := Option.map_eq_some_iff.mp e
    exact ⟨hb, n, g⟩
/-- how a turn of a comprehension ends -/
inductive CEndI (base : Heap) (L : Addr) (m : Str → Option Value) (frs X : Led) (g' : Array GenState) (d : Drawn) (os : OsState) (G : Prop) (s₂ : Shared) : Prop
  | of (h' : Heap) (tk : Nat) (frs' : Led) (e : s₂ = ⟨h', g', d, tk, os⟩) (se : SlotEq frs frs') (F : Fr base L h' m) (N : News base L h' (frs' ++ X)) (g : G)
noncomputable def CEnd (base : Heap) (L : Addr) (m : Str → Option Value) (frs X : Led) (s : Shared) (G : Prop) (s₂ : Shared) : Prop := CEndI base L m frs X s.gens s.drawn s.os G s₂
section
variable {prog : Program} {w : World} {A : Around} {E : Value → Shared → Prop} {s : Shared} {env : Env} {base : Heap} {L : Addr} {m : Str → Option Value} {frs news : Led}
variable {elt target iter : Expr} {ifs : List Expr} {scope : Scope} {cl : List (Str × Addr)} {pos : Pos} {I : Addr} {fp wr : List Addr} {n : Nat} {P Md : Nat → Value → Heap → Prop} {St : Nat → Heap → Prop}
end
end
section -- MCompL
theorem ne_newC {h : Heap} {a b : Addr} {o : Obj} (ha : h.get? a = some o) (hb : h.get? b = none) : a ≠ b := fun z => by rw [z, hb] at ha; cases ha
section
variable {prog : Program} {w : World} {A : Around} {E : Value → Shared → Prop} {s : Shared} {env : Env} {base : Heap} {L : Addr} {m : Str → Option Value} {frs news : Led}
variable {elt iter : Expr} {ifs : List Expr} {scope : Scope} {cl : List (Str × Addr)} {pos : Pos}
/-- how a comprehension's value comes: a new list -/
noncomputable def LEnd (base : Heap) (L : Addr) (m : Str → Option Value) (frs news : Led) (s : Shared) (G : List Value → Prop) (Q : Value → Shared → Prop) : Prop :=
  ∀ D h tk ys frs', SlotEq frs frs' → Fr base L h m → News base L h (frs' ++ ((D, lstN ys) :: news)) → Off frs' ((D, lstN ys) :: news) → (∀ p ∈ frs' ++ news, p.1 < D) → G ys → Q (.ref D) { s with heap := h, toks := tk }
end
end
section -- MCompM
/-- how a turn of a comprehension ends that may change the ledger -/
inductive CEndMI (base : Heap) (L : Addr) (m : Str → Option Value) (frs own X : Led) (g' : Array GenState) (d : Drawn) (os : OsState) (G : Led → Prop) (s₂ : Shared) : Prop
  | of (h' : Heap) (tk : Nat) (frs' X' : Led) (e : s₂ = ⟨h', g', d, tk, os⟩) (se : SlotEq frs frs') (F : Fr base L h' m) (N : News base L h' (frs' ++ (own ++ X'))) (o : Off frs' X') (n : NF X') (a : ∀ p ∈ X', p.1 ∈ X.map (·.1) ∨ p.1 ∉ own.map (·.1)) (g : G X')
noncomputable def CEndM (base : Heap) (L : Addr) (m : Str → Option Value) (frs own X : Led) (s : Shared) (G : Led → Prop) (s₂ : Shared) : Prop := CEndMI base L m frs own X s.gens s.drawn s.os G s₂
/-- where a comprehension's loop stands -/
inductive BlkI (base : Heap) (L : Addr) (m : Str → Option Value) (frs : Led) (wr : List Addr) (C D : Addr) (n : Nat) (St : Nat → Heap → Prop) (J : Nat → List Value → Led → Prop) (s : Shared) (f : Nat) (s' : Shared) : Prop
  | of (h' : Heap) (tk k : Nat) (ys : List Value) (m' : Str → Option Value) (frs' X : Led) (es : s' = { s with heap := h', toks := tk }) (hk : k ≤ n) (ef : f = n + 1 - k) (hy : ys.length ≤ k) (hst : St k h') (F : Fr base L h' m) (ns : h'.Ns C m') (hD : h'.get? D = some (lstN ys)) (se : SlotEq frs frs') (N : News base L h' (frs' ++ X)) (hJ : J k ys X) (o : Off frs' X) (nf : NF X) (ap : ∀ p ∈ X, p.1 ≠ C ∧ p.1 ≠ D ∧ p.1 ∉ wr)
section
variable {prog : Program} {w : World} {A : Around} {E : Value → Shared → Prop} {s : Shared} {env : Env} {base : Heap} {L : Addr} {m : Str → Option Value} {frs news : Led}
variable {elt target iter : Expr} {ifs : List Expr} {scope : Scope} {cl : List (Str × Addr)} {pos : Pos} {I : Addr} {fp wr : List Addr} {n : Nat} {P Md : Nat → Value → Heap → Prop} {St : Nat → Heap → Prop}
theorem comp_blockM {RR : Value → Addr → Result → Shared → Prop} (W : KTurns prog w A target I fp wr n P Md St) (self : ∀ s Q E, St 0 s.heap → Q (.ref I) s → wpAny (model prog w) A (pyIter (.ref I)) Q E s) (hsz : n ≤ sizeLine)
    (hcell : ∀ y ∈ scope.names, y.2 ≠ .cell) (hkind : scope.kind = .function) (hst : St 0 s.heap) (hfp : ∀ b ∈ fp, b < s.heap.objs.size)
    (hL : L ∉ fp) (hwr : ∀ b ∈ wr, base.get? b = none) (hnw : ∀ p ∈ frs ++ news, p.1 ∉ wr) (hfr : ∀ p ∈ frs, p.1 ∉ fp) (hcl : ∀ k h b o, St k h → b ∈ fp → h.get? b = some o → NFo o) (hlv : ∀ k h b, St k h → b ∈ wr → ∃ o, h.get? b = some o)
    (F : Fr base L s.heap m) (N : News base L s.heap (frs ++ news)) (Of : Off frs news) (nf : NF news)
    (B : Nat → (Str → Option Value) → Prop)
    (bind : ∀ k C v s' m₂ (Q : Unit → Shared → Prop) E', k < n → P k v s'.heap → s'.heap.Ns C m₂ → C ∉ fp → s.heap.objs.size < C → (∀ h' m₃ tk, (∀ b o, b ≠ C → s'.heap.get? b = some o → h'.get? b = some o) → h'.Ns C m₃ → B k m₃ → Q () { s' with heap := h', toks := tk }) → wpAny (model prog w) A (assign target (compEnvC scope cl C env) v) Q E' s')
    (J : Nat → List Value → Led → Prop) (h0 : J 0 [] news)
    (step : ∀ k ys C oC m₃ own X frs₁ h₁ tk₁, k < n → B k m₃ → NsO oC m₃ → (C, oC) ∈ own → J k ys X → SlotEq frs frs₁ → Fr base L h₁ m → News base L h₁ (frs₁ ++ (own ++ X)) → Off frs₁ (own ++ X) → NF (own ++ X) → (∀ p ∈ X, p.1 ∈ own.map (·.1) → p.1 ∈ fp ∧ p.1 ∉ wr) →
      wpAny (model prog w) A (forIn ifs true fun c r => if r = true then do let ok ← isTrue c (compEnvC scope cl C env) (eval c (compEnvC scope cl C env)); pure (ForInStep.yield ok) else pure (ForInStep.yield r)) (fun ok s₃ =>
        if ok = true then wpAny (model prog w) A (eval elt (compEnvC scope cl C env)) (fun y => CEndM base L m frs₁ own X s (J (k + 1) (ys ++ [y]))) (fun _ _ => False) s₃
        else CEndM base L m frs₁ own X s (J (k + 1) ys) s₃) (fun _ _ => False) { s with heap := h₁, toks := tk₁ })
    (hRR : ∀ D C h tk m' ys frs' X, SlotEq frs frs' → Fr base L h m → News base L h ((D, lstN ys) :: (frs' ++ X)) → Off frs' ((D, lstN ys) :: X) → NF X → h.Ns C m' → base.get? C = none → C ≠ L → C ≠ D → (∀ p ∈ frs' ++ X, p.1 ≠ C) → (∀ p ∈ frs ++ news, p.1 < D) → D ∉ X.map (·.1) → J n ys X → RR (.ref D) C (.ok .next) { s with heap := h, toks := tk }) :
    wpAny (model prog w) A (newList []) (fun acc s₃ => wpAny (model prog w) A (newFunctionEnv scope env.globals cl [] env.qual none .none (some env)) (fun cenv s₄ =>
      codeAny (model prog w) A (.compStart (.ListComp elt [⟨target, iter, ifs, 0⟩] scope pos) 0 (.ref I) acc { cenv with scope := relabel scope env }) (RR acc cenv.locals) s₄) E s₃) E s := by
  refine wpAny_newObj_type (wpAny_newFunctionEnv hcell (by intro y hy; simp at hy) (fun h₁ hns₁ hsb₁ => ?_) hkind)
  dsimp only at hns₁ hsb₁ ⊢
  generalize hH2 : s.heap.push { cls := .type "list", dict := none, data := .seq ([] : List Value).toArray } = H2 at hns₁ hsb₁ ⊢
  have hC : H2.objs.size = s.heap.objs.size + 1 := by rw [← hH2, Heap.size_push]
  generalize hCC : H2.objs.size = C at *
  generalize hDD : s.heap.objs.size = D at *
  have ltC : D < C := by rw [hC]; exact Nat.lt_succ_self _
  have hDC : D ≠ C := Nat.ne_of_lt ltC
  have below : ∀ b o, s.heap.get? b = some o → b < D := fun b o e => hDD ▸ Heap.lt_size e
  have old : ∀ b o, s.heap.get? b = some o → h₁.get? b = some o := fun b o e => hsb₁.extBut b o (Nat.ne_of_lt (Nat.lt_trans (below b o e) ltC)) (Heap.get?_push_of_some _ (hH2 ▸ Heap.get?_push_of_some _ e))
  have hacc : h₁.get? D = some (lstN []) := hsb₁.extBut _ _ hDC (Heap.get?_push_of_some _ (hH2 ▸ hDD ▸ Heap.get?_push_size _ rfl))
  have fresh : ∀ a, D ≤ a → base.get? a = none := fun a ha => by
    cases e : base.get? a with
    | none => rfl
    | some o' => exact absurd (below _ _ (F.keep a o' e)) (Nat.not_lt.mpr ha)
  have hLlt : L < D := hDD ▸ F.ns.lt
  have hCf : C ∉ fp := fun hm => Nat.lt_irrefl _ (Nat.lt_trans ltC (hfp _ hm))
  have hDf : D ∉ fp := fun hm => Nat.lt_irrefl _ (hfp _ hm)
  have hlt : ∀ p ∈ frs ++ news, p.1 < D := fun p hp => below _ _ (N p hp).1
  have hD₀ : base.get? D = none := fresh D (Nat.le_refl _)
  have hC₀ : base.get? C = none := fresh C (Nat.le_of_lt ltC)
  have hDL : D ≠ L := Nat.ne_of_gt hLlt
  have hCL : C ≠ L := Nat.ne_of_gt (Nat.lt_trans hLlt ltC)
  have hst₁ : St 0 h₁ := W.frame _ _ _ hst fun b _ o e => old b o e
  have hDw : D ∉ wr := fun h => hDf (W.sub _ h)
  have hCw : C ∉ wr := fun h => hCf (W.sub _ h)
  have hLw : L ∉ wr := fun h => hL (W.sub _ h)
  have same : ∀ {frs' : Led}, SlotEq frs frs' → ∀ p ∈ frs', ∃ q ∈ frs, q.1 = p.1 := fun se p hp => by
    have hm : p.1 ∈ frs.map (·.1) := by
      rw [se.keys]; exact List.mem_map_of_mem hp
    exact List.mem_map.mp hm
  have apart : ∀ {frs' X : Led}, SlotEq frs frs' → (∀ p ∈ X, p.1 ≠ C ∧ p.1 ≠ D ∧ p.1 ∉ wr) → ∀ p ∈ frs' ++ X, p.1 ≠ C ∧ p.1 ≠ D ∧ p.1 ∉ wr := fun se hx p hp => by
    rcases List.mem_append.mp hp with hp | hp
    · obtain ⟨q, hq, e⟩ := same se p hp
      have l := hlt q (List.mem_append_left _ hq)
      rw [← e]
      exact ⟨Nat.ne_of_lt (Nat.lt_trans l ltC), Nat.ne_of_lt l, hnw q (List.mem_append_left _ hq)⟩
    · exact hx p hp
  have loop : ∀ s₃ : Shared, s₃ = { s with heap := h₁, toks := s.toks + ([] : List (Str × Value)).length } →
      codeAny (model prog w) A (.compLoop (.ListComp elt [⟨target, iter, ifs, 0⟩] scope pos) 0 (.ref I) (.ref D) (compEnvC scope cl C env)) (RR (.ref D) C) s₃ := by
    rintro s₃ rfl
    refine compLoop_gen (BlkI base L m frs wr C D n St J s) ?_ (n + 1)
      ⟨h₁, _, 0, [], _, frs, news, rfl, Nat.zero_le _, rfl, Nat.le_refl _, hst₁, F.keeps old, hns₁, hacc, SlotEq.refl _, fun p hp => ⟨old _ _ (N p hp).1, (N p hp).2⟩, h0, Of, nf, fun p hp => ⟨Nat.ne_of_lt (Nat.lt_trans (hlt p (List.mem_append_right _ hp)) ltC), Nat.ne_of_lt (hlt p (List.mem_append_right _ hp)), hnw p (List.mem_append_right _ hp)⟩⟩
    rintro f s' ⟨h', tk, k, ys, m', frs', X, rfl, hk, rfl, hyl, hst', F', hn', hD', se, N', hJ, oX, nX, aX⟩
    have ap := apart se aX
    have kfr : ∀ h'' : Heap, (∀ b o, b ∉ wr → h'.get? b = some o → h''.get? b = some o) → Fr base L h'' m ∧ News base L h'' (frs' ++ X) := fun h'' kk =>
      ⟨⟨F'.ns.at' fun o e => kk _ o hLw e, fun b o e => kk b o (fun hb => by rw [hwr b hb] at e; cases e) (F'.keep b o e), F'.above⟩, fun p hp => ⟨kk _ _ (ap p hp).2.2 (N' p hp).1, (N' p hp).2⟩⟩
    by_cases hlt' : k < n
    · refine W.item k _ _ _ hlt' hst' fun v h₂ tk₂ hMd kk₂ => ?_
      obtain ⟨F₂, N₂⟩ := kfr h₂ kk₂
      refine W.go k v _ _ _ hMd fun h₃ hP hst₃ kk₃ => ?_
      have F₃ : Fr base L h₃ m := ⟨F₂.ns.at' fun o e => kk₃ _ o hLw e, fun b o e => kk₃ b o (fun hb => by rw [hwr b hb] at e; cases e) (F₂.keep b o e), F₂.above⟩
      have N₃ : News base L h₃ (frs' ++ X) := fun p hp => ⟨kk₃ _ _ (ap p hp).2.2 (N₂ p hp).1, (N₂ p hp).2⟩
      have hn₃ : h₃.Ns C m' := (hn'.at' fun o e => kk₂ _ o hCw e).at' fun o e => kk₃ _ o hCw e
      have hD₃ : h₃.get? D = some (lstN ys) := kk₃ _ _ hDw (kk₂ _ _ hDw hD')
      have oD : ∀ p ∈ frs', p.1 < D := fun p hp => by
        obtain ⟨q, hq, e⟩ := same se p hp
        rw [← e]; exact hlt q (List.mem_append_left _ hq)
      refine bind k C v _ m' _ _ hlt' hP hn₃ hCf ltC fun h₄ m₃ tk₄ sb hn₄ hB => ?_
      replace sb : ∀ b o, b ≠ C → h₃.get? b = some o → h₄.get? b = some o := sb
      obtain ⟨oC, gC, hoC⟩ := LCg.ns_obj hn₄
      have F₄ : Fr base L h₄ m := ⟨F₃.ns.at' fun o e => sb _ o (Ne.symm hCL) e, fun b o e => sb b o (fun q => by rw [q, hC₀] at e; cases e) (F₃.keep b o e), F₃.above⟩
      have hst₄ : St (k + 1) h₄ := W.frame _ _ _ hst₃ fun b hb o e => sb b o (fun q => hCf (q ▸ hb)) e
      have N₄ : News base L h₄ (frs' ++ (((C, oC) :: (D, lstN ys) :: ownOf base h₄ fp) ++ X)) := fun p hp => by
        have k1 : ∀ p ∈ frs' ++ X, h₄.get? p.1 = some p.2 ∧ p.1 ≠ L ∧ base.get? p.1 = none := fun p hp => ⟨sb _ _ (ap p hp).1 (N₃ p hp).1, (N₃ p hp).2⟩
        rcases List.mem_append.mp hp with hp | hp
        · exact k1 p (List.mem_append_left _ hp)
        · rcases List.mem_append.mp hp with hp | hp
          · rcases List.mem_cons.mp hp with rfl | hp
            · exact ⟨gC, hCL, hC₀⟩
            · rcases List.mem_cons.mp hp with rfl | hp
              · exact ⟨sb _ _ hDC hD₃, hDL, hD₀⟩
              · obtain ⟨a1, a2, a3⟩ := of_ownOf hp
                exact ⟨a3, fun q => hL (q ▸ a1), a2⟩
          · exact k1 p (List.mem_append_right _ hp)
      have off₄ : Off frs' (((C, oC) :: (D, lstN ys) :: ownOf base h₄ fp) ++ X) := fun p hp hm => by
        obtain ⟨q, hq, e⟩ := List.mem_map.mp hm
        have lq := oD q hq
        rcases List.mem_append.mp hp with hp | hp
        · rcases List.mem_cons.mp hp with rfl | hp
          · rw [e] at lq; exact Nat.lt_irrefl _ (Nat.lt_trans lq ltC)
          · rcases List.mem_cons.mp hp with rfl | hp
            · rw [e] at lq; exact Nat.lt_irrefl _ lq
            · rw [← se.keys] at hm
              obtain ⟨q', hq', e'⟩ := List.mem_map.mp hm
              exact hfr q' hq' (by rw [e']; exact (of_ownOf hp).1)
        · exact oX p hp hm
      have nf₄ : NF (((C, oC) :: (D, lstN ys) :: ownOf base h₄ fp) ++ X) := fun p hp => by
        rcases List.mem_append.mp hp with hp | hp
        · rcases List.mem_cons.mp hp with rfl | hp
          · obtain ⟨es, ep, hd, _⟩ := hoC
            exact .inr fun vs q => by rw [hd] at q; cases q
          · rcases List.mem_cons.mp hp with rfl | hp
            · exact NF.ty rfl (by decide)
            · obtain ⟨a1, a2, a3⟩ := of_ownOf hp
              exact hcl _ _ _ _ hst₄ a1 a3
        · exact nX p hp
      have back : ∀ (h₅ : Heap) (frs₅ X₅ : Led), Fr base L h₅ m → News base L h₅ (frs₅ ++ (((C, oC) :: (D, lstN ys) :: ownOf base h₄ fp) ++ X₅)) → (∀ p ∈ X₅, p.1 ∈ X.map (·.1) ∨ p.1 ∉ ((C, oC) :: (D, lstN ys) :: ownOf base h₄ fp).map (·.1)) → St (k + 1) h₅ ∧ h₅.get? D = some (lstN ys) ∧ h₅.Ns C m₃ ∧ News base L h₅ (frs₅ ++ X₅) ∧ (∀ p ∈ X₅, p.1 ≠ C ∧ p.1 ≠ D ∧ p.1 ∉ wr) := fun h₅ frs₅ X₅ F₅ N₅ new₅ => by
        refine ⟨W.frame _ _ _ hst₄ fun b hb o e => ?_, (N₅ _ (List.mem_append_right _ (List.mem_append_left _ (.tail _ (.head _))))).1, hoC.ns (N₅ _ (List.mem_append_right _ (List.mem_append_left _ (.head _)))).1, cut_news N₅ fun p hp => ?_, fun p hp => ?_⟩
        · cases q : base.get? b with
          | some o' =>
            have := F₄.keep _ _ q
            rw [e] at this
            rw [Option.some.inj this]
            exact F₅.keep _ _ q
          | none => exact (N₅ _ (List.mem_append_right _ (List.mem_append_left _ (.tail _ (.tail _ (mem_ownOf hb q e)))))).1
        · rcases List.mem_append.mp hp with hp | hp
          · exact List.mem_append_left _ hp
          · exact List.mem_append_right _ (List.mem_append_right _ hp)
        · rcases new₅ p hp with hp' | hp'
          · obtain ⟨q, hq, e⟩ := List.mem_map.mp hp'
            have := aX q hq
            rw [e] at this
            exact this
          · simp only [List.map_cons, List.mem_cons, not_or] at hp'
            refine ⟨hp'.1, hp'.2.1, fun hb => ?_⟩
            obtain ⟨o, ho⟩ := hlv _ _ _ hst₄ hb
            exact hp'.2.2 (List.mem_map.mpr ⟨(p.1, o), mem_ownOf (W.sub _ hb) (hwr _ hb) ho, rfl⟩)
      have hap : ∀ p ∈ X, p.1 ∈ (((C, oC) :: (D, lstN ys) :: ownOf base h₄ fp)).map (·.1) → p.1 ∈ fp ∧ p.1 ∉ wr := fun p hp hm => by
        refine ⟨?_, (aX p hp).2.2⟩
        simp only [List.map_cons, List.mem_cons] at hm
        rcases hm with e | e | e
        · exact absurd e (aX p hp).1
        · exact absurd e (aX p hp).2.1
        · obtain ⟨q, hq, e⟩ := List.mem_map.mp e
          rw [← e]
          exact (of_ownOf hq).1
      refine wpAny_mono (step k ys C oC m₃ _ X frs' h₄ tk₄ hlt' hB hoC (.head _) hJ se F₄ N₄ off₄ nf₄ hap) (fun ok s₄ h₄' => ?_) fun _ _ e => e.elim
      cases ok with
      | false =>
        obtain ⟨h₅, tk₅, frs₅, X₅, rfl, se₅, F₅, N₅, o₅, n₅, new₅, hJ₅⟩ := h₄'
        obtain ⟨b1, b2, b3, b4, b5⟩ := back h₅ frs₅ X₅ F₅ N₅ new₅
        exact ⟨n + 1 - (k + 1), by omega, h₅, tk₅, k + 1, ys, m₃, frs₅, X₅, rfl, hlt', rfl, Nat.le_succ_of_le hyl, b1, F₅, b3, b2, se.trans se₅, b4, hJ₅, o₅, n₅, b5⟩
      | true =>
        refine wpAny_mono h₄' (fun y s₅ h₅' => ?_) fun _ _ e => e.elim
        obtain ⟨h₅, tk₅, frs₅, X₅, rfl, se₅, F₅, N₅, o₅, n₅, new₅, hJ₅⟩ := h₅'
        obtain ⟨b1, b2, b3, b4, b5⟩ := back h₅ frs₅ X₅ F₅ N₅ new₅
        refine append_at (hsz := by show ys.toArray.size ≤ sizeLine; rw [List.size_toArray]; exact Nat.le_trans hyl (Nat.le_trans hk hsz)) b2 fun h₆ hs₆ hD₆ => ?_
        replace hs₆ : Heap.SameBut D h₅ h₆ := hs₆
        have oD₅ : ∀ p ∈ frs₅ ++ X₅, p.1 ≠ D := fun p hp => (apart (se.trans se₅) b5 p hp).2.1
        exact ⟨n + 1 - (k + 1), by omega, h₆, tk₅, k + 1, ys ++ [y], m₃, frs₅, X₅, rfl, hlt', rfl, by rw [List.length_append, List.length_singleton]; exact Nat.succ_le_succ hyl, W.frame _ _ _ b1 fun b hb o e => hs₆.extBut b o (fun q => hDf (q ▸ hb)) e,
          F₅.change hs₆ hDL hD₀, b3.sameBut hs₆ (Ne.symm hDC), hD₆.trans (congrArg some (LCg.lst_snoc ys y)), se.trans se₅, fun p hp => ⟨hs₆.extBut _ _ (oD₅ p hp) (b4 p hp).1, (b4 p hp).2⟩, hJ₅, o₅, n₅, b5⟩
    · obtain rfl : k = n := Nat.le_antisymm hk (Nat.not_lt.mp hlt')
      refine W.done _ _ _ hst' fun h₂ tk₂ kk₂ => ?_
      obtain ⟨F₂, N₂⟩ := kfr h₂ kk₂
      refine hRR D C h₂ tk₂ _ ys frs' X se F₂ (fun p hp => ?_) (fun p hp => ?_) nX (hn'.at' fun o e => kk₂ _ o hCw e) hC₀ hCL (Ne.symm hDC) (fun p hp => (ap p hp).1) hlt (fun hm => ?_) hJ
      · rcases List.mem_cons.mp hp with rfl | hp
        · exact ⟨kk₂ _ _ hDw hD', hDL, hD₀⟩
        · exact N₂ p hp
      · rcases List.mem_cons.mp hp with rfl | hp
        · intro hm
          obtain ⟨q, hq, e⟩ := List.mem_map.mp hm
          exact (ap q (List.mem_append_left _ hq)).2.1 e
        · exact oX p hp
      · obtain ⟨q, hq, e⟩ := List.mem_map.mp hm
        exact (aX q hq).2.1 e
  exact codeAny_compStart_list (loop _ rfl) (self _ _ _ hst₁ (loop _ rfl))
end
end
section -- MDict
/-- what a dict of exact texts holds at a text -/
noncomputable def nsF (es : Array DictEntry) (k : Str) : Option Value := (es.toList.find? fun e => e.key.isStr k).map (·.val)
structure DAt (h : Heap) (d : Addr) (es : Array DictEntry) : Prop where
  sys : (d == sysModules) = false
  obj : ∃ ep, h.get? d = some ⟨.type "dict", none, .dict es ep, #[]⟩
  str : (es.all fun e => isExactStrKey e.key) = true
section
variable {prog : Program} {w : World} {A : Around} {E : Value → Shared → Prop} {s : Shared} {d : Addr} {es : Array DictEntry} {k : Str} {tk : Tok}
theorem DAt.typeIs (D : DAt s.heap d es) : s.TypeIs (.ref d) "dict" := let ⟨_, ho⟩ := D.obj; ⟨_, ho, rfl⟩
theorem dget {Q : Option Value → Shared → Prop} (D : DAt s.heap d es) (h : Q (nsF es k) { s with toks := s.toks + 1 }) : wpAny (model prog w) A (dictGet d (.str k tk)) Q E s := by
  obtain ⟨ep, ho⟩ := D.obj
  unfold dictGet
  try with_reducible refine wpAny_holding ?_
  refine wpAny_bind (wpAny_pyHash_str (wpAny_bind (PyProof.Rows.KTD.kt_dictFind_strs (s := { s with toks := s.toks + 1 }) ho rfl D.str ?_)))
  have hf : findBy (fun k v => v.isStr k) es k = nsF es k := by
    obtain ⟨l⟩ := es
    simp [findBy, nsF]
  rw [← hf, findBy_of_findIdx?] at h
  cases hi : es.findIdx? fun e => e.key.isStr k with
  | none => rw [hi] at h; exact wpAny_pure h
  | some i => rw [hi] at h; exact wpAny_bind (wpAny_dictEntries (s := { s with toks := s.toks + 1 }) ho rfl (wpAny_pure h))
theorem din {Q : Value → Shared → Prop} (D : DAt s.heap d es) (h : Q (.bool (nsF es k).isSome) { s with toks := s.toks + 1 }) : wpAny (model prog w) A (compareOp .In (.str k tk) (.ref d)) Q E s := by
  show wpAny _ _ (do return .bool (← contains (.ref d) (.str k tk))) Q E s
  refine wpAny_bind ?_
  unfold contains
  try with_reducible refine wpAny_holding ?_
  refine wpAny_bind (wpAny_specialOf D.typeIs slot_dict_contains.lookup ?_)
  show wpAny _ _ (if (some (Value.builtin "dict.__contains__") == some Value.none) = true then _ else _) _ E s
  rw [if_neg (by rw [beq_builtin_none]; exact Bool.false_ne_true)]
  refine wpAny_bind (wpAny_callSpecialUnlessNone?_slot (name := Str.ofString "__contains__") D.typeIs slot_dict_contains
    (wpAny_call_entry slot_dict_contains D.typeIs entry_dict_contains ?_ (args_dict_contains _ _)))
  show wpAny _ _ (dictGet d (.str k tk) >>= _) _ _ s
  refine wpAny_bind (dget D ?_)
  cases hv : nsF es k with
  | some v =>
    rw [hv] at h
    show wpAny _ _ (ret (.bool true)) _ _ _
    exact wpAny_pure ⟨_, rfl, wpAny_truthy_bool (wpAny_pure h)⟩
  | none =>
    rw [hv] at h
    show wpAny _ _ (Builtin.Dict.pendingKey? d (.str k tk) >>= _) _ _ _
    exact wpAny_bind (wpAny_pendingKey_other D.sys (wpAny_pure ⟨_, rfl, wpAny_truthy_bool (wpAny_pure h)⟩))
theorem ditem {value slice : Expr} {v : Value} {Q : Value → Shared → Prop} (D : DAt s.heap d es) (hv : nsF es k = some v) (h : Q v { s with toks := s.toks + 1 })
    (hs : subscripted slice false (.ref d) (.str k tk) = operate [.ref d, .str k tk] (getItem (.ref d) (.str k tk)) := by with_unfolding_all rfl) (hg : ∀ r, letTemporaryGo value (.ref d) r = pure () := by intro _; with_unfolding_all rfl) :
    wpAny (model prog w) A (subscriptTail value slice (.ref d) (.str k tk)) Q E s := by
  refine subscriptTail_builtin D.typeIs slot_dict_getitem.lookup ?_ hs hg
  unfold getItem
  try with_reducible refine wpAny_holding ?_
  refine wpAny_bind (wpAny_sequenceKey D.typeIs (by decide) ?_)
  refine wpAny_bind (wpAny_callSpecial?_slot (name := Str.ofString "__getitem__") D.typeIs slot_dict_getitem
    (wpAny_call_entry slot_dict_getitem D.typeIs entry_dict_getitem ?_ (args_dict_getitem _ _)))
  show wpAny _ _ (dictGet d (.str k tk) >>= _) _ _ s
  refine wpAny_bind (dget D ?_)
  rw [hv]
  exact wpAny_pure ⟨v, rfl, wpAny_pure h⟩
/-- the entries after d[k] = v -/
noncomputable def dputS (es : Array DictEntry) (k : Str) (tk : Tok) (hs : Int) (v : Value) : Array DictEntry := match es.findIdx? fun e => e.key.isStr k with
  | some i => es.modify i fun e => { e with val := v }
  | none => es.push ⟨hs, .str k tk, v⟩
theorem dset {v : Value} {Q : Unit → Shared → Prop} (D : DAt s.heap d es) (hz : es.size ≤ 1000)
    (h : ∀ h' ep, h'.get? d = some ⟨.type "dict", none, .dict (dputS es k tk (hashStr w k) v) ep, #[]⟩ → Heap.SameBut d s.heap h' → Q () { s with heap := h', toks := s.toks + 1 }) :
    wpAny (model prog w) A (setItem (.ref d) (.str k tk) v) Q E s := by
  obtain ⟨ep, ho⟩ := D.obj
  unfold setItem
  try with_reducible refine wpAny_holding ?_
  refine wpAny_bind (wpAny_sequenceKey D.typeIs (by decide) ?_)
  refine wpAny_bind (wpAny_callSpecial?_slot (name := Str.ofString "__setitem__") D.typeIs slot_dict_setitem
    (wpAny_call_entry slot_dict_setitem D.typeIs entry_dict_setitem ?_ (args_dict_setitem _ _ _)))
  show wpAny _ _ (Builtin.Dict.notOrdered "__setitem__" ⟨[.ref d, .str k tk, v], []⟩ >>= _) _ _ s
  refine wpAny_bind (wpAny_notOrdered_dict D.typeIs ?_)
  show wpAny _ _ (dictSet d (.str k tk) v >>= _) _ _ s
  refine wpAny_bind ?_
  unfold dictSet
  try with_reducible refine wpAny_holding ?_
  refine wpAny_bind (wpAny_pyHash_str ?_)
  unfold dictSetHashed
  try with_reducible refine wpAny_holding ?_
  refine wpAny_bind (PyProof.Rows.KTD.kt_dictFind_strs (s := { s with toks := s.toks + 1 }) ho rfl D.str ?_)
  cases hi : es.findIdx? fun e => e.key.isStr k with
  | some i =>
    refine wpAny_bind (wpAny_rule (wpAny_bind (wpAny_updateDict (s := { s with toks := s.toks + 1 }) ho rfl (wpAny_point (wpAny_pure ⟨.none, rfl, wpAny_pure (h _ ep ?_ (Heap.SameBut.update ..))⟩)) ?_)))
    · rw [Heap.get?_update_self _ ho rfl]
      unfold dputS
      rw [hi]
      rfl
    · simp
  | none =>
    refine wpAny_bind (wpAny_rule (wpAny_updateDictKeys (s := { s with toks := s.toks + 1 }) ho rfl (wpAny_pure ⟨.none, rfl, wpAny_pure (h _ (ep + 1) ?_ (Heap.SameBut.update ..))⟩) (by rw [sizeLine_eq]; omega) (by rw [Array.size_push]; exact Nat.le_refl _)))
    rw [Heap.get?_update_self _ ho rfl]
    unfold dputS
    rw [hi]
    rfl
end
end
section -- MLoop
/-- how a turn of a loop ends -/
noncomputable def ZEnd (base : Heap) (L : Addr) (frs X : Led) (s : Shared) (Jn : (Str → Option Value) → Prop) (Q : Flow → Shared → Prop) (f : Flow) (s₂ : Shared) : Prop := match f with
  | .ret v => Q (.ret v) s₂
  | .brk => Q .next s₂
  | _ => ∃ h' tk m' frs', s₂ = { s with heap := h', toks := tk } ∧ SlotEq frs frs' ∧ Fr base L h' m' ∧ News base L h' (frs' ++ X) ∧ Jn m'
section
variable {prog : Program} {w : World} {A : Around} {E : Value → Shared → Prop} {s : Shared} {env : Env} {base : Heap} {body : List Stmt} {Q : Flow → Shared → Prop} {m : Str → Option Value} {frs news : Led}
variable {z TI TO i1 i2 : Addr} {fp1 fp2 : List Addr} {n1 n2 : Nat} {P1 P2 : Nat → Value → Prop} {St1 St2 : Nat → Heap → Prop}
theorem turns_zip {elts : List Expr} {kk : Nat} {pos : Pos} (D1 : Draws prog w A.in1 i1 fp1 n1 P1 St1) (D2 : Draws prog w A.in1 i2 fp2 n2 P2 St2) (Z : ZA z TI TO i1 i2 fp1 fp2) (m1 : i1 ∈ fp1) (m2 : i2 ∈ fp2)
    (hz : IsZip s.heap z TI TO .none) (hTI : IsPair s.heap TI (.ref i1) (.ref i2)) (hTO : IsPair s.heap TO .none .none) (h1 : St1 0 s.heap) (h2 : St2 0 s.heap)
    (hL : env.locals ∉ z :: TI :: TO :: (fp1 ++ fp2)) (hwr : ∀ b ∈ [z, TO, i1, i2], base.get? b = none) (hnw : ∀ p ∈ frs ++ news, p.1 ∉ [z, TO, i1, i2]) (hfr : ∀ p ∈ frs, p.1 ∉ z :: TI :: TO :: (fp1 ++ fp2))
    (hc1 : ∀ k h b o, St1 k h → b ∈ fp1 → h.get? b = some o → NFo o) (hc2 : ∀ k h b o, St2 k h → b ∈ fp2 → h.get? b = some o → NFo o)
    (F : Fr base env.locals s.heap m) (N : News base env.locals s.heap (frs ++ news)) (Of : Off frs news) (nf : NF news)
    (J : Nat → (Str → Option Value) → Prop) (h0 : J 0 m)
    (step : ∀ k x y T m₁ frs₁ own h₁ tk₁, k < min n1 n2 → P1 k x → P2 k y → J k m₁ → SlotEq frs frs₁ → h₁.IsTuple T #[x, y] → Fr base env.locals h₁ m₁ → News base env.locals h₁ (frs₁ ++ (own ++ news)) → Off frs₁ (own ++ news) → NF (own ++ news) →
      wpAny (model prog w) A (assign (.Tuple elts kk pos) env (.ref T)) (fun _ s₃ => wpAny (model prog w) A (execs body env) (ZEnd base env.locals frs₁ (own ++ news) s (J (k + 1)) Q) E s₃) E { s with heap := h₁, toks := tk₁ })
    (done : ∀ h' tk m' frs', J (min n1 n2) m' → SlotEq frs frs' → Fr base env.locals h' m' → News base env.locals h' (frs' ++ news) → Off frs' news → Q .next { s with heap := h', toks := tk }) :
    TurnsAt prog w A base env (.Tuple elts kk pos) body Q E (.ref z) s := by
  refine ⟨z, _, _, _, _, _, _, m, frs ++ news, fun k m₁ n₁ => ∃ frs₁, n₁ = frs₁ ++ news ∧ SlotEq frs frs₁ ∧ J k m₁, rfl, KTurns.ofWalksU (zip_walks D1 D2 Z m1 m2).toU, hL, hwr, hnw, ⟨hz, hTI, ⟨_, _, hTO⟩, h1, h2⟩, F, N, ⟨frs, rfl, SlotEq.refl _, h0⟩, ?_, ?_⟩
  · rintro k v m₁ news₁ h₁ tk₁ own hk ⟨T, vals, rfl, ⟨x, y, hx, hy, rfl⟩, hT⟩ ⟨frs₁, rfl, se, hJ⟩ hn hown hget hall ⟨sz, sTI, ⟨a, b, sTO⟩, s1, s2⟩ F₁ N₁
    have off : Off frs₁ (own ++ news) := fun p hp hm => by
      rw [← se.keys] at hm
      rcases List.mem_append.mp hp with hp | hp
      · obtain ⟨q, hq, e⟩ := List.mem_map.mp hm
        exact hfr q hq (by rw [e]; exact hown p hp)
      · exact Of p hp hm
    have nfo : NF (own ++ news) := fun p hp => by
      rcases List.mem_append.mp hp with hp | hp
      · have g := hget p hp
        have hm := hown p hp
        rcases List.mem_cons.mp hm with e | hm
        · rw [e, sz] at g
          rw [← Option.some.inj g]
          exact NF.ty rfl (by decide)
        · rcases List.mem_cons.mp hm with e | hm
          · rw [e, sTI] at g
            rw [← Option.some.inj g]
            exact NF.ty rfl (by decide)
          · rcases List.mem_cons.mp hm with e | hm
            · rw [e, sTO] at g
              rw [← Option.some.inj g]
              exact NF.ty rfl (by decide)
            · rcases List.mem_append.mp hm with hm | hm
              · exact hc1 _ _ _ _ s1 hm g
              · exact hc2 _ _ _ _ s2 hm g
      · exact nf p hp
    have N₂ : News base env.locals h₁ (frs₁ ++ (own ++ news)) := cut_news N₁ fun p hp => by
      simp only [List.mem_append] at hp ⊢
      rcases hp with h | h | h
      · exact .inr (.inl h)
      · exact .inl h
      · exact .inr (.inr h)
    refine wpAny_mono (step k x y T m₁ frs₁ own h₁ tk₁ hk hx hy hJ se hT F₁ N₂ off nfo) (fun _ s₃ h₃ => wpAny_mono h₃ (fun f s₄ h₄ => ?_) fun _ _ e => e) fun _ _ e => e
    have fin : (∃ h' tk m' frs', s₄ = { s with heap := h', toks := tk } ∧ SlotEq frs₁ frs' ∧ Fr base env.locals h' m' ∧ News base env.locals h' (frs' ++ (own ++ news)) ∧ J (k + 1) m') →
        LoopStepU base env.locals [z, TO, i1, i2] own (fun m₁ n₁ => ∃ frs₁, n₁ = frs₁ ++ news ∧ SlotEq frs frs₁ ∧ J (k + 1) m₁) { s with heap := h₁, toks := tk₁ } .next s₄ := by
      rintro ⟨h', tk, m', frs', rfl, se', F', N', hJ'⟩
      refine ⟨rfl, h', tk, m', frs' ++ news, rfl, F', cut_news N' fun p hp => ?_, fun p hp hm => ?_, frs', rfl, se.trans se', hJ'⟩
      · simp only [List.mem_append] at hp ⊢
        rcases hp with h | h | h
        · exact .inr (.inl h)
        · exact .inl h
        · exact .inr (.inr h)
      · have hm' : p.1 ∈ (frs ++ news).map (·.1) := by
          rw [List.map_append, (se.trans se').keys, ← List.map_append]
          exact List.mem_map_of_mem hp
        obtain ⟨q, hq, e⟩ := List.mem_map.mp hm'
        exact hnw q hq (by rw [e]; exact hm)
    cases f with
    | ret v => exact .ret h₄
    | brk => exact .brk h₄
    | next => exact .next (fin h₄)
    | cont => exact .cont (fin h₄)
  · rintro h' tk m' news' F' N' _ ⟨frs', rfl, se, hJ⟩
    exact done h' tk m' frs' hJ se F' N' (Of.slot se)
end
end
section -- MSrc
/-- an iterator I and the objects that it reads -/
structure Src (prog : Program) (w : World) (A : Around) (K : Frag) (news : Led) (h : Heap) (I : Addr) (ls : List Addr) (n : Nat) (P : Nat → Value → Prop) (St : Nat → Heap → Prop) : Prop where
  W : Walks prog w A I (I :: ls) [I] n P St
  st : St 0 h
  own : ∀ b ∈ ls, ∃ o, At K news b o
  nfo : ∀ k h b o, St k h → b ∈ I :: ls → h.get? b = some o → NFo o
  live : ∀ k h, St k h → ∃ o, h.get? I = some o
noncomputable def LedIter (prog : Program) (w : World) (A : Around) (K : Frag) (news : Led) (s : Shared) (n : Nat) (P : Nat → Value → Prop) (ls : List Addr) (xv : Value) : Prop :=
  ∀ (Q : Value → Shared → Prop) (E : Value → Shared → Prop), (∀ h' tk I St, (∀ b o, s.heap.get? b = some o → h'.get? b = some o) → s.heap.get? I = none → I < h'.objs.size → Src prog w A K news h' I ls n P St → Q (.ref I) { s with heap := h', toks := tk }) → wpAny (model prog w) A (pyIter xv) Q E s
theorem lt_push (h : Heap) (o : Obj) : h.objs.size < (h.push o).objs.size := by rw [Heap.size_push]; exact Nat.lt_succ_self _
section
variable {prog : Program} {w : World} {A : Around} {s : Shared} {base : Heap} {L : Addr} {m : Str → Option Value} {frs news all : Led} {K : Frag}
theorem li_list {l : Addr} {xs : Array Value} {c : Nat} (hh : A.handled = none) (X : K.In base) (F : Fr base L s.heap m) (N : News base L s.heap all) (g : At K news l ⟨.type "list", none, .seq xs c, #[]⟩) (hs : ∀ p ∈ news, p ∈ all) : LedIter prog w A K news s xs.size (fun i v => xs[i]? = some v) [l] (.ref l) := by
  intro Q E hQ
  have e1 := (g.mono hs).get X F N
  have hl : s.heap.IsList l xs := ⟨_, e1, rfl, _, rfl⟩
  refine wpAny_pyIter_list hl (hQ _ s.toks s.heap.objs.size _ (fun b o e => Heap.get?_push_of_some _ e) (Heap.get?_none_of_le (Nat.le_refl _)) (lt_push _ _) ⟨Walks.list hh _ l (Nat.ne_of_lt (Heap.lt_size e1)) xs, ⟨⟨_, Heap.get?_push_size _ rfl, rfl, rfl⟩, hl.push _⟩, fun b hb => by obtain rfl := List.mem_singleton.mp hb; exact ⟨_, g⟩, ?_, ?_⟩)
  · rintro k h b o ⟨⟨oi, gi, ci, _⟩, ⟨ol, gl, cl, _⟩⟩ hb g
    rcases List.mem_cons.mp hb with e | hb
    · rw [e, gi] at g
      rw [← Option.some.inj g]
      exact NF.ty ci (by decide)
    · rw [List.mem_singleton.mp hb, gl] at g
      rw [← Option.some.inj g]
      exact NF.ty cl (by decide)
  · rintro k h ⟨⟨oi, gi, _⟩, _⟩
    exact ⟨oi, gi⟩
theorem li_tuple {l : Addr} {xs : Array Value} {c : Nat} (hh : A.handled = none) (X : K.In base) (F : Fr base L s.heap m) (N : News base L s.heap all) (g : At K news l ⟨.type "tuple", none, .seq xs c, #[]⟩) (hs : ∀ p ∈ news, p ∈ all) : LedIter prog w A K news s xs.size (fun i v => xs[i]? = some v) [l] (.ref l) := by
  intro Q E hQ
  have e1 := (g.mono hs).get X F N
  have hl : s.heap.IsTuple l xs := ⟨_, e1, rfl, _, rfl⟩
  refine wpAny_pyIter_tuple hl (hQ _ s.toks s.heap.objs.size _ (fun b o e => Heap.get?_push_of_some _ e) (Heap.get?_none_of_le (Nat.le_refl _)) (lt_push _ _) ⟨Walks.tuple hh _ l (Nat.ne_of_lt (Heap.lt_size e1)) xs, ⟨⟨_, Heap.get?_push_size _ rfl, rfl, rfl⟩, hl.at fun o e => Heap.get?_push_of_some _ e⟩, fun b hb => by obtain rfl := List.mem_singleton.mp hb; exact ⟨_, g⟩, ?_, ?_⟩)
  · rintro k h b o ⟨⟨oi, gi, ci, _⟩, ⟨ol, gl, cl, _⟩⟩ hb g
    rcases List.mem_cons.mp hb with e | hb
    · rw [e, gi] at g
      rw [← Option.some.inj g]
      exact NF.ty ci (by decide)
    · rw [List.mem_singleton.mp hb, gl] at g
      rw [← Option.some.inj g]
      exact NF.ty cl (by decide)
  · rintro k h ⟨⟨oi, gi, _⟩, _⟩
    exact ⟨oi, gi⟩
theorem li_str {x : Str} {t : Tok} (hh : A.handled = none) : LedIter prog w A K news s x.cps.size (SignAt x) [] (.str x t) := by
  intro Q E hQ
  cases ha : x.cps.all (· < 128)
  · refine wpAny_pyIter_wide ha (hQ _ s.toks s.heap.objs.size _ (fun b o e => Heap.get?_push_of_some _ e) (Heap.get?_none_of_le (Nat.le_refl _)) (lt_push _ _) ⟨Walks.strWide hh _ x t, ⟨_, Heap.get?_push_size _ rfl, rfl, rfl⟩, (fun _ h => nomatch h), ?_, ?_⟩)
    · rintro k h b o ⟨oi, gi, ci, _⟩ hb g
      rw [List.mem_singleton.mp hb, gi] at g
      rw [← Option.some.inj g]
      exact NF.ty ci (by decide)
    · rintro k h ⟨oi, gi, _⟩
      exact ⟨oi, gi⟩
  · refine wpAny_pyIter_ascii ha (hQ _ s.toks s.heap.objs.size _ (fun b o e => Heap.get?_push_of_some _ e) (Heap.get?_none_of_le (Nat.le_refl _)) (lt_push _ _) ⟨Walks.strAscii hh _ x t, ⟨_, Heap.get?_push_size _ rfl, rfl, rfl⟩, (fun _ h => nomatch h), ?_, ?_⟩)
    · rintro k h b o ⟨oi, gi, ci, _⟩ hb g
      rw [List.mem_singleton.mp hb, gi] at g
      rw [← Option.some.inj g]
      exact NF.ty ci (by decide)
    · rintro k h ⟨oi, gi, _⟩
      exact ⟨oi, gi⟩
theorem li_range {r : Addr} {n : Nat} {t u v : Tok} (hh : A.handled = none) (hr : IsRange s.heap r 0 n 1 t u v) (hn : n ≤ 1000) : LedIter prog w A K news s n (fun i v => ∃ t, v = .int i t) [] (.ref r) := by
  intro Q E hQ
  have hsz : Builtin.Range.rangeSize 0 (n : Int) 1 = (n : Int) := by rw [rangeSize_one]; split <;> omega
  refine wpAny_pyIter_range hr (small_one (by decide) (by decide) (by omega) (by omega)) (hQ _ s.toks s.heap.objs.size (fun i h => IsRangeIter h s.heap.objs.size (0 + (i : Nat) * 1) ((n : Int) - (i : Nat)) 1) (fun b o e => Heap.get?_push_of_some _ e) (Heap.get?_none_of_le (Nat.le_refl _)) (lt_push _ _) ⟨?_, ?_, (fun _ h => nomatch h), ?_, ?_⟩)
  · have W := Walks.range (prog := prog) (w := w) (A := A) hh s.heap.objs.size 0 1 n
    refine ⟨W.sub, W.frame, fun i s Q E hi st hQ => W.item i s Q E hi st fun v h' tk hP => hQ v h' tk ?_, W.done, W.self⟩
    obtain ⟨t, rfl⟩ := hP
    exact ⟨t, by rw [Int.mul_one, Int.zero_add]⟩
  · rw [hsz]
    have := Heap.get?_push_size s.heap (o := { cls := .type "range_iterator", data := .fields #[rawInt 0, rawInt (n : Int), rawInt 1] }) rfl
    show _ = _
    simpa using this
  · rintro k h b o gi hb g
    rw [List.mem_singleton.mp hb] at g
    rw [gi] at g
    rw [← Option.some.inj g]
    exact NF.ty rfl (by decide)
  · intro k h gi
    exact ⟨_, gi⟩
end
/-- how a turn of a for loop ends that may change the ledger -/
inductive LedI (frs : Led) (Jk : (Str → Option Value) → Led → Prop) (m₁ : Str → Option Value) (n₁ : Led) : Prop
  | of (frs₁ X : Led) (e : n₁ = frs₁ ++ X) (se : SlotEq frs frs₁) (hJ : Jk m₁ X) (o : Off frs₁ X) (nf : NF X)
inductive MNext (base : Heap) (L : Addr) (frs own X : Led) (g' : Array GenState) (d : Drawn) (os : OsState) (Jn : (Str → Option Value) → Led → Prop) (s₂ : Shared) : Prop
  | of (h' : Heap) (tk : Nat) (m' : Str → Option Value) (frs' X' : Led) (e : s₂ = ⟨h', g', d, tk, os⟩) (se : SlotEq frs frs') (F : Fr base L h' m') (N : News base L h' (frs' ++ (own ++ X'))) (o : Off frs' X') (n : NF X') (a : ∀ p ∈ X', p.1 ∈ X.map (·.1) ∨ p.1 ∉ own.map (·.1)) (g : Jn m' X')
noncomputable def MEnd (base : Heap) (L : Addr) (frs own X : Led) (s : Shared) (Jn : (Str → Option Value) → Led → Prop) (Q : Flow → Shared → Prop) (f : Flow) (s₂ : Shared) : Prop := match f with
  | .ret v => Q (.ret v) s₂
  | .brk => Q .next s₂
  | _ => MNext base L frs own X s.gens s.drawn s.os Jn s₂
section
variable {prog : Program} {w : World} {A : Around} {E : Value → Shared → Prop} {s : Shared} {base : Heap} {m : Str → Option Value} {frs news : Led} {K : Frag} {env : Env}
theorem src_apart {L I : Addr} {ls : List Addr} {n : Nat} {P : Nat → Value → Prop} {St : Nat → Heap → Prop} {h h' : Heap} (X : K.In base) (F : Fr base L h m) (N : News base L h (frs ++ news)) (Of : Off frs news) (nI : h.get? I = none) (S : Src prog w A K news h' I ls n P St) :
    L ∉ I :: ls ∧ base.get? I = none ∧ (∀ p ∈ frs ++ news, p.1 ≠ I) ∧ (∀ p ∈ frs, p.1 ∉ I :: ls) := by
  obtain ⟨oL, esL, epL, gL, rL⟩ := F.ns
  have bI : base.get? I = none := by
    cases q : base.get? I with
    | none => rfl
    | some o => rw [F.keep _ _ q] at nI; cases nI
  refine ⟨fun hm => ?_, bI, fun p hp => ne_newC (N p hp).1 nI, fun p hp hm => ?_⟩
  · rcases List.mem_cons.mp hm with e | hm
    · exact ne_newC gL nI e
    · obtain ⟨o, g⟩ := S.own _ hm
      rcases g with g | g
      · have := X _ _ g
        rw [base_L F] at this; cases this
      · exact (N _ (List.mem_append_right _ g)).2.1 rfl
  · rcases List.mem_cons.mp hm with e | hm
    · exact ne_newC (N p (List.mem_append_left _ hp)).1 nI e
    · obtain ⟨o, g⟩ := S.own _ hm
      rcases g with g | g
      · have n := (N p (List.mem_append_left _ hp)).2.2
        rw [X _ _ g] at n; cases n
      · have y := List.mem_map_of_mem (f := Prod.fst) hp
        exact Of _ g y
theorem for_led {x : Str} {px : Pos} {body : List Stmt} {Q : Flow → Shared → Prop} {n : Nat} {P : Nat → Value → Prop} {ls : List Addr} {xv : Value} (LI : LedIter prog w A K news s n P ls xv) (X : K.In base) (F : Fr base env.locals s.heap m) (N : News base env.locals s.heap (frs ++ news)) (Of : Off frs news) (nf : NF news)
    (hx : env.kindOf x = some .local) (hk : env.scope.kind = .function) (J : Nat → (Str → Option Value) → Led → Prop) (h0 : J 0 m news)
    (step : ∀ k v m₁ X frs₁ own h₁ tk₁, k < n → P k v → J k m₁ X → SlotEq frs frs₁ → Fr base env.locals h₁ (fun y => if y = x then some v else m₁ y) → News base env.locals h₁ (frs₁ ++ (own ++ X)) → Off frs₁ (own ++ X) → NF (own ++ X) → (∀ p ∈ X, p.1 ∈ own.map (·.1) → p.1 ∈ ls) →
      wpAny (model prog w) A (execs body env) (MEnd base env.locals frs₁ own X s (J (k + 1)) Q) E { s with heap := h₁, toks := tk₁ })
    (done : ∀ h' tk m' frs' X, J n m' X → SlotEq frs frs' → Fr base env.locals h' m' → News base env.locals h' (frs' ++ X) → Off frs' X → NF X → Q .next { s with heap := h', toks := tk }) :
    wpAny (model prog w) A (pyIter xv) (fun it s₂ => TurnsAt prog w A base env (.Name x px) body Q E it s₂) E s := by
  refine LI _ _ fun h' tk I St keep nI ltI S => ?_
  obtain ⟨hL, bI, hI, hfr⟩ := src_apart X F N Of nI S
  refine ⟨I, _, _, n, _, _, St, m, frs ++ news, fun k m₁ n₁ => LedI frs (J k) m₁ n₁, rfl, KTurns.ofWalks S.W (fun i v s Q E _ q => wpAny_pure q), hL, fun b hb => by rw [List.mem_singleton.mp hb]; exact bI, fun p hp hb => hI p hp (List.mem_singleton.mp hb), S.st, F.keeps keep, fun p hp => ⟨keep _ _ (N p hp).1, (N p hp).2⟩, ⟨frs, news, rfl, SlotEq.refl _, h0, Of, nf⟩, ?_, ?_⟩
  · rintro k v m₁ news₁ h₁ tk₁ own hk' hP ⟨frs₁, X₁, rfl, se, hJ, o1, n1⟩ hn hown hget hall hst F₁ N₁
    have off : Off frs₁ (own ++ X₁) := fun p hp hm => by
      rcases List.mem_append.mp hp with hp | hp
      · rw [← se.keys] at hm
        obtain ⟨q, hq, e⟩ := List.mem_map.mp hm
        exact hfr q hq (by rw [e]; exact hown p hp)
      · exact o1 p hp hm
    have nfo : NF (own ++ X₁) := fun p hp => by
      rcases List.mem_append.mp hp with hp | hp
      · exact S.nfo _ _ _ _ hst (hown p hp) (hget p hp)
      · exact n1 p hp
    have N₂ : News base env.locals h₁ (frs₁ ++ (own ++ X₁)) := cut_news N₁ fun p hp => by
      simp only [List.mem_append] at hp ⊢
      rcases hp with h | h | h
      · exact .inr (.inl h)
      · exact .inl h
      · exact .inr (.inr h)
    refine wpAny_assign_Name (wpAny_storeName_local hx F₁.ns (fun h₂ hn₂ hs₂ => ?_) (by rw [hk]; rfl))
    refine wpAny_mono (step k v m₁ X₁ frs₁ own h₂ _ hk' hP hJ se (F₁.set hn₂ hs₂) (N₂.set hs₂) off nfo (fun p hp hm => by
      obtain ⟨q, hq, e⟩ := List.mem_map.mp hm
      have y := hown q hq
      rw [e] at y
      exact (List.mem_cons.mp y).resolve_left fun z => hn p (List.mem_append_right _ hp) (List.mem_singleton.mpr z))) (fun f s₄ h₄ => ?_) fun _ _ e => e
    have fin : MNext base env.locals frs₁ own X₁ s.gens s.drawn s.os (J (k + 1)) s₄ →
        LoopStepU base env.locals [I] own (fun m₁ n₁ => LedI frs (J (k + 1)) m₁ n₁) { s with heap := h₁, toks := tk₁ } .next s₄ := by
      rintro ⟨h', tk, m', frs', X', rfl, se', F', N', o', n', new', hJ'⟩
      refine ⟨rfl, h', tk, m', frs' ++ X', rfl, F', cut_news N' fun p hp => ?_, fun p hp hm => ?_, frs', X', rfl, se.trans se', hJ', o', n'⟩
      · simp only [List.mem_append] at hp ⊢
        rcases hp with h | h | h
        · exact .inr (.inl h)
        · exact .inl h
        · exact .inr (.inr h)
      · have hm' := List.mem_singleton.mp hm
        rcases List.mem_append.mp hp with hp | hp
        · have y := List.mem_map_of_mem (f := Prod.fst) hp
          rw [← (se.trans se').keys] at y
          obtain ⟨q, hq, e⟩ := List.mem_map.mp y
          exact hI q (List.mem_append_left _ hq) (by rw [e]; exact hm')
        · rcases new' p hp with y | y
          · obtain ⟨q, hq, e⟩ := List.mem_map.mp y
            exact hn q (List.mem_append_right _ hq) (by rw [e]; exact hm)
          · obtain ⟨o, ho⟩ := S.live _ _ hst
            exact y (List.mem_map.mpr ⟨(I, o), hall I (.head _) bI o ho, hm'.symm⟩)
    cases f with
    | ret v => exact h₄
    | brk => exact h₄
    | next => exact fin h₄
    | cont => exact fin h₄
  · rintro h' tk m' news' F' N' _ ⟨frs', X', rfl, se, hJ, o', n'⟩
    exact done h' tk m' frs' X' hJ se F' N' o' n'
end
/-- how a comprehension's value comes: a new list, the ledger changed -/
noncomputable def LEndM (base : Heap) (L : Addr) (m : Str → Option Value) (frs news : Led) (s : Shared) (G : List Value → Led → Prop) (Q : Value → Shared → Prop) : Prop :=
  ∀ D h tk ys frs' X, SlotEq frs frs' → Fr base L h m → News base L h (frs' ++ ((D, lstN ys) :: X)) → Off frs' ((D, lstN ys) :: X) → NF X → (∀ p ∈ frs ++ news, p.1 < D) → D ∉ X.map (·.1) → G ys X → Q (.ref D) { s with heap := h, toks := tk }
section
variable {prog : Program} {w : World} {A : Around} {E : Value → Shared → Prop} {s : Shared} {env : Env} {base : Heap} {L : Addr} {m : Str → Option Value} {frs news : Led}
variable {elt iter : Expr} {ifs : List Expr} {scope : Scope} {cl : List (Str × Addr)} {pos : Pos}
theorem comp_led {x : Str} {px : Pos} {Q : Value → Shared → Prop} {K : Frag} {n : Nat} {P : Nat → Value → Prop} {ls : List Addr} {xv : Value} (LI : LedIter prog w A K news s n P ls xv) (X : K.In base) (hx : scope.names.lookup x = some .local)
    (hsz : n ≤ sizeLine) (hcell : ∀ y ∈ scope.names, y.2 ≠ .cell) (hkind : scope.kind = .function)
    (F : Fr base L s.heap m) (N : News base L s.heap (frs ++ news)) (Of : Off frs news) (nf : NF news) (J : Nat → List Value → Led → Prop) (h0 : J 0 [] news)
    (step : ∀ k v ys C oC m₃ own X frs₁ h₁ tk₁, k < n → P k v → m₃ x = some v → NsO oC m₃ → (C, oC) ∈ own → J k ys X → SlotEq frs frs₁ → Fr base L h₁ m → News base L h₁ (frs₁ ++ (own ++ X)) → Off frs₁ (own ++ X) → NF (own ++ X) → (∀ p ∈ X, p.1 ∈ own.map (·.1) → p.1 ∈ ls) →
      wpAny (model prog w) A (forIn ifs true fun c r => if r = true then do let ok ← isTrue c (compEnvC scope cl C env) (eval c (compEnvC scope cl C env)); pure (ForInStep.yield ok) else pure (ForInStep.yield r)) (fun ok s₃ =>
        if ok = true then wpAny (model prog w) A (eval elt (compEnvC scope cl C env)) (fun y => CEndM base L m frs₁ own X s (J (k + 1) (ys ++ [y]))) (fun _ _ => False) s₃
        else CEndM base L m frs₁ own X s (J (k + 1) ys) s₃) (fun _ _ => False) { s with heap := h₁, toks := tk₁ })
    (done : LEndM base L m frs news s (J n) Q) :
    wpAny (model prog w) A (pyIter xv) (fun it s₂ => wpAny (model prog w) A (newList []) (fun acc s₃ => wpAny (model prog w) A (newFunctionEnv scope env.globals cl [] env.qual none .none (some env)) (fun cenv s₄ =>
      codeAny (model prog w) A (.compStart (.ListComp elt [⟨.Name x px, iter, ifs, 0⟩] scope pos) 0 it acc { cenv with scope := relabel scope env }) (compPost (model prog w) A E none Q acc cenv.locals) s₄) E s₃) E s₂) E s := by
  refine LI _ _ fun h' tk I St keep nI ltI S => ?_
  obtain ⟨hL, bI, hI, hfr⟩ := src_apart X F N Of nI S
  have F' := F.keeps keep
  have N' : News base L h' (frs ++ news) := fun p hp => ⟨keep _ _ (N p hp).1, (N p hp).2⟩
  have W := KTurns.ofWalks (target := .Name x px) S.W (fun i v s Q E _ q => wpAny_pure q)
  refine comp_blockM (s := { s with heap := h', toks := tk }) (frs := frs) (news := news) (m := m) (base := base) (L := L) W (fun s Q E st q => S.W.self 0 s Q E st q) hsz hcell hkind S.st ?_ hL (fun b hb => by rw [List.mem_singleton.mp hb]; exact bI) (fun p hp hb => hI p hp (List.mem_singleton.mp hb)) hfr S.nfo (fun k h b st hb => by rw [List.mem_singleton.mp hb]; exact S.live k h st) F' N' Of nf (fun k m₃ => ∃ v, P k v ∧ m₃ x = some v) ?_ J h0 ?_ ?_
  · intro b hb
    rcases List.mem_cons.mp hb with rfl | hb
    · exact ltI
    · obtain ⟨o, g⟩ := S.own _ hb
      rcases g with g | g
      · exact Heap.lt_size (F'.keep _ _ (X _ _ g))
      · exact Heap.lt_size (N' _ (List.mem_append_right _ g)).1
  · intro k C v s' m₂ Q' E' _ hP hn _ _ hq
    exact wpAny_assign_Name (wpAny_storeName_local (lookup_relabel_local hx) hn (fun h₃ hn₃ hs₃ => hq h₃ _ _ (fun b o hb e => hs₃.extBut b o hb e) hn₃ ⟨v, hP, by simp⟩) (by simp [compEnvC, relabel, hkind]))
  · intro k ys C oC m₃ own X₁ frs₁ h₁ tk₁ hk hB hO hm hJ se F₁ N₁ o₁ n₁ hap
    obtain ⟨v, hv, hx'⟩ := hB
    exact step k v ys C oC m₃ own X₁ frs₁ h₁ tk₁ hk hv hx' hO hm hJ se F₁ N₁ o₁ n₁ (fun p hp hm => (List.mem_cons.mp (hap p hp hm).1).resolve_left fun z => (hap p hp hm).2 (List.mem_singleton.mpr z))
  · intro D C h tk m' ys frs' X₁ se F₁ N₁ o₁ n₁ hn hC₀ hCL hCD hne hlt hD hJ
    refine ⟨m', hn, fun h'' hs'' => ?_⟩
    replace hs'' : Heap.SameBut C h h'' := hs''
    refine done D h'' tk ys frs' X₁ se (F₁.change hs'' hCL hC₀) (fun p hp => ?_) o₁ n₁ hlt hD hJ
    have k1 : ∀ p ∈ frs' ++ X₁, h''.get? p.1 = some p.2 ∧ p.1 ≠ L ∧ base.get? p.1 = none := fun p hp => ⟨hs''.extBut _ _ (hne p hp) (N₁ p (.tail _ hp)).1, (N₁ p (.tail _ hp)).2⟩
    rcases List.mem_append.mp hp with hp | hp
    · exact k1 p (List.mem_append_left _ hp)
    · rcases List.mem_cons.mp hp with rfl | hp
      · exact ⟨hs''.extBut _ _ (Ne.symm hCD) (N₁ _ (.head _)).1, (N₁ _ (.head _)).2⟩
      · exact k1 p (List.mem_append_right _ hp)
end
section
variable {prog : Program} {w : World} {A : Around} {E : Value → Shared → Prop} {s : Shared} {env : Env} {base : Heap} {L : Addr} {m : Str → Option Value} {frs news : Led}
variable {elt iter : Expr} {ifs : List Expr} {scope : Scope} {cl : List (Str × Addr)} {pos : Pos}
theorem comp_list {x : Str} {px : Pos} {l : Addr} {xs : Array Value} {c : Nat} {Q : Value → Shared → Prop} {K : Frag} (hh : A.handled = none) (X : K.In base) (g : At K news l ⟨.type "list", none, .seq xs c, #[]⟩) (hx : scope.names.lookup x = some .local)
    (hsz : xs.size ≤ sizeLine) (hcell : ∀ y ∈ scope.names, y.2 ≠ .cell) (hkind : scope.kind = .function)
    (F : Fr base L s.heap m) (N : News base L s.heap (frs ++ news)) (Of : Off frs news) (nf : NF news) (J : Nat → List Value → Prop) (h0 : J 0 [])
    (step : ∀ k v ys C oC m₃ own frs₁ h₁ tk₁, xs[k]? = some v → m₃ x = some v → NsO oC m₃ → (C, oC) ∈ own → J k ys → SlotEq frs frs₁ → Fr base L h₁ m → News base L h₁ (frs₁ ++ (own ++ news)) → Off frs₁ (own ++ news) → NF (own ++ news) →
      wpAny (model prog w) A (forIn ifs true fun c r => if r = true then do let ok ← isTrue c (compEnvC scope cl C env) (eval c (compEnvC scope cl C env)); pure (ForInStep.yield ok) else pure (ForInStep.yield r)) (fun ok s₃ =>
        if ok = true then wpAny (model prog w) A (eval elt (compEnvC scope cl C env)) (fun y => CEnd base L m frs₁ (own ++ news) s (J (k + 1) (ys ++ [y]))) (fun _ _ => False) s₃
        else CEnd base L m frs₁ (own ++ news) s (J (k + 1) ys) s₃) (fun _ _ => False) { s with heap := h₁, toks := tk₁ })
    (done : LEnd base L m frs news s (J xs.size) Q) :
    wpAny (model prog w) A (pyIter (.ref l)) (fun it s₂ => wpAny (model prog w) A (newList []) (fun acc s₃ => wpAny (model prog w) A (newFunctionEnv scope env.globals cl [] env.qual none .none (some env)) (fun cenv s₄ =>
      codeAny (model prog w) A (.compStart (.ListComp elt [⟨.Name x px, iter, ifs, 0⟩] scope pos) 0 it acc { cenv with scope := relabel scope env }) (compPost (model prog w) A E none Q acc cenv.locals) s₄) E s₃) E s₂) E s := by
  refine comp_led (K := K) (ls := [l]) (J := fun k ys X => X = news ∧ J k ys) (li_list hh X F N g (fun q hq => List.mem_append_right _ hq)) X hx hsz hcell hkind F N Of nf ⟨rfl, h0⟩ ?_ ?_
  · intro k v ys C oC m₃ own X₁ frs₁ h₁ tk₁ hk hv hm hO hC hJ se F₁ N₁ o₁ n₁ hap
    obtain ⟨rfl, hJ⟩ := hJ
    have conv : ∀ {G : Prop} {s' : Shared}, CEnd base L m frs₁ (own ++ X₁) s G s' → CEndM base L m frs₁ own X₁ s (fun X => X = X₁ ∧ G) s' := fun h => by
      obtain ⟨h', tk, frs', e, se', F', N', g'⟩ := h
      exact ⟨h', tk, frs', X₁, e, se', F', N', Off.slot se' (fun p hp => o₁ p (List.mem_append_right _ hp)), nf, fun p hp => .inl (List.mem_map_of_mem hp), rfl, g'⟩
    refine wpAny_mono (step k v ys C oC m₃ own frs₁ h₁ tk₁ hv hm hO hC hJ se F₁ N₁ o₁ n₁) (fun ok s₃ hs => ?_) fun _ _ h => h
    cases ok with
    | true => exact wpAny_mono hs (fun y s₄ hc => conv hc) fun _ _ h => h
    | false => exact conv hs
  · intro D h tk ys frs' X₁ se F₁ N₁ o₁ n₁ lt hD hJ
    obtain ⟨rfl, hJ⟩ := hJ
    refine done D h tk ys frs' se F₁ N₁ o₁ (fun p hp => ?_) hJ
    rcases List.mem_append.mp hp with hp | hp
    · have y := List.mem_map_of_mem (f := Prod.fst) hp
      rw [← se.keys] at y
      obtain ⟨q, hq, e⟩ := List.mem_map.mp y
      rw [← e]
      exact lt q (List.mem_append_left _ hq)
    · exact lt p (List.mem_append_right _ hp)
end
end
section -- MEq
open PySem.SeqAt PySem.MeetsSeq PySem.SeqRoads2
theorem eat_str {A : Around} {s : Shared} (x y : Str) (t u : Tok) : EqAt A s (.str x t) (.str y u) (x == y) := fun prog w E Q h => wpAny_eqBool_str (by rw [← PyProof.Rows.eq_meets] at h; rw [show decide (x = y) = (x == y) from rfl, ← PyProof.Rows.eq_meets]; exact h)
theorem eq_pair {prog : Program} {w : World} {A : Around} {E : Value → Shared → Prop} {s : Shared} {l b : Addr} {x y x' y' : Str} {t u t' u' : Tok} {Q : Value → Shared → Prop} (hl : s.heap.IsTuple l #[.str x t, .str y u]) (hb : s.heap.IsTuple b #[.str x' t', .str y' u']) (hu : A.units < cLine)
    (h : Q (.bool (x == x' && y == y')) s) : wpAny (model prog w) A (compareOp .Eq (.ref l) (.ref b)) Q E s := by
  refine eq_tupleAt (e := fun j => if j = 0 then x == x' else y == y') hl hb hu (fun j h1 h2 => ?_) ?_
  · match j, h1, h2 with
    | 0, _, _ => exact eat_str _ _ _ _
    | 1, _, _ => exact eat_str _ _ _ _
  · have e : ((List.range (min (#[Value.str x t, Value.str y u] : Array Value).size (#[Value.str x' t', Value.str y' u'] : Array Value).size)).all (fun j => if j = 0 then x == x' else y == y') && (#[Value.str x t, Value.str y u] : Array Value).size == (#[Value.str x' t', Value.str y' u'] : Array Value).size) = (x == x' && y == y') := by
      simp [List.range, List.range.loop]
    rw [e]
    exact h
theorem eq_kind {prog : Program} {w : World} {A : Around} {E : Value → Shared → Prop} {s : Shared} {l b : Addr} {x x' : Str} {v v' : Bool} {d d' : Int} {t u t' u' : Tok} {Q : Value → Shared → Prop} (hl : s.heap.IsTuple l #[.str x t, .bool v, .int d u]) (hb : s.heap.IsTuple b #[.str x' t', .bool v', .int d' u']) (hu : A.units < cLine)
    (h : Q (.bool (x == x' && (v == v' && d == d'))) s) : wpAny (model prog w) A (compareOp .Eq (.ref l) (.ref b)) Q E s := by
  refine eq_tupleAt (e := fun j => if j = 0 then x == x' else if j = 1 then v == v' else d == d') hl hb hu (fun j h1 h2 => ?_) ?_
  · match j, h1, h2 with
    | 0, _, _ => exact eat_str _ _ _ _
    | 1, _, _ => exact EqAt.bool_bool _ _
    | 2, _, _ => exact EqGives.at (EqGives.int _ _ _ _) _ _
  · have e : ((List.range (min (#[Value.str x t, Value.bool v, Value.int d u] : Array Value).size (#[Value.str x' t', Value.bool v', Value.int d' u'] : Array Value).size)).all (fun j => if j = 0 then x == x' else if j = 1 then v == v' else d == d') && (#[Value.str x t, Value.bool v, Value.int d u] : Array Value).size == (#[Value.str x' t', Value.bool v', Value.int d' u'] : Array Value).size) = (x == x' && (v == v' && d == d')) := by
      simp [List.range, List.range.loop]
    rw [e]
    exact h
theorem ne_nil {prog : Program} {w : World} {A : Around} {E : Value → Shared → Prop} {s : Shared} {l b : Addr} {items : Array Value} {Q : Value → Shared → Prop} (hl : s.heap.IsList l items) (hb : s.heap.IsList b #[]) (hu : A.units < cLine)
    (h : Q (.bool (decide (items.size ≠ 0))) s) : wpAny (model prog w) A (compareOp .NotEq (.ref l) (.ref b)) Q E s := by
  refine cmp_ofNotEq ?_
  by_cases e : items.size = 0
  · refine RcNeAt.lists (e := fun _ => true) hl hb (by rw [e]; rfl) hu (fun j h1 h2 => by omega) prog w E Q ?_
    rw [e] at h ⊢
    exact h
  · refine RcNeAt.lists_lengths hl hb (by simp [e]) hu prog w E Q ?_
    rw [show decide (items.size ≠ 0) = true from decide_eq_true e] at h
    exact h
end
section -- MPair
theorem go_of {prog : Program} {w : World} {A : Around} {E : Value → Shared → Prop} {s : Shared} {elts : List Expr} {x1} {pos : Pos} {I T : Addr} {o : Obj} {n : String} {Q : Unit → Shared → Prop} (ho : s.heap.get? I = some o) (hc : o.cls = .type n) (hn : (["enumerate", "zip", "dict_itemiterator", "dict_reverseitemiterator", "odict_iterator", "itertools.zip_longest", "itertools.pairwise"].contains n) = false) (hQ : Q () s) :
    wpAny (model prog w) A (letOwnedTupleGo (.Tuple elts x1 pos) (.ref I) (.ref T)) Q E s := by
  unfold letOwnedTupleGo
  refine wpAny_bind (wpAny_load ho ?_)
  rw [hc]
  cases hd : o.data with
  | fields vs =>
    show wpAny _ A (if ((["enumerate", "zip", "dict_itemiterator", "dict_reverseitemiterator", "odict_iterator", "itertools.zip_longest", "itertools.pairwise"].contains n) && vs[0]? == some (rawInt T)) = true then _ else _) Q E s
    rw [if_neg (by rw [hn, Bool.false_and]; exact Bool.false_ne_true)]
    exact wpAny_pure hQ
  | _ => exact wpAny_pure hQ
section
variable {prog : Program} {w : World} {A : Around} {E : Value → Shared → Prop} {s : Shared} {env : Env} {base : Heap} {L : Addr} {m : Str → Option Value} {frs news : Led}
variable {elt iter : Expr} {ifs : List Expr} {scope : Scope} {cl : List (Str × Addr)} {pos : Pos}
/-- a comprehension over a tuple of pairs -/
theorem comp_pairs {x1 x2 : Str} {p1 p2 tp : Pos} {kk : Nat} {Q : Value → Shared → Prop} {K : Frag} {l : Addr} {c : Nat} {ts : List (Addr × Value × Value)} (hh : A.handled = none) (X : K.In base) (g : At K news l ⟨.type "tuple", none, .seq (ts.map fun t => Value.ref t.1).toArray c, #[]⟩) (gt : ∀ t ∈ ts, At K news t.1 (tup [t.2.1, t.2.2])) (hx1 : scope.names.lookup x1 = some .local) (hx2 : scope.names.lookup x2 = some .local) (hne : x1 ≠ x2)
    (hsz : ts.length ≤ sizeLine) (hcell : ∀ y ∈ scope.names, y.2 ≠ .cell) (hkind : scope.kind = .function)
    (F : Fr base L s.heap m) (N : News base L s.heap (frs ++ news)) (Of : Off frs news) (nf : NF news) (J : Nat → List Value → Led → Prop) (h0 : J 0 [] news)
    (step : ∀ k t ys C oC m₃ own X frs₁ h₁ tk₁, ts[k]? = some t → m₃ x1 = some t.2.1 → m₃ x2 = some t.2.2 → NsO oC m₃ → (C, oC) ∈ own → J k ys X → SlotEq frs frs₁ → Fr base L h₁ m → News base L h₁ (frs₁ ++ (own ++ X)) → Off frs₁ (own ++ X) → NF (own ++ X) → (∀ p ∈ X, p.1 ∈ own.map (·.1) → p.1 ∈ l :: ts.map (·.1)) →
      wpAny (model prog w) A (forIn ifs true fun c r => if r = true then do let ok ← isTrue c (compEnvC scope cl C env) (eval c (compEnvC scope cl C env)); pure (ForInStep.yield ok) else pure (ForInStep.yield r)) (fun ok s₃ =>
        if ok = true then wpAny (model prog w) A (eval elt (compEnvC scope cl C env)) (fun y => CEndM base L m frs₁ own X s (J (k + 1) (ys ++ [y]))) (fun _ _ => False) s₃
        else CEndM base L m frs₁ own X s (J (k + 1) ys) s₃) (fun _ _ => False) { s with heap := h₁, toks := tk₁ })
    (done : LEndM base L m frs news s (J ts.length) Q) :
    wpAny (model prog w) A (pyIter (.ref l)) (fun it s₂ => wpAny (model prog w) A (newList []) (fun acc s₃ => wpAny (model prog w) A (newFunctionEnv scope env.globals cl [] env.qual none .none (some env)) (fun cenv s₄ =>
      codeAny (model prog w) A (.compStart (.ListComp elt [⟨.Tuple [.Name x1 p1, .Name x2 p2] kk tp, iter, ifs, 0⟩] scope pos) 0 it acc { cenv with scope := relabel scope env }) (compPost (model prog w) A E none Q acc cenv.locals) s₄) E s₃) E s₂) E s := by
  have N0 : News base L s.heap news := cut_news N fun p hp => List.mem_append_right _ hp
  have e1 := g.get X F N0
  have hl : s.heap.IsTuple l (ts.map fun t => Value.ref t.1).toArray := ⟨_, e1, rfl, _, rfl⟩
  have hlt := Heap.lt_size e1
  refine wpAny_pyIter_tuple hl ?_
  generalize hI : s.heap.objs.size = I at *
  have nI : s.heap.get? I = none := hI ▸ Heap.get?_none_of_le (Nat.le_refl _)
  have keep : ∀ b o, s.heap.get? b = some o → (s.heap.push { cls := .type "tuple_iterator", data := .fields #[.ref l, .int 0 0] }).get? b = some o := fun b o e => Heap.get?_push_of_some _ e
  have gI : (s.heap.push { cls := .type "tuple_iterator", data := .fields #[.ref l, .int 0 0] }).get? I = some _ := hI ▸ Heap.get?_push_size _ rfl
  let vs := (ts.map fun t => Value.ref t.1).toArray
  have gts : ∀ t ∈ ts, IsTup s.heap t.1 #[t.2.1, t.2.2] := fun t ht => ⟨_, (gt t ht).get X F N0, rfl, _, rfl⟩
  have tI : ∀ t ∈ ts, t.1 ≠ I := fun t ht => ne_newC ((gt t ht).get X F N0) nI
  have W0 := Walks.tuple (prog := prog) (w := w) (A := A) hh I l (Nat.ne_of_lt (hI ▸ hlt)) vs
  have W1 : Walks prog w A I (I :: l :: ts.map (·.1)) [I] vs.size (fun i v => vs[i]? = some v) (fun i h => (h.IsTupleIter I l i ∧ h.IsTuple l vs) ∧ ∀ t ∈ ts, IsTup h t.1 #[t.2.1, t.2.2]) := by
    have st : ∀ {h h' : Heap}, (∀ b o, b ∉ [I] → h.get? b = some o → h'.get? b = some o) → (∀ t ∈ ts, IsTup h t.1 #[t.2.1, t.2.2]) → ∀ t ∈ ts, IsTup h' t.1 #[t.2.1, t.2.2] := fun k ht t hm => by
      obtain ⟨o, ho, r⟩ := ht t hm
      exact ⟨o, k _ _ (fun z => tI t hm (List.mem_singleton.mp z)) ho, r⟩
    refine ⟨fun b hb => by rw [List.mem_singleton.mp hb]; exact .head _, fun i h h' hs hk => ⟨W0.frame i h h' hs.1 fun b hb o e => hk b ?_ o e, fun t ht => ?_⟩, fun i s Q E hi hs hQ => W0.item i s Q E hi hs.1 fun v h' tk hP st' hk => hQ v h' tk hP ⟨st', st hk hs.2⟩ hk, fun s Q E hs hQ => W0.done s Q E hs.1 hQ, fun i s Q E hs hQ => W0.self i s Q E hs.1 hQ⟩
    · rcases List.mem_cons.mp hb with rfl | hb
      · exact .head _
      · rw [List.mem_singleton.mp hb]; exact .tail _ (.head _)
    · obtain ⟨o, ho, r⟩ := hs.2 t ht
      exact ⟨o, hk _ (.tail _ (.tail _ (List.mem_map_of_mem (f := fun t : Addr × Value × Value => t.1) ht))) _ ho, r⟩
  have S : Src prog w A K news (s.heap.push { cls := .type "tuple_iterator", data := .fields #[.ref l, .int 0 0] }) I (l :: ts.map (·.1)) vs.size (fun i v => vs[i]? = some v) (fun i h => (h.IsTupleIter I l i ∧ h.IsTuple l vs) ∧ ∀ t ∈ ts, IsTup h t.1 #[t.2.1, t.2.2]) := by
    refine ⟨W1, ⟨⟨⟨_, gI, rfl, rfl⟩, hl.at fun o e => Heap.get?_push_of_some _ e⟩, fun t ht => ?_⟩, fun b hb => ?_, ?_, ?_⟩
    · obtain ⟨o, ho, r⟩ := gts t ht
      exact ⟨o, keep _ _ ho, r⟩
    · rcases List.mem_cons.mp hb with rfl | hb
      · exact ⟨_, g⟩
      · obtain ⟨t, ht, rfl⟩ := List.mem_map.mp hb
        exact ⟨_, gt t ht⟩
    · rintro k h b o ⟨⟨⟨oi, gi, ci, _⟩, ⟨ol, gl, cl, _⟩⟩, hts⟩ hb g
      rcases List.mem_cons.mp hb with e | hb
      · rw [e, gi] at g
        rw [← Option.some.inj g]
        exact NF.ty ci (by decide)
      · rcases List.mem_cons.mp hb with e | hb
        · rw [e, gl] at g
          rw [← Option.some.inj g]
          exact NF.ty cl (by decide)
        · obtain ⟨t, ht, rfl⟩ := List.mem_map.mp hb
          obtain ⟨ot, got, ct, _⟩ := hts t ht
          rw [got] at g
          rw [← Option.some.inj g]
          exact NF.ty ct (by decide)
    · rintro k h ⟨⟨⟨oi, gi, _⟩, _⟩, _⟩
      exact ⟨oi, gi⟩
  obtain ⟨hL, bI, hIn, hfr⟩ := src_apart X F N Of nI S
  have F' := F.keeps keep
  have N' : News base L (s.heap.push { cls := .type "tuple_iterator", data := .fields #[.ref l, .int 0 0] }) (frs ++ news) := fun p hp => ⟨keep _ _ (N p hp).1, (N p hp).2⟩
  have W : KTurns prog w A (.Tuple [.Name x1 p1, .Name x2 p2] kk tp) I (I :: l :: ts.map (·.1)) [I] vs.size (fun i v h => ∃ t, ts[i]? = some t ∧ v = .ref t.1 ∧ IsTup h t.1 #[t.2.1, t.2.2]) (fun i v h => (∃ t, ts[i]? = some t ∧ v = .ref t.1) ∧ ((h.IsTupleIter I l (i + 1) ∧ h.IsTuple l vs) ∧ ∀ t ∈ ts, IsTup h t.1 #[t.2.1, t.2.2])) (fun i h => (h.IsTupleIter I l i ∧ h.IsTuple l vs) ∧ ∀ t ∈ ts, IsTup h t.1 #[t.2.1, t.2.2]) := by
    refine ⟨W1.sub, W1.frame, fun i s Q E hi st hQ => W1.item i s Q E hi st fun v h' tk hP st' hk => hQ v h' tk ⟨?_, st'⟩ hk, fun i v s Q E hm hQ => ?_, W1.done⟩
    · simp only [vs, List.getElem?_toArray, List.getElem?_map, Option.map_eq_some_iff] at hP
      obtain ⟨t, h1, h2⟩ := hP
      exact ⟨t, h1, h2.symm⟩
    · obtain ⟨⟨t, h1, rfl⟩, st⟩ := hm
      obtain ⟨oi, gi, ci, _⟩ := st.1.1
      exact go_of gi ci (by decide) (hQ s.heap ⟨t, h1, rfl, st.2 t (List.mem_of_getElem? h1)⟩ st fun _ _ _ e => e)
  refine comp_blockM (s := { s with heap := s.heap.push { cls := .type "tuple_iterator", data := .fields #[.ref l, .int 0 0] } }) (frs := frs) (news := news) (m := m) (base := base) (L := L) W (fun s Q E st q => S.W.self 0 s Q E st q) (by simpa [vs] using hsz) hcell hkind S.st ?_ hL (fun b hb => by rw [List.mem_singleton.mp hb]; exact bI) (fun p hp hb => hIn p hp (List.mem_singleton.mp hb)) hfr S.nfo (fun k h b st hb => by rw [List.mem_singleton.mp hb]; exact S.live k h st) F' N' Of nf (fun k m₃ => ∃ t, ts[k]? = some t ∧ m₃ x1 = some t.2.1 ∧ m₃ x2 = some t.2.2) ?_ J h0 ?_ ?_
  · intro b hb
    rcases List.mem_cons.mp hb with rfl | hb
    · rw [Heap.size_push]; rw [hI]; exact Nat.lt_succ_self _
    · obtain ⟨o, g⟩ := S.own _ hb
      rcases g with g | g
      · exact Heap.lt_size (F'.keep _ _ (X _ _ g))
      · exact Heap.lt_size (N' _ (List.mem_append_right _ g)).1
  · intro k C v s' m₂ Q' E' _ hP hn _ _ hq
    obtain ⟨t, ht, rfl, hT⟩ := hP
    refine assign_Tuple_tuple hh hT rfl rfl fun h₅ he => ?_
    have he' : ∀ b o, s'.heap.get? b = some o → h₅.get? b = some o := fun b o e => he b o (Nat.ne_of_lt (Heap.lt_size e)) e
    refine assignInOrder_cons (wpAny_assign_Name (wpAny_storeName_local (lookup_relabel_local hx1) (hn.at' fun o e => he' _ o e) (fun h₆ hn₆ hs₆ => ?_) (by simp [compEnvC, relabel, hkind])))
    refine assignInOrder_cons (wpAny_assign_Name (wpAny_storeName_local (lookup_relabel_local hx2) hn₆ (fun h₃ hn₃ hs₃ => ?_) (by simp [compEnvC, relabel, hkind])))
    exact assignInOrder_nil (hq h₃ _ _ (fun b o hb e => hs₃.extBut b o hb (hs₆.extBut b o hb (he' b o e))) hn₃ ⟨t, ht, by simp [hne], by simp⟩)
  · intro k ys C oC m₃ own X₁ frs₁ h₁ tk₁ hk hB hO hm hJ se F₁ N₁ o₁ n₁ hap
    obtain ⟨t, ht, y1, y2⟩ := hB
    exact step k t ys C oC m₃ own X₁ frs₁ h₁ tk₁ ht y1 y2 hO hm hJ se F₁ N₁ o₁ n₁ (fun p hp hm => (List.mem_cons.mp (hap p hp hm).1).resolve_left fun z => (hap p hp hm).2 (List.mem_singleton.mpr z))
  · intro D C h tk m' ys frs' X₁ se F₁ N₁ o₁ n₁ hn hC₀ hCL hCD hne hlt hD hJ
    refine ⟨m', hn, fun h'' hs'' => ?_⟩
    replace hs'' : Heap.SameBut C h h'' := hs''
    have e : vs.size = ts.length := by simp [vs]
    rw [e] at hJ
    refine done D h'' tk ys frs' X₁ se (F₁.change hs'' hCL hC₀) (fun p hp => ?_) o₁ n₁ hlt hD hJ
    have k1 : ∀ p ∈ frs' ++ X₁, h''.get? p.1 = some p.2 ∧ p.1 ≠ L ∧ base.get? p.1 = none := fun p hp => ⟨hs''.extBut _ _ (hne p hp) (N₁ p (.tail _ hp)).1, (N₁ p (.tail _ hp)).2⟩
    rcases List.mem_append.mp hp with hp | hp
    · exact k1 p (List.mem_append_left _ hp)
    · rcases List.mem_cons.mp hp with rfl | hp
      · exact ⟨hs''.extBut _ _ (Ne.symm hCD) (N₁ _ (.head _)).1, (N₁ _ (.head _)).2⟩
      · exact k1 p (List.mem_append_right _ hp)
end
end
section -- MTry
section
variable {M : Model} {A : Around} {E : Value → Shared → Prop} {s : Shared} {base : Heap} {L e dx : Addr} {m : Str → Option Value} {frs news : Led} {outer : List Env} {env : Env}
theorem fly_apart {h : Heap} (N : News base L h (frs ++ news)) (nf : NF news) (fly : Fly base e dx h) : (∀ p ∈ news, p.1 ≠ e) := by
  obtain ⟨heb, T₀, hx0, hT0, hT0e, hT0b⟩ := fly
  intro p hp z
  obtain ⟨vs, sl, hg, _⟩ := hx0
  have := (N p (List.mem_append_right _ hp)).1
  rw [z, hg] at this
  rcases nf p hp with q | q
  · exact q.1 (by rw [← Option.some.inj this])
  · exact q vs (by rw [← Option.some.inj this])
/-- the clause's own note and flight, of an exception that came from a call -/
theorem catch_next {Q : Unit → Shared → Prop} (hfr : A.frames = some (env :: outer)) (hf : env.frame = some L) (hk : env.scope.kind ≠ .module)
    (F : Fr base L s.heap m) (N : News base L s.heap (frs ++ news)) (O : FrOK outer frs) (off : Off frs news) (nf : NF news) (fly : Fly base e dx s.heap)
    (h : ∀ h' frs', SlotEq frs frs' → Fr base L h' m → News base L h' (frs' ++ news) → Off frs' news → Fly base e dx h' → Q () { s with heap := h' }) :
    wpAny M A (noteFrame (.ref e) env) (fun _ s₂ => wpAny M A (setFlight (.ref e) none) Q E s₂) E s := by
  have FF := fun_L (env := env) F N O hf hk
  obtain ⟨heb, T₀, hx0, hT0, hT0e, hT0b⟩ := fly
  have nfe : ∀ p ∈ news, p.1 ≠ e := fly_apart N nf ⟨heb, T₀, hx0, hT0, hT0e, hT0b⟩
  have nfT : ∀ p ∈ news, p.1 ≠ T₀ := fun p hp z => by
    obtain ⟨oT, ts, hg, hct, hd, _⟩ := hT0
    have := (N p (List.mem_append_right _ hp)).1
    rw [z, hg] at this
    rcases nf p hp with q | q
    · exact q.2 (by rw [← Option.some.inj this]; exact hct)
    · exact q ts (by rw [← Option.some.inj this]; exact hd)
  refine note_next hfr FF hf hx0 hT0 hT0e fun h' T hT hTe hx hTb P => ?_
  rw [frames_L O hf] at P
  obtain ⟨frs', se, F', N', off'⟩ := pass_L P F N O off heb nfe (fun b z => by cases z; exact ⟨hT0b, nfT⟩)
  have hTb' : base.get? T = none := by
    cases q : base.get? T with
    | none => rfl
    | some o => rw [F.keep _ _ q] at hT; cases hT
  have hTL : L ≠ T := fun z => by
    obtain ⟨oL, _, _, hL, _⟩ := F.ns
    rw [z, hT] at hL; cases hL
  have hTn : ∀ p ∈ frs' ++ news, p.1 ≠ T := fun p hp z => by
    have hm : p.1 ∈ (frs ++ news).map (·.1) := by
      rw [List.map_append, se.keys, ← List.map_append]; exact List.mem_map_of_mem hp
    obtain ⟨q, hq, zq⟩ := List.mem_map.mp hm
    have := (N q hq).1
    rw [zq, z, hT] at this; cases this
  refine set_flight (s := { s with heap := h' }) (fr := none) hx hTb hTe fun h₂ hx2 hTb2 _ oth => ?_
  obtain ⟨F2, N2⟩ := still_L F' N' oth hTb' hTL hTn
  exact h h₂ frs' se F2 N2 off' ⟨heb, T, hx2, hTb2, hTe, hTb'⟩
/-- the flight once more, at the suite's start -/
theorem flight_L {Q : Unit → Shared → Prop} (F : Fr base L s.heap m) (N : News base L s.heap (frs ++ news)) (O : FrOK outer frs) (nf : NF news) (fly : Fly base e dx s.heap)
    (h : ∀ h', Fr base L h' m → News base L h' (frs ++ news) → Fly base e dx h' → Q () { s with heap := h' }) :
    wpAny M A (setFlight (.ref e) none) Q E s := by
  obtain ⟨heb, T, hx, hT, hTe, hTb⟩ := fly
  have hTL : L ≠ T := fun z => by
    obtain ⟨oL, es, ep, hL, hd, _⟩ := F.ns
    obtain ⟨oT, ts, hg, hct, hd2, _⟩ := hT
    rw [z, hg] at hL
    rw [← Option.some.inj hL, hd2] at hd; cases hd
  have hTn : ∀ p ∈ frs ++ news, p.1 ≠ T := fun p hp z => by
    obtain ⟨oT, ts, hg, hct, hd2, _⟩ := hT
    have := (N p hp).1
    rw [z, hg] at this
    rcases List.mem_append.mp hp with hp | hp
    · have hdd : ∀ {es : List Env} {fr : Led}, FrOK es fr → p ∈ fr → ∃ ds n, p.2.data = .dict ds n := by
        intro es fr O hm
        induction O with
        | nil => cases hm
        | cons k1 k2 k3 _ ih =>
          rcases List.mem_cons.mp hm with rfl | hm
          · exact ⟨_, _, k3⟩
          · exact ih hm
      obtain ⟨ds, n, hd⟩ := hdd O hp
      rw [← Option.some.inj this, hd2] at hd; cases hd
    · rcases nf p hp with q | q
      · exact q.2 (by rw [← Option.some.inj this]; exact hct)
      · exact q ts (by rw [← Option.some.inj this]; exact hd2)
  refine set_flight (fr := none) hx hT hTe fun h₂ hx2 hTb2 _ oth => ?_
  obtain ⟨F2, N2⟩ := still_L F N oth hTb hTL hTn
  exact h h₂ F2 N2 ⟨heb, T, hx2, hTb2, hTe, hTb⟩
end
theorem fly_set {base h h' : Heap} {L e dx : Addr} {m : Str → Option Value} (F : Fr base L h m) (fly : Fly base e dx h) (hs : Heap.SameBut L h h') : Fly base e dx h' := by
  obtain ⟨heb, T, ⟨vs, sl, hx, h1⟩, ⟨oT, ts, hg, hct, hd, h3⟩, hTe, hTb⟩ := fly
  obtain ⟨oL, es, ep, hL, hdL, _⟩ := F.ns
  have eL : e ≠ L := fun z => by
    rw [z, hL] at hx
    rw [Option.some.inj hx] at hdL; cases hdL
  have TL : T ≠ L := fun z => by
    rw [z, hL] at hg
    rw [Option.some.inj hg, hd] at hdL; cases hdL
  exact ⟨heb, T, ⟨vs, sl, hs.extBut _ _ eL hx, h1⟩, ⟨oT, ts, hs.extBut _ _ TL hg, hct, hd, h3⟩, hTe, hTb⟩
section
variable {w : World} {A : Around} {E : Value → Shared → Prop} {s : Shared} {env : Env}
theorem mono_false {α : Type} {M : Model} {A : Around} {s : Shared} {t : Sem α} {Q : α → Shared → Prop} {E : Value → Shared → Prop} (h : wpAny M A t Q (fun _ _ => False) s) : wpAny M A t Q E s := wpAny_mono h (fun _ _ x => x) fun _ _ x => x.elim
noncomputable def HandQ (w : World) (e : Addr) (R : Shared → Prop) (c : Value) (s₁ : Shared) : Prop := c = .ref 88 ∧ (seed.heap_1 w.params).In s₁.heap ∧ (∃ oe, s₁.heap.get? e = some oe ∧ oe.cls = .ref 88) ∧ R s₁
/-- except KindFault as n, of a KindFault: nothing raised within -/
theorem handle_as {e : Addr} {t : Expr} {n : Str} {b₀ : Stmt} {suite : List Stmt} {pos : Pos} {Q : Flow → Shared → Prop}
    (h : wpAny (model PySem.Challenge.rw_qd0027_02.row.prog w) (A.mark (some (.ref e))) (eval t env) (HandQ w e fun s₁ =>
      wpAny (model PySem.Challenge.rw_qd0027_02.row.prog w) (A.mark (some (.ref e))) (setFlight (.ref e) none) (fun _ s₂ =>
          wpAny (model PySem.Challenge.rw_qd0027_02.row.prog w) (A.mark (some (.ref e))) (storeName env n (.ref e)) (fun _ s₃ =>
            wpAny (model PySem.Challenge.rw_qd0027_02.row.prog w) (A.mark (some (.ref e))) (execs (b₀ :: suite) env)
              (fun f s₄ => wpAny (model PySem.Challenge.rw_qd0027_02.row.prog w) A (do bindName env n .none; unbindBehindTheSuite env n pos) (fun _ s₅ => Q f s₅) E s₄) (fun _ _ => False) s₃) (fun _ _ => False) s₂) (fun _ _ => False) s₁) (fun _ _ => False) s) :
    wpAny (model PySem.Challenge.rw_qd0027_02.row.prog w) A (handleBy (.ref e) env [.ExceptHandler (some t) (some n) (b₀ :: suite) pos]) Q E s := by
  refine wpAny_handleBy_cons (codeAny_handlers_test (wpAny_mono h (fun c s₁ h₁ => ?_) fun _ _ x => x.elim)) (by intro q; cases q)
  obtain ⟨rfl, KX, ⟨oe, hoe, hcls⟩, hk⟩ := h₁
  obtain ⟨hh', g, d, tk, os⟩ := s₁
  refine wpAny_excMatches_sub_self (KX 88 _ rfl) hoe hcls (by kernel_rfl) ?_
  exact codeAny_handlers_suite_as (wpAny_mono hk (fun _ s₂ h₂ => wpAny_mono h₂ (fun _ s₃ h₃ => wpAny_mono h₃ (fun f s₄ h₄ => h₄) fun _ _ x => x.elim) fun _ _ x => x.elim) fun _ _ x => x.elim)
end
end
section -- MAttr
theorem get_exc {w : World} {A : Around} {E : Value → Shared → Prop} {s : Shared} {x : Addr} {ox : Obj} {od : Option Obj} {name : Str} {expr : Bool} {v : Value} {Q : Value → Shared → Prop} (X : (seed.heap_1 w.params).In s.heap) (I : InstAt s.heap x ox 88 od) (hf : findObj (seed.heap_1 w.params) 88 od name = some (.value v)) (hk : findIn (seed.heap_1 w.params) (.ref 88) "__getattr__" = some none) (hv : handedIn v = true)
    (h : Q v { s with toks := s.toks + 1 }) : wpAny (model PySem.Challenge.rw_qd0027_02.row.prog w) A (getAttr (.ref x) name expr) Q E s := by
  obtain ⟨hh, g, d, t, os⟩ := s
  have hga : findIn (seed.heap_1 w.params) (.ref 88) "__getattribute__" = some (some (.builtin "BaseException.__getattribute__")) := by kernel_rfl
  have L0 := I.type (M := model PySem.Challenge.rw_qd0027_02.row.prog w)
  have L1 := looks_findIn (M := model PySem.Challenge.rw_qd0027_02.row.prog w) X hga
  have L2 := looks_find (M := model PySem.Challenge.rw_qd0027_02.row.prog w) X I hf
  have L3 := looks_findIn (M := model PySem.Challenge.rw_qd0027_02.row.prog w) X hk
  have L4 : Looks (model PySem.Challenge.rw_qd0027_02.row.prog w) hh (isSubtype (.ref 88) (.type "BaseException")) true := looks_mroIn X (by kernel_rfl)
  unfold getAttr getAttrBy
  refine wpAny_bind (wpAny_mkText (wpAny_holding (wpAny_bind (L0.at (wpAny_bind (L1.at ?_))))))
  show wpAny _ _ (getAttrByItsOwn _ _ _ _ _ _) _ _ _
  unfold getAttrByItsOwn hookBefore callGetattribute boundAndCalled
  refine wpAny_bind (L3.at ?_)
  refine wpAny_bind (wpAny_attempt (wpAny_holding ?_))
  have hx0 : (expr && onTheHeap (Value.builtin "BaseException.__getattribute__")) = false := by cases expr <;> rfl
  rw [hx0, if_neg Bool.false_ne_true]
  refine wpAny_bind (wpAny_of_eq (PySem.F.attr_Exception.ga.bind _) ?_)
  refine wpAny_call (codeAny_call_builtin PySem.F.attr_Exception.ga.plain PySem.F.entry_bexc_ga ?_)
  have hkd : builtinKind "BaseException.__getattribute__" = some .slot := by decide +kernel
  have hsplit : splitId "BaseException.__getattribute__" = some ("BaseException", "__getattribute__") := by decide +kernel
  have ha := PySem.F.args_bexc_ga (.ref x) (.str name t)
  simp only [checkBuiltinCall, hkd, hsplit]
  show wpAny _ _ (isInstance (.ref x) (.type "BaseException") >>= _) _ _ _
  unfold isInstance
  refine wpAny_bind (wpAny_bind (L0.at (L4.at ?_)))
  rw [if_neg (by decide)]
  refine wpAny_of_eq ha ?_
  show wpAny _ _ (Builtin.«object.__getattribute__» ⟨[.ref x, .str name t], []⟩) _ _ _
  unfold Builtin.«object.__getattribute__»
  refine wpAny_bind (wpAny_pure (wpAny_bind (wpAny_pure (wpAny_bind (L0.at (wpAny_bind (L2.at ?_)))))))
  refine wpAny_pure ?_
  show wpAny _ _ (handedOut v) _ _ _
  rw [handedOut_of hv]
  exact wpAny_pure h
theorem get_spot {w : World} {A : Around} {E : Value → Shared → Prop} {s : Shared} {base : Heap} {L e dx : Addr} {m : Str → Option Value} {all : Led} {Q : Value → Shared → Prop} {x : Str} {t k u k' : Tok} {spot : Int} {b : Bool} (KX : (seed.heap_1 w.params).In base) (F : Fr base L s.heap m) (N : News base L s.heap all) (fly : Fly base e dx s.heap) (hd : (dx, spotObj w.params x t k spot u k') ∈ all)
    (h : Q (.int spot u) { s with toks := s.toks + 1 }) : wpAny (model PySem.Challenge.rw_qd0027_02.row.prog w) A (getAttr (.ref e) (Str.ofString "spot") b) Q E s := by
  obtain ⟨heb, T, ⟨vs, sl, hx, _⟩, _⟩ := fly
  have I : InstAt s.heap e ⟨.ref 88, some dx, .fields vs, sl⟩ 88 (some (spotObj w.params x t k spot u k')) := ⟨hx, rfl, rfl, (N _ hd).1⟩
  refine' get_exc ?k2 I ?k4 ?k5 ?k6 h
  case k2 => exact KX.keeps F.keep
  case k4 => kernel_rfl
  case k5 => kernel_rfl
  case k6 => rfl
end
section -- MZipL
open PySem.W.X
theorem ne_new {h : Heap} {a b : Addr} {o : Obj} (ha : h.get? a = some o) (hb : h.get? b = none) : a ≠ b := fun z => by rw [z, hb] at ha; cases ha
theorem zip_call_lt {w : World} {A : Around} {E : Value → Shared → Prop} {s : Shared} {env : Env} {base : Heap} {body : List Stmt} {Q : Flow → Shared → Prop} {m : Str → Option Value} {frs news : Led} {l1 l2 : Addr} {xs ys : Array Value} {c1 c2 : Nat} {elts : List Expr} {kk : Nat} {pos : Pos}
    (hh : A.handled = none) (KX : (seed.heap_1 w.params).In base) (F : Fr base env.locals s.heap m) (N : News base env.locals s.heap (frs ++ news)) (Of : Off frs news) (nf : NF news)
    (g1 : At (seed.heap_1 w.params) news l1 ⟨.type "list", none, .seq xs c1, #[]⟩) (g2 : At (seed.heap_1 w.params) news l2 ⟨.type "tuple", none, .seq ys c2, #[]⟩)
    (J : Nat → (Str → Option Value) → Prop) (h0 : J 0 m)
    (step : ∀ k x y T m₁ frs₁ own h₁ tk₁, k < min xs.size ys.size → xs[k]? = some x → ys[k]? = some y → J k m₁ → SlotEq frs frs₁ → h₁.IsTuple T #[x, y] → Fr base env.locals h₁ m₁ → News base env.locals h₁ (frs₁ ++ (own ++ news)) → Off frs₁ (own ++ news) → NF (own ++ news) →
      wpAny (model PySem.Challenge.rw_qd0027_02.row.prog w) A (assign (.Tuple elts kk pos) env (.ref T)) (fun _ s₃ => wpAny (model PySem.Challenge.rw_qd0027_02.row.prog w) A (execs body env) (ZEnd base env.locals frs₁ (own ++ news) s (J (k + 1)) Q) E s₃) E { s with heap := h₁, toks := tk₁ })
    (done : ∀ h' tk m' frs', J (min xs.size ys.size) m' → SlotEq frs frs' → Fr base env.locals h' m' → News base env.locals h' (frs' ++ news) → Off frs' news → Q .next { s with heap := h', toks := tk }) :
    wpAny (model PySem.Challenge.rw_qd0027_02.row.prog w) A (call (.type "zip") [.ref l1, .ref l2]) (fun xv s₁ => wpAny (model PySem.Challenge.rw_qd0027_02.row.prog w) A (pyIter xv) (fun it s₂ => TurnsAt PySem.Challenge.rw_qd0027_02.row.prog w A base env (.Tuple elts kk pos) body Q E it s₂) E s₁) E s := by
  have N0 : News base env.locals s.heap news := cut_news N fun p hp => List.mem_append_right _ hp
  have e1 := g1.get KX F N0
  have e2 := g2.get KX F N0
  refine zip_new_lt w A s _ E l1 l2 xs ys c1 c2 (KX.keeps F.keep) e1 e2 fun h' i1 i2 TI TO z D => ?_
  have keep : ∀ b o, s.heap.get? b = some o → h'.get? b = some o := fun b o e => D.old b o e (by rw [Bool.or_eq_true]; exact .inr rfl)
  have qz := D.nw _ (.head _)
  have qO := D.nw _ (.tail _ (.head _))
  have qI := D.nw _ (.tail _ (.tail _ (.head _)))
  have q2 := D.nw _ (.tail _ (.tail _ (.tail _ (.head _))))
  have q1 := D.nw _ (.tail _ (.tail _ (.tail _ (.tail _ (.head _)))))
  have od := D.ord
  simp only [List.map_cons, List.map_nil, List.pairwise_cons, List.mem_cons, List.not_mem_nil, or_false, forall_eq_or_imp, forall_eq] at od
  obtain ⟨⟨o1, o2, o3, o4⟩, ⟨o5, o6, o7⟩, ⟨o8, o9⟩, o10, -⟩ := od
  have old : ∀ {b o c}, s.heap.get? b = some o → s.heap.get? c = none → b ≠ c := fun hb hc => ne_new hb hc
  have nn : ∀ {c}, s.heap.get? c = none → base.get? c = none := fun {c} hc => by
    cases q : base.get? c with
    | none => rfl
    | some o => rw [F.keep _ _ q] at hc; cases hc
  have Z : ZA z TI TO i1 i2 [i1, l1] [i2, l2] := {
    zTI := Nat.ne_of_gt o2, zTO := Nat.ne_of_gt o1, zi1 := Nat.ne_of_gt o4, zi2 := Nat.ne_of_gt o3, TITO := Nat.ne_of_lt o5, TIi1 := Nat.ne_of_gt o9, TIi2 := Nat.ne_of_gt o8, TOi1 := Nat.ne_of_gt o7, TOi2 := Nat.ne_of_gt o6, i12 := Nat.ne_of_lt o10
    z1 := fun hm => by
      rcases List.mem_cons.mp hm with e | hm
      · exact Nat.ne_of_gt o4 e
      · exact old e1 qz.2 (List.mem_singleton.mp hm).symm
    z2 := fun hm => by
      rcases List.mem_cons.mp hm with e | hm
      · exact Nat.ne_of_gt o3 e
      · exact old e2 qz.2 (List.mem_singleton.mp hm).symm
    o1 := fun hm => by
      rcases List.mem_cons.mp hm with e | hm
      · exact Nat.ne_of_gt o7 e
      · exact old e1 qO.2 (List.mem_singleton.mp hm).symm
    o2 := fun hm => by
      rcases List.mem_cons.mp hm with e | hm
      · exact Nat.ne_of_gt o6 e
      · exact old e2 qO.2 (List.mem_singleton.mp hm).symm
    a1 := fun hm => by
      rcases List.mem_cons.mp hm with e | hm
      · exact Nat.ne_of_gt o10 e
      · exact old e1 q2.2 (List.mem_singleton.mp hm).symm
    a2 := fun hm => by
      rcases List.mem_cons.mp hm with e | hm
      · exact Nat.ne_of_lt o10 e
      · exact old e2 q1.2 (List.mem_singleton.mp hm).symm }
  have D1 := Draws.list (prog := PySem.Challenge.rw_qd0027_02.row.prog) (w := w) (A := A.in1) hh i1 l1 (old e1 q1.2) xs
  have D2 := Draws.tup (prog := PySem.Challenge.rw_qd0027_02.row.prog) (w := w) (A := A.in1) hh i2 l2 (old e2 q2.2) ys
  have hl1 : h'.IsList l1 xs := ⟨_, keep _ _ e1, rfl, _, rfl⟩
  have hl2 : h'.IsTuple l2 ys := ⟨_, keep _ _ e2, rfl, _, rfl⟩
  obtain ⟨oL, esL, epL, gL, rL⟩ := F.ns
  have key : ∀ b o, s.heap.get? b = some o → b ≠ l1 → b ≠ l2 → b ∉ z :: TI :: TO :: ([i1, l1] ++ [i2, l2]) := fun b o hb n1 n2 hm => by
    simp only [List.mem_cons, List.mem_append, List.not_mem_nil, or_false] at hm
    rcases hm with e | e | e | (e | e) | (e | e)
    · exact old hb qz.2 e
    · exact old hb qI.2 e
    · exact old hb qO.2 e
    · exact old hb q1.2 e
    · exact n1 e
    · exact old hb q2.2 e
    · exact n2 e
  have apart : ∀ {a o}, At (seed.heap_1 w.params) news a o → env.locals ≠ a ∧ ∀ p ∈ frs, p.1 ≠ a := fun {a o} g => by
    rcases g with g | g
    · have := KX _ _ g
      refine ⟨fun q => ?_, fun p hp q => ?_⟩
      · rw [← q, base_L F] at this; cases this
      · have n := (N p (List.mem_append_left _ hp)).2.2
        rw [q, this] at n; cases n
    · refine ⟨fun q => (N0 _ g).2.1 q.symm, fun p hp q => ?_⟩
      have y := List.mem_map_of_mem (f := Prod.fst) hp
      rw [q] at y
      exact Of _ g y
  refine wpAny_pyIter_zip qz.1 ?_
  refine turns_zip (s := { s with heap := h' }) D1 D2 Z (.head _) (.head _) qz.1 qI.1 qO.1 ⟨⟨_, q1.1, rfl, rfl⟩, hl1⟩ ⟨⟨_, q2.1, rfl, rfl⟩, hl2⟩ (key _ _ gL (apart g1).1 (apart g2).1) ?_ ?_ (fun p hp => key _ _ (N p (List.mem_append_left _ hp)).1 ((apart g1).2 p hp) ((apart g2).2 p hp)) ?_ ?_ (F.keeps keep) (fun p hp => ⟨keep _ _ (N p hp).1, (N p hp).2⟩) Of nf J h0 step done
  · intro b hb
    simp only [List.mem_cons, List.not_mem_nil, or_false] at hb
    rcases hb with rfl | rfl | rfl | rfl
    · exact nn qz.2
    · exact nn qO.2
    · exact nn q1.2
    · exact nn q2.2
  · intro p hp hb
    have g := (N p hp).1
    simp only [List.mem_cons, List.not_mem_nil, or_false] at hb
    rcases hb with e | e | e | e
    · exact old g qz.2 e
    · exact old g qO.2 e
    · exact old g q1.2 e
    · exact old g q2.2 e
  · rintro k h b o ⟨⟨oi, gi, ci, _⟩, ⟨ol, gl, cl, _⟩⟩ hb g
    rcases List.mem_cons.mp hb with e | hb
    · rw [e, gi] at g
      rw [← Option.some.inj g]
      exact NF.ty ci (by decide)
    · rw [List.mem_singleton.mp hb, gl] at g
      rw [← Option.some.inj g]
      exact NF.ty cl (by decide)
  · rintro k h b o ⟨⟨oi, gi, ci, _⟩, ⟨ol, gl, cl, _⟩⟩ hb g
    rcases List.mem_cons.mp hb with e | hb
    · rw [e, gi] at g
      rw [← Option.some.inj g]
      exact NF.ty ci (by decide)
    · rw [List.mem_singleton.mp hb, gl] at g
      rw [← Option.some.inj g]
      exact NF.ty cl (by decide)
end
section -- MZipS
theorem mem4 {a b c d x : Addr} (h : x ∈ [a, b, c, d]) : x = a ∨ x = b ∨ x = c ∨ x = d := by
  simpa only [List.mem_cons, List.not_mem_nil, or_false] using h
theorem mem6 {a b c d e f x : Addr} (h : x ∈ [a, b, c, d, e, f]) : x = a ∨ x = b ∨ x = c ∨ x = d ∨ x = e ∨ x = f := by
  simpa only [List.mem_cons, List.not_mem_nil, or_false] using h
section
variable {w : World} {A : Around} {E : Value → Shared → Prop} {s : Shared} {env : Env} {base : Heap} {L : Addr} {m : Str → Option Value} {frs news : Led}
variable {elt iter : Expr} {ifs : List Expr} {scope : Scope} {cl : List (Str × Addr)} {pos : Pos}
theorem comp_zipS {x1 x2 : Str} {p1 p2 tp : Pos} {kk : Nat} {Q : Value → Shared → Prop} {l : Addr} {c : Nat} {xs : Array Value} {x : Str} {t : Tok} (hh : A.handled = none) (KX : (seed.heap_1 w.params).In base) (ha : x.cps.all (· < 128) = true) (g : At (seed.heap_1 w.params) news l ⟨.type "list", none, .seq xs c, #[]⟩) (hx1 : scope.names.lookup x1 = some .local) (hx2 : scope.names.lookup x2 = some .local) (hne : x1 ≠ x2)
    (hsz : min x.cps.size xs.size ≤ sizeLine) (hcell : ∀ y ∈ scope.names, y.2 ≠ .cell) (hkind : scope.kind = .function)
    (F : Fr base L s.heap m) (N : News base L s.heap (frs ++ news)) (Of : Off frs news) (nf : NF news) (J : Nat → List Value → Led → Prop) (h0 : J 0 [] news)
    (step : ∀ k cc u v ys C oC m₃ own X frs₁ h₁ tk₁, x.cps[k]? = some cc → xs[k]? = some v → m₃ x1 = some (.str ⟨#[cc]⟩ u) → m₃ x2 = some v → NsO oC m₃ → (C, oC) ∈ own → J k ys X → SlotEq frs frs₁ → Fr base L h₁ m → News base L h₁ (frs₁ ++ (own ++ X)) → Off frs₁ (own ++ X) → NF (own ++ X) →
      wpAny (model PySem.Challenge.rw_qd0027_02.row.prog w) A (forIn ifs true fun c r => if r = true then do let ok ← isTrue c (compEnvC scope cl C env) (eval c (compEnvC scope cl C env)); pure (ForInStep.yield ok) else pure (ForInStep.yield r)) (fun ok s₃ =>
        if ok = true then wpAny (model PySem.Challenge.rw_qd0027_02.row.prog w) A (eval elt (compEnvC scope cl C env)) (fun y => CEndM base L m frs₁ own X s (J (k + 1) (ys ++ [y]))) (fun _ _ => False) s₃
        else CEndM base L m frs₁ own X s (J (k + 1) ys) s₃) (fun _ _ => False) { s with heap := h₁, toks := tk₁ })
    (done : LEndM base L m frs news s (J (min x.cps.size xs.size)) Q) :
    wpAny (model PySem.Challenge.rw_qd0027_02.row.prog w) A (call (.type "zip") [.str x t, .ref l]) (fun xv s₁ => wpAny (model PySem.Challenge.rw_qd0027_02.row.prog w) A (pyIter xv) (fun it s₂ => wpAny (model PySem.Challenge.rw_qd0027_02.row.prog w) A (newList []) (fun acc s₃ => wpAny (model PySem.Challenge.rw_qd0027_02.row.prog w) A (newFunctionEnv scope env.globals cl [] env.qual none .none (some env)) (fun cenv s₄ =>
      codeAny (model PySem.Challenge.rw_qd0027_02.row.prog w) A (.compStart (.ListComp elt [⟨.Tuple [.Name x1 p1, .Name x2 p2] kk tp, iter, ifs, 0⟩] scope pos) 0 it acc { cenv with scope := relabel scope env }) (compPost (model PySem.Challenge.rw_qd0027_02.row.prog w) A E none Q acc cenv.locals) s₄) E s₃) E s₂) E s₁) E s := by
  have N0 : News base L s.heap news := cut_news N fun p hp => List.mem_append_right _ hp
  have e1 := g.get KX F N0
  have hl : s.heap.IsList l xs := ⟨_, e1, rfl, _, rfl⟩
  have hlt := Heap.lt_size e1
  refine zs_call ha hl fun h' n hn hz hTI hTO hi1 hi2 hsz' keep => ?_
  have old : ∀ {b o}, s.heap.get? b = some o → b < n := fun e => hn ▸ Heap.lt_size e
  have nb : ∀ a, n ≤ a → base.get? a = none := fun a ha => by
    cases q : base.get? a with
    | none => rfl
    | some o => exact absurd (old (F.keep _ _ q)) (Nat.not_lt.mpr ha)
  have ll : l < n := hn ▸ hlt
  have Z : ZA (n + 4) (n + 2) (n + 3) n (n + 1) [n] [n + 1, l] := by
    exact { zTI := nadd (i := 4) (j := 2) (by decide), zTO := nadd (i := 4) (j := 3) (by decide), zi1 := (nlt' 3), zi2 := nadd (i := 4) (j := 1) (by decide), TITO := nadd (i := 2) (j := 3) (by decide), TIi1 := (nlt' 1), TIi2 := nadd (i := 2) (j := 1) (by decide), TOi1 := (nlt' 2), TOi2 := nadd (i := 3) (j := 1) (by decide), i12 := Ne.symm (nlt' 0), z1 := nsing (nlt' 3), z2 := ntwo (nadd (i := 4) (j := 1) (by decide)) (Ne.symm (nlt 4 ll)), o1 := nsing (nlt' 2), o2 := ntwo (nadd (i := 3) (j := 1) (by decide)) (Ne.symm (nlt 3 ll)), a1 := nsing (nlt' 0), a2 := ntwo (Ne.symm (nlt' 0)) (Ne.symm (nlt 0 ll)) }
  have D1 := Draws.strAscii (prog := PySem.Challenge.rw_qd0027_02.row.prog) (w := w) (A := A.in1) hh n x t
  have D2 := Draws.list (prog := PySem.Challenge.rw_qd0027_02.row.prog) (w := w) (A := A.in1) hh (n + 1) l (Nat.ne_of_lt (Nat.lt_succ_of_lt ll)) xs
  have F' := F.keeps keep
  have N' : News base L h' (frs ++ news) := fun p hp => ⟨keep _ _ (N p hp).1, (N p hp).2⟩
  obtain ⟨oL, esL, epL, gL, rL⟩ := F.ns
  have apart : L ≠ l ∧ ∀ p ∈ frs, p.1 ≠ l := by
    rcases g with g | g
    · have := KX _ _ g
      refine ⟨fun q => ?_, fun p hp q => ?_⟩
      · rw [← q, base_L F] at this; cases this
      · have n := (N p (List.mem_append_left _ hp)).2.2
        rw [q, this] at n; cases n
    · refine ⟨fun q => (N0 _ g).2.1 q.symm, fun p hp q => ?_⟩
      have y := List.mem_map_of_mem (f := Prod.fst) hp
      rw [q] at y
      exact Of _ g y
  have W0 := (zip_walks D1 D2 Z (.head _) (.head _)).toU
  have W := KTurns.ofWalksU (elts := [.Name x1 p1, .Name x2 p2]) (k := kk) (pos := tp) W0
  refine wpAny_pyIter_zip hz ?_
  refine comp_blockM (s := { s with heap := h' }) (frs := frs) (news := news) (m := m) (base := base) (L := L) W (fun s Q E st q => W0.self 0 s Q E st q) hsz hcell hkind ⟨hz, hTI, ⟨_, _, hTO⟩, hi1, hi2, hl.at fun o e => keep _ _ e⟩ ?_ ?_ ?_ ?_ ?_ ?_ ?_ F' N' Of nf (fun k m₃ => ∃ cc u v, x.cps[k]? = some cc ∧ xs[k]? = some v ∧ m₃ x1 = some (.str ⟨#[cc]⟩ u) ∧ m₃ x2 = some v) ?_ J h0 ?_ ?_
  · intro b hb
    show @LT.lt Nat _ b h'.objs.size
    rw [hsz']
    rcases mem6 hb with h | h | h | h | h | h <;> rw [h]
    · exact Nat.add_lt_add_left (by decide) n
    · exact Nat.add_lt_add_left (by decide) n
    · exact Nat.add_lt_add_left (by decide) n
    · exact Nat.lt_add_of_pos_right (by decide)
    · exact Nat.add_lt_add_left (by decide) n
    · exact Nat.lt_of_lt_of_le ll (Nat.le_add_right _ _)
  · intro hb
    have := old gL
    rcases mem6 hb with h | h | h | h | h | h
    · exact nlt 4 this h
    · exact nlt 2 this h
    · exact nlt 3 this h
    · exact nlt 0 this h
    · exact nlt 1 this h
    · exact apart.1 h
  · intro b hb
    rcases mem4 hb with h | h | h | h <;> (rw [h]; first | exact nb _ (Nat.le_add_right _ _) | exact nb _ (Nat.le_refl _))
  · intro p hp hb
    have := old (N p hp).1
    rcases mem4 hb with h | h | h | h
    · exact nlt 4 this h
    · exact nlt 3 this h
    · exact nlt 0 this h
    · exact nlt 1 this h
  · intro p hp hb
    have := old (N p (List.mem_append_left _ hp)).1
    rcases mem6 hb with h | h | h | h | h | h
    · exact nlt 4 this h
    · exact nlt 2 this h
    · exact nlt 3 this h
    · exact nlt 0 this h
    · exact nlt 1 this h
    · exact apart.2 p hp h
  · rintro k h b o ⟨sz, sTI, ⟨a, b', sTO⟩, ⟨o1, s1, c1, _⟩, ⟨o2, s2, c2, _⟩, ⟨o3, s3, c3, _⟩⟩ hb g
    rcases mem6 hb with e | e | e | e | e | e
    · rw [e, sz] at g; rw [← Option.some.inj g]; exact NF.ty rfl (by decide)
    · rw [e, sTI] at g; rw [← Option.some.inj g]; exact NF.ty rfl (by decide)
    · rw [e, sTO] at g; rw [← Option.some.inj g]; exact NF.ty rfl (by decide)
    · rw [e, s1] at g; rw [← Option.some.inj g]; exact NF.ty c1 (by decide)
    · rw [e, s2] at g; rw [← Option.some.inj g]; exact NF.ty c2 (by decide)
    · rw [e, s3] at g; rw [← Option.some.inj g]; exact NF.ty c3 (by decide)
  · rintro k h b ⟨sz, sTI, ⟨a, b', sTO⟩, ⟨o1, s1, c1, _⟩, ⟨o2, s2, c2, _⟩, ⟨o3, s3, c3, _⟩⟩ hb
    rcases mem4 hb with e | e | e | e
    · exact ⟨_, e ▸ sz⟩
    · exact ⟨_, e ▸ sTO⟩
    · exact ⟨_, e ▸ s1⟩
    · exact ⟨_, e ▸ s2⟩
  · intro k C v s' m₂ Q' E' _ hP hn _ _ hq
    obtain ⟨T, vals, rfl, ⟨v1, v2, ⟨cc, u, hcc, rfl⟩, hv2, rfl⟩, hT⟩ := hP
    refine assign_Tuple_tuple hh hT rfl rfl fun h₅ he => ?_
    have he' : ∀ b o, s'.heap.get? b = some o → h₅.get? b = some o := fun b o e => he b o (Nat.ne_of_lt (Heap.lt_size e)) e
    refine assignInOrder_cons (wpAny_assign_Name (wpAny_storeName_local (lookup_relabel_local hx1) (hn.at' fun o e => he' _ o e) (fun h₆ hn₆ hs₆ => ?_) (by simp [compEnvC, relabel, hkind])))
    refine assignInOrder_cons (wpAny_assign_Name (wpAny_storeName_local (lookup_relabel_local hx2) hn₆ (fun h₃ hn₃ hs₃ => ?_) (by simp [compEnvC, relabel, hkind])))
    exact assignInOrder_nil (hq h₃ _ _ (fun b o hb e => hs₃.extBut b o hb (hs₆.extBut b o hb (he' b o e))) hn₃ ⟨cc, u, v2, hcc, hv2, by simp [hne], by simp⟩)
  · intro k ys C oC m₃ own X₁ frs₁ h₁ tk₁ hk hB hO hm hJ se F₁ N₁ o₁ n₁ _
    obtain ⟨cc, u, v, y1, y2, y3, y4⟩ := hB
    exact step k cc u v ys C oC m₃ own X₁ frs₁ h₁ tk₁ y1 y2 y3 y4 hO hm hJ se F₁ N₁ o₁ n₁
  · intro D C h tk m' ys frs' X₁ se F₁ N₁ o₁ n₁ hn hC₀ hCL hCD hne hlt hD hJ
    refine ⟨m', hn, fun h'' hs'' => ?_⟩
    replace hs'' : Heap.SameBut C h h'' := hs''
    refine done D h'' tk ys frs' X₁ se (F₁.change hs'' hCL hC₀) (fun p hp => ?_) o₁ n₁ hlt hD hJ
    have k1 : ∀ p ∈ frs' ++ X₁, h''.get? p.1 = some p.2 ∧ p.1 ≠ L ∧ base.get? p.1 = none := fun p hp => ⟨hs''.extBut _ _ (hne p hp) (N₁ p (.tail _ hp)).1, (N₁ p (.tail _ hp)).2⟩
    rcases List.mem_append.mp hp with hp | hp
    · exact k1 p (List.mem_append_left _ hp)
    · rcases List.mem_cons.mp hp with rfl | hp
      · exact ⟨hs''.extBut _ _ (Ne.symm hCD) (N₁ _ (.head _)).1, (N₁ _ (.head _)).2⟩
      · exact k1 p (List.mem_append_right _ hp)
end
end
section
local macro_rules | `(tactic| walk_at "exec Raise some none") => `(tactic| (k_here; k_dflt (refine raise_own (by rfl) ?_)))
section -- MWant
theorem want_c (w : World) (mean : ExcName → Option Value) (mg mb : Str → Option Value) (news : Led) (a1 a2 : Addr) (k1 k2 : KD) (spot : Int) (u t : Tok) (what : Str)
    (h1 : KindAt (seed.heap_1 w.params) news a1 k1) (h2 : KindAt (seed.heap_1 w.params) news a2 k2) (hb1 : LenLe k1.b 8) (hd1 : Digit k1.d) (hb2 : LenLe k2.b 8) (hd2 : Digit k2.d) (hw : LenLe what 100) :
    Cn w mean mg mb 205 [.ref a1, .ref a2, .int spot u, .str what t] news 10 100 (fun r tl => fitsB k1 k2 = true ∧ r = .none ∧ tl = news) (fun dx tl => fitsB k1 k2 = false ∧ ∃ x t k k', tl = (dx, spotObj w.params x t k spot u k') :: news) := by
  intro dp un gd cn cs a ccd cl outer base L m frs s Q E F X T N O Of nf hk hd hu hret hexc
  have c1 := fits_c w mean mg mb news a1 a2 k1 k2 h1 h2
  have c2 := kind_text_c w mean mg mb news a1 k1 h1 hb1 hd1
  have c3 := kind_text_c w mean mg mb news a2 k2 h2 hb2 hd2
  refine wpAny_call ?_
  k_dflt ktr_enter
  k_steps
  · refine fin_ hret (by assumption) (SlotEq.refl _) (by k_asm) (by k_asm) news (by ktd_sub) (by assumption) nf ⟨by assumption, rfl, rfl⟩
  refine make_L w mean mg mb news _ _ u spot _ _ _ _ _ _ _ _ _ base _ _ _ _ _ _ (by k_asm) X T (by k_asm) (by assumption) (by assumption) rfl ?_ ?_ (fun e frs' a' dx k k' h' tk' se F2 N2 off2 ne1 nd1 de eb => ?_)
  · ktr_room
  · first | exact room2 (by assumption) (by decide) | exact room1 (by assumption) (by decide) | omega | (dsimp only [ktrTop]; first | exact room2 (by assumption) (by decide) | exact room1 (by assumption) (by decide) | omega)
  refine ⟨e, a', dx, rfl, X.keeps F2.keep, (N2 _ (List.mem_append_right _ (.head _))).1, ?_⟩
  k_unfold
  dsimp only
  refine leave_made rfl rfl (fun z => nomatch z) F2 N2 (se.fr (by assumption)) off2 ne1 de eb (fun h4 frs4 se4 F4 N4 off4 fly => ?_)
  dsimp only
  refine finx_ hexc ((Back.slot (by assumption) se).slot se4) F4 N4 off4 (NF.cons (NF.ty rfl (by decide)) nf) fly ⟨by assumption, _, _, _, _, rfl⟩
end
section -- MEach
local macro_rules | `(tactic| walk_at "d0") => `(tactic| skip)
noncomputable def okB (ks ws : List KD) : Bool := decide (ks.length = ws.length) && (ks.zip ws).all fun p => fitsB p.1 p.2
noncomputable abbrev kl (ks : List (Addr × KD)) (c : Nat) : Obj := ⟨.type "list", none, .seq (ks.map fun p => Value.ref p.1).toArray c, #[]⟩
noncomputable abbrev kt (ks : List (Addr × KD)) (c : Nat) : Obj := ⟨.type "tuple", none, .seq (ks.map fun p => Value.ref p.1).toArray c, #[]⟩
noncomputable def KindsOK (K : Frag) (news : Led) (ks : List (Addr × KD)) : Prop := ∀ p ∈ ks, KindAt K news p.1 p.2 ∧ LenLe p.2.b 8 ∧ Digit p.2.d
section
variable {w : World} {A : Around} {E : Value → Shared → Prop} {s : Shared} {base : Heap} {L : Addr} {m : Str → Option Value} {news all : Led} {a : Addr} {ks : List (Addr × KD)} {c : Nat} {Q : Value → Shared → Prop}
theorem len_kl (g : At (seed.heap_1 w.params) news a (kl ks c)) (X : (seed.heap_1 w.params).In base) (F : Fr base L s.heap m) (N : News base L s.heap all) (hs : ∀ p ∈ news, p ∈ all) (d : Digit (ks.length : Int))
    (h : ∀ t tk, Q (.int ks.length t) { s with toks := tk }) : wpAny (model PySem.Challenge.rw_qd0027_02.row.prog w) A (call (.builtin "len") [.ref a]) Q E s := by
  have hi := d.hi
  exact kun_lenL (k := ks.length) ⟨_, (g.mono hs).get X F N, rfl, _, rfl⟩ (by simp) (by omega) (h _ _)
theorem len_kt (g : At (seed.heap_1 w.params) news a (kt ks c)) (X : (seed.heap_1 w.params).In base) (F : Fr base L s.heap m) (N : News base L s.heap all) (hs : ∀ p ∈ news, p ∈ all) (d : Digit (ks.length : Int))
    (h : ∀ t tk, Q (.int ks.length t) { s with toks := tk }) : wpAny (model PySem.Challenge.rw_qd0027_02.row.prog w) A (call (.builtin "len") [.ref a]) Q E s := by
  have hi := d.hi
  exact kun_lenT (k := ks.length) ⟨_, (g.mono hs).get X F N, rfl, _, rfl⟩ (by simp) (by omega) (h _ _)
end
noncomputable def Marked (p : Prop) : Prop := p
theorem mark {p : Prop} (h : Marked p) : p := h
local macro_rules | `(tactic| walk_at "call builtin:len") => `(tactic| (k_here; (with_reducible show wpAny _ _ (call (Value.builtin "len") [Value.ref _]) _ _ _); k_dflt (first | (refine' len_kl (by assumption) (by assumption) (by k_asm) (by k_asm) (by ktd_sub) (by assumption) ?_) | (refine' len_kt (by assumption) (by assumption) (by k_asm) (by k_asm) (by ktd_sub) (by assumption) ?_)); intro _ _; (try dsimp only)))
local macro_rules | `(tactic| walk_at "exec For Tuple Call cons nil") => `(tactic| (refine mark ?_))
noncomputable abbrev mm (m : Str → Option Value) (oa ob : Option Value) : Str → Option Value := fun y => if y = Str.ofString "one" then ob else if y = Str.ofString "kind" then oa else m y
theorem mm_none {m : Str → Option Value} (h1 : m (Str.ofString "one") = none) (h2 : m (Str.ofString "kind") = none) : m = mm m none none := by
  funext y
  show m y = if y = Str.ofString "one" then none else if y = Str.ofString "kind" then none else m y
  split
  · rename_i e; rw [e, h1]
  · split
    · rename_i e; rw [e, h2]
    · rfl
/-- the goal of one turn of the loop -/
noncomputable def Turn (w : World) (A : Around) (env : Env) (elts : List Expr) (kk : Nat) (pos : Pos) (body : List Stmt) (base : Heap) (m : Str → Option Value) (frs news : Led) (s : Shared) (Q : Flow → Shared → Prop) (E : Value → Shared → Prop) (G : Nat → Prop) (ks ws : List (Addr × KD)) : Prop :=
  ∀ k x y T oa ob frs₁ own h₁ tk₁, ks[k]? = some x → ws[k]? = some y → G k → SlotEq frs frs₁ → IsTup h₁ T #[.ref x.1, .ref y.1] → Fr base env.locals h₁ (mm m oa ob) → News base env.locals h₁ (frs₁ ++ (own ++ news)) → Off frs₁ (own ++ news) → NF (own ++ news) →
      wpAny (model PySem.Challenge.rw_qd0027_02.row.prog w) A (assign (.Tuple elts kk pos) env (.ref T)) (fun _ s₃ => wpAny (model PySem.Challenge.rw_qd0027_02.row.prog w) A (execs body env) (ZEnd base env.locals frs₁ (own ++ news) s (fun m' => (∃ oa ob, m' = mm m oa ob) ∧ G (k + 1)) Q) E s₃) E { s with heap := h₁, toks := tk₁ }
theorem each_zip {w : World} {A : Around} {E : Value → Shared → Prop} {s : Shared} {env : Env} {base : Heap} {body : List Stmt} {Q : Flow → Shared → Prop} {m : Str → Option Value} {frs news : Led} {l1 l2 : Addr} {ks ws : List (Addr × KD)} {c1 c2 : Nat} {elts : List Expr} {kk : Nat} {pos : Pos}
    (hh : A.handled = none) (KX : (seed.heap_1 w.params).In base) (F : Fr base env.locals s.heap m) (N : News base env.locals s.heap (frs ++ news)) (Of : Off frs news) (nf : NF news)
    (g1 : At (seed.heap_1 w.params) news l1 (kl ks c1)) (g2 : At (seed.heap_1 w.params) news l2 (kt ws c2)) (hm1 : m (Str.ofString "one") = none) (hm2 : m (Str.ofString "kind") = none)
    (G : Nat → Prop) (h0 : G 0) (step : Turn w A env elts kk pos body base m frs news s Q E G ks ws)
    (done : ∀ h' tk oa ob frs', G (min ks.length ws.length) → SlotEq frs frs' → Fr base env.locals h' (mm m oa ob) → News base env.locals h' (frs' ++ news) → Off frs' news → Q .next { s with heap := h', toks := tk }) :
    wpAny (model PySem.Challenge.rw_qd0027_02.row.prog w) A (call (.type "zip") [.ref l1, .ref l2]) (fun xv s₁ => wpAny (model PySem.Challenge.rw_qd0027_02.row.prog w) A (pyIter xv) (fun it s₂ => TurnsAt PySem.Challenge.rw_qd0027_02.row.prog w A base env (.Tuple elts kk pos) body Q E it s₂) E s₁) E s := by
  refine zip_call_lt hh KX F N Of nf g1 g2 (fun k m₁ => (∃ oa ob, m₁ = mm m oa ob) ∧ G k) ⟨⟨none, none, mm_none hm1 hm2⟩, h0⟩ (fun k x y T m₁ frs₁ own h₁ tk₁ _ hx hy hJ se hT F₁ N₁ o₁ n₁ => ?_) (fun h' tk m' frs' hJ se F' N' o' => ?_)
  · obtain ⟨⟨oa, ob, rfl⟩, g⟩ := hJ
    simp only [List.getElem?_toArray, List.getElem?_map, Option.map_eq_some_iff] at hx hy
    obtain ⟨x', hx', rfl⟩ := hx
    obtain ⟨y', hy', rfl⟩ := hy
    obtain ⟨oT, gT, cT, nT, dT⟩ := hT
    exact step k x' y' T oa ob frs₁ own h₁ tk₁ hx' hy' g se ⟨oT, gT, cT, nT, dT⟩ F₁ N₁ o₁ n₁
  · obtain ⟨⟨oa, ob, rfl⟩, g⟩ := hJ
    simp only [List.size_toArray, List.length_map] at g
    exact done h' tk oa ob frs' g se F' N' o'
noncomputable def allTo (ks ws : List (Addr × KD)) (k : Nat) : Prop := ∀ i x y, i < k → ks[i]? = some x → ws[i]? = some y → fitsB x.2 y.2 = true
theorem mm_set (m : Str → Option Value) (oa ob : Option Value) (a b : Value) : (fun y => if y = Str.ofString "one" then some b else if y = Str.ofString "kind" then some a else mm m oa ob y) = mm m (some a) (some b) := by
  funext y
  show (if y = Str.ofString "one" then some b else if y = Str.ofString "kind" then some a else if y = Str.ofString "one" then ob else if y = Str.ofString "kind" then oa else m y) = if y = Str.ofString "one" then some b else if y = Str.ofString "kind" then some a else m y
  by_cases h1 : y = Str.ofString "one"
  · rw [if_pos h1, if_pos h1]
  · rw [if_neg h1, if_neg h1, if_neg h1]
    by_cases h2 : y = Str.ofString "kind"
    · rw [if_pos h2, if_pos h2]
    · rw [if_neg h2, if_neg h2, if_neg h2]
theorem cut_mid {base h : Heap} {L : Addr} {f own news : Led} {p : Addr × Obj} (N : News base L h (f ++ (p :: (own ++ news)))) : News base L h (f ++ (p :: news)) := cut_news N fun q hq => by
  simp only [List.mem_append, List.mem_cons] at hq ⊢
  rcases hq with h | h | h
  · exact .inl h
  · exact .inr (.inl h)
  · exact .inr (.inr (.inr h))
theorem off_mid {f own news : Led} {p : Addr × Obj} (o : Off f (p :: (own ++ news))) : Off f (p :: news) := fun q hq => o q (by
  simp only [List.mem_append, List.mem_cons] at hq ⊢
  rcases hq with h | h
  · exact .inl h
  · exact .inr (.inr h))
theorem okB_len {ks ws : List (Addr × KD)} (h : ks.length ≠ ws.length) : okB (ks.map (·.2)) (ws.map (·.2)) = false := by
  unfold okB
  rw [List.length_map, List.length_map, decide_eq_false h, Bool.false_and]
theorem okB_false {ks ws : List (Addr × KD)} {k : Nat} {x y : Addr × KD} (hx : ks[k]? = some x) (hy : ws[k]? = some y) (h : fitsB x.2 y.2 = false) : okB (ks.map (·.2)) (ws.map (·.2)) = false := by
  unfold okB
  rw [Bool.and_eq_false_iff]
  refine .inr (List.all_eq_false.mpr ⟨(x.2, y.2), ?_, by rw [h]; exact Bool.false_ne_true⟩)
  refine List.mem_of_getElem? (i := k) ?_
  rw [List.getElem?_zip_eq_some]
  exact ⟨by rw [List.getElem?_map, hx]; rfl, by rw [List.getElem?_map, hy]; rfl⟩
theorem okB_true {ks ws : List (Addr × KD)} (hl : ks.length = ws.length) (h : allTo ks ws (min ks.length ws.length)) : okB (ks.map (·.2)) (ws.map (·.2)) = true := by
  unfold okB
  rw [List.length_map, List.length_map, decide_eq_true hl, Bool.true_and, List.all_eq_true]
  intro p hp
  obtain ⟨i, hi⟩ := List.getElem?_of_mem hp
  rw [List.getElem?_zip_eq_some, List.getElem?_map, List.getElem?_map] at hi
  obtain ⟨h1, h2⟩ := hi
  rw [Option.map_eq_some_iff] at h1 h2
  obtain ⟨x, hx, e1⟩ := h1
  obtain ⟨y, hy, e2⟩ := h2
  rw [← e1, ← e2]
  have l1 := (List.getElem?_eq_some_iff.mp hx).1
  exact h i x y (by rw [← hl, Nat.min_self]; exact l1) hx hy
theorem allTo_succ {ks ws : List (Addr × KD)} {k : Nat} {x y : Addr × KD} (g : allTo ks ws k) (hx : ks[k]? = some x) (hy : ws[k]? = some y) (h : fitsB x.2 y.2 = true) : allTo ks ws (k + 1) := by
  intro i x' y' hi hx' hy'
  by_cases e : i = k
  · subst e
    rw [hx] at hx'; rw [hy] at hy'
    cases hx'; cases hy'
    exact h
  · exact g i x' y' (by omega) hx' hy'
theorem each_c (w : World) (mean : ExcName → Option Value) (mg mb : Str → Option Value) (news : Led) (am ak aw : Addr) (ks ws : List (Addr × KD)) (nm : Str) (t u : Tok) (spot : Int) (c1 c2 : Nat)
    (hk1 : At (seed.heap_1 w.params) news ak (kl ks c1)) (hw1 : At (seed.heap_1 w.params) news aw (kt ws c2)) (hks : KindsOK (seed.heap_1 w.params) news ks) (hws : KindsOK (seed.heap_1 w.params) news ws) (hn : LenLe nm 100) (dk : Digit (ks.length : Int)) (dw : Digit (ws.length : Int)) :
    Cn w mean mg mb 404 [.ref am, .str nm t, .ref ak, .ref aw, .int spot u] news 14 200 (fun r tl => okB (ks.map (·.2)) (ws.map (·.2)) = true ∧ r = .none ∧ tl = news) (fun dx tl => okB (ks.map (·.2)) (ws.map (·.2)) = false ∧ ∃ x t k k', tl = (dx, spotObj w.params x t k spot u k') :: news) := by
  intro dp un gd cn cs a ccd cl outer base L m frs s Q E F X T N O Of nf hk hd hu hret hexc
  refine wpAny_call ?_
  k_dflt ktr_enter
  k_steps
  · refine make_L w mean mg mb news _ _ u spot _ _ _ _ _ _ _ _ _ base _ _ _ _ _ _ (by k_asm) X T (by k_asm) (by assumption) (by assumption) rfl ?_ ?_ (fun e frs' a' dx k k' h' tk' se F2 N2 off2 ne1 nd1 de eb => ?_)
    · ktr_room
    · first | exact room2 (by assumption) (by decide) | exact room1 (by assumption) (by decide) | omega | (dsimp only [ktrTop]; first | exact room2 (by assumption) (by decide) | exact room1 (by assumption) (by decide) | omega)
    refine ⟨e, a', dx, rfl, X.keeps F2.keep, (N2 _ (List.mem_append_right _ (.head _))).1, ?_⟩
    k_unfold
    dsimp only
    refine leave_made rfl rfl (fun z => nomatch z) F2 N2 (se.fr (by assumption)) off2 ne1 de eb (fun h4 frs4 se4 F4 N4 off4 fly => ?_)
    dsimp only
    refine finx_ hexc ((Back.slot (by assumption) se).slot se4) F4 N4 off4 (NF.cons (NF.ty rfl (by decide)) nf) fly ⟨okB_len (by omega), _, _, _, _, rfl⟩
  unfold Marked
  refine For_turns (by k_asm) ?_ (hE := PassesOwn.leaving)
  k_steps
  refine each_zip rfl X (by k_asm) (by k_asm) (by assumption) nf hk1 hw1 rfl rfl (allTo ks ws) (fun i x y h => absurd h (Nat.not_lt_zero _)) ?_ ?_
  · intro k x y T oa ob frs₁ own h₁ tk₁ hx hy g se hT F₁ N₁ o₁ n₁
    have kx := hks x (List.mem_of_getElem? hx)
    have ky := hws y (List.mem_of_getElem? hy)
    have fo2 := se.fr (by assumption)
    have bk2 := Back.slot (by assumption) se
    have cw := want_c w mean mg mb (own ++ news) x.1 y.1 x.2 y.2 spot u t nm (kx.1.mono fun p hp => List.mem_append_right _ hp) (ky.1.mono fun p hp => List.mem_append_right _ hp) kx.2.1 kx.2.2 ky.2.1 ky.2.2 hn
    k_steps
    · refine ⟨_, _, _, _, rfl, by assumption, by k_asm, by k_asm, ⟨_, _, mm_set _ _ _ _ _⟩, allTo_succ g hx hy (by assumption)⟩
    · rename_i R' fly S' O' o' n' b' F' N'
      obtain ⟨hf, x', t', k', k'', e'⟩ := R'
      subst e'
      (try k_unfold)
      (try dsimp only)
      refine leave_next rfl rfl (fun z => nomatch z) F' N' O' o' n' fly (fun h4 frs4 se4 F4 N4 off4 fly4 => ?_)
      dsimp only
      exact finx_ hexc (b'.slot se4) F4 (cut_mid N4) (off_mid off4) (NF.cons (NF.ty rfl (by decide)) nf) fly4 ⟨okB_false hx hy hf, _, _, _, _, rfl⟩
  · intro h' tk oa ob frs' g se F₂ N₂ o₂
    dsimp only
    k_steps
    refine fin_ hret (Back.slot (by assumption) se) (SlotEq.refl _) F₂ N₂ news (fun p hp => hp) (by rw [Off]; intro p hp hm; rw [← se.keys] at hm; exact (by assumption : Off _ news) p hp hm) nf ⟨okB_true ?_ g, rfl, rfl⟩
    omega
end
local macro_rules | `(tactic| walk_at "H1") => `(tactic| (refine List.mem_append_right _ ?_; first | assumption | (refine List.Mem.tail _ ?_; assumption) | (refine List.Mem.tail _ (List.Mem.tail _ ?_); assumption)))
section -- MCallT
local macro_rules | `(tactic| walk_at "d0") => `(tactic| skip)
theorem len_lst {w : World} {A : Around} {E : Value → Shared → Prop} {s : Shared} {base : Heap} {L : Addr} {m : Str → Option Value} {all : Led} {D : Addr} {ys : List Value} {Q : Value → Shared → Prop} (_F : Fr base L s.heap m) (N : News base L s.heap all) (hm : (D, lstN ys) ∈ all) (hz : ys.length ≤ 16384)
    (h : ∀ t tk, Q (.int ys.length t) { s with toks := tk }) : wpAny (model PySem.Challenge.rw_qd0027_02.row.prog w) A (call (.builtin "len") [.ref D]) Q E s :=
  kun_lenL (k := ys.length) ⟨_, (N _ hm).1, rfl, _, rfl⟩ (by simp) (by omega) (h _ _)
local macro_rules | `(tactic| k_mem) => `(tactic| walk_at "H1")
noncomputable abbrev selfD (P : Params) (k1 k2 k3 k4 k5 k6 : Tok) (an ap aq ar ac : Addr) : Obj := { cls := .type "dict", data := .dict #[⟨PyData.keyHash P (Str.ofString "names"), .str (Str.ofString "names") k1, .ref an⟩, ⟨PyData.keyHash P (Str.ofString "predicates"), .str (Str.ofString "predicates") k2, .ref ap⟩, ⟨PyData.keyHash P (Str.ofString "asks"), .str (Str.ofString "asks") k3, .ref aq⟩, ⟨PyData.keyHash P (Str.ofString "assigned"), .str (Str.ofString "assigned") k4, .ref ar⟩, ⟨PyData.keyHash P (Str.ofString "is_shown"), .str (Str.ofString "is_shown") k5, .bool false⟩, ⟨PyData.keyHash P (Str.ofString "called"), .str (Str.ofString "called") k6, .ref ac⟩] 6 }
theorem DAt.of {w : World} {base h : Heap} {L d : Addr} {all : Led} {es : Array DictEntry} {ep : Nat} (X : (seed.heap_1 w.params).In base) (N : News base L h all) (hm : (d, ⟨.type "dict", none, .dict es ep, #[]⟩) ∈ all) (hs : (es.all fun e => isExactStrKey e.key) = true) : DAt h d es := by
  refine ⟨?_, ⟨ep, (N _ hm).1⟩, hs⟩
  rw [beq_eq_false_iff_ne]
  intro q
  have b := (N _ hm).2.2
  dsimp only at b
  rw [q] at b
  rw [X sysModules _ rfl] at b
  cases b
noncomputable def entriesAt (K : Frag) (a : Addr) : Array DictEntry := match K.lookup a with | some ⟨.type "dict", none, .dict es _, ⟨[]⟩⟩ => es | _ => #[]
noncomputable abbrev callsE (P : Params) : Array DictEntry := entriesAt (seed.heap_1 P) 103
theorem DAt.calls {w : World} {base h : Heap} {L : Addr} {m : Str → Option Value} (X : (seed.heap_1 w.params).In base) (F : Fr base L h m) : DAt h 103 (callsE w.params) :=
  ⟨by decide, ⟨_, F.keep _ _ (X 103 _ rfl)⟩, by kernel_rfl⟩
theorem din0 {prog : Program} {w : World} {A : Around} {E : Value → Shared → Prop} {s : Shared} {d : Addr} {es : Array DictEntry} {k : Str} {tk : Tok} {Q : Value → Shared → Prop} (D : DAt s.heap d es) (e : nsF es k = none) (h : Q (.bool false) { s with toks := s.toks + 1 }) : wpAny (model prog w) A (compareOp .In (.str k tk) (.ref d)) Q E s := din D (by rw [e]; exact h)
theorem din1 {prog : Program} {w : World} {A : Around} {E : Value → Shared → Prop} {s : Shared} {d : Addr} {es : Array DictEntry} {k : Str} {tk : Tok} {v : Value} {Q : Value → Shared → Prop} (D : DAt s.heap d es) (e : nsF es k = some v) (h : Q (.bool true) { s with toks := s.toks + 1 }) : wpAny (model prog w) A (compareOp .In (.str k tk) (.ref d)) Q E s := din D (by rw [e]; exact h)
local macro_rules | `(tactic| walk_at "compareOp In") => `(tactic| (k_here; (with_reducible show wpAny _ _ (compareOp CmpOp.In (Value.str _ _) (Value.ref _)) _ _ _); k_dflt (first | (refine' din1 (DAt.calls (by assumption) (by k_asm)) (by assumption) ?_) | (refine' din0 (DAt.calls (by assumption) (by k_asm)) (by assumption) ?_) | (refine' din0 (DAt.of (by assumption) (by k_asm) (by k_mem) (by assumption)) (by assumption) ?_) | (refine' din1 (DAt.of (by assumption) (by k_asm) (by k_mem) (by assumption)) (by assumption) ?_)); (try dsimp only)))
local macro_rules | `(tactic| walk_at "subscriptTail") => `(tactic| (k_here; (with_reducible show wpAny _ _ (subscriptTail _ _ (Value.ref _) (Value.str _ _)) _ _ _); k_dflt (refine' ditem (DAt.calls (by assumption) (by k_asm)) (by assumption) ?_); (try dsimp only)))
noncomputable def varN (ks : List (Addr × KD)) : Nat := (ks.filter fun p => p.2.v).length
local macro_rules | `(tactic| walk_at $k:str) => if ["eval ListComp", "eval ListComp cons nil"].contains k.getString then `(tactic| (refine mark ?_)) else Lean.Macro.throwUnsupported
theorem varN_take {ks : List (Addr × KD)} {k : Nat} {x : Addr × KD} (hx : ks[k]? = some x) : varN (ks.take (k + 1)) = varN (ks.take k) + if x.2.v = true then 1 else 0 := by
  unfold varN
  rw [List.take_add_one, hx, List.filter_append, List.length_append]
  congr 1
  cases h : x.2.v <;> simp [h]
theorem varN_le {ks : List (Addr × KD)} : varN ks ≤ ks.length := List.length_filter_le ..
/-- a new kind stands ahead of the ledger -/
noncomputable def NewK (news : Led) (k : KD) (r : Value) (tl : Led) : Prop := ∃ D t u, r = .ref D ∧ D ∉ news.map (·.1) ∧ tl = (D, tup [.str k.b t, .bool k.v, .int k.d u]) :: news
noncomputable def anyV (ks : List (Addr × KD)) : Bool := ks.any fun p => p.2.v
theorem anyV_of {ks : List (Addr × KD)} {n : Nat} (h : n = varN ks) : decide (0 < (n : Int)) = anyV ks := by
  subst h
  unfold varN anyV
  rw [Bool.eq_iff_iff, decide_eq_true_iff, List.any_eq_true]
  constructor
  · intro h
    have h' : 0 < (ks.filter fun p => p.2.v).length := by omega
    obtain ⟨x, hx⟩ := List.exists_mem_of_length_pos h'
    exact ⟨x, (List.mem_filter.mp hx).1, (List.mem_filter.mp hx).2⟩
  · rintro ⟨x, hx, hv⟩
    have := List.length_pos_of_mem (List.mem_filter (p := fun p : Addr × KD => p.2.v).mpr ⟨hx, hv⟩)
    omega
theorem newK_of {news : Led} {D : Addr} {k : KD} {t u : Tok} {v : Bool} (hD : D ∉ news.map (·.1)) (e : v = k.v) : NewK news k (.ref D) ((D, tup [.str k.b t, .bool v, .int k.d u]) :: news) := by
  subst e
  exact ⟨D, t, u, rfl, hD, rfl⟩
theorem drop2 {base h : Heap} {L : Addr} {f n : Led} {p q : Addr × Obj} (N : News base L h (f ++ (p :: q :: n))) : News base L h (f ++ (p :: n)) := cut_news N fun x hx => by
  rcases List.mem_append.mp hx with hx | hx
  · exact List.mem_append_left _ hx
  · rcases List.mem_cons.mp hx with rfl | hx
    · exact List.mem_append_right _ (.head _)
    · exact List.mem_append_right _ (.tail _ (.tail _ hx))
theorem off_drop2 {f n : Led} {p q : Addr × Obj} (o : Off f (p :: q :: n)) : Off f (p :: n) := fun x hx => by
  rcases List.mem_cons.mp hx with rfl | hx
  · exact o _ (.head _)
  · exact o _ (.tail _ (.tail _ hx))
theorem ret_new {base h' : Heap} {L L' : Addr} {m m' : Str → Option Value} {frs f X news : Led} {s : Shared} {tk : Nat} {Q : Value → Shared → Prop} {Rt : Value → Led → Prop} {D : Addr} {o : Obj}
    (hret : ∀ r frs' tl h' tk', Rt r tl → SlotEq frs frs' → Fr base L h' m → News base L h' (frs' ++ tl) → Off frs' tl → NF tl → Q r { s with heap := h', toks := tk' })
    (bk : Back base L m frs f) (F : Fr base L' h' m') (N : News base L' h' ((D, o) :: (f ++ X))) (lt : ∀ p ∈ f ++ X, p.1 < D) (off : Off f X) (nf : NF news) (no : NFo o) (sub : ∀ p ∈ news, p ∈ X)
    (hR : D ∉ news.map (·.1) → Rt (.ref D) ((D, o) :: news)) : Q (.ref D) { s with heap := h', toks := tk } := by
  have fresh : ∀ ps : Led, (∀ p ∈ ps, p ∈ f ++ X) → D ∉ ps.map (·.1) := fun ps h => Off.of_lt lt h
  refine fin_ hret bk (SlotEq.refl _) F N ((D, o) :: news) (fun p hp => ?_) (Off.cons (fresh f fun q hq => List.mem_append_left _ hq) fun q hq => off q (sub q hq)) (NF.cons no nf) (hR (fresh news fun q hq => List.mem_append_right _ (sub q hq)))
  rcases List.mem_append.mp hp with hp | hp
  · exact .tail _ (List.mem_append_left _ hp)
  · rcases List.mem_cons.mp hp with rfl | hp
    · exact .head _
    · exact .tail _ (List.mem_append_right _ (sub _ hp))
theorem callT_c (w : World) (mean : ExcName → Option Value) (mg mb : Str → Option Value) (news : Led) (am ak : Addr) (ks : List (Addr × KD)) (nm : Str) (t u : Tok) (spot : Int) (c1 : Nat)
    (adx an ap aq ar ac : Addr) (j1 j2 j3 j4 j5 j6 : Tok) (pes : Array DictEntry) (pn : Nat) (hpd : (ap, ⟨.type "dict", none, .dict pes pn, #[]⟩) ∈ news) (hps : (pes.all fun e => isExactStrKey e.key) = true) (hpn : nsF pes nm = none) (ws : List (Addr × KD)) (c2 : Nat) (ca aw : Addr) (hw1 : At (seed.heap_1 w.params) news aw (kt ws c2)) (hws : KindsOK (seed.heap_1 w.params) news ws) (dw : Digit (ws.length : Int)) (bs : Str) (bt : Tok) (hC : nsF (callsE w.params) nm = some (.ref ca)) (hca : At (seed.heap_1 w.params) news ca (tup [.ref aw, .str bs bt])) (hself : (am, instObj 494 adx) ∈ news) (hdict : (adx, selfD w.params j1 j2 j3 j4 j5 j6 an ap aq ar ac) ∈ news)
    (hk1 : At (seed.heap_1 w.params) news ak (kl ks c1)) (hks : KindsOK (seed.heap_1 w.params) news ks) (hn : LenLe nm 100) (dk : Digit (ks.length : Int)) :
    Cn w mean mg mb 397 [.ref am, .str nm t, .ref ak, .int spot u] news 20 300 (fun r tl => okB (ks.map (·.2)) (ws.map (·.2)) = true ∧ NewK news ⟨bs, anyV ks, 0⟩ r tl) (fun dx tl => okB (ks.map (·.2)) (ws.map (·.2)) = false ∧ ∃ x t k k', tl = (dx, spotObj w.params x t k spot u k') :: news) := by
  intro dp un gd cn cs a ccd cl outer base L m frs s Q E F X T N O Of nf hk hd hu hret hexc
  refine wpAny_call ?_
  k_dflt ktr_enter
  k_steps
  unfold Marked
  rw [eval_ListComp]
  refine wpAny_comprehension_free (use := none) rfl (fun _ => rfl) (cl := []) (by rfl) rfl (by decide) ?_
  change wpAny _ _ (eval (Expr.Name _ _) _) _ _ _
  k_steps
  refine comp_list (frs := _) (news := news) rfl X hk1 rfl (by have := dk.hi; simp only [List.size_toArray, List.length_map, sizeLine_eq]; omega) (by decide) rfl (by k_asm) (by k_asm) (by assumption) nf (fun k ys => ys.length = varN (ks.take k)) rfl ?_ ?_
  · intro k v ys C oC m₃ own frs₁ h₁ tk₁ hv hm hO hC hJ se F₁ N₁ o₁ n₁
    simp only [List.getElem?_toArray, List.getElem?_map, Option.map_eq_some_iff] at hv
    obtain ⟨x, hx, rfl⟩ := hv
    obtain ⟨⟨t1, u1, h1⟩, -, -⟩ := hks x (List.mem_of_getElem? hx)
    refine wpAny_tests_one ?_
    k_steps
    all_goals (try dsimp only)
    · refine ⟨_, _, _, rfl, SlotEq.refl _, by k_asm, by k_asm, ?_⟩
      rw [List.length_append, hJ, varN_take hx, if_pos (by assumption)]
      rfl
    · refine ⟨_, _, _, rfl, SlotEq.refl _, by k_asm, by k_asm, ?_⟩
      rw [hJ, varN_take hx, if_neg (by rename_i q; rw [q]; exact Bool.false_ne_true)]
      rfl
  · intro D h' tk ys frs' se F₂ N₂ o₂ lt hJ
    have fo2 := se.fr (by assumption)
    have bk2 := Back.slot (by assumption) se
    have nf2 : NF ((D, lstN ys) :: news) := NF.cons (NF.ty rfl (by decide)) nf
    have up : ∀ p ∈ news, p ∈ (D, lstN ys) :: news := fun p hp => .tail _ hp
    have ce := each_c w mean mg mb ((D, lstN ys) :: news) am ak aw ks ws nm t u spot c1 c2 (hk1.mono up) (hw1.mono up) (fun p hp => ⟨(hks p hp).1.mono up, (hks p hp).2⟩) (fun p hp => ⟨(hws p hp).1.mono up, (hws p hp).2⟩) hn dk dw
    try dsimp only
    k_steps
    refine len_lst F₂ N₂ (List.mem_append_right _ (.head _)) (by rw [hJ]; have := varN_le (ks := ks.take (ks.map fun p => Value.ref p.1).toArray.size); have h2 := dk.hi; have h3 := List.length_take_le' (l := ks) (i := (ks.map fun p => Value.ref p.1).toArray.size); omega) (fun _ _ => ?_)
    k_steps
    · rename_i l1
      refine ret_new hret (by assumption) (by assumption) (by assumption) l1 (by assumption) nf (NF.ty rfl (by decide)) up fun hD => ⟨by assumption, ?_⟩
      have e : ys.length = varN ks := by rw [hJ, List.take_of_length_le (by simp)]
      exact newK_of (k := ⟨bs, anyV ks, 0⟩) hD (anyV_of e)
    · rename_i R' fly S' O' o' n' b' F' N'
      obtain ⟨hf, x', t', k', k'', e'⟩ := R'
      subst e'
      (try k_unfold)
      (try dsimp only)
      refine leave_next rfl rfl (fun z => nomatch z) F' N' O' o' n' fly (fun h4 frs4 se4 F4 N4 off4 fly4 => ?_)
      dsimp only
      exact finx_ hexc (b'.slot se4) F4 (drop2 N4) (off_drop2 off4) (NF.cons (NF.ty rfl (by decide)) nf) fly4 ⟨hf, _, _, _, _, rfl⟩
end
local macro_rules | `(tactic| walk_at "H2") => `(tactic| (k_here; (with_reducible show wpAny _ _ (compareOp CmpOp.In (Value.str _ _) (Value.ref _)) _ _ _); k_dflt (first | (refine' din1 (DAt.calls (by assumption) (by k_asm)) (by assumption) ?_) | (refine' din0 (DAt.calls (by assumption) (by k_asm)) (by assumption) ?_) | (refine' din0 (DAt.of (by assumption) (by k_asm) (by k_mem) (by assumption)) (by assumption) ?_) | (refine' din1 (DAt.of (by assumption) (by k_asm) (by k_mem) (by assumption)) (by assumption) ?_)); (try dsimp only)))
local macro_rules | `(tactic| walk_at "H3") => `(tactic| (k_here; (with_reducible show wpAny _ _ (subscriptTail _ _ (Value.ref _) (Value.str _ _)) _ _ _); k_dflt (first | (refine' ditem (DAt.calls (by assumption) (by k_asm)) (by assumption) ?_) | (refine' ditem (DAt.of (by assumption) (by k_asm) (by k_mem) (by assumption)) (by assumption) ?_)); (try dsimp only)))
section -- MCallP
noncomputable abbrev dO (es : Array DictEntry) (ep : Nat) : Obj := ⟨.type "dict", none, .dict es ep, #[]⟩
theorem dset_led {w : World} {A : Around} {E : Value → Shared → Prop} {s : Shared} {base : Heap} {L d : Addr} {m : Str → Option Value} {frs X : Led} {es : Array DictEntry} {ep : Nat} {k : Str} {tk : Tok} {v : Value} {Q : Unit → Shared → Prop}
    (KX : (seed.heap_1 w.params).In base) (F : Fr base L s.heap m) (N : News base L s.heap (frs ++ ((d, dO es ep) :: X))) (hs : (es.all fun e => isExactStrKey e.key) = true) (hz : es.size ≤ 1000) (of : Off frs ((d, dO es ep) :: X)) (hx : d ∉ X.map (·.1))
    (h : ∀ h' ep', Fr base L h' m → News base L h' (frs ++ ((d, dO (dputS es k tk (hashStr w k) v) ep') :: X)) → Q () { s with heap := h', toks := s.toks + 1 }) :
    wpAny (model PySem.Challenge.rw_qd0027_02.row.prog w) A (setItem (.ref d) (.str k tk) v) Q E s := by
  have hd := N (d, dO es ep) (List.mem_append_right _ (.head _))
  refine dset (DAt.of KX N (List.mem_append_right _ (.head _)) hs) hz fun h' ep' e hsb => ?_
  refine h h' ep' (F.change hsb hd.2.1 hd.2.2) fun p hp => ?_
  have old : ∀ p ∈ frs ++ X, h'.get? p.1 = some p.2 ∧ p.1 ≠ L ∧ base.get? p.1 = none := fun p hp => by
    have n := N p (by rcases List.mem_append.mp hp with q | q; exact List.mem_append_left _ q; exact List.mem_append_right _ (.tail _ q))
    refine ⟨hsb.extBut _ _ (fun q => ?_) n.1, n.2⟩
    rcases List.mem_append.mp hp with y | y
    · have y' := List.mem_map_of_mem (f := Prod.fst) y
      rw [q] at y'
      exact of _ (.head _) y'
    · have y' := List.mem_map_of_mem (f := Prod.fst) y
      rw [q] at y'
      exact hx y'
  rcases List.mem_append.mp hp with hp | hp
  · exact old p (List.mem_append_left _ hp)
  · rcases List.mem_cons.mp hp with rfl | hp
    · exact ⟨e, hd.2⟩
    · exact old p (List.mem_append_right _ hp)
theorem drop1 {base h : Heap} {L : Addr} {f n : Led} {p : Addr × Obj} (N : News base L h (f ++ (p :: n))) : News base L h (f ++ n) := cut_news N fun x hx => by
  rcases List.mem_append.mp hx with hx | hx
  · exact List.mem_append_left _ hx
  · exact List.mem_append_right _ (.tail _ hx)
theorem off_drop1 {f n : Led} {p : Addr × Obj} (o : Off f (p :: n)) : Off f n := fun x hx => o _ (.tail _ hx)
local macro_rules | `(tactic| k_mem) => `(tactic| walk_at "H1")
local macro_rules | `(tactic| walk_at "compareOp In") => `(tactic| walk_at "H2")
local macro_rules | `(tactic| walk_at "subscriptTail") => `(tactic| walk_at "H3")
local macro_rules | `(tactic| walk_at $k:str) => if ["eval ListComp", "eval ListComp cons nil", "setItem ref str"].contains k.getString then `(tactic| (refine mark ?_)) else Lean.Macro.throwUnsupported
theorem callP_c (w : World) (mean : ExcName → Option Value) (mg mb : Str → Option Value) (rest : Led) (am ak : Addr) (ks : List (Addr × KD)) (nm : Str) (t u : Tok) (spot : Int) (c1 : Nat)
    (adx an ap aq ar ac : Addr) (j1 j2 j3 j4 j5 j6 : Tok) (pes : Array DictEntry) (pn : Nat) (hpd : (ap, ⟨.type "dict", none, .dict pes pn, #[]⟩) ∈ rest) (hps : (pes.all fun e => isExactStrKey e.key) = true) (ws : List (Addr × KD)) (c2 : Nat) (aw : Addr) (hpn : nsF pes nm = some (.ref aw)) (hw1 : At (seed.heap_1 w.params) rest aw (kt ws c2)) (hws : KindsOK (seed.heap_1 w.params) rest ws) (dw : Digit (ws.length : Int)) (hself : (am, instObj 494 adx) ∈ rest) (hdict : (adx, selfD w.params j1 j2 j3 j4 j5 j6 an ap aq ar ac) ∈ rest)
    (hk1 : At (seed.heap_1 w.params) rest ak (kl ks c1)) (hks : KindsOK (seed.heap_1 w.params) rest ks) (hn : LenLe nm 100) (dk : Digit (ks.length : Int)) (ces : Array DictEntry) (cz : Nat) (hcs : (ces.all fun e => isExactStrKey e.key) = true) (hcz : ces.size ≤ 1000) (hcr : ac ∉ rest.map (·.1)) :
    Cn w mean mg mb 397 [.ref am, .str nm t, .ref ak, .int spot u] ((ac, dO ces cz) :: rest) 20 300 (fun r tl => okB (ks.map (·.2)) (ws.map (·.2)) = true ∧ ∃ cz', NewK ((ac, dO (dputS ces nm t (hashStr w nm) (.bool true)) cz') :: rest) ⟨Str.ofString "bool", true, 0⟩ r tl) (fun dx tl => okB (ks.map (·.2)) (ws.map (·.2)) = false ∧ ∃ x t₁ k k' cz', tl = (dx, spotObj w.params x t₁ k spot u k') :: (ac, dO (dputS ces nm t (hashStr w nm) (.bool true)) cz') :: rest) := by
  intro dp un gd cn cs a ccd cl outer base L m frs s Q E F X T N O Of nf hk hd hu hret hexc
  refine wpAny_call ?_
  k_dflt ktr_enter
  have up : ∀ o : Obj, ∀ p ∈ rest, p ∈ (ac, o) :: rest := fun o p hp => .tail _ hp
  k_steps
  unfold Marked
  rw [eval_ListComp]
  refine wpAny_comprehension_free (use := none) rfl (fun _ => rfl) (cl := []) (by rfl) rfl (by decide) ?_
  change wpAny _ _ (eval (Expr.Name _ _) _) _ _ _
  k_steps
  refine comp_list (frs := _) (news := _) rfl X (hk1.mono (up _)) rfl (by have := dk.hi; simp only [List.size_toArray, List.length_map, sizeLine_eq]; omega) (by decide) rfl (by k_asm) (by k_asm) (by assumption) nf (fun k ys => ys.length = varN (ks.take k)) rfl ?_ ?_
  · intro k v ys C oC m₃ own frs₁ h₁ tk₁ hv hm hO hC hJ se F₁ N₁ o₁ n₁
    simp only [List.getElem?_toArray, List.getElem?_map, Option.map_eq_some_iff] at hv
    obtain ⟨x, hx, rfl⟩ := hv
    obtain ⟨⟨t1, u1, h1⟩, -, -⟩ := hks x (List.mem_of_getElem? hx)
    refine wpAny_tests_one ?_
    k_steps
    all_goals (try dsimp only)
    · refine ⟨_, _, _, rfl, SlotEq.refl _, by k_asm, by k_asm, ?_⟩
      rw [List.length_append, hJ, varN_take hx, if_pos (by assumption)]
      rfl
    · refine ⟨_, _, _, rfl, SlotEq.refl _, by k_asm, by k_asm, ?_⟩
      rw [hJ, varN_take hx, if_neg (by rename_i q; rw [q]; exact Bool.false_ne_true)]
      rfl
  · intro D h' tk ys frs' se F₂ N₂ o₂ lt hJ
    have fo2 := se.fr (by assumption)
    have bk2 := Back.slot (by assumption) se
    try dsimp only
    k_steps
    refine len_lst F₂ N₂ (List.mem_append_right _ (.head _)) (by rw [hJ]; have := varN_le (ks := ks.take (ks.map fun p => Value.ref p.1).toArray.size); have h2 := dk.hi; have h3 := List.length_take_le' (l := ks) (i := (ks.map fun p => Value.ref p.1).toArray.size); omega) (fun _ _ => ?_)
    replace N₂ := drop1 N₂
    replace o₂ := off_drop1 o₂
    k_steps
    unfold Marked
    refine dset_led X (by k_asm) (by k_asm) hcs hcz o₂ hcr fun h5 cz' F5 N5 => ?_
    replace o₂ : Off frs' ((ac, dO (dputS ces nm t (hashStr w nm) (.bool true)) cz') :: rest) := Off.cons (fun hm => o₂ _ (.head _) hm) (off_drop1 o₂)
    replace nf : NF ((ac, dO (dputS ces nm t (hashStr w nm) (.bool true)) cz') :: rest) := NF.cons (NF.ty rfl (by decide)) fun p hp => nf p (.tail _ hp)
    have ce := each_c w mean mg mb ((ac, dO (dputS ces nm t (hashStr w nm) (.bool true)) cz') :: rest) am ak aw ks ws nm t u spot c1 c2 (hk1.mono (up _)) (hw1.mono (up _)) (fun p hp => ⟨(hks p hp).1.mono (up _), (hks p hp).2⟩) (fun p hp => ⟨(hws p hp).1.mono (up _), (hws p hp).2⟩) hn dk dw
    dsimp only
    k_steps
    · rename_i l1
      exact ret_new hret (by assumption) (by assumption) (by assumption) l1 (by assumption) nf (NF.ty rfl (by decide)) (fun p hp => hp) fun hD => ⟨by assumption, cz', newK_of (k := ⟨Str.ofString "bool", true, 0⟩) hD rfl⟩
    · rename_i R' fly S' O' o' n' b' F' N'
      obtain ⟨hf, x', t', k', k'', e'⟩ := R'
      subst e'
      (try k_unfold)
      (try dsimp only)
      refine leave_next rfl rfl (fun z => nomatch z) F' N' O' o' n' fly (fun h4 frs4 se4 F4 N4 off4 fly4 => ?_)
      dsimp only
      exact finx_ hexc (b'.slot se4) F4 N4 off4 n' fly4 ⟨hf, _, _, _, _, _, rfl⟩
end
local macro_rules | `(tactic| walk_at "H4") => `(tactic| (k_here; (with_reducible show wpAny _ _ (call (Value.builtin "len") [Value.ref _]) _ _ _); k_dflt (first | (refine' len_kl (by assumption) (by assumption) (by k_asm) (by k_asm) (by ktd_sub) (by assumption) ?_) | (refine' len_kt (by assumption) (by assumption) (by k_asm) (by k_asm) (by ktd_sub) (by assumption) ?_)); intro _ _; (try dsimp only)))
section -- MCallN
local macro_rules | `(tactic| k_mem) => `(tactic| walk_at "H1")
noncomputable def opens : List Str := ["min", "max", "show", "fix", "length", "index_set", "index_set_1of2", "index_set_2of2", "array1d", "array2d", "set2array", "reverse", "sort", "assert"].map Str.ofString
theorem opens_at (P : Params) : ∃ items, (seed.heap_1 P).lookup 184 = some ⟨.type "tuple", none, .seq items 0, #[]⟩ ∧ StrsAre items.toList opens := by
  refine ⟨_, rfl, ?_⟩
  repeat' constructor
theorem in_opens {w : World} {A : Around} {E : Value → Shared → Prop} {s : Shared} {base : Heap} {L : Addr} {m : Str → Option Value} {x : Str} {u : Tok} {b : Bool} {Q : Value → Shared → Prop} (X : (seed.heap_1 w.params).In base) (F : Fr base L s.heap m) (hb : opens.any (· == x) = b) (h : Q (.bool b) s) :
    wpAny (model PySem.Challenge.rw_qd0027_02.row.prog w) A (compareOp .In (.str x u) (.ref 184)) Q E s := by
  subst hb
  obtain ⟨items, h1, h2⟩ := opens_at w.params
  exact in_tuple_strs ⟨_, F.keep _ _ (X _ _ h1), rfl, _, rfl⟩ h2 h
local macro_rules | `(tactic| walk_at "compareOp In") => `(tactic| walk_at "H2")
local macro_rules | `(tactic| walk_at "subscriptTail") => `(tactic| walk_at "H3")
local macro_rules | `(tactic| walk_at "compareOp In") => `(tactic| (k_here; (with_reducible show wpAny _ _ (compareOp CmpOp.In (Value.str _ _) (Value.ref 184)) _ _ _); k_dflt (refine' in_opens (by assumption) (by k_asm) (by assumption) ?_); (try dsimp only)))
local macro_rules | `(tactic| walk_at "call builtin:len") => `(tactic| walk_at "H4")
local macro_rules | `(tactic| walk_at $k:str) => if ["eval ListComp", "eval ListComp cons nil", "setItem ref str", "call ref", "call ref cons nil"].contains k.getString then `(tactic| (refine mark ?_)) else Lean.Macro.throwUnsupported
theorem nsF_nosuch (w : World) : nsF (callsE w.params) (Str.ofString "nosuch") = none := by kernel_rfl
theorem callN_c (w : World) (mean : ExcName → Option Value) (mg mb : Str → Option Value) (news : Led) (am ak : Addr) (ks : List (Addr × KD)) (nm : Str) (t u : Tok) (spot : Int) (c1 : Nat)
    (adx an ap aq ar ac : Addr) (j1 j2 j3 j4 j5 j6 : Tok) (pes : Array DictEntry) (pn : Nat) (hpd : (ap, ⟨.type "dict", none, .dict pes pn, #[]⟩) ∈ news) (hps : (pes.all fun e => isExactStrKey e.key) = true) (hpn : nsF pes nm = none) (hcn : nsF (callsE w.params) nm = none) (hon : opens.any (· == nm) = false) (hlz : LenLe nm 100) (hself : (am, instObj 494 adx) ∈ news) (hdict : (adx, selfD w.params j1 j2 j3 j4 j5 j6 an ap aq ar ac) ∈ news)
    (hk1 : At (seed.heap_1 w.params) news ak (kl ks c1)) (hks : KindsOK (seed.heap_1 w.params) news ks) (dk : Digit (ks.length : Int)) :
    Cn w mean mg mb 397 [.ref am, .str nm t, .ref ak, .int spot u] news 20 300 (fun _ _ => False) (fun dx tl => ∃ x t k k', tl = (dx, spotObj w.params x t k spot u k') :: news) := by
  intro dp un gd cn cs a ccd cl outer base L m frs s Q E F X T N O Of nf hk hd hu hret hexc
  refine wpAny_call ?_
  k_dflt ktr_enter
  k_steps
  unfold Marked
  rw [eval_ListComp]
  refine wpAny_comprehension_free (use := none) rfl (fun _ => rfl) (cl := []) (by rfl) rfl (by decide) ?_
  change wpAny _ _ (eval (Expr.Name _ _) _) _ _ _
  k_steps
  refine comp_list (frs := _) (news := _) rfl X hk1 rfl (by have := dk.hi; simp only [List.size_toArray, List.length_map, sizeLine_eq]; omega) (by decide) rfl (by k_asm) (by k_asm) (by assumption) nf (fun k ys => ys.length = varN (ks.take k)) rfl ?_ ?_
  · intro k v ys C oC m₃ own frs₁ h₁ tk₁ hv hm hO hC hJ se F₁ N₁ o₁ n₁
    simp only [List.getElem?_toArray, List.getElem?_map, Option.map_eq_some_iff] at hv
    obtain ⟨x, hx, rfl⟩ := hv
    obtain ⟨⟨t1, u1, h1⟩, -, -⟩ := hks x (List.mem_of_getElem? hx)
    refine wpAny_tests_one ?_
    k_steps
    all_goals (try dsimp only)
    · refine ⟨_, _, _, rfl, SlotEq.refl _, by k_asm, by k_asm, ?_⟩
      rw [List.length_append, hJ, varN_take hx, if_pos (by assumption)]
      rfl
    · refine ⟨_, _, _, rfl, SlotEq.refl _, by k_asm, by k_asm, ?_⟩
      rw [hJ, varN_take hx, if_neg (by rename_i q; rw [q]; exact Bool.false_ne_true)]
      rfl
  · intro D h' tk ys frs' se F₂ N₂ o₂ lt hJ
    have fo2 := se.fr (by assumption)
    have bk2 := Back.slot (by assumption) se
    try dsimp only
    k_steps
    refine len_lst F₂ N₂ (List.mem_append_right _ (.head _)) (by rw [hJ]; have := varN_le (ks := ks.take (ks.map fun p => Value.ref p.1).toArray.size); have h2 := dk.hi; have h3 := List.length_take_le' (l := ks) (i := (ks.map fun p => Value.ref p.1).toArray.size); omega) (fun _ _ => ?_)
    replace N₂ := drop1 N₂
    replace o₂ := off_drop1 o₂
    k_steps
    unfold Marked
    refine make_L w mean mg mb news _ _ u spot _ _ _ _ _ _ _ _ _ base _ _ _ _ _ _ (by k_asm) X T (by k_asm) (by assumption) (by assumption) rfl ?_ ?_ (fun e frs' a' dx k k' h' tk' se F2 N2 off2 ne1 nd1 de eb => ?_)
    · ktr_room
    · first | exact room2 (by assumption) (by decide) | exact room1 (by assumption) (by decide) | omega | (dsimp only [ktrTop]; first | exact room2 (by assumption) (by decide) | exact room1 (by assumption) (by decide) | omega)
    refine ⟨e, a', dx, rfl, X.keeps F2.keep, (N2 _ (List.mem_append_right _ (.head _))).1, ?_⟩
    k_unfold
    dsimp only
    refine leave_made rfl rfl (fun z => nomatch z) F2 N2 (se.fr (by assumption)) off2 ne1 de eb (fun h4 frs4 se4 F4 N4 off4 fly => ?_)
    dsimp only
    exact finx_ hexc ((Back.slot (by assumption) se).slot se4) F4 N4 off4 (NF.cons (NF.ty rfl (by decide)) nf) fly ⟨_, _, _, _, rfl⟩
end
section -- MName, first
theorem len_ls {w : World} {A : Around} {E : Value → Shared → Prop} {s : Shared} {base : Heap} {L : Addr} {m : Str → Option Value} {news all : Led} {a : Addr} {vs : List Value} {n : Nat} {Q : Value → Shared → Prop} (g : At (seed.heap_1 w.params) news a (lst vs)) (X : (seed.heap_1 w.params).In base) (F : Fr base L s.heap m) (N : News base L s.heap all) (hs : ∀ p ∈ news, p ∈ all) (hn : vs.length = n) (hz : n ≤ 16384)
    (h : ∀ t tk, Q (.int n t) { s with toks := tk }) : wpAny (model PySem.Challenge.rw_qd0027_02.row.prog w) A (call (.builtin "len") [.ref a]) Q E s :=
  kun_lenL (k := n) ⟨_, (g.mono hs).get X F N, rfl, _, rfl⟩ (by simp [hn]) (by omega) (h _ _)
theorem item_lsR {w : World} {A : Around} {E : Value → Shared → Prop} {s : Shared} {base : Heap} {L : Addr} {m : Str → Option Value} {news all : Led} {a : Addr} {xs : List Value} {c : Nat} {j : Nat} {value slice : Expr} {k : Int} {u : Tok} {x : Value} {Q : Value → Shared → Prop} (g : At (seed.heap_1 w.params) news a ⟨.type "list", none, .seq xs.toArray c, #[]⟩) (X : (seed.heap_1 w.params).In base) (F : Fr base L s.heap m) (N : News base L s.heap all) (hs : ∀ p ∈ news, p ∈ all)
    (h0 : 0 ≤ k) (hfit : k < 2 ^ 63) (hj : k.toNat = j) (hx : xs[j]? = some x) (h : Q x s) (hsub : subscripted slice false (.ref a) (.int k u) = operate [.ref a, .int k u] (getItem (.ref a) (.int k u)) := by with_unfolding_all rfl) :
    wpAny (model PySem.Challenge.rw_qd0027_02.row.prog w) A (subscriptTail value slice (.ref a) (.int k u)) Q E s :=
  item_listR ⟨_, (g.mono hs).get X F N, rfl, _, rfl⟩ h0 hfit (by rw [hj]; simpa using hx) h hsub
theorem item_lsL {w : World} {A : Around} {E : Value → Shared → Prop} {s : Shared} {base : Heap} {L : Addr} {m : Str → Option Value} {news all : Led} {a : Addr} {xs : List Value} {c : Nat} {value slice : Expr} {u : Tok} {x : Value} {Q : Value → Shared → Prop} (g : At (seed.heap_1 w.params) news a ⟨.type "list", none, .seq xs.toArray c, #[]⟩) (X : (seed.heap_1 w.params).In base) (F : Fr base L s.heap m) (N : News base L s.heap all) (hs : ∀ p ∈ news, p ∈ all)
    (hx : xs[xs.length - 1]? = some x) (h : Q x s) (hsub : subscripted slice false (.ref a) (.int (-1) u) = operate [.ref a, .int (-1) u] (getItem (.ref a) (.int (-1) u)) := by with_unfolding_all rfl) :
    wpAny (model PySem.Challenge.rw_qd0027_02.row.prog w) A (subscriptTail value slice (.ref a) (.int (-1) u)) Q E s := by
  have hl : s.heap.IsList a xs.toArray := ⟨_, (g.mono hs).get X F N, rfl, _, rfl⟩
  have hp : xs.length - 1 < xs.length := (List.getElem?_eq_some_iff.mp hx).1
  refine subscriptTail_builtinR hl.typeIs slot_list_getitem.lookup (wpAny_getItem_list_neg (Q := fun r s' => r = x ∧ Q r s') hl (by decide) (by rw [List.size_toArray]; omega) (by decide) ?_ ⟨rfl, h⟩) hsub
  rw [List.size_toArray, show (-1 + (xs.length : Int)).toNat = xs.length - 1 by omega]
  simpa using hx
end
section
local macro_rules | `(tactic| k_mem) => `(tactic| first | (with_reducible assumption) | (with_reducible exact List.mem_cons_self) | ((with_reducible refine List.mem_cons_of_mem _ ?_); k_mem) | ((with_reducible refine List.mem_append_right _ ?_); k_mem))
local macro_rules | `(tactic| walk_at "compareOp In") => `(tactic| walk_at "H2")
local macro_rules | `(tactic| walk_at "subscriptTail") => `(tactic| walk_at "H3")
local macro_rules | `(tactic| walk_at $k:str) => if ["eval ListComp", "eval ListComp cons nil", "setItem ref str"].contains k.getString then `(tactic| (refine mark ?_)) else Lean.Macro.throwUnsupported
local macro_rules | `(tactic| walk_at "call builtin:len") => `(tactic| (k_here; (with_reducible show wpAny _ _ (call (Value.builtin "len") [Value.ref _]) _ _ _); k_dflt (first |  (refine' len_kl (by assumption) (by assumption) (by k_asm) (by k_asm) (by ktd_sub) (by assumption) ?_) | (refine' len_kt (by assumption) (by assumption) (by k_asm) (by k_asm) (by ktd_sub) (by assumption) ?_)); intro _ _; (try dsimp only)))
local macro_rules | `(tactic| walk_at "subscriptTail") => `(tactic| (k_here; (with_reducible show wpAny _ _ (subscriptTail _ _ (Value.ref _) (Value.int _ _)) _ _ _); k_dflt (refine' item_lsR (by assumption) (by assumption) (by k_asm) (by k_asm) (by ktd_sub) (by decide) (by decide) (by exact rfl) (by exact rfl) ?_); (try dsimp only)))
local macro_rules | `(tactic| walk_at "subscriptTail") => `(tactic| (k_here; (with_reducible show wpAny _ _ (subscriptTail _ _ (Value.ref _) (Value.int (-1) _)) _ _ _); k_dflt (refine' item_lsL (by assumption) (by assumption) (by k_asm) (by k_asm) (by ktd_sub) (by exact rfl) ?_); (try dsimp only)))
section -- MName
noncomputable abbrev namesD (P : Params) (k1 k2 : Tok) (sc aq : Addr) : Obj := { cls := .type "dict", data := .dict #[⟨PyData.keyHash P (Str.ofString "scopes"), .str (Str.ofString "scopes") k1, .ref sc⟩, ⟨PyData.keyHash P (Str.ofString "asked"), .str (Str.ofString "asked") k2, .ref aq⟩] 2 }
theorem nkind_c (w : World) (mean : ExcName → Option Value) (mg mb : Str → Option Value) (rest : Led) (an bdx sc aq s0 av : Addr) (nm : Str) (t u k1 k2 : Tok) (spot : Int) (ses qes : Array DictEntry) (sn qz : Nat)
    (hself : (an, instObj 257 bdx) ∈ rest) (hdict : (bdx, namesD w.params k1 k2 sc aq) ∈ rest) (hsc : At (seed.heap_1 w.params) rest sc (lst [.ref s0])) (hs0 : (s0, dO ses sn) ∈ rest) (hss : (ses.all fun e => isExactStrKey e.key) = true) (hv : nsF ses nm = some (.ref av))
    (hqs : (qes.all fun e => isExactStrKey e.key) = true) (hqz : qes.size ≤ 1000) (hqr : aq ∉ rest.map (·.1)) :
    Cn w mean mg mb 254 [.ref an, .str nm t, .int spot u] ((aq, dO qes qz) :: rest) 5 100 (fun r tl => r = .ref av ∧ ∃ qz', tl = (aq, dO (dputS qes nm t (hashStr w nm) (.bool true)) qz') :: rest) (fun _ _ => False) := by
  intro dp un gd cn cs a ccd cl outer base L m frs s Q E F X T N O Of nf hk hd hu hret hexc
  refine wpAny_call ?_
  k_dflt ktr_enter
  k_steps
  refine len_ls hsc X (by k_asm) (by k_asm) (fun p hp => List.mem_append_right _ (.tail _ hp)) (n := 1) rfl (by decide) (fun _ _ => ?_)
  k_steps
  unfold Marked
  refine dset_led X (by k_asm) (cut_news (by k_asm) fun p hp => .tail _ hp) hqs hqz (by assumption) hqr fun h5 qz' F5 N5 => ?_
  have o₂ : Off _ ((aq, dO (dputS qes nm t (hashStr w nm) (.bool true)) qz') :: rest) := Off.cons (fun hm => (by assumption : Off _ ((aq, dO qes qz) :: rest)) _ (.head _) hm) (off_drop1 (by assumption : Off _ ((aq, dO qes qz) :: rest)))
  replace nf : NF ((aq, dO (dputS qes nm t (hashStr w nm) (.bool true)) qz') :: rest) := NF.cons (NF.ty rfl (by decide)) fun p hp => nf p (.tail _ hp)
  dsimp only
  k_steps
  exact fin_ hret (by assumption) (SlotEq.refl _) F5 N5 _ (fun p hp => hp) o₂ nf ⟨rfl, _, rfl⟩
end
section -- MPut
local macro_rules | `(tactic| walk_at "d0") => `(tactic| skip)
theorem put_c (w : World) (mean : ExcName → Option Value) (mg mb : Str → Option Value) (rest : Led) (an bdx sc aq s0 av : Addr) (nm : Str) (t u k1 k2 : Tok) (spot : Int) (ses : Array DictEntry) (sn : Nat)
    (hself : (an, instObj 257 bdx) ∈ rest) (hdict : (bdx, namesD w.params k1 k2 sc aq) ∈ rest) (hsc : At (seed.heap_1 w.params) rest sc (lst [.ref s0])) (hss : (ses.all fun e => isExactStrKey e.key) = true) (hz : ses.size ≤ 1000) (hv : nsF ses nm = none) (hqr : s0 ∉ rest.map (·.1)) :
    Cn w mean mg mb 247 [.ref an, .str nm t, .ref av, .int spot u] ((s0, dO ses sn) :: rest) 5 100 (fun r tl => r = .none ∧ ∃ sn', tl = (s0, dO (dputS ses nm t (hashStr w nm) (.ref av)) sn') :: rest) (fun _ _ => False) := by
  intro dp un gd cn cs a ccd cl outer base L m frs s Q E F X T N O Of nf hk hd hu hret hexc
  refine wpAny_call ?_
  k_dflt ktr_enter
  k_steps
  unfold Marked
  refine dset_led X (by k_asm) (by k_asm) hss hz (by assumption) hqr fun h5 sn' F5 N5 => ?_
  have o₂ : Off _ ((s0, dO (dputS ses nm t (hashStr w nm) (.ref av)) sn') :: rest) := Off.cons (fun hm => (by assumption : Off _ ((s0, dO ses sn) :: rest)) _ (.head _) hm) (off_drop1 (by assumption : Off _ ((s0, dO ses sn) :: rest)))
  replace nf : NF ((s0, dO (dputS ses nm t (hashStr w nm) (.ref av)) sn') :: rest) := NF.cons (NF.ty rfl (by decide)) fun p hp => nf p (.tail _ hp)
  dsimp only
  k_steps
  exact fin_ hret (by assumption) (SlotEq.refl _) F5 N5 _ (fun p hp => hp) o₂ nf ⟨rfl, _, rfl⟩
end
section -- MEnt
theorem cells_nfo {cm : Str → Option Value} {cs : List (Str × Addr)} {cells : List (Addr × Obj)} (Y : CellsAre cm cs cells) : ∀ p ∈ cells, NFo p.2 := by
  intro q hq
  induction Y with
  | nil => cases hq
  | cons hd _ ih =>
    rcases List.mem_cons.mp hq with rfl | hq
    · exact .inr fun vs e => by rw [hd] at e; cases e
    · exact ih hq
theorem Cn.conv {w : World} {mean : ExcName → Option Value} {mg mb : Str → Option Value} {f : Addr} {vs : List Value} {news news2 : Led} {dd uu dd' uu' : Nat} {Rt Rt' : Value → Led → Prop} {Ex Ex' : Addr → Led → Prop} (C : Cn w mean mg mb f vs news dd uu Rt Ex) (h1 : ∀ p ∈ news, p ∈ news2)
    (h2 : ∀ r tl, Rt r tl → ∃ tl', Rt' r tl' ∧ ∀ p ∈ tl', p ∈ tl) (h3 : ∀ dx tl, Ex dx tl → ∃ tl', Ex' dx tl' ∧ ∀ p ∈ tl', p ∈ tl) (hd : dd ≤ dd') (hu : uu ≤ uu') : Cn w mean mg mb f vs news2 dd' uu' Rt' Ex' := by
  intro dp un gd cn cs a ccd cl outer base L m frs s Q E F X T N O Of nf hk hd' hu' hret hexc
  have sub : ∀ {fr a b : Led}, (∀ p ∈ a, p ∈ b) → ∀ p ∈ fr ++ a, p ∈ fr ++ b := fun h p hp => by
    rcases List.mem_append.mp hp with hp | hp
    · exact List.mem_append_left _ hp
    · exact List.mem_append_right _ (h p hp)
  refine C dp un gd cn cs a ccd cl outer base L m frs s Q E F X T (cut_news N (sub h1)) O (fun p hp => Of p (h1 p hp)) (fun p hp => nf p (h1 p hp)) hk (by omega) (by omega) (fun r frs' tl h' tk' hR se F' N' o' n' => ?_) fun e dx frs' tl h' tk' hE fl se F' N' o' n' => ?_
  · obtain ⟨tl', hR', hs⟩ := h2 r tl hR
    exact hret r frs' tl' h' tk' hR' se F' (cut_news N' (sub hs)) (fun p hp => o' p (hs p hp)) fun p hp => n' p (hs p hp)
  · obtain ⟨tl', hE', hs⟩ := h3 dx tl hE
    exact hexc e dx frs' tl' h' tk' hE' fl se F' (cut_news N' (sub hs)) (fun p hp => o' p (hs p hp)) fun p hp => n' p (hs p hp)
section
variable {prog : Program} {w : World} {A : Around} {K : Frag}
theorem enterC {R : Result → Shared → Prop} {name qual : Str} {params : Arguments} {body : List Stmt} {scope : Scope} {dV kV doc pm cdv ct oc : Value} {an od : Option Addr} {osl : Array (Option Value)} {f : Addr} {args : Args} {binds : List (Str × Value)}
    {base : Heap} {L : Addr} {m : Str → Option Value} {frs news : Led} {env : Env} {outer : List Env} {s : Shared} {p : Program} {loose : List Str} {mean : ExcName → Option Value} {mg mb : Str → Option Value}
    (F : Fr base L s.heap m) (X : K.In base) (T : Top p loose mean mg mb base) (N : News base L s.heap (frs ++ news)) (O : FrOK outer frs) (Of : Off frs news)
    (_hA : A.frames = some (env :: outer)) (hf : env.frame = some L) (hke : env.scope.kind = .function)
    (ho : K.lookup f = some ⟨oc, od, .func (fnOf name qual params body scope dV kV doc pm an cdv ct), osl⟩) (hcd : codeIn K cdv qual = true) (hroom : A.depth < recursionLimit)
    (hbind : BindsTo s (fnOf name qual params body scope dV kV doc pm an cdv ct) args binds) (hkind : (binds.all fun y => scope.names.lookup y.1 == some .local || scope.names.lookup y.1 == some .cell) = true)
    (hnd : ((cellsFrom 0 scope.names []).map (·.1)).Nodup)
    (h : ∀ L' h₁ frs₁ tk cells, FrOK (env :: outer) frs₁ → Off frs₁ (cells ++ news) → Off frs₁ news → Back base L m frs frs₁ → Fr base L' h₁ (bindL (envOfC qual scope L' f cdv).kindOf binds fun _ => none) → CellsAre (bindC (envOfC qual scope L' f cdv).kindOf binds fun _ => none) (cellsFrom (L' + 1) scope.names []) cells →
      News base L' h₁ (frs₁ ++ (cells ++ news)) → (∀ p ∈ cells, NFo p.2) → (∀ p ∈ cells, p.1 ∉ news.map (·.1)) → (∀ p ∈ frs₁ ++ news, p.1 < L') →
      wpAny (model prog w) (A.deeper (envOfC qual scope L' f cdv)) (execs body (envOfC qual scope L' f cdv))
        (fun fl s' => R (.ok (.ret (match fl with | .ret v => v | _ => .none))) s')
        (fun e s' => wpAny (model prog w) (A.deeper (envOfC qual scope L' f cdv)) (leaving (envOfC qual scope L' f cdv) e) (fun _ s'' => R (.error e) s'') (fun e' s'' => R (.error e') s'') s')
        { s with heap := h₁, toks := tk })
    (hco : scope.isCoroutine = false) (hgen : scope.isGenerator = false) (hk : scope.kind = .function) : codeAny (model prog w) A (.call (.ref f) args) R s := by
  refine codeAny_call_function (fd := fnOf name qual params body scope dV kV doc pm an cdv ct) hroom (F.keep _ _ (X _ _ ho)) rfl hco hgen rfl (codeRec_of (X.keeps F.keep) hcd) (hbind _ _ _ _ ?_)
  refine wpAny_newFunctionEnv_cells hk (kindsX hkind _) fun env' he s' x => ?_
  subst he
  refine ⟨(T.nolimit.keeps F.keep).keeps x.toInCall.keep, codeAny_func ?_⟩
  obtain ⟨h₁, tk, rfl, _⟩ := x.done
  have hk₁ := x.toInCall.keep
  obtain ⟨cells, NC, Y⟩ := Cl.news (h₀ := s.heap) (Nat.le_refl _) fun n c hm => ⟨x.cell n c (lookup_of_mem_nodup (cellsFrom_names scope.names 0 (s.heap.objs.size + 1) [] [] rfl ▸ hnd) hm), x.above n c hm⟩
  obtain ⟨oL, es, ep, hL, hLd, hLk, hLf⟩ := F.ns
  have hbL : base.get? L = none := base_L F
  have hLo : L ∉ frs.map (·.1) := fun hm => by
    obtain ⟨q, hq, e⟩ := List.mem_map.mp hm
    exact (N q (List.mem_append_left _ hq)).2.1 e
  have live : ∀ q ∈ ((L, oL) :: frs) ++ news, s.heap.get? q.1 = some q.2 := fun q hq => by
    rcases List.mem_cons.mp hq with rfl | hq
    · exact hL
    · exact (N q hq).1
  have lt : ∀ q ∈ ((L, oL) :: frs) ++ news, q.1 < s.heap.objs.size := fun q hq => Heap.lt_size (live q hq)
  have of1 : Off ((L, oL) :: frs) news := fun q hq hm => by
    rcases List.mem_cons.mp hm with e | hm
    · exact (N q (List.mem_append_right _ hq)).2.1 e
    · exact Of q hq hm
  have apart : ∀ q ∈ cells, ∀ r ∈ ((L, oL) :: frs) ++ news, q.1 ≠ r.1 := fun q hq r hr e => by
    have := (NC q hq).2.2
    rw [e, live r hr] at this; cases this
  refine wpAny_mono (h s.heap.objs.size h₁ ((L, oL) :: frs) tk cells (FrOK.cons (by rw [hke]; decide) hf hLd O) (fun q hq hm => ?_) of1 (back_of hLd hLk hLf F.above hLo) ⟨x.toInCall.ns, fun b o e => hk₁ b o (F.keep b o e), Nat.le_of_lt (Nat.lt_of_le_of_lt F.above (Heap.lt_size hL))⟩ Y (fun q hq => ?_) ?_ (fun q hq hm => ?_) lt) (fun fl s' hl => hl) fun _ _ y => y
  · rcases List.mem_append.mp hq with hq | hq
    · obtain ⟨r, hr, e⟩ := List.mem_map.mp hm
      exact apart q hq r (List.mem_append_left _ hr) e.symm
    · exact of1 q hq hm
  · have g2 : ∀ r ∈ ((L, oL) :: frs) ++ news, h₁.get? r.1 = some r.2 ∧ r.1 ≠ s.heap.objs.size ∧ base.get? r.1 = none := fun r hr => by
      refine ⟨hk₁ _ _ (live r hr), Nat.ne_of_lt (lt r hr), ?_⟩
      rcases List.mem_cons.mp hr with rfl | hr
      · exact hbL
      · exact (N r hr).2.2
    rcases List.mem_append.mp hq with hq | hq
    · exact g2 q (List.mem_append_left _ hq)
    · rcases List.mem_append.mp hq with hq | hq
      · refine ⟨(NC q hq).1, (NC q hq).2.1, ?_⟩
        cases e : base.get? q.1 with
        | none => rfl
        | some o => have := F.keep _ _ e; rw [(NC q hq).2.2] at this; cases this
      · exact g2 q (List.mem_append_right _ hq)
  · exact cells_nfo Y
  · obtain ⟨r, hr, e⟩ := List.mem_map.mp hm
    exact apart q hq r (List.mem_append_right _ hr) e.symm
end

theorem name_cellE {M : Model} {A : Around} {E : Value → Shared → Prop} {s : Shared} {h₀ : Heap} {L : Addr} {news : List (Addr × Obj)} {env : Env} {x : Str} {pos : Pos} {c : Addr} {o : Obj} {v : Value} {Q : Value → Shared → Prop} (N : News h₀ L s.heap news) (hc : env.cells.lookup x = some c) (hm : (c, o) ∈ news) (hd : o.data = .cell (some v)) (h : Q v s)
    (hk : env.scope.kind = .function) (hx : env.kindOf x = some .cell) (hb : (x == ("__debug__" : Str)) = false := by decide) :
    wpAny M A (eval (.Name x pos) env) Q E s := wpAny_Name (wpAny_loadName_cell hk hx hc ⟨o, N.get hm, hd⟩ h) hb
end
section
local macro_rules | `(tactic| ktr_enter) => `(tactic| (refine' enterC (by k_asm) (by k_asm) (by k_asm) (by assumption) (by assumption) (by assumption) (by exact rfl) (by exact rfl) (by assumption) (by k_is) (by k_is) (by ktr_room) (by exact BindsTo.of_eq rfl) (by exact rfl) (by decide +kernel) ?_ (by exact rfl) (by exact rfl) (by exact rfl); k_whole; intro _ _ _ _ _ _ oc _ _ _ Y N _ _ _; k_cells Y; (try simp only [List.cons_append, List.nil_append] at N oc); (try dsimp only); (try k_fold)))
local macro_rules | `(tactic| walk_at "eval Name") => `(tactic| (k_here; (with_reducible show wpAny _ _ (eval (Expr.Name (Str.ofString "self") _) _) _ _ _); k_dflt (refine' nameX_C ?N ?c ?m ?d ?_ ?a ?b; (case a | b => rfl); (case N => k_asm); (case c => rfl); (case m => k_mem); (case d => assumption); k_whole)))
local macro_rules | `(tactic| ktd_sub) => `(tactic| with_reducible walk_at "LSUB")
local macro_rules | `(tactic| walk_at "eval Name") => `(tactic| (k_here; (with_reducible show wpAny _ _ (eval (Expr.Name _ _) (compEnvC _ _ _ _)) _ _ _); k_dflt (refine' name_cellE ?N ?c ?m ?d ?_ ?a ?b; (case a | b => rfl); (case N => k_asm); (case c => rfl); (case m => k_mem); (case d => assumption); k_whole)))
local macro_rules | `(tactic| walk_at $k:str) => if ["pyIter ref", "pyIter str"].contains k.getString then `(tactic| (refine mark ?_)) else Lean.Macro.throwUnsupported
section -- MForA
section
variable {prog : Program} {w : World} {A : Around} {E : Value → Shared → Prop} {s : Shared} {base : Heap} {m : Str → Option Value} {frs news : Led} {K : Frag} {env : Env}
/-- a for loop whose ledger changes, a name of any kind: the store is left to the step -/
theorem for_ledA {x : Str} {px : Pos} {body : List Stmt} {Q : Flow → Shared → Prop} {n : Nat} {P : Nat → Value → Prop} {ls : List Addr} {xv : Value} (LI : LedIter prog w A K news s n P ls xv) (X : K.In base) (F : Fr base env.locals s.heap m) (N : News base env.locals s.heap (frs ++ news)) (Of : Off frs news) (nf : NF news)
    (J : Nat → (Str → Option Value) → Led → Prop) (h0 : J 0 m news)
    (step : ∀ k v m₁ X frs₁ own h₁ tk₁, k < n → P k v → J k m₁ X → SlotEq frs frs₁ → Fr base env.locals h₁ m₁ → News base env.locals h₁ (frs₁ ++ (own ++ X)) → Off frs₁ (own ++ X) → NF (own ++ X) → (∀ p ∈ X, p.1 ∈ own.map (·.1) → p.1 ∈ ls) →
      wpAny (model prog w) A (assign (.Name x px) env v) (fun _ s₃ => wpAny (model prog w) A (execs body env) (MEnd base env.locals frs₁ own X s (J (k + 1)) Q) E s₃) E { s with heap := h₁, toks := tk₁ })
    (done : ∀ h' tk m' frs' X, J n m' X → SlotEq frs frs' → Fr base env.locals h' m' → News base env.locals h' (frs' ++ X) → Off frs' X → NF X → Q .next { s with heap := h', toks := tk }) :
    wpAny (model prog w) A (pyIter xv) (fun it s₂ => TurnsAt prog w A base env (.Name x px) body Q E it s₂) E s := by
  refine LI _ _ fun h' tk I St keep nI ltI S => ?_
  obtain ⟨hL, bI, hI, hfr⟩ := src_apart X F N Of nI S
  refine ⟨I, _, _, n, _, _, St, m, frs ++ news, fun k m₁ n₁ => LedI frs (J k) m₁ n₁, rfl, KTurns.ofWalks S.W (fun i v s Q E _ q => wpAny_pure q), hL, fun b hb => by rw [List.mem_singleton.mp hb]; exact bI, fun p hp hb => hI p hp (List.mem_singleton.mp hb), S.st, F.keeps keep, fun p hp => ⟨keep _ _ (N p hp).1, (N p hp).2⟩, ⟨frs, news, rfl, SlotEq.refl _, h0, Of, nf⟩, ?_, ?_⟩
  · rintro k v m₁ news₁ h₁ tk₁ own hk' hP ⟨frs₁, X₁, rfl, se, hJ, o1, n1⟩ hn hown hget hall hst F₁ N₁
    have off : Off frs₁ (own ++ X₁) := fun p hp hm => by
      rcases List.mem_append.mp hp with hp | hp
      · rw [← se.keys] at hm
        obtain ⟨q, hq, e⟩ := List.mem_map.mp hm
        exact hfr q hq (by rw [e]; exact hown p hp)
      · exact o1 p hp hm
    have nfo : NF (own ++ X₁) := fun p hp => by
      rcases List.mem_append.mp hp with hp | hp
      · exact S.nfo _ _ _ _ hst (hown p hp) (hget p hp)
      · exact n1 p hp
    have N₂ : News base env.locals h₁ (frs₁ ++ (own ++ X₁)) := cut_news N₁ fun p hp => by
      simp only [List.mem_append] at hp ⊢
      rcases hp with h | h | h
      · exact .inr (.inl h)
      · exact .inl h
      · exact .inr (.inr h)
    refine wpAny_mono (step k v m₁ X₁ frs₁ own h₁ _ hk' hP hJ se F₁ N₂ off nfo (fun p hp hm => by
      obtain ⟨q, hq, e⟩ := List.mem_map.mp hm
      have y := hown q hq
      rw [e] at y
      exact (List.mem_cons.mp y).resolve_left fun z => hn p (List.mem_append_right _ hp) (List.mem_singleton.mpr z))) (fun _ s₃ h₃ => wpAny_mono h₃ (fun f s₄ h₄ => ?_) fun _ _ e => e) fun _ _ e => e
    have fin : MNext base env.locals frs₁ own X₁ s.gens s.drawn s.os (J (k + 1)) s₄ →
        LoopStepU base env.locals [I] own (fun m₁ n₁ => LedI frs (J (k + 1)) m₁ n₁) { s with heap := h₁, toks := tk₁ } .next s₄ := by
      rintro ⟨h', tk, m', frs', X', rfl, se', F', N', o', n', new', hJ'⟩
      refine ⟨rfl, h', tk, m', frs' ++ X', rfl, F', cut_news N' fun p hp => ?_, fun p hp hm => ?_, frs', X', rfl, se.trans se', hJ', o', n'⟩
      · simp only [List.mem_append] at hp ⊢
        rcases hp with h | h | h
        · exact .inr (.inl h)
        · exact .inl h
        · exact .inr (.inr h)
      · have hm' := List.mem_singleton.mp hm
        rcases List.mem_append.mp hp with hp | hp
        · have y := List.mem_map_of_mem (f := Prod.fst) hp
          rw [← (se.trans se').keys] at y
          obtain ⟨q, hq, e⟩ := List.mem_map.mp y
          exact hI q (List.mem_append_left _ hq) (by rw [e]; exact hm')
        · rcases new' p hp with y | y
          · obtain ⟨q, hq, e⟩ := List.mem_map.mp y
            exact hn q (List.mem_append_right _ hq) (by rw [e]; exact hm)
          · obtain ⟨o, ho⟩ := S.live _ _ hst
            exact y (List.mem_map.mpr ⟨(I, o), hall I (.head _) bI o ho, hm'.symm⟩)
    cases f with
    | ret v => exact h₄
    | brk => exact h₄
    | next => exact fin h₄
    | cont => exact fin h₄
  · rintro h' tk m' news' F' N' _ ⟨frs', X', rfl, se, hJ, o', n'⟩
    exact done h' tk m' frs' X' hJ se F' N' o' n'
end
end
section -- MCellS
/-- the store into a cell variable, in the ledger -/
theorem cellset_led {prog : Program} {w : World} {A : Around} {E : Value → Shared → Prop} {s : Shared} {env : Env} {base : Heap} {m : Str → Option Value} {frs X : Led} {c : Addr} {o : Obj} {v₀ : Option Value} {x : Str} {px : Pos} {v : Value} {Q : Unit → Shared → Prop}
    (F : Fr base env.locals s.heap m) (N : News base env.locals s.heap (frs ++ ((c, o) :: X))) (of : Off frs ((c, o) :: X)) (hx : c ∉ X.map (·.1)) (hk : env.scope.kind = .function) (hl : env.kindOf x = some .cell) (hc : env.cells.lookup x = some c) (ho : o.data = .cell v₀)
    (h : ∀ h' o', o'.data = .cell (some v) → NFo o' → Fr base env.locals h' m → News base env.locals h' (frs ++ ((c, o') :: X)) → Q () { s with heap := h' }) :
    wpAny (model prog w) A (assign (.Name x px) env v) Q E s := by
  have hd := N (c, o) (List.mem_append_right _ (.head _))
  refine wpAny_assign_Name (wpAny_storeName_cell hk hl hc ⟨o, hd.1, ho⟩ fun h' hcell hsb => ?_)
  obtain ⟨o', e, ho'⟩ := hcell
  refine h h' o' ho' (.inr fun vs hv => ?_) (F.change hsb hd.2.1 hd.2.2) fun p hp => ?_
  · rw [ho'] at hv
    cases hv
  have old : ∀ p ∈ frs ++ X, h'.get? p.1 = some p.2 ∧ p.1 ≠ env.locals ∧ base.get? p.1 = none := fun p hp => by
    have n := N p (by rcases List.mem_append.mp hp with q | q; exact List.mem_append_left _ q; exact List.mem_append_right _ (.tail _ q))
    refine ⟨hsb.extBut _ _ (fun q => ?_) n.1, n.2⟩
    rcases List.mem_append.mp hp with y | y
    · have y' := List.mem_map_of_mem (f := Prod.fst) y
      rw [q] at y'
      exact of _ (.head _) y'
    · have y' := List.mem_map_of_mem (f := Prod.fst) y
      rw [q] at y'
      exact hx y'
  rcases List.mem_append.mp hp with hp | hp
  · exact old p (List.mem_append_left _ hp)
  · rcases List.mem_cons.mp hp with rfl | hp
    · exact ⟨e, hd.2⟩
    · exact old p (List.mem_append_right _ hp)
end
section -- MCompA
section
variable {prog : Program} {w : World} {A : Around} {E : Value → Shared → Prop} {s : Shared} {env : Env} {base : Heap} {m : Str → Option Value} {frs news : Led}
variable {elt iter : Expr} {ifs : List Expr} {scope : Scope} {cl : List (Str × Addr)} {pos : Pos}
/-- x = [.. for ..]: the assignment is the comprehension's own last step -/
theorem asg_comp {y : Str} {py spos : Pos} {g : Comprehension} {Q : Flow → Shared → Prop}
    (hsw : swapsWith (.ListComp elt [g] scope pos) (some (.Name y py)) spos.line env = pure true)
    (hs : ∀ x, foldedSetIterable g.iter env x = pure x) (hclos : closureFor scope env = pure cl)
    (hkind : scope.kind = .function) (hnames : ∀ x ∈ scope.names, x.2 = .local → scope.names.lookup x.1 = some .local) (hg : g.is_async = 0)
    (h : wpAny (model prog w) A (eval g.iter env) (fun x s₁ => wpAny (model prog w) A (pyIter x) (fun it s₂ => wpAny (model prog w) A (newList []) (fun acc s₃ =>
      wpAny (model prog w) A (newFunctionEnv scope env.globals cl [] env.qual none .none (some env)) (fun cenv s₄ =>
        codeAny (model prog w) A (.compStart (.ListComp elt [g] scope pos) 0 it acc { cenv with scope := relabel scope env }) (compPost (model prog w) A E (some (assign (.Name y py) env)) (fun _ s' => Q .next s') acc cenv.locals) s₄) E s₃) E s₂) E s₁) E s) :
    wpAny (model prog w) A (exec (.Assign [.Name y py] (.ListComp elt [g] scope pos) spos) env) Q E s := by
  rw [exec_Assign_Name_used _ _ _ _ hsw]
  refine wpAny_bind (wpAny_standAt (wpAny_bind ?_))
  obtain ⟨target, iter, ifs, as_⟩ := g
  dsimp only at hg
  subst hg
  show wpAny _ A (do let _ ← comprehension (.ListComp elt [⟨target, iter, ifs, 0⟩] scope pos) scope env _ (newList []) false (eval iter env) (some (assign (.Name y py) env))) _ _ s
  exact wpAny_bind (wpAny_mono (wpAny_comprehension_free (use := some (assign (.Name y py) env)) (Q := fun _ s' => Q .next s') rfl hs hclos hkind hnames h) (fun _ s' hq => wpAny_pure (wpAny_pure hq)) fun _ _ e => e)
theorem comp_ledR {RR : Value → Addr → Result → Shared → Prop} {x : Str} {px : Pos} {K : Frag} {n : Nat} {P : Nat → Value → Prop} {ls : List Addr} {xv : Value} {L : Addr} (LI : LedIter prog w A K news s n P ls xv) (X : K.In base) (hx : scope.names.lookup x = some .local)
    (hsz : n ≤ sizeLine) (hcell : ∀ y ∈ scope.names, y.2 ≠ .cell) (hkind : scope.kind = .function)
    (F : Fr base L s.heap m) (N : News base L s.heap (frs ++ news)) (Of : Off frs news) (nf : NF news) (J : Nat → List Value → Led → Prop) (h0 : J 0 [] news)
    (step : ∀ k v ys C oC m₃ own X frs₁ h₁ tk₁, k < n → P k v → m₃ x = some v → NsO oC m₃ → (C, oC) ∈ own → J k ys X → SlotEq frs frs₁ → Fr base L h₁ m → News base L h₁ (frs₁ ++ (own ++ X)) → Off frs₁ (own ++ X) → NF (own ++ X) → (∀ p ∈ X, p.1 ∈ own.map (·.1) → p.1 ∈ ls) →
      wpAny (model prog w) A (forIn ifs true fun c r => if r = true then do let ok ← isTrue c (compEnvC scope cl C env) (eval c (compEnvC scope cl C env)); pure (ForInStep.yield ok) else pure (ForInStep.yield r)) (fun ok s₃ =>
        if ok = true then wpAny (model prog w) A (eval elt (compEnvC scope cl C env)) (fun y => CEndM base L m frs₁ own X s (J (k + 1) (ys ++ [y]))) (fun _ _ => False) s₃
        else CEndM base L m frs₁ own X s (J (k + 1) ys) s₃) (fun _ _ => False) { s with heap := h₁, toks := tk₁ })
    (hRR : ∀ D C h tk m' ys frs' X, SlotEq frs frs' → Fr base L h m → News base L h ((D, lstN ys) :: (frs' ++ X)) → Off frs' ((D, lstN ys) :: X) → NF X → h.Ns C m' → base.get? C = none → C ≠ L → C ≠ D → (∀ p ∈ frs' ++ X, p.1 ≠ C) → (∀ p ∈ frs ++ news, p.1 < D) → D ∉ X.map (·.1) → J n ys X → RR (.ref D) C (.ok .next) { s with heap := h, toks := tk }) :
    wpAny (model prog w) A (pyIter xv) (fun it s₂ => wpAny (model prog w) A (newList []) (fun acc s₃ => wpAny (model prog w) A (newFunctionEnv scope env.globals cl [] env.qual none .none (some env)) (fun cenv s₄ =>
      codeAny (model prog w) A (.compStart (.ListComp elt [⟨.Name x px, iter, ifs, 0⟩] scope pos) 0 it acc { cenv with scope := relabel scope env }) (RR acc cenv.locals) s₄) E s₃) E s₂) E s := by
  refine LI _ _ fun h' tk I St keep nI ltI S => ?_
  obtain ⟨hL, bI, hI, hfr⟩ := src_apart X F N Of nI S
  have F' := F.keeps keep
  have N' : News base L h' (frs ++ news) := fun p hp => ⟨keep _ _ (N p hp).1, (N p hp).2⟩
  have W := KTurns.ofWalks (target := .Name x px) S.W (fun i v s Q E _ q => wpAny_pure q)
  refine comp_blockM (s := { s with heap := h', toks := tk }) (frs := frs) (news := news) (m := m) (base := base) (L := L) W (fun s Q E st q => S.W.self 0 s Q E st q) hsz hcell hkind S.st ?_ hL (fun b hb => by rw [List.mem_singleton.mp hb]; exact bI) (fun p hp hb => hI p hp (List.mem_singleton.mp hb)) hfr S.nfo (fun k h b st hb => by rw [List.mem_singleton.mp hb]; exact S.live k h st) F' N' Of nf (fun k m₃ => ∃ v, P k v ∧ m₃ x = some v) ?_ J h0 ?_ hRR
  · intro b hb
    rcases List.mem_cons.mp hb with rfl | hb
    · exact ltI
    · obtain ⟨o, g⟩ := S.own _ hb
      rcases g with g | g
      · exact Heap.lt_size (F'.keep _ _ (X _ _ g))
      · exact Heap.lt_size (N' _ (List.mem_append_right _ g)).1
  · intro k C v s' m₂ Q' E' _ hP hn _ _ hq
    exact wpAny_assign_Name (wpAny_storeName_local (lookup_relabel_local hx) hn (fun h₃ hn₃ hs₃ => hq h₃ _ _ (fun b o hb e => hs₃.extBut b o hb e) hn₃ ⟨v, hP, by simp⟩) (by simp [compEnvC, relabel, hkind]))
  · intro k ys C oC m₃ own X₁ frs₁ h₁ tk₁ hk hB hO hm hJ se F₁ N₁ o₁ n₁ hap
    obtain ⟨v, hv, hx'⟩ := hB
    exact step k v ys C oC m₃ own X₁ frs₁ h₁ tk₁ hk hv hx' hO hm hJ se F₁ N₁ o₁ n₁ (fun p hp hm => (List.mem_cons.mp (hap p hp hm).1).resolve_left fun z => (hap p hp hm).2 (List.mem_singleton.mpr z))
theorem led_but {h h'' : Heap} {C L : Addr} {X frs' : Led} {D : Addr} {o : Obj} (hs'' : Heap.SameBut C h h'') (N₁ : News base L h ((D, o) :: (frs' ++ X))) (hCD : C ≠ D) (hne : ∀ p ∈ frs' ++ X, p.1 ≠ C) : News base L h'' (frs' ++ ((D, o) :: X)) := fun p hp => by
  have k1 : ∀ p ∈ frs' ++ X, h''.get? p.1 = some p.2 ∧ p.1 ≠ L ∧ base.get? p.1 = none := fun p hp => ⟨hs''.extBut _ _ (hne p hp) (N₁ p (.tail _ hp)).1, (N₁ p (.tail _ hp)).2⟩
  rcases List.mem_append.mp hp with hp | hp
  · exact k1 p (List.mem_append_left _ hp)
  · rcases List.mem_cons.mp hp with rfl | hp
    · exact ⟨hs''.extBut _ _ (Ne.symm hCD) (N₁ _ (.head _)).1, (N₁ _ (.head _)).2⟩
    · exact k1 p (List.mem_append_right _ hp)
/-- the comprehension's list is stored into a local name -/
theorem comp_ledA {x y : Str} {px py : Pos} {Q : Value → Shared → Prop} {K : Frag} {n : Nat} {P : Nat → Value → Prop} {ls : List Addr} {xv : Value} (LI : LedIter prog w A K news s n P ls xv) (X : K.In base) (hx : scope.names.lookup x = some .local)
    (hsz : n ≤ sizeLine) (hcell : ∀ y ∈ scope.names, y.2 ≠ .cell) (hkind : scope.kind = .function) (hy : env.kindOf y = some .local) (hp : env.scope.kind = .function)
    (F : Fr base env.locals s.heap m) (N : News base env.locals s.heap (frs ++ news)) (Of : Off frs news) (nf : NF news) (J : Nat → List Value → Led → Prop) (h0 : J 0 [] news)
    (step : ∀ k v ys C oC m₃ own X frs₁ h₁ tk₁, k < n → P k v → m₃ x = some v → NsO oC m₃ → (C, oC) ∈ own → J k ys X → SlotEq frs frs₁ → Fr base env.locals h₁ m → News base env.locals h₁ (frs₁ ++ (own ++ X)) → Off frs₁ (own ++ X) → NF (own ++ X) → (∀ p ∈ X, p.1 ∈ own.map (·.1) → p.1 ∈ ls) →
      wpAny (model prog w) A (forIn ifs true fun c r => if r = true then do let ok ← isTrue c (compEnvC scope cl C env) (eval c (compEnvC scope cl C env)); pure (ForInStep.yield ok) else pure (ForInStep.yield r)) (fun ok s₃ =>
        if ok = true then wpAny (model prog w) A (eval elt (compEnvC scope cl C env)) (fun y => CEndM base env.locals m frs₁ own X s (J (k + 1) (ys ++ [y]))) (fun _ _ => False) s₃
        else CEndM base env.locals m frs₁ own X s (J (k + 1) ys) s₃) (fun _ _ => False) { s with heap := h₁, toks := tk₁ })
    (done : ∀ D h tk ys frs' X, SlotEq frs frs' → Fr base env.locals h (fun z => if z = y then some (.ref D) else m z) → News base env.locals h (frs' ++ ((D, lstN ys) :: X)) → Off frs' ((D, lstN ys) :: X) → NF X → (∀ p ∈ frs ++ news, p.1 < D) → D ∉ X.map (·.1) → J n ys X → Q .none { s with heap := h, toks := tk }) :
    wpAny (model prog w) A (pyIter xv) (fun it s₂ => wpAny (model prog w) A (newList []) (fun acc s₃ => wpAny (model prog w) A (newFunctionEnv scope env.globals cl [] env.qual none .none (some env)) (fun cenv s₄ =>
      codeAny (model prog w) A (.compStart (.ListComp elt [⟨.Name x px, iter, ifs, 0⟩] scope pos) 0 it acc { cenv with scope := relabel scope env }) (compPost (model prog w) A E (some (assign (.Name y py) env)) Q acc cenv.locals) s₄) E s₃) E s₂) E s := by
  refine comp_ledR LI X hx hsz hcell hkind F N Of nf J h0 step fun D C h tk m' ys frs' X₁ se F₁ N₁ o₁ n₁ hn hC₀ hCL hCD hne hlt hD hJ => ?_
  show wpAny _ A (assign (.Name y py) env (.ref D)) _ _ _
  refine wpAny_assign_Name (wpAny_storeName_local hy F₁.ns (fun h₂ hn₂ hs₂ => ?_) (by rw [hp]; rfl))
  have hL₀ : base.get? env.locals = none := Heap.get?_none_of_le F₁.above
  have F₂ : Fr base env.locals h₂ (fun z => if z = y then some (.ref D) else m z) := ⟨hn₂, fun b o e => hs₂.extBut b o (fun q => by rw [q, hL₀] at e; cases e) (F₁.keep b o e), F₁.above⟩
  exact ⟨m', hn.sameBut hs₂ hCL, fun h'' hs'' => done D h'' _ ys frs' X₁ se (F₂.change hs'' hCL hC₀) (led_but hs'' (N₁.set hs₂) hCD hne) o₁ n₁ hlt hD hJ⟩
end
end
section -- MKind
theorem kindN_c (w : World) (mean : ExcName → Option Value) (mg mb : Str → Option Value) (rest : Led) (am nd adx an ap aq ar ac bdx sc as s0 av : Addr) (nm : Str) (t t1 t2 u k1 k2 j1 j2 j3 j4 j5 j6 : Tok) (spot : Int) (ses qes : Array DictEntry) (sn qz : Nat)
    (hself : (am, instObj 494 adx) ∈ rest) (hdict : (adx, selfD w.params j1 j2 j3 j4 j5 j6 an ap aq ar ac) ∈ rest) (hnam : (an, instObj 257 bdx) ∈ rest) (hndict : (bdx, namesD w.params k1 k2 sc as) ∈ rest) (hsc : At (seed.heap_1 w.params) rest sc (lst [.ref s0])) (hs0 : (s0, dO ses sn) ∈ rest) (hss : (ses.all fun e => isExactStrKey e.key) = true) (hv : nsF ses nm = some (.ref av))
    (hqs : (qes.all fun e => isExactStrKey e.key) = true) (hqz : qes.size ≤ 1000) (hqr : as ∉ rest.map (·.1)) (hnd : At (seed.heap_1 w.params) rest nd (tup [.str (Str.ofString "name") t1, .int spot u, .str nm t])) :
    Cn w mean mg mb 287 [.ref am, .ref nd] ((as, dO qes qz) :: rest) 10 200 (fun r tl => r = .ref av ∧ ∃ qz', tl = (as, dO (dputS qes nm t (hashStr w nm) (.bool true)) qz') :: rest) (fun _ _ => False) := by
  intro dp un gd cn cs a ccd cl outer base L m frs s Q E F X T N O Of nf hk hd hu hret hexc
  refine wpAny_call ?_
  k_dflt ktr_enter
  refine gen_wpE fun E9 hE9 => ?_
  rename_i L' h' frs' tk' fo' of' bk' F' l1' o' d1' oc' N' nc' ap'
  replace d1' : o'.data = .cell (some (.ref am)) := d1'
  replace F' : Fr base L' h' (fun y => if y = Str.ofString "node" then some (.ref nd) else none) := F'
  (first | (k_unfold; (try dsimp only)) | skip)
  k_steps
  refine Cn.use (nkind_c w mean mg mb rest an bdx sc as s0 av nm t u k1 k2 spot ses qes sn qz hnam hndict hsc hs0 hss hv hqs hqz hqr) (by k_asm) X T (frs := frs') (cut_news (by k_asm) (by ktd_sub)) (by assumption) (by assumption) nf (by assumption) rfl ?_ ?_ (fun r f2 tl2 h2 tk2 R2 S2 O2 o2 n2 b2 F2 N2 => ?_) (fun e dx f2 tl2 h2 tk2 R2 => R2.elim)
  · ktr_room
  · dsimp only [ktrTop]; first | exact room2 (by assumption) (by decide) | exact room1 (by assumption) (by decide) | omega
  obtain ⟨rfl, qz', rfl⟩ := R2
  exact fin_ hret b2 (SlotEq.refl _) F2 N2 _ (fun p hp => hp) o2 n2 ⟨rfl, _, rfl⟩
end
section -- MKindC
local macro_rules | `(tactic| walk_at "d0") => `(tactic| skip)
noncomputable def NodesOK (K : Frag) (news : Led) (ses : Array DictEntry) (ps : List (Addr × Addr)) : Prop := ∀ p ∈ ps, ∃ t1 sp u nm t, At K news p.1 (tup [.str (Str.ofString "name") t1, .int sp u, .str nm t]) ∧ nsF ses nm = some (.ref p.2)
noncomputable def AskOK (qes : Array DictEntry) (n : Nat) : Prop := (qes.all fun e => isExactStrKey e.key) = true ∧ qes.size ≤ n
theorem AskOK.put {qes : Array DictEntry} {n : Nat} {k : Str} {tk : Tok} {hs : Int} {v : Value} (h : AskOK qes n) : AskOK (dputS qes k tk hs v) (n + 1) := by
  obtain ⟨h1, h2⟩ := h
  unfold dputS
  split
  · refine ⟨?_, by rw [Array.size_modify]; omega⟩
    rw [Array.all_eq_true] at h1 ⊢
    intro i hi
    rw [Array.size_modify] at hi
    rw [Array.getElem_modify]
    split
    · exact h1 i hi
    · exact h1 i hi
  · refine ⟨?_, by rw [Array.size_push]; omega⟩
    rw [Array.all_push, h1]
    rfl
/-- a new kind ahead, the asked names, the rest by Post -/
noncomputable def CallR (as : Addr) (qes : Array DictEntry) (qz : Nat) (rest : Led) (k : KD) (Post : Led → Prop) (r : Value) (tl : Led) : Prop := ∃ D t u rest', r = .ref D ∧ D ∉ rest.map (·.1) ∧ D ≠ as ∧ Post rest' ∧ tl = (D, tup [.str k.b t, .bool k.v, .int k.d u]) :: (as, dO qes qz) :: rest'
local macro_rules | `(tactic| walk_at $k:str) => if ["call ref", "call ref cons nil"].contains k.getString then `(tactic| (refine mark ?_)) else Lean.Macro.throwUnsupported
theorem off_sub {f a b : Led} (o : Off f a) (h : ∀ p ∈ b, p ∈ a) : Off f b := fun p hp => o p (h p hp)
theorem nf_sub {a b : Led} (o : NF a) (h : ∀ p ∈ b, p ∈ a) : NF b := fun p hp => o p (h p hp)
theorem key_mem {l : Led} {p : Addr × Obj} (h : p ∈ l) : p.1 ∈ l.map (·.1) := List.mem_map_of_mem (f := Prod.fst) h
theorem At.ne {K : Frag} {base h : Heap} {L a b : Addr} {m : Str → Option Value} {news all : Led} {oa ob : Obj} (g : At K news a oa) (X : K.In base) (F : Fr base L h m) (N : News base L h all) (hs : ∀ p ∈ news, p ∈ all) (hb : (b, ob) ∈ all) (hne : oa.cls ≠ ob.cls) : a ≠ b := fun e => by
  have g1 := (g.mono hs).get X F N
  have g2 := (N _ hb).1
  dsimp only at g2
  rw [e, g2] at g1
  exact hne (congrArg Obj.cls (Option.some.inj g1).symm)
/-- where kind_of's walk over the arguments stands -/
inductive KcJ (as : Addr) (q0 : Nat) (ps : List (Addr × Addr)) (R : Led) (k : Nat) (ys : List Value) (X : Led) : Prop
  | of (qes : Array DictEntry) (qz : Nat) (ha : AskOK qes (q0 + k)) (eX : X = (as, dO qes qz) :: R) (eY : ys = (ps.take k).map fun p => Value.ref p.2)
theorem kindC_c (w : World) (mean : ExcName → Option Value) (mg mb : Str → Option Value) (rest : Led) (am nd pt adx an ap aq ar ac bdx sc as s0 : Addr) (nm : Str) (t t1 u k1 k2 j1 j2 j3 j4 j5 j6 : Tok) (spot : Int) (ses qes : Array DictEntry) (sn qz q0 : Nat) (ps : List (Addr × Addr)) (kd : KD) (Post : Led → Prop)
    (hself : (am, instObj 494 adx) ∈ rest) (hdict : (adx, selfD w.params j1 j2 j3 j4 j5 j6 an ap aq ar ac) ∈ rest) (hnam : (an, instObj 257 bdx) ∈ rest) (hndict : (bdx, namesD w.params k1 k2 sc as) ∈ rest) (hsc : At (seed.heap_1 w.params) rest sc (lst [.ref s0])) (hs0 : (s0, dO ses sn) ∈ rest) (hss : (ses.all fun e => isExactStrKey e.key) = true)
    (hqs : AskOK qes q0) (hqz : q0 + ps.length ≤ 1000) (hqr : as ∉ rest.map (·.1)) (hnd : At (seed.heap_1 w.params) rest nd (tup [.str (Str.ofString "call") t1, .int spot u, .str nm t, .ref pt])) (hpt : At (seed.heap_1 w.params) rest pt (tup (ps.map fun p => .ref p.1))) (hps : NodesOK (seed.heap_1 w.params) rest ses ps)
    (hcall : ∀ dl c qes qz, AskOK qes (q0 + ps.length) → as ∉ rest.map (·.1) → Cn w mean mg mb 397 [.ref am, .str nm t, .ref dl, .int spot u] ((dl, ⟨.type "list", none, .seq (ps.map fun p => Value.ref p.2).toArray c, #[]⟩) :: (as, dO qes qz) :: rest) 20 300 (CallR as qes qz rest kd Post) (fun _ _ => False)) :
    Cn w mean mg mb 287 [.ref am, .ref nd] ((as, dO qes qz) :: rest) 30 500 (fun r tl => ∃ qes' qz', AskOK qes' (q0 + ps.length) ∧ CallR as qes' qz' rest kd Post r tl) (fun _ _ => False) := by
  intro dp un gd cn cs a ccd cl outer base L m frs s Q E F X T N O Of nf hk hd hu hret hexc
  refine wpAny_call ?_
  k_dflt ktr_enter
  refine gen_wpE fun E9 hE9 => ?_
  rename_i L' h' frs' tk' fo' of' bk' F' l1' o' d1' oc' N' nc' ap'
  replace d1' : o'.data = .cell (some (.ref am)) := d1'
  replace F' : Fr base L' h' (fun y => if y = Str.ofString "node" then some (.ref nd) else none) := F'
  k_steps
  unfold Marked
  rw [eval_ListComp]
  refine wpAny_comprehension_free (use := none) rfl (fun _ => rfl) (cl := [(Str.ofString "self", L' + 1)]) (by rfl) rfl (by decide) ?_
  change wpAny _ _ (eval (Expr.Subscript _ _ _) _) _ _ _
  k_steps
  unfold Marked
  have fF := (by k_asm : Fr base L' _ _)
  have N1 : News base L' _ (frs' ++ ((as, dO qes qz) :: (L' + 1, o') :: rest)) := cut_news (by k_asm) (by ktd_sub)
  have o1 : Off frs' ((as, dO qes qz) :: (L' + 1, o') :: rest) := fun p hp => oc' p (by exact (show ∀ p ∈ _, p ∈ _ by with_reducible walk_at "LSUB") _ hp)
  have hc0 : NFo o' := nc' _ (.head _)
  have n1 : NF ((as, dO qes qz) :: (L' + 1, o') :: rest) := NF.cons (NF.ty rfl (by decide)) (NF.cons hc0 fun p hp => nf p (.tail _ hp))
  have cr : ∀ p ∈ rest, p.1 ≠ L' + 1 := fun p hp e => ap' _ (.head _) (by have y := key_mem (List.mem_cons_of_mem (as, dO qes qz) hp); rw [e] at y; exact y)
  have ca : as ≠ L' + 1 := fun e => ap' _ (.head _) (by have y := key_mem (List.mem_cons_self (a := (as, dO qes qz)) (l := rest)); rw [show (as, dO qes qz).1 = L' + 1 from e] at y; exact y)
  have up : ∀ o : Obj, ∀ p ∈ rest, p ∈ (as, o) :: (L' + 1, o') :: rest := fun o p hp => .tail _ (.tail _ hp)
  obtain ⟨R, hR⟩ : ∃ R : Led, R = (L' + 1, o') :: rest := ⟨_, rfl⟩
  have mR : (L' + 1, o') ∈ R := by rw [hR]; exact .head _
  have upR : ∀ p ∈ rest, p ∈ R := by rw [hR]; exact fun _ h => .tail _ h
  have hselfR := upR _ hself
  have hdictR := upR _ hdict
  have haR : as ∉ R.map (·.1) := by
    rw [hR]
    intro hm
    rcases List.mem_cons.mp hm with e | e
    · exact ca e
    · exact hqr e
  rw [← hR] at N1 o1 n1 up
  clear hR
  refine comp_led (K := seed.heap_1 w.params) (li_tuple rfl X fF N1 (hpt.mono (up _)) (fun p hp => List.mem_append_right _ hp)) X rfl (by rw [List.size_toArray, List.length_map, sizeLine_eq]; exact Nat.le_trans (Nat.le_trans (Nat.le_add_left _ q0) hqz) (by decide)) (by decide) rfl fF N1 o1 n1
    (KcJ as q0 ps R) ⟨qes, qz, hqs, rfl, rfl⟩ ?_ ?_
  · intro k v ys C oC m₃ own X₁ frs₁ h₁ tk₁ hk hv hm hO hC hJ se F₁ N₁ o₁ n₁ hap
    obtain ⟨qes1, qz1, ha, rfl, rfl⟩ := hJ
    rw [List.getElem?_toArray, List.getElem?_map, Option.map_eq_some_iff] at hv
    obtain ⟨x, hx, rfl⟩ := hv
    obtain ⟨y1, y2, y3, y4, y5, hx1, hx2⟩ := hps x (List.mem_of_getElem? hx)
    have fo2 := se.fr fo'
    have bk2 := Back.slot bk' se
    have has : as ∉ (own ++ R).map (·.1) := fun hm' => by
      rw [List.map_append, List.mem_append] at hm'
      rcases hm' with e | e
      · have y := List.mem_singleton.mp (hap _ (.head _) e)
        exact hpt.ne X F₁ N₁ (fun p hp => List.mem_append_right _ (List.mem_append_right _ (up _ p hp))) (List.mem_append_right _ (List.mem_append_right _ (.head _))) (fun z => absurd (Value.type.inj z) (by decide)) y.symm
      · exact haR e
    have upo : ∀ p ∈ rest, p ∈ own ++ R := fun p hp => List.mem_append_right _ (upR p hp)
    refine wpAny_pure ?_
    change wpAny _ _ (eval _ _) _ _ _
    refine gen_wp fun Q9 hQ9 => ?_
    k_steps
    unfold Marked
    refine Cn.use (kindN_c w mean mg mb (own ++ R) am x.1 adx an ap aq ar ac bdx sc as s0 x.2 y4 y5 y1 y1 y3 k1 k2 j1 j2 j3 j4 j5 j6 y2 ses qes1 sn qz1 (upo _ hself) (upo _ hdict) (upo _ hnam) (upo _ hndict) (hsc.mono upo) (upo _ hs0) hss hx2 ha.1 (Nat.le_trans ha.2 (by have := (List.getElem?_eq_some_iff.mp hx).1; omega)) has (hx1.mono upo)) (by k_asm) X T (frs := frs₁) (cut_news N₁ (by ktd_sub)) fo2 (fun p hp => o₁ p (by exact (show ∀ p ∈ _, p ∈ _ by with_reducible walk_at "LSUB") _ hp)) (fun p hp => n₁ p (by exact (show ∀ p ∈ _, p ∈ _ by with_reducible walk_at "LSUB") _ hp)) bk2 rfl ?_ ?_ (fun r f2 tl2 h2 tk2 R2 S2 O2 o2 n2 b2 F2 N2 => ?_) (fun e dx f2 tl2 h2 tk2 R2 => R2.elim)
    · ktr_room
    · dsimp only [ktrTop]; first | exact room2 (by assumption) (by decide) | exact room1 (by assumption) (by decide) | omega
    obtain ⟨rfl, qz', rfl⟩ := R2
    subst hQ9
    refine ⟨h2, tk2, f2, (as, dO (dputS qes1 y4 y5 (hashStr w y4) (.bool true)) qz') :: R, rfl, S2, F2, cut_news N2 (by ktd_sub), fun p hp => o2 p (by exact (show ∀ p ∈ _, p ∈ _ by with_reducible walk_at "LSUB") _ hp), fun p hp => n2 p (by exact (show ∀ p ∈ _, p ∈ _ by with_reducible walk_at "LSUB") _ hp), ?_, _, _, ha.put, rfl, ?_⟩
    · intro p hp
      rcases List.mem_cons.mp hp with rfl | hp
      · exact .inl (List.mem_cons_self)
      · exact .inl (key_mem (List.mem_cons_of_mem (as, dO qes1 qz1) hp))
    · rw [List.take_add_one, hx, List.map_append]; rfl
  · intro D h2 tk2 ys f2 X2 S2 F2 N2 o2 n2 lt2 hD hJ
    have e : ps.take ((ps.map fun p => Value.ref p.1).toArray.size) = ps := List.take_of_length_le (by simp)
    obtain ⟨qes', qz', ha, rfl, rfl⟩ := hJ
    rw [e] at *
    have fo2 := S2.fr fo'
    have bk2 := Back.slot bk' S2
    have ha' : AskOK qes' (q0 + ps.length) := by rw [List.size_toArray, List.length_map] at ha; exact ha
    try dsimp only
    k_steps
    unfold Marked
    refine Cn.use (hcall D (ps.map fun p => Value.ref p.2).length qes' qz' ha' hqr) F2 X T (frs := f2) (cut_news N2 (by ktd_sub)) fo2 (fun p hp => o2 p (by exact (show ∀ p ∈ _, p ∈ _ by with_reducible walk_at "LSUB") _ hp)) (NF.cons (NF.ty rfl (by decide)) (NF.cons (NF.ty rfl (by decide)) fun p hp => nf p (.tail _ hp))) bk2 rfl ?_ ?_ (fun r f3 tl3 h3 tk3 R3 S3 O3 o3 n3 b3 F3 N3 => ?_) (fun e dx f2 tl2 h2 tk2 R2 => R2.elim)
    · ktr_room
    · dsimp only [ktrTop]; first | exact room2 (by assumption) (by decide) | exact room1 (by assumption) (by decide) | omega
    exact fin_ hret b3 (SlotEq.refl _) F3 N3 _ (fun p hp => hp) o3 n3 ⟨qes', qz', ha', R3⟩
end
section -- MKof
theorem kof_c (w : World) (mean : ExcName → Option Value) (mg mb : Str → Option Value) (news : Led) (am nd adx an ap aq ar ac : Addr) (j1 j2 j3 j4 j5 j6 : Tok) (Rt : Value → Led → Prop)
    (hself : (am, instObj 494 adx) ∈ news) (hdict : (adx, selfD w.params j1 j2 j3 j4 j5 j6 an ap aq ar ac) ∈ news)
    (hc : Cn w mean mg mb 287 [.ref am, .ref nd] news 30 500 Rt (fun _ _ => False)) :
    Cn w mean mg mb 282 [.ref am, .ref nd, .none] news 36 600 Rt (fun _ _ => False) := by
  intro dp un gd cn cs a ccd cl outer base L m frs s Q E F X T N O Of nf hk hd hu hret hexc
  refine wpAny_call ?_
  k_dflt ktr_enter
  k_steps
  rename_i r' f' tl' h' tk' R' S' O' o' n' b' F' N'
  exact fin_ hret b' (SlotEq.refl _) F' N' _ (fun p hp => hp) o' n' R'
end
section -- MPlain
local macro_rules | `(tactic| walk_at "d0") => `(tactic| skip)
theorem len_tp {w : World} {A : Around} {E : Value → Shared → Prop} {s : Shared} {base : Heap} {L : Addr} {m : Str → Option Value} {news all : Led} {a : Addr} {vs : List Value} {c : Nat} {Q : Value → Shared → Prop} (g : At (seed.heap_1 w.params) news a ⟨.type "tuple", none, .seq vs.toArray c, #[]⟩) (X : (seed.heap_1 w.params).In base) (F : Fr base L s.heap m) (N : News base L s.heap all) (hs : ∀ p ∈ news, p ∈ all) (hz : vs.length ≤ 16384)
    (h : ∀ t tk, Q (.int vs.length t) { s with toks := tk }) : wpAny (model PySem.Challenge.rw_qd0027_02.row.prog w) A (call (.builtin "len") [.ref a]) Q E s :=
  kun_lenT (k := vs.length) ⟨_, (g.mono hs).get X F N, rfl, _, rfl⟩ (by simp) (by omega) (h _ _)
theorem len_li {w : World} {A : Around} {E : Value → Shared → Prop} {s : Shared} {base : Heap} {L : Addr} {m : Str → Option Value} {news all : Led} {a : Addr} {vs : List Value} {c : Nat} {Q : Value → Shared → Prop} (g : At (seed.heap_1 w.params) news a ⟨.type "list", none, .seq vs.toArray c, #[]⟩) (X : (seed.heap_1 w.params).In base) (F : Fr base L s.heap m) (N : News base L s.heap all) (hs : ∀ p ∈ news, p ∈ all) (hz : vs.length ≤ 16384)
    (h : ∀ t tk, Q (.int vs.length t) { s with toks := tk }) : wpAny (model PySem.Challenge.rw_qd0027_02.row.prog w) A (call (.builtin "len") [.ref a]) Q E s :=
  kun_lenL (k := vs.length) ⟨_, (g.mono hs).get X F N, rfl, _, rfl⟩ (by simp) (by omega) (h _ _)
theorem plain_c (w : World) (mean : ExcName → Option Value) (mg mb : Str → Option Value) (news : Led) (am kt_ dt : Addr) (b : Str) (v : Bool) (t : Tok) (ds : List Value) (dom : Value)
    (hk : At (seed.heap_1 w.params) news kt_ (tup [.str b t, .bool v, .ref dt, dom])) (hd : At (seed.heap_1 w.params) news dt (tup ds)) (hz : ds.length ≤ 99) :
    Cn w mean mg mb 451 [.ref am, .ref kt_] news 5 100 (fun r tl => NewK news ⟨b, v, ds.length⟩ r tl) (fun _ _ => False) := by
  intro dp un gd cn cs a ccd cl outer base L m frs s Q E F X T N O Of nf hk' hd' hu hret hexc
  refine wpAny_call ?_
  k_dflt ktr_enter
  k_steps
  refine len_tp hd X (by k_asm) (by k_asm) (fun p hp => List.mem_append_right _ hp) (by omega) fun t' _ => ?_
  k_steps
  rename_i l1
  exact ret_new hret (by assumption) (by assumption) (by assumption) l1 (by assumption) nf (NF.ty rfl (by decide)) (fun p hp => hp) fun hD => newK_of (k := ⟨b, v, ds.length⟩) hD rfl
end
local macro_rules | `(tactic| walk_at "H5") => `(tactic| (k_here; (with_reducible show wpAny _ _ (compareOp CmpOp.In (Value.str _ _) (Value.ref 184)) _ _ _); k_dflt (refine' in_opens (by assumption) (by k_asm) (by assumption) ?_); (try dsimp only)))
section -- MNote
local macro_rules | `(tactic| walk_at "compareOp In") => `(tactic| walk_at "H5")
noncomputable def ParamsOK (K : Frag) (news : Led) (ps : List (Addr × Addr × Value × KD)) : Prop := ∀ p ∈ ps, LenLe p.2.2.2.b 8 ∧ At K news p.1 (tup [.ref p.2.1, p.2.2.1]) ∧ ∃ tb dt ds dom, At K news p.2.1 (tup [.str p.2.2.2.b tb, .bool p.2.2.2.v, .ref dt, dom]) ∧ At K news dt (tup ds) ∧ p.2.2.2.d = ds.length ∧ ds.length ≤ 99
local macro_rules | `(tactic| walk_at $k:str) => if ["call ref", "call ref cons nil"].contains k.getString then `(tactic| (refine mark ?_)) else Lean.Macro.throwUnsupported
/-- where the walk over a predicate's parameters stands -/
inductive NtJ (W : Led) (ps : List (Addr × Addr × Value × KD)) (k : Nat) (ys : List Value) (X : Led) : Prop
  | of (ws : List (Addr × KD)) (new : Led) (e1 : ws.map (·.2) = (ps.take k).map (·.2.2.2)) (e2 : ys = ws.map (fun p : Addr × KD => Value.ref p.1)) (eX : X = new ++ W) (e3 : ∀ p ∈ ws, ∃ t u, (p.1, tup [.str p.2.b t, .bool p.2.v, .int p.2.d u]) ∈ new) (e4 : ∀ p ∈ new, p.1 ∉ W.map (·.1))
theorem noteOK_c (w : World) (mean : ExcName → Option Value) (mg mb : Str → Option Value) (rest : Led) (am it pt bt adx an ap aq ar ac : Addr) (nm : Str) (t t0 u j1 j2 j3 j4 j5 j6 : Tok) (spot : Int) (pes : Array DictEntry) (pz : Nat) (ps : List (Addr × Addr × Value × KD))
    (hself : (am, instObj 494 adx) ∈ rest) (hdict : (adx, selfD w.params j1 j2 j3 j4 j5 j6 an ap aq ar ac) ∈ rest) (hps' : (pes.all fun e => isExactStrKey e.key) = true) (hpz : pes.size ≤ 1000) (hpr : ap ∉ rest.map (·.1))
    (hpn : nsF pes nm = none) (hcn : nsF (callsE w.params) nm = none) (hon : opens.any (· == nm) = false)
    (hit : At (seed.heap_1 w.params) rest it (tup [.str (Str.ofString "predicate") t0, .int spot u, .str nm t, .ref pt, .ref bt])) (hpt : At (seed.heap_1 w.params) rest pt (tup (ps.map fun p => .ref p.1))) (hps : ParamsOK (seed.heap_1 w.params) rest ps) (hz : ps.length ≤ 99) :
    Cn w mean mg mb 456 [.ref am, .ref it] ((ap, dO pes pz) :: rest) 20 300 (fun r tl => r = .none ∧ ∃ T ws c pz' new, tl = (ap, dO (dputS pes nm t (hashStr w nm) (.ref T)) pz') :: (T, kt ws c) :: (new ++ rest) ∧ ws.map (·.2) = ps.map (·.2.2.2) ∧ KindsOK (seed.heap_1 w.params) new ws ∧ (∀ p ∈ (T, kt ws c) :: new, p.1 ∉ rest.map (·.1) ∧ p.1 ≠ ap)) (fun _ _ => False) := by
  intro dp un gd cn cs a ccd cl outer base L m frs s Q E F X T N O Of nf hk hd hu hret hexc
  refine wpAny_call ?_
  k_dflt ktr_enter
  refine gen_wpE fun E9 hE9 => ?_
  rename_i L' h' frs' tk' fo' of' bk' F' l1' o' d1' oc' N' nc' ap'
  replace d1' : o'.data = .cell (some (.ref am)) := d1'
  replace F' : Fr base L' h' (fun y => if y = Str.ofString "item" then some (.ref it) else none) := F'
  k_steps
  unfold Marked
  rw [eval_ListComp]
  refine wpAny_comprehension_free (use := none) rfl (fun _ => rfl) (cl := [(Str.ofString "self", L' + 1)]) (by rfl) rfl (by decide) ?_
  change wpAny _ _ (eval (Expr.Subscript _ _ _) _) _ _ _
  k_steps
  unfold Marked
  have fF := (by k_asm : Fr base L' _ _)
  have N1 := (by k_asm : News base L' _ (frs' ++ ((L' + 1, o') :: (ap, dO pes pz) :: rest)))
  have hc0 : NFo o' := nc' _ (.head _)
  have n1 : NF ((L' + 1, o') :: (ap, dO pes pz) :: rest) := NF.cons hc0 nf
  have up : ∀ p ∈ rest, p ∈ (L' + 1, o') :: (ap, dO pes pz) :: rest := fun p hp => .tail _ (.tail _ hp)
  obtain ⟨W, hW⟩ : ∃ W : Led, W = (L' + 1, o') :: (ap, dO pes pz) :: rest := ⟨_, rfl⟩
  have mW : (L' + 1, o') ∈ W := by rw [hW]; exact .head _
  rw [← hW] at N1 oc' n1 up
  have hselfR := up _ hself
  have hdictR := up _ hdict
  have ets : (ps.map fun p => Value.ref p.1) = ((ps.map fun p => (p.1, Value.ref p.2.1, p.2.2.1)).map fun t => Value.ref t.1) := by rw [List.map_map]; rfl
  have hpt' := hpt.mono up
  rw [ets] at hpt'
  refine comp_pairs (K := seed.heap_1 w.params) rfl X hpt' (fun t ht => ?_) rfl rfl (by decide) (by rw [List.length_map, sizeLine_eq]; omega) (by decide) rfl fF N1 oc' n1
    (NtJ W ps) ⟨[], [], rfl, rfl, rfl, (fun _ h => nomatch h), (fun _ h => nomatch h)⟩ ?_ ?_
  · obtain ⟨x, hx, rfl⟩ := List.mem_map.mp ht
    exact (hps x hx).2.1.mono up
  · intro k t' ys C oC m₃ own X₁ frs₁ h₁ tk₁ ht hm hm' hO hC hJ se F₁ N₁ o₁ n₁ hap
    obtain ⟨ws, new, e1, e2, rfl, e3, e4⟩ := hJ
    rw [List.getElem?_map, Option.map_eq_some_iff] at ht
    obtain ⟨x, hx, rfl⟩ := ht
    obtain ⟨-, -, tb, dt, ds, dom, g1, g2, g3, g4⟩ := hps x (List.mem_of_getElem? hx)
    have fo2 := se.fr fo'
    have bk2 := Back.slot bk' se
    have upo : ∀ p ∈ rest, p ∈ own ++ (new ++ (W)) := fun p hp => List.mem_append_right _ (List.mem_append_right _ (up _ hp))
    dsimp only at hm hm'
    refine wpAny_pure ?_
    change wpAny _ _ (eval _ _) _ _ _
    refine gen_wp fun Q9 hQ9 => ?_
    k_steps
    unfold Marked
    refine Cn.use (plain_c w mean mg mb _ am x.2.1 dt x.2.2.2.b x.2.2.2.v tb ds dom (g1.mono upo) (g2.mono upo) g4) (by k_asm) X T (frs := frs₁) N₁ fo2 o₁ n₁ bk2 rfl ?_ ?_ (fun r f2 tl2 h2 tk2 R2 S2 O2 o2 n2 b2 F2 N2 => ?_) (fun e dx f2 tl2 h2 tk2 R2 => R2.elim)
    · ktr_room
    · dsimp only [ktrTop]; first | exact room2 (by assumption) (by decide) | exact room1 (by assumption) (by decide) | omega
    obtain ⟨D, t1, u1, rfl, hD, rfl⟩ := R2
    subst hQ9
    have hD1 : D ∉ own.map (·.1) := fun hm => hD (by rw [List.map_append]; exact List.mem_append_left _ hm)
    have hD2 : D ∉ (W).map (·.1) := fun hm => hD (by rw [List.map_append, List.map_append]; exact List.mem_append_right _ (List.mem_append_right _ hm))
    refine ⟨h2, tk2, f2, (D, tup [.str x.2.2.2.b t1, .bool x.2.2.2.v, .int ds.length u1]) :: (new ++ (W)), rfl, S2, F2, cut_news N2 (by ktd_sub), off_sub o2 (by ktd_sub), nf_sub n2 (by ktd_sub), fun p hp => ?_, ws ++ [(D, x.2.2.2)], (D, tup [.str x.2.2.2.b t1, .bool x.2.2.2.v, .int ds.length u1]) :: new, ?_, ?_, rfl, fun p hp => ?_, fun p hp => ?_⟩
    · rcases List.mem_cons.mp hp with rfl | hp
      · exact .inr hD1
      · exact .inl (key_mem hp)
    · rw [List.map_append, e1, List.take_add_one, hx, List.map_append]; rfl
    · rw [e2, List.map_append]; rfl
    · rcases List.mem_append.mp hp with hp | hp
      · obtain ⟨t2, u2, h⟩ := e3 p hp
        exact ⟨t2, u2, .tail _ h⟩
      · rw [List.mem_singleton.mp hp]
        refine ⟨t1, u1, ?_⟩
        dsimp only
        rw [g3]
        exact .head _
    · rcases List.mem_cons.mp hp with rfl | hp
      · exact hD2
      · exact e4 p hp
  · subst hW
    intro D h2 tk2 ys f2 X2 S2 F2 N2 o2 n2 lt2 hD hJ
    have e : ps.take ((ps.map fun p => (p.1, Value.ref p.2.1, p.2.2.1)).length) = ps := List.take_of_length_le (by simp)
    obtain ⟨ws, new, e1, e2, rfl, e3, e4⟩ := hJ
    rw [e] at e1
    have fo2 := S2.fr fo'
    have bk2 := Back.slot bk' S2
    try dsimp only
    k_steps
    have lw : ws.length = ps.length := by have := congrArg List.length e1; simpa using this
    subst e2
    have hi : Heap.IsList h2 D (ws.map fun p : Addr × KD => Value.ref p.1).toArray := ⟨_, (N2 _ (List.mem_append_right _ (.head _))).1, rfl, _, rfl⟩
    refine kde_tupleOf F2 N2 hi (by rw [List.size_toArray, List.length_map]; omega) (List.toList_toArray ..) fun T h3 F3 N3 lt3 => ?_
    replace N3 : News base L' h3 ((T, kt ws 0) :: (f2 ++ (D, lstN (ws.map fun p : Addr × KD => Value.ref p.1)) :: (new ++ (L' + 1, o') :: (ap, dO pes pz) :: rest))) := N3
    have hap0 : (ap, dO pes pz) ∈ (D, lstN (ws.map fun p : Addr × KD => Value.ref p.1)) :: (new ++ (L' + 1, o') :: (ap, dO pes pz) :: rest) := .tail _ (List.mem_append_right _ (.tail _ (.head _)))
    have hTr : T ∉ rest.map (·.1) := Off.of_lt lt3 fun q hq => List.mem_append_right _ (.tail _ (List.mem_append_right _ (.tail _ (.tail _ hq))))
    have hTa : ap ≠ T := Nat.ne_of_lt (lt3 (ap, dO pes pz) (List.mem_append_right _ hap0))
    have hTf : T ∉ f2.map (·.1) := Off.of_lt lt3 fun q hq => List.mem_append_left _ hq
    have onr : Off f2 (new ++ rest) := off_sub o2 (by ktd_sub)
    have hx1 : ap ∉ ((T, kt ws 0) :: (new ++ rest)).map (·.1) := fun hm => by
      rw [List.map_cons, List.mem_cons, List.map_append, List.mem_append] at hm
      rcases hm with e | e | e
      · exact hTa e
      · obtain ⟨q, hq, e⟩ := List.mem_map.mp e
        exact e4 q hq (by rw [e]; exact .tail _ (.head _))
      · exact hpr e
    k_steps
    unfold Marked
    have N4 := cut_news N3 (all' := f2 ++ ((ap, dO pes pz) :: (T, kt ws 0) :: (new ++ rest))) (by ktd_sub)
    refine dset_led (frs := f2) (X := (T, kt ws 0) :: (new ++ rest)) X (by k_asm) N4 hps' hpz (Off.cons (fun hm => o2 (ap, dO pes pz) hap0 hm) (Off.cons hTf onr)) hx1 fun h5 pz' F5 N5 => ?_
    have o5 : Off f2 ((ap, dO (dputS pes nm t (hashStr w nm) (.ref T)) pz') :: (T, kt ws 0) :: (new ++ rest)) := Off.cons (fun hm => o2 (ap, dO pes pz) hap0 hm) (Off.cons hTf onr)
    have n5 : NF ((ap, dO (dputS pes nm t (hashStr w nm) (.ref T)) pz') :: (T, kt ws 0) :: (new ++ rest)) := NF.cons (NF.ty rfl (by decide)) (NF.cons (NF.ty rfl (by decide)) (nf_sub n2 (by ktd_sub)))
    dsimp only
    k_steps
    refine fin_ hret bk2 (SlotEq.refl _) F5 N5 _ (fun p hp => hp) o5 n5 ⟨rfl, T, ws, 0, pz', new, rfl, ?_, fun p hp => ⟨?_, ?_⟩, fun p hp => ?_⟩
    · rw [e1]
    · obtain ⟨t2, u2, h⟩ := e3 p hp
      exact ⟨t2, u2, .inr h⟩
    · have hm : p.2 ∈ (ps.map (·.2.2.2)) := by rw [← e1]; exact List.mem_map_of_mem (f := fun p : Addr × KD => p.2) hp
      obtain ⟨x, hx, e⟩ := List.mem_map.mp hm
      obtain ⟨y1, -, tb, dt, ds, dom, -, -, g3, g4⟩ := hps x hx
      rw [← e]
      exact ⟨y1, ⟨by rw [g3]; omega, by rw [g3]; omega⟩⟩
    · rcases List.mem_cons.mp hp with rfl | hp
      · exact ⟨hTr, fun z => hTa z.symm⟩
      · have y := e4 p hp
        rw [List.map_cons, List.map_cons, List.mem_cons, List.mem_cons, not_or, not_or] at y
        exact ⟨y.2.2, y.2.1⟩
end
section -- MNoteX
local macro_rules | `(tactic| walk_at $k:str) => if ["call ref", "call ref cons nil"].contains k.getString then `(tactic| (refine mark ?_)) else Lean.Macro.throwUnsupported
theorem noteX_c (w : World) (mean : ExcName → Option Value) (mg mb : Str → Option Value) (news : Led) (am it pt bt adx an ap aq ar ac : Addr) (nm : Str) (t t0 u j1 j2 j3 j4 j5 j6 : Tok) (spot : Int) (pes : Array DictEntry) (pz : Nat)
    (hself : (am, instObj 494 adx) ∈ news) (hdict : (adx, selfD w.params j1 j2 j3 j4 j5 j6 an ap aq ar ac) ∈ news) (hpd : (ap, ⟨.type "dict", none, .dict pes pz, #[]⟩) ∈ news) (hps : (pes.all fun e => isExactStrKey e.key) = true) (hn : LenLe nm 100)
    (hcase : (∃ v, nsF pes nm = some v) ∨ (nsF pes nm = none ∧ ∃ v, nsF (callsE w.params) nm = some v))
    (hit : At (seed.heap_1 w.params) news it (tup [.str (Str.ofString "predicate") t0, .int spot u, .str nm t, .ref pt, .ref bt])) :
    Cn w mean mg mb 456 [.ref am, .ref it] news 20 300 (fun _ _ => False) (fun dx tl => ∃ x t k k', tl = (dx, spotObj w.params x t k spot u k') :: news) := by
  intro dp un gd cn cs a ccd cl outer base L m frs s Q E F X T N O Of nf hk hd hu hret hexc
  refine wpAny_call ?_
  k_dflt ktr_enter
  rename_i L' h' frs' tk' fo' of' bk' F' l1' o' d1' oc' N' nc' ap'
  replace d1' : o'.data = .cell (some (.ref am)) := d1'
  replace F' : Fr base L' h' (fun y => if y = Str.ofString "item" then some (.ref it) else none) := F'
  rcases hcase with ⟨v, hpn⟩ | ⟨hpn, v, hcn⟩
  all_goals k_steps
  all_goals unfold Marked
  all_goals (
    refine make_L w mean mg mb ((L' + 1, o') :: news) _ _ u spot _ _ _ _ _ _ _ _ _ base _ _ _ _ _ _ (by k_asm) X T (by k_asm) (by assumption) (by assumption) rfl ?_ ?_ (fun e frs' a' dx k k' h' tk' se F2 N2 off2 ne1 nd1 de eb => ?_)
    · ktr_room
    · first | exact room2 (by assumption) (by decide) | exact room1 (by assumption) (by decide) | omega | (dsimp only [ktrTop]; first | exact room2 (by assumption) (by decide) | exact room1 (by assumption) (by decide) | omega)
    refine ⟨e, a', dx, rfl, X.keeps F2.keep, (N2 _ (List.mem_append_right _ (.head _))).1, ?_⟩
    (try k_unfold)
    dsimp only
    refine leave_made rfl rfl (fun z => nomatch z) F2 N2 (se.fr (by assumption)) off2 ne1 de eb (fun h4 frs4 se4 F4 N4 off4 fly => ?_)
    dsimp only
    exact finx_ hexc ((Back.slot (by assumption) se).slot se4) F4 (drop2 N4) (off_drop2 off4) (NF.cons (NF.ty rfl (by decide)) nf) fly ⟨_, _, _, _, rfl⟩)
end
local macro_rules | `(tactic| walk_at "H6") => `(tactic| (k_here; (with_reducible show wpAny _ _ (call (Value.builtin "len") [Value.ref _]) _ _ _); k_dflt (refine' len_li (by assumption) (by assumption) (by k_asm) (by k_asm) (by ktd_sub) (by assumption) ?_); intro _ _; (try dsimp only)))
section -- MDip
local macro_rules | `(tactic| walk_at "call builtin:len") => `(tactic| walk_at "H6")
noncomputable abbrev feedD (P : Params) (k1 k2 : Tok) (lc : Addr) (p : Int) (tp : Tok) : Array DictEntry := #[⟨PyData.keyHash P (Str.ofString "cells"), .str (Str.ofString "cells") k1, .ref lc⟩, ⟨PyData.keyHash P (Str.ofString "place"), .str (Str.ofString "place") k2, .int p tp⟩]
theorem off_set {f r : Led} {a : Addr} {o o' : Obj} (h : Off f ((a, o) :: r)) : Off f ((a, o') :: r) := Off.cons (fun hm => h _ (.head _) hm) (off_drop1 h)
theorem nf_set {r : Led} {a : Addr} {o o' : Obj} (h : NF ((a, o) :: r)) (n : NFo o') : NF ((a, o') :: r) := NF.cons n (nf_sub h fun _ hp => .tail _ hp)
theorem dput_feed {P : Params} {k1 k2 tp tk tq : Tok} {lc : Addr} {p q hs : Int} : dputS (feedD P k1 k2 lc p tp) (Str.ofString "place") tk hs (.int q tq) = feedD P k1 k2 lc q tq := by
  kernel_rfl
/-- what _dip gives: a place below n, the feed one further -/
inductive DipR (w : World) (fd lc : Addr) (k1 k2 : Tok) (p n : Nat) (rest : Led) (r : Value) (tl : Led) : Prop
  | of (j : Nat) (t tp' : Tok) (fz' : Nat) (FO : Obj) (hFO : FO = dO (feedD w.params k1 k2 lc (p + 1) tp') fz') (er : r = .int (j : Int) t) (hj : j < n) (et : tl = (fd, FO) :: rest)
theorem DipR.of' {w : World} {fd lc : Addr} {k1 k2 : Tok} {p n : Nat} {rest : Led} {j : Int} {t tp' : Tok} {fz' : Nat} (h0 : 0 ≤ j) (h1 : j < n) : DipR w fd lc k1 k2 p n rest (.int j t) ((fd, dO (feedD w.params k1 k2 lc (p + 1) tp') fz') :: rest) := by
  obtain ⟨i, rfl⟩ := Int.eq_ofNat_of_zero_le h0
  exact ⟨i, t, tp', fz', _, rfl, rfl, Int.ofNat_lt.mp h1, rfl⟩
theorem dip_c (w : World) (mean : ExcName → Option Value) (mg mb : Str → Option Value) (rest : Led) (fd lc : Addr) (k1 k2 tp u : Tok) (p : Nat) (n : Nat) (fz : Nat) (xs : List Value) (cz : Nat) (ns : List Int)
    (hlc : At (seed.heap_1 w.params) rest lc ⟨.type "list", none, .seq xs.toArray cz, #[]⟩) (hns : IntsAre xs ns) (hz : ns.length ≤ 40) (hp : p ≤ 200) (hn : 1 ≤ n) (hn2 : n ≤ 100) (hfr : fd ∉ rest.map (·.1)) :
    Cn w mean mg mb 573 [.ref fd, .int n u] ((fd, dO (feedD w.params k1 k2 lc p tp) fz) :: rest) 5 100 (DipR w fd lc k1 k2 p n rest) (fun _ _ => False) := by
  intro dp un gd cn cs a ccd cl outer base L m frs s Q E F X T N O Of nf hk hd hu hret hexc
  refine wpAny_call ?_
  k_dflt ktr_enter
  have e1 : nsF (feedD w.params k1 k2 lc p tp) (Str.ofString "cells") = some (.ref lc) := rfl
  have e2 : nsF (feedD w.params k1 k2 lc p tp) (Str.ofString "place") = some (.int p tp) := rfl
  have e3 : ((feedD w.params k1 k2 lc p tp).all fun e => isExactStrKey e.key) = true := by kernel_rfl
  k_steps
  unfold Marked
  have N4 := cut_news (by k_asm : News base _ _ _) (all' := _ ++ ((fd, dO (feedD w.params k1 k2 lc p tp) fz) :: rest)) (fun p hp => .tail _ hp)
  refine dset_led X (by k_asm) N4 e3 (show 2 ≤ 1000 by decide) (by assumption) hfr fun h5 fz' F5 N5 => ?_
  rw [dput_feed] at N5
  obtain ⟨tq, N6⟩ : ∃ tq, News base _ h5 (_ ++ ((fd, dO (feedD w.params k1 k2 lc ((p : Int) + 1) tq) fz') :: rest)) := ⟨_, N5⟩
  clear N5
  have o5 := off_set (o' := dO (feedD w.params k1 k2 lc ((p : Int) + 1) tq) fz') (by assumption : Off _ ((fd, dO (feedD w.params k1 k2 lc p tp) fz) :: rest))
  have n5 := nf_set (o' := dO (feedD w.params k1 k2 lc ((p : Int) + 1) tq) fz') nf (NF.ty rfl (by decide))
  have hsz : xs.length = ns.length := hns.length
  have hzx : xs.length ≤ 16384 := by omega
  dsimp only
  k_steps
  · rename_i hlt
    have hpx : p < xs.length := by omega
    obtain ⟨v, tv, hv, -⟩ := hns.at p xs[p] (List.getElem?_eq_getElem hpx)
    have hv' : xs[p]? = some (.int v tv) := by rw [List.getElem?_eq_getElem hpx, hv]
    refine item_lsR hlc X (by k_asm) N6 (fun q hq => List.mem_append_right _ (.tail _ hq)) (by omega) (by omega) (Int.toNat_natCast p) hv' ?_
    k_steps
    exact fin_ hret (by assumption) (SlotEq.refl _) F5 N6 _ (fun p hp => hp) o5 n5 (DipR.of' (Int.fmod_nonneg_of_pos _ (by omega)) (Int.fmod_lt_of_pos _ (by omega)))
  · exact fin_ hret (by assumption) (SlotEq.refl _) F5 N6 _ (fun p hp => hp) o5 n5 (DipR.of' (Int.fmod_nonneg_of_pos _ (by omega)) (Int.fmod_lt_of_pos _ (by omega)))
theorem dip_F (w : World) (mean : ExcName → Option Value) (mg mb : Str → Option Value) (rest : Led) (fd lc : Addr) (k1 k2 tp u : Tok) (p : Nat) (n : Nat) (fz : Nat) (xs : List Value) (cz : Nat) (ns : List Int) (FO : Obj) (hFO : FO = dO (feedD w.params k1 k2 lc p tp) fz)
    (hlc : At (seed.heap_1 w.params) rest lc ⟨.type "list", none, .seq xs.toArray cz, #[]⟩) (hns : IntsAre xs ns) (hz : ns.length ≤ 40) (hp : p ≤ 200) (hn : 1 ≤ n) (hn2 : n ≤ 100) (hfr : fd ∉ rest.map (·.1)) :
    Cn w mean mg mb 573 [.ref fd, .int n u] ((fd, FO) :: rest) 5 100 (DipR w fd lc k1 k2 p n rest) (fun _ _ => False) := by
  subst hFO
  exact dip_c w mean mg mb rest fd lc k1 k2 tp u p n fz xs cz ns hlc hns hz hp hn hn2 hfr
end
section -- MLet
local macro_rules | `(tactic| walk_at "d0") => `(tactic| skip)
local macro_rules | `(tactic| walk_at "d1") => `(tactic| skip)
local macro_rules | `(tactic| ktd_sub) => `(tactic| with_reducible walk_at "LSUB")
section
variable {prog : Program} {w : World} {A : Around} {E : Value → Shared → Prop} {s : Shared} {d : Addr} {es : Array DictEntry} {k : Str} {tk : Tok}
theorem dictSetS {v : Value} {Q : Unit → Shared → Prop} (D : DAt s.heap d es) (hz : es.size ≤ 1000)
    (h : ∀ h' ep, h'.get? d = some ⟨.type "dict", none, .dict (dputS es k tk (hashStr w k) v) ep, #[]⟩ → Heap.SameBut d s.heap h' → Q () { s with heap := h', toks := s.toks + 1 }) :
    wpAny (model prog w) A (dictSet d (.str k tk) v) Q E s := by
  obtain ⟨ep, ho⟩ := D.obj
  unfold dictSet
  try with_reducible refine wpAny_holding ?_
  refine wpAny_bind (wpAny_pyHash_str ?_)
  unfold dictSetHashed
  try with_reducible refine wpAny_holding ?_
  refine wpAny_bind (PyProof.Rows.KTD.kt_dictFind_strs (s := { s with toks := s.toks + 1 }) ho rfl D.str ?_)
  cases hi : es.findIdx? fun e => e.key.isStr k with
  | some i =>
    refine wpAny_bind (wpAny_rule (wpAny_bind (wpAny_updateDict (s := { s with toks := s.toks + 1 }) ho rfl (wpAny_point (h _ ep ?_ (Heap.SameBut.update ..))) ?_)))
    · rw [Heap.get?_update_self _ ho rfl]
      unfold dputS
      rw [hi]
      rfl
    · simp
  | none =>
    refine wpAny_bind (wpAny_rule (wpAny_updateDictKeys (s := { s with toks := s.toks + 1 }) ho rfl (h _ (ep + 1) ?_ (Heap.SameBut.update ..)) (by rw [sizeLine_eq]; omega) (by rw [Array.size_push]; exact Nat.le_refl _)))
    rw [Heap.get?_update_self _ ho rfl]
    unfold dputS
    rw [hi]
    rfl
end
section
variable {w : World} {A : Around} {E : Value → Shared → Prop} {base : Heap} {L d : Addr} {m : Str → Option Value} {frs X : Led}
noncomputable def puts (w : World) (es : Array DictEntry) : List (Str × Tok × Value) → Array DictEntry
  | [] => es
  | v :: vs => puts w (dputS es v.1 v.2.1 (hashStr w v.1) v.2.2) vs
theorem dictSet_led {s : Shared} {es : Array DictEntry} {ep : Nat} {k : Str} {tk : Tok} {v : Value} {Q : Unit → Shared → Prop}
    (KX : (seed.heap_1 w.params).In base) (F : Fr base L s.heap m) (N : News base L s.heap (frs ++ ((d, dO es ep) :: X))) (hs : (es.all fun e => isExactStrKey e.key) = true) (hz : es.size ≤ 1000) (of : Off frs ((d, dO es ep) :: X)) (hx : d ∉ X.map (·.1))
    (h : ∀ h' ep', Fr base L h' m → News base L h' (frs ++ ((d, dO (dputS es k tk (hashStr w k) v) ep') :: X)) → Q () { s with heap := h', toks := s.toks + 1 }) :
    wpAny (model PySem.Challenge.rw_qd0027_02.row.prog w) A (dictSet d (.str k tk) v) Q E s := by
  have hd := N (d, dO es ep) (List.mem_append_right _ (.head _))
  refine dictSetS (DAt.of KX N (List.mem_append_right _ (.head _)) hs) hz fun h' ep' e hsb => ?_
  refine h h' ep' (F.change hsb hd.2.1 hd.2.2) fun p hp => ?_
  have old : ∀ p ∈ frs ++ X, h'.get? p.1 = some p.2 ∧ p.1 ≠ L ∧ base.get? p.1 = none := fun p hp => by
    have n := N p (by rcases List.mem_append.mp hp with q | q; exact List.mem_append_left _ q; exact List.mem_append_right _ (.tail _ q))
    refine ⟨hsb.extBut _ _ (fun q => ?_) n.1, n.2⟩
    rcases List.mem_append.mp hp with y | y
    · have y' := List.mem_map_of_mem (f := Prod.fst) y
      rw [q] at y'
      exact of _ (.head _) y'
    · have y' := List.mem_map_of_mem (f := Prod.fst) y
      rw [q] at y'
      exact hx y'
  rcases List.mem_append.mp hp with hp | hp
  · exact old p (List.mem_append_left _ hp)
  · rcases List.mem_cons.mp hp with rfl | hp
    · exact ⟨e, hd.2⟩
    · exact old p (List.mem_append_right _ hp)
theorem store_led (KX : (seed.heap_1 w.params).In base) (hx : d ∉ X.map (·.1)) : ∀ (vs : List (Str × Tok × Value)) (n : Nat) (es : Array DictEntry) (ep : Nat) (s : Shared) (Q : PUnit → Shared → Prop), Fr base L s.heap m → News base L s.heap (frs ++ ((d, dO es ep) :: X)) → AskOK es n → n + vs.length ≤ 1000 → Off frs ((d, dO es ep) :: X) →
    (∀ h' ep' tk, Fr base L h' m → News base L h' (frs ++ ((d, dO (puts w es vs) ep') :: X)) → Q PUnit.unit { s with heap := h', toks := tk }) →
    wpAny (model PySem.Challenge.rw_qd0027_02.row.prog w) A (forIn (vs.map fun v => (Value.str v.1 v.2.1, v.2.2)) PUnit.unit fun (x : Value × Value) (_ : PUnit) => (do dictSet d x.1 x.2; pure (ForInStep.yield PUnit.unit) : Sem (ForInStep PUnit))) Q E s
  | [], n, es, ep, s, Q, F, N, ho, hz, of, h => by
    rw [List.map_nil, List.forIn_nil]
    exact wpAny_pure (h s.heap ep s.toks F N)
  | v :: vs, n, es, ep, s, Q, F, N, ho, hz, of, h => by
    rw [List.length_cons] at hz
    rw [List.map_cons, List.forIn_cons]
    refine wpAny_bind (wpAny_bind (dictSet_led KX F N ho.1 (Nat.le_trans ho.2 (by omega)) of hx fun h' ep' F' N' => wpAny_pure ?_))
    exact store_led KX hx vs (n + 1) _ ep' _ Q F' N' ho.put (by omega) (off_set of) fun h2 ep2 tk2 F2 N2 => h h2 ep2 tk2 F2 N2
theorem disp_led {env : Env} {keys : List (Option Expr)} {values : List Expr} {pos : Pos} {pairs : List (Sem Value × Sem Value)} {s : Shared} {news : Led} {Q : Value → Shared → Prop} (KX : (seed.heap_1 w.params).In base)
    (hshape : (evalEachOpt keys env).zip ((evalEach values env).map fun v => do let x ← v; standAt pos; pure x) = pairs.map fun p => (some p.1, p.2)) (h0 : pairs ≠ []) (hlen : pairs.length ≤ 15) (F : Fr base L s.heap m) (N : News base L s.heap (frs ++ news))
    (h : ∀ D h₁, Fr base L h₁ m → News base L h₁ ((D, dO #[] 0) :: (frs ++ news)) → (∀ p ∈ frs ++ news, p.1 < D) → wpAny (model PySem.Challenge.rw_qd0027_02.row.prog w) A (evalPairs pairs) (fun vs s₁ => ∃ (ks : List (Str × Tok × Value)) (X : Led) (h₂ : Heap) (tk : Nat), vs = ks.map (fun v => (Value.str v.1 v.2.1, v.2.2)) ∧ ks.length ≤ 15 ∧ s₁ = { s with heap := h₂, toks := tk } ∧ Fr base L h₂ m ∧ News base L h₂ (frs ++ ((D, dO #[] 0) :: X)) ∧ Off frs ((D, dO #[] 0) :: X) ∧ D ∉ X.map (·.1) ∧
      ∀ h₃ ep tk₃, Fr base L h₃ m → News base L h₃ (frs ++ ((D, dO (puts w #[] ks) ep) :: X)) → Q (.ref D) { s with heap := h₃, toks := tk₃ }) E { s with heap := h₁ }) :
    wpAny (model PySem.Challenge.rw_qd0027_02.row.prog w) A (eval (.Dict keys values pos) env) Q E s := by
  rw [arm_eval_Dict, hshape, dictDisplay_pairs _ h0 (by omega)]
  refine wpAny_bind (wpAny_standAt (wpAny_bind ?_))
  unfold subDict
  refine wpAny_bind (wpAny_alloc ?_)
  refine wpAny_bind (wpAny_holding ?_)
  rw [if_pos hlen]
  have N' : News base L (s.heap.push { cls := .type "dict", data := .dict #[] }) ((s.heap.objs.size, dO #[] 0) :: (frs ++ news)) := N.push F _
  refine wpAny_bind (wpAny_mono (h s.heap.objs.size _ (F.push _) N' fun p hp => Heap.lt_size (N p hp).1) (fun vs s₁ h₁ => ?_) fun _ _ e => e)
  obtain ⟨ks, X, h₂, tk, rfl, hk, rfl, F₂, N₂, o₂, hD, hQ⟩ := h₁
  refine wpAny_holding ?_
  exact wpAny_bind (store_led KX hD ks 0 #[] 0 _ _ F₂ N₂ ⟨by simp, Nat.le_refl _⟩ (by omega) o₂ fun h' ep' tk' F' N' => wpAny_pure (wpAny_pure (wpAny_pure (hQ h' ep' tk' F' N'))))
end
theorem fa_nil {α : Type} {Φ : α → Prop} : ∀ p ∈ ([] : List α), Φ p := fun _ h => nomatch h
theorem fa_cons {α : Type} {Φ : α → Prop} {a : α} {l : List α} (h : Φ a) (t : ∀ p ∈ l, Φ p) : ∀ p ∈ a :: l, Φ p := fun p hp => by
  rcases List.mem_cons.mp hp with rfl | hp
  · exact h
  · exact t p hp
theorem nkcL {a b : Addr} {o : Obj} {A : Led} (h : a ≠ b) (t : a ∉ A.map (·.1)) : a ∉ ((b, o) :: A).map (·.1) := fun hm => (List.mem_cons.mp hm).elim h t
theorem pair_tup {w : World} {A : Around} {E : Value → Shared → Prop} {base : Heap} {L : Addr} {m : Str → Option Value} {all : Led} {s : Shared} {env : Env} {c b : Str} {v : Bool} {dd : Int} {k2 k3 k4 k5 : Nat} (p1 : Pos) {p2 p3 p4 p5 pos : Pos} {rest : List (Sem Value × Sem Value)} {Q : List (Value × Value) → Shared → Prop} (X : (seed.heap_1 w.params).In base) (F : Fr base L s.heap m) (N : News base L s.heap all)
    (h : ∀ T h' tk t0 t1 t2, Fr base L h' m → News base L h' ((T, tup [.str b t1, .bool v, .int dd t2]) :: all) → (∀ p ∈ all, p.1 < T) → wpAny (model PySem.Challenge.rw_qd0027_02.row.prog w) A (evalPairs rest) (fun vs s₃ => Q ((.str c t0, .ref T) :: vs) s₃) E { s with heap := h', toks := tk }) :
    wpAny (model PySem.Challenge.rw_qd0027_02.row.prog w) A (evalPairs (((do let t ← fresh; pure (Value.str c t)), (do let x ← eval (.Tuple [.Constant (.str b) k2 p2, .Constant (.bool v) k3 p3, .Constant (.int dd) k4 p4] k5 p5) env; standAt pos; pure x)) :: rest)) Q E s := by
  refine evalPairs_cons ?_
  change wpAny _ _ (eval (.Constant (.str c) 0 p1) env) _ _ _
  k_steps
  refine wpAny_bind ?_
  k_steps
  exact wpAny_bind (wpAny_standAt (wpAny_pure (h _ _ _ _ _ _ (by assumption) (by assumption) (by assumption))))
theorem pair_tupV {w : World} {A : Around} {E : Value → Shared → Prop} {base : Heap} {L : Addr} {m : Str → Option Value} {all : Led} {s : Shared} {env : Env} {c b : Str} {v : Bool} {dd : Int} {k2 k3 k4 k5 : Nat} (p1 : Pos) {p2 p3 p4 p5 pos : Pos} {rest : List (Sem Value × Sem Value)} {Q : List (Value × Value) → Shared → Prop} (X : (seed.heap_1 w.params).In base) (F : Fr base L s.heap m) (N : News base L s.heap all)
    (h : ∀ T h' tk t0 t1 t2 A', A' = (T, tup [.str b t1, .bool v, .int dd t2]) :: all → Fr base L h' m → News base L h' A' → (∀ p ∈ all, p.1 < T) → wpAny (model PySem.Challenge.rw_qd0027_02.row.prog w) A (evalPairs rest) (fun vs s₃ => Q ((.str c t0, .ref T) :: vs) s₃) E { s with heap := h', toks := tk }) :
    wpAny (model PySem.Challenge.rw_qd0027_02.row.prog w) A (evalPairs (((do let t ← fresh; pure (Value.str c t)), (do let x ← eval (.Tuple [.Constant (.str b) k2 p2, .Constant (.bool v) k3 p3, .Constant (.int dd) k4 p4] k5 p5) env; standAt pos; pure x)) :: rest)) Q E s :=
  pair_tup p1 X F N fun T h' tk t0 t1 t2 F' N' l => h T h' tk t0 t1 t2 _ rfl F' N' l
/-- the letters of the law -/
noncomputable def LT : List (Nat × KD) := [(73, ⟨Str.ofString "int", true, 0⟩), (75, ⟨Str.ofString "int", false, 0⟩), (66, ⟨Str.ofString "bool", true, 0⟩), (76, ⟨Str.ofString "int", true, 1⟩), (77, ⟨Str.ofString "int", false, 1⟩), (82, ⟨Str.ofString "int", false, 2⟩), (83, ⟨Str.ofString "set", false, 0⟩), (84, ⟨Str.ofString "str", false, 0⟩), (85, ⟨Str.ofString "str", false, 1⟩), (86, ⟨Str.ofString "set", false, 1⟩), (67, ⟨Str.ofString "bool", false, 1⟩), (68, ⟨Str.ofString "bool", true, 1⟩)]
local macro_rules | `(tactic| walk_at $k:str) => if ["eval Dict", "eval Dict cons cons"].contains k.getString then `(tactic| (refine mark ?_)) else Lean.Macro.throwUnsupported
theorem letters_c (w : World) (mean : ExcName → Option Value) (mg mb : Str → Option Value) (news : Led) :
    Cn w mean mg mb 526 [] news 5 100 (fun r tl => ∃ D es ep new, r = .ref D ∧ tl = (D, dO es ep) :: (new ++ news) ∧ (es.all fun e => isExactStrKey e.key) = true ∧ ∀ p ∈ LT, ∃ T, nsF es ⟨#[p.1]⟩ = some (.ref T) ∧ ∃ t u, (T, tup [.str p.2.b t, .bool p.2.v, .int p.2.d u]) ∈ new) (fun _ _ => False) := by
  intro dp un gd cn cs a ccd cl outer base L m frs s Q E F X T N O Of nf hk hd hu hret hexc
  refine wpAny_call ?_
  k_dflt ktr_enter
  rename_i L' h' frs' fo' of' bk' F' N' l1'
  k_steps
  unfold Marked
  refine' disp_led (pairs := [(?k1, ?v1), (?k2, ?v2), (?k3, ?v3), (?k4, ?v4), (?k5, ?v5), (?k6, ?v6), (?k7, ?v7), (?k8, ?v8), (?k9, ?v9), (?k10, ?v10), (?k11, ?v11), (?k12, ?v12)]) ?hX ?sh ?h0 ?hl ?hF ?hN ?hh
  case hX => exact X
  case sh => exact rfl
  case h0 => intro z; cases z
  case hl => exact Nat.le_of_ble_eq_true rfl
  case hF => k_asm
  case hN => k_asm
  case hh =>
  intro D h0 F0 N0 l0
  obtain ⟨B0, hB0⟩ : ∃ B0 : Led, B0 = (D, dO #[] 0) :: (frs' ++ news) := ⟨_, rfl⟩
  have s0 : ∀ q ∈ (D, dO #[] 0) :: (frs' ++ news), q ∈ B0 := by rw [hB0]; exact fun _ h => h
  rw [← hB0] at N0
  refine' pair_tupV (w := w) ⟨0, 0, 0, 0⟩ ?X ?F ?N ?_
  case X => exact X
  case F => exact F0
  case N => exact N0
  intro T1 h1 tk1 a1 b1 c1 A1 e1 F1 N1 l1
  refine' pair_tupV (w := w) ⟨0, 0, 0, 0⟩ ?X ?F ?N ?_
  case X => exact X
  case F => exact F1
  case N => exact N1
  intro T2 h2 tk2 a2 b2 c2 A2 e2 F2 N2 l2
  refine' pair_tupV (w := w) ⟨0, 0, 0, 0⟩ ?X ?F ?N ?_
  case X => exact X
  case F => exact F2
  case N => exact N2
  intro T3 h3 tk3 a3 b3 c3 A3 e3 F3 N3 l3
  refine' pair_tupV (w := w) ⟨0, 0, 0, 0⟩ ?X ?F ?N ?_
  case X => exact X
  case F => exact F3
  case N => exact N3
  intro T4 h4 tk4 a4 b4 c4 A4 e4 F4 N4 l4
  refine' pair_tupV (w := w) ⟨0, 0, 0, 0⟩ ?X ?F ?N ?_
  case X => exact X
  case F => exact F4
  case N => exact N4
  intro T5 h5 tk5 a5 b5 c5 A5 e5 F5 N5 l5
  refine' pair_tupV (w := w) ⟨0, 0, 0, 0⟩ ?X ?F ?N ?_
  case X => exact X
  case F => exact F5
  case N => exact N5
  intro T6 h6 tk6 a6 b6 c6 A6 e6 F6 N6 l6
  refine' pair_tupV (w := w) ⟨0, 0, 0, 0⟩ ?X ?F ?N ?_
  case X => exact X
  case F => exact F6
  case N => exact N6
  intro T7 h7 tk7 a7 b7 c7 A7 e7 F7 N7 l7
  refine' pair_tupV (w := w) ⟨0, 0, 0, 0⟩ ?X ?F ?N ?_
  case X => exact X
  case F => exact F7
  case N => exact N7
  intro T8 h8 tk8 a8 b8 c8 A8 e8 F8 N8 l8
  refine' pair_tupV (w := w) ⟨0, 0, 0, 0⟩ ?X ?F ?N ?_
  case X => exact X
  case F => exact F8
  case N => exact N8
  intro T9 h9 tk9 a9 b9 c9 A9 e9 F9 N9 l9
  refine' pair_tupV (w := w) ⟨0, 0, 0, 0⟩ ?X ?F ?N ?_
  case X => exact X
  case F => exact F9
  case N => exact N9
  intro T10 h10 tk10 a10 b10 c10 A10 e10 F10 N10 l10
  refine' pair_tupV (w := w) ⟨0, 0, 0, 0⟩ ?X ?F ?N ?_
  case X => exact X
  case F => exact F10
  case N => exact N10
  intro T11 h11 tk11 a11 b11 c11 A11 e11 F11 N11 l11
  refine' pair_tupV (w := w) ⟨0, 0, 0, 0⟩ ?X ?F ?N ?_
  case X => exact X
  case F => exact F11
  case N => exact N11
  intro T12 h12 tk12 a12 b12 c12 A12 e12 F12 N12 l12
  refine evalPairs_nil ?_
  have inf : ∀ q ∈ frs', q ∈ (D, dO #[] 0) :: (frs' ++ news) := fun q hq => .tail _ (List.mem_append_left _ hq)
  have inn : ∀ q ∈ news, q ∈ (D, dO #[] 0) :: (frs' ++ news) := fun q hq => .tail _ (List.mem_append_right _ hq)
  have t1 : T1 ∉ frs'.map (·.1) ∧ D ≠ T1 := ⟨Off.of_lt l1 fun q hq => s0 q (inf q hq), Nat.ne_of_lt (l1 (D, dO #[] 0) (s0 _ (.head _)))⟩
  have s1 : ∀ q ∈ (D, dO #[] 0) :: (frs' ++ news), q ∈ A1 := by rw [e1]; exact fun q h => .tail _ (s0 q h)
  have t2 : T2 ∉ frs'.map (·.1) ∧ D ≠ T2 := ⟨Off.of_lt l2 fun q hq => s1 q (inf q hq), Nat.ne_of_lt (l2 (D, dO #[] 0) (s1 _ (.head _)))⟩
  have s2 : ∀ q ∈ (D, dO #[] 0) :: (frs' ++ news), q ∈ A2 := by rw [e2]; exact fun q h => .tail _ (s1 q h)
  have t3 : T3 ∉ frs'.map (·.1) ∧ D ≠ T3 := ⟨Off.of_lt l3 fun q hq => s2 q (inf q hq), Nat.ne_of_lt (l3 (D, dO #[] 0) (s2 _ (.head _)))⟩
  have s3 : ∀ q ∈ (D, dO #[] 0) :: (frs' ++ news), q ∈ A3 := by rw [e3]; exact fun q h => .tail _ (s2 q h)
  have t4 : T4 ∉ frs'.map (·.1) ∧ D ≠ T4 := ⟨Off.of_lt l4 fun q hq => s3 q (inf q hq), Nat.ne_of_lt (l4 (D, dO #[] 0) (s3 _ (.head _)))⟩
  have s4 : ∀ q ∈ (D, dO #[] 0) :: (frs' ++ news), q ∈ A4 := by rw [e4]; exact fun q h => .tail _ (s3 q h)
  have t5 : T5 ∉ frs'.map (·.1) ∧ D ≠ T5 := ⟨Off.of_lt l5 fun q hq => s4 q (inf q hq), Nat.ne_of_lt (l5 (D, dO #[] 0) (s4 _ (.head _)))⟩
  have s5 : ∀ q ∈ (D, dO #[] 0) :: (frs' ++ news), q ∈ A5 := by rw [e5]; exact fun q h => .tail _ (s4 q h)
  have t6 : T6 ∉ frs'.map (·.1) ∧ D ≠ T6 := ⟨Off.of_lt l6 fun q hq => s5 q (inf q hq), Nat.ne_of_lt (l6 (D, dO #[] 0) (s5 _ (.head _)))⟩
  have s6 : ∀ q ∈ (D, dO #[] 0) :: (frs' ++ news), q ∈ A6 := by rw [e6]; exact fun q h => .tail _ (s5 q h)
  have t7 : T7 ∉ frs'.map (·.1) ∧ D ≠ T7 := ⟨Off.of_lt l7 fun q hq => s6 q (inf q hq), Nat.ne_of_lt (l7 (D, dO #[] 0) (s6 _ (.head _)))⟩
  have s7 : ∀ q ∈ (D, dO #[] 0) :: (frs' ++ news), q ∈ A7 := by rw [e7]; exact fun q h => .tail _ (s6 q h)
  have t8 : T8 ∉ frs'.map (·.1) ∧ D ≠ T8 := ⟨Off.of_lt l8 fun q hq => s7 q (inf q hq), Nat.ne_of_lt (l8 (D, dO #[] 0) (s7 _ (.head _)))⟩
  have s8 : ∀ q ∈ (D, dO #[] 0) :: (frs' ++ news), q ∈ A8 := by rw [e8]; exact fun q h => .tail _ (s7 q h)
  have t9 : T9 ∉ frs'.map (·.1) ∧ D ≠ T9 := ⟨Off.of_lt l9 fun q hq => s8 q (inf q hq), Nat.ne_of_lt (l9 (D, dO #[] 0) (s8 _ (.head _)))⟩
  have s9 : ∀ q ∈ (D, dO #[] 0) :: (frs' ++ news), q ∈ A9 := by rw [e9]; exact fun q h => .tail _ (s8 q h)
  have t10 : T10 ∉ frs'.map (·.1) ∧ D ≠ T10 := ⟨Off.of_lt l10 fun q hq => s9 q (inf q hq), Nat.ne_of_lt (l10 (D, dO #[] 0) (s9 _ (.head _)))⟩
  have s10 : ∀ q ∈ (D, dO #[] 0) :: (frs' ++ news), q ∈ A10 := by rw [e10]; exact fun q h => .tail _ (s9 q h)
  have t11 : T11 ∉ frs'.map (·.1) ∧ D ≠ T11 := ⟨Off.of_lt l11 fun q hq => s10 q (inf q hq), Nat.ne_of_lt (l11 (D, dO #[] 0) (s10 _ (.head _)))⟩
  have s11 : ∀ q ∈ (D, dO #[] 0) :: (frs' ++ news), q ∈ A11 := by rw [e11]; exact fun q h => .tail _ (s10 q h)
  have t12 : T12 ∉ frs'.map (·.1) ∧ D ≠ T12 := ⟨Off.of_lt l12 fun q hq => s11 q (inf q hq), Nat.ne_of_lt (l12 (D, dO #[] 0) (s11 _ (.head _)))⟩
  obtain ⟨G, hG⟩ : ∃ G : Led, G = [(T12, tup [.str (Str.ofString "bool") b12, .bool true, .int 1 c12]), (T11, tup [.str (Str.ofString "bool") b11, .bool false, .int 1 c11]), (T10, tup [.str (Str.ofString "set") b10, .bool false, .int 1 c10]), (T9, tup [.str (Str.ofString "str") b9, .bool false, .int 1 c9]), (T8, tup [.str (Str.ofString "str") b8, .bool false, .int 0 c8]), (T7, tup [.str (Str.ofString "set") b7, .bool false, .int 0 c7]), (T6, tup [.str (Str.ofString "int") b6, .bool false, .int 2 c6]), (T5, tup [.str (Str.ofString "int") b5, .bool false, .int 1 c5]), (T4, tup [.str (Str.ofString "int") b4, .bool true, .int 1 c4]), (T3, tup [.str (Str.ofString "bool") b3, .bool true, .int 0 c3]), (T2, tup [.str (Str.ofString "int") b2, .bool false, .int 0 c2]), (T1, tup [.str (Str.ofString "int") b1, .bool true, .int 0 c1])] := ⟨_, rfl⟩
  obtain ⟨P, hP⟩ : ∃ P : List (Str × Tok × Value), P = [(Str.ofString "I", a1, .ref T1), (Str.ofString "K", a2, .ref T2), (Str.ofString "B", a3, .ref T3), (Str.ofString "L", a4, .ref T4), (Str.ofString "M", a5, .ref T5), (Str.ofString "R", a6, .ref T6), (Str.ofString "S", a7, .ref T7), (Str.ofString "T", a8, .ref T8), (Str.ofString "U", a9, .ref T9), (Str.ofString "V", a10, .ref T10), (Str.ofString "C", a11, .ref T11), (Str.ofString "D", a12, .ref T12)] := ⟨_, rfl⟩
  have nG : NF G := by rw [hG]; exact NF.cons (NF.ty rfl (by decide)) (NF.cons (NF.ty rfl (by decide)) (NF.cons (NF.ty rfl (by decide)) (NF.cons (NF.ty rfl (by decide)) (NF.cons (NF.ty rfl (by decide)) (NF.cons (NF.ty rfl (by decide)) (NF.cons (NF.ty rfl (by decide)) (NF.cons (NF.ty rfl (by decide)) (NF.cons (NF.ty rfl (by decide)) (NF.cons (NF.ty rfl (by decide)) (NF.cons (NF.ty rfl (by decide)) (NF.cons (NF.ty rfl (by decide)) NF.nil)))))))))))
  have oX : Off frs' (G ++ news) := Off.app (by rw [hG]; exact Off.cons t12.1 (Off.cons t11.1 (Off.cons t10.1 (Off.cons t9.1 (Off.cons t8.1 (Off.cons t7.1 (Off.cons t6.1 (Off.cons t5.1 (Off.cons t4.1 (Off.cons t3.1 (Off.cons t2.1 (Off.cons t1.1 (Off.nil _))))))))))))) of'
  have dX : D ∉ (G ++ news).map (·.1) := by
    rw [List.map_append, List.mem_append]
    rintro (hm | hm)
    · rw [hG] at hm
      exact absurd hm (nkcL t12.2 (nkcL t11.2 (nkcL t10.2 (nkcL t9.2 (nkcL t8.2 (nkcL t7.2 (nkcL t6.2 (nkcL t5.2 (nkcL t4.2 (nkcL t3.2 (nkcL t2.2 (nkcL t1.2 (fun h => nomatch h)))))))))))))
    · obtain ⟨q, hq, e⟩ := List.mem_map.mp hm
      exact absurd e (Nat.ne_of_lt (l0 q (List.mem_append_right _ hq)))
  have N12e : News base L' h12 (G ++ ((D, dO #[] 0) :: (frs' ++ news))) := by
    rw [hG]
    rw [e12, e11, e10, e9, e8, e7, e6, e5, e4, e3, e2, e1, hB0] at N12
    exact N12
  have key : (puts w #[] P).all (fun e => isExactStrKey e.key) = true := by rw [hP]; kernel_rfl
  refine ⟨P, G ++ news, h12, tk12, by rw [hP]; rfl, by rw [hP]; exact Nat.le_of_ble_eq_true rfl, rfl, F12, cut_news N12e (by ktd_sub), Off.cons (Off.of_lt l0 fun q hq => List.mem_append_left _ hq) oX, dX, fun h3 ep tk3 F3 N3 => ?_⟩
  dsimp only
  have o3 : Off frs' ((D, dO (puts w #[] P) ep) :: (G ++ news)) := off_set (Off.cons (o := dO #[] 0) (Off.of_lt l0 fun q hq => List.mem_append_left _ hq) oX)
  have n3 : NF ((D, dO (puts w #[] P) ep) :: (G ++ news)) := NF.cons (NF.ty rfl (by decide)) (NF.app nG nf)
  refine fin_ hret bk' (SlotEq.refl _) F3 N3 _ (fun p hp => hp) o3 n3 ⟨D, _, ep, G, rfl, rfl, key, ?_⟩
  rw [hP, hG]
  exact fa_cons ⟨T1, by kernel_rfl, b1, c1, .tail _ (.tail _ (.tail _ (.tail _ (.tail _ (.tail _ (.tail _ (.tail _ (.tail _ (.tail _ (.tail _ (.head _)))))))))))⟩ (fa_cons ⟨T2, by kernel_rfl, b2, c2, .tail _ (.tail _ (.tail _ (.tail _ (.tail _ (.tail _ (.tail _ (.tail _ (.tail _ (.tail _ (.head _))))))))))⟩ (fa_cons ⟨T3, by kernel_rfl, b3, c3, .tail _ (.tail _ (.tail _ (.tail _ (.tail _ (.tail _ (.tail _ (.tail _ (.tail _ (.head _)))))))))⟩ (fa_cons ⟨T4, by kernel_rfl, b4, c4, .tail _ (.tail _ (.tail _ (.tail _ (.tail _ (.tail _ (.tail _ (.tail _ (.head _))))))))⟩ (fa_cons ⟨T5, by kernel_rfl, b5, c5, .tail _ (.tail _ (.tail _ (.tail _ (.tail _ (.tail _ (.tail _ (.head _)))))))⟩ (fa_cons ⟨T6, by kernel_rfl, b6, c6, .tail _ (.tail _ (.tail _ (.tail _ (.tail _ (.tail _ (.head _))))))⟩ (fa_cons ⟨T7, by kernel_rfl, b7, c7, .tail _ (.tail _ (.tail _ (.tail _ (.tail _ (.head _)))))⟩ (fa_cons ⟨T8, by kernel_rfl, b8, c8, .tail _ (.tail _ (.tail _ (.tail _ (.head _))))⟩ (fa_cons ⟨T9, by kernel_rfl, b9, c9, .tail _ (.tail _ (.tail _ (.head _)))⟩ (fa_cons ⟨T10, by kernel_rfl, b10, c10, .tail _ (.tail _ (.head _))⟩ (fa_cons ⟨T11, by kernel_rfl, b11, c11, .tail _ (.head _)⟩ (fa_cons ⟨T12, by kernel_rfl, b12, c12, .head _⟩ (fa_nil))))))))))))
end
section -- MMay
local macro_rules | `(tactic| ktd_sub) => `(tactic| with_reducible walk_at "LSUB")
theorem beq_sym (x y : Str) : (x == y) = (y == x) := by
  rw [Bool.eq_iff_iff, beq_iff_eq, beq_iff_eq]; exact eq_comm
theorem me3 {k w : KD} (h : k.d = w.d) (hv : k.v = false ∨ w.v = true) (a : (k.b == w.b) = true) : (k.b == w.b) = fitsB k w := by
  rw [a, fitsB, fe0 h hv, beq_sym w.b, a]; rfl
theorem me4 {k w : KD} (h : k.d = w.d) (hv : k.v = false ∨ w.v = true) (a : (k.b == Str.ofString "none") = true) : (k.b == Str.ofString "none") = fitsB k w := by
  rw [a, fitsB, fe0 h hv, beq_sym (Str.ofString "none"), a]; simp
theorem me5 {k w : KD} (h : k.d = w.d) (hv : k.v = false ∨ w.v = true) (a : (k.b == w.b) = false) (b : (k.b == Str.ofString "none") = false) : (k.b == Str.ofString "bool" && w.b == Str.ofString "int") = fitsB k w := by
  rw [fitsB, fe0 h hv, beq_sym (Str.ofString "none"), beq_sym w.b k.b, a, b]; simp [Bool.and_comm]
theorem may_c (w : World) (mean : ExcName → Option Value) (mg mb : Str → Option Value) (news : Led) (a1 : Addr) (k : KD) (p : Nat × KD) (t : Tok)
    (h1 : KindAt (seed.heap_1 w.params) news a1 k) (hp : p ∈ LT) :
    Cn w mean mg mb 580 [.ref a1, .str ⟨#[p.1]⟩ t] news 10 200 (fun r tl => r = .bool (fitsB k p.2) ∧ tl = news) (fun _ _ => False) := by
  intro dp un gd cn cs a ccd cl outer base L m frs s Q E F X T N O Of nf hk hd hu hret hexc
  have cl1 := letters_c w mean mg mb news
  obtain ⟨t1, u1, h1⟩ := h1
  refine wpAny_call ?_
  k_dflt ktr_enter
  k_steps
  rename_i r' f' tl' h' tk' R' S' O' o' n' b' F' N'
  obtain ⟨D, es, ep, new, rfl, rfl, hs, hall⟩ := R'
  obtain ⟨T', hT, t2, u2, hm⟩ := hall p hp
  refine ditem (DAt.of X N' (List.mem_append_right _ (.head _)) hs) hT ?_
  have hT1 : At (seed.heap_1 w.params) ((D, dO es ep) :: (new ++ news)) T' (tup [.str p.2.b t2, .bool p.2.v, .int p.2.d u2]) := .inr (.tail _ (List.mem_append_left _ hm))
  dsimp only [qk, ek]
  clear hall cl1
  k_steps
  all_goals first
    | (refine eq_pair (News.isTup (by k_asm) (by k_mem)) (News.isTup (by k_asm) (by k_mem)) (by first | (show un + 1 < cLine; omega) | (simp only [ktrTop, Around.deeper]; omega) | (simp only [ktrTop, units_deeper, units_caller]; omega)) ?_; (try dsimp only); (try k_unfold); (try dsimp only); (refine fin_ hret (by assumption) (SlotEq.refl _) (by k_asm) (by k_asm) news (by ktd_sub) (off_sub o' (fun p hp => .tail _ (List.mem_append_right _ hp))) nf ⟨?_, rfl⟩))
    | ((try dsimp only); (try k_unfold); (try dsimp only); (refine fin_ hret (by assumption) (SlotEq.refl _) (by k_asm) (by k_asm) news (by ktd_sub) (off_sub o' (fun p hp => .tail _ (List.mem_append_right _ hp))) nf ⟨?_, rfl⟩))
  all_goals (refine congrArg Value.bool ?_)
  all_goals (first
    | exact fe1 (by assumption)
    | exact fe2 (by assumption) (by assumption)
    | exact me3 (by assumption) (by first | exact .inl (by assumption) | exact .inr (by assumption)) (by assumption)
    | exact me4 (by assumption) (by first | exact .inl (by assumption) | exact .inr (by assumption)) (by assumption)
    | exact me5 (by assumption) (by first | exact .inl (by assumption) | exact .inr (by assumption)) (by assumption) (by assumption))
end
section -- MDue
local macro_rules | `(tactic| walk_at $k:str) => if ["compareOp NotEq ref ref", "call type:zip"].contains k.getString then `(tactic| (refine mark ?_)) else Lean.Macro.throwUnsupported
structure LetsOK (x : Str) (ws : List KD) : Prop where
  len : ws.length = x.cps.size
  asc : x.cps.all (· < 128) = true
  at_ : ∀ (i c : Nat), x.cps[i]? = some c → ∃ v : KD, ws[i]? = some v ∧ (c, v) ∈ LT
theorem okK_len {ks : List (Addr × KD)} {ws : List KD} (h : ks.length ≠ ws.length) : okB (ks.map (·.2)) ws = false := by
  unfold okB
  rw [List.length_map, decide_eq_false h, Bool.false_and]
noncomputable def allW (ks : List (Addr × KD)) (ws : List KD) (k : Nat) : Prop := ∀ i a b, i < k → ks[i]? = some a → ws[i]? = some b → fitsB a.2 b = true
theorem okK_iff {ks : List (Addr × KD)} {ws : List KD} (hl : ks.length = ws.length) : okB (ks.map (·.2)) ws = true ↔ allW ks ws ks.length := by
  unfold okB allW
  rw [List.length_map, decide_eq_true hl, Bool.true_and, List.all_eq_true]
  constructor
  · intro h i a b hi ha hb
    refine h (a.2, b) (List.mem_of_getElem? (i := i) ?_)
    rw [List.getElem?_zip_eq_some, List.getElem?_map, ha]
    exact ⟨rfl, hb⟩
  · intro h p hp
    obtain ⟨i, hi⟩ := List.getElem?_of_mem hp
    rw [List.getElem?_zip_eq_some, List.getElem?_map, Option.map_eq_some_iff] at hi
    obtain ⟨⟨a, ha, e1⟩, h2⟩ := hi
    rw [← e1]
    exact h i a p.2 (List.getElem?_eq_some_iff.mp ha).1 ha h2
theorem allW_succ {ks : List (Addr × KD)} {ws : List KD} {k : Nat} {a : Addr × KD} {b : KD} (ha : ks[k]? = some a) (hb : ws[k]? = some b) : allW ks ws (k + 1) ↔ allW ks ws k ∧ fitsB a.2 b = true := by
  constructor
  · intro h
    exact ⟨fun i a' b' hi => h i a' b' (Nat.lt_succ_of_lt hi), h k a b (Nat.lt_succ_self _) ha hb⟩
  · rintro ⟨h, hf⟩ i a' b' hi ha' hb'
    by_cases e : i = k
    · subst e
      rw [ha] at ha'; rw [hb] at hb'
      cases ha'; cases hb'
      exact hf
    · exact h i a' b' (by omega) ha' hb'
theorem allLt_mem {d : Addr} {l : Led} (h : AllLt d l) : ∀ p ∈ l, p.1 < d := by
  induction l with
  | nil => intro p hp; cases hp
  | cons q l ih =>
    intro p hp
    rcases List.mem_cons.mp hp with rfl | hp
    · exact h.1
    · exact ih h.2 p hp
theorem drop_2nd {base h : Heap} {L : Addr} {p q : Addr × Obj} {n : Led} (N : News base L h (p :: q :: n)) : News base L h (p :: n) := cut_news N fun x hx => by
  rcases List.mem_cons.mp hx with rfl | hx
  · exact .head _
  · exact .tail _ (.tail _ hx)
theorem due_c (w : World) (mean : ExcName → Option Value) (mg mb : Str → Option Value) (news : Led) (ak : Addr) (x bs : Str) (t tb : Tok) (ks : List (Addr × KD)) (c1 : Nat) (ws : List KD)
    (hk1 : At (seed.heap_1 w.params) news ak (kl ks c1)) (hks : KindsOK (seed.heap_1 w.params) news ks) (hx : LetsOK x ws) (dk : Digit (ks.length : Int)) (dw : Digit (ws.length : Int)) :
    Cn w mean mg mb 585 [.str x t, .str bs tb, .ref ak] news 20 400 (fun r tl => (okB (ks.map (·.2)) ws = false ∧ r = .none ∧ tl = news) ∨ (okB (ks.map (·.2)) ws = true ∧ NewK news ⟨if bs == Str.ofString "" then Str.ofString "bool" else bs, (bs == Str.ofString "") || anyV ks, 0⟩ r tl)) (fun _ _ => False) := by
  intro dp un gd cn cs a ccd cl outer base L m frs s Q E F X T N O Of nf hk hd hu hret hexc
  refine wpAny_call ?_
  k_dflt ktr_enter
  rename_i L' h' frs' fo' of' bk' F' N' l1'
  k_steps
  have hdw := dw.hi
  have hdk := dk.hi
  have hxl := hx.len
  refine PyProof.Rows.len_str (x := x) (by show ¬ ((x.cps.size : Int) ≥ _); omega) ?_
  k_steps
  · (try dsimp only); (try k_unfold); (try dsimp only)
    rename_i hne
    exact fin_ hret (by assumption) (SlotEq.refl _) (by k_asm) (by k_asm) news (fun p hp => hp) (by assumption) nf (.inl ⟨okK_len (by change ¬ ((x.cps.size : Int) = _) at hne; omega), rfl, rfl⟩)
  unfold Marked
  rw [eval_ListComp]
  refine wpAny_comprehension_free (use := none) rfl (fun _ => rfl) (cl := []) (by rfl) rfl (by decide) ?_
  change wpAny _ _ (eval (Expr.Call _ _ _ _) _) _ _ _
  k_steps
  unfold Marked
  rename_i heq
  have hl : ks.length = ws.length := by change ((x.cps.size : Int) = _) at heq; omega
  refine' comp_zipS (l := ak) (xs := (ks.map fun p => Value.ref p.1).toArray) (J := fun k ys X => X = news ∧ ys.length ≤ k ∧ (ys = [] ↔ allW ks ws k)) rfl ?hX hx.asc hk1 ?hx1 ?hx2 ?hne ?hsz ?hcell ?hkind ?hF ?hN ?hO nf ⟨rfl, Nat.le_refl _, fun _ i a b hi => absurd hi (Nat.not_lt_zero _), fun _ => rfl⟩ ?hs ?hd
  case hX => exact X
  case hx1 => rfl
  case hx2 => rfl
  case hne => decide
  case hsz => rw [sizeLine_eq]; omega
  case hcell => decide
  case hkind => rfl
  case hF => k_asm
  case hN => k_asm
  case hO => assumption
  case hs =>
    intro k cc u v ys C oC m₃ own X₁ frs₁ h₁ tk₁ hcc hv hm1 hm2 hO hC hJ se F₁ N₁ o₁ n₁
    obtain ⟨rfl, hle, hJ⟩ := hJ
    simp only [List.getElem?_toArray, List.getElem?_map, Option.map_eq_some_iff] at hv
    obtain ⟨y, hy, rfl⟩ := hv
    obtain ⟨wd, hwd, hlt⟩ := hx.at_ k cc hcc
    have cm := may_c w mean mg mb (own ++ X₁) y.1 y.2 (cc, wd) u ((hks y (List.mem_of_getElem? hy)).1.mono fun p hp => List.mem_append_right _ hp) hlt
    have fo2 := se.fr (by assumption)
    have bk2 := Back.slot (by assumption) se
    refine wpAny_tests_one ?_
    k_steps
    · refine ⟨_, _, _, X₁, rfl, by assumption, by k_asm, by k_asm, off_sub (by assumption : Off _ (own ++ X₁)) (fun p hp => List.mem_append_right _ hp), nf_sub n₁ (fun p hp => List.mem_append_right _ hp), fun p hp => .inl (key_mem hp), rfl, Nat.le_succ_of_le hle, ?_⟩
      rw [allW_succ hy hwd, hJ]
      exact ⟨fun h => ⟨h, by assumption⟩, And.left⟩
    · refine ⟨_, _, _, X₁, rfl, by assumption, by k_asm, by k_asm, off_sub (by assumption : Off _ (own ++ X₁)) (fun p hp => List.mem_append_right _ hp), nf_sub n₁ (fun p hp => List.mem_append_right _ hp), fun p hp => .inl (key_mem hp), rfl, by rw [List.length_append, List.length_singleton]; omega, ?_⟩
      constructor
      · intro h
        exact absurd h (by simp)
      · intro h
        have h2 := ((allW_succ hy hwd).mp h).2
        rename_i hf
        rw [hf] at h2; cases h2
  case hd =>
    intro D h2 tk2 ys f2 X2 S2 F2 N2 o2 n2 lt2 hD hJ
    obtain ⟨rfl, hle, hJ⟩ := hJ
    have fo2 := S2.fr (by assumption)
    have bk2 := Back.slot (by assumption) S2
    have em : min x.cps.size ((ks.map fun p => Value.ref p.1).toArray).size = ks.length := by
      have e9 : ((ks.map fun p => Value.ref p.1).toArray).size = ks.length := by simp
      rw [e9]; omega
    rw [em] at hJ
    rw [← okK_iff hl] at hJ
    try dsimp only
    k_steps
    unfold Marked
    have N3 := (by k_asm : News base L' _ ((_, _) :: (f2 ++ (D, lstN ys) :: X2)))
    refine ne_nil (items := ys.toArray) ⟨_, (N3 _ (.tail _ (List.mem_append_right _ (.head _)))).1, rfl, _, rfl⟩ ⟨_, (N3 _ (.head _)).1, rfl, _, rfl⟩ (by show un + 3 < cLine; exact room1 (by assumption) (by decide)) ?_
    by_cases e : ys = []
    · rw [show decide (ys.toArray.size ≠ 0) = false by simp [e]]
      have ok := hJ.mp e
      k_steps
      · (try dsimp only); (try k_unfold); (try dsimp only)
        rename_i hb _ _ _ N' l1
        refine ret_new hret bk2 (by k_asm) (drop_2nd N') (allLt_mem l1.2) o2 nf (NF.ty rfl (by decide)) (fun p hp => .tail _ hp) fun hD => .inr ⟨ok, ?_⟩
        rw [hb]
        exact newK_of (k := ⟨Str.ofString "bool", true, 0⟩) hD rfl
      · unfold Marked
        rename_i hb
        rw [eval_ListComp]
        refine wpAny_comprehension_free (use := none) rfl (fun _ => rfl) (cl := []) (by rfl) rfl (by decide) ?_
        change wpAny _ _ (eval (Expr.Name _ _) _) _ _ _
        k_steps
        unfold Marked
        refine comp_list (frs := f2) (news := X2) rfl X hk1 rfl (by simp only [List.size_toArray, List.length_map, sizeLine_eq]; omega) (by decide) rfl (by k_asm) (cut_news N3 (by ktd_sub)) (off_drop1 o2) nf (fun k ys => ys.length = varN (ks.take k)) rfl ?_ ?_
        · intro k v ys C oC m₃ own frs₁ h₁ tk₁ hv hm hO hC hJ se F₁ N₁ o₁ n₁
          simp only [List.getElem?_toArray, List.getElem?_map, Option.map_eq_some_iff] at hv
          obtain ⟨x, hx, rfl⟩ := hv
          obtain ⟨⟨t1, u1, h1⟩, -, -⟩ := hks x (List.mem_of_getElem? hx)
          refine wpAny_tests_one ?_
          k_steps
          all_goals (try dsimp only)
          · refine ⟨_, _, _, rfl, SlotEq.refl _, by k_asm, by k_asm, ?_⟩
            rw [List.length_append, hJ, varN_take hx, if_pos (by assumption)]
            rfl
          · refine ⟨_, _, _, rfl, SlotEq.refl _, by k_asm, by k_asm, ?_⟩
            rw [hJ, varN_take hx, if_neg (by rename_i q; rw [q]; exact Bool.false_ne_true)]
            rfl
        · intro D3 h3 tk3 ys3 f3 S3 F3 N4 o3 lt3 hJ3
          have bk3 := Back.slot bk2 S3
          try dsimp only
          k_steps
          unfold Marked
          have N5 := (by k_asm : News base L' _ ((_, _) :: (f3 ++ (D3, lstN ys3) :: X2)))
          refine ne_nil (items := ys3.toArray) ⟨_, (N5 _ (.tail _ (List.mem_append_right _ (.head _)))).1, rfl, _, rfl⟩ ⟨_, (N5 _ (.head _)).1, rfl, _, rfl⟩ (by show un + 3 < cLine; exact room1 (by assumption) (by decide)) ?_
          k_steps
          (try dsimp only); (try k_unfold); (try dsimp only)
          rename_i N' l1
          have ev : ys3.length = varN ks := by rw [hJ3, List.take_of_length_le (by simp)]
          have ea : decide (ys3.toArray.size ≠ 0) = anyV ks := by
            rw [← anyV_of ev, List.size_toArray]
            exact decide_eq_decide.mpr (by omega)
          refine ret_new hret bk3 (by k_asm) (drop_2nd N') (allLt_mem l1.2) o3 nf (NF.ty rfl (by decide)) (fun p hp => .tail _ hp) fun hD => .inr ⟨ok, ?_⟩
          rw [hb]
          exact newK_of (k := ⟨bs, anyV ks, 0⟩) hD ea
    · rw [show decide (ys.toArray.size ≠ 0) = true by simp [e]]
      have ok : okB (ks.map (·.2)) ws = false := by
        cases q : okB (ks.map (·.2)) ws with
        | false => rfl
        | true => exact absurd (hJ.mpr q) e
      k_steps
      (try dsimp only); (try k_unfold); (try dsimp only)
      exact fin_ hret bk2 (SlotEq.refl _) (by k_asm) N3 X2 (by ktd_sub) (off_drop1 o2) nf (.inl ⟨ok, rfl, rfl⟩)
end
section -- MRight
local macro_rules | `(tactic| walk_at "d0") => `(tactic| skip)
local macro_rules | `(tactic| ktd_sub) => `(tactic| with_reducible walk_at "LSUB")
local macro_rules | `(tactic| walk_at $k:str) => if ["call ref", "call ref cons nil"].contains k.getString then `(tactic| (refine mark ?_)) else Lean.Macro.throwUnsupported
theorem right_c (w : World) (mean : ExcName → Option Value) (mg mb : Str → Option Value) (news : Led) (am ak adx an ap aq ar ac : Addr) (j1 j2 j3 j4 j5 j6 : Tok) (nm x bs : Str) (t tx tb u : Tok) (spot : Int) (B : Bool) (k : KD) (Post : Led → Prop)
    (hself : (am, instObj 494 adx) ∈ news) (hdict : (adx, selfD w.params j1 j2 j3 j4 j5 j6 an ap aq ar ac) ∈ news)
    (hdue : Cn w mean mg mb 585 [.str x tx, .str bs tb, .ref ak] news 20 400 (fun r tl => (B = false ∧ r = .none ∧ tl = news) ∨ (B = true ∧ NewK news k r tl)) (fun _ _ => False))
    (hT : B = true → ∀ D t1 u1, D ∉ news.map (·.1) → Cn w mean mg mb 397 [.ref am, .str nm t, .ref ak, .int spot u] ((D, tup [.str k.b t1, .bool k.v, .int k.d u1]) :: news) 20 300 (fun r tl => ∃ D2 t2 u2 nw, r = .ref D2 ∧ Post nw ∧ tl = (D2, tup [.str k.b t2, .bool k.v, .int k.d u2]) :: (D, tup [.str k.b t1, .bool k.v, .int k.d u1]) :: nw) (fun _ _ => False))
    (hF : B = false → Cn w mean mg mb 397 [.ref am, .str nm t, .ref ak, .int spot u] news 20 300 (fun _ _ => False) (fun dx tl => ∃ x' t' k1 k2 nw, Post nw ∧ tl = (dx, spotObj w.params x' t' k1 spot u k2) :: nw)) :
    Cn w mean mg mb 592 [.ref am, .str nm t, .str x tx, .str bs tb, .ref ak, .int spot u] news 40 800 (fun r tl => r = .bool true ∧ Post tl) (fun _ _ => False) := by
  intro dp un gd cn cs a ccd cl outer base L m frs s Q E F X T N O Of nf hk hd hu hret hexc
  refine wpAny_call ?_
  k_dflt ktr_enter
  rename_i L' h' frs' fo' of' bk' F' N' l1'
  k_steps
  unfold Marked
  refine Cn.use hdue (by k_asm) X T (frs := frs') (by k_asm) fo' of' nf bk' rfl ?_ ?_ (fun r f2 tl2 h2 tk2 R2 S2 O2 o2 n2 b2 F2 N2 => ?_) (fun e dx f2 tl2 h2 tk2 R2 => R2.elim)
  · ktr_room
  · dsimp only [ktrTop]; first | exact room2 (by assumption) (by decide) | exact room1 (by assumption) (by decide) | omega
  rcases R2 with ⟨hB, rfl, rfl⟩ | ⟨hB, D, t1, u1, rfl, hD, rfl⟩
  · have hF' := hF hB
    try dsimp only
    k_steps
    unfold Marked
    refine Cn.use hF' (by k_asm) X T (frs := f2) (by k_asm) O2 o2 n2 b2 rfl ?_ ?_ (fun r f2 tl2 h2 tk2 R2 => R2.elim) (fun e dx f3 tl3 h3 tk3 R3 fly S3 O3 o3 n3 b3 F3 N3 => ?_)
    · ktr_room
    · dsimp only [ktrTop]; first | exact room2 (by assumption) (by decide) | exact room1 (by assumption) (by decide) | omega
    obtain ⟨x', t', k1, k2, nw, hP, rfl⟩ := R3
    try dsimp only
    refine catch_next rfl rfl (fun z => nomatch z) F3 N3 O3 o3 n3 fly (fun h4 f4 S4 F4 N4 o4 fly4 => ?_)
    refine handle_as ?_
    k_steps
    obtain ⟨vs, sl, hx, -⟩ := fly4.2.choose_spec.1
    refine ⟨rfl, X.keeps F4.keep, ⟨_, hx, rfl⟩, ?_⟩
    have n4 : NF ((dx, spotObj w.params x' t' k1 spot u k2) :: nw) := n3
    refine flight_L F4 N4 (S4.fr O3) n4 fly4 fun h5 F5 N5 fly5 => ?_
    refine wpAny_storeName_local rfl F5.ns (fun h6 hn6 hs6 => ?_) rfl
    have F6 := F5.set hn6 hs6
    have N6 := N5.set hs6
    have fly6 := fly_set F5 fly5 hs6
    k_steps
    refine get_spot X (by k_asm) (by k_asm) fly6 (List.mem_append_right _ (.head _)) ?_
    k_steps
    rename_i a1 a2
    exact fin_ hret (b3.slot S4) (SlotEq.refl _) a1 a2 nw (by ktd_sub) (off_drop1 o4) (nf_sub n4 fun p hp => .tail _ hp) ⟨by simp, hP⟩
  · have hT' := hT hB D t1 u1 hD
    try dsimp only
    k_steps
    unfold Marked
    refine Cn.use hT' (by k_asm) X T (frs := f2) (by k_asm) O2 o2 n2 b2 rfl ?_ ?_ (fun r f3 tl3 h3 tk3 R3 S3 O3 o3 n3 b3 F3 N3 => ?_) (fun e dx f2 tl2 h2 tk2 R2 => R2.elim)
    · ktr_room
    · dsimp only [ktrTop]; first | exact room2 (by assumption) (by decide) | exact room1 (by assumption) (by decide) | omega
    obtain ⟨D2, t2, u2, nw, rfl, hP, rfl⟩ := R3
    try dsimp only
    k_steps
    have N5 := (by k_asm : News base L' _ (f3 ++ _))
    have a2 : At (seed.heap_1 w.params) ((D2, tup [.str k.b t2, .bool k.v, .int k.d u2]) :: (D, tup [.str k.b t1, .bool k.v, .int k.d u1]) :: nw) D2 (tup [.str k.b t2, .bool k.v, .int k.d u2]) := .inr (.head _)
    have a1 : At (seed.heap_1 w.params) ((D2, tup [.str k.b t2, .bool k.v, .int k.d u2]) :: (D, tup [.str k.b t1, .bool k.v, .int k.d u1]) :: nw) D (tup [.str k.b t1, .bool k.v, .int k.d u1]) := .inr (.tail _ (.head _))
    refine eq_kind ⟨_, (N5 _ (List.mem_append_right _ (.head _))).1, rfl, _, rfl⟩ ⟨_, (N5 _ (List.mem_append_right _ (.tail _ (.head _)))).1, rfl, _, rfl⟩ (by show un + 3 < cLine; exact room1 (by assumption) (by decide)) ?_
    rw [show (k.b == k.b && (k.v == k.v && k.d == k.d)) = true by simp]
    k_steps
    (try dsimp only); (try k_unfold); (try dsimp only)
    refine fin_ hret b3 (SlotEq.refl _) (by k_asm) N5 nw (by ktd_sub) (off_drop1 (off_drop1 o3)) (nf_sub n3 fun p hp => .tail _ (.tail _ hp)) ⟨by simp, hP⟩
end
section -- MBases
/-- the twenty kinds -/
noncomputable def bd : List KD := [⟨Str.ofString "int", false, 0⟩, ⟨Str.ofString "int", true, 0⟩, ⟨Str.ofString "bool", false, 0⟩, ⟨Str.ofString "bool", true, 0⟩, ⟨Str.ofString "str", false, 0⟩, ⟨Str.ofString "set", false, 0⟩, ⟨Str.ofString "none", false, 0⟩, ⟨Str.ofString "int", false, 1⟩, ⟨Str.ofString "int", true, 1⟩, ⟨Str.ofString "bool", false, 1⟩, ⟨Str.ofString "bool", true, 1⟩, ⟨Str.ofString "str", false, 1⟩, ⟨Str.ofString "set", false, 1⟩, ⟨Str.ofString "none", false, 1⟩, ⟨Str.ofString "int", false, 2⟩, ⟨Str.ofString "int", true, 2⟩, ⟨Str.ofString "bool", true, 2⟩, ⟨Str.ofString "str", false, 2⟩, ⟨Str.ofString "none", false, 2⟩, ⟨Str.ofString "set", false, 2⟩]
noncomputable def BaseAt (P : Params) (p : Nat) : Prop := ∃ k, bd[p]? = some k ∧ KindAt (seed.heap_1 P) [] (499 + p) k ∧ LenLe k.b 8 ∧ Digit k.d
theorem BaseAt.of {P : Params} {p : Nat} {t u : Tok} (k : KD) (h1 : bd[p]? = some k) (h2 : (seed.heap_1 P).lookup (499 + p) = some (tup [.str k.b t, .bool k.v, .int k.d u])) (h3 : (decide (k.b.length ≤ 8) && decide (0 ≤ k.d) && decide (k.d ≤ 99)) = true) : BaseAt P p := by
  rw [Bool.and_eq_true, Bool.and_eq_true, decide_eq_true_eq, decide_eq_true_eq, decide_eq_true_eq] at h3
  exact ⟨k, h1, ⟨_, _, .inl h2⟩, ⟨h3.1.1⟩, ⟨h3.1.2, h3.2⟩⟩
theorem base_at (P : Params) : ∀ p : Nat, p < 20 → BaseAt P p
  | 0, _ => BaseAt.of ⟨Str.ofString "int", false, 0⟩ rfl rfl rfl
  | 1, _ => BaseAt.of ⟨Str.ofString "int", true, 0⟩ rfl rfl rfl
  | 2, _ => BaseAt.of ⟨Str.ofString "bool", false, 0⟩ rfl rfl rfl
  | 3, _ => BaseAt.of ⟨Str.ofString "bool", true, 0⟩ rfl rfl rfl
  | 4, _ => BaseAt.of ⟨Str.ofString "str", false, 0⟩ rfl rfl rfl
  | 5, _ => BaseAt.of ⟨Str.ofString "set", false, 0⟩ rfl rfl rfl
  | 6, _ => BaseAt.of ⟨Str.ofString "none", false, 0⟩ rfl rfl rfl
  | 7, _ => BaseAt.of ⟨Str.ofString "int", false, 1⟩ rfl rfl rfl
  | 8, _ => BaseAt.of ⟨Str.ofString "int", true, 1⟩ rfl rfl rfl
  | 9, _ => BaseAt.of ⟨Str.ofString "bool", false, 1⟩ rfl rfl rfl
  | 10, _ => BaseAt.of ⟨Str.ofString "bool", true, 1⟩ rfl rfl rfl
  | 11, _ => BaseAt.of ⟨Str.ofString "str", false, 1⟩ rfl rfl rfl
  | 12, _ => BaseAt.of ⟨Str.ofString "set", false, 1⟩ rfl rfl rfl
  | 13, _ => BaseAt.of ⟨Str.ofString "none", false, 1⟩ rfl rfl rfl
  | 14, _ => BaseAt.of ⟨Str.ofString "int", false, 2⟩ rfl rfl rfl
  | 15, _ => BaseAt.of ⟨Str.ofString "int", true, 2⟩ rfl rfl rfl
  | 16, _ => BaseAt.of ⟨Str.ofString "bool", true, 2⟩ rfl rfl rfl
  | 17, _ => BaseAt.of ⟨Str.ofString "str", false, 2⟩ rfl rfl rfl
  | 18, _ => BaseAt.of ⟨Str.ofString "none", false, 2⟩ rfl rfl rfl
  | 19, _ => BaseAt.of ⟨Str.ofString "set", false, 2⟩ rfl rfl rfl
  | n + 20, h => absurd h (Nat.not_lt.mpr (Nat.le_add_left 20 n))
noncomputable abbrev eI : Nat × Addr × KD := (73, 91, ⟨Str.ofString "int", true, 0⟩)
noncomputable abbrev eK : Nat × Addr × KD := (75, 95, ⟨Str.ofString "int", false, 0⟩)
noncomputable abbrev eB : Nat × Addr × KD := (66, 92, ⟨Str.ofString "bool", true, 0⟩)
noncomputable abbrev eL : Nat × Addr × KD := (76, 93, ⟨Str.ofString "int", true, 1⟩)
noncomputable abbrev eM : Nat × Addr × KD := (77, 96, ⟨Str.ofString "int", false, 1⟩)
noncomputable abbrev eR : Nat × Addr × KD := (82, 97, ⟨Str.ofString "int", false, 2⟩)
noncomputable abbrev eS : Nat × Addr × KD := (83, 98, ⟨Str.ofString "set", false, 0⟩)
noncomputable abbrev eT : Nat × Addr × KD := (84, 99, ⟨Str.ofString "str", false, 0⟩)
noncomputable abbrev eU : Nat × Addr × KD := (85, 100, ⟨Str.ofString "str", false, 1⟩)
noncomputable abbrev eV : Nat × Addr × KD := (86, 101, ⟨Str.ofString "set", false, 1⟩)
noncomputable abbrev eC : Nat × Addr × KD := (67, 102, ⟨Str.ofString "bool", false, 1⟩)
noncomputable abbrev eD : Nat × Addr × KD := (68, 94, ⟨Str.ofString "bool", true, 1⟩)
theorem lets_of (cs : List (Nat × KD)) (h : ∀ p ∈ cs, p ∈ LT) (x : Str) (e : x = ⟨(cs.map (·.1)).toArray⟩) : LetsOK x (cs.map (·.2)) := by
  subst e
  refine ⟨by simp, ?_, fun i c hc => ?_⟩
  · rw [Array.all_eq_true_iff_forall_mem]
    intro c hc
    simp only [List.mem_toArray, List.mem_map] at hc
    obtain ⟨p, hp, rfl⟩ := hc
    have := h p hp
    simp only [LT, List.mem_cons, List.not_mem_nil, or_false] at this
    rcases this with rfl | rfl | rfl | rfl | rfl | rfl | rfl | rfl | rfl | rfl | rfl | rfl <;> decide
  · simp only [List.getElem?_toArray, List.getElem?_map, Option.map_eq_some_iff] at hc
    obtain ⟨p, hp, rfl⟩ := hc
    exact ⟨p.2, by rw [List.getElem?_map, hp]; rfl, h p (List.mem_of_getElem? hp)⟩
/-- a told function: its row in the law's table and its row in CALLS -/
structure CallRow (P : Params) (a : Addr) (nm lt bs : Str) (ws : List (Addr × KD)) : Prop where
  row : ∃ t1 t2 t3, (seed.heap_1 P).lookup a = some (tup [.str nm t1, .str lt t2, .str bs t3])
  lets : LetsOK lt (ws.map (·.2))
  told : ∃ ca aw bt, nsF (callsE P) nm = some (.ref ca) ∧ (seed.heap_1 P).lookup ca = some (tup [.ref aw, .str bs bt]) ∧ (seed.heap_1 P).lookup aw = some (kt ws 0)
  kinds : KindsOK (seed.heap_1 P) [] ws
  name : LenLe nm 100
  isP : (nm == Str.ofString "p") = false
  base : (bs == Str.ofString "") = false
  some_ : 1 ≤ ws.length ∧ ws.length ≤ 6
/-- a letter's row: it is one of the law's, and its kind is written down -/
noncomputable def EOK (P : Params) (e : Nat × Addr × KD) : Prop := (e.1, e.2.2) ∈ LT ∧ KindAt (seed.heap_1 P) [] e.2.1 e.2.2 ∧ LenLe e.2.2.b 8 ∧ Digit e.2.2.d
theorem EOK.of {P : Params} {i : Nat} {t u : Tok} (e : Nat × Addr × KD) (h1 : LT[i]? = some (e.1, e.2.2)) (h2 : (seed.heap_1 P).lookup e.2.1 = some (tup [.str e.2.2.b t, .bool e.2.2.v, .int e.2.2.d u])) (h3 : (decide (e.2.2.b.length ≤ 8) && decide (0 ≤ e.2.2.d) && decide (e.2.2.d ≤ 99)) = true) : EOK P e := by
  rw [Bool.and_eq_true, Bool.and_eq_true, decide_eq_true_eq, decide_eq_true_eq, decide_eq_true_eq] at h3
  exact ⟨List.mem_of_getElem? h1, ⟨_, _, .inl h2⟩, ⟨h3.1.1⟩, ⟨h3.1.2, h3.2⟩⟩
theorem en {P : Params} : ∀ e ∈ ([] : List (Nat × Addr × KD)), EOK P e := fun _ h => nomatch h
theorem ec {P : Params} {a : Nat × Addr × KD} {es : List (Nat × Addr × KD)} (h : EOK P a) (r : ∀ e ∈ es, EOK P e) : ∀ e ∈ a :: es, EOK P e := fun p hp => by
  rcases List.mem_cons.mp hp with rfl | hp
  · exact h
  · exact r p hp
noncomputable def HasRow (P : Params) (a : Addr) : Prop := ∃ nm lt bs ws, CallRow P a nm lt bs ws
theorem HasRow.of {P : Params} {a ca aw : Addr} {t1 t2 t3 bt : Tok} (nm lt bs : Str) (es : List (Nat × Addr × KD)) (h : ∀ e ∈ es, EOK P e) (hr : (seed.heap_1 P).lookup a = some (tup [.str nm t1, .str lt t2, .str bs t3])) (hl : lt = ⟨(es.map (·.1)).toArray⟩) (h1 : nsF (callsE P) nm = some (.ref ca)) (h2 : (seed.heap_1 P).lookup ca = some (tup [.ref aw, .str bs bt])) (h3 : (seed.heap_1 P).lookup aw = some (kt (es.map (·.2)) 0))
    (hb : (decide (nm.length ≤ 100) && !(nm == Str.ofString "p") && !(bs == Str.ofString "") && decide (1 ≤ es.length) && decide (es.length ≤ 6)) = true) : HasRow P a := by
  simp only [Bool.and_eq_true, decide_eq_true_eq, Bool.not_eq_true'] at hb
  obtain ⟨⟨⟨⟨b1, b2⟩, b3⟩, b4⟩, b5⟩ := hb
  have e1 : (es.map fun e => (e.1, e.2.2)).map (·.1) = es.map (·.1) := by rw [List.map_map]; rfl
  have e2 : (es.map fun e => (e.1, e.2.2)).map (·.2) = (es.map (·.2)).map (·.2) := by rw [List.map_map, List.map_map]; rfl
  refine ⟨nm, lt, bs, es.map (·.2), ⟨_, _, _, hr⟩, e2 ▸ lets_of (es.map fun e => (e.1, e.2.2)) (fun p hp => ?_) lt (by rw [e1]; exact hl), ⟨_, _, _, h1, h2, h3⟩, fun p hp => ?_, ⟨b1⟩, b2, b3, by rw [List.length_map]; exact ⟨b4, b5⟩⟩
  · obtain ⟨e, he, rfl⟩ := List.mem_map.mp hp
    exact (h e he).2
  · obtain ⟨e, he, rfl⟩ := List.mem_map.mp hp
    exact (h e he).1
theorem kI (P : Params) : EOK P eI := EOK.of (i := 0) eI rfl rfl rfl
theorem kK (P : Params) : EOK P eK := EOK.of (i := 1) eK rfl rfl rfl
theorem kB (P : Params) : EOK P eB := EOK.of (i := 2) eB rfl rfl rfl
theorem kL (P : Params) : EOK P eL := EOK.of (i := 3) eL rfl rfl rfl
theorem kM (P : Params) : EOK P eM := EOK.of (i := 4) eM rfl rfl rfl
theorem kR (P : Params) : EOK P eR := EOK.of (i := 5) eR rfl rfl rfl
theorem kS (P : Params) : EOK P eS := EOK.of (i := 6) eS rfl rfl rfl
theorem kT (P : Params) : EOK P eT := EOK.of (i := 7) eT rfl rfl rfl
theorem kU (P : Params) : EOK P eU := EOK.of (i := 8) eU rfl rfl rfl
theorem kV (P : Params) : EOK P eV := EOK.of (i := 9) eV rfl rfl rfl
theorem kC (P : Params) : EOK P eC := EOK.of (i := 10) eC rfl rfl rfl
theorem kD (P : Params) : EOK P eD := EOK.of (i := 11) eD rfl rfl rfl
theorem rows (P : Params) : ∀ i : Nat, i < 39 → HasRow P (527 + i)
  | 0, _ => HasRow.of (Str.ofString "abs") (Str.ofString "I") (Str.ofString "int") [eI] (ec (kI P) (en)) rfl rfl rfl rfl rfl rfl
  | 1, _ => HasRow.of (Str.ofString "bool2int") (Str.ofString "B") (Str.ofString "int") [eB] (ec (kB P) (en)) rfl rfl rfl rfl rfl rfl
  | 2, _ => HasRow.of (Str.ofString "pow") (Str.ofString "IK") (Str.ofString "int") [eI, eK] (ec (kI P) (ec (kK P) (en))) rfl rfl rfl rfl rfl rfl
  | 3, _ => HasRow.of (Str.ofString "sum") (Str.ofString "L") (Str.ofString "int") [eL] (ec (kL P) (en)) rfl rfl rfl rfl rfl rfl
  | 4, _ => HasRow.of (Str.ofString "product") (Str.ofString "L") (Str.ofString "int") [eL] (ec (kL P) (en)) rfl rfl rfl rfl rfl rfl
  | 5, _ => HasRow.of (Str.ofString "forall") (Str.ofString "D") (Str.ofString "bool") [eD] (ec (kD P) (en)) rfl rfl rfl rfl rfl rfl
  | 6, _ => HasRow.of (Str.ofString "exists") (Str.ofString "D") (Str.ofString "bool") [eD] (ec (kD P) (en)) rfl rfl rfl rfl rfl rfl
  | 7, _ => HasRow.of (Str.ofString "count") (Str.ofString "LI") (Str.ofString "int") [eL, eI] (ec (kL P) (ec (kI P) (en))) rfl rfl rfl rfl rfl rfl
  | 8, _ => HasRow.of (Str.ofString "card") (Str.ofString "S") (Str.ofString "int") [eS] (ec (kS P) (en)) rfl rfl rfl rfl rfl rfl
  | 9, _ => HasRow.of (Str.ofString "array_union") (Str.ofString "V") (Str.ofString "set") [eV] (ec (kV P) (en)) rfl rfl rfl rfl rfl rfl
  | 10, _ => HasRow.of (Str.ofString "array_intersect") (Str.ofString "V") (Str.ofString "set") [eV] (ec (kV P) (en)) rfl rfl rfl rfl rfl rfl
  | 11, _ => HasRow.of (Str.ofString "xorall") (Str.ofString "C") (Str.ofString "bool") [eC] (ec (kC P) (en)) rfl rfl rfl rfl rfl rfl
  | 12, _ => HasRow.of (Str.ofString "iffall") (Str.ofString "C") (Str.ofString "bool") [eC] (ec (kC P) (en)) rfl rfl rfl rfl rfl rfl
  | 13, _ => HasRow.of (Str.ofString "concat") (Str.ofString "U") (Str.ofString "str") [eU] (ec (kU P) (en)) rfl rfl rfl rfl rfl rfl
  | 14, _ => HasRow.of (Str.ofString "join") (Str.ofString "TU") (Str.ofString "str") [eT, eU] (ec (kT P) (ec (kU P) (en))) rfl rfl rfl rfl rfl rfl
  | 15, _ => HasRow.of (Str.ofString "all_different") (Str.ofString "L") (Str.ofString "bool") [eL] (ec (kL P) (en)) rfl rfl rfl rfl rfl rfl
  | 16, _ => HasRow.of (Str.ofString "alldifferent") (Str.ofString "L") (Str.ofString "bool") [eL] (ec (kL P) (en)) rfl rfl rfl rfl rfl rfl
  | 17, _ => HasRow.of (Str.ofString "circuit") (Str.ofString "L") (Str.ofString "bool") [eL] (ec (kL P) (en)) rfl rfl rfl rfl rfl rfl
  | 18, _ => HasRow.of (Str.ofString "increasing") (Str.ofString "L") (Str.ofString "bool") [eL] (ec (kL P) (en)) rfl rfl rfl rfl rfl rfl
  | 19, _ => HasRow.of (Str.ofString "decreasing") (Str.ofString "L") (Str.ofString "bool") [eL] (ec (kL P) (en)) rfl rfl rfl rfl rfl rfl
  | 20, _ => HasRow.of (Str.ofString "inverse") (Str.ofString "LL") (Str.ofString "bool") [eL, eL] (ec (kL P) (ec (kL P) (en))) rfl rfl rfl rfl rfl rfl
  | 21, _ => HasRow.of (Str.ofString "lex_less") (Str.ofString "LL") (Str.ofString "bool") [eL, eL] (ec (kL P) (ec (kL P) (en))) rfl rfl rfl rfl rfl rfl
  | 22, _ => HasRow.of (Str.ofString "lex_lesseq") (Str.ofString "LL") (Str.ofString "bool") [eL, eL] (ec (kL P) (ec (kL P) (en))) rfl rfl rfl rfl rfl rfl
  | 23, _ => HasRow.of (Str.ofString "lex_greater") (Str.ofString "LL") (Str.ofString "bool") [eL, eL] (ec (kL P) (ec (kL P) (en))) rfl rfl rfl rfl rfl rfl
  | 24, _ => HasRow.of (Str.ofString "lex_greatereq") (Str.ofString "LL") (Str.ofString "bool") [eL, eL] (ec (kL P) (ec (kL P) (en))) rfl rfl rfl rfl rfl rfl
  | 25, _ => HasRow.of (Str.ofString "element") (Str.ofString "ILI") (Str.ofString "bool") [eI, eL, eI] (ec (kI P) (ec (kL P) (ec (kI P) (en)))) rfl rfl rfl rfl rfl rfl
  | 26, _ => HasRow.of (Str.ofString "table") (Str.ofString "LR") (Str.ofString "bool") [eL, eR] (ec (kL P) (ec (kR P) (en))) rfl rfl rfl rfl rfl rfl
  | 27, _ => HasRow.of (Str.ofString "cumulative") (Str.ofString "LMMK") (Str.ofString "bool") [eL, eM, eM, eK] (ec (kL P) (ec (kM P) (ec (kM P) (ec (kK P) (en))))) rfl rfl rfl rfl rfl rfl
  | 28, _ => HasRow.of (Str.ofString "disjunctive") (Str.ofString "LM") (Str.ofString "bool") [eL, eM] (ec (kL P) (ec (kM P) (en))) rfl rfl rfl rfl rfl rfl
  | 29, _ => HasRow.of (Str.ofString "regular") (Str.ofString "LKKRKS") (Str.ofString "bool") [eL, eK, eK, eR, eK, eS] (ec (kL P) (ec (kK P) (ec (kK P) (ec (kR P) (ec (kK P) (ec (kS P) (en))))))) rfl rfl rfl rfl rfl rfl
  | 30, _ => HasRow.of (Str.ofString "value_precede") (Str.ofString "KKL") (Str.ofString "bool") [eK, eK, eL] (ec (kK P) (ec (kK P) (ec (kL P) (en)))) rfl rfl rfl rfl rfl rfl
  | 31, _ => HasRow.of (Str.ofString "global_cardinality") (Str.ofString "LML") (Str.ofString "bool") [eL, eM, eL] (ec (kL P) (ec (kM P) (ec (kL P) (en)))) rfl rfl rfl rfl rfl rfl
  | 32, _ => HasRow.of (Str.ofString "global_cardinality_low_up") (Str.ofString "LMMM") (Str.ofString "bool") [eL, eM, eM, eM] (ec (kL P) (ec (kM P) (ec (kM P) (ec (kM P) (en))))) rfl rfl rfl rfl rfl rfl
  | 33, _ => HasRow.of (Str.ofString "nvalue") (Str.ofString "IL") (Str.ofString "bool") [eI, eL] (ec (kI P) (ec (kL P) (en))) rfl rfl rfl rfl rfl rfl
  | 34, _ => HasRow.of (Str.ofString "at_least") (Str.ofString "KLK") (Str.ofString "bool") [eK, eL, eK] (ec (kK P) (ec (kL P) (ec (kK P) (en)))) rfl rfl rfl rfl rfl rfl
  | 35, _ => HasRow.of (Str.ofString "at_most") (Str.ofString "KLK") (Str.ofString "bool") [eK, eL, eK] (ec (kK P) (ec (kL P) (ec (kK P) (en)))) rfl rfl rfl rfl rfl rfl
  | 36, _ => HasRow.of (Str.ofString "exactly") (Str.ofString "KLK") (Str.ofString "bool") [eK, eL, eK] (ec (kK P) (ec (kL P) (ec (kK P) (en)))) rfl rfl rfl rfl rfl rfl
  | 37, _ => HasRow.of (Str.ofString "maximum") (Str.ofString "IL") (Str.ofString "bool") [eI, eL] (ec (kI P) (ec (kL P) (en))) rfl rfl rfl rfl rfl rfl
  | 38, _ => HasRow.of (Str.ofString "minimum") (Str.ofString "IL") (Str.ofString "bool") [eI, eL] (ec (kI P) (ec (kL P) (en))) rfl rfl rfl rfl rfl rfl
  | n + 39, h => absurd h (Nat.not_lt.mpr (Nat.le_add_left 39 n))
end
section -- MSes
theorem nsF_find {es : Array DictEntry} {k : Str} (h : nsF es k = none) : es.findIdx? (fun e => e.key.isStr k) = none := by
  unfold nsF at h
  rw [Option.map_eq_none_iff, List.find?_eq_none] at h
  rw [Array.findIdx?_eq_none_iff]
  intro e he
  have := h e (Array.mem_toList_iff.mpr he)
  simpa using this
theorem nsF_push {es : Array DictEntry} {k k' : Str} {tk : Tok} {hs : Int} {v : Value} (h : nsF es k = none) : nsF (dputS es k tk hs v) k' = if k' = k then some v else nsF es k' := by
  unfold dputS
  rw [nsF_find h]
  dsimp only
  unfold nsF
  rw [Array.toList_push, List.find?_append]
  by_cases e : k' = k
  · subst e
    rw [if_pos rfl]
    have h0 : es.toList.find? (fun e => e.key.isStr k') = none := by
      unfold nsF at h
      rwa [Option.map_eq_none_iff] at h
    rw [h0]
    have : (Value.str k' tk).isStr k' = true := by simp [Value.isStr]
    simp [this]
  · rw [if_neg e]
    have : (Value.str k tk).isStr k' = false := by
      simp only [Value.isStr]
      exact beq_eq_false_iff_ne.mpr fun z => e z.symm
    simp [this]
noncomputable def nkey (k : Nat) : Str := Str.ofString "n" ++ Str.ofString (toString (k : Int))
theorem nkey_ne : ∀ i, i < 20 → ∀ j, j < 20 → i ≠ j → nkey i ≠ nkey j := by decide +kernel
/-- the names n0 .. of the law, told so far -/
structure SesOK (ses : Array DictEntry) (n : Nat) : Prop where
  ask : AskOK ses n
  some_ : ∀ p, p < n → nsF ses (nkey p) = some (.ref (499 + p))
  none_ : ∀ p, n ≤ p → p < 20 → nsF ses (nkey p) = none
theorem SesOK.zero : SesOK #[] 0 := ⟨⟨by simp, Nat.le_refl _⟩, fun p h => absurd h (Nat.not_lt_zero _), fun p _ _ => rfl⟩
theorem SesOK.put {ses : Array DictEntry} {n : Nat} {tk : Tok} {hs : Int} (S : SesOK ses n) (hn : n < 20) : SesOK (dputS ses (nkey n) tk hs (.ref (499 + n))) (n + 1) := by
  have h0 := S.none_ n (Nat.le_refl _) hn
  refine ⟨S.ask.put, fun p hp => ?_, fun p hp h20 => ?_⟩
  · rw [nsF_push h0]
    by_cases e : p = n
    · subst e; rw [if_pos rfl]
    · rw [if_neg (nkey_ne p (by omega) n hn e)]
      exact S.some_ p (by omega)
  · rw [nsF_push h0, if_neg (nkey_ne p h20 n hn (by omega))]
    exact S.none_ p (by omega) h20
end
section -- MRead
local macro_rules | `(tactic| walk_at $k:str) => if ["call ref", "call ref cons nil"].contains k.getString then `(tactic| (refine mark ?_)) else Lean.Macro.throwUnsupported
local macro_rules | `(tactic| walk_at "eval Name") => `(tactic| (k_here; (with_reducible show wpAny _ _ (eval (Expr.Name (Str.ofString "places") _) _) _ _ _); k_dflt (refine' name_cellE ?N ?c ?m ?d ?_ ?a ?b; (case a | b => rfl); (case N => k_asm); (case c => rfl); (case m => k_mem); (case d => assumption); k_whole)))
local macro_rules | `(tactic| walk_at "call builtin:len") => `(tactic| walk_at "H6")
local macro_rules | `(tactic| walk_at $k:str) => if ["call type:range", "subscriptTail Name Name ref int", "call type:str", "binaryOp Add str str"].contains k.getString then `(tactic| (refine mark ?_)) else Lean.Macro.throwUnsupported
/-- the places: ints below twenty -/
structure PlOK (vs : List Value) (ps : List Nat) : Prop where
  len : vs.length = ps.length
  at_ : ∀ (i : Nat) (p : Nat), ps[i]? = some p → p < 20 ∧ ∃ t, vs[i]? = some (.int p t)
noncomputable def bl : List Value := (List.range 20).map fun i => .ref (499 + i)
theorem bl_at (P : Params) : (seed.heap_1 P).lookup 519 = some (tup bl) := by rfl
theorem bl_idx : ∀ p, p < 20 → seqIndex? ((p : Nat) : Int) bl.length = some p ∧ bl[p]? = some (.ref (499 + p)) := by decide +kernel
theorem bases_item {w : World} {A : Around} {E : Value → Shared → Prop} {s : Shared} {base : Heap} {L : Addr} {m : Str → Option Value} {p : Nat} {u : Tok} {value slice : Expr} {Q : Value → Shared → Prop} (X : (seed.heap_1 w.params).In base) (F : Fr base L s.heap m) (hp : p < 20) (h : Q (.ref (499 + p)) s)
    (hs : subscripted slice false (.ref 519) (.int p u) = operate [.ref 519, .int p u] (getItem (.ref 519) (.int p u)) := by with_unfolding_all rfl) :
    wpAny (model PySem.Challenge.rw_qd0027_02.row.prog w) A (subscriptTail value slice (.ref 519) (.int p u)) Q E s :=
  item_tupleT ⟨_, F.keep _ _ (X _ _ (bl_at w.params)), rfl, _, rfl⟩ (by omega) (by omega) (bl_idx p hp).1 (bl_idx p hp).2 h hs
noncomputable def ksOf (ps : List Nat) : List (Addr × KD) := ps.map fun p => (499 + p, (bd[p]?).getD ⟨Str.empty, false, 0⟩)
theorem ksOf_ok {P : Params} {ps : List Nat} (h : ∀ p ∈ ps, p < 20) (news : Led) : KindsOK (seed.heap_1 P) news (ksOf ps) := by
  intro q hq
  obtain ⟨p, hp, rfl⟩ := List.mem_map.mp hq
  obtain ⟨k, h1, h2, h3, h4⟩ := base_at P p (h p hp)
  rw [h1]
  exact ⟨h2.mono (fun _ h => nomatch h), h3, h4⟩
theorem PlOK.lt {vs : List Value} {ps : List Nat} (h : PlOK vs ps) : ∀ p ∈ ps, p < 20 := fun p hp => by
  obtain ⟨i, hi⟩ := List.getElem?_of_mem hp
  exact (h.at_ i p hi).1
/-- where the spots' nodes stand -/
inductive RdJ (W : Led) (ps : List Nat) (k : Nat) (ys : List Value) (X : Led) : Prop
  | of (ns : List Addr) (new : Led) (eX : X = new ++ W) (eY : ys = ns.map Value.ref) (hlen : ns.length = k) (hnew : ∀ p ∈ new, p.1 ∉ W.map (·.1)) (hns : ∀ (i : Nat) (a : Addr), ns[i]? = some a → ∃ p, ps[i]? = some p ∧ ∃ t1 sp u t, (a, tup [.str (Str.ofString "name") t1, .int sp u, .str (nkey p) t]) ∈ new)
/-- the kinds of the first k places -/
noncomputable def KsJ (W : Led) (ps : List Nat) (k : Nat) (ys : List Value) (X : Led) : Prop := X = W ∧ ys = ((ksOf ps).take k).map fun p => Value.ref p.1
theorem dig {n : Nat} (h : n ≤ 99) : Digit (n : Int) := ⟨by omega, by omega⟩
theorem lt63 {a b : Nat} (h : a < b) (hb : b ≤ 16384) : (a : Int) < 2 ^ 63 := by omega
theorem read_c (w : World) (mean : ExcName → Option Value) (mg mb : Str → Option Value) (rest : Led) (am pl as adx an ap aq ar ac bdx sc s0 : Addr) (j1 j2 j3 j4 j5 j6 y1 y2 : Tok) (nm x bs : Str) (t tx tb : Tok) (qes ses : Array DictEntry) (qz cp sn q0 : Nat) (vs : List Value) (ps : List Nat) (kd : KD) (Post : Led → Prop)
    (hself : (am, instObj 494 adx) ∈ rest) (hdict : (adx, selfD w.params j1 j2 j3 j4 j5 j6 an ap aq ar ac) ∈ rest) (hnam : (an, instObj 257 bdx) ∈ rest) (hndict : (bdx, namesD w.params y1 y2 sc as) ∈ rest) (hsc : At (seed.heap_1 w.params) rest sc (lst [.ref s0])) (hs0 : (s0, dO ses sn) ∈ rest) (hses : SesOK ses 20)
    (hqs : AskOK qes q0) (hqz : q0 + ps.length ≤ 1000) (hqr : as ∉ rest.map (·.1))
    (hpl : At (seed.heap_1 w.params) rest pl ⟨.type "list", none, .seq vs.toArray cp, #[]⟩) (hps : PlOK vs ps) (hz : vs.length ≤ 99)
    (hcall : ∀ (extra : Led) (u : Tok) dl c qes qz, AskOK qes (q0 + ps.length) → (∀ p ∈ extra, p.1 ∉ rest.map (·.1) ∧ p.1 ≠ as) → Cn w mean mg mb 397 [.ref am, .str nm t, .ref dl, .int 80 u] ((dl, ⟨.type "list", none, .seq ((ksOf ps).map fun p => Value.ref p.1).toArray c, #[]⟩) :: (as, dO qes qz) :: (extra ++ rest)) 20 300 (CallR as qes qz (extra ++ rest) kd fun nw => ∃ r', Post r' ∧ nw = extra ++ r') (fun _ _ => False))
    (ws : List KD) (hx : LetsOK x ws) (dw : Digit (ws.length : Int)) (dk : Digit (ps.length : Int)) (hok : okB ((ksOf ps).map (·.2)) ws = true) (hkd : kd = ⟨if bs == Str.ofString "" then Str.ofString "bool" else bs, (bs == Str.ofString "") || anyV (ksOf ps), 0⟩)
    (hPpl : ∀ r', Post r' → At (seed.heap_1 w.params) r' pl ⟨.type "list", none, .seq vs.toArray cp, #[]⟩) :
    Cn w mean mg mb 597 [.ref am, .str nm t, .str x tx, .str bs tb, .ref pl] ((as, dO qes qz) :: rest) 60 1200 (fun r tl => r = .bool true ∧ ∃ qes' qz' r', AskOK qes' (q0 + ps.length) ∧ Post r' ∧ tl = (as, dO qes' qz') :: r') (fun _ _ => False) := by
  intro dp un gd cn cs a ccd cl outer base L m frs s Q E F X T N O Of nf hk hd hu hret hexc
  refine wpAny_call ?_
  k_dflt ktr_enter
  refine gen_wpE fun E9 hE9 => ?_
  rename_i L' h' frs' tk' fo' of' bk' F' l1' o' d1' oc' N' nc' ap'
  replace d1' : o'.data = .cell (some (.ref pl)) := d1'
  replace F' : Fr base L' h' (fun y => if y = Str.ofString "base" then some (.str bs tb) else if y = Str.ofString "letters" then some (.str x tx) else if y = Str.ofString "name" then some (.str nm t) else if y = Str.ofString "maker" then some (.ref am) else none) := F'
  k_steps
  unfold Marked
  rw [eval_ListComp]
  refine wpAny_comprehension_free (use := none) rfl (fun _ => rfl) (cl := [(Str.ofString "places", L' + 1)]) (by rfl) rfl (by decide) ?_
  change wpAny _ _ (eval (Expr.Call _ _ _ _) _) _ _ _
  have hzv : vs.length ≤ 16384 := Nat.le_trans hz (by decide)
  k_steps
  unfold Marked
  refine range1_rows (by k_asm) (by k_asm : News base L' _ (frs' ++ ((L' + 1, o') :: (as, dO qes qz) :: rest))) fun h2 tk2 t₁ u₁ v₁ hr F2 N2 keep => ?_
  have hc0 : NFo o' := nc' _ (.head _)
  have n1 : NF ((L' + 1, o') :: (as, dO qes qz) :: rest) := NF.cons hc0 nf
  have up : ∀ p ∈ rest, p ∈ (L' + 1, o') :: (as, dO qes qz) :: rest := fun p hp => .tail _ (.tail _ hp)
  obtain ⟨W, hW⟩ : ∃ W : Led, W = (L' + 1, o') :: (as, dO qes qz) :: rest := ⟨_, rfl⟩
  have mW : (L' + 1, o') ∈ W := by rw [hW]; exact .head _
  rw [← hW] at N2 oc' n1 up
  refine' comp_led (K := seed.heap_1 w.params) (ls := []) (P := fun i v => ∃ t, v = Value.int (i : Int) t) (n := vs.length) (J := RdJ W ps) (li_range rfl hr (Nat.le_trans hz (by decide))) ?hX ?hx ?hsz ?hcell ?hkind ?hF ?hN ?hO n1 ⟨[], [], rfl, rfl, rfl, (fun _ h => nomatch h), (fun i a h => nomatch h)⟩ ?hs ?hd
  case hX => exact X
  case hx => rfl
  case hsz => rw [sizeLine_eq]; exact Nat.le_trans hz (by decide)
  case hcell => decide
  case hkind => rfl
  case hF => exact F2
  case hN => exact N2
  case hO => exact oc'
  case hs =>
    intro k v ys C oC m₃ own X₁ frs₁ h₁ tk₁ hk hv hm hO hC hJ se F₁ N₁ o₁ n₁ hap
    obtain ⟨tv, rfl⟩ := hv
    obtain ⟨ns, new, eX, eY, hlen, hnew, hns⟩ := hJ
    subst eX eY
    refine wpAny_pure ?_
    change wpAny _ _ (eval _ _) _ _ _
    refine gen_wp fun Q9 hQ9 => ?_
    k_steps
    have hkp : k < ps.length := hps.len ▸ hk
    obtain ⟨hp20, tp, hvp⟩ := hps.at_ k ps[k] (List.getElem?_eq_getElem hkp)
    unfold Marked
    refine item_lsR hpl X (by k_asm) N₁ (fun q hq => List.mem_append_right _ (List.mem_append_right _ (List.mem_append_right _ (up q hq)))) (Int.natCast_nonneg _) (lt63 hk hzv) (Int.toNat_natCast k) hvp ?_
    k_steps
    unfold Marked
    refine str_of_int_fit (N := 100) (by split <;> omega) (by decide) (fun _ => ?_)
    k_steps
    unfold Marked
    refine KXadd.add (K := 1) (L := 100) (by decide) ?_ (by decide) (fun t' kk _ => ?_)
    · exact Nat.le_trans (len_int (dig (Nat.le_trans (Nat.le_of_lt hp20) (by decide)))) (by decide)
    k_steps
    rename_i D h3 F3 N3 l3
    obtain ⟨tA, sB, tB, N3⟩ : ∃ tA sB tB, News base L' h3 ((D, tup [.str (Str.ofString "name") tA, .int sB tB, .str (nkey ps[k]) t']) :: (frs₁ ++ (own ++ (new ++ W)))) := ⟨_, _, _, N3⟩
    have dall : ∀ l : Led, (∀ q ∈ l, q ∈ frs₁ ++ (own ++ (new ++ W))) → D ∉ l.map (·.1) := fun l hl => Off.of_lt l3 hl
    have hD0 := dall frs₁ (by ktd_sub)
    have hD1 := dall own (by ktd_sub)
    have hD2 := dall (W) (by ktd_sub)
    subst hQ9
    refine ⟨h3, _, frs₁, (D, tup [.str (Str.ofString "name") tA, .int sB tB, .str (nkey ps[k]) t']) :: (new ++ W), rfl, SlotEq.refl _, F3, cut_news N3 (by ktd_sub), Off.cons hD0 (off_sub o₁ (by ktd_sub)), NF.cons (NF.ty rfl (by decide)) (nf_sub n₁ (by ktd_sub)), fun p hp => ?_, ns ++ [D], (D, tup [.str (Str.ofString "name") tA, .int sB tB, .str (nkey ps[k]) t']) :: new, rfl, (by rw [List.map_append]; rfl), by rw [List.length_append, hlen]; rfl, fun p hp => ?_, fun i a hi => ?_⟩
    · rcases List.mem_cons.mp hp with rfl | hp
      · exact .inr hD1
      · exact .inl (key_mem hp)
    · rcases List.mem_cons.mp hp with rfl | hp
      · exact hD2
      · exact hnew p hp
    · by_cases e : i < ns.length
      · rw [List.getElem?_append_left e] at hi
        obtain ⟨p, h1, t1, sp, u1, t2, h2⟩ := hns i a hi
        exact ⟨p, h1, t1, sp, u1, t2, .tail _ h2⟩
      · have hi' := (List.getElem?_eq_some_iff.mp hi).1
        rw [List.length_append, List.length_singleton] at hi'
        obtain rfl : i = k := Nat.le_antisymm (Nat.le_of_lt_succ (hlen ▸ hi')) (hlen ▸ Nat.not_lt.mp e)
        rw [List.getElem?_append_right (Nat.not_lt.mp e), hlen, Nat.sub_self] at hi
        obtain rfl : D = a := Option.some.inj hi
        exact ⟨ps[i], List.getElem?_eq_getElem hkp, tA, sB, tB, t', .head _⟩
  case hd =>
    intro D h3 tk3 ys f3 X3 S3 F3 N3 o3 n3 lt3 hD hJ
    obtain ⟨ns, new, eX, eY, hlen, hnew, hns⟩ := hJ
    subst eX eY
    have fo3 := S3.fr fo'
    have bk3 := Back.slot bk' S3
    try dsimp only
    k_steps
    have hiD : Heap.IsList h3 D (ns.map Value.ref).toArray := ⟨_, (N3 _ (List.mem_append_right _ (.head _))).1, rfl, _, rfl⟩
    refine kde_tupleOf F3 N3 hiD (by rw [List.size_toArray, List.length_map, hlen]; exact Nat.le_trans hz (by decide)) (List.toList_toArray ..) fun T4 h4 F4 N4 lt4 => ?_
    k_steps
    refine wpAny_Try_except ?_
    rename_i D5 h5 l5 h6 F6 N6
    subst hW
    obtain ⟨tA, tB, N6⟩ : ∃ tA tB, News base L' h6 ((D5, tup [.str (Str.ofString "call") tA, .int 80 tB, .str nm t, .ref T4]) :: (T4, tup (ns.map Value.ref)) :: (f3 ++ (D, lstN (ns.map Value.ref)) :: (new ++ (L' + 1, o') :: (as, dO qes qz) :: rest))) := ⟨_, _, N6⟩
    k_steps
    unfold Marked
    have lt20 := hps.lt
    have lps : ns.length = ps.length := by rw [hlen, hps.len]
    have hcr : ∀ q ∈ rest, q.1 ≠ L' + 1 := fun q hq e => by
      have y := key_mem (List.mem_cons_of_mem (as, dO qes qz) hq)
      rw [e] at y
      exact ap' _ (.head _) y
    have hca : as ≠ L' + 1 := fun e => by
      have y := key_mem (List.mem_cons_self (a := (as, dO qes qz)) (l := rest))
      rw [show (as, dO qes qz).1 = L' + 1 from e] at y
      exact ap' _ (.head _) y
    let extra : Led := (D5, tup [.str (Str.ofString "call") tA, .int 80 tB, .str nm t, .ref T4]) :: (T4, tup (ns.map Value.ref)) :: (L' + 1, o') :: new
    have hfr : ∀ p ∈ extra, p.1 ∉ rest.map (·.1) ∧ p.1 ≠ as := by
      have g4 : ∀ q ∈ (as, dO qes qz) :: rest, q.1 < T4 := fun q hq => lt4 q (List.mem_append_right _ (.tail _ (List.mem_append_right _ (.tail _ hq))))
      have g5 : ∀ q ∈ (as, dO qes qz) :: rest, q.1 < D5 := fun q hq => Nat.lt_trans (g4 q hq) l5.1
      have fresh : ∀ d : Addr, (∀ q ∈ (as, dO qes qz) :: rest, q.1 < d) → d ∉ rest.map (·.1) ∧ d ≠ as := fun d hd => ⟨Off.of_lt hd fun q hq => .tail _ hq, fun e => by have := hd _ (.head _); rw [e] at this; exact Nat.lt_irrefl _ this⟩
      intro p hp
      rcases List.mem_cons.mp hp with rfl | hp
      · exact fresh _ g5
      rcases List.mem_cons.mp hp with rfl | hp
      · exact fresh _ g4
      rcases List.mem_cons.mp hp with rfl | hp
      · refine ⟨fun hm => ?_, fun e => hca e.symm⟩
        obtain ⟨q, hq, e⟩ := List.mem_map.mp hm
        exact hcr q hq e
      · have y := hnew p hp
        rw [List.map_cons, List.map_cons, List.mem_cons, List.mem_cons, not_or, not_or] at y
        exact ⟨y.2.2, y.2.1⟩
    have upx : ∀ p ∈ rest, p ∈ extra ++ rest := fun p hp => List.mem_append_right _ hp
    have hqx : as ∉ (extra ++ rest).map (·.1) := fun hm => by
      rw [List.map_append, List.mem_append] at hm
      rcases hm with hm | hm
      · obtain ⟨q, hq, e⟩ := List.mem_map.mp hm
        exact (hfr q hq).2 e
      · exact hqr hm
    let pp : List (Addr × Addr) := ns.zip ((ksOf ps).map (·.1))
    have lk : ((ksOf ps).map (·.1)).length = ns.length := by rw [List.length_map, ksOf, List.length_map, lps]
    have lpp : pp.length = ps.length := by
      show (ns.zip _).length = _
      rw [List.length_zip, lk, Nat.min_self, lps]
    have e1 : (pp.map fun p => Value.ref p.1) = ns.map Value.ref := by
      show ((ns.zip _).map fun p => Value.ref p.1) = _
      rw [show (fun p : Addr × Addr => Value.ref p.1) = Value.ref ∘ Prod.fst from rfl, ← List.map_map, List.map_fst_zip (Nat.le_of_eq lk.symm)]
    have e2 : (pp.map fun p => Value.ref p.2) = (ksOf ps).map fun p => Value.ref p.1 := by
      show ((ns.zip _).map fun p => Value.ref p.2) = _
      rw [show (fun p : Addr × Addr => Value.ref p.2) = Value.ref ∘ Prod.snd from rfl, ← List.map_map, List.map_snd_zip (Nat.le_of_eq lk), List.map_map]
      rfl
    have hnodes : NodesOK (seed.heap_1 w.params) (extra ++ rest) ses pp := by
      intro q hq
      obtain ⟨i, hi⟩ := List.getElem?_of_mem hq
      rw [List.getElem?_zip_eq_some] at hi
      obtain ⟨i1, i2⟩ := hi
      obtain ⟨p, hp, t1, sp, u1, t2, hm⟩ := hns i q.1 i1
      refine ⟨t1, sp, u1, nkey p, t2, .inr (List.mem_append_left _ (.tail _ (.tail _ (.tail _ hm)))), ?_⟩
      rw [ksOf, List.map_map, List.getElem?_map, hp] at i2
      have : q.2 = 499 + p := by simpa using i2.symm
      rw [this]
      exact hses.some_ p (lt20 p (List.mem_of_getElem? hp))
    have hk := kindC_c w mean mg mb (extra ++ rest) am D5 T4 adx an ap aq ar ac bdx sc as s0 nm t tA tB y1 y2 j1 j2 j3 j4 j5 j6 80 ses qes sn qz q0 pp kd (fun nw => ∃ r', Post r' ∧ nw = extra ++ r') (upx _ hself) (upx _ hdict) (upx _ hnam) (upx _ hndict) (hsc.mono upx) (upx _ hs0) hses.ask.1 hqs (lpp ▸ hqz) hqx (.inr (.head _)) (by rw [e1]; exact .inr (.tail _ (.head _))) hnodes (fun dl c qes qz ha _ => by rw [e2]; exact hcall extra tB dl c qes qz (by rw [← lpp]; exact ha) hfr)
    have N8 : News base L' h6 (f3 ++ ((as, dO qes qz) :: (extra ++ rest))) := cut_news N6 (fun p hp => by
      exact (show ∀ p ∈ _, p ∈ _ by with_reducible walk_at "LSUB") _ hp)
    have hf5 : D5 ∉ f3.map (·.1) := Off.of_lt (allLt_mem l5.2) fun q hq => List.mem_append_left _ hq
    have hf4 : T4 ∉ f3.map (·.1) := Off.of_lt lt4 fun q hq => List.mem_append_left _ hq
    have o8 : Off f3 ((as, dO qes qz) :: (extra ++ rest)) := Off.consOf (p := (as, dO qes qz)) o3 (by with_reducible walk_at "LMEM") (Off.app (Off.cons hf5 (Off.cons hf4 (Off.consOf (p := (L' + 1, o')) o3 (by with_reducible walk_at "LMEM") (off_sub o3 (by with_reducible walk_at "LSUB"))))) (off_sub o3 (by with_reducible walk_at "LSUB")))
    have n8 : NF ((as, dO qes qz) :: (extra ++ rest)) := NF.cons (NF.ty rfl (by decide)) (NF.app (NF.cons (NF.ty rfl (by decide)) (NF.cons (NF.ty rfl (by decide)) (NF.cons hc0 fun p hp => n3 p (List.mem_append_left _ hp)))) fun p hp => nf p (.tail _ hp))
    refine Cn.use (kof_c w mean mg mb ((as, dO qes qz) :: (extra ++ rest)) am D5 adx an ap aq ar ac j1 j2 j3 j4 j5 j6 _ (.tail _ (upx _ hself)) (.tail _ (upx _ hdict)) hk) (by k_asm) X T (frs := f3) N8 fo3 o8 n8 bk3 rfl ?_ ?_ (fun r f7 tl7 h7 tk7 R7 S7 fo7 o7 n7 bk7 F7 N7 => ?_) (fun e dx f2 tl2 h2 tk2 R2 => R2.elim)
    · ktr_room
    · dsimp only [ktrTop]; first | exact room2 (by assumption) (by decide) | exact room1 (by assumption) (by decide) | omega
    obtain ⟨qes', qz', ha7, D2, t2, u2, rest', rfl, hD2, hD2a, ⟨r', hP, rfl⟩, rfl⟩ := R7
    try dsimp only
    k_steps
    unfold Marked
    rw [eval_ListComp]
    refine wpAny_comprehension_free (use := none) rfl (fun _ => rfl) (cl := []) (by rfl) rfl (by decide) ?_
    change wpAny _ _ (eval (Expr.Name _ _) _) _ _ _
    have hcell7 : (L' + 1, o') ∈ (D2, tup [.str kd.b t2, .bool kd.v, .int kd.d u2]) :: (as, dO qes' qz') :: (extra ++ r') := .tail _ (.tail _ (.tail _ (.tail _ (.head _))))
    refine name_cellE N7 rfl (List.mem_append_right _ hcell7) d1' ?_ rfl rfl
    have hpl7 : At (seed.heap_1 w.params) ((D2, tup [.str kd.b t2, .bool kd.v, .int kd.d u2]) :: (as, dO qes' qz') :: (extra ++ r')) pl ⟨.type "list", none, .seq vs.toArray cp, #[]⟩ := (hPpl r' hP).mono fun q hq => .tail _ (.tail _ (List.mem_append_right _ hq))
    obtain ⟨W2, hW2⟩ : ∃ W2 : Led, W2 = (D2, tup [.str kd.b t2, .bool kd.v, .int kd.d u2]) :: (as, dO qes' qz') :: (extra ++ r') := ⟨_, rfl⟩
    rw [← hW2] at N7 o7 n7 hpl7
    refine' comp_led (K := seed.heap_1 w.params) (J := KsJ W2 ps) (li_list rfl X F7 N7 hpl7 (fun q hq => List.mem_append_right _ hq)) ?hX ?hx ?hsz ?hcell ?hkind F7 N7 o7 n7 ⟨rfl, rfl⟩ ?hs2 ?hd2
    case hX => exact X
    case hx => rfl
    case hsz => rw [List.size_toArray, sizeLine_eq]; exact Nat.le_trans hz (by decide)
    case hcell => decide
    case hkind => rfl
    case hs2 =>
      intro k v ys C oC m₃ own X₁ frs₁ h₁ tk₁ hk hv hm hO hC hJ se F₁ N₁ o₁ n₁ hap
      obtain ⟨rfl, rfl⟩ := hJ
      have hkp : k < ps.length := hps.len ▸ hk
      obtain ⟨hp20, tp, hvp⟩ := hps.at_ k ps[k] (List.getElem?_eq_getElem hkp)
      obtain rfl : Value.int (ps[k] : Int) tp = v := by
        rw [List.getElem?_toArray, hvp] at hv
        exact Option.some.inj hv
      k_steps
      unfold Marked
      refine bases_item X F₁ hp20 ?_
      refine ⟨_, _, frs₁, _, rfl, SlotEq.refl _, F₁, N₁, off_sub o₁ (fun q hq => List.mem_append_right _ hq), nf_sub n₁ (fun q hq => List.mem_append_right _ hq), fun q hq => .inl (key_mem hq), rfl, ?_⟩
      rw [List.take_add_one, ksOf, List.getElem?_map, List.getElem?_eq_getElem hkp, List.map_append]
      rfl
    case hd2 =>
      subst hW2
      intro D9 h9 tk9 ys f9 X9 S9 F9 N9 o9 n9 lt9 hD9 hJ
      obtain ⟨rfl, rfl⟩ := hJ
      have e9 : (ksOf ps).take vs.toArray.size = ksOf ps := List.take_of_length_le (by rw [ksOf, List.length_map, List.size_toArray, hps.len]; exact Nat.le_refl _)
      try dsimp only
      k_steps
      unfold Marked
      obtain ⟨lc, hlc⟩ : ∃ c, lstN (((ksOf ps).take vs.toArray.size).map fun p => Value.ref p.1) = kl (ksOf ps) c := ⟨_, by rw [e9]; first | done | rfl⟩
      rw [hlc] at N9 o9
      have fo9 := S9.fr fo7
      have bk9 := Back.slot bk7 S9
      refine Cn.use (due_c w mean mg mb _ D9 x bs tx tb (ksOf ps) _ ws (.inr (.head _)) (ksOf_ok lt20 _) hx (by rw [ksOf, List.length_map]; exact dk) dw) F9 X T (frs := f9) N9 fo9 o9 (NF.cons (NF.ty rfl (by decide)) n9) bk9 rfl ?_ ?_ (fun r f10 tl10 h10 tk10 R10 S10 O10 o10 n10 b10 F10 N10 => ?_) (fun e dx f2 tl2 h2 tk2 R2 => R2.elim)
      · ktr_room
      · dsimp only [ktrTop]; first | exact room2 (by assumption) (by decide) | exact room1 (by assumption) (by decide) | omega
      rcases R10 with ⟨hno, _⟩ | ⟨_, hnk⟩
      · rw [hok] at hno; exact absurd hno (by decide)
      obtain ⟨Dd, td, ud, rfl, hDd, rfl⟩ := hnk
      have cutm : ∀ p ∈ (as, dO qes' qz') :: r', p ∈ (as, dO qes' qz') :: (extra ++ r') := fun p hp => by
        rcases List.mem_cons.mp hp with rfl | hp
        · exact .head _
        · exact .tail _ (List.mem_append_right _ hp)
      try dsimp only
      k_steps
      refine eq_kind ⟨_, (N10 _ (List.mem_append_right _ (.tail _ (.tail _ (.head _))))).1, rfl, _, rfl⟩ ⟨_, (N10 _ (List.mem_append_right _ (.head _))).1, rfl, _, rfl⟩ (by show un + 3 < cLine; exact room1 (by assumption) (by decide)) ?_
      rw [hkd]
      rw [show ∀ k : KD, (k.b == k.b && (k.v == k.v && k.d == k.d)) = true from fun k => by simp]
      k_steps
      (try dsimp only); (try k_unfold); (try dsimp only)
      refine fin_ hret b10 (SlotEq.refl _) (by k_asm) N10 ((as, dO qes' qz') :: r') (fun p hp => ?_) ?_ ?_ ⟨rfl, qes', qz', r', by rw [← lpp]; exact ha7, hP, rfl⟩
      · rcases List.mem_append.mp hp with hp | hp
        · exact List.mem_append_left _ hp
        · exact List.mem_append_right _ (.tail _ (.tail _ (.tail _ (cutm p hp))))
      · exact off_sub o10 fun p hp => .tail _ (.tail _ (.tail _ (cutm p hp)))
      · exact nf_sub n9 fun p hp => .tail _ (cutm p hp)
end
section -- MPick
noncomputable def kAt (p : Nat) : KD := (bd[p]?).getD ⟨Str.empty, false, 0⟩
/-- the base kinds that a letter may take: what the comprehension of _law_round gives -/
noncomputable def picks (v : KD) (n : Nat) : List Nat := (List.range n).filter fun k => fitsB (kAt k) v
theorem picks_succ (v : KD) (k : Nat) : picks v (k + 1) = picks v k ++ (if fitsB (kAt k) v then [k] else []) := by
  rw [picks, List.range_succ, List.filter_append]
  congr 1
  rw [List.filter_cons, List.filter_nil]
theorem picks_lt {v : KD} {n p : Nat} (h : p ∈ picks v n) : p < n ∧ fitsB (kAt p) v = true := by
  obtain ⟨h1, h2⟩ := List.mem_filter.mp h
  exact ⟨List.mem_range.mp h1, h2⟩
theorem picks_len (v : KD) (n : Nat) : (picks v n).length ≤ n := by
  have := List.length_filter_le (fun k => fitsB (kAt k) v) (List.range n)
  rw [List.length_range] at this
  exact this
/-- every letter has a base kind: the feed is never asked for a place among none -/
theorem picks_some : ∀ p ∈ LT, 1 ≤ (picks p.2 20).length := by decide +kernel
theorem ksOf_at {ps : List Nat} {i p : Nat} (h : ps[i]? = some p) : (ksOf ps)[i]? = some (499 + p, kAt p) := by
  rw [ksOf, List.getElem?_map, h]
  rfl
/-- places picked letter by letter are fitting arguments -/
theorem okB_picks {ps : List Nat} {ws : List KD} (hl : ps.length = ws.length) (h : ∀ (i p : Nat) (v : KD), ps[i]? = some p → ws[i]? = some v → fitsB (kAt p) v = true) : okB ((ksOf ps).map (·.2)) ws = true := by
  have hl2 : (ksOf ps).length = ws.length := by rw [ksOf, List.length_map, hl]
  rw [okK_iff hl2]
  intro i a b hi ha hb
  rw [ksOf, List.length_map] at hi
  have hp := List.getElem?_eq_getElem hi
  rw [ksOf_at hp] at ha
  obtain rfl := Option.some.inj ha
  exact h i ps[i] b hp hb
theorem PlOK.push {vs : List Value} {ps : List Nat} {p : Nat} {t : Tok} (h : PlOK vs ps) (hp : p < 20) : PlOK (vs ++ [.int p t]) (ps ++ [p]) := by
  refine ⟨by simp [h.len], fun i q hq => ?_⟩
  by_cases e : i < ps.length
  · rw [List.getElem?_append_left e] at hq
    obtain ⟨a, t', b⟩ := h.at_ i q hq
    exact ⟨a, t', by rw [List.getElem?_append_left (by rw [h.len]; exact e)]; exact b⟩
  · have := (List.getElem?_eq_some_iff.mp hq).1
    rw [List.length_append, List.length_singleton] at this
    obtain rfl : i = ps.length := by omega
    rw [List.getElem?_append_right (Nat.le_refl _), Nat.sub_self] at hq
    obtain rfl : p = q := by simpa using hq
    exact ⟨hp, t, by rw [← h.len, List.getElem?_append_right (Nat.le_refl _), Nat.sub_self]; rfl⟩
end
section -- MLst
theorem nkm {a : Addr} {own X : Led} (h1 : a ∉ own.map (·.1)) (h2 : a ∉ X.map (·.1)) : a ∉ (own ++ X).map (·.1) := fun hm => by
  rw [List.map_append, List.mem_append] at hm
  exact hm.elim h1 h2
theorem nkc {a b : Addr} {o : Obj} {X : Led} (h1 : a ≠ b) (h2 : a ∉ X.map (·.1)) : a ∉ ((b, o) :: X).map (·.1) := fun hm => by
  rw [List.map_cons, List.mem_cons] at hm
  exact hm.elim h1 h2
theorem nk0 {a : Addr} : a ∉ (([] : Led)).map (·.1) := fun h => nomatch h
theorem nkt {a : Addr} {p : Addr × Obj} {X : Led} (h : a ∉ (p :: X).map (·.1)) : a ∉ X.map (·.1) := fun hm => h (by rw [List.map_cons]; exact .tail _ hm)
theorem nkh {a b : Addr} {o : Obj} {X : Led} (h : a ∉ ((b, o) :: X).map (·.1)) : a ≠ b := fun e => h (by rw [List.map_cons]; exact e ▸ .head _)
theorem nks {a : Addr} {X Y : Led} (h : a ∉ X.map (·.1)) (hs : ∀ p ∈ Y, p ∈ X) : a ∉ Y.map (·.1) := fun hm => by
  obtain ⟨q, hq, e⟩ := List.mem_map.mp hm
  exact h (List.mem_map.mpr ⟨q, hs q hq, e⟩)
theorem off_keys {f a b : Led} (o : Off f a) (h : ∀ p ∈ b, p.1 ∈ a.map (·.1)) : Off f b := fun p hp => by
  obtain ⟨q, hq, e⟩ := List.mem_map.mp (h p hp)
  rw [← e]
  exact o q hq
section
variable {prog : Program} {w : World} {A : Around} {E : Value → Shared → Prop} {s : Shared} {base : Heap} {L : Addr} {m : Str → Option Value} {frs X : Led} {D b : Addr}
theorem apart_D {o : Obj} (of : Off frs ((D, o) :: X)) (hx : D ∉ X.map (·.1)) : (∀ p ∈ frs, p.1 ≠ D) ∧ ∀ p ∈ X, p.1 ≠ D :=
  ⟨fun p hp e => of _ (.head _) (by have := key_mem hp; rw [e] at this; exact this), fun p hp e => hx (by have := key_mem hp; rw [e] at this; exact this)⟩
theorem append_led {vs : List Value} {c : Nat} {v : Value} {Q : Value → Shared → Prop} (F : Fr base L s.heap m) (N : News base L s.heap (frs ++ ((D, liO vs c) :: X))) (of : Off frs ((D, liO vs c) :: X)) (hx : D ∉ X.map (·.1)) (hz : vs.length ≤ 16384)
    (h : ∀ h', Fr base L h' m → News base L h' (frs ++ ((D, liO (vs ++ [v]) (c + 1)) :: X)) → Q .none { s with heap := h' }) : wpAny (model prog w) A (call (.builtin "list.append") [.ref D, v]) Q E s := by
  have z := N (D, liO vs c) (List.mem_append_right _ (.head _))
  obtain ⟨a1, a2⟩ := apart_D of hx
  refine append_at z.1 (fun h' hs hD => h h' (F.change hs z.2.1 z.2.2) (news_set N a1 a2 hs ?_)) (by rw [List.size_toArray, sizeLine_eq]; omega)
  rw [hD]
  simp
theorem extend_led {vs us : List Value} {c c2 : Nat} {Q : Value → Shared → Prop} (F : Fr base L s.heap m) (N : News base L s.heap (frs ++ ((D, liO vs c) :: X))) (of : Off frs ((D, liO vs c) :: X)) (hx : D ∉ X.map (·.1)) (hb : (b, liO us c2) ∈ X) (hz : vs.length + us.length ≤ 16384) (hne : us.length ≠ 0)
    (h : ∀ h', Fr base L h' m → News base L h' (frs ++ ((D, liO (vs ++ us) (c + 1)) :: X)) → Q .none { s with heap := h' }) : wpAny (model prog w) A (call (.builtin "list.extend") [.ref D, .ref b]) Q E s := by
  have z := N (D, liO vs c) (List.mem_append_right _ (.head _))
  obtain ⟨a1, a2⟩ := apart_D of hx
  have hd : ¬(!vs.toArray.isEmpty && Builtin.List.listTooLong (vs.toArray.size + us.toArray.size)) = true := by
    have : Builtin.List.listTooLong (vs.toArray.size + us.toArray.size) = false := by
      unfold Builtin.List.listTooLong
      rw [List.size_toArray, List.size_toArray, sizeLine_eq]
      exact decide_eq_false (by omega)
    rw [this, Bool.and_false]
    exact Bool.false_ne_true
  refine call_meets PySem.F.slot_list_extend ⟨_, z.1, rfl⟩ PySem.F.entry_list_extend (PySem.F.args_list_extend_2 _ _) (PySem.AutoSeq1.list_extend_list_list_0 D vs.toArray c b us.toArray c2 hd (by rw [List.size_toArray, sizeLine_eq]; omega) (by rw [List.size_toArray, List.size_toArray, sizeLine_eq]; omega)) ⟨z.1, (N _ (List.mem_append_right _ (.tail _ hb))).1, h _ (F.change (Heap.SameBut.update ..) z.2.1 z.2.2) (kl_turn (fun x => x ++ us.toArray) N a1 a2 (by simp) (by simp; exact fun e => hne (by rw [e]; rfl)))⟩
/-- storeName of a cell variable, in the ledger -/
theorem cellsto_led {env : Env} {o : Obj} {v₀ : Option Value} {x : Str} {v : Value} {Q : Unit → Shared → Prop}
    (F : Fr base L s.heap m) (N : News base L s.heap (frs ++ ((D, o) :: X))) (of : Off frs ((D, o) :: X)) (hx : D ∉ X.map (·.1)) (hk : env.scope.kind = .function) (hl : env.kindOf x = some .cell) (hc : env.cells.lookup x = some D) (ho : o.data = .cell v₀)
    (h : ∀ h' o', o'.data = .cell (some v) → NFo o' → Fr base L h' m → News base L h' (frs ++ ((D, o') :: X)) → Q () { s with heap := h' }) :
    wpAny (model prog w) A (storeName env x v) Q E s := by
  have hd := N (D, o) (List.mem_append_right _ (.head _))
  obtain ⟨a1, a2⟩ := apart_D of hx
  refine wpAny_storeName_cell hk hl hc ⟨o, hd.1, ho⟩ fun h' hcell hsb => ?_
  obtain ⟨o', e, ho'⟩ := hcell
  exact h h' o' ho' (.inr fun vs hv => by rw [ho'] at hv; cases hv) (F.change hsb hd.2.1 hd.2.2) (news_set N a1 a2 hsb e)
end
end
section -- MCallK
noncomputable def KT (bs : Str) (ks : List (Addr × KD)) : KD := ⟨if bs == Str.ofString "" then Str.ofString "bool" else bs, (bs == Str.ofString "") || anyV ks, 0⟩
/-- Kinds.call of a name, over any ledger of the law -/
noncomputable def CallOK (w : World) (mean : ExcName → Option Value) (mg mb : Str → Option Value) (am : Addr) (nm bs : Str) (ws : List KD) (ac : Addr) (fix : Led) (CI CP : Array DictEntry → Prop) : Prop :=
  ∀ (A : Led) (ces : Array DictEntry) (cz : Nat) (ak : Addr) (ks : List (Addr × KD)) (c : Nat) (t u : Tok) (spot : Int), CI ces → ac ∉ (A ++ fix).map (·.1) → At (seed.heap_1 w.params) (A ++ fix) ak (kl ks c) → KindsOK (seed.heap_1 w.params) (A ++ fix) ks → Digit (ks.length : Int) →
    Cn w mean mg mb 397 [.ref am, .str nm t, .ref ak, .int spot u] (A ++ (ac, dO ces cz) :: fix) 20 300
      (fun r tl => okB (ks.map (·.2)) ws = true ∧ ∃ D t u ces' cz', r = .ref D ∧ D ∉ (A ++ (ac, dO ces cz) :: fix).map (·.1) ∧ CP ces' ∧ tl = (D, tup [.str (KT bs ks).b t, .bool (KT bs ks).v, .int (KT bs ks).d u]) :: (A ++ (ac, dO ces' cz') :: fix))
      (fun dx tl => okB (ks.map (·.2)) ws = false ∧ ∃ x t k k' ces' cz', CP ces' ∧ tl = (dx, spotObj w.params x t k spot u k') :: (A ++ (ac, dO ces' cz') :: fix))
/-- two objects of the ledger that are not the same lie apart -/
theorem Cn.of_ne {w : World} {mean : ExcName → Option Value} {mg mb : Str → Option Value} {f : Addr} {vs : List Value} {news : Led} {dd uu : Nat} {Rt : Value → Led → Prop} {Ex : Addr → Led → Prop} {a b : Addr} {o o' : Obj} (ha : (a, o) ∈ news) (hb : (b, o') ∈ news) (ho : o ≠ o') (C : a ≠ b → Cn w mean mg mb f vs news dd uu Rt Ex) : Cn w mean mg mb f vs news dd uu Rt Ex :=
  fun dp un gd cn cs a' ccd cl outer base L m frs s Q E F X T N => C (fun e => ho (by
    have h1 := (N _ (List.mem_append_right _ ha)).1
    have h2 := (N _ (List.mem_append_right _ hb)).1
    dsimp only at h1 h2
    rw [e, h2] at h1
    exact (Option.some.inj h1).symm)) dp un gd cn cs a' ccd cl outer base L m frs s Q E F X T N
theorem callT_K {w : World} {mean : ExcName → Option Value} {mg mb : Str → Option Value} {am adx an ap aq ar ac : Addr} {j1 j2 j3 j4 j5 j6 : Tok} {fix : Led} {pes : Array DictEntry} {pn i : Nat} {nm lt bs : Str} {ws : List (Addr × KD)} (hn : LenLe nm 100) (hbs : (bs == Str.ofString "") = false) {ca aw : Addr} {c2 : Nat} {bt : Tok}
    (hself : (am, instObj 494 adx) ∈ fix) (hdict : (adx, selfD w.params j1 j2 j3 j4 j5 j6 an ap aq ar ac) ∈ fix) (hpd : (ap, ⟨.type "dict", none, .dict pes pn, #[]⟩) ∈ fix) (hps : (pes.all fun e => isExactStrKey e.key) = true) (hpn : nsF pes nm = none)
    (hw1 : At (seed.heap_1 w.params) fix aw (kt ws c2)) (hws : KindsOK (seed.heap_1 w.params) [] ws) (dw : Digit (ws.length : Int)) (hC : nsF (callsE w.params) nm = some (.ref ca)) (hca : At (seed.heap_1 w.params) fix ca (tup [.ref aw, .str bs bt])) :
    CallOK w mean mg mb am nm bs (ws.map (·.2)) ac fix (fun ces => ces = #[]) (fun ces => ces = #[]) := by
  intro A ces cz ak ks c t u spot hI hac hk1 hks dk
  have up : ∀ p ∈ fix, p ∈ A ++ (ac, dO ces cz) :: fix := fun p hp => List.mem_append_right _ (.tail _ hp)
  have up2 : ∀ p ∈ A ++ fix, p ∈ A ++ (ac, dO ces cz) :: fix := fun p hp => by
    rcases List.mem_append.mp hp with h | h
    · exact List.mem_append_left _ h
    · exact up p h
  have hKT : KT bs ks = ⟨bs, anyV ks, 0⟩ := by unfold KT; rw [hbs]; rfl
  refine Cn.conv (callT_c w mean mg mb (A ++ (ac, dO ces cz) :: fix) am ak ks nm t u spot c adx an ap aq ar ac j1 j2 j3 j4 j5 j6 pes pn (up _ hpd) hps hpn ws c2 ca aw (hw1.mono up) (fun p hp => ⟨(hws p hp).1.mono (fun _ h => nomatch h), (hws p hp).2⟩) dw bs bt hC (hca.mono up) (up _ hself) (up _ hdict) (hk1.mono up2) (fun p hp => ⟨(hks p hp).1.mono up2, (hks p hp).2⟩) hn dk) (fun p hp => hp) ?_ ?_ (Nat.le_refl _) (Nat.le_refl _)
  · rintro r tl ⟨hok, D, t', u', rfl, hD, rfl⟩
    refine ⟨_, ⟨hok, D, t', u', ces, cz, rfl, hD, hI, rfl⟩, fun p hp => ?_⟩
    rw [hKT] at hp
    exact hp
  · rintro dx tl ⟨hok, x, t', k, k', rfl⟩
    exact ⟨_, ⟨hok, x, t', k, k', ces, cz, hI, rfl⟩, fun p hp => hp⟩
end
section -- MCallQ
noncomputable def oneP (w : World) (t : Tok) : Array DictEntry := #[⟨hashStr w (Str.ofString "p"), .str (Str.ofString "p") t, .bool true⟩]
theorem put_p0 {w : World} {t : Tok} : dputS #[] (Str.ofString "p") t (hashStr w (Str.ofString "p")) (.bool true) = oneP w t := by kernel_rfl
theorem put_p1 {w : World} {t t0 : Tok} : dputS (oneP w t0) (Str.ofString "p") t (hashStr w (Str.ofString "p")) (.bool true) = oneP w t0 := by kernel_rfl
theorem callP_K {w : World} {mean : ExcName → Option Value} {mg mb : Str → Option Value} {am adx an ap aq ar ac aw : Addr} {j1 j2 j3 j4 j5 j6 : Tok} {fix : Led} {pes : Array DictEntry} {pn c2 : Nat} {ws : List (Addr × KD)}
    (hself : (am, instObj 494 adx) ∈ fix) (hdict : (adx, selfD w.params j1 j2 j3 j4 j5 j6 an ap aq ar ac) ∈ fix) (hpd : (ap, ⟨.type "dict", none, .dict pes pn, #[]⟩) ∈ fix) (hps : (pes.all fun e => isExactStrKey e.key) = true) (hpn : nsF pes (Str.ofString "p") = some (.ref aw))
    (hw1 : At (seed.heap_1 w.params) fix aw (kt ws c2)) (hws : KindsOK (seed.heap_1 w.params) fix ws) (dw : Digit (ws.length : Int)) :
    CallOK w mean mg mb am (Str.ofString "p") (Str.ofString "") (ws.map (·.2)) ac fix (fun ces => ces = #[] ∨ ∃ t, ces = oneP w t) (fun ces => ∃ t, ces = oneP w t) := by
  intro A ces cz ak ks c t u spot hI hac hk1 hks dk
  have up : ∀ p ∈ fix, p ∈ A ++ fix := fun p hp => List.mem_append_right _ hp
  have hput : ∃ t', dputS ces (Str.ofString "p") t (hashStr w (Str.ofString "p")) (.bool true) = oneP w t' := by
    rcases hI with rfl | ⟨t0, rfl⟩
    · exact ⟨t, put_p0⟩
    · exact ⟨t0, put_p1⟩
  obtain ⟨t', hput⟩ := hput
  have hcs : (ces.all fun e => isExactStrKey e.key) = true := by
    rcases hI with rfl | ⟨t0, rfl⟩
    · kernel_rfl
    · kernel_rfl
  have hcz : ces.size ≤ 1000 := by
    rcases hI with rfl | ⟨t0, rfl⟩
    · show 0 ≤ 1000; decide
    · show 1 ≤ 1000; decide
  have hKT : KT (Str.ofString "") ks = ⟨Str.ofString "bool", true, 0⟩ := rfl
  have C := callP_c w mean mg mb (A ++ fix) am ak ks (Str.ofString "p") t u spot c adx an ap aq ar ac j1 j2 j3 j4 j5 j6 pes pn (up _ hpd) hps ws c2 aw hpn (hw1.mono up) (fun p hp => ⟨(hws p hp).1.mono up, (hws p hp).2⟩) dw (up _ hself) (up _ hdict) hk1 hks ⟨by decide +kernel⟩ dk ces cz hcs hcz hac
  rw [hput] at C
  have perm : ∀ (o : Obj) (p : Addr × Obj), p ∈ A ++ (ac, o) :: fix → p ∈ (ac, o) :: (A ++ fix) := fun o p hp => by
    simp only [List.mem_append, List.mem_cons] at hp ⊢
    rcases hp with h | h | h <;> simp only [h, true_or, or_true]
  refine Cn.conv C (fun p hp => ?_) ?_ ?_ (Nat.le_refl _) (Nat.le_refl _)
  · simp only [List.mem_append, List.mem_cons] at hp ⊢
    rcases hp with h | h | h <;> simp only [h, true_or, or_true]
  · rintro r tl ⟨hok, cz', D, t1, u1, rfl, hD, rfl⟩
    refine ⟨(D, tup [.str (KT (Str.ofString "") ks).b t1, .bool (KT (Str.ofString "") ks).v, .int (KT (Str.ofString "") ks).d u1]) :: (A ++ (ac, dO (oneP w t') cz') :: fix), ⟨hok, D, t1, u1, oneP w t', cz', rfl, ?_, ⟨t', rfl⟩, rfl⟩, fun p hp => ?_⟩
    · intro hm
      refine hD ?_
      simp only [List.map_append, List.map_cons, List.mem_append, List.mem_cons] at hm ⊢
      rcases hm with h | h | h <;> simp only [h, true_or, or_true]
    · rcases List.mem_cons.mp hp with rfl | hp
      · exact .head _
      · exact .tail _ (perm _ _ hp)
  · rintro dx tl ⟨hok, x, t1, k, k', cz', rfl⟩
    refine ⟨(dx, spotObj w.params x t1 k spot u k') :: (A ++ (ac, dO (oneP w t') cz') :: fix), ⟨hok, x, t1, k, k', oneP w t', cz', ⟨t', rfl⟩, rfl⟩, fun p hp => ?_⟩
    rcases List.mem_cons.mp hp with rfl | hp
    · exact .head _
    · exact .tail _ (perm _ _ hp)
end
section -- MDeq
theorem not_sys {w : World} {base h : Heap} {L d : Addr} {all : Led} {o : Obj} (X : (seed.heap_1 w.params).In base) (N : News base L h all) (hm : (d, o) ∈ all) : (d == sysModules) = false := by
  rw [beq_eq_false_iff_ne]
  intro q
  have b := (N _ hm).2.2
  dsimp only at b
  rw [q] at b
  rw [X sysModules _ rfl] at b
  cases b
section
variable {prog : Program} {w : World} {A : Around} {E : Value → Shared → Prop} {s : Shared}
theorem dict0 {a : Addr} {n : Nat} (ho : s.heap.get? a = some (dO #[] n)) : s.heap.DictOf (strKind prog w) a [] :=
  ⟨_, #[], n, ho, ⟨rfl, rfl, rfl⟩, rfl, fun e he => by simp at he, .nil, List.nodup_nil⟩
theorem dictP {a : Addr} {n : Nat} {t : Tok} (ho : s.heap.get? a = some (dO (oneP w t) n)) : s.heap.DictOf (strKind prog w) a [(Str.ofString "p", .bool true)] :=
  ⟨_, oneP w t, n, ho, ⟨rfl, rfl, rfl⟩, rfl, fun e he => by
    obtain rfl : e = ⟨hashStr w (Str.ofString "p"), .str (Str.ofString "p") t, .bool true⟩ := by simpa [oneP] using he
    exact ⟨_, strKind_is _ _ _ _, rfl⟩, .cons (strKind_is _ _ _ _) rfl .nil, by simp⟩
end
end
section -- MNewD
section
variable {w : World} {A : Around} {E : Value → Shared → Prop} {s : Shared} {base : Heap} {L : Addr} {m : Str → Option Value} {pre X : Led} {x dx C : Addr}
theorem setattr_led {name : Str} {v : Value} {es es' : List DictEntry} {n n' : Nat} {Q : Unit → Shared → Prop} (F : Fr base L s.heap m) (KX : (seed.heap_1 w.params).In base) (N : News base L s.heap (pre ++ ((dx, dictOf es n) :: X))) (hx : (x, instObj C dx) ∈ pre) (a : ∀ p ∈ pre, p.1 ≠ dx) (b : ∀ p ∈ X, p.1 ≠ dx)
    (hs : findIn (seed.heap_1 w.params) (.ref C) "__setattr__" = some (some (.builtin "object.__setattr__"))) (hp : plainOver (seed.heap_1 w.params) C = true) (ht : takerIn (seed.heap_1 w.params) C name = some none) (hh : hasDictIn (seed.heap_1 w.params) C = true) (hl : (getL name es).isSome = true)
    (e : (putL name (PyData.keyHash w.params name) (.str name (s.toks + 1)) v es, putN name es n) = (es', n')) (hz : es'.length ≤ 1000)
    (h : ∀ h', Fr base L h' m → News base L h' (pre ++ ((dx, dictOf es' n') :: X)) → Q () { s with heap := h', toks := s.toks + 2 }) :
    wpAny (model PySem.Challenge.rw_qd0027_02.row.prog w) A (setAttr (.ref x) name v) Q E s := by
  have U : Upd dx (dictOf es n) (dictOf es' n') (pre ++ ((dx, dictOf es n) :: X)) (pre ++ ((dx, dictOf es' n') :: X)) := by
    clear N hx h e
    induction pre with
    | nil => exact .head b
    | cons p r ih => exact .tail (a p (.head _)) (ih (fun q hq => a q (.tail _ hq)))
  exact set_dict F KX N (InstAt.of_news N (List.mem_append_left _ hx) (List.mem_append_right _ (.head _))) rfl hs hp ht hh hl e U hz h
theorem newdict_led {env : Env} {pos : Pos} {all : Led} {Q : Value → Shared → Prop} (F : Fr base L s.heap m) (N : News base L s.heap all)
    (k : ∀ d h', Fr base L h' m → News base L h' ((d, dO #[] 0) :: all) → (∀ p ∈ all, p.1 < d) → Q (.ref d) { s with heap := h' }) : wpAny (model PySem.Challenge.rw_qd0027_02.row.prog w) A (eval (.Dict [] [] pos) env) Q E s := by
  refine wpAny_Dict_empty ?_
  exact k _ _ (F.push _) (News.push F N _) fun p hp => Heap.lt_size (N p hp).1
end
end
section -- MSlc
theorem pick_upto (vs : List Value) (k : Nat) : (slicePick vs.toArray none (some (k : Int)) none).toList = vs.take k := by
  have e : sliceBounds none (some (k : Int)) none vs.toArray.size = (((0 : Nat) : Int), ((min k vs.toArray.size : Nat) : Int), 1) := by
    simp only [sliceBounds, Option.getD_none, show (1 : Int) > 0 by decide, if_true, if_neg (show ¬ ((k : Int) < 0) by omega)]
    congr 1
    congr 1
    omega
  rw [kmk_pick_nat _ e]
  show (vs.drop 0).take (min k vs.toArray.size - 0) = _
  rw [List.drop_zero, Nat.sub_zero, List.size_toArray, kmk_take_min]
theorem pick_from (vs : List Value) (k : Nat) : (slicePick vs.toArray (some (k : Int)) none none).toList = vs.drop k := by
  have e : sliceBounds (some (k : Int)) none none vs.toArray.size = (((min k vs.toArray.size : Nat) : Int), ((vs.toArray.size : Nat) : Int), 1) := by
    simp only [sliceBounds, Option.getD_none, show (1 : Int) > 0 by decide, if_true, if_neg (show ¬ ((k : Int) < 0) by omega)]
    congr 1
    omega
  rw [kmk_pick_nat _ e]
  show (vs.drop (min k vs.toArray.size)).take (vs.toArray.size - min k vs.toArray.size) = _
  rw [List.size_toArray, kmk_drop_min, List.take_of_length_le (by rw [List.length_drop]; omega)]
theorem pick_butlast (vs : List Value) : (slicePick vs.toArray none (some (-1)) none).toList = vs.take (vs.length - 1) := by
  have e : sliceBounds none (some (-1)) none vs.toArray.size = (((0 : Nat) : Int), ((vs.toArray.size - 1 : Nat) : Int), 1) := by
    simp only [sliceBounds, Option.getD_none, show (1 : Int) > 0 by decide, if_true, if_pos (show (-1 : Int) < 0 by decide)]
    congr 1
    congr 1
    omega
  rw [kmk_pick_nat _ e]
  show (vs.drop 0).take (vs.toArray.size - 1 - 0) = _
  rw [List.drop_zero, Nat.sub_zero, List.size_toArray]
end
section -- MNew
local macro_rules | `(tactic| walk_at $k:str) => if ["setAttr ref ref", "setAttr ref", "eval Dict nil nil"].contains k.getString then `(tactic| (refine mark ?_)) else Lean.Macro.throwUnsupported
theorem new_names (w : World) (mean : ExcName → Option Value) (mg mb : Str → Option Value) (news : Led) (base : Heap) (L : Addr) (m : Str → Option Value) (frs : Led) (A : Around) (dp un : Nat) (gd : Option (List Code)) (cn : Str) (cs : Scope) (a : Addr) (ccd : Value) (cl : List (Str × Addr)) (outer : List Env) (s : Shared) (Q : Value → Shared → Prop) (E : Value → Shared → Prop)
    (hA : A = ktrTop dp un gd cn cs L a ccd cl outer)
    (F : Fr base L s.heap m) (X : (seed.heap_1 w.params).In base) (T : Top vw (looseW vw lo) mean mg mb base) (N : News base L s.heap (frs ++ news)) (O : FrOK outer frs) (Of : Off frs news)
    (hk : cs.kind = .function) (hd : dp + 3 < recursionLimit) (hu : un + 40 < cLine)
    (hQ : ∀ h' tk' frs' an bdx sc as s0 y1 y2, SlotEq frs frs' → Fr base L h' m → (∀ p ∈ frs ++ news, p.1 < bdx) → bdx < an → an < s0 → s0 < sc → sc < as → News base L h' (frs' ++ ((s0, dO #[] 0) :: (as, dO #[] 0) :: (an, instObj 257 bdx) :: (bdx, namesD w.params y1 y2 sc as) :: (sc, lst [.ref s0]) :: news)) → Q (.ref an) { s with heap := h', toks := tk' }) :
    wpAny (model PySem.Challenge.rw_qd0027_02.row.prog w) A (call (.ref 257) []) Q E s := by
  subst hA
  refine call_cls F X N (by k_is) (by k_is) (by k_is) (fun an bdx h1 F1 N1 l1 l2 => ?_)
  have N1' : News base L h1 (frs ++ ((an, instObj 257 bdx) :: (bdx, dictOf [] 0) :: news)) := cut_news N1 (fun q hq => by exact (show ∀ p ∈ _, p ∈ _ by with_reducible walk_at "LSUB") _ hq)
  have O1 : Off frs ((an, instObj 257 bdx) :: (bdx, dictOf [] 0) :: news) := by
    have hne : ∀ p ∈ frs, p.1 < bdx := fun p hp => l1 p (List.mem_append_left _ hp)
    refine Off.cons (fun hm => ?_) (Off.cons (fun hm => ?_) Of)
    · obtain ⟨p, hp, z⟩ := List.mem_map.mp hm
      have z' : p.1 = an := z
      exact Nat.lt_irrefl _ (Nat.lt_trans (z' ▸ hne p hp) l2)
    · obtain ⟨p, hp, z⟩ := List.mem_map.mp hm
      have z' : p.1 = bdx := z
      exact Nat.lt_irrefl _ (z' ▸ hne p hp)
  refine enter F1 X T N1' O O1 rfl rfl hk (by k_is) (by k_is) (by ktr_room) (BindsTo.of_eq rfl) (locs rfl) (fun L' h₁ frs₁ fo of' bk F' N' lt => ?_) rfl rfl rfl (by decide)
  try dsimp only
  try k_fold
  have hb1 : ∀ p ∈ frs₁, p.1 ≠ bdx := fun p hp z => of' (bdx, dictOf [] 0) (.tail _ (.head _)) (by have := List.mem_map_of_mem (f := Prod.fst) hp; rw [z] at this; exact this)
  have hb2 : ∀ p ∈ news, p.1 ≠ bdx := fun p hp z => Nat.lt_irrefl _ (z ▸ l1 p (List.mem_append_right _ hp))
  k_steps
  unfold Marked
  refine newdict_led F' N' (fun s0 h2 F2 N2 l3 => ?_)
  k_steps
  rename_i sc h3 F3 N3 l4 
  unfold Marked
  have inb : ∀ p ∈ frs₁ ++ ((an, instObj 257 bdx) :: (bdx, dictOf [] 0) :: news), p.1 < s0 := l3
  have s0b : bdx ≠ s0 := fun z => Nat.lt_irrefl _ (z ▸ inb (bdx, dictOf [] 0) (List.mem_append_right _ (.tail _ (.head _))))
  have sclt : bdx < sc := Nat.lt_trans (inb (bdx, dictOf [] 0) (List.mem_append_right _ (.tail _ (.head _)))) l4.1
  have pa : ∀ p ∈ (sc, W.listOf #[Value.ref s0] 0) :: (s0, dO #[] 0) :: (an, instObj 257 bdx) :: frs₁, p.1 ≠ bdx := by
    intro p hp z
    rcases List.mem_cons.mp hp with rfl | hp
    · exact Nat.lt_irrefl _ (z ▸ sclt)
    rcases List.mem_cons.mp hp with rfl | hp
    · exact s0b z.symm
    rcases List.mem_cons.mp hp with rfl | hp
    · exact Nat.lt_irrefl _ (z ▸ l2)
    · exact hb1 p hp z
  refine setattr_led (dx := bdx) (C := 257) (es := []) (n := 0) (es' := [⟨PyData.keyHash w.params (Str.ofString "scopes"), .str (Str.ofString "scopes") _, .ref sc⟩]) (n' := 1) (pre := (sc, W.listOf #[Value.ref s0] 0) :: (s0, dO #[] 0) :: (an, instObj 257 bdx) :: frs₁) (X := news) F3 X (cut_news N3 (fun q hq => ?_)) (.tail _ (.tail _ (.head _))) pa hb2 (by k_is) (by k_is) (by k_is) (by k_is) (by rfl) rfl (Nat.le_of_ble_eq_true rfl) (fun h4 F4 N4 => ?_)
  · exact (show ∀ p ∈ _, p ∈ _ by with_reducible walk_at "LSUB") _ hq
  k_steps
  unfold Marked
  refine newdict_led F4 N4 (fun as h5 F5 N5 l5 => ?_)
  k_steps
  unfold Marked
  refine setattr_led (dx := bdx) (C := 257) (n := 1) (n' := 2) (pre := (as, dO #[] 0) :: (sc, W.listOf #[Value.ref s0] 0) :: (s0, dO #[] 0) :: (an, instObj 257 bdx) :: frs₁) (X := news) F5 X N5 (.tail _ (.tail _ (.tail _ (.head _)))) (fun p hp => ?_) hb2 (by k_is) (by k_is) (by k_is) (by k_is) (by rfl) rfl (Nat.le_of_ble_eq_true rfl) (fun h6 F6 N6 => ?_)
  · rcases List.mem_cons.mp hp with rfl | hp
    · exact fun z => Nat.lt_irrefl _ (z ▸ l5 (bdx, _) (List.mem_append_right _ (.head _)))
    · exact pa p hp
  k_steps
  have ltf : ∀ {y : Addr}, (∀ p ∈ frs₁, p.1 < y) → y ∉ frs₁.map (·.1) := fun {y} h hm => by
    obtain ⟨p, hp, z⟩ := List.mem_map.mp hm
    have z' : p.1 = y := z
    exact Nat.lt_irrefl _ (z' ▸ h p hp)
  have f0 : ∀ p ∈ frs₁, p.1 < s0 := fun p hp => inb p (List.mem_append_left _ hp)
  obtain ⟨y1, y2, N6b⟩ : ∃ y1 y2, News base L' h6 ((as, dO #[] 0) :: (sc, lst [.ref s0]) :: (s0, dO #[] 0) :: (an, instObj 257 bdx) :: frs₁ ++ (bdx, namesD w.params y1 y2 sc as) :: news) := ⟨_, _, N6⟩
  have N7 : News base L' h6 (frs₁ ++ ((s0, dO #[] 0) :: (as, dO #[] 0) :: (an, instObj 257 bdx) :: (bdx, namesD w.params y1 y2 sc as) :: (sc, lst [.ref s0]) :: news)) := by
    refine cut_news N6b (fun q hq => ?_)
    exact (show ∀ p ∈ _, p ∈ _ by with_reducible walk_at "LSUB") _ hq
  obtain ⟨frs', se, F8, N8, of8⟩ := Back.use bk F6 N7 (Off.cons (ltf f0) (Off.cons (ltf fun p hp => l5 p (List.mem_append_left _ (.tail _ (.tail _ (.tail _ hp))))) (Off.cons (of' _ (.head _)) (Off.cons (of' (bdx, dictOf [] 0) (.tail _ (.head _))) (Off.cons (ltf fun p hp => Nat.lt_trans (f0 p hp) l4.1) fun p hp => of' p (.tail _ (.tail _ hp)))))))
  dsimp only [InitBack]; (try refine ⟨rfl, ?_⟩)
  exact hQ h6 _ frs' an bdx sc as s0 y1 y2 se F8 l1 l2 (inb (an, instObj 257 bdx) (List.mem_append_right _ (.head _))) l4.1 (l5 (sc, _) (.head _)) N8
end
section -- MKnd
local macro_rules | `(tactic| walk_at "d0") => `(tactic| skip)
local macro_rules | `(tactic| walk_at $k:str) => if ["setAttr ref ref", "setAttr ref", "setAttr ref bool", "eval Dict nil nil", "call ref", "call ref nil"].contains k.getString then `(tactic| (refine mark ?_)) else Lean.Macro.throwUnsupported
theorem new_kinds (w : World) (mean : ExcName → Option Value) (mg mb : Str → Option Value) (news : Led) (base : Heap) (L : Addr) (m : Str → Option Value) (frs : Led) (A : Around) (dp un : Nat) (gd : Option (List Code)) (cn : Str) (cs : Scope) (a : Addr) (ccd : Value) (cl : List (Str × Addr)) (outer : List Env) (s : Shared) (Q : Value → Shared → Prop) (E : Value → Shared → Prop)
    (hA : A = ktrTop dp un gd cn cs L a ccd cl outer)
    (F : Fr base L s.heap m) (X : (seed.heap_1 w.params).In base) (T : Top vw (looseW vw lo) mean mg mb base) (N : News base L s.heap (frs ++ news)) (O : FrOK outer frs) (Of : Off frs news)
    (hk : cs.kind = .function) (hd : dp + 6 < recursionLimit) (hu : un + 80 < cLine)
    (hQ : ∀ h' tk' frs' am adx an bdx sc as s0 ap aq ar ac y1 y2 j1 j2 j3 j4 j5 j6, SlotEq frs frs' → Fr base L h' m → (∀ p ∈ frs ++ news, p.1 < adx) → adx < am → am < bdx → bdx < an → an < s0 → s0 < sc → sc < as → as < ap → ap < aq → aq < ar → ar < ac → News base L h' (frs' ++ ((ac, dO #[] 0) :: (ar, dO #[] 0) :: (aq, dO #[] 0) :: (ap, dO #[] 0) :: (s0, dO #[] 0) :: (as, dO #[] 0) :: (an, instObj 257 bdx) :: (bdx, namesD w.params y1 y2 sc as) :: (sc, lst [.ref s0]) :: (am, instObj 494 adx) :: (adx, selfD w.params j1 j2 j3 j4 j5 j6 an ap aq ar ac) :: news)) → Q (.ref am) { s with heap := h', toks := tk' }) :
    wpAny (model PySem.Challenge.rw_qd0027_02.row.prog w) A (call (.ref 494) []) Q E s := by
  subst hA
  refine call_cls F X N (by k_is) (by k_is) (by k_is) (fun am adx h1 F1 N1 l1 l2 => ?_)
  have N1' : News base L h1 (frs ++ ((am, instObj 494 adx) :: (adx, dictOf [] 0) :: news)) := cut_news N1 (fun q hq => by exact (show ∀ p ∈ _, p ∈ _ by with_reducible walk_at "LSUB") _ hq)
  have O1 : Off frs ((am, instObj 494 adx) :: (adx, dictOf [] 0) :: news) := by
    have hne : ∀ p ∈ frs, p.1 < adx := fun p hp => l1 p (List.mem_append_left _ hp)
    refine Off.cons (fun hm => ?_) (Off.cons (fun hm => ?_) Of)
    · obtain ⟨p, hp, z⟩ := List.mem_map.mp hm
      have z' : p.1 = am := z
      exact Nat.lt_irrefl _ (Nat.lt_trans (z' ▸ hne p hp) l2)
    · obtain ⟨p, hp, z⟩ := List.mem_map.mp hm
      have z' : p.1 = adx := z
      exact Nat.lt_irrefl _ (z' ▸ hne p hp)
  refine enter F1 X T N1' O O1 rfl rfl hk (by k_is) (by k_is) (by ktr_room) (BindsTo.of_eq rfl) (locs rfl) (fun L' h₁ frs₁ fo of' bk F' N' lt => ?_) rfl rfl rfl (by decide)
  try dsimp only
  try k_fold
  have hb1 : ∀ p ∈ frs₁, p.1 ≠ adx := fun p hp z => of' (adx, dictOf [] 0) (.tail _ (.head _)) (by have := List.mem_map_of_mem (f := Prod.fst) hp; rw [z] at this; exact this)
  have hb2 : ∀ p ∈ news, p.1 ≠ adx := fun p hp z => Nat.lt_irrefl _ (z ▸ l1 p (List.mem_append_right _ hp))
  k_steps
  unfold Marked
  refine new_names w mean mg mb ((am, instObj 494 adx) :: (adx, dictOf [] 0) :: news) base L' _ frs₁ _ _ _ _ _ _ _ _ _ _ _ _ _ rfl F' X T N' fo of' rfl (by first | (show dp + 1 + 1 + 3 < _; omega) | (show dp + 1 + 3 < _; omega) | (show dp + 1 + 1 + 1 + 3 < _; omega)) (by first | (show un + 1 + 40 < _; omega) | (show un + 2 + 40 < _; omega) | (show un + 3 + 40 < _; omega) | (show un + 4 + 40 < _; omega) | (show un + 5 + 40 < _; omega) | (show un + 6 + 40 < _; omega) | (show un + 7 + 40 < _; omega) | (show un + 8 + 40 < _; omega) | (show un + 9 + 40 < _; omega) | (show un + 10 + 40 < _; omega) | (show un + 11 + 40 < _; omega) | (show un + 40 < _; omega)) (fun h2 tk2 frs2 an bdx sc as s0 y1 y2 se F2 lb1 lb2 lb3 lb4 lb5 N2 => ?_)
  have amb : am < bdx := lb1 (am, instObj 494 adx) (List.mem_append_right _ (.head _))
  have f2 : ∀ {y : Addr}, y ∉ frs₁.map (·.1) → y ∉ frs2.map (·.1) := fun {y} h hm => h (by first | (rw [se.keys]; exact hm) | (rw [← se.keys]; exact hm))
  have hb3 : ∀ p ∈ frs2, p.1 ≠ adx := fun p hp z => f2 (of' (adx, dictOf [] 0) (.tail _ (.head _))) (by have := List.mem_map_of_mem (f := Prod.fst) hp; rw [z] at this; exact this)
  have ne : ∀ {y : Addr}, adx < y → y ≠ adx := fun {y} h z => Nat.lt_irrefl _ (z ▸ h)
  have o1 : adx < bdx := Nat.lt_trans l2 amb
  have o2 : adx < an := Nat.lt_trans o1 lb2
  have o3 : adx < s0 := Nat.lt_trans o2 lb3
  have o4 : adx < sc := Nat.lt_trans o3 lb4
  have o5 : adx < as := Nat.lt_trans o4 lb5
  have pa : ∀ p ∈ (s0, dO #[] 0) :: (as, dO #[] 0) :: (an, instObj 257 bdx) :: (bdx, namesD w.params y1 y2 sc as) :: (sc, lst [.ref s0]) :: (am, instObj 494 adx) :: frs2, p.1 ≠ adx := by
    intro p hp
    rcases List.mem_cons.mp hp with rfl | hp
    · exact ne o3
    rcases List.mem_cons.mp hp with rfl | hp
    · exact ne o5
    rcases List.mem_cons.mp hp with rfl | hp
    · exact ne o2
    rcases List.mem_cons.mp hp with rfl | hp
    · exact ne o1
    rcases List.mem_cons.mp hp with rfl | hp
    · exact ne o4
    rcases List.mem_cons.mp hp with rfl | hp
    · exact ne l2
    · exact hb3 p hp
  k_steps
  unfold Marked
  refine setattr_led (dx := adx) (C := 494) (es := []) (n := 0) (n' := 1) (pre := (s0, dO #[] 0) :: (as, dO #[] 0) :: (an, instObj 257 bdx) :: (bdx, namesD w.params y1 y2 sc as) :: (sc, lst [.ref s0]) :: (am, instObj 494 adx) :: frs2) (X := news) F2 X (cut_news N2 (fun q hq => ?_)) (.tail _ (.tail _ (.tail _ (.tail _ (.tail _ (.head _)))))) pa hb2 (by k_is) (by k_is) (by k_is) (by k_is) (by rfl) rfl (Nat.le_of_ble_eq_true rfl) (fun h3 F3 N3 => ?_)
  · exact (show ∀ p ∈ _, p ∈ _ by with_reducible walk_at "LSUB") _ hq
  k_steps
  unfold Marked
  refine newdict_led F3 N3 (fun ap h4 F4 N4 lap => ?_)
  have pa_ap : ∀ p ∈ (ap, dO #[] 0) :: (s0, dO #[] 0) :: (as, dO #[] 0) :: (an, instObj 257 bdx) :: (bdx, namesD w.params y1 y2 sc as) :: (sc, lst [.ref s0]) :: (am, instObj 494 adx) :: frs2, p.1 ≠ adx := by
    intro p hp
    rcases List.mem_cons.mp hp with rfl | hp
    · exact ne (lap (adx, _) (List.mem_append_right _ (.head _)))
    · exact pa p hp
  k_steps
  unfold Marked
  refine setattr_led (dx := adx) (C := 494) (n := 1) (n' := 2) (pre := (ap, dO #[] 0) :: (s0, dO #[] 0) :: (as, dO #[] 0) :: (an, instObj 257 bdx) :: (bdx, namesD w.params y1 y2 sc as) :: (sc, lst [.ref s0]) :: (am, instObj 494 adx) :: frs2) (X := news) F4 X N4 (.tail _ (.tail _ (.tail _ (.tail _ (.tail _ (.tail _ (.head _))))))) pa_ap hb2 (by k_is) (by k_is) (by k_is) (by k_is) (by rfl) rfl (Nat.le_of_ble_eq_true rfl) (fun h5 F5 N5 => ?_)
  k_steps
  unfold Marked
  refine newdict_led F5 N5 (fun aq h6 F6 N6 laq => ?_)
  have pa_aq : ∀ p ∈ (aq, dO #[] 0) :: (ap, dO #[] 0) :: (s0, dO #[] 0) :: (as, dO #[] 0) :: (an, instObj 257 bdx) :: (bdx, namesD w.params y1 y2 sc as) :: (sc, lst [.ref s0]) :: (am, instObj 494 adx) :: frs2, p.1 ≠ adx := by
    intro p hp
    rcases List.mem_cons.mp hp with rfl | hp
    · exact ne (laq (adx, _) (List.mem_append_right _ (.head _)))
    · exact pa_ap p hp
  k_steps
  unfold Marked
  refine setattr_led (dx := adx) (C := 494) (n := 2) (n' := 3) (pre := (aq, dO #[] 0) :: (ap, dO #[] 0) :: (s0, dO #[] 0) :: (as, dO #[] 0) :: (an, instObj 257 bdx) :: (bdx, namesD w.params y1 y2 sc as) :: (sc, lst [.ref s0]) :: (am, instObj 494 adx) :: frs2) (X := news) F6 X N6 (.tail _ (.tail _ (.tail _ (.tail _ (.tail _ (.tail _ (.tail _ (.head _)))))))) pa_aq hb2 (by k_is) (by k_is) (by k_is) (by k_is) (by rfl) rfl (Nat.le_of_ble_eq_true rfl) (fun h7 F7 N7 => ?_)
  k_steps
  unfold Marked
  refine newdict_led F7 N7 (fun ar h8 F8 N8 lar => ?_)
  have pa_ar : ∀ p ∈ (ar, dO #[] 0) :: (aq, dO #[] 0) :: (ap, dO #[] 0) :: (s0, dO #[] 0) :: (as, dO #[] 0) :: (an, instObj 257 bdx) :: (bdx, namesD w.params y1 y2 sc as) :: (sc, lst [.ref s0]) :: (am, instObj 494 adx) :: frs2, p.1 ≠ adx := by
    intro p hp
    rcases List.mem_cons.mp hp with rfl | hp
    · exact ne (lar (adx, _) (List.mem_append_right _ (.head _)))
    · exact pa_aq p hp
  k_steps
  unfold Marked
  refine setattr_led (dx := adx) (C := 494) (n := 3) (n' := 4) (pre := (ar, dO #[] 0) :: (aq, dO #[] 0) :: (ap, dO #[] 0) :: (s0, dO #[] 0) :: (as, dO #[] 0) :: (an, instObj 257 bdx) :: (bdx, namesD w.params y1 y2 sc as) :: (sc, lst [.ref s0]) :: (am, instObj 494 adx) :: frs2) (X := news) F8 X N8 (.tail _ (.tail _ (.tail _ (.tail _ (.tail _ (.tail _ (.tail _ (.tail _ (.head _))))))))) pa_ar hb2 (by k_is) (by k_is) (by k_is) (by k_is) (by rfl) rfl (Nat.le_of_ble_eq_true rfl) (fun h9 F9 N9 => ?_)
  k_steps
  unfold Marked
  refine setattr_led (dx := adx) (C := 494) (n := 4) (n' := 5) (pre := (ar, dO #[] 0) :: (aq, dO #[] 0) :: (ap, dO #[] 0) :: (s0, dO #[] 0) :: (as, dO #[] 0) :: (an, instObj 257 bdx) :: (bdx, namesD w.params y1 y2 sc as) :: (sc, lst [.ref s0]) :: (am, instObj 494 adx) :: frs2) (X := news) F9 X N9 (.tail _ (.tail _ (.tail _ (.tail _ (.tail _ (.tail _ (.tail _ (.tail _ (.head _))))))))) pa_ar hb2 (by k_is) (by k_is) (by k_is) (by k_is) (by rfl) rfl (Nat.le_of_ble_eq_true rfl) (fun h10 F10 N10 => ?_)
  k_steps
  unfold Marked
  refine newdict_led F10 N10 (fun ac h11 F11 N11 lac => ?_)
  have pa_ac : ∀ p ∈ (ac, dO #[] 0) :: (ar, dO #[] 0) :: (aq, dO #[] 0) :: (ap, dO #[] 0) :: (s0, dO #[] 0) :: (as, dO #[] 0) :: (an, instObj 257 bdx) :: (bdx, namesD w.params y1 y2 sc as) :: (sc, lst [.ref s0]) :: (am, instObj 494 adx) :: frs2, p.1 ≠ adx := by
    intro p hp
    rcases List.mem_cons.mp hp with rfl | hp
    · exact ne (lac (adx, _) (List.mem_append_right _ (.head _)))
    · exact pa_ar p hp
  k_steps
  unfold Marked
  refine setattr_led (dx := adx) (C := 494) (n := 5) (n' := 6) (pre := (ac, dO #[] 0) :: (ar, dO #[] 0) :: (aq, dO #[] 0) :: (ap, dO #[] 0) :: (s0, dO #[] 0) :: (as, dO #[] 0) :: (an, instObj 257 bdx) :: (bdx, namesD w.params y1 y2 sc as) :: (sc, lst [.ref s0]) :: (am, instObj 494 adx) :: frs2) (X := news) F11 X N11 (.tail _ (.tail _ (.tail _ (.tail _ (.tail _ (.tail _ (.tail _ (.tail _ (.tail _ (.head _)))))))))) pa_ac hb2 (by k_is) (by k_is) (by k_is) (by k_is) (by rfl) rfl (Nat.le_of_ble_eq_true rfl) (fun h12 F12 N12 => ?_)
  k_steps
  obtain ⟨j1, j2, j3, j4, j5, j6, NZ⟩ : ∃ j1 j2 j3 j4 j5 j6, News base L' h12 ((ac, dO #[] 0) :: (ar, dO #[] 0) :: (aq, dO #[] 0) :: (ap, dO #[] 0) :: (s0, dO #[] 0) :: (as, dO #[] 0) :: (an, instObj 257 bdx) :: (bdx, namesD w.params y1 y2 sc as) :: (sc, lst [.ref s0]) :: (am, instObj 494 adx) :: frs2 ++ (adx, selfD w.params j1 j2 j3 j4 j5 j6 an ap aq ar ac) :: news) := ⟨_, _, _, _, _, _, N12⟩
  have NY : News base L' h12 (frs2 ++ ((ac, dO #[] 0) :: (ar, dO #[] 0) :: (aq, dO #[] 0) :: (ap, dO #[] 0) :: (s0, dO #[] 0) :: (as, dO #[] 0) :: (an, instObj 257 bdx) :: (bdx, namesD w.params y1 y2 sc as) :: (sc, lst [.ref s0]) :: (am, instObj 494 adx) :: (adx, selfD w.params j1 j2 j3 j4 j5 j6 an ap aq ar ac) :: news)) := by
    refine cut_news NZ (fun q hq => ?_)
    exact (show ∀ p ∈ _, p ∈ _ by with_reducible walk_at "LSUB") _ hq
  have ltf : ∀ {y : Addr}, (∀ p ∈ frs2, p.1 < y) → y ∉ frs2.map (·.1) := fun {y} h hm => by
    obtain ⟨p, hp, z⟩ := List.mem_map.mp hm
    have z' : p.1 = y := z
    exact Nat.lt_irrefl _ (z' ▸ h p hp)
  have e1 : ∀ p ∈ frs2, p.1 < bdx := fun p hp => by
    have : p.1 ∈ frs₁.map (·.1) := by
      have q := List.mem_map_of_mem (f := Prod.fst) hp
      first | (rw [se.keys]; exact q) | (rw [← se.keys]; exact q)
    obtain ⟨r, hr, z⟩ := List.mem_map.mp this
    exact z ▸ lb1 r (List.mem_append_left _ hr)
  have e2 : ∀ p ∈ frs2, p.1 < an := fun p hp => Nat.lt_trans (e1 p hp) lb2
  have e3 : ∀ p ∈ frs2, p.1 < s0 := fun p hp => Nat.lt_trans (e2 p hp) lb3
  have e4 : ∀ p ∈ frs2, p.1 < sc := fun p hp => Nat.lt_trans (e3 p hp) lb4
  have e5 : ∀ p ∈ frs2, p.1 < as := fun p hp => Nat.lt_trans (e4 p hp) lb5
  have g6 : as < ap := lap (as, dO #[] 0) (.tail _ (.head _))
  have g7 : ap < aq := laq (ap, dO #[] 0) (.head _)
  have g8 : aq < ar := lar (aq, dO #[] 0) (.head _)
  have g9 : ar < ac := lac (ar, dO #[] 0) (.head _)
  have e6 : ∀ p ∈ frs2, p.1 < ap := fun p hp => Nat.lt_trans (e5 p hp) g6
  have e7 : ∀ p ∈ frs2, p.1 < aq := fun p hp => Nat.lt_trans (e6 p hp) g7
  have e8 : ∀ p ∈ frs2, p.1 < ar := fun p hp => Nat.lt_trans (e7 p hp) g8
  have e9 : ∀ p ∈ frs2, p.1 < ac := fun p hp => Nat.lt_trans (e8 p hp) g9
  obtain ⟨frs', se', F99, N99, of99⟩ := Back.use2 bk se F12 NY (Off.cons (ltf e9) (Off.cons (ltf e8) (Off.cons (ltf e7) (Off.cons (ltf e6) (Off.cons (ltf e3) (Off.cons (ltf e5) (Off.cons (ltf e2) (Off.cons (ltf e1) (Off.cons (ltf e4) (Off.cons (f2 (of' (am, instObj 494 adx) (.head _))) (Off.cons (f2 (of' (adx, dictOf [] 0) (.tail _ (.head _)))) fun p hp => f2 (of' p (.tail _ (.tail _ hp))))))))))))))
  dsimp only [InitBack]; (try refine ⟨rfl, ?_⟩)
  exact hQ h12 _ frs' am adx an bdx sc as s0 ap aq ar ac y1 y2 j1 j2 j3 j4 j5 j6 se' F99 l1 l2 amb lb2 lb3 lb4 lb5 g6 g7 g8 g9 N99
end
section
local macro_rules | `(tactic| walk_at $k:str) => if ["call ref", "call ref cons nil"].contains k.getString then `(tactic| (refine mark ?_)) else Lean.Macro.throwUnsupported
local macro_rules | `(tactic| walk_at "call ref") => `(tactic| walk_at "H0")
local macro_rules | `(tactic| walk_at "call ref cons nil") => `(tactic| walk_at "call ref")
local macro_rules | `(tactic| walk_at $k:str) => if ["call type:range", "subscriptTail Name Name ref int", "exec For Name Call cons nil", "subscriptTail Name Constant ref int", "exec Try", "exec For Name Tuple cons nil", "exec For Name Tuple", "call type:tuple", "call type:tuple cons nil", "call type:set", "call type:set cons nil", "call builtin:sorted", "call builtin:list.extend", "binaryOp Add ref ref", "call builtin:list.append", "subscriptTail Name Call ref int", "exec For Name Name cons cons nil", "compareOp NotEq ref ref", "call type:str", "binaryOp Mult ref int", "subscriptTail Name Name str int", "subscriptTail Call Subscript ref str", "call builtin:str.join", "subscriptTail Constant Call str int", "exec Assign cons ListComp"].contains k.getString then `(tactic| (refine mark ?_)) else Lean.Macro.throwUnsupported
section -- MTailA
local macro_rules | `(tactic| walk_at "call builtin:len") => `(tactic| walk_at "H6")
noncomputable def fun602 (P : Params) : (o : Obj) ×' ((seed.heap_1 P).lookup 602 = some o) := ⟨_, rfl⟩
noncomputable def stmtsO (o : Obj) : List Stmt := match o.data with | .func fd => (match fd.body with | .stmts b => b | _ => []) | _ => []
noncomputable def scopeO (o : Obj) : Scope := match o.data with | .func fd => fd.scope | _ => default
noncomputable abbrev env602 (P : Params) (L' : Addr) : Env := envOfC (Str.ofString "_law_round") (scopeO (fun602 P).1) L' 602 (.ref 601)
/-- a row of arguments to be tried -/
noncomputable def TryOK (K : Frag) (S : Led) (a : Addr) : Prop := ∃ ks c, At K S a (kl ks c) ∧ KindsOK K S ks ∧ ks.length ≤ 7
noncomputable def rmT (bs x nm : Str) (tb tx t : Tok) (am fd pl tl : Addr) (sv sp : Option Value) : Str → Option Value := (fun y => if y = Str.ofString "spot" then sp else if y = Str.ofString "tries" then some (.ref tl) else if y = Str.ofString "some" then sv else if y = Str.ofString "places" then some (.ref pl) else if y = Str.ofString "base" then some (.str bs tb) else if y = Str.ofString "letters" then some (.str x tx) else if y = Str.ofString "name" then some (.str nm t) else if y = Str.ofString "maker" then some (.ref am) else if y = Str.ofString "feed" then some (.ref fd) else none)
theorem TryOK.mono {K : Frag} {S S' : Led} {a : Addr} (h : TryOK K S a) (hs : ∀ p ∈ S, p ∈ S') : TryOK K S' a := by
  obtain ⟨ks, c, h1, h2, h3⟩ := h
  exact ⟨ks, c, h1.mono hs, fun p hp => ⟨(h2 p hp).1.mono hs, (h2 p hp).2⟩, h3⟩
theorem tailA {w : World} {mean : ExcName → Option Value} {mg mb : Str → Option Value} {fix S : Led} {fd am adx an ap aq ar ac tl pl : Addr} {fo : Obj} {j1 j2 j3 j4 j5 j6 : Tok} {ez ct : Nat} {nm x bs : Str} {t tx tb : Tok} {ws : List KD} {ces : Array DictEntry} {CI CP : Array DictEntry → Prop} {sv : Option Value} {ts : List Addr}
    {dp un : Nat} {gd : Option (List Code)} {cn : Str} {cs : Scope} {a : Addr} {ccd : Value} {cl : List (Str × Addr)} {outer : List Env} {base : Heap} {L L' L₀ : Addr} {m₀ : Str → Option Value} {frs frs₀ : Led} {s : Shared} {Q : Flow → Shared → Prop} {E : Value → Shared → Prop}
    (hself : (am, instObj 494 adx) ∈ fix) (hdict : (adx, selfD w.params j1 j2 j3 j4 j5 j6 an ap aq ar ac) ∈ fix) (hcall : CallOK w mean mg mb am nm bs ws ac fix CI CP) (hC : CP ces) (hCP : ∀ ces, CP ces → CI ces) (hx : LetsOK x ws) (hw : ws.length ≤ 6)
    (hT : ∀ a ∈ ts, TryOK (seed.heap_1 w.params) (S ++ fix) a) (htz : ts.length ≤ 99)
    (hac : ac ∉ ((tl, liO (ts.map Value.ref) ct) :: (fd, fo) :: (S ++ fix)).map (·.1))
    (F : Fr base L' s.heap (rmT bs x nm tb tx t am fd pl tl sv none)) (X : (seed.heap_1 w.params).In base) (T : Top vw (looseW vw lo) mean mg mb base) (N : News base L' s.heap (frs ++ ((tl, liO (ts.map Value.ref) ct) :: (fd, fo) :: (S ++ (ac, dO ces ez) :: fix)))) (O : FrOK (envX cn cs L a ccd cl :: outer) frs) (Of : Off frs ((tl, liO (ts.map Value.ref) ct) :: (fd, fo) :: (S ++ (ac, dO ces ez) :: fix))) (nf : NF ((tl, liO (ts.map Value.ref) ct) :: (fd, fo) :: (S ++ (ac, dO ces ez) :: fix))) (bk : Back base L₀ m₀ frs₀ frs)
    (hd : dp + 100 < recursionLimit) (hu : un + 3000 < cLine) (hE : PassesOwn (model PySem.Challenge.rw_qd0027_02.row.prog w) ((ktrTop dp un gd cn cs L a ccd cl outer).deeper (env602 w.params L')) (env602 w.params L') E)
    (fin : ∀ h' tk' frs' m' ces' ez', CP ces' → SlotEq frs frs' → Fr base L' h' m' → News base L' h' (frs' ++ ((tl, liO (ts.map Value.ref) ct) :: (fd, fo) :: (S ++ (ac, dO ces' ez') :: fix))) → Off frs' ((tl, liO (ts.map Value.ref) ct) :: (fd, fo) :: (S ++ (ac, dO ces' ez') :: fix)) → Q (.ret (.bool true)) { s with heap := h', toks := tk' }) :
    wpAny (model PySem.Challenge.rw_qd0027_02.row.prog w) ((ktrTop dp un gd cn cs L a ccd cl outer).deeper (env602 w.params L')) (execs ((stmtsO (fun602 w.params).1).drop 6) (env602 w.params L')) Q E s := by
  dsimp only [env602, fun602, stmtsO, scopeO, List.drop] at hE ⊢
  have F0 := F
  replace F : Fr base L' s.heap (fun y => if y = Str.ofString "spot" then none else if y = Str.ofString "tries" then some (.ref tl) else if y = Str.ofString "some" then sv else if y = Str.ofString "places" then some (.ref pl) else if y = Str.ofString "base" then some (.str bs tb) else if y = Str.ofString "letters" then some (.str x tx) else if y = Str.ofString "name" then some (.str nm t) else if y = Str.ofString "maker" then some (.ref am) else if y = Str.ofString "feed" then some (.ref fd) else none) := F
  have atl : At (seed.heap_1 w.params) ((tl, liO (ts.map Value.ref) ct) :: (fd, fo) :: (S ++ (ac, dO ces ez) :: fix)) tl (liO (ts.map Value.ref) ct) := .inr (.head _)
  have hz1 : (ts.map Value.ref).length ≤ 16384 := by rw [List.length_map]; omega
  have hnf : ∀ ces' ez', NF ((tl, liO (ts.map Value.ref) ct) :: (fd, fo) :: (S ++ (ac, dO ces' ez') :: fix)) := fun ces' ez' => NF.consOf (p := (tl, liO (ts.map Value.ref) ct)) nf (by with_reducible walk_at "LMEM") (NF.consOf (p := (fd, fo)) nf (by with_reducible walk_at "LMEM") (NF.app (nf_sub nf (by with_reducible walk_at "LSUB")) (NF.cons (NF.ty rfl (by decide)) (nf_sub nf (by with_reducible walk_at "LSUB")))))
  k_steps
  unfold Marked
  refine' For_turns ?f ?_ ?hs hE
  case f => k_asm
  case hs => exact fun _ => rfl
  k_steps
  unfold Marked
  refine range1_rows (by k_asm) N fun h2 tk2 t₁ u₁ v₁ hr F2 N2 keep => ?_
  refine for_led (K := seed.heap_1 w.params) (n := ts.length) (li_range rfl (by rw [List.length_map] at hr; exact hr) (by omega)) X F2 N2 Of nf rfl rfl (fun k m X => (∃ sp, m = rmT bs x nm tb tx t am fd pl tl sv sp) ∧ ∃ ces' ez', CP ces' ∧ X = (tl, liO (ts.map Value.ref) ct) :: (fd, fo) :: (S ++ (ac, dO ces' ez') :: fix)) ⟨⟨none, rfl⟩, ces, ez, hC, rfl⟩ ?_ ?_
  case refine_2 =>
    rintro h' tk m' frs' X' ⟨⟨sp, rfl⟩, ces', ez', hcp, rfl⟩ se F' N' o' n'
    have fo2 := se.fr O
    replace F' : Fr base L' h' (fun y => if y = Str.ofString "spot" then sp else if y = Str.ofString "tries" then some (.ref tl) else if y = Str.ofString "some" then sv else if y = Str.ofString "places" then some (.ref pl) else if y = Str.ofString "base" then some (.str bs tb) else if y = Str.ofString "letters" then some (.str x tx) else if y = Str.ofString "name" then some (.str nm t) else if y = Str.ofString "maker" then some (.ref am) else if y = Str.ofString "feed" then some (.ref fd) else none) := F'
    k_steps
    (try dsimp only); (try k_unfold); (try dsimp only)
    exact fin h' _ frs' _ ces' ez' hcp se F' N' o'
  case refine_1 =>
    rintro k v m₁ X₁ frs₁ own h₁ tk₁ hk ⟨tv, rfl⟩ ⟨⟨sp, rfl⟩, ces', ez', hcp, rfl⟩ se F₁ N₁ o₁ n₁ hap
    have fo₁ := se.fr O
    have bk₁ := Back.slot bk se
    replace F₁ : Fr base L' h₁ (fun y => if y = Str.ofString "spot" then some (Value.int (k : Int) tv) else if y = Str.ofString "tries" then some (.ref tl) else if y = Str.ofString "some" then sv else if y = Str.ofString "places" then some (.ref pl) else if y = Str.ofString "base" then some (.str bs tb) else if y = Str.ofString "letters" then some (.str x tx) else if y = Str.ofString "name" then some (.str nm t) else if y = Str.ofString "maker" then some (.ref am) else if y = Str.ofString "feed" then some (.ref fd) else none) := by
      have e : (fun y => if y = Str.ofString "spot" then some (Value.int (k : Int) tv) else if y = Str.ofString "tries" then some (.ref tl) else if y = Str.ofString "some" then sv else if y = Str.ofString "places" then some (.ref pl) else if y = Str.ofString "base" then some (.str bs tb) else if y = Str.ofString "letters" then some (.str x tx) else if y = Str.ofString "name" then some (.str nm t) else if y = Str.ofString "maker" then some (.ref am) else if y = Str.ofString "feed" then some (.ref fd) else none) = (fun y => if y = Str.ofString "spot" then some (Value.int (k : Int) tv) else rmT bs x nm tb tx t am fd pl tl sv sp y) := by
        funext y
        unfold rmT
        by_cases e : y = Str.ofString "spot"
        · rw [if_pos e, if_pos e]
        · rw [if_neg e, if_neg e, if_neg e]
      rw [e]
      exact F₁
    replace N₁ : News base L' h₁ (frs₁ ++ (own ++ ((tl, liO (ts.map Value.ref) ct) :: (fd, fo) :: (S ++ (ac, dO ces' ez') :: fix)))) := N₁
    obtain ⟨U, hU⟩ : ∃ U : Led, U = own ++ ((tl, liO (ts.map Value.ref) ct) :: (fd, fo) :: (S ++ (ac, dO ces' ez') :: fix)) := ⟨_, rfl⟩
    have mUt : (tl, liO (ts.map Value.ref) ct) ∈ U := by rw [hU]; exact List.mem_append_right _ (.head _)
    have upf : ∀ q ∈ fix, q ∈ U := by rw [hU]; exact fun q hq => List.mem_append_right _ (.tail _ (.tail _ (List.mem_append_right _ (.tail _ hq))))
    have upS : ∀ q ∈ S ++ fix, q ∈ U := fun q hq => by
      rcases List.mem_append.mp hq with h | h
      · rw [hU]; exact List.mem_append_right _ (.tail _ (.tail _ (List.mem_append_left _ h)))
      · exact upf q h
    rw [← hU] at N₁ o₁ n₁
    refine gen_wp fun Q9 hQ9 => ?_
    k_steps
    have hkt := List.getElem?_eq_getElem hk
    have hv : (ts.map Value.ref)[k]? = some (Value.ref ts[k]) := by rw [List.getElem?_map, hkt]; rfl
    refine item_lsR (news := U) (.inr mUt) X (by k_asm) N₁ (fun q hq => List.mem_append_right _ hq) (Int.natCast_nonneg _) (lt63 hk (by rw [List.length_map] at hz1; exact hz1)) (Int.toNat_natCast k) hv ?_
    k_steps
    unfold Marked
    obtain ⟨ks, c, hk1, hks, hkl⟩ := hT ts[k] (List.getElem_mem _)
    have dk : Digit (ks.length : Int) := ⟨by omega, by omega⟩
    have dw : Digit (ws.length : Int) := ⟨by omega, by omega⟩
    have hac2 := nkt (nkt hac)
    have haco : ac ∉ own.map (·.1) := fun hm => nomatch (hap (ac, dO ces' ez') (.tail _ (.tail _ (List.mem_append_right _ (.head _)))) hm)
    have hacS : ac ∉ S.map (·.1) := nks hac2 (fun q hq => List.mem_append_left _ hq)
    have hacF : ac ∉ fix.map (·.1) := nks hac2 (fun q hq => List.mem_append_right _ hq)
    refine Cn.use (right_c w mean mg mb U am ts[k] adx an ap aq ar ac j1 j2 j3 j4 j5 j6 nm x bs t tx tb tv (k : Int) (okB (ks.map (·.2)) ws) (KT bs ks) (fun nw => ∃ ces'' ez'', CP ces'' ∧ nw = own ++ ((tl, liO (ts.map Value.ref) ct) :: (fd, fo) :: (S ++ (ac, dO ces'' ez'') :: fix))) (upf _ hself) (upf _ hdict)
      (due_c w mean mg mb U ts[k] x bs tx tb ks c ws (hk1.mono upS) (fun p hp => ⟨(hks p hp).1.mono upS, (hks p hp).2⟩) hx dk dw) ?hTT ?hFF) (by k_asm) X T (frs := frs₁) N₁ fo₁ o₁ n₁ bk₁ rfl ?hdd ?huu (fun r f2 tl2 h2 tk2 R2 S2 O2 o2 n2 b2 F2 N2 => ?hgo) (fun e dx f2 tl2 h2 tk2 R2 => R2.elim)
    case hdd => ktr_room
    case huu => dsimp only [ktrTop]; first | exact room2 (by assumption) (by decide) | exact room1 (by assumption) (by decide) | omega
    case hTT =>
      subst hU
      intro hB D t1 u1 hD
      have hDac : ac ≠ D := fun e => hD (e ▸ key_mem (p := (ac, dO ces' ez')) (List.mem_append_right _ (.tail _ (.tail _ (List.mem_append_right _ (.head _))))))
      refine Cn.conv (hcall ((D, tup [.str (KT bs ks).b t1, .bool (KT bs ks).v, .int (KT bs ks).d u1]) :: (own ++ ((tl, liO (ts.map Value.ref) ct) :: (fd, fo) :: S))) ces' ez' ts[k] ks c t tv k (hCP _ hcp) (nkc hDac (nkm (nkm haco (nkc (nkh hac) (nkc (nkh (nkt hac)) hacS))) hacF)) (hk1.mono (by ktd_sub)) (fun p hp => ⟨(hks p hp).1.mono (by ktd_sub), (hks p hp).2⟩) dk) (by ktd_sub) ?_ ?_ (Nat.le_refl _) (Nat.le_refl _)
      · rintro r tl' ⟨-, D2, t2, u2, ces'', ez'', rfl, -, hcp2, rfl⟩
        exact ⟨_, ⟨D2, t2, u2, _, rfl, ⟨ces'', ez'', hcp2, rfl⟩, rfl⟩, by ktd_sub⟩
      · rintro dx tl' ⟨hno, -⟩
        rw [hB] at hno; cases hno
    case hFF =>
      subst hU
      intro hB
      refine Cn.conv (hcall (own ++ ((tl, liO (ts.map Value.ref) ct) :: (fd, fo) :: S)) ces' ez' ts[k] ks c t tv k (hCP _ hcp) (nkm (nkm haco (nkc (nkh hac) (nkc (nkh (nkt hac)) hacS))) hacF) (hk1.mono (by ktd_sub)) (fun p hp => ⟨(hks p hp).1.mono (by ktd_sub), (hks p hp).2⟩) dk) (by ktd_sub) ?_ ?_ (Nat.le_refl _) (Nat.le_refl _)
      · rintro r tl' ⟨hyes, -⟩
        rw [hB] at hyes; cases hyes
      · rintro dx tl' ⟨-, x', t', q1, q2, ces'', ez'', hcp2, rfl⟩
        exact ⟨_, ⟨x', t', q1, q2, _, ⟨ces'', ez'', hcp2, rfl⟩, rfl⟩, by ktd_sub⟩
    case hgo =>
      obtain ⟨rfl, ces'', ez'', hcp2, rfl⟩ := R2
      try dsimp only
      k_steps
      subst hQ9
      (try dsimp only); (try k_unfold); (try dsimp only)
      refine ⟨h2, _, _, f2, (tl, liO (ts.map Value.ref) ct) :: (fd, fo) :: (S ++ (ac, dO ces'' ez'') :: fix), rfl, S2, F2, N2, off_sub o2 (fun q hq => List.mem_append_right _ hq), nf_sub n2 (fun q hq => List.mem_append_right _ hq), ks_inl (by with_reducible walk_at "LKS"), ⟨some (.int (k : Int) tv), rfl⟩, ces'', ez'', hcp2, rfl⟩
end
section -- MLawI
noncomputable def fun607 (P : Params) : (o : Obj) ×' ((seed.heap_1 P).lookup 607 = some o) := ⟨_, rfl⟩
noncomputable abbrev env607 (P : Params) (L' fa : Addr) (cd : Value) : Env := envOfC (Str.ofString "law") (scopeO (fun607 P).1) L' fa cd
theorem Cn.at {w : World} {mean : ExcName → Option Value} {mg mb : Str → Option Value} {f : Addr} {vs : List Value} {news : Led} {dd uu : Nat} {Rt : Value → Led → Prop} {Ex : Addr → Led → Prop} {dp un : Nat} {gd : Option (List Code)} {cn : Str} {cs : Scope} {a : Addr} {ccd : Value} {cl : List (Str × Addr)} {base : Heap} {L : Addr} {m : Str → Option Value} {s : Shared} {Q E : Value → Shared → Prop}
    (C : Cn w mean mg mb f vs news dd uu Rt Ex) (F : Fr base L s.heap m) (X : (seed.heap_1 w.params).In base) (T : Top vw (looseW vw lo) mean mg mb base) (N : News base L s.heap ([] ++ news)) (nf : NF news) (hk : cs.kind = .function) (hd : dp + dd < recursionLimit) (hu : un + uu < cLine)
    (ret : ∀ r tl h' tk', Rt r tl → NF tl → Fr base L h' m → News base L h' ([] ++ tl) → Q r { s with heap := h', toks := tk' })
    (exc : ∀ e dx tl h' tk', Ex dx tl → Fly base e dx h' → NF tl → Fr base L h' m → News base L h' ([] ++ tl) → E (.ref e) { s with heap := h', toks := tk' }) :
    wpAny (model PySem.Challenge.rw_qd0027_02.row.prog w) (ktrTop dp un gd cn cs L a ccd cl []) (call (.ref f) vs) Q E s :=
  C dp un gd cn cs a ccd cl [] base L m [] s Q E F X T N .nil (fun _ _ h => nomatch h) nf hk hd hu
    (fun r frs' tl h' tk' hR se F' N' _ n' => by cases se; exact ret r tl h' tk' hR n' F' N')
    (fun e dx frs' tl h' tk' hE fl se F' N' _ n' => by cases se; exact exc e dx tl h' tk' hE fl n' F' N')
theorem lawI {w : World} {mean : ExcName → Option Value} {mg mb : Str → Option Value} {LED : Led} {am adx an ap aq ar ac fa : Addr} {cd : Value} {j1 j2 j3 j4 j5 j6 : Tok} {pes : Array DictEntry} {pn : Nat} {base : Heap} {L' : Addr} {m : Str → Option Value} {s : Shared} {Q : Flow → Shared → Prop} {E : Value → Shared → Prop}
    (hself : (am, instObj 494 adx) ∈ LED) (hdict : (adx, selfD w.params j1 j2 j3 j4 j5 j6 an ap aq ar ac) ∈ LED) (hpd : (ap, dO pes pn) ∈ LED) (hps : (pes.all fun e => isExactStrKey e.key) = true) (hpn : nsF pes (Str.ofString "nosuch") = none)
    (F : Fr base L' s.heap (fun y => if y = Str.ofString "maker" then some (.ref am) else m y)) (X : (seed.heap_1 w.params).In base) (T : Top vw (looseW vw lo) mean mg mb base) (N : News base L' s.heap ([] ++ LED)) (nf : NF LED)
    (fin : ∀ h' tk' m', Fr base L' h' m' → Q (.ret (.bool true)) { s with heap := h', toks := tk' }) :
    wpAny (model PySem.Challenge.rw_qd0027_02.row.prog w) (callerA.deeper (env607 w.params L' fa cd)) (execs ((stmtsO (fun607 w.params).1).drop 9) (env607 w.params L' fa cd)) Q E s := by
  dsimp only [env607, fun607, stmtsO, scopeO, List.drop]
  have Of : Off [] LED := fun _ _ h => nomatch h
  have O : FrOK [] [] := .nil
  k_steps
  unfold Marked
  refine wpAny_Try_except ?_
  k_steps
  unfold Marked
  refine bases_item (p := 0) X F (by decide) ?_
  k_steps
  unfold Marked
  rename_i dl h1 F1 N1 l1
  have lt20 : ∀ p ∈ [0], p < 20 := by decide
  have up : ∀ q ∈ LED, q ∈ (dl, kl (ksOf [0]) 0) :: LED := fun q hq => .tail _ hq
  refine Cn.at (callN_c w mean mg mb ((dl, kl (ksOf [0]) 0) :: LED) am dl (ksOf [0]) (Str.ofString "nosuch") _ _ 74 0 adx an ap aq ar ac j1 j2 j3 j4 j5 j6 pes pn (up _ hpd) hps hpn (nsF_nosuch w) (by decide +kernel) ⟨by decide +kernel⟩ (up _ hself) (up _ hdict) (.inr (.head _)) (ksOf_ok lt20 _) ⟨by decide, by decide⟩) (by k_asm) X T N1 (NF.cons (NF.ty rfl (by decide)) nf) rfl (by decide +kernel) (by decide +kernel) (fun r tl h' tk' hR => hR.elim) (fun e dx tl h2 tk2 hR fly n2 F2 N2 => ?_)
  obtain ⟨x', t', k1, k2, rfl⟩ := hR
  try dsimp only
  refine catch_next (frs := []) (outer := []) rfl rfl (fun z => nomatch z) F2 N2 .nil (fun _ _ h => nomatch h) n2 fly (fun h4 f4 S4 F4 N4 o4 fly4 => ?_)
  cases S4
  refine handle_as ?_
  k_steps
  obtain ⟨vs, sl, hx, -⟩ := fly4.2.choose_spec.1
  refine ⟨rfl, X.keeps F4.keep, ⟨_, hx, rfl⟩, ?_⟩
  refine flight_L (frs := []) F4 N4 .nil n2 fly4 fun h5 F5 N5 fly5 => ?_
  refine wpAny_storeName_local rfl F5.ns (fun h6 hn6 hs6 => ?_) rfl
  have F6 := F5.set hn6 hs6
  have N6 := N5.set hs6
  have fly6 := fly_set F5 fly5 hs6
  k_steps
  refine get_spot X (by k_asm) (by k_asm) fly6 (List.mem_append_right _ (.head _)) ?_
  k_steps
  dsimp only
  exact wpAny_nameGoes_keeps rfl F6.ns rfl (fun h7 v hn7 hs7 => fin _ _ _ (F6.set hn7 hs7))
end
section -- MLawH
local macro_rules | `(tactic| walk_at "d0") => `(tactic| skip)
theorem form2 {g : Str → Option Value} {a b : Str} {u v : Value} (h1 : g a = some u) (h2 : g b = some v) : g = fun y => if y = a then some u else if y = b then some v else g y := by
  funext y
  by_cases e1 : y = a
  · rw [if_pos e1, e1, h1]
  · rw [if_neg e1]
    by_cases e2 : y = b
    · rw [if_pos e2, e2, h2]
    · rw [if_neg e2]
theorem lawH {w : World} {mean : ExcName → Option Value} {mg mb : Str → Option Value} {LED : Led} {am adx an ap aq ar ac fa pr : Addr} {cd : Value} {j1 j2 j3 j4 j5 j6 tn : Tok} {pes : Array DictEntry} {pn pc : Nat} {nm : Str} {pvs : List Value} {base : Heap} {L' : Addr} {m : Str → Option Value} {s : Shared} {Q : Flow → Shared → Prop} {E : Value → Shared → Prop} {vp vn : Value}
    (hself : (am, instObj 494 adx) ∈ LED) (hdict : (adx, selfD w.params j1 j2 j3 j4 j5 j6 an ap aq ar ac) ∈ LED) (hpd : (ap, dO pes pn) ∈ LED) (hps : (pes.all fun e => isExactStrKey e.key) = true) (hpn : nsF pes (Str.ofString "nosuch") = none)
    (hpp : nsF pes (Str.ofString "p") = some vp) (hpx : nsF pes nm = none) (hcx : nsF (callsE w.params) nm = some vn) (hln : LenLe nm 100) (hpr : (pr, liO pvs pc) ∈ LED) (hpz : pvs.length ≤ 3)
    (F : Fr base L' s.heap (fun y => if y = Str.ofString "maker" then some (.ref am) else if y = Str.ofString "params" then some (.ref pr) else if y = Str.ofString "name" then some (.str nm tn) else m y)) (X : (seed.heap_1 w.params).In base) (T : Top vw (looseW vw lo) mean mg mb base) (N : News base L' s.heap ([] ++ LED)) (nf : NF LED) (hE : PassesOwn (model PySem.Challenge.rw_qd0027_02.row.prog w) (callerA.deeper (env607 w.params L' fa cd)) (env607 w.params L' fa cd) E)
    (fin : ∀ h' tk' m', Fr base L' h' m' → Q (.ret (.bool true)) { s with heap := h', toks := tk' }) :
    wpAny (model PySem.Challenge.rw_qd0027_02.row.prog w) (callerA.deeper (env607 w.params L' fa cd)) (execs ((stmtsO (fun607 w.params).1).drop 8) (env607 w.params L' fa cd)) Q E s := by
  dsimp only [env607, fun607, stmtsO, scopeO, List.drop] at hE ⊢
  have Of : Off [] LED := fun _ _ h => nomatch h
  have O : FrOK [] [] := .nil
  k_steps
  unfold Marked
  refine' For_turns ?f ?_ ?hs hE
  case f => k_asm
  case hs => exact fun _ => rfl
  k_steps
  unfold Marked
  rename_i dt h1 F1 N1 l1
  obtain ⟨t0, N2⟩ : ∃ t0, News base L' h1 ([] ++ ((dt, tup [.str (Str.ofString "p") t0, .str nm tn]) :: LED)) := ⟨_, N1⟩
  have n2 : NF ((dt, tup [.str (Str.ofString "p") t0, .str nm tn]) :: LED) := NF.cons (NF.ty rfl (by decide)) nf
  have F2 : Fr base L' h1 (fun y => if y = Str.ofString "maker" then some (.ref am) else if y = Str.ofString "params" then some (.ref pr) else if y = Str.ofString "name" then some (.str nm tn) else m y) := by k_asm
  have aD : At (seed.heap_1 w.params) ((dt, tup [.str (Str.ofString "p") t0, .str nm tn]) :: LED) dt (tup [.str (Str.ofString "p") t0, .str nm tn]) := .inr (.head _)
  obtain ⟨D, hD⟩ : ∃ D : Led, D = (dt, tup [.str (Str.ofString "p") t0, .str nm tn]) :: LED := ⟨_, rfl⟩
  have upD : ∀ q ∈ LED, q ∈ D := by rw [hD]; exact fun _ h => .tail _ h
  have hselfD := upD _ hself
  have hdictD := upD _ hdict
  rw [← hD] at aD N2 n2
  clear hD
  have nD := n2
  refine for_led (K := seed.heap_1 w.params) (frs := []) (li_tuple rfl X F2 N2 aD (fun q hq => hq)) X F2 N2 (fun _ _ h => nomatch h) n2 rfl rfl (fun k m1 X1 => (∃ m' : Str → Option Value, m1 = (fun y => if y = Str.ofString "maker" then some (.ref am) else if y = Str.ofString "params" then some (.ref pr) else m' y)) ∧ X1 = D) ⟨⟨_, rfl⟩, rfl⟩ ?_ ?_
  case refine_2 =>
    rintro h' tk m1 frs' X1 ⟨⟨m', rfl⟩, rfl⟩ se F' N' o' n'
    cases se
    refine lawI (m := fun y => if y = Str.ofString "params" then some (.ref pr) else m' y) hselfD hdictD (upD _ hpd) hps hpn F' X T N' n' (fun h2 tk2 m2 F2 => fin h2 tk2 m2 F2)
  case refine_1 =>
    rintro k v m₁ X₁ frs₁ own h₁ tk₁ hk hv ⟨⟨m', rfl⟩, eX⟩ se F₁ N₁ o₁ n₁ hap
    have eX' := eX.symm
    subst eX'
    clear eX
    cases se
    obtain ⟨q, tq, rfl, hcase, hlq⟩ : ∃ q tq, v = .str q tq ∧ ((∃ v, nsF pes q = some v) ∨ (nsF pes q = none ∧ ∃ v, nsF (callsE w.params) q = some v)) ∧ LenLe q 100 := by
      have hk2 : k < 2 := hk
      have : k = 0 ∨ k = 1 := by omega
      rcases this with rfl | rfl
      · exact ⟨_, _, (Option.some.inj hv).symm, .inl ⟨_, hpp⟩, ⟨by decide +kernel⟩⟩
      · exact ⟨_, _, (Option.some.inj hv).symm, .inr ⟨hpx, _, hcx⟩, hln⟩
    replace F₁ : Fr base L' h₁ (fun y => if y = Str.ofString "wrong" then some (.str q tq) else if y = Str.ofString "maker" then some (.ref am) else if y = Str.ofString "params" then some (.ref pr) else m' y) := F₁
    refine gen_wp fun Q9 hQ9 => ?_
    k_steps
    unfold Marked
    refine wpAny_Try_except ?_
    k_steps
    unfold Marked
    replace N₁ : News base L' h₁ ([] ++ (own ++ D)) := N₁
    have hpr1 : (pr, liO pvs pc) ∈ [] ++ (own ++ D) := List.mem_append_right _ (List.mem_append_right _ (upD _ hpr))
    refine kde_tupleOf (by k_asm) N₁ ⟨_, (N₁ _ hpr1).1, rfl, _, rfl⟩ (by rw [List.size_toArray]; omega) (List.toList_toArray ..) fun T4 h4 F4 N4 lt4 => ?_
    k_steps
    unfold Marked
    rename_i bt hb lb it h6 F6 N6 l6
    obtain ⟨W, hW⟩ : ∃ W : Led, W = (it, tup [.str (Str.ofString "predicate") tk₁, .int 72 (tk₁ + 1), .str q tq, .ref T4, .ref bt]) :: (bt, tup [.str (Str.ofString "bool") (tk₁ + 1 + 1), .int 73 (tk₁ + 1 + 1 + 1), .bool true]) :: (T4, tup pvs) :: (own ++ D) := ⟨_, rfl⟩
    have n7 : NF W := by rw [hW]; exact NF.cons (NF.ty rfl (by decide)) (NF.cons (NF.ty rfl (by decide)) (NF.cons (NF.ty rfl (by decide)) n₁))
    have N7 : News base L' h6 ([] ++ W) := by rw [hW]; exact N6
    have aW : At (seed.heap_1 w.params) W it (tup [.str (Str.ofString "predicate") tk₁, .int 72 (tk₁ + 1), .str q tq, .ref T4, .ref bt]) := by rw [hW]; exact .inr (.head _)
    have sO : ∀ p ∈ own, p ∈ W := by rw [hW]; exact fun p hp => .tail _ (.tail _ (.tail _ (List.mem_append_left _ hp)))
    have sD : ∀ p ∈ D, p ∈ W := by rw [hW]; exact fun p hp => .tail _ (.tail _ (.tail _ (List.mem_append_right _ hp)))
    have up : ∀ p ∈ LED, p ∈ W := fun p hp => sD _ (upD _ hp)
    clear hW
    refine Cn.at (noteX_c w mean mg mb _ am it T4 bt adx an ap aq ar ac q tq _ _ j1 j2 j3 j4 j5 j6 72 pes pn (up _ hself) (up _ hdict) (up _ hpd) hps hlq hcase aW) (by k_asm) X T N7 n7 rfl (by decide +kernel) (by decide +kernel) (fun r tl h' tk' hR => hR.elim) (fun e dx tl h2 tk2 hR fly n2 F2 N2 => ?_)
    obtain ⟨x', t', k1, k2, rfl⟩ := hR
    try dsimp only
    refine catch_next (frs := []) (outer := []) rfl rfl (fun z => nomatch z) F2 N2 .nil (fun _ _ h => nomatch h) n2 fly (fun h4 f4 S4 F4 N4 o4 fly4 => ?_)
    cases S4
    refine handle_as ?_
    k_steps
    obtain ⟨vs, sl, hx, -⟩ := fly4.2.choose_spec.1
    refine ⟨rfl, X.keeps F4.keep, ⟨_, hx, rfl⟩, ?_⟩
    refine flight_L (frs := []) F4 N4 .nil n2 fly4 fun h5 F5 N5 fly5 => ?_
    refine wpAny_storeName_local rfl F5.ns (fun h6 hn6 hs6 => ?_) rfl
    have F8 := F5.set hn6 hs6
    have N8 := N5.set hs6
    have fly6 := fly_set F5 fly5 hs6
    k_steps
    refine get_spot X (by k_asm) (by k_asm) fly6 (List.mem_append_right _ (.head _)) ?_
    k_steps
    try dsimp only
    refine wpAny_nameGoes_keeps rfl F8.ns rfl (fun h7 vf hn7 hs7 => ?_)
    have F9 := F8.set hn7 hs7
    have N9 := N8.set hs7
    try dsimp only
    k_steps
    (try dsimp only); (try k_unfold); (try dsimp only)
    subst hQ9
    refine ⟨h7, _, _, [], D, rfl, .nil, F9, cut_news N9 (by with_reducible walk_at "LSUB"), (fun _ _ h => nomatch h), nD, fun p hp => .inl (key_mem hp), ⟨_, form2 rfl rfl⟩, rfl⟩
end
section
local macro_rules | `(tactic| walk_at "subscriptTail") => `(tactic| (k_here; (with_reducible show wpAny _ _ (subscriptTail _ _ (Value.ref _) (Value.ref _)) _ _ _); (refine mark ?_)))
local macro_rules | `(tactic| walk_at "subscriptTail Name Slice ref ref") => `(tactic| (refine mark ?_))
local macro_rules | `(tactic| ktd_sub) => `(tactic| (intro p9 h9; (have h8 := List.mem_singleton.mp h9); subst h8; simp only [List.mem_append, List.mem_cons, true_or, or_true]; done))
local macro_rules | `(tactic| walk_at "call builtin:len") => `(tactic| walk_at "H6")
local macro_rules | `(tactic| walk_at "eval Name") => `(tactic| (k_here; (with_reducible show wpAny _ _ (eval (Expr.Name (Str.ofString "kinds") _) _) _ _ _); k_dflt (refine' name_cellE ?N ?c ?m ?d ?_ ?a ?b; (case a | b => rfl); (case N => k_asm); (case c => rfl); (case m => k_mem); (case d => assumption); k_whole)))
section -- MTailE
noncomputable def forBody : Option Stmt → List Stmt
  | some (.For _ _ b _ _) => b
  | _ => []
theorem stepE {w : World} {mean : ExcName → Option Value} {mg mb : Str → Option Value} {Y own : Led} {fd am tl pl D9 : Addr} {FO : Obj} {ct' c9 kk : Nat} {nm x bs : Str} {t tx tb tv : Tok} {sv : Option Value} {ts' : List Addr} {ps : List Nat} {ok o₂ : Obj}
    {dp un : Nat} {gd : Option (List Code)} {cn : Str} {cs : Scope} {a : Addr} {ccd : Value} {cl : List (Str × Addr)} {outer : List Env} {base : Heap} {L L' : Addr} {frs : Led} {s : Shared} {Q : Flow → Shared → Prop} {E : Value → Shared → Prop}
    (hok : ok.data = .cell (some (.ref D9))) (ho₂ : o₂.data = .cell (some (.int (kk : Int) tv))) (lt20 : ∀ p ∈ ps, p < 20) (hp6 : ps.length ≤ 6) (hkk : kk < ps.length) (htz : ts'.length ≤ 99)
    (htX : tl ∉ ((L' + 1 + 1, o₂) :: (own ++ ((fd, FO) :: (L' + 1 + 1 + 1, ok) :: (D9, kl (ksOf ps) c9) :: Y))).map (·.1))
    (F : Fr base L' s.heap (rmT bs x nm tb tx t am fd pl tl sv none)) (X : (seed.heap_1 w.params).In base) (T : Top vw (looseW vw lo) mean mg mb base) (N : News base L' s.heap (frs ++ ((L' + 1 + 1, o₂) :: (own ++ ((tl, liO (ts'.map Value.ref) ct') :: (fd, FO) :: (L' + 1 + 1 + 1, ok) :: (D9, kl (ksOf ps) c9) :: Y))))) (Of : Off frs ((L' + 1 + 1, o₂) :: (own ++ ((tl, liO (ts'.map Value.ref) ct') :: (fd, FO) :: (L' + 1 + 1 + 1, ok) :: (D9, kl (ksOf ps) c9) :: Y)))) (nf : NF ((L' + 1 + 1, o₂) :: (own ++ ((tl, liO (ts'.map Value.ref) ct') :: (fd, FO) :: (L' + 1 + 1 + 1, ok) :: (D9, kl (ksOf ps) c9) :: Y))))
    (fin : ∀ h' tk' frs' new as_, SlotEq frs frs' → Fr base L' h' (rmT bs x nm tb tx t am fd pl tl sv none) → (∀ q ∈ new, q.1 ∉ ((L' + 1 + 1, o₂) :: (own ++ ((tl, liO (ts'.map Value.ref) ct') :: (fd, FO) :: (L' + 1 + 1 + 1, ok) :: (D9, kl (ksOf ps) c9) :: Y))).map (·.1)) → as_.length = 20 → (∀ a ∈ as_, TryOK (seed.heap_1 w.params) new a) → NF new →
      News base L' h' (frs' ++ ((L' + 1 + 1, o₂) :: (own ++ ((tl, liO ((ts' ++ as_).map Value.ref) (ct' + 1)) :: (fd, FO) :: (L' + 1 + 1 + 1, ok) :: (D9, kl (ksOf ps) c9) :: (new ++ Y))))) → Off frs' ((L' + 1 + 1, o₂) :: (own ++ ((tl, liO ((ts' ++ as_).map Value.ref) (ct' + 1)) :: (fd, FO) :: (L' + 1 + 1 + 1, ok) :: (D9, kl (ksOf ps) c9) :: (new ++ Y)))) → Q .next { s with heap := h', toks := tk' }) :
    wpAny (model PySem.Challenge.rw_qd0027_02.row.prog w) ((ktrTop dp un gd cn cs L a ccd cl outer).deeper (env602 w.params L')) (execs (forBody ((stmtsO (fun602 w.params).1)[5]?)) (env602 w.params L')) Q E s := by
  dsimp only [env602, fun602, stmtsO, scopeO, forBody, List.getElem?_cons_succ, List.getElem?_cons_zero]
  replace F : Fr base L' s.heap (fun y => if y = Str.ofString "spot" then none else if y = Str.ofString "tries" then some (.ref tl) else if y = Str.ofString "some" then sv else if y = Str.ofString "places" then some (.ref pl) else if y = Str.ofString "base" then some (.str bs tb) else if y = Str.ofString "letters" then some (.str x tx) else if y = Str.ofString "name" then some (.str nm t) else if y = Str.ofString "maker" then some (.ref am) else if y = Str.ofString "feed" then some (.ref fd) else none) := F
  k_steps
  unfold Marked
  rw [eval_ListComp]
  refine wpAny_comprehension_free (use := none) rfl (fun _ => rfl) (cl := [(Str.ofString "kinds", L' + 1 + 1 + 1), (Str.ofString "k", L' + 1 + 1)]) (by rfl) rfl (by decide) ?_
  change wpAny _ _ (eval (Expr.Name _ _) _) _ _ _
  k_steps
  unfold Marked
  obtain ⟨W, hW⟩ : ∃ W : Led, W = (L' + 1 + 1, o₂) :: (own ++ ((tl, liO (ts'.map Value.ref) ct') :: (fd, FO) :: (L' + 1 + 1 + 1, ok) :: (D9, kl (ksOf ps) c9) :: Y)) := ⟨_, rfl⟩
  have mW2 : (L' + 1 + 1, o₂) ∈ W := by rw [hW]; exact .head _
  have mWk : (L' + 1 + 1 + 1, ok) ∈ W := by rw [hW]; with_reducible walk_at "LMEM"
  have mWD : (D9, kl (ksOf ps) c9) ∈ W := by rw [hW]; with_reducible walk_at "LMEM"
  rw [← hW] at N Of nf
  refine' comp_led (K := seed.heap_1 w.params) (J := fun k' ys X => ∃ new as_, X = new ++ W ∧ ys = as_.map Value.ref ∧ as_.length = k' ∧ (∀ q ∈ new, q.1 ∉ W.map (·.1)) ∧ (∀ a ∈ as_, TryOK (seed.heap_1 w.params) new a))
    (li_tuple rfl X (by k_asm) N (.inl (bl_at w.params)) (fun q hq => List.mem_append_right _ hq)) X rfl ?hsz ?hcell rfl (by k_asm) N Of nf ⟨[], [], rfl, rfl, rfl, (fun _ h => nomatch h), (fun _ h => nomatch h)⟩ ?hs2 ?hd2
  case hsz => rw [sizeLine_eq]; decide
  case hcell => decide
  case hs2 =>
    intro k v ys C oC m₃ own' X₁ frs₁ h₁ tk₁ hk hv hm hO hC hJ se F₁ N₁ o₁ n₁ hap
    obtain ⟨new, as_, rfl, rfl, hal, hnew, hT⟩ := hJ
    have hk20 : k < 20 := hk
    obtain rfl : v = .ref (499 + k) := by
      have h := (bl_idx k hk20).2
      rw [List.getElem?_toArray, h] at hv
      exact (Option.some.inj hv).symm
    refine wpAny_pure ?_
    change wpAny _ _ (eval _ _) _ _ _
    refine gen_wp fun Q9 hQ9 => ?_
    k_steps
    unfold Marked
    have hD9i : ∀ (h' : Heap) (all : Led), News base L' h' all → (D9, kl (ksOf ps) c9) ∈ all → Heap.IsList h' D9 ((ksOf ps).map fun p => Value.ref p.1).toArray := fun h' all N hm => ⟨_, (N _ hm).1, rfl, _, rfl⟩
    have mD9 : (D9, kl (ksOf ps) c9) ∈ frs₁ ++ (own' ++ (new ++ W)) := List.mem_append_right _ (List.mem_append_right _ (List.mem_append_right _ mWD))
    have hks : (ksOf ps).length = ps.length := by rw [ksOf, List.length_map]
    have hzz : ((ksOf ps).map fun p => Value.ref p.1).toArray.size ≤ sizeLine := by rw [List.size_toArray, List.length_map, ksOf, List.length_map, sizeLine_eq]; omega
    refine kmk_slice_lit F₁ N₁ (hD9i _ _ N₁ mD9) .none (.int _ _) (pick_upto _ kk) (fun d1 h2 F2 N2 l2 => ?_) (by with_unfolding_all rfl) (fun _ => by with_unfolding_all rfl) hzz
    k_steps
    unfold Marked
    rename_i d2 h3 F3 N3 l3
    refine add_arrays F3 N3 (⟨_, (N3 _ (.tail _ (.head _))).1, rfl, _, rfl⟩ : Heap.IsList h3 d1 _) (⟨_, (N3 _ (.head _)).1, rfl, _, rfl⟩ : Heap.IsList h3 d2 _) (fun h4 F4 N4 => ?_) ?_
    case refine_2 => simp only [List.size_toArray, List.length_take, List.length_map, sizeLine_eq]; simp; omega
    have l4 : ∀ p ∈ (d2, _) :: (d1, _) :: (frs₁ ++ (own' ++ (new ++ W))), p.1 < h3.objs.size := fun p hp => Heap.lt_size (N3 p hp).1
    k_steps
    unfold Marked
    refine kmk_slice_lit (zs := ((ksOf ps).map fun p => Value.ref p.1).drop (kk + 1)) F4 N4 (hD9i _ _ N4 (.tail _ (.tail _ (.tail _ mD9)))) (.int _ _) .none (by rw [show ((kk : Int) + 1) = ((kk + 1 : Nat) : Int) from rfl]; exact pick_from _ (kk + 1)) (fun d5 h5 F5 N5 l5 => ?_) (by with_unfolding_all rfl) (fun _ => by with_unfolding_all rfl) hzz
    k_steps
    unfold Marked
    refine add_arrays F5 N5 (⟨_, (N5 _ (.tail _ (.head _))).1, rfl, _, rfl⟩ : Heap.IsList h5 _ _) (⟨_, (N5 _ (.head _)).1, rfl, _, rfl⟩ : Heap.IsList h5 d5 _) (fun h6 F6 N6 => ?_) ?_
    case refine_2 => simp [sizeLine_eq, hks]; omega
    have l6 : ∀ p ∈ frs₁ ++ (own' ++ (new ++ W)), p.1 < h5.objs.size := fun p hp => Heap.lt_size (N5 p (.tail _ (.tail _ (.tail _ (.tail _ hp))))).1
    obtain ⟨d6, hd6⟩ : ∃ d6, d6 = h5.objs.size := ⟨_, rfl⟩
    have N7 : News base L' h6 ((d6, kl (ksOf (ps.take kk ++ [k] ++ ps.drop (kk + 1))) 0) :: (frs₁ ++ (own' ++ (new ++ W)))) := fun q hq => by
      rcases List.mem_cons.mp hq with rfl | hq
      · have z := N6 _ (.head _)
        rw [hd6]
        refine ⟨z.1.trans (congrArg (fun v : List Value => some (liO v 0)) ?_), z.2⟩
        simp [ksOf, List.map_take, List.map_drop]
      · exact N6 q (.tail _ (.tail _ (.tail _ (.tail _ (.tail _ hq)))))
    rw [← hd6] at l6
    have dall : ∀ l : Led, (∀ q ∈ l, q ∈ frs₁ ++ (own' ++ (new ++ W))) → d6 ∉ l.map (·.1) := fun l hl => Off.of_lt l6 hl
    have lt' : ∀ p ∈ ps.take kk ++ [k] ++ ps.drop (kk + 1), p < 20 := fun p hp => by
      simp only [List.mem_append, List.mem_singleton] at hp
      rcases hp with (h | h) | h
      · exact lt20 p (List.mem_of_mem_take h)
      · rw [h]; exact hk20
      · exact lt20 p (List.mem_of_mem_drop h)
    k_steps
    subst hQ9
    (try dsimp only); (try k_unfold); (try dsimp only)
    refine ⟨h6, _, frs₁, (d6, kl (ksOf (ps.take kk ++ [k] ++ ps.drop (kk + 1))) 0) :: (new ++ W), rfl, SlotEq.refl _, F6, cut_news N7 (by ktd_sub), Off.cons (dall frs₁ (by ktd_sub)) (off_sub o₁ (by ktd_sub)), NF.cons (NF.ty rfl (by decide)) (nf_sub n₁ (by ktd_sub)), fun p hp => ?_, (d6, kl (ksOf (ps.take kk ++ [k] ++ ps.drop (kk + 1))) 0) :: new, as_ ++ [d6], rfl, by simp [hd6], by simp [hal], fun p hp => ?_, fun a ha => ?_⟩
    · rcases List.mem_cons.mp hp with rfl | hp
      · exact .inr (dall own' (by ktd_sub))
      · exact .inl (key_mem hp)
    · rcases List.mem_cons.mp hp with rfl | hp
      · exact dall _ (by ktd_sub)
      · exact hnew p hp
    · rcases List.mem_append.mp ha with ha | ha
      · exact (hT a ha).mono (fun _ h => .tail _ h)
      · rw [List.mem_singleton.mp ha]
        refine ⟨_, 0, .inr (.head _), ksOf_ok lt' _, ?_⟩
        rw [ksOf, List.length_map, List.length_append, List.length_append, List.length_take, List.length_drop, List.length_singleton]
        omega
  case hd2 =>
    intro D h5 tk5 ys f5 X5 S5 F5 N5 o5 n5 lt5 hD hJ
    subst hW
    obtain ⟨new, as_, rfl, rfl, hal, hnew, hT⟩ := hJ
    have hal20 : as_.length = 20 := hal
    obtain ⟨c5, hc5⟩ : ∃ c, lstN (as_.map Value.ref) = liO (as_.map Value.ref) c := ⟨_, rfl⟩
    rw [hc5] at N5 o5
    try dsimp only
    k_steps
    unfold Marked
    have htD : tl ≠ D := Nat.ne_of_lt (lt5 (tl, liO (ts'.map Value.ref) ct') (by with_reducible walk_at "LMEM"))
    have htn : tl ∉ new.map (·.1) := fun hm => by
      obtain ⟨q, hq, e⟩ := List.mem_map.mp hm
      exact hnew q hq (by rw [e]; with_reducible walk_at "LKEY")
    refine extend_led (frs := f5) (vs := ts'.map Value.ref) (us := as_.map Value.ref) (c := ct') (c2 := c5) (X := (D, liO (as_.map Value.ref) c5) :: (new ++ ((L' + 1 + 1, o₂) :: (own ++ ((fd, FO) :: (L' + 1 + 1 + 1, ok) :: (D9, kl (ksOf ps) c9) :: Y))))) (by k_asm) (cut_news N5 (by ktd_sub)) (off_sub o5 (by ktd_sub)) (nkc htD (nkm htn htX)) (.head _) (by rw [List.length_map, List.length_map]; omega) (by rw [List.length_map]; omega) (fun h8 F8 N8 => ?_)
    k_steps
    (try dsimp only); (try k_unfold); (try dsimp only)
    rw [← List.map_append] at N8
    refine fin h8 _ f5 new as_ S5 F8 hnew hal20 hT (nf_sub n5 (by ktd_sub)) (cut_news N8 (by ktd_sub)) (off_keys o5 (by with_reducible walk_at "LKS"))
end
section -- MTailB
local macro_rules | `(tactic| walk_at "d0") => `(tactic| skip)
theorem tailB {w : World} {mean : ExcName → Option Value} {mg mb : Str → Option Value} {fix S : Led} {fd lc am adx an ap aq ar ac tl pl D9 : Addr} {k1 k2 tp j1 j2 j3 j4 j5 j6 : Tok} {p fz ez ct c9 cz : Nat} {nm x bs : Str} {t tx tb : Tok} {ws : List KD} {ces : Array DictEntry} {CI CP : Array DictEntry → Prop} {sv : Option Value} {ts : List Addr} {ps : List Nat} {xs : List Value} {ns : List Int} {ok o2 : Obj} {v2 : Option Value}
    {dp un : Nat} {gd : Option (List Code)} {cn : Str} {cs : Scope} {a : Addr} {ccd : Value} {cl : List (Str × Addr)} {outer : List Env} {base : Heap} {L L' L₀ : Addr} {m₀ : Str → Option Value} {frs frs₀ : Led} {s : Shared} {Q : Flow → Shared → Prop} {E : Value → Shared → Prop}
    (hself : (am, instObj 494 adx) ∈ fix) (hdict : (adx, selfD w.params j1 j2 j3 j4 j5 j6 an ap aq ar ac) ∈ fix) (hcall : CallOK w mean mg mb am nm bs ws ac fix CI CP) (hC : CP ces) (hCP : ∀ ces, CP ces → CI ces) (hx : LetsOK x ws) (hw : ws.length ≤ 6)
    (hlc : At (seed.heap_1 w.params) fix lc ⟨.type "list", none, .seq xs.toArray cz, #[]⟩) (hns : IntsAre xs ns) (hz : ns.length ≤ 40) (hp : p ≤ 160)
    (hok : ok.data = .cell (some (.ref D9))) (ho2 : o2.data = .cell v2) (lt20 : ∀ p ∈ ps, p < 20) (hp1 : 1 ≤ ps.length) (hp6 : ps.length ≤ 6)
    (hT : ∀ a ∈ ts, TryOK (seed.heap_1 w.params) ((D9, kl (ksOf ps) c9) :: (S ++ fix)) a) (htz : ts.length ≤ 5)
    (h1 : tl ∉ ((fd, dO (feedD w.params k1 k2 lc p tp) fz) :: (L' + 1 + 1, o2) :: (L' + 1 + 1 + 1, ok) :: (D9, kl (ksOf ps) c9) :: (S ++ fix)).map (·.1)) (h2 : fd ∉ ((L' + 1 + 1, o2) :: (L' + 1 + 1 + 1, ok) :: (D9, kl (ksOf ps) c9) :: (S ++ fix)).map (·.1)) (h3 : L' + 1 + 1 ∉ ((L' + 1 + 1 + 1, ok) :: (D9, kl (ksOf ps) c9) :: (S ++ fix)).map (·.1))
    (hac : ac ∉ ((tl, liO (ts.map Value.ref) ct) :: (fd, dO (feedD w.params k1 k2 lc p tp) fz) :: (L' + 1 + 1, o2) :: (L' + 1 + 1 + 1, ok) :: (D9, kl (ksOf ps) c9) :: (S ++ fix)).map (·.1))
    (F : Fr base L' s.heap (rmT bs x nm tb tx t am fd pl tl sv none)) (X : (seed.heap_1 w.params).In base) (T : Top vw (looseW vw lo) mean mg mb base) (N : News base L' s.heap (frs ++ ((tl, liO (ts.map Value.ref) ct) :: (fd, dO (feedD w.params k1 k2 lc p tp) fz) :: (L' + 1 + 1, o2) :: (L' + 1 + 1 + 1, ok) :: (D9, kl (ksOf ps) c9) :: (S ++ (ac, dO ces ez) :: fix)))) (O : FrOK (envX cn cs L a ccd cl :: outer) frs) (Of : Off frs ((tl, liO (ts.map Value.ref) ct) :: (fd, dO (feedD w.params k1 k2 lc p tp) fz) :: (L' + 1 + 1, o2) :: (L' + 1 + 1 + 1, ok) :: (D9, kl (ksOf ps) c9) :: (S ++ (ac, dO ces ez) :: fix))) (nf : NF ((tl, liO (ts.map Value.ref) ct) :: (fd, dO (feedD w.params k1 k2 lc p tp) fz) :: (L' + 1 + 1, o2) :: (L' + 1 + 1 + 1, ok) :: (D9, kl (ksOf ps) c9) :: (S ++ (ac, dO ces ez) :: fix))) (bk : Back base L₀ m₀ frs₀ frs)
    (hd : dp + 100 < recursionLimit) (hu : un + 3000 < cLine) (hE : PassesOwn (model PySem.Challenge.rw_qd0027_02.row.prog w) ((ktrTop dp un gd cn cs L a ccd cl outer).deeper (env602 w.params L')) (env602 w.params L') E)
    (fin : ∀ h' tk' frs' m' ces' ez' (p' : Nat) tp' fz' S', CP ces' → p' ≤ p + 2 → SlotEq frs frs' → Fr base L' h' m' → (∀ q ∈ S, q ∈ S') → News base L' h' (frs' ++ ((fd, dO (feedD w.params k1 k2 lc p' tp') fz') :: (S' ++ (ac, dO ces' ez') :: fix))) → Off frs' ((fd, dO (feedD w.params k1 k2 lc p' tp') fz') :: (S' ++ (ac, dO ces' ez') :: fix)) → Q (.ret (.bool true)) { s with heap := h', toks := tk' }) :
    wpAny (model PySem.Challenge.rw_qd0027_02.row.prog w) ((ktrTop dp un gd cn cs L a ccd cl outer).deeper (env602 w.params L')) (execs ((stmtsO (fun602 w.params).1).drop 5) (env602 w.params L')) Q E s := by
  have hE0 := hE
  dsimp only [env602, fun602, stmtsO, scopeO, List.drop] at hE ⊢
  replace F : Fr base L' s.heap (fun y => if y = Str.ofString "spot" then none else if y = Str.ofString "tries" then some (.ref tl) else if y = Str.ofString "some" then sv else if y = Str.ofString "places" then some (.ref pl) else if y = Str.ofString "base" then some (.str bs tb) else if y = Str.ofString "letters" then some (.str x tx) else if y = Str.ofString "name" then some (.str nm t) else if y = Str.ofString "maker" then some (.ref am) else if y = Str.ofString "feed" then some (.ref fd) else none) := F
  have aD9 : At (seed.heap_1 w.params) [(D9, kl (ksOf ps) c9)] D9 (liO ((ksOf ps).map fun p => Value.ref p.1) c9) := .inr (.head _)
  have hzk : ((ksOf ps).map fun p => Value.ref p.1).length ≤ 16384 := by rw [List.length_map, ksOf, List.length_map]; omega
  k_steps
  unfold Marked
  refine' For_turns ?f ?_ ?hs hE
  case f => k_asm
  case hs => exact fun _ => rfl
  k_steps
  have hacfd : ac ≠ fd := nkh (nkt hac)
  have hact : ac ≠ tl := nkh hac
  have hfds : fd ∉ ((L' + 1 + 1, o2) :: (L' + 1 + 1 + 1, ok) :: (D9, kl (ksOf ps) c9) :: (S ++ (ac, dO ces ez) :: fix)).map (·.1) := nkc (nkh h2) (nkc (nkh (nkt h2)) (nkc (nkh (nkt (nkt h2))) (nkm (nks h2 (by ktd_sub)) (nkc (Ne.symm hacfd) (nks h2 (by ktd_sub))))))
  have hfdr : fd ∉ ((tl, liO (ts.map Value.ref) ct) :: (L' + 1 + 1, o2) :: (L' + 1 + 1 + 1, ok) :: (D9, kl (ksOf ps) c9) :: (S ++ (ac, dO ces ez) :: fix)).map (·.1) := nkc (Ne.symm (nkh h1)) hfds
  have hnl : ((ksOf ps).map fun p => Value.ref p.1).length = ps.length := by rw [List.length_map, ksOf, List.length_map]
  have N1 : News base L' s.heap (frs ++ ((fd, dO (feedD w.params k1 k2 lc p tp) fz) :: (tl, liO (ts.map Value.ref) ct) :: (L' + 1 + 1, o2) :: (L' + 1 + 1 + 1, ok) :: (D9, kl (ksOf ps) c9) :: (S ++ (ac, dO ces ez) :: fix))) := cut_news N (by ktd_sub)
  obtain ⟨W, hW⟩ : ∃ W : Led, W = (tl, liO (ts.map Value.ref) ct) :: (L' + 1 + 1, o2) :: (L' + 1 + 1 + 1, ok) :: (D9, kl (ksOf ps) c9) :: (S ++ (ac, dO ces ez) :: fix) := ⟨_, rfl⟩
  have mWk : (L' + 1 + 1 + 1, ok) ∈ W := by rw [hW]; with_reducible walk_at "LMEM"
  have mWD : (D9, kl (ksOf ps) c9) ∈ W := by rw [hW]; with_reducible walk_at "LMEM"
  have hlcW : At (seed.heap_1 w.params) W lc ⟨.type "list", none, .seq xs.toArray cz, #[]⟩ := by rw [hW]; exact hlc.mono (by ktd_sub)
  have oW : Off frs ((fd, dO (feedD w.params k1 k2 lc p tp) fz) :: W) := by rw [hW]; exact off_sub Of (by ktd_sub)
  have nW : NF ((fd, dO (feedD w.params k1 k2 lc p tp) fz) :: W) := by rw [hW]; exact nf_sub nf (by ktd_sub)
  rw [← hW] at N1 hfdr
  unfold Marked
  refine Cn.use (dip_c w mean mg mb W fd lc k1 k2 tp _ p ((ksOf ps).map fun p => Value.ref p.1).length fz xs cz ns hlcW hns hz (Nat.le_trans hp (by decide)) (hnl ▸ hp1) (le_of hnl hp6 (by decide)) hfdr) (by k_asm) X T (frs := frs) N1 O oW nW bk rfl ?_ ?_ (fun r f7 tl7 h7 tk7 R7 S7 O7 o7 n7 b7 F7 N7 => ?_) (fun e dx f2 tl2 h2 tk2 R2 => R2.elim)
  · ktr_room
  · dsimp only [ktrTop]; first | exact room2 (by assumption) (by decide) | exact room1 (by assumption) (by decide) | omega
  obtain ⟨j1, tj, tp1, fz1, FO1, hFO1, rfl, hj1, rfl⟩ := R7
  try dsimp only
  k_steps
  unfold Marked
  refine Cn.use (dip_F w mean mg mb W fd lc k1 k2 tp1 _ (p + 1) ((ksOf ps).map fun p => Value.ref p.1).length fz1 xs cz ns FO1 hFO1 hlcW hns hz (Nat.le_trans (Nat.succ_le_succ hp) (by decide)) (hnl ▸ hp1) (le_of hnl hp6 (by decide)) hfdr) (by k_asm) X T (frs := f7) N7 O7 o7 n7 b7 rfl ?_ ?_ (fun r f8 tl8 h8 tk8 R8 S8 O8 o8 n8 b8 F8 N8 => ?_) (fun e dx f2 tl2 h2 tk2 R2 => R2.elim)
  · ktr_room
  · dsimp only [ktrTop]; first | exact room2 (by assumption) (by decide) | exact room1 (by assumption) (by decide) | omega
  obtain ⟨j2, tj2, tp2, fz2, FO, hFO, rfl, hj21, rfl⟩ := R8
  try dsimp only
  k_steps
  unfold Marked
  rename_i dl hq Fq Nq lq
  rw [hnl] at hj1 hj21
  refine set_new2 (a := j1) (b := j2) (Nat.lt_of_lt_of_le hj1 hp6) (Nat.lt_of_lt_of_le hj21 hp6) rfl (by k_asm) Nq (List.mem_cons_self ..) (fun h10 tk10 ds so hso F10 N10 l10 => ?_)
  k_steps
  unfold Marked
  refine sorted2 hso rfl (by k_asm) N10 (List.mem_cons_self ..) (fun h11 tk11 dq vs nsq cq hI hin hle F11 N11 l11 => ?_)
  k_steps
  unfold Marked
  subst hW
  have nFO : NFo FO := by rw [hFO]; exact NF.ty rfl (by decide)
  have ltq : ∀ q ∈ (L' + 1 + 1, o2) :: (tl, liO (ts.map Value.ref) ct) :: (fd, FO) :: (L' + 1 + 1 + 1, ok) :: (D9, kl (ksOf ps) c9) :: (S ++ (ac, dO ces ez) :: fix), q.1 < dq := fun q hq => l11 q (by
    exact (show ∀ p ∈ _, p ∈ _ by with_reducible walk_at "LSUB") _ hq)
  have N12 : News base L' h11 (f8 ++ ((L' + 1 + 1, o2) :: (tl, liO (ts.map Value.ref) ct) :: (fd, FO) :: (L' + 1 + 1 + 1, ok) :: (D9, kl (ksOf ps) c9) :: (((dq, liO vs cq) :: S) ++ (ac, dO ces ez) :: fix))) := cut_news N11 (by ktd_sub)
  have hdf : dq ∉ f8.map (·.1) := Off.of_lt l11 (by ktd_sub)
  have o12 : Off f8 ((L' + 1 + 1, o2) :: (tl, liO (ts.map Value.ref) ct) :: (fd, FO) :: (L' + 1 + 1 + 1, ok) :: (D9, kl (ksOf ps) c9) :: (((dq, liO vs cq) :: S) ++ (ac, dO ces ez) :: fix)) := off_sub (Off.cons (o := liO vs cq) hdf o8) (by ktd_sub)
  have nS0 : NF S := nf_sub nf (by ktd_sub)
  have nFix : NF fix := nf_sub nf (by ktd_sub)
  have nC2 : NFo o2 := .inr fun vs hv => by rw [ho2] at hv; cases hv
  have nCK : NFo ok := .inr fun vs hv => by rw [hok] at hv; cases hv
  have nAll : ∀ (o : Obj) (S' : Led) (ts' : List Addr) (ct' : Nat), NFo o → NF S' → NF ((L' + 1 + 1, o) :: (tl, liO (ts'.map Value.ref) ct') :: (fd, FO) :: (L' + 1 + 1 + 1, ok) :: (D9, kl (ksOf ps) c9) :: (S' ++ (ac, dO ces ez) :: fix)) := fun o S' ts' ct' h1 h2 => NF.cons h1 (NF.cons (NF.ty rfl (by decide)) (NF.cons nFO (NF.cons nCK (NF.cons (NF.ty rfl (by decide)) (fun q hq => by
    rcases List.mem_append.mp hq with h | h
    · exact h2 q h
    · rcases List.mem_cons.mp h with rfl | h
      · exact NF.ty rfl (by decide)
      · exact nFix q h)))))
  have hvn : vs.length = nsq.length := hI.length
  have aq : At (seed.heap_1 w.params) ((L' + 1 + 1, o2) :: (tl, liO (ts.map Value.ref) ct) :: (fd, FO) :: (L' + 1 + 1 + 1, ok) :: (D9, kl (ksOf ps) c9) :: (((dq, liO vs cq) :: S) ++ (ac, dO ces ez) :: fix)) dq (liO vs cq) := .inr (.tail _ (.tail _ (.tail _ (.tail _ (.tail _ (.head _))))))
  have apS : ∀ d, (d = tl ∨ d = fd ∨ d = L' + 1 + 1 ∨ d = ac) → d ∉ ((dq, liO vs cq) :: S).map (·.1) := fun d hd => by
    rcases hd with h | h | h | h
    · rw [h]; exact nkc (Nat.ne_of_lt (ltq (tl, liO (ts.map Value.ref) ct) (by with_reducible walk_at "LMEM"))) (nks h1 (by ktd_sub))
    · rw [h]; exact nkc (Nat.ne_of_lt (ltq (fd, FO) (by with_reducible walk_at "LMEM"))) (nks h2 (by ktd_sub))
    · rw [h]; exact nkc (Nat.ne_of_lt (ltq (L' + 1 + 1, o2) (by with_reducible walk_at "LMEM"))) (nks h3 (by ktd_sub))
    · rw [h]; exact nkc (Nat.ne_of_lt (ltq (ac, dO ces ez) (by with_reducible walk_at "LMEM"))) (nks hac (by ktd_sub))
  obtain ⟨J9, hJ9⟩ : ∃ J : Nat → (Str → Option Value) → Led → Prop, J = (fun k m X => ∃ (o : Obj) (v0 : Option Value) (S' : Led) (ts' : List Addr) (ct' : Nat), m = rmT bs x nm tb tx t am fd pl tl sv none ∧ X = (L' + 1 + 1, o) :: (tl, liO (ts'.map Value.ref) ct') :: (fd, FO) :: (L' + 1 + 1 + 1, ok) :: (D9, kl (ksOf ps) c9) :: (S' ++ (ac, dO ces ez) :: fix) ∧ o.data = .cell v0 ∧ NFo o ∧ NF S' ∧ (∀ q ∈ S, q ∈ S') ∧ (∀ a ∈ ts', TryOK (seed.heap_1 w.params) ((D9, kl (ksOf ps) c9) :: (S' ++ fix)) a) ∧ ts'.length ≤ 5 + 20 * k ∧ (∀ d, (d = tl ∨ d = fd ∨ d = L' + 1 + 1 ∨ d = ac) → d ∉ S'.map (·.1))) := ⟨_, rfl⟩
  refine for_ledA (K := seed.heap_1 w.params) (m := rmT bs x nm tb tx t am fd pl tl sv none) (frs := f8) (li_list rfl X F11 N12 aq (fun q hq => List.mem_append_right _ hq)) X F11 N12 o12 (nAll _ _ _ _ nC2 (NF.cons (NF.ty rfl (by decide)) nS0))
    J9 (by rw [hJ9]; exact ⟨o2, v2, (dq, liO vs cq) :: S, ts, ct, rfl, rfl, ho2, nC2, NF.cons (NF.ty rfl (by decide)) nS0, fun q hq => .tail _ hq, fun a ha => (hT a ha).mono (by ktd_sub), by omega, apS⟩) ?_ ?_
  case refine_2 =>
    rintro h13 tk13 m13 f13 X13 hJ8 se F13 N13 o13 n13
    rw [hJ9] at hJ8
    refine ex5 hJ8 fun o v0 S' ts' ct' hJ7 => and9 hJ7 fun eM eX ho hno nS hSS hT' htz' hap' => ?_
    clear hJ8 hJ7
    subst eM eX
    have ltz : vs.toArray.size ≤ 2 := by rw [List.size_toArray, hvn]; exact hle
    refine tailA (S := (L' + 1 + 1, o) :: (L' + 1 + 1 + 1, ok) :: (D9, kl (ksOf ps) c9) :: S') (ts := ts') (ct := ct') (fo := FO) (pl := pl) (sv := sv) (ces := ces) (ez := ez) (frs := f13) hself hdict hcall hC hCP hx hw (fun a ha => (hT' a ha).mono (by ktd_sub)) (by omega) ?_ F13 X T (cut_news N13 (by ktd_sub)) (se.fr O8) (off_sub o13 (by ktd_sub)) (nf_sub n13 (by ktd_sub)) (Back.slot b8 se) hd hu hE0 ?_
    · refine nkc hact (nkc hacfd (nkc (nkh (nkt (nkt hac))) (nkc (nkh (nkt (nkt (nkt hac)))) (nkc (nkh (nkt (nkt (nkt (nkt hac))))) (nkm (hap' ac (.inr (.inr (.inr rfl)))) (nks hac (by ktd_sub)))))))
    · intro h' tk' frs' m' ces' ez' hcp' se' F' N' o'
      have e2 : (((p + 1 : Nat) : Int) + 1) = ((p + 2 : Nat) : Int) := rfl
      rw [hFO, e2] at N' o'
      exact fin h' tk' frs' m' ces' ez' (p + 2) tp2 fz2 ((L' + 1 + 1, o) :: (L' + 1 + 1 + 1, ok) :: (D9, kl (ksOf ps) c9) :: S') hcp' (Nat.le_refl _) ((S7.trans S8).trans (se.trans se')) F' (fun q hq => .tail _ (.tail _ (.tail _ (hSS q hq)))) (cut_news N' (by ktd_sub)) (off_sub o' (by ktd_sub))
  case refine_1 =>
    rintro k v m₁ X₁ frs₁ own h₁ tk₁ hk hv hJ8 se F₁ N₁ o₁ n₁ hap
    rw [hJ9] at hJ8
    refine gen_wp fun Q9 hQ9 => ?_
    refine ex5 hJ8 fun o v0 S' ts' ct' hJ7 => and9 hJ7 fun eM eX ho hno nS hSS hT' htz' hap' => ?_
    clear hJ8 hJ7
    subst eM eX
    rw [List.size_toArray] at hk
    have hkv := List.getElem?_eq_getElem hk
    obtain ⟨tv, hvi⟩ := IntsAre.int_at hI k vs[k] hkv
    have hmem := kso_getD (l := nsq) (i := k) (hvn ▸ hk)
    obtain ⟨kk, hkk, hkl⟩ : ∃ kk : Nat, nsq.getD k 0 = (kk : Int) ∧ kk < ps.length := by
      rcases hin _ hmem with h | h
      · exact ⟨j1, h, hj1⟩
      · exact ⟨j2, h, hj21⟩
    have hvv : v = .int (kk : Int) tv := by
      rw [List.getElem?_toArray, hkv, hvi, hkk] at hv
      exact (Option.some.inj hv).symm
    subst hvv
    have hown : ∀ q ∈ (L' + 1 + 1, o) :: (tl, liO (ts'.map Value.ref) ct') :: (fd, FO) :: (L' + 1 + 1 + 1, ok) :: (D9, kl (ksOf ps) c9) :: (S' ++ (ac, dO ces ez) :: fix), q.1 ≠ dq → q.1 ∉ own.map (·.1) := fun q hq hne hm => hne (List.mem_singleton.mp (hap q hq hm))
    have hto := hown (tl, liO (ts'.map Value.ref) ct') (by with_reducible walk_at "LMEM") (Nat.ne_of_lt (ltq (tl, liO (ts.map Value.ref) ct) (by with_reducible walk_at "LMEM")))
    have hfo := hown (fd, FO) (by with_reducible walk_at "LMEM") (Nat.ne_of_lt (ltq (fd, FO) (by with_reducible walk_at "LMEM")))
    have hco := hown (L' + 1 + 1, o) (by with_reducible walk_at "LMEM") (Nat.ne_of_lt (ltq (L' + 1 + 1, o2) (by with_reducible walk_at "LMEM")))
    have hao := hown (ac, dO ces ez) (by with_reducible walk_at "LMEM") (Nat.ne_of_lt (ltq (ac, dO ces ez) (by with_reducible walk_at "LMEM")))
    have htl := nkt (nkt (nkt (nkt h1)))
    have hck3 := h3
    have hc2ac : L' + 1 + 1 ≠ ac := Ne.symm (nkh (nkt (nkt hac)))
    have hc2X : L' + 1 + 1 ∉ (own ++ ((tl, liO (ts'.map Value.ref) ct') :: (fd, FO) :: (L' + 1 + 1 + 1, ok) :: (D9, kl (ksOf ps) c9) :: (S' ++ (ac, dO ces ez) :: fix))).map (·.1) := nkm hco (nkc (Ne.symm (nkh (nkt h1))) (nkc (Ne.symm (nkh h2)) (nkc (nkh h3) (nkc (nkh (nkt h3)) (nkm (hap' _ (.inr (.inr (.inl rfl)))) (nkc hc2ac (nks h3 (by ktd_sub))))))))
    have N₂ : News base L' h₁ (frs₁ ++ ((L' + 1 + 1, o) :: (own ++ ((tl, liO (ts'.map Value.ref) ct') :: (fd, FO) :: (L' + 1 + 1 + 1, ok) :: (D9, kl (ksOf ps) c9) :: (S' ++ (ac, dO ces ez) :: fix))))) := cut_news N₁ (by ktd_sub)
    have oP : Off frs₁ ((L' + 1 + 1, o) :: (own ++ ((tl, liO (ts'.map Value.ref) ct') :: (fd, FO) :: (L' + 1 + 1 + 1, ok) :: (D9, kl (ksOf ps) c9) :: (S' ++ (ac, dO ces ez) :: fix)))) := off_sub o₁ (by ktd_sub)
    subst hQ9
    refine cellset_led F₁ N₂ oP hc2X rfl rfl (by rfl) ho fun h₂ o₂ ho₂ hn₂ F₂ N₃ => ?_
    refine gen_wp fun Q9 hQ9 => ?_
    replace F₂ : Fr base L' h₂ (fun y => if y = Str.ofString "spot" then none else if y = Str.ofString "tries" then some (.ref tl) else if y = Str.ofString "some" then sv else if y = Str.ofString "places" then some (.ref pl) else if y = Str.ofString "base" then some (.str bs tb) else if y = Str.ofString "letters" then some (.str x tx) else if y = Str.ofString "name" then some (.str nm t) else if y = Str.ofString "maker" then some (.ref am) else if y = Str.ofString "feed" then some (.ref fd) else none) := F₂
    replace N₃ : News base L' h₂ (frs₁ ++ ((L' + 1 + 1, o₂) :: (own ++ ((tl, liO (ts'.map Value.ref) ct') :: (fd, FO) :: (L' + 1 + 1 + 1, ok) :: (D9, kl (ksOf ps) c9) :: (S' ++ (ac, dO ces ez) :: fix))))) := N₃
    have oQ := off_set (o' := o₂) oP
    have nQ : NF ((L' + 1 + 1, o₂) :: (own ++ ((tl, liO (ts'.map Value.ref) ct') :: (fd, FO) :: (L' + 1 + 1 + 1, ok) :: (D9, kl (ksOf ps) c9) :: (S' ++ (ac, dO ces ez) :: fix)))) := NF.cons hn₂ (nf_sub n₁ (by ktd_sub))
    have fo₁ := se.fr O8
    have bk₁ := Back.slot b8 se
    have htX : tl ∉ ((L' + 1 + 1, o₂) :: (own ++ ((fd, FO) :: (L' + 1 + 1 + 1, ok) :: (D9, kl (ksOf ps) c9) :: (S' ++ (ac, dO ces ez) :: fix)))).map (·.1) := nkc (nkh (nkt h1)) (nkm hto (nkc (nkh h1) (nkc (nkh (nkt (nkt h1))) (nkc (nkh (nkt (nkt (nkt h1)))) (nkm (hap' _ (.inl rfl)) (nkc (Ne.symm hact) (nks h1 (by ktd_sub))))))))
    refine stepE (ct' := ct') (ts' := ts') (sv := sv) (pl := pl) hok ho₂ lt20 hp6 hkl (by have := hk; omega) htX F₂ X T N₃ oQ nQ (fun h' tk' frs' new as_ se' F' hnew hal hTn nn N' o' => ?_)
    subst hQ9 hJ9
    refine ⟨h', tk', _, frs', (L' + 1 + 1, o₂) :: (tl, liO ((ts' ++ as_).map Value.ref) (ct' + 1)) :: (fd, FO) :: (L' + 1 + 1 + 1, ok) :: (D9, kl (ksOf ps) c9) :: ((new ++ S') ++ (ac, dO ces ez) :: fix), rfl, se', F', cut_news N' (by ktd_sub), off_sub o' (by ktd_sub), nAll _ _ _ _ hn₂ (fun q hq => (List.mem_append.mp hq).elim (nn q) (nS q)), fun q hq => ?_, o₂, _, new ++ S', ts' ++ as_, ct' + 1, rfl, rfl, ho₂, hn₂, (fun q hq => (List.mem_append.mp hq).elim (nn q) (nS q)), fun q hq => List.mem_append_right _ (hSS q hq), fun a ha => ?_, ?_, fun d hd hm => ?_⟩
    · exact en_cons (by with_reducible walk_at "LKEY") (en_cons (by with_reducible walk_at "LKEY") (en_cons (by with_reducible walk_at "LKEY") (en_cons (by with_reducible walk_at "LKEY") (en_cons (by with_reducible walk_at "LKEY") (en_app (en_app (fun q hq => .inr fun hm => hnew q hq (kx_tl (kx_l hm))) (ks_inl (by with_reducible walk_at "LKS"))) (ks_inl (by with_reducible walk_at "LKS"))))))) q hq
    · rcases List.mem_append.mp ha with ha | ha
      · exact (hT' a ha).mono (by ktd_sub)
      · exact (hTn a ha).mono (by ktd_sub)
    · rw [List.length_append, hal]; omega
    · rw [List.map_append, List.mem_append] at hm
      rcases hm with hm | hm
      · obtain ⟨q, hq, e⟩ := List.mem_map.mp hm
        refine hnew q hq ?_
        rw [e]
        rcases hd with h | h | h | h
        · rw [h]; with_reducible walk_at "LKEY"
        · rw [h]; with_reducible walk_at "LKEY"
        · rw [h]; with_reducible walk_at "LKEY"
        · rw [h]; with_reducible walk_at "LKEY"
      · exact hap' d hd hm
end
section -- MTailC
local macro_rules | `(tactic| walk_at "d0") => `(tactic| skip)
local macro_rules | `(tactic| walk_at "storeName") => `(tactic| (k_here; (with_reducible show wpAny _ _ (storeName _ (Str.ofString "tries") _) _ _ _); (refine mark ?_)))
noncomputable def rm (bs x nm : Str) (tb tx t : Tok) (am fd pl : Addr) (sv : Option Value) : Str → Option Value := (fun y => if y = Str.ofString "some" then sv else if y = Str.ofString "places" then some (.ref pl) else if y = Str.ofString "base" then some (.str bs tb) else if y = Str.ofString "letters" then some (.str x tx) else if y = Str.ofString "name" then some (.str nm t) else if y = Str.ofString "maker" then some (.ref am) else if y = Str.ofString "feed" then some (.ref fd) else none)
theorem m5 {α : Type} {x a b c d e : α} (h : x ∈ [a, b, c, d, e]) : x = a ∨ x = b ∨ x = c ∨ x = d ∨ x = e := by
  simpa only [List.mem_cons, List.not_mem_nil, or_false] using h
theorem tailC {w : World} {mean : ExcName → Option Value} {mg mb : Str → Option Value} {fix S : Led} {fd lc am adx an ap aq ar ac pl D9 : Addr} {k1 k2 tp j1 j2 j3 j4 j5 j6 : Tok} {p fz ez c9 cz : Nat} {nm x bs : Str} {t tx tb : Tok} {ws : List KD} {ces : Array DictEntry} {CI CP : Array DictEntry → Prop} {sv : Option Value} {ps : List Nat} {xs : List Value} {ns : List Int} {ok o2 : Obj} {v2 : Option Value}
    {dp un : Nat} {gd : Option (List Code)} {cn : Str} {cs : Scope} {a : Addr} {ccd : Value} {cl : List (Str × Addr)} {outer : List Env} {base : Heap} {L L' L₀ : Addr} {m₀ : Str → Option Value} {frs frs₀ : Led} {s : Shared} {Q : Flow → Shared → Prop} {E : Value → Shared → Prop}
    (hself : (am, instObj 494 adx) ∈ fix) (hdict : (adx, selfD w.params j1 j2 j3 j4 j5 j6 an ap aq ar ac) ∈ fix) (hcall : CallOK w mean mg mb am nm bs ws ac fix CI CP) (hC : CP ces) (hCP : ∀ ces, CP ces → CI ces) (hx : LetsOK x ws) (hw : ws.length ≤ 6)
    (hlc : At (seed.heap_1 w.params) fix lc ⟨.type "list", none, .seq xs.toArray cz, #[]⟩) (hns : IntsAre xs ns) (hz : ns.length ≤ 40) (hp : p ≤ 160)
    (hok : ok.data = .cell (some (.ref D9))) (ho2 : o2.data = .cell v2) (lt20 : ∀ p ∈ ps, p < 20) (hp1 : 1 ≤ ps.length) (hp6 : ps.length ≤ 6)
    (h2 : fd ∉ ((L' + 1 + 1, o2) :: (L' + 1 + 1 + 1, ok) :: (D9, kl (ksOf ps) c9) :: (S ++ fix)).map (·.1)) (h3 : L' + 1 + 1 ∉ ((L' + 1 + 1 + 1, ok) :: (D9, kl (ksOf ps) c9) :: (S ++ fix)).map (·.1))
    (hac : ac ∉ ((fd, dO (feedD w.params k1 k2 lc p tp) fz) :: (L' + 1 + 1, o2) :: (L' + 1 + 1 + 1, ok) :: (D9, kl (ksOf ps) c9) :: (S ++ fix)).map (·.1))
    (F : Fr base L' s.heap (rm bs x nm tb tx t am fd pl sv)) (X : (seed.heap_1 w.params).In base) (T : Top vw (looseW vw lo) mean mg mb base) (N : News base L' s.heap (frs ++ ((fd, dO (feedD w.params k1 k2 lc p tp) fz) :: (L' + 1 + 1, o2) :: (L' + 1 + 1 + 1, ok) :: (D9, kl (ksOf ps) c9) :: (S ++ (ac, dO ces ez) :: fix)))) (O : FrOK (envX cn cs L a ccd cl :: outer) frs) (Of : Off frs ((fd, dO (feedD w.params k1 k2 lc p tp) fz) :: (L' + 1 + 1, o2) :: (L' + 1 + 1 + 1, ok) :: (D9, kl (ksOf ps) c9) :: (S ++ (ac, dO ces ez) :: fix))) (nf : NF ((fd, dO (feedD w.params k1 k2 lc p tp) fz) :: (L' + 1 + 1, o2) :: (L' + 1 + 1 + 1, ok) :: (D9, kl (ksOf ps) c9) :: (S ++ (ac, dO ces ez) :: fix))) (bk : Back base L₀ m₀ frs₀ frs)
    (hd : dp + 100 < recursionLimit) (hu : un + 3000 < cLine) (hE : PassesOwn (model PySem.Challenge.rw_qd0027_02.row.prog w) ((ktrTop dp un gd cn cs L a ccd cl outer).deeper (env602 w.params L')) (env602 w.params L') E)
    (fin : ∀ h' tk' frs' m' ces' ez' (p' : Nat) tp' fz' S', CP ces' → p' ≤ p + 2 → SlotEq frs frs' → Fr base L' h' m' → (∀ q ∈ S, q ∈ S') → News base L' h' (frs' ++ ((fd, dO (feedD w.params k1 k2 lc p' tp') fz') :: (S' ++ (ac, dO ces' ez') :: fix))) → Off frs' ((fd, dO (feedD w.params k1 k2 lc p' tp') fz') :: (S' ++ (ac, dO ces' ez') :: fix)) → Q (.ret (.bool true)) { s with heap := h', toks := tk' }) :
    wpAny (model PySem.Challenge.rw_qd0027_02.row.prog w) ((ktrTop dp un gd cn cs L a ccd cl outer).deeper (env602 w.params L')) (execs ((stmtsO (fun602 w.params).1).drop 4) (env602 w.params L')) Q E s := by
  have hE0 := hE
  dsimp only [env602, fun602, stmtsO, scopeO, List.drop] at hE ⊢
  replace F : Fr base L' s.heap (fun y => if y = Str.ofString "some" then sv else if y = Str.ofString "places" then some (.ref pl) else if y = Str.ofString "base" then some (.str bs tb) else if y = Str.ofString "letters" then some (.str x tx) else if y = Str.ofString "name" then some (.str nm t) else if y = Str.ofString "maker" then some (.ref am) else if y = Str.ofString "feed" then some (.ref fd) else none) := F
  have hks : (ksOf ps).length = ps.length := by rw [ksOf, List.length_map]
  have hzz : ((ksOf ps).map fun p => Value.ref p.1).toArray.size ≤ sizeLine := by rw [List.size_toArray, List.length_map, hks, sizeLine_eq]; omega
  have hD9i : ∀ (h' : Heap) (all : Led), News base L' h' all → (D9, kl (ksOf ps) c9) ∈ all → Heap.IsList h' D9 ((ksOf ps).map fun p => Value.ref p.1).toArray := fun h' all N hm => ⟨_, (N _ hm).1, rfl, _, rfl⟩
  obtain ⟨AL, hAL⟩ : ∃ AL : Led, AL = frs ++ ((fd, dO (feedD w.params k1 k2 lc p tp) fz) :: (L' + 1 + 1, o2) :: (L' + 1 + 1 + 1, ok) :: (D9, kl (ksOf ps) c9) :: (S ++ (ac, dO ces ez) :: fix)) := ⟨_, rfl⟩
  have mAL : ∀ q ∈ frs ++ ((fd, dO (feedD w.params k1 k2 lc p tp) fz) :: (L' + 1 + 1, o2) :: (L' + 1 + 1 + 1, ok) :: (D9, kl (ksOf ps) c9) :: (S ++ (ac, dO ces ez) :: fix)), q ∈ AL := by rw [hAL]; exact fun _ h => h
  have mD9 : (D9, kl (ksOf ps) c9) ∈ AL := mAL _ (by with_reducible walk_at "LMEM")
  have mK : (L' + 1 + 1 + 1, ok) ∈ AL := mAL _ (by with_reducible walk_at "LMEM")
  rw [← hAL] at N
  k_steps
  unfold Marked
  refine kmk_slice_lit F N (hD9i _ _ N mD9) .none (.int _ _) (pick_butlast _) (fun d1 hh2 F2 N2 l2 => ?_) (by with_unfolding_all rfl) (fun _ => by with_unfolding_all rfl) hzz
  k_steps
  unfold Marked
  rename_i dt hT1 lt1 dl hL1 FL NL lL
  refine add_arrays FL NL (hD9i _ _ NL (.tail _ (.tail _ (.tail _ mD9)))) (⟨_, (NL _ (.head _)).1, rfl, _, rfl⟩ : Heap.IsList hL1 dl _) (fun h4 F4 N4 => ?_) ?_
  case refine_2 => simp [sizeLine_eq, hks]; omega
  have l4 : ∀ q : Addr × Obj, q ∈ AL → q.1 < hL1.objs.size := fun q hq => Heap.lt_size (NL q (.tail _ (.tail _ (.tail _ hq)))).1
  have N5 : News base L' h4 ((hL1.objs.size, kl (ksOf ps ++ [(dt, ⟨Str.ofString "int", false, 0⟩)]) 0) :: (dt, tup [.str (Str.ofString "int") (s.toks + 1 + 1), .bool false, .int 0 (s.toks + 1 + 1 + 1)]) :: (d1, kl (ksOf (ps.take (ps.length - 1))) 0) :: AL) := fun q hq => by
    rcases List.mem_cons.mp hq with rfl | hq
    · have z := N4 _ (.head _)
      exact ⟨z.1.trans (congrArg (fun v : List Value => some (liO v 0)) (by simp)), z.2⟩
    rcases List.mem_cons.mp hq with rfl | hq
    · exact N4 _ (.tail _ (.tail _ (.head _)))
    rcases List.mem_cons.mp hq with rfl | hq
    · have z := N4 _ (.tail _ (.tail _ (.tail _ (.head _))))
      exact ⟨z.1.trans (congrArg (fun v : List Value => some (liO v 0)) (by simp [ksOf, List.map_take])), z.2⟩
    · exact N4 _ (.tail _ (.tail _ (.tail _ (.tail _ hq))))
  clear N4 NL
  try dsimp only
  obtain ⟨d4, hd4⟩ : ∃ d4, d4 = hL1.objs.size := ⟨_, rfl⟩
  rw [← hd4] at N5 l4 ⊢
  k_steps
  unfold Marked
  rename_i d5 h6 F6 N6 l6
  refine krv_lit (zs := (ksOf ps.reverse).map fun p => Value.ref p.1) F6 N6 (hD9i _ _ N6 (.tail _ (.tail _ (.tail _ (.tail _ mD9))))) (.int _ _) (by simp [ksOf, List.map_reverse]) (fun d6 h7 F7 N7 l7 => ?_) (by with_unfolding_all rfl) (fun _ => by with_unfolding_all rfl) hzz
  k_steps
  unfold Marked
  rename_i tl h8 F8 N8 l8
  have fr1 : ∀ q ∈ AL, q.1 < d1 := l2
  have frt : ∀ q ∈ AL, q.1 < dt := allLt_mem lt1.2
  have fr5 : ∀ q ∈ AL, q.1 < d5 := allLt_mem l6.2.2.2
  have fr6 : ∀ q ∈ AL, q.1 < d6 := fun q hq => l7 q (.tail _ (.tail _ (.tail _ (.tail _ hq))))
  have frL : ∀ q ∈ AL, q.1 < tl := allLt_mem l8.2.2.2.2.2
  obtain ⟨G, hG⟩ : ∃ G : Led, G = [(d6, kl (ksOf ps.reverse) 0), (d5, kl [] 0), (d4, kl (ksOf ps ++ [(dt, ⟨Str.ofString "int", false, 0⟩)]) 0), (dt, tup [.str (Str.ofString "int") (s.toks + 1 + 1), .bool false, .int 0 (s.toks + 1 + 1 + 1)]), (d1, kl (ksOf (ps.take (ps.length - 1))) 0)] := ⟨_, rfl⟩
  have dis : ∀ a : Addr, (∀ d, (∀ q ∈ AL, q.1 < d) → a ≠ d) → a ∉ G.map (·.1) := fun a h => by rw [hG]; exact nkc (h _ fr6) (nkc (h _ fr5) (nkc (h _ l4) (nkc (h _ frt) (nkc (h _ fr1) nk0))))
  have ofB : ∀ (a : Addr) (o : Obj), (a, o) ∈ AL → ∀ d, (∀ q ∈ AL, q.1 < d) → a ≠ d := fun a o ha d hd => Nat.ne_of_lt (hd _ ha)
  have hfdN := dis fd (ofB fd _ (mAL _ (List.mem_append_right _ (.head _))))
  have hc2N := dis (L' + 1 + 1) (ofB _ o2 (mAL _ (List.mem_append_right _ (.tail _ (.head _)))))
  have hacN := dis ac (ofB ac (dO ces ez) (mAL _ (by with_reducible walk_at "LMEM")))
  have htlN : tl ∉ G.map (·.1) := by rw [hG]; exact nkc (Nat.ne_of_gt l8.1) (nkc (Nat.ne_of_gt l8.2.1) (nkc (Nat.ne_of_gt l8.2.2.1) (nkc (Nat.ne_of_gt l8.2.2.2.1) (nkc (Nat.ne_of_gt l8.2.2.2.2.1) nk0))))
  have hfrN : ∀ q ∈ G, q.1 ∉ frs.map (·.1) := fun q hq => by
    rw [hG] at hq
    rcases m5 hq with rfl | rfl | rfl | rfl | rfl
    · exact Off.of_lt fr6 (fun q hq => mAL q (List.mem_append_left _ hq))
    · exact Off.of_lt fr5 (fun q hq => mAL q (List.mem_append_left _ hq))
    · exact Off.of_lt l4 (fun q hq => mAL q (List.mem_append_left _ hq))
    · exact Off.of_lt frt (fun q hq => mAL q (List.mem_append_left _ hq))
    · exact Off.of_lt fr1 (fun q hq => mAL q (List.mem_append_left _ hq))
  have hfrL : tl ∉ frs.map (·.1) := Off.of_lt frL (fun q hq => mAL q (List.mem_append_left _ hq))
  have hnN : NF G := by rw [hG]; exact NF.cons (NF.ty rfl (by decide)) (NF.cons (NF.ty rfl (by decide)) (NF.cons (NF.ty rfl (by decide)) (NF.cons (NF.ty rfl (by decide)) (NF.cons (NF.ty rfl (by decide)) NF.nil))))
  have N8' : News base L' h8 ((tl, liO ([D9, d1, d4, d5, d6].map Value.ref) 0) :: (G ++ AL)) := fun q hq => N8 q (by rw [hG] at hq; exact hq)
  subst hAL
  clear mAL
  have N9 : News base L' h8 (frs ++ ((tl, liO ([D9, d1, d4, d5, d6].map Value.ref) 0) :: (fd, dO (feedD w.params k1 k2 lc p tp) fz) :: (L' + 1 + 1, o2) :: (L' + 1 + 1 + 1, ok) :: (D9, kl (ksOf ps) c9) :: ((G ++ S) ++ (ac, dO ces ez) :: fix))) := cut_news N8' (by with_reducible walk_at "LSUB")
  have hT0 : ∀ a ∈ [D9, d1, d4, d5, d6], TryOK (seed.heap_1 w.params) ((D9, kl (ksOf ps) c9) :: ((G ++ S) ++ fix)) a := by
    have lt' : ∀ ps' : List Nat, (∀ p ∈ ps', p ∈ ps) → ∀ p ∈ ps', p < 20 := fun ps' h p hp => lt20 p (h p hp)
    have kz : ∀ ps' : List Nat, ps'.length ≤ 7 → (ksOf ps').length ≤ 7 := fun ps' h => by rw [ksOf, List.length_map]; exact h
    rw [hG]
    intro a ha
    rcases m5 ha with rfl | rfl | rfl | rfl | rfl
    · exact ⟨ksOf ps, c9, .inr (.head _), ksOf_ok lt20 _, kz _ (Nat.le_succ_of_le hp6)⟩
    · exact ⟨ksOf (ps.take (ps.length - 1)), 0, .inr (by with_reducible walk_at "LMEM"), ksOf_ok (lt' _ fun p hp => List.mem_of_mem_take hp) _, kz _ (by rw [List.length_take]; omega)⟩
    · refine ⟨ksOf ps ++ [(dt, ⟨Str.ofString "int", false, 0⟩)], 0, .inr (by with_reducible walk_at "LMEM"), fun q hq => ?_, by rw [List.length_append, hks, List.length_singleton]; omega⟩
      rcases List.mem_append.mp hq with hq | hq
      · exact ksOf_ok lt20 _ q hq
      · rw [List.mem_singleton.mp hq]
        exact ⟨⟨s.toks + 1 + 1, s.toks + 1 + 1 + 1, .inr (by with_reducible walk_at "LMEM")⟩, ⟨by show (Str.ofString "int").length ≤ 8; decide +kernel⟩, ⟨by show (0 : Int) ≤ 0; decide, by show (0 : Int) ≤ 99; decide⟩⟩
    · exact ⟨[], 0, .inr (by with_reducible walk_at "LMEM"), (fun q hq => nomatch hq), by decide⟩
    · exact ⟨ksOf ps.reverse, 0, .inr (by with_reducible walk_at "LMEM"), ksOf_ok (lt' _ fun p hp => List.mem_reverse.mp hp) _, kz _ (by rw [List.length_reverse]; omega)⟩
  refine wpAny_storeName_local rfl F8.ns (fun h9 hn9 hs9 => ?_) rfl
  have F9 : Fr base L' h9 (rmT bs x nm tb tx t am fd pl tl sv none) := by
    have e : rmT bs x nm tb tx t am fd pl tl sv none = (fun y => if y = Str.ofString "tries" then some (.ref tl) else rm bs x nm tb tx t am fd pl sv y) := by
      funext y
      by_cases e1 : y = Str.ofString "tries"
      · subst e1; rfl
      · by_cases e2 : y = Str.ofString "spot"
        · subst e2; rfl
        · unfold rmT rm
          simp only [if_neg e1, if_neg e2]
    rw [e]
    exact F8.set hn9 hs9
  have N10 := N9.set hs9
  have hapx : ∀ (a : Addr) (X1 : Led), a ∉ G.map (·.1) → (∀ q ∈ X1, q.1 ≠ a) → a ∉ (X1 ++ ((G ++ S) ++ fix)).map (·.1) → True := fun _ _ _ _ _ => trivial
  clear hapx
  refine tailB (S := G ++ S) (ts := [D9, d1, d4, d5, d6]) (ct := 0) (ces := ces) (ez := ez) (frs := frs) (sv := sv) (pl := pl) hself hdict hcall hC hCP hx hw hlc hns hz hp hok ho2 lt20 hp1 hp6 hT0 (Nat.le_refl 5) ?_ ?_ ?_ ?_ F9 X T N10 O ?_ ?_ bk hd hu hE0 ?_
  · exact nkc (Nat.ne_of_gt (frL (fd, dO (feedD w.params k1 k2 lc p tp) fz) (List.mem_append_right _ (.head _)))) (nkc (Nat.ne_of_gt (frL (L' + 1 + 1, o2) (List.mem_append_right _ (.tail _ (.head _))))) (nkc (Nat.ne_of_gt (frL (L' + 1 + 1 + 1, ok) (List.mem_append_right _ (.tail _ (.tail _ (.head _)))))) (nkc (Nat.ne_of_gt (frL (D9, kl (ksOf ps) c9) mD9)) (nkm (nkm htlN (Off.of_lt frL (by ktd_sub))) (Off.of_lt frL (by ktd_sub))))))
  · exact nkc (nkh h2) (nkc (nkh (nkt h2)) (nkc (nkh (nkt (nkt h2))) (nkm (nkm hfdN (nks h2 (by ktd_sub))) (nks h2 (by ktd_sub)))))
  · exact nkc (nkh h3) (nkc (nkh (nkt h3)) (nkm (nkm hc2N (nks h3 (by ktd_sub))) (nks h3 (by ktd_sub))))
  · exact nkc (Nat.ne_of_lt (frL (ac, dO ces ez) (by with_reducible walk_at "LMEM"))) (nkc (nkh hac) (nkc (nkh (nkt hac)) (nkc (nkh (nkt (nkt hac))) (nkc (nkh (nkt (nkt (nkt hac)))) (nkm (nkm hacN (nks hac (by ktd_sub))) (nks hac (by ktd_sub)))))))
  · exact Off.cons hfrL (Off.consOf Of (by with_reducible walk_at "LMEM") (Off.consOf Of (by with_reducible walk_at "LMEM") (Off.consOf Of (by with_reducible walk_at "LMEM") (Off.consOf Of (by with_reducible walk_at "LMEM") (Off.app (Off.app hfrN (off_sub Of (by ktd_sub))) (off_sub Of (by ktd_sub)))))))
  · exact NF.cons (NF.ty rfl (by decide)) (NF.consOf nf (by with_reducible walk_at "LMEM") (NF.consOf nf (by with_reducible walk_at "LMEM") (NF.consOf nf (by with_reducible walk_at "LMEM") (NF.consOf nf (by with_reducible walk_at "LMEM") (NF.app (NF.app hnN (nf_sub nf (by ktd_sub))) (nf_sub nf (by ktd_sub)))))))
  · intro h' tk' frs' m' ces' ez' p' tp' fz' S' hcp' hp' se' F' hSS N' o'
    exact fin h' tk' frs' m' ces' ez' p' tp' fz' S' hcp' hp' se' F' (fun q hq => hSS q (List.mem_append_right _ hq)) N' o'
end
end
section -- MRound
local macro_rules | `(tactic| walk_at "call builtin:len") => `(tactic| walk_at "H6")
local macro_rules | `(tactic| walk_at "execs cons") => `(tactic| (k_here; (with_reducible show wpAny _ _ (execs (Stmt.Assign [Expr.Name (Str.ofString "tries") _] _ _ :: _) _) _ _ _); (refine mark ?_)))
structure WdOK (w : World) (fix : Led) (am as adx an ap aq ar ac bdx sc s0 : Addr) (j1 j2 j3 j4 j5 j6 y1 y2 : Tok) (ses : Array DictEntry) (sn : Nat) : Prop where
  self : (am, instObj 494 adx) ∈ fix
  dict : (adx, selfD w.params j1 j2 j3 j4 j5 j6 an ap aq ar ac) ∈ fix
  nam : (an, instObj 257 bdx) ∈ fix
  ndict : (bdx, namesD w.params y1 y2 sc as) ∈ fix
  sc : At (seed.heap_1 w.params) fix sc (lst [.ref s0])
  s0 : (s0, dO ses sn) ∈ fix
  ses : SesOK ses 20
/-- what _law_round gives -/
inductive RoundR (w : World) (fd as ac lc : Addr) (k1 k2 : Tok) (p q : Nat) (CP : Array DictEntry → Prop) (fix : Led) (r : Value) (tl : Led) : Prop
  | of (er : r = .bool true) (p' : Nat) (tp' : Tok) (fz' : Nat) (qes' : Array DictEntry) (qz' : Nat) (ces' : Array DictEntry) (cz' : Nat) (hp : p' ≤ p) (hq : AskOK qes' q) (hc : CP ces') (et : tl = (fd, dO (feedD w.params k1 k2 lc p' tp') fz') :: (as, dO qes' qz') :: (ac, dO ces' cz') :: fix)
/-- where _law_round's first loop stands -/
inductive RJ (w : World) (p : Nat) (k1 k2 : Tok) (fd lc c1 pl : Addr) (TL : Led) (ws : List KD) (mk : Option Value → Str → Option Value) (k : Nat) (m : Str → Option Value) (X : Led) : Prop
  | of (oc : Obj) (sv : Option Value) (vs : List Value) (ps : List Nat) (c : Nat) (tp : Tok) (fz : Nat) (v0 : Option Value) (FO : Obj) (eM : m = mk sv) (eX : X = (c1, oc) :: (pl, liO vs c) :: (fd, FO) :: TL) (eF : FO = dO (feedD w.params k1 k2 lc (p + k : Nat) tp) fz) (ho : oc.data = .cell v0) (hno : NFo oc) (hps : PlOK vs ps) (hpk : ps.length = k) (hfit : ∀ (i q : Nat) (v : KD), ps[i]? = some q → ws[i]? = some v → fitsB (kAt q) v = true)
theorem round_c (w : World) (mean : ExcName → Option Value) (mg mb : Str → Option Value) (fix : Led) (fd lc am as adx an ap aq ar ac bdx sc s0 : Addr) (k1 k2 tp j1 j2 j3 j4 j5 j6 y1 y2 : Tok) (p fz : Nat) (nm x bs : Str) (t tx tb : Tok) (xs : List Value) (cz : Nat) (ns : List Int) (ws : List KD) (qes ces ses : Array DictEntry) (qz ez sn q0 : Nat) (CI CP : Array DictEntry → Prop)
    (W : WdOK w fix am as adx an ap aq ar ac bdx sc s0 j1 j2 j3 j4 j5 j6 y1 y2 ses sn) (hcall : CallOK w mean mg mb am nm bs ws ac fix CI CP) (hCI : CI ces) (hCP : ∀ ces, CP ces → CI ces) (hqs : AskOK qes q0) (hqz : q0 ≤ 900)
    (hlc : At (seed.heap_1 w.params) fix lc ⟨.type "list", none, .seq xs.toArray cz, #[]⟩) (hns : IntsAre xs ns) (hz : ns.length ≤ 40) (hp : p ≤ 150) (hfr : fd ∉ ((as, dO qes qz) :: (ac, dO ces ez) :: fix).map (·.1)) (hqr : as ∉ ((ac, dO ces ez) :: fix).map (·.1)) (hcr : ac ∉ fix.map (·.1)) (hx : LetsOK x ws) (hw : ws.length ≤ 6) (hw1 : 1 ≤ ws.length) :
    Cn w mean mg mb 602 [.ref fd, .ref am, .str nm t, .str x tx, .str bs tb] ((fd, dO (feedD w.params k1 k2 lc p tp) fz) :: (as, dO qes qz) :: (ac, dO ces ez) :: fix) 100 3000
      (RoundR w fd as ac lc k1 k2 (p + 8) (q0 + ws.length) CP fix) (fun _ _ => False) := by
  obtain ⟨rest, hrest⟩ : ∃ rest : Led, rest = (as, dO qes qz) :: (ac, dO ces ez) :: fix := ⟨_, rfl⟩
  rw [← hrest]
  rw [← hrest] at hfr
  have hlc0 := hlc
  replace hlc : At (seed.heap_1 w.params) rest lc ⟨.type "list", none, .seq xs.toArray cz, #[]⟩ := by
    rw [hrest]; exact hlc.mono (fun q hq => .tail _ (.tail _ hq))
  intro dp un gd cn cs a ccd cl outer base L m frs s Q E F X T N O Of nf hk hd hu hret hexc
  refine wpAny_call ?_
  k_dflt ktr_enter
  refine gen_wpE fun E9 hE9 => ?_
  rename_i L' h' frs' tk' fo' of' bk' F' l1' o' o2' o3' d1' d2' d3' oc' N' nc' ap'
  replace d1' : o'.data = .cell none := d1'
  replace d2' : o2'.data = .cell none := d2'
  replace d3' : o3'.data = .cell none := d3'
  replace F' : Fr base L' h' (fun y => if y = Str.ofString "base" then some (.str bs tb) else if y = Str.ofString "letters" then some (.str x tx) else if y = Str.ofString "name" then some (.str nm t) else if y = Str.ofString "maker" then some (.ref am) else if y = Str.ofString "feed" then some (.ref fd) else none) := F'
  k_steps
  refine For_turns (by k_asm) ?_ (hE := (by subst hE9; exact PassesOwn.leaving))
  k_steps
  unfold Marked
  rename_i pl g1 g2 h6 F6 N6
  obtain ⟨TL, hTL⟩ : ∃ TL : Led, TL = (L' + 1 + 1 + 1, o') :: (L' + 1 + 1, o2') :: rest := ⟨_, rfl⟩
  have N7 : News base L' h6 (frs' ++ ((L' + 1, o3') :: (pl, liO [] 0) :: (fd, dO (feedD w.params k1 k2 lc p tp) fz) :: TL)) := cut_news (show News base L' h6 ((pl, liO [] 0) :: (frs' ++ ((L' + 1 + 1 + 1, o') :: (L' + 1 + 1, o2') :: (L' + 1, o3') :: (fd, dO (feedD w.params k1 k2 lc p tp) fz) :: rest))) from N6) (by rw [hTL]; ktd_sub)
  have hL1f : L' + 1 ≠ fd := nkh (ap' _ (.tail _ (.tail _ (.head _))))
  have hL1p : L' + 1 ≠ pl := Nat.ne_of_lt (g2 (L' + 1, o3') (by with_reducible walk_at "LMEM"))
  have hpf : pl ≠ fd := Nat.ne_of_gt (g2 (fd, dO (feedD w.params k1 k2 lc p tp) fz) (by with_reducible walk_at "LMEM"))
  have hpT : pl ∉ TL.map (·.1) := Off.of_lt (all := frs' ++ ((L' + 1 + 1 + 1, o') :: (L' + 1 + 1, o2') :: (L' + 1, o3') :: (fd, dO (feedD w.params k1 k2 lc p tp) fz) :: rest)) g2 (by rw [hTL]; ktd_sub)
  have hpF : pl ∉ frs'.map (·.1) := Off.of_lt g2 (fun q hq => List.mem_append_left _ hq)
  have hL1T : L' + 1 ∉ TL.map (·.1) := by
    rw [hTL]
    exact nkc (Nat.ne_of_lt (Nat.lt_succ_of_lt (Nat.lt_succ_self _))) (nkc (Nat.ne_of_lt (Nat.lt_succ_self _)) (nkt (ap' _ (.tail _ (.tail _ (.head _))))))
  have hfT : fd ∉ TL.map (·.1) := by
    rw [hTL]
    exact nkc (Ne.symm (nkh (ap' _ (.head _)))) (nkc (Ne.symm (nkh (ap' _ (.tail _ (.head _))))) hfr)
  have oAll : Off frs' ((L' + 1, o3') :: (pl, liO [] 0) :: (fd, dO (feedD w.params k1 k2 lc p tp) fz) :: TL) := Off.consOf (p := (L' + 1, o3')) oc' (by with_reducible walk_at "LMEM") (Off.cons hpF (off_sub oc' (by rw [hTL]; ktd_sub)))
  have nTL : NF TL := by
    rw [hTL]
    exact NF.cons (nc' _ (.head _)) (NF.cons (nc' _ (.tail _ (.head _))) (nf_sub nf fun _ h => .tail _ h))
  have nAll : NF ((L' + 1, o3') :: (pl, liO [] 0) :: (fd, dO (feedD w.params k1 k2 lc p tp) fz) :: TL) := NF.cons (nc' _ (.tail _ (.tail _ (.head _)))) (NF.cons (NF.ty rfl (by decide)) (NF.cons (NF.ty rfl (by decide)) nTL))
  have F7 : Fr base L' h6 (rm bs x nm tb tx t am fd pl none) := by
    have e : rm bs x nm tb tx t am fd pl none = (fun y => if y = Str.ofString "places" then some (.ref pl) else if y = Str.ofString "base" then some (.str bs tb) else if y = Str.ofString "letters" then some (.str x tx) else if y = Str.ofString "name" then some (.str nm t) else if y = Str.ofString "maker" then some (.ref am) else if y = Str.ofString "feed" then some (.ref fd) else none) := by
      funext y
      unfold rm
      by_cases e : y = Str.ofString "some"
      · subst e; rfl
      · rw [if_neg e]
    rw [e]
    exact F6
  obtain ⟨J9, hJ9⟩ : ∃ J : Nat → (Str → Option Value) → Led → Prop, J = (fun k m X => RJ w p k1 k2 fd lc (L' + 1) pl TL ws (rm bs x nm tb tx t am fd pl) k m X) := ⟨_, rfl⟩
  refine for_ledA (m := rm bs x nm tb tx t am fd pl none) (frs := frs') (li_str rfl) X F7 N7 oAll nAll J9 (by rw [hJ9]; exact ⟨_, _, _, [], _, _, _, _, _, rfl, rfl, rfl, d3', nc' _ (.tail _ (.tail _ (.head _))), ⟨rfl, fun i p h => by simp at h⟩, rfl, fun i q v h => by simp at h⟩) ?_ ?_
  case refine_1 =>
    intro k v m₁ X₁ frs₁ own h₁ tk₁ hk hv hJ8 se F₁ N₁ o₁ n₁ hap
    rw [hJ9] at hJ8
    refine gen_wp fun Q9 hQ9 => ?_
    obtain ⟨oc, sv, vs, ps, c, tp, fz, v0, FO0, eM, eX, eF, ho, hno, hps, hpk, hfit⟩ := hJ8
    subst eM eX
    have nF0 : NFo FO0 := by rw [eF]; exact NF.ty rfl (by decide)
    obtain ⟨cc, u, hcc, rfl⟩ := hv
    have N₂ : News base L' h₁ (frs₁ ++ ((L' + 1, oc) :: (own ++ ((pl, liO vs c) :: (fd, FO0) :: TL)))) := cut_news N₁ (fun q hq => by exact (show ∀ p ∈ _, p ∈ _ by with_reducible walk_at "LSUB") _ hq)
    have apo : ∀ q ∈ (L' + 1, oc) :: (pl, liO vs c) :: (fd, FO0) :: TL, q.1 ∉ own.map (·.1) := fun q hq hm => nomatch (hap q hq hm)
    have hcX : L' + 1 ∉ (own ++ ((pl, liO vs c) :: (fd, FO0) :: TL)).map (·.1) := nkm (apo _ (.head _)) (nkc hL1p (nkc hL1f hL1T))
    have oP : Off frs₁ ((L' + 1, oc) :: (own ++ ((pl, liO vs c) :: (fd, FO0) :: TL))) := off_sub o₁ (fun q hq => by exact (show ∀ p ∈ _, p ∈ _ by with_reducible walk_at "LSUB") _ hq)
    subst hQ9
    refine cellset_led F₁ N₂ oP hcX rfl rfl (by rfl) ho fun h₂ o₂ ho₂ hn₂ F₂ N₃ => ?_
    obtain ⟨wd, hwd, hlt⟩ := hx.at_ k cc hcc
    have fo₁ := se.fr fo'
    have bk₁ := Back.slot bk' se
    replace F₂ : Fr base L' h₂ (fun y => if y = Str.ofString "some" then sv else if y = Str.ofString "places" then some (.ref pl) else if y = Str.ofString "base" then some (.str bs tb) else if y = Str.ofString "letters" then some (.str x tx) else if y = Str.ofString "name" then some (.str nm t) else if y = Str.ofString "maker" then some (.ref am) else if y = Str.ofString "feed" then some (.ref fd) else none) := F₂
    replace N₃ : News base L' h₂ (frs₁ ++ ((L' + 1, o₂) :: (own ++ ((pl, liO vs c) :: (fd, FO0) :: TL)))) := N₃
    refine gen_wp fun Q9 hQ9 => ?_
    k_steps
    unfold Marked
    refine asg_comp (cl := [(Str.ofString "letter", L' + 1)]) (by with_unfolding_all rfl) (fun _ => rfl) (by rfl) rfl (by decide) rfl ?_
    k_steps
    unfold Marked
    have oM := off_set (o' := o₂) oP
    have nM : NF ((L' + 1, o₂) :: (own ++ ((pl, liO vs c) :: (fd, FO0) :: TL))) := NF.cons hn₂ (nf_sub n₁ (fun q hq => by exact (show ∀ p ∈ _, p ∈ _ by with_reducible walk_at "LSUB") _ hq))
    refine range1_rows (by k_asm) N₃ fun h3 tk3 t₁ u₁ v₁ hr F3 N3 keep => ?_
    refine' comp_ledA (K := seed.heap_1 w.params) (ls := []) (P := fun i v => ∃ t, v = Value.int (i : Int) t) (n := 20) (J := fun k' ys X => X = (L' + 1, o₂) :: (own ++ ((pl, liO vs c) :: (fd, FO0) :: TL)) ∧ PlOK ys (picks wd k')) (li_range rfl hr (by decide)) X ?hx ?hsz ?hcell ?hkind ?hy ?hp F3 N3 oM nM ⟨rfl, ⟨rfl, fun i p h => by simp [picks] at h⟩⟩ ?hs ?hd
    case hx => rfl
    case hsz => rw [sizeLine_eq]; decide
    case hcell => decide
    case hkind => rfl
    case hy => rfl
    case hp => rfl
    case hs =>
      intro k' v' ys C oC m₃ own' X₁ frs₂ h₄ tk₄ hk' hv' hm hO hC hJ se' F₄ N₄ o₄ n₄ hap'
      obtain ⟨tv, rfl⟩ := hv'
      obtain ⟨rfl, hys⟩ := hJ
      have fo₂ := se'.fr fo₁
      have bk₂ := Back.slot bk₁ se'
      refine wpAny_tests_one ?_
      k_steps
      unfold Marked
      refine bases_item X F₄ hk' ?_
      k_steps
      unfold Marked
      obtain ⟨kq, hk1, hk2, -, -⟩ := base_at w.params k' hk'
      have hkA : kAt k' = kq := by rw [kAt, hk1]; rfl
      refine Cn.use (may_c w mean mg mb _ (499 + k') (kAt k') (cc, wd) u (by rw [hkA]; exact hk2.mono (fun _ h => nomatch h)) hlt) (by k_asm) X T (frs := frs₂) N₄ fo₂ o₄ n₄ bk₂ rfl ?_ ?_ (fun r f6 tl6 h6 tk6 R6 S6 O6 o6 n6 b6 F6 N6 => ?_) (fun e dx f2 tl2 h2 tk2 R2 => R2.elim)
      · ktr_room
      · dsimp only [ktrTop]; first | exact room2 (by assumption) (by decide) | exact room1 (by assumption) (by decide) | omega
      obtain ⟨rfl, rfl⟩ := R6
      have hps := picks_succ wd k'
      cases hfb : fitsB (kAt k') wd
      · rw [hfb, if_neg Bool.false_ne_true, List.append_nil] at hps
        k_steps
        (try dsimp only); (try k_unfold); (try dsimp only)
        refine ⟨h6, _, f6, _, rfl, S6, F6, N6, off_sub o6 (fun q hq => List.mem_append_right _ hq), nf_sub n6 (fun q hq => List.mem_append_right _ hq), fun q hq => .inl (key_mem hq), rfl, ?_⟩
        rw [hps]; exact hys
      · rw [hfb, if_pos rfl] at hps
        k_steps
        (try dsimp only); (try k_unfold); (try dsimp only)
        refine ⟨h6, _, f6, _, rfl, S6, F6, N6, off_sub o6 (fun q hq => List.mem_append_right _ hq), nf_sub n6 (fun q hq => List.mem_append_right _ hq), fun q hq => .inl (key_mem hq), rfl, ?_⟩
        rw [hps]; exact hys.push hk'
    case hd =>
      intro D h5 tk5 ys f5 X5 S5 F5 N5 o5 n5 lt5 hD hJ
      obtain ⟨rfl, hys⟩ := hJ
      obtain ⟨c5, hc5⟩ : ∃ c, lstN ys = liO ys c := ⟨_, rfl⟩
      rw [hc5] at N5 o5
      have aD : At (seed.heap_1 w.params) ((D, liO ys c5) :: (L' + 1, o₂) :: (own ++ ((pl, liO vs c) :: (fd, FO0) :: TL))) D (liO ys c5) := .inr (.head _)
      have hy20 := picks_len wd 20
      have hy1 : 1 ≤ (picks wd 20).length := picks_some (cc, wd) hlt
      have hyl := hys.len
      have hyz : ys.length ≤ 16384 := le_of hyl hy20 (by decide)
      k_steps
      unfold Marked
      have fo5 := S5.fr fo₁
      have bk5 := Back.slot bk₁ S5
      have hfD : fd ≠ D := Nat.ne_of_lt (lt5 (fd, FO0) (by with_reducible walk_at "LMEM"))
      have hpD : pl ≠ D := Nat.ne_of_lt (lt5 (pl, liO vs c) (by with_reducible walk_at "LMEM"))
      have hfo := apo (fd, FO0) (by with_reducible walk_at "LMEM")
      have hpo := apo (pl, liO vs c) (by with_reducible walk_at "LMEM")
      have N6 : News base L' h5 (f5 ++ ((fd, FO0) :: (D, liO ys c5) :: (L' + 1, o₂) :: (own ++ ((pl, liO vs c) :: TL)))) := cut_news N5 (by ktd_sub)
      have o6 : Off f5 ((fd, FO0) :: (D, liO ys c5) :: (L' + 1, o₂) :: (own ++ ((pl, liO vs c) :: TL))) := off_sub o5 (by ktd_sub)
      have n6 : NF ((fd, FO0) :: (D, liO ys c5) :: (L' + 1, o₂) :: (own ++ ((pl, liO vs c) :: TL))) := NF.cons nF0 (NF.cons (NF.ty rfl (by decide)) (nf_sub nM (by ktd_sub)))
      have kx : k < 6 := Nat.lt_of_lt_of_le (hx.len ▸ hk) hw
      refine Cn.use (dip_F w mean mg mb ((D, liO ys c5) :: (L' + 1, o₂) :: (own ++ ((pl, liO vs c) :: TL))) fd lc k1 k2 tp _ (p + k) ys.length fz xs cz ns FO0 eF (hlc.mono (fun q hq => .tail _ (.tail _ (List.mem_append_right _ (.tail _ (by rw [hTL]; exact .tail _ (.tail _ hq))))))) hns hz (Nat.le_trans (Nat.add_le_add hp (Nat.le_of_lt kx)) (by decide)) (hyl ▸ hy1) (le_of hyl hy20 (by decide)) (nkc hfD (nkc (Ne.symm hL1f) (nkm hfo (nkc (Ne.symm hpf) hfT))))) (by k_asm) X T (frs := f5) N6 fo5 o6 n6 bk5 rfl ?_ ?_ (fun r f7 tl7 h7 tk7 R7 S7 O7 o7 n7 b7 F7 N7 => ?_) (fun e dx f2 tl2 h2 tk2 R2 => R2.elim)
      · ktr_room
      · dsimp only [ktrTop]; first | exact room2 (by assumption) (by decide) | exact room1 (by assumption) (by decide) | omega
      obtain ⟨jn, tj, tp', fz', FO, hFO, rfl, hjy, rfl⟩ := R7
      have hjn : jn < (picks wd 20).length := hyl ▸ hjy
      obtain ⟨q20, tq, hvq⟩ := hys.at_ jn _ (List.getElem?_eq_getElem hjn)
      generalize hq : (picks wd 20)[jn] = q at q20 hvq
      have hqm : q ∈ picks wd 20 := by rw [← hq]; exact List.getElem_mem _
      try dsimp only
      k_steps
      unfold Marked
      refine item_lsR (news := (D, liO ys c5) :: (L' + 1, o₂) :: (own ++ ((pl, liO vs c) :: TL))) (.inr (.head _)) X (by k_asm) N7 (fun q hq => List.mem_append_right _ (.tail _ hq)) (Int.natCast_nonneg _) (lt63 hjy hyz) (Int.toNat_natCast jn) hvq ?_
      k_steps
      unfold Marked
      refine append_led (frs := f7) (vs := vs) (c := c) (X := (fd, FO) :: (D, liO ys c5) :: (L' + 1, o₂) :: (own ++ TL)) (by k_asm) (cut_news N7 (by ktd_sub)) (off_sub o7 (by ktd_sub)) (nkc hpf (nkc hpD (nkc (Ne.symm hL1p) (nkm hpo hpT)))) (le_of (hps.len.trans hpk) (Nat.le_of_lt kx) (by decide)) (fun h8 F8 N8 => ?_)
      k_steps
      subst hQ9 hJ9
      (try dsimp only); (try k_unfold); (try dsimp only)
      have e9 : ((p + (k + 1) : Nat) : Int) = ((p + k : Nat) : Int) + 1 := rfl
      refine ⟨h8, _, rm bs x nm tb tx t am fd pl (some (.ref D)), f7, (L' + 1, o₂) :: (pl, liO (vs ++ [.int q tq]) (c + 1)) :: (fd, FO) :: TL, rfl, S5.trans S7, ?_, cut_news N8 (by ktd_sub), ?_, ?_, ?_, o₂, _, vs ++ [.int q tq], ps ++ [q], c + 1, tp', fz', _, FO, rfl, rfl, hFO.trans (by rw [e9]), ho₂, hn₂, hps.push q20, by rw [List.length_append, hpk]; rfl, ?_⟩
      · have e : rm bs x nm tb tx t am fd pl (some (.ref D)) = (fun z => if z = Str.ofString "some" then some (.ref D) else rm bs x nm tb tx t am fd pl sv z) := by
          funext z
          unfold rm
          by_cases e : z = Str.ofString "some"
          · rw [if_pos e, if_pos e]
          · rw [if_neg e, if_neg e, if_neg e]
        rw [e]
        exact F8
      · exact off_keys o7 (by with_reducible walk_at "LKS")
      · exact NF.cons hn₂ (NF.cons (NF.ty rfl (by decide)) (NF.cons (by rw [hFO]; exact NF.ty rfl (by decide)) nTL))
      · exact ks_inl (by with_reducible walk_at "LKS")
      · intro i q' v hi hv
        by_cases e : i < ps.length
        · rw [List.getElem?_append_left e] at hi
          exact hfit i q' v hi hv
        · have hi' := (List.getElem?_eq_some_iff.mp hi).1
          rw [List.length_append, List.length_singleton] at hi'
          obtain rfl : i = ps.length := Nat.le_antisymm (Nat.le_of_lt_succ hi') (Nat.not_lt.mp e)
          rw [List.getElem?_append_right (Nat.le_refl _), Nat.sub_self] at hi
          obtain rfl : q = q' := by simpa using hi
          rw [hpk, hwd] at hv
          obtain rfl := Option.some.inj hv
          exact (picks_lt hqm).2
  case refine_2 =>
    intro h8 tk8 m8 f8 X8 hJ8 se F8 N8 o8 n8
    rw [hJ9] at hJ8
    obtain ⟨oc, sv, vs, ps, c, tp8, fz8, v0, FO8, eM, eX, eF, ho, hno, hps, hpk, hfit⟩ := hJ8
    subst eM eX
    replace F8 : Fr base L' h8 (fun y => if y = Str.ofString "some" then sv else if y = Str.ofString "places" then some (.ref pl) else if y = Str.ofString "base" then some (.str bs tb) else if y = Str.ofString "letters" then some (.str x tx) else if y = Str.ofString "name" then some (.str nm t) else if y = Str.ofString "maker" then some (.ref am) else if y = Str.ofString "feed" then some (.ref fd) else none) := F8
    replace N8 : News base L' h8 (f8 ++ (L' + 1, oc) :: (pl, liO vs c) :: (fd, FO8) :: TL) := N8
    have fo8 := se.fr fo'
    have bk8 := Back.slot bk' se
    k_steps
    unfold Marked
    refine wpAny_Assign_Name (hs := by with_unfolding_all rfl) ?_
    rw [eval_ListComp]
    refine wpAny_comprehension_free (use := none) rfl (fun _ => rfl) (cl := []) (by rfl) rfl (by decide) ?_
    change wpAny _ _ (eval (Expr.Name _ _) _) _ _ _
    k_steps
    unfold Marked
    have hxs : ps.length = ws.length := by rw [hpk, hx.len]
    have hvl := hps.len
    have lt20 := hps.lt
    have aPl : At (seed.heap_1 w.params) ((L' + 1, oc) :: (pl, liO vs c) :: (fd, FO8) :: TL) pl (liO vs c) := .inr (.tail _ (.head _))
    obtain ⟨W, hW⟩ : ∃ W : Led, W = (L' + 1, oc) :: (pl, liO vs c) :: (fd, FO8) :: TL := ⟨_, rfl⟩
    rw [← hW] at N8 o8 n8 aPl
    refine' comp_led (K := seed.heap_1 w.params) (ls := [pl]) (J := KsJ W ps) (li_list rfl X (by k_asm) N8 aPl (fun q hq => List.mem_append_right _ hq)) X rfl ?hsz ?hcell rfl (by k_asm) N8 o8 n8 ⟨rfl, rfl⟩ ?hs2 ?hd2
    case hsz => rw [List.size_toArray, sizeLine_eq]; exact le_of (hvl.trans hxs) hw (by decide)
    case hcell => decide
    case hs2 =>
      intro k v ys C oC m₃ own X₁ frs₁ h₁ tk₁ hk hv hm hO hC hJ se F₁ N₁ o₁ n₁ hap
      obtain ⟨rfl, rfl⟩ := hJ
      have hkp : k < ps.length := hps.len ▸ hk
      obtain ⟨hp20, tp, hvp⟩ := hps.at_ k ps[k] (List.getElem?_eq_getElem hkp)
      obtain rfl : Value.int (ps[k] : Int) tp = v := by
        rw [List.getElem?_toArray, hvp] at hv
        exact Option.some.inj hv
      k_steps
      unfold Marked
      refine bases_item X F₁ hp20 ?_
      refine ⟨_, _, frs₁, _, rfl, SlotEq.refl _, F₁, N₁, off_sub o₁ (fun q hq => List.mem_append_right _ hq), nf_sub n₁ (fun q hq => List.mem_append_right _ hq), fun q hq => .inl (key_mem hq), rfl, ?_⟩
      rw [List.take_add_one, ksOf, List.getElem?_map, List.getElem?_eq_getElem hkp, List.map_append]
      rfl
    case hd2 =>
      subst hW
      intro D9 h9 tk9 ys f9 X9 S9 F9 N9 o9 n9 lt9 hD9 hJ
      obtain ⟨rfl, rfl⟩ := hJ
      have e9 : (ksOf ps).take vs.toArray.size = ksOf ps := List.take_of_length_le (by rw [ksOf, List.length_map, List.size_toArray, hps.len]; exact Nat.le_refl _)
      obtain ⟨c9, hc9⟩ : ∃ c, lstN (((ksOf ps).take vs.toArray.size).map fun p => Value.ref p.1) = kl (ksOf ps) c := ⟨_, by rw [e9]; first | done | rfl⟩
      rw [hc9] at N9 o9
      have fo9 := S9.fr fo8
      have bk9 := Back.slot bk8 S9
      try dsimp only
      subst hTL
      subst hrest
      have N10 : News base L' h9 (f9 ++ ((L' + 1 + 1 + 1, o') :: (D9, kl (ksOf ps) c9) :: (L' + 1, oc) :: (pl, liO vs c) :: (fd, FO8) :: (L' + 1 + 1, o2') :: (as, dO qes qz) :: (ac, dO ces ez) :: fix)) := cut_news N9 (by ktd_sub)
      have o10 : Off f9 ((L' + 1 + 1 + 1, o') :: (D9, kl (ksOf ps) c9) :: (L' + 1, oc) :: (pl, liO vs c) :: (fd, FO8) :: (L' + 1 + 1, o2') :: (as, dO qes qz) :: (ac, dO ces ez) :: fix) := off_sub o9 (by ktd_sub)
      have hD9c : L' + 1 + 1 + 1 ≠ D9 := Nat.ne_of_lt (lt9 (L' + 1 + 1 + 1, o') (by with_reducible walk_at "LMEM"))
      have hc3 : L' + 1 + 1 + 1 ∉ ((D9, kl (ksOf ps) c9) :: (L' + 1, oc) :: (pl, liO vs c) :: (fd, FO8) :: (L' + 1 + 1, o2') :: (as, dO qes qz) :: (ac, dO ces ez) :: fix).map (·.1) := nkc hD9c (nkc (Nat.ne_of_gt (Nat.lt_succ_of_lt (Nat.lt_succ_self _))) (nkc (Ne.symm (nkh hpT)) (nkc (nkh (ap' _ (.head _))) (nkc (Nat.ne_of_gt (Nat.lt_succ_self _)) (nkt (ap' _ (.head _)))))))
      refine cellsto_led F9 N10 o10 hc3 rfl rfl (by rfl) d1' fun h11 o11 ho11 hn11 F11 N11 => ?_
      k_steps
      unfold Marked
      have hfas : fd ≠ as := nkh hfr
      have hfac : fd ≠ ac := nkh (nkt hfr)
      have hasac : as ≠ ac := nkh hqr
      have k13 : ∀ d, d ∉ (((as, dO qes qz) :: (ac, dO ces ez) :: fix)).map (·.1) → d ≠ as ∧ d ≠ ac ∧ d ∉ fix.map (·.1) := fun d hd => ⟨nkh hd, nkh (nkt hd), nkt (nkt hd)⟩
      have q1 := k13 _ (nkt (ap' _ (.head _)))
      have q2 := k13 _ (nkt (ap' _ (.tail _ (.head _))))
      have q3 := k13 _ (nkt (ap' _ (.tail _ (.tail _ (.head _)))))
      have q4 := k13 _ (nkt (nkt hpT))
      have q5 := k13 _ (Off.of_lt lt9 (by ktd_sub) : D9 ∉ ((as, dO qes qz) :: (ac, dO ces ez) :: fix).map (·.1))
      have hasR : as ∉ ([(L' + 1 + 1 + 1, o11), (D9, kl (ksOf ps) c9), (L' + 1, oc), (pl, liO vs c), (fd, FO8), (L' + 1 + 1, o2')] : Led).map (·.1) := nkc (Ne.symm q1.1) (nkc (Ne.symm q5.1) (nkc (Ne.symm q3.1) (nkc (Ne.symm q4.1) (nkc (Ne.symm hfas) (nkc (Ne.symm q2.1) nk0)))))
      have hacR : ac ∉ ([(L' + 1 + 1 + 1, o11), (D9, kl (ksOf ps) c9), (L' + 1, oc), (pl, liO vs c), (fd, FO8), (L' + 1 + 1, o2')] : Led).map (·.1) := nkc (Ne.symm q1.2.1) (nkc (Ne.symm q5.2.1) (nkc (Ne.symm q3.2.1) (nkc (Ne.symm q4.2.1) (nkc (Ne.symm hfac) (nkc (Ne.symm q2.2.1) nk0)))))
      obtain ⟨R1, hR1⟩ : ∃ R1 : Led, R1 = [(L' + 1 + 1 + 1, o11), (D9, kl (ksOf ps) c9), (L' + 1, oc), (pl, liO vs c), (fd, FO8), (L' + 1 + 1, o2')] := ⟨_, rfl⟩
      rw [← hR1] at hasR hacR
      have hRx : ∀ Y : Led, R1 ++ Y = (L' + 1 + 1 + 1, o11) :: (D9, kl (ksOf ps) c9) :: (L' + 1, oc) :: (pl, liO vs c) :: (fd, FO8) :: (L' + 1 + 1, o2') :: Y := fun Y => by rw [hR1]; rfl
      have N12 : News base L' h11 (f9 ++ ((as, dO qes qz) :: (R1 ++ (ac, dO ces ez) :: fix))) := cut_news N11 (by rw [hRx]; ktd_sub)
      have o12 : Off f9 ((as, dO qes qz) :: (R1 ++ (ac, dO ces ez) :: fix)) := off_keys o10 (by rw [hRx]; with_reducible walk_at "LKS")
      have n12 : NF ((as, dO qes qz) :: (R1 ++ (ac, dO ces ez) :: fix)) := by
        rw [hRx]
        exact NF.cons (NF.ty rfl (by decide)) (NF.cons hn11 (NF.cons (NF.ty rfl (by decide)) (nf_sub n8 (by ktd_sub))))
      have upf : ∀ q ∈ fix, q ∈ R1 ++ (ac, dO ces ez) :: fix := fun q hq => List.mem_append_right _ (.tail _ hq)
      have hok : okB ((ksOf ps).map (·.2)) ws = true := okB_picks hxs hfit
      have dkp : Digit ((ksOf ps).length : Int) := by rw [ksOf, List.length_map]; exact dig (le_of hxs hw (by decide))
      refine Cn.use (read_c w mean mg mb (R1 ++ (ac, dO ces ez) :: fix) am pl as adx an ap aq ar ac bdx sc s0 j1 j2 j3 j4 j5 j6 y1 y2 nm x bs t tx tb qes ses qz c sn q0 vs ps (KT bs (ksOf ps)) (fun r' => ∃ ces' ez', CP ces' ∧ r' = R1 ++ (ac, dO ces' ez') :: fix)
        (upf _ W.self) (upf _ W.dict) (upf _ W.nam) (upf _ W.ndict) (W.sc.mono upf) (upf _ W.s0) W.ses hqs (Nat.le_trans (Nat.add_le_add hqz (le_of hxs hw (Nat.le_refl 6))) (by decide)) (nkm hasR hqr) (.inr (by rw [hRx]; exact .tail _ (.tail _ (.tail _ (.head _))))) hps (le_of (hvl.trans hxs) hw (by decide)) ?hcall ws hx (dig (Nat.le_trans hw (by decide))) (dig (le_of hxs hw (by decide))) hok rfl ?hPpl) (by k_asm) X T (frs := f9) N12 fo9 o12 n12 bk9 rfl ?hdd ?huu (fun r f13 tl13 h13 tk13 R13 S13 fo13 o13 n13 bk13 F13 N13 => ?hgo) (fun e dx f2 tl2 h2 tk2 R2 => R2.elim)
      case hdd => ktr_room
      case huu => dsimp only [ktrTop]; first | exact room2 (by assumption) (by decide) | exact room1 (by assumption) (by decide) | omega
      case hPpl =>
        rintro r' ⟨ces', ez', hcp, rfl⟩
        exact .inr (by rw [hRx]; exact .tail _ (.tail _ (.tail _ (.head _))))
      case hcall =>
        intro extra u dl c' qes2 qz2 ha hfx
        refine Cn.of_ne (a := ac) (b := dl) (o := dO ces ez) (List.mem_cons_of_mem _ (List.mem_cons_of_mem _ (List.mem_append_right _ (List.mem_append_right _ (.head _))))) (.head _) (fun e => by have := congrArg Obj.cls e; simp at this) fun hne => ?_
        have hacx : ac ∉ extra.map (·.1) := fun hm => by
          obtain ⟨q, hq, e⟩ := List.mem_map.mp hm
          exact (hfx q hq).1 (by rw [e, List.map_append, List.map_cons]; exact List.mem_append_right _ (.head _))
        have C := hcall ((dl, kl (ksOf ps) c') :: (as, dO qes2 qz2) :: (extra ++ R1)) ces ez dl (ksOf ps) c' t u 80 hCI (nkc hne (nkc (Ne.symm hasac) (nkm (nkm hacx hacR) hcr))) (.inr (.head _)) (ksOf_ok lt20 _) dkp
        refine Cn.conv C (by ktd_sub) ?_ ?_ (Nat.le_refl _) (Nat.le_refl _)
        · rintro r tl ⟨-, D, t', u', ces', cz', rfl, hD, hcp, rfl⟩
          have hDr := nkt (nkt hD)
          refine ⟨_, ⟨D, t', u', _, rfl, ?_, nkh (nkt hD), ⟨_, ⟨ces', cz', hcp, rfl⟩, rfl⟩, rfl⟩, by ktd_sub⟩
          rw [← List.append_assoc]
          exact hDr
        · rintro dx tl ⟨hno, -⟩
          rw [hok] at hno; cases hno
      case hgo =>
        obtain ⟨rfl, qes', qz', r', ha13, ⟨ces', ez', hcp, rfl⟩, rfl⟩ := R13
        rw [hRx] at N13 o13 n13
        try dsimp only
        k_steps
        unfold Marked
        have hX8 : x.cps.size ≤ 6 := le_of hx.len.symm hw (Nat.le_refl 6)
        subst eF
        refine tailC (S := [(as, dO qes' qz'), (L' + 1, oc), (pl, liO vs c)]) (lc := lc) (cz := cz) (ces := ces') (ez := ez') (frs := f13) (sv := sv) (ps := ps) (c9 := c9) (D9 := D9) (p := p + x.cps.size) (tp := tp8) (fz := fz8) (k1 := k1) (k2 := k2) (o2 := o2') (ok := o11) W.self W.dict hcall hcp hCP hx hw hlc0 hns hz (Nat.le_trans (Nat.add_le_add hp hX8) (by decide)) ho11 d2' lt20 (hxs ▸ hw1) (hxs ▸ hw) ?_ ?_ ?_ F13 X T (cut_news N13 (fun q hq => by
          exact (show ∀ p ∈ _, p ∈ _ by with_reducible walk_at "LSUB") _ hq)) fo13 (off_sub o13 (fun q hq => by
          exact (show ∀ p ∈ _, p ∈ _ by with_reducible walk_at "LSUB") _ hq)) (nf_sub n13 (fun q hq => by
          exact (show ∀ p ∈ _, p ∈ _ by with_reducible walk_at "LSUB") _ hq)) bk13 (by omega) (by omega) (by subst hE9; exact PassesOwn.leaving) ?_
        · exact nkc (Ne.symm (nkh (ap' _ (.tail _ (.head _))))) (nkc (Ne.symm (nkh (ap' _ (.head _)))) (nkc (Nat.ne_of_lt (lt9 (fd, dO (feedD w.params k1 k2 lc (p + x.cps.size : Nat) tp8) fz8) (by with_reducible walk_at "LMEM"))) (nkm (nkc hfas (nkc (Ne.symm hL1f) (nkc (Ne.symm hpf) nk0))) (nkt (nkt hfr)))))
        · exact nkc (Nat.ne_of_lt (Nat.lt_succ_self _)) (nkc (Nat.ne_of_lt (lt9 (L' + 1 + 1, o2') (by with_reducible walk_at "LMEM"))) (nkm (nkc q2.1 (nkc (Nat.ne_of_gt (Nat.lt_succ_self _)) (nkc (Ne.symm (nkh (nkt hpT))) nk0))) q2.2.2))
        · exact nkc (Ne.symm hfac) (nkc (Ne.symm q2.2.1) (nkc (Ne.symm q1.2.1) (nkc (Ne.symm q5.2.1) (nkm (nkc (Ne.symm hasac) (nkc (Ne.symm q3.2.1) (nkc (Ne.symm q4.2.1) nk0))) hcr))))
        · intro h' tk' frs' m' ces'' ez'' p' tp' fz' S' hcp' hp' se' F' hSS N' o'
          (try dsimp only); (try k_unfold); (try dsimp only)
          refine fin_ hret bk13 se' F' N' ((fd, dO (feedD w.params k1 k2 lc p' tp') fz') :: (as, dO qes' qz') :: (ac, dO ces'' ez'') :: fix) (by have hs := hSS (as, dO qes' qz') (.head _); with_reducible walk_at "LSUB") (off_keys o13 (by with_reducible walk_at "LKS")) ?_ ⟨rfl, p', tp', fz', qes', qz', ces'', ez'', Nat.le_trans hp' (by rw [Nat.add_assoc]; exact Nat.add_le_add_left (Nat.add_le_add_right hX8 2) p), by rw [← hxs]; exact ha13, hcp', rfl⟩
          · exact NF.cons (NF.ty rfl (by decide)) (NF.cons (NF.ty rfl (by decide)) (NF.cons (NF.ty rfl (by decide)) (nf_sub n13 (by ktd_sub))))
end
local macro_rules | `(tactic| walk_at "H7") => `(tactic| (k_here; (with_reducible show wpAny _ _ (eval (Expr.Name (Str.ofString "feed") _) _) _ _ _); k_dflt (refine' name_cellE ?N ?c ?m ?d ?_ ?a ?b; (case a | b => rfl); (case N => k_asm); (case c => rfl); (case m => k_mem); (case d => assumption); k_whole)))
section -- MLawG
local macro_rules | `(tactic| walk_at "execs cons") => `(tactic| (k_here; (with_reducible show wpAny _ _ (execs (Stmt.For (Expr.Name (Str.ofString "wrong") _) _ _ _ _ :: _) _) _ _ _); (refine mark ?_)))
local macro_rules | `(tactic| walk_at "eval Name") => `(tactic| walk_at "H7")
theorem caller_units {env : Env} : (callerA.deeper env).units < cLine := by
  simp only [units_deeper, units_caller]
  decide +kernel
theorem form3 {g : Str → Option Value} {a b c : Str} {u v x : Value} (h1 : g a = some u) (h2 : g b = some v) (h3 : g c = some x) : g = fun y => if y = a then some u else if y = b then some v else if y = c then some x else g y := by
  funext y
  by_cases e1 : y = a
  · rw [if_pos e1, e1, h1]
  · rw [if_neg e1]
    by_cases e2 : y = b
    · rw [if_pos e2, e2, h2]
    · rw [if_neg e2]
      by_cases e3 : y = c
      · rw [if_pos e3, e3, h3]
      · rw [if_neg e3]
theorem lawG {w : World} {mean : ExcName → Option Value} {mg mb : Str → Option Value} {fix : Led} {fd lc am as adx an ap aq ar ac bdx sc s0 fa pr aw : Addr} {cd : Value} {k1 k2 tp j1 j2 j3 j4 j5 j6 y1 y2 tx tn : Tok} {p fz cz qz ez sn q0 : Nat} {qes ses pes : Array DictEntry} {pn pc c2 : Nat} {nm x : Str} {pvs xs : List Value} {ns : List Int} {ws : List (Addr × KD)} {fo : Obj} {base : Heap} {L' : Addr} {m : Str → Option Value} {s : Shared} {Q : Flow → Shared → Prop} {E : Value → Shared → Prop} {vn : Value}
    (W : WdOK w fix am as adx an ap aq ar ac bdx sc s0 j1 j2 j3 j4 j5 j6 y1 y2 ses sn) (hpd : (ap, dO pes pn) ∈ fix) (hps : (pes.all fun e => isExactStrKey e.key) = true) (hpn : nsF pes (Str.ofString "nosuch") = none)
    (hpp : nsF pes (Str.ofString "p") = some (.ref aw)) (hpx : nsF pes nm = none) (hcx : nsF (callsE w.params) nm = some vn) (hln : LenLe nm 100) (hpr : (pr, liO pvs pc) ∈ fix) (hpz : pvs.length ≤ 3)
    (hw1 : At (seed.heap_1 w.params) fix aw (kt ws c2)) (hws : KindsOK (seed.heap_1 w.params) fix ws) (hx : LetsOK x (ws.map (·.2))) (hwz : 1 ≤ ws.length ∧ ws.length ≤ 6)
    (hqs : AskOK qes q0) (hqz : q0 ≤ 900) (hlc : At (seed.heap_1 w.params) fix lc ⟨.type "list", none, .seq xs.toArray cz, #[]⟩) (hns : IntsAre xs ns) (hz : ns.length ≤ 40) (hp : p ≤ 150)
    (hfr : fd ∉ ((as, dO qes qz) :: (ac, dO #[] ez) :: fix).map (·.1)) (hqr : as ∉ ((ac, dO #[] ez) :: fix).map (·.1)) (hcr : ac ∉ fix.map (·.1)) (hfc : (L' + 1, fo) ∈ fix) (hfo : fo.data = .cell (some (.ref fd)))
    (F : Fr base L' s.heap (fun y => if y = Str.ofString "maker" then some (.ref am) else if y = Str.ofString "letters" then some (.str x tx) else if y = Str.ofString "params" then some (.ref pr) else if y = Str.ofString "name" then some (.str nm tn) else m y)) (X : (seed.heap_1 w.params).In base) (T : Top vw (looseW vw lo) mean mg mb base) (N : News base L' s.heap ([] ++ ((fd, dO (feedD w.params k1 k2 lc p tp) fz) :: (as, dO qes qz) :: (ac, dO #[] ez) :: fix))) (nf : NF fix) (hE : PassesOwn (model PySem.Challenge.rw_qd0027_02.row.prog w) (callerA.deeper (env607 w.params L' fa cd)) (env607 w.params L' fa cd) E)
    (fin : ∀ h' tk' m', Fr base L' h' m' → Q (.ret (.bool true)) { s with heap := h', toks := tk' }) :
    wpAny (model PySem.Challenge.rw_qd0027_02.row.prog w) (callerA.deeper (env607 w.params L' fa cd)) (execs ((stmtsO (fun607 w.params).1).drop 7) (env607 w.params L' fa cd)) Q E s := by
  have hE0 := hE
  dsimp only [env607, fun607, stmtsO, scopeO, List.drop] at hE ⊢
  have hself := W.self
  have hdict := W.dict
  have O : FrOK [] [] := .nil
  have n1 : ∀ (o1 o2 o3 : Obj), NFo o1 → NFo o2 → NFo o3 → NF ((fd, o1) :: (as, o2) :: (ac, o3) :: fix) := fun o1 o2 o3 h1 h2 h3 => NF.cons h1 (NF.cons h2 (NF.cons h3 nf))
  k_steps
  unfold Marked
  have hcall := callP_K (w := w) (mean := mean) (mg := mg) (mb := mb) hself hdict hpd hps hpp hw1 hws ⟨by omega, by omega⟩
  refine Cn.at (round_c w mean mg mb fix fd lc am as adx an ap aq ar ac bdx sc s0 k1 k2 tp j1 j2 j3 j4 j5 j6 y1 y2 p fz (Str.ofString "p") x (Str.ofString "") _ tx _ xs cz ns (ws.map (·.2)) qes #[] ses qz ez sn q0 _ _ W hcall (.inl rfl) (fun ces h => .inr h) hqs hqz hlc hns hz hp hfr hqr hcr hx (by rw [List.length_map]; exact hwz.2) (by rw [List.length_map]; exact hwz.1)) (by k_asm) X T N (n1 _ _ _ (NF.ty rfl (by decide)) (NF.ty rfl (by decide)) (NF.ty rfl (by decide))) rfl (by decide +kernel) (by decide +kernel) (fun r tl h' tk' hR nT F' N' => ?_) (fun e dx tl h2 tk2 hR => hR.elim)
  obtain ⟨rfl, p', tp', fz', qes', qz', ces', cz', hp', hq', ⟨t', rfl⟩, rfl⟩ := hR
  try dsimp only
  k_steps
  unfold Marked
  rename_i hD oD FD ND lD loD hdD hfD apD
  replace hdD : oD.IsDictOf (strKind PySem.Challenge.rw_qd0027_02.row.prog w) [(Str.ofString "p", .bool true)] := hdD
  have N2 : News base L' hD ([] ++ ((fd, dO (feedD w.params k1 k2 lc p' tp') fz') :: (as, dO qes' qz') :: (ac, dO (oneP w t') cz') :: fix)) := cut_news ND (fun q hq => .tail _ hq)
  have gac := (N2 (ac, dO (oneP w t') cz') (by with_reducible walk_at "LMEM")).1
  have gD := (ND _ (.head _)).1
  refine keq_ne (knd := strKind PySem.Challenge.rw_qd0027_02.row.prog w) (kb := [(Str.ofString "p", .bool true)]) (r := true) (not_sys X N2 (by simp : (ac, dO (oneP w t') cz') ∈ _)) loD (dictP gac) (Heap.dictOf_iff.mpr ⟨oD, gD, hdD⟩) caller_units (fun _ => .hit (e := true) (b := true) (by rfl) (PySem.SeqAt.EqAt.bool_bool true true) .nil) ?_
  have FD' : Fr base L' hD (fun y => if y = Str.ofString "maker" then some (.ref am) else if y = Str.ofString "params" then some (.ref pr) else if y = Str.ofString "name" then some (.str nm tn) else (fun y => if y = Str.ofString "maker" then some (.ref am) else if y = Str.ofString "letters" then some (.str x tx) else if y = Str.ofString "params" then some (.ref pr) else if y = Str.ofString "name" then some (.str nm tn) else m y) y) := by
    rw [← form3 (g := fun y => if y = Str.ofString "maker" then some (.ref am) else if y = Str.ofString "letters" then some (.str x tx) else if y = Str.ofString "params" then some (.ref pr) else if y = Str.ofString "name" then some (.str nm tn) else m y) rfl rfl rfl]
    exact FD
  k_steps
  unfold Marked
  have up : ∀ q ∈ fix, q ∈ (fd, dO (feedD w.params k1 k2 lc p' tp') fz') :: (as, dO qes' qz') :: (ac, dO (oneP w t') cz') :: fix := fun q hq => .tail _ (.tail _ (.tail _ hq))
  refine lawH (up _ hself) (up _ hdict) (up _ hpd) hps hpn hpp hpx hcx hln (up _ hpr) hpz FD' X T N2 (n1 _ _ _ (NF.ty rfl (by decide)) (NF.ty rfl (by decide)) (NF.ty rfl (by decide))) hE0 (fun h2 tk2 m2 F2 => fin h2 tk2 m2 F2)
end
section -- MLawF
local macro_rules | `(tactic| walk_at "execs cons") => `(tactic| (k_here; (with_reducible show wpAny _ _ (execs (Stmt.If _ _ _ _ :: _) _) _ _ _); (refine mark ?_)))
theorem WdOK.mono {w : World} {fix fix' : Led} {am as adx an ap aq ar ac bdx sc s0 : Addr} {j1 j2 j3 j4 j5 j6 y1 y2 : Tok} {ses : Array DictEntry} {sn : Nat} (W : WdOK w fix am as adx an ap aq ar ac bdx sc s0 j1 j2 j3 j4 j5 j6 y1 y2 ses sn) (h : ∀ q ∈ fix, q ∈ fix') : WdOK w fix' am as adx an ap aq ar ac bdx sc s0 j1 j2 j3 j4 j5 j6 y1 y2 ses sn :=
  ⟨h _ W.self, h _ W.dict, h _ W.nam, h _ W.ndict, W.sc.mono h, h _ W.s0, W.ses⟩
theorem lawF {w : World} {mean : ExcName → Option Value} {mg mb : Str → Option Value} {fix : Led} {fd lc am as adx an ap aq ar ac bdx sc s0 fa pr : Addr} {cd : Value} {k1 k2 tp j1 j2 j3 j4 j5 j6 y1 y2 tx tn : Tok} {p fz cz qz ez sn q0 : Nat} {qes ses : Array DictEntry} {pn pc : Nat} {nm x : Str} {xs : List Value} {ps : List (Addr × Addr × Value × KD)} {ns : List Int} {fo : Obj} {base : Heap} {L' : Addr} {m : Str → Option Value} {s : Shared} {Q : Flow → Shared → Prop} {E : Value → Shared → Prop} {vn : Value}
    (W : WdOK w fix am as adx an ap aq ar ac bdx sc s0 j1 j2 j3 j4 j5 j6 y1 y2 ses sn) (hap : ap ∉ ((fd, dO (feedD w.params k1 k2 lc p tp) fz) :: (as, dO qes qz) :: (ac, dO #[] ez) :: fix).map (·.1)) (hnp : (nm == Str.ofString "p") = false)
    (hcx : nsF (callsE w.params) nm = some vn) (hln : LenLe nm 100) (hpr : (pr, liO (ps.map fun p => Value.ref p.1) pc) ∈ fix) (hps : ParamsOK (seed.heap_1 w.params) fix ps) (hx : LetsOK x (ps.map fun p => p.2.2.2)) (hwz : 1 ≤ ps.length ∧ ps.length ≤ 3)
    (hqs : AskOK qes q0) (hqz : q0 ≤ 900) (hlc : At (seed.heap_1 w.params) fix lc ⟨.type "list", none, .seq xs.toArray cz, #[]⟩) (hns : IntsAre xs ns) (hz : ns.length ≤ 40) (hp : p ≤ 150)
    (hfr : fd ∉ ((as, dO qes qz) :: (ac, dO #[] ez) :: fix).map (·.1)) (hqr : as ∉ ((ac, dO #[] ez) :: fix).map (·.1)) (hcr : ac ∉ fix.map (·.1)) (hfc : (L' + 1, fo) ∈ fix) (hfo : fo.data = .cell (some (.ref fd)))
    (F : Fr base L' s.heap (fun y => if y = Str.ofString "maker" then some (.ref am) else if y = Str.ofString "letters" then some (.str x tx) else if y = Str.ofString "params" then some (.ref pr) else if y = Str.ofString "name" then some (.str nm tn) else m y)) (X : (seed.heap_1 w.params).In base) (T : Top vw (looseW vw lo) mean mg mb base) (N : News base L' s.heap ([] ++ ((fd, dO (feedD w.params k1 k2 lc p tp) fz) :: (as, dO qes qz) :: (ac, dO #[] ez) :: (ap, dO #[] pn) :: fix))) (nf : NF fix) (hE : PassesOwn (model PySem.Challenge.rw_qd0027_02.row.prog w) (callerA.deeper (env607 w.params L' fa cd)) (env607 w.params L' fa cd) E)
    (fin : ∀ h' tk' m', Fr base L' h' m' → Q (.ret (.bool true)) { s with heap := h', toks := tk' }) :
    wpAny (model PySem.Challenge.rw_qd0027_02.row.prog w) (callerA.deeper (env607 w.params L' fa cd)) (execs ((stmtsO (fun607 w.params).1).drop 6) (env607 w.params L' fa cd)) Q E s := by
  have hE0 := hE
  dsimp only [env607, fun607, stmtsO, scopeO, List.drop] at hE ⊢
  have hself := W.self
  have hdict := W.dict
  have O : FrOK [] [] := .nil
  k_steps
  unfold Marked
  have hpr1 : (pr, liO (ps.map fun p => Value.ref p.1) pc) ∈ [] ++ ((fd, dO (feedD w.params k1 k2 lc p tp) fz) :: (as, dO qes qz) :: (ac, dO #[] ez) :: (ap, dO #[] pn) :: fix) := by simp only [List.nil_append, List.mem_cons, hpr, or_true]
  refine kde_tupleOf (by k_asm) N ⟨_, (N _ hpr1).1, rfl, _, rfl⟩ (by rw [List.size_toArray, List.length_map]; omega) (List.toList_toArray ..) fun T4 h4 F4 N4 lt4 => ?_
  k_steps
  unfold Marked
  rename_i bt hb lb it h6 F6 N6 l6
  have nABC : NF ((fd, dO (feedD w.params k1 k2 lc p tp) fz) :: (as, dO qes qz) :: (ac, dO #[] ez) :: fix) := NF.cons (NF.ty rfl (by decide)) (NF.cons (NF.ty rfl (by decide)) (NF.cons (NF.ty rfl (by decide)) nf))
  have N7 : News base L' h6 ([] ++ ((ap, dO #[] pn) :: ((it, tup [.str (Str.ofString "predicate") s.toks, .int 70 (s.toks + 1), .str (Str.ofString "p") (s.toks + 1 + 1), .ref T4, .ref bt]) :: (bt, tup [.str (Str.ofString "bool") (s.toks + 1 + 1 + 1), .int 71 (s.toks + 1 + 1 + 1 + 1), .bool true]) :: (T4, tup (ps.map fun p => Value.ref p.1)) :: (fd, dO (feedD w.params k1 k2 lc p tp) fz) :: (as, dO qes qz) :: (ac, dO #[] ez) :: fix))) := cut_news N6 (by
    intro q hq
    exact (show ∀ p ∈ _, p ∈ _ by with_reducible walk_at "LSUB") _ hq)
  have n7 : NF ((ap, dO #[] pn) :: ((it, tup [.str (Str.ofString "predicate") s.toks, .int 70 (s.toks + 1), .str (Str.ofString "p") (s.toks + 1 + 1), .ref T4, .ref bt]) :: (bt, tup [.str (Str.ofString "bool") (s.toks + 1 + 1 + 1), .int 71 (s.toks + 1 + 1 + 1 + 1), .bool true]) :: (T4, tup (ps.map fun p => Value.ref p.1)) :: (fd, dO (feedD w.params k1 k2 lc p tp) fz) :: (as, dO qes qz) :: (ac, dO #[] ez) :: fix)) := NF.cons (NF.ty rfl (by decide)) (NF.cons (NF.ty rfl (by decide)) (NF.cons (NF.ty rfl (by decide)) (NF.cons (NF.ty rfl (by decide)) nABC)))
  have upf : ∀ q ∈ fix, q ∈ (it, tup [.str (Str.ofString "predicate") s.toks, .int 70 (s.toks + 1), .str (Str.ofString "p") (s.toks + 1 + 1), .ref T4, .ref bt]) :: (bt, tup [.str (Str.ofString "bool") (s.toks + 1 + 1 + 1), .int 71 (s.toks + 1 + 1 + 1 + 1), .bool true]) :: (T4, tup (ps.map fun p => Value.ref p.1)) :: (fd, dO (feedD w.params k1 k2 lc p tp) fz) :: (as, dO qes qz) :: (ac, dO #[] ez) :: fix := fun q hq => .tail _ (.tail _ (.tail _ (.tail _ (.tail _ (.tail _ hq)))))
  have fresh : ∀ (d : Addr) (o : Obj), (d, o) ∈ (fd, dO (feedD w.params k1 k2 lc p tp) fz) :: (as, dO qes qz) :: (ac, dO #[] ez) :: (ap, dO #[] pn) :: fix → d ≠ it ∧ d ≠ bt ∧ d ≠ T4 := fun d o hd => ⟨Nat.ne_of_lt (allLt_mem l6.2.2 (d, o) hd), Nat.ne_of_lt (allLt_mem lb.2 (d, o) hd), Nat.ne_of_lt (lt4 (d, o) hd)⟩
  have fap := fresh ap _ (.tail _ (.tail _ (.tail _ (.head _))))
  have hps2 : ParamsOK (seed.heap_1 w.params) ((it, tup [.str (Str.ofString "predicate") s.toks, .int 70 (s.toks + 1), .str (Str.ofString "p") (s.toks + 1 + 1), .ref T4, .ref bt]) :: (bt, tup [.str (Str.ofString "bool") (s.toks + 1 + 1 + 1), .int 71 (s.toks + 1 + 1 + 1 + 1), .bool true]) :: (T4, tup (ps.map fun p => Value.ref p.1)) :: (fd, dO (feedD w.params k1 k2 lc p tp) fz) :: (as, dO qes qz) :: (ac, dO #[] ez) :: fix) ps := fun q hq => by
    obtain ⟨g1, g2, tb, dt, ds, dom, g3, g4, g5, g6⟩ := hps q hq
    exact ⟨g1, g2.mono upf, tb, dt, ds, dom, g3.mono upf, g4.mono upf, g5, g6⟩
  refine Cn.at (noteOK_c w mean mg mb ((it, tup [.str (Str.ofString "predicate") s.toks, .int 70 (s.toks + 1), .str (Str.ofString "p") (s.toks + 1 + 1), .ref T4, .ref bt]) :: (bt, tup [.str (Str.ofString "bool") (s.toks + 1 + 1 + 1), .int 71 (s.toks + 1 + 1 + 1 + 1), .bool true]) :: (T4, tup (ps.map fun p => Value.ref p.1)) :: (fd, dO (feedD w.params k1 k2 lc p tp) fz) :: (as, dO qes qz) :: (ac, dO #[] ez) :: fix) am it T4 bt adx an ap aq ar ac (Str.ofString "p") _ _ _ j1 j2 j3 j4 j5 j6 70 #[] pn ps (upf _ hself) (upf _ hdict) (by kernel_rfl) (by show 0 ≤ 1000; decide) (nkc fap.1 (nkc fap.2.1 (nkc fap.2.2 hap))) rfl (by kernel_rfl) (by decide +kernel) (.inr (.head _)) (.inr (.tail _ (.tail _ (.head _)))) hps2 (by omega)) (by k_asm) X T N7 n7 rfl (by decide +kernel) (by decide +kernel) (fun r tl h' tk' hR nT F' N' => ?_) (fun e dx tl h2 tk2 hR => hR.elim)
  obtain ⟨rfl, TT, ws, c, pz', new, rfl, hws, hkw, hfr2⟩ := hR
  try dsimp only
  k_steps
  unfold Marked
  generalize hpes : dputS #[] (Str.ofString "p") (s.toks + 1 + 1) (hashStr w (Str.ofString "p")) (Value.ref TT) = pes at N' nT
  have e1 : nsF pes (Str.ofString "p") = some (.ref TT) := by rw [← hpes]; kernel_rfl
  have e2 : nsF pes (Str.ofString "nosuch") = none := by rw [← hpes]; kernel_rfl
  have e3 : nsF pes nm = none := by
    rw [← hpes, nsF_push rfl, if_neg (fun e => by rw [e] at hnp; simp at hnp)]
    rfl
  have e4 : (pes.all fun e => isExactStrKey e.key) = true := by rw [← hpes]; kernel_rfl
  have hwl : ws.length = ps.length := by
    have := congrArg List.length hws
    rwa [List.length_map, List.length_map] at this
  have sep : ∀ (d : Addr) (o : Obj), (d, o) ∈ (fd, dO (feedD w.params k1 k2 lc p tp) fz) :: (as, dO qes qz) :: (ac, dO #[] ez) :: fix → d ∉ fix.map (·.1) → d ≠ ap → d ∉ ((ap, dO pes pz') :: (TT, kt ws c) :: (new ++ ((it, tup [.str (Str.ofString "predicate") s.toks, .int 70 (s.toks + 1), .str (Str.ofString "p") (s.toks + 1 + 1), .ref T4, .ref bt]) :: (bt, tup [.str (Str.ofString "bool") (s.toks + 1 + 1 + 1), .int 71 (s.toks + 1 + 1 + 1 + 1), .bool true]) :: (T4, tup (ps.map fun p => Value.ref p.1)) :: fix))).map (·.1) := fun d o hd hf ha => by
    have fr := fresh d o (by
      exact (show ∀ p ∈ _, p ∈ _ by with_reducible walk_at "LSUB") _ hd)
    have hm : d ∈ ((it, tup [.str (Str.ofString "predicate") s.toks, .int 70 (s.toks + 1), .str (Str.ofString "p") (s.toks + 1 + 1), .ref T4, .ref bt]) :: (bt, tup [.str (Str.ofString "bool") (s.toks + 1 + 1 + 1), .int 71 (s.toks + 1 + 1 + 1 + 1), .bool true]) :: (T4, tup (ps.map fun p => Value.ref p.1)) :: (fd, dO (feedD w.params k1 k2 lc p tp) fz) :: (as, dO qes qz) :: (ac, dO #[] ez) :: fix).map (·.1) := key_mem (p := (d, o)) (.tail _ (.tail _ (.tail _ hd)))
    refine nkc ha (nkc (fun e => (hfr2 (TT, kt ws c) (.head _)).1 (by rw [← e]; exact hm)) (nkm (fun hn => ?_) (nkc fr.1 (nkc fr.2.1 (nkc fr.2.2 hf)))))
    obtain ⟨q, hq, e⟩ := List.mem_map.mp hn
    exact (hfr2 q (.tail _ hq)).1 (by rw [e]; exact hm)
  have up2 : ∀ q ∈ fix, q ∈ (ap, dO pes pz') :: (TT, kt ws c) :: (new ++ ((it, tup [.str (Str.ofString "predicate") s.toks, .int 70 (s.toks + 1), .str (Str.ofString "p") (s.toks + 1 + 1), .ref T4, .ref bt]) :: (bt, tup [.str (Str.ofString "bool") (s.toks + 1 + 1 + 1), .int 71 (s.toks + 1 + 1 + 1 + 1), .bool true]) :: (T4, tup (ps.map fun p => Value.ref p.1)) :: fix)) := fun q hq => .tail _ (.tail _ (List.mem_append_right _ (.tail _ (.tail _ (.tail _ hq)))))
  refine lawG (fix := (ap, dO pes pz') :: (TT, kt ws c) :: (new ++ ((it, tup [.str (Str.ofString "predicate") s.toks, .int 70 (s.toks + 1), .str (Str.ofString "p") (s.toks + 1 + 1), .ref T4, .ref bt]) :: (bt, tup [.str (Str.ofString "bool") (s.toks + 1 + 1 + 1), .int 71 (s.toks + 1 + 1 + 1 + 1), .bool true]) :: (T4, tup (ps.map fun p => Value.ref p.1)) :: fix))) (pes := pes) (pn := pz') (nm := nm) (aw := TT) (c2 := c) (ws := ws) (lc := lc) (cz := cz) (xs := xs) (ns := ns) (sc := sc) (s0 := s0) (ez := ez) (qz := qz) (fz := fz) (tp := tp) (k1 := k1) (k2 := k2) (pc := pc) (tx := tx) (tn := tn) (W.mono up2) (.head _) e4 e2 e1 e3 hcx hln (up2 _ hpr) (by rw [List.length_map]; exact hwz.2) (.inr (.tail _ (.head _))) (fun q hq => ⟨(hkw q hq).1.mono (fun y hy => .tail _ (.tail _ (List.mem_append_left _ hy))), (hkw q hq).2⟩) (by rw [hws]; exact hx) ⟨by omega, by omega⟩ hqs hqz (hlc.mono up2) hns hz hp ?_ ?_ ?_ (up2 _ hfc) hfo (by k_asm) X T (cut_news N' ?_) ?_ hE0 (fun h2 tk2 m2 F2 => fin h2 tk2 m2 F2)
  · exact nkc (nkh hfr) (nkc (nkh (nkt hfr)) (sep fd _ (.head _) (nkt (nkt hfr)) (Ne.symm (nkh hap))))
  · exact nkc (nkh hqr) (sep as _ (.tail _ (.head _)) (nkt hqr) (Ne.symm (nkh (nkt hap))))
  · exact sep ac _ (.tail _ (.tail _ (.head _))) hcr (Ne.symm (nkh (nkt (nkt hap))))
  · intro q hq
    exact (show ∀ p ∈ _, p ∈ _ by with_reducible walk_at "LSUB") _ hq
  · exact nf_sub nT (fun q hq => by
      exact (show ∀ p ∈ _, p ∈ _ by with_reducible walk_at "LSUB") _ hq)
end
section -- MLawE
local macro_rules | `(tactic| walk_at "d0") => `(tactic| skip)
local macro_rules | `(tactic| walk_at $k:str) => if ["call builtin:len", "binaryOp Add str str"].contains k.getString then `(tactic| (refine mark ?_)) else Lean.Macro.throwUnsupported
theorem form4 {g : Str → Option Value} {a b c d : Str} {u v x z : Value} (h1 : g a = some u) (h2 : g b = some v) (h3 : g c = some x) (h4 : g d = some z) : g = fun y => if y = a then some u else if y = b then some v else if y = c then some x else if y = d then some z else g y := by
  funext y
  by_cases e1 : y = a
  · rw [if_pos e1, e1, h1]
  · rw [if_neg e1]
    by_cases e2 : y = b
    · rw [if_pos e2, e2, h2]
    · rw [if_neg e2]
      by_cases e3 : y = c
      · rw [if_pos e3, e3, h3]
      · rw [if_neg e3]
        by_cases e4 : y = d
        · rw [if_pos e4, e4, h4]
        · rw [if_neg e4]
theorem en_consr {a : Addr} {o : Obj} {A X own : Led} (h : a ∉ own.map (·.1)) (t : ∀ q ∈ A, q.1 ∈ X.map (·.1) ∨ q.1 ∉ own.map (·.1)) : ∀ q ∈ (a, o) :: A, q.1 ∈ X.map (·.1) ∨ q.1 ∉ own.map (·.1) := fun q hq => by
  rcases List.mem_cons.mp hq with rfl | hq
  · exact .inr h
  · exact t q hq
theorem lawE5 {w : World} {mean : ExcName → Option Value} {mg mb : Str → Option Value} {fix : Led} {fd lc am as adx an ap aq ar ac bdx sc s0 fa pr : Addr} {cd : Value} {k1 k2 tp j1 j2 j3 j4 j5 j6 y1 y2 tx tn : Tok} {p fz cz qz ez sn q0 : Nat} {qes ses : Array DictEntry} {pn pc : Nat} {nm x : Str} {xs : List Value} {wk : List KD} {ns : List Int} {fo : Obj} {base : Heap} {L' : Addr} {m : Str → Option Value} {s : Shared} {Q : Flow → Shared → Prop} {E : Value → Shared → Prop} {vn : Value}
    (W : WdOK w fix am as adx an ap aq ar ac bdx sc s0 j1 j2 j3 j4 j5 j6 y1 y2 ses sn) (hap : ap ∉ ((fd, dO (feedD w.params k1 k2 lc p tp) fz) :: (as, dO qes qz) :: (ac, dO #[] ez) :: fix).map (·.1)) (hnp : (nm == Str.ofString "p") = false)
    (hcx : nsF (callsE w.params) nm = some vn) (hln : LenLe nm 100) (hprf : pr ∉ ((fd, dO (feedD w.params k1 k2 lc p tp) fz) :: (as, dO qes qz) :: (ac, dO #[] ez) :: (ap, dO #[] pn) :: fix).map (·.1)) (hx : LetsOK x wk) (hwz : 1 ≤ wk.length ∧ wk.length ≤ 3)
    (hqs : AskOK qes q0) (hqz : q0 ≤ 900) (hlc : At (seed.heap_1 w.params) fix lc ⟨.type "list", none, .seq xs.toArray cz, #[]⟩) (hns : IntsAre xs ns) (hz : ns.length ≤ 40) (hp : p ≤ 150)
    (hfr : fd ∉ ((as, dO qes qz) :: (ac, dO #[] ez) :: fix).map (·.1)) (hqr : as ∉ ((ac, dO #[] ez) :: fix).map (·.1)) (hcr : ac ∉ fix.map (·.1)) (hfc : (L' + 1, fo) ∈ fix) (hfo : fo.data = .cell (some (.ref fd)))
    (F : Fr base L' s.heap (fun y => if y = Str.ofString "maker" then some (.ref am) else if y = Str.ofString "letters" then some (.str x tx) else if y = Str.ofString "params" then some (.ref pr) else if y = Str.ofString "name" then some (.str nm tn) else m y)) (X : (seed.heap_1 w.params).In base) (T : Top vw (looseW vw lo) mean mg mb base) (N : News base L' s.heap ([] ++ ((pr, liO [] pc) :: (fd, dO (feedD w.params k1 k2 lc p tp) fz) :: (as, dO qes qz) :: (ac, dO #[] ez) :: (ap, dO #[] pn) :: fix))) (nf : NF fix) (hE : PassesOwn (model PySem.Challenge.rw_qd0027_02.row.prog w) (callerA.deeper (env607 w.params L' fa cd)) (env607 w.params L' fa cd) E)
    (fin : ∀ h' tk' m', Fr base L' h' m' → Q (.ret (.bool true)) { s with heap := h', toks := tk' }) :
    wpAny (model PySem.Challenge.rw_qd0027_02.row.prog w) (callerA.deeper (env607 w.params L' fa cd)) (execs ((stmtsO (fun607 w.params).1).drop 5) (env607 w.params L' fa cd)) Q E s := by
  have hE0 := hE
  dsimp only [env607, fun607, stmtsO, scopeO, List.drop] at hE ⊢
  have hxl := hx.len
  obtain ⟨R, hR⟩ : ∃ R : Led, R = (fd, dO (feedD w.params k1 k2 lc p tp) fz) :: (as, dO qes qz) :: (ac, dO #[] ez) :: (ap, dO #[] pn) :: fix := ⟨_, rfl⟩
  have nR : NF R := by rw [hR]; exact NF.cons (NF.ty rfl (by decide)) (NF.cons (NF.ty rfl (by decide)) (NF.cons (NF.ty rfl (by decide)) (NF.cons (NF.ty rfl (by decide)) nf)))
  rw [← hR] at N hprf
  have n0 : ∀ (ps : List (Addr × Addr × Value × KD)) (c : Nat) (new : Led), NF new → NF ((pr, liO (ps.map fun p => Value.ref p.1) c) :: (new ++ R)) := fun ps c new h => NF.cons (NF.ty rfl (by decide)) (fun q hq => (List.mem_append.mp hq).elim (h q) (nR q))
  k_steps
  unfold Marked
  refine' For_turns ?f ?_ ?hs hE
  case f => k_asm
  case hs => exact fun _ => rfl
  k_steps
  unfold Marked
  refine PyProof.Rows.len_str (x := x) (by show ¬ ((x.cps.size : Int) ≥ _); omega) ?_
  k_steps
  unfold Marked
  refine range1_rows (by k_asm) N fun h2 tk2 t₁ u₁ v₁ hr F2 N2 keep => ?_
  have hr' : IsRange h2 s.heap.objs.size 0 (x.cps.size : Int) 1 t₁ u₁ v₁ := hr
  obtain ⟨J9, hJ9⟩ : ∃ J : Nat → (Str → Option Value) → Led → Prop, J = (fun k m1 X1 => ∃ (m' : Str → Option Value) (ps : List (Addr × Addr × Value × KD)) (c : Nat) (new : Led), m1 = (fun y => if y = Str.ofString "maker" then some (.ref am) else if y = Str.ofString "letters" then some (.str x tx) else if y = Str.ofString "params" then some (.ref pr) else if y = Str.ofString "name" then some (.str nm tn) else m' y) ∧ X1 = (pr, liO (ps.map fun p => Value.ref p.1) c) :: (new ++ R) ∧ ps.length = k ∧ ParamsOK (seed.heap_1 w.params) (new ++ fix) ps ∧ (∀ (i : Nat) p, ps[i]? = some p → wk[i]? = some p.2.2.2) ∧ NF new ∧ (∀ q ∈ new, q.1 ≠ pr ∧ q.1 ∉ R.map (·.1))) := ⟨_, rfl⟩
  refine for_led (K := seed.heap_1 w.params) (frs := []) (n := x.cps.size) (li_range rfl hr' (le_of hxl.symm hwz.2 (by decide))) X F2 N2 (fun _ _ h => nomatch h) (n0 [] pc [] NF.nil) rfl rfl J9 (by rw [hJ9]; exact ⟨m, [], pc, [], rfl, rfl, rfl, (fun _ h => nomatch h), (fun i p h => by simp at h), NF.nil, (fun _ h => nomatch h)⟩) ?_ ?_
  case refine_2 =>
    rintro h' tk m1 frs' X1 hJ8 se F' N' o' n'
    rw [hJ9] at hJ8
    obtain ⟨m', ps, c, new, rfl, rfl, hpk, hps, hpw, hnn, hfr2⟩ := hJ8
    cases se
    subst hR
    have ewk : (ps.map fun p => p.2.2.2) = wk := by
      apply List.ext_getElem?
      intro i
      rw [List.getElem?_map]
      cases h : ps[i]? with
      | none =>
        have := List.getElem?_eq_none_iff.mp h
        rw [List.getElem?_eq_none (Nat.le_trans (Nat.le_of_eq (hxl.trans hpk.symm)) this)]
        rfl
      | some p => rw [hpw i p h]; rfl
    have sep : ∀ (d : Addr) (o : Obj), (d, o) ∈ ((fd, dO (feedD w.params k1 k2 lc p tp) fz) :: (as, dO qes qz) :: (ac, dO #[] ez) :: (ap, dO #[] pn) :: fix) → d ∉ fix.map (·.1) → d ∉ ((pr, liO (ps.map fun p => Value.ref p.1) c) :: (new ++ fix)).map (·.1) := fun d o hd hf => by
      refine nkc (fun e => hprf (by rw [← e]; exact key_mem hd)) (nkm (fun hm => ?_) hf)
      obtain ⟨y, hy, e⟩ := List.mem_map.mp hm
      exact (hfr2 y hy).2 (by rw [e]; exact key_mem hd)
    have up : ∀ q ∈ fix, q ∈ (pr, liO (ps.map fun p => Value.ref p.1) c) :: (new ++ fix) := fun q hq => .tail _ (List.mem_append_right _ hq)
    have hps2 : ParamsOK (seed.heap_1 w.params) ((pr, liO (ps.map fun p => Value.ref p.1) c) :: (new ++ fix)) ps := fun q hq => by
      obtain ⟨g1, g2, tb, dt, ds, dom, g3, g4, g5, g6⟩ := hps q hq
      exact ⟨g1, g2.mono (fun _ h => .tail _ h), tb, dt, ds, dom, g3.mono (fun _ h => .tail _ h), g4.mono (fun _ h => .tail _ h), g5, g6⟩
    refine lawF (fix := (pr, liO (ps.map fun p => Value.ref p.1) c) :: (new ++ fix)) (ps := ps) (pr := pr) (pc := c) (ez := ez) (qz := qz) (fz := fz) (tp := tp) (k1 := k1) (k2 := k2) (tx := tx) (tn := tn) (pn := pn) (lc := lc) (cz := cz) (xs := xs) (ns := ns) (sc := sc) (s0 := s0) (m := m') (W.mono up) ?_ hnp hcx hln (.head _) hps2 (by rw [ewk]; exact hx) ⟨Nat.le_trans hwz.1 (Nat.le_of_eq (hxl.trans hpk.symm)), Nat.le_trans (Nat.le_of_eq (hpk.trans hxl.symm)) hwz.2⟩ hqs hqz (hlc.mono up) hns hz hp ?_ ?_ ?_ (up _ hfc) hfo F' X T (cut_news N' ?_) ?_ hE0 (fun h2 tk2 m2 F2 => fin h2 tk2 m2 F2)
    · exact nkc (nkh hap) (nkc (nkh (nkt hap)) (nkc (nkh (nkt (nkt hap))) (sep ap _ (.tail _ (.tail _ (.tail _ (.head _)))) (nkt (nkt (nkt hap))))))
    · exact nkc (nkh hfr) (nkc (nkh (nkt hfr)) (sep fd _ (.head _) (nkt (nkt hfr))))
    · exact nkc (nkh hqr) (sep as _ (.tail _ (.head _)) (nkt hqr))
    · exact sep ac _ (.tail _ (.tail _ (.head _))) hcr
    · intro q hq
      exact (show ∀ p ∈ _, p ∈ _ by with_reducible walk_at "LSUB") _ hq
    · exact NF.cons (NF.ty rfl (by decide)) (fun q hq => (List.mem_append.mp hq).elim (hnn q) (nf q))
  case refine_1 =>
    intro k v m₁ X₁ frs₁ own h₁ tk₁ hk hv hJ8 se F₁ N₁ o₁ n₁ hap2
    rw [hJ9] at hJ8
    refine gen_wp fun Q9 hQ9 => ?_
    refine hv.elim fun tv hv => ex4 hJ8 fun m' ps c new hJ7 => and7 hJ7 fun eM eX hpk hps hpw hnn hfr2 => ?_
    clear hJ8 hJ7
    subst hv eM eX
    cases se
    replace F₁ : Fr base L' h₁ (fun y => if y = Str.ofString "k" then some (.int (k : Int) tv) else if y = Str.ofString "maker" then some (.ref am) else if y = Str.ofString "letters" then some (.str x tx) else if y = Str.ofString "params" then some (.ref pr) else if y = Str.ofString "name" then some (.str nm tn) else m' y) := F₁
    obtain ⟨V, hV⟩ : ∃ V : Led, V = own ++ ((pr, liO (ps.map fun p => Value.ref p.1) c) :: (new ++ R)) := ⟨_, rfl⟩
    have mVo : ∀ q ∈ own, q ∈ V := by rw [hV]; exact fun _ h => List.mem_append_left _ h
    have mVp : (pr, liO (ps.map fun p => Value.ref p.1) c) ∈ V := by rw [hV]; exact List.mem_append_right _ (.head _)
    have mVR : ∀ q ∈ R, q ∈ V := by rw [hV]; exact fun _ h => List.mem_append_right _ (.tail _ (List.mem_append_right _ h))
    rw [← hV] at N₁ n₁
    k_steps
    unfold Marked
    refine Cn.at (letters_c w mean mg mb _) (by k_asm) X T N₁ n₁ rfl (by decide +kernel) (by decide +kernel) (fun r tl h3 tk3 hR n3 F3 N3 => ?_) (fun e dx tl h2 tk2 hR => hR.elim)
    obtain ⟨D, es, ep, nl, rfl, rfl, hes, hall⟩ := hR
    obtain ⟨cc, hcc⟩ : ∃ cc, x.cps[k]? = some cc := ⟨_, Array.getElem?_eq_getElem hk⟩
    obtain ⟨wd, hwd, hlt⟩ := hx.at_ k cc hcc
    have hk3 : k < 3 := Nat.lt_of_lt_of_le (hxl ▸ hk) hwz.2
    try dsimp only
    k_steps
    unfold Marked
    refine item_str (by simp only [fitsSsize]; simp; omega) (by show -((x.cps.size : Int)) ≤ _; omega) (by show _ < ((x.cps.size : Int)); omega) (fun _ => ?_)
    have hitem : Txt.item x (k : Int) = ⟨#[cc]⟩ := by
      have e : seqIndex? (k : Int) x.length = some k := by
        unfold seqIndex?
        have hk' : k < x.length := hk
        simp
        omega
      unfold Txt.item Txt.charAt
      rw [e, Option.bind_some, hcc]
      rfl
    rw [hitem]
    k_steps
    obtain ⟨TT, hTT, t5, u5, hm5⟩ := hall (cc, wd) hlt
    refine ditem (DAt.of X (by k_asm : News base L' h3 _) (List.mem_append_right _ (.head _)) hes) hTT ?_
    have hT1 : At (seed.heap_1 w.params) ((D, dO es ep) :: (nl ++ V)) TT (tup [.str wd.b t5, .bool wd.v, .int wd.d u5]) := .inr (.tail _ (List.mem_append_left _ hm5))
    k_steps
    rename_i d1 hh1 ll1 d2 hh2 F5 N5 l5
    have hL2 : ∀ p ∈ LT, 0 ≤ p.2.d ∧ p.2.d ≤ 2 := by decide +kernel
    have hL8 : ∀ p ∈ LT, p.2.b.length ≤ 8 := by decide +kernel
    obtain ⟨hd0, hd2⟩ := hL2 _ hlt
    obtain ⟨dd, hdd⟩ := Int.eq_ofNat_of_zero_le hd0
    replace hdd : wd.d = (dd : Int) := hdd
    have hb8 : wd.b.length ≤ 8 := hL8 _ hlt
    have hdd2 : dd ≤ 2 := by have : wd.d ≤ 2 := hd2; omega
    unfold Marked
    rw [hdd]
    obtain ⟨tka, N6⟩ : ∃ tka, News base L' hh2 ((d2, tup [.ref d1]) :: (d1, tup [.str (Str.ofString "int_any") tka]) :: ((D, dO es ep) :: (nl ++ V))) := ⟨_, N5⟩
    clear N5
    refine tup_times X (by k_asm) N6 (List.mem_cons_self ..) hdd2 (fun h6 DT nt ds F6 N7 lt6 nn6 hm6 hds => ?_)
    k_steps
    unfold Marked
    refine str_of_int_fit (N := 100) (by split <;> omega) (by decide) (fun _ => ?_)
    k_steps
    unfold Marked
    refine KXadd.add (K := 1) (L := 100) (by decide) ?_ (by decide) (fun t' kk _ => ?_)
    · exact Nat.le_trans (len_int (dig (Nat.le_trans (Nat.le_of_lt hk3) (by decide)))) (by decide)
    k_steps
    unfold Marked
    rename_i e1 he1 le1 lx ly e2 he2 F8 N8 l8
    obtain ⟨MS, hMS⟩ : ∃ MS, MS = Str.ofString "m" ++ Str.ofString (toString (k : Int)) := ⟨_, rfl⟩
    replace N8 : News base L' he2 ((e2, tup [.ref e1, .str MS t']) :: (e1, tup [.str wd.b t5, .bool wd.v, .ref DT, .none]) :: (nt ++ ((d2, tup [.ref d1]) :: (d1, tup [.str (Str.ofString "int_any") tka]) :: ((D, dO es ep) :: (nl ++ V))))) := by rw [hMS]; exact N8
    clear hMS
    obtain ⟨NW, hNW⟩ : ∃ NW : Led, NW = (e2, tup [.ref e1, .str MS t']) :: (e1, tup [.str wd.b t5, .bool wd.v, .ref DT, .none]) :: (nt ++ ((d2, tup [.ref d1]) :: (d1, tup [.str (Str.ofString "int_any") tka]) :: new)) := ⟨_, rfl⟩
    have nNW : NF NW := by rw [hNW]; exact NF.cons (NF.ty rfl (by decide)) (NF.cons (NF.ty rfl (by decide)) (fun q hq => (List.mem_append.mp hq).elim (nn6 q) (NF.cons (NF.ty rfl (by decide)) (NF.cons (NF.ty rfl (by decide)) hnn) q)))
    have inO : ∀ q ∈ V, q ∈ (D, dO es ep) :: (nl ++ V) := fun q hq => .tail _ (List.mem_append_right _ hq)
    have fr : ∀ q ∈ V, q.1 ≠ d1 ∧ q.1 ≠ d2 ∧ q.1 ≠ e1 ∧ q.1 ≠ e2 ∧ q.1 ∉ nt.map (·.1) := fun q hq =>
      ⟨Nat.ne_of_lt (ll1 q (inO q hq)), Nat.ne_of_lt (allLt_mem l5.2 q (inO q hq)), Nat.ne_of_lt (le1 q (List.mem_append_right _ (.tail _ (.tail _ (inO q hq))))), Nat.ne_of_lt (allLt_mem l8.2 q (List.mem_append_right _ (.tail _ (.tail _ (inO q hq))))), fun hm => by
        obtain ⟨y, hy, e⟩ := List.mem_map.mp hm
        exact lt6 q (.tail _ (.tail _ (inO q hq))) y hy e.symm⟩
    have sepN : ∀ q ∈ V, q.1 ∉ new.map (·.1) → q.1 ∉ NW.map (·.1) := fun q hq hn => by
      obtain ⟨f1, f2, f3, f4, f5⟩ := fr q hq
      rw [hNW]; exact nkc f4 (nkc f3 (nkm f5 (nkc f2 (nkc f1 hn))))
    have hpn : pr ∉ new.map (·.1) := fun hm => by
      obtain ⟨y, hy, e⟩ := List.mem_map.mp hm
      exact (hfr2 y hy).1 e
    have hpo : pr ∉ own.map (·.1) := fun hm => nomatch hap2 (pr, _) (.head _) hm
    refine append_led (frs := []) (vs := ps.map fun p => Value.ref p.1) (c := c) (X := NW ++ (own ++ R)) (by k_asm) (cut_news N8 (fun q hq => ?_)) (fun _ _ h => nomatch h) (nkm (sepN (pr, _) mVp hpn) (nkm hpo hprf)) (by rw [List.length_map, hpk]; exact Nat.le_trans (Nat.le_of_lt hk3) (by decide)) (fun h9 F9 N9 => ?_)
    · revert q
      rw [hNW, hV]
      with_reducible walk_at "LSUB"
    rw [show (ps.map fun p => Value.ref p.1) ++ [Value.ref e2] = (ps ++ [(e2, e1, Value.str MS t', wd)]).map fun p => Value.ref p.1 from by rw [List.map_append]; rfl] at N9
    k_steps
    subst hQ9
    subst hJ9
    (try dsimp only); (try k_unfold); (try dsimp only)
    refine ⟨h9, _, _, [], (pr, liO ((ps ++ [(e2, e1, Value.str MS t', wd)]).map fun p => Value.ref p.1) (c + 1)) :: (NW ++ R), rfl, .nil, F9, cut_news N9 (fun q hq => ?_), (fun _ _ h => nomatch h), n0 _ _ _ nNW, fun q hq => ?_, _, ps ++ [(e2, e1, Value.str MS t', wd)], c + 1, NW, form4 rfl rfl rfl rfl, rfl, by rw [List.length_append, hpk]; rfl, ?_, ?_, nNW, ?_⟩
    · exact (show ∀ p ∈ _, p ∈ _ by with_reducible walk_at "LSUB") _ hq
    · have apo : ∀ d : Addr, (∀ y ∈ own, y.1 ≠ d) → d ∉ own.map (·.1) := fun d hd hm => by
        obtain ⟨y, hy, e⟩ := List.mem_map.mp hm
        exact hd y hy e
      have aN : ∀ y ∈ NW, y.1 ∈ ((pr, liO (ps.map fun p => Value.ref p.1) c) :: (new ++ R)).map (·.1) ∨ y.1 ∉ own.map (·.1) := by
        rw [hNW]
        exact en_consr (apo _ fun y hy => (fr y (mVo y hy)).2.2.2.1) (en_consr (apo _ fun y hy => (fr y (mVo y hy)).2.2.1) (en_app (fun z h => .inr (apo _ fun y hy e => (fr y (mVo y hy)).2.2.2.2 (by rw [e]; exact key_mem h))) (en_consr (apo _ fun y hy => (fr y (mVo y hy)).2.1) (en_consr (apo _ fun y hy => (fr y (mVo y hy)).1) (ks_inl (by with_reducible walk_at "LKS"))))))
      exact en_cons (by with_reducible walk_at "LKEY") (en_app aN (ks_inl (by with_reducible walk_at "LKS"))) q hq
    · intro q hq
      have upN : ∀ y ∈ new ++ fix, y ∈ NW ++ fix := by
        rw [hNW]; with_reducible walk_at "LSUB"
      rcases List.mem_append.mp hq with hq | hq
      · obtain ⟨g1, g2, tb, dt, dss, dom, g3, g4, g5, g6⟩ := hps q hq
        exact ⟨g1, g2.mono upN, tb, dt, dss, dom, g3.mono upN, g4.mono upN, g5, g6⟩
      · rw [List.mem_singleton.mp hq]
        refine ⟨⟨hb8⟩, .inr (by rw [hNW]; with_reducible walk_at "LMEM"), t5, DT, ds, .none, .inr (by rw [hNW]; with_reducible walk_at "LMEM"), .inr ?_, by rw [hdd, hds], by rw [hds]; exact Nat.le_trans hdd2 (by decide)⟩
        rcases hm6 with h | ⟨h, h'⟩
        · rw [hNW]; with_reducible walk_at "LMEM"
        · rw [h, h', hNW]; with_reducible walk_at "LMEM"
    · intro i q hq
      by_cases e : i < ps.length
      · rw [List.getElem?_append_left e] at hq
        exact hpw i q hq
      · have hi' := (List.getElem?_eq_some_iff.mp hq).1
        rw [List.length_append, List.length_singleton] at hi'
        obtain rfl : i = ps.length := Nat.le_antisymm (Nat.le_of_lt_succ hi') (Nat.not_lt.mp e)
        rw [List.getElem?_append_right (Nat.le_refl _), Nat.sub_self] at hq
        obtain rfl := Option.some.inj hq
        rw [hpk]
        exact hwd
    · have apL : ∀ d : Addr, (∀ y ∈ R, y.1 ≠ d) → d ∉ R.map (·.1) := fun d hd hm => by
        obtain ⟨y, hy, e⟩ := List.mem_map.mp hm
        exact hd y hy e
      have frL : ∀ y ∈ R, _ := fun y hy => fr y (mVR y hy)
      have frp := fr (pr, liO (ps.map fun p => Value.ref p.1) c) mVp
      rw [hNW]
      intro q hq
      rcases List.mem_cons.mp hq with rfl | hq
      · exact ⟨Ne.symm frp.2.2.2.1, apL _ fun y hy => (frL y hy).2.2.2.1⟩
      rcases List.mem_cons.mp hq with rfl | hq
      · exact ⟨Ne.symm frp.2.2.1, apL _ fun y hy => (frL y hy).2.2.1⟩
      rcases List.mem_append.mp hq with h | hq
      · exact ⟨fun e => frp.2.2.2.2 (by have := key_mem h; rw [e] at this; exact this), apL _ fun y hy e => (frL y hy).2.2.2.2 (by rw [e]; exact key_mem h)⟩
      rcases List.mem_cons.mp hq with rfl | hq
      · exact ⟨Ne.symm frp.2.1, apL _ fun y hy => (frL y hy).2.1⟩
      rcases List.mem_cons.mp hq with rfl | h
      · exact ⟨Ne.symm frp.1, apL _ fun y hy => (frL y hy).1⟩
      · exact hfr2 q h
end
section -- MLawD
local macro_rules | `(tactic| walk_at "eval ListComp") => `(tactic| (refine mark ?_))
local macro_rules | `(tactic| walk_at "execs cons") => `(tactic| (k_here; (with_reducible show wpAny _ _ (execs (Stmt.For _ _ _ _ _ :: _) _) _ _ _); (refine mark ?_)))
local macro_rules | `(tactic| walk_at "eval Name") => `(tactic| walk_at "H7")
theorem txt_join (sep : Str) (l : List Str) : Txt.join sep l = Str.join sep l := by
  cases l with
  | nil => rfl
  | cons x l => first | rfl | exact StrLaws.glued_cons sep l x
theorem sign_at : ∀ j : Nat, j < 12 → ∃ p ∈ LT, Txt.item (Str.ofString "IKBLMRSTUVCD") (j : Int) = ⟨#[p.1]⟩ := by decide +kernel
theorem LT_asc : ∀ p ∈ LT, p.1 < 128 := by decide +kernel
/-- one to three letters, joined -/
theorem join_lets {l : List (Str × Tok)} (hl : 1 ≤ l.length ∧ l.length ≤ 3) (h : ∀ q ∈ l, ∃ p ∈ LT, q.1 = ⟨#[p.1]⟩) : ∃ x wk, Str.join (Str.ofString "") (l.map (·.1)) = x ∧ LetsOK x wk ∧ wk.length = l.length := by
  have hx : ∀ c c' : Str, c ++ Str.ofString "" ++ c' = c ++ c' := fun c c' => by
    have : Str.ofString "" = ⟨#[]⟩ := by decide
    rw [this]
    show (⟨(c.cps ++ #[]) ++ c'.cps⟩ : Str) = ⟨c.cps ++ c'.cps⟩
    rw [Array.append_empty]
  match l, hl, h with
  | [a], _, h =>
    obtain ⟨p, hp, e⟩ := h a (by simp)
    refine ⟨_, [p.2], rfl, ?_, rfl⟩
    show LetsOK a.1 _
    rw [e]
    exact lets_of [p] (fun q hq => by rw [List.mem_singleton.mp hq]; exact hp) _ rfl
  | [a, b], _, h =>
    obtain ⟨p, hp, e⟩ := h a (by simp)
    obtain ⟨p2, hp2, e2⟩ := h b (by simp)
    refine ⟨_, [p.2, p2.2], rfl, ?_, rfl⟩
    show LetsOK (a.1 ++ Str.ofString "" ++ b.1) _
    rw [hx, e, e2]
    exact lets_of [p, p2] (fun q hq => by simp only [List.mem_cons, List.not_mem_nil, or_false] at hq; rcases hq with rfl | rfl <;> assumption) _ rfl
  | [a, b, c], _, h =>
    obtain ⟨p, hp, e⟩ := h a (by simp)
    obtain ⟨p2, hp2, e2⟩ := h b (by simp)
    obtain ⟨p3, hp3, e3⟩ := h c (by simp)
    refine ⟨_, [p.2, p2.2, p3.2], rfl, ?_, rfl⟩
    show LetsOK (a.1 ++ Str.ofString "" ++ (b.1 ++ Str.ofString "" ++ c.1)) _
    rw [hx, hx, e, e2, e3]
    exact lets_of [p, p2, p3] (fun q hq => by simp only [List.mem_cons, List.not_mem_nil, or_false] at hq; rcases hq with rfl | rfl | rfl <;> assumption) _ rfl
/-- where the drawing of letters stands -/
inductive LtJ (w : World) (k1 k2 : Tok) (lc fd : Addr) (p : Nat) (R : Led) (k : Nat) (ys : List Value) (X : Led) : Prop
  | of (l : List (Str × Tok)) (tp' : Tok) (fz' : Nat) (FO : Obj) (hFO : FO = dO (feedD w.params k1 k2 lc (p + k : Nat) tp') fz') (eX : X = (fd, FO) :: R) (eY : ys = strValues l) (hl : l.length = k) (hls : ∀ q ∈ l, ∃ p ∈ LT, q.1 = ⟨#[p.1]⟩)
theorem lawE3 {w : World} {mean : ExcName → Option Value} {mg mb : Str → Option Value} {fix : Led} {fd lc am as adx an ap aq ar ac bdx sc s0 fa : Addr} {cd : Value} {k1 k2 tp j1 j2 j3 j4 j5 j6 y1 y2 tn : Tok} {p fz cz qz ez sn q0 : Nat} {qes ses : Array DictEntry} {pn : Nat} {nm : Str} {xs : List Value} {ns : List Int} {fo : Obj} {base : Heap} {L' : Addr} {m : Str → Option Value} {s : Shared} {Q : Flow → Shared → Prop} {E : Value → Shared → Prop} {vn : Value}
    (W : WdOK w fix am as adx an ap aq ar ac bdx sc s0 j1 j2 j3 j4 j5 j6 y1 y2 ses sn) (hap : ap ∉ ((fd, dO (feedD w.params k1 k2 lc p tp) fz) :: (as, dO qes qz) :: (ac, dO #[] ez) :: fix).map (·.1)) (hnp : (nm == Str.ofString "p") = false)
    (hcx : nsF (callsE w.params) nm = some vn) (hln : LenLe nm 100) 
    (hqs : AskOK qes q0) (hqz : q0 ≤ 900) (hlc : At (seed.heap_1 w.params) fix lc ⟨.type "list", none, .seq xs.toArray cz, #[]⟩) (hns : IntsAre xs ns) (hz : ns.length ≤ 40) (hp : p ≤ 140)
    (hfr : fd ∉ ((as, dO qes qz) :: (ac, dO #[] ez) :: fix).map (·.1)) (hqr : as ∉ ((ac, dO #[] ez) :: fix).map (·.1)) (hcr : ac ∉ fix.map (·.1)) (hfc : (L' + 1, fo) ∈ fix) (hfo : fo.data = .cell (some (.ref fd)))
    (F : Fr base L' s.heap (fun y => if y = Str.ofString "maker" then some (.ref am) else if y = Str.ofString "name" then some (.str nm tn) else m y)) (X : (seed.heap_1 w.params).In base) (T : Top vw (looseW vw lo) mean mg mb base) (N : News base L' s.heap ([] ++ ((fd, dO (feedD w.params k1 k2 lc p tp) fz) :: (as, dO qes qz) :: (ac, dO #[] ez) :: (ap, dO #[] pn) :: fix))) (nf : NF fix) (hE : PassesOwn (model PySem.Challenge.rw_qd0027_02.row.prog w) (callerA.deeper (env607 w.params L' fa cd)) (env607 w.params L' fa cd) E)
    (fin : ∀ h' tk' m', Fr base L' h' m' → Q (.ret (.bool true)) { s with heap := h', toks := tk' }) :
    wpAny (model PySem.Challenge.rw_qd0027_02.row.prog w) (callerA.deeper (env607 w.params L' fa cd)) (execs ((stmtsO (fun607 w.params).1).drop 3) (env607 w.params L' fa cd)) Q E s := by
  have hE0 := hE
  dsimp only [env607, fun607, stmtsO, scopeO, List.drop] at hE ⊢
  have n0 : ∀ o : Obj, NFo o → NF ((fd, o) :: (as, dO qes qz) :: (ac, dO #[] ez) :: (ap, dO #[] pn) :: fix) := fun o ho => NF.cons ho (NF.cons (NF.ty rfl (by decide)) (NF.cons (NF.ty rfl (by decide)) (NF.cons (NF.ty rfl (by decide)) nf)))
  have hfdr : fd ∉ ((as, dO qes qz) :: (ac, dO #[] ez) :: (ap, dO #[] pn) :: fix).map (·.1) := nkc (nkh hfr) (nkc (nkh (nkt hfr)) (nkc (Ne.symm (nkh hap)) (nkt (nkt hfr))))
  have hlc2 : At (seed.heap_1 w.params) ((as, dO qes qz) :: (ac, dO #[] ez) :: (ap, dO #[] pn) :: fix) lc ⟨.type "list", none, .seq xs.toArray cz, #[]⟩ := hlc.mono (fun q hq => .tail _ (.tail _ (.tail _ hq)))
  obtain ⟨R, hRR⟩ : ∃ R : Led, R = (as, dO qes qz) :: (ac, dO #[] ez) :: (ap, dO #[] pn) :: fix := ⟨_, rfl⟩
  have hfcR : (L' + 1, fo) ∈ R := by rw [hRR]; exact .tail _ (.tail _ (.tail _ hfc))
  rw [← hRR] at hfdr hlc2 N
  replace n0 : ∀ o : Obj, NFo o → NF ((fd, o) :: R) := by rw [hRR]; exact n0
  k_steps
  unfold Marked
  rw [eval_ListComp]
  refine wpAny_comprehension_free (use := none) rfl (fun _ => rfl) (cl := [(Str.ofString "feed", L' + 1)]) (by rfl) rfl (by decide) ?_
  change wpAny _ _ (eval (Expr.Call _ _ _ _) _) _ _ _
  k_steps
  unfold Marked
  refine Cn.at (dip_c w mean mg mb R fd lc k1 k2 tp _ p 3 fz xs cz ns hlc2 hns hz (Nat.le_trans hp (by decide)) (by decide) (by decide) hfdr) (by k_asm) X T N (n0 _ (NF.ty rfl (by decide))) rfl (by decide +kernel) (by decide +kernel) (fun r tl h3 tk3 hR n3 F3 N3 => ?_) (fun e dx tl h2 tk2 hR => hR.elim)
  obtain ⟨jn, tj, tp1, fz1, FO1, hFO1, rfl, hj1, rfl⟩ := hR
  try dsimp only
  k_steps
  unfold Marked
  refine range1_rows (by k_asm) N3 fun h4 tk4 t₁ u₁ v₁ hr F4 N4 keep => ?_
  have hr' : IsRange h4 h3.objs.size 0 ((1 + jn : Nat) : Int) 1 t₁ u₁ v₁ := by
    rw [show ((1 + jn : Nat) : Int) = 1 + (jn : Int) from Int.natCast_add 1 jn]
    exact hr
  refine' comp_led (K := seed.heap_1 w.params) (frs := []) (ls := []) (P := fun i v => ∃ t, v = Value.int (i : Int) t) (n := 1 + jn) (J := LtJ w k1 k2 lc fd (p + 1) R) (li_range rfl hr' (Nat.le_trans (Nat.add_le_add_left (Nat.le_of_lt hj1) 1) (by decide))) X rfl ?hsz ?hcell rfl F4 N4 (fun _ _ h => nomatch h) n3 ⟨[], tp1, fz1, FO1, hFO1, rfl, rfl, rfl, (fun _ h => nomatch h)⟩ ?hs ?hd
  case hsz => rw [sizeLine_eq]; exact Nat.le_trans (Nat.add_le_add_left (Nat.le_of_lt hj1) 1) (by decide)
  case hcell => decide
  case hs =>
    intro k v ys C oC m₃ own X₁ frs₁ h₁ tk₁ hk hv hm hO hC hJ se F₁ N₁ o₁ n₁ hap1
    cases se
    obtain ⟨tv, rfl⟩ := hv
    obtain ⟨l, tp', fz', FO0, hF0, rfl, rfl, hl, hls⟩ := hJ
    have hfdo : fd ∉ own.map (·.1) := fun hm => nomatch hap1 (fd, _) (.head _) hm
    have N5 : News base L' h₁ ([] ++ ((fd, FO0) :: (own ++ R))) := cut_news N₁ (fun q hq => by
      exact (show ∀ p ∈ _, p ∈ _ by with_reducible walk_at "LSUB") _ hq)
    have n5 : NF ((fd, FO0) :: (own ++ R)) := nf_sub n₁ (fun q hq => by
      exact (show ∀ p ∈ _, p ∈ _ by with_reducible walk_at "LSUB") _ hq)
    refine wpAny_pure ?_
    change wpAny _ _ (eval _ _) _ _ _
    refine gen_wp fun Q9 hQ9 => ?_
    k_steps
    unfold Marked
    refine Cn.at (dip_F w mean mg mb (own ++ R) fd lc k1 k2 tp' _ (p + 1 + k) 12 fz' xs cz ns FO0 hF0 (hlc2.mono (fun q hq => List.mem_append_right _ hq)) hns hz (Nat.le_trans (Nat.add_le_add (Nat.add_le_add_right hp 1) (Nat.le_trans (Nat.le_of_lt hk) (Nat.add_le_add_left (Nat.le_of_lt hj1) 1))) (by decide)) (by decide) (by decide) (nkm hfdo hfdr)) F₁ X T N5 n5 rfl (by decide +kernel) (by decide +kernel) (fun r tl h6 tk6 hR n6 F6 N6 => ?_) (fun e dx tl h2 tk2 hR => hR.elim)
    obtain ⟨j2, tj2, tp2, fz2, FO2, hFO2, rfl, hj1', rfl⟩ := hR
    try dsimp only
    k_steps
    obtain ⟨pc, hpc, hsg⟩ := sign_at j2 hj1'
    rw [hsg]
    subst hQ9
    refine ⟨h6, _, [], (fd, FO2) :: R, rfl, .nil, F6, cut_news N6 (fun q hq => ?_), (fun _ _ h => nomatch h), n0 _ (by rw [hFO2]; exact NF.ty rfl (by decide)), ks_inl (by with_reducible walk_at "LKS"), l ++ [(⟨#[pc.1]⟩, _)], tp2, fz2, FO2, hFO2, rfl, by rw [strValues, strValues, List.map_append]; rfl, by rw [List.length_append, hl]; rfl, fun q hq => ?_⟩
    · exact (show ∀ p ∈ _, p ∈ _ by with_reducible walk_at "LSUB") _ hq
    · rcases List.mem_append.mp hq with hq | hq
      · exact hls q hq
      · rw [List.mem_singleton.mp hq]
        exact ⟨pc, hpc, rfl⟩
  case hd =>
    intro D h5 tk5 ys f5 X5 S5 F5 N5 o5 n5 lt5 hD hJ
    cases S5
    obtain ⟨l, tp', fz', FO0, hF0, rfl, rfl, hl, hls⟩ := hJ
    subst hRR hF0
    try dsimp only
    k_steps
    unfold Marked
    obtain ⟨x, wk, hjx, hxk, hwl⟩ := join_lets (l := l) ⟨by omega, by omega⟩ hls
    refine SC.join (l := l) (texts := l.map (·.1)) ⟨_, (N5 _ (.head _)).1, rfl, _, rfl⟩ rfl ?_ (fun tx kx => ?_)
    · unfold JoinOk
      rw [StrLaws.joinFits (B := 1) (fun y hy => ?_) (by rw [List.length_map]; show _ + _ * 0 ≤ _; omega)]
      · rfl
      · obtain ⟨q, hq, rfl⟩ := List.mem_map.mp hy
        obtain ⟨pc, -, e⟩ := hls q hq
        rw [e]
        exact Nat.le_refl 1
    rw [show Txt.join (Str.ofString "") (l.map (·.1)) = x from (txt_join _ _).trans hjx]
    k_steps
    unfold Marked
    rename_i pr hp0 lp h9 F9 N9
    have hlt : ∀ q ∈ (fd, dO (feedD w.params k1 k2 lc (p + 1 + (1 + jn) : Nat) tp') fz') :: (as, dO qes qz) :: (ac, dO #[] ez) :: (ap, dO #[] pn) :: fix, q.1 < pr := fun q hq => lp q (by simp only [List.nil_append]; exact .tail _ hq)
    have F10 : Fr base L' h9 (fun y => if y = Str.ofString "maker" then some (.ref am) else if y = Str.ofString "letters" then some (.str x tx) else if y = Str.ofString "params" then some (.ref pr) else if y = Str.ofString "name" then some (.str nm tn) else ((fun y => if y = Str.ofString "params" then some (.ref pr) else if y = Str.ofString "letters" then some (.str x tx) else if y = Str.ofString "maker" then some (.ref am) else if y = Str.ofString "name" then some (.str nm tn) else m y)) y) := by
      rw [← form4 (g := (fun y => if y = Str.ofString "params" then some (.ref pr) else if y = Str.ofString "letters" then some (.str x tx) else if y = Str.ofString "maker" then some (.ref am) else if y = Str.ofString "name" then some (.str nm tn) else m y)) rfl rfl rfl rfl]
      exact F9
    refine lawE5 (p := p + 1 + (1 + jn)) (pc := 0) (pr := pr) (wk := wk) (tp := tp') (fz := fz') (k1 := k1) (k2 := k2) (pn := pn) (ez := ez) (qz := qz) (tx := tx) (tn := tn) (lc := lc) (cz := cz) (xs := xs) (ns := ns) (sc := sc) (s0 := s0) W hap hnp hcx hln (Off.of_lt hlt (fun q hq => hq)) hxk ⟨by omega, by omega⟩ hqs hqz hlc hns hz (by omega) hfr hqr hcr hfc hfo F10 X T (cut_news N9 (fun q hq => ?_)) nf hE0 (fun h2 tk2 m2 F2 => fin h2 tk2 m2 F2)
    simp only [List.nil_append, List.mem_cons] at hq ⊢
    rcases hq with h | h | h | h | h | h
    · exact .inl h
    all_goals simp only [h, true_or, or_true]
end
section -- MLawC
local macro_rules | `(tactic| walk_at "eval Name") => `(tactic| walk_at "H7")
noncomputable def cl39 : List Value := (List.range 39).map fun i => .ref (527 + i)
theorem cl_at (P : Params) : (seed.heap_1 P).lookup 566 = some (tup cl39) := by rfl
theorem cl_idx : ∀ p, p < 39 → seqIndex? ((p : Nat) : Int) cl39.length = some p ∧ cl39[p]? = some (.ref (527 + p)) := by decide +kernel
theorem calls_item {w : World} {A : Around} {E : Value → Shared → Prop} {s : Shared} {base : Heap} {L : Addr} {m : Str → Option Value} {p : Nat} {u : Tok} {value slice : Expr} {Q : Value → Shared → Prop} (X : (seed.heap_1 w.params).In base) (F : Fr base L s.heap m) (hp : p < 39) (h : Q (.ref (527 + p)) s)
    (hs : subscripted slice false (.ref 566) (.int p u) = operate [.ref 566, .int p u] (getItem (.ref 566) (.int p u)) := by with_unfolding_all rfl) :
    wpAny (model PySem.Challenge.rw_qd0027_02.row.prog w) A (subscriptTail value slice (.ref 566) (.int p u)) Q E s :=
  item_tupleT ⟨_, F.keep _ _ (X _ _ (cl_at w.params)), rfl, _, rfl⟩ (by omega) (by omega) (cl_idx p hp).1 (cl_idx p hp).2 h hs
noncomputable def NameOK (w : World) (nm : Str) : Prop := (nm == Str.ofString "p") = false ∧ (∃ vn, nsF (callsE w.params) nm = some vn) ∧ LenLe nm 100
theorem form1 {g : Str → Option Value} {a : Str} {u : Value} (h1 : g a = some u) : g = fun y => if y = a then some u else g y := by
  funext y
  by_cases e1 : y = a
  · rw [if_pos e1, e1, h1]
  · rw [if_neg e1]
theorem lawC2 {w : World} {mean : ExcName → Option Value} {mg mb : Str → Option Value} {fix : Led} {fd lc am as adx an ap aq ar ac bdx sc s0 fa : Addr} {cd : Value} {k1 k2 tp j1 j2 j3 j4 j5 j6 y1 y2 : Tok} {p fz cz qz ez sn q0 : Nat} {qes ses : Array DictEntry} {pn : Nat} {xs : List Value} {ns : List Int} {fo : Obj} {base : Heap} {L' : Addr} {m : Str → Option Value} {s : Shared} {Q : Flow → Shared → Prop} {E : Value → Shared → Prop}
    (W : WdOK w fix am as adx an ap aq ar ac bdx sc s0 j1 j2 j3 j4 j5 j6 y1 y2 ses sn) (hap : ap ∉ ((fd, dO (feedD w.params k1 k2 lc p tp) fz) :: (as, dO qes qz) :: (ac, dO #[] ez) :: fix).map (·.1))
    (hqs : AskOK qes q0) (hqz : q0 = 0) (hlc : At (seed.heap_1 w.params) fix lc ⟨.type "list", none, .seq xs.toArray cz, #[]⟩) (hns : IntsAre xs ns) (hz : ns.length ≤ 40) (hp : p = 0)
    (hfr : fd ∉ ((as, dO qes qz) :: (ac, dO #[] ez) :: fix).map (·.1)) (hqr : as ∉ ((ac, dO #[] ez) :: fix).map (·.1)) (hcr : ac ∉ fix.map (·.1)) (hfc : (L' + 1, fo) ∈ fix) (hfo : fo.data = .cell (some (.ref fd)))
    (F : Fr base L' s.heap (fun y => if y = Str.ofString "maker" then some (.ref am) else m y)) (X : (seed.heap_1 w.params).In base) (T : Top vw (looseW vw lo) mean mg mb base) (N : News base L' s.heap ([] ++ ((fd, dO (feedD w.params k1 k2 lc p tp) fz) :: (as, dO qes qz) :: (ac, dO #[] ez) :: (ap, dO #[] pn) :: fix))) (nf : NF fix) (hE : PassesOwn (model PySem.Challenge.rw_qd0027_02.row.prog w) (callerA.deeper (env607 w.params L' fa cd)) (env607 w.params L' fa cd) E)
    (fin : ∀ h' tk' m', Fr base L' h' m' → Q (.ret (.bool true)) { s with heap := h', toks := tk' }) :
    wpAny (model PySem.Challenge.rw_qd0027_02.row.prog w) (callerA.deeper (env607 w.params L' fa cd)) (execs ((stmtsO (fun607 w.params).1).drop 2) (env607 w.params L' fa cd)) Q E s := by
  have hE0 := hE
  dsimp only [env607, fun607, stmtsO, scopeO, List.drop] at hE ⊢
  subst hp
  subst hqz
  have hself := W.self
  have hdict := W.dict
  have n0 : ∀ (o o2 o3 : Obj), NFo o → NFo o2 → NFo o3 → NF ((fd, o) :: (as, o2) :: (ac, o3) :: (ap, dO #[] pn) :: fix) := fun o o2 o3 ho h2 h3 => NF.cons ho (NF.cons h2 (NF.cons h3 (NF.cons (NF.ty rfl (by decide)) nf)))
  have nD : ∀ (es : Array DictEntry) (c : Nat), NFo (dO es c) := fun es c => NF.ty rfl (by decide)
  k_steps
  unfold Marked
  refine' For_turns ?f ?_ ?hs hE
  case f => k_asm
  case hs => exact fun _ => rfl
  k_steps
  unfold Marked
  refine range1_rows (by k_asm) N fun h2 tk2 t₁ u₁ v₁ hr F2 N2 keep => ?_
  obtain ⟨J9, hJ9⟩ : ∃ J : Nat → (Str → Option Value) → Led → Prop, J = (fun k m1 X1 => ∃ (m' : Str → Option Value) (p' : Nat) (tp' : Tok) (fz' : Nat) (qes' : Array DictEntry) (qz' ez' : Nat), m1 = (fun y => if y = Str.ofString "maker" then some (.ref am) else m' y) ∧ (k = 0 ∨ ∃ nm tn, m' (Str.ofString "name") = some (.str nm tn) ∧ NameOK w nm) ∧ p' ≤ 9 * k ∧ AskOK qes' (6 * k) ∧ X1 = (fd, dO (feedD w.params k1 k2 lc p' tp') fz') :: (as, dO qes' qz') :: (ac, dO #[] ez') :: (ap, dO #[] pn) :: fix) := ⟨_, rfl⟩
  refine for_led (K := seed.heap_1 w.params) (frs := []) (n := 2) (li_range rfl hr (by decide)) X F2 N2 (fun _ _ h => nomatch h) (n0 _ _ _ (nD _ _) (nD _ _) (nD _ _)) rfl rfl J9 (by rw [hJ9]; exact ⟨m, 0, tp, fz, qes, qz, ez, rfl, .inl rfl, Nat.le_refl _, hqs, rfl⟩) ?_ ?_
  case refine_2 =>
    rintro h' tk m1 frs' X1 hJ8 se F' N' o' n'
    rw [hJ9] at hJ8
    obtain ⟨m', p', tp', fz', qes', qz', ez', rfl, hnm, hp', hq', rfl⟩ := hJ8
    cases se
    obtain ⟨nm, tn, hnm, h1, ⟨vn, h2⟩, h3⟩ := hnm.resolve_left (by decide)
    have F9 : Fr base L' h' (fun y => if y = Str.ofString "maker" then some (.ref am) else if y = Str.ofString "name" then some (.str nm tn) else (fun y => if y = Str.ofString "maker" then some (.ref am) else m' y) y) := by
      rw [← form2 (g := fun y => if y = Str.ofString "maker" then some (.ref am) else m' y) (a := Str.ofString "maker") (b := Str.ofString "name") (u := .ref am) (v := .str nm tn) rfl hnm]
      exact F'
    exact lawE3 (p := p') (q0 := 6 * 2) (tp := tp') (fz := fz') (k1 := k1) (k2 := k2) (pn := pn) (ez := ez') (qz := qz') (nm := nm) (tn := tn) (lc := lc) (cz := cz) (xs := xs) (ns := ns) (sc := sc) (s0 := s0) W hap h1 h2 h3 hq' (by omega) hlc hns hz (by omega) hfr hqr hcr hfc hfo F9 X T N' nf hE0 (fun h2 tk2 m2 F2 => fin h2 tk2 m2 F2)
  case refine_1 =>
    intro k v m₁ X₁ frs₁ own h₁ tk₁ hk hv hJ8 se F₁ N₁ o₁ n₁ hap2
    rw [hJ9] at hJ8
    refine gen_wp fun Q9 hQ9 => ?_
    refine hv.elim fun tv hv => ex7 hJ8 fun m' p' tp' fz' qes' qz' ez' hJ7 => and5 hJ7 fun eM hnm hp' hq' eX => ?_
    clear hJ8 hJ7
    subst hv eM eX
    cases se
    replace F₁ : Fr base L' h₁ (fun y => if y = Str.ofString "lap" then some (.int (k : Int) tv) else if y = Str.ofString "maker" then some (.ref am) else m' y) := F₁
    obtain ⟨U, hU⟩ : ∃ U : Led, U = own ++ ((ap, dO #[] pn) :: fix) := ⟨_, rfl⟩
    have up : ∀ q ∈ fix, q ∈ U := by rw [hU]; exact fun q hq => List.mem_append_right _ (.tail _ hq)
    have hfcU := up _ hfc
    have hselfU := up _ hself
    have hdictU := up _ hdict
    have hapU : (ap, dO #[] pn) ∈ U := by rw [hU]; exact List.mem_append_right _ (.head _)
    k_steps
    unfold Marked
    have hfdo : fd ∉ own.map (·.1) := fun hm => nomatch hap2 (fd, _) (.head _) hm
    have haso : as ∉ own.map (·.1) := fun hm => nomatch hap2 (as, _) (.tail _ (.head _)) hm
    have haco : ac ∉ own.map (·.1) := fun hm => nomatch hap2 (ac, _) (.tail _ (.tail _ (.head _))) hm
    have hap1 := hap
    have hfx : fd ∉ fix.map (·.1) := nkt (nkt hfr)
    have hapf : ap ≠ fd := nkh hap
    have hapas : ap ≠ as := nkh (nkt hap)
    have hapac : ap ≠ ac := nkh (nkt (nkt hap))
    have hapx : ap ∉ fix.map (·.1) := nkt (nkt (nkt hap))
    have N5 : News base L' h₁ ([] ++ ((fd, dO (feedD w.params k1 k2 lc p' tp') fz') :: (as, dO qes' qz') :: (ac, dO #[] ez') :: U)) := cut_news N₁ (by rw [hU]; with_reducible walk_at "LSUB")
    have n5 : ∀ o1 o2 o3, NFo o1 → NFo o2 → NFo o3 → NF ((fd, o1) :: (as, o2) :: (ac, o3) :: U) := fun o1 o2 o3 h1 h2 h3 => NF.cons h1 (NF.cons h2 (NF.cons h3 (nf_sub n₁ (by rw [hU]; with_reducible walk_at "LSUB"))))
    have hfd5 : fd ∉ ((as, dO qes' qz') :: (ac, dO #[] ez') :: U).map (·.1) := nkc (nkh hfr) (nkc (nkh (nkt hfr)) (by rw [hU]; exact nkm hfdo (nkc (Ne.symm hapf) hfx)))
    refine Cn.at (dip_c w mean mg mb ((as, dO qes' qz') :: (ac, dO #[] ez') :: U) fd lc k1 k2 tp' _ p' 39 fz' xs cz ns (hlc.mono (fun q hq => .tail _ (.tail _ (up q hq)))) hns hz (by omega) (by omega) (by omega) hfd5) (by k_asm) X T N5 (n5 _ _ _ (nD _ _) (nD _ _) (nD _ _)) rfl (by decide +kernel) (by decide +kernel) (fun r tl h6 tk6 hR n6 F6 N6 => ?_) (fun e dx tl h2 tk2 hR => hR.elim)
    obtain ⟨jj, tj2, tp2, fz2, FO2, hFO2, rfl, hj39, rfl⟩ := hR
    try dsimp only
    k_steps
    unfold Marked
    refine calls_item X F6 hj39 ?_
    obtain ⟨nm, lt, bs, ws, CR⟩ := rows w.params jj hj39
    obtain ⟨t1, t2, t3, hrow⟩ := CR.row
    have aRow : At (seed.heap_1 w.params) ([] : Led) (527 + jj) (tup [.str nm t1, .str lt t2, .str bs t3]) := .inl hrow
    k_steps
    unfold Marked
    rename_i hx1 hx2 hx3 h7 F7 N7
    obtain ⟨ca, aw, bt, hC, hca, haw⟩ := CR.told
    obtain ⟨hw1, hw6⟩ := CR.some_
    have hcall := callT_K (w := w) (mean := mean) (mg := mg) (mb := mb) (am := am) (adx := adx) (an := an) (ap := ap) (aq := aq) (ar := ar) (ac := ac) (j1 := j1) (j2 := j2) (j3 := j3) (j4 := j4) (j5 := j5) (j6 := j6) (fix := U) (pes := #[]) (pn := pn) (i := 0) (nm := nm) (lt := lt) (bs := bs) (ws := ws) CR.name CR.base (up _ hself) (up _ hdict) hapU (by kernel_rfl) rfl (.inl haw) CR.kinds ⟨by omega, by omega⟩ hC (.inl hca)
    subst hFO2
    have N8 : News base L' h7 ([] ++ ((fd, dO (feedD w.params k1 k2 lc (p' + 1 : Nat) tp2) fz2) :: (as, dO qes' qz') :: (ac, dO #[] ez') :: U)) := N7
    refine Cn.at (round_c w mean mg mb U fd lc am as adx an ap aq ar ac bdx sc s0 k1 k2 tp2 j1 j2 j3 j4 j5 j6 y1 y2 (p' + 1) fz2 nm lt bs t1 t2 t3 xs cz ns (ws.map (·.2)) qes' #[] ses qz' ez' sn (6 * k) _ _ (W.mono up) hcall rfl (fun ces h => h) hq' (by omega) (hlc.mono up) hns hz (by omega) hfd5 (nkc (nkh hqr) (by rw [hU]; exact nkm haso (nkc (Ne.symm hapas) (nkt hqr)))) (by rw [hU]; exact nkm haco (nkc (Ne.symm hapac) hcr)) CR.lets (by rw [List.length_map]; exact hw6) (by rw [List.length_map]; exact hw1)) F7 X T N8 (n5 _ _ _ (nD _ _) (nD _ _) (nD _ _)) rfl (by decide +kernel) (by decide +kernel) (fun r tl h8 tk8 hR n8 F8 N9 => ?_) (fun e dx tl h2 tk2 hR => hR.elim)
    obtain ⟨rfl, p8, tp8, fz8, qes8, qz8, ces8, cz8, hp8, hq8, e2, rfl⟩ := hR
    subst e2
    try dsimp only
    k_steps
    unfold Marked
    rename_i dN hD oD FD ND lD loD hsD fsD hiD fiD
    have N10 : News base L' hD ([] ++ ((fd, dO (feedD w.params k1 k2 lc p8 tp8) fz8) :: (as, dO qes8 qz8) :: (ac, dO #[] cz8) :: U)) := cut_news ND (fun q hq => .tail _ hq)
    have gac := (N10 (ac, dO #[] cz8) (by with_reducible walk_at "LMEM")).1
    refine keq_ne (knd := strKind PySem.Challenge.rw_qd0027_02.row.prog w) (kb := []) (r := true) (not_sys X N10 (by with_reducible walk_at "LMEM" : (ac, dO #[] cz8) ∈ _)) loD (dict0 gac) (Heap.dictOf_iff.mpr ⟨oD, (ND _ (.head _)).1, hsD⟩) caller_units (fun _ => .nil) ?_
    k_steps
    subst hQ9
    subst hJ9
    (try dsimp only); (try k_unfold); (try dsimp only)
    have hq9 : AskOK qes8 (6 * (k + 1)) := ⟨hq8.1, Nat.le_trans hq8.2 (by rw [List.length_map]; omega)⟩
    refine ⟨hD, _, _, [], (fd, dO (feedD w.params k1 k2 lc p8 tp8) fz8) :: (as, dO qes8 qz8) :: (ac, dO #[] cz8) :: (ap, dO #[] pn) :: fix, rfl, .nil, FD, cut_news N10 (by rw [hU]; with_reducible walk_at "LSUB"), (fun _ _ h => nomatch h), n0 _ _ _ (nD _ _) (nD _ _) (nD _ _), ks_inl (by with_reducible walk_at "LKS"), _, p8, tp8, fz8, qes8, qz8, cz8, form1 (a := Str.ofString "maker") (u := .ref am) rfl, .inr ⟨nm, t1, rfl, CR.isP, ⟨_, hC⟩, CR.name⟩, by omega, hq9, rfl⟩
end
section -- MLawB
local macro_rules | `(tactic| walk_at "d0") => `(tactic| skip)
local macro_rules | `(tactic| walk_at "binaryOp Add str str") => `(tactic| (refine mark ?_))
theorem lawB1 {w : World} {mean : ExcName → Option Value} {mg mb : Str → Option Value} {fix : Led} {fd lc am as adx an ap aq ar ac bdx sc s0 fa : Addr} {cd : Value} {k1 k2 tp j1 j2 j3 j4 j5 j6 y1 y2 : Tok} {p fz cz qz ez sn q0 : Nat} {qes : Array DictEntry} {pn : Nat} {xs : List Value} {ns : List Int} {fo : Obj} {base : Heap} {L' : Addr} {m : Str → Option Value} {s : Shared} {Q : Flow → Shared → Prop} {E : Value → Shared → Prop}
    (hself : (am, instObj 494 adx) ∈ fix) (hdict : (adx, selfD w.params j1 j2 j3 j4 j5 j6 an ap aq ar ac) ∈ fix) (hnam : (an, instObj 257 bdx) ∈ fix) (hndict : (bdx, namesD w.params y1 y2 sc as) ∈ fix) (hsc : At (seed.heap_1 w.params) fix sc (lst [.ref s0])) (hs0 : s0 ∉ ((fd, dO (feedD w.params k1 k2 lc p tp) fz) :: (as, dO qes qz) :: (ac, dO #[] ez) :: (ap, dO #[] pn) :: fix).map (·.1)) (hap : ap ∉ ((fd, dO (feedD w.params k1 k2 lc p tp) fz) :: (as, dO qes qz) :: (ac, dO #[] ez) :: fix).map (·.1))
    (hqs : AskOK qes q0) (hqz : q0 = 0) (hlc : At (seed.heap_1 w.params) fix lc ⟨.type "list", none, .seq xs.toArray cz, #[]⟩) (hns : IntsAre xs ns) (hz : ns.length ≤ 40) (hp : p = 0)
    (hfr : fd ∉ ((as, dO qes qz) :: (ac, dO #[] ez) :: fix).map (·.1)) (hqr : as ∉ ((ac, dO #[] ez) :: fix).map (·.1)) (hcr : ac ∉ fix.map (·.1)) (hfc : (L' + 1, fo) ∈ fix) (hfo : fo.data = .cell (some (.ref fd)))
    (F : Fr base L' s.heap (fun y => if y = Str.ofString "maker" then some (.ref am) else m y)) (X : (seed.heap_1 w.params).In base) (T : Top vw (looseW vw lo) mean mg mb base) (N : News base L' s.heap ([] ++ ((s0, dO #[] sn) :: (fd, dO (feedD w.params k1 k2 lc p tp) fz) :: (as, dO qes qz) :: (ac, dO #[] ez) :: (ap, dO #[] pn) :: fix))) (nf : NF fix) (hE : PassesOwn (model PySem.Challenge.rw_qd0027_02.row.prog w) (callerA.deeper (env607 w.params L' fa cd)) (env607 w.params L' fa cd) E)
    (fin : ∀ h' tk' m', Fr base L' h' m' → Q (.ret (.bool true)) { s with heap := h', toks := tk' }) :
    wpAny (model PySem.Challenge.rw_qd0027_02.row.prog w) (callerA.deeper (env607 w.params L' fa cd)) (execs ((stmtsO (fun607 w.params).1).drop 1) (env607 w.params L' fa cd)) Q E s := by
  have hE0 := hE
  dsimp only [env607, fun607, stmtsO, scopeO, List.drop] at hE ⊢
  have nD : ∀ (es : Array DictEntry) (c : Nat), NFo (dO es c) := fun es c => NF.ty rfl (by decide)
  have nR : NF ((fd, dO (feedD w.params k1 k2 lc p tp) fz) :: (as, dO qes qz) :: (ac, dO #[] ez) :: (ap, dO #[] pn) :: fix) := NF.cons (nD _ _) (NF.cons (nD _ _) (NF.cons (nD _ _) (NF.cons (nD _ _) nf)))
  obtain ⟨R, hRR⟩ : ∃ R : Led, R = (fd, dO (feedD w.params k1 k2 lc p tp) fz) :: (as, dO qes qz) :: (ac, dO #[] ez) :: (ap, dO #[] pn) :: fix := ⟨_, rfl⟩
  have upR : ∀ q ∈ fix, q ∈ R := by rw [hRR]; exact fun q hq => .tail _ (.tail _ (.tail _ (.tail _ hq)))
  have hselfR := upR _ hself
  have hdictR := upR _ hdict
  have hnamR := upR _ hnam
  have hndictR := upR _ hndict
  rw [← hRR] at nR N hs0
  k_steps
  unfold Marked
  refine' For_turns ?f ?_ ?hs hE
  case f => k_asm
  case hs => exact fun _ => rfl
  k_steps
  unfold Marked
  refine range1_rows (by k_asm) N fun h2 tk2 t₁ u₁ v₁ hr F2 N2 keep => ?_
  obtain ⟨J9, hJ9⟩ : ∃ J : Nat → (Str → Option Value) → Led → Prop, J = (fun k m1 X1 => ∃ (m' : Str → Option Value) (ses : Array DictEntry) (sn' : Nat), m1 = (fun y => if y = Str.ofString "maker" then some (.ref am) else m' y) ∧ SesOK ses k ∧ X1 = (s0, dO ses sn') :: R) := ⟨_, rfl⟩
  refine for_led (K := seed.heap_1 w.params) (frs := []) (n := 20) (li_range rfl hr (by omega)) X F2 N2 (fun _ _ h => nomatch h) (NF.cons (nD _ _) nR) rfl rfl J9 (by rw [hJ9]; exact ⟨m, #[], sn, rfl, SesOK.zero, rfl⟩) ?_ ?_
  case refine_2 =>
    rintro h' tk m1 frs' X1 hJ8 se F' N' o' n'
    rw [hJ9] at hJ8
    obtain ⟨m', ses, sn', rfl, hses, rfl⟩ := hJ8
    cases se
    subst hRR
    have up : ∀ q ∈ fix, q ∈ (s0, dO ses sn') :: fix := fun q hq => .tail _ hq
    have sep : ∀ (d : Addr) (o : Obj), (d, o) ∈ (fd, dO (feedD w.params k1 k2 lc p tp) fz) :: (as, dO qes qz) :: (ac, dO #[] ez) :: (ap, dO #[] pn) :: fix → d ≠ s0 := fun d o hd e => hs0 (by rw [← e]; exact key_mem hd)
    refine lawC2 (p := p) (q0 := q0) (tp := tp) (fz := fz) (k1 := k1) (k2 := k2) (pn := pn) (ez := ez) (qz := qz) (lc := lc) (cz := cz) (xs := xs) (ns := ns) (sc := sc) (s0 := s0) (fix := (s0, dO ses sn') :: fix) ⟨up _ hself, up _ hdict, up _ hnam, up _ hndict, hsc.mono up, .head _, hses⟩ ?_ hqs hqz (hlc.mono up) hns hz hp ?_ ?_ ?_ (up _ hfc) hfo F' X T (cut_news N' (fun q hq => ?_)) (NF.cons (nD _ _) nf) hE0 (fun h2 tk2 m2 F2 => fin h2 tk2 m2 F2)
    · exact nkc (nkh hap) (nkc (nkh (nkt hap)) (nkc (nkh (nkt (nkt hap))) (nkc (sep ap _ (.tail _ (.tail _ (.tail _ (.head _))))) (nkt (nkt (nkt hap))))))
    · exact nkc (nkh hfr) (nkc (nkh (nkt hfr)) (nkc (sep fd _ (.head _)) (nkt (nkt hfr))))
    · exact nkc (nkh hqr) (nkc (sep as _ (.tail _ (.head _))) (nkt hqr))
    · exact nkc (sep ac _ (.tail _ (.tail _ (.head _)))) hcr
    · exact (show ∀ p ∈ _, p ∈ _ by with_reducible walk_at "LSUB") _ hq
  case refine_1 =>
    rintro k v m₁ X₁ frs₁ own h₁ tk₁ hk ⟨tv, rfl⟩ hJ8 se F₁ N₁ o₁ n₁ hap2
    rw [hJ9] at hJ8
    obtain ⟨m', ses, sn', rfl, hses, rfl⟩ := hJ8
    cases se
    replace F₁ : Fr base L' h₁ (fun y => if y = Str.ofString "k" then some (.int (k : Int) tv) else if y = Str.ofString "maker" then some (.ref am) else m' y) := F₁
    replace N₁ : News base L' h₁ ([] ++ (own ++ ((s0, dO ses sn') :: R))) := N₁
    refine gen_wp fun Q9 hQ9 => ?_
    k_steps
    unfold Marked
    refine str_of_int_fit (N := 100) (by split <;> omega) (by decide) (fun _ => ?_)
    k_steps
    unfold Marked
    refine KXadd.add (K := 1) (L := 100) (by decide) ?_ (by decide) (fun t' kk _ => ?_)
    · exact Nat.le_trans (len_int ⟨by omega, by omega⟩) (by decide)
    k_steps
    unfold Marked
    refine bases_item X (by k_asm) hk ?_
    k_steps
    unfold Marked
    have hs0o : s0 ∉ own.map (·.1) := fun hm => nomatch hap2 (s0, _) (.head _) hm
    have hv := hses.none_ k (Nat.le_refl _) hk
    have up : ∀ q ∈ fix, q ∈ own ++ R := fun q hq => List.mem_append_right _ (upR _ hq)
    refine Cn.at (put_c w mean mg mb (own ++ R) an bdx sc as s0 (499 + k) (nkey k) _ _ y1 y2 0 ses sn' (up _ hnam) (up _ hndict) (hsc.mono up) hses.ask.1 (by have := hses.ask.2; omega) hv (nkm hs0o hs0)) (by k_asm) X T (cut_news N₁ (fun q hq => ?_)) (nf_sub n₁ (fun q hq => ?_)) rfl (by decide +kernel) (by decide +kernel) (fun r tl h8 tk8 hR n8 F8 N9 => ?_) (fun e dx tl h2 tk2 hR => hR.elim)
    · exact (show ∀ p ∈ _, p ∈ _ by with_reducible walk_at "LSUB") _ hq
    · exact (show ∀ p ∈ _, p ∈ _ by with_reducible walk_at "LSUB") _ hq
    obtain ⟨rfl, sn8, rfl⟩ := hR
    obtain ⟨ses8, hs8, N10⟩ : ∃ ses8, SesOK ses8 (k + 1) ∧ News base L' h8 ([] ++ ((s0, dO ses8 sn8) :: (own ++ R))) := ⟨_, hses.put hk, N9⟩
    clear N9 n8
    try dsimp only
    k_steps
    subst hQ9
    subst hJ9
    (try dsimp only); (try k_unfold); (try dsimp only)
    refine ⟨h8, _, _, [], (s0, dO ses8 sn8) :: R, rfl, .nil, F8, cut_news N10 (fun q hq => ?_), (fun _ _ h => nomatch h), NF.cons (nD _ _) nR, ks_inl (by with_reducible walk_at "LKS"), _, ses8, sn8, form1 (a := Str.ofString "maker") (u := .ref am) rfl, hs8, rfl⟩
    · exact (show ∀ p ∈ _, p ∈ _ by with_reducible walk_at "LSUB") _ hq
end
section -- MLawA
local macro_rules | `(tactic| walk_at $k:str) => if ["eval Dict", "call ref nil", "call ref", "binaryOp Add str str"].contains k.getString then `(tactic| (refine mark ?_)) else Lean.Macro.throwUnsupported
theorem puts_feed (w : World) (t u tp : Tok) (lc : Addr) : puts w #[] [(Str.ofString "cells", t, .ref lc), (Str.ofString "place", u, .int 0 tp)] = feedD w.params t u lc 0 tp := by
  first | rfl | kernel_rfl | (with_unfolding_all rfl)
theorem lawA0 {w : World} {mean : ExcName → Option Value} {mg mb : Str → Option Value} {fa sp : Addr} {cd : Value} {fo : Obj} {base : Heap} {L' : Addr} {m : Str → Option Value} {xs : List Value} {ns : List Int} {s : Shared} {Q : Flow → Shared → Prop} {E : Value → Shared → Prop}
    (hL : base.IsList sp xs.toArray) (hns : IntsAre xs ns) (hz : ns.length ≤ 63) (hfo : fo.data = .cell none)
    (F : Fr base L' s.heap (fun y => if y = Str.ofString "script" then some (.ref sp) else m y)) (X : (seed.heap_1 w.params).In base) (T : Top vw (looseW vw lo) mean mg mb base) (N : News base L' s.heap ([] ++ [(L' + 1, fo)])) (hE : PassesOwn (model PySem.Challenge.rw_qd0027_02.row.prog w) (callerA.deeper (env607 w.params L' fa cd)) (env607 w.params L' fa cd) E)
    (hQ : ∀ h7 tk7 D am adx an bdx sc as s0 ap aq ar ac l1 lc ws c2 fo' k1 k2 tp ep y1 y2 j1 j2 j3 j4 j5 j6, IntsAre ws (ns.take 40) → fo'.data = .cell (some (.ref D)) → NFo fo' → L' + 1 < D → D < l1 → l1 < lc → lc < adx → adx < am → am < bdx → bdx < an → an < s0 → s0 < sc → sc < as → as < ap → ap < aq → aq < ar → ar < ac → Fr base L' h7 (fun y => if y = Str.ofString "maker" then some (.ref am) else if y = Str.ofString "script" then some (.ref sp) else m y) → News base L' h7 ([] ++ ((L' + 1, fo') :: (ac, dO #[] 0) :: (ar, dO #[] 0) :: (aq, dO #[] 0) :: (ap, dO #[] 0) :: (s0, dO #[] 0) :: (as, dO #[] 0) :: (an, instObj 257 bdx) :: (bdx, namesD w.params y1 y2 sc as) :: (sc, lst [.ref s0]) :: (am, instObj 494 adx) :: (adx, selfD w.params j1 j2 j3 j4 j5 j6 an ap aq ar ac) :: (D, dO (feedD w.params k1 k2 lc 0 tp) ep) :: (lc, W.listOf ws.toArray c2) :: [(l1, W.listOf ws.toArray 0)])) → Q .next { s with heap := h7, toks := tk7 }) :
    wpAny (model PySem.Challenge.rw_qd0027_02.row.prog w) (callerA.deeper (env607 w.params L' fa cd)) (exec ((stmtsO (fun607 w.params).1).headD (.Pass ⟨0, 0, 0, 0⟩)) (env607 w.params L' fa cd)) Q E s := by
  have hE0 := hE
  dsimp only [env607, fun607, stmtsO, scopeO, List.headD] at hE ⊢
  k_steps
  unfold Marked
  refine' disp_led (pairs := [(?k1, ?v1), (?k2, ?v2)]) (frs := []) ?hX ?sh ?h0 ?hl ?hF ?hN ?hh
  case hX => exact X
  case sh => exact rfl
  case h0 => intro z; cases z
  case hl => exact Nat.le_of_ble_eq_true rfl
  case hF => k_asm
  case hN => k_asm
  case hh =>
  intro D h0 F0 N0 l0
  refine evalPairs_cons ?_
  change wpAny _ _ (eval (.Constant (.str (Str.ofString "cells")) 0 ⟨0, 0, 0, 0⟩) (env607 w.params L' fa cd)) _ _ _
  k_steps
  refine wpAny_bind ?_
  k_steps
  rename_i l1 ws h1 hI1 hC hLn ll1 lc c2 h2 F2 N2 ll2
  refine wpAny_bind (wpAny_standAt ?_)
  refine wpAny_pure ?_
  refine evalPairs_cons ?_
  change wpAny _ _ (eval (.Constant (.str (Str.ofString "place")) 0 ⟨0, 0, 0, 0⟩) (env607 w.params L' fa cd)) _ _ _
  k_steps
  refine wpAny_bind ?_
  k_steps
  refine wpAny_bind (wpAny_standAt (wpAny_pure ?_))
  refine evalPairs_nil ?_
  have dl1 : D ≠ l1 := Nat.ne_of_lt ll1.1
  have dlc : D ≠ lc := Nat.ne_of_lt ll2.2.1
  have dL : D ≠ L' + 1 := Nat.ne_of_gt (l0 (L' + 1, fo) (.head _))
  refine ⟨[(Str.ofString "cells", _, .ref lc), (Str.ofString "place", _, .int 0 _)], (lc, W.listOf ws.toArray c2) :: (l1, W.listOf ws.toArray 0) :: [(L' + 1, fo)], h2, _, rfl, Nat.le_of_ble_eq_true rfl, rfl, F2, cut_news N2 (fun q hq => ?_), (fun _ _ h => nomatch h), nkc dlc (nkc dl1 (nkc dL nk0)), fun h3 ep tk3 F3 N3 => ?_⟩
  · exact (show ∀ p ∈ _, p ∈ _ by with_reducible walk_at "LSUB") _ hq
  rw [puts_feed] at N3
  obtain ⟨k1, k2, tp, N4⟩ : ∃ k1 k2 tp, News base L' h3 ([] ++ ((D, dO (feedD w.params k1 k2 lc 0 tp) ep) :: (lc, W.listOf ws.toArray c2) :: (l1, W.listOf ws.toArray 0) :: [(L' + 1, fo)])) := ⟨_, _, _, N3⟩
  clear N3
  k_steps
  unfold Marked
  refine new_kinds w mean mg mb ((D, dO (feedD w.params k1 k2 lc 0 tp) ep) :: (lc, W.listOf ws.toArray c2) :: (l1, W.listOf ws.toArray 0) :: [(L' + 1, fo)]) base L' _ [] _ _ _ _ _ _ _ _ _ [] _ _ _ rfl F3 X T N4 .nil (fun _ _ h => nomatch h) rfl (by decide +kernel) (by decide +kernel) (fun h5 tk5 frs5 am adx an bdx sc as s0 ap aq ar ac y1 y2 j1 j2 j3 j4 j5 j6 se F5 g0 g1 g2 g3 g4 g5 g6 g7 g8 g9 g10 N5 => ?_)
  cases se
  k_steps
  rename_i N6
  have b0 : L' + 1 < adx := g0 (L' + 1, fo) (by with_reducible walk_at "LMEM")
  have b1 : L' + 1 < am := Nat.lt_trans b0 g1
  have b2 : L' + 1 < bdx := Nat.lt_trans b1 g2
  have b3 : L' + 1 < an := Nat.lt_trans b2 g3
  have b4 : L' + 1 < s0 := Nat.lt_trans b3 g4
  have b5 : L' + 1 < sc := Nat.lt_trans b4 g5
  have b6 : L' + 1 < as := Nat.lt_trans b5 g6
  have b7 : L' + 1 < ap := Nat.lt_trans b6 g7
  have b8 : L' + 1 < aq := Nat.lt_trans b7 g8
  have b9 : L' + 1 < ar := Nat.lt_trans b8 g9
  have ba : L' + 1 < ac := Nat.lt_trans b9 g10
  have bD : L' + 1 < D := l0 (L' + 1, fo) (.head _)
  have bl : L' + 1 < l1 := Nat.lt_trans bD ll1.1
  have bc : L' + 1 < lc := Nat.lt_trans bD ll2.2.1
  have hx : L' + 1 ∉ ((ac, dO #[] 0) :: (ar, dO #[] 0) :: (aq, dO #[] 0) :: (ap, dO #[] 0) :: (s0, dO #[] 0) :: (as, dO #[] 0) :: (an, instObj 257 bdx) :: (bdx, namesD w.params y1 y2 sc as) :: (sc, lst [.ref s0]) :: (am, instObj 494 adx) :: (adx, selfD w.params j1 j2 j3 j4 j5 j6 an ap aq ar ac) :: (D, dO (feedD w.params k1 k2 lc 0 tp) ep) :: (lc, W.listOf ws.toArray c2) :: [(l1, W.listOf ws.toArray 0)] : Led).map (·.1) := nkc (Nat.ne_of_lt ba) (nkc (Nat.ne_of_lt b9) (nkc (Nat.ne_of_lt b8) (nkc (Nat.ne_of_lt b7) (nkc (Nat.ne_of_lt b4) (nkc (Nat.ne_of_lt b6) (nkc (Nat.ne_of_lt b3) (nkc (Nat.ne_of_lt b2) (nkc (Nat.ne_of_lt b5) (nkc (Nat.ne_of_lt b1) (nkc (Nat.ne_of_lt b0) (nkc (Nat.ne_of_lt bD) (nkc (Nat.ne_of_lt bc) (nkc (Nat.ne_of_lt bl) nk0)))))))))))))
  show wpAny _ _ (storeName _ _ _) _ _ _
  refine cellsto_led (D := L' + 1) (o := fo) (frs := []) (X := (ac, dO #[] 0) :: (ar, dO #[] 0) :: (aq, dO #[] 0) :: (ap, dO #[] 0) :: (s0, dO #[] 0) :: (as, dO #[] 0) :: (an, instObj 257 bdx) :: (bdx, namesD w.params y1 y2 sc as) :: (sc, lst [.ref s0]) :: (am, instObj 494 adx) :: (adx, selfD w.params j1 j2 j3 j4 j5 j6 an ap aq ar ac) :: (D, dO (feedD w.params k1 k2 lc 0 tp) ep) :: (lc, W.listOf ws.toArray c2) :: [(l1, W.listOf ws.toArray 0)]) (by assumption) (cut_news N6 (fun q hq => ?_)) (fun _ _ h => nomatch h) hx rfl rfl (by rfl) hfo fun h7 fo' hfo' hn7 F7 N7 => ?_
  · exact (show ∀ p ∈ _, p ∈ _ by with_reducible walk_at "LSUB") _ hq
  k_steps
  exact hQ _ _ D am adx an bdx sc as s0 ap aq ar ac l1 lc ws c2 fo' k1 k2 tp ep y1 y2 j1 j2 j3 j4 j5 j6 hI1 hfo' hn7 bD ll1.1 ll2.1 (g0 (lc, W.listOf ws.toArray c2) (.tail _ (.head _))) g1 g2 g3 g4 g5 g6 g7 g8 g9 g10 (by assumption) (by assumption)
end
section -- MLawZ
theorem lawY {w : World} {mean : ExcName → Option Value} {mg mb : Str → Option Value} {fa sp : Addr} {cd : Value} {base : Heap} {L' : Addr} {m : Str → Option Value} {ns : List Int} {s : Shared} {Q : Flow → Shared → Prop} {E : Value → Shared → Prop}
    {D am adx an bdx sc as s0 ap aq ar ac l1 lc : Addr} {ws : List Value} {c2 : Nat} {fo' : Obj} {k1 k2 tp : Tok} {ep : Nat} {y1 y2 j1 j2 j3 j4 j5 j6 : Tok}
    (X : (seed.heap_1 w.params).In base) (T : Top vw (looseW vw lo) mean mg mb base) (hE : PassesOwn (model PySem.Challenge.rw_qd0027_02.row.prog w) (callerA.deeper (env607 w.params L' fa cd)) (env607 w.params L' fa cd) E)
    (hI : IntsAre ws (ns.take 40)) (hfo' : fo'.data = .cell (some (.ref D))) (hn : NFo fo') (g1 : L' + 1 < D) (g2 : D < l1) (g3 : l1 < lc) (g4 : lc < adx) (g5 : adx < am) (g6 : am < bdx) (g7 : bdx < an) (g8 : an < s0) (g9 : s0 < sc) (ga : sc < as) (gb : as < ap) (gc : ap < aq) (gd : aq < ar) (ge : ar < ac)
    (F7 : Fr base L' s.heap (fun y => if y = Str.ofString "maker" then some (.ref am) else if y = Str.ofString "script" then some (.ref sp) else m y))
    (N7 : News base L' s.heap ([] ++ ((L' + 1, fo') :: (ac, dO #[] 0) :: (ar, dO #[] 0) :: (aq, dO #[] 0) :: (ap, dO #[] 0) :: (s0, dO #[] 0) :: (as, dO #[] 0) :: (an, instObj 257 bdx) :: (bdx, namesD w.params y1 y2 sc as) :: (sc, lst [.ref s0]) :: (am, instObj 494 adx) :: (adx, selfD w.params j1 j2 j3 j4 j5 j6 an ap aq ar ac) :: (D, dO (feedD w.params k1 k2 lc ((0 : Nat) : Int) tp) ep) :: (lc, W.listOf ws.toArray c2) :: [(l1, W.listOf ws.toArray 0)])))
    (fin : ∀ h' tk' m', Fr base L' h' m' → Q (.ret (.bool true)) { s with heap := h', toks := tk' }) :
    wpAny (model PySem.Challenge.rw_qd0027_02.row.prog w) (callerA.deeper (env607 w.params L' fa cd)) (execs ((stmtsO (fun607 w.params).1).drop 1) (env607 w.params L' fa cd)) Q E s := by
  have h1 : D < adx := Nat.lt_trans (Nat.lt_trans g2 g3) g4
  have h2 : D < am := Nat.lt_trans h1 g5
  have h3 : D < bdx := Nat.lt_trans h2 g6
  have h4 : D < an := Nat.lt_trans h3 g7
  have h5 : D < s0 := Nat.lt_trans h4 g8
  have h6 : D < sc := Nat.lt_trans h5 g9
  have h7 : D < as := Nat.lt_trans h6 ga
  have h8 : D < ap := Nat.lt_trans h7 gb
  have h9 : D < aq := Nat.lt_trans h8 gc
  have ha : D < ar := Nat.lt_trans h9 gd
  have hb : D < ac := Nat.lt_trans ha ge
  have hnf : NF ((L' + 1, fo') :: (an, instObj 257 bdx) :: (bdx, namesD w.params y1 y2 sc as) :: (sc, lst [.ref s0]) :: (am, instObj 494 adx) :: (adx, selfD w.params j1 j2 j3 j4 j5 j6 an ap aq ar ac) :: [(lc, W.listOf ws.toArray c2)]) :=
    NF.cons hn (NF.cons (.inr fun _ h => nomatch h) (NF.cons (.inr fun _ h => nomatch h) (NF.cons (.inr fun _ h => nomatch h) (NF.cons (.inr fun _ h => nomatch h) (NF.cons (.inr fun _ h => nomatch h) (NF.cons (.inr fun _ h => nomatch h) NF.nil))))))
  refine' lawB1 (w := w) (mean := mean) (mg := mg) (mb := mb) (fd := D) (lc := lc) (am := am) (as := as) (adx := adx) (an := an) (ap := ap) (aq := aq) (ar := ar) (ac := ac) (bdx := bdx) (sc := sc) (s0 := s0) (fa := fa) (cd := cd) (k1 := k1) (k2 := k2) (tp := tp) (j1 := j1) (j2 := j2) (j3 := j3) (j4 := j4) (j5 := j5) (j6 := j6) (y1 := y1) (y2 := y2) (p := 0) (fz := ep) (cz := c2) (qz := 0) (ez := 0) (sn := 0) (q0 := 0) (qes := #[]) (pn := 0) (xs := ws) (ns := ns.take 40) (fo := fo') (base := base) (L' := L') (s := s) (Q := Q) (E := E)
    (m := fun y => if y = Str.ofString "script" then some (.ref sp) else m y)
    (fix := (L' + 1, fo') :: (an, instObj 257 bdx) :: (bdx, namesD w.params y1 y2 sc as) :: (sc, lst [.ref s0]) :: (am, instObj 494 adx) :: (adx, selfD w.params j1 j2 j3 j4 j5 j6 an ap aq ar ac) :: [(lc, W.listOf ws.toArray c2)])
    ?q1 ?q2 ?q3 ?q4 ?q5 ?q6 ?q7 ?q8 ?q9 ?qa hI ?qb ?qc ?qd ?qe ?qf ?qg hfo' ?qh ?qi ?qj ?qk ?ql hE fin
  case q1 => exact .tail _ (.tail _ (.tail _ (.tail _ (.head _))))
  case q2 => exact .tail _ (.tail _ (.tail _ (.tail _ (.tail _ (.head _)))))
  case q3 => exact .tail _ (.head _)
  case q4 => exact .tail _ (.tail _ (.head _))
  case q5 => exact .inr (.tail _ (.tail _ (.tail _ (.head _))))
  case q6 => exact nkc (Nat.ne_of_gt h5) (nkc (Nat.ne_of_lt (Nat.lt_trans g9 ga)) (nkc (Nat.ne_of_lt (Nat.lt_trans (Nat.lt_trans (Nat.lt_trans (Nat.lt_trans (Nat.lt_trans g9 ga) gb) gc) gd) ge)) (nkc (Nat.ne_of_lt (Nat.lt_trans (Nat.lt_trans g9 ga) gb)) (nkc (Nat.ne_of_gt (Nat.lt_trans g1 h5)) (nkc (Nat.ne_of_gt g8) (nkc (Nat.ne_of_gt (Nat.lt_trans g7 g8)) (nkc (Nat.ne_of_lt g9) (nkc (Nat.ne_of_gt (Nat.lt_trans (Nat.lt_trans g6 g7) g8)) (nkc (Nat.ne_of_gt (Nat.lt_trans (Nat.lt_trans (Nat.lt_trans g5 g6) g7) g8)) (nkc (Nat.ne_of_gt (Nat.lt_trans (Nat.lt_trans (Nat.lt_trans (Nat.lt_trans g4 g5) g6) g7) g8)) (nk0)))))))))))
  case q7 => exact nkc (Nat.ne_of_gt h8) (nkc (Nat.ne_of_gt gb) (nkc (Nat.ne_of_lt (Nat.lt_trans (Nat.lt_trans gc gd) ge)) (nkc (Nat.ne_of_gt (Nat.lt_trans g1 h8)) (nkc (Nat.ne_of_gt (Nat.lt_trans (Nat.lt_trans (Nat.lt_trans g8 g9) ga) gb)) (nkc (Nat.ne_of_gt (Nat.lt_trans (Nat.lt_trans (Nat.lt_trans (Nat.lt_trans g7 g8) g9) ga) gb)) (nkc (Nat.ne_of_gt (Nat.lt_trans ga gb)) (nkc (Nat.ne_of_gt (Nat.lt_trans (Nat.lt_trans (Nat.lt_trans (Nat.lt_trans (Nat.lt_trans g6 g7) g8) g9) ga) gb)) (nkc (Nat.ne_of_gt (Nat.lt_trans (Nat.lt_trans (Nat.lt_trans (Nat.lt_trans (Nat.lt_trans (Nat.lt_trans g5 g6) g7) g8) g9) ga) gb)) (nkc (Nat.ne_of_gt (Nat.lt_trans (Nat.lt_trans (Nat.lt_trans (Nat.lt_trans (Nat.lt_trans (Nat.lt_trans (Nat.lt_trans g4 g5) g6) g7) g8) g9) ga) gb)) (nk0))))))))))
  case q8 => exact ⟨by simp, Nat.le_refl _⟩
  case q9 => rfl
  case qa => exact .inr (.tail _ (.tail _ (.tail _ (.tail _ (.tail _ (.tail _ (.head _)))))))
  case qb =>
    rw [List.length_take]
    exact Nat.min_le_left _ _
  case qc => rfl
  case qd => exact nkc (Nat.ne_of_lt h7) (nkc (Nat.ne_of_lt hb) (nkc (Nat.ne_of_gt g1) (nkc (Nat.ne_of_lt h4) (nkc (Nat.ne_of_lt h3) (nkc (Nat.ne_of_lt h6) (nkc (Nat.ne_of_lt h2) (nkc (Nat.ne_of_lt h1) (nkc (Nat.ne_of_lt (Nat.lt_trans g2 g3)) (nk0)))))))))
  case qe => exact nkc (Nat.ne_of_lt (Nat.lt_trans (Nat.lt_trans (Nat.lt_trans gb gc) gd) ge)) (nkc (Nat.ne_of_gt (Nat.lt_trans g1 h7)) (nkc (Nat.ne_of_gt (Nat.lt_trans (Nat.lt_trans g8 g9) ga)) (nkc (Nat.ne_of_gt (Nat.lt_trans (Nat.lt_trans (Nat.lt_trans g7 g8) g9) ga)) (nkc (Nat.ne_of_gt ga) (nkc (Nat.ne_of_gt (Nat.lt_trans (Nat.lt_trans (Nat.lt_trans (Nat.lt_trans g6 g7) g8) g9) ga)) (nkc (Nat.ne_of_gt (Nat.lt_trans (Nat.lt_trans (Nat.lt_trans (Nat.lt_trans (Nat.lt_trans g5 g6) g7) g8) g9) ga)) (nkc (Nat.ne_of_gt (Nat.lt_trans (Nat.lt_trans (Nat.lt_trans (Nat.lt_trans (Nat.lt_trans (Nat.lt_trans g4 g5) g6) g7) g8) g9) ga)) (nk0))))))))
  case qf => exact nkc (Nat.ne_of_gt (Nat.lt_trans g1 hb)) (nkc (Nat.ne_of_gt (Nat.lt_trans (Nat.lt_trans (Nat.lt_trans (Nat.lt_trans (Nat.lt_trans (Nat.lt_trans g8 g9) ga) gb) gc) gd) ge)) (nkc (Nat.ne_of_gt (Nat.lt_trans (Nat.lt_trans (Nat.lt_trans (Nat.lt_trans (Nat.lt_trans (Nat.lt_trans (Nat.lt_trans g7 g8) g9) ga) gb) gc) gd) ge)) (nkc (Nat.ne_of_gt (Nat.lt_trans (Nat.lt_trans (Nat.lt_trans (Nat.lt_trans ga gb) gc) gd) ge)) (nkc (Nat.ne_of_gt (Nat.lt_trans (Nat.lt_trans (Nat.lt_trans (Nat.lt_trans (Nat.lt_trans (Nat.lt_trans (Nat.lt_trans (Nat.lt_trans g6 g7) g8) g9) ga) gb) gc) gd) ge)) (nkc (Nat.ne_of_gt (Nat.lt_trans (Nat.lt_trans (Nat.lt_trans (Nat.lt_trans (Nat.lt_trans (Nat.lt_trans (Nat.lt_trans (Nat.lt_trans (Nat.lt_trans g5 g6) g7) g8) g9) ga) gb) gc) gd) ge)) (nkc (Nat.ne_of_gt (Nat.lt_trans (Nat.lt_trans (Nat.lt_trans (Nat.lt_trans (Nat.lt_trans (Nat.lt_trans (Nat.lt_trans (Nat.lt_trans (Nat.lt_trans (Nat.lt_trans g4 g5) g6) g7) g8) g9) ga) gb) gc) gd) ge)) (nk0)))))))
  case qg => exact .head _
  case qh => exact F7
  case qi => exact X
  case qj => exact T
  case qk =>
    exact cut_news N7 (by with_reducible walk_at "LSUB")
  case ql => exact hnf
theorem cons_of {α : Type} {l : List α} {d : α} (h : l ≠ []) : l = l.headD d :: l.drop 1 := by
  cases l with
  | nil => exact absurd rfl h
  | cons a t => rfl
theorem some607 (P : Params) : stmtsO (fun607 P).1 ≠ [] := by
  dsimp only [fun607, stmtsO]
  exact List.cons_ne_nil _ _
theorem execs_split {prog : Program} {w : World} {A : Around} {env : Env} {l : List Stmt} {d : Stmt} {s : Shared} {Q : Flow → Shared → Prop} {E : Value → Shared → Prop} (h : l ≠ [])
    (k : wpAny (model prog w) A (exec (l.headD d) env) (fun f s' => wpAny (model prog w) A (match f with | .next => execs (l.drop 1) env | g => pure g) Q E s') E s) : wpAny (model prog w) A (execs l env) Q E s := by
  rw [cons_of (d := d) h, arm_execs_cons]
  refine wpAny_bind ?_
  exact k
theorem lawZ {w : World} {mean : ExcName → Option Value} {mg mb : Str → Option Value} {fa sp : Addr} {cd : Value} {fo : Obj} {base : Heap} {L' : Addr} {m : Str → Option Value} {xs : List Value} {ns : List Int} {s : Shared} {Q : Flow → Shared → Prop} {E : Value → Shared → Prop}
    (hL : base.IsList sp xs.toArray) (hns : IntsAre xs ns) (hz : ns.length ≤ 63) (hfo : fo.data = .cell none)
    (F : Fr base L' s.heap (fun y => if y = Str.ofString "script" then some (.ref sp) else m y)) (X : (seed.heap_1 w.params).In base) (T : Top vw (looseW vw lo) mean mg mb base) (N : News base L' s.heap ([] ++ [(L' + 1, fo)])) (hE : PassesOwn (model PySem.Challenge.rw_qd0027_02.row.prog w) (callerA.deeper (env607 w.params L' fa cd)) (env607 w.params L' fa cd) E)
    (fin : ∀ h' tk' m', Fr base L' h' m' → Q (.ret (.bool true)) { s with heap := h', toks := tk' }) :
    wpAny (model PySem.Challenge.rw_qd0027_02.row.prog w) (callerA.deeper (env607 w.params L' fa cd)) (execs (stmtsO (fun607 w.params).1) (env607 w.params L' fa cd)) Q E s := by
  generalize hEN : env607 w.params L' fa cd = EN at hE ⊢
  generalize hS : stmtsO (fun607 w.params).1 = ST
  have hs := some607 w.params
  rw [hS] at hs
  refine execs_split (d := .Pass ⟨0, 0, 0, 0⟩) hs ?_
  have A0 := @lawA0 w mean mg mb fa sp cd fo base L' m xs ns s (fun f s' => wpAny (model PySem.Challenge.rw_qd0027_02.row.prog w) (callerA.deeper EN) (match f with | .next => execs (ST.drop 1) EN | g => pure g) Q E s') E hL hns hz hfo F X T N
  rw [hEN, hS] at A0
  refine A0 hE ?_
  clear A0
  intro h7 tk7 D am adx an bdx sc as s0 ap aq ar ac l1 lc ws c2 fo' k1 k2 tp ep y1 y2 j1 j2 j3 j4 j5 j6 hI hfo' hn g1 g2 g3 g4 g5 g6 g7 g8 g9 ga gb gc gd ge F7 N7
  dsimp only
  subst hS hEN
  exact lawY X T hE hI hfo' hn g1 g2 g3 g4 g5 g6 g7 g8 g9 ga gb gc gd ge F7 N7 fun h' tk' m' F' => fin h' tk' m' F'
end
end
end
end
end
end
end Mine
local macro_rules | `(tactic| k_qdec) => `(tactic| decide +kernel)
theorem PySem.Challenge.cw_qd0027_02_holds : PySem.Challenge.rw_qd0027_02.Holds := by
  w_on
  refine holds_law Mine.said0 fun said => ?_
  refine holds_open (q := Mine.vw) (loose := Mine.lo) (Xt := Mine.Xt0) (XP := XL Mine.vw []) (Yf := Mine.obs1) (Ya := fun w => Mine.ob1 w.params) (YP := Mine.hk0.says) (N := 100000) Mine.left0 Mine.says1 Mine.hk0.keeps (fun s e => xl_of s (Bool.and_eq_true_iff.mp e).1) XL.keeps (by rfl) (by rfl) (by rfl) (fun s e => recFacts_of (Bool.and_eq_true_iff.mp e).2) (by first | rfl | fail "x") (by first | assumption | decide +kernel) Mine.opens0 Mine.bare0 ?hw ?hc
  case hw => w_witness2
  k_go0
  refine' Mine.lawZ ?a1 ?a2 ?a3 ?a4 ?a5 ?a6 ?a7 ?a8 ?a9 ?b1
  case a1 => assumption
  case a2 => assumption
  case a3 => omega
  case a4 => assumption
  case a6 => assumption
  case a7 => assumption
  case a8 => assumption
  case a9 => exact PassesOwn.leaving
  case b1 =>
    intro h' tk' m' F'
    show GoodW _ _ _ _ _ _ _
    wrow_close
  case a5 => assumption
