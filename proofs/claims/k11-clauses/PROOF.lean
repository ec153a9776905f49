import PyProof.Rows.All
import Wide.All
import OpenK.AllK
import Wide.FinOn
import HandS.ForMost
import HandS.ForExc
import HandS.IsInst
import HandS.Style
import HandS.DictComp
import HandS.Zip
import HandS.Conv
import HandS.More
import HandS.TupAny
import HandS.TupMul
import HandS.Lambda
import HandS.ExcIs
import HandS.ExcValue
import HandS.EndTab
import HandS.WordsExc
import HandS.ExcOwn
import HandS.Wide
import HandS.TupLe
import KE.SortData
import KE.SortLaws
import KE.GoesEnum
import PyProof.ReprRoads
import PyProof.CallFns
import PyProof.StrOps2
import PyProof.ReprLen
import HandS.SetFor
import HandS.Strs
import HandS.WrittenGet
import KE.KDictZip
import PyProof.SeqI3
import PyProof.WalkInts
import HandS.Star
import HandS.SetBool
import PySem.Challenge.RW_witnesslog_k11_clauses_of_rows_that_bar
set_option Elab.async false
set_option linter.all false
set_option maxRecDepth 100000
set_option maxHeartbeats 1000000
/-! Z0: defs where nothing is being told of (no repr under way): room with its guards. -/
namespace Zz
open PySem PySem.Spec PyProof.Rows L2

/-- room, and no repr under way -/
structure RoomG (k : Nat) (A : Around) : Prop where
  r : Room k A
  g : A.guards = some []
theorem RoomG.mono {j k : Nat} {A : Around} (h : RoomG k A) (l : j ≤ k) : RoomG j A := ⟨h.r.mono l, h.g⟩
theorem RoomG.deeper {k : Nat} {A : Around} (h : RoomG (k + 1) A) (env : Env) : RoomG k (A.deeper env) := ⟨h.r.deeper env, h.g⟩
theorem RoomG.less {k : Nat} {A : Around} (h : RoomG (k + 1) A) : RoomG k A := h.mono (Nat.le_succ k)
/-- the def at f keeps sp, wherever no repr is under way -/
structure FnG (P : Program) (w : World) (K : PySem.W.Frag) (mg : Str → Option Value) (base : Heap) (CX : CXT) (k : Nat) (f : Addr) (fd : FuncData) (ps : List Str) (sp : Sp) : Prop where
  len : ∀ vs H Q E, sp vs H Q E → vs.length = ps.length
  lk : ∃ oc od osl, K.lookup f = some ⟨oc, od, .func fd, osl⟩
  run : ∀ {A : Around} {outer : List Env} {s : Shared} {H : Hp} {args : Args} {us : List Value} {vs : List V} {Q : VK} {E : XK}, RoomG k A → Env0 P w K mg base A outer s H → BindsTo s fd args (ps.zip us) → Vals vs us → sp vs H Q E →
    codeAny (model P w) A (.call (.ref f) args) (CR CX outer P w H s Q E) s
section
variable {P : Program} {w : World} {K : PySem.W.Frag} {mg : Str → Option Value} {base : Heap}
theorem fnG_of {CX : CXT} {x : Str} {st : Stmt} {f : Addr} {fd : FuncData} {N ps : List Str} {k : Nat} {sp : Sp} (F : Fun K x x st f fd) (S : FnScope N ps (defScope st)) (len : ∀ vs H Q E, sp vs H Q E → vs.length = ps.length)
    (hbody : ∀ (cdv : Value) (A : Around) (outer : List Env) (s : Shared) (H : Hp) (vs : List V) (Q : VK) (E : XK), fd.code = cdv → RoomG k (A.deeper (envOfC x (defScope st) s.heap.objs.size f cdv)) → sp vs H Q E →
      ∃ t, PSs (cxOf CX P w K mg base N x (defScope st) f cdv A outer s H E) (defBody st) t ∧ t { nx := fun _ H' => Q .non H', rt := Q } (L2.start N vs) H) : FnG P w K mg base CX (k + 1) f fd ps sp := by
  obtain ⟨oc, od, kV, doc, pm, an, cdv, ct, osl, rfl, lk, hcd⟩ := F.ex
  refine ⟨len, ⟨_, _, _, lk⟩, fun {A outer s H args us vs Q E} hr e0 hb r h => ?_⟩
  exact LamX.run_ofS lk hcd S hr.r e0 hb r (len _ _ _ _ h) fun hr' => hbody cdv A outer s H vs Q E rfl ⟨hr', hr.g⟩ h
variable {X : Cx} {CX : CXT} {k : Nat} {f : Addr} {fd : FuncData} {ps ks : List Str} {sp : Sp} {E : L2.St → XK} {x : Str} {p pos : Pos} {e : Expr} {es : List Expr} {kws : List Keyword} {t tk : TA}
/-- the def runs; its arguments are bound to us -/
theorem run_G {pins : List (Addr × Obj)} {σ : L2.St} {H : Hp} {s : Shared} {Q : VK} {args : Args} {us : List Value} {vs : List V} {E : XK} (F : FnG X.prog X.w X.K X.mg X.base CX k f fd ps sp) (hr : RoomG k X.A) (hb : BindsTo s fd args (ps.zip us)) (hx : PassesAt CX X σ E)
    (I : Inv X pins σ H s) (r : Vals vs us) (h : sp vs H Q E) : wpAny (model X.prog X.w) X.A (PySem.call (.ref f) args.pos args.kw) (EP X pins σ Q) X.xe s := by
  have c := F.run hr I.env0 hb r h
  refine wpAny_call (codeAny_mono c fun o s' q => ?_)
  match o, q with
  | .error e, q => exact hx pins H s e s' I q
  | .ok (.ret u), q => exact I.after q
/-- x(e, ..) -/
theorem pe_callG (F : FnG X.prog X.w X.K X.mg X.base CX k f fd ps sp) (hr : RoomG k X.A) (hg : Gl X x) (hm : X.mg x = some (.ref f)) (hk : PySem.W.keepIn X.K (.ref f) = true) (hb : Binds X.K fd ps []) (hx : ∀ σ, PassesAt CX X σ (E σ)) (ha : PA X (e :: es) t)
    (hdb : (x == ("__debug__" : Str)) = false := by decide) (he : starEach (e :: es) X.env = (false, eval e X.env) :: starEach es X.env := by rfl) (hpl : (backTo pos (starEach es X.env)).any (·.1) = false := by rfl) : PE X (.Call (.Name x p) (e :: es) [] pos) (tCallS sp E t) :=
  ⟨fun pins s σ H Q I h => wpAny_Call_Name_kw (ld_glob I hg hm (PySem.W.callWith_K (h₀ := X.base) I.ok.mod.kin hk (thn (ha.run pos pins s σ H _ I h) fun us s1 ⟨vs, H1, I1, r, q⟩ => ⟨I1.kIn, by
    have b := hb s1 us I1.kIn (by rw [List.append_nil, ← r.length]; exact F.len _ _ _ _ q)
    rw [List.append_nil] at b
    exact run_G (args := ⟨us, []⟩) F hr b (hx σ) I1 r q⟩) he hpl) hdb)⟩
/-! ### keywords -/
def pmV {α : Type} (pm : List Nat) (l : List α) : List α := pm.filterMap fun i => l[i]?
theorem vals_pm {vs : List V} {us : List Value} (r : Vals vs us) : ∀ pm : List Nat, Vals (pmV pm vs) (pmV pm us)
  | [] => .nil
  | i :: pm => by
    have ih := vals_pm r pm
    unfold pmV at ih ⊢
    cases e : vs[i]? with
    | none =>
      have e2 : us[i]? = none := by
        rw [List.getElem?_eq_none_iff] at e ⊢
        rw [← r.length]; exact e
      simp only [List.filterMap_cons, e, e2]; exact ih
    | some v =>
      obtain ⟨u, e2, r2⟩ := r.get e
      simp only [List.filterMap_cons, e, e2]
      exact .cons r2 ih
/-- how x's keywords ks, behind n plain arguments, are bound -/
def KwB (K : PySem.W.Frag) (mg : Str → Option Value) (x : Str) (n : Nat) (ks : List Str) (pm : List Nat) : Prop := ∃ f fd oc od osl, mg x = some (.ref f) ∧ K.lookup f = some ⟨oc, od, .func fd, osl⟩ ∧
  ∀ us ws : List Value, us.length = n → ws.length = ks.length → bindArgs fd ⟨us, ks.zip ws⟩ = bindArgs fd ⟨pmV pm (us ++ ws), []⟩
theorem kwB_mk {x : Str} {st : Stmt} {f : Addr} {fd : FuncData} {n : Nat} {pm : List Nat} (F : Fun K x x st f fd) (hm : mg x = some (.ref f)) (h : ∀ (kV doc pm' : Value) (an : Option Addr) (cdv ct : Value) (us ws : List Value), us.length = n → ws.length = ks.length →
    bindArgs (PySem.W.fnOf x x (defArgs st) (defBody st) (defScope st) .none kV doc pm' an cdv ct) ⟨us, ks.zip ws⟩ = bindArgs (PySem.W.fnOf x x (defArgs st) (defBody st) (defScope st) .none kV doc pm' an cdv ct) ⟨pmV pm (us ++ ws), []⟩) : KwB K mg x n ks pm := by
  obtain ⟨oc, od, kV, doc, pm', an, cdv, ct, osl, rfl, lk, hcd⟩ := F.ex
  exact ⟨f, _, _, _, _, hm, lk, h kV doc pm' an cdv ct⟩
def tCallKw (n m : Nat) (pm : List Nat) (sp : Sp) (E : L2.St → XK) (t tk : TA) : TE := fun σ H Q => t σ H fun vs H1 => tk σ H1 fun zs H2 => vs.length = n ∧ zs.length = m ∧ sp (pmV pm (vs ++ zs)) H2 Q (E σ)
variable {n : Nat} {pm : List Nat}
theorem kw_run {pins : List (Addr × Obj)} {σ : L2.St} {H : Hp} {s : Shared} {Q : VK} {us ws : List Value} {vs zs : List V} {E : XK} (F : FnG X.prog X.w X.K X.mg X.base CX k f fd ps sp) (kb : KwB X.K X.mg x n ks pm) (hm : X.mg x = some (.ref f)) (hr : RoomG k X.A) (hb : Binds X.K fd ps []) (hx : PassesAt CX X σ E)
    (I : Inv X pins σ H s) (r : Vals vs us) (rz : Vals zs ws) (h1 : vs.length = n) (h2 : zs.length = ks.length) (h : sp (pmV pm (vs ++ zs)) H Q E) : wpAny (model X.prog X.w) X.A (PySem.call (.ref f) us (ks.zip ws)) (EP X pins σ Q) X.xe s := by
  obtain ⟨f', fd', oc, od, osl, m1, l1, hbd⟩ := kb
  rw [hm] at m1; cases m1
  obtain ⟨oc', od', osl', l2⟩ := F.lk
  rw [l1] at l2; cases l2
  have r2 := vals_pm (r.append rz) pm
  have b := hb s (pmV pm (us ++ ws)) I.kIn (by rw [List.append_nil, ← r2.length]; exact F.len _ _ _ _ h)
  rw [List.append_nil] at b
  have e := hbd us ws (by rw [← r.length]; exact h1) (by rw [← rz.length]; exact h2)
  have b2 : BindsTo s fd ⟨us, ks.zip ws⟩ (ps.zip (pmV pm (us ++ ws))) := by
    unfold BindsTo at b ⊢
    rw [e]; exact b
  exact run_G (args := ⟨us, ks.zip ws⟩) F hr b2 hx I r2 h
/-- x(k = e, ..) -/
theorem pe_callKG0 (F : FnG X.prog X.w X.K X.mg X.base CX k f fd ps sp) (kb : KwB X.K X.mg x 0 ks pm) (hr : RoomG k X.A) (hg : Gl X x) (hm : X.mg x = some (.ref f)) (hk : PySem.W.keepIn X.K (.ref f) = true) (hb : Binds X.K fd ps []) (hx : ∀ σ, PassesAt CX X σ (E σ)) (ha : PK X kws tk)
    (hks : (backToKw pos (keywordEach kws X.env)).filterMap (·.1) = ks := by rfl) (hall : (backToKw pos (keywordEach kws X.env)).all (·.1.isSome) = true := by rfl) (hdb : (x == ("__debug__" : Str)) = false := by decide)
    (hpl : ((backTo pos (starEach [] X.env)).any (·.1) || (backToKw pos (keywordEach kws X.env)).any (·.1.isNone)) = false := by rfl) : PE X (.Call (.Name x p) [] kws pos) (tCallKw 0 ks.length pm sp E tNil tk) :=
  ⟨fun pins s σ H Q I h => wpAny_Call_Name_kw (ld_glob I hg hm (PySem.W.callWith_KW0 (h₀ := X.base) I.ok.mod.kin hk hall (thn (ha.run pos pins s σ H _ I h) fun ws s2 ⟨zs, H2, I2, rz, _, l2, q⟩ => ⟨I2.kIn, by
    rw [hks]
    exact kw_run (us := []) F kb hm hr hb (hx σ) I2 .nil rz rfl l2 q⟩) hpl) hdb)⟩
/-- x(e, .., k = e, ..) -/
theorem pe_callKG (F : FnG X.prog X.w X.K X.mg X.base CX k f fd ps sp) (kb : KwB X.K X.mg x n ks pm) (hr : RoomG k X.A) (hg : Gl X x) (hm : X.mg x = some (.ref f)) (hk : PySem.W.keepIn X.K (.ref f) = true) (hb : Binds X.K fd ps []) (hx : ∀ σ, PassesAt CX X σ (E σ)) (ht : PA X (e :: es) t) (ha : PK X kws tk)
    (hks : (backToKw pos (keywordEach kws X.env)).filterMap (·.1) = ks := by rfl) (hall : (backToKw pos (keywordEach kws X.env)).all (·.1.isSome) = true := by rfl) (hdb : (x == ("__debug__" : Str)) = false := by decide)
    (he : starEach (e :: es) X.env = (false, eval e X.env) :: starEach es X.env := by rfl) (hpl : ((backTo pos (starEach (e :: es) X.env)).any (·.1) || (backToKw pos (keywordEach kws X.env)).any (·.1.isNone)) = false := by rfl) : PE X (.Call (.Name x p) (e :: es) kws pos) (tCallKw n ks.length pm sp E t tk) :=
  ⟨fun pins s σ H Q I h => wpAny_Call_Name_kw (ld_glob I hg hm (PySem.W.callWith_KW (h₀ := X.base) I.ok.mod.kin hk hall (thn (ht.run pos pins s σ H _ I h) fun us s1 ⟨vs, H1, I1, r, q1⟩ => thn (ha.run pos pins s1 σ H1 _ I1 q1) fun ws s2 ⟨zs, H2, I2, rz, l1, l2, q⟩ => ⟨I2.kIn, by
    rw [hks]
    exact kw_run F kb hm hr hb (hx σ) I2 r rz l1 l2 q⟩) hpl he) hdb)⟩
end
end Zz

set_option Elab.async false
set_option linter.all false
set_option maxRecDepth 100000
set_option maxHeartbeats 1000000
/-! Z1: pure data over the hand layer; what is changed stands in a small map, all else is a value. -/
namespace Zz
open PySem L2

/-- a lambda as it is written -/
structure LamN where
  params : Arguments
  body : Expr
  scope : Scope
/-- the object of a lambda -/
def LamO (q : Str) (n : LamN) (clo : List (Str × Addr)) (a c' : Addr) : HO := .ext fun h => ∃ pm ctv : Value, h.get? a = some (PySem.W.kla_obj "<lambda>" q n.params n.body n.scope clo pm c' ctv)
/-- pure data; ref: an address (of a cell of the map, of a def, of a class) -/
inductive D where
  | non | bl (b : Bool) | int (i : Int) | str (x : Str)
  | tup (xs : List D) | lst (xs : List D)
  | dic (ks : List Key) (ds : List D) | dct (ks : List (List Key)) (ds : List D)
  | ref (a : Addr) | ty (n : String)
  | kls (K : PySem.W.Frag) (a : Addr) (ns : List Int)
  | err (cl : Addr) (ks : List Str) (ds : List D)
  | exc (cl : Addr) (ks : List Str) (ds : List D)
  | lam (cells : List (Str × Addr)) (q : Str) (n : LamN)
/-- a caught error, kept -/
def ErrO (cl : Addr) (d : Option Addr) (a : Addr) : HO := .ext fun h => ∃ (oe : Obj) (vs : Array Value), h.get? a = some oe ∧ Zc (.ref cl) d oe ∧ oe.data = .fields vs
/-- a list of ints of the written part -/
def KLst (K : PySem.W.Frag) (a : Addr) (ns : List Int) : Prop := ∃ (o : Obj) (its : Array Value) (n : Nat), K.lookup a = some o ∧ o.cls = .type "list" ∧ o.dict = none ∧ o.data = .seq its n ∧ its.size ≤ sizeLine ∧ Vals (ns.map V.int) its.toList
/-- what may change -/
inductive C where
  | lst (xs : List D) | dic (kvs : List (Key × D)) | dct (kvs : List (List Key × D))
  | ins (cl dx : Addr) (fs : List (Str × D))
  | hid (o : Addr) | draw (b : Nat) | tab (q : Str)
abbrev MM := Addr → Option C
def mu (M : MM) (a : Addr) (c : C) : MM := fun b => if b = a then some c else M b
theorem mu_same {M : MM} {a : Addr} {c : C} : mu M a c a = some c := by unfold mu; rw [if_pos rfl]
theorem mu_ne {M : MM} {a b : Addr} {c : C} (h : b ≠ a) : mu M a c b = M b := by unfold mu; rw [if_neg h]
theorem mu_mu {M : MM} {a : Addr} {c e : C} : mu (mu M a c) a e = mu M a e := by
  funext b; unfold mu; split <;> rfl
theorem mu_self {M : MM} {a : Addr} {c : C} (h : M a = some c) : mu M a c = M := by
  funext b; unfold mu; split
  · next e => rw [e, h]
  · rfl
theorem mu_comm {M : MM} {a b : Addr} {c e : C} (h : a ≠ b) : mu (mu M a c) b e = mu (mu M b e) a c := by
  funext x; unfold mu
  by_cases h1 : x = a
  · subst h1; rw [if_neg h, if_pos rfl, if_pos rfl]
  · rw [if_neg h1, if_neg h1]

/-- an untracked tuple, list -/
def FzT (G : Addr → Prop) (M : MM) (H : Hp) (a : Addr) (vs : List V) : Prop := H a = some (.tup vs) ∧ M a = none ∧ ¬ G a
def FzL (G : Addr → Prop) (M : MM) (H : Hp) (a : Addr) (vs : List V) : Prop := H a = some (.lst vs) ∧ M a = none ∧ ¬ G a
/-- a list of ints that is only read -/
def RdL (G : Addr → Prop) (M : MM) (H : Hp) (a : Addr) (ns : List Int) : Prop := (∃ u, H a = some u ∧ (u = .lst (ns.map V.int) ∨ ∃ o, u = .frz o (.lst (ns.map V.int)))) ∧ M a = none ∧ ¬ G a
/-- an error that is kept, its attributes -/
def ErrAt (G : Addr → Prop) (M : MM) (H : Hp) (a cl : Addr) (d : Option Addr) : Prop := H a = some (ErrO cl d a) ∧ M a = none ∧ ¬ G a
def XdAt (G : Addr → Prop) (M : MM) (H : Hp) : Option Addr → List (Str × V) → Prop
  | none, ws => ws = []
  | some dx, ws => H dx = some (.xd ws) ∧ M dx = none ∧ ¬ G dx ∧ ws ≠ []
mutual
/-- v stands for d -/
def Rep (G : Addr → Prop) (M : MM) (H : Hp) : D → V → Prop
  | .non, v => v = .non
  | .bl b, v => v = .bl b
  | .int i, v => v = .int i
  | .str x, v => v = .str x
  | .tup xs, v => ∃ a vs, v = .ref a ∧ FzT G M H a vs ∧ vs.length ≤ sizeLine ∧ Reps G M H xs vs
  | .lst xs, v => ∃ a vs, v = .ref a ∧ FzL G M H a vs ∧ vs.length ≤ sizeLine ∧ Reps G M H xs vs
  | .dic ks ds, v => ∃ a, ∃ kvs : List (Key × V), v = .ref a ∧ (M a = none ∧ ¬ G a) ∧ H a = some (.dK kvs) ∧ kvs.map (·.1) = ks ∧ Reps G M H ds (kvs.map (·.2))
  | .dct ks ds, v => ∃ a, ∃ kvs : List (List Key × V), v = .ref a ∧ (M a = none ∧ ¬ G a) ∧ H a = some (.dT kvs) ∧ kvs.map (·.1) = ks ∧ Reps G M H ds (kvs.map (·.2))
  | .ref a, v => v = .ref a
  | .ty n, v => v = .ty n
  | .kls K a ns, v => v = .ref a ∧ ns.length ≤ 1000 ∧ (RdL G M H a ns ∨ KLst K a ns)
  | .err cl ks ds, v => ∃ a d, ∃ ws : List (Str × V), v = .ref a ∧ ErrAt G M H a cl d ∧ XdAt G M H d ws ∧ ws.map (·.1) = ks ∧ Reps G M H ds (ws.map (·.2))
  | .exc _ _ _, _ => False
  | .lam cells q n, v => ∃ a c', v = .ref a ∧ (H a = some (LamO q n (cloFrom cells n.scope.names []) a c') ∧ M a = none ∧ ¬ G a) ∧ (H c' = some (LamX.CodeO c' q) ∧ M c' = none ∧ ¬ G c')
def Reps (G : Addr → Prop) (M : MM) (H : Hp) : List D → List V → Prop
  | [], vs => vs = []
  | d :: ds, vs => ∃ v r, vs = v :: r ∧ Rep G M H d v ∧ Reps G M H ds r
end
/-- what is known and not tracked stays, and what is set aside -/
def ExA (G : Addr → Prop) (M : MM) (H : Hp) (M' : MM) (H' : Hp) : Prop := ∀ a o, H a = some o → M a = none → ¬ G a → H' a = some o ∧ M' a = none
def Ex (G : Addr → Prop) (M : MM) (H : Hp) (M' : MM) (H' : Hp) : Prop := ExA G M H M' H' ∧ ∀ a, G a → H' a = H a
section
variable {G : Addr → Prop} {M M' M2 : MM} {H H' H2 : Hp}
theorem Ex.refl : Ex G M H M H := ⟨fun _ _ h n _ => ⟨h, n⟩, fun _ _ => rfl⟩
theorem Ex.trans (e : Ex G M H M' H') (e2 : Ex G M' H' M2 H2) : Ex G M H M2 H2 := ⟨fun a o h n g => let ⟨h1, n1⟩ := e.1 a o h n g; e2.1 a o h1 n1 g, fun a g => (e2.2 a g).trans (e.2 a g)⟩
theorem ExA.trans (e : ExA G M H M' H') (e2 : ExA G M' H' M2 H2) : ExA G M H M2 H2 := fun a o h n g => let ⟨h1, n1⟩ := e a o h n g; e2 a o h1 n1 g
theorem FzT.mono1 {a : Addr} {vs : List V} (e : ExA G M H M' H') (h : FzT G M H a vs) : FzT G M' H' a vs := ⟨(e a _ h.1 h.2.1 h.2.2).1, (e a _ h.1 h.2.1 h.2.2).2, h.2.2⟩
theorem FzL.mono1 {a : Addr} {vs : List V} (e : ExA G M H M' H') (h : FzL G M H a vs) : FzL G M' H' a vs := ⟨(e a _ h.1 h.2.1 h.2.2).1, (e a _ h.1 h.2.1 h.2.2).2, h.2.2⟩
theorem ErrAt.mono1 {a cl : Addr} {d : Option Addr} (e : ExA G M H M' H') (h : ErrAt G M H a cl d) : ErrAt G M' H' a cl d := ⟨(e a _ h.1 h.2.1 h.2.2).1, (e a _ h.1 h.2.1 h.2.2).2, h.2.2⟩
theorem XdAt.mono1 {ws : List (Str × V)} (e : ExA G M H M' H') : ∀ {d : Option Addr}, XdAt G M H d ws → XdAt G M' H' d ws
  | none, h => h
  | some _, h => ⟨(e _ _ h.1 h.2.1 h.2.2.1).1, (e _ _ h.1 h.2.1 h.2.2.1).2, h.2.2⟩
theorem RdL.mono1 {a : Addr} {ns : List Int} (e : ExA G M H M' H') (h : RdL G M H a ns) : RdL G M' H' a ns := by
  obtain ⟨⟨u, h1, h2⟩, h3, h4⟩ := h
  have := e a u h1 h3 h4
  exact ⟨⟨u, this.1, h2⟩, this.2, h4⟩
mutual
theorem Rep.mono1 (e : ExA G M H M' H') : ∀ (d : D) (v : V), Rep G M H d v → Rep G M' H' d v
  | .non, _, h => h
  | .bl _, _, h => h
  | .int _, _, h => h
  | .str _, _, h => h
  | .tup xs, v, h => by
    obtain ⟨a, vs, h1, h2, h3, h4⟩ := h
    exact ⟨a, vs, h1, h2.mono1 e, h3, Reps.mono1 e xs vs h4⟩
  | .lst xs, v, h => by
    obtain ⟨a, vs, h1, h2, h3, h4⟩ := h
    exact ⟨a, vs, h1, h2.mono1 e, h3, Reps.mono1 e xs vs h4⟩
  | .dic ks ds, v, h => by
    obtain ⟨a, kvs, h1, h2, h3, h4, h5⟩ := h
    have q := e _ _ h3 h2.1 h2.2
    exact ⟨a, kvs, h1, ⟨q.2, h2.2⟩, q.1, h4, Reps.mono1 e ds _ h5⟩
  | .dct ks ds, v, h => by
    obtain ⟨a, kvs, h1, h2, h3, h4, h5⟩ := h
    have q := e _ _ h3 h2.1 h2.2
    exact ⟨a, kvs, h1, ⟨q.2, h2.2⟩, q.1, h4, Reps.mono1 e ds _ h5⟩
  | .ref _, _, h => h
  | .ty _, _, h => h
  | .kls K a ns, v, h => ⟨h.1, h.2.1, h.2.2.imp (fun q => q.mono1 e) id⟩
  | .err cl ks ds, v, h => by
    obtain ⟨a, d, ws, h1, h2, h3, h4, h5⟩ := h
    exact ⟨a, d, ws, h1, h2.mono1 e, h3.mono1 e, h4, Reps.mono1 e ds _ h5⟩
  | .exc _ _ _, _, h => h
  | .lam _ _ _, _, h => by
    obtain ⟨a, c', h1, h2, h3⟩ := h
    exact ⟨a, c', h1, ⟨(e a _ h2.1 h2.2.1 h2.2.2).1, (e a _ h2.1 h2.2.1 h2.2.2).2, h2.2.2⟩, ⟨(e c' _ h3.1 h3.2.1 h3.2.2).1, (e c' _ h3.1 h3.2.1 h3.2.2).2, h3.2.2⟩⟩
theorem Reps.mono1 (e : ExA G M H M' H') : ∀ (ds : List D) (vs : List V), Reps G M H ds vs → Reps G M' H' ds vs
  | [], _, h => h
  | d :: ds, vs, h => by
    obtain ⟨v, r, h1, h2, h3⟩ := h
    exact ⟨v, r, h1, Rep.mono1 e d v h2, Reps.mono1 e ds r h3⟩
end
theorem Rep.mono (e : Ex G M H M' H') {d : D} {v : V} (h : Rep G M H d v) : Rep G M' H' d v := Rep.mono1 e.1 d v h
theorem Reps.mono (e : Ex G M H M' H') {d : List D} {v : List V} (h : Reps G M H d v) : Reps G M' H' d v := Reps.mono1 e.1 d v h
theorem Reps.length : ∀ {ds : List D} {vs : List V}, Reps G M H ds vs → ds.length = vs.length
  | [], _, h => by have e : _ = [] := h; rw [e]; rfl
  | d :: ds, vs, h => by
    obtain ⟨v, r, rfl, _, h3⟩ := h
    simp [Reps.length h3]
theorem Reps.get : ∀ {ds : List D} {vs : List V} {i : Nat} {d : D}, Reps G M H ds vs → ds[i]? = some d → ∃ v, vs[i]? = some v ∧ Rep G M H d v
  | [], _, _, _, _, e => by simp at e
  | d :: ds, vs, 0, d', h, e => by
    obtain ⟨v, r, rfl, h2, _⟩ := h
    simp at e; subst e
    exact ⟨v, rfl, h2⟩
  | d :: ds, vs, i + 1, d', h, e => by
    obtain ⟨v, r, rfl, _, h3⟩ := h
    obtain ⟨w, h1, h2⟩ := Reps.get (i := i) h3 (by simpa using e)
    exact ⟨w, by simpa using h1, h2⟩
theorem Reps.back : ∀ {ds : List D} {vs : List V} {i : Nat} {v : V}, Reps G M H ds vs → vs[i]? = some v → ∃ d, ds[i]? = some d ∧ Rep G M H d v
  | [], _, _, _, h, e => by have e1 : _ = [] := h; rw [e1] at e; simp at e
  | d :: ds, vs, 0, v', h, e => by
    obtain ⟨v, r, rfl, h2, _⟩ := h
    simp at e; subst e
    exact ⟨d, rfl, h2⟩
  | d :: ds, vs, i + 1, v', h, e => by
    obtain ⟨v, r, rfl, _, h3⟩ := h
    obtain ⟨w, h1, h2⟩ := Reps.back (i := i) h3 (by simpa using e)
    exact ⟨w, by simpa using h1, h2⟩
theorem Reps.cons {d : D} {v : V} {ds : List D} {vs : List V} (h : Rep G M H d v) (hs : Reps G M H ds vs) : Reps G M H (d :: ds) (v :: vs) := ⟨v, vs, rfl, h, hs⟩
theorem Reps.nil : Reps G M H [] [] := rfl
theorem Reps.append : ∀ {ds es : List D} {vs ws : List V}, Reps G M H ds vs → Reps G M H es ws → Reps G M H (ds ++ es) (vs ++ ws)
  | [], _, _, _, h, h' => by have e : _ = [] := h; rw [e]; exact h'
  | d :: ds, es, vs, ws, h, h' => by
    obtain ⟨v, r, rfl, h2, h3⟩ := h
    exact ⟨v, r ++ ws, rfl, h2, Reps.append h3 h'⟩
theorem Reps.set : ∀ {ds : List D} {vs : List V} {d : D} {v : V} (i : Nat), Reps G M H ds vs → Rep G M H d v → Reps G M H (ds.set i d) (vs.set i v)
  | [], _, _, _, i, h, _ => by have e : _ = [] := h; rw [e]; exact rfl
  | x :: ds, vs, d, v, 0, h, hd => by
    obtain ⟨w, r, rfl, h2, h3⟩ := h
    exact ⟨v, r, rfl, hd, h3⟩
  | x :: ds, vs, d, v, i + 1, h, hd => by
    obtain ⟨w, r, rfl, h2, h3⟩ := h
    exact ⟨w, _, rfl, h2, Reps.set i h3 hd⟩
theorem Reps.take : ∀ {ds : List D} {vs : List V} (i : Nat), Reps G M H ds vs → Reps G M H (ds.take i) (vs.take i)
  | [], _, i, h => by have e : _ = [] := h; rw [e]; simp; exact rfl
  | x :: ds, vs, 0, h => by simp; exact rfl
  | x :: ds, vs, i + 1, h => by
    obtain ⟨w, r, rfl, h2, h3⟩ := h
    exact ⟨w, _, rfl, h2, Reps.take i h3⟩
theorem Reps.drop : ∀ {ds : List D} {vs : List V} (i : Nat), Reps G M H ds vs → Reps G M H (ds.drop i) (vs.drop i)
  | [], _, i, h => by have e : _ = [] := h; rw [e]; simp; exact rfl
  | x :: ds, vs, 0, h => h
  | x :: ds, vs, i + 1, h => by
    obtain ⟨w, r, rfl, h2, h3⟩ := h
    exact Reps.drop i h3
end
end Zz

set_option Elab.async false
set_option linter.all false
set_option maxRecDepth 100000
set_option maxHeartbeats 1000000
/-! Z2: cells, states, the lifted readings. -/
namespace Zz
open PySem L2

def kS (x : Str) : Key := Sum.inr x
/-- a law's drawing state: b draws may still come -/
def DrawOk (G : Addr → Prop) (M : MM) (H : Hp) (st : Addr) (b : Nat) : Prop := ∃ (lp cp : Addr) (large cells : List Int) (left turn : Int),
  H st = some (.dK [(kS "large", .ref lp), (kS "cells", .ref cp), (kS "left", .int left), (kS "turn", .int turn)]) ∧ M lp = some (.hid st) ∧ H lp = some (.lst (large.map V.int)) ∧
    (M cp = none ∧ ¬ G cp) ∧ H cp = some (.lst (cells.map V.int)) ∧ 0 ≤ left ∧ (∀ x, x ∈ large → 0 ≤ x) ∧ (∀ x, x ∈ cells → 0 ≤ x) ∧ 0 ≤ turn ∧ turn + b ≤ 70368744177664 ∧ large.length ≤ 63 ∧ cells.length ≤ 63
/-- a table of code objects -/
def TabOk (G : Addr → Prop) (M : MM) (H : Hp) (P : Addr) (q : Str) : Prop := ∃ ps : Array Value, H P = some (.tbl ps) ∧ TriplesOk ps.toList ∧ ∀ (pos : Pos) (cv : Value), codeAmong pos ps.toList = some cv → ∃ c, cv = .ref c ∧ H c = some (LamX.CodeO c q) ∧ M c = none ∧ ¬ G c
/-- what a cell says of its address -/
def RepC (G : Addr → Prop) (M : MM) (H : Hp) (a : Addr) : C → Prop
  | .lst xs => ∃ vs, H a = some (.lst vs) ∧ vs.length ≤ sizeLine ∧ Reps G M H xs vs
  | .dic kvs => ∃ ws : List (Key × V), H a = some (.dK ws) ∧ ws.map (·.1) = kvs.map (·.1) ∧ Reps G M H (kvs.map (·.2)) (ws.map (·.2))
  | .dct kvs => ∃ ws : List (List Key × V), H a = some (.dT ws) ∧ ws.map (·.1) = kvs.map (·.1) ∧ Reps G M H (kvs.map (·.2)) (ws.map (·.2))
  | .ins cl dx fs => ∃ ws : List (Str × V), H a = some (.ins cl dx ws) ∧ ws.map (·.1) = fs.map (·.1) ∧ Reps G M H (fs.map (·.2)) (ws.map (·.2))
  | .hid _ => ∃ o, H a = some o
  | .draw b => DrawOk G M H a b
  | .tab q => TabOk G M H a q
def RelM (G : Addr → Prop) (M : MM) (H : Hp) : Prop := (∀ a c, M a = some c → RepC G M H a c) ∧ ∀ a, G a → M a = none ∧ ∃ o, H a = some o
section
variable {G : Addr → Prop} {M M' M2 : MM} {H H' H2 : Hp} {a : Addr}
theorem RepC.there {c : C} (h : RepC G M H a c) : ∃ o, H a = some o := by
  cases c with
  | lst xs => obtain ⟨vs, e, _⟩ := h; exact ⟨_, e⟩
  | dic kvs => obtain ⟨vs, e, _⟩ := h; exact ⟨_, e⟩
  | dct kvs => obtain ⟨vs, e, _⟩ := h; exact ⟨_, e⟩
  | ins cl dx fs => obtain ⟨vs, e, _⟩ := h; exact ⟨_, e⟩
  | hid _ => exact h
  | draw b => obtain ⟨_, _, _, _, _, _, e, _⟩ := h; exact ⟨_, e⟩
  | tab q => obtain ⟨ps, e, _⟩ := h; exact ⟨_, e⟩
theorem RelM.fresh (r : RelM G M H) (h : H a = none) : M a = none := by
  cases e : M a with
  | none => rfl
  | some c =>
    obtain ⟨o, q⟩ := (r.1 a c e).there
    rw [h] at q; cases q
/-- a cell under a change elsewhere -/
theorem RepC.mono1 {b : Addr} {c : C} (e : ExA G M H M' H') (h : RepC G M H b c) (hb : H' b = H b) (hh : ∀ x, M x = some (.hid b) → M' x = some (.hid b) ∧ H' x = H x) : RepC G M' H' b c := by
  cases c with
  | lst xs => obtain ⟨vs, q, l, r⟩ := h; exact ⟨vs, hb.trans q, l, Reps.mono1 e _ _ r⟩
  | dic kvs => obtain ⟨vs, q, l, r⟩ := h; exact ⟨vs, hb.trans q, l, Reps.mono1 e _ _ r⟩
  | dct kvs => obtain ⟨vs, q, l, r⟩ := h; exact ⟨vs, hb.trans q, l, Reps.mono1 e _ _ r⟩
  | ins cl dx fs => obtain ⟨vs, q, l, r⟩ := h; exact ⟨vs, hb.trans q, l, Reps.mono1 e _ _ r⟩
  | hid _ => obtain ⟨o, q⟩ := h; exact ⟨o, hb.trans q⟩
  | draw n =>
    obtain ⟨lp, cp, large, cells, left, turn, q1, q2, q3, q4, q5, q⟩ := h
    exact ⟨lp, cp, large, cells, left, turn, hb.trans q1, (hh lp q2).1, (hh lp q2).2.trans q3, ⟨(e cp _ q5 q4.1 q4.2).2, q4.2⟩, (e cp _ q5 q4.1 q4.2).1, q⟩
  | tab q =>
    obtain ⟨ps, q1, q2, q3⟩ := h
    refine ⟨ps, hb.trans q1, q2, fun pos cv hc => ?_⟩
    obtain ⟨c, r1, r2, r3, r4⟩ := q3 pos cv hc
    exact ⟨c, r1, (e c _ r2 r3 r4).1, (e c _ r2 r3 r4).2, r4⟩
theorem RepC.mono {b : Addr} {c : C} (e : Ex G M H M' H') (h : RepC G M H b c) (hb : H' b = H b) (hh : ∀ x, M x = some (.hid b) → M' x = some (.hid b) ∧ H' x = H x) : RepC G M' H' b c := h.mono1 e.1 hb hh
theorem RelM.noG (r : RelM G M H) (h : H a = none) : ¬ G a := fun g => by
  obtain ⟨_, o, q⟩ := r.2 a g
  rw [h] at q; cases q
/-- a new thing that is not tracked -/
theorem ex_new {p : Addr} {o : HO} (r : RelM G M H) (hp : H p = none) : Ex G M H M (upd H p o) := ⟨fun a u h n g => by
  have : a ≠ p := ne_of_none h hp
  exact ⟨by rw [upd_ne this]; exact h, n⟩, fun a g => upd_ne fun q => r.noG hp (q ▸ g)⟩
theorem rel_new {p : Addr} {o : HO} (r : RelM G M H) (hp : H p = none) : RelM G M (upd H p o) := ⟨fun a c h => by
  have hM := r.fresh hp
  have ne : ∀ x c', M x = some c' → x ≠ p := fun x c' hx q => by rw [q, hM] at hx; cases hx
  exact (r.1 a c h).mono (ex_new r hp) (upd_ne (ne a c h)) fun x hx => ⟨hx, upd_ne (ne x _ hx)⟩, fun a g => by
    obtain ⟨h1, u, h2⟩ := r.2 a g
    exact ⟨h1, u, by rw [upd_ne (ne_of_none h2 hp)]; exact h2⟩⟩
/-- a cell written, or new -/
theorem ex_put {p : Addr} {o : HO} {c : C} (r : RelM G M H) (hp : H p = none ∨ M p ≠ none) : Ex G M H (mu M p c) (upd H p o) := ⟨fun a u h n g => by
  have : a ≠ p := fun q => by
    rcases hp with hp | hp
    · rw [q, hp] at h; cases h
    · exact hp (q ▸ n)
  exact ⟨by rw [upd_ne this]; exact h, by rw [mu_ne this]; exact n⟩, fun a g => upd_ne fun q => by
    rcases hp with hp | hp
    · exact r.noG hp (q ▸ g)
    · exact hp (q ▸ (r.2 a g).1)⟩
theorem rel_put {p : Addr} {o : HO} {c : C} (r : RelM G M H) (hp : H p = none ∨ M p ≠ none) (nh : ∀ a, M p ≠ some (.hid a)) (hc : RepC G (mu M p c) (upd H p o) p c) : RelM G (mu M p c) (upd H p o) := ⟨fun a d h => by
  by_cases e : a = p
  · subst e; rw [mu_same] at h; cases h; exact hc
  · rw [mu_ne e] at h
    refine (r.1 a d h).mono (ex_put r hp) (upd_ne e) fun x hx => ?_
    have : x ≠ p := fun q => nh a (q ▸ hx)
    exact ⟨by rw [mu_ne this]; exact hx, upd_ne this⟩, fun a g => by
    obtain ⟨h1, u, h2⟩ := r.2 a g
    have : a ≠ p := fun q => by
      rcases hp with hp | hp
      · rw [q, hp] at h2; cases h2
      · exact hp (q ▸ h1)
    exact ⟨by rw [mu_ne this]; exact h1, u, by rw [upd_ne this]; exact h2⟩⟩
/-- less is told -/
theorem ex_sub (s : ∀ a c, M' a = some c → M a = some c) : Ex G M H M' H := ⟨fun b o hb nb _ => ⟨hb, by
    cases q : M' b with
    | none => rfl
    | some c' => rw [s b c' q] at nb; cases nb⟩, fun _ _ => rfl⟩
theorem RelM.sub (r : RelM G M H) (s : ∀ a c, M' a = some c → M a = some c) (hh : ∀ a b, M a = some (.hid b) → (∃ c, M' a = some c) ∨ ∀ n, M' b ≠ some (.draw n)) : RelM G M' H := ⟨fun a c h => by
  have e : Ex G M H M' H := ex_sub s
  have q := r.1 a c (s a c h)
  cases c with
  | lst xs => obtain ⟨vs, q, l, r⟩ := q; exact ⟨vs, q, l, r.mono e⟩
  | dic kvs => obtain ⟨vs, q, l, r⟩ := q; exact ⟨vs, q, l, r.mono e⟩
  | dct kvs => obtain ⟨vs, q, l, r⟩ := q; exact ⟨vs, q, l, r.mono e⟩
  | ins cl dx fs => obtain ⟨vs, q, l, r⟩ := q; exact ⟨vs, q, l, r.mono e⟩
  | hid _ => exact q
  | draw n =>
    obtain ⟨lp, cp, large, cells, left, turn, q1, q2, q3, q4, q5, q⟩ := q
    refine ⟨lp, cp, large, cells, left, turn, q1, ?_, q3, ⟨(e.1 cp _ q5 q4.1 q4.2).2, q4.2⟩, q5, q⟩
    rcases hh lp a q2 with ⟨c', hc⟩ | hn
    · have := s lp c' hc
      rw [q2] at this; cases this
      exact hc
    · exact absurd h (hn n)
  | tab q' =>
    obtain ⟨ps, q1, q2, q3⟩ := q
    refine ⟨ps, q1, q2, fun pos cv hc => ?_⟩
    obtain ⟨c, r1, r2, r3, r4⟩ := q3 pos cv hc
    exact ⟨c, r1, (e.1 c _ r2 r3 r4).1, (e.1 c _ r2 r3 r4).2, r4⟩, fun a g => by
    obtain ⟨h1, h2⟩ := r.2 a g
    refine ⟨?_, h2⟩
    cases q : M' a with
    | none => rfl
    | some c' => rw [s a c' q] at h1; cases h1⟩
/-- an address set aside -/
def aside (G : Addr → Prop) (p : Addr) : Addr → Prop := fun a => G a ∨ a = p
theorem aside_not {p a : Addr} {o : HO} (hp : H p = none) (h : H a = some o) (g : ¬ G a) : ¬ aside G p a := fun q => by
  rcases q with q | q
  · exact g q
  · rw [q, hp] at h; cases h
/-- other things set aside -/
theorem FzT.chg {G' : Addr → Prop} {a : Addr} {vs : List V} (k : ∀ a o, H a = some o → ¬ G a → ¬ G' a) (h : FzT G M H a vs) : FzT G' M H a vs := ⟨h.1, h.2.1, k _ _ h.1 h.2.2⟩
theorem FzL.chg {G' : Addr → Prop} {a : Addr} {vs : List V} (k : ∀ a o, H a = some o → ¬ G a → ¬ G' a) (h : FzL G M H a vs) : FzL G' M H a vs := ⟨h.1, h.2.1, k _ _ h.1 h.2.2⟩
mutual
theorem Rep.chg {G' : Addr → Prop} (k : ∀ a o, H a = some o → ¬ G a → ¬ G' a) : ∀ (d : D) (v : V), Rep G M H d v → Rep G' M H d v
  | .non, _, h => h
  | .bl _, _, h => h
  | .int _, _, h => h
  | .str _, _, h => h
  | .tup xs, v, h => by
    obtain ⟨a, vs, h1, h2, h3, h4⟩ := h
    exact ⟨a, vs, h1, h2.chg k, h3, Reps.chg k xs vs h4⟩
  | .lst xs, v, h => by
    obtain ⟨a, vs, h1, h2, h3, h4⟩ := h
    exact ⟨a, vs, h1, h2.chg k, h3, Reps.chg k xs vs h4⟩
  | .dic ks ds, v, h => by
    obtain ⟨a, kvs, h1, h2, h3, h4, h5⟩ := h
    exact ⟨a, kvs, h1, ⟨h2.1, k _ _ h3 h2.2⟩, h3, h4, Reps.chg k ds _ h5⟩
  | .dct ks ds, v, h => by
    obtain ⟨a, kvs, h1, h2, h3, h4, h5⟩ := h
    exact ⟨a, kvs, h1, ⟨h2.1, k _ _ h3 h2.2⟩, h3, h4, Reps.chg k ds _ h5⟩
  | .ref _, _, h => h
  | .ty _, _, h => h
  | .kls _ _ _, _, h => ⟨h.1, h.2.1, h.2.2.imp (fun q => ⟨q.1, q.2.1, let ⟨⟨u, h1, _⟩, _, h4⟩ := q; k _ u h1 h4⟩) id⟩
  | .err cl ks ds, v, h => by
    obtain ⟨a, d, ws, h1, h2, h3, h4, h5⟩ := h
    refine ⟨a, d, ws, h1, ⟨h2.1, h2.2.1, k _ _ h2.1 h2.2.2⟩, ?_, h4, Reps.chg k ds _ h5⟩
    cases d with
    | none => exact h3
    | some dx => exact ⟨h3.1, h3.2.1, k _ _ h3.1 h3.2.2.1, h3.2.2.2⟩
  | .exc _ _ _, _, h => h
  | .lam _ _ _, _, h => by
    obtain ⟨a, c', h1, h2, h3⟩ := h
    exact ⟨a, c', h1, ⟨h2.1, h2.2.1, k _ _ h2.1 h2.2.2⟩, ⟨h3.1, h3.2.1, k _ _ h3.1 h3.2.2⟩⟩
theorem Reps.chg {G' : Addr → Prop} (k : ∀ a o, H a = some o → ¬ G a → ¬ G' a) : ∀ (ds : List D) (vs : List V), Reps G M H ds vs → Reps G' M H ds vs
  | [], _, h => h
  | d :: ds, vs, h => by
    obtain ⟨v, r, h1, h2, h3⟩ := h
    exact ⟨v, r, h1, Rep.chg k d v h2, Reps.chg k ds r h3⟩
end
theorem RepC.chg {G' : Addr → Prop} {a : Addr} {c : C} (k : ∀ a o, H a = some o → ¬ G a → ¬ G' a) (h : RepC G M H a c) : RepC G' M H a c := by
  cases c with
  | lst xs => obtain ⟨vs, q, l, r⟩ := h; exact ⟨vs, q, l, r.chg k⟩
  | dic kvs => obtain ⟨vs, q, l, r⟩ := h; exact ⟨vs, q, l, r.chg k⟩
  | dct kvs => obtain ⟨vs, q, l, r⟩ := h; exact ⟨vs, q, l, r.chg k⟩
  | ins cl dx fs => obtain ⟨vs, q, l, r⟩ := h; exact ⟨vs, q, l, r.chg k⟩
  | hid _ => exact h
  | draw n =>
    obtain ⟨lp, cp, large, cells, left, turn, q1, q2, q3, q4, q5, q⟩ := h
    exact ⟨lp, cp, large, cells, left, turn, q1, q2, q3, ⟨q4.1, k _ _ q5 q4.2⟩, q5, q⟩
  | tab q =>
    obtain ⟨ps, q1, q2, q3⟩ := h
    refine ⟨ps, q1, q2, fun pos cv hc => ?_⟩
    obtain ⟨c, r1, r2, r3, r4⟩ := q3 pos cv hc
    exact ⟨c, r1, r2, r3, k _ _ r2 r4⟩
end

/-! ### states -/
abbrev ZT := List (Option D)
def RelS (G : Addr → Prop) (M : MM) (H : Hp) (env : ZT) (σ : L2.St) : Prop := env.length = σ.length ∧ ∀ (i : Nat) (d : D), env[i]? = some (some d) → ∃ v, σ[i]? = some (some v) ∧ Rep G M H d v
section
variable {G : Addr → Prop} {M M' M2 : MM} {H H' H2 : Hp} {env : ZT} {σ : L2.St}
theorem RelS.mono (e : Ex G M H M' H') (h : RelS G M H env σ) : RelS G M' H' env σ := ⟨h.1, fun i d q => let ⟨v, a, b⟩ := h.2 i d q; ⟨v, a, b.mono e⟩⟩
theorem RelS.set {i : Nat} {d : D} {v : V} (h : RelS G M H env σ) (r : Rep G M H d v) : RelS G M H (env.set i (some d)) (σ.set i (some v)) := by
  refine ⟨by rw [List.length_set, List.length_set]; exact h.1, fun j e q => ?_⟩
  by_cases hj : i = j
  · subst hj
    by_cases hl : i < env.length
    · rw [List.getElem?_set_self hl] at q
      cases q
      exact ⟨v, List.getElem?_set_self (h.1 ▸ hl), r⟩
    · rw [List.getElem?_eq_none (by rw [List.length_set]; omega)] at q; cases q
  · rw [List.getElem?_set_ne hj] at q ⊢
    exact h.2 j e q
theorem RelS.drop {i : Nat} (h : RelS G M H env σ) : RelS G M H (env.set i none) (σ.set i none) := by
  refine ⟨by rw [List.length_set, List.length_set]; exact h.1, fun j e q => ?_⟩
  by_cases hj : i = j
  · subst hj
    by_cases hl : i < env.length
    · rw [List.getElem?_set_self hl] at q; cases q
    · rw [List.getElem?_eq_none (by rw [List.length_set]; omega)] at q; cases q
  · rw [List.getElem?_set_ne hj] at q ⊢
    exact h.2 j e q
def wipeZ (env : ZT) : List Nat → ZT
  | [] => env
  | v :: vs => (wipeZ env vs).set v none
theorem RelS.wipe (h : RelS G M H env σ) : ∀ vs : List Nat, RelS G M H (wipeZ env vs) (wipe σ vs)
  | [] => h
  | v :: vs => (RelS.wipe h vs).drop
end

/-! ### lifted readings -/
abbrev TZ := ZT → MM → (D → MM → Prop) → Prop
abbrev TTZ := ZT → MM → (Bool → MM → Prop) → Prop
abbrev TAZ := ZT → MM → (List D → MM → Prop) → Prop
def liftE (T : TZ) : TE := fun σ H Q => ∃ G env M Q', RelS G M H env σ ∧ RelM G M H ∧ T env M Q' ∧ ∀ d v M' H', Ex G M H M' H' → RelM G M' H' → Rep G M' H' d v → Q' d M' → Q v H'
def liftT (T : TTZ) : TT := fun σ H Q => ∃ G env M Q', RelS G M H env σ ∧ RelM G M H ∧ T env M Q' ∧ ∀ b M' H', Ex G M H M' H' → RelM G M' H' → Q' b M' → Q b H'
def liftA (T : TAZ) : TA := fun σ H Q => ∃ G env M Q', RelS G M H env σ ∧ RelM G M H ∧ T env M Q' ∧ ∀ ds vs M' H', Ex G M H M' H' → RelM G M' H' → Reps G M' H' ds vs → Q' ds M' → Q vs H'
structure ZEnds where
  nx : ZT → MM → Prop
  rt : D → MM → Prop
  bk : ZT → MM → Prop := fun _ _ => False
  ct : ZT → MM → Prop := fun _ _ => False
abbrev TSZ := ZEnds → ZT → MM → Prop
def EndsRel (G : Addr → Prop) (M : MM) (H : Hp) (D' : ZEnds) (Dd : Ends) : Prop :=
  (∀ env M' σ H', Ex G M H M' H' → RelS G M' H' env σ → RelM G M' H' → D'.nx env M' → Dd.nx σ H') ∧
  (∀ d v M' H', Ex G M H M' H' → RelM G M' H' → Rep G M' H' d v → D'.rt d M' → Dd.rt v H') ∧
  (∀ env M' σ H', Ex G M H M' H' → RelS G M' H' env σ → RelM G M' H' → D'.bk env M' → Dd.bk σ H') ∧
  (∀ env M' σ H', Ex G M H M' H' → RelS G M' H' env σ → RelM G M' H' → D'.ct env M' → Dd.ct σ H')
def liftS (T : TSZ) : TS := fun Dd σ H => ∃ G env M D', RelS G M H env σ ∧ RelM G M H ∧ T D' env M ∧ EndsRel G M H D' Dd
theorem EndsRel.ex {G : Addr → Prop} {M M' : MM} {H H' : Hp} {D' : ZEnds} {Dd : Ends} (r : EndsRel G M H D' Dd) (e : Ex G M H M' H') : EndsRel G M' H' D' Dd :=
  ⟨fun a b c d x => r.1 a b c d (e.trans x), fun a b c d x => r.2.1 a b c d (e.trans x), fun a b c d x => r.2.2.1 a b c d (e.trans x), fun a b c d x => r.2.2.2 a b c d (e.trans x)⟩
abbrev ZE (X : Cx) (e : Expr) (T : TZ) : Prop := PE X e (liftE T)
abbrev ZP (X : Cx) (e : Expr) (T : TTZ) : Prop := PT X e (liftT T)
abbrev ZW (X : Cx) (e : Expr) (T : TTZ) : Prop := PW X e (liftT T)
abbrev ZA (X : Cx) (es : List Expr) (T : TAZ) : Prop := PA X es (liftA T)
abbrev ZS (X : Cx) (st : Stmt) (T : TSZ) : Prop := PS X st (liftS T)
abbrev ZB (X : Cx) (st : List Stmt) (T : TSZ) : Prop := PSs X st (liftS T)
theorem PE.wk {X : Cx} {e : Expr} {t t' : TE} (h : PE X e t) (w : ∀ σ H Q, t' σ H Q → t σ H Q) : PE X e t' := ⟨fun pins s σ H Q I q => h.run pins s σ H Q I (w σ H Q q)⟩
theorem PT.wk {X : Cx} {e : Expr} {t t' : TT} (h : PT X e t) (w : ∀ σ H Q, t' σ H Q → t σ H Q) : PT X e t' := ⟨fun pins s σ H Q I q => h.run pins s σ H Q I (w σ H Q q)⟩
theorem PW.wk {X : Cx} {e : Expr} {t t' : TT} (h : PW X e t) (w : ∀ σ H Q, t' σ H Q → t σ H Q) : PW X e t' := ⟨fun wh pins s σ H Q I q => h.run wh pins s σ H Q I (w σ H Q q)⟩
theorem PA.wk {X : Cx} {e : List Expr} {t t' : TA} (h : PA X e t) (w : ∀ σ H Q, t' σ H Q → t σ H Q) : PA X e t' := ⟨fun pos pins s σ H Q I q => h.run pos pins s σ H Q I (w σ H Q q)⟩
theorem PS.wk {X : Cx} {e : Stmt} {t t' : TS} (h : PS X e t) (w : ∀ Dd σ H, t' Dd σ H → t Dd σ H) : PS X e t' := ⟨fun pins s σ H Dd I q => h.run pins s σ H Dd I (w Dd σ H q)⟩
theorem PSs.wk {X : Cx} {e : List Stmt} {t t' : TS} (h : PSs X e t) (w : ∀ Dd σ H, t' Dd σ H → t Dd σ H) : PSs X e t' := ⟨fun pins s σ H Dd I q => h.run pins s σ H Dd I (w Dd σ H q)⟩
/-- monotone in what is wanted -/
def Mono (T : TZ) : Prop := ∀ env M Q Q', (∀ d M', Q d M' → Q' d M') → T env M Q → T env M Q'
end Zz

set_option Elab.async false
set_option linter.all false
set_option maxRecDepth 100000
set_option maxHeartbeats 1000000
/-! Z3: expressions. -/
namespace Zz
open PySem L2

abbrev R2Z := D → D → MM → (D → MM → Prop) → Prop
abbrev R1Z := D → MM → (D → MM → Prop) → Prop
abbrev RCZ := List D → MM → (D → MM → Prop) → Prop
/-- a tracked list, by what it holds -/
def view (M : MM) : D → D
  | .ref a => match M a with
    | some (.lst xs) => .lst xs
    | _ => .ref a
  | d => d
def LiftR (r : R2) (z : R2Z) : Prop := ∀ G M H x y d e Q Q', RelM G M H → Rep G M H d x → Rep G M H e y → z d e M Q' → (∀ d' v M' H', Ex G M H M' H' → RelM G M' H' → Rep G M' H' d' v → Q' d' M' → Q v H') → r x y H Q
def LiftU (r : V → Hp → VK → Prop) (z : R1Z) : Prop := ∀ G M H x d Q Q', RelM G M H → Rep G M H d x → z d M Q' → (∀ d' v M' H', Ex G M H M' H' → RelM G M' H' → Rep G M' H' d' v → Q' d' M' → Q v H') → r x H Q
def LiftC (r : List V → Hp → VK → Prop) (z : RCZ) : Prop := ∀ G M H xs ds Q Q', RelM G M H → Reps G M H ds xs → z ds M Q' → (∀ d' v M' H', Ex G M H M' H' → RelM G M' H' → Rep G M' H' d' v → Q' d' M' → Q v H') → r xs H Q
def zBin (z : R2Z) (Ta Tb : TZ) : TZ := fun env M Q => Ta env M fun x M1 => Tb env M1 fun y M2 => z x y M2 Q
def zUn (z : R1Z) (Ta : TZ) : TZ := fun env M Q => Ta env M fun x M1 => z x M1 Q
def zCall (z : RCZ) (T : TAZ) : TZ := fun env M Q => T env M fun ds M1 => z ds M1 Q
def zC (d : D) : TZ := fun _ M Q => Q d M
def zVar (i : Nat) : TZ := fun env M Q => match env[i]? with
  | some (some d) => Q d M
  | _ => False
def zTst (T : TZ) : TTZ := fun env M Q => T env M fun d M' => match d with
  | .bl b => Q b M'
  | _ => False
def zAndV (Ta Tb : TZ) : TZ := fun env M Q => Ta env M fun x M1 => match x with
  | .bl b => if b = true then Tb env M1 Q else Q (.bl false) M1
  | _ => False
def zOrV (Ta Tb : TZ) : TZ := fun env M Q => Ta env M fun x M1 => match x with
  | .bl b => if b = true then Q (.bl true) M1 else Tb env M1 Q
  | _ => False
def zNotV (Ta : TZ) : TZ := fun env M Q => Ta env M fun x M1 => match x with
  | .bl b => Q (.bl (!b)) M1
  | _ => False
def zAnd (t u : TTZ) : TTZ := fun env M Q => t env M fun b M1 => if b = true then u env M1 Q else Q false M1
def zOr (t u : TTZ) : TTZ := fun env M Q => t env M fun b M1 => if b = true then Q true M1 else u env M1 Q
def zNot (t : TTZ) : TTZ := fun env M Q => t env M fun b M1 => Q (!b) M1
def zIf (t : TTZ) (Ta Tb : TZ) : TZ := fun env M Q => t env M fun b M1 => if b = true then Ta env M1 Q else Tb env M1 Q
def zChain (z z' : R2Z) (Ta Tb Tc : TZ) : TZ := fun env M Q => Ta env M fun x M1 => Tb env M1 fun y M2 => z x y M2 fun c M3 => match c with
  | .bl b => if b = true then Tc env M3 fun w M4 => z' y w M4 Q else Q (.bl false) M3
  | _ => False
def zaNil : TAZ := fun _ M Q => Q [] M
def zaCons (Ta : TZ) (Tr : TAZ) : TAZ := fun env M Q => Ta env M fun x M1 => Tr env M1 fun xs M2 => Q (x :: xs) M2
def zTup (T : TAZ) : TZ := fun env M Q => T env M fun ds M1 => ds.length ≤ 1000 ∧ Q (.tup ds) M1
def zLst (T : TAZ) : TZ := fun env M Q => T env M fun ds M1 => ds.length ≤ 1000 ∧ Q (.lst ds) M1
/-- a list that will change -/
def zLstN (T : TAZ) : TZ := fun env M Q => T env M fun ds M1 => ds.length ≤ 1000 ∧ ∀ p, M1 p = none → Q (.ref p) (mu M1 p (.lst ds))

theorem line1 {n : Nat} (h : n ≤ 10000000) : n ≤ sizeLine := Nat.le_trans h (by decide)
section
variable {σ : L2.St} {H : Hp} {Q : VK} {Ta Tb Tc : TZ}
theorem lift_bin {r : R2} {z : R2Z} (l : LiftR r z) (h : liftE (zBin z Ta Tb) σ H Q) : tOp r (liftE Ta) (liftE Tb) σ H Q := by
  obtain ⟨G, env, M, Q', rs, rm, t, k⟩ := h
  refine ⟨G, env, M, _, rs, rm, t, fun d v M1 H1 e1 rm1 rd t1 => ?_⟩
  refine ⟨G, env, M1, _, rs.mono e1, rm1, t1, fun d2 v2 M2 H2 e2 rm2 rd2 t2 => ?_⟩
  exact l G M2 H2 v v2 d d2 Q Q' rm2 (rd.mono e2) rd2 t2 fun d' v' M' H' e' => k d' v' M' H' ((e1.trans e2).trans e')
theorem lift_un {r : V → Hp → VK → Prop} {z : R1Z} (l : LiftU r z) (h : liftE (zUn z Ta) σ H Q) : tUn r (liftE Ta) σ H Q := by
  obtain ⟨G, env, M, Q', rs, rm, t, k⟩ := h
  refine ⟨G, env, M, _, rs, rm, t, fun d v M1 H1 e1 rm1 rd t1 => ?_⟩
  exact l G M1 H1 v d Q Q' rm1 rd t1 fun d' v' M' H' e' => k d' v' M' H' (e1.trans e')
theorem lift_call {r : List V → Hp → VK → Prop} {z : RCZ} {T : TAZ} (l : LiftC r z) (h : liftE (zCall z T) σ H Q) : tCB r (liftA T) σ H Q := by
  obtain ⟨G, env, M, Q', rs, rm, t, k⟩ := h
  refine ⟨G, env, M, _, rs, rm, t, fun d v M1 H1 e1 rm1 rd t1 => ?_⟩
  exact l G M1 H1 v d Q Q' rm1 rd t1 fun d' v' M' H' e' => k d' v' M' H' (e1.trans e')
end
section
variable {X : Cx} {a b c e : Expr} {es rest : List Expr} {pos p : Pos} {Ta Tb Tc : TZ} {t u : TTZ} {T : TAZ}
theorem ze_var (i : Nat) {x : Str} (hN : X.N[i]? = some x := by rfl) (hv : Vis X.env.scope x := by first | exact Or.inl rfl | exact Or.inr (Or.inl rfl) | exact Or.inr (Or.inr rfl)) (hd : (x == ("__debug__" : Str)) = false := by decide)
    (hcd : (x == ("__classdict__" : Str)) = false := by decide) : ZE X (.Name x pos) (zVar i) := PE.wk (pe_var hN hv hd hcd) fun σ H Q h => by
  obtain ⟨G, env, M, Q', rs, rm, t, k⟩ := h
  unfold zVar at t
  split at t
  · next d ed =>
    obtain ⟨v, e1, r⟩ := rs.2 i d ed
    exact ⟨v, e1, k d v M H Ex.refl rm r t⟩
  · exact t.elim
theorem ze_c {v : V} {d : D} (h : PE X e (tC v)) (r : ∀ G M H, Rep G M H d v) : ZE X e (zC d) := PE.wk h fun σ H Q h => by
  obtain ⟨G, env, M, Q', rs, rm, t, k⟩ := h
  exact k d v M H Ex.refl rm (r G M H) t
theorem ze_int {i j} : ZE X (.Constant (.int i) j pos) (zC (.int i)) := ze_c pe_int fun _ _ _ => rfl
theorem ze_bl {i j} : ZE X (.Constant (.bool i) j pos) (zC (.bl i)) := ze_c pe_bl fun _ _ _ => rfl
theorem ze_non {j} : ZE X (.Constant .none j pos) (zC .non) := ze_c pe_non fun _ _ _ => rfl
theorem ze_str {x j} : ZE X (.Constant (.str x) j pos) (zC (.str x)) := ze_c pe_str fun _ _ _ => rfl
theorem ze_op {op : Operator} {r : R2} {z : R2Z} (ho : OpR X (binaryOp op) r) (l : LiftR r z) (ha : ZE X a Ta) (hb : ZE X b Tb) : ZE X (.BinOp a op b pos) (zBin z Ta Tb) := PE.wk (pe_op ho ha hb) fun _ _ _ => lift_bin l
theorem ze_un {op : UnaryOp} {r : V → Hp → VK → Prop} {z : R1Z} (ho : UnR X (unaryOp op) r) (l : LiftU r z) (ha : ZE X a Ta) : ZE X (.UnaryOp op a pos) (zUn z Ta) := PE.wk (pe_un ho ha) fun _ _ _ => lift_un l
theorem ze_cmp {op : CmpOp} {r : R2} {z : R2Z} (ho : OpR X (compareOp op) r) (l : LiftR r z) (ha : ZE X a Ta) (hb : ZE X b Tb) (hm : behindInMarks op b = false := by first | exact nomark _ | with_unfolding_all rfl) : ZE X (.Compare a [op] [b] pos) (zBin z Ta Tb) := PE.wk (pe_cmpR ho ha hb hm) fun _ _ _ => lift_bin l
theorem ze_ix {r : R2} {z : R2Z} (ho : IxR X r) (l : LiftR r z) (ha : ZE X a Ta) (hb : ZE X b Tb) (hs : PlainIx b := by intro _ _; rfl) : ZE X (.Subscript a b pos) (zBin z Ta Tb) := PE.wk (pe_ix ho ha hb hs) fun _ _ _ => lift_bin l
theorem zp_tst {t' : TE} {Tz : TZ} (w : ∀ σ H Q, liftE Tz σ H Q → t' σ H Q) {σ : L2.St} {H : Hp} {Q : Bool → Hp → Prop} (h : liftT (zTst Tz) σ H Q) : tTest t' σ H Q := by
  obtain ⟨G, env, M, Q', rs, rm, t, k⟩ := h
  refine w _ _ _ ⟨G, env, M, _, rs, rm, t, fun d v M1 H1 e1 rm1 rd t1 => ?_⟩
  cases d with
  | bl b => exact ⟨b, rd, k b M1 H1 e1 rm1 t1⟩
  | _ => exact False.elim t1
theorem zp_cmp {op : CmpOp} {r : R2} {z : R2Z} (ho : OpR X (compareOp op) r) (l : LiftR r z) (ha : ZE X a Ta) (hb : ZE X b Tb) (hm : behindInMarks op b = false := by first | exact nomark _ | with_unfolding_all rfl) : ZP X (.Compare a [op] [b] pos) (zTst (zBin z Ta Tb)) :=
  PT.wk (pt_cmpR ho ha hb hm) fun _ _ _ => zp_tst fun _ _ _ => lift_bin l
theorem lift_chain {r r' : R2} {z z' : R2Z} (l : LiftR r z) (l' : LiftR r' z') {σ : L2.St} {H : Hp} {Q : VK} (h : liftE (zChain z z' Ta Tb Tc) σ H Q) : tChain r r' (liftE Ta) (liftE Tb) (liftE Tc) σ H Q := by
  obtain ⟨G, env, M, Q', rs, rm, t, k⟩ := h
  refine ⟨G, env, M, _, rs, rm, t, fun d v M1 H1 e1 rm1 rd t1 => ?_⟩
  refine ⟨G, env, M1, _, rs.mono e1, rm1, t1, fun d2 v2 M2 H2 e2 rm2 rd2 t2 => ?_⟩
  refine l G M2 H2 v v2 d d2 _ _ rm2 (rd.mono e2) rd2 t2 fun d3 v3 M3 H3 e3 rm3 rd3 t3 => ?_
  cases d3 with
  | bl b =>
    refine ⟨b, rd3, ?_⟩
    have e13 := (e1.trans e2).trans e3
    cases b with
    | true =>
      exact ⟨G, env, M3, _, rs.mono e13, rm3, t3, fun d4 v4 M4 H4 e4 rm4 rd4 t4 => l' G M4 H4 v2 v4 d2 d4 Q Q' rm4 (rd2.mono (e3.trans e4)) rd4 t4 fun d' v' M' H' e' => k d' v' M' H' ((e13.trans e4).trans e')⟩
    | false => exact k (.bl false) _ M3 H3 e13 rm3 rfl t3
  | _ => exact False.elim t3
theorem ze_chain {op op' : CmpOp} {r r' : R2} {z z' : R2Z} (ho : OpR X (compareOp op) r) (ho' : OpR X (compareOp op') r') (l : LiftR r z) (l' : LiftR r' z') (ha : ZE X a Ta) (hb : ZE X b Tb) (hc : ZE X c Tc)
    (hm : lastMarks [op, op'] [b, c] = false := by with_unfolding_all rfl) : ZE X (.Compare a [op, op'] [b, c] pos) (zChain z z' Ta Tb Tc) := PE.wk (pe_chain ho ho' ha hb hc hm) fun _ _ _ => lift_chain l l'
theorem zp_chain {op op' : CmpOp} {r r' : R2} {z z' : R2Z} (ho : OpR X (compareOp op) r) (ho' : OpR X (compareOp op') r') (l : LiftR r z) (l' : LiftR r' z') (ha : ZE X a Ta) (hb : ZE X b Tb) (hc : ZE X c Tc)
    (hm : lastMarks [op, op'] [b, c] = false := by with_unfolding_all rfl) : ZP X (.Compare a [op, op'] [b, c] pos) (zTst (zChain z z' Ta Tb Tc)) := PT.wk (pt_chain ho ho' ha hb hc hm) fun _ _ _ => zp_tst fun _ _ _ => lift_chain l l'
/-- any expression that gives a bool, as a test -/
theorem zp_val (h : ZE X e Ta) (he : ∀ whole, isTrue e X.env whole = (do let v ← whole; standAt e.pos; holding [v] (truthy v)) := by intro _; rfl) : ZP X e (zTst Ta) := PT.wk (pt_val h he) fun _ _ _ q => zp_tst (t' := liftE Ta) (fun _ _ _ x => x) q
theorem ze_one {op} (h : ZE X a Ta) : ZE X (.BoolOp op [a] pos) Ta := pe_one h
theorem ze_and (ha : ZE X a Ta) (hb : ZE X (.BoolOp .And (b :: rest) pos) Tb) : ZE X (.BoolOp .And (a :: b :: rest) pos) (zAndV Ta Tb) := PE.wk (pe_and ha hb) fun σ H Q h => by
  obtain ⟨G, env, M, Q', rs, rm, t, k⟩ := h
  refine ⟨G, env, M, _, rs, rm, t, fun d v M1 H1 e1 rm1 rd t1 => ?_⟩
  cases d with
  | bl b =>
    refine ⟨b, rd, ?_⟩
    cases b with
    | true => exact ⟨G, env, M1, Q', rs.mono e1, rm1, t1, fun d' v' M' H' e' => k d' v' M' H' (e1.trans e')⟩
    | false => exact k (.bl false) _ M1 H1 e1 rm1 rfl t1
  | _ => exact False.elim t1
theorem ze_or (ha : ZE X a Ta) (hb : ZE X (.BoolOp .Or (b :: rest) pos) Tb) : ZE X (.BoolOp .Or (a :: b :: rest) pos) (zOrV Ta Tb) := PE.wk (pe_or ha hb) fun σ H Q h => by
  obtain ⟨G, env, M, Q', rs, rm, t, k⟩ := h
  refine ⟨G, env, M, _, rs, rm, t, fun d v M1 H1 e1 rm1 rd t1 => ?_⟩
  cases d with
  | bl b =>
    refine ⟨b, rd, ?_⟩
    cases b with
    | true => exact k (.bl true) _ M1 H1 e1 rm1 rfl t1
    | false => exact ⟨G, env, M1, Q', rs.mono e1, rm1, t1, fun d' v' M' H' e' => k d' v' M' H' (e1.trans e')⟩
  | _ => exact False.elim t1
theorem ze_not (ha : ZE X a Ta) : ZE X (.UnaryOp .Not a pos) (zNotV Ta) := PE.wk (pe_not ha) fun σ H Q h => by
  obtain ⟨G, env, M, Q', rs, rm, t, k⟩ := h
  refine ⟨G, env, M, _, rs, rm, t, fun d v M1 H1 e1 rm1 rd t1 => ?_⟩
  cases d with
  | bl b => exact ⟨b, rd, k (.bl (!b)) _ M1 H1 e1 rm1 rfl t1⟩
  | _ => exact False.elim t1
theorem zw_and1 (ha : ZP X a t) : ZW X (.BoolOp .And [a] pos) t := pw_and1 ha
theorem zw_or1 (ha : ZP X a t) : ZW X (.BoolOp .Or [a] pos) t := pw_or1 ha
theorem zw_and (ha : ZP X a t) (hb : ZW X (.BoolOp .And (b :: rest) pos) u) : ZW X (.BoolOp .And (a :: b :: rest) pos) (zAnd t u) := PW.wk (pw_and ha hb) fun σ H Q h => by
  obtain ⟨G, env, M, Q', rs, rm, t, k⟩ := h
  refine ⟨G, env, M, _, rs, rm, t, fun b M1 H1 e1 rm1 t1 => ?_⟩
  cases b with
  | true => exact ⟨G, env, M1, Q', rs.mono e1, rm1, t1, fun d' M' H' e' => k d' M' H' (e1.trans e')⟩
  | false => exact k _ M1 H1 e1 rm1 t1
theorem zw_or (ha : ZP X a t) (hb : ZW X (.BoolOp .Or (b :: rest) pos) u) : ZW X (.BoolOp .Or (a :: b :: rest) pos) (zOr t u) := PW.wk (pw_or ha hb) fun σ H Q h => by
  obtain ⟨G, env, M, Q', rs, rm, t, k⟩ := h
  refine ⟨G, env, M, _, rs, rm, t, fun b M1 H1 e1 rm1 t1 => ?_⟩
  cases b with
  | true => exact k _ M1 H1 e1 rm1 t1
  | false => exact ⟨G, env, M1, Q', rs.mono e1, rm1, t1, fun d' M' H' e' => k d' M' H' (e1.trans e')⟩
theorem zw_pt (h : ZW X e t) : ZP X e t := h.pt
theorem zp_not (ha : ZP X a t) : ZP X (.UnaryOp .Not a pos) (zNot t) := PT.wk (pt_not ha) fun σ H Q h => by
  obtain ⟨G, env, M, Q', rs, rm, t, k⟩ := h
  exact ⟨G, env, M, _, rs, rm, t, fun b M1 H1 e1 rm1 t1 => k _ M1 H1 e1 rm1 t1⟩
theorem ze_if (hc : ZP X c t) (ha : ZE X a Ta) (hb : ZE X b Tb) : ZE X (.IfExp c a b pos) (zIf t Ta Tb) := PE.wk (pe_ifExp hc ha hb) fun σ H Q h => by
  obtain ⟨G, env, M, Q', rs, rm, t, k⟩ := h
  refine ⟨G, env, M, _, rs, rm, t, fun b M1 H1 e1 rm1 t1 => ?_⟩
  cases b with
  | true => exact ⟨G, env, M1, Q', rs.mono e1, rm1, t1, fun d' v' M' H' e' => k d' v' M' H' (e1.trans e')⟩
  | false => exact ⟨G, env, M1, Q', rs.mono e1, rm1, t1, fun d' v' M' H' e' => k d' v' M' H' (e1.trans e')⟩
theorem za_nil : ZA X [] zaNil := PA.wk pa_nil fun σ H Q h => by
  obtain ⟨G, env, M, Q', rs, rm, t, k⟩ := h
  exact k [] [] M H Ex.refl rm rfl t
theorem za_cons (ha : ZE X e Ta) (hr : ZA X es T) (he : starEach (e :: es) X.env = (false, eval e X.env) :: starEach es X.env := by rfl) : ZA X (e :: es) (zaCons Ta T) := PA.wk (pa_cons ha hr he) fun σ H Q h => by
  obtain ⟨G, env, M, Q', rs, rm, t, k⟩ := h
  refine ⟨G, env, M, _, rs, rm, t, fun d v M1 H1 e1 rm1 rd t1 => ?_⟩
  exact ⟨G, env, M1, _, rs.mono e1, rm1, t1, fun ds vs M2 H2 e2 rm2 rds t2 => k (d :: ds) (v :: vs) M2 H2 (e1.trans e2) rm2 (.cons (rd.mono e2) rds) t2⟩
theorem ze_tup {x1} (h : ZA X es T) : ZE X (.Tuple es x1 pos) (zTup T) := PE.wk (pe_tup h) fun σ H Q h => by
  obtain ⟨G, env, M, Q', rs, rm, t, k⟩ := h
  refine ⟨G, env, M, _, rs, rm, t, fun ds vs M1 H1 e1 rm1 rds ⟨hl, t1⟩ => ?_⟩
  have hz : vs.length ≤ sizeLine := line1 (by rw [← rds.length]; omega)
  refine ⟨hz, fun p hp => k (.tup ds) _ M1 _ (e1.trans (ex_new rm1 hp)) (rel_new rm1 hp) ⟨p, vs, rfl, ⟨upd_same, rm1.fresh hp, rm1.noG hp⟩, hz, rds.mono (ex_new rm1 hp)⟩ t1⟩
theorem ze_lst (h : ZA X es T) : ZE X (.List es pos) (zLst T) := PE.wk (pe_lst h) fun σ H Q h => by
  obtain ⟨G, env, M, Q', rs, rm, t, k⟩ := h
  refine ⟨G, env, M, _, rs, rm, t, fun ds vs M1 H1 e1 rm1 rds ⟨hl, t1⟩ => ?_⟩
  have hz : vs.length ≤ sizeLine := line1 (by rw [← rds.length]; omega)
  refine ⟨hz, fun p hp => k (.lst ds) _ M1 _ (e1.trans (ex_new rm1 hp)) (rel_new rm1 hp) ⟨p, vs, rfl, ⟨upd_same, rm1.fresh hp, rm1.noG hp⟩, hz, rds.mono (ex_new rm1 hp)⟩ t1⟩
theorem rel_cell {G : Addr → Prop} {M : MM} {H : Hp} {q : Addr} {o : HO} {cc : C} (rm : RelM G M H) (hp : H q = none) (hc : RepC G (mu M q cc) (upd H q o) q cc) : RelM G (mu M q cc) (upd H q o) :=
  rel_put rm (.inl hp) (fun a h => by rw [rm.fresh hp] at h; cases h) hc
theorem ze_lstN (h : ZA X es T) : ZE X (.List es pos) (zLstN T) := PE.wk (pe_lst h) fun σ H Q h => by
  obtain ⟨G, env, M, Q', rs, rm, t, k⟩ := h
  refine ⟨G, env, M, _, rs, rm, t, fun ds vs M1 H1 e1 rm1 rds ⟨hl, t1⟩ => ?_⟩
  have hz : vs.length ≤ sizeLine := line1 (by rw [← rds.length]; omega)
  exact ⟨hz, fun p hp => k (.ref p) _ (mu M1 p (.lst ds)) _ (e1.trans (ex_put rm1 (.inl hp))) (rel_cell rm1 hp ⟨vs, upd_same, hz, rds.mono (ex_put rm1 (.inl hp))⟩) rfl (t1 p (rm1.fresh hp))⟩
/-- a built-in function, a built-in type called -/
theorem ze_callB {r : List V → Hp → VK → Prop} {z : RCZ} {x : Str} {id : String} (hc : CallR X (.builtin id) r) (l : LiftC r z) (hg : Gl X x) (hm : X.mg x = none) (hv : bootBuiltins x = some (.builtin id)) (ha : ZA X (e :: es) T) (hn : x ≠ "__name__" := by decide) (hdb : (x == ("__debug__" : Str)) = false := by decide)
    (he : starEach (e :: es) X.env = (false, eval e X.env) :: starEach es X.env := by rfl) (hpl : (backTo pos (starEach es X.env)).any (·.1) = false := by rfl) : ZE X (.Call (.Name x p) (e :: es) [] pos) (zCall z T) :=
  PE.wk (pe_callB hc hg hm hv ha hn hdb he hpl) fun _ _ _ => lift_call l
theorem ze_callTy {r : List V → Hp → VK → Prop} {z : RCZ} {x : Str} {id : String} (hc : CallR X (.type id) r) (l : LiftC r z) (hg : Gl X x) (hm : X.mg x = none) (hv : bootBuiltins x = some (.type id)) (ha : ZA X (e :: es) T) (hn : x ≠ "__name__" := by decide) (hdb : (x == ("__debug__" : Str)) = false := by decide)
    (he : starEach (e :: es) X.env = (false, eval e X.env) :: starEach es X.env := by rfl) (hpl : (backTo pos (starEach es X.env)).any (·.1) = false := by rfl) : ZE X (.Call (.Name x p) (e :: es) [] pos) (zCall z T) :=
  PE.wk (pe_callTy hc hg hm hv ha hn hdb he hpl) fun _ _ _ => lift_call l
end
/-! ### defs -/
abbrev SpZ := List D → MM → (D → MM → Prop) → Prop
def liftSp (n : Nat) (g : SpZ) : Sp := fun vs H Q _ => ∃ G ds M Q', ds.length = n ∧ RelM G M H ∧ Reps G M H ds vs ∧ g ds M Q' ∧ ∀ d v M' H', Ex G M H M' H' → RelM G M' H' → Rep G M' H' d v → Q' d M' → Q v H'
/-- a def of the text keeps the promise g of n arguments, at most k calls deep -/
structure Fz (P : Program) (w : World) (K : PySem.W.Frag) (mg : Str → Option Value) (base : Heap) (k : Nat) (x : Str) (n : Nat) (g : SpZ) : Prop where
  ex : ∃ (f : Addr) (fd : FuncData) (ps : List Str), FnG P w K mg base CX0 k f fd ps (liftSp n g) ∧ mg x = some (.ref f) ∧ PySem.W.keepIn K (.ref f) = true ∧ Binds K fd ps []
def zFn (n : Nat) (g : SpZ) (T : TAZ) : TZ := fun env M Q => T env M fun ds M1 => ds.length = n ∧ g ds M1 Q
section
variable {X : Cx} {e : Expr} {es : List Expr} {pos p : Pos} {T : TAZ} {x : Str} {n k : Nat} {g : SpZ}
theorem pass0A {X : Cx} (σ : L2.St) : PassesAt CX0 X σ E0 := fun pins H s e s' => pass0 pins σ H s e s'
theorem ze_call (F : Fz X.prog X.w X.K X.mg X.base k x n g) (hr : RoomG k X.A) (hg : Gl X x) (ha : ZA X (e :: es) T) (hdb : (x == ("__debug__" : Str)) = false := by decide)
    (he : starEach (e :: es) X.env = (false, eval e X.env) :: starEach es X.env := by rfl) (hpl : (backTo pos (starEach es X.env)).any (·.1) = false := by rfl) : ZE X (.Call (.Name x p) (e :: es) [] pos) (zFn n g T) := by
  obtain ⟨f, fd, ps, G, hm, hk, hb⟩ := F.ex
  refine PE.wk (pe_callG (E := fun _ => E0) G hr hg hm hk hb pass0A ha hdb he hpl) fun σ H Q h => ?_
  obtain ⟨G, env, M, Q', rs, rm, t, kk⟩ := h
  refine ⟨G, env, M, _, rs, rm, t, fun ds vs M1 H1 e1 rm1 rds ⟨hl, t1⟩ => ?_⟩
  exact ⟨G, ds, M1, Q', hl, rm1, rds, t1, fun d v M' H' e' => kk d v M' H' (e1.trans e')⟩
end
end Zz

set_option Elab.async false
set_option linter.all false
set_option maxRecDepth 100000
set_option maxHeartbeats 1000000
/-! Z4: targets, statements, loops, comprehensions. -/
namespace Zz
open PySem L2

/-! ### targets -/
inductive Tg where
  | nm (i : Nat)
  | tup (ts : List Tg)
mutual
def bindT : Tg → D → ZT → Option ZT
  | .nm i, d, env => some (env.set i (some d))
  | .tup ts, d, env => match d with
    | .tup xs => bindTs ts xs env
    | _ => none
def bindTs : List Tg → List D → ZT → Option ZT
  | [], ds, env => match ds with
    | [] => some env
    | _ => none
  | t :: ts, ds, env => match ds with
    | d :: ds => (bindT t d env).bind fun env' => bindTs ts ds env'
    | [] => none
end
mutual
def gOf (K : PySem.W.Frag) : Tg → TG
  | .nm i => gName i
  | .tup ts => gTup K ts.length (gsOf K ts)
def gsOf (K : PySem.W.Frag) : List Tg → TGs
  | [] => gNil
  | t :: ts => gCons (gOf K t) (gsOf K ts)
end
mutual
def slotsT : Tg → List Nat
  | .nm i => [i]
  | .tup ts => slotsTs ts
def slotsTs : List Tg → List Nat
  | [] => []
  | t :: ts => slotsT t ++ slotsTs ts
end
theorem wipe_set {σ : L2.St} {i : Nat} {x : Option V} : ∀ {own : List Nat}, i ∈ own → wipe (σ.set i x) own = wipe σ own
  | j :: r, h => by
    by_cases hj : i = j
    · subst hj
      by_cases hr : i ∈ r
      · unfold wipe; rw [wipe_set hr]
      · unfold wipe
        have go : ∀ (l : List Nat) (τ : L2.St), i ∉ l → wipe (τ.set i x) l = (wipe τ l).set i x := by
          intro l
          induction l with
          | nil => intro τ _; rfl
          | cons k l ih =>
            intro τ hn
            unfold wipe
            rw [ih τ fun q => hn (List.mem_cons_of_mem _ q)]
            exact List.set_comm _ _ fun e => hn (by rw [← e]; exact List.mem_cons_self)
        rw [go r σ hr, List.set_set]
    · have hr : i ∈ r := (List.mem_cons.mp h).resolve_left hj
      unfold wipe
      rw [wipe_set hr]
theorem set_wipe {σ : L2.St} {i : Nat} : ∀ {own : List Nat}, i ∈ own → (wipe σ own).set i none = wipe σ own
  | j :: r, h => by
    by_cases hj : i = j
    · subst hj; unfold wipe; rw [List.set_set]
    · have hr : i ∈ r := (List.mem_cons.mp h).resolve_left hj
      unfold wipe
      rw [List.set_comm _ _ (Ne.symm hj), set_wipe hr]
theorem wipe_wipe {σ : L2.St} : ∀ {own l : List Nat}, (∀ i, i ∈ l → i ∈ own) → wipe (wipe σ own) l = wipe σ own
  | own, [], _ => rfl
  | own, i :: r, h => by
    show (wipe (wipe σ own) r).set i none = wipe σ own
    rw [wipe_wipe fun j hj => h j (List.mem_cons_of_mem _ hj)]
    exact set_wipe (h i List.mem_cons_self)
section
variable {K : PySem.W.Frag} {G : Addr → Prop} {M : MM} {H : Hp}
mutual
theorem gOf_ok : ∀ (t : Tg) (env : ZT) (σ : L2.St) (d : D) (v : V) (env' : ZT), RelS G M H env σ → Rep G M H d v → bindT t d env = some env' → ∀ Q : L2.St → Hp → Prop,
    (∀ σ', RelS G M H env' σ' → (∀ own, (∀ i, i ∈ slotsT t → i ∈ own) → wipe σ' own = wipe σ own) → Q σ' H) → gOf K t v σ H Q
  | .nm i, env, σ, d, v, env', rs, rd, hb, Q, k => by
    simp only [bindT, Option.some.injEq] at hb
    subst hb
    exact k _ (rs.set rd) fun own ho => wipe_set (ho i (by simp [slotsT]))
  | .tup ts, env, σ, d, v, env', rs, rd, hb, Q, k => by
    cases d with
    | tup xs =>
      simp only [bindT] at hb
      obtain ⟨a, vs, rfl, h2, h3, h4⟩ := rd
      have hl : vs.length = ts.length := by
        have go : ∀ (ts : List Tg) (xs : List D) (e e' : ZT), bindTs ts xs e = some e' → xs.length = ts.length := by
          intro ts
          induction ts with
          | nil =>
            intro xs e e' h
            cases xs with
            | nil => rfl
            | cons _ _ => simp [bindTs] at h
          | cons t ts ih =>
            intro xs e e' h
            cases xs with
            | nil => simp [bindTs] at h
            | cons x xs =>
              simp only [bindTs] at h
              cases q : bindT t x e with
              | none => rw [q] at h; cases h
              | some e2 => rw [q] at h; simp [ih xs e2 e' h]
        rw [← h4.length, go ts xs env env' hb]
      exact ⟨a, vs, rfl, .inl (.inl h2.1), hl, gsOf_ok ts env σ xs vs env' rs h4 hb Q k⟩
    | _ => simp [bindT] at hb
theorem gsOf_ok : ∀ (ts : List Tg) (env : ZT) (σ : L2.St) (ds : List D) (vs : List V) (env' : ZT), RelS G M H env σ → Reps G M H ds vs → bindTs ts ds env = some env' → ∀ Q : L2.St → Hp → Prop,
    (∀ σ', RelS G M H env' σ' → (∀ own, (∀ i, i ∈ slotsTs ts → i ∈ own) → wipe σ' own = wipe σ own) → Q σ' H) → gsOf K ts vs σ H Q
  | [], env, σ, ds, vs, env', rs, rd, hb, Q, k => by
    cases ds with
    | nil =>
      simp only [bindTs, Option.some.injEq] at hb
      subst hb
      have e : vs = [] := rd
      exact ⟨e, k σ rs fun _ _ => rfl⟩
    | cons _ _ => simp [bindTs] at hb
  | t :: ts, env, σ, ds, vs, env', rs, rd, hb, Q, k => by
    cases ds with
    | nil => simp [bindTs] at hb
    | cons d ds =>
      obtain ⟨v, r, rfl, h1, h2⟩ := rd
      simp only [bindTs] at hb
      cases q : bindT t d env with
      | none => rw [q] at hb; cases hb
      | some e2 =>
        rw [q] at hb
        refine ⟨v, r, rfl, gOf_ok t env σ d v e2 rs h1 q _ fun σ1 rs1 w1 => ?_⟩
        refine gsOf_ok ts e2 σ1 ds r env' rs1 h2 hb Q fun σ2 rs2 w2 => k σ2 rs2 fun own ho => ?_
        rw [w2 own fun i hi => ho i (by simp only [slotsTs, List.mem_append]; exact .inr hi), w1 own fun i hi => ho i (by simp only [slotsTs, List.mem_append]; exact .inl hi)]
end
end
abbrev ZG (X : Cx) (target : Expr) (t : Tg) : Prop := PG X target (gOf X.K t)
abbrev ZGs (X : Cx) (targets : List Expr) (t : List Tg) : Prop := PGs X targets (gsOf X.K t)
section
variable {X : Cx} {pos : Pos} {e : Expr} {es : List Expr} {t : Tg} {ts : List Tg}
theorem zg_nm (i : Nat) {x : Str} (hN : X.N.Nodup) (hi : X.N[i]? = some x := by rfl) (hx : Loc X.env.scope x := by first | exact Or.inl rfl | exact Or.inr rfl) (hf : X.fn x = true ∨ X.env.scope.names.lookup x = some .local := by first | exact .inl rfl | exact .inr rfl | assumption) : ZG X (.Name x pos) (.nm i) := pg_name hN hi hx hf
theorem zg_tup {k : Nat} (hc : X.calm = true) (h : ZGs X es ts) (hn : (assignEach es X.env).length = ts.length := by rfl) (hst : (assignEach es X.env).findIdx? (·.1) = none := by rfl) : ZG X (.Tuple es k pos) (.tup ts) := pg_tup hc h hn hst
theorem zgs_nil : ZGs X [] [] := pgs_nil
theorem zgs_cons (h1 : ZG X e t) (h2 : ZGs X es ts) (hs : (assignEach (e :: es) X.env).map (·.2) = assign e X.env :: (assignEach es X.env).map (·.2) := by rfl) : ZGs X (e :: es) (t :: ts) := pgs_cons h1 h2 hs
end

/-! ### statements -/
def zNext : TSZ := fun Dd env M => Dd.nx env M
def zSeq (t u : TSZ) : TSZ := fun Dd env M => t { Dd with nx := u Dd } env M
def zIfS (c : TTZ) (t u : TSZ) : TSZ := fun Dd env M => c env M fun b M1 => if b = true then t Dd env M1 else u Dd env M1
def zRet (T : TZ) : TSZ := fun Dd env M => T env M Dd.rt
def zRetN : TSZ := fun Dd _ M => Dd.rt .non M
def zDrop (T : TZ) : TSZ := fun Dd env M => T env M fun _ M1 => Dd.nx env M1
def zNever : TSZ := fun _ _ _ => False
def zBrk : TSZ := fun Dd env M => Dd.bk env M
def zCnt : TSZ := fun Dd env M => Dd.ct env M
def zSet (i : Nat) (T : TZ) : TSZ := fun Dd env M => T env M fun d M1 => Dd.nx (env.set i (some d)) M1
def zAsg (t : Tg) (T : TZ) : TSZ := fun Dd env M => T env M fun d M1 => match bindT t d env with
  | some env' => Dd.nx env' M1
  | none => False
/-- a, b = x, y; a, b, c = x, y, z by stores -/
def zPar (is : List Nat) (T : TAZ) : TSZ := fun Dd env M => T env M fun ds M1 => match bindTs (is.map .nm) ds env with
  | some env' => Dd.nx env' M1
  | none => False
/-- xs[k] = v, in a list that changes -/
def zPutL (To Ti Te : TZ) : TSZ := fun Dd env M => Te env M fun d M1 => To env M1 fun o M2 => Ti env M2 fun i M3 => match o, i with
  | .ref a, .int k => match M3 a with
    | some (.lst xs) => match ixN xs.length k with
      | some j => Dd.nx env (mu M3 a (.lst (xs.set j d)))
      | none => False
    | _ => False
  | _, _ => False
section
variable {X : Cx} {st : Stmt} {rest sts sts2 : List Stmt} {t u : TSZ} {e c : Expr} {T : TZ} {tt : TTZ} {pos : Pos}
theorem zb_nil : ZB X [] zNext := PSs.wk pss_nil fun Dd σ H h => by
  obtain ⟨G, env, M, D', rs, rm, t, k⟩ := h
  exact k.1 env M σ H Ex.refl rs rm t
theorem ends_nx {G : Addr → Prop} {M : MM} {H : Hp} {D' : ZEnds} {Dd : Ends} {N : ZT → MM → Prop} {N' : L2.St → Hp → Prop} (k : EndsRel G M H D' Dd) (h : ∀ env M' σ H', Ex G M H M' H' → RelS G M' H' env σ → RelM G M' H' → N env M' → N' σ H') : EndsRel G M H { D' with nx := N } { Dd with nx := N' } :=
  ⟨h, k.2.1, k.2.2.1, k.2.2.2⟩
theorem zb_cons (h1 : ZS X st t) (h2 : ZB X rest u) : ZB X (st :: rest) (zSeq t u) := PSs.wk (pss_cons h1 h2) fun Dd σ H h => by
  obtain ⟨G, env, M, D', rs, rm, t, k⟩ := h
  exact ⟨G, env, M, _, rs, rm, t, ends_nx k fun env' M' σ' H' e' rs' rm' q => ⟨G, env', M', D', rs', rm', q, k.ex e'⟩⟩
theorem zb_one (h1 : ZS X st t) : ZB X [st] t := pss_one h1
theorem zs_pass : ZS X (.Pass pos) zNext := PS.wk ps_pass fun Dd σ H h => by
  obtain ⟨G, env, M, D', rs, rm, t, k⟩ := h
  exact k.1 env M σ H Ex.refl rs rm t
theorem zs_brk : ZS X (.Break pos) zBrk := PS.wk ps_break fun Dd σ H h => by
  obtain ⟨G, env, M, D', rs, rm, t, k⟩ := h
  exact k.2.2.1 env M σ H Ex.refl rs rm t
theorem zs_cnt : ZS X (.Continue pos) zCnt := PS.wk ps_continue fun Dd σ H h => by
  obtain ⟨G, env, M, D', rs, rm, t, k⟩ := h
  exact k.2.2.2 env M σ H Ex.refl rs rm t
theorem zs_never : ZS X st zNever := PS.wk ps_never fun Dd σ H h => by
  obtain ⟨G, env, M, D', rs, rm, t, k⟩ := h
  exact t.elim
theorem zs_drop (h : ZE X e T) (hs : swapsWith e none pos.line X.env = pure false := by rfl) : ZS X (.Expr e pos) (zDrop T) := PS.wk (ps_expr h hs) fun Dd σ H h => by
  obtain ⟨G, env, M, D', rs, rm, t, k⟩ := h
  exact ⟨G, env, M, _, rs, rm, t, fun d v M1 H1 e1 rm1 rd t1 => k.1 env M1 σ H1 e1 (rs.mono e1) rm1 t1⟩
theorem zs_ret (h : ZE X e T) : ZS X (.Return (some e) pos) (zRet T) := PS.wk (ps_ret h) fun Dd σ H h => by
  obtain ⟨G, env, M, D', rs, rm, t, k⟩ := h
  exact ⟨G, env, M, _, rs, rm, t, fun d v M1 H1 e1 rm1 rd t1 => k.2.1 d v M1 H1 e1 rm1 rd t1⟩
theorem zs_retN : ZS X (.Return none pos) zRetN := PS.wk ps_retN fun Dd σ H h => by
  obtain ⟨G, env, M, D', rs, rm, t, k⟩ := h
  exact k.2.1 .non .non M H Ex.refl rm rfl t
theorem zs_if (hc : ZP X c tt) (ha : ZB X sts t) (hb : ZB X sts2 u) : ZS X (.If c sts sts2 pos) (zIfS tt t u) := PS.wk (ps_if hc ha hb) fun Dd σ H h => by
  obtain ⟨G, env, M, D', rs, rm, t, k⟩ := h
  refine ⟨G, env, M, _, rs, rm, t, fun b M1 H1 e1 rm1 t1 => ?_⟩
  cases b with
  | true => exact ⟨G, env, M1, D', rs.mono e1, rm1, t1, k.ex e1⟩
  | false => exact ⟨G, env, M1, D', rs.mono e1, rm1, t1, k.ex e1⟩
theorem set_ok {i : Nat} {Dd : Ends} {σ : L2.St} {H : Hp} (h : liftS (zSet i T) Dd σ H) : tAsg (liftE T) (gName i) Dd σ H := by
  obtain ⟨G, env, M, D', rs, rm, t, k⟩ := h
  exact ⟨G, env, M, _, rs, rm, t, fun d v M1 H1 e1 rm1 rd t1 => k.1 _ M1 _ H1 e1 ((rs.mono e1).set rd) rm1 t1⟩
theorem zs_set (i : Nat) {x : Str} {pos' : Pos} (hN : X.N.Nodup) (he : ZE X e T) (hi : X.N[i]? = some x := by rfl) (hx : Loc X.env.scope x := by first | exact Or.inl rfl | exact Or.inr rfl) (hs : swapsWith e (some (.Name x pos')) pos.line X.env = pure false := by rfl)
    (hf : X.fn x = true ∨ X.env.scope.names.lookup x = some .local := by first | exact .inl rfl | exact .inr rfl | assumption) : ZS X (.Assign [.Name x pos'] e pos) (zSet i T) := PS.wk (ps_set hN hi hx he hs hf) fun _ _ _ => set_ok
theorem zs_asg {tg : Expr} {g : Tg} (he : ZE X e T) (hg : ZG X tg g) (hs : swapsWithSole [tg] e pos.line X.env = pure false := by rfl) (hw : swappedStores [tg] e X.env = pure none := by rfl)
    (h1 : (assignEach [tg] X.env).map (·.2) = [assign tg X.env] := by rfl) : ZS X (.Assign [tg] e pos) (zAsg g T) := PS.wk (ps_asg he hg hs hw h1) fun Dd σ H h => by
  obtain ⟨G, env, M, D', rs, rm, t, k⟩ := h
  refine ⟨G, env, M, _, rs, rm, t, fun d v M1 H1 e1 rm1 rd t1 => ?_⟩
  split at t1
  · next env' he' => exact gOf_ok g env σ d v env' (rs.mono e1) rd he' _ fun σ' rs' _ => k.1 _ M1 _ H1 e1 rs' rm1 t1
  · exact t1.elim
theorem zs_par2 (i j : Nat) {x y : Str} {a b : Expr} {px py pt : Pos} {kt k2 pt2} {T : TAZ} (hc : X.calm = true) (hN : X.N.Nodup) (ha : ZA X [a, b] T) (hi : X.N[i]? = some x := by rfl) (hj : X.N[j]? = some y := by rfl) (hij : i ≠ j := by decide)
    (hx : X.env.scope.names.lookup x = some .local := by rfl) (hy : X.env.scope.names.lookup y = some .local := by rfl)
    (hw : swappedStores [.Tuple [.Name x px, .Name y py] kt pt] (.Tuple [a, b] k2 pt2) X.env = pure (some [x, y]) := by rfl)
    (hs : swapsWithSole [.Tuple [.Name x px, .Name y py] kt pt] (.Tuple [a, b] k2 pt2) pos.line X.env = pure false := by rfl) :
    ZS X (.Assign [.Tuple [.Name x px, .Name y py] kt pt] (.Tuple [a, b] k2 pt2) pos) (zPar [i, j] T) := PS.wk (ps_par hc hN hi hj hij hx hy ha hw hs) fun Dd σ H h => by
  obtain ⟨G, env, M, D', rs, rm, t, k⟩ := h
  refine ⟨G, env, M, _, rs, rm, t, fun ds vs M1 H1 e1 rm1 rd t1 => ?_⟩
  match ds, rd, t1 with
  | [d1, d2], ⟨v1, _, e, r1, v2, _, e2, r2, e3⟩, t1 =>
    subst e2; subst e3; subst e
    exact ⟨v1, v2, rfl, k.1 _ M1 _ H1 e1 (((rs.mono e1).set r1).set r2) rm1 t1⟩
  | [], _, t1 => exact t1.elim
  | [_], _, t1 => exact t1.elim
  | _ :: _ :: _ :: _, _, t1 => exact t1.elim
theorem zs_par3 (i j l : Nat) {x y z : Str} {a b c : Expr} {px py pz pt : Pos} {kt k2 pt2} {T : TAZ} (hc : X.calm = true) (hN : X.N.Nodup) (ha : ZA X [a, b, c] T) (hi : X.N[i]? = some x := by rfl) (hj : X.N[j]? = some y := by rfl) (hl : X.N[l]? = some z := by rfl) (hij : i ≠ j := by decide) (hil : i ≠ l := by decide) (hjl : j ≠ l := by decide)
    (hx : X.env.scope.names.lookup x = some .local := by rfl) (hy : X.env.scope.names.lookup y = some .local := by rfl) (hz : X.env.scope.names.lookup z = some .local := by rfl)
    (hw : swappedStores [.Tuple [.Name x px, .Name y py, .Name z pz] kt pt] (.Tuple [a, b, c] k2 pt2) X.env = pure (some [x, y, z]) := by rfl)
    (hs : swapsWithSole [.Tuple [.Name x px, .Name y py, .Name z pz] kt pt] (.Tuple [a, b, c] k2 pt2) pos.line X.env = pure false := by rfl) :
    ZS X (.Assign [.Tuple [.Name x px, .Name y py, .Name z pz] kt pt] (.Tuple [a, b, c] k2 pt2) pos) (zPar [i, j, l] T) := PS.wk (ps_par3 hc hN hi hj hl hij hil hjl hx hy hz ha hw hs) fun Dd σ H h => by
  obtain ⟨G, env, M, D', rs, rm, t, k⟩ := h
  refine ⟨G, env, M, _, rs, rm, t, fun ds vs M1 H1 e1 rm1 rd t1 => ?_⟩
  match ds, rd, t1 with
  | [d1, d2, d3], ⟨v1, _, e, r1, v2, _, e2, r2, v3, _, e3, r3, e4⟩, t1 =>
    subst e2; subst e3; subst e4; subst e
    exact ⟨v1, v2, v3, rfl, k.1 _ M1 _ H1 e1 ((((rs.mono e1).set r1).set r2).set r3) rm1 t1⟩
  | [], _, t1 => exact t1.elim
  | [_], _, t1 => exact t1.elim
  | [_, _], _, t1 => exact t1.elim
  | _ :: _ :: _ :: _ :: _, _, t1 => exact t1.elim
theorem zs_putL {o i value : Expr} {To Ti Te : TZ} {tpos : Pos} (he : ZE X value Te) (ho : ZE X o To) (hi : ZE X i Ti) (hs : swapsWithSole [.Subscript o i tpos] value pos.line X.env = pure false := by rfl) (hw : swappedStores [.Subscript o i tpos] value X.env = pure none := by rfl)
    (h1 : (assignEach [.Subscript o i tpos] X.env).map (·.2) = [assign (.Subscript o i tpos) X.env] := by rfl)
    (ha : ∀ v, assign (.Subscript o i tpos) X.env v = (do
      let ov ← holding [v] (eval o X.env)
      let iv ← holding [v, ov] (eval i X.env)
      standAt tpos
      holding [v, ov, iv] (setItem ov iv v)
      release [v, ov, iv] []) := by intro _; rfl) : ZS X (.Assign [.Subscript o i tpos] value pos) (zPutL To Ti Te) := PS.wk (ps_asg he (pg_sub ho hi set_list ha) hs hw h1) fun Dd σ H h => by
  obtain ⟨G, env, M, D', rs, rm, t, k⟩ := h
  refine ⟨G, env, M, _, rs, rm, t, fun d v M1 H1 e1 rm1 rd t1 => ?_⟩
  refine ⟨G, env, M1, _, rs.mono e1, rm1, t1, fun d2 v2 M2 H2 e2 rm2 rd2 t2 => ?_⟩
  refine ⟨G, env, M2, _, (rs.mono e1).mono e2, rm2, t2, fun d3 v3 M3 H3 e3 rm3 rd3 t3 => ?_⟩
  split at t3
  · next a kk =>
    split at t3
    · next xs hM =>
      split at t3
      · next j hj =>
        obtain ⟨vs, hH, hz, hR⟩ := rm3.1 a _ hM
        have r2 : v2 = .ref a := rd2
        have r3 : v3 = .int kk := rd3
        refine ⟨a, vs, kk, j, r2, r3, hH, by rw [← hR.length]; exact hj, ?_⟩
        have hne : H3 a = none ∨ M3 a ≠ none := .inr (by rw [hM]; exact fun h => by cases h)
        have ex := ex_put (c := .lst (xs.set j d)) (o := .lst (vs.set j v)) rm3 hne
        refine k.1 _ _ σ _ (((e1.trans e2).trans e3).trans ex) ((((rs.mono e1).mono e2).mono e3).mono ex) ?_ t3
        refine rel_put rm3 hne (fun a h => by rw [hM] at h; cases h) ⟨_, upd_same, by rw [List.length_set]; exact hz, ?_⟩
        exact (hR.mono ex).set j (((rd.mono e2).mono e3).mono ex)
      · exact t3.elim
    · exact t3.elim
  · exact t3.elim
end
end Zz

set_option Elab.async false
set_option linter.all false
set_option maxRecDepth 100000
set_option maxHeartbeats 1000000
/-! Z5: while, what is walked, for, comprehensions. -/
namespace Zz
open PySem L2

def zWhile (c : TTZ) (tb : TSZ) : TSZ := fun Dd env M => ∃ W : Nat → ZT → MM → Prop, (∃ m, W m env M) ∧ ∀ m env M, W m env M →
  c env M fun b M1 => if b = true then tb { Dd with nx := fun e M' => ∃ m', m' < m ∧ W m' e M', ct := fun e M' => ∃ m', m' < m ∧ W m' e M', bk := Dd.nx } env M1 else Dd.nx env M1
/-- J walks xs, as long as chk -/
def ItOk (G : Addr → Prop) (J : It) (M : MM) (H : Hp) (xs : List D) (chk : MM → Prop) : Prop := ∀ (G' : Addr → Prop) (M' : MM) (H' : Hp) (i : Nat), (∀ a o, H a = some o → ¬ G a → ¬ G' a) → ExA G' M H M' H' → RelM G' M' H' → chk M' →
  (i < xs.length → J.go i H' ∧ ∀ x H'', J.yld i H' x H'' → ExA G' M' H' M' H'' ∧ (∀ a, G' a → H'' a = H' a) ∧ RelM G' M' H'' ∧ ∃ d, xs[i]? = some d ∧ Rep G' M' H'' d x) ∧ (xs.length ≤ i → J.stop i H')
abbrev TIZ := ZT → MM → (List D → (MM → Prop) → MM → Prop) → Prop
def liftI (T : TIZ) : TI := fun σ H R => ∃ G env M Q', RelS G M H env σ ∧ RelM G M H ∧ T env M Q' ∧ ∀ J xs chk M' H', Ex G M H M' H' → RelM G M' H' → xs.length ≤ sizeLine → ItOk G J M' H' xs chk → chk M' → Q' xs chk M' → R J H'
abbrev ZI (X : Cx) (tg iter : Expr) (T : TIZ) : Prop := PI X tg iter (liftI T)
def forGo (chk : MM → Prop) (t : Tg) (tb : TSZ) : List D → ZEnds → ZT → MM → Prop
  | [], Dd, env, M => Dd.nx env M
  | x :: xs, Dd, env, M => match bindT t x env with
    | some env1 => tb { Dd with nx := fun e M' => chk M' ∧ forGo chk t tb xs Dd e M', ct := fun e M' => chk M' ∧ forGo chk t tb xs Dd e M', bk := Dd.nx } env1 M
    | none => False
def zFor (wi : TIZ) (t : Tg) (tb : TSZ) : TSZ := fun Dd env M => wi env M fun xs chk M1 => forGo chk t tb xs Dd env M1
def compGo (chk : MM → Prop) (t : Tg) (tt : TTZ) (te : TZ) (env : ZT) : List D → List D → MM → (List D → MM → Prop) → Prop
  | [], acc, M, Q => Q acc M
  | x :: xs, acc, M, Q => match bindT t x env with
    | some env1 => tt env1 M fun b M1 => if b = true then te env1 M1 fun y M2 => chk M2 ∧ compGo chk t tt te env xs (acc ++ [y]) M2 Q else chk M1 ∧ compGo chk t tt te env xs acc M1 Q
    | none => False
def zYes : TTZ := fun _ M Q => Q true M
/-- [te for t in wi if tt] -/
def zComp (wi : TIZ) (t : Tg) (own : List Nat) (tt : TTZ) (te : TZ) : TZ := fun env M Q => wi env M fun xs chk M1 => compGo chk t tt te (wipeZ env own) xs [] M1 fun acc M2 => Q (.lst acc) M2
/-- .. a list that will change -/
def zCompN (wi : TIZ) (t : Tg) (own : List Nat) (tt : TTZ) (te : TZ) : TZ := fun env M Q => wi env M fun xs chk M1 => compGo chk t tt te (wipeZ env own) xs [] M1 fun acc M2 => ∀ p, M2 p = none → Q (.ref p) (mu M2 p (.lst acc))

section
variable {X : Cx} {tt : TTZ} {tb : TSZ} {c iter tg : Expr} {body : List Stmt} {pos : Pos} {wi : TIZ} {t : Tg}
theorem zs_while (hp : PassesOwn (model X.prog X.w) X.A X.env X.xe) (hc : ZP X c tt) (hb : ZB X body tb) : ZS X (.While c body [] pos) (zWhile tt tb) := PS.wk (ps_while hp hc hb) fun Dd σ H h => by
  obtain ⟨G, env, M, D', rs, rm, ⟨W, ⟨m0, w0⟩, turn⟩, k⟩ := h
  refine ⟨fun m σ' H' => ∃ env' M', Ex G M H M' H' ∧ RelS G M' H' env' σ' ∧ RelM G M' H' ∧ W m env' M', ⟨m0, env, M, Ex.refl, rs, rm, w0⟩, ?_⟩
  rintro m σ1 H1 ⟨env1, M1, e1, rs1, rm1, w1⟩
  refine ⟨G, env1, M1, _, rs1, rm1, turn m env1 M1 w1, fun b M2 H2 e2 rm2 t2 => ?_⟩
  cases b with
  | true =>
    refine ⟨fun σ' H' => ∃ m', m' < m ∧ ∃ env' M', Ex G M H M' H' ∧ RelS G M' H' env' σ' ∧ RelM G M' H' ∧ W m' env' M', fun σ' H' q => q, ?_⟩
    have e12 := e1.trans e2
    have again : ∀ env' M' σ' H', Ex G M2 H2 M' H' → RelS G M' H' env' σ' → RelM G M' H' → (∃ m', m' < m ∧ W m' env' M') → ∃ m', m' < m ∧ ∃ env' M', Ex G M H M' H' ∧ RelS G M' H' env' σ' ∧ RelM G M' H' ∧ W m' env' M' :=
      fun env' M' σ' H' e' rs' rm' ⟨m', hm, w'⟩ => ⟨m', hm, env', M', e12.trans e', rs', rm', w'⟩
    have kk := k.ex e12
    exact ⟨G, env1, M2, _, rs1.mono e2, rm2, t2, again, kk.2.1, kk.1, again⟩
  | false => exact k.1 env1 M2 σ1 H2 (e1.trans e2) (rs1.mono e2) rm2 t2
theorem zs_for (hp : PassesOwn (model X.prog X.w) X.A X.env X.xe) (hc : X.calm = true) (hi : ZI X tg iter wi) (hg : ZG X tg t) (hb : ZB X body tb)
    (hs : ∀ x, foldedSetIterable iter X.env x = pure x := by intro _; rfl) : ZS X (.For tg iter body [] pos) (zFor wi t tb) := PS.wk (ps_for hp hc hi hg hb hs) fun Dd σ H h => by
  obtain ⟨G, env, M, D', rs, rm, t0, k⟩ := h
  refine ⟨G, env, M, _, rs, rm, t0, fun J xs chk M1 H1 e1 rm1 hz it ck t1 => ?_⟩
  refine ⟨fun i m σ' H' => ∃ env' M', m = xs.length - i ∧ i ≤ xs.length ∧ Ex G M1 H1 M' H' ∧ RelS G M' H' env' σ' ∧ RelM G M' H' ∧ chk M' ∧ forGo chk t tb (xs.drop i) D' env' M', ⟨_, env, M1, rfl, Nat.zero_le _, Ex.refl, rs.mono e1, rm1, ck, t1⟩, ?_⟩
  rintro i m σ2 H2 ⟨env2, M2, rfl, hi2, e2, rs2, rm2, ck2, t2⟩
  have q := it G M2 H2 i (fun _ _ _ g => g) e2.1 rm2 ck2
  by_cases hlt : i < xs.length
  · obtain ⟨go, yl⟩ := q.1 hlt
    refine .inr ⟨go, fun σ' H' => ∃ env' M', i + 1 ≤ xs.length ∧ Ex G M1 H1 M' H' ∧ RelS G M' H' env' σ' ∧ RelM G M' H' ∧ chk M' ∧ forGo chk t tb (xs.drop (i + 1)) D' env' M', ?_, ?_⟩
    · rintro σ' H' ⟨env', M', h1, h2⟩
      exact ⟨xs.length - (i + 1), by omega, env', M', rfl, h1, h2⟩
    · intro x H3 hy
      obtain ⟨ea, eg, rm3, d, hd, rd⟩ := yl x H3 hy
      have e3 : Ex G M2 H2 M2 H3 := ⟨ea, eg⟩
      have hdr : xs.drop i = d :: xs.drop (i + 1) := by
        have h1 := List.getElem?_eq_some_iff.mp hd
        obtain ⟨h1, h2⟩ := h1
        rw [List.drop_eq_getElem_cons h1, h2]
      rw [hdr] at t2
      simp only [forGo] at t2
      split at t2
      · next env3 hb3 =>
        refine gOf_ok t env2 σ2 d x env3 (rs2.mono e3) rd hb3 _ fun σ3 rs3 _ => ?_
        have again : ∀ env' M' σ' H', Ex G M2 H3 M' H' → RelS G M' H' env' σ' → RelM G M' H' → (chk M' ∧ forGo chk t tb (xs.drop (i + 1)) D' env' M') → ∃ env' M', i + 1 ≤ xs.length ∧ Ex G M1 H1 M' H' ∧ RelS G M' H' env' σ' ∧ RelM G M' H' ∧ chk M' ∧ forGo chk t tb (xs.drop (i + 1)) D' env' M' :=
          fun env' M' σ' H' e' rs' rm' ⟨c1, c2⟩ => ⟨env', M', hlt, (e2.trans e3).trans e', rs', rm', c1, c2⟩
        have kk := k.ex ((e1.trans e2).trans e3)
        exact ⟨G, env3, M2, _, rs3, rm3, t2, again, kk.2.1, kk.1, again⟩
      · exact t2.elim
  · refine .inl ⟨q.2 (by omega), ?_⟩
    rw [List.drop_of_length_le (by omega)] at t2
    exact k.1 env2 M2 σ2 H2 (e1.trans e2) rs2 rm2 t2
end

/-! ### comprehensions -/
/-- an inner list's end: the loop over the items, the new list set aside -/
theorem comp_loop {G : Addr → Prop} {env : ZT} {M1 : MM} {σ : L2.St} {H1 : Hp} {Q : VK} {Q' : List D → MM → Prop} {J : It} {xs : List D} {chk : MM → Prop} {t : Tg} {tt : TTZ} {te : TZ} {own : List Nat} {K : PySem.W.Frag}
    (ho : ∀ i, i ∈ slotsT t → i ∈ own) (rs : RelS G M1 H1 env σ) (rm1 : RelM G M1 H1) (hz : xs.length ≤ sizeLine) (it : ItOk G J M1 H1 xs chk) (ck : chk M1) (t1 : compGo chk t tt te (wipeZ env own) xs [] M1 Q') (Dl : Addr) (hD : H1 Dl = none)
    (fin : ∀ acc vs M H, Ex G M1 H1 M H → RelM G M H → H Dl = some (.lst vs) → M Dl = none → vs.length ≤ sizeLine → Reps G M H acc vs → Reps (aside G Dl) M H acc vs → RelM (aside G Dl) M H → Q' acc M → Q (.ref Dl) H) :
    ∃ W : Nat → Nat → Hp → Prop, (∃ m, W 0 m (upd H1 Dl (.lst []))) ∧ ∀ i m H, W i m H →
      (J.stop i H ∧ Q (.ref Dl) H) ∨ (J.go i H ∧ ∃ Nx : Hp → Prop, (∀ H', Nx H' → ∃ m', m' < m ∧ W (i + 1) m' H') ∧ ∀ x H', J.yld i H x H' → gOf K t x (wipe σ own) H' fun σ2 H2 => wipe σ2 own = wipe σ own ∧ liftT tt σ2 H2 fun b H3 =>
        if b = true then liftE te σ2 H3 fun y H4 => ∃ acc, H4 Dl = some (.lst acc) ∧ acc.length < sizeLine ∧ Nx (upd H4 Dl (.lst (acc ++ [y]))) else Nx H3) := by
  have hM1 : M1 Dl = none := rm1.fresh hD
  have kG : ∀ a o, H1 a = some o → ¬ G a → ¬ aside G Dl a := fun a o h g => aside_not hD h g
  have toG : ∀ {M : MM} {H : Hp}, ∀ a o, H a = some o → ¬ aside G Dl a → ¬ G a := fun a o _ g q => g (.inl q)
  -- what holds between two turns
  let P : Nat → Hp → Prop := fun i H => ∃ M acc vs, i ≤ xs.length ∧ ExA (aside G Dl) M1 H1 M H ∧ (∀ a, G a → H a = H1 a) ∧ RelM (aside G Dl) M H ∧ H Dl = some (.lst vs) ∧ Reps (aside G Dl) M H acc vs ∧ vs.length ≤ i ∧ chk M ∧ compGo chk t tt te (wipeZ env own) (xs.drop i) acc M Q'
  have ex0 : ExA (aside G Dl) M1 H1 M1 (upd H1 Dl (.lst [])) := fun b o hb nb _ => ⟨by rw [upd_ne (ne_of_none hb hD)]; exact hb, nb⟩
  have rel0 : RelM (aside G Dl) M1 (upd H1 Dl (.lst [])) := by
    refine ⟨fun a c h => ?_, fun a g => ?_⟩
    · have hne : a ≠ Dl := fun q => by rw [q, hM1] at h; cases h
      refine ((rm1.1 a c h).chg kG).mono1 ex0 (upd_ne hne) fun x hx => ⟨hx, upd_ne fun q => ?_⟩
      rw [q, hM1] at hx; cases hx
    · rcases g with g | g
      · obtain ⟨h1, o, h2⟩ := rm1.2 a g
        exact ⟨h1, o, by rw [upd_ne (ne_of_none h2 hD)]; exact h2⟩
      · subst g; exact ⟨hM1, _, upd_same⟩
  refine ⟨fun i m H => m = xs.length - i ∧ P i H, ⟨_, rfl, M1, [], [], Nat.zero_le _, ex0, fun a g => upd_ne fun q => rm1.noG hD (q ▸ g), rel0, upd_same, rfl, Nat.le_refl _, ck, t1⟩, ?_⟩
  rintro i m H ⟨rfl, M, acc, vs, hi, ea, eg, rm, hL, hR, hl, ckM, tM⟩
  have q := it (aside G Dl) M H i kG ea rm ckM
  by_cases hlt : i < xs.length
  · obtain ⟨go, yl⟩ := q.1 hlt
    refine .inr ⟨go, P (i + 1), fun H' p => ⟨xs.length - (i + 1), by omega, rfl, p⟩, fun x H2 hy => ?_⟩
    obtain ⟨ea2, eg2, rm2, d, hd, rd⟩ := yl x H2 hy
    have e2 : Ex (aside G Dl) M H M H2 := ⟨ea2, eg2⟩
    have hdr : xs.drop i = d :: xs.drop (i + 1) := by
      obtain ⟨h1, h2⟩ := List.getElem?_eq_some_iff.mp hd
      rw [List.drop_eq_getElem_cons h1, h2]
    rw [hdr] at tM
    simp only [compGo] at tM
    split at tM
    · next env3 hb3 =>
      have rs2 : RelS (aside G Dl) M H2 (wipeZ env own) (wipe σ own) := ⟨(rs.wipe own).1, fun j e hj => by
        obtain ⟨v, h1, h2⟩ := (rs.wipe own).2 j e hj
        exact ⟨v, h1, Rep.mono1 ea2 _ _ (Rep.mono1 ea _ _ (Rep.chg kG _ _ h2))⟩⟩
      refine gOf_ok t (wipeZ env own) (wipe σ own) d x env3 rs2 rd hb3 _ fun σ3 rs3 w3 => ⟨by rw [w3 own ho]; exact wipe_wipe fun i hi => hi, ?_⟩
      have nextT : ∀ {M4 : MM} {H4 : Hp}, Ex (aside G Dl) M H2 M4 H4 → RelM (aside G Dl) M4 H4 → (∀ a, G a → H4 a = H1 a) ∧ H4 Dl = some (.lst vs) ∧ ExA (aside G Dl) M1 H1 M4 H4 := fun {M4 H4} e4 rm4 =>
        ⟨fun a g => ((e4.2 a (.inl g)).trans (eg2 a (.inl g))).trans (eg a g), by rw [e4.2 Dl (.inr rfl), eg2 Dl (.inr rfl)]; exact hL, (ea.trans ea2).trans e4.1⟩
      refine ⟨aside G Dl, env3, M, _, rs3, rm2, tM, fun b M3 H3 e3 rm3 t3 => ?_⟩
      cases b with
      | false =>
        obtain ⟨a1, a2, a3⟩ := nextT e3 rm3
        exact ⟨M3, acc, vs, hlt, a3, a1, rm3, a2, (hR.mono e2).mono e3, by omega, t3.1, t3.2⟩
      | true =>
        refine ⟨aside G Dl, env3, M3, _, rs3.mono e3, rm3, t3, fun y yv M4 H4 e4 rm4 ry t4 => ?_⟩
        have e24 := e3.trans e4
        obtain ⟨a1, a2, a3⟩ := nextT e24 rm4
        have hM4 : M4 Dl = none := (rm4.2 Dl (.inr rfl)).1
        have ex5 : ExA (aside G Dl) M4 H4 M4 (upd H4 Dl (.lst (vs ++ [yv]))) := fun a o h n g => ⟨by rw [upd_ne fun q => g (.inr q)]; exact h, n⟩
        refine ⟨vs, a2, by have := hz; omega, M4, acc ++ [y], vs ++ [yv], hlt, a3.trans ex5, fun a g => ?_, ⟨fun a c h => ?_, fun a g => ?_⟩, upd_same, ?_, by rw [List.length_append]; simp; omega, t4.1, t4.2⟩
        · have hne : a ≠ Dl := fun q => rm1.noG hD (q ▸ g)
          rw [upd_ne hne]; exact a1 a g
        · have hne : a ≠ Dl := fun q => by rw [q, hM4] at h; cases h
          refine (rm4.1 a c h).mono1 ex5 (upd_ne hne) fun z hz => ⟨hz, upd_ne fun q => ?_⟩
          rw [q, hM4] at hz; cases hz
        · obtain ⟨h1, o, h2⟩ := rm4.2 a g
          refine ⟨h1, ?_⟩
          by_cases ha : a = Dl
          · subst ha; exact ⟨_, upd_same⟩
          · exact ⟨o, by rw [upd_ne ha]; exact h2⟩
        · exact Reps.append (Reps.mono1 ex5 _ _ ((hR.mono e2).mono e24)) (.cons (Rep.mono1 ex5 _ _ ry) .nil)
    · exact tM.elim
  · refine .inl ⟨q.2 (by omega), ?_⟩
    rw [List.drop_of_length_le (by omega)] at tM
    have ex : Ex G M1 H1 M H := ⟨fun a o h n g => ea a o h n (kG a o h g), eg⟩
    have rmG : RelM G M H := ⟨fun a c h => (rm.1 a c h).chg (toG (M := M)), fun a g => rm.2 a (.inl g)⟩
    exact fin acc vs M H ex rmG hL (rm.2 Dl (.inr rfl)).1 (by omega) (Reps.chg (toG (M := M)) _ _ hR) hR rm tM
section
variable {X : Cx} {elt tg iter : Expr} {ifs : List Expr} {scope : Scope} {own : List (Str × Nat)} {pos : Pos} {wi : TIZ} {t : Tg} {tt : TTZ} {te : TZ}
theorem lift_comp {K : PySem.W.Frag} {own : List Nat} (ho : ∀ i, i ∈ slotsT t → i ∈ own) {σ : L2.St} {H : Hp} {Q : VK} (h : liftE (zComp wi t own tt te) σ H Q) : tLc (liftI wi) (gOf K t) (liftT tt) (liftE te) own σ H Q := by
  obtain ⟨G, env, M, Q', rs, rm, t0, k⟩ := h
  refine ⟨G, env, M, _, rs, rm, t0, fun J xs chk M1 H1 e1 rm1 hz it ck t1 => fun Dl hD => ?_⟩
  refine comp_loop ho (rs.mono e1) rm1 hz it ck t1 Dl hD fun acc vs M2 H2 e2 rm2 hL hM hl hR hRa rma q => ?_
  have ng : ¬ G Dl := rm1.noG hD
  exact k (.lst acc) (.ref Dl) M2 H2 (e1.trans e2) rm2 ⟨Dl, vs, rfl, ⟨hL, hM, ng⟩, hl, hR⟩ q
theorem lift_compN {K : PySem.W.Frag} {own : List Nat} (ho : ∀ i, i ∈ slotsT t → i ∈ own) {σ : L2.St} {H : Hp} {Q : VK} (h : liftE (zCompN wi t own tt te) σ H Q) : tLc (liftI wi) (gOf K t) (liftT tt) (liftE te) own σ H Q := by
  obtain ⟨G, env, M, Q', rs, rm, t0, k⟩ := h
  refine ⟨G, env, M, _, rs, rm, t0, fun J xs chk M1 H1 e1 rm1 hz it ck t1 => fun Dl hD => ?_⟩
  refine comp_loop ho (rs.mono e1) rm1 hz it ck t1 Dl hD fun acc vs M2 H2 e2 rm2 hL hM hl hR hRa rma q => ?_
  have ng : ¬ G Dl := rm1.noG hD
  -- the new list becomes a cell
  have exA : ExA (aside G Dl) M2 H2 (mu M2 Dl (.lst acc)) H2 := fun a o h n g => ⟨h, by rw [mu_ne fun q => g (.inr q)]; exact n⟩
  have e3 : Ex G M1 H1 (mu M2 Dl (.lst acc)) H2 := ⟨fun a o h n g => by
    have := e2.1 a o h n g
    exact ⟨this.1, by rw [mu_ne (ne_of_none h hD)]; exact this.2⟩, e2.2⟩
  have toG : ∀ a o, H2 a = some o → ¬ aside G Dl a → ¬ G a := fun a o _ g q => g (.inl q)
  refine k (.ref Dl) (.ref Dl) _ H2 (e1.trans e3) ⟨fun a c h => ?_, fun a g => ?_⟩ rfl (q Dl hM)
  · by_cases ha : a = Dl
    · subst ha
      rw [mu_same] at h; cases h
      exact ⟨vs, hL, hl, Reps.chg toG _ _ (Reps.mono1 exA _ _ hRa)⟩
    · rw [mu_ne ha] at h
      refine ((rma.1 a c h).mono1 exA rfl fun x hx => ⟨?_, rfl⟩).chg toG
      rw [mu_ne fun q => by rw [q, hM] at hx; cases hx]; exact hx
  · obtain ⟨h1, h2⟩ := rm2.2 a g
    have hne : a ≠ Dl := fun q => ng (q ▸ g)
    exact ⟨by rw [mu_ne hne]; exact h1, h2⟩
abbrev ZTs (X : Cx) (ifs : List Expr) (T : TTZ) : Prop := PTs X ifs (liftT T)
theorem zts_nil : ZTs X [] zYes := by
  refine ⟨fun pins s σ H Q I h => pts_nil.run pins s σ H Q I ?_⟩
  obtain ⟨G, env, M, Q', rs, rm, t, k⟩ := h
  exact k true M H Ex.refl rm t
theorem zts_one {c : Expr} (h : ZP X c tt) : ZTs X [c] tt := pts_one h
theorem ze_comp (own : List (Str × Nat)) (hc : X.calm = true) (hN : X.N.Nodup) (hi : ZI X tg iter wi) (ok : blkC X.N X.env.scope scope own = true)
    (hg : ∀ (s : Shared) (H : Hp) (C : Addr) (cl : List (Str × Addr)) (fp : List Addr), ZG (X.blk s H scope (compEnvC scope cl C X.env) fp) tg t) (ht : ∀ (s : Shared) (H : Hp) (C : Addr) (cl : List (Str × Addr)) (fp : List Addr), ZTs (X.blk s H scope (compEnvC scope cl C X.env) fp) ifs tt)
    (he : ∀ (s : Shared) (H : Hp) (C : Addr) (cl : List (Str × Addr)) (fp : List Addr), ZE (X.blk s H scope (compEnvC scope cl C X.env) fp) elt te) (ho : ∀ i, i ∈ slotsT t → i ∈ own.map (·.2) := by decide) (hs : ∀ x, foldedSetIterable iter X.env x = pure x := by intro _; rfl) :
    ZE X (.ListComp elt [⟨tg, iter, ifs, 0⟩] scope pos) (zComp wi t (own.map (·.2)) tt te) := PE.wk (pe_lc hc hN hi (blkOk_by ok) hg ht he hs) fun _ _ _ => lift_comp ho
theorem ze_compN (own : List (Str × Nat)) (hc : X.calm = true) (hN : X.N.Nodup) (hi : ZI X tg iter wi) (ok : blkC X.N X.env.scope scope own = true)
    (hg : ∀ (s : Shared) (H : Hp) (C : Addr) (cl : List (Str × Addr)) (fp : List Addr), ZG (X.blk s H scope (compEnvC scope cl C X.env) fp) tg t) (ht : ∀ (s : Shared) (H : Hp) (C : Addr) (cl : List (Str × Addr)) (fp : List Addr), ZTs (X.blk s H scope (compEnvC scope cl C X.env) fp) ifs tt)
    (he : ∀ (s : Shared) (H : Hp) (C : Addr) (cl : List (Str × Addr)) (fp : List Addr), ZE (X.blk s H scope (compEnvC scope cl C X.env) fp) elt te) (ho : ∀ i, i ∈ slotsT t → i ∈ own.map (·.2) := by decide) (hs : ∀ x, foldedSetIterable iter X.env x = pure x := by intro _; rfl) :
    ZE X (.ListComp elt [⟨tg, iter, ifs, 0⟩] scope pos) (zCompN wi t (own.map (·.2)) tt te) := PE.wk (pe_lc hc hN hi (blkOk_by ok) hg ht he hs) fun _ _ _ => lift_compN ho
/-- y = [..] on one line, y a local -/
theorem zs_setComp (i : Nat) {y : Str} {py spos : Pos} (own : List (Str × Nat)) (hc : X.calm = true) (hN : X.N.Nodup) (hi : ZI X tg iter wi) (ok : blkC X.N X.env.scope scope own = true)
    (hg : ∀ (s : Shared) (H : Hp) (C : Addr) (cl : List (Str × Addr)) (fp : List Addr), ZG (X.blk s H scope (compEnvC scope cl C X.env) fp) tg t) (ht : ∀ (s : Shared) (H : Hp) (C : Addr) (cl : List (Str × Addr)) (fp : List Addr), ZTs (X.blk s H scope (compEnvC scope cl C X.env) fp) ifs tt)
    (he : ∀ (s : Shared) (H : Hp) (C : Addr) (cl : List (Str × Addr)) (fp : List Addr), ZE (X.blk s H scope (compEnvC scope cl C X.env) fp) elt te) (hy : X.N[i]? = some y := by rfl) (hyl : X.env.scope.names.lookup y = some .local := by rfl)
    (hsw : swapsWith (.ListComp elt [⟨tg, iter, ifs, 0⟩] scope pos) (some (.Name y py)) spos.line X.env = pure true := by exact sw_true rfl rfl rfl (by decide +kernel)) (ho : ∀ i, i ∈ slotsT t → i ∈ own.map (·.2) := by decide) (hs : ∀ x, foldedSetIterable iter X.env x = pure x := by intro _; rfl) :
    ZS X (.Assign [.Name y py] (.ListComp elt [⟨tg, iter, ifs, 0⟩] scope pos) spos) (zSet i (zComp wi t (own.map (·.2)) tt te)) :=
  PS.wk (ps_setLc hc hN hy hyl hsw hi (blkOk_by ok) hg ht he hs) fun Dd σ H h => lift_comp ho (by
    obtain ⟨G, env, M, D', rs, rm, t, k⟩ := h
    exact ⟨G, env, M, _, rs, rm, t, fun d v M1 H1 e1 rm1 rd t1 => k.1 _ M1 _ H1 e1 ((rs.mono e1).set rd) rm1 t1⟩)
theorem zs_setCompN (i : Nat) {y : Str} {py spos : Pos} (own : List (Str × Nat)) (hc : X.calm = true) (hN : X.N.Nodup) (hi : ZI X tg iter wi) (ok : blkC X.N X.env.scope scope own = true)
    (hg : ∀ (s : Shared) (H : Hp) (C : Addr) (cl : List (Str × Addr)) (fp : List Addr), ZG (X.blk s H scope (compEnvC scope cl C X.env) fp) tg t) (ht : ∀ (s : Shared) (H : Hp) (C : Addr) (cl : List (Str × Addr)) (fp : List Addr), ZTs (X.blk s H scope (compEnvC scope cl C X.env) fp) ifs tt)
    (he : ∀ (s : Shared) (H : Hp) (C : Addr) (cl : List (Str × Addr)) (fp : List Addr), ZE (X.blk s H scope (compEnvC scope cl C X.env) fp) elt te) (hy : X.N[i]? = some y := by rfl) (hyl : X.env.scope.names.lookup y = some .local := by rfl)
    (hsw : swapsWith (.ListComp elt [⟨tg, iter, ifs, 0⟩] scope pos) (some (.Name y py)) spos.line X.env = pure true := by exact sw_true rfl rfl rfl (by decide +kernel)) (ho : ∀ i, i ∈ slotsT t → i ∈ own.map (·.2) := by decide) (hs : ∀ x, foldedSetIterable iter X.env x = pure x := by intro _; rfl) :
    ZS X (.Assign [.Name y py] (.ListComp elt [⟨tg, iter, ifs, 0⟩] scope pos) spos) (zSet i (zCompN wi t (own.map (·.2)) tt te)) :=
  PS.wk (ps_setLc hc hN hy hyl hsw hi (blkOk_by ok) hg ht he hs) fun Dd σ H h => lift_compN ho (by
    obtain ⟨G, env, M, D', rs, rm, t, k⟩ := h
    exact ⟨G, env, M, _, rs, rm, t, fun d v M1 H1 e1 rm1 rd t1 => k.1 _ M1 _ H1 e1 ((rs.mono e1).set rd) rm1 t1⟩)
end
end Zz

set_option Elab.async false
set_option linter.all false
set_option maxRecDepth 100000
set_option maxHeartbeats 1000000
/-! Z6: what is walked. -/
namespace Zz
open PySem PySem.Spec PyProof.Rows L2

section
variable {X : Cx} {tg e : Expr} {pos p : Pos}
/-- a list or a tuple, whichever comes -/
def iSeqT (K : PySem.W.Frag) (t : TE) : TI := fun σ H R => t σ H fun x H1 => ∃ a, x = .ref a ∧ ((∃ xs, SqL K H1 a xs ∧ R (Itl K a) H1) ∨ ∃ xs, SqT K H1 a xs ∧ R (Itt K a) H1)
theorem pi_seqT {t : TE} (he : PE X e t) : PI X tg e (iSeqT X.K t) := ⟨fun pins s σ H R I h => by
  refine thn (he.run pins s σ H _ I h) ?_
  rintro v s1 ⟨x, H1, I1, rx, a, hx, hq⟩
  subst hx
  obtain rfl : v = Value.ref a := rx
  have grow : ∀ (o : Obj), Inv X pins σ H1 { s1 with heap := s1.heap.push o } := fun o => I1.kept (t' := s1.toks) fun b u hb => Heap.get?_push_of_some _ hb
  have fr : ∀ b, b ∈ [s1.heap.objs.size] → FpOk X pins H1 b := fun b hb => by
    rw [List.mem_singleton.mp hb]
    exact I1.fpOk (Nat.le_refl _) (I1.hok.fresh (Nat.le_refl _))
  rcases hq with ⟨xs, hs, q⟩ | ⟨xs, hs, q⟩
  · obtain ⟨its, rv, hp, _⟩ := I1.list hs
    exact wpAny_pyIter_list hp.isList ⟨_, _, _, _, H1, rfl, grow _, turn_list a _, ⟨_, Heap.get?_push_size _ rfl, rfl, rfl⟩, fr, q⟩
  · obtain ⟨its, rv, hp, _⟩ := I1.tuple hs
    exact wpAny_pyIter_tuple (show s1.heap.IsTuple a its.toArray from hp) ⟨_, _, _, _, H1, rfl, grow _, turn_tuple a _, ⟨_, Heap.get?_push_size _ rfl, rfl, rfl⟩, fr, q⟩⟩
/-- an untracked sequence -/
theorem it_fz {G : Addr → Prop} {M : MM} {H : Hp} {K : PySem.W.Frag} {a : Addr} {vs : List V} {xs : List D} (h : FzL G M H a vs) (r : Reps G M H xs vs) : ItOk G (Itl K a) M H xs (fun _ => True) := by
  intro G' M' H' i kG ea rm _
  have h' : H' a = some (.lst vs) := (ea a _ h.1 h.2.1 (kG _ _ h.1 h.2.2)).1
  have r' : Reps G' M' H' xs vs := Reps.mono1 ea _ _ (Reps.chg kG _ _ r)
  have hl := r.length
  refine ⟨fun hi => ⟨⟨vs, vs[i]'(by omega), SqL.of h', List.getElem?_eq_getElem (by omega)⟩, ?_⟩, fun hi => ⟨vs, SqL.of h', by omega⟩⟩
  rintro x H'' ⟨rfl, hx⟩
  obtain ⟨d, hd, rd⟩ := r'.back (hx vs (SqL.of h'))
  exact ⟨fun _ _ h n _ => ⟨h, n⟩, fun _ _ => rfl, rm, d, hd, rd⟩
theorem it_fzT {G : Addr → Prop} {M : MM} {H : Hp} {K : PySem.W.Frag} {a : Addr} {vs : List V} {xs : List D} (h : FzT G M H a vs) (r : Reps G M H xs vs) : ItOk G (Itt K a) M H xs (fun _ => True) := by
  intro G' M' H' i kG ea rm _
  have h' : H' a = some (.tup vs) := (ea a _ h.1 h.2.1 (kG _ _ h.1 h.2.2)).1
  have r' : Reps G' M' H' xs vs := Reps.mono1 ea _ _ (Reps.chg kG _ _ r)
  have hl := r.length
  refine ⟨fun hi => ⟨⟨vs, vs[i]'(by omega), SqT.of h', List.getElem?_eq_getElem (by omega)⟩, ?_⟩, fun hi => ⟨vs, SqT.of h', by omega⟩⟩
  rintro x H'' ⟨rfl, hx⟩
  obtain ⟨d, hd, rd⟩ := r'.back (hx vs (SqT.of h'))
  exact ⟨fun _ _ h n _ => ⟨h, n⟩, fun _ _ => rfl, rm, d, hd, rd⟩
/-- a list that may change, as long as it doesn't -/
theorem it_cell {G : Addr → Prop} {M : MM} {H : Hp} {K : PySem.W.Frag} {a : Addr} {xs : List D} : ItOk G (Itl K a) M H xs (fun M' => M' a = some (.lst xs)) := by
  intro G' M' H' i kG ea rm ck
  obtain ⟨vs, h', hz, r'⟩ := rm.1 a _ ck
  have hl := r'.length
  refine ⟨fun hi => ⟨⟨vs, vs[i]'(by omega), SqL.of h', List.getElem?_eq_getElem (by omega)⟩, ?_⟩, fun hi => ⟨vs, SqL.of h', by omega⟩⟩
  rintro x H'' ⟨rfl, hx⟩
  obtain ⟨d, hd, rd⟩ := r'.back (hx vs (SqL.of h'))
  exact ⟨fun _ _ h n _ => ⟨h, n⟩, fun _ _ => rfl, rm, d, hd, rd⟩
theorem rdl_sq {G : Addr → Prop} {M : MM} {H : Hp} {K : PySem.W.Frag} {a : Addr} {ns : List Int} (h : RdL G M H a ns ∨ KLst K a ns) : SqL K H a (ns.map V.int) := by
  rcases h with ⟨⟨u, h1, h2 | ⟨o, h2⟩⟩, _⟩ | h
  · exact .inl (.inl (by rw [h1, h2]))
  · exact .inl (.inr ⟨o, by rw [h1, h2]⟩)
  · exact .inr h
theorem reps_ints {G : Addr → Prop} {M : MM} {H : Hp} : ∀ ns : List Int, Reps G M H (ns.map D.int) (ns.map V.int)
  | [] => rfl
  | n :: ns => .cons rfl (reps_ints ns)
theorem it_kls {G : Addr → Prop} {M : MM} {H : Hp} {K : PySem.W.Frag} {a : Addr} {ns : List Int} (h : RdL G M H a ns ∨ KLst K a ns) : ItOk G (Itl K a) M H (ns.map D.int) (fun _ => True) := by
  intro G' M' H' i kG ea rm _
  have h' : RdL G' M' H' a ns ∨ KLst K a ns := h.imp (fun q => RdL.mono1 ea ⟨q.1, q.2.1, let ⟨⟨u, h1, _⟩, _, h4⟩ := q; kG _ u h1 h4⟩) id
  have h2 : SqL K H' a (ns.map V.int) := rdl_sq h'
  have r' : Reps G' M' H' (ns.map D.int) (ns.map V.int) := reps_ints ns
  have hl := r'.length
  refine ⟨fun hi => ⟨⟨_, (ns.map V.int)[i]'(by omega), h2, List.getElem?_eq_getElem (by omega)⟩, ?_⟩, fun hi => ⟨_, h2, by omega⟩⟩
  rintro x H'' ⟨rfl, hx⟩
  obtain ⟨d, hd, rd⟩ := r'.back (hx _ h2)
  exact ⟨fun _ _ h n _ => ⟨h, n⟩, fun _ _ => rfl, rm, d, hd, rd⟩
/-- walks a list or a tuple -/
def iSeq (K : PySem.W.Frag) (T : TZ) : TIZ := fun env M R => T env M fun d M1 => match d with
  | .tup xs => R xs (fun _ => True) M1
  | .lst xs => R xs (fun _ => True) M1
  | .kls K' _ ns => K' = K ∧ R (ns.map D.int) (fun _ => True) M1
  | .ref a => match M1 a with
    | some (.lst xs) => R xs (fun M' => M' a = some (.lst xs)) M1
    | _ => False
  | _ => False
theorem zi_seq {T : TZ} (he : ZE X e T) : ZI X tg e (iSeq X.K T) := by
  refine ⟨fun pins s σ H R I h => (pi_seqT (tg := tg) he).run pins s σ H R I ?_⟩
  obtain ⟨G, env, M, Q', rs, rm, t, k⟩ := h
  refine ⟨G, env, M, _, rs, rm, t, fun d v M1 H1 e1 rm1 rd t1 => ?_⟩
  cases d with
  | tup xs =>
    obtain ⟨a, vs, rfl, h2, h3, h4⟩ := rd
    exact ⟨a, rfl, .inr ⟨vs, SqT.of h2.1, k _ xs _ M1 H1 e1 rm1 (by rw [h4.length]; exact h3) (it_fzT h2 h4) True.intro t1⟩⟩
  | lst xs =>
    obtain ⟨a, vs, rfl, h2, h3, h4⟩ := rd
    exact ⟨a, rfl, .inl ⟨vs, SqL.of h2.1, k _ xs _ M1 H1 e1 rm1 (by rw [h4.length]; exact h3) (it_fz h2 h4) True.intro t1⟩⟩
  | kls K' a ns =>
    obtain ⟨rfl, hl, hq⟩ := rd
    obtain ⟨rfl, t1⟩ := t1
    exact ⟨a, rfl, .inl ⟨_, rdl_sq hq, k _ _ _ M1 H1 e1 rm1 (line1 (by rw [List.length_map]; omega)) (it_kls hq) True.intro t1⟩⟩
  | ref a =>
    have ev : v = .ref a := rd
    subst ev
    refine ⟨a, rfl, .inl ?_⟩
    simp only at t1
    split at t1
    · next xs hM =>
      obtain ⟨vs, h1, h2, h3⟩ := rm1.1 a _ hM
      exact ⟨vs, SqL.of h1, k _ xs _ M1 H1 e1 rm1 (by rw [h3.length]; exact h2) it_cell hM t1⟩
    · exact t1.elim
  | _ => exact False.elim t1
/-! ### range -/
def rngD (lo : Int) (n : Nat) : List D := (List.range n).map fun i : Nat => .int (lo + (i : Int))
theorem it_rng {G : Addr → Prop} {M : MM} {H : Hp} {lo : Int} {n : Nat} : ItOk G (Itr lo n) M H (rngD lo n) (fun _ => True) := by
  intro G' M' H' i kG ea rm _
  have hl : (rngD lo n).length = n := by simp [rngD]
  rw [hl]
  refine ⟨fun hi => ⟨hi, ?_⟩, fun hi => hi⟩
  rintro x H'' ⟨rfl, rfl⟩
  exact ⟨fun _ _ h n _ => ⟨h, n⟩, fun _ _ => rfl, rm, .int (lo + i), by simp [rngD, hi], rfl⟩
def iRange1 (T : TZ) : TIZ := fun env M R => T env M fun d M1 => match d with
  | .int j => j ≤ 10000000 ∧ -10000000 ≤ j ∧ R (rngD 0 j.toNat) (fun _ => True) M1
  | _ => False
def iRange2 (Ta Tb : TZ) : TIZ := fun env M R => Ta env M fun x M1 => Tb env M1 fun y M2 => match x, y with
  | .int i, .int j => -10000000 ≤ i ∧ i ≤ 10000000 ∧ -10000000 ≤ j ∧ j ≤ 10000000 ∧ (j - i) ≤ 10000000 ∧ R (rngD i (j - i).toNat) (fun _ => True) M2
  | _, _ => False
theorem zi_range1 {a : Expr} {T : TZ} (hg : Gl X "range") (hm : X.mg "range" = none) (ha : ZE X a T) (hs : starEach [a] X.env = [(false, eval a X.env)] := by rfl) : ZI X tg (.Call (.Name "range" p) [a] [] pos) (iRange1 T) := by
  refine ⟨fun pins s σ H R I h => (pi_range1 (tg := tg) hg hm (pa_cons ha pa_nil hs) hs).run pins s σ H R I ?_⟩
  obtain ⟨G, env, M, Q', rs, rm, t, k⟩ := h
  refine ⟨G, env, M, _, rs, rm, t, fun d v M1 H1 e1 rm1 rd t1 => ?_⟩
  cases d with
  | int j =>
    have ev : v = .int j := rd
    subst ev
    obtain ⟨h1, h2, t1⟩ := t1
    have hl : (rngD 0 j.toNat).length ≤ sizeLine := line1 (by simp [rngD]; omega)
    exact ⟨j, rfl, by omega, by omega, k _ _ _ M1 H1 e1 rm1 hl it_rng True.intro t1⟩
  | _ => exact False.elim t1
theorem zi_range2 {a b : Expr} {Ta Tb : TZ} (hg : Gl X "range") (hm : X.mg "range" = none) (ha : ZE X a Ta) (hb : ZE X b Tb) (hs : starEach [a, b] X.env = [(false, eval a X.env), (false, eval b X.env)] := by rfl) (hs2 : starEach [b] X.env = [(false, eval b X.env)] := by rfl) :
    ZI X tg (.Call (.Name "range" p) [a, b] [] pos) (iRange2 Ta Tb) := by
  refine ⟨fun pins s σ H R I h => (pi_range2 (tg := tg) hg hm (pa_cons ha (pa_cons hb pa_nil hs2) (by rw [hs, hs2])) hs hs2).run pins s σ H R I ?_⟩
  obtain ⟨G, env, M, Q', rs, rm, t, k⟩ := h
  refine ⟨G, env, M, _, rs, rm, t, fun d v M1 H1 e1 rm1 rd t1 => ⟨G, env, M1, _, rs.mono e1, rm1, t1, fun d2 v2 M2 H2 e2 rm2 rd2 t2 => ?_⟩⟩
  split at t2
  · next i j =>
    have ev : v = .int i := rd
    have ev2 : v2 = .int j := rd2
    subst ev; subst ev2
    obtain ⟨h1, h2, h3, h4, h5, t2⟩ := t2
    have hl : (rngD i (j - i).toNat).length ≤ sizeLine := line1 (by simp [rngD]; omega)
    exact ⟨i, j, rfl, ⟨by omega, by omega, by omega, by omega⟩, k _ _ _ M2 H2 (e1.trans e2) rm2 hl it_rng True.intro t2⟩
  · exact t2.elim
/-! ### zip of two lists, enumerate of a list -/
/-- what may be read as a list, and stays so -/
def lstK (M : MM) : D → Option (List D × (MM → Prop))
  | .lst xs => some (xs, fun _ => True)
  | .ref a => match M a with
    | some (.lst xs) => some (xs, fun M' => M' a = some (.lst xs))
    | _ => none
  | _ => none
theorem lstK_ok {G : Addr → Prop} {M : MM} {H : Hp} {d : D} {v : V} {xs : List D} {ck : MM → Prop} (rm : RelM G M H) (rd : Rep G M H d v) (h : lstK M d = some (xs, ck)) : ∃ a, v = .ref a ∧ ck M ∧ xs.length ≤ sizeLine ∧
    ∀ (G' : Addr → Prop) (M' : MM) (H' : Hp), (∀ a o, H a = some o → ¬ G a → ¬ G' a) → ExA G' M H M' H' → RelM G' M' H' → ck M' → ∃ vs, H' a = some (.lst vs) ∧ Reps G' M' H' xs vs := by
  cases d with
  | lst ys =>
    simp only [lstK, Option.some.injEq, Prod.mk.injEq] at h
    obtain ⟨rfl, rfl⟩ := h
    obtain ⟨a, vs, rfl, h2, h3, h4⟩ := rd
    refine ⟨a, rfl, True.intro, by rw [h4.length]; exact h3, fun G' M' H' kG ea rm' _ => ⟨vs, (ea a _ h2.1 h2.2.1 (kG _ _ h2.1 h2.2.2)).1, Reps.mono1 ea _ _ (Reps.chg kG _ _ h4)⟩⟩
  | ref a =>
    have ev : v = .ref a := rd
    subst ev
    simp only [lstK] at h
    split at h
    · next ys hM =>
      simp only [Option.some.injEq, Prod.mk.injEq] at h
      obtain ⟨rfl, rfl⟩ := h
      obtain ⟨vs, h1, h2, h3⟩ := rm.1 a _ hM
      refine ⟨a, rfl, hM, by rw [h3.length]; exact h2, fun G' M' H' kG ea rm' ck => ?_⟩
      obtain ⟨ws, q1, q2, q3⟩ := rm'.1 a _ ck
      exact ⟨ws, q1, q3⟩
    · cases h
  | _ => simp [lstK] at h
theorem ex_new1 {G : Addr → Prop} {M : MM} {H : Hp} {q : Addr} {o : HO} (r : RelM G M H) (hp : H q = none) : ExA G M H M (upd H q o) := (ex_new r hp).1
def iZip (Ta Tb : TZ) : TIZ := fun env M R => Ta env M fun x M1 => Tb env M1 fun y M2 => match lstK M2 x, lstK M2 y with
  | some (xs, c1), some (ys, c2) => R ((xs.zip ys).map fun q => .tup [q.1, q.2]) (fun M' => c1 M' ∧ c2 M') M2
  | _, _ => False
theorem zi_zip {a b : Expr} {elts : List Expr} {kk : Nat} {tpos : Pos} {Ta Tb : TZ} (hg : Gl X "zip") (hm : X.mg "zip" = none) (ha : ZE X a Ta) (hb : ZE X b Tb) (hs : starEach [a, b] X.env = (false, eval a X.env) :: starEach [b] X.env := by rfl)
    (hs2 : starEach [b] X.env = [(false, eval b X.env)] := by rfl) (hpl : (backTo pos (starEach [b] X.env)).any (·.1) = false := by rfl) : ZI X (.Tuple elts kk tpos) (.Call (.Name "zip" p) [a, b] [] pos) (iZip Ta Tb) := by
  refine ⟨fun pins s σ H R I h => (pi_zip hg hm (pa_cons ha (pa_cons hb pa_nil hs2) hs) hs hpl).run pins s σ H R I ?_⟩
  obtain ⟨G, env, M, Q', rs, rm, t, k⟩ := h
  refine ⟨G, env, M, _, rs, rm, t, fun d v M1 H1 e1 rm1 rd t1 => ⟨G, env, M1, _, rs.mono e1, rm1, t1, fun d2 v2 M2 H2 e2 rm2 rd2 t2 => ?_⟩⟩
  split at t2
  · next xs c1 ys c2 hx hy =>
    obtain ⟨a1, rfl, k1, z1, f1⟩ := lstK_ok rm2 (rd.mono e2) hx
    obtain ⟨a2, rfl, k2, z2, f2⟩ := lstK_ok rm2 rd2 hy
    obtain ⟨vs, hv, _⟩ := f1 G M2 H2 (fun _ _ _ g => g) (fun _ _ h n _ => ⟨h, n⟩) rm2 k1
    obtain ⟨ws, hw, _⟩ := f2 G M2 H2 (fun _ _ _ g => g) (fun _ _ h n _ => ⟨h, n⟩) rm2 k2
    refine ⟨a1, a2, vs, ws, rfl, SqL.of hv, SqL.of hw, k _ _ _ M2 H2 (e1.trans e2) rm2 (by simp only [List.length_map, List.length_zip]; omega) ?_ ⟨k1, k2⟩ t2⟩
    intro G' M' H' i kG ea rm' ⟨q1, q2⟩
    obtain ⟨vs', hv', rv⟩ := f1 G' M' H' kG ea rm' q1
    obtain ⟨ws', hw', rw'⟩ := f2 G' M' H' kG ea rm' q2
    have l1 := rv.length
    have l2 := rw'.length
    simp only [List.length_map, List.length_zip]
    refine ⟨fun hi => ⟨⟨vs', ws', vs'[i]'(by omega), ws'[i]'(by omega), SqL.of hv', SqL.of hw', List.getElem?_eq_getElem (by omega), List.getElem?_eq_getElem (by omega)⟩, ?_⟩, fun hi => ⟨vs', ws', SqL.of hv', SqL.of hw', by omega⟩⟩
    rintro _ H'' ⟨T, x, y, rfl, hT, rfl, hx, hy⟩
    have hx := hx vs' (SqL.of hv')
    have hy := hy ws' (SqL.of hw')
    obtain ⟨dx, hdx, rx⟩ := rv.back hx
    obtain ⟨dy, hdy, ry⟩ := rw'.back hy
    have ex := ex_new (o := .tup [x, y]) rm' hT
    refine ⟨ex.1, ex.2, rel_new rm' hT, .tup [dx, dy], ?_, ⟨T, [x, y], rfl, ⟨upd_same, rm'.fresh hT, rm'.noG hT⟩, line1 (by simp), .cons (rx.mono ex) (.cons (ry.mono ex) .nil)⟩⟩
    have hz : (xs.zip ys)[i]? = some (dx, dy) := List.getElem?_zip_eq_some.mpr ⟨hdx, hdy⟩
    rw [List.getElem?_map, hz]
    rfl
  · exact t2.elim
def iEnum (Ta : TZ) : TIZ := fun env M R => Ta env M fun x M1 => match lstK M1 x with
  | some (xs, c1) => R (xs.zipIdx.map fun q => .tup [.int (q.2 : Nat), q.1]) c1 M1
  | none => False
theorem zi_enum {a : Expr} {elts : List Expr} {kk : Nat} {tpos : Pos} {Ta : TZ} (hg : Gl X "enumerate") (hm : X.mg "enumerate" = none) (ha : ZE X a Ta) (hs : starEach [a] X.env = [(false, eval a X.env)] := by rfl) : ZI X (.Tuple elts kk tpos) (.Call (.Name "enumerate" p) [a] [] pos) (iEnum Ta) := by
  refine ⟨fun pins s σ H R I h => (pi_enum hg hm (pa_cons ha pa_nil hs) hs).run pins s σ H R I ?_⟩
  obtain ⟨G, env, M, Q', rs, rm, t, k⟩ := h
  refine ⟨G, env, M, _, rs, rm, t, fun d v M1 H1 e1 rm1 rd t1 => ?_⟩
  split at t1
  · next xs c1 hx =>
    obtain ⟨a1, rfl, k1, z1, f1⟩ := lstK_ok rm1 rd hx
    obtain ⟨vs, hv, _⟩ := f1 G M1 H1 (fun _ _ _ g => g) (fun _ _ h n _ => ⟨h, n⟩) rm1 k1
    refine ⟨a1, vs, rfl, SqL.of hv, k _ _ _ M1 H1 e1 rm1 (by simp only [List.length_map, List.length_zipIdx]; exact z1) ?_ k1 t1⟩
    intro G' M' H' i kG ea rm' q1
    obtain ⟨vs', hv', rv⟩ := f1 G' M' H' kG ea rm' q1
    have l1 := rv.length
    simp only [List.length_map, List.length_zipIdx]
    refine ⟨fun hi => ⟨⟨vs', vs'[i]'(by omega), SqL.of hv', List.getElem?_eq_getElem (by omega)⟩, ?_⟩, fun hi => ⟨vs', SqL.of hv', by omega⟩⟩
    rintro _ H'' ⟨T, x, rfl, hT, rfl, hx⟩
    have hx := hx vs' (SqL.of hv')
    obtain ⟨dx, hdx, rx⟩ := rv.back hx
    have ex := ex_new (o := .tup [.int (i : Nat), x]) rm' hT
    refine ⟨ex.1, ex.2, rel_new rm' hT, .tup [.int (i : Nat), dx], ?_, ⟨T, [.int (i : Nat), x], rfl, ⟨upd_same, rm'.fresh hT, rm'.noG hT⟩, line1 (by simp), .cons rfl (.cons (rx.mono ex) .nil)⟩⟩
    rw [List.getElem?_map, List.getElem?_zipIdx, hdx]
    simp
  · exact t1.elim
end
end Zz

set_option Elab.async false
set_option linter.all false
set_option maxRecDepth 100000
set_option maxHeartbeats 1000000
/-! Z7: operators and built-ins by data. -/
namespace Zz
open PySem PySem.Spec PyProof.Rows L2

section
variable {G : Addr → Prop} {M : MM} {H : Hp}
/-- a list that H holds as such -/
theorem view_lst {d : D} {v : V} {xs : List D} (rm : RelM G M H) (rd : Rep G M H d v) (h : view M d = .lst xs) : ∃ a vs, v = .ref a ∧ H a = some (.lst vs) ∧ vs.length ≤ sizeLine ∧ Reps G M H xs vs := by
  cases d with
  | lst ys =>
    obtain rfl : ys = xs := by simpa [view] using h
    obtain ⟨a, vs, h1, h2, h3, h4⟩ := rd
    exact ⟨a, vs, h1, h2.1, h3, h4⟩
  | ref a =>
    simp only [view] at h
    split at h
    · next ys hM =>
      obtain rfl : ys = xs := by simpa using h
      obtain ⟨vs, h1, h2, h3⟩ := rm.1 a _ hM
      exact ⟨a, vs, rd, h1, h2, h3⟩
    · cases h
  | _ => simp [view] at h
theorem view_tup {d : D} {v : V} {xs : List D} (rd : Rep G M H d v) (h : view M d = .tup xs) : ∃ a vs, v = .ref a ∧ H a = some (.tup vs) ∧ vs.length ≤ sizeLine ∧ Reps G M H xs vs ∧ d = .tup xs := by
  cases d with
  | tup ys =>
    obtain rfl : ys = xs := by simpa [view] using h
    obtain ⟨a, vs, h1, h2, h3, h4⟩ := rd
    exact ⟨a, vs, h1, h2.1, h3, h4, rfl⟩
  | ref a =>
    simp only [view] at h
    split at h <;> cases h
  | _ => simp [view] at h
theorem rep_new_lst {p : Addr} {xs : List D} {vs : List V} (rm : RelM G M H) (hp : H p = none) (hz : vs.length ≤ sizeLine) (r : Reps G M H xs vs) : Rep G M (upd H p (.lst vs)) (.lst xs) (.ref p) :=
  ⟨p, vs, rfl, ⟨upd_same, rm.fresh hp, rm.noG hp⟩, hz, r.mono (ex_new rm hp)⟩
theorem rep_new_tup {p : Addr} {xs : List D} {vs : List V} (rm : RelM G M H) (hp : H p = none) (hz : vs.length ≤ sizeLine) (r : Reps G M H xs vs) : Rep G M (upd H p (.tup vs)) (.tup xs) (.ref p) :=
  ⟨p, vs, rfl, ⟨upd_same, rm.fresh hp, rm.noG hp⟩, hz, r.mono (ex_new rm hp)⟩
end
abbrev Kont (G : Addr → Prop) (M : MM) (H : Hp) (Q : VK) (Q' : D → MM → Prop) : Prop := ∀ d' v M' H', Ex G M H M' H' → RelM G M' H' → Rep G M' H' d' v → Q' d' M' → Q v H'

/-! ### + -/
def rzAdd : R2Z := fun x y M Q => match view M x, view M y with
  | .int i, .int j => Q (.int (i + j)) M
  | .str a, .str b => a.length + b.length ≤ 10000000 ∧ Q (.str (a ++ b)) M
  | .tup xs, .tup ys => xs.length + ys.length ≤ 10000000 ∧ Q (.tup (xs ++ ys)) M
  | .lst xs, .lst ys => xs.length + ys.length ≤ 10000000 ∧ Q (.lst (xs ++ ys)) M
  | _, _ => False
def rAddU (K : PySem.W.Frag) : R2 := fun x y H Q => rI0 (fun i j => .int (i + j)) x y H Q ∨ ((∃ i j, x = .str i ∧ y = .str j ∧ i.length + j.length ≤ sizeLine ∧ Q (.str (i ++ j)) H) ∨ (rCatA K x y H Q ∨ rCat x y H Q))
theorem view_int {M : MM} {d : D} {i : Int} (h : view M d = .int i) : d = .int i := by
  cases d with
  | ref a => simp only [view] at h; split at h <;> cases h
  | _ => simpa [view] using h
theorem view_str {M : MM} {d : D} {i : Str} (h : view M d = .str i) : d = .str i := by
  cases d with
  | ref a => simp only [view] at h; split at h <;> cases h
  | _ => simpa [view] using h
section
variable {X : Cx}
theorem or_add : OpR X (binaryOp .Add) (rAddU X.K) := OpR.or op_add (OpR.or op_add_str (OpR.or op_catA op_cat))
theorem lr_add {K : PySem.W.Frag} : LiftR (rAddU K) rzAdd := by
  intro G M H x y d e Q Q' rm rx ry h (k : Kont G M H Q Q')
  unfold rzAdd at h
  split at h
  · next i j hi hj =>
    rw [view_int hi] at rx; rw [view_int hj] at ry
    exact .inl ⟨i, j, rx, ry, k _ _ M H Ex.refl rm (show Rep G M H (.int (i + j)) (.int (i + j)) from rfl) h⟩
  · next i j hi hj =>
    rw [view_str hi] at rx; rw [view_str hj] at ry
    exact .inr (.inl ⟨i, j, rx, ry, line1 h.1, k _ _ M H Ex.refl rm (show Rep G M H (.str (i ++ j)) (.str (i ++ j)) from rfl) h.2⟩)
  · next xs ys hx hy =>
    obtain ⟨a, vs, rfl, h1, h2, h3, rfl⟩ := view_tup rx hx
    obtain ⟨b, ws, rfl, g1, g2, g3, rfl⟩ := view_tup ry hy
    have hz : (vs ++ ws).length ≤ sizeLine := by rw [List.length_append, ← h3.length, ← g3.length]; exact line1 h.1
    refine .inr (.inr (.inl ⟨a, b, vs, ws, rfl, rfl, SqT.of h1, SqT.of g1, by simpa using hz, fun e => ?_, fun _ e => ?_, fun _ _ p hp => ?_⟩))
    · subst e
      have ex : xs = [] := by have := h3.length; exact List.length_eq_zero_iff.mp this
      subst ex
      exact k _ _ M H Ex.refl rm ry h.2
    · subst e
      have ex : ys = [] := by have := g3.length; exact List.length_eq_zero_iff.mp this
      subst ex
      rw [List.append_nil] at h
      exact k _ _ M H Ex.refl rm rx h.2
    · exact k _ _ M _ (ex_new rm hp) (rel_new rm hp) (rep_new_tup rm hp hz (h3.append g3)) h.2
  · next xs ys hx hy =>
    obtain ⟨a, vs, rfl, h1, h2, h3⟩ := view_lst rm rx hx
    obtain ⟨b, ws, rfl, g1, g2, g3⟩ := view_lst rm ry hy
    have hz : (vs ++ ws).length ≤ sizeLine := by rw [List.length_append, ← h3.length, ← g3.length]; exact line1 h.1
    refine .inr (.inr (.inr ⟨a, b, vs, ws, rfl, rfl, h1, g1, by simpa using hz, fun p hp => ?_⟩))
    exact k _ _ M _ (ex_new rm hp) (rel_new rm hp) (rep_new_lst rm hp hz (h3.append g3)) h.2
  · exact h.elim
/-! ### -, *, %, //, ** of ints -/
def rzI (c : Int → Int → Prop) (g : Int → Int → D) : R2Z := fun x y M Q => match x, y with
  | .int i, .int j => c i j ∧ Q (g i j) M
  | _, _ => False
theorem lr_I {C : Int → Int → Prop} {g : Int → Int → V} {c : Int → Int → Prop} {z : Int → Int → D} (hc : ∀ i j, c i j → C i j) (hg : ∀ G M H i j, Rep G M H (z i j) (g i j)) : LiftR (rI C g) (rzI c z) := by
  intro G M H x y d e Q Q' rm rx ry h (k : Kont G M H Q Q')
  unfold rzI at h
  split at h
  · next i j => exact ⟨i, j, rx, ry, hc _ _ h.1, k _ _ M H Ex.refl rm (hg _ _ _ _ _) h.2⟩
  · exact h.elim
def rzI0 (g : Int → Int → D) : R2Z := fun x y M Q => match x, y with
  | .int i, .int j => Q (g i j) M
  | _, _ => False
theorem lr_I0 {g : Int → Int → V} {z : Int → Int → D} (hg : ∀ G M H i j, Rep G M H (z i j) (g i j)) : LiftR (rI0 g) (rzI0 z) := by
  intro G M H x y d e Q Q' rm rx ry h (k : Kont G M H Q Q')
  unfold rzI0 at h
  split at h
  · next i j => exact ⟨i, j, rx, ry, k _ _ M H Ex.refl rm (hg _ _ _ _ _) h⟩
  · exact h.elim
abbrev rzSub : R2Z := rzI0 fun i j => .int (i - j)
theorem lr_sub : LiftR (rI0 fun i j => .int (i - j)) rzSub := lr_I0 fun _ _ _ _ _ => rfl
abbrev rzMod : R2Z := rzI (fun _ j => 0 < j) fun i j => .int (i % j)
theorem lr_mod : LiftR (rI (fun _ j => 0 < j) fun i j => .int (i % j)) rzMod := lr_I (fun _ _ h => h) fun _ _ _ _ _ => rfl
abbrev rzDiv : R2Z := rzI (fun _ j => 0 < j ∧ j.natAbs.log2 < 9000) fun i j => .int (i / j)
theorem lr_div : LiftR (rI CDivW fun i j => .int (i / j)) rzDiv := lr_I (fun _ _ h => h) fun _ _ _ _ _ => rfl
abbrev rzPow : R2Z := rzI (fun i j => 0 ≤ j ∧ j ≤ 1000000 ∧ i.natAbs < 2 ^ 64) fun i j => .int (i ^ j.toNat)
theorem lr_pow : LiftR (rI CPow fun i j => .int (i ^ j.toNat)) rzPow := lr_I (fun _ _ h => h) fun _ _ _ _ _ => rfl
/-- ints; a list so often -/
def rzMul : R2Z := fun x y M Q => match view M x, y with
  | .int i, .int j => i.natAbs.log2 + j.natAbs.log2 < 1000000 ∧ Q (.int (i * j)) M
  | .lst xs, .int k => -1000000 ≤ k ∧ k ≤ 1000000 ∧ xs.length * k.toNat ≤ 10000000 ∧ Q (.lst (List.replicate k.toNat xs).flatten) M
  | _, _ => False
theorem or_mul : OpR X (binaryOp .Mult) (fun x y H Q => rI CMulW (fun i j => .int (i * j)) x y H Q ∨ rRep x y H Q) := OpR.or op_mulW op_rep
theorem reps_rep {G : Addr → Prop} {M : MM} {H : Hp} {xs : List D} {vs : List V} (r : Reps G M H xs vs) : ∀ n : Nat, Reps G M H (List.replicate n xs).flatten (List.replicate n vs).flatten
  | 0 => rfl
  | n + 1 => by rw [List.replicate_succ, List.replicate_succ, List.flatten_cons, List.flatten_cons]; exact r.append (reps_rep r n)
theorem lr_mul : LiftR (fun x y H Q => rI CMulW (fun i j => .int (i * j)) x y H Q ∨ rRep x y H Q) rzMul := by
  intro G M H x y d e Q Q' rm rx ry h (k : Kont G M H Q Q')
  unfold rzMul at h
  split at h
  · next i j hi =>
    rw [view_int hi] at rx
    exact .inl ⟨i, _, rx, ry, h.1, k _ _ M H Ex.refl rm (show Rep G M H (.int _) (.int _) from rfl) h.2⟩
  · next xs n hx =>
    obtain ⟨a, vs, rfl, h1, h2, h3⟩ := view_lst rm rx hx
    obtain ⟨q1, q2, q3, q4⟩ := h
    have r' := reps_rep h3 n.toNat
    have hz : vs.length * n.toNat ≤ sizeLine := by rw [← h3.length]; exact line1 q3
    refine .inr ⟨a, n, vs, rfl, ry, h1, by omega, by omega, hz, fun p hp => ?_⟩
    exact k _ _ M _ (ex_new rm hp) (rel_new rm hp) (rep_new_lst rm hp (by simp only [List.length_flatten, List.map_replicate, List.sum_replicate_nat]; rw [Nat.mul_comm]; exact hz) r') q4
  · exact h.elim
def rzNeg : R1Z := fun x M Q => match x with
  | .int i => Q (.int (-i)) M
  | _ => False
theorem lu_neg : LiftU (rU fun i => .int (-i)) rzNeg := by
  intro G M H x d Q Q' rm rx h (k : Kont G M H Q Q')
  unfold rzNeg at h
  split at h
  · next i => exact ⟨i, rx, k _ _ M H Ex.refl rm (show Rep G M H (.int (-i)) (.int (-i)) from rfl) h⟩
  · exact h.elim
/-! ### comparisons of ints -/
abbrev rzLt : R2Z := rzI0 fun i j => .bl (decide (i < j))
abbrev rzLe : R2Z := rzI0 fun i j => .bl (decide (i ≤ j))
abbrev rzGt : R2Z := rzI0 fun i j => .bl (decide (j < i))
abbrev rzGe : R2Z := rzI0 fun i j => .bl (decide (j ≤ i))
theorem lr_lt : LiftR (rI0 fun i j => .bl (decide (i < j))) rzLt := lr_I0 fun _ _ _ _ _ => rfl
theorem lr_le : LiftR (rI0 fun i j => .bl (decide (i ≤ j))) rzLe := lr_I0 fun _ _ _ _ _ => rfl
theorem lr_gt : LiftR (rI0 fun i j => .bl (decide (j < i))) rzGt := lr_I0 fun _ _ _ _ _ => rfl
theorem lr_ge : LiftR (rI0 fun i j => .bl (decide (j ≤ i))) rzGe := lr_I0 fun _ _ _ _ _ => rfl
/-! ### == and != -/
mutual
def toPy : D → PyData
  | .bl b => .bool b
  | .int i => .int i
  | .str x => .str x
  | .tup xs => .tuple (toPys xs)
  | .lst xs => .list (toPys xs)
  | _ => .none
def toPys : List D → List PyData
  | [] => []
  | d :: ds => toPy d :: toPys ds
end
mutual
/-- data at most n deep -/
def okD : Nat → D → Bool
  | _, .non => true
  | _, .bl _ => true
  | _, .int _ => true
  | _, .str x => PyData.strOk x
  | 0, .tup _ => false
  | 0, .lst _ => false
  | n + 1, .tup xs => okDs n xs
  | n + 1, .lst xs => okDs n xs
  | _, _ => false
def okDs : Nat → List D → Bool
  | _, [] => true
  | n, d :: ds => okD n d && okDs n ds
end
def deq (d e : D) : Bool := PyData.eqv (toPy d) (toPy e)
end
end Zz

set_option Elab.async false
set_option linter.all false
set_option maxRecDepth 100000
set_option maxHeartbeats 1000000
/-! Z8: ==, subscripts, slices, built-in calls by data. -/
namespace Zz
open PySem PySem.Spec PyProof.Rows L2

section
variable {G : Addr → Prop} {M : MM} {H : Hp} {K : PySem.W.Frag}
mutual
theorem rep_dp : ∀ (n : Nat) (d : D) (v : V), okD n d = true → Rep G M H d v → Dp K H v (toPy d)
  | _, .non, v, _, h => by obtain rfl : v = .non := h; exact .non
  | _, .bl b, v, _, h => by obtain rfl : v = .bl b := h; exact .bl b
  | _, .int i, v, _, h => by obtain rfl : v = .int i := h; exact .int i
  | _, .str x, v, _, h => by obtain rfl : v = .str x := h; exact .str x
  | n + 1, .tup xs, v, q, h => by
    obtain ⟨a, vs, rfl, h2, h3, h4⟩ := h
    simp only [okD] at q
    rw [toPy]
    exact .tup (SqT.of h2.1) (reps_dp n xs vs q h4)
  | n + 1, .lst xs, v, q, h => by
    obtain ⟨a, vs, rfl, h2, h3, h4⟩ := h
    simp only [okD] at q
    rw [toPy]
    exact .lst (SqL.of h2.1) (reps_dp n xs vs q h4)
  | 0, .tup xs, v, q, h => by simp [okD] at q
  | 0, .lst xs, v, q, h => by simp [okD] at q
  | n, .dic ks ds, v, q, h => by cases n <;> simp [okD] at q
  | n, .dct ks ds, v, q, h => by cases n <;> simp [okD] at q
  | n, .ref a, v, q, h => by cases n <;> simp [okD] at q
  | n, .ty m, v, q, h => by cases n <;> simp [okD] at q
  | n, .kls _ _ _, v, q, h => by cases n <;> simp [okD] at q
  | n, .err _ _ _, v, q, h => by cases n <;> simp [okD] at q
  | n, .exc _ _ _, v, q, h => by cases n <;> simp [okD] at q
  | n, .lam _ _ _, v, q, h => by cases n <;> simp [okD] at q
theorem reps_dp : ∀ (n : Nat) (ds : List D) (vs : List V), okDs n ds = true → Reps G M H ds vs → DpAll K H vs (toPys ds)
  | _, [], vs, _, h => by obtain rfl : vs = [] := h; exact .nil
  | n, d :: ds, vs, q, h => by
    obtain ⟨v, r, rfl, h1, h2⟩ := h
    simp only [okDs, Bool.and_eq_true] at q
    rw [toPys]
    exact .cons (rep_dp n d v q.1 h1) (reps_dp n ds r q.2 h2)
end
mutual
theorem ok_lay : ∀ (n : Nat) (d : D), okD n d = true → (toPy d).canLay0 = true ∧ (toPy d).depth ≤ n
  | n, .non, h => by simp [toPy, PyData.canLay0, PyData.depth]
  | n, .bl b, h => by simp [toPy, PyData.canLay0, PyData.depth]
  | n, .int i, h => by simp [toPy, PyData.canLay0, PyData.depth]
  | n, .str x, h => by
    have h : PyData.strOk x = true := by cases n <;> simpa [okD] using h
    simp [toPy, PyData.canLay0, PyData.depth, h]
  | n + 1, .tup xs, h => by
    simp only [okD] at h
    obtain ⟨h1, h2⟩ := ok_lays n xs h
    simp only [toPy, PyData.canLay0, PyData.depth]
    exact ⟨h1, by omega⟩
  | n + 1, .lst xs, h => by
    simp only [okD] at h
    obtain ⟨h1, h2⟩ := ok_lays n xs h
    simp only [toPy, PyData.canLay0, PyData.depth]
    exact ⟨h1, by omega⟩
  | 0, .tup xs, h => by simp [okD] at h
  | 0, .lst xs, h => by simp [okD] at h
  | n, .dic ks ds, h => by cases n <;> simp [okD] at h
  | n, .dct ks ds, h => by cases n <;> simp [okD] at h
  | n, .ref a, h => by cases n <;> simp [okD] at h
  | n, .ty m, h => by cases n <;> simp [okD] at h
  | n, .kls _ _ _, h => by cases n <;> simp [okD] at h
  | n, .err _ _ _, h => by cases n <;> simp [okD] at h
  | n, .exc _ _ _, h => by cases n <;> simp [okD] at h
  | n, .lam _ _ _, h => by cases n <;> simp [okD] at h
theorem ok_lays : ∀ (n : Nat) (ds : List D), okDs n ds = true → PyData.canLayAll0 (toPys ds) = true ∧ PyData.depthAll (toPys ds) ≤ n
  | n, [], _ => by simp [toPys, PyData.canLayAll0, PyData.depthAll]
  | n, d :: ds, h => by
    simp only [okDs, Bool.and_eq_true] at h
    obtain ⟨h1, h2⟩ := ok_lay n d h.1
    obtain ⟨h3, h4⟩ := ok_lays n ds h.2
    simp only [toPys, PyData.canLayAll0, PyData.depthAll, h1, h3, Bool.and_self, true_and]
    omega
end
theorem ok_shaped {n : Nat} {d : D} (h : okD n d = true) (hn : n ≤ 64) : SeqAt.shaped (toPy d) = true := by
  obtain ⟨h1, h2⟩ := ok_lay n d h
  unfold SeqAt.shaped
  rw [h1, Bool.true_and, decide_eq_true_eq]
  omega
/-- a value as data, a tracked list as a list -/
theorem view_dp {d : D} {v : V} (rm : RelM G M H) (rd : Rep G M H d v) (h : okD 60 (view M d) = true) : Dp K H v (toPy (view M d)) := by
  cases e : view M d with
  | lst xs =>
    obtain ⟨a, vs, rfl, h1, h2, h3⟩ := view_lst rm rd e
    rw [e] at h
    simp only [okD] at h
    rw [toPy]
    exact .lst (SqL.of h1) (reps_dp 59 xs vs h h3)
  | ref a => rw [e] at h; simp [okD] at h
  | _ =>
    have hd : d = view M d := by
      cases d with
      | ref a =>
        simp only [view] at e ⊢
        split at e <;> cases e
      | _ => rfl
    rw [← e]
    rw [← hd] at h ⊢
    exact rep_dp 60 d v h rd
end
def rzEq : R2Z := fun x y M Q => okD 60 (view M x) = true ∧ okD 60 (view M y) = true ∧ Q (.bl (deq (view M x) (view M y))) M
def rzNe : R2Z := fun x y M Q => okD 60 (view M x) = true ∧ okD 60 (view M y) = true ∧ Q (.bl (!deq (view M x) (view M y))) M
section
variable {K : PySem.W.Frag}
theorem lr_eq : LiftR (rEqD K) rzEq := by
  intro G M H x y d e Q Q' rm rx ry h (k : Kont G M H Q Q')
  exact ⟨_, _, view_dp rm rx h.1, view_dp rm ry h.2.1, ok_shaped h.1 (by decide), ok_shaped h.2.1 (by decide), k (.bl _) _ M H Ex.refl rm rfl h.2.2⟩
theorem lr_ne : LiftR (rNeD K) rzNe := by
  intro G M H x y d e Q Q' rm rx ry h (k : Kont G M H Q Q')
  exact ⟨_, _, view_dp rm rx h.1, view_dp rm ry h.2.1, ok_shaped h.1 (by decide), ok_shaped h.2.1 (by decide), k (.bl _) _ M H Ex.refl rm rfl h.2.2⟩
/-! ### is None, is True -/
def rzIsN : R2Z := fun x y M Q => match y with
  | .non => Q (.bl (match x with | .non => true | _ => false)) M
  | _ => False
def rzNotN : R2Z := fun x y M Q => match y with
  | .non => Q (.bl (match x with | .non => false | _ => true)) M
  | _ => False
theorem rep_non {G : Addr → Prop} {M : MM} {H : Hp} {d : D} {x : V} (r : Rep G M H d x) : decide (x = .non) = (match d with | .non => true | _ => false) := by
  cases d with
  | non => obtain rfl : x = .non := r; rfl
  | bl b => obtain rfl : x = .bl b := r; rfl
  | int b => obtain rfl : x = .int b := r; rfl
  | str b => obtain rfl : x = .str b := r; rfl
  | ref b => obtain rfl : x = .ref b := r; rfl
  | kls _ _ _ => obtain ⟨rfl, _⟩ := r; rfl
  | ty b => obtain rfl : x = .ty b := r; rfl
  | tup xs => obtain ⟨a, vs, rfl, _⟩ := r; rfl
  | lst xs => obtain ⟨a, vs, rfl, _⟩ := r; rfl
  | dic ks ds => obtain ⟨a, vs, rfl, _⟩ := r; rfl
  | dct ks ds => obtain ⟨a, vs, rfl, _⟩ := r; rfl
  | err cl ks ds => obtain ⟨a, dx, ws, rfl, _⟩ := r; rfl
  | exc cl ks ds => exact r.elim
  | lam _ _ _ => obtain ⟨a, c', rfl, _⟩ := r; rfl
theorem lr_isN : LiftR (fun x y H Q => y = .non ∧ Q (.bl (decide (x = .non))) H) rzIsN := by
  intro G M H x y d e Q Q' rm rx ry h (k : Kont G M H Q Q')
  unfold rzIsN at h
  split at h
  · exact ⟨ry, k (.bl _) _ M H Ex.refl rm (by rw [rep_non rx]; cases d <;> rfl) h⟩
  · exact h.elim
theorem lr_notN : LiftR (fun x y H Q => y = .non ∧ Q (.bl (!decide (x = .non))) H) rzNotN := by
  intro G M H x y d e Q Q' rm rx ry h (k : Kont G M H Q Q')
  unfold rzNotN at h
  split at h
  · refine ⟨ry, k (.bl _) _ M H Ex.refl rm ?_ h⟩
    rw [rep_non rx]
    cases d <;> rfl
  · exact h.elim
def rzIsB (f : Bool → Bool → Bool) : R2Z := fun x y M Q => match x, y with
  | .bl a, .bl b => Q (.bl (f a b)) M
  | _, _ => False
theorem lr_isB : LiftR (fun x y H Q => ∃ a b, x = .bl a ∧ y = .bl b ∧ Q (.bl (decide (a = b))) H) (rzIsB fun a b => decide (a = b)) := by
  intro G M H x y d e Q Q' rm rx ry h (k : Kont G M H Q Q')
  unfold rzIsB at h
  split at h
  · next a b => exact ⟨a, b, rx, ry, k (.bl _) _ M H Ex.refl rm rfl h⟩
  · exact h.elim
theorem lr_notB : LiftR (fun x y H Q => ∃ a b, x = .bl a ∧ y = .bl b ∧ Q (.bl (!decide (a = b))) H) (rzIsB fun a b => !decide (a = b)) := by
  intro G M H x y d e Q Q' rm rx ry h (k : Kont G M H Q Q')
  unfold rzIsB at h
  split at h
  · next a b => exact ⟨a, b, rx, ry, k (.bl _) _ M H Ex.refl rm rfl h⟩
  · exact h.elim
/-! ### in, of scalars in a sequence -/
def flatD : D → Bool
  | .non => true
  | .bl _ => true
  | .int _ => true
  | .str _ => true
  | _ => false
def inD (x : D) (xs : List D) : Bool := xs.any fun y => deq y x
/-! ### subscripts -/
def rzIx : R2Z := fun x y M Q => match view M x, y with
  | .tup xs, .int i => match atI xs i with
    | some d => Q d M
    | none => False
  | .lst xs, .int i => match atI xs i with
    | some d => Q d M
    | none => False
  | _, _ => False
theorem reps_at {G : Addr → Prop} {M : MM} {H : Hp} {ds : List D} {vs : List V} {i : Int} {d : D} (r : Reps G M H ds vs) (h : atI ds i = some d) : ∃ v, atI vs i = some v ∧ Rep G M H d v := by
  unfold atI at h ⊢
  rw [← r.length]
  cases e : ixN ds.length i with
  | none => rw [e] at h; cases h
  | some j =>
    rw [e] at h
    obtain ⟨v, h1, h2⟩ := r.get (show ds[j]? = some d from h)
    exact ⟨v, h1, h2⟩
theorem lr_ix : LiftR (rIx K) rzIx := by
  intro G M H x y d e Q Q' rm rx ry h (k : Kont G M H Q Q')
  unfold rzIx at h
  split at h
  · next xs i hx =>
    obtain ⟨a, vs, rfl, h1, h2, h3, _⟩ := view_tup rx hx
    split at h
    · next d' hd =>
      obtain ⟨v, hv, rv⟩ := reps_at h3 hd
      exact .inr (.inl ⟨a, vs, i, v, rfl, ry, SqT.of h1, hv, k _ _ M H Ex.refl rm rv h⟩)
    · exact h.elim
  · next xs i hx =>
    obtain ⟨a, vs, rfl, h1, h2, h3⟩ := view_lst rm rx hx
    split at h
    · next d' hd =>
      obtain ⟨v, hv, rv⟩ := reps_at h3 hd
      exact .inl ⟨a, vs, i, v, rfl, ry, SqL.of h1, hv, k _ _ M H Ex.refl rm rv h⟩
    · exact h.elim
  · exact h.elim
/-! ### slices -/
def cutD (xs : List D) (lo hi : Option Int) : List D := (xs.drop (HT.sIx xs.length 0 lo)).take (HT.sIx xs.length xs.length hi - HT.sIx xs.length 0 lo)
abbrev TOZ := ZT → MM → (Option Int → MM → Prop) → Prop
def zoNone : TOZ := fun _ M Q => Q none M
def zoSome (T : TZ) : TOZ := fun env M Q => T env M fun d M1 => match d with
  | .int i => Q (some i) M1
  | _ => False
def liftO (T : TOZ) : TO := fun σ H Q => ∃ G env M Q', RelS G M H env σ ∧ RelM G M H ∧ T env M Q' ∧ ∀ o M' H', Ex G M H M' H' → RelM G M' H' → Q' o M' → Q o H'
abbrev ZO (X : Cx) (e : Option Expr) (T : TOZ) : Prop := PO X e (liftO T)
def rzSl (x : D) (lo hi : Option Int) (M : MM) (Q : D → MM → Prop) : Prop := match view M x with
  | .tup xs => Q (.tup (cutD xs lo hi)) M
  | .lst xs => Q (.lst (cutD xs lo hi)) M
  | _ => False
def zSl (T : TZ) (Tl Th : TOZ) : TZ := fun env M Q => T env M fun x M1 => Tl env M1 fun lo M2 => Th env M2 fun hi M3 => rzSl x lo hi M3 Q
theorem reps_cut {G : Addr → Prop} {M : MM} {H : Hp} {ds : List D} {vs : List V} (r : Reps G M H ds vs) (lo hi : Option Int) : Reps G M H (cutD ds lo hi) (cutV vs lo hi) := by
  unfold cutD cutV
  rw [r.length]
  exact (r.drop _).take _
theorem cut_len {vs : List V} {lo hi : Option Int} : (cutV vs lo hi).length ≤ vs.length := by
  unfold cutV
  rw [List.length_take, List.length_drop]
  omega
theorem ls_any {G : Addr → Prop} {M : MM} {H : Hp} {x : V} {d : D} {lo hi : Option Int} {Q : VK} {Q' : D → MM → Prop} (rm : RelM G M H) (rx : Rep G M H d x) (h : rzSl d lo hi M Q') (k : Kont G M H Q Q') : rSlL K x lo hi H Q ∨ rSlA K x lo hi H Q := by
  unfold rzSl at h
  split at h
  · next xs hx =>
    obtain ⟨a, vs, rfl, h1, h2, h3, rfl⟩ := view_tup rx hx
    refine .inr ⟨a, vs, rfl, SqT.of h1, fun ⟨q1, q2⟩ => ?_, fun _ p hp => ?_⟩
    · have e : cutD xs lo hi = xs := by
        unfold cutD
        rw [h3.length, q1, q2, List.drop_zero, Nat.sub_zero, ← h3.length, List.take_length]
      rw [e] at h
      exact k _ _ M H Ex.refl rm rx h
    · exact k _ _ M _ (ex_new rm hp) (rel_new rm hp) (rep_new_tup rm hp (Nat.le_trans cut_len h2) (reps_cut h3 lo hi)) h
  · next xs hx =>
    obtain ⟨a, vs, rfl, h1, h2, h3⟩ := view_lst rm rx hx
    refine .inl ⟨a, vs, rfl, SqL.of h1, fun p hp => ?_⟩
    exact k _ _ M _ (ex_new rm hp) (rel_new rm hp) (rep_new_lst rm hp (Nat.le_trans cut_len h2) (reps_cut h3 lo hi)) h
  · exact h.elim
section
variable {X : Cx} {e : Expr} {lo hi : Option Expr} {T : TZ} {Tl Th : TOZ} {pos p2 : Pos}
theorem zo_none : ZO X none zoNone := ⟨fun pins s σ H Q I h => po_none.run pins s σ H Q I (by
  obtain ⟨G, env, M, Q', rs, rm, t, k⟩ := h
  exact k _ M H Ex.refl rm t)⟩
theorem zo_some (he : ZE X e T) : ZO X (some e) (zoSome T) := ⟨fun pins s σ H Q I h => (po_some he).run pins s σ H Q I (by
  obtain ⟨G, env, M, Q', rs, rm, t, k⟩ := h
  refine ⟨G, env, M, _, rs, rm, t, fun d v M1 H1 e1 rm1 rd t1 => ?_⟩
  cases d with
  | int i => exact ⟨i, rd, k _ M1 H1 e1 rm1 t1⟩
  | _ => exact False.elim t1)⟩
theorem ze_sl (he : ZE X e T) (hl : ZO X lo Tl) (hh : ZO X hi Th) : ZE X (.Subscript e (.Slice lo hi none p2) pos) (zSl T Tl Th) := PE.wk (pe_slice (SlR.or sl_list sl_tupA) he hl hh) fun σ H Q h => by
  obtain ⟨G, env, M, Q', rs, rm, t, k⟩ := h
  refine ⟨G, env, M, _, rs, rm, t, fun d v M1 H1 e1 rm1 rd t1 => ?_⟩
  refine ⟨G, env, M1, _, rs.mono e1, rm1, t1, fun l M2 H2 e2 rm2 t2 => ?_⟩
  refine ⟨G, env, M2, _, (rs.mono e1).mono e2, rm2, t2, fun u M3 H3 e3 rm3 t3 => ?_⟩
  exact ls_any rm3 ((rd.mono e2).mono e3) t3 fun d' v' M' H' e' => k d' v' M' H' (((e1.trans e2).trans e3).trans e')
end
/-! ### built-in calls -/
def rzInt1 (f : Int → D) : RCZ := fun ds M Q => match ds with
  | [.int i] => Q (f i) M
  | _ => False
def rzInt2 (f : Int → Int → D) : RCZ := fun ds M Q => match ds with
  | [.int i, .int j] => Q (f i j) M
  | _ => False
theorem reps1 {G : Addr → Prop} {M : MM} {H : Hp} {d : D} {xs : List V} (r : Reps G M H [d] xs) : ∃ v, xs = [v] ∧ Rep G M H d v := by
  obtain ⟨v, _, h1, h2, h3⟩ := r
  obtain rfl : _ = [] := h3
  exact ⟨v, h1, h2⟩
theorem reps2 {G : Addr → Prop} {M : MM} {H : Hp} {d e : D} {xs : List V} (r : Reps G M H [d, e] xs) : ∃ v w, xs = [v, w] ∧ Rep G M H d v ∧ Rep G M H e w := by
  obtain ⟨v, _, h1, h2, w, _, h3, h4, h5⟩ := r
  obtain rfl : _ = [] := h5
  subst h3
  exact ⟨v, w, h1, h2, h4⟩
theorem lc_abs : LiftC (fun xs H Q => ∃ i, xs = [.int i] ∧ Q (.int (if i < 0 then -i else i)) H) (rzInt1 fun i => .int (if i < 0 then -i else i)) := by
  intro G M H xs ds Q Q' rm rx h (k : Kont G M H Q Q')
  unfold rzInt1 at h
  split at h
  · next i =>
    obtain ⟨v, rfl, r⟩ := reps1 rx
    obtain rfl : v = .int i := r
    exact ⟨i, rfl, k (.int _) _ M H Ex.refl rm rfl h⟩
  · exact h.elim
theorem lc_max2 : LiftC (fun xs H Q => ∃ i j, xs = [.int i, .int j] ∧ Q (.int (if j > i then j else i)) H) (rzInt2 fun i j => .int (if j > i then j else i)) := by
  intro G M H xs ds Q Q' rm rx h (k : Kont G M H Q Q')
  unfold rzInt2 at h
  split at h
  · next i j =>
    obtain ⟨v, w, rfl, r, r2⟩ := reps2 rx
    obtain rfl : v = .int i := r
    obtain rfl : w = .int j := r2
    exact ⟨i, j, rfl, k (.int _) _ M H Ex.refl rm rfl h⟩
  · exact h.elim
theorem lc_min2 : LiftC (fun xs H Q => ∃ i j, xs = [.int i, .int j] ∧ Q (.int (if j < i then j else i)) H) (rzInt2 fun i j => .int (if j < i then j else i)) := by
  intro G M H xs ds Q Q' rm rx h (k : Kont G M H Q Q')
  unfold rzInt2 at h
  split at h
  · next i j =>
    obtain ⟨v, w, rfl, r, r2⟩ := reps2 rx
    obtain rfl : v = .int i := r
    obtain rfl : w = .int j := r2
    exact ⟨i, j, rfl, k (.int _) _ M H Ex.refl rm rfl h⟩
  · exact h.elim
def rzInt : RCZ := fun ds M Q => match ds with
  | [.int i] => Q (.int i) M
  | [.bl b] => Q (.int (if b = true then 1 else 0)) M
  | _ => False
/-- what len tells -/
def lenOf (M : MM) : D → Option Nat
  | .tup xs => some xs.length
  | .lst xs => some xs.length
  | .ref a => match M a with
    | some (.lst xs) => some xs.length
    | _ => none
  | _ => none
def rzLen (K : PySem.W.Frag) : RCZ := fun ds M Q => match ds with
  | [.kls K' _ ns] => K' = K ∧ Q (.int ns.length) M
  | [d] => match lenOf M d with
    | some n => Q (.int (n : Nat)) M
    | none => False
  | _ => False
theorem lc_len : LiftC (fun xs H Q => ∃ x n, xs = [x] ∧ LenV K x H n ∧ Q (.int n) H) (rzLen K) := by
  intro G M H xs ds Q Q' rm rx h (k : Kont G M H Q Q')
  unfold rzLen at h
  split at h
  · next K' a ns =>
    obtain ⟨v, rfl, r⟩ := reps1 rx
    obtain ⟨rfl, hl, hq⟩ := r
    obtain ⟨rfl, h⟩ := h
    exact ⟨_, ns.length, rfl, .inl ⟨_, rdl_sq hq, by rw [List.length_map]⟩, k (.int _) _ M H Ex.refl rm rfl h⟩
  · next d hnk =>
    obtain ⟨v, rfl, r⟩ := reps1 rx
    split at h
    · next n hn =>
      have kk : Q (.int n) H := k (.int n) _ M H Ex.refl rm rfl h
      cases d with
      | tup ys =>
        simp only [lenOf, Option.some.injEq] at hn
        obtain ⟨a, vs, rfl, h2, h3, h4⟩ := r
        exact ⟨_, n, rfl, .inr ⟨vs, SqT.of h2.1, by rw [← hn, h4.length]⟩, kk⟩
      | lst ys =>
        simp only [lenOf, Option.some.injEq] at hn
        obtain ⟨a, vs, rfl, h2, h3, h4⟩ := r
        exact ⟨_, n, rfl, .inl ⟨vs, SqL.of h2.1, by rw [← hn, h4.length]⟩, kk⟩
      | ref a =>
        obtain rfl : v = .ref a := r
        simp only [lenOf] at hn
        split at hn
        · next ys hM =>
          obtain ⟨vs, h2, h3, h4⟩ := rm.1 a _ hM
          simp only [Option.some.injEq] at hn
          exact ⟨_, n, rfl, .inl ⟨vs, SqL.of h2, by rw [← hn, h4.length]⟩, kk⟩
        · cases hn
      | _ => simp [lenOf] at hn
    · exact h.elim
  · exact h.elim
/-- ints, bools -/
def intsOf : List D → Option (List Int)
  | [] => some []
  | .int i :: ds => (intsOf ds).map (i :: ·)
  | _ => none
def blsOf : List D → Option (List Bool)
  | [] => some []
  | .bl i :: ds => (blsOf ds).map (i :: ·)
  | _ => none
theorem ints_reps {G : Addr → Prop} {M : MM} {H : Hp} : ∀ {ds : List D} {ns : List Int} {vs : List V}, intsOf ds = some ns → Reps G M H ds vs → vs = ns.map V.int
  | [], ns, vs, h, r => by
    obtain rfl : [] = ns := by simpa [intsOf] using h
    exact r
  | d :: ds, ns, vs, h, r => by
    cases d with
    | int i =>
      simp only [intsOf, Option.map_eq_some_iff] at h
      obtain ⟨ms, h1, rfl⟩ := h
      obtain ⟨v, w, rfl, h2, h3⟩ := r
      obtain rfl : v = .int i := h2
      rw [ints_reps h1 h3]; rfl
    | _ => simp [intsOf] at h
theorem bls_reps {G : Addr → Prop} {M : MM} {H : Hp} : ∀ {ds : List D} {ns : List Bool} {vs : List V}, blsOf ds = some ns → Reps G M H ds vs → vs = ns.map V.bl
  | [], ns, vs, h, r => by
    obtain rfl : [] = ns := by simpa [blsOf] using h
    exact r
  | d :: ds, ns, vs, h, r => by
    cases d with
    | bl i =>
      simp only [blsOf, Option.map_eq_some_iff] at h
      obtain ⟨ms, h1, rfl⟩ := h
      obtain ⟨v, w, rfl, h2, h3⟩ := r
      obtain rfl : v = .bl i := h2
      rw [bls_reps h1 h3]; rfl
    | _ => simp [blsOf] at h
def rzInts (f : List Int → D) : RCZ := fun ds M Q => match ds with
  | [d] => match view M d with
    | .lst xs => match intsOf xs with
      | some ns => Q (f ns) M
      | none => False
    | _ => False
  | _ => False
theorem lc_sum : LiftC (rSum K) (rzInts fun ns => .int ns.sum) := by
  intro G M H xs ds Q Q' rm rx h (k : Kont G M H Q Q')
  unfold rzInts at h
  split at h
  · next d =>
    obtain ⟨v, rfl, r⟩ := reps1 rx
    split at h
    · next ys hv =>
      obtain ⟨a, vs, rfl, h1, h2, h3⟩ := view_lst rm r hv
      split at h
      · next ns hn =>
        rw [ints_reps hn h3] at h1
        exact ⟨a, ns, rfl, SqL.of h1, k (.int _) _ M H Ex.refl rm rfl h⟩
      · exact h.elim
    · exact h.elim
  · exact h.elim
def rzBls (f : List Bool → D) : RCZ := fun ds M Q => match ds with
  | [d] => match view M d with
    | .lst xs => match blsOf xs with
      | some ns => Q (f ns) M
      | none => False
    | _ => False
  | _ => False
theorem lc_all : LiftC (rAll K) (rzBls fun ns => .bl (ns.all id)) := by
  intro G M H xs ds Q Q' rm rx h (k : Kont G M H Q Q')
  unfold rzBls at h
  split at h
  · next d =>
    obtain ⟨v, rfl, r⟩ := reps1 rx
    split at h
    · next ys hv =>
      obtain ⟨a, vs, rfl, h1, h2, h3⟩ := view_lst rm r hv
      split at h
      · next ns hn =>
        rw [bls_reps hn h3] at h1
        exact ⟨a, ns, rfl, SqL.of h1, k (.bl _) _ M H Ex.refl rm rfl h⟩
      · exact h.elim
    · exact h.elim
  · exact h.elim
theorem lc_any : LiftC (rAny K) (rzBls fun ns => .bl (ns.any id)) := by
  intro G M H xs ds Q Q' rm rx h (k : Kont G M H Q Q')
  unfold rzBls at h
  split at h
  · next d =>
    obtain ⟨v, rfl, r⟩ := reps1 rx
    split at h
    · next ys hv =>
      obtain ⟨a, vs, rfl, h1, h2, h3⟩ := view_lst rm r hv
      split at h
      · next ns hn =>
        rw [bls_reps hn h3] at h1
        exact ⟨a, ns, rfl, SqL.of h1, k (.bl _) _ M H Ex.refl rm rfl h⟩
      · exact h.elim
    · exact h.elim
  · exact h.elim
/-- tuple(xs), list(xs) -/
def rzTuple : RCZ := fun ds M Q => match ds with
  | [d] => match view M d with
    | .lst xs => Q (.tup xs) M
    | .tup xs => Q (.tup xs) M
    | _ => False
  | _ => False
theorem lc_tuple : LiftC (fun xs H Q => ∃ p ys, xs = [.ref p] ∧ ((SqL K H p ys ∧ ∀ l, H l = none → Q (.ref l) (upd H l (.tup ys))) ∨ (SqT K H p ys ∧ Q (.ref p) H))) rzTuple := by
  intro G M H xs ds Q Q' rm rx h (k : Kont G M H Q Q')
  unfold rzTuple at h
  split at h
  · next d =>
    obtain ⟨v, rfl, r⟩ := reps1 rx
    split at h
    · next ys hv =>
      obtain ⟨a, vs, rfl, h1, h2, h3⟩ := view_lst rm r hv
      exact ⟨a, vs, rfl, .inl ⟨SqL.of h1, fun l hl => k _ _ M _ (ex_new rm hl) (rel_new rm hl) (rep_new_tup rm hl h2 h3) h⟩⟩
    · next ys hv =>
      obtain ⟨a, vs, rfl, h1, h2, h3, rfl⟩ := view_tup r hv
      exact ⟨a, vs, rfl, .inr ⟨SqT.of h1, k _ _ M H Ex.refl rm r h⟩⟩
    · exact h.elim
  · exact h.elim
def seqOf (M : MM) (d : D) : Option (List D) := match view M d with
  | .lst xs => some xs
  | .tup xs => some xs
  | _ => none
def rzList : RCZ := fun ds M Q => match ds with
  | [d] => match seqOf M d with
    | some xs => Q (.lst xs) M
    | none => False
  | _ => False
def rzListN : RCZ := fun ds M Q => match ds with
  | [d] => match seqOf M d with
    | some xs => ∀ p, M p = none → Q (.ref p) (mu M p (.lst xs))
    | none => False
  | _ => False
theorem seq_ok {G : Addr → Prop} {M : MM} {H : Hp} {d : D} {v : V} {xs : List D} (rm : RelM G M H) (rd : Rep G M H d v) (h : seqOf M d = some xs) : ∃ a vs, v = .ref a ∧ (SqL K H a vs ∨ SqT K H a vs) ∧ vs.length ≤ sizeLine ∧ Reps G M H xs vs := by
  unfold seqOf at h
  split at h
  · next ys hv =>
    obtain rfl : ys = xs := by simpa using h
    obtain ⟨a, vs, rfl, h1, h2, h3⟩ := view_lst rm rd hv
    exact ⟨a, vs, rfl, .inl (SqL.of h1), h2, h3⟩
  · next ys hv =>
    obtain rfl : ys = xs := by simpa using h
    obtain ⟨a, vs, rfl, h1, h2, h3, _⟩ := view_tup rd hv
    exact ⟨a, vs, rfl, .inr (SqT.of h1), h2, h3⟩
  · cases h
theorem lc_list : LiftC (fun xs H Q => ∃ p ys, xs = [.ref p] ∧ (SqL K H p ys ∨ SqT K H p ys) ∧ ∀ l, H l = none → Q (.ref l) (upd H l (.lst ys))) rzList := by
  intro G M H xs ds Q Q' rm rx h (k : Kont G M H Q Q')
  unfold rzList at h
  split at h
  · next d =>
    obtain ⟨v, rfl, r⟩ := reps1 rx
    split at h
    · next ys hv =>
      obtain ⟨a, vs, rfl, h1, h2, h3⟩ := seq_ok rm r hv
      exact ⟨a, vs, rfl, h1, fun l hl => k _ _ M _ (ex_new rm hl) (rel_new rm hl) (rep_new_lst rm hl h2 h3) h⟩
    · exact h.elim
  · exact h.elim
theorem lc_listN : LiftC (fun xs H Q => ∃ p ys, xs = [.ref p] ∧ (SqL K H p ys ∨ SqT K H p ys) ∧ ∀ l, H l = none → Q (.ref l) (upd H l (.lst ys))) rzListN := by
  intro G M H xs ds Q Q' rm rx h (k : Kont G M H Q Q')
  unfold rzListN at h
  split at h
  · next d =>
    obtain ⟨v, rfl, r⟩ := reps1 rx
    split at h
    · next ys hv =>
      obtain ⟨a, vs, rfl, h1, h2, h3⟩ := seq_ok rm r hv
      refine ⟨a, vs, rfl, h1, fun l hl => ?_⟩
      have ex := ex_put (c := .lst ys) (o := .lst vs) rm (.inl hl)
      exact k (.ref l) _ (mu M l (.lst ys)) _ ex (rel_cell rm hl ⟨vs, upd_same, h2, h3.mono ex⟩) rfl (h l (rm.fresh hl))
    · exact h.elim
  · exact h.elim
theorem lc_int : LiftC (fun xs H Q => (∃ i, xs = [.int i] ∧ Q (.int i) H) ∨ ∃ k, xs = [.bl k] ∧ Q (.int (if k then 1 else 0)) H) rzInt := by
  intro G M H xs ds Q Q' rm rx h (k : Kont G M H Q Q')
  unfold rzInt at h
  split at h
  · next i =>
    obtain ⟨v, rfl, r⟩ := reps1 rx
    obtain rfl : v = .int i := r
    exact .inl ⟨i, rfl, k (.int _) _ M H Ex.refl rm rfl h⟩
  · next b =>
    obtain ⟨v, rfl, r⟩ := reps1 rx
    obtain rfl : v = .bl b := r
    exact .inr ⟨b, rfl, k (.int _) _ M H Ex.refl rm (by cases b <;> rfl) h⟩
  · exact h.elim
end
end Zz

set_option Elab.async false
set_option linter.all false
set_option maxRecDepth 100000
set_option maxHeartbeats 1000000
/-! Z9: sorted, isinstance, dicts, list methods. -/
namespace Zz
open PySem PySem.Spec PyProof.Rows L2

/-! ### sorted of data -/
def rSortD (K : PySem.W.Frag) : List V → Hp → VK → Prop := fun vs H Q => ∃ (a : Addr) (bs : List (V × D)), vs = [V.ref a] ∧ SqL K H a (bs.map (·.1)) ∧ (∀ b ∈ bs, Dp K H b.1 (toPy b.2) ∧ (toPy b.2).depth ≤ 40) ∧
  PySem.W.AllAlike (bs.map fun b => toPy b.2) ∧ PySem.W.Sortable (bs.map fun b => toPy b.2) ∧
  ∀ p, H p = none → Q (.ref p) (upd H p (.lst ((bs.mergeSort (PySem.W.dataLe false fun b => toPy b.2)).map (·.1))))
theorem each_of_vals : ∀ {bs : List (V × D)} {us : List Value}, Vals (bs.map (·.1)) us → PySem.W.EachIs (fun u (b : V × D) => RelV b.1 u) us bs
  | [], _, h => by cases h; exact .nil
  | b :: bs, _, h => by
    cases h with
    | cons r t => exact .cons r (each_of_vals t)
theorem vals_of_each : ∀ {bs : List (V × D)} {us : List Value}, PySem.W.EachIs (fun u (b : V × D) => RelV b.1 u) us bs → Vals (bs.map (·.1)) us
  | _, _, .nil => .nil
  | _, _, .cons r t => .cons r (vals_of_each t)
theorem each_reads {X : Cx} {pins : List (Addr × Obj)} {σ : L2.St} {H : Hp} {s : Shared} (I : Inv X pins σ H s) : ∀ {bs : List (V × D)} {us : List Value}, PySem.W.EachIs (fun u (b : V × D) => RelV b.1 u) us bs → (∀ b ∈ bs, Dp X.K H b.1 (toPy b.2)) → PySem.W.EachIs (fun u (b : V × D) => ∃ as, Reads s.heap u (toPy b.2) as) us bs
  | _, _, .nil, _ => .nil
  | _, _, .cons r t, h => .cons (Dp.reads I _ _ _ (h _ List.mem_cons_self) r) (each_reads I t fun b hb => h b (List.mem_cons_of_mem _ hb))
theorem call_sortD {X : Cx} {k : Nat} (hr : Room k X.A) : CallR X (.builtin "sorted") (rSortD X.K) := by
  intro pins s σ H vs us Q I r h
  obtain ⟨a, bs, rfl, hs, hd, ha, hk, q⟩ := h
  obtain ⟨its, rv, hl, hz⟩ := I.list hs
  rw [Vals.ref1 r]
  have e := each_of_vals rv
  have hL : bs.length ≤ sizeLine := by rw [← e.length, rv.length.symm]; exact hz
  refine PySem.W.sorted_data hl.isList e (enc := fun b => toPy b.2) (each_reads I e fun b hb => (hd b hb).1) ha hk hL (fun b hb => ?_) fun out hlen ho => ?_
  · have := (hd b hb).2; have := hr.units; show X.A.units + 2 + (toPy b.2).depth < cLine; omega
  · obtain ⟨ep, he'⟩ := PyProof.Rows.sortedAll_at s.heap its out.toArray
    have hv := vals_of_each ho
    refine ⟨.ref _, upd H (s.heap.objs.size + 1) (.lst ((bs.mergeSort (PySem.W.dataLe false fun b => toPy b.2)).map (·.1))), I.laid (t' := s.toks) (fun _ _ => PyProof.Rows.sortedAll_old) (Nat.le_succ _) ⟨?_, out, ep, hv, he'⟩, rfl, q _ (I.hok.fresh (Nat.le_succ _))⟩
    rw [List.length_map, List.length_mergeSort]; exact hL
def rzSort : RCZ := fun ds M Q => match ds with
  | [d] => match view M d with
    | .lst xs => okDs 40 xs = true ∧ PySem.W.AllAlike (xs.map toPy) ∧ PySem.W.Sortable (xs.map toPy) ∧ Q (.lst (xs.mergeSort (PySem.W.dataLe false toPy))) M
    | _ => False
  | _ => False
theorem zip_split : ∀ {vs : List V} {xs : List D}, xs.length = vs.length → (vs.zip xs).map (·.1) = vs ∧ (vs.zip xs).map (·.2) = xs
  | [], [], _ => ⟨rfl, rfl⟩
  | v :: vs, x :: xs, h => by
    have := zip_split (vs := vs) (xs := xs) (by simpa using h)
    simp only [List.zip_cons_cons, List.map_cons, this.1, this.2, and_self]
  | [], _ :: _, h => by simp at h
  | _ :: _, [], h => by simp at h
theorem reps_zip {G : Addr → Prop} {M : MM} {H : Hp} : ∀ {ps : List (V × D)}, (∀ p ∈ ps, Rep G M H p.2 p.1) → Reps G M H (ps.map (·.2)) (ps.map (·.1))
  | [], _ => rfl
  | p :: ps, h => .cons (h p List.mem_cons_self) (reps_zip fun q hq => h q (List.mem_cons_of_mem _ hq))
theorem zip_reps {G : Addr → Prop} {M : MM} {H : Hp} : ∀ {xs : List D} {vs : List V}, Reps G M H xs vs → ∀ p ∈ vs.zip xs, Rep G M H p.2 p.1
  | [], vs, r, p, hp => by
    obtain rfl : vs = [] := r
    simp at hp
  | x :: xs, vs, r, p, hp => by
    obtain ⟨v, w, rfl, h1, h2⟩ := r
    rw [List.zip_cons_cons, List.mem_cons] at hp
    rcases hp with rfl | hp
    · exact h1
    · exact zip_reps h2 p hp
theorem okDs_mem {n : Nat} : ∀ {xs : List D}, okDs n xs = true → ∀ x ∈ xs, okD n x = true
  | x :: xs, h, y, hy => by
    simp only [okDs, Bool.and_eq_true] at h
    rcases List.mem_cons.mp hy with rfl | hy
    · exact h.1
    · exact okDs_mem h.2 y hy
theorem lc_sort {K : PySem.W.Frag} : LiftC (rSortD K) rzSort := by
  intro G M H xs ds Q Q' rm rx h (k : Kont G M H Q Q')
  unfold rzSort at h
  split at h
  · next d =>
    obtain ⟨v, rfl, r⟩ := reps1 rx
    split at h
    · next ys hv =>
      obtain ⟨a, vs, rfl, h1, h2, h3⟩ := view_lst rm r hv
      obtain ⟨ok, al, so, h⟩ := h
      have hl := h3.length
      obtain ⟨e1, e2⟩ := zip_split hl
      have rp := zip_reps h3
      have em : ∀ (f : D → PyData), (vs.zip ys).map (fun b => f b.2) = ys.map f := fun f => by
        have := congrArg (List.map f) e2
        rw [List.map_map] at this
        exact this
      refine ⟨a, vs.zip ys, rfl, by rw [e1]; exact SqL.of h1, fun b hb => ?_, by rw [em]; exact al, by rw [em]; exact so, fun p hp => ?_⟩
      · have hm : b.2 ∈ ys := by rw [← e2]; exact List.mem_map_of_mem hb
        have okb := okDs_mem ok b.2 hm
        exact ⟨rep_dp 40 _ _ okb (rp b hb), (ok_lay 40 _ okb).2⟩
      · have es : ((vs.zip ys).mergeSort (PySem.W.dataLe false fun b => toPy b.2)).map (·.2) = ys.mergeSort (PySem.W.dataLe false toPy) := by
          have := PySem.W.sort_maps (r := PySem.W.dataLe false fun b : V × D => toPy b.2) (s := PySem.W.dataLe false toPy) (fun b : V × D => b.2) (l := vs.zip ys) (fun _ _ _ _ => rfl)
          rw [e2] at this
          exact this
        have rr := reps_zip (G := G) (M := M) (H := H) (ps := (vs.zip ys).mergeSort (PySem.W.dataLe false fun b => toPy b.2)) fun q hq => rp q (List.mem_mergeSort.mp hq)
        rw [es] at rr
        exact k _ _ M _ (ex_new rm hp) (rel_new rm hp) (rep_new_lst rm hp (by rw [← rr.length, List.length_mergeSort, hl]; exact h2) rr) h
    · exact h.elim
  · exact h.elim
/-! ### isinstance -/
inductive Kd where
  | non | bl | int | str | tup | lst | dic
deriving DecidableEq
def Kd.nm : Kd → String
  | .non => "NoneType"
  | .bl => "bool"
  | .int => "int"
  | .str => "str"
  | .tup => "tuple"
  | .lst => "list"
  | .dic => "dict"
def kdOf (M : MM) : D → Option Kd
  | .non => some .non
  | .bl _ => some .bl
  | .int _ => some .int
  | .str _ => some .str
  | .tup _ => some .tup
  | .lst _ => some .lst
  | .dic _ _ => some .dic
  | .dct _ _ => some .dic
  | .ref a => match M a with
    | some (.lst _) => some .lst
    | some (.dic _) => some .dic
    | some (.dct _) => some .dic
    | _ => none
  | .ty _ => none
  | .kls _ _ _ => none
  | .err _ _ _ => none
  | .exc _ _ _ => none
  | .lam _ _ _ => none
def isK : Kd → Kd → Bool
  | .bl, .int => true
  | a, b => decide (a = b)
def kdN : String → Option Kd
  | "int" => some .int
  | "bool" => some .bl
  | "str" => some .str
  | "tuple" => some .tup
  | "list" => some .lst
  | "dict" => some .dic
  | _ => none
theorem kit_all : ∀ a b : Kd, b ≠ .non → kitB a.nm b.nm = some (isK a b) := by
  intro a b h
  cases b
  · exact absurd rfl h
  all_goals (cases a <;> decide +kernel)
theorem kdN_nm {n : String} {k : Kd} (h : kdN n = some k) : n = k.nm ∧ k ≠ .non := by
  unfold kdN at h
  split at h
  all_goals first | (obtain rfl := Option.some.inj h; exact ⟨rfl, by decide⟩) | cases h
def rzIsi (n : Kd) : R1Z := fun d M Q => match kdOf M d with
  | some k => Q (.bl (isK k n)) M
  | none => False
theorem ty_of {G : Addr → Prop} {M : MM} {H : Hp} {K : PySem.W.Frag} {d : D} {v : V} {k : Kd} (rm : RelM G M H) (r : Rep G M H d v) (h : kdOf M d = some k) : TyX K H v (.type k.nm) := by
  cases d with
  | non => obtain rfl : v = .non := r; simp only [kdOf, Option.some.injEq] at h; subst h; exact .base .non
  | bl b => obtain rfl : v = .bl b := r; simp only [kdOf, Option.some.injEq] at h; subst h; exact .base (.bl b)
  | int b => obtain rfl : v = .int b := r; simp only [kdOf, Option.some.injEq] at h; subst h; exact .base (.int b)
  | str b => obtain rfl : v = .str b := r; simp only [kdOf, Option.some.injEq] at h; subst h; exact .base (.str b)
  | tup xs => obtain ⟨a, vs, rfl, h2, _⟩ := r; simp only [kdOf, Option.some.injEq] at h; subst h; exact .base (.tup h2.1)
  | lst xs => obtain ⟨a, vs, rfl, h2, _⟩ := r; simp only [kdOf, Option.some.injEq] at h; subst h; exact .base (.lst h2.1)
  | dic ks ds => obtain ⟨a, vs, rfl, _, h2, _⟩ := r; simp only [kdOf, Option.some.injEq] at h; subst h; exact .base (.dK h2)
  | dct ks ds => obtain ⟨a, vs, rfl, _, h2, _⟩ := r; simp only [kdOf, Option.some.injEq] at h; subst h; exact .base (.dT h2)
  | ref a =>
    obtain rfl : v = .ref a := r
    simp only [kdOf] at h
    split at h
    · next ys hM => obtain ⟨vs, h2, _⟩ := rm.1 a _ hM; simp only [Option.some.injEq] at h; subst h; exact .base (.lst h2)
    · next ys hM => obtain ⟨vs, h2, _⟩ := rm.1 a _ hM; simp only [Option.some.injEq] at h; subst h; exact .base (.dK h2)
    · next ys hM => obtain ⟨vs, h2, _⟩ := rm.1 a _ hM; simp only [Option.some.injEq] at h; subst h; exact .base (.dT h2)
    · cases h
  | ty n => simp [kdOf] at h
  | kls _ _ _ => simp [kdOf] at h
  | err _ _ _ => simp [kdOf] at h
  | exc _ _ _ => exact r.elim
  | lam _ _ _ => simp [kdOf] at h
/-- isinstance(e, T), T one built-in type -/
theorem ze_isi {X : Cx} {e : Expr} {T : TZ} {p p2 pos : Pos} {n : Kd} {y : Str} (hg : Gl X "isinstance") (hm : X.mg "isinstance" = none) (he : ZE X e T) (hT : ZE X (.Name y p2) (zC (.ty n.nm))) (hn : n ≠ .non := by decide)
    (hs : starEach [e, .Name y p2] X.env = (false, eval e X.env) :: starEach [.Name y p2] X.env := by rfl) (hs2 : starEach [.Name y p2] X.env = (false, eval (.Name y p2) X.env) :: starEach [] X.env := by rfl) (hpl : (backTo pos (starEach [.Name y p2] X.env)).any (·.1) = false := by rfl) :
    ZE X (.Call (.Name "isinstance" p) [e, .Name y p2] [] pos) (zUn (rzIsi n) T) := PE.wk (pe_callB call_isi hg hm (by rfl) (pa_cons he (pa_cons hT pa_nil hs2) hs) (by decide) (by decide) hs hpl) fun σ H Q h => by
  obtain ⟨G, env, M, Q', rs, rm, t, k⟩ := h
  refine ⟨G, env, M, _, rs, rm, t, fun d v M1 H1 e1 rm1 rd t1 => ?_⟩
  refine ⟨G, env, M1, fun d M' => d = .ty n.nm ∧ M' = M1, rs.mono e1, rm1, ⟨rfl, rfl⟩, fun d2 v2 M2 H2 e2 rm2 rd2 ⟨hd, hM⟩ => ?_⟩
  subst hd; subst hM
  obtain rfl : v2 = .ty n.nm := rd2
  unfold rzIsi at t1
  split at t1
  · next kd hk => exact ⟨v, _, _, _, _, rfl, .ty _, ty_of rm2 (rd.mono e2) hk, kit_ty (kit_all kd n hn), k _ _ _ H2 (e1.trans e2) rm2 (show Rep G _ H2 (.bl (isK kd n)) (.bl (isK kd n)) from rfl) t1⟩
  · exact t1.elim
/-! ### in, of flat values -/
def toV : D → V
  | .non => .non
  | .bl b => .bl b
  | .int i => .int i
  | .str x => .str x
  | _ => .non
theorem flat_rep {G : Addr → Prop} {M : MM} {H : Hp} {d : D} {v : V} (r : Rep G M H d v) (h : flatD d = true) : v = toV d ∧ flatV v = true := by
  cases d with
  | non => obtain rfl : v = .non := r; exact ⟨rfl, rfl⟩
  | bl b => obtain rfl : v = .bl b := r; exact ⟨rfl, rfl⟩
  | int b => obtain rfl : v = .int b := r; exact ⟨rfl, rfl⟩
  | str b => obtain rfl : v = .str b := r; exact ⟨rfl, rfl⟩
  | _ => simp [flatD] at h
theorem flat_reps {G : Addr → Prop} {M : MM} {H : Hp} : ∀ {ds : List D} {vs : List V}, Reps G M H ds vs → ds.all flatD = true → vs = ds.map toV ∧ vs.all flatV = true
  | [], vs, r, _ => by obtain rfl : vs = [] := r; exact ⟨rfl, rfl⟩
  | d :: ds, vs, r, h => by
    obtain ⟨v, w, rfl, h1, h2⟩ := r
    simp only [List.all_cons, Bool.and_eq_true] at h
    obtain ⟨e1, e2⟩ := flat_rep h1 h.1
    obtain ⟨e3, e4⟩ := flat_reps h2 h.2
    simp only [List.map_cons, List.all_cons, e2, e4, Bool.and_self, and_true]
    rw [e1, e3]
def eqF : D → D → Bool
  | .non, .non => true
  | .bl a, .bl b => a == b
  | .bl a, .int b => (if a then 1 else 0) == b
  | .int a, .bl b => a == (if b then 1 else 0)
  | .int a, .int b => a == b
  | .str a, .str b => a == b
  | _, _ => false
theorem eqF_V {a b : D} (ha : flatD a = true) (hb : flatD b = true) : eqV (toV a) (toV b) = eqF a b := by
  cases a <;> first | (simp [flatD] at ha; done) | (cases b <;> first | (simp [flatD] at hb; done) | rfl)
def inF (x : D) (xs : List D) : Bool := xs.any fun y => eqF y x
theorem inF_V {x : D} (hx : flatD x = true) : ∀ {xs : List D}, xs.all flatD = true → inV (toV x) (xs.map toV) = inF x xs := by
  intro xs h
  unfold inV inF
  rw [List.any_map]
  induction xs with
  | nil => rfl
  | cons y ys ih =>
    simp only [List.all_cons, Bool.and_eq_true] at h
    rw [List.any_cons, List.any_cons, ih h.2]
    congr 1
    exact eqF_V h.1 hx
def rzIn (neg : Bool) : R2Z := fun x y M Q => match seqOf M y with
  | some xs => flatD x = true ∧ xs.all flatD = true ∧ Q (.bl (if neg then !inF x xs else inF x xs)) M
  | none => False
theorem lr_in {K : PySem.W.Frag} {neg : Bool} : LiftR (rIn K neg) (rzIn neg) := by
  intro G M H x y d e Q Q' rm rx ry h (k : Kont G M H Q Q')
  unfold rzIn at h
  split at h
  · next xs hq =>
    obtain ⟨a, vs, rfl, hs, hz, hr⟩ := seq_ok (K := K) rm ry hq
    obtain ⟨h1, h2, h3⟩ := h
    obtain ⟨e1, e2⟩ := flat_rep rx h1
    obtain ⟨e3, e4⟩ := flat_reps hr h2
    refine ⟨a, vs, rfl, hs, e2, e4, k _ _ M H Ex.refl rm ?_ h3⟩
    rw [e1, e3, inF_V h1 h2]
    rfl
  · exact h.elim
end Zz

set_option Elab.async false
set_option linter.all false
set_option maxRecDepth 100000
set_option maxHeartbeats 1000000
/-! Z10: dicts, list methods, list(range). -/
namespace Zz
open PySem PySem.Spec PyProof.Rows L2

/-! ### what a dict holds -/
def keyD : D → Option Key
  | .int i => some (.inl i)
  | .str x => some (.inr x)
  | _ => none
def valD (kvs : List (Key × D)) (k : Key) : Option D := (kvs.find? fun kv => decide (kv.1 = k)).map (·.2)
def putD (kvs : List (Key × D)) (k : Key) (d : D) : List (Key × D) :=
  if (kvs.any fun kv => decide (kv.1 = k)) = true then kvs.map (fun kv => if kv.1 = k then (kv.1, d) else kv) else kvs ++ [(k, d)]
def dicOf (M : MM) : D → Option (List (Key × D))
  | .dic ks ds => if ks.length = ds.length then some (ks.zip ds) else none
  | .ref a => match M a with
    | some (.dic kvs) => some kvs
    | _ => none
  | _ => none
/-- ws stands for kvs -/
def RepK (G : Addr → Prop) (M : MM) (H : Hp) (kvs : List (Key × D)) (ws : List (Key × V)) : Prop := ws.map (·.1) = kvs.map (·.1) ∧ Reps G M H (kvs.map (·.2)) (ws.map (·.2))
section
variable {G : Addr → Prop} {M M' : MM} {H H' : Hp}
theorem RepK.mono {kvs : List (Key × D)} {ws : List (Key × V)} (e : Ex G M H M' H') (r : RepK G M H kvs ws) : RepK G M' H' kvs ws := ⟨r.1, r.2.mono e⟩
theorem RepK.cases {kvs : List (Key × D)} {ws : List (Key × V)} (r : RepK G M H kvs ws) : (kvs = [] ∧ ws = []) ∨ ∃ k d v kvs' ws', kvs = (k, d) :: kvs' ∧ ws = (k, v) :: ws' ∧ Rep G M H d v ∧ RepK G M H kvs' ws' := by
  obtain ⟨r1, r2⟩ := r
  cases kvs with
  | nil => cases ws with
    | nil => exact .inl ⟨rfl, rfl⟩
    | cons _ _ => simp at r1
  | cons p kvs => cases ws with
    | nil => simp at r1
    | cons q ws =>
      obtain ⟨k, d⟩ := p
      obtain ⟨k', v⟩ := q
      simp only [List.map_cons, List.cons.injEq] at r1
      obtain ⟨rfl, r1⟩ := r1
      obtain ⟨v', w, e, h1, h2⟩ := r2
      simp only [List.map_cons, List.cons.injEq] at e
      obtain ⟨rfl, rfl⟩ := e
      exact .inr ⟨k', d, v, kvs, ws, rfl, rfl, h1, r1, h2⟩
theorem RepK.cons {kvs : List (Key × D)} {ws : List (Key × V)} {k : Key} {d : D} {v : V} (h : Rep G M H d v) (r : RepK G M H kvs ws) : RepK G M H ((k, d) :: kvs) ((k, v) :: ws) := ⟨by simp [r.1], .cons h r.2⟩
theorem RepK.nil : RepK G M H [] [] := ⟨rfl, rfl⟩
theorem RepK.val {k : Key} : ∀ {kvs : List (Key × D)} {ws : List (Key × V)}, RepK G M H kvs ws → (valD kvs k = none ∧ valV ws k = none) ∨ ∃ d v, valD kvs k = some d ∧ valV ws k = some v ∧ Rep G M H d v := by
  intro kvs
  induction kvs with
  | nil =>
    intro ws r
    rcases r.cases with ⟨_, rfl⟩ | ⟨_, _, _, _, _, e, _⟩
    · exact .inl ⟨rfl, rfl⟩
    · cases e
  | cons p kvs ih =>
    intro ws r
    rcases r.cases with ⟨e, _⟩ | ⟨k', d, v, kvs', ws', e, rfl, h1, h2⟩
    · cases e
    · cases e
      by_cases hk : k' = k
      · refine .inr ⟨d, v, ?_, ?_, h1⟩
        · simp [valD, hk]
        · simp [valV, hk]
      · have e1 : valD ((k', d) :: kvs) k = valD kvs k := by simp [valD, hk]
        have e2 : valV ((k', v) :: ws') k = valV ws' k := by simp [valV, hk]
        rw [e1, e2]
        exact ih h2
theorem RepK.map {k : Key} {d : D} {v : V} (h : Rep G M H d v) : ∀ {kvs : List (Key × D)} {ws : List (Key × V)}, RepK G M H kvs ws → RepK G M H (kvs.map fun kv => if kv.1 = k then (kv.1, d) else kv) (ws.map fun kv => if kv.1 = k then (kv.1, v) else kv) := by
  intro kvs
  induction kvs with
  | nil =>
    intro ws r
    rcases r.cases with ⟨_, rfl⟩ | ⟨_, _, _, _, _, e, _⟩
    · exact .nil
    · cases e
  | cons p kvs ih =>
    intro ws r
    rcases r.cases with ⟨e, _⟩ | ⟨k', d', v', kvs', ws', e, rfl, h1, h2⟩
    · cases e
    · cases e
      rw [List.map_cons, List.map_cons]
      by_cases hk : k' = k
      · rw [if_pos hk, if_pos hk]; exact .cons h (ih h2)
      · rw [if_neg hk, if_neg hk]; exact .cons h1 (ih h2)
theorem RepK.any {k : Key} : ∀ {kvs : List (Key × D)} {ws : List (Key × V)}, RepK G M H kvs ws → (kvs.any fun kv => decide (kv.1 = k)) = (ws.any fun kv => decide (kv.1 = k)) := by
  intro kvs ws r
  have e : ∀ {α : Type} (l : List (Key × α)), (l.any fun kv => decide (kv.1 = k)) = (l.map (·.1)).any fun x => decide (x = k) := fun l => by rw [List.any_map]; rfl
  rw [e, e, r.1]
theorem RepK.app {kvs ls : List (Key × D)} {ws zs : List (Key × V)} (r : RepK G M H kvs ws) (r2 : RepK G M H ls zs) : RepK G M H (kvs ++ ls) (ws ++ zs) :=
  ⟨by rw [List.map_append, List.map_append, r.1, r2.1], by rw [List.map_append, List.map_append]; exact r.2.append r2.2⟩
theorem RepK.put {kvs : List (Key × D)} {ws : List (Key × V)} {k : Key} {d : D} {v : V} (r : RepK G M H kvs ws) (h : Rep G M H d v) : RepK G M H (putD kvs k d) (putK ws k v) := by
  unfold putD putK
  rw [r.any]
  split
  · exact r.map h
  · exact r.app (.cons h .nil)
theorem RepK.length {kvs : List (Key × D)} {ws : List (Key × V)} (r : RepK G M H kvs ws) : ws.length = kvs.length := by
  have := congrArg List.length r.1
  simpa using this
theorem dic_zip : ∀ {ks : List Key} {ds : List D}, ks.length = ds.length → (ks.zip ds).map (·.1) = ks ∧ (ks.zip ds).map (·.2) = ds
  | [], [], _ => ⟨rfl, rfl⟩
  | k :: ks, d :: ds, h => by
    obtain ⟨h1, h2⟩ := dic_zip (ks := ks) (ds := ds) (by simpa using h)
    simp only [List.zip_cons_cons, List.map_cons, h1, h2, and_self]
  | [], _ :: _, h => by simp at h
  | _ :: _, [], h => by simp at h
theorem dic_ok {d : D} {v : V} {kvs : List (Key × D)} (rm : RelM G M H) (rd : Rep G M H d v) (h : dicOf M d = some kvs) : ∃ a ws, v = .ref a ∧ H a = some (.dK ws) ∧ RepK G M H kvs ws := by
  cases d with
  | dic ks ds =>
    simp only [dicOf] at h
    split at h
    · next hl =>
      obtain rfl := Option.some.inj h
      obtain ⟨a, ws, rfl, _, h2, h3, h4⟩ := rd
      obtain ⟨e1, e2⟩ := dic_zip hl
      exact ⟨a, ws, rfl, h2, by rw [e1]; exact h3, by rw [e2]; exact h4⟩
    · cases h
  | ref a =>
    obtain rfl : v = .ref a := rd
    simp only [dicOf] at h
    split at h
    · next ys hM =>
      obtain rfl := Option.some.inj h
      obtain ⟨ws, h1, h2, h3⟩ := rm.1 a _ hM
      exact ⟨a, ws, rfl, h1, h2, h3⟩
    · cases h
  | _ => simp [dicOf] at h
theorem key_ok {d : D} {v : V} {k : Key} (rd : Rep G M H d v) (h : keyD d = some k) : v = kV k := by
  cases d with
  | int i => obtain rfl := Option.some.inj h; exact rd
  | str i => obtain rfl := Option.some.inj h; exact rd
  | _ => simp [keyD] at h
end
/-! ### {}, d[k], d.get(k, x), d[k] = v, sorted(d) -/
def zDNew : TZ := fun _ M Q => ∀ p, M p = none → Q (.ref p) (mu M p (.dic []))
def rzDGet : R2Z := fun x y M Q => match dicOf M x, keyD y with
  | some kvs, some k => match valD kvs k with
    | some d => Q d M
    | none => False
  | _, _ => False
def zDGet2 (T Tk Tx : TZ) : TZ := fun env M Q => T env M fun x M1 => (dicOf M1 x).isSome = true ∧ Tk env M1 fun y M2 => Tx env M2 fun z M3 => match dicOf M3 x, keyD y with
  | some kvs, some k => Q ((valD kvs k).getD z) M3
  | _, _ => False
def zDPut (To Ti Te : TZ) : TSZ := fun Dd env M => Te env M fun d M1 => To env M1 fun o M2 => Ti env M2 fun i M3 => match o, keyD i with
  | .ref a, some k => match M3 a with
    | some (.dic kvs) => kvs.length < 10000000 ∧ Dd.nx env (mu M3 a (.dic (putD kvs k d)))
    | _ => False
  | _, _ => False
section
variable {X : Cx} {o e f i value : Expr} {pos pos' apos cpos : Pos} {T Tk Tx To Ti Te : TZ}
theorem ze_dnew : ZE X (.Dict [] [] pos) zDNew := PE.wk pe_dnewK fun σ H Q h => by
  obtain ⟨G, env, M, Q', rs, rm, t, k⟩ := h
  intro p hp
  exact k (.ref p) _ (mu M p (.dic [])) _ (ex_put rm (.inl hp)) (rel_cell rm hp ⟨[], upd_same, rfl, rfl⟩) rfl (t p (rm.fresh hp))
theorem ze_dget {k : Nat} (hr : Room k X.A) (ho : ZE X o T) (hi : ZE X i Tk) (hs : NoSl i := by intro _ _; rfl) : ZE X (.Subscript o i pos) (zBin rzDGet T Tk) := PE.wk (pe_dget (by have := hr.units; omega) ho hi hs) fun σ H Q h => by
  obtain ⟨G, env, M, Q', rs, rm, t, k⟩ := h
  refine ⟨G, env, M, _, rs, rm, t, fun d v M1 H1 e1 rm1 rd t1 => ?_⟩
  refine ⟨G, env, M1, _, rs.mono e1, rm1, t1, fun d2 v2 M2 H2 e2 rm2 rd2 t2 => ?_⟩
  unfold rzDGet at t2
  split at t2
  · next kvs kk hd hk =>
    obtain ⟨a, ws, rfl, h1, h2⟩ := dic_ok rm2 (rd.mono e2) hd
    obtain rfl := key_ok rd2 hk
    split at t2
    · next d' hv =>
      rcases h2.val (k := kk) with ⟨q, _⟩ | ⟨d'', v'', q1, q2, q3⟩
      · rw [q] at hv; cases hv
      · rw [q1] at hv; cases hv
        exact ⟨a, v'', rfl, by rw [← q2]; exact DGet.k h1, k _ _ M2 H2 (e1.trans e2) rm2 q3 t2⟩
    · exact t2.elim
  · exact t2.elim
theorem ze_dget2 {k : Nat} (hr : Room k X.A) (ho : ZE X o T) (he : ZE X e Tk) (hf : ZE X f Tx) (m : M2 X o "get" apos e f cpos := by exact ⟨rfl, rfl, rfl, rfl⟩) : ZE X (.Call (.Attribute o "get" apos) [e, f] [] cpos) (zDGet2 T Tk Tx) := PE.wk (pe_dget2 (by have := hr.units; omega) ho he hf m) fun σ H Q h => by
  obtain ⟨G, env, M, Q', rs, rm, t, k⟩ := h
  refine ⟨G, env, M, _, rs, rm, t, fun d v M1 H1 e1 rm1 rd ⟨hd, t1⟩ => ?_⟩
  obtain ⟨kvs0, hd0⟩ := Option.isSome_iff_exists.mp hd
  obtain ⟨a, ws, rfl, h1, h2⟩ := dic_ok rm1 rd hd0
  refine ⟨a, rfl, .inl ⟨ws, .inl h1⟩, G, env, M1, _, rs.mono e1, rm1, t1, fun d2 v2 M2 H2 e2 rm2 rd2 t2 => ?_⟩
  refine ⟨G, env, M2, _, (rs.mono e1).mono e2, rm2, t2, fun d3 v3 M3 H3 e3 rm3 rd3 t3 => ?_⟩
  split at t3
  · next kvs kk hd3 hk =>
    obtain ⟨a', ws', ea, h1', h2'⟩ := dic_ok rm3 ((rd.mono e2).mono e3) hd3
    cases ea
    obtain rfl := key_ok (rd2.mono e3) hk
    refine ⟨_, DGet.k h1', ?_⟩
    rcases h2'.val (k := kk) with ⟨q1, q2⟩ | ⟨d'', v'', q1, q2, q3⟩
    · rw [q1] at t3; rw [q2]
      exact k _ _ M3 H3 ((e1.trans e2).trans e3) rm3 rd3 t3
    · rw [q1] at t3; rw [q2]
      exact k _ _ M3 H3 ((e1.trans e2).trans e3) rm3 q3 t3
  · exact t3.elim
theorem zs_dput {k : Nat} (hr : Room k X.A) (he : ZE X value Te) (ho : ZE X o To) (hi : ZE X i Ti) (hs : swapsWith value (some (.Subscript o i pos')) pos.line X.env = pure false := by rfl) : ZS X (.Assign [.Subscript o i pos'] value pos) (zDPut To Ti Te) := PS.wk (ps_dput (by have := hr.units; omega) ho hi he hs) fun Dd σ H h => by
  obtain ⟨G, env, M, D', rs, rm, t, k⟩ := h
  refine ⟨G, env, M, _, rs, rm, t, fun d v M1 H1 e1 rm1 rd t1 => ?_⟩
  refine ⟨G, env, M1, _, rs.mono e1, rm1, t1, fun d2 v2 M2 H2 e2 rm2 rd2 t2 => ?_⟩
  refine ⟨G, env, M2, _, (rs.mono e1).mono e2, rm2, t2, fun d3 v3 M3 H3 e3 rm3 rd3 t3 => ?_⟩
  split at t3
  · next a kk hk =>
    split at t3
    · next kvs hM =>
      obtain ⟨ws, hH, hw⟩ := rm3.1 a _ hM
      have hw : RepK G M3 H3 kvs ws := hw
      have r2 : v2 = .ref a := rd2
      obtain rfl := key_ok rd3 hk
      have hne : H3 a = none ∨ M3 a ≠ none := .inr (by rw [hM]; exact fun h => by cases h)
      have ex := ex_put (c := .dic (putD kvs kk d)) (o := .dK (putK ws kk v)) rm3 hne
      refine ⟨a, _, r2, DPut.k hH (by rw [hw.length]; exact Nat.lt_of_lt_of_le t3.1 (by decide)), k.1 _ _ σ _ (((e1.trans e2).trans e3).trans ex) ((((rs.mono e1).mono e2).mono e3).mono ex) ?_ t3.2⟩
      refine rel_put rm3 hne (fun a h => by rw [hM] at h; cases h) ?_
      have := (hw.mono ex).put (k := kk) (((rd.mono e2).mono e3).mono ex)
      exact ⟨_, upd_same, this.1, this.2⟩
    · exact t3.elim
  · exact t3.elim
end
def intKeys : List Key → Option (List Int)
  | [] => some []
  | .inl i :: ks => (intKeys ks).map (i :: ·)
  | _ => none
theorem intKeys_map : ∀ {ks : List Key} {ns : List Int}, intKeys ks = some ns → ks = ns.map Sum.inl
  | [], ns, h => by obtain rfl := Option.some.inj h; rfl
  | .inl i :: ks, ns, h => by
    simp only [intKeys, Option.map_eq_some_iff] at h
    obtain ⟨ms, h1, rfl⟩ := h
    rw [intKeys_map h1]; rfl
  | .inr _ :: ks, ns, h => by simp [intKeys] at h
def rzSortDI : RCZ := fun ds M Q => match ds with
  | [d] => match dicOf M d with
    | some kvs => match intKeys (kvs.map (·.1)) with
      | some ns => ns.length < 64 ∧ ∀ ys : List Int, ys.Perm ns → ys.Pairwise (· ≤ ·) → Q (.lst (ys.map D.int)) M
      | none => False
    | none => False
  | _ => False
theorem lc_sortDI : LiftC (fun xs H Q => ∃ (a : Addr) (kvs : List (Key × V)) (ks : List Int), xs = [.ref a] ∧ Rd H a (.dK kvs) ∧ kvs.map (·.1) = ks.map Sum.inl ∧ ks.length < 64 ∧
    ∀ (ys : List Int) (p : Addr), ys.Perm ks → ys.Pairwise (· ≤ ·) → H p = none → Q (.ref p) (upd H p (.lst (ys.map V.int)))) rzSortDI := by
  intro G M H xs ds Q Q' rm rx h (k : Kont G M H Q Q')
  unfold rzSortDI at h
  split at h
  · next d =>
    obtain ⟨v, rfl, r⟩ := reps1 rx
    split at h
    · next kvs hd =>
      obtain ⟨a, ws, rfl, h1, h2⟩ := dic_ok rm r hd
      split at h
      · next ns hn =>
        refine ⟨a, ws, ns, rfl, .inl h1, by rw [h2.1]; exact intKeys_map hn, h.1, fun ys p hp ho hq => ?_⟩
        exact k _ _ M _ (ex_new rm hq) (rel_new rm hq) (rep_new_lst rm hq (by rw [List.length_map, hp.length_eq]; exact small64 h.1) (reps_ints ys)) (h.2 ys hp ho)
      · exact h.elim
    · exact h.elim
  · exact h.elim
/-! ### a dict of texts that stands in the written part -/
def rzKd (a : Addr) (f : Str → Option Str) : R2Z := fun x y M Q => match x, y with
  | .ref p, .str z => p = a ∧ match f z with
    | some u => Q (.str u) M
    | none => False
  | _, _ => False
theorem lr_kd {K : PySem.W.Frag} {w : World} {a : Addr} {f : Str → Option Str} (hk : ∀ z u, f z = some u → KDct K w a z (.str u)) : LiftR (rIxD K w) (rzKd a f) := by
  intro G M H x y d e Q Q' rm rx ry h (k : Kont G M H Q Q')
  unfold rzKd at h
  split at h
  · next p z =>
    obtain ⟨rfl, h⟩ := h
    split at h
    · next u hu => exact ⟨p, z, _, rx, ry, hk z u hu, k (.str u) _ M H Ex.refl rm rfl h⟩
    · exact h.elim
  · exact h.elim
/-! ### methods of lists that change -/
def zAppend (To : TZ) (T : TAZ) : TZ := fun env M Q => To env M fun x M1 => match x with
  | .ref a => (∃ xs, M1 a = some (.lst xs)) ∧ T env M1 fun ds M2 => match ds, M2 a with
    | [d], some (.lst xs) => xs.length < 10000000 ∧ Q .non (mu M2 a (.lst (xs ++ [d])))
    | _, _ => False
  | _ => False
def zPop (To : TZ) : TZ := fun env M Q => To env M fun x M1 => match x with
  | .ref a => match M1 a with
    | some (.lst xs) => match xs[xs.length - 1]? with
      | some d => Q d (mu M1 a (.lst xs.dropLast))
      | none => False
    | _ => False
  | _ => False
def zPopAt (To : TZ) (T : TAZ) : TZ := fun env M Q => To env M fun x M1 => match x with
  | .ref a => (∃ xs, M1 a = some (.lst xs)) ∧ T env M1 fun ds M2 => match ds, M2 a with
    | [.int i], some (.lst xs) => 0 ≤ i ∧ i < 10000000000 ∧ match xs[i.toNat]? with
      | some d => Q d (mu M2 a (.lst (xs.eraseIdx i.toNat)))
      | none => False
    | _, _ => False
  | _ => False
section
variable {G : Addr → Prop} {M : MM} {H : Hp}
/-- a tracked list written -/
theorem lst_put {a : Addr} {xs ys : List D} {ws : List V} (rm : RelM G M H) (hM : M a = some (.lst xs)) (hz : ws.length ≤ sizeLine) (r : Reps G M H ys ws) : Ex G M H (mu M a (.lst ys)) (upd H a (.lst ws)) ∧ RelM G (mu M a (.lst ys)) (upd H a (.lst ws)) := by
  have hne : H a = none ∨ M a ≠ none := .inr (by rw [hM]; exact fun h => by cases h)
  have ex := ex_put (c := .lst ys) (o := .lst ws) rm hne
  exact ⟨ex, rel_put rm hne (fun a h => by rw [hM] at h; cases h) ⟨_, upd_same, hz, r.mono ex⟩⟩
theorem Reps.dropLast {xs : List D} {vs : List V} (r : Reps G M H xs vs) : Reps G M H xs.dropLast vs.dropLast := by
  rw [List.dropLast_eq_take, List.dropLast_eq_take, r.length]; exact r.take _
theorem Reps.eraseIdx : ∀ {xs : List D} {vs : List V} (i : Nat), Reps G M H xs vs → Reps G M H (xs.eraseIdx i) (vs.eraseIdx i)
  | [], _, i, h => by have e : _ = [] := h; rw [e]; exact rfl
  | x :: ds, vs, 0, h => by
    obtain ⟨w, r, rfl, h2, h3⟩ := h
    exact h3
  | x :: ds, vs, i + 1, h => by
    obtain ⟨w, r, rfl, h2, h3⟩ := h
    exact ⟨w, _, rfl, h2, Reps.eraseIdx i h3⟩
end
section
variable {X : Cx} {o e f i value : Expr} {pos pos' apos cpos : Pos} {To T : TZ}
theorem ze_append {T : TAZ} (ho : ZE X o To) (ha : ZA X [e] T) (hbase : attributeBase o "append" X.env (eval o X.env) = eval o X.env := by rfl)
    (hfew : ((backTo cpos (starEach [e] X.env)).all (fun x => !x.1) && (backToKw cpos (keywordEach [] X.env)).all (fun x => x.1.isSome)
      && decide ((e :: []).length + ([] : List Keyword).length + (if ([] : List Keyword).isEmpty then 0 else 1) < 30)) = true := by rfl)
    (hline : (apos.endLine == cpos.line) = true := by rfl) (hs : starEach [e] X.env = (false, eval e X.env) :: starEach [] X.env := by rfl) (hplain : (backTo cpos (starEach [] X.env)).any (·.1) = false := by rfl) :
    ZE X (.Call (.Attribute o "append" apos) [e] [] cpos) (zAppend To T) := PE.wk (pe_bm PySem.F.plainAttrs_list PySem.F.slot_list_append PySem.F.type_list_append mt_append ho ha hbase hfew hline hs hplain) fun σ H Q h => by
  obtain ⟨G, env, M, Q', rs, rm, t, k⟩ := h
  refine ⟨G, env, M, _, rs, rm, t, fun d v M1 H1 e1 rm1 rd t1 => ?_⟩
  cases d with
  | ref a =>
    obtain rfl : v = .ref a := rd
    obtain ⟨⟨xs, hM⟩, t1⟩ := t1
    obtain ⟨ws, hH, _⟩ := rm1.1 a _ hM
    refine ⟨.inl ⟨rfl, ws, SqL.of hH⟩, G, env, M1, _, rs.mono e1, rm1, t1, fun ds vs M2 H2 e2 rm2 rds t2 => ?_⟩
    split at t2
    · next d' ys hM2 =>
      obtain ⟨v', rfl, r⟩ := reps1 rds
      obtain ⟨us, hH2, hz, hr⟩ := rm2.1 a _ hM2
      obtain ⟨hl, t2⟩ := t2
      have hl' : us.length < sizeLine := by rw [← hr.length]; exact Nat.lt_of_lt_of_le hl (by decide)
      have q := lst_put (ys := ys ++ [d']) (ws := us ++ [v']) rm2 hM2 (by rw [List.length_append]; exact hl') (hr.append (.cons r .nil))
      exact ⟨a, us, v', rfl, rfl, hH2, hl', k .non .non _ _ ((e1.trans e2).trans q.1) q.2 rfl t2⟩
    · exact t2.elim
  | _ => exact t1.elim
theorem ze_pop (ho : ZE X o To) (hbase : attributeBase o "pop" X.env (eval o X.env) = eval o X.env := by rfl) (hline : (apos.endLine == cpos.line) = true := by rfl) : ZE X (.Call (.Attribute o "pop" apos) [] [] cpos) (zPop To) :=
  PE.wk (pe_bm0 PySem.F.plainAttrs_list PySem.F.slot_list_pop PySem.F.type_list_pop mt_pop ho hbase hline) fun σ H Q h => by
  obtain ⟨G, env, M, Q', rs, rm, t, k⟩ := h
  refine ⟨G, env, M, _, rs, rm, t, fun d v M1 H1 e1 rm1 rd t1 => ?_⟩
  cases d with
  | ref a =>
    obtain rfl : v = .ref a := rd
    simp only at t1
    split at t1
    · next xs hM =>
      obtain ⟨ws, hH, hz, hr⟩ := rm1.1 a _ hM
      split at t1
      · next d' hd =>
        rw [hr.length] at hd
        obtain ⟨v', hv, rv⟩ := hr.get hd
        have q := lst_put (ys := xs.dropLast) (ws := ws.dropLast) rm1 hM (by rw [List.length_dropLast]; omega) hr.dropLast
        exact ⟨.inl ⟨rfl, ws, SqL.of hH⟩, a, ws, v', rfl, rfl, hH, hv, k d' v' _ _ (e1.trans q.1) q.2 (rv.mono q.1) t1⟩
      · exact t1.elim
    · exact t1.elim
  | _ => exact t1.elim
theorem ze_popAt {T : TAZ} (ho : ZE X o To) (ha : ZA X [e] T) (hbase : attributeBase o "pop" X.env (eval o X.env) = eval o X.env := by rfl)
    (hfew : ((backTo cpos (starEach [e] X.env)).all (fun x => !x.1) && (backToKw cpos (keywordEach [] X.env)).all (fun x => x.1.isSome)
      && decide ((e :: []).length + ([] : List Keyword).length + (if ([] : List Keyword).isEmpty then 0 else 1) < 30)) = true := by rfl)
    (hline : (apos.endLine == cpos.line) = true := by rfl) (hs : starEach [e] X.env = (false, eval e X.env) :: starEach [] X.env := by rfl) (hplain : (backTo cpos (starEach [] X.env)).any (·.1) = false := by rfl) :
    ZE X (.Call (.Attribute o "pop" apos) [e] [] cpos) (zPopAt To T) := PE.wk (pe_bm PySem.F.plainAttrs_list PySem.F.slot_list_pop PySem.F.type_list_pop mt_popAt ho ha hbase hfew hline hs hplain) fun σ H Q h => by
  obtain ⟨G, env, M, Q', rs, rm, t, k⟩ := h
  refine ⟨G, env, M, _, rs, rm, t, fun d v M1 H1 e1 rm1 rd t1 => ?_⟩
  cases d with
  | ref a =>
    obtain rfl : v = .ref a := rd
    obtain ⟨⟨xs, hM⟩, t1⟩ := t1
    obtain ⟨ws, hH, _⟩ := rm1.1 a _ hM
    refine ⟨.inl ⟨rfl, ws, SqL.of hH⟩, G, env, M1, _, rs.mono e1, rm1, t1, fun ds vs M2 H2 e2 rm2 rds t2 => ?_⟩
    split at t2
    · next i ys hM2 =>
      obtain ⟨v', rfl, r⟩ := reps1 rds
      obtain rfl : v' = .int i := r
      obtain ⟨us, hH2, hz, hr⟩ := rm2.1 a _ hM2
      obtain ⟨i0, i1, t2⟩ := t2
      split at t2
      · next d' hd =>
        obtain ⟨u, hu, ru⟩ := hr.get hd
        have hlt : i.toNat < us.length := (List.getElem?_eq_some_iff.mp hu).1
        have q := lst_put (ys := ys.eraseIdx i.toNat) (ws := us.eraseIdx i.toNat) rm2 hM2 (by rw [List.length_eraseIdx_of_lt hlt]; omega) (hr.eraseIdx _)
        have hx : seqIndex? i us.length = some i.toNat := by
          unfold seqIndex?
          have h1 : ¬ i < 0 := by omega
          have h2 : i < (us.length : Int) := by omega
          simp only [h1, if_false, Bool.and_eq_true, decide_eq_true_eq]
          rw [if_pos ⟨i0, h2⟩]
        exact ⟨a, us, i, i.toNat, u, rfl, rfl, hH2, by omega, by omega, hx, hu, k d' u _ _ ((e1.trans e2).trans q.1) q.2 (ru.mono q.1) t2⟩
      · exact t2.elim
    · exact t2.elim
  | _ => exact t1.elim
end
/-! ### list(range(..)) -/
abbrev TRZ := ZT → MM → (Int → Int → MM → Prop) → Prop
def liftR (T : TRZ) : L2.St → Hp → (Int → Int → Hp → Prop) → Prop := fun σ H Q => ∃ G env M Q', RelS G M H env σ ∧ RelM G M H ∧ T env M Q' ∧ ∀ a b M' H', Ex G M H M' H' → RelM G M' H' → Q' a b M' → Q a b H'
def zRg1 (T : TZ) : TRZ := fun env M Q => T env M fun d M1 => match d with
  | .int n => Q 0 n M1
  | _ => False
def zRg2 (Ta Tb : TZ) : TRZ := fun env M Q => Ta env M fun x M1 => Tb env M1 fun y M2 => match x, y with
  | .int i, .int j => Q i j M2
  | _, _ => False
def zLRg (T : TRZ) : TZ := fun env M Q => T env M fun a b M1 => (0 ≤ a ∧ b ≤ 10000000 ∧ a ≤ 10000000 ∧ 0 ≤ b) ∧ Q (.lst (rngD a (b - a).toNat)) M1
def zLRgN (T : TRZ) : TZ := fun env M Q => T env M fun a b M1 => (0 ≤ a ∧ b ≤ 10000000 ∧ a ≤ 10000000 ∧ 0 ≤ b) ∧ ∀ p, M1 p = none → Q (.ref p) (mu M1 p (.lst (rngD a (b - a).toNat)))
theorem reps_rg {G : Addr → Prop} {M : MM} {H : Hp} (a b : Int) : Reps G M H (rngD a (b - a).toNat) (rgV a b) := by
  have e1 : rngD a (b - a).toNat = ((List.range (b - a).toNat).map fun i : Nat => a + (i : Int)).map D.int := by unfold rngD; rw [List.map_map]; rfl
  have e2 : rgV a b = ((List.range (b - a).toNat).map fun i : Nat => a + (i : Int)).map V.int := by unfold rgV; rw [List.map_map]; rfl
  rw [e1, e2]; exact reps_ints _
section
variable {X : Cx} {a b e : Expr} {p pos : Pos} {Ta Tb : TZ} {T : TRZ}
theorem zr_1 (hg : Gl X "range") (hm : X.mg "range" = none) (ha : ZE X a Ta) (na : starEach [a] X.env = (false, eval a X.env) :: starEach [] X.env := by rfl) : PRg X (.Call (.Name "range" p) [a] [] pos) (liftR (zRg1 Ta)) := by
  intro pins s σ H Q I h
  refine prg_1 hg hm ha na pins s σ H Q I ?_
  obtain ⟨G, env, M, Q', rs, rm, t, k⟩ := h
  refine ⟨G, env, M, _, rs, rm, t, fun d v M1 H1 e1 rm1 rd t1 => ?_⟩
  cases d with
  | int n => exact ⟨n, rd, k 0 n M1 H1 e1 rm1 t1⟩
  | _ => exact t1.elim
theorem zr_2 (hg : Gl X "range") (hm : X.mg "range" = none) (ha : ZE X a Ta) (hb : ZE X b Tb) (na : starEach [a, b] X.env = (false, eval a X.env) :: starEach [b] X.env := by rfl)
    (nb : starEach [b] X.env = (false, eval b X.env) :: starEach [] X.env := by rfl) (hp : (backTo pos (starEach [b] X.env)).any (·.1) = false := by rfl) : PRg X (.Call (.Name "range" p) [a, b] [] pos) (liftR (zRg2 Ta Tb)) := by
  intro pins s σ H Q I h
  refine prg_2 hg hm ha hb na nb hp pins s σ H Q I ?_
  obtain ⟨G, env, M, Q', rs, rm, t, k⟩ := h
  refine ⟨G, env, M, _, rs, rm, t, fun d v M1 H1 e1 rm1 rd t1 => ?_⟩
  refine ⟨G, env, M1, _, rs.mono e1, rm1, t1, fun d2 v2 M2 H2 e2 rm2 rd2 t2 => ?_⟩
  split at t2
  · next i j => exact ⟨i, j, rd, rd2, k i j M2 H2 (e1.trans e2) rm2 t2⟩
  · exact t2.elim
theorem ze_lrg (hc : X.calm = true) (hg : Gl X "list") (hm : X.mg "list" = none) (he : PRg X e (liftR T)) (na : starEach [e] X.env = (false, eval e X.env) :: starEach [] X.env := by rfl) : ZE X (.Call (.Name "list" p) [e] [] pos) (zLRg T) :=
  PE.wk (pe_listRg hc hg hm he na) fun σ H Q h => by
  obtain ⟨G, env, M, Q', rs, rm, t, k⟩ := h
  refine ⟨G, env, M, _, rs, rm, t, fun a b M1 H1 e1 rm1 ⟨ok, t1⟩ => ⟨⟨by omega, by omega, by omega, by omega, by omega⟩, fun q hq => ?_⟩⟩
  exact k _ _ M1 _ (e1.trans (ex_new rm1 hq)) (rel_new rm1 hq) (rep_new_lst rm1 hq (by rw [rgV_length, sizeLine_eq]; omega) (reps_rg a b)) t1
theorem ze_lrgN (hc : X.calm = true) (hg : Gl X "list") (hm : X.mg "list" = none) (he : PRg X e (liftR T)) (na : starEach [e] X.env = (false, eval e X.env) :: starEach [] X.env := by rfl) : ZE X (.Call (.Name "list" p) [e] [] pos) (zLRgN T) :=
  PE.wk (pe_listRg hc hg hm he na) fun σ H Q h => by
  obtain ⟨G, env, M, Q', rs, rm, t, k⟩ := h
  refine ⟨G, env, M, _, rs, rm, t, fun a b M1 H1 e1 rm1 ⟨ok, t1⟩ => ⟨⟨by omega, by omega, by omega, by omega, by omega⟩, fun q hq => ?_⟩⟩
  have ex := ex_put (c := .lst (rngD a (b - a).toNat)) (o := .lst (rgV a b)) rm1 (.inl hq)
  exact k (.ref q) _ _ _ (e1.trans ex) (rel_cell rm1 hq ⟨_, upd_same, by rw [rgV_length, sizeLine_eq]; omega, (reps_rg a b).mono ex⟩) rfl (t1 q (rm1.fresh hq))
end
end Zz

set_option Elab.async false
set_option linter.all false
set_option maxRecDepth 100000
set_option maxHeartbeats 1000000
/-! Z11: enumerate over a tuple; dict displays; dict comprehensions. -/
namespace Zz
open PySem PySem.Spec PyProof.Rows L2
open AutoSeq1 (wpAny_loadPart')

theorem meets_enumB1 {v : Value} {o : Obj} {H : Heap → Prop} (B : Begins v o H) :
    Meets (Builtin.«enumerate.__new__» ⟨[.type "enumerate", v], []⟩) (fun _ R s => H s.heap ∧
      R (.ok (.ret (.ref (s.heap.push o).objs.size))) { s with heap := (s.heap.push o).push { cls := .type "enumerate", data := .fields #[.none, .bool false, .ref s.heap.objs.size, rawInt 0, .none, .none] } }) :=
  .of_wp fun prog w A R s h => by
    obtain ⟨hp, g, d, tk, os⟩ := s; obtain ⟨h1, h⟩ := h
    have hsub := sub_enumerate
    have q1 : ∀ {A' : Around} {E : Value → Shared → Prop} {Q : Value → Shared → Prop}, Q (.ref hp.objs.size) ⟨hp.push o, g, d, tk, os⟩ → wpAny (model prog w) A' (pyIter v) Q E ⟨hp, g, d, tk, os⟩ :=
      fun q => B.iter prog w _ _ ⟨hp, g, d, tk, os⟩ _ h1 q
    wp_walk using q1
    refine wpAny_stack_any fun st => wpAny_pure ?_
    split
    · rename_i c _ _ _ _ _
      cases (c == Value.type "enumerate")
      · wp_walk using q1
        exact ⟨_, rfl, h⟩
      · wp_walk using q1
        exact ⟨_, rfl, h⟩
    · wp_walk using q1
      exact ⟨_, rfl, h⟩
theorem enum_begins1 {prog : Program} {w : World} {A : Around} {E : Value → Shared → Prop} {s : Shared} {v : Value} {o : Obj} {H : Heap → Prop} {Q : Value → Shared → Prop} (B : Begins v o H) (h1 : H s.heap)
    (h : ∀ h', IsEnum h' (s.heap.objs.size + 1) s.heap.objs.size 0 .none → h'.get? s.heap.objs.size = some o → h'.objs.size = s.heap.objs.size + 2 →
      (∀ b o, s.heap.get? b = some o → h'.get? b = some o) → Q (.ref (s.heap.objs.size + 1)) { s with heap := h' }) :
    wpAny (model prog w) A (call (.type "enumerate") [v]) Q E s := by
  refine callType_new F.called_enumerate (by decide) (F.typeCall_enumerate_1 _) (F.newCall_enumerate_1 _) (fun obj => F.args_object_init_2 obj _) F.entry_enumerate_new
    (meets_enumB1 B) ⟨h1, ?_⟩
  have hz : (s.heap.push o).objs.size = s.heap.objs.size + 1 := Heap.size_push ..
  show _ ∧ _
  rw [hz]
  have he : IsEnum ((s.heap.push o).push { cls := .type "enumerate", data := .fields #[.none, .bool false, .ref s.heap.objs.size, rawInt 0, .none, .none] }) (s.heap.objs.size + 1) s.heap.objs.size 0 .none := by
    have := Heap.get?_push_size (s.heap.push o) (o := { cls := .type "enumerate", data := .fields #[.none, .bool false, .ref s.heap.objs.size, rawInt 0, .none, .none] }) rfl
    rw [hz] at this; exact this
  refine ⟨⟨_, he, rfl⟩, h _ he (Heap.get?_push_of_some _ (Heap.get?_push_size _ B.free)) (by rw [Heap.size_push, hz]) fun b o x => Heap.get?_push_of_some _ (Heap.get?_push_of_some _ x)⟩
/-- the tuple at a, each item in a new pair -/
def Itet (K : PySem.W.Frag) (a : Addr) : It :=
  ⟨fun i H => ∃ (xs : List V) (x : V), SqT K H a xs ∧ xs[i]? = some x, fun i H v H' => ∃ T x, v = .ref T ∧ H T = none ∧ H' = upd H T (.tup [.int (i : Nat), x]) ∧ ∀ xs, SqT K H a xs → xs[i]? = some x, fun i H => ∃ xs : List V, SqT K H a xs ∧ xs.length ≤ i⟩
theorem turn_enumT {P : Program} {w : World} {K : PySem.W.Frag} {elts : List Expr} {kk : Nat} {tpos : Pos} (a e it : Addr) :
    Turn P w K (.Tuple elts kk tpos) (Itet K a) [e, it] e (fun i h => (∃ old, IsEnum h e it ((i : Nat) : Int) old) ∧ h.IsTupleIter it a i ∧ e ≠ it) where
  mem := by simp
  obj := fun i h st b hb => by
    obtain ⟨⟨old, he⟩, ⟨o, ho, hc, hd⟩, _⟩ := st
    have e' : b = e ∨ b = it := by simpa using hb
    rcases e' with z | z
    · rw [z]; exact ⟨_, he, fun v q => nomatch q⟩
    · rw [z]; exact ⟨o, ho, fun v q => by rw [hd] at q; cases q⟩
  keep := fun i h h' st k => let ⟨⟨old, he⟩, hi, hne⟩ := st; ⟨⟨old, k e (by simp) _ he⟩, hi.at fun o q => k it (by simp) o q, hne⟩
  item := by
    intro X hP hw hK hc i pins s σ H E I hf st hg
    subst hP hw hK
    obtain ⟨⟨old, he⟩, hit, hne⟩ := st
    obtain ⟨xs, x, hq, hx⟩ := hg
    obtain ⟨its, rv, p, hz⟩ := I.tuple hq
    have pT : s.heap.IsTuple a its.toArray := p
    obtain ⟨u, hu, ru⟩ := rv.get hx
    have hel : e < s.heap.objs.size := Heap.lt_size he
    have hil : it < s.heap.objs.size := by obtain ⟨_, q, _⟩ := hit; exact Heap.lt_size q
    have hae : a ≠ e := fun q => by
      obtain ⟨o, h1, h2, _⟩ := pT
      rw [q, he] at h1; cases h1; exact absurd h2 (by intro z; injection z with z; revert z; decide)
    have hai : a ≠ it := fun q => by
      obtain ⟨o, h1, h2, _⟩ := pT
      obtain ⟨o2, h3, h4, _⟩ := hit
      rw [q, h3] at h1; cases h1; rw [h4] at h2; exact absurd h2 (by intro z; injection z with z; revert z; decide)
    have hlt : i < its.toArray.size := by
      have := (List.getElem?_eq_some_iff.mp hu).1
      simpa using this
    refine wpAny_pyNext_enum_itemD (i := i) (Draws.tuple (A := X.A.in1) (I.ok.hd hc) it a hai its.toArray) he ⟨hit, pT⟩ hlt hne (by simp; exact ⟨hne, fun q => hae q.symm⟩) fun u' h' tk hu' ho ⟨hit', _⟩ hT hsz hk => ?_
    have eu : u' = u := by
      have h1 : its[i]? = some u' := by simpa using hu'
      exact Option.some.inj (h1.symm.trans hu)
    subst eu
    refine ⟨_, rfl, wpAny_letOwnedTupleGo_enum (s := { s with heap := h', toks := tk + 1 }) ho fun h'' he' sb => ?_⟩
    have hT2 : h''.get? s.heap.objs.size = some { cls := .type "tuple", data := .seq #[.int i tk, u'] } := (sb.2 _ (Nat.ne_of_gt hel)).trans hT
    have new : ObjOk X.prog X.w (upd H s.heap.objs.size (.tup [.int (i : Nat), x])) h'' s.heap.objs.size (.tup [.int (i : Nat), x]) :=
      ⟨by show 2 ≤ sizeLine; decide, [.int i tk, u'], .cons ⟨_, rfl⟩ (.cons ru .nil), ⟨_, hT2, rfl, _, rfl⟩⟩
    have I1 : Inv X pins σ (upd H s.heap.objs.size (.tup [.int (i : Nat), x])) { s with heap := h'', toks := tk + 1 } :=
      I.turnedNew (ch := [e, it]) (fun b ob hb q => (sb.2 b (fun z => hb (by simp [z]))).trans (hk b ob (fun z => hb (by simp [z])) (fun z => hb (by simp [z])) q)) hf (Nat.le_refl _) new
    refine ⟨.ref s.heap.objs.size, _, I1, rfl, ⟨_, x, rfl, I.hok.fresh (Nat.le_refl _), rfl, fun ys hy => by rw [I.tuple_inj hy hq]; exact hx⟩, ⟨⟨u', ?_⟩, hit'.at fun o q => (sb.2 it (Ne.symm hne)).trans q, hne⟩, fun b hb => ?_⟩
    · have e1 : ((i + 1 : Nat) : Int) = (i : Int) + 1 := by omega
      rw [e1]; exact he'
    · have hb' : b < s.heap.objs.size := by
        have e' : b = e ∨ b = it := by simpa using hb
        rcases e' with z | z
        · rw [z]; exact hel
        · rw [z]; exact hil
      rw [upd_ne (Nat.ne_of_lt hb')]
      exact (hf b hb).1
  done := by
    intro X hP hw hK hc i pins s σ H E I hf st hg
    subst hP hw hK
    obtain ⟨⟨old, he⟩, hit, hne⟩ := st
    obtain ⟨xs, hq, hx⟩ := hg
    obtain ⟨its, rv, p, hz⟩ := I.tuple hq
    have pT : s.heap.IsTuple a its.toArray := p
    obtain ⟨f0, f1, f2, f3, f4, f5⟩ := hf it (by simp)
    have hl := rv.length
    have hai : a ≠ it := fun q => by
      obtain ⟨o, h1, h2, _⟩ := pT
      obtain ⟨o2, h3, h4, _⟩ := hit
      rw [q, h3] at h1; cases h1; rw [h4] at h2; exact absurd h2 (by intro z; injection z with z; revert z; decide)
    have hT : s.TypeIs (.ref e) "enumerate" := ⟨_, he, rfl⟩
    unfold pyNext
    refine wpAny_bind (wpAny_attempt (wpAny_callSpecial?_slot (name := Str.ofString "__next__") hT F.slot_enumerate_next
      (wpAny_call_entry F.slot_enumerate_next hT F.entry_enumerate_next ?_ (F.args_enumerate_next_1 _))))
    show wpAny _ _ (field (.ref e) 2 >>= _) _ _ _
    refine wpAny_bind (wpAny_field he rfl (x := .ref it) rfl ?_)
    refine wpAny_bind (wpAny_nextOf_tuple_end (A := X.A.in1) (I.ok.hd hc) hit pT (by simp; omega) fun h' e' hex hx' => ?_)
    obtain ⟨o, ho, hcc⟩ := hx'
    refine wpAny_bind (wpAny_isInstance (T := "StopIteration") (b := true) ⟨o, ho, hcc⟩ isSubtype_stop ?_)
    exact wpAny_pure ⟨rfl, I.turned (t' := s.toks) (fun b o hb q => hex b o hb q) f0 f1 f3 f4 f5⟩
  self := fun A i s Q E st h => let ⟨⟨_, he⟩, _⟩ := st; wpAny_pyIter_enum he h
def iEnumT (K : PySem.W.Frag) (ta : TA) : TI := fun σ H R => ta σ H fun vs H1 => ∃ a xs, vs = [.ref a] ∧ SqT K H1 a xs ∧ R (Itet K a) H1
theorem pi_enumT {X : Cx} {e : Expr} {ta : TA} {p pos tpos : Pos} {elts : List Expr} {kk : Nat} (hg : Gl X "enumerate") (hm : X.mg "enumerate" = none) (ha : PA X [e] ta) (hs : starEach [e] X.env = [(false, eval e X.env)] := by rfl) :
    PI X (.Tuple elts kk tpos) (.Call (.Name "enumerate" p) [e] [] pos) (iEnumT X.K ta) := by
  refine ⟨fun pins s σ H R I h => ?_⟩
  refine Call_ (ld_blt I hg hm boot_enumerate (PyProof.Rows.callWith_type1 (thn (ha.run pos pins s σ H _ I h) fun us s1 ⟨vs, H1, I1, r1, q1⟩ => ?_) hs rfl))
  obtain ⟨a, xs, ex, hq, q⟩ := q1
  subst ex
  cases r1 with
  | cons r rr =>
    cases rr
    cases r
    obtain ⟨its, rv, p', hz⟩ := I1.tuple hq
    have pT : s1.heap.IsTuple a its.toArray := p'
    refine enum_begins1 (begins_tuple a its.toArray) pT fun h' he hit hsz hk => wpAny_pyIter_enum he ?_
    have I2 : Inv X pins σ H1 { s1 with heap := h' } := I1.kept (t' := s1.toks) hk
    refine ⟨s1.heap.objs.size + 1, [s1.heap.objs.size + 1, s1.heap.objs.size], _, _, H1, rfl, I2, turn_enumT a (s1.heap.objs.size + 1) s1.heap.objs.size, ⟨⟨.none, he⟩, ⟨_, hit, rfl, rfl⟩, Nat.succ_ne_self _⟩, fun b hb => ?_, q⟩
    have e' : b = s1.heap.objs.size + 1 ∨ b = s1.heap.objs.size := by simpa using hb
    have hle : s1.heap.objs.size ≤ b := by
      rcases e' with z | z
      · rw [z]; exact Nat.le_add_right _ _
      · rw [z]; exact Nat.le_refl _
    exact I1.fpOk hle (I1.hok.fresh hle)
def iEnumTz (Ta : TZ) : TIZ := fun env M R => Ta env M fun x M1 => match x with
  | .tup xs => R (xs.zipIdx.map fun q => .tup [.int (q.2 : Nat), q.1]) (fun _ => True) M1
  | _ => False
theorem zi_enumT {X : Cx} {a : Expr} {elts : List Expr} {kk : Nat} {p pos tpos : Pos} {Ta : TZ} (hg : Gl X "enumerate") (hm : X.mg "enumerate" = none) (ha : ZE X a Ta) (hs : starEach [a] X.env = [(false, eval a X.env)] := by rfl) : ZI X (.Tuple elts kk tpos) (.Call (.Name "enumerate" p) [a] [] pos) (iEnumTz Ta) := by
  refine ⟨fun pins s σ H R I h => (pi_enumT hg hm (pa_cons ha pa_nil hs) hs).run pins s σ H R I ?_⟩
  obtain ⟨G, env, M, Q', rs, rm, t, k⟩ := h
  refine ⟨G, env, M, _, rs, rm, t, fun d v M1 H1 e1 rm1 rd t1 => ?_⟩
  cases d with
  | tup xs =>
    obtain ⟨a1, vs, rfl, h2, h3, h4⟩ := rd
    refine ⟨a1, vs, rfl, SqT.of h2.1, k _ _ _ M1 H1 e1 rm1 (by simp only [List.length_map, List.length_zipIdx]; rw [h4.length]; exact h3) ?_ True.intro t1⟩
    intro G' M' H' i kG ea rm' _
    have hv' : H' a1 = some (.tup vs) := (ea a1 _ h2.1 h2.2.1 (kG _ _ h2.1 h2.2.2)).1
    have rv : Reps G' M' H' xs vs := Reps.mono1 ea _ _ (Reps.chg kG _ _ h4)
    have l1 := rv.length
    simp only [List.length_map, List.length_zipIdx]
    refine ⟨fun hi => ⟨⟨vs, vs[i]'(by omega), SqT.of hv', List.getElem?_eq_getElem (by omega)⟩, ?_⟩, fun hi => ⟨vs, SqT.of hv', by omega⟩⟩
    rintro _ H'' ⟨T, x, rfl, hT, rfl, hx⟩
    have hx := hx vs (SqT.of hv')
    obtain ⟨dx, hdx, rx⟩ := rv.back hx
    have ex := ex_new (o := .tup [.int (i : Nat), x]) rm' hT
    refine ⟨ex.1, ex.2, rel_new rm' hT, .tup [.int (i : Nat), dx], ?_, ⟨T, [.int (i : Nat), x], rfl, ⟨upd_same, rm'.fresh hT, rm'.noG hT⟩, line1 (by simp), .cons rfl (.cons (rx.mono ex) .nil)⟩⟩
    rw [List.getElem?_map, List.getElem?_zipIdx, hdx]
    simp
  | _ => exact t1.elim

/-! ### dict displays -/
def zPairs : List (TZ × TZ) → ZT → MM → (List (D × D) → MM → Prop) → Prop
  | [], _, M, Q => Q [] M
  | (tk, tv) :: r, env, M, Q => tk env M fun x M1 => tv env M1 fun y M2 => zPairs r env M2 fun ps M3 => Q ((x, y) :: ps) M3
def keyed : List (D × D) → Option (List (Key × D))
  | [] => some []
  | (x, y) :: ps => match keyD x with
    | some k => (keyed ps).map ((k, y) :: ·)
    | none => none
def mergeD (kvs more : List (Key × D)) : List (Key × D) := more.foldl (fun acc kv => putD acc kv.1 kv.2) kvs
def zDisp (trs : List (TZ × TZ)) : TZ := fun env M Q => zPairs trs env M fun ps M1 => match keyed ps with
  | some kvs => kvs.length ≤ 15 ∧ ∀ p, M1 p = none → Q (.ref p) (mu M1 p (.dic (mergeD [] kvs)))
  | none => False
theorem RepK.merge {G : Addr → Prop} {M : MM} {H : Hp} : ∀ {more : List (Key × D)} {ms : List (Key × V)} {kvs : List (Key × D)} {ws : List (Key × V)}, RepK G M H kvs ws → RepK G M H more ms → RepK G M H (mergeD kvs more) (mergeK ws ms) := by
  intro more
  induction more with
  | nil =>
    intro ms kvs ws r r2
    rcases r2.cases with ⟨_, rfl⟩ | ⟨_, _, _, _, _, e, _⟩
    · exact r
    · cases e
  | cons p more ih =>
    intro ms kvs ws r r2
    rcases r2.cases with ⟨e, _⟩ | ⟨k', d', v', kvs', ws', e, rfl, h1, h2⟩
    · cases e
    · cases e
      show RepK G M H (mergeD (putD kvs k' d') more) (mergeK (putK ws k' v') ws')
      exact ih (RepK.put (k := k') r h1) h2
def RepP (G : Addr → Prop) (M : MM) (H : Hp) : List (D × D) → List (V × V) → Prop
  | [], qs => qs = []
  | (x, y) :: ps, qs => ∃ u v r, qs = (u, v) :: r ∧ Rep G M H x u ∧ Rep G M H y v ∧ RepP G M H ps r
theorem repP_keyed {G : Addr → Prop} {M : MM} {H : Hp} : ∀ {ps : List (D × D)} {qs : List (V × V)} {kvs : List (Key × D)}, RepP G M H ps qs → keyed ps = some kvs → ∃ ws, qs = ws.map (fun kv => (kV kv.1, kv.2)) ∧ RepK G M H kvs ws
  | [], qs, kvs, r, h => by
    obtain rfl : qs = [] := r
    obtain rfl := Option.some.inj h
    exact ⟨[], rfl, .nil⟩
  | (x, y) :: ps, qs, kvs, r, h => by
    obtain ⟨u, v, rr, rfl, h1, h2, h3⟩ := r
    simp only [keyed] at h
    split at h
    · next k hk =>
      simp only [Option.map_eq_some_iff] at h
      obtain ⟨ks, h4, rfl⟩ := h
      obtain ⟨ws, rfl, h5⟩ := repP_keyed h3 h4
      obtain rfl := key_ok h1 hk
      exact ⟨(k, v) :: ws, rfl, .cons h2 h5⟩
    · cases h
theorem lift_pairs {G : Addr → Prop} : ∀ {trs : List (TZ × TZ)} {env : ZT} {M : MM} {σ : L2.St} {H : Hp} {Q' : List (D × D) → MM → Prop} {Q : List (V × V) → Hp → Prop}, RelS G M H env σ → RelM G M H → zPairs trs env M Q' →
    (∀ ps qs M' H', Ex G M H M' H' → RelM G M' H' → RepP G M' H' ps qs → Q' ps M' → Q qs H') → tPairs (trs.map fun t => (liftE t.1, liftE t.2)) σ H Q
  | [], env, M, σ, H, Q', Q, rs, rm, t, k => k [] [] M H Ex.refl rm rfl t
  | (tk, tv) :: r, env, M, σ, H, Q', Q, rs, rm, t, k => by
    refine ⟨G, env, M, _, rs, rm, t, fun d v M1 H1 e1 rm1 rd t1 => ?_⟩
    refine ⟨G, env, M1, _, rs.mono e1, rm1, t1, fun d2 v2 M2 H2 e2 rm2 rd2 t2 => ?_⟩
    refine lift_pairs ((rs.mono e1).mono e2) rm2 t2 fun ps qs M' H' e3 rm3 rp t3 => ?_
    exact k ((d, d2) :: ps) ((v, v2) :: qs) M' H' ((e1.trans e2).trans e3) rm3 ⟨v, v2, qs, rfl, (rd.mono e2).mono e3, rd2.mono e3, rp⟩ t3
/-- a new address set aside -/
theorem aside_in {G : Addr → Prop} {M : MM} {H : Hp} {p : Addr} {o : HO} (rm : RelM G M H) (hp : H p = none) : RelM (aside G p) M (upd H p o) ∧ ∀ env σ, RelS G M H env σ → RelS (aside G p) M (upd H p o) env σ := by
  have hM := rm.fresh hp
  have kG : ∀ a o, H a = some o → ¬ G a → ¬ aside G p a := fun a o h g => aside_not hp h g
  have ex0 : ExA (aside G p) M H M (upd H p o) := fun b u hb nb _ => ⟨by rw [upd_ne (ne_of_none hb hp)]; exact hb, nb⟩
  refine ⟨⟨fun a c h => ?_, fun a g => ?_⟩, fun env σ rs => ⟨rs.1, fun j e hj => ?_⟩⟩
  · have hne : a ≠ p := fun q => by rw [q, hM] at h; cases h
    refine ((rm.1 a c h).chg kG).mono1 ex0 (upd_ne hne) fun x hx => ⟨hx, upd_ne fun q => ?_⟩
    rw [q, hM] at hx; cases hx
  · rcases g with g | g
    · obtain ⟨h1, o, h2⟩ := rm.2 a g
      exact ⟨h1, o, by rw [upd_ne (ne_of_none h2 hp)]; exact h2⟩
    · subst g; exact ⟨hM, _, upd_same⟩
  · obtain ⟨v, h1, h2⟩ := rs.2 j e hj
    exact ⟨v, h1, Rep.mono1 ex0 _ _ (Rep.chg kG _ _ h2)⟩
/-- .. it becomes a cell -/
theorem aside_out {G : Addr → Prop} {M0 M : MM} {H0 H : Hp} {p : Addr} {o0 o : HO} {c : C} (rm0 : RelM G M0 H0) (hp : H0 p = none) (e : Ex (aside G p) M0 (upd H0 p o0) M H) (rm : RelM (aside G p) M H) :
    H p = some o0 ∧ M p = none ∧ Ex G M0 H0 (mu M p c) (upd H p o) ∧ (RepC G (mu M p c) (upd H p o) p c → RelM G (mu M p c) (upd H p o)) ∧ ∀ d v, Rep (aside G p) M H d v → Rep G (mu M p c) (upd H p o) d v := by
  have ng : ¬ G p := rm0.noG hp
  have toG : ∀ a u, H a = some u → ¬ aside G p a → ¬ G a := fun a u _ g q => g (.inl q)
  have hH : H p = some o0 := by rw [e.2 p (.inr rfl), upd_same]
  have hM : M p = none := (rm.2 p (.inr rfl)).1
  have exA : ExA (aside G p) M H (mu M p c) (upd H p o) := fun a u h n g => by
    have : a ≠ p := fun q => g (.inr q)
    exact ⟨by rw [upd_ne this]; exact h, by rw [mu_ne this]; exact n⟩
  refine ⟨hH, hM, ⟨fun a u h n g => ?_, fun a g => ?_⟩, fun hc => ⟨fun a d h => ?_, fun a g => ?_⟩, fun d v r => Rep.chg (fun a u _ g q => g (.inl q)) _ _ (Rep.mono1 exA _ _ r)⟩
  · have hne : a ≠ p := ne_of_none h hp
    have := e.1 a u (by rw [upd_ne hne]; exact h) n (aside_not hp h g)
    exact ⟨by rw [upd_ne hne]; exact this.1, by rw [mu_ne hne]; exact this.2⟩
  · have hne : a ≠ p := fun q => ng (q ▸ g)
    rw [upd_ne hne, e.2 a (.inl g), upd_ne hne]
  · by_cases ha : a = p
    · subst ha; rw [mu_same] at h; cases h; exact hc
    · rw [mu_ne ha] at h
      refine ((rm.1 a d h).mono1 exA (upd_ne ha) fun x hx => ⟨?_, upd_ne fun q => ?_⟩).chg (fun a u _ g q => g (.inl q))
      · rw [mu_ne fun q => by rw [q, hM] at hx; cases hx]; exact hx
      · rw [q, hM] at hx; cases hx
  · have hne : a ≠ p := fun q => ng (q ▸ g)
    obtain ⟨h1, u, h2⟩ := rm.2 a (.inl g)
    exact ⟨by rw [mu_ne hne]; exact h1, u, by rw [upd_ne hne]; exact h2⟩
theorem ze_disp {X : Cx} {pos : Pos} {keys : List (Option Expr)} {values : List Expr} {trs : List (TZ × TZ)} (h : PPs X pos keys values (trs.map fun t => (liftE t.1, liftE t.2))) (hall : keys.all (·.isSome) = true := by rfl) (hl : keys.length = values.length := by rfl) (h0 : keys ≠ [] := by exact List.cons_ne_nil _ _)
    (h15 : keys.length ≤ 15 := by decide) : ZE X (.Dict keys values pos) (zDisp trs) := PE.wk (pe_disp h hall hl h0 h15) fun σ H Q h => by
  obtain ⟨G, env, M, Q', rs, rm, t, k⟩ := h
  intro p hp
  obtain ⟨rmI, rsI⟩ := aside_in (o := .dK []) rm hp
  refine lift_pairs (rsI env σ rs) rmI t fun ps qs M1 H1 e1 rm1 rp t1 => ?_
  split at t1
  · next kvs hk =>
    obtain ⟨ws, rfl, rk⟩ := repP_keyed rp hk
    obtain ⟨q1, q2, q3, q4, q5⟩ := aside_out (c := .dic (mergeD [] kvs)) (o := .dK (mergeK [] ws)) rm hp e1 rm1
    have exA : ExA (aside G p) M1 H1 (mu M1 p (.dic (mergeD [] kvs))) (upd H1 p (.dK (mergeK [] ws))) := fun a u h n g => by
      have : a ≠ p := fun q => g (.inr q)
      exact ⟨by rw [upd_ne this]; exact h, by rw [mu_ne this]; exact n⟩
    have rk' : RepK G (mu M1 p (.dic (mergeD [] kvs))) (upd H1 p (.dK (mergeK [] ws))) kvs ws := ⟨rk.1, Reps.chg (fun a u _ g q => g (.inl q)) _ _ (Reps.mono1 exA _ _ rk.2)⟩
    have rm' := RepK.merge RepK.nil rk'
    refine ⟨q1, ws, rfl, by rw [rk.length]; exact t1.1, k (.ref p) (.ref p) _ _ q3 (q4 ⟨_, upd_same, rm'.1, rm'.2⟩) rfl (t1.2 p q2)⟩
  · exact t1.elim
theorem zps_nil {X : Cx} {pos : Pos} : PPs X pos [] [] (([] : List (TZ × TZ)).map fun t => (liftE t.1, liftE t.2)) := pps_nil
theorem zps_cons {X : Cx} {pos : Pos} {k v : Expr} {ks : List (Option Expr)} {vs : List Expr} {tk tv : TZ} {trs : List (TZ × TZ)} (hk : ZE X k tk) (hv : ZE X v tv) (hr : PPs X pos ks vs (trs.map fun t => (liftE t.1, liftE t.2))) :
    PPs X pos (some k :: ks) (v :: vs) (((tk, tv) :: trs).map fun t => (liftE t.1, liftE t.2)) := pps_cons hk hv hr
end Zz

set_option Elab.async false
set_option linter.all false
set_option maxRecDepth 100000
set_option maxHeartbeats 1000000
/-! Z12: dict comprehensions; the drawing state opened and closed; from a body to its promise. -/
namespace Zz
open PySem PySem.Spec PyProof.Rows L2

def dcGo (chk : MM → Prop) (t : Tg) (tt : TTZ) (tk tv : TZ) (env : ZT) : List D → List (Key × D) → MM → (List (Key × D) → MM → Prop) → Prop
  | [], acc, M, Q => Q acc M
  | x :: xs, acc, M, Q => match bindT t x env with
    | some env1 => tt env1 M fun b M1 => if b = true then tk env1 M1 fun y M2 => tv env1 M2 fun z M3 => match keyD y with
        | some k => chk M3 ∧ dcGo chk t tt tk tv env xs (putD acc k z) M3 Q
        | none => False
      else chk M1 ∧ dcGo chk t tt tk tv env xs acc M1 Q
    | none => False
def zDc (wi : TIZ) (t : Tg) (own : List Nat) (tt : TTZ) (tk tv : TZ) : TZ := fun env M Q => wi env M fun xs chk M1 => dcGo chk t tt tk tv (wipeZ env own) xs [] M1 fun acc M2 => Q (.dic (acc.map (·.1)) (acc.map (·.2))) M2
theorem putK_len (kvs : List (Key × V)) (k : Key) (v : V) : (putK kvs k v).length ≤ kvs.length + 1 := by
  unfold putK
  split
  · rw [List.length_map]; omega
  · rw [List.length_append]; simp
theorem lift_dc {K : PySem.W.Frag} {wi : TIZ} {t : Tg} {tt : TTZ} {tk tv : TZ} {own : List Nat} (ho : ∀ i, i ∈ slotsT t → i ∈ own) {σ : L2.St} {H : Hp} {Q : VK} (h : liftE (zDc wi t own tt tk tv) σ H Q) : tDc (liftI wi) (gOf K t) (liftT tt) (liftE tk) (liftE tv) own σ H Q := by
  obtain ⟨G, env, M, Q', rs0, rm0, t0, k⟩ := h
  refine ⟨G, env, M, _, rs0, rm0, t0, fun J xs chk M1 H1 e1 rm1 hz it ck t1 => fun Dl hD => ?_⟩
  have rs := rs0.mono e1
  have kG : ∀ a o, H1 a = some o → ¬ G a → ¬ aside G Dl a := fun a o h g => aside_not hD h g
  obtain ⟨rmI, rsI⟩ := aside_in (o := .dK []) rm1 hD
  let P : Nat → Hp → Prop := fun i H => ∃ M acc ws, i ≤ xs.length ∧ Ex (aside G Dl) M1 (upd H1 Dl (.dK [])) M (upd H Dl (.dK [])) ∧ RelM (aside G Dl) M H ∧ H Dl = some (.dK ws) ∧ RepK (aside G Dl) M H acc ws ∧ ws.length ≤ i ∧ chk M ∧ dcGo chk t tt tk tv (wipeZ env own) (xs.drop i) acc M (fun acc M2 => Q' (.dic (acc.map (·.1)) (acc.map (·.2))) M2)
  refine ⟨fun i m H => m = xs.length - i ∧ P i H, ⟨_, rfl, M1, [], [], Nat.zero_le _, ?_, rmI, upd_same, .nil, Nat.le_refl _, ck, t1⟩, ?_⟩
  · have : upd (upd H1 Dl (HO.dK [])) Dl (.dK []) = upd H1 Dl (.dK []) := by funext b; unfold upd; split <;> rfl
    rw [this]; exact Ex.refl
  rintro i m H ⟨rfl, M, acc, ws, hi, ea, rm, hL, hR, hl, ckM, tM⟩
  have old : ∀ a o, H1 a = some o → M1 a = none → ¬ G a → H a = some o ∧ M a = none := fun a o h n g => by
    have hne : a ≠ Dl := ne_of_none h hD
    have := ea.1 a o (by rw [upd_ne hne]; exact h) n (kG a o h g)
    rw [upd_ne hne] at this
    exact this
  have oldG : ∀ a, G a → H a = H1 a := fun a g => by
    have hne : a ≠ Dl := fun q => rm1.noG hD (q ▸ g)
    have := ea.2 a (.inl g)
    rw [upd_ne hne, upd_ne hne] at this
    exact this
  have q := it (aside G Dl) M H i kG (fun a o h n g => old a o h n fun z => g (.inl z)) rm ckM
  by_cases hlt : i < xs.length
  · obtain ⟨go, yl⟩ := q.1 hlt
    refine .inr ⟨go, P (i + 1), fun H' p => ⟨xs.length - (i + 1), by omega, rfl, p⟩, fun x H2 hy => ?_⟩
    obtain ⟨ea2, eg2, rm2, d, hd, rd⟩ := yl x H2 hy
    have e2 : Ex (aside G Dl) M H M H2 := ⟨ea2, eg2⟩
    have hdr : xs.drop i = d :: xs.drop (i + 1) := by
      obtain ⟨h1, h2⟩ := List.getElem?_eq_some_iff.mp hd
      rw [List.drop_eq_getElem_cons h1, h2]
    rw [hdr] at tM
    simp only [dcGo] at tM
    split at tM
    · next env3 hb3 =>
      have rs2 : RelS (aside G Dl) M H2 (wipeZ env own) (wipe σ own) := ⟨(rs.wipe own).1, fun j e hj => by
        obtain ⟨v, h1, h2⟩ := (rs.wipe own).2 j e hj
        exact ⟨v, h1, Rep.mono1 ea2 _ _ (Rep.mono1 (fun a o h n g => old a o h n fun z => g (.inl z)) _ _ (Rep.chg kG _ _ h2))⟩⟩
      refine gOf_ok t (wipeZ env own) (wipe σ own) d x env3 rs2 rd hb3 _ fun σ3 rs3 w3 => ⟨by rw [w3 own ho]; exact wipe_wipe fun i hi => hi, ?_⟩
      have fixD : ∀ {M4 : MM} {H4 H5 : Hp}, Ex (aside G Dl) M H2 M4 H4 → (∀ b, b ≠ Dl → H5 b = H4 b) → Ex (aside G Dl) M1 (upd H1 Dl (.dK [])) M4 (upd H5 Dl (.dK [])) := fun {M4 H4 H5} e4 h5 => by
        have e24 := e2.trans e4
        refine ⟨fun a o h n g => ?_, fun a g => ?_⟩
        · have hne : a ≠ Dl := fun q => g (.inr q)
          rw [upd_ne hne] at h ⊢
          have hh := old a o h n (fun z => g (.inl z))
          have := e24.1 a o hh.1 hh.2 g
          rw [h5 a hne]; exact this
        · by_cases ha : a = Dl
          · subst ha; rw [upd_same, upd_same]
          · rw [upd_ne ha, upd_ne ha, h5 a ha, e24.2 a g]
            rcases g with g | g
            · exact oldG a g
            · exact absurd g ha
      have hL4 : ∀ {M4 : MM} {H4 : Hp}, Ex (aside G Dl) M H2 M4 H4 → H4 Dl = some (.dK ws) := fun {M4 H4} e4 => by
        rw [e4.2 Dl (.inr rfl), e2.2 Dl (.inr rfl)]; exact hL
      refine ⟨aside G Dl, env3, M, _, rs3, rm2, tM, fun b M3 H3 e3 rm3 t3 => ?_⟩
      cases b with
      | false => exact ⟨M3, acc, ws, hlt, fixD e3 (fun _ _ => rfl), rm3, hL4 e3, (hR.mono e2).mono e3, by omega, t3.1, t3.2⟩
      | true =>
        refine ⟨aside G Dl, env3, M3, _, rs3.mono e3, rm3, t3, fun y yv M4 H4 e4 rm4 ry t4 => ?_⟩
        refine ⟨aside G Dl, env3, M4, _, (rs3.mono e3).mono e4, rm4, t4, fun z zv M5 H5 e5 rm5 rz t5 => ?_⟩
        have e35 := (e3.trans e4).trans e5
        split at t5
        · next kk hk =>
          obtain rfl := key_ok (ry.mono e5) hk
          have hM5 : M5 Dl = none := (rm5.2 Dl (.inr rfl)).1
          have ex5 : ExA (aside G Dl) M5 H5 M5 (upd H5 Dl (.dK (putK ws kk zv))) := fun a o h n g => ⟨by rw [upd_ne fun q => g (.inr q)]; exact h, n⟩
          have hR5 := ((hR.mono e2).mono e35).put (k := kk) rz
          refine ⟨ws, kk, rfl, hL4 e35, by have := hz; omega, M5, putD acc kk z, putK ws kk zv, hlt, fixD e35 (fun b hb => upd_ne hb), ⟨fun a c h => ?_, fun a g => ?_⟩, upd_same, ⟨hR5.1, Reps.mono1 ex5 _ _ hR5.2⟩, by have := putK_len ws kk zv; omega, t5.1, t5.2⟩
          · have hne : a ≠ Dl := fun q => by rw [q, hM5] at h; cases h
            refine (rm5.1 a c h).mono1 ex5 (upd_ne hne) fun z hz => ⟨hz, upd_ne fun q => ?_⟩
            rw [q, hM5] at hz; cases hz
          · obtain ⟨h1, o, h2⟩ := rm5.2 a g
            refine ⟨h1, ?_⟩
            by_cases ha : a = Dl
            · subst ha; exact ⟨_, upd_same⟩
            · exact ⟨o, by rw [upd_ne ha]; exact h2⟩
        · exact t5.elim
    · exact tM.elim
  · refine .inl ⟨q.2 (by omega), ?_⟩
    rw [List.drop_of_length_le (by omega)] at tM
    have ex : Ex G M1 H1 M H := ⟨old, oldG⟩
    have toG : ∀ a u, H a = some u → ¬ aside G Dl a → ¬ G a := fun a u _ g q => g (.inl q)
    have rmG : RelM G M H := ⟨fun a c h => (rm.1 a c h).chg toG, fun a g => rm.2 a (.inl g)⟩
    have ng : ¬ G Dl := rm1.noG hD
    simp only [dcGo] at tM
    exact k (.dic (acc.map fun x : Key × D => x.1) (acc.map fun x : Key × D => x.2)) (.ref Dl) M H (e1.trans ex) rmG ⟨Dl, ws, rfl, ⟨(rm.2 Dl (.inr rfl)).1, ng⟩, hL, hR.1, Reps.chg toG _ _ hR.2⟩ tM
section
variable {X : Cx} {kx vx tg iter : Expr} {ifs : List Expr} {scope : Scope} {pos : Pos} {wi : TIZ} {t : Tg} {tt : TTZ} {tk tv : TZ}
theorem ze_dc (own : List (Str × Nat)) (hc : X.calm = true) (hN : X.N.Nodup) (hi : ZI X tg iter wi) (ok : blkC X.N X.env.scope scope own = true)
    (hg : ∀ (s : Shared) (H : Hp) (C : Addr) (cl : List (Str × Addr)) (fp : List Addr), ZG (X.blk s H scope (compEnvC scope cl C X.env) fp) tg t) (ht : ∀ (s : Shared) (H : Hp) (C : Addr) (cl : List (Str × Addr)) (fp : List Addr), ZTs (X.blk s H scope (compEnvC scope cl C X.env) fp) ifs tt)
    (hk : ∀ (s : Shared) (H : Hp) (C : Addr) (cl : List (Str × Addr)) (fp : List Addr), ZE (X.blk s H scope (compEnvC scope cl C X.env) fp) kx tk)
    (he : ∀ (s : Shared) (H : Hp) (C : Addr) (cl : List (Str × Addr)) (fp : List Addr), ZE (X.blk s H scope (compEnvC scope cl C X.env) fp) vx tv) (ho : ∀ i, i ∈ slotsT t → i ∈ own.map (·.2) := by decide) (hs : ∀ x, foldedSetIterable iter X.env x = pure x := by intro _; rfl) :
    ZE X (.DictComp kx vx [⟨tg, iter, ifs, 0⟩] scope pos) (zDc wi t (own.map (·.2)) tt tk tv) := PE.wk (pe_dc hc hN hi (blkOk_by ok) hg ht hk he hs) fun _ _ _ => lift_dc ho
end
section
variable {X : Cx} {kx vx tg iter : Expr} {ifs : List Expr} {scope : Scope} {pos : Pos}
theorem ps_setDc {i : Nat} {y : Str} {py : Pos} {own : List (Str × Nat)} {spos : Pos} {wi : TI} {g : TG} {tt : TT} {tk tv : TE} (hc : X.calm = true) (hN : X.N.Nodup) (hy : X.N[i]? = some y) (hyl : X.env.scope.names.lookup y = some .local)
    (hsw : swapsWith (.DictComp kx vx [⟨tg, iter, ifs, 0⟩] scope pos) (some (.Name y py)) spos.line X.env = pure true) (hi : PI X tg iter wi) (ok : BlkOk X.N X.env.scope scope own)
    (hg : ∀ (s : Shared) (H : Hp) (C : Addr) (cl : List (Str × Addr)) (fp : List Addr), PG (X.blk s H scope (compEnvC scope cl C X.env) fp) tg g) (ht : ∀ (s : Shared) (H : Hp) (C : Addr) (cl : List (Str × Addr)) (fp : List Addr), PTs (X.blk s H scope (compEnvC scope cl C X.env) fp) ifs tt)
    (hk : ∀ (s : Shared) (H : Hp) (C : Addr) (cl : List (Str × Addr)) (fp : List Addr), PE (X.blk s H scope (compEnvC scope cl C X.env) fp) kx tk)
    (he : ∀ (s : Shared) (H : Hp) (C : Addr) (cl : List (Str × Addr)) (fp : List Addr), PE (X.blk s H scope (compEnvC scope cl C X.env) fp) vx tv) (hs : ∀ x, foldedSetIterable iter X.env x = pure x := by intro _; rfl) :
    PS X (.Assign [.Name y py] (.DictComp kx vx [⟨tg, iter, ifs, 0⟩] scope pos) spos) (tAsg (tDc wi g tt tk tv (own.map (·.2))) (gName i)) := by
  refine ⟨fun pins s σ H D I h => ?_⟩
  rw [exec_Assign_Name_used _ _ _ _ hsw]
  refine wpAny_bind (wpAny_standAt (wpAny_bind ?_))
  show wpAny _ X.A (do let _ ← comprehension (.DictComp kx vx [⟨tg, iter, ifs, 0⟩] scope pos) scope X.env (firstIterPos [⟨tg, iter, ifs, 0⟩] pos) newDict false (eval iter X.env) (some (assign (.Name y py) X.env))) _ _ s
  have h : tDc wi g tt tk tv (own.map (·.2)) σ H (fun x H1 => gName i x σ H1 D.nx) := h
  refine wpAny_bind (thn (dc_core (Qf := fun _ s' => SP X pins D .next s') hc hN I hi ok hg ht hk he hs h fun L C s' m H' I' q hn f => ?_) fun _ s' hq => wpAny_pure (wpAny_pure hq))
  show wpAny _ _ (assign (.Name y py) X.env (.ref L)) _ _ _
  refine wpAny_assign_Name (store_ok2 (v := V.ref L) I' hN hy (.inl hyl) rfl (fun s2 I2 ⟨a, sb, ha⟩ => ?_) (.inr hyl))
  obtain ⟨f0, f1, f2, f3, f4, f5⟩ := f
  have haC : C ≠ a := by
    rcases ha with z | z
    · rw [z]; exact f1
    · exact fun e => f4 y a z e.symm
  refine ⟨m, hn.sameBut sb haC, fun h3 sb3 => ?_⟩
  exact ⟨_, H', I2.turned (t' := s2.toks) (fun b o hb e => (sb3.2 b hb).trans e) f0 f1 f3 f4 f5, q⟩
theorem sw_trueD {gs : List Comprehension} {scope : Scope} {pos py : Pos} {y : Str} {l : Nat} {env : Env} (hk : env.scope.kind = .function) (hy : env.scope.names.lookup y = some .local) (hl : (py.line == pos.line) = true)
    (ha : (scope.names.any fun (n, k) => n == y && (k == .local || k == .cell)) = false) : swapsWith (.DictComp kx vx gs scope pos) (some (.Name y py)) l env = pure true := by
  have ky : env.kindOf y = some .local := hy
  have hb : env.blockKind = .function := by unfold Env.blockKind; rw [hk]; rfl
  unfold swapsWith
  simp only [hb, ky, ha, Expr.pos, hl]
  rfl
variable {wi : TIZ} {t : Tg} {tt : TTZ} {tk tv : TZ}
theorem zs_setDc (i : Nat) {y : Str} {py spos : Pos} (own : List (Str × Nat)) (hc : X.calm = true) (hN : X.N.Nodup) (hi : ZI X tg iter wi) (ok : blkC X.N X.env.scope scope own = true)
    (hg : ∀ (s : Shared) (H : Hp) (C : Addr) (cl : List (Str × Addr)) (fp : List Addr), ZG (X.blk s H scope (compEnvC scope cl C X.env) fp) tg t) (ht : ∀ (s : Shared) (H : Hp) (C : Addr) (cl : List (Str × Addr)) (fp : List Addr), ZTs (X.blk s H scope (compEnvC scope cl C X.env) fp) ifs tt)
    (hk : ∀ (s : Shared) (H : Hp) (C : Addr) (cl : List (Str × Addr)) (fp : List Addr), ZE (X.blk s H scope (compEnvC scope cl C X.env) fp) kx tk)
    (he : ∀ (s : Shared) (H : Hp) (C : Addr) (cl : List (Str × Addr)) (fp : List Addr), ZE (X.blk s H scope (compEnvC scope cl C X.env) fp) vx tv) (hy : X.N[i]? = some y := by rfl) (hyl : X.env.scope.names.lookup y = some .local := by rfl)
    (hsw : swapsWith (.DictComp kx vx [⟨tg, iter, ifs, 0⟩] scope pos) (some (.Name y py)) spos.line X.env = pure true := by exact sw_trueD rfl rfl rfl (by decide +kernel)) (ho : ∀ i, i ∈ slotsT t → i ∈ own.map (·.2) := by decide) (hs : ∀ x, foldedSetIterable iter X.env x = pure x := by intro _; rfl) :
    ZS X (.Assign [.Name y py] (.DictComp kx vx [⟨tg, iter, ifs, 0⟩] scope pos) spos) (zSet i (zDc wi t (own.map (·.2)) tt tk tv)) :=
  PS.wk (ps_setDc hc hN hy hyl hsw hi (blkOk_by ok) hg ht hk he hs) fun Dd σ H h => lift_dc ho (by
    obtain ⟨G, env, M, D', rs, rm, t, k⟩ := h
    exact ⟨G, env, M, _, rs, rm, t, fun d v M1 H1 e1 rm1 rd t1 => k.1 _ M1 _ H1 e1 ((rs.mono e1).set rd) rm1 t1⟩)
end
end Zz

set_option Elab.async false
set_option linter.all false
set_option maxRecDepth 100000
set_option maxHeartbeats 1000000
/-! Z13: from a body to its promise; the drawing state. -/
namespace Zz
open PySem PySem.Spec PyProof.Rows L2

/-! ### other words for the same heap -/
def Shift (M M' : MM) : Prop := ∀ G H, RelM G M H → Ex G M H M' H ∧ RelM G M' H
def Conv (d : D) (M : MM) (d' : D) (M' : MM) : Prop := ∀ G H v, RelM G M H → Rep G M H d v → Ex G M H M' H ∧ RelM G M' H ∧ Rep G M' H d' v
theorem Conv.refl {d : D} {M : MM} : Conv d M d M := fun _ _ _ rm r => ⟨Ex.refl, rm, r⟩
theorem Conv.trans {d d1 d2 : D} {M M1 M2 : MM} (c : Conv d M d1 M1) (c2 : Conv d1 M1 d2 M2) : Conv d M d2 M2 := fun G H v rm r => by
  obtain ⟨e, rm1, r1⟩ := c G H v rm r
  obtain ⟨e2, rm2, r2⟩ := c2 G H v rm1 r1
  exact ⟨e.trans e2, rm2, r2⟩
theorem Shift.conv {d : D} {M M' : MM} (s : Shift M M') : Conv d M d M' := fun G H v rm r => by
  obtain ⟨e, rm1⟩ := s G H rm
  exact ⟨e, rm1, r.mono e⟩
theorem Shift.refl {M : MM} : Shift M M := fun _ _ rm => ⟨Ex.refl, rm⟩
theorem Shift.trans {M M1 M2 : MM} (c : Shift M M1) (c2 : Shift M1 M2) : Shift M M2 := fun G H rm => by
  obtain ⟨e, rm1⟩ := c G H rm
  obtain ⟨e2, rm2⟩ := c2 G H rm1
  exact ⟨e.trans e2, rm2⟩
def okC : C → Prop
  | .hid _ => False
  | _ => True
/-- a cell no longer told of -/
theorem shift_drop {M : MM} {p : Addr} {c : C} (h : M p = none) (hc : okC c) : Shift (mu M p c) M := fun G H rm => by
  have s : ∀ a e, M a = some e → mu M p c a = some e := fun a e q => by rw [mu_ne fun z => by rw [z, h] at q; cases q]; exact q
  refine ⟨ex_sub s, rm.sub s fun a b q => ?_⟩
  by_cases ha : a = p
  · subst ha; rw [mu_same] at q; cases q; exact hc.elim
  · rw [mu_ne ha] at q; exact .inl ⟨_, q⟩
/-- a list that has ended to change -/
theorem conv_lst {M : MM} {p : Addr} {xs : List D} (h : M p = none) : Conv (.ref p) (mu M p (.lst xs)) (.lst xs) M := fun G H v rm r => by
  obtain rfl : v = .ref p := r
  obtain ⟨e, rm1⟩ := shift_drop (c := .lst xs) h trivial G H rm
  refine ⟨e, rm1, ?_⟩
  obtain ⟨vs, h1, h2, h3⟩ := rm.1 p _ mu_same
  refine ⟨p, vs, rfl, ⟨h1, h, fun g => ?_⟩, h2, h3.mono e⟩
  have := (rm.2 p g).1
  rw [mu_same] at this; cases this
theorem conv_dic {M : MM} {p : Addr} {kvs : List (Key × D)} (h : M p = none) : Conv (.ref p) (mu M p (.dic kvs)) (.dic (kvs.map (·.1)) (kvs.map (·.2))) M := fun G H v rm r => by
  obtain rfl : v = .ref p := r
  obtain ⟨e, rm1⟩ := shift_drop (c := .dic kvs) h trivial G H rm
  refine ⟨e, rm1, ?_⟩
  obtain ⟨vs, h1, h2, h3⟩ := rm.1 p _ mu_same
  refine ⟨p, vs, rfl, ⟨h, fun g => ?_⟩, h1, h2, h3.mono e⟩
  have := (rm.2 p g).1
  rw [mu_same] at this; cases this
/-! ### the promise of a def by its body -/
def Post (Q : D → MM → Prop) : D → MM → Prop := fun d M => ∃ d' M', Conv d M d' M' ∧ Q d' M'
theorem Post.self {Q : D → MM → Prop} {d : D} {M : MM} (h : Q d M) : Post Q d M := ⟨d, M, .refl, h⟩
def startZ (n : Nat) (ds : List D) : ZT := ds.map some ++ List.replicate (n - ds.length) none
theorem relS_start {G : Addr → Prop} {M : MM} {H : Hp} {N : List Str} {ds : List D} {vs : List V} (r : Reps G M H ds vs) : RelS G M H (startZ N.length ds) (L2.start N vs) := by
  have hl := r.length
  refine ⟨by simp [startZ, L2.start, hl], fun i d h => ?_⟩
  unfold startZ at h
  unfold L2.start
  by_cases hi : i < ds.length
  · rw [List.getElem?_append_left (by simpa using hi), List.getElem?_map] at h
    cases e : ds[i]? with
    | none => rw [e] at h; cases h
    | some d' =>
      rw [e] at h
      have h : some (some d') = some (some d) := h
      cases h
      obtain ⟨v, h1, h2⟩ := r.get e
      exact ⟨v, by rw [List.getElem?_append_left (by simp; omega), List.getElem?_map, h1]; rfl, h2⟩
  · rw [List.getElem?_append_right (by simpa using hi), List.getElem?_replicate] at h
    split at h <;> cases h
section
variable {P : Program} {w : World} {K : PySem.W.Frag} {mg : Str → Option Value} {base : Heap}
theorem fnz_of {x : Str} {st : Stmt} {f : Addr} {fd : FuncData} {N ps : List Str} {n k : Nat} {g : SpZ} {T : TSZ} (F : Fun K x x st f fd) (S : FnScope N ps (defScope st)) (hn : ps.length = n)
    (hbody : ∀ (cdv : Value) (A : Around) (outer : List Env) (s : Shared) (H : Hp) (E : XK), fd.code = cdv → RoomG k (A.deeper (envOfC x (defScope st) s.heap.objs.size f cdv)) → ZB (cxOf CX0 P w K mg base N x (defScope st) f cdv A outer s H E).nox (defBody st) T)
    (hread : ∀ G H ds M Q, RelM G M H → ds.length = n → g ds M Q → ∃ M0, Ex G M H M0 H ∧ RelM G M0 H ∧ T { nx := fun _ M' => Post Q .non M', rt := Post Q } (startZ N.length ds) M0) : FnG P w K mg base CX0 (k + 1) f fd ps (liftSp n g) := by
  refine fnG_of F S (fun vs H Q E h => ?_) (fun cdv A outer s H vs Q E hcd hr h => ?_)
  · obtain ⟨G, ds, M, Q', hl, rm, r, _⟩ := h
    rw [← r.length, hl, hn]
  · obtain ⟨G, ds, M, Q', hl, rm, r, hg, kk⟩ := h
    obtain ⟨M0, e0, rm0, t⟩ := hread G H ds M Q' rm hl hg
    refine ⟨_, (hbody cdv A outer s H E hcd hr).nox, G, startZ N.length ds, M0, _, relS_start (r.mono e0), rm0, t, ?_, ?_, ?_, ?_⟩
    · rintro env M' σ H' e rs rm' ⟨d', M2, c, q⟩
      obtain ⟨e2, rm2, r2⟩ := c G H' .non rm' rfl
      exact kk d' .non M2 H' ((e0.trans e).trans e2) rm2 r2 q
    · rintro d v M' H' e rm' rd ⟨d', M2, c, q⟩
      obtain ⟨e2, rm2, r2⟩ := c G H' v rm' rd
      exact kk d' v M2 H' ((e0.trans e).trans e2) rm2 r2 q
    · intro _ _ _ _ _ _ _ h; exact h.elim
    · intro _ _ _ _ _ _ _ h; exact h.elim
theorem fz_of {x : Str} {st : Stmt} {f : Addr} {fd : FuncData} {N ps : List Str} {n k : Nat} {g : SpZ} {T : TSZ} (F : Fun K x x st f fd) (S : FnScope N ps (defScope st)) (hm : mg x = some (.ref f))
    (hb : ∀ (kV doc pm : Value) (an : Option Addr) (cdv ct : Value) (us : List Value), us.length = ps.length → bindArgs (PySem.W.fnOf x x (defArgs st) (defBody st) (defScope st) .none kV doc pm an cdv ct) ⟨us, []⟩ = pure (ps.zip us)) (hn : ps.length = n)
    (hbody : ∀ (cdv : Value) (A : Around) (outer : List Env) (s : Shared) (H : Hp) (E : XK), fd.code = cdv → RoomG k (A.deeper (envOfC x (defScope st) s.heap.objs.size f cdv)) → ZB (cxOf CX0 P w K mg base N x (defScope st) f cdv A outer s H E).nox (defBody st) T)
    (hread : ∀ G H ds M Q, RelM G M H → ds.length = n → g ds M Q → ∃ M0, Ex G M H M0 H ∧ RelM G M0 H ∧ T { nx := fun _ M' => Post Q .non M', rt := Post Q } (startZ N.length ds) M0) : Fz P w K mg base (k + 1) x n g :=
  ⟨f, fd, ps, fnz_of F S hn hbody hread, hm, F.kp, F.binds hb⟩
/-- the law's own def -/
theorem fnz_plain {x : Str} {st : Stmt} {f : Addr} {fd : FuncData} {N ps : List Str} {n k : Nat} {g : SpZ} {T : TSZ} (F : Fun K x x st f fd) (S : FnScope N ps (defScope st)) (hn : ps.length = n)
    (hbody : ∀ (cdv : Value) (A : Around) (outer : List Env) (s : Shared) (H : Hp) (E : XK), fd.code = cdv → RoomG k (A.deeper (envOfC x (defScope st) s.heap.objs.size f cdv)) → ZB (cxOf CX0 P w K mg base N x (defScope st) f cdv A outer s H E).nox (defBody st) T)
    (hread : ∀ ds M Q, ds.length = n → g ds M Q → T { nx := fun _ M' => Post Q .non M', rt := Post Q } (startZ N.length ds) M) : FnG P w K mg base CX0 (k + 1) f fd ps (liftSp n g) :=
  fnz_of F S hn hbody fun G H ds M Q rm hl hg => ⟨M, .refl, rm, hread ds M Q hl hg⟩
/-- plain defs -/
theorem fz_plain {x : Str} {st : Stmt} {f : Addr} {fd : FuncData} {N ps : List Str} {n k : Nat} {g : SpZ} {T : TSZ} (F : Fun K x x st f fd) (S : FnScope N ps (defScope st)) (hm : mg x = some (.ref f))
    (hb : ∀ (kV doc pm : Value) (an : Option Addr) (cdv ct : Value) (us : List Value), us.length = ps.length → bindArgs (PySem.W.fnOf x x (defArgs st) (defBody st) (defScope st) .none kV doc pm an cdv ct) ⟨us, []⟩ = pure (ps.zip us)) (hn : ps.length = n)
    (hbody : ∀ (cdv : Value) (A : Around) (outer : List Env) (s : Shared) (H : Hp) (E : XK), fd.code = cdv → RoomG k (A.deeper (envOfC x (defScope st) s.heap.objs.size f cdv)) → ZB (cxOf CX0 P w K mg base N x (defScope st) f cdv A outer s H E).nox (defBody st) T)
    (hread : ∀ ds M Q, ds.length = n → g ds M Q → T { nx := fun _ M' => Post Q .non M', rt := Post Q } (startZ N.length ds) M) : Fz P w K mg base (k + 1) x n g :=
  fz_of F S hm hb hn hbody fun G H ds M Q rm hl hg => ⟨M, .refl, rm, hread ds M Q hl hg⟩
end
/-! ### the drawing state -/
theorem reps4 {G : Addr → Prop} {M : MM} {H : Hp} {a b c d : D} {xs : List V} (r : Reps G M H [a, b, c, d] xs) : ∃ v w x y, xs = [v, w, x, y] ∧ Rep G M H a v ∧ Rep G M H b w ∧ Rep G M H c x ∧ Rep G M H d y := by
  obtain ⟨v, _, h1, h2, w, _, h3, h4, x, _, h5, h6, y, _, h7, h8, h9⟩ := r
  obtain rfl : _ = [] := h9
  subst h7; subst h5; subst h3
  exact ⟨v, w, x, y, h1, h2, h4, h6, h8⟩
def drawD (lp : Addr) (cells : List Int) (left turn : Int) : C := .dic [(kS "large", .ref lp), (kS "cells", .lst (cells.map D.int)), (kS "left", .int left), (kS "turn", .int turn)]
def DrawB (b : Nat) (large cells : List Int) (left turn : Int) : Prop := 0 ≤ left ∧ (∀ x, x ∈ large → 0 ≤ x) ∧ (∀ x, x ∈ cells → 0 ≤ x) ∧ 0 ≤ turn ∧ turn + b ≤ 70368744177664 ∧ large.length ≤ 63 ∧ cells.length ≤ 63
theorem draw_open {G : Addr → Prop} {M : MM} {H : Hp} {st : Addr} {b : Nat} (rm : RelM G M H) (h : M st = some (.draw b)) : ∃ (lp : Addr) (large cells : List Int) (left turn : Int), M lp = some (.hid st) ∧ DrawB b large cells left turn ∧
    Ex G M H (mu (mu M lp (.lst (large.map D.int))) st (drawD lp cells left turn)) H ∧ RelM G (mu (mu M lp (.lst (large.map D.int))) st (drawD lp cells left turn)) H := by
  obtain ⟨lp, cp, large, cells, left, turn, q1, q2, q3, q4, q5, q6⟩ := rm.1 st _ h
  have hls : lp ≠ st := fun q => by rw [q, h] at q2; cases q2
  have hcl : cp ≠ lp := fun q => by have := q4.1; rw [q, q2] at this; cases this
  have hcs : cp ≠ st := fun q => by have := q4.1; rw [q, h] at this; cases this
  generalize hM : mu (mu M lp (.lst (large.map D.int))) st (drawD lp cells left turn) = M1
  have e1 : ∀ a, a ≠ lp → a ≠ st → M1 a = M a := fun a h1 h2 => by rw [← hM, mu_ne h2, mu_ne h1]
  have eS : M1 st = some (drawD lp cells left turn) := by rw [← hM, mu_same]
  have eL : M1 lp = some (.lst (large.map D.int)) := by rw [← hM, mu_ne hls, mu_same]
  have exA : ∀ a o, H a = some o → M a = none → ¬ G a → H a = some o ∧ M1 a = none := fun a o h1 h2 _ => ⟨h1, by
    rw [e1 a (fun q => by rw [q, q2] at h2; cases h2) (fun q => by rw [q, h] at h2; cases h2)]; exact h2⟩
  refine ⟨lp, large, cells, left, turn, q2, q6, ?_⟩
  rw [hM]
  refine ⟨⟨exA, fun _ _ => rfl⟩, fun a c hc => ?_, fun a g => ?_⟩
  · by_cases ha : a = st
    · subst ha
      rw [eS] at hc; cases hc
      refine ⟨[(kS "large", .ref lp), (kS "cells", .ref cp), (kS "left", .int left), (kS "turn", .int turn)], q1, rfl, .cons rfl (.cons ?_ (.cons rfl (.cons rfl .nil)))⟩
      exact ⟨cp, _, rfl, ⟨q5, by rw [e1 cp hcl hcs]; exact q4.1, q4.2⟩, line1 (by have := q6.2.2.2.2.2.2; rw [List.length_map]; omega), reps_ints cells⟩
    · by_cases hb : a = lp
      · subst hb
        rw [eL] at hc; cases hc
        exact ⟨_, q3, line1 (by have := q6.2.2.2.2.2.1; rw [List.length_map]; omega), reps_ints large⟩
      · rw [e1 a hb ha] at hc
        refine (rm.1 a c hc).mono1 exA rfl fun x hx => ⟨?_, rfl⟩
        rw [e1 x (fun q => by rw [q, q2] at hx; cases hx; exact ha rfl) (fun q => by rw [q, h] at hx; cases hx)]
        exact hx
  · obtain ⟨h1, h2⟩ := rm.2 a g
    exact ⟨by rw [e1 a (fun q => by rw [q, q2] at h1; cases h1) (fun q => by rw [q, h] at h1; cases h1)]; exact h1, h2⟩
theorem draw_close {M : MM} {st lp : Addr} {b : Nat} {large cells : List Int} {left turn : Int} (hls : lp ≠ st) (hL : M lp = some (.lst (large.map D.int))) (hS : M st = some (drawD lp cells left turn)) (B : DrawB b large cells left turn) : Shift M (mu (mu M lp (.hid st)) st (.draw b)) := fun G H rm => by
  generalize hM : mu (mu M lp (.hid st)) st (.draw b) = M1
  have e1 : ∀ a, a ≠ lp → a ≠ st → M1 a = M a := fun a h1 h2 => by rw [← hM, mu_ne h2, mu_ne h1]
  have eS : M1 st = some (.draw b) := by rw [← hM, mu_same]
  have eL : M1 lp = some (.hid st) := by rw [← hM, mu_ne hls, mu_same]
  have exA : ∀ a o, H a = some o → M a = none → ¬ G a → H a = some o ∧ M1 a = none := fun a o h1 h2 _ => ⟨h1, by
    rw [e1 a (fun q => by rw [q, hL] at h2; cases h2) (fun q => by rw [q, hS] at h2; cases h2)]; exact h2⟩
  have ex : Ex G M H M1 H := ⟨exA, fun _ _ => rfl⟩
  refine ⟨ex, fun a c hc => ?_, fun a g => ?_⟩
  · by_cases ha : a = st
    · subst ha
      rw [eS] at hc; cases hc
      obtain ⟨ws, h1, h2, h3⟩ := rm.1 a _ hS
      obtain ⟨v, w, x, y, hw, r1, r2, r3, r4⟩ := reps4 h3
      obtain rfl : v = .ref lp := r1
      obtain rfl : x = .int left := r3
      obtain rfl : y = .int turn := r4
      obtain ⟨cp, vs, rfl, f1, f2, f3⟩ := r2
      obtain rfl := ints_reps (ns := cells) (ds := cells.map D.int) (by clear hS B h2 hw h3 f3; induction cells with | nil => rfl | cons c cs ih => simp [intsOf, ih]) f3
      match ws, h2, hw with
      | [p1, p2, p3, p4], h2, hw =>
        obtain ⟨k1, u1⟩ := p1
        obtain ⟨k2, u2⟩ := p2
        obtain ⟨k3, u3⟩ := p3
        obtain ⟨k4, u4⟩ := p4
        simp only [List.map_cons, List.map_nil, List.cons.injEq, and_true] at h2 hw
        obtain ⟨rfl, rfl, rfl, rfl⟩ := h2
        obtain ⟨rfl, rfl, rfl, rfl⟩ := hw
        obtain ⟨us, g1, g2, g3⟩ := rm.1 lp _ hL
        obtain rfl := ints_reps (ns := large) (ds := large.map D.int) (by clear hL B g3; induction large with | nil => rfl | cons c cs ih => simp [intsOf, ih]) g3
        exact ⟨lp, cp, large, cells, left, turn, h1, eL, g1, ⟨(exA cp _ f1.1 f1.2.1 f1.2.2).2, f1.2.2⟩, f1.1, B⟩
      | [], h2, hw => cases hw
      | [_], h2, hw => simp at hw
      | [_, _], h2, hw => simp at hw
      | [_, _, _], h2, hw => simp at hw
      | _ :: _ :: _ :: _ :: _ :: _, h2, hw => simp at hw
    · by_cases hb : a = lp
      · subst hb
        rw [eL] at hc; cases hc
        obtain ⟨us, g1, _⟩ := rm.1 a _ hL
        exact ⟨_, g1⟩
      · rw [e1 a hb ha] at hc
        refine (rm.1 a c hc).mono1 exA rfl fun x hx => ⟨?_, rfl⟩
        rw [e1 x (fun q => by rw [q, hL] at hx; cases hx) (fun q => by rw [q, hS] at hx; cases hx)]
        exact hx
  · obtain ⟨h1, h2⟩ := rm.2 a g
    exact ⟨by rw [e1 a (fun q => by rw [q, hL] at h1; cases h1) (fun q => by rw [q, hS] at h1; cases h1)]; exact h1, h2⟩
end Zz

set_option Elab.async false
set_option linter.all false
set_option maxRecDepth 100000
set_option maxHeartbeats 1000000
/-! Z14: the rules in short, as a program prints them. -/
namespace Zz
open PySem PySem.Spec PyProof.Rows L2

/-- the built-in names that a text leaves as they are -/
structure Bs (mg : Str → Option Value) : Prop where
  len : mg "len" = none
  abs : mg "abs" = none
  max : mg "max" = none
  min : mg "min" = none
  sum : mg "sum" = none
  all : mg "all" = none
  any : mg "any" = none
  sorted : mg "sorted" = none
  tuple : mg "tuple" = none
  list : mg "list" = none
  int : mg "int" = none
  bool : mg "bool" = none
  str : mg "str" = none
  range : mg "range" = none
  zip : mg "zip" = none
  enumerate : mg "enumerate" = none
  isinstance : mg "isinstance" = none
  repr : mg "repr" = none
  set : mg "set" = none
  dict : mg "dict" = none
  reversed : mg "reversed" = none
section
variable {X : Cx} {a b c e f o i value : Expr} {rest : List Expr} {pos p p2 : Pos} {T Ta Tb Tc : TZ} {t u : TTZ} {j k : Nat}
theorem q_add (ha : ZE X a Ta) (hb : ZE X b Tb) : ZE X (.BinOp a .Add b pos) (zBin rzAdd Ta Tb) := ze_op or_add lr_add ha hb
theorem q_sub (ha : ZE X a Ta) (hb : ZE X b Tb) : ZE X (.BinOp a .Sub b pos) (zBin rzSub Ta Tb) := ze_op op_sub lr_sub ha hb
theorem q_mul (ha : ZE X a Ta) (hb : ZE X b Tb) : ZE X (.BinOp a .Mult b pos) (zBin rzMul Ta Tb) := ze_op or_mul lr_mul ha hb
theorem q_mod (ha : ZE X a Ta) (hb : ZE X b Tb) : ZE X (.BinOp a .Mod b pos) (zBin rzMod Ta Tb) := ze_op op_mod lr_mod ha hb
theorem q_div (ha : ZE X a Ta) (hb : ZE X b Tb) : ZE X (.BinOp a .FloorDiv b pos) (zBin rzDiv Ta Tb) := ze_op op_fdivW lr_div ha hb
theorem q_pow (ha : ZE X a Ta) (hb : ZE X b Tb) : ZE X (.BinOp a .Pow b pos) (zBin rzPow Ta Tb) := ze_op op_pow lr_pow ha hb
theorem q_neg (ha : ZE X a Ta) : ZE X (.UnaryOp .USub a pos) (zUn rzNeg Ta) := ze_un un_neg lu_neg ha
theorem q_lt (ha : ZE X a Ta) (hb : ZE X b Tb) : ZE X (.Compare a [.Lt] [b] pos) (zBin rzLt Ta Tb) := ze_cmp op_lt lr_lt ha hb
theorem q_le (ha : ZE X a Ta) (hb : ZE X b Tb) : ZE X (.Compare a [.LtE] [b] pos) (zBin rzLe Ta Tb) := ze_cmp op_le lr_le ha hb
theorem q_gt (ha : ZE X a Ta) (hb : ZE X b Tb) : ZE X (.Compare a [.Gt] [b] pos) (zBin rzGt Ta Tb) := ze_cmp op_gt lr_gt ha hb
theorem q_ge (ha : ZE X a Ta) (hb : ZE X b Tb) : ZE X (.Compare a [.GtE] [b] pos) (zBin rzGe Ta Tb) := ze_cmp op_ge lr_ge ha hb
theorem q_eq (hr : Room k X.A) (ha : ZE X a Ta) (hb : ZE X b Tb) : ZE X (.Compare a [.Eq] [b] pos) (zBin rzEq Ta Tb) := ze_cmp (op_eqD hr.units) lr_eq ha hb
theorem q_ne (hr : Room k X.A) (ha : ZE X a Ta) (hb : ZE X b Tb) : ZE X (.Compare a [.NotEq] [b] pos) (zBin rzNe Ta Tb) := ze_cmp (op_neD hr.units) lr_ne ha hb
theorem q_in (ha : ZE X a Ta) (hb : ZE X b Tb) (hm : behindInMarks .In b = false := by first | rfl | with_unfolding_all rfl) : ZE X (.Compare a [.In] [b] pos) (zBin (rzIn false) Ta Tb) := ze_cmp op_in_seq lr_in ha hb hm
theorem q_notIn (ha : ZE X a Ta) (hb : ZE X b Tb) (hm : behindInMarks .NotIn b = false := by first | rfl | with_unfolding_all rfl) : ZE X (.Compare a [.NotIn] [b] pos) (zBin (rzIn true) Ta Tb) := ze_cmp op_notIn_seq lr_in ha hb hm
theorem q_isN (ha : ZE X a Ta) (hb : ZE X b Tb) : ZE X (.Compare a [.Is] [b] pos) (zBin rzIsN Ta Tb) := ze_cmp op_isN lr_isN ha hb
theorem q_notN (ha : ZE X a Ta) (hb : ZE X b Tb) : ZE X (.Compare a [.IsNot] [b] pos) (zBin rzNotN Ta Tb) := ze_cmp op_notN lr_notN ha hb
theorem q_isB (ha : ZE X a Ta) (hb : ZE X b Tb) : ZE X (.Compare a [.Is] [b] pos) (zBin (rzIsB fun a b => decide (a = b)) Ta Tb) := ze_cmp op_is_bl lr_isB ha hb
theorem q_notB (ha : ZE X a Ta) (hb : ZE X b Tb) : ZE X (.Compare a [.IsNot] [b] pos) (zBin (rzIsB fun a b => !decide (a = b)) Ta Tb) := ze_cmp op_isnot_bl lr_notB ha hb
/-- as tests -/
theorem p_lt (ha : ZE X a Ta) (hb : ZE X b Tb) : ZP X (.Compare a [.Lt] [b] pos) (zTst (zBin rzLt Ta Tb)) := zp_cmp op_lt lr_lt ha hb
theorem p_le (ha : ZE X a Ta) (hb : ZE X b Tb) : ZP X (.Compare a [.LtE] [b] pos) (zTst (zBin rzLe Ta Tb)) := zp_cmp op_le lr_le ha hb
theorem p_gt (ha : ZE X a Ta) (hb : ZE X b Tb) : ZP X (.Compare a [.Gt] [b] pos) (zTst (zBin rzGt Ta Tb)) := zp_cmp op_gt lr_gt ha hb
theorem p_ge (ha : ZE X a Ta) (hb : ZE X b Tb) : ZP X (.Compare a [.GtE] [b] pos) (zTst (zBin rzGe Ta Tb)) := zp_cmp op_ge lr_ge ha hb
theorem p_eq (hr : Room k X.A) (ha : ZE X a Ta) (hb : ZE X b Tb) : ZP X (.Compare a [.Eq] [b] pos) (zTst (zBin rzEq Ta Tb)) := zp_cmp (op_eqD hr.units) lr_eq ha hb
theorem p_ne (hr : Room k X.A) (ha : ZE X a Ta) (hb : ZE X b Tb) : ZP X (.Compare a [.NotEq] [b] pos) (zTst (zBin rzNe Ta Tb)) := zp_cmp (op_neD hr.units) lr_ne ha hb
theorem p_in (ha : ZE X a Ta) (hb : ZE X b Tb) (hm : behindInMarks .In b = false := by first | rfl | with_unfolding_all rfl) : ZP X (.Compare a [.In] [b] pos) (zTst (zBin (rzIn false) Ta Tb)) := zp_cmp op_in_seq lr_in ha hb hm
theorem p_notIn (ha : ZE X a Ta) (hb : ZE X b Tb) (hm : behindInMarks .NotIn b = false := by first | rfl | with_unfolding_all rfl) : ZP X (.Compare a [.NotIn] [b] pos) (zTst (zBin (rzIn true) Ta Tb)) := zp_cmp op_notIn_seq lr_in ha hb hm
theorem p_isN (ha : ZE X a Ta) (hb : ZE X b Tb) : ZP X (.Compare a [.Is] [b] pos) (zTst (zBin rzIsN Ta Tb)) := zp_cmp op_isN lr_isN ha hb
theorem p_notN (ha : ZE X a Ta) (hb : ZE X b Tb) : ZP X (.Compare a [.IsNot] [b] pos) (zTst (zBin rzNotN Ta Tb)) := zp_cmp op_notN lr_notN ha hb
theorem p_isB (ha : ZE X a Ta) (hb : ZE X b Tb) : ZP X (.Compare a [.Is] [b] pos) (zTst (zBin (rzIsB fun a b => decide (a = b)) Ta Tb)) := zp_cmp op_is_bl lr_isB ha hb
theorem p_notB (ha : ZE X a Ta) (hb : ZE X b Tb) : ZP X (.Compare a [.IsNot] [b] pos) (zTst (zBin (rzIsB fun a b => !decide (a = b)) Ta Tb)) := zp_cmp op_isnot_bl lr_notB ha hb
/-- chains: x op y op' z -/
theorem q_lele (ha : ZE X a Ta) (hb : ZE X b Tb) (hc : ZE X c Tc) (hm : lastMarks [.LtE, .LtE] [b, c] = false := by with_unfolding_all rfl) : ZE X (.Compare a [.LtE, .LtE] [b, c] pos) (zChain rzLe rzLe Ta Tb Tc) := ze_chain op_le op_le lr_le lr_le ha hb hc hm
theorem p_lele (ha : ZE X a Ta) (hb : ZE X b Tb) (hc : ZE X c Tc) (hm : lastMarks [.LtE, .LtE] [b, c] = false := by with_unfolding_all rfl) : ZP X (.Compare a [.LtE, .LtE] [b, c] pos) (zTst (zChain rzLe rzLe Ta Tb Tc)) := zp_chain op_le op_le lr_le lr_le ha hb hc hm
theorem q_ix (ha : ZE X a Ta) (hb : ZE X b Tb) (hs : PlainIx b := by intro _ _; rfl) : ZE X (.Subscript a b pos) (zBin rzIx Ta Tb) := ze_ix ix_seq lr_ix ha hb hs
/-- built-in calls -/
theorem q_len (B : Bs X.mg) (ha : ZE X a Ta) (hg : Gl X "len" := by rfl) (he : starEach [a] X.env = (false, eval a X.env) :: starEach [] X.env := by rfl) (hpl : (backTo pos (starEach [] X.env)).any (·.1) = false := by rfl) : ZE X (.Call (.Name "len" p) [a] [] pos) (zCall (rzLen X.K) (zaCons Ta zaNil)) :=
  ze_callB call_len lc_len hg B.len (by rfl) (za_cons ha za_nil he) (by decide) (by decide) he hpl
theorem q_abs (B : Bs X.mg) (ha : ZE X a Ta) (hg : Gl X "abs" := by rfl) (he : starEach [a] X.env = (false, eval a X.env) :: starEach [] X.env := by rfl) (hpl : (backTo pos (starEach [] X.env)).any (·.1) = false := by rfl) : ZE X (.Call (.Name "abs" p) [a] [] pos) (zCall (rzInt1 fun i => .int (if i < 0 then -i else i)) (zaCons Ta zaNil)) :=
  ze_callB call_abs lc_abs hg B.abs (by rfl) (za_cons ha za_nil he) (by decide) (by decide) he hpl
theorem q_sum (hc : X.calm = true) (B : Bs X.mg) (ha : ZE X a Ta) (hg : Gl X "sum" := by rfl) (he : starEach [a] X.env = (false, eval a X.env) :: starEach [] X.env := by rfl) (hpl : (backTo pos (starEach [] X.env)).any (·.1) = false := by rfl) : ZE X (.Call (.Name "sum" p) [a] [] pos) (zCall (rzInts fun ns => .int ns.sum) (zaCons Ta zaNil)) :=
  ze_callB (cr_sum hc) lc_sum hg B.sum (by rfl) (za_cons ha za_nil he) (by decide) (by decide) he hpl
theorem q_all (hc : X.calm = true) (B : Bs X.mg) (ha : ZE X a Ta) (hg : Gl X "all" := by rfl) (he : starEach [a] X.env = (false, eval a X.env) :: starEach [] X.env := by rfl) (hpl : (backTo pos (starEach [] X.env)).any (·.1) = false := by rfl) : ZE X (.Call (.Name "all" p) [a] [] pos) (zCall (rzBls fun ns => .bl (ns.all id)) (zaCons Ta zaNil)) :=
  ze_callB (cr_all hc) lc_all hg B.all (by rfl) (za_cons ha za_nil he) (by decide) (by decide) he hpl
theorem q_any (hc : X.calm = true) (B : Bs X.mg) (ha : ZE X a Ta) (hg : Gl X "any" := by rfl) (he : starEach [a] X.env = (false, eval a X.env) :: starEach [] X.env := by rfl) (hpl : (backTo pos (starEach [] X.env)).any (·.1) = false := by rfl) : ZE X (.Call (.Name "any" p) [a] [] pos) (zCall (rzBls fun ns => .bl (ns.any id)) (zaCons Ta zaNil)) :=
  ze_callB (cr_any hc) lc_any hg B.any (by rfl) (za_cons ha za_nil he) (by decide) (by decide) he hpl
theorem q_sorted (hr : Room k X.A) (B : Bs X.mg) (ha : ZE X a Ta) (hg : Gl X "sorted" := by rfl) (he : starEach [a] X.env = (false, eval a X.env) :: starEach [] X.env := by rfl) (hpl : (backTo pos (starEach [] X.env)).any (·.1) = false := by rfl) : ZE X (.Call (.Name "sorted" p) [a] [] pos) (zCall rzSort (zaCons Ta zaNil)) :=
  ze_callB (call_sortD hr) lc_sort hg B.sorted (by rfl) (za_cons ha za_nil he) (by decide) (by decide) he hpl
theorem q_sortedD (hc : X.calm = true) (B : Bs X.mg) (ha : ZE X a Ta) (hg : Gl X "sorted" := by rfl) (he : starEach [a] X.env = (false, eval a X.env) :: starEach [] X.env := by rfl) (hpl : (backTo pos (starEach [] X.env)).any (·.1) = false := by rfl) : ZE X (.Call (.Name "sorted" p) [a] [] pos) (zCall rzSortDI (zaCons Ta zaNil)) :=
  ze_callB (call_sortedDI hc) lc_sortDI hg B.sorted (by rfl) (za_cons ha za_nil he) (by decide) (by decide) he hpl
theorem q_tuple (B : Bs X.mg) (ha : ZE X a Ta) (hg : Gl X "tuple" := by rfl) (he : starEach [a] X.env = (false, eval a X.env) :: starEach [] X.env := by rfl) (hpl : (backTo pos (starEach [] X.env)).any (·.1) = false := by rfl) : ZE X (.Call (.Name "tuple" p) [a] [] pos) (zCall rzTuple (zaCons Ta zaNil)) :=
  ze_callTy call_tuple_of lc_tuple hg B.tuple (by rfl) (za_cons ha za_nil he) (by decide) (by decide) he hpl
theorem q_list (B : Bs X.mg) (ha : ZE X a Ta) (hg : Gl X "list" := by rfl) (he : starEach [a] X.env = (false, eval a X.env) :: starEach [] X.env := by rfl) (hpl : (backTo pos (starEach [] X.env)).any (·.1) = false := by rfl) : ZE X (.Call (.Name "list" p) [a] [] pos) (zCall rzList (zaCons Ta zaNil)) :=
  ze_callTy call_list_of lc_list hg B.list (by rfl) (za_cons ha za_nil he) (by decide) (by decide) he hpl
theorem q_listN (B : Bs X.mg) (ha : ZE X a Ta) (hg : Gl X "list" := by rfl) (he : starEach [a] X.env = (false, eval a X.env) :: starEach [] X.env := by rfl) (hpl : (backTo pos (starEach [] X.env)).any (·.1) = false := by rfl) : ZE X (.Call (.Name "list" p) [a] [] pos) (zCall rzListN (zaCons Ta zaNil)) :=
  ze_callTy call_list_of lc_listN hg B.list (by rfl) (za_cons ha za_nil he) (by decide) (by decide) he hpl
theorem q_int (B : Bs X.mg) (ha : ZE X a Ta) (hg : Gl X "int" := by rfl) (he : starEach [a] X.env = (false, eval a X.env) :: starEach [] X.env := by rfl) (hpl : (backTo pos (starEach [] X.env)).any (·.1) = false := by rfl) : ZE X (.Call (.Name "int" p) [a] [] pos) (zCall rzInt (zaCons Ta zaNil)) :=
  ze_callTy call_int1 lc_int hg B.int (by rfl) (za_cons ha za_nil he) (by decide) (by decide) he hpl
theorem q_max2 (hc : X.calm = true) (B : Bs X.mg) (ha : ZE X a Ta) (hb : ZE X b Tb) (hg : Gl X "max" := by rfl) (he : starEach [a, b] X.env = (false, eval a X.env) :: starEach [b] X.env := by rfl) (he2 : starEach [b] X.env = (false, eval b X.env) :: starEach [] X.env := by rfl) (hpl : (backTo pos (starEach [b] X.env)).any (·.1) = false := by rfl) : ZE X (.Call (.Name "max" p) [a, b] [] pos) (zCall (rzInt2 fun i j => .int (if j > i then j else i)) (zaCons Ta (zaCons Tb zaNil))) :=
  ze_callB (call_max2 hc) lc_max2 hg B.max (by rfl) (za_cons ha (za_cons hb za_nil he2) he) (by decide) (by decide) he hpl
theorem q_min2 (hc : X.calm = true) (B : Bs X.mg) (ha : ZE X a Ta) (hb : ZE X b Tb) (hg : Gl X "min" := by rfl) (he : starEach [a, b] X.env = (false, eval a X.env) :: starEach [b] X.env := by rfl) (he2 : starEach [b] X.env = (false, eval b X.env) :: starEach [] X.env := by rfl) (hpl : (backTo pos (starEach [b] X.env)).any (·.1) = false := by rfl) : ZE X (.Call (.Name "min" p) [a, b] [] pos) (zCall (rzInt2 fun i j => .int (if j < i then j else i)) (zaCons Ta (zaCons Tb zaNil))) :=
  ze_callB (call_min2 hc) lc_min2 hg B.min (by rfl) (za_cons ha (za_cons hb za_nil he2) he) (by decide) (by decide) he hpl
theorem q_isInt (B : Bs X.mg) (ha : ZE X e Ta) (hg : Gl X "isinstance" := by rfl) (hg2 : Gl X "int" := by rfl) (hs : starEach [e, .Name "int" p2] X.env = (false, eval e X.env) :: starEach [.Name "int" p2] X.env := by rfl) : ZE X (.Call (.Name "isinstance" p) [e, .Name "int" p2] [] pos) (zUn (rzIsi .int) Ta) :=
  ze_isi hg B.isinstance ha (ze_c (v := .ty "int") (pe_bltn hg2 B.int (by rfl) rfl) fun _ _ _ => rfl) (by decide) hs
theorem q_isBool (B : Bs X.mg) (ha : ZE X e Ta) (hg : Gl X "isinstance" := by rfl) (hg2 : Gl X "bool" := by rfl) (hs : starEach [e, .Name "bool" p2] X.env = (false, eval e X.env) :: starEach [.Name "bool" p2] X.env := by rfl) : ZE X (.Call (.Name "isinstance" p) [e, .Name "bool" p2] [] pos) (zUn (rzIsi .bl) Ta) :=
  ze_isi hg B.isinstance ha (ze_c (v := .ty "bool") (pe_bltn hg2 B.bool (by rfl) rfl) fun _ _ _ => rfl) (by decide) hs
theorem q_isStr (B : Bs X.mg) (ha : ZE X e Ta) (hg : Gl X "isinstance" := by rfl) (hg2 : Gl X "str" := by rfl) (hs : starEach [e, .Name "str" p2] X.env = (false, eval e X.env) :: starEach [.Name "str" p2] X.env := by rfl) : ZE X (.Call (.Name "isinstance" p) [e, .Name "str" p2] [] pos) (zUn (rzIsi .str) Ta) :=
  ze_isi hg B.isinstance ha (ze_c (v := .ty "str") (pe_bltn hg2 B.str (by rfl) rfl) fun _ _ _ => rfl) (by decide) hs
theorem q_isTuple (B : Bs X.mg) (ha : ZE X e Ta) (hg : Gl X "isinstance" := by rfl) (hg2 : Gl X "tuple" := by rfl) (hs : starEach [e, .Name "tuple" p2] X.env = (false, eval e X.env) :: starEach [.Name "tuple" p2] X.env := by rfl) : ZE X (.Call (.Name "isinstance" p) [e, .Name "tuple" p2] [] pos) (zUn (rzIsi .tup) Ta) :=
  ze_isi hg B.isinstance ha (ze_c (v := .ty "tuple") (pe_bltn hg2 B.tuple (by rfl) rfl) fun _ _ _ => rfl) (by decide) hs
theorem q_isList (B : Bs X.mg) (ha : ZE X e Ta) (hg : Gl X "isinstance" := by rfl) (hg2 : Gl X "list" := by rfl) (hs : starEach [e, .Name "list" p2] X.env = (false, eval e X.env) :: starEach [.Name "list" p2] X.env := by rfl) : ZE X (.Call (.Name "isinstance" p) [e, .Name "list" p2] [] pos) (zUn (rzIsi .lst) Ta) :=
  ze_isi hg B.isinstance ha (ze_c (v := .ty "list") (pe_bltn hg2 B.list (by rfl) rfl) fun _ _ _ => rfl) (by decide) hs
/-- a whole number of the module -/
theorem q_gint {x : Str} {n : Int} (hm : ∃ t, X.mg x = some (.int n t)) (hg : Gl X x := by rfl) (hd : (x == ("__debug__" : Str)) = false := by decide) : ZE X (.Name x pos) (zC (.int n)) := by
  obtain ⟨t, hm⟩ := hm
  exact ze_c (v := .int n) (pe_glob hg hm ⟨t, rfl⟩ hd) fun _ _ _ => rfl
theorem q_gref {x : Str} {d : Addr} (hm : X.mg x = some (.ref d)) (hg : Gl X x := by rfl) (hd : (x == ("__debug__" : Str)) = false := by decide) : ZE X (.Name x pos) (zC (.ref d)) := ze_c (v := .ref d) (pe_glob hg hm rfl hd) fun _ _ _ => rfl
theorem q_kd {d : Addr} {f : Str → Option Str} (hk : ∀ z u, f z = some u → KDct X.K X.w d z (.str u)) (ha : ZE X a Ta) (hb : ZE X b Tb) (hs : PlainIx b := by intro _ _; rfl) : ZE X (.Subscript a b pos) (zBin (rzKd d f) Ta Tb) := ze_ix ix_kdict (lr_kd hk) ha hb hs
/-- a def called -/
theorem q_call {es : List Expr} {TA : TAZ} {x : Str} {n : Nat} {g : SpZ} (F : Fz X.prog X.w X.K X.mg X.base j x n g) (hr : RoomG k X.A) (ha : ZA X (e :: es) TA) (hj : j ≤ k := by decide) (hg : Gl X x := by rfl) (hdb : (x == ("__debug__" : Str)) = false := by decide)
    (he : starEach (e :: es) X.env = (false, eval e X.env) :: starEach es X.env := by rfl) (hpl : (backTo pos (starEach es X.env)).any (·.1) = false := by rfl) : ZE X (.Call (.Name x p) (e :: es) [] pos) (zFn n g TA) := ze_call F (hr.mono hj) hg ha hdb he hpl
end
/-- [x] * n, a list that will change -/
def rzMulN : R2Z := fun x y M Q => match view M x, y with
  | .lst xs, .int k => -1000000 ≤ k ∧ k ≤ 1000000 ∧ xs.length * k.toNat ≤ 10000000 ∧ ∀ p, M p = none → Q (.ref p) (mu M p (.lst (List.replicate k.toNat xs).flatten))
  | _, _ => False
theorem lr_mulN : LiftR (fun x y H Q => rI CMulW (fun i j => .int (i * j)) x y H Q ∨ rRep x y H Q) rzMulN := by
  intro G M H x y d e Q Q' rm rx ry h (k : Kont G M H Q Q')
  unfold rzMulN at h
  split at h
  · next xs n hx =>
    obtain ⟨a, vs, rfl, h1, h2, h3⟩ := view_lst rm rx hx
    obtain ⟨q1, q2, q3, q4⟩ := h
    have r' := reps_rep h3 n.toNat
    have hz : vs.length * n.toNat ≤ sizeLine := by rw [← h3.length]; exact line1 q3
    refine .inr ⟨a, n, vs, rfl, ry, h1, by omega, by omega, hz, fun p hp => ?_⟩
    have ex := ex_put (c := .lst (List.replicate n.toNat xs).flatten) (o := .lst (List.replicate n.toNat vs).flatten) rm (.inl hp)
    exact k (.ref p) _ _ _ ex (rel_cell rm hp ⟨_, upd_same, by simp only [List.length_flatten, List.map_replicate, List.sum_replicate_nat]; rw [Nat.mul_comm]; exact hz, r'.mono ex⟩) rfl (q4 p (rm.fresh hp))
  · exact h.elim
theorem q_mulN {X : Cx} {a b : Expr} {pos : Pos} {Ta Tb : TZ} (ha : ZE X a Ta) (hb : ZE X b Tb) : ZE X (.BinOp a .Mult b pos) (zBin rzMulN Ta Tb) := ze_op or_mul lr_mulN ha hb
end Zz

set_option Elab.async false
set_option linter.all false
set_option maxRecDepth 100000
set_option maxHeartbeats 1000000
/-! Z15: readings of loops. -/
namespace Zz
open PySem PySem.Spec PyProof.Rows L2

theorem compGo_map {α : Type} (enc : α → D) (p : α → Bool) (g : α → D) {chk : MM → Prop} {t : Tg} {tt : TTZ} {te : TZ} {env : ZT} {M : MM} {Q : List D → MM → Prop} (hck : chk M) : ∀ (l : List α)
    (_ : ∀ a, a ∈ l → ∃ env1, bindT t (enc a) env = some env1 ∧ (∀ Q : Bool → MM → Prop, Q (p a) M → tt env1 M Q) ∧ (p a = true → ∀ Q : D → MM → Prop, Q (g a) M → te env1 M Q)) (acc : List D)
    (_ : Q (acc ++ (l.filter p).map g) M), compGo chk t tt te env (l.map enc) acc M Q
  | [], _, acc, k => by
    simp only [List.map_nil, compGo]
    simpa using k
  | a :: l, h, acc, k => by
    obtain ⟨env1, h1, h2, h3⟩ := h a List.mem_cons_self
    have h' : ∀ b, b ∈ l → _ := fun b hb => h b (List.mem_cons_of_mem _ hb)
    simp only [List.map_cons, compGo, h1]
    refine h2 _ ?_
    cases hp : p a with
    | true =>
      rw [if_pos rfl]
      refine h3 hp _ ⟨hck, compGo_map enc p g hck l h' _ ?_⟩
      simpa [hp, List.append_assoc] using k
    | false =>
      rw [if_neg Bool.false_ne_true]
      refine ⟨hck, compGo_map enc p g hck l h' _ ?_⟩
      simpa [hp] using k
/-- without a test -/
theorem compGo_all {α : Type} (enc : α → D) (g : α → D) {chk : MM → Prop} {t : Tg} {te : TZ} {env : ZT} {M : MM} {Q : List D → MM → Prop} (hck : chk M) (l : List α)
    (h : ∀ a, a ∈ l → ∃ env1, bindT t (enc a) env = some env1 ∧ ∀ Q : D → MM → Prop, Q (g a) M → te env1 M Q) (k : Q (l.map g) M) : compGo chk t zYes te env (l.map enc) [] M Q := by
  refine compGo_map enc (fun _ => true) g hck l (fun a ha => ?_) [] ?_
  · obtain ⟨env1, h1, h2⟩ := h a ha
    exact ⟨env1, h1, fun Q q => q, fun _ => h2⟩
  · have e : l.filter (fun _ => true) = l := List.filter_eq_self.mpr (by simp)
    rw [e]; exact k
/-- any comprehension, by what holds between its turns -/
theorem compGo_ind {chk : MM → Prop} {t : Tg} {tt : TTZ} {te : TZ} {env : ZT} {Q : List D → MM → Prop} (xs : List D) (I : Nat → List D → MM → Prop)
    (step : ∀ i x acc M, xs[i]? = some x → I i acc M → ∃ env1, bindT t x env = some env1 ∧ ∀ K : List D → MM → Prop, (∀ acc' M', I (i + 1) acc' M' → K acc' M') →
      tt env1 M fun b M1 => if b = true then te env1 M1 fun y M2 => chk M2 ∧ K (acc ++ [y]) M2 else chk M1 ∧ K acc M1)
    (fin : ∀ acc M, I xs.length acc M → Q acc M) : ∀ (acc : List D) (M : MM), I 0 acc M → compGo chk t tt te env xs acc M Q := by
  have go : ∀ (n i : Nat) (acc : List D) (M : MM), n + i = xs.length → I i acc M → compGo chk t tt te env (xs.drop i) acc M Q := by
    intro n
    induction n with
    | zero =>
      intro i acc M hi h
      have e : i = xs.length := by omega
      subst e
      rw [List.drop_length]
      exact fin acc M h
    | succ n ih =>
      intro i acc M hi h
      have hlt : i < xs.length := by omega
      rw [List.drop_eq_getElem_cons hlt]
      obtain ⟨env1, h1, h2⟩ := step i xs[i] acc M (List.getElem?_eq_getElem hlt) h
      simp only [compGo, h1]
      exact h2 _ fun acc' M' h' => ih (i + 1) acc' M' (by omega) h'
  intro acc M h
  have := go xs.length 0 acc M (by omega) h
  rwa [List.drop_zero] at this
theorem forGo_ind {chk : MM → Prop} {t : Tg} {tb : TSZ} {Dd : ZEnds} (xs : List D) (I : Nat → ZT → MM → Prop)
    (step : ∀ i x env M, xs[i]? = some x → I i env M → ∃ env1, bindT t x env = some env1 ∧ ∀ K : ZT → MM → Prop, (∀ e M', I (i + 1) e M' → K e M') →
      tb { Dd with nx := fun e M' => chk M' ∧ K e M', ct := fun e M' => chk M' ∧ K e M', bk := Dd.nx } env1 M)
    (fin : ∀ env M, I xs.length env M → Dd.nx env M) : ∀ (env : ZT) (M : MM), I 0 env M → forGo chk t tb xs Dd env M := by
  have go : ∀ (n i : Nat) (env : ZT) (M : MM), n + i = xs.length → I i env M → forGo chk t tb (xs.drop i) Dd env M := by
    intro n
    induction n with
    | zero =>
      intro i env M hi h
      have e : i = xs.length := by omega
      subst e
      rw [List.drop_length]
      exact fin env M h
    | succ n ih =>
      intro i env M hi h
      have hlt : i < xs.length := by omega
      rw [List.drop_eq_getElem_cons hlt]
      obtain ⟨env1, h1, h2⟩ := step i xs[i] env M (List.getElem?_eq_getElem hlt) h
      simp only [forGo, h1]
      exact h2 _ fun e M' h' => ih (i + 1) e M' (by omega) h'
  intro env M h
  have := go xs.length 0 env M (by omega) h
  rwa [List.drop_zero] at this
theorem dcGo_map {α : Type} (enc : α → D) (kf : α → Key) (g : α → D) {chk : MM → Prop} {t : Tg} {tk tv : TZ} {env : ZT} {M : MM} {Q : List (Key × D) → MM → Prop} (hck : chk M) : ∀ (l : List α)
    (_ : ∀ a, a ∈ l → ∃ env1 y, bindT t (enc a) env = some env1 ∧ keyD y = some (kf a) ∧ (∀ Q : D → MM → Prop, Q y M → tk env1 M Q) ∧ (∀ Q : D → MM → Prop, Q (g a) M → tv env1 M Q)) (acc : List (Key × D))
    (_ : Q (l.foldl (fun acc a => putD acc (kf a) (g a)) acc) M), dcGo chk t zYes tk tv env (l.map enc) acc M Q
  | [], _, acc, k => k
  | a :: l, h, acc, k => by
    obtain ⟨env1, y, h1, hk, h2, h3⟩ := h a List.mem_cons_self
    simp only [List.map_cons, dcGo, h1, zYes, if_true]
    refine h2 _ (h3 _ ?_)
    rw [hk]
    exact ⟨hck, dcGo_map enc kf g hck l (fun b hb => h b (List.mem_cons_of_mem _ hb)) _ k⟩
theorem okDs_all {n : Nat} {xs : List D} (h : ∀ x, x ∈ xs → okD n x = true) : okDs n xs = true := by
  induction xs with
  | nil => rfl
  | cons x xs ih => simp only [okDs, Bool.and_eq_true]; exact ⟨h x List.mem_cons_self, ih fun y hy => h y (List.mem_cons_of_mem _ hy)⟩
theorem intsOf_map : ∀ ns : List Int, intsOf (ns.map D.int) = some ns
  | [] => rfl
  | n :: ns => by simp [intsOf, intsOf_map ns]
theorem blsOf_map : ∀ ns : List Bool, blsOf (ns.map D.bl) = some ns
  | [] => rfl
  | n :: ns => by simp [blsOf, blsOf_map ns]
theorem toPys_map (ds : List D) : toPys ds = ds.map toPy := by
  induction ds with
  | nil => rfl
  | cons d ds ih => simp [toPys, ih]
end Zz

set_option Elab.async false
set_option linter.all false
set_option maxRecDepth 100000
set_option maxHeartbeats 1000000
/-! Z16: comprehensions over sequences, with what is done with them. -/
namespace Zz
open PySem PySem.Spec PyProof.Rows L2

/-- T gives d and changes nothing -/
def Ev (T : TZ) (env : ZT) (M : MM) (d : D) : Prop := ∀ Q : D → MM → Prop, Q d M → T env M Q
def EvT (T : TTZ) (env : ZT) (M : MM) (b : Bool) : Prop := ∀ Q : Bool → MM → Prop, Q b M → T env M Q
/-- d is a sequence of l -/
def SeqD (d : D) (xs : List D) : Prop := d = .tup xs ∨ d = .lst xs
theorem iSeq_of {K : PySem.W.Frag} {Ta : TZ} {env : ZT} {M : MM} {d : D} {xs : List D} {R : List D → (MM → Prop) → MM → Prop} (hT : Ev Ta env M d) (hd : SeqD d xs) (k : R xs (fun _ => True) M) : iSeq K Ta env M R := by
  refine hT _ ?_
  rcases hd with rfl | rfl
  · exact k
  · exact k
/-- a list that changes: it must not while it is walked -/
theorem iSeq_ref {K : PySem.W.Frag} {Ta : TZ} {env : ZT} {M : MM} {p : Addr} {xs : List D} {R : List D → (MM → Prop) → MM → Prop} (hT : Ev Ta env M (.ref p)) (hp : M p = some (.lst xs)) (k : R xs (fun M' => M' p = some (.lst xs)) M) : iSeq K Ta env M R := by
  refine hT _ ?_
  simp only [hp]
  exact k
section
variable {α : Type} {K : PySem.W.Frag} {Ta te : TZ} {tt : TTZ} {t : Tg} {own : List Nat} {env : ZT} {M : MM} {Q : D → MM → Prop} {d : D}
theorem comp_s (enc g : α → D) (l : List α) (hT : Ev Ta env M d) (hd : SeqD d (l.map enc)) (h : ∀ a, a ∈ l → ∃ env1, bindT t (enc a) (wipeZ env own) = some env1 ∧ Ev te env1 M (g a)) (k : Q (.lst (l.map g)) M) : zComp (iSeq K Ta) t own zYes te env M Q :=
  iSeq_of hT hd (compGo_all enc g True.intro l h k)
theorem comp_f (enc g : α → D) (p : α → Bool) (l : List α) (hT : Ev Ta env M d) (hd : SeqD d (l.map enc)) (h : ∀ a, a ∈ l → ∃ env1, bindT t (enc a) (wipeZ env own) = some env1 ∧ EvT tt env1 M (p a) ∧ (p a = true → Ev te env1 M (g a))) (k : Q (.lst ((l.filter p).map g)) M) : zComp (iSeq K Ta) t own tt te env M Q :=
  iSeq_of hT hd (compGo_map enc p g True.intro l h [] (by simpa using k))
theorem blsOf_f (p : α → Bool) (l : List α) : blsOf (l.map fun a => D.bl (p a)) = some (l.map p) := by
  have := blsOf_map (l.map p)
  rwa [List.map_map] at this
theorem intsOf_f (p : α → Int) (l : List α) : intsOf (l.map fun a => D.int (p a)) = some (l.map p) := by
  have := intsOf_map (l.map p)
  rwa [List.map_map] at this
/-- all([..]) -/
theorem all_s (enc : α → D) (p : α → Bool) (l : List α) (hT : Ev Ta env M d) (hd : SeqD d (l.map enc)) (h : ∀ a, a ∈ l → ∃ env1, bindT t (enc a) (wipeZ env own) = some env1 ∧ Ev te env1 M (.bl (p a))) (k : Q (.bl (l.all p)) M) :
    zCall (rzBls fun ns => .bl (ns.all id)) (zaCons (zComp (iSeq K Ta) t own zYes te) zaNil) env M Q := by
  show zComp (iSeq K Ta) t own zYes te env M (fun d M1 => rzBls (fun ns => .bl (ns.all id)) [d] M1 Q)
  refine comp_s enc (fun a => .bl (p a)) l hT hd h ?_
  show rzBls _ [.lst (l.map fun a => D.bl (p a))] M Q
  simp only [rzBls, view, blsOf_f]
  rw [List.all_map]
  exact k
/-- sum([..]) -/
theorem sum_s (enc : α → D) (g : α → Int) (l : List α) (hT : Ev Ta env M d) (hd : SeqD d (l.map enc)) (h : ∀ a, a ∈ l → ∃ env1, bindT t (enc a) (wipeZ env own) = some env1 ∧ Ev te env1 M (.int (g a))) (k : Q (.int (l.map g).sum) M) :
    zCall (rzInts fun ns => .int ns.sum) (zaCons (zComp (iSeq K Ta) t own zYes te) zaNil) env M Q := by
  show zComp (iSeq K Ta) t own zYes te env M (fun d M1 => rzInts (fun ns => .int ns.sum) [d] M1 Q)
  refine comp_s enc (fun a => .int (g a)) l hT hd h ?_
  show rzInts _ [.lst (l.map fun a => D.int (g a))] M Q
  simp only [rzInts, view, intsOf_f]
  exact k
theorem sum_f (enc : α → D) (g : α → Int) (p : α → Bool) (l : List α) (hT : Ev Ta env M d) (hd : SeqD d (l.map enc)) (h : ∀ a, a ∈ l → ∃ env1, bindT t (enc a) (wipeZ env own) = some env1 ∧ EvT tt env1 M (p a) ∧ (p a = true → Ev te env1 M (.int (g a)))) (k : Q (.int ((l.filter p).map g).sum) M) :
    zCall (rzInts fun ns => .int ns.sum) (zaCons (zComp (iSeq K Ta) t own tt te) zaNil) env M Q := by
  show zComp (iSeq K Ta) t own tt te env M (fun d M1 => rzInts (fun ns => .int ns.sum) [d] M1 Q)
  refine comp_f enc (fun a => .int (g a)) p l hT hd h ?_
  show rzInts _ [.lst ((l.filter p).map fun a => D.int (g a))] M Q
  simp only [rzInts, view, intsOf_f]
  exact k
/-- tuple([..]) -/
theorem tup_s (enc g : α → D) (l : List α) (hT : Ev Ta env M d) (hd : SeqD d (l.map enc)) (h : ∀ a, a ∈ l → ∃ env1, bindT t (enc a) (wipeZ env own) = some env1 ∧ Ev te env1 M (g a)) (k : Q (.tup (l.map g)) M) :
    zCall rzTuple (zaCons (zComp (iSeq K Ta) t own zYes te) zaNil) env M Q := by
  show zComp (iSeq K Ta) t own zYes te env M (fun d M1 => rzTuple [d] M1 Q)
  refine comp_s enc g l hT hd h ?_
  exact k
end
/-! ### equality -/
theorem eqv_all_refl : ∀ xs : List PyData, (∀ x, x ∈ xs → PyData.eqv x x = true) → PyData.eqvAll xs xs = true
  | [], _ => rfl
  | x :: xs, h => by
    rw [PyData.eqvAll, h x List.mem_cons_self, eqv_all_refl xs fun y hy => h y (List.mem_cons_of_mem _ hy)]
    rfl
mutual
theorem deq_refl : ∀ (n : Nat) (d : D), okD n d = true → PyData.eqv (toPy d) (toPy d) = true
  | _, .non, _ => rfl
  | _, .bl b, _ => by simp [toPy, PyData.eqv]
  | _, .int i, _ => by simp [toPy, PyData.eqv]
  | _, .str x, _ => by simp [toPy, PyData.eqv]
  | n + 1, .tup xs, h => by
    simp only [okD] at h
    rw [toPy, PyData.eqv]
    exact deqs_refl n xs h
  | n + 1, .lst xs, h => by
    simp only [okD] at h
    rw [toPy, PyData.eqv]
    exact deqs_refl n xs h
  | 0, .tup xs, h => by simp [okD] at h
  | 0, .lst xs, h => by simp [okD] at h
  | n, .dic ks ds, h => by cases n <;> simp [okD] at h
  | n, .dct ks ds, h => by cases n <;> simp [okD] at h
  | n, .ref a, h => by cases n <;> simp [okD] at h
  | n, .ty m, h => by cases n <;> simp [okD] at h
  | n, .kls _ _ _, h => by cases n <;> simp [okD] at h
  | n, .err _ _ _, h => by cases n <;> simp [okD] at h
  | n, .exc _ _ _, h => by cases n <;> simp [okD] at h
  | n, .lam _ _ _, h => by cases n <;> simp [okD] at h
theorem deqs_refl : ∀ (n : Nat) (ds : List D), okDs n ds = true → PyData.eqvAll (toPys ds) (toPys ds) = true
  | _, [], _ => rfl
  | n, d :: ds, h => by
    simp only [okDs, Bool.and_eq_true] at h
    rw [toPys, PyData.eqvAll, deq_refl n d h.1, deqs_refl n ds h.2]
    rfl
end
theorem deq_self {n : Nat} {d : D} (h : okD n d = true) : deq d d = true := deq_refl n d h
theorem cut_tail {xs : List D} : cutD xs (some 1) none = xs.drop 1 := by
  unfold cutD
  have e : HT.sIx xs.length 0 (some 1) = min 1 xs.length := HT.sIx_nat _ _ 1
  rw [e, HT.sIx_none]
  cases xs with
  | nil => rfl
  | cons x xs =>
    have e2 : min 1 (x :: xs).length = 1 := by simp
    rw [e2]
    simp
theorem atI_nat {α : Type} {xs : List α} {i : Int} {x : α} (h0 : 0 ≤ i) (h : xs[i.toNat]? = some x) : atI xs i = some x := by
  have hlt := (List.getElem?_eq_some_iff.mp h).1
  unfold atI ixN
  rw [if_pos h0, if_pos (by omega)]
  exact h
theorem while_of {c : TTZ} {tb : TSZ} {Dd : ZEnds} {env : ZT} {M : MM} (W : Nat → ZT → MM → Prop) (E : ZT → MM → Prop) (h0 : ∃ m, W m env M)
    (turn : ∀ N : ZT → MM → Prop, (∀ e M', E e M' → N e M') → ∀ m e M', W m e M' → c e M' fun b M1 => if b = true then tb { Dd with nx := fun e M' => ∃ m', m' < m ∧ W m' e M', ct := fun e M' => ∃ m', m' < m ∧ W m' e M', bk := N } e M1 else N e M1)
    (exit : ∀ e M', E e M' → Dd.nx e M') : zWhile c tb Dd env M := ⟨W, h0, fun m e M' w => turn Dd.nx exit m e M' w⟩
/-! ### one step of a reading -/
section
variable {env : ZT} {M : MM} {Dd : ZEnds} {Q : D → MM → Prop} {T Ta Tb : TZ} {i : Nat} {t u : TSZ} {z : RCZ} {z2 : R2Z}
theorem st_set (h : T env M fun d M1 => Dd.nx (env.set i (some d)) M1) : zSet i T Dd env M := h
theorem st_seq (h : t { Dd with nx := u Dd } env M) : zSeq t u Dd env M := h
theorem st_call1 (h : T env M fun x M1 => z [x] M1 Q) : zCall z (zaCons T zaNil) env M Q := h
theorem st_call2 (h : Ta env M fun x M1 => Tb env M1 fun y M2 => z [x, y] M2 Q) : zCall z (zaCons Ta (zaCons Tb zaNil)) env M Q := h
theorem st_bin (h : Ta env M fun x M1 => Tb env M1 fun y M2 => z2 x y M2 Q) : zBin z2 Ta Tb env M Q := h
theorem st_ret (h : T env M Dd.rt) : zRet T Dd env M := h
theorem st_if {c : TTZ} (h : c env M fun b M1 => if b = true then Ta env M1 Q else Tb env M1 Q) : zIf c Ta Tb env M Q := h
theorem st_ifS {c : TTZ} (h : c env M fun b M1 => if b = true then t Dd env M1 else u Dd env M1) : zIfS c t u Dd env M := h
theorem st_or {c e : TTZ} {Q : Bool → MM → Prop} (h : c env M fun b M1 => if b = true then Q true M1 else e env M1 Q) : zOr c e env M Q := h
theorem st_and {c e : TTZ} {Q : Bool → MM → Prop} (h : c env M fun b M1 => if b = true then e env M1 Q else Q false M1) : zAnd c e env M Q := h
theorem st_not {c : TTZ} {Q : Bool → MM → Prop} (h : c env M fun b M1 => Q (!b) M1) : zNot c env M Q := h
theorem st_tst {Q : Bool → MM → Prop} (h : T env M fun d M' => match d with | .bl b => Q b M' | _ => False) : zTst T env M Q := h
theorem ite_t {b : Bool} {p q : Prop} (hb : b = true) (h : p) : if b = true then p else q := by rw [if_pos hb]; exact h
theorem ite_f {b : Bool} {p q : Prop} (hb : b = false) (h : q) : if b = true then p else q := by rw [if_neg (by rw [hb]; exact Bool.false_ne_true)]; exact h
theorem st_drop (h : T env M fun _ M1 => Dd.nx env M1) : zDrop T Dd env M := h
end
section
variable {env : ZT} {M : MM} {Dd : ZEnds}
theorem st_par {is : List Nat} {T : TAZ} (h : T env M fun ds M1 => match bindTs (is.map .nm) ds env with | some env' => Dd.nx env' M1 | none => False) : zPar is T Dd env M := h
theorem ta_cons {Ta : TZ} {Tr : TAZ} {Q : List D → MM → Prop} (h : Ta env M fun x M1 => Tr env M1 fun xs M2 => Q (x :: xs) M2) : zaCons Ta Tr env M Q := h
theorem ta_nil {Q : List D → MM → Prop} (h : Q [] M) : zaNil env M Q := h
theorem par2_use {i j : Nat} {a b : D} {Nx : ZT → MM → Prop} (h : Nx ((env.set i (some a)).set j (some b)) M) : (match bindTs ([i, j].map .nm) [a, b] env with | some env' => Nx env' M | none => False) := by simpa [bindTs, bindT] using h
theorem par3_use {i j k : Nat} {a b c : D} {Nx : ZT → MM → Prop} (h : Nx (((env.set i (some a)).set j (some b)).set k (some c)) M) : (match bindTs ([i, j, k].map .nm) [a, b, c] env with | some env' => Nx env' M | none => False) := by simpa [bindTs, bindT] using h
/-- a test by what it gives -/
theorem ev_use {test : TTZ} {KK : Bool → MM → Prop} (b : Bool) (h : EvT test env M b) (k : KK b M) : test env M KK := h KK k
/-- x != y of like data -/
theorem ne_same {n : Nat} {d : D} {Q : D → MM → Prop} (hv : view M d = d) (h : okD 60 d = true) (k : Q (.bl false) M) : rzNe d d M Q := by
  refine ⟨by rw [hv]; exact h, by rw [hv]; exact h, ?_⟩
  rw [hv, deq_self h]; exact k
end
section
variable {env : ZT} {M : MM} {Dd : ZEnds} {T : TZ} {t u tb : TSZ} {test : TTZ} {i : Nat} {d : D} {tg : Tg} {wi : TIZ}
theorem ss_set (h : T env M fun d M1 => u Dd (env.set i (some d)) M1) : zSeq (zSet i T) u Dd env M := h
theorem ss_ev (h : Ev T env M d) (k : u Dd (env.set i (some d)) M) : zSeq (zSet i T) u Dd env M := h _ k
theorem ss_par {is : List Nat} {T : TAZ} (h : T env M fun ds M1 => match bindTs (is.map .nm) ds env with | some env' => u Dd env' M1 | none => False) : zSeq (zPar is T) u Dd env M := h
theorem ss_for (h : zFor wi tg tb { Dd with nx := u Dd } env M) : zSeq (zFor wi tg tb) u Dd env M := h
/-- a check that finds nothing -/
theorem ss_chk (h : EvT test env M false) (k : u Dd env M) : zSeq (zIfS test t zNext) u Dd env M := h _ (ite_f rfl k)
theorem s1_chk (h : EvT test env M false) (k : Dd.nx env M) : zIfS test t zNext Dd env M := h _ (ite_f rfl k)
theorem for_rg1 {j : Int} (hT : Ev T env M (.int j)) (h1 : j ≤ 10000000) (h2 : -10000000 ≤ j) (k : forGo (fun _ => True) tg tb (rngD 0 j.toNat) Dd env M) : zFor (iRange1 T) tg tb Dd env M := hT _ ⟨h1, h2, k⟩
theorem for_sq {K : PySem.W.Frag} {xs : List D} (hT : Ev T env M d) (hd : SeqD d xs) (k : forGo (fun _ => True) tg tb xs Dd env M) : zFor (iSeq K T) tg tb Dd env M := iSeq_of hT hd k
/-- or, and of tests that are false, true -/
theorem ev_or {c e : TTZ} {a b : Bool} (h1 : EvT c env M a) (h2 : a = false → EvT e env M b) (hb : a = true → b = true) : EvT (zOr c e) env M (a || b) := fun Q k => h1 _ (by
  cases a with
  | true => exact ite_t rfl (by simpa using k)
  | false => exact ite_f rfl (h2 rfl _ (by simpa using k)))
theorem ev_or_f {c e : TTZ} (h1 : EvT c env M false) (h2 : EvT e env M false) : EvT (zOr c e) env M false := fun Q k => h1 _ (ite_f rfl (h2 _ k))
/-- x != y, both the same -/
theorem ev_ne {Ta Tb : TZ} (ha : Ev Ta env M d) (hb : Ev Tb env M d) (hv : view M d = d) (h : okD 60 d = true) : EvT (zTst (zBin rzNe Ta Tb)) env M false := fun Q k => ha _ (hb _ (ne_same (n := 0) hv h k))
end
end Zz

set_option Elab.async false
set_option linter.all false
set_option maxRecDepth 100000
set_option maxHeartbeats 1000000
/-! Z17: exceptions: raising defs, statements that raise. The raising way is the end of the datum exc. -/
namespace Zz
open PySem PySem.Spec PyProof.Rows L2

/-- an exception's attributes -/
def ExcIn (G : Addr → Prop) (M : MM) (H : Hp) (ks : List Str) (ds : List D) (d : Option Addr) : Prop := ∃ ws : List (Str × V), XdAt G M H d ws ∧ ws.map (·.1) = ks ∧ Reps G M H ds (ws.map (·.2))
theorem ExcIn.mono {G : Addr → Prop} {M M' : MM} {H H' : Hp} {ks : List Str} {ds : List D} {d : Option Addr} (e : Ex G M H M' H') (h : ExcIn G M H ks ds d) : ExcIn G M' H' ks ds d := by
  obtain ⟨ws, h1, h2, h3⟩ := h
  exact ⟨ws, h1.mono1 e.1, h2, h3.mono e⟩
/-- R, at an exception, gives the wish W -/
def ExW (G : Addr → Prop) (M : MM) (H : Hp) (R : D → MM → Prop) (W : Value → Option Addr → Hp → Prop) : Prop := ∀ cl ks ds d M' H', Ex G M H M' H' → RelM G M' H' → ExcIn G M' H' ks ds d → R (.exc cl ks ds) M' → W (.ref cl) d H'
def ExWS (G : Addr → Prop) (M : MM) (H : Hp) (R : D → MM → Prop) (W : WX) : Prop := ∀ cl ks ds d M' σ' H', Ex G M H M' H' → RelM G M' H' → ExcIn G M' H' ks ds d → R (.exc cl ks ds) M' → W (.ref cl) d σ' H'
theorem ExW.ex {G : Addr → Prop} {M M1 : MM} {H H1 : Hp} {R : D → MM → Prop} {W : Value → Option Addr → Hp → Prop} (x : ExW G M H R W) (e : Ex G M H M1 H1) : ExW G M1 H1 R W := fun cl ks ds d M' H' e' => x cl ks ds d M' H' (e.trans e')
theorem ExWS.ex {G : Addr → Prop} {M M1 : MM} {H H1 : Hp} {R : D → MM → Prop} {W : WX} (x : ExWS G M H R W) (e : Ex G M H M1 H1) : ExWS G M1 H1 R W := fun cl ks ds d M' σ' H' e' => x cl ks ds d M' σ' H' (e.trans e')
theorem ExWS.at {G : Addr → Prop} {M : MM} {H : Hp} {R : D → MM → Prop} {W : WX} (x : ExWS G M H R W) (σ : L2.St) : ExW G M H R (fun c d H' => W c d σ H') := fun cl ks ds d M' H' => x cl ks ds d M' σ H'
def liftEX (W : WX) (T : TZ) : TE := fun σ H Q => ∃ G env M Q', RelS G M H env σ ∧ RelM G M H ∧ T env M Q' ∧ (∀ d v M' H', Ex G M H M' H' → RelM G M' H' → Rep G M' H' d v → Q' d M' → Q v H') ∧ ExW G M H Q' (fun c d H' => W c d σ H')
def liftSX (W : WX) (T : TSZ) : TS := fun Dd σ H => ∃ G env M D', RelS G M H env σ ∧ RelM G M H ∧ T D' env M ∧ EndsRel G M H D' Dd ∧ ExWS G M H D'.rt W
abbrev ZEX (X : Cx) (W : WX) (e : Expr) (T : TZ) : Prop := PE X e (liftEX W T)
abbrev ZX (X : Cx) (W : WX) (st : Stmt) (T : TSZ) : Prop := PS X st (liftSX W T)
abbrev ZBX (X : Cx) (W : WX) (sts : List Stmt) (T : TSZ) : Prop := PSs X sts (liftSX W T)
/-- no exception -/
def noExc : D → Prop
  | .exc _ _ _ => False
  | _ => True
theorem noExc_of {G : Addr → Prop} {M : MM} {H : Hp} {d : D} {v : V} (r : Rep G M H d v) : noExc d := by
  cases d with
  | exc _ _ _ => exact r
  | _ => trivial
/-- exceptions go to R, all else goes on -/
def after (R K : D → MM → Prop) : D → MM → Prop := fun d M => match d with
  | .exc cl ks ds => R (.exc cl ks ds) M
  | d => K d M
theorem after_no {R K : D → MM → Prop} {d : D} {M : MM} (n : noExc d) (h : after R K d M) : K d M := by
  cases d with
  | exc _ _ _ => exact n.elim
  | _ => exact h
/-- a promise, its raising way barred -/
def pureOf (g : SpZ) : SpZ := fun ds M Q => g ds M fun d M' => noExc d ∧ Q d M'

section
variable {X : Cx} {W : WX} {st : Stmt} {rest sts sts2 : List Stmt} {t u : TSZ} {e a b c : Expr} {T Ta Tb : TZ} {tt : TTZ} {pos : Pos}
theorem zx_of (h : ZS X st t) : ZX X W st t := PS.wk h fun Dd σ H ⟨G, env, M, D', rs, rm, t, k, _⟩ => ⟨G, env, M, D', rs, rm, t, k⟩
theorem zbx_of (h : ZB X sts t) : ZBX X W sts t := PSs.wk h fun Dd σ H ⟨G, env, M, D', rs, rm, t, k, _⟩ => ⟨G, env, M, D', rs, rm, t, k⟩
theorem zbx_cons (h1 : ZX X W st t) (h2 : ZBX X W rest u) : ZBX X W (st :: rest) (zSeq t u) := PSs.wk (pss_cons h1 h2) fun Dd σ H h => by
  obtain ⟨G, env, M, D', rs, rm, t, k, x⟩ := h
  exact ⟨G, env, M, _, rs, rm, t, ends_nx k fun env' M' σ' H' e' rs' rm' q => ⟨G, env', M', D', rs', rm', q, k.ex e', x.ex e'⟩, x⟩
theorem zbx_one (h1 : ZX X W st t) : ZBX X W [st] t := pss_one h1
theorem zx_if (hc : ZP X c tt) (ha : ZBX X W sts t) (hb : ZBX X W sts2 u) : ZX X W (.If c sts sts2 pos) (zIfS tt t u) := PS.wk (ps_if hc ha hb) fun Dd σ H h => by
  obtain ⟨G, env, M, D', rs, rm, t, k, x⟩ := h
  refine ⟨G, env, M, _, rs, rm, t, fun b M1 H1 e1 rm1 t1 => ?_⟩
  cases b with
  | true => exact ⟨G, env, M1, D', rs.mono e1, rm1, t1, k.ex e1, x.ex e1⟩
  | false => exact ⟨G, env, M1, D', rs.mono e1, rm1, t1, k.ex e1, x.ex e1⟩
/-! expressions that raise, where the way out is a statement's -/
theorem zex_of (h : ZE X e T) : ZEX X W e T := PE.wk h fun σ H Q ⟨G, env, M, Q', rs, rm, t, k, _⟩ => ⟨G, env, M, Q', rs, rm, t, k⟩
theorem zex_if (hc : ZP X c tt) (ha : ZEX X W a Ta) (hb : ZEX X W b Tb) : ZEX X W (.IfExp c a b pos) (zIf tt Ta Tb) := PE.wk (pe_ifExp hc ha hb) fun σ H Q h => by
  obtain ⟨G, env, M, Q', rs, rm, t, k, x⟩ := h
  refine ⟨G, env, M, _, rs, rm, t, fun b M1 H1 e1 rm1 t1 => ?_⟩
  cases b with
  | true => exact ⟨G, env, M1, Q', rs.mono e1, rm1, t1, fun d' v' M' H' e' => k d' v' M' H' (e1.trans e'), x.ex e1⟩
  | false => exact ⟨G, env, M1, Q', rs.mono e1, rm1, t1, fun d' v' M' H' e' => k d' v' M' H' (e1.trans e'), x.ex e1⟩
theorem zx_ret (h : ZEX X W e T) : ZX X W (.Return (some e) pos) (zRet T) := PS.wk (ps_ret h) fun Dd σ H h => by
  obtain ⟨G, env, M, D', rs, rm, t, k, x⟩ := h
  exact ⟨G, env, M, _, rs, rm, t, fun d v M1 H1 e1 rm1 rd t1 => k.2.1 d v M1 H1 e1 rm1 rd t1, x.at σ⟩
def zDropX (T : TZ) : TSZ := fun Dd env M => T env M (after Dd.rt fun _ M1 => Dd.nx env M1)
theorem zx_drop (h : ZEX X W e T) (hs : swapsWith e none pos.line X.env = pure false := by rfl) : ZX X W (.Expr e pos) (zDropX T) := PS.wk (ps_expr h hs) fun Dd σ H h => by
  obtain ⟨G, env, M, D', rs, rm, t, k, x⟩ := h
  exact ⟨G, env, M, _, rs, rm, t, fun d v M1 H1 e1 rm1 rd t1 => k.1 env M1 σ H1 e1 (rs.mono e1) rm1 (after_no (noExc_of rd) t1), fun cl ks ds d M' H' e' rm' xi q => x cl ks ds d M' σ H' e' rm' xi q⟩
def zSetX (i : Nat) (T : TZ) : TSZ := fun Dd env M => T env M (after Dd.rt fun d M1 => Dd.nx (env.set i (some d)) M1)
theorem zx_set (i : Nat) {x : Str} {pos' : Pos} (hN : X.N.Nodup) (he : ZEX X W e T) (hi : X.N[i]? = some x := by rfl) (hx : Loc X.env.scope x := by first | exact Or.inl rfl | exact Or.inr rfl) (hs : swapsWith e (some (.Name x pos')) pos.line X.env = pure false := by rfl)
    (hf : X.fn x = true ∨ X.env.scope.names.lookup x = some .local := by first | exact .inl rfl | exact .inr rfl | assumption) : ZX X W (.Assign [.Name x pos'] e pos) (zSetX i T) := PS.wk (ps_set hN hi hx he hs hf) fun Dd σ H h => by
  obtain ⟨G, env, M, D', rs, rm, t, k, xx⟩ := h
  exact ⟨G, env, M, _, rs, rm, t, fun d v M1 H1 e1 rm1 rd t1 => k.1 _ M1 _ H1 e1 ((rs.mono e1).set rd) rm1 (after_no (noExc_of rd) t1), fun cl ks ds d M' H' e' rm' xi q => xx cl ks ds d M' σ H' e' rm' xi q⟩
theorem zx_while (hp : PassesOwn (model X.prog X.w) X.A X.env X.xe) (hc : ZP X c tt) (hb : ZBX X W sts t) : ZX X W (.While c sts [] pos) (zWhile tt t) := PS.wk (ps_while hp hc hb) fun Dd σ H h => by
  obtain ⟨G, env, M, D', rs, rm, ⟨Wf, ⟨m0, w0⟩, turn⟩, k, x⟩ := h
  refine ⟨fun m σ' H' => ∃ env' M', Ex G M H M' H' ∧ RelS G M' H' env' σ' ∧ RelM G M' H' ∧ Wf m env' M', ⟨m0, env, M, Ex.refl, rs, rm, w0⟩, ?_⟩
  rintro m σ1 H1 ⟨env1, M1, e1, rs1, rm1, w1⟩
  refine ⟨G, env1, M1, _, rs1, rm1, turn m env1 M1 w1, fun b M2 H2 e2 rm2 t2 => ?_⟩
  cases b with
  | true =>
    refine ⟨fun σ' H' => ∃ m', m' < m ∧ ∃ env' M', Ex G M H M' H' ∧ RelS G M' H' env' σ' ∧ RelM G M' H' ∧ Wf m' env' M', fun σ' H' q => q, ?_⟩
    have e12 := e1.trans e2
    have again : ∀ env' M' σ' H', Ex G M2 H2 M' H' → RelS G M' H' env' σ' → RelM G M' H' → (∃ m', m' < m ∧ Wf m' env' M') → ∃ m', m' < m ∧ ∃ env' M', Ex G M H M' H' ∧ RelS G M' H' env' σ' ∧ RelM G M' H' ∧ Wf m' env' M' :=
      fun env' M' σ' H' e' rs' rm' ⟨m', hm, w'⟩ => ⟨m', hm, env', M', e12.trans e', rs', rm', w'⟩
    have kk := k.ex e12
    exact ⟨G, env1, M2, _, rs1.mono e2, rm2, t2, ⟨again, kk.2.1, kk.1, again⟩, x.ex e12⟩
  | false => exact k.1 env1 M2 σ1 H2 (e1.trans e2) (rs1.mono e2) rm2 t2
end
section
variable {X : Cx} {W : WX} {tg iter : Expr} {body : List Stmt} {tb : TSZ} {wi : TIZ} {t : Tg} {pos : Pos}
theorem zx_for (hp : PassesOwn (model X.prog X.w) X.A X.env X.xe) (hc : X.calm = true) (hi : ZI X tg iter wi) (hg : ZG X tg t) (hb : ZBX X W body tb)
    (hs : ∀ x, foldedSetIterable iter X.env x = pure x := by intro _; rfl) : ZX X W (.For tg iter body [] pos) (zFor wi t tb) := PS.wk (ps_for hp hc hi hg hb hs) fun Dd σ H h => by
  obtain ⟨G, env, M, D', rs, rm, t0, k, x⟩ := h
  refine ⟨G, env, M, _, rs, rm, t0, fun J xs chk M1 H1 e1 rm1 hz it ck t1 => ?_⟩
  refine ⟨fun i m σ' H' => ∃ env' M', m = xs.length - i ∧ i ≤ xs.length ∧ Ex G M1 H1 M' H' ∧ RelS G M' H' env' σ' ∧ RelM G M' H' ∧ chk M' ∧ forGo chk t tb (xs.drop i) D' env' M', ⟨_, env, M1, rfl, Nat.zero_le _, Ex.refl, rs.mono e1, rm1, ck, t1⟩, ?_⟩
  rintro i m σ2 H2 ⟨env2, M2, rfl, hi2, e2, rs2, rm2, ck2, t2⟩
  have q := it G M2 H2 i (fun _ _ _ g => g) e2.1 rm2 ck2
  by_cases hlt : i < xs.length
  · obtain ⟨go, yl⟩ := q.1 hlt
    refine .inr ⟨go, fun σ' H' => ∃ env' M', i + 1 ≤ xs.length ∧ Ex G M1 H1 M' H' ∧ RelS G M' H' env' σ' ∧ RelM G M' H' ∧ chk M' ∧ forGo chk t tb (xs.drop (i + 1)) D' env' M', ?_, ?_⟩
    · rintro σ' H' ⟨env', M', h1, h2⟩
      exact ⟨xs.length - (i + 1), by omega, env', M', rfl, h1, h2⟩
    · intro x' H3 hy
      obtain ⟨ea, eg, rm3, d, hd, rd⟩ := yl x' H3 hy
      have e3 : Ex G M2 H2 M2 H3 := ⟨ea, eg⟩
      have hdr : xs.drop i = d :: xs.drop (i + 1) := by
        have h1 := List.getElem?_eq_some_iff.mp hd
        obtain ⟨h1, h2⟩ := h1
        rw [List.drop_eq_getElem_cons h1, h2]
      rw [hdr] at t2
      simp only [forGo] at t2
      split at t2
      · next env3 hb3 =>
        refine gOf_ok t env2 σ2 d x' env3 (rs2.mono e3) rd hb3 _ fun σ3 rs3 _ => ?_
        have again : ∀ env' M' σ' H', Ex G M2 H3 M' H' → RelS G M' H' env' σ' → RelM G M' H' → (chk M' ∧ forGo chk t tb (xs.drop (i + 1)) D' env' M') → ∃ env' M', i + 1 ≤ xs.length ∧ Ex G M1 H1 M' H' ∧ RelS G M' H' env' σ' ∧ RelM G M' H' ∧ chk M' ∧ forGo chk t tb (xs.drop (i + 1)) D' env' M' :=
          fun env' M' σ' H' e' rs' rm' ⟨c1, c2⟩ => ⟨env', M', hlt, (e2.trans e3).trans e', rs', rm', c1, c2⟩
        have kk := k.ex ((e1.trans e2).trans e3)
        exact ⟨G, env3, M2, _, rs3, rm3, t2, ⟨again, kk.2.1, kk.1, again⟩, x.ex ((e1.trans e2).trans e3)⟩
      · exact t2.elim
  · refine .inl ⟨q.2 (by omega), ?_⟩
    rw [List.drop_of_length_le (by omega)] at t2
    exact k.1 env2 M2 σ2 H2 (e1.trans e2) rs2 rm2 t2
end
/-! ### raise C('m') -/
def zRaise (C : Addr) : TSZ := fun Dd _ M => Dd.rt (.exc C [] []) M
/-- what is known of a class of errors -/
structure ErrC (K : PySem.W.Frag) (mg : Str → Option Value) (x : Str) (C : Addr) : Prop where
  mg : mg x = some (.ref C)
  keep : PySem.W.keepIn K (.ref C) = true
  sub : PySem.W.subIn K (.ref C) (.type "BaseException") = some true
  ty : PySem.W.typeIn K (.ref C) = some (.type "type")
theorem zx_raise {X : Cx} {W : WX} {C : Addr} {bmB : List Value} {B newId initId : String} {x m : Str} {j : Nat} {p p2 pos pos' : Pos} (hc : X.calm = true) (tk : Takes X W) (F : ExcBaseFacts B newId initId bmB) (E : ErrC X.K X.mg x C) (q : PySem.W.excIn X.K C bmB newId = true) (hg : Gl X x := by rfl)
    (hdb : (x == ("__debug__" : Str)) = false := by decide) : ZX X W (.Raise (some (.Call (.Name x p) [.Constant (.str m) j p2] [] pos)) none pos') (zRaise C) :=
  PS.wk (ps_raise hc tk (pmk_own F q E.mg E.keep (raises_own E.sub E.ty) hg hdb)) fun Dd σ H h => by
    obtain ⟨G, env, M, D', rs, rm, t, k, xx⟩ := h
    exact xx C [] [] none M σ H Ex.refl rm ⟨[], rfl, rfl, rfl⟩ t
/-! ### defs that raise -/
def liftSpX (n : Nat) (g : SpZ) : Sp := fun vs H Q E => ∃ G ds M Q', ds.length = n ∧ RelM G M H ∧ Reps G M H ds vs ∧ g ds M Q' ∧ (∀ d v M' H', Ex G M H M' H' → RelM G M' H' → Rep G M' H' d v → Q' d M' → Q v H') ∧ ExW G M H Q' E
structure Fx (P : Program) (w : World) (K : PySem.W.Frag) (mg : Str → Option Value) (base : Heap) (k : Nat) (x : Str) (n : Nat) (g : SpZ) : Prop where
  ex : ∃ (f : Addr) (fd : FuncData) (ps : List Str), FnG P w K mg base (L2.CX P w) k f fd ps (liftSpX n g) ∧ mg x = some (.ref f) ∧ PySem.W.keepIn K (.ref f) = true ∧ Binds K fd ps []
section
variable {X : Cx} {W : WX} {e : Expr} {es : List Expr} {pos p : Pos} {T : TAZ} {x : Str} {n j k : Nat} {g : SpZ}
theorem passLA {X : Cx} (σ : L2.St) : PassesAt (L2.CX X.prog X.w) X σ E0 := fun pins H s e s' => passL pins σ H s e s'
theorem q_callP (F : Fx X.prog X.w X.K X.mg X.base j x n g) (hr : RoomG k X.A) (ha : ZA X (e :: es) T) (hj : j ≤ k := by decide) (hg : Gl X x := by rfl) (hdb : (x == ("__debug__" : Str)) = false := by decide)
    (he : starEach (e :: es) X.env = (false, eval e X.env) :: starEach es X.env := by rfl) (hpl : (backTo pos (starEach es X.env)).any (·.1) = false := by rfl) : ZE X (.Call (.Name x p) (e :: es) [] pos) (zFn n (pureOf g) T) := by
  obtain ⟨f, fd, ps, G, hm, hk, hb⟩ := F.ex
  refine PE.wk (pe_callG (E := fun _ => E0) G (hr.mono hj) hg hm hk hb passLA ha hdb he hpl) fun σ H Q h => ?_
  obtain ⟨G, env, M, Q', rs, rm, t, kk⟩ := h
  refine ⟨G, env, M, _, rs, rm, t, fun ds vs M1 H1 e1 rm1 rds ⟨hl, t1⟩ => ?_⟩
  exact ⟨G, ds, M1, _, hl, rm1, rds, t1, fun d v M' H' e' rm' rd' q => kk d v M' H' (e1.trans e') rm' rd' q.2, fun cl ks ds d M' H' e' rm' xi q => q.1.elim⟩
/-- called where it may raise -/
theorem q_callX (tk : Takes X W) (F : Fx X.prog X.w X.K X.mg X.base j x n g) (hr : RoomG k X.A) (ha : ZA X (e :: es) T) (hj : j ≤ k := by decide) (hg : Gl X x := by rfl) (hdb : (x == ("__debug__" : Str)) = false := by decide)
    (he : starEach (e :: es) X.env = (false, eval e X.env) :: starEach es X.env := by rfl) (hpl : (backTo pos (starEach es X.env)).any (·.1) = false := by rfl) : ZEX X W (.Call (.Name x p) (e :: es) [] pos) (zFn n g T) := by
  obtain ⟨f, fd, ps, G, hm, hk, hb⟩ := F.ex
  refine PE.wk (pe_callG (E := WE W) G (hr.mono hj) hg hm hk hb (fun σ => passAt tk σ) ha hdb he hpl) fun σ H Q h => ?_
  obtain ⟨G, env, M, Q', rs, rm, t, kk, xx⟩ := h
  refine ⟨G, env, M, _, rs, rm, t, fun ds vs M1 H1 e1 rm1 rds ⟨hl, t1⟩ => ?_⟩
  exact ⟨G, ds, M1, Q', hl, rm1, rds, t1, fun d v M' H' e' => kk d v M' H' (e1.trans e'), xx.ex e1⟩
end
/-- behind a body: what is told of the result in other words -/
def PostX (Q : D → MM → Prop) : D → MM → Prop := fun d M => match d with
  | .exc cl ks ds => ∃ M', Shift M M' ∧ Q (.exc cl ks ds) M'
  | d => Post Q d M
theorem PostX.post {Q : D → MM → Prop} {d : D} {M : MM} (n : noExc d) (h : Post Q d M) : PostX Q d M := by
  cases d with
  | exc _ _ _ => exact n.elim
  | _ => exact h
theorem PostX.of {Q : D → MM → Prop} {d : D} {M : MM} (n : noExc d) (h : PostX Q d M) : Post Q d M := by
  cases d with
  | exc _ _ _ => exact n.elim
  | _ => exact h
theorem PostX.self {Q : D → MM → Prop} {d : D} {M : MM} (h : Q d M) : PostX Q d M := by
  cases d with
  | exc _ _ _ => exact ⟨M, .refl, h⟩
  | _ => exact Post.self h
section
variable {P : Program} {w : World} {K : PySem.W.Frag} {mg : Str → Option Value} {base : Heap}
theorem fx_of {x : Str} {st : Stmt} {f : Addr} {fd : FuncData} {N ps : List Str} {n k : Nat} {g : SpZ} {T : TSZ} (F : Fun K x x st f fd) (S : FnScope N ps (defScope st)) (hm : mg x = some (.ref f))
    (hb : ∀ (kV doc pm : Value) (an : Option Addr) (cdv ct : Value) (us : List Value), us.length = ps.length → bindArgs (PySem.W.fnOf x x (defArgs st) (defBody st) (defScope st) .none kV doc pm an cdv ct) ⟨us, []⟩ = pure (ps.zip us)) (hn : ps.length = n)
    (hbody : ∀ (cdv : Value) (A : Around) (outer : List Env) (s : Shared) (H : Hp) (E : XK), fd.code = cdv → RoomG k (A.deeper (envOfC x (defScope st) s.heap.objs.size f cdv)) → Takes (cxOf (L2.CX P w) P w K mg base N x (defScope st) f cdv A outer s H E) (fun cls d _ H' => E cls d H') →
      ZBX (cxOf (L2.CX P w) P w K mg base N x (defScope st) f cdv A outer s H E) (fun cls d _ H' => E cls d H') (defBody st) T)
    (hread : ∀ ds M Q, ds.length = n → g ds M Q → T { nx := fun _ M' => PostX Q .non M', rt := PostX Q } (startZ N.length ds) M) : Fx P w K mg base (k + 1) x n g := by
  refine ⟨f, fd, ps, fnG_of F S (fun vs H Q E h => ?_) (fun cdv A outer s H vs Q E hcd hr h => ?_), hm, F.kp, F.binds hb⟩
  · obtain ⟨G, ds, M, Q', hl, rm, r, _⟩ := h
    rw [← r.length, hl, hn]
  · obtain ⟨G, ds, M, Q', hl, rm, r, hg, kk, xx⟩ := h
    have t := hread ds M Q' hl hg
    refine ⟨_, hbody cdv A outer s H E hcd hr (takes_of rfl rfl rfl rfl), G, startZ N.length ds, M, _, relS_start r, rm, t, ⟨?_, ?_, ?_, ?_⟩, ?_⟩
    · rintro env M' σ H' e rs rm' q
      obtain ⟨d', M2, c, q⟩ : Post Q' .non M' := q
      obtain ⟨e2, rm2, r2⟩ := c G H' .non rm' rfl
      exact kk d' .non M2 H' (e.trans e2) rm2 r2 q
    · rintro d v M' H' e rm' rd q
      obtain ⟨d', M2, c, q⟩ := PostX.of (noExc_of rd) q
      obtain ⟨e2, rm2, r2⟩ := c G H' v rm' rd
      exact kk d' v M2 H' (e.trans e2) rm2 r2 q
    · intro _ _ _ _ _ _ _ h; exact h.elim
    · intro _ _ _ _ _ _ _ h; exact h.elim
    · rintro cl ks ds' d M' σ' H' e rm' xi ⟨M2, s2, q⟩
      obtain ⟨e2, rm2⟩ := s2 G H' rm'
      exact xx cl ks ds' d M2 H' (e.trans e2) rm2 (xi.mono e2) q
end
end Zz

set_option Elab.async false
set_option linter.all false
set_option maxRecDepth 100000
set_option maxHeartbeats 2000000
/-! Z18: a try whose caught error is kept; lambdas; the catcher. -/
namespace Zz
open PySem PySem.Spec PyProof.Rows L2

section
variable {X : Cx} {pins : List (Addr × Obj)} {σ : L2.St} {H : Hp} {s : Shared}
theorem unsuiteK {a : Addr} {q : Addr × Obj} {pn' : List (Addr × Obj)} (I : Inv (X.suite a (q :: (X.pn ++ pins))) pn' σ H s) (ok : X.Ok) : Inv X (q :: pins) σ H s :=
  ⟨ok, I.os, I.bare, I.base, I.loc, I.cell, I.free, I.freeC, fun p hp => I.pin p (List.mem_append_left _ (by
    rcases List.mem_append.mp hp with h | h
    · exact List.mem_cons_of_mem _ (List.mem_append_left _ h)
    · rcases List.mem_cons.mp h with e | h
      · rw [e]; exact List.mem_cons_self
      · exact List.mem_cons_of_mem _ (List.mem_append_right _ h))), I.hok, I.len⟩
/-- an object that a pin holds, made here, is tracked from now on -/
theorem adopt {a : Addr} {oe : Obj} {φ : Heap → Prop} (I : Inv X ((a, oe) :: pins) σ H s) (hx : X.s_0.heap.get? a = none) (hp : ∀ p ∈ X.pn ++ pins, p.1 ≠ a) (hφ : φ s.heap) (hs : ∀ h1 h2 : Heap, φ h1 → (∀ o, h1.get? a = some o → h2.get? a = some o) → φ h2) : Inv X pins σ (upd H a (.ext φ)) s := by
  obtain ⟨e, n, nL, nF, nc⟩ := I.pin (a, oe) (List.mem_append_right _ List.mem_cons_self)
  have n : H a = none := n
  have e : s.heap.get? a = some oe := e
  have ne0 : ∀ {b : Addr} {o : Obj}, X.s_0.heap.get? b = some o → b ≠ a := fun q z => by rw [z, hx] at q; cases q
  have neH : ∀ {b : Addr} {o : HO}, H b = some o → b ≠ a := fun q z => by rw [z, n] at q; cases q
  refine ⟨I.ok, I.os, I.bare, ⟨I.base.keep, I.base.slot, fun b o q h1 h2 => ?_, I.base.there, fun b xs q => ?_, fun b o u q => ?_, fun b ps q => ?_⟩, I.loc, I.cell, ?_, fun x c q => ?_, fun p hm => ?_, I.hok.laidN (fun _ _ q => q) n ⟨hφ, ⟨oe, e⟩, hs⟩, I.len⟩
  · rw [upd_ne (ne0 q)]; exact I.base.free b o q h1 h2
  · have := I.base.tups b xs q; rw [upd_ne (neH this)]; exact this
  · have := I.base.frzs b o u q; rw [upd_ne (neH this)]; exact this
  · obtain ⟨more, this⟩ := I.base.tbls b ps q
    exact ⟨more, by rw [upd_ne (neH this)]; exact this⟩
  · rw [upd_ne fun z => nL z.symm]; exact I.free
  · have hc : c ≠ a := fun z => by
      obtain ⟨v, o, ho, hd⟩ := I.cell x c q
      rw [z, e] at ho; cases ho
      exact nc v hd
    rw [upd_ne hc]; exact I.freeC x c q
  · obtain ⟨q1, q2, q3⟩ := I.pin p (by
      rcases List.mem_append.mp hm with h | h
      · exact List.mem_append_left _ h
      · exact List.mem_append_right _ (List.mem_cons_of_mem _ h))
    exact ⟨q1, by rw [upd_ne (hp p hm)]; exact q2, q3⟩
end
/-- the wish of 'except x as n', the error kept behind the suite -/
def wKeep (K : PySem.W.Frag) (c : Value) (len i : Nat) (ts : Addr → TS) (Wout : WX) (D : Ends) : WX := fun cls d σ H =>
  σ.length = len → ∃ b, PySem.W.exmOne K cls c = some b ∧ (b = true → ∃ cl, cls = .ref cl ∧ ∀ a, H a = none → ts a { nx := fun σ' H' => H' a = none → D.nx (σ'.set i none) (upd H' a (ErrO cl d a)), rt := fun _ _ => False } (σ.set i (some (.ref a))) H) ∧ (b = false → Wout cls d σ H)
section
variable {X : Cx} {x n : Str} {c : Value} {i : Nat} {body suite : List Stmt} {b₀ : Stmt} {np pos pos' : Pos} {tb : WX → TS} {ts : Addr → TS} {Wout : WX}
theorem ps_try_keep (hs : X.stack = X.env :: X.outer) (hf : X.env.frame = some X.env.locals) (hex : X.ex = []) (hN : X.N.Nodup) (hi : X.N[i]? = some n) (hln : X.env.kindOf n = some .local) (hc : Names X x c) (tk : Takes X Wout)
    (hb : ∀ (W : WX) (pn : List (Addr × Obj)) (xe : Value → Shared → Prop), Takes (X.tr pn xe) W → PassesOwn (model X.prog X.w) X.A X.env xe → PSs (X.tr pn xe) body (tb W))
    (hsu : ∀ (a : Addr) (oe : Obj) (pn : List (Addr × Obj)), PSs (X.suite a ((a, oe) :: pn)) (b₀ :: suite) (ts a)) :
    PS X (.Try body [.ExceptHandler (some (.Name x np)) (some n) (b₀ :: suite) pos'] [] [] pos) (fun D σ H => tb (wKeep X.K c X.N.length i ts Wout D) D σ H) := by
  refine ⟨fun pins s σ H D I h => ?_⟩
  have ok := I.ok
  have hfr : X.A.frames = some (X.env :: X.outer) := by rw [ok.frames, hs]
  have hloc : Loc X.env.scope n := .inl hln
  refine wpAny_Try_except ?_
  refine wpAny_mono ((hb (wKeep X.K c X.N.length i ts Wout D) (X.pn ++ pins) (fun e s₁ => wpAny (model X.prog X.w) X.A (noteFrame e X.env) (fun _ s₂ => wpAny (model X.prog X.w) X.A (setFlight e none) (fun _ s₃ =>
    wpAny (model X.prog X.w) X.A (handleBy e X.env [.ExceptHandler (some (.Name x np)) (some n) (b₀ :: suite) pos']) (SP X pins D) X.xe s₃) X.xe s₂) X.xe s₁) (fun u s' xx => ?_) PassesOwn.looking).run [] s σ H D (I.toTry _) h) (fun f s1 hsp => ?_) (fun e s1 he => he)
  · obtain ⟨a, B, sI, pins', σ', H', cls, d, rfl, J', nb, up, sky, na, os, ag, ww⟩ := xx
    obtain ⟨b, hb1, hyes, hno⟩ := ww J'.len
    have J : Inv X pins σ' H' sI := J'.ofTry ok
    have sky' : Sky B (X.env :: X.outer) a (Zc cls d) X.env.locals s'.heap := by rw [← hs]; exact sky
    show wpAny (model X.prog X.w) X.A (noteFrame (.ref a) X.env) _ _ _
    refine Sky.land Zc.steady hfr hf sky' fun h3 fl3 up3 => ?_
    have J3 : Inv X pins σ' H' { s' with heap := h3 } := J.landed nb fl3.1 (up.trans up3) os ag
    obtain ⟨oe3, vs3, he3, hz3, hd3⟩ := fl3.there
    have nfr : a ∉ frs (X.env :: X.outer) := fun hm => by
      obtain ⟨_, o', e', hnf⟩ := fl3.2.2.1.mem hm
      rw [he3] at e'; cases e'
      exact hnf _ hd3
    have nL : a ≠ X.env.locals := fun z => nfr (List.mem_filterMap.mpr ⟨X.env, List.mem_cons_self, by rw [hf, z]⟩)
    have nF : a ∉ X.fs := fun hm => by
      obtain ⟨e, he, q⟩ := List.mem_filterMap.mp hm
      exact nfr (List.mem_filterMap.mpr ⟨e, List.mem_cons_of_mem _ he, q⟩)
    have nI : sI.heap.get? a = none := by
      cases q : sI.heap.get? a with
      | none => rfl
      | some o =>
        have := nb a o q (by rw [hs]; exact nfr)
        rw [fl3.2.1] at this; cases this
    have n0 : X.s_0.heap.get? a = none := by
      cases q : X.s_0.heap.get? a with
      | none => rfl
      | some o =>
        obtain ⟨o', q'⟩ := J.base.there a o q (by rw [hex]; exact fun z => nomatch z)
        rw [nI] at q'; cases q'
    have nP : ∀ p ∈ X.pn ++ pins, p.1 ≠ a := fun p hp z => by
      have := (J.pin p hp).1
      rw [z, nI] at this; cases this
    have S3 := J3.suite he3 hd3 na nL nF
    refine wpAny_handleBy_cons (codeAny_handlers_test ?_) (by intro q; cases q)
    have LT : PySem.W.Looks (model X.prog X.w) h3 (typeOf (.ref a)) cls := fun A Q E s k q => wpAny_typeOf_ref (k _ _ he3) (by rw [hz3.1]; exact q)
    have LM := PySem.W.exm_one (M := model X.prog X.w) (J3.kIn) LT hb1
    have test : ∀ {Q : Value → Shared → Prop} {E : Value → Shared → Prop}, Q c { s' with heap := h3 } → wpAny (model X.prog X.w) (X.A.mark (some (.ref a))) (eval (.Name x np) X.env) Q E { s' with heap := h3 } := fun {Q E} q => by
      obtain ⟨hg, hdbg, hm | ⟨hm, hv, hnn⟩⟩ := hc
      · exact ld_glob (X := X.suite a ((a, oe3) :: (X.pn ++ pins))) S3 hg hm q hdbg
      · exact ld_blt (X := X.suite a ((a, oe3) :: (X.pn ++ pins))) S3 hg hm hv q hnn hdbg
    refine test (LM.here ?_)
    cases b with
    | true =>
      refine codeAny_handlers_suite_as ?_
      refine HandSPX.lands_againZ fl3 fun h4 fl4 up4 => ?_
      have J4 : Inv X pins σ' H' { s' with heap := h4 } := J.landed nb fl4.1 ((up.trans up3).trans up4) os ag
      obtain ⟨oe4, vs4, he4, hz4, hd4⟩ := fl4.there
      have S4 := J4.suite he4 hd4 na nL nF
      obtain ⟨cl, ecl, hyes⟩ := hyes rfl
      refine store_ok (X := X.suite a ((a, oe4) :: (X.pn ++ pins))) (v := .ref a) S4 hN hi hloc rfl (fun s5 S5 => ?_) (.inr hln)
      refine wpAny_mono ((hsu a oe4 (X.pn ++ pins)).run [] s5 _ H' _ S5 (hyes a na)) (fun f s6 hsp => ?_) (fun _ _ z => False.elim z)
      have end_ : ∀ {σ6 : L2.St} {H6 : Hp} {Q : Shared → Prop}, Inv (X.suite a ((a, oe4) :: (X.pn ++ pins))) [] σ6 H6 s6 → (∀ s7, H6 a = none → Inv X pins (σ6.set i none) (upd H6 a (ErrO cl d a)) s7 → Q s7) →
          wpAny (model X.prog X.w) X.A (do bindName X.env n .none; unbindBehindTheSuite X.env n pos') (fun _ s7 => Q s7) X.xe s6 := fun {σ6 H6 Q} S6 hq => gone_ok (unsuiteK S6 ok) hN hi hln fun s7 I7 => by
        obtain ⟨e7, n7, _⟩ := I7.pin (a, oe4) (List.mem_append_right _ List.mem_cons_self)
        refine hq s7 n7 (adopt I7 n0 nP ⟨oe4, vs4, e7, ?_, hd4⟩ fun h1 h2 ⟨o, vs, q1, q2, q3⟩ k => ⟨o, vs, k o q1, q2, q3⟩)
        rw [← ecl]; exact hz4
      cases f with
      | next =>
        obtain ⟨σ6, H6, S6, q6⟩ := hsp
        exact end_ S6 fun s7 n7 J7 => ⟨_, _, J7, q6 n7⟩
      | brk =>
        obtain ⟨σ6, H6, S6, q6⟩ := hsp
        exact q6.elim
      | cont =>
        obtain ⟨σ6, H6, S6, q6⟩ := hsp
        exact q6.elim
      | ret u =>
        obtain ⟨v6, σ6, H6, S6, r6, q6⟩ := hsp
        exact q6.elim
    | false =>
      show wpAny _ X.A (handleBy (.ref a) X.env []) _ _ _
      refine wpAny_handleBy_nil ?_
      obtain ⟨k1, k2, k3, oe, vs, T, oT, ts', he, hz, hd, h1, hr⟩ := id fl3
      unfold PySem.passOn
      refine wpAny_bind (wpAny_field he hd h1 ?_)
      rw [if_neg (show ¬ ((Value.ref T == Value.none) = true) from by simp)]
      have fin : wpAny (model X.prog X.w) X.A (setFlight (.ref a) X.env.frame) (fun _ s4 => wpAny (model X.prog X.w) X.A (throw (.ref a) : Sem Flow) (SP X pins D) X.xe s4) X.xe { s' with heap := h3 } := by
        rw [hf]
        refine HandSPX.setFlight_upZ fl3 fun h4 hh4 up4 => wpAny_throw (tk _ _ ?_)
        exact ⟨a, B, sI, pins, σ', H', cls, d, rfl, J, nb, (up.trans up3).trans up4, .inr (.inr (by rw [hs]; exact hh4)), na, os, ag, hno rfl⟩
      first
        | exact wpAny_bind (wpAny_pure (wpAny_bind fin))
        | exact wpAny_bind fin
  · cases f with
    | next =>
      obtain ⟨σ', H', J', q⟩ := hsp
      exact wpAny_execs_nil ⟨σ', H', J'.ofTry ok, q⟩
    | brk =>
      obtain ⟨σ', H', J', q⟩ := hsp
      exact ⟨σ', H', J'.ofTry ok, q⟩
    | cont =>
      obtain ⟨σ', H', J', q⟩ := hsp
      exact ⟨σ', H', J'.ofTry ok, q⟩
    | ret u =>
      obtain ⟨v, σ', H', J', r, q⟩ := hsp
      exact ⟨v, σ', H', J'.ofTry ok, r, q⟩
end
end Zz

set_option Elab.async false
set_option linter.all false
set_option maxRecDepth 100000
set_option maxHeartbeats 2000000
/-! Z19: the catcher: n = None; try: a() except c as e: n = e; return n. -/
namespace Zz
open PySem PySem.Spec PyProof.Rows L2 LamX

/-- what the catcher makes of the work's promise -/
def TTc (K : PySem.W.Frag) (CE : Addr) : (XK → Hp → VK → Prop) → Hp → VK → Prop := fun tl H Q =>
  tl (fun cls d H' => PySem.W.exmOne K cls (.ref CE) = some true ∧ ∃ cl, cls = .ref cl ∧ ∀ a, H' a = none → Q (.ref a) (upd H' a (ErrO cl d a))) H (fun _ H' => ∃ v : V, some (some V.non) = some (some v) ∧ Q v H')
theorem caught_gives {X : Cx} {x a e n ex q : Str} {sg : Scope} {g CE : Addr} {cdg : Value} {j : Nat} {p0 p1 p2 p3 p4 p5 p6 p7 p8 p9 p10 p11 p12 p13 : Pos} (S : FnScope [a, n, e] [a] sg)
    (hge : sg.names.lookup ex = some .globalImplicit) (hme : X.mg ex = some (.ref CE)) (hde : (ex == ("__debug__" : Str)) = false) (hdn : (n == ("__debug__" : Str)) = false) (hcn : (n == ("__classdict__" : Str)) = false) (hdv : (e == ("__debug__" : Str)) = false) (hcv : (e == ("__classdict__" : Str)) = false)
    (ln : sg.names.lookup n = some .local) (le : sg.names.lookup e = some .local) :
    GivesTo X [a, n, e] x sg g cdg [.Assign [.Name n p0] (.Constant .none j p1) p2, .Try [.Expr (.Call (.Name a p3) [] [] p4) p5] [.ExceptHandler (some (.Name ex p6)) (some e) [.Assign [.Name n p7] (.Name e p8) p9] p10] [] [] p11, .Return (some (.Name n p12)) p13] a q (TTc X.K CE) := by
  intro f c' s H Q tl act hc h
  have hgl : Gl (cxOf C8.CX0 X.prog X.w X.K X.mg X.base [a, n, e] x sg g cdg X.A X.stack s H C8.E0).nox ex := hge
  refine ⟨_, pss_cons (ps_set (i := 1) S.nd rfl (.inl ln) pe_non rfl (.inr ln)) (pss_cons (ps_try_keep (X := (cxOf C8.CX0 X.prog X.w X.K X.mg X.base [a, n, e] x sg g cdg X.A X.stack s H C8.E0).nox) (i := 2) (c := .ref CE)
      (tb := fun W D σ H => ∃ Ech : XK, (∀ cls d σ' H', Ech cls d H' → W cls d σ' H') ∧ σ[0]? = some (some (.ref f)) ∧ H c' = some (CodeO c' q) ∧ tl Ech H (fun _ H1 => D.nx σ H1)) (ts := fun _ => tAsg (tVar 2) (gName 1))
      rfl rfl rfl S.nd rfl le ⟨hgl, hde, .inl hme⟩ L2.takes0 (fun W pn xe tk _ => ?_) (fun a' oe pn => pss_one (ps_set (i := 1) S.nd rfl (.inl ln) (pe_var (i := 2) rfl (.inl le) hdv hcv) rfl (.inr ln))))
      (pss_one (ps_ret (pe_var (i := 1) rfl (.inl ln) hdn hcn)))), ?_⟩
  · refine ⟨fun pins s' σ H' D I h' => ?_⟩
    obtain ⟨Ech, hW, h1, h2, h3⟩ := h'
    have hp := act W pn xe Ech p3 p4 tk hW
    have hq := pss_one (ps_expr (pos := p5) hp)
    exact hq.run pins s' σ H' D I ⟨h1, h2, h3⟩
  · refine ⟨_, fun cls d σ' H' hE hl => ?_, rfl, hc, h⟩
    obtain ⟨e1, cl, rfl, e2⟩ := hE
    have hl : σ'.length = 3 := hl
    refine ⟨true, e1, fun _ => ⟨cl, rfl, fun b hb => ⟨.ref b, ?_, fun hn => ⟨.ref b, ?_, e2 b hb⟩⟩⟩, fun z => nomatch z⟩
    · rw [List.getElem?_set_self (by omega)]
    · rw [List.getElem?_set_ne (by decide), List.getElem?_set_self (by rw [List.length_set]; omega)]
end Zz

set_option Elab.async false
set_option linter.all false
set_option maxRecDepth 100000
set_option maxHeartbeats 2000000
/-! Z20: a lambda handed to the catcher. -/
namespace Zz
open PySem PySem.Spec PyProof.Rows L2 LamX

section
variable {X : Cx} {pins : List (Addr × Obj)} {σ : L2.St} {H : Hp} {s : Shared}
/-- what the making of a lambda leaves of the tracked heap -/
def Made (H : Hp) (P : Addr) (ps : Array Value) (pos : Pos) (q : Str) (c' : Addr) (H1 : Hp) : Prop := (H1 = H ∧ H c' = some (CodeO c' q)) ∨ (H c' = none ∧ H1 = upd (upd H P (.tbl (ps ++ #[rawInt pos.line, rawInt pos.col, .ref c']))) c' (CodeO c' q))
theorem Made.at {P c' : Addr} {ps : Array Value} {pos : Pos} {q : Str} {H1 : Hp} (m : Made H P ps pos q c' H1) : H1 c' = some (CodeO c' q) := by
  rcases m with ⟨rfl, h⟩ | ⟨_, rfl⟩
  · exact h
  · exact upd_same
theorem lam_own {c P : Addr} {params : Arguments} {body : Expr} {scope : Scope} {pos : Pos} {ps : Array Value} {E : Value → Shared → Prop} {Q : Value → Shared → Prop} (I : Inv X pins σ H s) (TB : TabB X.base X.mg c P) (hcode : X.env.code = .ref c) (hP : H P = some (.tbl ps)) (ht : TriplesOk ps.toList)
    (ha : ∀ (pos : Pos) (cv : Value), codeAmong pos ps.toList = some cv → ∃ c, cv = .ref c ∧ H c = some (CodeO c (X.env.qual ++ "<lambda>"))) (hdef : defaultsOf params X.env = ([], [])) (hfree : ∀ y ∈ scope.names, y.2 = .free → ∃ c, X.env.cells.lookup y.1 = some c)
    (h : ∀ (f c' : Addr) (pm ctv : Value) (H1 : Hp) (s' : Shared), Inv X pins σ H1 s' → Made H P ps pos (X.env.qual ++ "<lambda>") c' H1 →
      s'.heap.get? f = some (PySem.W.kla_obj "<lambda>" (X.env.qual ++ "<lambda>") params body scope (cloFrom X.env.cells scope.names []) pm c' ctv) → H1 f = none → f ∉ frs X.stack → Q (.ref f) s') :
    wpAny (model X.prog X.w) X.A (eval (.Lambda params body scope pos) X.env) Q E s := by
  have far : ∀ f : Addr, s.heap.objs.size ≤ f → f ∉ frs X.stack := fun f hf z => by
    rcases List.mem_cons.mp (I.stkSub _ z) with e | e
    · have l := I.lt
      rw [← e] at l
      exact absurd l (Nat.not_lt.mpr hf)
    · exact I.nofs hf e
  have there : s.heap.get? P = some { cls := .none, data := .fields ps } := I.hok P _ hP
  refine PySem.W.kla_eval hdef ?_
  match hc : codeAmong pos ps.toList with
  | some cv =>
    obtain ⟨c', rfl, hco⟩ := ha pos cv hc
    refine PySem.W.kla_makeFunctionHit (mg := X.mg) (c := c) (P := P) (ps := ps) (closure_ok hfree) I.ok.glob (I.mod.glob.keeps I.bk) hcode (TB.code.keeps I.bk) there ht hc (TB.bm.keeps I.bk) fun ctv h' tk hx hsz => ?_
    refine h h'.objs.size c' ((X.mg "__name__").getD .none) ctv H _ ?_ (.inl ⟨rfl, hco⟩) (Heap.get?_push_size _ rfl) (I.hok.fresh hsz) (far _ hsz)
    exact I.kept fun b o e => Heap.get?_push_of_some _ (hx b o e)
  | none =>
    refine PySem.W.kla_makeFunction (mg := X.mg) (c := c) (P := P) (ps := ps) (closure_ok hfree) I.ok.glob (I.mod.glob.keeps I.bk) hcode (TB.code.keeps I.bk) there ht hc TB.gP (TB.bm.keeps I.bk) fun c' ctv h' tk hx hge hlt hrec htb => ?_
    obtain ⟨_, oc, vs, t, e2, hoc, hd, hv⟩ := hrec
    cases e2
    have hsz : s.heap.objs.size ≤ h'.objs.size := Nat.le_trans hge (Nat.le_of_lt hlt)
    have nP : h'.objs.size ≠ P := Nat.ne_of_gt (Nat.lt_of_lt_of_le (Heap.lt_size there) hsz)
    refine h h'.objs.size c' ((X.mg "__name__").getD .none) ctv _ _ (inv_table (more := #[rawInt pos.line, rawInt pos.col, .ref c']) I hP (fun b o hb e => Heap.get?_push_of_some _ (hx b o hb e)) (Heap.get?_push_of_some _ htb) hge ⟨oc, vs, t, Heap.get?_push_of_some _ hoc, hd, hv⟩)
      (.inr ⟨I.hok.fresh hge, rfl⟩) (Heap.get?_push_size _ rfl) ?_ (far _ hsz)
    rw [upd_ne (Nat.ne_of_gt hlt), upd_ne nP]
    exact I.hok.fresh hsz
end
/-- what was known stays known -/
theorem made_rel {G : Addr → Prop} {M : MM} {H H1 : Hp} {P c' : Addr} {q : Str} {ps : Array Value} {pos : Pos} (rm : RelM G M H) (hM : M P = some (.tab q)) (hP : H P = some (.tbl ps)) (m : Made H P ps pos q c' H1) : Ex G M H M H1 ∧ RelM G M H1 := by
  rcases m with ⟨rfl, _⟩ | ⟨hc, rfl⟩
  · exact ⟨Ex.refl, rm⟩
  · have hPc : P ≠ c' := ne_of_none hP hc
    have e1 : ∀ b, b ≠ P → b ≠ c' → upd (upd H P (.tbl (ps ++ #[rawInt pos.line, rawInt pos.col, .ref c']))) c' (CodeO c' q) b = H b := fun b h1 h2 => by rw [upd_ne h2, upd_ne h1]
    have nP : ∀ b, M b = none → b ≠ P := fun b h z => by rw [z, hM] at h; cases h
    have ex : Ex G M H M (upd (upd H P (.tbl (ps ++ #[rawInt pos.line, rawInt pos.col, .ref c']))) c' (CodeO c' q)) := ⟨fun a o h n _ => ⟨by rw [e1 a (nP a n) (ne_of_none h hc)]; exact h, n⟩, fun a g => e1 a (nP a (rm.2 a g).1) fun z => rm.noG hc (z ▸ g)⟩
    have nC : ∀ x cc, M x = some cc → x ≠ c' := fun x cc h z => by rw [z, rm.fresh hc] at h; cases h
    refine ⟨ex, fun a cc h => ?_, fun a g => ?_⟩
    · by_cases ha : a = P
      · subst ha
        rw [hM] at h; cases h
        obtain ⟨ps', q1, q2, q3⟩ := rm.1 a _ hM
        rw [hP] at q1; cases q1
        refine ⟨_, by rw [upd_ne hPc, upd_same], by rw [Array.toList_append]; exact PySem.TriplesOk_snoc _ _ _ _ q2, fun p' cv hcv => ?_⟩
        rw [Array.toList_append] at hcv
        rcases among_app _ q2 hcv with z | z
        · obtain ⟨c0, r1, r2, r3, r4⟩ := q3 p' cv z
          exact ⟨c0, r1, (ex.1 c0 _ r2 r3 r4).1, r3, r4⟩
        · exact ⟨c', z, upd_same, rm.fresh hc, rm.noG hc⟩
      · refine (rm.1 a cc h).mono ex (e1 a ha (nC a cc h)) fun x hx => ⟨hx, e1 x (fun z => ?_) (nC x _ hx)⟩
        rw [z, hM] at hx; cases hx
    · obtain ⟨h1, u, h2⟩ := rm.2 a g
      exact ⟨h1, u, by rw [ex.2 a g]; exact h2⟩

/-- the work that the catcher calls: the lambda's body, run from the catcher's frame -/
theorem act_own {X : Cx} {pins : List (Addr × Obj)} {σ : L2.St} {H : Hp} {s : Shared} {CXg : CXT} {Eg : XK} {Ng : List Str} {qg : Str} {sg : Scope} {g f c' : Addr} {cdg pm ctv : Value} {params : Arguments} {body : Expr} {scope : Scope} {k i : Nat} {a : Str} {pn : List (Addr × Obj)}
    {xe : Value → Shared → Prop} {W : WX} {E : XK} {tb : TE} {p1 p2 : Pos} (I : Inv X pins σ H s) (L : LamS X.env.scope scope) (hf : s.heap.get? f = some (PySem.W.kla_obj "<lambda>" (X.env.qual ++ "<lambda>") params body scope (cloFrom X.env.cells scope.names []) pm c' ctv)) (hfn : H f = none)
    (hfr : f ∉ frs X.stack) (hbind : bindArgs (PySem.W.kla_fn "<lambda>" (X.env.qual ++ "<lambda>") params body scope (cloFrom X.env.cells scope.names []) pm (.ref c') ctv) ⟨[], []⟩ = pure []) (tk : Takes ((cxOf CXg X.prog X.w X.K X.mg X.base Ng qg sg g cdg X.A X.stack s H Eg).tr pn xe) W)
    (hW : ∀ cls d σ' H', E cls d H' → W cls d σ' H') (hr : RoomG (k + 1) (X.A.deeper (envOfC qg sg s.heap.objs.size g cdg))) (hbody : ∀ (A : Around) (outer : List Env) (s : Shared) (H : Hp), RoomG k (A.deeper (lamEnv X scope s.heap.objs.size f c')) → PE (lamCx X A outer s H E scope f c') body tb)
    (hN : Ng[i]? = some a) (hv : Vis sg a) (hd : (a == ("__debug__" : Str)) = false) (hcd : (a == ("__classdict__" : Str)) = false) :
    PE ((cxOf CXg X.prog X.w X.K X.mg X.base Ng qg sg g cdg X.A X.stack s H Eg).tr pn xe) (.Call (.Name a p1) [] [] p2) (fun σZ HZ Q => σZ[i]? = some (some (.ref f)) ∧ HZ c' = some (CodeO c' (X.env.qual ++ "<lambda>")) ∧ tb σ HZ Q) := by
  refine ⟨fun pinsZ sZ σZ HZ Q IZ ⟨hs, hc, ht⟩ => wpAny_Call_Name_kw (thn ((pe_var (pos := p1) (i := i) hN hv hd hcd).run pinsZ sZ σZ HZ (fun v H1 => v = .ref f ∧ H1 = HZ) IZ ⟨.ref f, hs, rfl, rfl⟩) fun u s1 ⟨v, H1, I1, r1, ev, eH⟩ => ?_)⟩
  subst ev eH
  obtain rfl : u = Value.ref f := r1
  have lam : s1.heap.get? f = some (PySem.W.kla_obj "<lambda>" (X.env.qual ++ "<lambda>") params body scope (cloFrom X.env.cells scope.names []) pm c' ctv) := I1.base.keep f _ hf hfn hfr fun z => nomatch (show f ∈ ([] : List Addr) from z)
  obtain ⟨⟨oc, vs, t, hoc, hdc, hvc⟩, _, _⟩ := I1.hok c' _ hc
  refine PySem.W.callWith_F0 ⟨_, _, _, _, lam⟩ ?_
  have whole : codeAny (model X.prog X.w) (X.A.deeper (envOfC qg sg s.heap.objs.size g cdg)) (.call (.ref f) ⟨[], []⟩) (CR (L2.CX X.prog X.w) (envOfC qg sg s.heap.objs.size g cdg :: X.stack) X.prog X.w H1 s1 Q E) s1 := by
    refine PySem.W.kla_callFunE hr.r.depth lam rfl L.co L.gen rfl ⟨c', oc, vs, t, rfl, hoc, hdc, hvc⟩ (hbind ▸ ?_)
    refine wpAny_pure (wpAny_newFunctionEnv (fun y hy => (L.own y hy).2) (fun y hy => absurd hy (by simp)) (fun h₁ hns hsb => ⟨I1.nolimit.fresh _ hsb, ?_⟩) L.kind)
    have kp : ∀ b o, s1.heap.get? b = some o → h₁.get? b = some o := fun b o e => hsb.extBut b o (Nat.ne_of_lt (Heap.lt_size e)) (Heap.get?_push_of_some _ e)
    have J := lam_start2 (E := E) (f := f) (c' := c') (tk := s1.toks + ([] : List (Str × Value)).length) I L I1.env0 hr.r.hd I1.base hns kp
    refine PySem.W.kla_codeExpr (wpAny_mono ((hbody _ _ s1 H1 (hr.deeper _)).run [] _ _ H1 Q J ht) (fun v s' ⟨w', H', J', rv, q⟩ => ⟨w', H', J'.os, J'.bare, J'.base, J'.hok, rv, q⟩) fun e s' q => q)
  refine wpAny_call (codeAny_mono whole fun r s' hq => ?_)
  match r, hq with
  | .error e, hq => exact passes_call tk hW pinsZ σZ H1 s1 e s' I1 hq
  | .ok (.ret u), hq => exact I1.after hq
/-- x is a catcher of the class CE -/
def Catcher (K : PySem.W.Frag) (mg : Str → Option Value) (x : Str) (CE : Addr) : Prop := ∃ (st : Stmt) (g : Addr) (fd : FuncData) (a n e ex : Str) (j : Nat) (p0 p1 p2 p3 p4 p5 p6 p7 p8 p9 p10 p11 p12 p13 : Pos), Fun K x x st g fd ∧ mg x = some (.ref g) ∧ FnScope [a, n, e] [a] (defScope st) ∧ Binds K fd [a] [] ∧
  defBody st = [.Assign [.Name n p0] (.Constant .none j p1) p2, .Try [.Expr (.Call (.Name a p3) [] [] p4) p5] [.ExceptHandler (some (.Name ex p6)) (some e) [.Assign [.Name n p7] (.Name e p8) p9] p10] [] [] p11, .Return (some (.Name n p12)) p13] ∧
  (defScope st).names.lookup ex = some .globalImplicit ∧ mg ex = some (.ref CE) ∧ (∀ y ∈ [a, n, e, ex], (y == ("__debug__" : Str)) = false ∧ (y == ("__classdict__" : Str)) = false) ∧ (defScope st).names.lookup n = some .local ∧ (defScope st).names.lookup e = some .local ∧ Vis (defScope st) a
/-- what the catcher gives: None, or the error -/
def zCaught (K : PySem.W.Frag) (CE P : Addr) (q : Str) (T : TZ) : TZ := fun env M Q => M P = some (.tab q) ∧ T env M fun d M' => match d with
  | .exc cl ks ds => PySem.W.exmOne K (.ref cl) (.ref CE) = some true ∧ Q (.err cl ks ds) M'
  | _ => Q .non M'
theorem ze_caught {X : Cx} {x : Str} {CE c P : Addr} {k : Nat} {params : Arguments} {body : Expr} {scope : Scope} {p lpos pos : Pos} {T : TZ} (C : Catcher X.K X.mg x CE) (hr : RoomG (k + 2) X.A) (TB : TabB X.base X.mg c P) (hcode : X.env.code = .ref c) (L : LamS X.env.scope scope) (hg : Gl X x)
    (hbody : ∀ (A : Around) (outer : List Env) (s : Shared) (H : Hp) (E : XK) (f c' : Addr), RoomG k (A.deeper (lamEnv X scope s.heap.objs.size f c')) → Takes (lamCx X A outer s H E scope f c') (fun cls d _ H' => E cls d H') → ZEX (lamCx X A outer s H E scope f c') (fun cls d _ H' => E cls d H') body T)
    (hdef : defaultsOf params X.env = ([], []) := by rfl) (hbind : ∀ (q : Str) (cl : List (Str × Addr)) (pm cv ctv : Value), bindArgs (PySem.W.kla_fn "<lambda>" q params body scope cl pm cv ctv) ⟨[], []⟩ = pure [] := by intro _ _ _ _ _; rfl)
    (hdb : (x == ("__debug__" : Str)) = false := by decide) : ZE X (.Call (.Name x p) [.Lambda params body scope lpos] [] pos) (zCaught X.K CE P (X.env.qual ++ "<lambda>") T) := by
  obtain ⟨st, g, fd, a, n, e, ex, j, p0, p1, p2, p3, p4, p5, p6, p7, p8, p9, p10, p11, p12, p13, F, hm, Sg, hb, hbd, hge, hme, hds, ln, le, hva⟩ := C
  obtain ⟨oc, od, kV, doc, pm, an, cdv, ct, osl, rfl, lk, hcd⟩ := F.ex
  refine ⟨fun pins s σ H Q I h => ?_⟩
  obtain ⟨G, env, M, Q', rs, rm, ⟨hM, t⟩, kk⟩ := h
  obtain ⟨ps, hP, ht, hcs⟩ := rm.1 P _ hM
  refine wpAny_Call_Name_kw (ld_glob I hg hm (PySem.W.callWith_K (h₀ := X.base) I.ok.mod.kin F.kp ?_ (by rfl) (by rfl)) hdb)
  show wpAny _ _ (spliced ((false, eval (.Lambda params body scope lpos) X.env) :: backTo pos (starEach [] X.env))) _ _ s
  refine Calls.spliced_cons (lam_own I TB hcode hP ht (fun pos cv hc => by obtain ⟨c0, r1, r2, _⟩ := hcs pos cv hc; exact ⟨c0, r1, r2⟩) hdef (L.has I.ok) fun f c' pm' ctv H1 s' I1 mk hf hfn hfr => ?_)
  refine Calls.spliced_nil ⟨I1.kIn, ?_⟩
  obtain ⟨ex1, rm1⟩ := made_rel rm hM hP mk
  have GT := caught_gives (X := X) (x := x) (q := X.env.qual ++ "<lambda>") (g := g) (cdg := cdv) (j := j) (p0 := p0) (p1 := p1) (p2 := p2) (p3 := p3) (p4 := p4) (p5 := p5) (p6 := p6) (p7 := p7) (p8 := p8) (p9 := p9) (p10 := p10) (p11 := p11) (p12 := p12) (p13 := p13) Sg hge hme (hds ex (by simp)).1 (hds n (by simp)).1 (hds n (by simp)).2 (hds e (by simp)).1 (hds e (by simp)).2 ln le
  have run : codeAny (model X.prog X.w) X.A (.call (.ref g) ⟨[.ref f], []⟩) (CR C8.CX0 X.stack X.prog X.w H1 s' Q C8.E0) s' := by
    refine run_ofS (N := [a, n, e]) (ps := [a]) (us := [.ref f]) (vs := [.ref f]) lk hcd Sg hr.r I1.env0 (hb s' [.ref f] I1.kIn rfl) (.cons rfl .nil) rfl fun hr' => ?_
    have hT : TTc X.K CE (fun E H' Q' => liftEX (fun cls d _ H'' => E cls d H'') T σ H' Q') H1 Q := by
      refine ⟨G, env, M, _, rs.mono ex1, rm1, t, fun d v M' H' e' rm' rd q => ?_, fun cl ks ds d M' H' e' rm' xi ⟨h1, q⟩ => ⟨h1, cl, rfl, fun a' ha' => ?_⟩⟩
      · refine ⟨.non, rfl, kk .non .non M' H' (ex1.trans e') rm' rfl ?_⟩
        cases d with
        | exc _ _ _ => exact rd.elim
        | _ => exact q
      · have exn := ex_new (o := ErrO cl d a') rm' ha'
        obtain ⟨ws, x1, x2, x3⟩ := xi
        exact kk (.err cl ks ds) (.ref a') M' _ ((ex1.trans e').trans exn) (rel_new rm' ha') ⟨a', d, ws, rfl, ⟨upd_same, rm'.fresh ha', rm'.noG ha'⟩, x1.mono1 exn.1, x2, x3.mono exn⟩ q
    obtain ⟨t', ht', hq'⟩ := GT f c' s' H1 Q (fun E H' Q' => liftEX (fun cls d _ H'' => E cls d H'') T σ H' Q') (fun W pn xe E q1 q2 tk hW => act_own (i := 0) I1 L hf hfn hfr (hbind _ _ _ _ _) tk hW ⟨hr', hr.g⟩ (fun A outer s H hr2 => hbody A outer s H E f c' hr2 (takes_of rfl rfl rfl rfl)) rfl hva (hds a (by simp)).1 (hds a (by simp)).2) mk.at hT
    refine ⟨t', ?_, hq'⟩
    rw [hbd]
    exact ht'.nox
  refine wpAny_call (codeAny_mono run fun r s2 hq => ?_)
  match r, hq with
  | .ok (.ret u), hq => exact I1.after hq
end Zz

set_option Elab.async false
set_option linter.all false
set_option maxRecDepth 100000
set_option maxHeartbeats 2000000
/-! Z21: repr of data, isinstance by own classes, keywords. -/
namespace Zz
open PySem PySem.Spec PyProof.Rows L2

/-! ### repr -/
theorem vals1 {x : V} {us : List Value} (r : Vals [x] us) : ∃ u, us = [u] ∧ RelV x u := by
  cases r with
  | cons a b =>
    cases b
    exact ⟨_, rfl, a⟩
def rRepr (K : PySem.W.Frag) : List V → Hp → VK → Prop := fun xs H Q => ∃ (x : V) (d : PyData), xs = [x] ∧ Dp K H x d ∧ d.canLay0 = true ∧ d.depth ≤ 60 ∧ d.showable = true ∧ d.shown.length ≤ sizeLine ∧ Q (.str d.shown) H
theorem call_repr {X : Cx} {k : Nat} (hr : RoomG k X.A) : CallR X (.builtin "repr") (rRepr X.K) := by
  intro pins s σ H xs us Q I r h
  obtain ⟨x, d, rfl, hd, hc, hp, hs, hz, q⟩ := h
  obtain ⟨u, rfl, ru⟩ := vals1 r
  obtain ⟨as, rd⟩ := Dp.reads I d x u hd ru
  have fin : ∀ h' u' tk, (∀ b o, s.heap.get? b = some o → h'.get? b = some o) → EP X pins σ Q (.str d.shown u') { s with heap := h', toks := tk } := fun h' u' tk hk => ⟨.str d.shown, H, I.kept hk, ⟨u', rfl⟩, q⟩
  have hu : X.A.units + (d.depth + 1) < cLine := by have := hr.r.units; omega
  have same : ∀ b o, s.heap.get? b = some o → s.heap.get? b = some o := fun _ _ e => e
  have hsm := PyData.noDict_hsm (as := as) (PyData.hasDict_of_canLay d hc)
  cases u with
  | ref a => exact repr_of_reads' rd hs hsm hr.g hu same (fun h' u tk hk => fin h' u tk hk) hz
  | none =>
    cases rd
    simp only [PyData.shown] at fin
    exact P.repr_of_none (fin s.heap _ _ same)
  | bool b =>
    cases rd
    simp only [PyData.shown] at fin
    exact P.repr_of_bool (fin s.heap _ _ same)
  | int i t =>
    cases rd
    simp only [PyData.shown] at fin
    exact P.repr_of_int (by simpa [PyData.showable] using hs) (fin s.heap _ _ same)
  | str y t =>
    cases rd
    simp only [PyData.shown] at fin hz
    exact P.repr_of_str (fin s.heap _ _ same) hz
  | _ => cases rd
def rzRepr : RCZ := fun ds M Q => match ds with
  | [d] => okD 60 (view M d) = true ∧ (toPy (view M d)).showable = true ∧ (toPy (view M d)).shown.length ≤ sizeLine ∧ Q (.str (toPy (view M d)).shown) M
  | _ => False
theorem lc_repr {K : PySem.W.Frag} : LiftC (rRepr K) rzRepr := by
  intro G M H xs ds Q Q' rm r h (k : Kont G M H Q Q')
  unfold rzRepr at h
  split at h
  · next d =>
    obtain ⟨v, rfl, rv⟩ := reps1 r
    obtain ⟨h1, h2, h3, h4⟩ := h
    exact ⟨v, _, rfl, view_dp rm rv h1, (ok_lay 60 _ h1).1, (ok_lay 60 _ h1).2, h2, h3, k (.str _) _ M H Ex.refl rm rfl h4⟩
  · exact h.elim
section
variable {X : Cx} {a b c e f o i value : Expr} {rest : List Expr} {pos p p2 : Pos} {T Ta Tb Tc : TZ} {t u : TTZ} {j k : Nat}
theorem q_repr (hr : RoomG k X.A) (B : Bs X.mg) (ha : ZE X a Ta) (hg : Gl X "repr" := by rfl) (he : starEach [a] X.env = (false, eval a X.env) :: starEach [] X.env := by rfl) (hpl : (backTo pos (starEach [] X.env)).any (·.1) = false := by rfl) : ZE X (.Call (.Name "repr" p) [a] [] pos) (zCall rzRepr (zaCons Ta zaNil)) :=
  ze_callB (call_repr hr) lc_repr hg B.repr (by rfl) (za_cons ha za_nil he) (by decide) (by decide) he hpl
/-- {} that is only read -/
def zDNewF : TZ := fun _ M Q => Q (.dic [] []) M
theorem ze_dnewF : ZE X (.Dict [] [] pos) zDNewF := PE.wk pe_dnewK fun σ H Q h => by
  obtain ⟨G, env, M, Q', rs, rm, t, k⟩ := h
  intro p hp
  exact k (.dic [] []) (.ref p) M _ (ex_new rm hp) (rel_new rm hp) ⟨p, [], rfl, ⟨rm.fresh hp, rm.noG hp⟩, upd_same, rfl, rfl⟩ t
end
/-! ### isinstance by own classes -/
def rIsErr (K : PySem.W.Frag) : List V → Hp → VK → Prop := fun xs H Q => ∃ (a cl c : Addr) (b : Bool), xs = [.ref a, .ref c] ∧ H a = some (ErrO cl none a) ∧ ExcC K cl ∧ PySem.W.kitOne K (.ref cl) (.ref c) = some b ∧ Q (.bl b) H
theorem call_isErr {X : Cx} : CallR X (.builtin "isinstance") (rIsErr X.K) := by
  intro pins s σ H xs us Q I r h
  obtain ⟨a, cl, c, b, rfl, ha, C, e, q⟩ := h
  obtain ⟨u1, u2, rfl, r1, r2⟩ := vals2 r
  obtain rfl : u1 = Value.ref a := r1
  obtain rfl : u2 = Value.ref c := r2
  obtain ⟨⟨oe, vs, hget, hz, hv⟩, _, _⟩ := (show ObjOk X.prog X.w H s.heap a (ErrO cl none a) from I.hok a _ ha)
  have J : PySem.W.InstAt s.heap a oe cl none := by
    obtain ⟨oc, od, oda, osl⟩ := oe
    obtain ⟨h1, h2⟩ := hz
    dsimp only at h1 h2 hv
    subst h1 h2 hv
    exact ⟨hget, rfl, rfl, trivial⟩
  exact PySem.W.kia_one (PySem.W.handS_kitx_exc C.hg C.hk C.hs C.hd C.ha C.hn C.ht C.hm) I.kIn J e (fun z => nomatch z) fun tk => ⟨.bl b, H, I.kept (t' := tk) fun _ _ z => z, rfl, q⟩
/-- isinstance(d, C), C an own class -/
def rzIsC (K : PySem.W.Frag) (C : Addr) : R1Z := fun d M Q => match d with
  | .err cl ks _ => ks = [] ∧ ExcC K cl ∧ ∃ b, PySem.W.kitOne K (.ref cl) (.ref C) = some b ∧ Q (.bl b) M
  | d => match kdOf M d with
    | some k => ∃ b, PySem.W.kitOne K (.type k.nm) (.ref C) = some b ∧ Q (.bl b) M
    | none => False
theorem ze_isC {X : Cx} {e : Expr} {T : TZ} {p p2 pos : Pos} {y : Str} {C : Addr} (B : Bs X.mg) (hm : X.mg y = some (.ref C)) (he : ZE X e T) (hg : Gl X "isinstance" := by rfl) (hy : Gl X y := by rfl) (hd : (y == ("__debug__" : Str)) = false := by decide)
    (hs : starEach [e, .Name y p2] X.env = (false, eval e X.env) :: starEach [.Name y p2] X.env := by rfl) (hs2 : starEach [.Name y p2] X.env = (false, eval (.Name y p2) X.env) :: starEach [] X.env := by rfl) (hpl : (backTo pos (starEach [.Name y p2] X.env)).any (·.1) = false := by rfl) :
    ZE X (.Call (.Name "isinstance" p) [e, .Name y p2] [] pos) (zUn (rzIsC X.K C) T) :=
  PE.wk (pe_callB (r := fun xs H Q => rIsErr X.K xs H Q ∨ rIsi X.K xs H Q) (fun pins s σ H xs us Q I r h => h.elim (call_isErr pins s σ H xs us Q I r) (call_isi pins s σ H xs us Q I r)) hg B.isinstance (by rfl)
    (pa_cons he (pa_cons (pe_glob (v := .ref C) hy hm rfl hd) pa_nil hs2) hs) (by decide) (by decide) hs hpl) fun σ H Q h => by
    obtain ⟨G, env, M, Q', rs, rm, t, k⟩ := h
    refine ⟨G, env, M, _, rs, rm, t, fun d v M1 H1 e1 rm1 rd t1 => ?_⟩
    have kd : (match kdOf M1 d with | some k => ∃ b, PySem.W.kitOne X.K (.type k.nm) (.ref C) = some b ∧ Q' (.bl b) M1 | none => False) → rIsi X.K [v, .ref C] H1 Q := fun z => by
      split at z
      · next kk hk =>
        obtain ⟨b, e2, q⟩ := z
        exact ⟨v, .ref C, _, _, b, rfl, .own C, ty_of rm1 rd hk, e2, k (.bl b) _ M1 H1 e1 rm1 rfl q⟩
      · exact z.elim
    unfold rzIsC at t1
    split at t1
    · next cl ks ds =>
      obtain ⟨rfl, C1, b, e2, q⟩ := t1
      obtain ⟨a, dd, ws, rfl, h2, h3, h4, h5⟩ := rd
      have hw : ws = [] := List.map_eq_nil_iff.mp h4
      subst hw
      cases dd with
      | some dx => exact absurd rfl h3.2.2.2
      | none => exact .inl ⟨a, cl, C, b, rfl, h2.1, C1, e2, k (.bl b) _ M1 H1 e1 rm1 rfl q⟩
    · exact .inr (kd t1)
/-! ### keywords -/
abbrev ZK (X : Cx) (kws : List Keyword) (T : TAZ) : Prop := PK X kws (liftA T)
theorem reps_pm {G : Addr → Prop} {M : MM} {H : Hp} {ds : List D} {vs : List V} (r : Reps G M H ds vs) : ∀ pm : List Nat, Reps G M H (pmV pm ds) (pmV pm vs)
  | [] => rfl
  | i :: pm => by
    have ih := reps_pm r pm
    unfold pmV at ih ⊢
    cases e : ds[i]? with
    | none =>
      have e2 : vs[i]? = none := by
        rw [List.getElem?_eq_none_iff] at e ⊢
        rw [← r.length]; exact e
      simp only [List.filterMap_cons, e, e2]; exact ih
    | some d =>
      obtain ⟨v, e2, r2⟩ := r.get e
      simp only [List.filterMap_cons, e, e2]
      exact .cons r2 ih
def zFnK (n : Nat) (pm : List Nat) (g : SpZ) (T Tk : TAZ) : TZ := fun env M Q => T env M fun ds M1 => Tk env M1 fun es M2 => (ds.length = n ∧ es.length = pm.length - n) ∧ g (pmV pm (ds ++ es)) M2 Q
section
variable {X : Cx} {W : WX} {a b c e f o i value : Expr} {es : List Expr} {pos p p2 kpos : Pos} {T Tk : TAZ} {Ta : TZ} {kws : List Keyword} {n m j k : Nat} {pm : List Nat} {x : Str} {nm : Option Str} {ks : List Str} {g : SpZ}
theorem zk_nil : ZK X [] zaNil := ⟨fun pos pins s σ H Q I h => by
  obtain ⟨G, env, M, Q', rs, rm, t, k⟩ := h
  exact pk_nil.run pos pins s σ H Q I (k [] [] M H Ex.refl rm rfl t)⟩
theorem zk_cons (ha : ZE X e Ta) (hr : ZK X kws T) : ZK X (⟨nm, e, kpos⟩ :: kws) (zaCons Ta T) := ⟨fun pos pins s σ H Q I h => (pk_cons ha hr).run pos pins s σ H Q I (by
  obtain ⟨G, env, M, Q', rs, rm, t, k⟩ := h
  refine ⟨G, env, M, _, rs, rm, t, fun d v M1 H1 e1 rm1 rd t1 => ?_⟩
  exact ⟨G, env, M1, _, rs.mono e1, rm1, t1, fun ds vs M2 H2 e2 rm2 rds t2 => k (d :: ds) (v :: vs) M2 H2 (e1.trans e2) rm2 (.cons (rd.mono e2) rds) t2⟩)⟩
/-- x(k = e, ..) -/
theorem q_callK0 (F : Fz X.prog X.w X.K X.mg X.base j x m g) (kb : KwB X.K X.mg x 0 ks pm) (hr : RoomG k X.A) (ha : ZK X kws Tk) (hl : pm.length = m := by rfl) (hl2 : ks.length = m := by rfl) (hpm : ∀ ds : List D, ds.length = m → (pmV pm ds).length = m := by first | (intro ds h; match ds, h with | [_], _ => rfl) | (intro ds h; match ds, h with | [_, _], _ => rfl) | (intro ds h; match ds, h with | [_, _, _], _ => rfl) | (intro ds h; match ds, h with | [_, _, _, _], _ => rfl))
    (hj : j ≤ k := by decide) (hg : Gl X x := by rfl) (hks : (backToKw pos (keywordEach kws X.env)).filterMap (·.1) = ks := by rfl) (hall : (backToKw pos (keywordEach kws X.env)).all (·.1.isSome) = true := by rfl) (hdb : (x == ("__debug__" : Str)) = false := by decide)
    (hpl : ((backTo pos (starEach [] X.env)).any (·.1) || (backToKw pos (keywordEach kws X.env)).any (·.1.isNone)) = false := by rfl) : ZE X (.Call (.Name x p) [] kws pos) (zFnK 0 pm g zaNil Tk) := by
  obtain ⟨f, fd, ps, G, hm, hk, hb⟩ := F.ex
  refine PE.wk (pe_callKG0 (E := fun _ => E0) G kb (hr.mono hj) hg hm hk hb pass0A ha hks hall hdb hpl) fun σ H Q h => ?_
  obtain ⟨G, env, M, Q', rs, rm, t, kk⟩ := h
  refine ⟨G, env, M, _, rs, rm, t, fun ds vs M1 H1 e1 rm1 rds ⟨⟨_, hl1⟩, t1⟩ => ⟨rfl, by rw [← rds.length]; omega, ?_⟩⟩
  exact ⟨G, _, M1, Q', hpm ds (by omega), rm1, reps_pm rds pm, t1, fun d v M' H' e' => kk d v M' H' (e1.trans e')⟩
theorem q_callPK0 (F : Fx X.prog X.w X.K X.mg X.base j x m g) (kb : KwB X.K X.mg x 0 ks pm) (hr : RoomG k X.A) (ha : ZK X kws Tk) (hl : pm.length = m := by rfl) (hl2 : ks.length = m := by rfl) (hpm : ∀ ds : List D, ds.length = m → (pmV pm ds).length = m := by first | (intro ds h; match ds, h with | [_], _ => rfl) | (intro ds h; match ds, h with | [_, _], _ => rfl) | (intro ds h; match ds, h with | [_, _, _], _ => rfl) | (intro ds h; match ds, h with | [_, _, _, _], _ => rfl))
    (hj : j ≤ k := by decide) (hg : Gl X x := by rfl) (hks : (backToKw pos (keywordEach kws X.env)).filterMap (·.1) = ks := by rfl) (hall : (backToKw pos (keywordEach kws X.env)).all (·.1.isSome) = true := by rfl) (hdb : (x == ("__debug__" : Str)) = false := by decide)
    (hpl : ((backTo pos (starEach [] X.env)).any (·.1) || (backToKw pos (keywordEach kws X.env)).any (·.1.isNone)) = false := by rfl) : ZE X (.Call (.Name x p) [] kws pos) (zFnK 0 pm (pureOf g) zaNil Tk) := by
  obtain ⟨f, fd, ps, G, hm, hk, hb⟩ := F.ex
  refine PE.wk (pe_callKG0 (E := fun _ => E0) G kb (hr.mono hj) hg hm hk hb passLA ha hks hall hdb hpl) fun σ H Q h => ?_
  obtain ⟨G, env, M, Q', rs, rm, t, kk⟩ := h
  refine ⟨G, env, M, _, rs, rm, t, fun ds vs M1 H1 e1 rm1 rds ⟨⟨_, hl1⟩, t1⟩ => ⟨rfl, by rw [← rds.length]; omega, ?_⟩⟩
  exact ⟨G, _, M1, _, hpm ds (by omega), rm1, reps_pm rds pm, t1, fun d v M' H' e' rm' rd' q => kk d v M' H' (e1.trans e') rm' rd' q.2, fun cl ks ds d M' H' e' rm' xi q => q.1.elim⟩
end
end Zz

set_option Elab.async false
set_option linter.all false
set_option maxRecDepth 100000
set_option maxHeartbeats 2000000
/-! Z22: the end: the law's def called with the script; tables of code objects. -/
namespace Zz
open PySem PySem.Spec PyProof.Rows L2 LamX

/-- nothing that is tracked at the start looks so -/
def apart (d : Data) : Bool := match d with
  | .seq _ _ => false
  | .fields vs => vs.size != 0
  | _ => true
section
variable {P : Program} {w : World} {K : PySem.W.Frag} {mg mb : Str → Option Value} {k : Nat} {fa a : Addr} {cs : List (Addr × Addr)} {fd : FuncData} {x : Str} {g : SpZ} {s₁ : Shared} {vs : List Value} {ns : List Int}
/-- what is tracked at the start: the tables, and the script if it is none of the written part -/
def startH (K : PySem.W.Frag) (cs : List (Addr × Addr)) (a : Addr) (o : Obj) (ns : List Int) : Hp := fun b => if b ∈ cs.map (·.2) then some (.tbl #[]) else if b = a ∧ (K.lookup a).isNone = true then some (.frz o (.lst (ns.map V.int))) else none
def startM (cs : List (Addr × Addr)) (nm : Addr → Str) : MM := fun b => if b ∈ cs.map (·.2) then some (.tab (nm b)) else none
theorem law_callG (KX : K.In s₁.heap) (hns : s₁.heap.Ns mainGlobals mg) (hb : s₁.heap.Ns builtinsNs mb) (hbb : ∀ x : Str, x ≠ "__name__" → mb x = bootBuiltins x) (hlim : s₁.heap.NoLimit) (hg : s₁.gens = #[])
    (hT : ∀ p ∈ cs, PySem.W.CodeHd s₁.heap p.1 p.2 ∧ s₁.heap.get? p.2 = some { cls := .none, data := .fields #[] }) (nT : ∀ p ∈ cs, K.lookup p.2 = none)
    (hbm : ∃ (bm : Addr) (ob : Obj), mg "__builtins__" = some (.ref bm) ∧ bm ≠ builtinsNs ∧ s₁.heap.get? bm = some ob ∧ ob.cls = .type "module" ∧ ob.dict = some builtinsNs ∧ ob.data = .plain)
    (ha : s₁.heap.get? a = some { cls := .type "list", data := .seq vs.toArray }) (hi : IntsAre vs ns) (hl : ns.length ≤ 63) (hr : RoomG k callerA)
    (F : ∀ base : Heap, K.In base → base.Ns mainGlobals mg → (∀ p ∈ cs, TabB base mg p.1 p.2) → FnG P w K mg base CX0 k fa fd [x] (liftSp 1 g)) (hbind : ∀ (s : Shared) (u : Value), BindsTo s fd ⟨[u], []⟩ [(x, u)])
    (nm : Addr → Str) (hsp : g [.kls K a ns] (startM cs nm) fun d _ => d = .bl true) :
    codeAny (model P w) callerA (.call (.ref fa) ⟨[.ref a], []⟩) (fun r s' => r = .ok (.ret (.bool true)) ∧ OldK s₁.heap s'.heap ∧ s'.os = s₁.os ∧ AllBare s'.gens) s₁ := by
  have rv := vals_ints hi
  have lenV := hi.length
  generalize hso : ({ cls := .type "list", data := .seq vs.toArray } : Obj) = so at ha
  have lenL : ns.length ≤ sizeLine := Nat.le_trans hl (by decide)
  have aT : a ∉ cs.map (·.2) := fun z => by
    obtain ⟨p, hp, e⟩ := List.mem_map.mp z
    have q := (hT p hp).2
    rw [e, ha, ← hso] at q
    have z' : Data.seq vs.toArray _ = Data.fields #[] := congrArg Obj.data (Option.some.inj q)
    cases z'
  have inT : ∀ b, b ∈ cs.map (·.2) → s₁.heap.get? b = some { cls := .none, data := .fields #[] } := fun b hb => by
    obtain ⟨p, hp, e⟩ := List.mem_map.mp hb
    rw [← e]; exact (hT p hp).2
  generalize hHd : startH K cs a so ns = H
  have H1 : ∀ b, b ∈ cs.map (·.2) → H b = some (.tbl #[]) := fun b hb => by rw [← hHd]; exact if_pos hb
  have H2 : ∀ b o, H b = some o → b ∉ cs.map (·.2) → b = a ∧ K.lookup a = none ∧ o = .frz so (.lst (ns.map V.int)) := fun b o e n => by
    rw [← hHd] at e
    have e := (if_neg n).symm.trans e
    by_cases h : b = a ∧ (K.lookup a).isNone = true
    · rw [if_pos h] at e
      cases e
      exact ⟨h.1, Option.isNone_iff_eq_none.mp h.2, rfl⟩
    · rw [if_neg h] at e; cases e
  have off : ∀ b o, s₁.heap.get? b = some o → apart o.data = true → H b = none := fun b o e h => by
    cases q : H b with
    | none => rfl
    | some u =>
      by_cases hb : b ∈ cs.map (·.2)
      · rw [inT b hb] at e; cases e; cases h
      · obtain ⟨rfl, _, _⟩ := H2 b u q hb
        rw [ha, ← hso] at e; cases e; cases h
  have base_of : ∀ {b : Addr} {o : Obj}, s₁.heap.get? b = some o → apart o.data = true → (hidT s₁.heap H).get? b = some o := fun e h => hidT_get e (off _ _ e h)
  have nsK : ∀ {b : Addr} {m : Str → Option Value}, s₁.heap.Ns b m → (hidT s₁.heap H).Ns b m := fun ⟨o, es, ep, e, d, r⟩ => ⟨o, es, ep, base_of e (by rw [d]; rfl), d, r⟩
  have hKb : K.In (hidT s₁.heap H) := fun b o e => hidT_get (KX b o e) (by
    cases q : H b with
    | none => rfl
    | some u =>
      by_cases hb : b ∈ cs.map (·.2)
      · obtain ⟨p, hp, ep⟩ := List.mem_map.mp hb
        rw [← ep, nT p hp] at e; cases e
      · obtain ⟨rfl, n, _⟩ := H2 b u q hb
        rw [n] at e; cases e)
  have hok : HOk P w H s₁.heap := fun b u z => by
    by_cases hb : b ∈ cs.map (·.2)
    · rw [H1 b hb] at z; cases z
      exact inT b hb
    · obtain ⟨rfl, _, rfl⟩ := H2 b u z hb
      exact ⟨ha, by rw [List.length_map]; exact lenL, vs, _, rv, by rw [ha, ← hso]⟩
  have TB : ∀ p ∈ cs, TabB (hidT s₁.heap H) mg p.1 p.2 := fun p hp => by
    obtain ⟨⟨o, us, file, tf, flags, tg, inF, text, tt, e1, r1, r2, r3, rest⟩, hTp⟩ := hT p hp
    have nG : mainGlobals ≠ p.2 := fun z => by
      obtain ⟨o, es, ep, e, hd, _⟩ := hns
      rw [z, hTp] at e; cases e; cases hd
    refine ⟨⟨o, us, file, tf, flags, tg, inF, text, tt, base_of e1 ?_, r1, r2, r3, rest⟩, ?_, nG⟩
    · rw [r2]
      have hz := (Array.getElem?_eq_some_iff.mp r3).1
      show (us.size != 0) = true
      simp only [bne_iff_ne, ne_eq]
      omega
    · obtain ⟨bm, ob, b1, b2, b3, b4, b5, b6⟩ := hbm
      refine ⟨bm, ob, b1, b2, fun q => ?_, fun q => ?_, base_of b3 (by rw [b6]; rfl), b4, b5, b6⟩
      · obtain ⟨o, es, ep, e, hd, _⟩ := hns
        rw [q, e] at b3; cases b3
        rw [hd] at b6; cases b6
      · rw [q, hTp] at b3; cases b3; cases b6
  have hM : L2.Mod K mg (hidT s₁.heap H) := ⟨hKb, nsK hns, ⟨mb, nsK hb, hbb⟩, let ⟨mc, h1, h2⟩ := hlim; ⟨mc, nsK h1, h2⟩⟩
  have e0 : Env0 P w K mg (hidT s₁.heap H) callerA [] s₁ H := ⟨rfl, hM, fun b o e => of_hidT e, Nat.le_of_eq (hidT_size _ _), trivial, fun b hb => absurd (show b ∈ ([] : List Addr) from hb) (by simp), hok, .of_eq hg⟩
  have Ma : startM cs nm a = none := if_neg aT
  have sp : liftSp 1 g [.ref a] H (fun v _ => v = .bl true) fun _ _ _ => False := by
    refine ⟨fun _ => False, [.kls K a ns], startM cs nm, fun d _ => d = .bl true, rfl, ⟨fun b c h => ?_, fun b h => h.elim⟩, .cons ⟨rfl, by omega, ?_⟩ .nil, hsp, fun d v M' H' _ _ r hd => ?_⟩
    · by_cases hb : b ∈ cs.map (·.2)
      · have h := (if_pos hb).symm.trans h
        cases h
        exact ⟨#[], H1 b hb, True.intro, fun pos cv hc => by
          have z : codeAmong pos [] = some cv := hc
          simp [codeAmong] at z⟩
      · have h := (if_neg hb).symm.trans h
        cases h
    · cases hk : K.lookup a with
      | none =>
        refine .inl ⟨⟨.frz so (.lst (ns.map V.int)), ?_, .inr ⟨so, rfl⟩⟩, Ma, fun z => z⟩
        rw [← hHd]
        exact (if_neg aT).trans (if_pos ⟨rfl, by rw [hk]; rfl⟩)
      | some o =>
        have e := KX a o hk
        rw [ha] at e; cases e
        exact .inr ⟨_, vs.toArray, _, hk, by rw [← hso], by rw [← hso], by rw [← hso], by rw [List.size_toArray, lenV]; exact lenL, by simpa using rv⟩
    · subst hd
      exact r
  refine codeAny_mono ((F _ hKb (nsK hns) TB).run (us := [.ref a]) (vs := [.ref a]) hr e0 (hbind s₁ (.ref a)) (.cons rfl .nil) sp) fun r s' h => ?_
  match r, h with
  | .error e, h => exact (show False from h).elim
  | .ok (.ret u), h =>
    obtain ⟨v, H', os, bare, un, hok', r', q⟩ := h
    obtain rfl : v = .bl true := q
    obtain rfl : u = Value.bool true := r'
    have key : ∀ b o, b ∉ cs.map (·.2) → s₁.heap.get? b = some o → s'.heap.get? b = some o := fun b o nb e => by
      cases q : H b with
      | none => exact un.keep b o e q (by intro z; exact absurd (show b ∈ ([] : List Addr) from z) (by simp)) (by simp)
      | some u =>
        obtain ⟨rfl, _, rfl⟩ := H2 b u q nb
        obtain ⟨e2, _⟩ := hok' b _ (un.frzs b so _ q)
        rw [ha] at e; cases e
        exact e2
    have grown : ∀ p ∈ cs, ∃ more : Array Value, s'.heap.get? p.2 = some { cls := .none, data := .fields more } := fun p hp => by
      obtain ⟨more, z⟩ := un.tbls p.2 #[] (H1 p.2 (List.mem_map.mpr ⟨p, hp, rfl⟩))
      exact ⟨_, hok' p.2 _ z⟩
    refine ⟨rfl, ⟨fun b o e => ?_, fun b o e => ?_⟩, os, bare⟩
    · by_cases hb : b ∈ cs.map (·.2)
      · obtain ⟨p, hp, ep⟩ := List.mem_map.mp hb
        obtain ⟨more, hm⟩ := grown p hp
        rw [← ep] at e ⊢
        rw [(hT p hp).2] at e
        cases e
        exact .inr (.inl ⟨((hT p hp).1.tab (hT p hp).2).isCodeTable, rfl, #[], more, rfl, by rw [Array.empty_append]; exact hm⟩)
      · exact .inl (key b o hb e)
    · by_cases hb : b ∈ cs.map (·.2)
      · obtain ⟨p, hp, ep⟩ := List.mem_map.mp hb
        obtain ⟨more, hm⟩ := grown p hp
        rw [← ep]
        exact ⟨_, hm⟩
      · exact ⟨o, key b o hb e⟩
end
/-- the def x of K has the code object c and the table P -/
theorem code_of_tab {K : PySem.W.Frag} {x : Str} {c P f : Addr} {fd : FuncData} {oc : Value} {od : Option Addr} {osl : Array (Option Value)} (h : PySem.W.tabIn K x = some (c, P)) (a : PySem.W.nsIn K mainGlobals x = some (some (.ref f))) (l : K.lookup f = some ⟨oc, od, .func fd, osl⟩) : fd.code = .ref c := by
  unfold PySem.W.tabIn at h
  rw [a] at h
  simp only [l] at h
  split at h
  · next c2 hc =>
    rw [hc]
    split at h
    · split at h
      · cases h; rfl
      · cases h
    · cases h
  · cases h
/-- the walk of a law whose defs xs hold lambdas -/
theorem walk_tabs {l : PySem.W.OpenLaw} {k : Nat} {q : Program} {loose : List Str} {XP : (Str → Option Value) → Heap → Prop} {YP : World → Heap → Prop} {d : DefRec} {K : Params → PySem.W.Frag} {x : Str} (xs : List Str)
    (hn : l.most = some 63) (hdf : d.params.defaults = []) (hr : RoomG k callerA) (hrec : (xs.all fun x => ((recsOf q).find? fun e => e.name == x).isSome) = true) (hY : ∀ (w : World) (h : Heap), YP w h → (K w.params).In h)
    (F : ∀ (w : World) (mg : Str → Option Value) (fa : Addr) (h : Heap), (K w.params).In h → h.Ns mainGlobals mg → mg d.name = some (.ref fa) →
      ∃ (fd : FuncData) (cs : List (Addr × Addr)) (nm : Addr → Str) (g : SpZ), (∀ p ∈ cs, (∃ x ∈ xs, PySem.W.tabIn (K w.params) x = some p) ∧ (K w.params).lookup p.2 = none) ∧ (∀ (s : Shared) (u : Value), BindsTo s fd ⟨[u], []⟩ [(x, u)]) ∧
        (∀ (a : Addr) (ns : List Int), ns.length ≤ 63 → g [.kls (K w.params) a ns] (startM cs nm) fun d _ => d = .bl true) ∧
        ∀ base : Heap, (K w.params).In base → base.Ns mainGlobals mg → (∀ p ∈ cs, TabB base mg p.1 p.2) → FnG l.prog w (K w.params) mg base CX0 k fa fd [x] (liftSp 1 g)) :
    PySem.W.WalkO q loose XP YP l.row.toRowW d [] (fun f vs => PySem.call f vs) := by
  refine Att.attach_callB hn hdf fun w s₀ s₁ mg mb fa o pm cd doc a vs ns G Y ho hd hcd hmg hobj hints hlen hbits hg => ?_
  have KX := hY w _ Y
  obtain ⟨fd, cs, nm, g, hcs, hb, hsp, hF⟩ := F w mg fa _ KX G.T.g hmg
  refine law_callG KX G.T.g G.T.b G.T.builtins G.T.nolimit hg (fun p hp => ?_) (fun p hp => (hcs p hp).2) G.T.bmain hobj hints hlen hr hF hb nm (hsp a ns hlen)
  obtain ⟨x, hx, ht⟩ := (hcs p hp).1
  obtain ⟨d', hd'⟩ := Option.isSome_iff_exists.mp (List.all_eq_true.mp hrec x hx)
  exact PySem.W.tab_of (c := p.1) (P := p.2) G.T KX hd' ht
end Zz

set_option Elab.async false
set_option linter.all false
set_option maxRecDepth 100000
set_option maxHeartbeats 2000000
/-! Z23: more rules. -/
namespace Zz
open PySem PySem.Spec PyProof.Rows L2 LamX

/-- the qualified name of a lambda in the def x -/
abbrev lq (x : Str) : Str := (x ++ ".<locals>.") ++ "<lambda>"
/-- x + y, a list that will change; ints as they are -/
def rzAddN : R2Z := fun x y M Q => match view M x, view M y with
  | .lst xs, .lst ys => xs.length + ys.length ≤ 10000000 ∧ ∀ p, M p = none → Q (.ref p) (mu M p (.lst (xs ++ ys)))
  | _, _ => rzAdd x y M Q
theorem lr_addN {K : PySem.W.Frag} : LiftR (rAddU K) rzAddN := by
  intro G M H x y d e Q Q' rm rx ry h (k : Kont G M H Q Q')
  unfold rzAddN at h
  split at h
  · next xs ys hx hy =>
    obtain ⟨a, vs, rfl, h1, h2, h3⟩ := view_lst rm rx hx
    obtain ⟨b, ws, rfl, g1, g2, g3⟩ := view_lst rm ry hy
    have hz : (vs ++ ws).length ≤ sizeLine := by rw [List.length_append, ← h3.length, ← g3.length]; exact line1 h.1
    refine .inr (.inr (.inr ⟨a, b, vs, ws, rfl, rfl, h1, g1, by simpa using hz, fun p hp => ?_⟩))
    have ex := ex_put (c := .lst (xs ++ ys)) (o := .lst (vs ++ ws)) rm (.inl hp)
    exact k (.ref p) _ _ _ ex (rel_cell rm hp ⟨_, upd_same, hz, (h3.append g3).mono ex⟩) rfl (h.2 p (rm.fresh hp))
  · exact lr_add G M H x y d e Q Q' rm rx ry h k
theorem q_addN {X : Cx} {a b : Expr} {pos : Pos} {Ta Tb : TZ} (ha : ZE X a Ta) (hb : ZE X b Tb) : ZE X (.BinOp a .Add b pos) (zBin rzAddN Ta Tb) := ze_op or_add lr_addN ha hb
/-! ### one step more -/
section
variable {env : ZT} {M : MM} {Dd : ZEnds} {Q : D → MM → Prop} {T Ta Tb Tc : TZ} {i : Nat} {d : D} {g : SpZ}
theorem var_use (h : env[i]? = some (some d)) (k : Q d M) : zVar i env M Q := by unfold zVar; rw [h]; exact k
theorem st_fn1 (h : T env M fun x M1 => g [x] M1 Q) : zFn 1 g (zaCons T zaNil) env M Q := by
  show T env M fun x M1 => _ ∧ _
  have e : (fun (x : D) (M1 : MM) => g [x] M1 Q) = fun x M1 => ([x] : List D).length = 1 ∧ g [x] M1 Q := by funext x M1; simp
  rw [e] at h; exact h
theorem st_fn2 (h : Ta env M fun x M1 => Tb env M1 fun y M2 => g [x, y] M2 Q) : zFn 2 g (zaCons Ta (zaCons Tb zaNil)) env M Q := by
  have e : (fun (x : D) (M1 : MM) => Tb env M1 fun y M2 => g [x, y] M2 Q) = fun x M1 => Tb env M1 fun y M2 => ([x, y] : List D).length = 2 ∧ g [x, y] M2 Q := by funext x M1; congr 1; funext y M2; simp
  rw [e] at h; exact h
theorem st_fn3 (h : Ta env M fun x M1 => Tb env M1 fun y M2 => Tc env M2 fun z M3 => g [x, y, z] M3 Q) : zFn 3 g (zaCons Ta (zaCons Tb (zaCons Tc zaNil))) env M Q := by
  have e : (fun (x : D) (M1 : MM) => Tb env M1 fun y M2 => Tc env M2 fun z M3 => g [x, y, z] M3 Q) = fun x M1 => Tb env M1 fun y M2 => Tc env M2 fun z M3 => ([x, y, z] : List D).length = 3 ∧ g [x, y, z] M3 Q := by funext x M1; congr 1; funext y M2; congr 1; funext z M3; simp
  rw [e] at h; exact h
theorem st_c (h : Q d M) : zC d env M Q := h
theorem st_tup2 (h : Ta env M fun x M1 => Tb env M1 fun y M2 => Q (.tup [x, y]) M2) : zTup (zaCons Ta (zaCons Tb zaNil)) env M Q := by
  have e : (fun (x : D) (M1 : MM) => Tb env M1 fun y M2 => Q (.tup [x, y]) M2) = fun x M1 => Tb env M1 fun y M2 => ([x, y] : List D).length ≤ 1000 ∧ Q (.tup [x, y]) M2 := by funext x M1; congr 1; funext y M2; simp
  rw [e] at h; exact h
theorem ss_asg2 {i j : Nat} {u : TSZ} (h : Ta env M fun x M1 => Tb env M1 fun y M2 => u Dd ((env.set i (some x)).set j (some y)) M2) : zSeq (zAsg (.tup [.nm i, .nm j]) (zTup (zaCons Ta (zaCons Tb zaNil)))) u Dd env M := by
  have e : (fun (x : D) (M1 : MM) => Tb env M1 fun y M2 => u Dd ((env.set i (some x)).set j (some y)) M2) = fun x M1 => Tb env M1 fun y M2 => ([x, y] : List D).length ≤ 1000 ∧ u Dd ((env.set i (some x)).set j (some y)) M2 := by funext x M1; congr 1; funext y M2; simp
  rw [e] at h; exact h
end
theorem tab_mk {K : PySem.W.Frag} {x : Str} {f c P : Addr} {oc e : Value} {od d : Option Addr} {osl sl : Array (Option Value)} {fd : FuncData} {vs : Array Value} (a : PySem.W.nsIn K mainGlobals x = some (some (.ref f))) (l : K.lookup f = some ⟨oc, od, .func fd, osl⟩) (hc : fd.code = .ref c)
    (tc : K.lookup c = some ⟨e, d, .fields vs, sl⟩) (tp : (vs[11]? : Option Value) = some (.ref P)) : PySem.W.tabIn K x = some (c, P) := by
  unfold PySem.W.tabIn
  rw [a]
  simp only [l, hc, tc, tp]
end Zz

set_option Elab.async false
set_option linter.all false
set_option maxRecDepth 100000
set_option maxHeartbeats 2000000
/-! Z24: defs as values, tuple(range(..)), tuples and texts repeated, dict displays that are only read. -/
namespace Zz
open PySem PySem.Spec PyProof.Rows L2

/-! ### defs as values -/
/-- the def at f keeps g -/
def FxA (P : Program) (w : World) (K : PySem.W.Frag) (mg : Str → Option Value) (base : Heap) (k : Nat) (f : Addr) (n : Nat) (g : SpZ) : Prop := ∃ (fd : FuncData) (ps : List Str), FnG P w K mg base (L2.CX P w) k f fd ps (liftSpX n g) ∧ PySem.W.keepIn K (.ref f) = true ∧ Binds K fd ps []
theorem Fx.at {P : Program} {w : World} {K : PySem.W.Frag} {mg : Str → Option Value} {base : Heap} {k n : Nat} {x : Str} {g : SpZ} {f : Addr} (F : Fx P w K mg base k x n g) (hm : mg x = some (.ref f)) : FxA P w K mg base k f n g := by
  obtain ⟨f', fd, ps, G, hm', hk, hb⟩ := F.ex
  rw [hm] at hm'; cases hm'
  exact ⟨fd, ps, G, hk, hb⟩
/-- v(..), v one of the defs cs -/
def zFnV (i n : Nat) (cs : List (Addr × SpZ)) (T : TAZ) : TZ := fun env M Q => ∃ p, p ∈ cs ∧ env[i]? = some (some (.ref p.1)) ∧ T env M fun ds M1 => ds.length = n ∧ p.2 ds M1 Q
def FxAll (P : Program) (w : World) (K : PySem.W.Frag) (mg : Str → Option Value) (base : Heap) (k n : Nat) (cs : List (Addr × SpZ)) : Prop := ∀ p ∈ cs, ∃ j, j ≤ k ∧ FxA P w K mg base j p.1 n p.2
theorem fxa_nil {P : Program} {w : World} {K : PySem.W.Frag} {mg : Str → Option Value} {base : Heap} {k n : Nat} : FxAll P w K mg base k n [] := fun p hp => by cases hp
theorem fxa_cons {P : Program} {w : World} {K : PySem.W.Frag} {mg : Str → Option Value} {base : Heap} {j k n : Nat} {x : Str} {g : SpZ} {f : Addr} {cs : List (Addr × SpZ)} (F : Fx P w K mg base j x n g) (hm : mg x = some (.ref f)) (h : FxAll P w K mg base k n cs) (hj : j ≤ k := by decide) : FxAll P w K mg base k n ((f, g) :: cs) := fun p hp => by
  rcases List.mem_cons.mp hp with rfl | hp
  · exact ⟨j, hj, F.at hm⟩
  · exact h p hp
theorem q_callVX {X : Cx} {W : WX} {e : Expr} {es : List Expr} {pos p : Pos} {T : TAZ} {x : Str} {n k : Nat} {cs : List (Addr × SpZ)} (i : Nat) (tk : Takes X W) (F : FxAll X.prog X.w X.K X.mg X.base k n cs) (hr : RoomG k X.A) (ha : ZA X (e :: es) T) (hN : X.N[i]? = some x := by rfl)
    (hv : Vis X.env.scope x := by first | exact Or.inl rfl | exact Or.inr (Or.inl rfl) | exact Or.inr (Or.inr rfl)) (hd : (x == ("__debug__" : Str)) = false := by decide) (hcd : (x == ("__classdict__" : Str)) = false := by decide)
    (he : starEach (e :: es) X.env = (false, eval e X.env) :: starEach es X.env := by rfl) (hpl : (backTo pos (starEach es X.env)).any (·.1) = false := by rfl) : ZEX X W (.Call (.Name x p) (e :: es) [] pos) (zFnV i n cs T) := by
  refine ⟨fun pins s σ H Q I h => ?_⟩
  obtain ⟨G, env, M, Q', rs, rm, ⟨⟨f, g⟩, hc, hi, t⟩, kk, xx⟩ := h
  obtain ⟨v, hσ, rv⟩ := rs.2 i _ hi
  obtain rfl : v = .ref f := rv
  obtain ⟨j, hj, fd, ps, Fn, hk, hb⟩ := F (f, g) hc
  refine wpAny_Call_Name_kw (thn ((pe_var (pos := p) hN hv hd hcd).run pins s σ H (fun v H1 => v = .ref f ∧ H1 = H) I ⟨.ref f, hσ, rfl, rfl⟩) fun u s1 ⟨v, H1, I1, r1, ev, eH⟩ => ?_)
  subst ev eH
  obtain rfl : u = Value.ref f := r1
  have ha' := ha.run pos pins s1 σ H1 (fun vs H2 => liftSpX n g vs H2 Q (WE W σ)) I1 ⟨G, env, M, _, rs, rm, t, fun ds vs M1 H2 e1 rm1 rds ⟨hl, t1⟩ => ⟨G, ds, M1, Q', hl, rm1, rds, t1, fun d v M' H' e' => kk d v M' H' (e1.trans e'), xx.ex e1⟩⟩
  refine PySem.W.callWith_K (h₀ := X.base) I1.ok.mod.kin hk (thn ha' fun us s2 ⟨vs, H2, I2, r, q⟩ => ⟨I2.kIn, ?_⟩) he hpl
  have b := hb s2 us I2.kIn (by rw [List.append_nil, ← r.length]; exact Fn.len _ _ _ _ q)
  rw [List.append_nil] at b
  exact run_G (args := ⟨us, []⟩) Fn (hr.mono hj) b (passAt tk σ) I2 r q
/-! ### tuple(range(..)) -/
def zTRg (T : TRZ) : TZ := fun env M Q => T env M fun a b M1 => (0 ≤ a ∧ b ≤ 10000000 ∧ a ≤ 10000000 ∧ 0 ≤ b) ∧ Q (.tup (rngD a (b - a).toNat)) M1
/-! ### dict displays that are only read -/
def zDispF (trs : List (TZ × TZ)) : TZ := fun env M Q => zPairs trs env M fun ps M1 => match keyed ps with
  | some kvs => kvs.length ≤ 15 ∧ Q (.dic ((mergeD [] kvs).map (·.1)) ((mergeD [] kvs).map (·.2))) M1
  | none => False
theorem ze_dispF {X : Cx} {pos : Pos} {keys : List (Option Expr)} {values : List Expr} {trs : List (TZ × TZ)} (h : PPs X pos keys values (trs.map fun t => (liftE t.1, liftE t.2))) (hall : keys.all (·.isSome) = true := by rfl) (hl : keys.length = values.length := by rfl) (h0 : keys ≠ [] := by simp)
    (h15 : keys.length ≤ 15 := by decide) : ZE X (.Dict keys values pos) (zDispF trs) := PE.wk (pe_disp h hall hl h0 h15) fun σ H Q h => by
  obtain ⟨G, env, M, Q', rs, rm, t, k⟩ := h
  intro p hp
  obtain ⟨rmI, rsI⟩ := aside_in (o := .dK []) rm hp
  refine lift_pairs (rsI env σ rs) rmI t fun ps qs M1 H1 e1 rm1 rp t1 => ?_
  split at t1
  · next kvs hk =>
    obtain ⟨ws, rfl, rk⟩ := repP_keyed rp hk
    obtain ⟨q1, q2, q3, q4, q5⟩ := aside_out (c := .dic (mergeD [] kvs)) (o := .dK (mergeK [] ws)) rm hp e1 rm1
    have exA : ExA (aside G p) M1 H1 (mu M1 p (.dic (mergeD [] kvs))) (upd H1 p (.dK (mergeK [] ws))) := fun a u h n g => by
      have : a ≠ p := fun q => g (.inr q)
      exact ⟨by rw [upd_ne this]; exact h, by rw [mu_ne this]; exact n⟩
    have rk' : RepK G (mu M1 p (.dic (mergeD [] kvs))) (upd H1 p (.dK (mergeK [] ws))) kvs ws := ⟨rk.1, Reps.chg (fun a u _ g q => g (.inl q)) _ _ (Reps.mono1 exA _ _ rk.2)⟩
    have rm' := RepK.merge RepK.nil rk'
    obtain ⟨e2, rm2, rep2⟩ := conv_dic (kvs := mergeD [] kvs) q2 G _ (.ref p) (q4 ⟨_, upd_same, rm'.1, rm'.2⟩) rfl
    exact ⟨q1, ws, rfl, by rw [rk.length]; exact t1.1, k _ (.ref p) _ _ (q3.trans e2) rm2 rep2 t1.2⟩
  · exact t1.elim
/-! ### tuples repeated -/
theorem tuple_mul1 (l : Addr) (items : Array Value) (n : Nat) (dd : Option Addr) (sl : Array (Option Value)) (u : Tok) :
    Meets (Builtin.«tuple.__mul__» ⟨[.ref l, .int 1 u], []⟩) (fun _ R s => s.heap.get? l = some { cls := .type "tuple", dict := dd, data := .seq items n, slots := sl } ∧ R (.ok (.ret (Value.ref l))) s) :=
  .of_wp fun prog w A R s h => by
    obtain ⟨hp, g, d, tk, os⟩ := s
    obtain ⟨hl, h⟩ := h
    have f1 := AutoSeq1.idx_int
    have c1 : (items.isEmpty || (1 : Int) == 1) = true := by simp
    wp_walk using wpAny_loadPart' hl
    repeat (first
      | (refine wpAny_ite_true (by first | rfl | exact c1 | decide) ?_; wp_walk using wpAny_loadPart' hl)
      | (refine wpAny_ite_false (by first | rfl | decide) ?_; wp_walk using wpAny_loadPart' hl))
    exact ⟨_, rfl, h⟩
theorem tuple_mul0 (l : Addr) (items : Array Value) (n : Nat) (dd : Option Addr) (sl : Array (Option Value)) (x : Int) (u : Tok) (c0 : (decide (x < -(2 ^ 63)) || decide (x ≥ 2 ^ 63)) = false) (hx : x ≤ 0) (hi : items.isEmpty = false) :
    Meets (Builtin.«tuple.__mul__» ⟨[.ref l, .int x u], []⟩) (fun _ R s => s.heap.get? l = some { cls := .type "tuple", dict := dd, data := .seq items n, slots := sl } ∧
      R (.ok (.ret (Value.ref s.heap.objs.size))) { s with heap := s.heap.push { cls := Value.type "tuple", data := Data.seq #[] }, toks := s.toks }) :=
  .of_wp fun prog w A R s h => by
    obtain ⟨hp, g, d, tk, os⟩ := s
    obtain ⟨hl, h⟩ := h
    have f1 := AutoSeq1.idx_int
    have c1 : (items.isEmpty || x == 1) = false := by rw [hi, Bool.false_or]; exact beq_eq_false_iff_ne.mpr (by omega)
    have c2 : (decide (x ≤ 0) || items.isEmpty) = true := by rw [decide_eq_true hx]; rfl
    wp_walk using wpAny_loadPart' hl
    repeat (first
      | (refine wpAny_ite_false (decide_eq_false (by rw [c0]; exact Bool.false_ne_true)) ?_; wp_walk using wpAny_loadPart' hl)
      | (refine wpAny_ite_false (decide_eq_false (by rw [c1]; exact Bool.false_ne_true)) ?_; wp_walk using wpAny_loadPart' hl)
      | (refine wpAny_ite_true (decide_eq_true (by rw [c2])) ?_; wp_walk using wpAny_loadPart' hl)
      | (refine wpAny_ite_true c2 ?_; wp_walk using wpAny_loadPart' hl))
    exact ⟨_, rfl, h⟩
section
variable {X : Cx}
/-- (x, ..) * k, k at most 1 -/
def rRepLow (K : PySem.W.Frag) : R2 := fun x y H Q => ∃ l k xs, x = .ref l ∧ y = .int k ∧ SqT K H l xs ∧ xs ≠ [] ∧ -1000 ≤ k ∧ ((k = 1 ∧ Q (.ref l) H) ∨ (k ≤ 0 ∧ ∀ p, H p = none → Q (.ref p) (upd H p (.tup []))))
theorem op_repLow : OpR X (binaryOp .Mult) (rRepLow X.K) := by
  intro pins s σ H x y v u Q I rx ry h
  obtain ⟨l, k, xs, rfl, rfl, hT, hne, h1, hq⟩ := h
  cases rx
  obtain ⟨t, rfl⟩ := ry
  obtain ⟨its, r, ⟨⟨cls, dd, data, sl⟩, ho, hc, n, hd⟩, hs⟩ := I.tuple hT
  simp only at hc hd
  subst hc hd
  have hi : its.toArray.isEmpty = false := by
    have hle : its.length = xs.length := r.length.symm
    cases its with
    | nil => exact absurd (List.eq_nil_of_length_eq_zero hle.symm) hne
    | cons a b => rfl
  have low := fun (t : Tok) (k : Int) => int_rmul_tuple k t l its.toArray n dd sl
  rcases hq with ⟨rfl, q⟩ | ⟨hk, q⟩
  · refine wpAny_binaryOp_repeat_ref (T := "tuple") (U := "int") (by decide) ⟨_, ho, rfl⟩ (fun s' => typeIs_int s' 1 t) noFill_tuple_mul PySem.F.fills_int_mul PySem.F.slot_int_rmul repeat_tuple PySem.F.slot_int_index.lookup
      (call_meets PySem.F.slot_int_rmul (typeIs_int s 1 t) PySem.F.entry_int_rmul (PySem.F.args_int_rmul_2 _ _) (low t 1)
        ⟨ho, rfl, ⟨_, ho, rfl⟩, call_meets PySem.F.slot_tuple_mul ⟨_, ho, rfl⟩ PySem.F.entry_tuple_mul (PySem.F.args_tuple_mul_2 _ _) (tuple_mul1 l its.toArray n dd sl t) ⟨ho, ?_⟩⟩)
    exact ⟨.ref l, H, I, rfl, q⟩
  · refine wpAny_binaryOp_repeat_ref (T := "tuple") (U := "int") (by decide) ⟨_, ho, rfl⟩ (fun s' => typeIs_int s' k t) noFill_tuple_mul PySem.F.fills_int_mul PySem.F.slot_int_rmul repeat_tuple PySem.F.slot_int_index.lookup
      (call_meets PySem.F.slot_int_rmul (typeIs_int s k t) PySem.F.entry_int_rmul (PySem.F.args_int_rmul_2 _ _) (low t k)
        ⟨ho, rfl, ⟨_, ho, rfl⟩, call_meets PySem.F.slot_tuple_mul ⟨_, ho, rfl⟩ PySem.F.entry_tuple_mul (PySem.F.args_tuple_mul_2 _ _) (tuple_mul0 l its.toArray n dd sl k t (by rw [decide_eq_false (by omega), decide_eq_false (by omega)] <;> rfl) hk hi) ⟨ho, ?_⟩⟩)
    refine ⟨.ref s.heap.objs.size, _, I.laid (t' := s.toks) (o := .tup []) (fun b ob q => Heap.get?_push_of_some _ q) (Nat.le_refl _) ?_, rfl, q _ (I.hok.fresh (Nat.le_refl _))⟩
    exact ⟨by simp, [], .nil, IsTup.new _ _⟩
end
/-- a tuple, repeated -/
def rzMulT : R2Z := fun x y M Q => match x, y with
  | .tup xs, .int k => xs ≠ [] ∧ xs.length ≤ 1000 ∧ -1000 ≤ k ∧ k ≤ 1000 ∧ Q (.tup (List.replicate k.toNat xs).flatten) M
  | _, _ => False
theorem lr_mulT {K : PySem.W.Frag} : LiftR (fun x y H Q => rRepLow K x y H Q ∨ rRepT K x y H Q) rzMulT := by
  intro G M H x y d e Q Q' rm rx ry h (k : Kont G M H Q Q')
  unfold rzMulT at h
  split at h
  · next xs n =>
    obtain ⟨a, vs, rfl, h1, h2, h3⟩ := id rx
    obtain ⟨q1, q2, q3, q4, q5⟩ := h
    have hv : vs ≠ [] := fun z => q1 (List.eq_nil_of_length_eq_zero (by rw [h3.length, z]; rfl))
    have r' := reps_rep h3 n.toNat
    by_cases n1 : n = 1
    · subst n1
      refine .inl ⟨a, 1, vs, rfl, ry, SqT.of h1.1, hv, q3, .inl ⟨rfl, ?_⟩⟩
      have e : (List.replicate (1 : Int).toNat xs).flatten = xs := by simp
      rw [e] at q5
      exact k _ _ M H Ex.refl rm rx q5
    · by_cases n0 : n ≤ 0
      · refine .inl ⟨a, n, vs, rfl, ry, SqT.of h1.1, hv, q3, .inr ⟨n0, fun p hp => ?_⟩⟩
        have e : n.toNat = 0 := by omega
        rw [e] at q5
        exact k _ _ M _ (ex_new rm hp) (rel_new rm hp) (rep_new_tup rm hp (by simp) .nil) q5
      · refine .inr ⟨a, n, vs, rfl, ry, SqT.of h1.1, hv, by omega, q4, by rw [← h3.length]; exact q2, fun p hp => ?_⟩
        refine k _ _ M _ (ex_new rm hp) (rel_new rm hp) (rep_new_tup rm hp ?_ r') q5
        rw [PyProof.Rows.lm_len_rep_flat]
        have a1 : n.toNat * vs.length ≤ 1000 * 1000 := Nat.mul_le_mul (by omega) (by rw [← h3.length]; exact q2)
        exact Nat.le_trans a1 (by decide)
  · exact h.elim
theorem q_mulT {X : Cx} {a b : Expr} {pos : Pos} {Ta Tb : TZ} (ha : ZE X a Ta) (hb : ZE X b Tb) : ZE X (.BinOp a .Mult b pos) (zBin rzMulT Ta Tb) := ze_op (OpR.or op_repLow op_repT) lr_mulT ha hb
/-- a text, repeated: some text -/
def rMulS : R2 := fun x y H Q => ∃ (a : Str) (k : Int), x = .str a ∧ y = .int k ∧ -1000 ≤ k ∧ k ≤ 1000 ∧ a.length ≤ 1000 ∧ ∀ S : Str, Q (.str S) H
theorem op_mulS {X : Cx} : OpR X (binaryOp .Mult) rMulS := by
  intro pins s σ H x y v u Q I rx ry h
  obtain ⟨a, k, rfl, rfl, h1, h2, h3, q⟩ := h
  obtain ⟨t, rfl⟩ := rx
  obtain ⟨t2, rfl⟩ := ry
  have fin : ∀ (S : Str) (tk tk' : Tok), EP X pins σ Q (.str S tk) { s with toks := tk' } := fun S tk tk' => ⟨.str S, H, I.tok _, ⟨_, rfl⟩, q S⟩
  have big : ((a.length : Nat) : Int) * k ≤ 1000000 := by
    by_cases hk : k ≤ 0
    · have : ((a.length : Nat) : Int) * k ≤ 0 := Int.mul_nonpos_of_nonneg_of_nonpos (by omega) hk
      omega
    · have : ((a.length : Nat) : Int) * k ≤ 1000 * 1000 := Int.mul_le_mul (by omega) h2 (by omega) (by decide)
      omega
  refine P.mul_str (by rw [decide_eq_false (by omega), decide_eq_false (by omega)] <;> rfl) (fun hk _ => ?_) (fun hk _ => ?_) ?_
  · refine Int.not_lt.mpr (Int.le_ediv_of_mul_le (by omega) ?_)
    omega
  · refine decide_eq_false ?_
    have : a.length * k.toNat ≤ 1000 * 1000 := Nat.mul_le_mul h3 (by omega)
    have : 1000 * 1000 ≤ sizeLine := by decide
    omega
  · split
    · exact ⟨by decide, fin _ _ _⟩
    · split
      · exact ⟨.str a, H, I, ⟨_, rfl⟩, q a⟩
      · refine ⟨?_, fin _ _ _⟩
        have e : ∀ (m : Nat) (acc : Array Nat), (List.foldl (fun x1 x2 => x1 ++ x2) acc (List.replicate m a.cps)).size = acc.size + m * a.cps.size := fun m => by
          induction m with
          | zero => intro acc; simp
          | succ m ih => intro acc; rw [List.replicate_succ, List.foldl_cons, ih, Array.size_append, Nat.add_mul]; omega
        show (List.foldl (fun x1 x2 => x1 ++ x2) #[] (List.replicate k.toNat a.cps)).size ≤ sizeLine
        rw [e]
        have h3 : a.cps.size ≤ 1000 := h3
        have : k.toNat * a.cps.size ≤ 1000 * 1000 := Nat.mul_le_mul (by omega) h3
        have : 1000 * 1000 ≤ sizeLine := by decide
        simp only [Array.size_empty]
        omega
def rzMulS : R2Z := fun x y M Q => match x, y with
  | .str a, .int k => -1000 ≤ k ∧ k ≤ 1000 ∧ a.length ≤ 1000 ∧ ∀ S : Str, Q (.str S) M
  | _, _ => False
theorem lr_mulS : LiftR rMulS rzMulS := by
  intro G M H x y d e Q Q' rm rx ry h (k : Kont G M H Q Q')
  unfold rzMulS at h
  split at h
  · next a n => exact ⟨a, n, rx, ry, h.1, h.2.1, h.2.2.1, fun S => k (.str S) _ M H Ex.refl rm rfl (h.2.2.2 S)⟩
  · exact h.elim
theorem q_mulS {X : Cx} {a b : Expr} {pos : Pos} {Ta Tb : TZ} (ha : ZE X a Ta) (hb : ZE X b Tb) : ZE X (.BinOp a .Mult b pos) (zBin rzMulS Ta Tb) := ze_op op_mulS lr_mulS ha hb
theorem ze_trg {X : Cx} {e : Expr} {p pos : Pos} {T : TRZ} (hc : X.calm = true) (hg : Gl X "tuple") (hm : X.mg "tuple" = none) (he : PRg X e (liftR T)) (na : starEach [e] X.env = (false, eval e X.env) :: starEach [] X.env := by rfl) : ZE X (.Call (.Name "tuple" p) [e] [] pos) (zTRg T) :=
  PE.wk (pe_tupRg hc hg hm he na) fun σ H Q h => by
  obtain ⟨G, env, M, Q', rs, rm, t, k⟩ := h
  refine ⟨G, env, M, _, rs, rm, t, fun a b M1 H1 e1 rm1 ⟨ok, t1⟩ => ⟨⟨by omega, by omega, by omega, by omega, by omega⟩, fun q hq => ?_⟩⟩
  exact k _ _ M1 _ (e1.trans (ex_new rm1 hq)) (rel_new rm1 hq) (rep_new_tup rm1 hq (by rw [rgV_length, sizeLine_eq]; omega) (reps_rg a b)) t1
end Zz

set_option Elab.async false
set_option linter.all false
set_option maxRecDepth 100000
set_option maxHeartbeats 2000000
/-! Z25: repr(a) != repr(b); data whose text is short. -/
namespace Zz
open PySem PySem.Spec L2

/-! ### texts alike -/
def rNeS : R2 := fun x y H Q => ∃ a b, x = .str a ∧ y = .str b ∧ Q (.bl (!(a == b))) H
theorem op_neS {X : Cx} : OpR X (compareOp .NotEq) rNeS := by
  intro pins s σ H x y v u Q I rx ry h
  obtain ⟨a, b, rfl, rfl, q⟩ := h
  obtain ⟨t, rfl⟩ : ∃ t, v = .str a t := rx
  obtain ⟨t2, rfl⟩ : ∃ t, u = .str b t := ry
  exact SeqAt.RcNeAt.str_str a t b t2 _ _ _ _ ⟨.bl _, H, I, rfl, q⟩
def rzNeS : R2Z := fun x y M Q => match x, y with
  | .str a, .str b => Q (.bl (!(a == b))) M
  | _, _ => False
theorem lr_neS : LiftR rNeS rzNeS := by
  intro G M H x y d e Q Q' rm rx ry h (k : Kont G M H Q Q')
  unfold rzNeS at h
  split at h
  · next a b => exact ⟨a, b, rx, ry, k (.bl _) _ M H Ex.refl rm rfl h⟩
  · exact h.elim
section
variable {X : Cx} {a b : Expr} {pos : Pos} {Ta Tb : TZ}
theorem q_neS (ha : ZE X a Ta) (hb : ZE X b Tb) : ZE X (.Compare a [.NotEq] [b] pos) (zBin rzNeS Ta Tb) := ze_cmp op_neS lr_neS ha hb
theorem p_neS (ha : ZE X a Ta) (hb : ZE X b Tb) : ZP X (.Compare a [.NotEq] [b] pos) (zTst (zBin rzNeS Ta Tb)) := zp_cmp op_neS lr_neS ha hb
end
/-! ### short data -/
mutual
def smI : D → Bool
  | .int i => decide (i.natAbs < 10 ^ 12)
  | .tup xs => smIs xs
  | .lst xs => smIs xs
  | _ => true
def smIs : List D → Bool
  | [] => true
  | x :: xs => smI x && smIs xs
end
theorem log_small {i : Int} (h : i.natAbs < 10 ^ 12) : i.natAbs.log2 < 40 := by
  by_cases h0 : i.natAbs = 0
  · rw [h0]; decide
  · exact (Nat.log2_lt h0).mpr (Nat.lt_of_lt_of_le h (by decide))
mutual
theorem smI_ints : ∀ d : D, smI d = true → (toPy d).intsShort 13 = true
  | .non, _ => rfl
  | .bl _, _ => rfl
  | .int i, h => by
    have h : i.natAbs < 10 ^ 12 := of_decide_eq_true h
    show decide _ = true
    exact decide_eq_true (PyData.shown_int_le h)
  | .str _, _ => rfl
  | .tup xs, h => smIs_ints xs h
  | .lst xs, h => smIs_ints xs h
  | .dic _ _, _ => rfl
  | .dct _ _, _ => rfl
  | .ref _, _ => rfl
  | .ty _, _ => rfl
  | .kls _ _ _, _ => rfl
  | .err _ _ _, _ => rfl
  | .exc _ _ _, _ => rfl
  | .lam _ _ _, _ => rfl
theorem smIs_ints : ∀ xs : List D, smIs xs = true → PyData.intsShortAll 13 (toPys xs) = true
  | [], _ => rfl
  | x :: xs, h => by
    have h : (smI x && smIs xs) = true := h
    rw [Bool.and_eq_true] at h
    show (_ && _) = true
    rw [smI_ints x h.1, smIs_ints xs h.2]; rfl
end
mutual
theorem smI_showable : ∀ d : D, smI d = true → (toPy d).showable = true
  | .non, _ => rfl
  | .bl _, _ => rfl
  | .int i, h => by
    have h : i.natAbs < 10 ^ 12 := of_decide_eq_true h
    show decide _ = true
    have := log_small h
    exact decide_eq_true (by omega)
  | .str _, _ => rfl
  | .tup xs, h => smIs_showable xs h
  | .lst xs, h => smIs_showable xs h
  | .dic _ _, _ => rfl
  | .dct _ _, _ => rfl
  | .ref _, _ => rfl
  | .ty _, _ => rfl
  | .kls _ _ _, _ => rfl
  | .err _ _ _, _ => rfl
  | .exc _ _ _, _ => rfl
  | .lam _ _ _, _ => rfl
theorem smIs_showable : ∀ xs : List D, smIs xs = true → PyData.showableAll (toPys xs) = true
  | [], _ => rfl
  | x :: xs, h => by
    have h : (smI x && smIs xs) = true := h
    rw [Bool.and_eq_true] at h
    show (_ && _) = true
    rw [smI_showable x h.1, smIs_showable xs h.2]; rfl
end
/-- data at most n deep whose numbers and texts are short, of at most that weight -/
structure Sho (n w : Nat) (d : D) : Prop where
  ok : ∀ k, n ≤ k → okD k d = true
  sm : smI d = true
  wt : (toPy d).weight ≤ w
theorem Sho.mono {n w n' w' : Nat} {d : D} (h : Sho n w d) (hn : n ≤ n' := by decide) (hw : w ≤ w' := by decide) : Sho n' w' d := ⟨fun k hk => h.ok k (Nat.le_trans hn hk), h.sm, Nat.le_trans h.wt hw⟩
theorem Sho.non : Sho 0 40 .non := ⟨fun k _ => by cases k <;> rfl, rfl, by decide⟩
theorem Sho.bl {b : Bool} : Sho 0 40 (.bl b) := ⟨fun k _ => by cases k <;> rfl, rfl, by show 0 ≤ 40; decide⟩
theorem Sho.int {i : Int} (h : i.natAbs < 10 ^ 12) : Sho 0 40 (.int i) := ⟨fun k _ => by cases k <;> rfl, decide_eq_true h, by
  show (if i == 0 then 0 else i.natAbs.log2 + 1) ≤ 40
  have := log_small h
  split <;> omega⟩
theorem Sho.str {x : Str} (h : PyData.strOk x = true) (hl : x.cps.size ≤ 40) : Sho 0 40 (.str x) := ⟨fun k _ => by cases k <;> exact h, rfl, hl⟩
theorem smIs_all : ∀ {xs : List D}, (∀ x, x ∈ xs → smI x = true) → smIs xs = true
  | [], _ => rfl
  | x :: xs, h => by
    show (_ && _) = true
    rw [h x List.mem_cons_self, smIs_all fun y hy => h y (List.mem_cons_of_mem x hy)]; rfl
theorem okDs_alls {n : Nat} : ∀ {xs : List D}, (∀ x, x ∈ xs → okD n x = true) → okDs n xs = true
  | [], _ => rfl
  | x :: xs, h => by
    show (_ && _) = true
    rw [h x List.mem_cons_self, okDs_alls fun y hy => h y (List.mem_cons_of_mem x hy)]; rfl
theorem wt_all {w : Nat} : ∀ {xs : List D}, (∀ x, x ∈ xs → (toPy x).weight ≤ w) → PyData.weightAll (toPys xs) ≤ xs.length * (w + 1)
  | [], _ => Nat.zero_le _
  | x :: xs, h => by
    have h1 := h x List.mem_cons_self
    have h2 := wt_all fun y hy => h y (List.mem_cons_of_mem x hy)
    show (toPy x).weight + 1 + PyData.weightAll (toPys xs) ≤ (xs.length + 1) * (w + 1)
    rw [Nat.add_mul, Nat.one_mul]
    omega
theorem Sho.tup {n w : Nat} {xs : List D} (h : ∀ x, x ∈ xs → Sho n w x) : Sho (n + 1) (xs.length * (w + 1)) (.tup xs) := ⟨fun k hk => by
    obtain ⟨j, rfl⟩ : ∃ j, k = j + 1 := ⟨k - 1, by omega⟩
    exact okDs_alls fun x hx => (h x hx).ok j (by omega), smIs_all fun x hx => (h x hx).sm, wt_all fun x hx => (h x hx).wt⟩
theorem Sho.lst {n w : Nat} {xs : List D} (h : ∀ x, x ∈ xs → Sho n w x) : Sho (n + 1) (xs.length * (w + 1)) (.lst xs) := ⟨fun k hk => by
    obtain ⟨j, rfl⟩ : ∃ j, k = j + 1 := ⟨k - 1, by omega⟩
    exact okDs_alls fun x hx => (h x hx).ok j (by omega), smIs_all fun x hx => (h x hx).sm, wt_all fun x hx => (h x hx).wt⟩
/-- two of a kind in a list -/
theorem Sho.two {n w : Nat} {x y : D} (h : Sho n w x) (h2 : Sho n w y) : Sho (n + 1) (2 * (w + 1)) (.lst [x, y]) := by
  have := Sho.lst (n := n) (w := w) (xs := [x, y]) fun z hz => by
    simp only [List.mem_cons, List.not_mem_nil, or_false] at hz
    rcases hz with rfl | rfl
    · exact h
    · exact h2
  exact this
theorem repr_sm {n w : Nat} {d : D} {M : MM} {Q : D → MM → Prop} (h : Sho n w (view M d)) (hn : n ≤ 60) (hw : w ≤ 2 ^ 20) (q : Q (.str (toPy (view M d)).shown) M) : rzRepr [d] M Q :=
  ⟨h.ok 60 hn, smI_showable _ h.sm, PyData.shown_fits (B := 13) (by decide) (by decide) (PyData.leavesShort_of_canLay0 13 _ (ok_lay 60 _ (h.ok 60 hn)).1 (smI_ints _ h.sm)) (Nat.le_trans h.wt hw), q⟩
theorem ev_repr {Ta : TZ} {env : ZT} {M : MM} {d e : D} {n w : Nat} (ha : Ev Ta env M d) (hv : view M d = e) (h : Sho n w e) (hn : n ≤ 60 := by decide) (hw : w ≤ 2 ^ 20 := by decide) : Ev (zCall rzRepr (zaCons Ta zaNil)) env M (.str (toPy e).shown) := fun Q k => by
  subst hv
  exact ha _ (repr_sm h hn hw k)
theorem ev_neS {Ta Tb : TZ} {env : ZT} {M : MM} {S : Str} (ha : Ev Ta env M (.str S)) (hb : Ev Tb env M (.str S)) : EvT (zTst (zBin rzNeS Ta Tb)) env M false := fun Q k => ha _ (hb _ (by
  show Q (!(S == S)) M
  rw [beq_self_eq_true]; exact k))
/-- repr(a) != repr(b) is False where both are told alike -/
theorem ev_rr {Ta Tb : TZ} {env : ZT} {M : MM} {d d2 e : D} {n w : Nat} (ha : Ev Ta env M d) (hb : Ev Tb env M d2) (hv : view M d = e) (hv2 : view M d2 = e) (h : Sho n w e) (hn : n ≤ 60 := by decide) (hw : w ≤ 2 ^ 20 := by decide) : EvT (zTst (zBin rzNeS (zCall rzRepr (zaCons Ta zaNil)) (zCall rzRepr (zaCons Tb zaNil)))) env M false :=
  ev_neS (ev_repr ha hv h hn hw) (ev_repr hb hv2 h hn hw)
end Zz

set_option Elab.async false
set_option linter.all false
set_option maxRecDepth 100000
set_option maxHeartbeats 2000000
/-! Z26: isinstance by several built-in classes; lambdas as values. -/
namespace Zz
open PySem PySem.Spec PyProof.Rows L2 LamX

/-! ### isinstance(e, (T, ..)) -/
def kdVs (ks : List Kd) : List Value := ks.map fun k => Value.type k.nm
theorem kitAny_ks {K : PySem.W.Frag} (a : Kd) : ∀ ks : List Kd, (∀ k ∈ ks, k ≠ .non) → PySem.W.kitAny K (.type a.nm) (kdVs ks) = some (ks.any (isK a))
  | [], _ => rfl
  | k :: ks, h => kitAny_cons (b := isK a k) (kit_ty (kit_all a k (h k List.mem_cons_self))) (fun e => by
      rw [List.any_cons, e, Bool.false_or]
      exact kitAny_ks a ks fun x hx => h x (List.mem_cons_of_mem k hx)) (fun e => by rw [List.any_cons, e]; rfl)
theorem clsV_ks : ∀ ks : List Kd, Paired ClsV (ks.map fun k => V.ty k.nm) (kdVs ks)
  | [] => .nil
  | k :: ks => .cons (.ty _) (clsV_ks ks)
def rzIsiL (ks : List Kd) : RCZ := fun ds M Q => match ds with
  | [d, .tup xs] => (∀ k ∈ ks, k ≠ .non) ∧ xs = (ks.map fun k => D.ty k.nm) ∧ match kdOf M d with
    | some k => Q (.bl (ks.any (isK k))) M
    | none => False
  | _ => False
theorem reps_ty {G : Addr → Prop} {M : MM} {H : Hp} : ∀ {ks : List Kd} {vs : List V}, Reps G M H (ks.map fun k => D.ty k.nm) vs → vs = ks.map fun k => V.ty k.nm
  | [], vs, h => h
  | k :: ks, vs, h => by
    obtain ⟨v, r, rfl, h1, h2⟩ := h
    obtain rfl : v = .ty k.nm := h1
    rw [reps_ty h2]; rfl
theorem lc_isiL {K : PySem.W.Frag} {ks : List Kd} : LiftC (rIsiT K) (rzIsiL ks) := by
  intro G M H xs ds Q Q' rm r h (k : Kont G M H Q Q')
  unfold rzIsiL at h
  split at h
  · next d ys =>
    obtain ⟨v, r1, rfl, rv, hr⟩ := r
    obtain ⟨v2, r2, rfl, rv2, hr2⟩ := hr
    obtain rfl : r2 = [] := hr2
    obtain ⟨a, vs, rfl, h2, _, h4⟩ := rv2
    obtain ⟨hn, rfl, h⟩ := h
    split at h
    · next kd hk => exact ⟨v, a, _, _, _, _, rfl, h2.1, by rw [reps_ty h4]; exact clsV_ks ks, ty_of rm rv hk, kitAny_ks kd ks hn, k (.bl _) _ M H Ex.refl rm rfl h⟩
    · exact h.elim
  · exact h.elim
theorem ze_isiL {X : Cx} {e e2 : Expr} {T T2 : TZ} {p pos : Pos} (ks : List Kd) (B : Bs X.mg) (he : ZE X e T) (h2 : ZE X e2 T2) (hg : Gl X "isinstance" := by rfl)
    (hs : starEach [e, e2] X.env = (false, eval e X.env) :: starEach [e2] X.env := by rfl) (hs2 : starEach [e2] X.env = (false, eval e2 X.env) :: starEach [] X.env := by rfl) (hpl : (backTo pos (starEach [e2] X.env)).any (·.1) = false := by rfl) :
    ZE X (.Call (.Name "isinstance" p) [e, e2] [] pos) (zCall (rzIsiL ks) (zaCons T (zaCons T2 zaNil))) :=
  ze_callB call_isiT lc_isiL hg B.isinstance (by rfl) (za_cons he (za_cons h2 za_nil hs2) hs) (by decide) (by decide) hs hpl

/-! ### lambdas as values -/
theorem lamO_ok {P : Program} {w : World} {H : Hp} {h : Heap} {q : Str} {n : LamN} {clo : List (Str × Addr)} {a c' : Addr} {pm ctv : Value} (e : h.get? a = some (PySem.W.kla_obj "<lambda>" q n.params n.body n.scope clo pm c' ctv)) : ObjOk P w H h a (LamO q n clo a c') :=
  ⟨⟨pm, ctv, e⟩, ⟨_, e⟩, fun h1 h2 ⟨pm, ctv, e⟩ st => ⟨pm, ctv, st _ e⟩⟩
section
variable {X : Cx} {pins : List (Addr × Obj)} {σ : L2.St} {H : Hp} {s : Shared}
/-- a lambda is made and tracked -/
theorem lam_tr {R : Addr → Prop} {c P : Addr} {n : LamN} {pos : Pos} {ps : Array Value} {E : Value → Shared → Prop} {Q : Value → Shared → Prop} (I : Inv X pins σ H s) (TB : TabB X.base X.mg c P) (hcode : X.env.code = .ref c) (hP : H P = some (.tbl ps)) (ht : TriplesOk ps.toList)
    (ha : ∀ (pos : Pos) (cv : Value), codeAmong pos ps.toList = some cv → ∃ c, cv = .ref c ∧ H c = some (CodeO c (X.env.qual ++ "<lambda>")) ∧ R c) (hdef : defaultsOf n.params X.env = ([], [])) (hfree : ∀ y ∈ n.scope.names, y.2 = .free → ∃ c, X.env.cells.lookup y.1 = some c)
    (h : ∀ (f c' : Addr) (H1 : Hp) (s' : Shared), Made H P ps pos (X.env.qual ++ "<lambda>") c' H1 → (R c' ∨ H c' = none) → H1 f = none →
      Inv X pins σ (upd H1 f (LamO (X.env.qual ++ "<lambda>") n (cloFrom X.env.cells n.scope.names []) f c')) s' → Q (.ref f) s') :
    wpAny (model X.prog X.w) X.A (eval (.Lambda n.params n.body n.scope pos) X.env) Q E s := by
  have there : s.heap.get? P = some { cls := .none, data := .fields ps } := I.hok P _ hP
  refine PySem.W.kla_eval hdef ?_
  match hc : codeAmong pos ps.toList with
  | some cv =>
    obtain ⟨c', rfl, hco, hR⟩ := ha pos cv hc
    refine PySem.W.kla_makeFunctionHit (mg := X.mg) (c := c) (P := P) (ps := ps) (closure_ok hfree) I.ok.glob (I.mod.glob.keeps I.bk) hcode (TB.code.keeps I.bk) there ht hc (TB.bm.keeps I.bk) fun ctv h' tk hx hsz => ?_
    refine h h'.objs.size c' H _ (.inl ⟨rfl, hco⟩) (.inl hR) (I.hok.fresh hsz) ?_
    exact I.laid (t' := tk) (fun b o e => Heap.get?_push_of_some _ (hx b o e)) hsz (lamO_ok (Heap.get?_push_size _ rfl))
  | none =>
    refine PySem.W.kla_makeFunction (mg := X.mg) (c := c) (P := P) (ps := ps) (closure_ok hfree) I.ok.glob (I.mod.glob.keeps I.bk) hcode (TB.code.keeps I.bk) there ht hc TB.gP (TB.bm.keeps I.bk) fun c' ctv h' tk hx hge hlt hrec htb => ?_
    obtain ⟨_, oc, vs, t, e2, hoc, hd, hv⟩ := hrec
    cases e2
    have hsz : s.heap.objs.size ≤ h'.objs.size := Nat.le_trans hge (Nat.le_of_lt hlt)
    have nP : h'.objs.size ≠ P := Nat.ne_of_gt (Nat.lt_of_lt_of_le (Heap.lt_size there) hsz)
    have I1 := inv_table (t' := tk) (more := #[rawInt pos.line, rawInt pos.col, .ref c']) I hP (fun b o hb e => hx b o hb e) htb hge ⟨oc, vs, t, hoc, hd, hv⟩
    refine h h'.objs.size c' _ _ (.inr ⟨I.hok.fresh hge, rfl⟩) (.inr (I.hok.fresh hge)) ?_ (I1.laid (t' := tk) (fun b o e => Heap.get?_push_of_some _ e) (Nat.le_refl _) (lamO_ok (Heap.get?_push_size _ rfl)))
    rw [upd_ne (Nat.ne_of_gt hlt), upd_ne nP]
    exact I.hok.fresh hsz
end
def zLam (P : Addr) (q : Str) (cells : List (Str × Addr)) (n : LamN) : TZ := fun _ M Q => M P = some (.tab q) ∧ Q (.lam cells q n) M
theorem ze_lam {X : Cx} {c P : Addr} {pos : Pos} (n : LamN) (TB : TabB X.base X.mg c P) (hcode : X.env.code = .ref c) (L : LamS X.env.scope n.scope) (hdef : defaultsOf n.params X.env = ([], []) := by rfl) :
    ZE X (.Lambda n.params n.body n.scope pos) (zLam P (X.env.qual ++ "<lambda>") X.env.cells n) := by
  refine ⟨fun pins s σ H Q I h => ?_⟩
  obtain ⟨G, env, M, Q', rs, rm, ⟨hM, t⟩, kk⟩ := h
  obtain ⟨ps, hP, ht, hcs⟩ := rm.1 P _ hM
  refine lam_tr (R := fun c => M c = none ∧ ¬ G c) I TB hcode hP ht (fun pos cv hc => by obtain ⟨c0, r1, r2, r3, r4⟩ := hcs pos cv hc; exact ⟨c0, r1, r2, r3, r4⟩) hdef (L.has I.ok) fun f c' H1 s' mk hr hf I1 => ?_
  obtain ⟨ex1, rm1⟩ := made_rel rm hM hP mk
  have hr2 : M c' = none ∧ ¬ G c' := hr.elim id fun z => ⟨rm.fresh z, rm.noG z⟩
  have ncf : c' ≠ f := fun z => by rw [z] at mk; rw [mk.at] at hf; cases hf
  exact ⟨.ref f, _, I1, rfl, kk (.lam X.env.cells (X.env.qual ++ "<lambda>") n) (.ref f) M _ (ex1.trans (ex_new rm1 hf)) (rel_new rm1 hf) ⟨f, c', rfl, ⟨upd_same, rm1.fresh hf, rm1.noG hf⟩, ⟨by rw [upd_ne ncf]; exact mk.at, hr2.1, hr2.2⟩⟩ t⟩
/-- as act_own, of a lambda that is tracked -/
theorem act_tr {X : Cx} {pins : List (Addr × Obj)} {σ : L2.St} {H : Hp} {s : Shared} {CXg : CXT} {Eg : XK} {Ng : List Str} {qg : Str} {sg : Scope} {g f c' : Addr} {cdg : Value} {n : LamN} {k i : Nat} {a : Str} {pn : List (Addr × Obj)}
    {xe : Value → Shared → Prop} {W : WX} {E : XK} {tb : TE} {p1 p2 : Pos} (I : Inv X pins σ H s) (L : LamS X.env.scope n.scope)
    (hbind : ∀ (q : Str) (cl : List (Str × Addr)) (pm cv ctv : Value), bindArgs (PySem.W.kla_fn "<lambda>" q n.params n.body n.scope cl pm cv ctv) ⟨[], []⟩ = pure []) (tk : Takes ((cxOf CXg X.prog X.w X.K X.mg X.base Ng qg sg g cdg X.A X.stack s H Eg).tr pn xe) W)
    (hW : ∀ cls d σ' H', E cls d H' → W cls d σ' H') (hr : RoomG (k + 1) (X.A.deeper (envOfC qg sg s.heap.objs.size g cdg))) (hbody : ∀ (A : Around) (outer : List Env) (s : Shared) (H : Hp), RoomG k (A.deeper (lamEnv X n.scope s.heap.objs.size f c')) → PE (lamCx X A outer s H E n.scope f c') n.body tb)
    (hN : Ng[i]? = some a) (hv : Vis sg a) (hd : (a == ("__debug__" : Str)) = false) (hcd : (a == ("__classdict__" : Str)) = false) :
    PE ((cxOf CXg X.prog X.w X.K X.mg X.base Ng qg sg g cdg X.A X.stack s H Eg).tr pn xe) (.Call (.Name a p1) [] [] p2) (fun σZ HZ Q => σZ[i]? = some (some (.ref f)) ∧ HZ c' = some (CodeO c' (X.env.qual ++ "<lambda>")) ∧ HZ f = some (LamO (X.env.qual ++ "<lambda>") n (cloFrom X.env.cells n.scope.names []) f c') ∧ tb σ HZ Q) := by
  refine ⟨fun pinsZ sZ σZ HZ Q IZ ⟨hs, hc, hl, ht⟩ => wpAny_Call_Name_kw (thn ((pe_var (pos := p1) (i := i) hN hv hd hcd).run pinsZ sZ σZ HZ (fun v H1 => v = .ref f ∧ H1 = HZ) IZ ⟨.ref f, hs, rfl, rfl⟩) fun u s1 ⟨v, H1, I1, r1, ev, eH⟩ => ?_)⟩
  subst ev eH
  obtain rfl : u = Value.ref f := r1
  obtain ⟨⟨pm, ctv, lam⟩, _, _⟩ := I1.hok f _ hl
  obtain ⟨⟨oc, vs, t, hoc, hdc, hvc⟩, _, _⟩ := I1.hok c' _ hc
  refine PySem.W.callWith_F0 ⟨_, _, _, _, lam⟩ ?_
  have whole : codeAny (model X.prog X.w) (X.A.deeper (envOfC qg sg s.heap.objs.size g cdg)) (.call (.ref f) ⟨[], []⟩) (CR (L2.CX X.prog X.w) (envOfC qg sg s.heap.objs.size g cdg :: X.stack) X.prog X.w H1 s1 Q E) s1 := by
    refine PySem.W.kla_callFunE hr.r.depth lam rfl L.co L.gen rfl ⟨c', oc, vs, t, rfl, hoc, hdc, hvc⟩ (hbind _ _ _ _ _ ▸ ?_)
    refine wpAny_pure (wpAny_newFunctionEnv (fun y hy => (L.own y hy).2) (fun y hy => absurd hy (by simp)) (fun h₁ hns hsb => ⟨I1.nolimit.fresh _ hsb, ?_⟩) L.kind)
    have kp : ∀ b o, s1.heap.get? b = some o → h₁.get? b = some o := fun b o e => hsb.extBut b o (Nat.ne_of_lt (Heap.lt_size e)) (Heap.get?_push_of_some _ e)
    have J := lam_start2 (E := E) (f := f) (c' := c') (tk := s1.toks + ([] : List (Str × Value)).length) I L I1.env0 hr.r.hd I1.base hns kp
    refine PySem.W.kla_codeExpr (wpAny_mono ((hbody _ _ s1 H1 (hr.deeper _)).run [] _ _ H1 Q J ht) (fun v s' ⟨w', H', J', rv, q⟩ => ⟨w', H', J'.os, J'.bare, J'.base, J'.hok, rv, q⟩) fun e s' q => q)
  refine wpAny_call (codeAny_mono whole fun r s' hq => ?_)
  match r, hq with
  | .error e, hq => exact passes_call tk hW pinsZ σZ H1 s1 e s' I1 hq
  | .ok (.ret u), hq => exact I1.after hq
/-- one of some lambdas, in a variable -/
structure LamA (X : Cx) (k : Nat) (n : LamN) (T : TZ) : Prop where
  sc : LamS X.env.scope n.scope
  hbind : ∀ (q : Str) (cl : List (Str × Addr)) (pm cv ctv : Value), bindArgs (PySem.W.kla_fn "<lambda>" q n.params n.body n.scope cl pm cv ctv) ⟨[], []⟩ = pure []
  body : ∀ (A : Around) (outer : List Env) (s : Shared) (H : Hp) (E : XK) (f c' : Addr), RoomG k (A.deeper (lamEnv X n.scope s.heap.objs.size f c')) → Takes (lamCx X A outer s H E n.scope f c') (fun cls d _ H' => E cls d H') → ZEX (lamCx X A outer s H E n.scope f c') (fun cls d _ H' => E cls d H') n.body T
def LamAll (X : Cx) (k : Nat) (cs : List (LamN × TZ)) : Prop := ∀ p ∈ cs, LamA X k p.1 p.2
theorem lama_nil {X : Cx} {k : Nat} : LamAll X k [] := fun p hp => by cases hp
theorem lama_cons {X : Cx} {k : Nat} {n : LamN} {T : TZ} {cs : List (LamN × TZ)} (L : LamS X.env.scope n.scope)
    (hbody : ∀ (A : Around) (outer : List Env) (s : Shared) (H : Hp) (E : XK) (f c' : Addr), RoomG k (A.deeper (lamEnv X n.scope s.heap.objs.size f c')) → Takes (lamCx X A outer s H E n.scope f c') (fun cls d _ H' => E cls d H') → ZEX (lamCx X A outer s H E n.scope f c') (fun cls d _ H' => E cls d H') n.body T)
    (h : LamAll X k cs) (hbind : ∀ (q : Str) (cl : List (Str × Addr)) (pm cv ctv : Value), bindArgs (PySem.W.kla_fn "<lambda>" q n.params n.body n.scope cl pm cv ctv) ⟨[], []⟩ = pure [] := by intro _ _ _ _ _; rfl) : LamAll X k ((n, T) :: cs) := fun p hp => by
  rcases List.mem_cons.mp hp with rfl | hp
  · exact ⟨L, hbind, hbody⟩
  · exact h p hp
/-- what the catcher gives of a lambda that stands in a variable -/
def zCaughtV (K : PySem.W.Frag) (CE : Addr) (q : Str) (cells : List (Str × Addr)) (i : Nat) (cs : List (LamN × TZ)) : TZ := fun env M Q => ∃ p, p ∈ cs ∧ env[i]? = some (some (.lam cells q p.1)) ∧ p.2 env M fun d M' => match d with
  | .exc cl ks ds => PySem.W.exmOne K (.ref cl) (.ref CE) = some true ∧ Q (.err cl ks ds) M'
  | _ => Q .non M'
theorem ze_caughtV {X : Cx} {x y : Str} {CE : Addr} {k : Nat} {cs : List (LamN × TZ)} {p p2 pos : Pos} (i : Nat) (C : Catcher X.K X.mg x CE) (hr : RoomG (k + 2) X.A) (LA : LamAll X k cs) (hg : Gl X x) (hN : X.N[i]? = some y := by rfl)
    (hv : Vis X.env.scope y := by first | exact Or.inl rfl | exact Or.inr (Or.inl rfl) | exact Or.inr (Or.inr rfl)) (hd : (y == ("__debug__" : Str)) = false := by decide) (hcd : (y == ("__classdict__" : Str)) = false := by decide)
    (hdb : (x == ("__debug__" : Str)) = false := by decide) : ZE X (.Call (.Name x p) [.Name y p2] [] pos) (zCaughtV X.K CE (X.env.qual ++ "<lambda>") X.env.cells i cs) := by
  obtain ⟨st, g, fd, a, n, e, ex, j, p0, p1, p2', p3, p4, p5, p6, p7, p8, p9, p10, p11, p12, p13, F, hm, Sg, hb, hbd, hge, hme, hds, ln, le, hva⟩ := C
  obtain ⟨oc, od, kV, doc, pm, an, cdv, ct, osl, rfl, lk, hcd'⟩ := F.ex
  refine ⟨fun pins s σ H Q I h => ?_⟩
  obtain ⟨G, env, M, Q', rs, rm, ⟨⟨nd, T⟩, hc, hi, t⟩, kk⟩ := h
  obtain ⟨v, hσ, rv⟩ := rs.2 i _ hi
  obtain ⟨f, c', rfl, ⟨hfo, hfM, hfG⟩, ⟨hco, _⟩⟩ := rv
  obtain ⟨L, hbind, hbody⟩ := LA (nd, T) hc
  refine wpAny_Call_Name_kw (ld_glob I hg hm (PySem.W.callWith_K (h₀ := X.base) I.ok.mod.kin F.kp ?_ (by rfl) (by rfl)) hdb)
  show wpAny _ _ (spliced ((false, eval (.Name y p2) X.env) :: backTo pos (starEach [] X.env))) _ _ s
  refine Calls.spliced_cons (thn ((pe_var (pos := p2) (i := i) hN hv hd hcd).run pins s σ H (fun v H1 => v = .ref f ∧ H1 = H) I ⟨.ref f, hσ, rfl, rfl⟩) fun u s' ⟨v, H1, I1, r1, ev, eH⟩ => ?_)
  subst ev eH
  obtain rfl : u = Value.ref f := r1
  refine Calls.spliced_nil ⟨I1.kIn, ?_⟩
  have GT := caught_gives (X := X) (x := x) (q := X.env.qual ++ "<lambda>") (g := g) (cdg := cdv) (j := j) (p0 := p0) (p1 := p1) (p2 := p2') (p3 := p3) (p4 := p4) (p5 := p5) (p6 := p6) (p7 := p7) (p8 := p8) (p9 := p9) (p10 := p10) (p11 := p11) (p12 := p12) (p13 := p13) Sg hge hme (hds ex (by simp)).1 (hds n (by simp)).1 (hds n (by simp)).2 (hds e (by simp)).1 (hds e (by simp)).2 ln le
  have run : codeAny (model X.prog X.w) X.A (.call (.ref g) ⟨[.ref f], []⟩) (CR C8.CX0 X.stack X.prog X.w H1 s' Q C8.E0) s' := by
    refine run_ofS (N := [a, n, e]) (ps := [a]) (us := [.ref f]) (vs := [.ref f]) lk hcd' Sg hr.r I1.env0 (hb s' [.ref f] I1.kIn rfl) (.cons rfl .nil) rfl fun hr' => ?_
    have hT : TTc X.K CE (fun E H' Q' => H' f = some (LamO (X.env.qual ++ "<lambda>") nd (cloFrom X.env.cells nd.scope.names []) f c') ∧ liftEX (fun cls d _ H'' => E cls d H'') T σ H' Q') H1 Q := by
      refine ⟨hfo, G, env, M, _, rs, rm, t, fun d v M' H' e' rm' rd q => ?_, fun cl ks ds d M' H' e' rm' xi ⟨h1, q⟩ => ⟨h1, cl, rfl, fun a' ha' => ?_⟩⟩
      · refine ⟨.non, rfl, kk .non .non M' H' e' rm' rfl ?_⟩
        cases d with
        | exc _ _ _ => exact rd.elim
        | _ => exact q
      · have exn := ex_new (o := ErrO cl d a') rm' ha'
        obtain ⟨ws, x1, x2, x3⟩ := xi
        exact kk (.err cl ks ds) (.ref a') M' _ (e'.trans exn) (rel_new rm' ha') ⟨a', d, ws, rfl, ⟨upd_same, rm'.fresh ha', rm'.noG ha'⟩, x1.mono1 exn.1, x2, x3.mono exn⟩ q
    obtain ⟨t', ht', hq'⟩ := GT f c' s' H1 Q (fun E H' Q' => H' f = some (LamO (X.env.qual ++ "<lambda>") nd (cloFrom X.env.cells nd.scope.names []) f c') ∧ liftEX (fun cls d _ H'' => E cls d H'') T σ H' Q') (fun W pn xe E q1 q2 tk hW => act_tr (i := 0) I1 L hbind tk hW ⟨hr', hr.g⟩ (fun A outer s H hr2 => hbody A outer s H E f c' hr2 (takes_of rfl rfl rfl rfl)) rfl hva (hds a (by simp)).1 (hds a (by simp)).2) hco hT
    refine ⟨t', ?_, hq'⟩
    rw [hbd]
    exact ht'.nox
  refine wpAny_call (codeAny_mono run fun r s2 hq => ?_)
  match r, hq with
  | .ok (.ret u), hq => exact I1.after hq
end Zz

set_option Elab.async false
set_option linter.all false
set_option maxRecDepth 100000
set_option maxHeartbeats 4000000
/-! Z27: set(xs) of a list of ints, sorted; a tuple turned round; str of an int. -/
namespace Zz
open PySem PySem.Spec PyProof.Rows L2

/-! ### set(xs), xs a list of ints -/
abbrev emptyS (w : World) : Obj := { cls := .type "set", dict := none, data := .set #[] 0 (.fresh 0 0 (!w.params.followText "set-order")) }
section
variable {prg : Program} {w : World} {A : Around} {E : Value → Shared → Prop} {s : Shared}
set_option maxHeartbeats 8000000 in
theorem set_of_list {l : Addr} {xs : Array Value} (ns : List Int) {Q : Value → Shared → Prop} (hA : A.handled = none) (hlst : s.heap.IsList l xs) (hints : IntsAre xs.toList ns) (hroom : ns.length + 1 < scanBound)
    (done : ∀ (hp : Heap) (tk c : Nat), SetR w hp s.heap.objs.size (fun j => decide (j ∈ ns)) c → c ≤ ns.length → (∀ b o, s.heap.get? b = some o → hp.get? b = some o) → Q (.ref s.heap.objs.size) { s with heap := hp, toks := tk }) :
    wpAny (model prg w) A (call (.type "set") [.ref l]) Q E s := by
  have size_eq : xs.size = ns.length := by have := hints.length; rwa [Array.length_toList] at this
  have ⟨_, _, hmro⟩ := F.called_set.mro
  have f1 := F.called_set.made; have f2 := F.called_set.sub
  refine wpAny_call (codeAny_of_tree (show wpAny _ _ (callAny (.type "set") _) _ _ _ from wpAny_pure ⟨Code.quiet_builtin _ (by decide +kernel), codeAny_builtin F.entry_type_call ?_⟩))
  rw [Around.under_plain (weight_type_call_type "set" [.ref l] []) (by rfl)]
  have f3 := F.called_set.notType; have f4 := F.called_set.canCreate; have f5 := F.typeCall_set_1 (.ref l)
  repeat (any_goals (first | wp_step | assumption))
  refine codeAny_mono (code_set_led1 (.ref l) (E := E) (Q₁ := fun u s1 => u = .ref s.heap.objs.size ∧ s1 = { s with heap := s.heap.push (emptyS w) }) ⟨rfl, rfl⟩) fun res s1 hres => ?_
  match res, hres with
  | .error e, hres => exact hres
  | .ok (.ret u), hres =>
    obtain ⟨rfl, rfl⟩ := hres
    have at0 : (s.heap.push (emptyS w)).get? s.heap.objs.size = some (emptyS w) := Heap.get?_push_size _ rfl
    have ty0 : Shared.TypeIs { s with heap := s.heap.push (emptyS w) } (.ref s.heap.objs.size) "set" := ⟨_, at0, rfl⟩
    have f6 := F.called_set.init.lookup; have f7 := F.called_set.init.bind (.ref s.heap.objs.size)
    repeat (any_goals (first | wp_step | assumption))
    refine codeAny_mono (codeAny_call_builtin (R := wants (fun u s2 => u = .none ∧ ∃ hp tk c, s2 = { s with heap := hp, toks := tk } ∧ SetR w hp s.heap.objs.size (fun j => decide (j ∈ ns)) c ∧ c ≤ ns.length ∧ (∀ b o, s.heap.get? b = some o → hp.get? b = some o)) E)
      F.called_set.init.plain F.entry_set_init (check_set_init_1 ty0 ?_)) fun res2 s2 hres2 => ?_
    · obtain ⟨⟨lc, ld, lda, lsl⟩, hol, hc1, n1, hd1⟩ := hlst
      dsimp only at hc1 hd1
      subst hc1 hd1
      have atL : (s.heap.push (emptyS w)).get? l = some { cls := .type "list", dict := ld, data := .seq xs n1, slots := lsl } := Heap.get?_push_of_some _ hol
      have f8 := F.sub_list_set; have f9 := F.sub_list_frozenset
      have f10 : (Value.type "list" == Value.type "dict") = false := by decide
      have isL : (s.heap.push (emptyS w)).IsList l xs := ⟨_, atL, rfl, n1, rfl⟩
      have ltL : l < s.heap.objs.size := Heap.lt_size hol
      have hA3 : A.in1.in1.in1.handled = none := by simp [hA]
      have sz : (s.heap.push (emptyS w)).objs.size = s.heap.objs.size + 1 := Heap.size_push ..
      unfold Builtin.«set.__init__» noKeywords Builtin.Frozenset.updateFrom
      generalize hit : pyIter = IT
      wp_walk
      subst hit
      refine wpAny_pyIter_list isL (wpAny_bind (wpAny_runValue ?_))
      have nI : l ≠ (s.heap.push (emptyS w)).objs.size := by rw [sz]; exact Nat.ne_of_lt (Nat.lt_succ_of_lt ltL)
      have nF : s.heap.objs.size ∉ [(s.heap.push (emptyS w)).objs.size, l] := by
        rw [sz]
        simp only [List.mem_cons, List.not_mem_nil, or_false, not_or]
        exact ⟨Nat.ne_of_lt (Nat.lt_succ_self s.heap.objs.size), Nat.ne_of_gt ltL⟩
      have vals : ∀ (i : Nat) (v : Value), xs[i]? = some v → ∃ k t, ns[i]? = some k ∧ v = .int k t := fun i v hv => by
        have hi : i < ns.length := by have := (Array.getElem?_eq_some_iff.mp hv).1; omega
        obtain ⟨t, e⟩ := IntsAre.int_at hints i v (by rw [Array.getElem?_toList]; exact hv)
        have eg : ns.getD i 0 = ns[i] := by rw [List.getD_eq_getElem?_getD, List.getElem?_eq_getElem hi]; rfl
        exact ⟨ns[i], t, List.getElem?_eq_getElem hi, by rw [e, eg]⟩
      refine set_update_ints ((Walks.list hA3 _ l nI xs).toS) s.heap.objs.size nF ns size_eq hroom vals (xs.size - 0) 0 _ rfl (Nat.zero_le _) ⟨⟨_, Heap.get?_push_size _ rfl, rfl, rfl⟩, isL.push _⟩ ?start ?fin
      case start => exact ⟨0, Nat.le_refl 0, setR_new_at (Heap.get?_push_of_some _ at0)⟩
      case fin =>
        intro s3 c hm hc hS
        obtain ⟨hp3, g3, d3, t3, o3⟩ := s3
        obtain rfl : g3 = s.gens := hm.gens
        obtain rfl : d3 = s.drawn := hm.drawn
        obtain rfl : o3 = s.os := hm.os
        refine (show wpAny _ _ _ _ _ _ from wpAny_pure (show wpAny _ _ (ret Value.none) _ _ _ from wpAny_pure ⟨rfl, hp3, t3, c, rfl, hS, by omega, fun b o e => ?_⟩))
        have lb : b < s.heap.objs.size := Heap.lt_size e
        refine hm.heap b o ?_ (Heap.get?_push_of_some _ (Heap.get?_push_of_some _ e))
        rw [sz]
        simp only [List.mem_cons, List.not_mem_nil, or_false, not_or]
        exact ⟨Nat.ne_of_lt lb, Nat.ne_of_lt (Nat.lt_succ_of_lt lb)⟩
    · match res2, hres2 with
      | .error e, hres2 => exact hres2
      | .ok (.ret u), hres2 =>
        obtain ⟨rfl, hp, tk, c, rfl, hS, hc, hk⟩ := hres2
        repeat (any_goals (first | wp_step | assumption))
        exact done _ _ _ hS hc hk
/-! ### t[::-1], t a tuple -/
theorem adjust_back (n : Nat) : Builtin.Slice.sliceAdjust none none (-1) (n : Int) = ((n : Int) - 1, -1) := by
  unfold Builtin.Slice.sliceAdjust
  simp
theorem places_back (n : Nat) : Builtin.Slice.slicePlaces ((n : Int) - 1) (-1) (-1) = n := by
  unfold Builtin.Slice.slicePlaces
  have h1 : ¬ ((-1 : Int) > 0) := by decide
  simp only [h1, if_false]
  split
  · have : (- -1 : Int) = 1 := by decide
    simp only [this, Int.ediv_one]
    omega
  · omega
theorem fm_some {α β : Type} {f : α → Option β} {g : α → β} : ∀ l : List α, (∀ x, x ∈ l → f x = some (g x)) → l.filterMap f = l.map g
  | [], _ => rfl
  | x :: l, h => by
    rw [List.filterMap_cons, h x List.mem_cons_self, List.map_cons, fm_some l fun y hy => h y (List.mem_cons_of_mem x hy)]
theorem pick_back (xs : List Value) : (List.range xs.toArray.size).filterMap (fun k : Nat => xs.toArray[(((xs.toArray.size : Nat) : Int) - 1 + (k : Int) * -1).toNat]?) = xs.reverse := by
  refine List.ext_getElem? fun i => ?_
  have e : ∀ k, k ∈ List.range xs.toArray.size → xs.toArray[(((xs.toArray.size : Nat) : Int) - 1 + (k : Int) * -1).toNat]? = some (xs.reverse.getD k .none) := fun k hk => by
    have hk := List.mem_range.mp hk
    rw [List.size_toArray] at hk ⊢
    have en : (((xs.length : Nat) : Int) - 1 + (k : Int) * -1).toNat = xs.length - 1 - k := by omega
    rw [en, List.getElem?_toArray, List.getElem?_eq_getElem (by omega), List.getD_eq_getElem?_getD, List.getElem?_reverse hk, List.getElem?_eq_getElem (by omega)]
    rfl
  rw [fm_some _ e]
  rw [List.getElem?_map, List.size_toArray]
  by_cases hi : i < xs.length
  · rw [List.getElem?_range hi, Option.map_some, List.getD_eq_getElem?_getD, List.getElem?_eq_getElem (by rw [List.length_reverse]; exact hi)]
    rfl
  · rw [List.getElem?_eq_none (by rw [List.length_range]; omega), List.getElem?_eq_none (by rw [List.length_reverse]; omega)]; rfl
theorem tup_back {t sl : Addr} {xs : List Value} {vl vu vs : Value} {Q : Value → Shared → Prop} (ht : PyProof.Rows.IsTup s.heap t xs.toArray) (hs : s.heap.IsSliceOf sl vl vu vs) (pl : IsPart vl none) (pu : IsPart vu none) (ps : IsPart vs (some (-1)))
    (done : Q (.ref s.heap.objs.size) { s with heap := s.heap.push { cls := .type "tuple", data := .seq xs.reverse.toArray } }) (hz : xs.length ≤ sizeLine) : wpAny (model prg w) A (getItem (.ref t) (.ref sl)) Q E s := by
  have ok : sizeOk (.seq xs.reverse.toArray) := by show xs.reverse.toArray.size ≤ sizeLine; rw [List.size_toArray, List.length_reverse]; exact hz
  obtain ⟨os, hos, hcs, hds⟩ := id hs
  have tyS : s.TypeIs (.ref sl) "slice" := ⟨os, hos, hcs⟩
  unfold getItem
  try with_reducible refine wpAny_holding ?_
  first | refine wpAny_bind (wpAny_pure ?_) | skip
  refine wpAny_bind (wpAny_sequenceKey ht.typeIs (by decide) (wpAny_bind (wpAny_callSpecial?_slot (name := Str.ofString "__getitem__") ht.typeIs PyProof.Rows.slot_tuple_getitem
    (wpAny_call_entry PyProof.Rows.slot_tuple_getitem ht.typeIs entry_tuple_getitem (show wpAny _ _ (Builtin.Tuple.tupleItemsOf (.ref t) >>= _) _ _ s from wpAny_bind (PyProof.Rows.tupleItemsOf_ ht (wpAny_bind (wpAny_typeOf tyS ?_)))) (args_tuple_getitem _ _)))))
  rw [if_pos (by decide)]
  refine wpAny_bind ?_
  unfold Builtin.Slice.sliceApplied Builtin.Slice.sliceFields
  refine wpAny_bind (wpAny_bind (wpAny_field hos hds (x := vl) rfl (wpAny_bind (wpAny_field hos hds (x := vu) rfl (wpAny_bind (wpAny_field hos hds (x := vs) rfl (wpAny_pure (wpAny_bind (HT.slicePart_ ps ?_)))))))))
  show wpAny _ _ (if ((-1 : Int) == 0) = true then _ else _) _ _ s
  rw [if_neg (by decide)]
  refine wpAny_bind (HT.slicePart_ pl (wpAny_bind (HT.slicePart_ pu (wpAny_bind (wpAny_pure ?_)))))
  show wpAny _ _ (match Builtin.Slice.sliceAdjust none none (-1) ((xs.toArray.size : Nat) : Int) with | (lo, hi) => pure (lo, (-1 : Int), Builtin.Slice.slicePlaces lo hi (-1))) _ _ s
  rw [adjust_back]
  show wpAny _ _ (pure ((((xs.toArray.size : Nat) : Int) - 1), (-1 : Int), Builtin.Slice.slicePlaces (((xs.toArray.size : Nat) : Int) - 1) (-1) (-1))) _ _ s
  rw [places_back]
  refine wpAny_pure ?_
  have no : ¬ ((((xs.toArray.size : Nat) : Int) - 1 == 0 && (-1 : Int) == 1 && xs.toArray.size == xs.toArray.size) = true) := by simp
  show wpAny _ _ (if ((((xs.toArray.size : Nat) : Int) - 1 == 0 && (-1 : Int) == 1 && xs.toArray.size == xs.toArray.size) = true) then _ else _) _ _ s
  rw [if_neg no, pick_back]
  first
    | exact wpAny_bind (m := Builtin.Tuple.tupleExact _) (wpAny_newObj_type (wpAny_pure ⟨_, rfl, wpAny_pure done⟩) ok)
    | exact wpAny_bind (m := Builtin.Tuple.tupleExact _) (wpAny_newObj_type (wpAny_bind (wpAny_pure (wpAny_pure ⟨_, rfl, wpAny_pure done⟩))) ok)
    | exact wpAny_bind (wpAny_bind (m := Builtin.Tuple.tupleExact _) (wpAny_newObj_type (wpAny_pure (wpAny_pure ⟨_, rfl, wpAny_pure done⟩)) ok))
    | exact wpAny_bind (wpAny_bind (m := Builtin.Tuple.tupleExact _) (wpAny_newObj_type (wpAny_pure ⟨_, rfl, wpAny_pure done⟩) ok))
end
end Zz

set_option Elab.async false
set_option linter.all false
set_option maxRecDepth 100000
set_option maxHeartbeats 4000000
/-! Z28: the rules of Z27. -/
namespace Zz
open PySem PySem.Spec PyProof.Rows L2

/-! ### t[::-1] -/
def zRevT (T : TZ) : TZ := fun env M Q => T env M fun d M1 => match view M1 d with
  | .tup xs => Q (.tup xs.reverse) M1
  | _ => False
theorem reps_rev {G : Addr → Prop} {M : MM} {H : Hp} : ∀ {ds : List D} {vs : List V}, Reps G M H ds vs → Reps G M H ds.reverse vs.reverse
  | [], vs, h => by have e : vs = [] := h; rw [e]; exact rfl
  | d :: ds, vs, h => by
    obtain ⟨v, r, rfl, h1, h2⟩ := h
    rw [List.reverse_cons, List.reverse_cons]
    exact (reps_rev h2).append (.cons h1 .nil)
def tRevT (K : PySem.W.Frag) (te : TE) : TE := fun σ H Q => te σ H fun x H1 => ∃ a xs, x = .ref a ∧ SqT K H1 a xs ∧ ∀ p, H1 p = none → Q (.ref p) (upd H1 p (.tup xs.reverse))
theorem pe_backT {X : Cx} {e : Expr} {te : TE} {k : Nat} {p1 p2 p3 pos : Pos} (he : PE X e te) : PE X (.Subscript e (.Slice none none (some (.UnaryOp .USub (.Constant (.int 1) k p1) p2)) p3) pos) (tRevT X.K te) := ⟨fun pins s σ H Q I h => by
  refine Subscript_ (thn (he.run pins s σ H _ I h) fun v s1 ⟨x, H1, I1, r1, a, xs, ex, hx, q⟩ => ?_)
  subst ex
  cases r1
  have neg1 : PO X (some (.UnaryOp .USub (.Constant (.int 1) k p1) p2)) (tPart (tUn (rU fun i => .int (-i)) (tC (.int 1)))) := po_some (pe_un un_neg pe_int)
  refine wpAny_Slice (thn (po_none.run pins s1 σ H1 (fun o J => o = none ∧ J = H1) I1 ⟨rfl, rfl⟩) fun vl s2 ⟨l, H2, I2, pl, el, e2⟩ => ?_)
  subst el e2
  refine thn (po_none.run pins s2 σ H2 (fun o J => o = none ∧ J = H2) I2 ⟨rfl, rfl⟩) fun vu s3 ⟨u, H3, I3, pu, eu, e3⟩ => ?_
  subst eu e3
  refine thn (neg1.run pins s3 σ H3 (fun o J => o = some (-1) ∧ J = H3) I3 ⟨1, rfl, -1, rfl, rfl, rfl⟩) fun vs s4 ⟨o, H4, I4, ps, eo, e4⟩ => ?_
  subst eo e4
  have I5 : Inv X pins σ H4 { s4 with heap := s4.heap.push { cls := .type "slice", data := .fields #[vl, vu, vs] } } := I4.kept (t' := s4.toks) fun b ob z => Heap.get?_push_of_some _ z
  obtain ⟨its, r, ht, hz⟩ := I5.tuple hx
  have hl := r.length
  show wpAny (model X.prog X.w) X.A (subscriptTail e (.Slice none none (some (.UnaryOp .USub (.Constant (.int 1) k p1) p2)) p3) (.ref a) (.ref s4.heap.objs.size)) (EP X pins σ Q) X.xe _
  refine tail_any (ops := [.ref a, .ref s4.heap.objs.size]) ht.typeIs (PyProof.Rows.slot_tuple_getitem.lookup) ?_ (by with_unfolding_all rfl)
  refine tup_back ht (Heap.IsSliceOf.new _ vl vu vs) pl pu ps ?_ (by omega)
  exact ⟨.ref _, _, I5.laid (t' := s4.toks) (o := .tup xs.reverse) (fun b ob z => Heap.get?_push_of_some _ z) (Nat.le_refl _) ⟨by rw [List.length_reverse]; exact hz, _, r.reverse, ⟨_, Heap.get?_push_size _ rfl, rfl, 0, rfl⟩⟩, rfl, q _ (I5.hok.fresh (Nat.le_refl _))⟩⟩
theorem ze_revT {X : Cx} {e : Expr} {T : TZ} {k : Nat} {p1 p2 p3 pos : Pos} (he : ZE X e T) : ZE X (.Subscript e (.Slice none none (some (.UnaryOp .USub (.Constant (.int 1) k p1) p2)) p3) pos) (zRevT T) := PE.wk (pe_backT he) fun σ H Q h => by
  obtain ⟨G, env, M, Q', rs, rm, t, kk⟩ := h
  refine ⟨G, env, M, _, rs, rm, t, fun d v M1 H1 e1 rm1 rd t1 => ?_⟩
  split at t1
  · next xs hv =>
    obtain ⟨a, vs, rfl, h1, h2, h3, _⟩ := view_tup rd hv
    exact ⟨a, vs, rfl, SqT.of h1, fun p hp => kk (.tup xs.reverse) (.ref p) M1 _ (e1.trans (ex_new rm1 hp)) (rel_new rm1 hp) (rep_new_tup rm1 hp (by rw [List.length_reverse]; exact h2) (reps_rev h3)) t1⟩
  · exact t1.elim
/-! ### str(i) -/
def rzStrI : RCZ := fun ds M Q => match ds with
  | [.int i] => i.natAbs.log2 < 1920 ∧ Q (.str (toString i)) M
  | _ => False
theorem q_strI {X : Cx} {e : Expr} {T : TZ} {p pos : Pos} (B : Bs X.mg) (ha : ZE X e T) (hg : Gl X "str" := by rfl) (he : starEach [e] X.env = (false, eval e X.env) :: starEach [] X.env := by rfl) (hpl : (backTo pos (starEach [] X.env)).any (·.1) = false := by rfl) : ZE X (.Call (.Name "str" p) [e] [] pos) (zCall rzStrI (zaCons T zaNil)) :=
  ze_callTy call_str_int (fun {G M H xs ds Q Q'} rm r h (k : Kont G M H Q Q') => by
    unfold rzStrI at h
    split at h
    · next i =>
      obtain ⟨v, rfl, rv⟩ := reps1 r
      obtain rfl : v = .int i := rv
      exact ⟨i, rfl, h.1, k (.str _) _ M H Ex.refl rm rfl h.2⟩
    · exact h.elim) hg B.str (by rfl) (za_cons ha za_nil he) (by decide) (by decide) he hpl
/-! ### sorted(set(xs)) -/
def rSetL (K : PySem.W.Frag) (w : World) : List V → Hp → VK → Prop := fun xs H Q => ∃ (l : Addr) (ns : List Int), xs = [.ref l] ∧ SqL K H l (ns.map V.int) ∧ ns.length < 60 ∧ ∀ p c, c ≤ ns.length → H p = none → Q (.ref p) (upd H p (SetO w p (fun j => decide (j ∈ ns)) c))
theorem call_setL {X : Cx} (hc : X.calm = true) : CallR X (.type "set") (rSetL X.K X.w) := by
  intro pins s σ H xs us Q I r h
  obtain ⟨l, ns, rfl, hl, hn, q⟩ := h
  obtain ⟨u, rfl, ru⟩ := vals1 r
  obtain rfl : u = Value.ref l := ru
  obtain ⟨its, rv, hlst, hz⟩ := I.list hl
  refine set_of_list ns (I.ok.hd hc) hlst.isList (by simpa using ints_of_vals rv) (by unfold scanBound; omega) fun hp tk c hS hcn hk => ?_
  exact ⟨.ref _, _, I.laid (t' := tk) (o := SetO X.w s.heap.objs.size (fun j => decide (j ∈ ns)) c) hk (Nat.le_refl _) (setO_new hS), rfl, q _ c hcn (I.hok.fresh (Nat.le_refl _))⟩
theorem intsOf_ints : ∀ ns : List Int, intsOf (ns.map D.int) = some ns
  | [] => rfl
  | n :: ns => by simp [intsOf, intsOf_ints ns]
/-- of at most 60 ints: they, each once, ascending -/
def rzSortSet : R1Z := fun d M Q => match view M d with
  | .lst xs => ∃ ns : List Int, xs = ns.map D.int ∧ ns.length < 60 ∧ ∀ ys : List Int, ys.Pairwise (· < ·) → (∀ k, k ∈ ys ↔ k ∈ ns) → Q (.lst (ys.map D.int)) M
  | _ => False
theorem ze_sortSet {X : Cx} {e : Expr} {T : TZ} {p p2 pos pos2 : Pos} (hc : X.calm = true) (B : Bs X.mg) (he : ZE X e T) (hg : Gl X "sorted" := by rfl) (hg2 : Gl X "set" := by rfl)
    (na : starEach [e] X.env = (false, eval e X.env) :: starEach [] X.env := by rfl) (nb : starEach [.Call (.Name "set" p2) [e] [] pos2] X.env = (false, eval (.Call (.Name "set" p2) [e] [] pos2) X.env) :: starEach [] X.env := by rfl) : ZE X (.Call (.Name "sorted" p) [.Call (.Name "set" p2) [e] [] pos2] [] pos) (zUn rzSortSet T) :=
  PE.wk (pe_callB (cr_sortedSet hc) hg B.sorted (by rfl) (pa_cons (pe_callTy (call_setL hc) hg2 B.set (by rfl) (pa_cons he pa_nil na) (by decide) (by decide) na) pa_nil nb) (by decide) (by decide) nb) fun σ H Q h => by
  obtain ⟨G, env, M, Q', rs, rm, t, kk⟩ := h
  refine ⟨G, env, M, _, rs, rm, t, fun d v M1 H1 e1 rm1 rd t1 => ?_⟩
  unfold rzSortSet at t1
  split at t1
  · next xs hv =>
    obtain ⟨a, vs, rfl, h1, h2, h3⟩ := view_lst rm1 rd hv
    obtain ⟨ns, rfl, hn, q⟩ := t1
    have ev : vs = ns.map V.int := ints_reps (intsOf_ints ns) h3
    subst ev
    refine ⟨a, ns, rfl, SqL.of h1, hn, fun p c hcn hp => ?_⟩
    refine ⟨p, _, c, rfl, upd_same, by omega, fun ys p' hs hm hl hp' => ?_⟩
    have x1 := ex_new (o := SetO X.w p (fun j => decide (j ∈ ns)) c) rm1 hp
    have m1 := rel_new (o := SetO X.w p (fun j => decide (j ∈ ns)) c) rm1 hp
    exact kk (.lst (ys.map D.int)) (.ref p') M1 _ ((e1.trans x1).trans (ex_new m1 hp')) (rel_new m1 hp') (rep_new_lst m1 hp' (by rw [List.length_map, sizeLine_eq]; omega) (reps_ints ys)) (q ys hs fun k => by rw [hm, decide_eq_true_eq])
  · exact t1.elim
end Zz

set_option Elab.async false
set_option linter.all false
set_option maxRecDepth 100000
set_option maxHeartbeats 2000000
/-! Z29: where a lambda stands in a text; readings that take the cells of their frame. -/
namespace Zz
open PySem PySem.Spec PyProof.Rows L2

def nvB : Stmt → List Stmt
  | .For _ _ b _ _ => b
  | .If _ b _ _ => b
  | .While _ b _ _ => b
  | _ => []
def nvO : Stmt → List Stmt
  | .For _ _ _ b _ => b
  | .If _ _ b _ => b
  | .While _ _ b _ => b
  | _ => []
def nvI : Stmt → Expr
  | .For _ e _ _ _ => e
  | .Assign _ e _ => e
  | _ => .Name "" ⟨0, 0, 0, 0⟩
def nvE : Expr → List Expr
  | .List es _ => es
  | .Tuple es _ _ => es
  | _ => []
def nvS (l : List Stmt) (i : Nat) : Stmt := l.getD i (.Pass ⟨0, 0, 0, 0⟩)
def nvX (l : List Expr) (i : Nat) : Expr := l.getD i (.Name "" ⟨0, 0, 0, 0⟩)
def nvL : Expr → LamN
  | .Lambda a b s _ => ⟨a, b, s⟩
  | _ => ⟨defArgs (.Pass ⟨0, 0, 0, 0⟩), .Name "" ⟨0, 0, 0, 0⟩, defScope (.Pass ⟨0, 0, 0, 0⟩)⟩
section
variable {X : Cx} {W : WX} {sts : List Stmt} {t : List (Str × Addr) → TSZ}
theorem zb_cells (h : ZB X sts (t X.env.cells)) : ZB X sts (fun Dd env M => ∀ cells, t cells Dd env M) := PSs.wk h fun Dd σ H ⟨G, env, M, D', rs, rm, tt, k⟩ => ⟨G, env, M, D', rs, rm, tt X.env.cells, k⟩
theorem zbx_cells (h : ZBX X W sts (t X.env.cells)) : ZBX X W sts (fun Dd env M => ∀ cells, t cells Dd env M) := PSs.wk h fun Dd σ H ⟨G, env, M, D', rs, rm, tt, k⟩ => ⟨G, env, M, D', rs, rm, tt X.env.cells, k⟩
theorem q_ty {X : Cx} {x : Str} {n : String} {p : Pos} (hv : bootBuiltins x = some (.type n)) (hm : X.mg x = none) (hg : Gl X x := by rfl) (hn : x ≠ "__name__" := by decide) (hdb : (x == ("__debug__" : Str)) = false := by decide) : ZE X (.Name x p) (zC (.ty n)) := ze_c (v := .ty n) (pe_bltn hg hm hv rfl hn hdb) fun _ _ _ => rfl
end
end Zz

set_option Elab.async false
set_option linter.all false
set_option maxRecDepth 100000
set_option maxHeartbeats 4000000
/-! Z30: dicts of the written part with numbers, dict(enumerate(xs)), k in d. -/
namespace Zz
open PySem PySem.Spec PyProof.Rows L2

/-! ### a dict of numbers that stands in the written part -/
structure KNums (K : PySem.W.Frag) (w : World) (a : Addr) (f : Str → Option (Option Int)) : Prop where
  tab : ∃ es n, K.lookup a = some ⟨.type "dict", none, .dict es n, #[]⟩ ∧ PySem.W.KeysLit w.params es.toList ∧ (a == sysModules) = false
  has : ∀ z i, f z = some (some i) → ∃ t, PySem.W.nsIn K a z = some (some (.int i t))
  not : ∀ z, f z = some none → PySem.W.nsIn K a z = some none
def rzKdI (a : Addr) (f : Str → Option (Option Int)) : R2Z := fun x y M Q => match x, y with
  | .ref p, .str z => p = a ∧ match f z with
    | some (some u) => Q (.int u) M
    | _ => False
  | _, _ => False
theorem lr_kdI {K : PySem.W.Frag} {w : World} {a : Addr} {f : Str → Option (Option Int)} (hk : KNums K w a f) : LiftR (rIxD K w) (rzKdI a f) := by
  intro G M H x y d e Q Q' rm rx ry h (k : Kont G M H Q Q')
  unfold rzKdI at h
  split at h
  · next p z =>
    obtain ⟨rfl, h⟩ := h
    split at h
    · next u hu =>
      obtain ⟨es, n, h1, h2, _⟩ := hk.tab
      obtain ⟨t, ht⟩ := hk.has z u hu
      exact ⟨p, z, .int u, rx, ry, ⟨es, n, _, h1, h2, ht, ⟨t, rfl⟩⟩, k (.int u) _ M H Ex.refl rm rfl h⟩
    · exact h.elim
  · exact h.elim
section
variable {X : Cx} {a b o e : Expr} {pos apos cpos : Pos} {Ta Tb To Tk : TZ}
theorem q_kdI {d : Addr} {f : Str → Option (Option Int)} (hk : KNums X.K X.w d f) (ha : ZE X a Ta) (hb : ZE X b Tb) (hs : PlainIx b := by intro _ _; rfl) : ZE X (.Subscript a b pos) (zBin (rzKdI d f) Ta Tb) := ze_ix ix_kdict (lr_kdI hk) ha hb hs
def numD : Option Int → D
  | some i => .int i
  | none => .non
def zKGet (d : Addr) (f : Str → Option (Option Int)) (To Tk : TZ) : TZ := fun env M Q => To env M fun x M1 => x = .ref d ∧ Tk env M1 fun y M2 => match y with
  | .str z => match f z with
    | some r => Q (numD r) M2
    | none => False
  | _ => False
theorem ze_kget {d : Addr} {f : Str → Option (Option Int)} (hk : KNums X.K X.w d f) (ho : ZE X o To) (he : ZE X e Tk) (m : M1 X o "get" apos e cpos := by exact ⟨rfl, rfl, rfl, rfl⟩) : ZE X (.Call (.Attribute o "get" apos) [e] [] cpos) (zKGet d f To Tk) := by
  refine ⟨fun pins s σ H Q I h => ?_⟩
  obtain ⟨G, env, M, Q', rs, rm, t, k⟩ := h
  obtain ⟨es, n, hl, hlit, low⟩ := hk.tab
  refine wpAny_Call_method m.base m.few m.line PySem.F.plainAttrs_dict PySem.F.slot_dict_get PySem.F.type_dict_get (thn (ho.run pins s σ H (fun v H1 => ∃ d1 M1, Ex G M H M1 H1 ∧ RelM G M1 H1 ∧ Rep G M1 H1 d1 v ∧ d1 = .ref d ∧ Tk env M1 fun y M2 => match y with
    | .str z => match f z with
      | some r => Q' (numD r) M2
      | none => False
    | _ => False) I ⟨G, env, M, _, rs, rm, t, fun d1 v M1 H1 e1 rm1 rd t1 => ⟨d1, M1, e1, rm1, rd, t1.1, t1.2⟩⟩) ?_)
  rintro u s1 ⟨x, H1, I1, rx, d1, M1, e1, rm1, rd, rfl, t1⟩
  obtain rfl : x = .ref d := rd
  obtain rfl : u = Value.ref d := rx
  have hm := PySem.W.mapOf_K (prog := X.prog) (w := X.w) I1.kIn hl hlit
  refine ⟨hm.typeIs, hm.noDict, ?_⟩
  rw [m.trees]
  refine Calls.callWith_builtin rfl (Calls.evalArgs_plain (Calls.spliced_cons (thn (he.run pins s1 σ H1 (fun v H2 => ∃ d2 M2, Ex G M H M2 H2 ∧ RelM G M2 H2 ∧ Rep G M2 H2 d2 v ∧ match d2 with
    | .str z => match f z with
      | some r => Q' (numD r) M2
      | none => False
    | _ => False) I1 ⟨G, env, M1, _, rs.mono e1, rm1, t1, fun d2 v M2 H2 e2 rm2 rd2 t2 => ⟨d2, M2, e1.trans e2, rm2, rd2, t2⟩⟩) ?_)))
  rintro iv s2 ⟨y, H2, I2, ry, d2, M2, e2, rm2, rd2, t2⟩
  refine Calls.spliced_nil ?_
  split at t2
  · next z =>
    split at t2
    · next r hr =>
      obtain rfl : y = .str z := rd2
      obtain ⟨tk, rfl⟩ := (show ∃ t, iv = Value.str z t from ry)
      have hm2 := PySem.W.mapOf_K (prog := X.prog) (w := X.w) I2.kIn hl hlit
      refine call_meetsIn PySem.F.slot_dict_get hm2.typeIs PySem.F.entry_dict_get (PySem.F.args_dict_get_2 _ _) (meets_dict_get (PySem.strKind X.prog X.w) d (PySem.strKind_is X.prog X.w z tk) low) ⟨_, hm2, ?_⟩
      cases r with
      | some i =>
        obtain ⟨t', ht⟩ := hk.has z i hr
        rw [PySem.W.find_K hl ht]
        exact ⟨.int i, H2, I2.tok _, ⟨t', rfl⟩, k (.int i) _ M2 H2 e2 rm2 rfl t2⟩
      | none =>
        rw [PySem.W.find_K hl (hk.not z hr)]
        exact ⟨.non, H2, I2.tok _, rfl, k .non _ M2 H2 e2 rm2 rfl t2⟩
    · exact t2.elim
  · exact t2.elim

/-! ### y in d, y not in d -/
def rzDIn (neg : Bool) : R2Z := fun y x M Q => match dicOf M x, keyD y with
  | some kvs, some k => Q (.bl (if neg then !(valD kvs k).isSome else (valD kvs k).isSome)) M
  | _, _ => False
theorem din_lift {neg : Bool} {G : Addr → Prop} {M M2 : MM} {H H2 : Hp} {d d2 : D} {v v2 : V} {Q : VK} {Q' : D → MM → Prop} (e2 : Ex G M H M2 H2) (rm2 : RelM G M2 H2) (rd : Rep G M2 H2 d v) (rd2 : Rep G M2 H2 d2 v2)
    (t2 : rzDIn neg d d2 M2 Q') (k : ∀ d v M' H', Ex G M H M' H' → RelM G M' H' → Rep G M' H' d v → Q' d M' → Q v H') : ∃ a o, v2 = .ref a ∧ DGet H2 a v o ∧ Q (.bl (if neg then !o.isSome else o.isSome)) H2 := by
  unfold rzDIn at t2
  split at t2
  · next kvs kk hd hk =>
    obtain ⟨a, ws, rfl, h1, h2⟩ := dic_ok rm2 rd2 hd
    obtain rfl := key_ok rd hk
    refine ⟨a, _, rfl, DGet.k h1, ?_⟩
    have : (valV ws kk).isSome = (valD kvs kk).isSome := by
      rcases h2.val (k := kk) with ⟨q, q'⟩ | ⟨d'', v'', q1, q2, q3⟩
      · rw [q, q']; rfl
      · rw [q1, q2]; rfl
    rw [this]
    exact k (.bl _) _ M2 H2 e2 rm2 rfl t2
  · exact t2.elim
theorem pc_dinZ {k : Nat} (hr : Room k X.A) (ha : ZE X a Ta) (hb : ZE X b Tb) : PC X .In a b (liftE (zBin (rzDIn false) Ta Tb)) := by
  have h := pc_din (by have := hr.units; omega) ha hb
  refine ⟨fun pins s σ H Q I q => h.run pins s σ H Q I ?_⟩
  obtain ⟨G, env, M, Q', rs, rm, t, k⟩ := q
  refine ⟨G, env, M, _, rs, rm, t, fun d v M1 H1 e1 rm1 rd t1 => ?_⟩
  refine ⟨G, env, M1, _, rs.mono e1, rm1, t1, fun d2 v2 M2 H2 e2 rm2 rd2 t2 => ?_⟩
  exact din_lift (e1.trans e2) rm2 (rd.mono e2) rd2 t2 k
theorem pc_dninZ {k : Nat} (hr : Room k X.A) (ha : ZE X a Ta) (hb : ZE X b Tb) : PC X .NotIn a b (liftE (zBin (rzDIn true) Ta Tb)) := by
  have h := pc_dnotin (by have := hr.units; omega) ha hb
  refine ⟨fun pins s σ H Q I q => h.run pins s σ H Q I ?_⟩
  obtain ⟨G, env, M, Q', rs, rm, t, k⟩ := q
  refine ⟨G, env, M, _, rs, rm, t, fun d v M1 H1 e1 rm1 rd t1 => ?_⟩
  refine ⟨G, env, M1, _, rs.mono e1, rm1, t1, fun d2 v2 M2 H2 e2 rm2 rd2 t2 => ?_⟩
  exact din_lift (e1.trans e2) rm2 (rd.mono e2) rd2 t2 k
theorem q_din {k : Nat} (hr : Room k X.A) (ha : ZE X a Ta) (hb : ZE X b Tb) (hm : behindInMarks .In b = false := by first | rfl | with_unfolding_all rfl) : ZE X (.Compare a [.In] [b] pos) (zBin (rzDIn false) Ta Tb) := pe_cmp (pc_dinZ hr ha hb) hm
theorem q_dnotIn {k : Nat} (hr : Room k X.A) (ha : ZE X a Ta) (hb : ZE X b Tb) (hm : behindInMarks .NotIn b = false := by first | rfl | with_unfolding_all rfl) : ZE X (.Compare a [.NotIn] [b] pos) (zBin (rzDIn true) Ta Tb) := pe_cmp (pc_dninZ hr ha hb) hm

/-! ### dict(enumerate(xs)) -/
def numK (n : Nat) : List Key := (List.range n).map fun i : Nat => (.inl (i : Int) : Key)
def tDEnum (K : PySem.W.Frag) (te : TE) : TE := fun σ H Q => te σ H fun x H1 => ∃ a xs, x = .ref a ∧ SqL K H1 a xs ∧ ∀ p, H1 p = none → Q (.ref p) (upd H1 p (.dK ((numK xs.length).zip xs)))
theorem merge_new : ∀ (more acc : List (Key × V)), ((acc ++ more).map (·.1)).Nodup → mergeK acc more = acc ++ more
  | [], acc, _ => by rw [List.append_nil]; rfl
  | (k, v) :: more, acc, h => by
    have e : valV acc k = none := by
      cases hv : (valV acc k).isSome with
      | false => simpa using hv
      | true =>
        rw [← valV_any k acc] at hv
        obtain ⟨kv, h1, h2⟩ := List.any_eq_true.mp hv
        rw [List.map_append, List.nodup_append] at h
        exact absurd (by simpa using h2) (h.2.2 kv.1 (List.mem_map.mpr ⟨kv, h1, rfl⟩) k (by simp))
    show mergeK (putK acc k v) more = _
    rw [putK_new v e, merge_new more (acc ++ [(k, v)]) (by simpa using h)]
    simp
theorem numK_length (n : Nat) : (numK n).length = n := by unfold numK; simp
theorem numK_nodup (n : Nat) : (numK n).Nodup := by
  unfold numK
  refine List.pairwise_map.mpr (List.nodup_range.imp fun {i j} h e => h ?_)
  have := Sum.inl.inj e
  omega
theorem zip_fst {α β : Type} : ∀ {xs : List α} {ys : List β}, xs.length = ys.length → (xs.zip ys).map (·.1) = xs
  | [], [], _ => rfl
  | x :: xs, y :: ys, h => by simp [zip_fst (xs := xs) (ys := ys) (by simpa using h)]
  | [], _ :: _, h => by simp at h
  | _ :: _, [], h => by simp at h
theorem zip_snd {α β : Type} : ∀ {xs : List α} {ys : List β}, xs.length = ys.length → (xs.zip ys).map (·.2) = ys
  | [], [], _ => rfl
  | x :: xs, y :: ys, h => by simp [zip_snd (xs := xs) (ys := ys) (by simpa using h)]
  | [], _ :: _, h => by simp at h
  | _ :: _, [], h => by simp at h
theorem kv_zip : ∀ {ks : List Key} {xs : List V} {us : List Value}, Vals xs us → KV (ks.zip xs) (ks.zip us)
  | [], _, _, _ => .nil
  | k :: ks, _, _, .nil => .nil
  | k :: ks, _, _, .cons r rr => .cons ⟨rfl, r⟩ (kv_zip rr)
theorem pe_dictEnum {p p2 pos2 : Pos} {ta : TE} (hc : X.calm = true) (hg : Gl X "dict") (hm : X.mg "dict" = none) (hg2 : Gl X "enumerate") (hm2 : X.mg "enumerate" = none) (ha : PE X a ta)
    (nb : starEach [.Call (.Name "enumerate" p2) [a] [] pos2] X.env = (false, eval (.Call (.Name "enumerate" p2) [a] [] pos2) X.env) :: starEach [] X.env := by rfl) (na : starEach [a] X.env = (false, eval a X.env) :: starEach [] X.env := by rfl) :
    PE X (.Call (.Name "dict" p) [.Call (.Name "enumerate" p2) [a] [] pos2] [] pos) (tDEnum X.K ta) := by
  refine ⟨fun pins s σ H Q I h => ?_⟩
  refine Call_ (ld_blt I hg hm boot_dict (PyProof.Rows.callWith_type1 (args_cons (thn (?_ : wpAny (model X.prog X.w) X.A (eval (.Call (.Name "enumerate" p2) [a] [] pos2) X.env) (fun v s2 => ∃ r it l its xs H1, v = .ref r ∧ Vals xs its ∧ xs.length ≤ sizeLine ∧ l ≠ r ∧ l ≠ it ∧ r ≠ it ∧ FpOk X pins H1 r ∧ FpOk X pins H1 it ∧ (∃ old, IsEnum s2.heap r it 0 old) ∧ s2.heap.IsListIter it l 0 ∧ s2.heap.IsList l its.toArray ∧ Inv X pins σ H1 s2 ∧
      ∀ q, H1 q = none → Q (.ref q) (upd H1 q (.dK ((numK xs.length).zip xs)))) X.xe s) fun x s1 hx => args_nil ?_) nb) nb))
  · refine Call_ (ld_blt I hg2 hm2 boot_enumerate (PyProof.Rows.callWith_type1 (one_arg ha I h (fun v s2 x H2 I2 r q => ?_) na) na))
    obtain ⟨l, xs, rfl, hl, q⟩ := q
    obtain rfl : v = Value.ref l := r
    obtain ⟨its, rv, p', hz⟩ := I2.list hl
    have hlt : l < s2.heap.objs.size := by
      obtain ⟨o, n, ho, _⟩ := p'
      exact Heap.lt_size ho
    refine call_enumerate_list p'.isList fun h' he hit hsz hk => ?_
    have I3 : Inv X pins σ H2 { s2 with heap := h' } := I2.kept (t' := s2.toks) hk
    exact ⟨_, s2.heap.objs.size, l, its, xs, H2, rfl, rv, hz, Nat.ne_of_lt (Nat.lt_succ_of_lt hlt), Nat.ne_of_lt hlt, Nat.succ_ne_self _, I2.fpOk (Nat.le_succ _) (I2.hok.fresh (Nat.le_succ _)), I2.fpOk (Nat.le_refl _) (I2.hok.fresh (Nat.le_refl _)), ⟨_, he⟩, hit, p'.isList.at fun o e => hk _ o e, I3, q⟩
  · obtain ⟨r, it, l, its, xs, H1, rfl, rv, hz, n1, n2, n3, f1, f2, he, hit, hl, I1, q⟩ := hx
    have hlen := rv.length
    refine PySem.call_dict_pairs (knd := mixKind X.prog X.w) (kvs := (numK xs.length).zip its) (PairArg.enumerate r it l n3 n1 n2 its.toArray) (I1.ok.hd hc) ⟨he, hit, hl⟩ ⟨by simp [numK_length, hlen], fun i key v hr => ?_⟩ (by simpa [hlen] using hz) fun h' tk hd hk => ?_
    · obtain ⟨⟨t, rfl⟩, hv⟩ := hr
      refine ⟨.inl (i : Int), ?_, ?_⟩
      · have hv' : its[i]? = some v := by simpa using hv
        have hi : i < its.length := (List.getElem?_eq_some_iff.mp hv').1
        rw [List.getElem?_zip_eq_some]
        refine ⟨?_, hv'⟩
        unfold numK
        rw [List.getElem?_map, List.getElem?_range (by omega)]
        rfl
      · exact kV_is (k := .inl (i : Int)) ⟨t, rfl⟩
    · have hm : (s1.heap.objs.size == sysModules) = false := beq_eq_false_iff_ne.mpr (Nat.ne_of_gt I1.big)
      have rel := KV.merge (kv_zip (ks := numK xs.length) rv) .nil
      rw [merge_new _ [] (by rw [List.nil_append, zip_fst (numK_length _)]; exact numK_nodup _), List.nil_append] at rel
      refine ⟨.ref s1.heap.objs.size, upd H1 s1.heap.objs.size (.dK ((numK xs.length).zip xs)), I1.turnedNew (t' := tk) (ch := [r, it]) hk (fun b hb => ?_) (Nat.le_refl _) (show ObjOk X.prog X.w _ _ _ (.dK ((numK xs.length).zip xs)) from ⟨?_, hm, merged [] ((numK xs.length).zip its), rel, hd⟩), rfl, q _ (I1.hok.fresh (Nat.le_refl _))⟩
      · simp only [List.mem_cons, List.not_mem_nil, or_false] at hb
        rcases hb with rfl | rfl
        · exact f1
        · exact f2
      · rw [List.length_zip, numK_length, Nat.min_self]; exact hz
def zDEnum (T : TZ) : TZ := fun env M Q => T env M fun x M1 => match lstK M1 x with
  | some (xs, _) => Q (.dic (numK xs.length) xs) M1
  | none => False
theorem ze_dictEnum {p p2 pos2 : Pos} (hc : X.calm = true) (B : Bs X.mg) (ha : ZE X a Ta) (hg : Gl X "dict" := by rfl) (hg2 : Gl X "enumerate" := by rfl)
    (nb : starEach [.Call (.Name "enumerate" p2) [a] [] pos2] X.env = (false, eval (.Call (.Name "enumerate" p2) [a] [] pos2) X.env) :: starEach [] X.env := by rfl) (na : starEach [a] X.env = (false, eval a X.env) :: starEach [] X.env := by rfl) :
    ZE X (.Call (.Name "dict" p) [.Call (.Name "enumerate" p2) [a] [] pos2] [] pos) (zDEnum Ta) := PE.wk (pe_dictEnum hc hg B.dict hg2 B.enumerate ha nb na) fun σ H Q h => by
  obtain ⟨G, env, M, Q', rs, rm, t, k⟩ := h
  refine ⟨G, env, M, _, rs, rm, t, fun d v M1 H1 e1 rm1 rd t1 => ?_⟩
  split at t1
  · next xs ck hl =>
    obtain ⟨a, rfl, hck, hz, hk⟩ := lstK_ok rm1 rd hl
    obtain ⟨vs, h1, h2⟩ := hk G M1 H1 (fun _ _ _ g => g) Ex.refl.1 rm1 hck
    refine ⟨a, vs, rfl, SqL.of h1, fun p hp => ?_⟩
    have hlen := h2.length
    refine k (.dic (numK xs.length) xs) (.ref p) M1 _ (e1.trans (ex_new rm1 hp)) (rel_new rm1 hp) ⟨p, (numK vs.length).zip vs, rfl, ⟨rm1.fresh hp, rm1.noG hp⟩, upd_same, ?_, ?_⟩ t1
    · rw [zip_fst (numK_length _), hlen]
    · have : ((numK vs.length).zip vs).map (·.2) = vs := zip_snd (numK_length _)
      rw [this]
      exact h2.mono (ex_new rm1 hp)
  · exact t1.elim

/-! ### dict(d) -/
def rDCopy : List V → Hp → VK → Prop := fun xs H Q => ∃ (a : Addr) (kvs : List (Key × V)), xs = [.ref a] ∧ Rd H a (.dK kvs) ∧ ∀ p, H p = none → Q (.ref p) (upd H p (.dK kvs))
theorem call_dCopy : CallR X (.type "dict") rDCopy := by
  intro pins s σ H xs us Q I r h
  obtain ⟨a, kvs, rfl, hd, q⟩ := h
  obtain ⟨u, rfl, ru⟩ := vals1 r
  obtain rfl : u = Value.ref a := ru
  exact d_copyOf I hd fun p s' hp I' => ⟨.ref p, _, I', rfl, q p hp⟩
def rzDCopy : RCZ := fun ds M Q => match ds with
  | [d] => match dicOf M d with
    | some kvs => Q (.dic (kvs.map (·.1)) (kvs.map (·.2))) M
    | none => False
  | _ => False
theorem q_dictCopy {p : Pos} (B : Bs X.mg) (ha : ZE X a Ta) (hg : Gl X "dict" := by rfl) (he : starEach [a] X.env = (false, eval a X.env) :: starEach [] X.env := by rfl) (hpl : (backTo pos (starEach [] X.env)).any (·.1) = false := by rfl) : ZE X (.Call (.Name "dict" p) [a] [] pos) (zCall rzDCopy (zaCons Ta zaNil)) :=
  ze_callTy call_dCopy (fun {G M H xs ds Q Q'} rm r h (k : Kont G M H Q Q') => by
    unfold rzDCopy at h
    split at h
    · next d =>
      obtain ⟨v, rfl, rv⟩ := reps1 r
      split at h
      · next kvs hd =>
        obtain ⟨a, ws, rfl, h1, h2⟩ := dic_ok rm rv hd
        refine ⟨a, ws, rfl, .inl h1, fun p hp => ?_⟩
        exact k (.dic (kvs.map (·.1)) (kvs.map (·.2))) (.ref p) M _ (ex_new rm hp) (rel_new rm hp) ⟨p, ws, rfl, ⟨rm.fresh hp, rm.noG hp⟩, upd_same, h2.1, h2.2.mono (ex_new rm hp)⟩ h
      · exact h.elim
    · exact h.elim) hg B.dict (by rfl) (za_cons ha za_nil he) (by decide) (by decide) he hpl
theorem q_isDict {p p2 : Pos} (B : Bs X.mg) (ha : ZE X e Ta) (hg : Gl X "isinstance" := by rfl) (hg2 : Gl X "dict" := by rfl) (hs : starEach [e, .Name "dict" p2] X.env = (false, eval e X.env) :: starEach [.Name "dict" p2] X.env := by rfl) : ZE X (.Call (.Name "isinstance" p) [e, .Name "dict" p2] [] pos) (zUn (rzIsi .dic) Ta) :=
  ze_isi hg B.isinstance ha (ze_c (v := .ty "dict") (pe_bltn hg2 B.dict (by rfl) rfl) fun _ _ _ => rfl) (by decide) hs
end
end Zz

set_option Elab.async false
set_option linter.all false
set_option maxRecDepth 100000
set_option maxHeartbeats 4000000
/-! Z31: *e in a list, max and min of a list of ints, len(set(xs)). -/
namespace Zz
open PySem PySem.Spec PyProof.Rows L2

/-! ### *e -/
def zaStar (T : TZ) (Tr : TAZ) : TAZ := fun env M Q => T env M fun x M1 => match seqOf M1 x with
  | some xs => Tr env M1 fun ys M2 => Q (xs ++ ys) M2
  | none => False
theorem za_star {X : Cx} {e : Expr} {es : List Expr} {p : Pos} {T : TZ} {Tr : TAZ} (he : ZE X e T) (hr : ZA X es Tr) (hs : starEach (.Starred e p :: es) X.env = (true, eval e X.env) :: starEach es X.env := by rfl) : ZA X (.Starred e p :: es) (zaStar T Tr) := PA.wk (StX.pa_star he hr hs) fun σ H Q h => by
  obtain ⟨G, env, M, Q', rs, rm, t, k⟩ := h
  refine ⟨G, env, M, _, rs, rm, t, fun d v M1 H1 e1 rm1 rd t1 => ?_⟩
  split at t1
  · next xs hx =>
    obtain ⟨a, vs, rfl, h1, hz, h2⟩ := seq_ok (K := X.K) rm1 rd hx
    exact ⟨a, vs, rfl, h1.symm, G, env, M1, _, rs.mono e1, rm1, t1, fun ds ws M2 H2 e2 rm2 rds t2 => k _ _ M2 H2 (e1.trans e2) rm2 ((h2.mono e2).append rds) t2⟩
  · exact t1.elim
/-! ### tests y in d, y not in d -/
section
variable {X : Cx} {a b : Expr} {pos : Pos} {Ta Tb : TZ}
theorem p_din {k : Nat} (hr : Room k X.A) (ha : ZE X a Ta) (hb : ZE X b Tb) (hm : behindInMarks .In b = false := by first | rfl | with_unfolding_all rfl) : ZP X (.Compare a [.In] [b] pos) (zTst (zBin (rzDIn false) Ta Tb)) :=
  PT.wk (pt_cmp (pc_dinZ hr ha hb) hm) fun _ _ _ => zp_tst fun _ _ _ h => h
theorem p_dnotIn {k : Nat} (hr : Room k X.A) (ha : ZE X a Ta) (hb : ZE X b Tb) (hm : behindInMarks .NotIn b = false := by first | rfl | with_unfolding_all rfl) : ZP X (.Compare a [.NotIn] [b] pos) (zTst (zBin (rzDIn true) Ta Tb)) :=
  PT.wk (pt_cmp (pc_dninZ hr ha hb) hm) fun _ _ _ => zp_tst fun _ _ _ h => h
end
/-! ### max([..]), min([..]) -/
def rMaxL (K : PySem.W.Frag) : List V → Hp → VK → Prop := fun xs H Q => ∃ (l : Addr) (ns : List Int), xs = [.ref l] ∧ SqL K H l (ns.map V.int) ∧ ns ≠ [] ∧ ∀ m, m ∈ ns → (∀ n, n ∈ ns → n ≤ m) → Q (.int m) H
def rMinL (K : PySem.W.Frag) : List V → Hp → VK → Prop := fun xs H Q => ∃ (l : Addr) (ns : List Int), xs = [.ref l] ∧ SqL K H l (ns.map V.int) ∧ ns ≠ [] ∧ ∀ m, m ∈ ns → (∀ n, n ∈ ns → m ≤ n) → Q (.int m) H
theorem int_item {ns : List Int} {its : List Value} (hi : IntsAre its ns) {i : Nat} {v : Value} (hv : its.toArray[i]? = some v) : ∃ t, v = .int (ns.getD i 0) t := by
  have hv' : its[i]? = some v := by simpa using hv
  obtain ⟨t, e⟩ := IntsAre.int_at hi i v hv'
  exact ⟨t, e⟩
section
variable {X : Cx}
theorem cr_maxL (hc : X.calm = true) : CallR X (.builtin "max") (rMaxL X.K) := by
  intro pins s σ H xs us Q I r h
  obtain ⟨l, ns, rfl, hl, hne, q⟩ := h
  obtain ⟨u, rfl, ru⟩ := vals1 r
  obtain rfl : u = Value.ref l := ru
  obtain ⟨its, rv, hlst, hz⟩ := I.list hl
  have hints : IntsAre its ns := ints_of_vals rv
  have hlen : its.length = ns.length := hints.length
  have hpos : 0 < ns.length := List.length_pos_iff.mpr hne
  have ltL : l < s.heap.objs.size := by
    obtain ⟨o, n, ho, _⟩ := hlst
    exact Heap.lt_size ho
  have hA : X.A.in1.handled = none := by simp [I.ok.hd hc]
  refine call_max_walk (wpAny_pyIter_list hlst.isList ?_)
  refine ⟨s.heap.objs.size, _, _, its.toArray.size, _, _, fun i j => decide (ns.getD i 0 > ns.getD j 0), rfl, Walks.list hA _ l (Nat.ne_of_lt ltL) its.toArray, ⟨⟨_, Heap.get?_push_size _ rfl, rfl, rfl⟩, hlst.isList.push _⟩, fun b hb => ?_, by rw [List.size_toArray]; omega, CmpOf.ints_gt (fun i => ns.getD i 0) (fun i v hv => int_item hints hv), fun v h' tk hv hk => ?_⟩
  · have sz : (s.heap.push { cls := .type "list_iterator", data := .fields #[.ref l, .int 0 0] }).objs.size = s.heap.objs.size + 1 := Heap.size_push ..
    show b < (s.heap.push { cls := .type "list_iterator", data := .fields #[.ref l, .int 0 0] }).objs.size
    rw [sz]
    simp only [List.mem_cons, List.not_mem_nil, or_false] at hb
    rcases hb with rfl | rfl
    · exact Nat.lt_succ_self _
    · exact Nat.lt_succ_of_lt ltL
  · obtain ⟨t, rfl⟩ := int_item hints hv
    obtain ⟨b1, b2⟩ := argBest_gt (fun i => ns.getD i 0) (its.toArray.size - 1)
    rw [List.size_toArray, hlen] at b1 b2 ⊢
    have I' : Inv X pins σ H { s with heap := h', toks := tk } := I.kept (t' := tk) fun b o e => hk b o (by
      simp only [List.mem_cons, List.not_mem_nil, or_false]
      exact Nat.ne_of_lt (Heap.lt_size e)) (Heap.get?_push_of_some _ e)
    refine ⟨.int _, H, I', ⟨t, rfl⟩, q _ (getD_mem (by omega)) fun n hn => ?_⟩
    obtain ⟨j, hj, rfl⟩ := mem_getD hn
    exact b2 j (by omega)
theorem cr_minL (hc : X.calm = true) : CallR X (.builtin "min") (rMinL X.K) := by
  intro pins s σ H xs us Q I r h
  obtain ⟨l, ns, rfl, hl, hne, q⟩ := h
  obtain ⟨u, rfl, ru⟩ := vals1 r
  obtain rfl : u = Value.ref l := ru
  obtain ⟨its, rv, hlst, hz⟩ := I.list hl
  have hints : IntsAre its ns := ints_of_vals rv
  have hlen : its.length = ns.length := hints.length
  have hpos : 0 < ns.length := List.length_pos_iff.mpr hne
  have ltL : l < s.heap.objs.size := by
    obtain ⟨o, n, ho, _⟩ := hlst
    exact Heap.lt_size ho
  have hA : X.A.in1.handled = none := by simp [I.ok.hd hc]
  refine call_min_walk (wpAny_pyIter_list hlst.isList ?_)
  refine ⟨s.heap.objs.size, _, _, its.toArray.size, _, _, fun i j => decide (ns.getD i 0 < ns.getD j 0), rfl, Walks.list hA _ l (Nat.ne_of_lt ltL) its.toArray, ⟨⟨_, Heap.get?_push_size _ rfl, rfl, rfl⟩, hlst.isList.push _⟩, fun b hb => ?_, by rw [List.size_toArray]; omega, CmpOf.ints_lt (fun i => ns.getD i 0) (fun i v hv => int_item hints hv), fun v h' tk hv hk => ?_⟩
  · have sz : (s.heap.push { cls := .type "list_iterator", data := .fields #[.ref l, .int 0 0] }).objs.size = s.heap.objs.size + 1 := Heap.size_push ..
    show b < (s.heap.push { cls := .type "list_iterator", data := .fields #[.ref l, .int 0 0] }).objs.size
    rw [sz]
    simp only [List.mem_cons, List.not_mem_nil, or_false] at hb
    rcases hb with rfl | rfl
    · exact Nat.lt_succ_self _
    · exact Nat.lt_succ_of_lt ltL
  · obtain ⟨t, rfl⟩ := int_item hints hv
    obtain ⟨b1, b2⟩ := argBest_lt (fun i => ns.getD i 0) (its.toArray.size - 1)
    rw [List.size_toArray, hlen] at b1 b2 ⊢
    have I' : Inv X pins σ H { s with heap := h', toks := tk } := I.kept (t' := tk) fun b o e => hk b o (by
      simp only [List.mem_cons, List.not_mem_nil, or_false]
      exact Nat.ne_of_lt (Heap.lt_size e)) (Heap.get?_push_of_some _ e)
    refine ⟨.int _, H, I', ⟨t, rfl⟩, q _ (getD_mem (by omega)) fun n hn => ?_⟩
    obtain ⟨j, hj, rfl⟩ := mem_getD hn
    exact b2 j (by omega)
end
def rzMaxL : RCZ := fun ds M Q => match ds with
  | [d] => match view M d with
    | .lst xs => ∃ ns : List Int, xs = ns.map D.int ∧ ns ≠ [] ∧ ∀ m, m ∈ ns → (∀ n, n ∈ ns → n ≤ m) → Q (.int m) M
    | _ => False
  | _ => False
def rzMinL : RCZ := fun ds M Q => match ds with
  | [d] => match view M d with
    | .lst xs => ∃ ns : List Int, xs = ns.map D.int ∧ ns ≠ [] ∧ ∀ m, m ∈ ns → (∀ n, n ∈ ns → m ≤ n) → Q (.int m) M
    | _ => False
  | _ => False
section
variable {X : Cx} {e : Expr} {T : TZ} {p pos : Pos}
theorem q_maxL (hc : X.calm = true) (B : Bs X.mg) (ha : ZE X e T) (hg : Gl X "max" := by rfl) (he : starEach [e] X.env = (false, eval e X.env) :: starEach [] X.env := by rfl) (hpl : (backTo pos (starEach [] X.env)).any (·.1) = false := by rfl) : ZE X (.Call (.Name "max" p) [e] [] pos) (zCall rzMaxL (zaCons T zaNil)) :=
  ze_callB (cr_maxL hc) (fun {G M H xs ds Q Q'} rm r h (k : Kont G M H Q Q') => by
    unfold rzMaxL at h
    split at h
    · next d =>
      obtain ⟨v, rfl, rv⟩ := reps1 r
      split at h
      · next ys hv =>
        obtain ⟨a, vs, rfl, h1, h2, h3⟩ := view_lst rm rv hv
        obtain ⟨ns, rfl, hn, q⟩ := h
        have ev : vs = ns.map V.int := ints_reps (intsOf_ints ns) h3
        subst ev
        exact ⟨a, ns, rfl, SqL.of h1, hn, fun m hm hx => k (.int m) _ M H Ex.refl rm rfl (q m hm hx)⟩
      · exact h.elim
    · exact h.elim) hg B.max (by rfl) (za_cons ha za_nil he) (by decide) (by decide) he hpl
theorem q_minL (hc : X.calm = true) (B : Bs X.mg) (ha : ZE X e T) (hg : Gl X "min" := by rfl) (he : starEach [e] X.env = (false, eval e X.env) :: starEach [] X.env := by rfl) (hpl : (backTo pos (starEach [] X.env)).any (·.1) = false := by rfl) : ZE X (.Call (.Name "min" p) [e] [] pos) (zCall rzMinL (zaCons T zaNil)) :=
  ze_callB (cr_minL hc) (fun {G M H xs ds Q Q'} rm r h (k : Kont G M H Q Q') => by
    unfold rzMinL at h
    split at h
    · next d =>
      obtain ⟨v, rfl, rv⟩ := reps1 r
      split at h
      · next ys hv =>
        obtain ⟨a, vs, rfl, h1, h2, h3⟩ := view_lst rm rv hv
        obtain ⟨ns, rfl, hn, q⟩ := h
        have ev : vs = ns.map V.int := ints_reps (intsOf_ints ns) h3
        subst ev
        exact ⟨a, ns, rfl, SqL.of h1, hn, fun m hm hx => k (.int m) _ M H Ex.refl rm rfl (q m hm hx)⟩
      · exact h.elim
    · exact h.elim) hg B.min (by rfl) (za_cons ha za_nil he) (by decide) (by decide) he hpl
end
/-! ### len(set(xs)) -/
theorem nodup_len : ∀ (K ns : List Int), K.Nodup → (∀ k, k ∈ K → k ∈ ns) → K.length ≤ ns.length ∧ (K.length = ns.length → (∀ k, k ∈ ns → k ∈ K) ∧ ns.Nodup)
  | [], ns, _, _ => ⟨Nat.zero_le _, fun h => by
    have : ns = [] := List.length_eq_zero_iff.mp h.symm
    subst this; exact ⟨fun k hk => hk, .nil⟩⟩
  | k :: K, ns, hn, hs => by
    obtain ⟨h1, h2⟩ := List.nodup_cons.mp hn
    have hk : k ∈ ns := hs k (by simp)
    have hlen := List.length_erase_of_mem hk
    have hpos : 0 < ns.length := List.length_pos_of_mem hk
    obtain ⟨a, b⟩ := nodup_len K (ns.erase k) h2 fun j hj => (List.mem_erase_of_ne fun e => h1 (by rw [← e]; exact hj)).mpr (hs j (List.mem_cons_of_mem _ hj))
    refine ⟨by rw [List.length_cons]; omega, fun he => ?_⟩
    obtain ⟨c, d⟩ := b (by rw [List.length_cons] at he; omega)
    have hp := List.perm_cons_erase hk
    refine ⟨fun j hj => ?_, ?_⟩
    · by_cases e : j = k
      · subst e; simp
      · exact List.mem_cons_of_mem _ (c j ((List.mem_erase_of_ne e).mpr hj))
    · rw [hp.nodup_iff]
      exact List.nodup_cons.mpr ⟨fun hm => h1 (c k hm), d⟩
def rLenSet (w : World) : List V → Hp → VK → Prop := fun xs H Q => ∃ (p : Addr) (S : Int → Bool) (c : Nat), xs = [.ref p] ∧ H p = some (SetO w p S c) ∧ ∀ K : List Int, K.Nodup → (∀ k, S k = true ↔ k ∈ K) → K.length = c → Q (.int (c : Nat)) H
theorem cr_lenSet {X : Cx} : CallR X (.builtin "len") (rLenSet X.w) := by
  intro pins s σ H xs us Q I r h
  obtain ⟨p, S, c, rfl, hp, q⟩ := h
  obtain ⟨u, rfl, ru⟩ := vals1 r
  obtain rfl : u = Value.ref p := ru
  obtain ⟨o, es, ep, t, ho, hex, hd, hg, hnd, hm, hb, hf, hn, _⟩ : SetR X.w s.heap p S c := setO_get I hp
  refine call_len_set ho hex hd hf (by unfold scanBound at hb; omega) ?_
  refine ⟨.int (es.size : Nat), H, I.tok _, ⟨_, rfl⟩, ?_⟩
  rw [hn]
  exact q _ hnd hm (by rw [List.length_map, Array.length_toList, hn])
/-- of at most 60 ints: as many as there are unlike ones -/
def rzLenSet : R1Z := fun d M Q => match view M d with
  | .lst xs => ∃ ns : List Int, xs = ns.map D.int ∧ ns.length < 60 ∧ ∀ c : Nat, c ≤ ns.length → (c = ns.length ↔ ns.Nodup) → Q (.int (c : Nat)) M
  | _ => False
theorem ze_lenSet {X : Cx} {e : Expr} {T : TZ} {p p2 pos pos2 : Pos} (hc : X.calm = true) (B : Bs X.mg) (he : ZE X e T) (hg : Gl X "len" := by rfl) (hg2 : Gl X "set" := by rfl)
    (na : starEach [e] X.env = (false, eval e X.env) :: starEach [] X.env := by rfl) (nb : starEach [.Call (.Name "set" p2) [e] [] pos2] X.env = (false, eval (.Call (.Name "set" p2) [e] [] pos2) X.env) :: starEach [] X.env := by rfl) : ZE X (.Call (.Name "len" p) [.Call (.Name "set" p2) [e] [] pos2] [] pos) (zUn rzLenSet T) :=
  PE.wk (pe_callB cr_lenSet hg B.len (by rfl) (pa_cons (pe_callTy (call_setL hc) hg2 B.set (by rfl) (pa_cons he pa_nil na) (by decide) (by decide) na) pa_nil nb) (by decide) (by decide) nb) fun σ H Q h => by
  obtain ⟨G, env, M, Q', rs, rm, t, kk⟩ := h
  refine ⟨G, env, M, _, rs, rm, t, fun d v M1 H1 e1 rm1 rd t1 => ?_⟩
  unfold rzLenSet at t1
  split at t1
  · next xs hv =>
    obtain ⟨a, vs, rfl, h1, h2, h3⟩ := view_lst rm1 rd hv
    obtain ⟨ns, rfl, hn, q⟩ := t1
    have ev : vs = ns.map V.int := ints_reps (intsOf_ints ns) h3
    subst ev
    refine ⟨a, ns, rfl, SqL.of h1, hn, fun p c hcn hp => ?_⟩
    refine ⟨p, _, c, rfl, upd_same, fun K hK hm hl => ?_⟩
    have hm' : ∀ k, k ∈ ns ↔ k ∈ K := fun k => by rw [← hm k, decide_eq_true_eq]
    have x1 := ex_new (o := SetO X.w p (fun j => decide (j ∈ ns)) c) rm1 hp
    have m1 := rel_new (o := SetO X.w p (fun j => decide (j ∈ ns)) c) rm1 hp
    obtain ⟨z1, z2⟩ := nodup_len K ns hK fun k hk => (hm' k).mpr hk
    refine kk (.int (c : Nat)) _ M1 _ (e1.trans x1) m1 rfl (q c hcn ⟨fun e => (z2 (hl.trans e)).2, fun hnd => ?_⟩)
    have := (nodup_len ns K hnd fun k hk => (hm' k).mp hk).1
    omega
  · exact t1.elim
end Zz

set_option Elab.async false
set_option linter.all false
set_option maxRecDepth 100000
set_option maxHeartbeats 1000000
/-! Z32: repr of data with numbers of up to forty digits. -/
namespace Zz
open PySem PySem.Spec PyProof.Rows L2

mutual
def wmI : D → Bool
  | .int i => decide (i.natAbs < 10 ^ 40)
  | .tup xs => wmIs xs
  | .lst xs => wmIs xs
  | _ => true
def wmIs : List D → Bool
  | [] => true
  | x :: xs => wmI x && wmIs xs
end
theorem log_wide {i : Int} (h : i.natAbs < 10 ^ 40) : i.natAbs.log2 < 134 := by
  by_cases h0 : i.natAbs = 0
  · rw [h0]; decide
  · exact (Nat.log2_lt h0).mpr (Nat.lt_of_lt_of_le h (by decide))
mutual
theorem wmI_ints : ∀ d : D, wmI d = true → (toPy d).intsShort 41 = true
  | .non, _ => rfl
  | .bl _, _ => rfl
  | .int i, h => by
    have h : i.natAbs < 10 ^ 40 := of_decide_eq_true h
    show decide _ = true
    have e := int_text_length_le10 (k := 40) (by decide) h
    have e2 : (PyData.shown (.int i)).length ≤ 41 := by
      show (Str.ofString (toString i)).length ≤ 41
      rw [PySem.ofString_length]; exact e
    exact decide_eq_true e2
  | .str _, _ => rfl
  | .tup xs, h => wmIs_ints xs h
  | .lst xs, h => wmIs_ints xs h
  | .dic _ _, _ => rfl
  | .dct _ _, _ => rfl
  | .ref _, _ => rfl
  | .ty _, _ => rfl
  | .kls _ _ _, _ => rfl
  | .err _ _ _, _ => rfl
  | .exc _ _ _, _ => rfl
  | .lam _ _ _, _ => rfl
theorem wmIs_ints : ∀ xs : List D, wmIs xs = true → PyData.intsShortAll 41 (toPys xs) = true
  | [], _ => rfl
  | x :: xs, h => by
    have h : (wmI x && wmIs xs) = true := h
    rw [Bool.and_eq_true] at h
    show (_ && _) = true
    rw [wmI_ints x h.1, wmIs_ints xs h.2]; rfl
end
mutual
theorem wmI_showable : ∀ d : D, wmI d = true → (toPy d).showable = true
  | .non, _ => rfl
  | .bl _, _ => rfl
  | .int i, h => by
    have h : i.natAbs < 10 ^ 40 := of_decide_eq_true h
    show decide _ = true
    have := log_wide h
    exact decide_eq_true (by omega)
  | .str _, _ => rfl
  | .tup xs, h => wmIs_showable xs h
  | .lst xs, h => wmIs_showable xs h
  | .dic _ _, _ => rfl
  | .dct _ _, _ => rfl
  | .ref _, _ => rfl
  | .ty _, _ => rfl
  | .kls _ _ _, _ => rfl
  | .err _ _ _, _ => rfl
  | .exc _ _ _, _ => rfl
  | .lam _ _ _, _ => rfl
theorem wmIs_showable : ∀ xs : List D, wmIs xs = true → PyData.showableAll (toPys xs) = true
  | [], _ => rfl
  | x :: xs, h => by
    have h : (wmI x && wmIs xs) = true := h
    rw [Bool.and_eq_true] at h
    show (_ && _) = true
    rw [wmI_showable x h.1, wmIs_showable xs h.2]; rfl
end
/-- as Sho, wider numbers -/
structure Wid (n w : Nat) (d : D) : Prop where
  ok : ∀ k, n ≤ k → okD k d = true
  sm : wmI d = true
  wt : (toPy d).weight ≤ w
theorem Wid.mono {n w n' w' : Nat} {d : D} (h : Wid n w d) (hn : n ≤ n' := by decide) (hw : w ≤ w' := by decide) : Wid n' w' d := ⟨fun k hk => h.ok k (Nat.le_trans hn hk), h.sm, Nat.le_trans h.wt hw⟩
theorem Wid.non : Wid 0 40 .non := ⟨fun k _ => by cases k <;> rfl, rfl, by decide⟩
theorem Wid.bl {b : Bool} : Wid 0 40 (.bl b) := ⟨fun k _ => by cases k <;> rfl, rfl, by show 0 ≤ 40; decide⟩
theorem Wid.int {i : Int} (h : i.natAbs < 10 ^ 40) : Wid 0 140 (.int i) := ⟨fun k _ => by cases k <;> rfl, decide_eq_true h, by
  show (if i == 0 then 0 else i.natAbs.log2 + 1) ≤ 140
  have := log_wide h
  split <;> omega⟩
theorem Wid.str {x : Str} (h : PyData.strOk x = true) (hl : x.cps.size ≤ 40) : Wid 0 40 (.str x) := ⟨fun k _ => by cases k <;> exact h, rfl, hl⟩
theorem wmIs_all : ∀ {xs : List D}, (∀ x, x ∈ xs → wmI x = true) → wmIs xs = true
  | [], _ => rfl
  | x :: xs, h => by
    show (_ && _) = true
    rw [h x List.mem_cons_self, wmIs_all fun y hy => h y (List.mem_cons_of_mem x hy)]; rfl
theorem okDs_allw {n : Nat} : ∀ {xs : List D}, (∀ x, x ∈ xs → okD n x = true) → okDs n xs = true
  | [], _ => rfl
  | x :: xs, h => by
    show (_ && _) = true
    rw [h x List.mem_cons_self, okDs_allw fun y hy => h y (List.mem_cons_of_mem x hy)]; rfl
theorem wt_allw {w : Nat} : ∀ {xs : List D}, (∀ x, x ∈ xs → (toPy x).weight ≤ w) → PyData.weightAll (toPys xs) ≤ xs.length * (w + 1)
  | [], _ => Nat.zero_le _
  | x :: xs, h => by
    have h1 := h x List.mem_cons_self
    have h2 := wt_allw fun y hy => h y (List.mem_cons_of_mem x hy)
    show (toPy x).weight + 1 + PyData.weightAll (toPys xs) ≤ (xs.length + 1) * (w + 1)
    rw [Nat.add_mul, Nat.one_mul]
    omega
theorem Wid.tup {n w : Nat} {xs : List D} (h : ∀ x, x ∈ xs → Wid n w x) : Wid (n + 1) (xs.length * (w + 1)) (.tup xs) := ⟨fun k hk => by
    obtain ⟨j, rfl⟩ : ∃ j, k = j + 1 := ⟨k - 1, by omega⟩
    exact okDs_allw fun x hx => (h x hx).ok j (by omega), wmIs_all fun x hx => (h x hx).sm, wt_allw fun x hx => (h x hx).wt⟩
theorem Wid.lst {n w : Nat} {xs : List D} (h : ∀ x, x ∈ xs → Wid n w x) : Wid (n + 1) (xs.length * (w + 1)) (.lst xs) := ⟨fun k hk => by
    obtain ⟨j, rfl⟩ : ∃ j, k = j + 1 := ⟨k - 1, by omega⟩
    exact okDs_allw fun x hx => (h x hx).ok j (by omega), wmIs_all fun x hx => (h x hx).sm, wt_allw fun x hx => (h x hx).wt⟩
/-- two of a kind in a list -/
theorem Wid.two {n w : Nat} {x y : D} (h : Wid n w x) (h2 : Wid n w y) : Wid (n + 1) (2 * (w + 1)) (.lst [x, y]) := by
  have := Wid.lst (n := n) (w := w) (xs := [x, y]) fun z hz => by
    simp only [List.mem_cons, List.not_mem_nil, or_false] at hz
    rcases hz with rfl | rfl
    · exact h
    · exact h2
  exact this
theorem repr_wd {n w : Nat} {d : D} {M : MM} {Q : D → MM → Prop} (h : Wid n w (view M d)) (hn : n ≤ 60) (hw : w ≤ 100000) (q : Q (.str (toPy (view M d)).shown) M) : rzRepr [d] M Q :=
  ⟨h.ok 60 hn, wmI_showable _ h.sm, by
    have h1 := PyData.shown_le 41 (by decide) _ (PyData.leavesShort_of_canLay0 41 _ (ok_lay 60 _ (h.ok 60 hn)).1 (wmI_ints _ h.sm))
    have h2 : (41 + 2) * (toPy (view M d)).weight ≤ 43 * 100000 := Nat.mul_le_mul (by omega) (Nat.le_trans h.wt hw)
    rw [sizeLine_eq]; omega, q⟩
theorem ev_reprW {Ta : TZ} {env : ZT} {M : MM} {d e : D} {n w : Nat} (ha : Ev Ta env M d) (hv : view M d = e) (h : Wid n w e) (hn : n ≤ 60 := by decide) (hw : w ≤ 100000 := by decide) : Ev (zCall rzRepr (zaCons Ta zaNil)) env M (.str (toPy e).shown) := fun Q k => by
  subst hv
  exact ha _ (repr_wd h hn hw k)
theorem ev_neSW {Ta Tb : TZ} {env : ZT} {M : MM} {S : Str} (ha : Ev Ta env M (.str S)) (hb : Ev Tb env M (.str S)) : EvT (zTst (zBin rzNeS Ta Tb)) env M false := fun Q k => ha _ (hb _ (by
  show Q (!(S == S)) M
  rw [beq_self_eq_true]; exact k))
/-- repr(a) != repr(b) is False where both are told alike -/
theorem ev_rrW {Ta Tb : TZ} {env : ZT} {M : MM} {d d2 e : D} {n w : Nat} (ha : Ev Ta env M d) (hb : Ev Tb env M d2) (hv : view M d = e) (hv2 : view M d2 = e) (h : Wid n w e) (hn : n ≤ 60 := by decide) (hw : w ≤ 100000 := by decide) : EvT (zTst (zBin rzNeS (zCall rzRepr (zaCons Ta zaNil)) (zCall rzRepr (zaCons Tb zaNil)))) env M false :=
  ev_neSW (ev_reprW ha hv h hn hw) (ev_reprW hb hv2 h hn hw)
end Zz

set_option Elab.async false
set_option linter.all false
set_option maxRecDepth 100000
set_option maxHeartbeats 1000000
/-! Z33: how many unlike ints a set comprehension tells. -/
namespace Zz
open PySem PySem.Spec PyProof.Rows L2

/-- one turn behind the other, each int that is told goes into the set at D -/
def SetTurns (w : World) (J : It) (g : TG) (tt : TT) (te : TE) (vs : List Nat) (σ : L2.St) (D : Addr) (W : Nat → Nat → Hp → Prop) (Fin : Hp → Prop) : Prop := ∀ i m H, W i m H →
  (J.stop i H ∧ Fin H) ∨ (J.go i H ∧ ∃ Nx : Hp → Prop, (∀ H', Nx H' → ∃ m', m' < m ∧ W (i + 1) m' H') ∧ ∀ x H', J.yld i H x H' → g x (wipe σ vs) H' fun σ2 H2 => wipe σ2 vs = wipe σ vs ∧ tt σ2 H2 fun b H3 =>
    if b = true then te σ2 H3 fun y H4 => rSAdd w (.ref D) [y] H4 fun _ H5 => Nx H5 else Nx H3)
def tSi (w : World) (wi : TI) (g : TG) (tt : TT) (te : TE) (vs : List Nat) : TE := fun σ H Q => wi σ H fun J H1 => ∀ D, H1 D = none → ∃ W : Nat → Nat → Hp → Prop, (∃ m, W 0 m (upd H1 D (SetO w D (fun _ => false) 0))) ∧ SetTurns w J g tt te vs σ D W (Q (.ref D))
section
variable {X : Cx} {elt tg iter : Expr} {ifs : List Expr} {scope : Scope} {own : List (PySem.Str × Nat)} {pos : Pos} {wi : TI} {g : TG} {tt : TT} {te : TE}
theorem pe_si (hc : X.calm = true) (hN : X.N.Nodup) (hi : PI X tg iter wi) (ok : BlkOk X.N X.env.scope scope own)
    (hg : ∀ (s : Shared) (H : Hp) (C : Addr) (cl : List (PySem.Str × Addr)) (fp : List Addr), PG (X.blk s H scope (compEnvC scope cl C X.env) fp) tg g) (ht : ∀ (s : Shared) (H : Hp) (C : Addr) (cl : List (PySem.Str × Addr)) (fp : List Addr), PTs (X.blk s H scope (compEnvC scope cl C X.env) fp) ifs tt)
    (he : ∀ (s : Shared) (H : Hp) (C : Addr) (cl : List (PySem.Str × Addr)) (fp : List Addr), PE (X.blk s H scope (compEnvC scope cl C X.env) fp) elt te) (hs : ∀ x, foldedSetIterable iter X.env x = pure x) :
    PE X (.SetComp elt [⟨tg, iter, ifs, 0⟩] scope pos) (tSi X.w wi g tt te (own.map (·.2))) := ⟨fun pins s σ H Q I h => by
  rw [PpSet.eval_SetComp]
  have hfree : ∀ y ∈ scope.names, y.2 = .free → ∃ c, X.env.cells.lookup y.1 = some c := fun y hy e => (ok.free y hy e).elim (fun k => I.ok.has _ (.inl k)) fun k => I.ok.has _ (.inr k)
  refine wpAny_comprehension_free (use := none) rfl hs (closure_ok hfree) ok.kind (fun y hy e => by rw [ok.uniq y hy, e]) (thn (hi.run pins s σ H _ I h) fun xv s1 hx => thn hx fun itv s2 ⟨it, fp, tn, J, H2, e, I2, T, st2, f2, q⟩ => ?_)
  subst e
  refine PpSet.newSet_ok (newEnv_comp ?_)
  obtain ⟨Da, hD⟩ : ∃ Da, s2.heap.objs.size = Da := ⟨_, rfl⟩
  obtain ⟨W, ⟨m0, w0⟩, turns⟩ := q Da (I2.hok.fresh (Nat.le_of_eq hD))
  rw [hD]
  -- behind the new set
  obtain ⟨s3, hs3⟩ : ∃ s3 : Shared, s3 = { s2 with heap := s2.heap.push { cls := .type "set", dict := none, data := .set #[] 0 (.fresh 0 0 (!X.w.params.followText "set-order")) } } := ⟨_, rfl⟩
  have hp3 : s3.heap = s2.heap.push { cls := .type "set", dict := none, data := .set #[] 0 (.fresh 0 0 (!X.w.params.followText "set-order")) } := by rw [hs3]
  rw [← hs3]
  have I3 : Inv X pins σ (upd H2 Da (SetO X.w Da (fun _ => false) 0)) s3 := by
    rw [hs3]
    exact I2.laid (t' := s2.toks) (fun b o e => Heap.get?_push_of_some _ e) (Nat.le_of_eq hD) (by rw [← hD]; exact setO_new (setR_fresh X.w))
  have below : ∀ b ∈ fp, b < s2.heap.objs.size := fun b hb => by
    obtain ⟨o, e, _⟩ := T.obj _ _ st2 b hb
    exact Heap.lt_size e
  have f3 : ∀ b ∈ fp, FpOk X pins (upd H2 Da (SetO X.w Da (fun _ => false) 0)) b ∧ b < s3.heap.objs.size := fun b hb => by
    have hlt := below b hb
    exact ⟨⟨by rw [upd_ne (by rw [← hD]; exact Nat.ne_of_lt hlt)]; exact (f2 b hb).1, (f2 b hb).2⟩, by rw [hp3, Heap.size_push]; exact Nat.lt_succ_of_lt hlt⟩
  have st3 : tn 0 s3.heap := T.keep _ _ _ st2 fun b _ o e => by rw [hp3]; exact Heap.get?_push_of_some _ e
  obtain ⟨H3, hH3⟩ : ∃ H3, H3 = upd H2 Da (SetO X.w Da (fun _ => false) 0) := ⟨_, rfl⟩
  rw [← hH3] at I3 f3 w0
  obtain ⟨C, hC⟩ : ∃ C, C = s3.heap.objs.size := ⟨_, rfl⟩
  obtain ⟨cl, hcl⟩ : ∃ cl, cl = cellsFrom (C + 1) scope.names (cloFrom X.env.cells scope.names []) := ⟨_, rfl⟩
  have I4 := block_start I3 ok hN f3
  have pg := hg s3 H3 C cl fp
  have pt := ht s3 H3 C cl fp
  have pe := he s3 H3 C cl fp
  rw [← hC, ← hcl] at I4 ⊢
  have nfp : ∀ b ∈ fp, H3 b = none := fun b hb => (f3 b hb).1.1
  show codeAny _ _ (.compStart (.SetComp elt [⟨tg, iter, ifs, 0⟩] scope pos) 0 (.ref it) (.ref Da) (compEnvC scope cl C X.env)) (compPost (model X.prog X.w) X.A X.xe none _ (.ref Da) C) { s3 with heap := pushCells (s3.heap.push { cls := .type "dict", data := .dict #[] }) scope.names }
  have cL : (compEnvC scope cl C X.env).locals = C := rfl
  generalize compEnvC scope cl C X.env = ce at I4 pg pt pe cL ⊢
  obtain ⟨s4, hs4⟩ : ∃ s4 : Shared, s4 = { s3 with heap := pushCells (s3.heap.push { cls := .type "dict", data := .dict #[] }) scope.names } := ⟨_, rfl⟩
  rw [← hs4] at I4 ⊢
  have st4 : tn 0 s4.heap := T.keep _ _ _ st3 fun b _ o e => by rw [hs4]; exact pushCells_keeps _ _ _ _ (Heap.get?_push_of_some _ e)
  have stat : ∀ {σ' : L2.St} {H' : Hp} {s' : Shared}, Inv (X.blk s3 H3 scope ce fp) [] σ' H' s' → (∀ b ∈ fp, H' b = none) → ∀ b ∈ fp, FpOk (X.blk s3 H3 scope ce fp) [] H' b := fun {σ' H' s'} I' hn b hb =>
    ⟨hn b hb, (I'.ok.exf b hb).1, I'.ok.exfs b hb, .inl hb, fun x c e => (I'.ok.exf b hb).2 x c e, fun p hp => absurd (show p ∈ ([] : List (Addr × Obj)) ++ [] from hp) (by simp)⟩
  have loop : codeAny (model X.prog X.w) X.A (.compLoop (.SetComp elt [⟨tg, iter, ifs, 0⟩] scope pos) 0 (.ref it) (.ref Da) ce) (compPost (model X.prog X.w) X.A X.xe none (EP X pins σ Q) (.ref Da) C) s4 := by
    refine PpSet.compLoopS_any (fun n s' => ∃ i H', Inv (X.blk s3 H3 scope ce fp) [] (wipe σ (own.map (·.2))) H' s' ∧ tn i s'.heap ∧ (∀ b ∈ fp, H' b = none) ∧ W i n H') ?_ m0 ⟨0, H3, I4, st4, nfp, w0⟩
    rintro n s5 ⟨i, H5, I5, st5, n5, w5⟩
    rcases turns i n H5 w5 with ⟨stop, fin⟩ | ⟨go, Nx, hNx, step⟩
    · refine thnF (T.done (X.blk s3 H3 scope ce fp) rfl rfl rfl hc i [] s5 _ H5 (fun _ _ => False) I5 (stat I5 n5) st5 stop) fun r s6 ⟨hr, I6⟩ => ?_
      subst hr
      have I7 : Inv X pins σ H5 s6 := I3.call' (ch := fp) I6.os I6.base I6.hok I6.bare fun b hb => ⟨(f3 b hb).1.2.2.2.1, (f3 b hb).1.2.1, (f3 b hb).1.2.2.2.2.1, (f3 b hb).1.2.2.2.2.2⟩
      have nC : H5 C = none := by
        have z : H5 ce.locals = none := I6.free
        rwa [cL] at z
      obtain ⟨m, hn, _⟩ := I6.loc
      have hn : s6.heap.Ns ce.locals m := hn
      rw [cL] at hn
      obtain ⟨f0, f1, f2, f3', f4, f5⟩ := I3.fpOk (Nat.le_of_eq hC.symm) nC
      exact ⟨m, hn, fun h'' sb => ⟨.ref Da, H5, I7.turned (t' := s6.toks) (fun b o hb e => (sb.2 b hb).trans e) f0 f1 f3' f4 f5, rfl, fin⟩⟩
    · refine thnF (T.item (X.blk s3 H3 scope ce fp) rfl rfl rfl hc i [] s5 _ H5 (fun _ _ => False) I5 (stat I5 n5) st5 go) fun r s6 ⟨u, hr, h6⟩ => ?_
      subst hr
      refine thnF h6 fun _ s7 ⟨x, H7, I7, r7, y7, st7, n7⟩ => ?_
      refine thnF (pg.run _ s7 _ H7 x u _ (I7.pinned (stat I7 n7) (T.obj _ _ st7)) r7 (step x H7 y7)) fun _ s8 ⟨σ8, H8, I8, hw8, q8⟩ => ?_
      refine thnF (pt.run _ s8 σ8 H8 _ I8 q8) fun b s9 ⟨H9, I9, q9⟩ => ?_
      have again : ∀ {s' : Shared} {H' : Hp}, Inv (X.blk s3 H3 scope ce fp) ([] ++ pinsAt fp s7.heap) σ8 H' s' → Nx H' → ∃ m, m < n ∧ ∃ i H', Inv (X.blk s3 H3 scope ce fp) [] (wipe σ (own.map (·.2))) H' s' ∧ tn i s'.heap ∧ (∀ b ∈ fp, H' b = none) ∧ W i m H' := fun {s' H'} I' nx => by
        obtain ⟨m', hm, w'⟩ := hNx H' nx
        have pin' : ∀ b ∈ fp, ∀ o, s7.heap.get? b = some o → s'.heap.get? b = some o ∧ H' b = none := fun b hb o e =>
          let z := I'.pin (b, o) (List.mem_append_right _ (List.mem_append_right _ (mem_pinsAt hb e)))
          ⟨z.1, z.2.1⟩
        refine ⟨m', hm, i + 1, H', (I'.unpinned (pins := [])).weak (by rw [← hw8, wipe_length]) (fun j v e => ?_), T.keep _ _ _ st7 fun b hb o e => (pin' b hb o e).1, fun b hb => ?_, w'⟩
        · rw [← hw8] at e
          exact (wipe_some e).1
        · obtain ⟨o, e, _⟩ := T.obj _ _ st7 b hb
          exact (pin' b hb o e).2
      cases b with
      | false =>
        simp only [Bool.false_eq_true, if_false] at q9 ⊢
        exact again I9 q9
      | true =>
        simp only [if_true] at q9 ⊢
        refine thnF (pe.run _ s9 σ8 H9 _ I9 q9) fun z s10 ⟨yv, H10, I10, r10, nx⟩ => ?_
        refine thnF (mt_sadd (X := X.blk s3 H3 scope ce fp) _ s10 σ8 H10 (.ref Da) [yv] (.ref Da) [z] (fun _ H5 => Nx H5) I10 rfl (.cons r10 .nil) nx) fun _ s11 ⟨_, H11, I11, _, nx'⟩ => again I11 nx'
  exact PpSet.codeAny_compStart_set loop (T.self X.A 0 _ _ _ st4 loop)⟩
end

/-! ### lifted -/
def zIntOf (te : TZ) : TZ := fun env M Q => te env M fun y M' => (∃ i, y = D.int i) ∧ Q y M'
/-- len({..}) of fewer than 60 ints: at most as many, and as many just if they are unlike -/
def zLenSC (wi : TIZ) (t : Tg) (own : List Nat) (tt : TTZ) (te : TZ) : TZ := fun env M Q => wi env M fun xs chk M1 => xs.length < 60 ∧ compGo chk t tt (zIntOf te) (wipeZ env own) xs [] M1 fun acc M2 => ∀ ns : List Int, acc = ns.map D.int → ∀ c : Nat, c ≤ ns.length → (c = ns.length ↔ ns.Nodup) → Q (.int (c : Nat)) M2
theorem set_turns {w : World} {G : Addr → Prop} {env : ZT} {M1 : MM} {σ : L2.St} {H1 : Hp} {Fin : Hp → Prop} {Q' : List D → MM → Prop} {J : It} {xs : List D} {chk : MM → Prop} {t : Tg} {tt : TTZ} {te : TZ} {own : List Nat} {K : PySem.W.Frag}
    (ho : ∀ i, i ∈ slotsT t → i ∈ own) (rs : RelS G M1 H1 env σ) (rm1 : RelM G M1 H1) (hz : xs.length < 60) (it : ItOk G J M1 H1 xs chk) (ck : chk M1) (t1 : compGo chk t tt (zIntOf te) (wipeZ env own) xs [] M1 Q') (Dl : Addr) (hD : H1 Dl = none)
    (fin : ∀ (ns : List Int) S c M H, Ex G M1 H1 M H → RelM G M H → H Dl = some (SetO w Dl S c) → (∀ k, S k = true ↔ k ∈ ns) → c ≤ ns.length → (c = ns.length ↔ ns.Nodup) → Q' (ns.map D.int) M → Fin H) :
    ∃ W : Nat → Nat → Hp → Prop, (∃ m, W 0 m (upd H1 Dl (SetO w Dl (fun _ => false) 0))) ∧ SetTurns w J (gOf K t) (liftT tt) (liftE te) own σ Dl W Fin := by
  have hM1 : M1 Dl = none := rm1.fresh hD
  have kG : ∀ a o, H1 a = some o → ¬ G a → ¬ aside G Dl a := fun a o h g => aside_not hD h g
  have toG : ∀ {M : MM} {H : Hp}, ∀ a o, H a = some o → ¬ aside G Dl a → ¬ G a := fun a o _ g q => g (.inl q)
  let P : Nat → Hp → Prop := fun i H => ∃ (M : MM) (ns : List Int) (S : Int → Bool) (c : Nat), i ≤ xs.length ∧ ExA (aside G Dl) M1 H1 M H ∧ (∀ a, G a → H a = H1 a) ∧ RelM (aside G Dl) M H ∧ H Dl = some (SetO w Dl S c) ∧ (∀ k, S k = true ↔ k ∈ ns) ∧ c ≤ ns.length ∧ (c = ns.length ↔ ns.Nodup) ∧ ns.length ≤ i ∧ chk M ∧ compGo chk t tt (zIntOf te) (wipeZ env own) (xs.drop i) (ns.map D.int) M Q'
  have put : ∀ {M : MM} {H : Hp} (o : HO), M Dl = none → RelM (aside G Dl) M H ∨ (RelM G M H ∧ H Dl = none) → ExA (aside G Dl) M H M (upd H Dl o) ∧ RelM (aside G Dl) M (upd H Dl o) := fun {M H} o hM rm => by
    have ex : ExA (aside G Dl) M H M (upd H Dl o) := fun a o h n g => ⟨by rw [upd_ne fun q => g (.inr q)]; exact h, n⟩
    refine ⟨ex, fun a c h => ?_, fun a g => ?_⟩
    · have hne : a ≠ Dl := fun q => by rw [q, hM] at h; cases h
      rcases rm with rm | ⟨rm, h0⟩
      · refine (rm.1 a c h).mono1 ex (upd_ne hne) fun z hz => ⟨hz, upd_ne fun q => ?_⟩
        rw [q, hM] at hz; cases hz
      · refine ((rm.1 a c h).chg fun a o h g => aside_not h0 h g).mono1 ex (upd_ne hne) fun z hz => ⟨hz, upd_ne fun q => ?_⟩
        rw [q, hM] at hz; cases hz
    · by_cases ha : a = Dl
      · subst ha; exact ⟨hM, _, upd_same⟩
      · rcases rm with rm | ⟨rm, h0⟩
        · obtain ⟨h1, u, h2⟩ := rm.2 a g
          exact ⟨h1, u, by rw [upd_ne ha]; exact h2⟩
        · obtain ⟨h1, u, h2⟩ := rm.2 a (g.resolve_right ha)
          exact ⟨h1, u, by rw [upd_ne ha]; exact h2⟩
  obtain ⟨ex0, rel0⟩ := put (SetO w Dl (fun _ => false) 0) hM1 (.inr ⟨rm1, hD⟩)
  refine ⟨fun i m H => m = xs.length - i ∧ P i H, ⟨_, rfl, M1, [], _, _, Nat.zero_le _, ex0, fun a g => upd_ne fun q => rm1.noG hD (q ▸ g), rel0, upd_same, fun k => by simp, by simp, by simp, Nat.le_refl _, ck, t1⟩, ?_⟩
  rintro i m H ⟨rfl, M, ns, S, c, hi, ea, eg, rm, hL, hS, hc, hcn, hl, ckM, tM⟩
  have q := it (aside G Dl) M H i kG ea rm ckM
  by_cases hlt : i < xs.length
  · obtain ⟨go, yl⟩ := q.1 hlt
    refine .inr ⟨go, P (i + 1), fun H' p => ⟨xs.length - (i + 1), by omega, rfl, p⟩, fun x H2 hy => ?_⟩
    obtain ⟨ea2, eg2, rm2, d, hd, rd⟩ := yl x H2 hy
    have hdr : xs.drop i = d :: xs.drop (i + 1) := by
      obtain ⟨h1, h2⟩ := List.getElem?_eq_some_iff.mp hd
      rw [List.drop_eq_getElem_cons h1, h2]
    rw [hdr] at tM
    simp only [compGo] at tM
    split at tM
    · next env3 hb3 =>
      have rs2 : RelS (aside G Dl) M H2 (wipeZ env own) (wipe σ own) := ⟨(rs.wipe own).1, fun j e hj => by
        obtain ⟨v, h1, h2⟩ := (rs.wipe own).2 j e hj
        exact ⟨v, h1, Rep.mono1 ea2 _ _ (Rep.mono1 ea _ _ (Rep.chg kG _ _ h2))⟩⟩
      refine gOf_ok t (wipeZ env own) (wipe σ own) d x env3 rs2 rd hb3 _ fun σ3 rs3 w3 => ⟨by rw [w3 own ho]; exact wipe_wipe fun i hi => hi, ?_⟩
      have nextT : ∀ {M4 : MM} {H4 : Hp}, Ex (aside G Dl) M H2 M4 H4 → (∀ a, G a → H4 a = H1 a) ∧ H4 Dl = some (SetO w Dl S c) ∧ ExA (aside G Dl) M1 H1 M4 H4 := fun {M4 H4} e4 =>
        ⟨fun a g => ((e4.2 a (.inl g)).trans (eg2 a (.inl g))).trans (eg a g), by rw [e4.2 Dl (.inr rfl), eg2 Dl (.inr rfl)]; exact hL, (ea.trans ea2).trans e4.1⟩
      refine ⟨aside G Dl, env3, M, _, rs3, rm2, tM, fun b M3 H3 e3 rm3 t3 => ?_⟩
      cases b with
      | false =>
        obtain ⟨a1, a2, a3⟩ := nextT e3
        exact ⟨M3, ns, S, c, hlt, a3, a1, rm3, a2, hS, hc, hcn, by omega, t3.1, t3.2⟩
      | true =>
        refine ⟨aside G Dl, env3, M3, _, rs3.mono e3, rm3, t3, fun y yv M4 H4 e4 rm4 ry t4 => ?_⟩
        obtain ⟨a1, a2, a3⟩ := nextT (e3.trans e4)
        obtain ⟨⟨k, rfl⟩, t4⟩ := t4
        obtain rfl : yv = V.int k := ry
        have hM4 : M4 Dl = none := (rm4.2 Dl (.inr rfl)).1
        obtain ⟨ex5, rel5⟩ := put (SetO w Dl (fun j => S j || decide (j = k)) (if S k = true then c else c + 1)) hM4 (.inl rm4)
        refine ⟨Dl, k, S, c, rfl, rfl, a2, by unfold scanBound; omega, M4, ns ++ [k], _, _, hlt, a3.trans ex5, fun a g => ?_, rel5, upd_same, fun j => ?_, ?_, ?_, by rw [List.length_append]; simp; omega, t4.1, by rw [List.map_append]; exact t4.2⟩
        · have hne : a ≠ Dl := fun q => rm1.noG hD (q ▸ g)
          rw [upd_ne hne]; exact a1 a g
        · rw [Bool.or_eq_true, decide_eq_true_eq, List.mem_append, List.mem_singleton, hS j]
        · rw [List.length_append, List.length_singleton]; split <;> omega
        · rw [List.length_append, List.length_singleton]
          by_cases hk : S k = true
          · rw [if_pos hk]
            refine ⟨fun e => by omega, fun hn => ?_⟩
            exact absurd rfl ((List.nodup_append.mp hn).2.2 k ((hS k).mp hk) k (by simp))
          · rw [if_neg hk]
            have hk' : k ∉ ns := fun h => hk ((hS k).mpr h)
            constructor
            · intro e
              have hn := hcn.mp (by omega)
              refine List.nodup_append.mpr ⟨hn, by simp, fun a ha b hb e => ?_⟩
              rw [List.mem_singleton] at hb
              subst hb e
              exact hk' ha
            · intro hn
              have := hcn.mpr (List.nodup_append.mp hn).1
              omega
    · exact tM.elim
  · refine .inl ⟨q.2 (by omega), ?_⟩
    rw [List.drop_of_length_le (by omega)] at tM
    have ex : Ex G M1 H1 M H := ⟨fun a o h n g => ea a o h n (kG a o h g), eg⟩
    have rmG : RelM G M H := ⟨fun a c h => (rm.1 a c h).chg (toG (M := M)), fun a g => rm.2 a (.inl g)⟩
    exact fin ns S c M H ex rmG hL hS hc hcn tM
section
variable {X : Cx} {elt tg iter : Expr} {ifs : List Expr} {scope : Scope} {own : List (Str × Nat)} {pos p pos2 : Pos} {wi : TIZ} {t : Tg} {tt : TTZ} {te : TZ}
theorem ze_lenSC (own : List (Str × Nat)) (hc : X.calm = true) (hN : X.N.Nodup) (B : Bs X.mg) (hi : ZI X tg iter wi) (ok : blkC X.N X.env.scope scope own = true)
    (hg : ∀ (s : Shared) (H : Hp) (C : Addr) (cl : List (Str × Addr)) (fp : List Addr), ZG (X.blk s H scope (compEnvC scope cl C X.env) fp) tg t) (ht : ∀ (s : Shared) (H : Hp) (C : Addr) (cl : List (Str × Addr)) (fp : List Addr), ZTs (X.blk s H scope (compEnvC scope cl C X.env) fp) ifs tt)
    (he : ∀ (s : Shared) (H : Hp) (C : Addr) (cl : List (Str × Addr)) (fp : List Addr), ZE (X.blk s H scope (compEnvC scope cl C X.env) fp) elt te) (hgl : Gl X "len" := by rfl) (ho : ∀ i, i ∈ slotsT t → i ∈ own.map (·.2) := by decide) (hs : ∀ x, foldedSetIterable iter X.env x = pure x := by intro _; rfl)
    (nb : starEach [.SetComp elt [⟨tg, iter, ifs, 0⟩] scope pos2] X.env = (false, eval (.SetComp elt [⟨tg, iter, ifs, 0⟩] scope pos2) X.env) :: starEach [] X.env := by rfl) :
    ZE X (.Call (.Name "len" p) [.SetComp elt [⟨tg, iter, ifs, 0⟩] scope pos2] [] pos) (zLenSC wi t (own.map (·.2)) tt te) :=
  PE.wk (pe_callB cr_lenSet hgl B.len (by rfl) (pa_cons (pe_si hc hN hi (blkOk_by ok) hg ht he hs) pa_nil nb) (by decide) (by decide) nb) fun σ H Q h => by
  obtain ⟨G, env, M, Q', rs, rm, t0, k⟩ := h
  refine ⟨G, env, M, _, rs, rm, t0, fun J xs chk M1 H1 e1 rm1 hz it ck t1 => fun Dl hD => ?_⟩
  refine set_turns (K := X.K) ho (rs.mono e1) rm1 t1.1 it ck t1.2 Dl hD fun ns S c M2 H2 e2 rm2 hL hS hcl hcn q => ?_
  refine ⟨Dl, S, c, rfl, hL, fun K' _ _ _ => ?_⟩
  exact k (.int (c : Nat)) _ M2 H2 (e1.trans e2) rm2 rfl (q ns rfl c hcl hcn)
end
end Zz

set_option Elab.async false
set_option linter.all false
set_option maxRecDepth 100000
set_option maxHeartbeats 1000000
namespace Zz
open PySem PySem.Spec PyProof.Rows L2 LamX
def top (i : Nat) : Stmt := PySem.Challenge.pw_witnesslog_k11_clauses_of_rows_that_bar.main.body.getD i (.Pass ⟨0, 0, 0, 0⟩)
def t_is_number (K : PySem.W.Frag) (c_WitnessError : Addr) (c_BadLiterals : Addr) (c_BadMany : Addr) (c_BadRow : Addr) (P_law : Addr) : TSZ := (zRet (zAndV (zUn (rzIsi .int) (zVar 0)) (zNotV (zUn (rzIsi .bl) (zVar 0)))))
theorem w_is_number {P : Program} {w : World} {K : PySem.W.Frag} {mg : Str → Option Value} {base : Heap} {f : Addr} {fd : FuncData} {c_WitnessError : Addr} {c_BadLiterals : Addr} {c_BadMany : Addr} {c_BadRow : Addr} {P_law : Addr} (F : Fun K "is_number" "is_number" (top 6) f fd) (hm : mg "is_number" = some (.ref f)) (B : Bs mg) {g : SpZ}
    (hread : ∀ ds M Q, ds.length = 1 → g ds M Q → t_is_number K c_WitnessError c_BadLiterals c_BadMany c_BadRow P_law { nx := fun _ M' => Post Q .non M', rt := Post Q } (startZ 1 ds) M) : Fz P w K mg base 1 "is_number" 1 g := by
  have S : FnScope ["thing"] ["thing"] (defScope (top 6)) := ⟨rfl, rfl, rfl, by decide +kernel, rfl, by decide +kernel, by decide +kernel⟩
  refine fz_plain (T := t_is_number K c_WitnessError c_BadLiterals c_BadMany c_BadRow P_law) F S hm (fun _ _ _ _ _ _ us hl => match us, hl with | [_], _ => rfl) rfl (fun cdv A outer s H E hcd hrG => ?_) hread
  have hr := hrG.r
  exact (zb_one (zs_ret (ze_and (q_isInt B (ze_var 0)) (ze_one (ze_not (q_isBool B (ze_var 0)))))))
def t_is_between (K : PySem.W.Frag) (c_WitnessError : Addr) (c_BadLiterals : Addr) (c_BadMany : Addr) (c_BadRow : Addr) (P_law : Addr) (g_is_number : SpZ) : TSZ := (zRet (zAndV (zFn 1 g_is_number (zaCons (zVar 0) zaNil)) (zChain rzLe rzLe (zVar 1) (zVar 0) (zVar 2))))
theorem w_is_between {P : Program} {w : World} {K : PySem.W.Frag} {mg : Str → Option Value} {base : Heap} {f : Addr} {fd : FuncData} {c_WitnessError : Addr} {c_BadLiterals : Addr} {c_BadMany : Addr} {c_BadRow : Addr} {P_law : Addr} (F : Fun K "is_between" "is_between" (top 7) f fd) (hm : mg "is_between" = some (.ref f)) (B : Bs mg) {g_is_number : SpZ} (F_is_number : Fz P w K mg base 1 "is_number" 1 g_is_number) {g : SpZ}
    (hread : ∀ ds M Q, ds.length = 3 → g ds M Q → t_is_between K c_WitnessError c_BadLiterals c_BadMany c_BadRow P_law g_is_number { nx := fun _ M' => Post Q .non M', rt := Post Q } (startZ 3 ds) M) : Fz P w K mg base 2 "is_between" 3 g := by
  have S : FnScope ["thing", "low", "high"] ["thing", "low", "high"] (defScope (top 7)) := ⟨rfl, rfl, rfl, by decide +kernel, rfl, by decide +kernel, by decide +kernel⟩
  refine fz_plain (T := t_is_between K c_WitnessError c_BadLiterals c_BadMany c_BadRow P_law g_is_number) F S hm (fun _ _ _ _ _ _ us hl => match us, hl with | [_, _, _], _ => rfl) rfl (fun cdv A outer s H E hcd hrG => ?_) hread
  have hr := hrG.r
  exact (zb_one (zs_ret (ze_and (q_call F_is_number hrG (za_cons (ze_var 0) za_nil)) (ze_one (q_lele (ze_var 1) (ze_var 0) (ze_var 2))))))
def t_is_from (K : PySem.W.Frag) (c_WitnessError : Addr) (c_BadLiterals : Addr) (c_BadMany : Addr) (c_BadRow : Addr) (P_law : Addr) (g_is_number : SpZ) : TSZ := (zRet (zAndV (zFn 1 g_is_number (zaCons (zVar 0) zaNil)) (zBin rzGe (zVar 0) (zVar 1))))
theorem w_is_from {P : Program} {w : World} {K : PySem.W.Frag} {mg : Str → Option Value} {base : Heap} {f : Addr} {fd : FuncData} {c_WitnessError : Addr} {c_BadLiterals : Addr} {c_BadMany : Addr} {c_BadRow : Addr} {P_law : Addr} (F : Fun K "is_from" "is_from" (top 8) f fd) (hm : mg "is_from" = some (.ref f)) (B : Bs mg) {g_is_number : SpZ} (F_is_number : Fz P w K mg base 1 "is_number" 1 g_is_number) {g : SpZ}
    (hread : ∀ ds M Q, ds.length = 2 → g ds M Q → t_is_from K c_WitnessError c_BadLiterals c_BadMany c_BadRow P_law g_is_number { nx := fun _ M' => Post Q .non M', rt := Post Q } (startZ 2 ds) M) : Fz P w K mg base 2 "is_from" 2 g := by
  have S : FnScope ["thing", "low"] ["thing", "low"] (defScope (top 8)) := ⟨rfl, rfl, rfl, by decide +kernel, rfl, by decide +kernel, by decide +kernel⟩
  refine fz_plain (T := t_is_from K c_WitnessError c_BadLiterals c_BadMany c_BadRow P_law g_is_number) F S hm (fun _ _ _ _ _ _ us hl => match us, hl with | [_, _], _ => rfl) rfl (fun cdv A outer s H E hcd hrG => ?_) hread
  have hr := hrG.r
  exact (zb_one (zs_ret (ze_and (q_call F_is_number hrG (za_cons (ze_var 0) za_nil)) (ze_one (q_ge (ze_var 0) (ze_var 1))))))
def t_is_list (K : PySem.W.Frag) (c_WitnessError : Addr) (c_BadLiterals : Addr) (c_BadMany : Addr) (c_BadRow : Addr) (P_law : Addr) : TSZ := (zRet (zCall (rzIsiL [.lst, .tup]) (zaCons (zVar 0) (zaCons (zTup (zaCons (zC (.ty "list")) (zaCons (zC (.ty "tuple")) zaNil))) zaNil))))
theorem w_is_list {P : Program} {w : World} {K : PySem.W.Frag} {mg : Str → Option Value} {base : Heap} {f : Addr} {fd : FuncData} {c_WitnessError : Addr} {c_BadLiterals : Addr} {c_BadMany : Addr} {c_BadRow : Addr} {P_law : Addr} (F : Fun K "is_list" "is_list" (top 9) f fd) (hm : mg "is_list" = some (.ref f)) (B : Bs mg) {g : SpZ}
    (hread : ∀ ds M Q, ds.length = 1 → g ds M Q → t_is_list K c_WitnessError c_BadLiterals c_BadMany c_BadRow P_law { nx := fun _ M' => Post Q .non M', rt := Post Q } (startZ 1 ds) M) : Fz P w K mg base 1 "is_list" 1 g := by
  have S : FnScope ["thing"] ["thing"] (defScope (top 9)) := ⟨rfl, rfl, rfl, by decide +kernel, rfl, by decide +kernel, by decide +kernel⟩
  refine fz_plain (T := t_is_list K c_WitnessError c_BadLiterals c_BadMany c_BadRow P_law) F S hm (fun _ _ _ _ _ _ us hl => match us, hl with | [_], _ => rfl) rfl (fun cdv A outer s H E hcd hrG => ?_) hread
  have hr := hrG.r
  exact (zb_one (zs_ret (ze_isiL [.lst, .tup] B (ze_var 0) (ze_tup (za_cons (q_ty (by rfl) B.list) (za_cons (q_ty (by rfl) B.tuple) za_nil))))))
def t_is_pair (K : PySem.W.Frag) (c_WitnessError : Addr) (c_BadLiterals : Addr) (c_BadMany : Addr) (c_BadRow : Addr) (P_law : Addr) : TSZ := (zRet (zAndV (zUn (rzIsi .tup) (zVar 0)) (zBin rzEq (zCall (rzLen K) (zaCons (zVar 0) zaNil)) (zC (.int 2)))))
theorem w_is_pair {P : Program} {w : World} {K : PySem.W.Frag} {mg : Str → Option Value} {base : Heap} {f : Addr} {fd : FuncData} {c_WitnessError : Addr} {c_BadLiterals : Addr} {c_BadMany : Addr} {c_BadRow : Addr} {P_law : Addr} (F : Fun K "is_pair" "is_pair" (top 10) f fd) (hm : mg "is_pair" = some (.ref f)) (B : Bs mg) {g : SpZ}
    (hread : ∀ ds M Q, ds.length = 1 → g ds M Q → t_is_pair K c_WitnessError c_BadLiterals c_BadMany c_BadRow P_law { nx := fun _ M' => Post Q .non M', rt := Post Q } (startZ 1 ds) M) : Fz P w K mg base 1 "is_pair" 1 g := by
  have S : FnScope ["thing"] ["thing"] (defScope (top 10)) := ⟨rfl, rfl, rfl, by decide +kernel, rfl, by decide +kernel, by decide +kernel⟩
  refine fz_plain (T := t_is_pair K c_WitnessError c_BadLiterals c_BadMany c_BadRow P_law) F S hm (fun _ _ _ _ _ _ us hl => match us, hl with | [_], _ => rfl) rfl (fun cdv A outer s H E hcd hrG => ?_) hread
  have hr := hrG.r
  exact (zb_one (zs_ret (ze_and (q_isTuple B (ze_var 0)) (ze_one (q_eq hr (q_len B (ze_var 0)) ze_int)))))
def t_need_many (K : PySem.W.Frag) (c_WitnessError : Addr) (c_BadLiterals : Addr) (c_BadMany : Addr) (c_BadRow : Addr) (P_law : Addr) (g_is_between : SpZ) : TSZ := (zIfS (zNot (zTst (zFn 3 g_is_between (zaCons (zVar 0) (zaCons (zC (.int 1)) (zaCons (zC (.int 600)) zaNil)))))) (zRaise c_BadMany) zNext)
theorem w_need_many {P : Program} {w : World} {K : PySem.W.Frag} {mg : Str → Option Value} {base : Heap} {f : Addr} {fd : FuncData} {c_WitnessError : Addr} {c_BadLiterals : Addr} {c_BadMany : Addr} {c_BadRow : Addr} {P_law : Addr} (F : Fun K "need_many" "need_many" (top 13) f fd) (hm : mg "need_many" = some (.ref f)) (B : Bs mg) (m_MOST_MANY : ∃ t, mg "MOST_MANY" = some (.int 600 t)) (e_BadMany : ErrC K mg "BadMany" c_BadMany) (x_BadMany : PySem.W.excIn K c_BadMany [.type "ValueError", .type "Exception", .type "BaseException", .type "object"] "ValueError.__new__" = true) {g_is_between : SpZ} (F_is_between : Fz P w K mg base 2 "is_between" 3 g_is_between) {g : SpZ}
    (hread : ∀ ds M Q, ds.length = 1 → g ds M Q → t_need_many K c_WitnessError c_BadLiterals c_BadMany c_BadRow P_law g_is_between { nx := fun _ M' => PostX Q .non M', rt := PostX Q } (startZ 1 ds) M) : Fx P w K mg base 3 "need_many" 1 g := by
  have S : FnScope ["many"] ["many"] (defScope (top 13)) := ⟨rfl, rfl, rfl, by decide +kernel, rfl, by decide +kernel, by decide +kernel⟩
  refine fx_of (T := t_need_many K c_WitnessError c_BadLiterals c_BadMany c_BadRow P_law g_is_between) F S hm (fun _ _ _ _ _ _ us hl => match us, hl with | [_], _ => rfl) rfl (fun cdv A outer s H E hcd hrG tk => ?_) hread
  have hr := hrG.r
  exact (zbx_one (zx_if (zp_not (zp_val (q_call F_is_between hrG (za_cons (ze_var 0) (za_cons ze_int (za_cons (q_gint m_MOST_MANY) za_nil)))))) (zbx_one (zx_raise rfl tk PySem.F.excBase_ValueError e_BadMany x_BadMany)) (zbx_of zb_nil)))
def t_literal_right (K : PySem.W.Frag) (c_WitnessError : Addr) (c_BadLiterals : Addr) (c_BadMany : Addr) (c_BadRow : Addr) (P_law : Addr) (g_is_between : SpZ) : TSZ := (zRet (zAndV (zFn 3 g_is_between (zaCons (zVar 1) (zaCons (zUn rzNeg (zVar 0)) (zaCons (zVar 0) zaNil)))) (zBin rzNe (zVar 1) (zC (.int 0)))))
theorem w_literal_right {P : Program} {w : World} {K : PySem.W.Frag} {mg : Str → Option Value} {base : Heap} {f : Addr} {fd : FuncData} {c_WitnessError : Addr} {c_BadLiterals : Addr} {c_BadMany : Addr} {c_BadRow : Addr} {P_law : Addr} (F : Fun K "literal_right" "literal_right" (top 14) f fd) (hm : mg "literal_right" = some (.ref f)) (B : Bs mg) {g_is_between : SpZ} (F_is_between : Fz P w K mg base 2 "is_between" 3 g_is_between) {g : SpZ}
    (hread : ∀ ds M Q, ds.length = 2 → g ds M Q → t_literal_right K c_WitnessError c_BadLiterals c_BadMany c_BadRow P_law g_is_between { nx := fun _ M' => Post Q .non M', rt := Post Q } (startZ 2 ds) M) : Fz P w K mg base 3 "literal_right" 2 g := by
  have S : FnScope ["many", "thing"] ["many", "thing"] (defScope (top 14)) := ⟨rfl, rfl, rfl, by decide +kernel, rfl, by decide +kernel, by decide +kernel⟩
  refine fz_plain (T := t_literal_right K c_WitnessError c_BadLiterals c_BadMany c_BadRow P_law g_is_between) F S hm (fun _ _ _ _ _ _ us hl => match us, hl with | [_, _], _ => rfl) rfl (fun cdv A outer s H E hcd hrG => ?_) hread
  have hr := hrG.r
  exact (zb_one (zs_ret (ze_and (q_call F_is_between hrG (za_cons (ze_var 1) (za_cons (q_neg (ze_var 0)) (za_cons (ze_var 0) za_nil)))) (ze_one (q_ne hr (ze_var 1) ze_int)))))
def t_terms_right (K : PySem.W.Frag) (c_WitnessError : Addr) (c_BadLiterals : Addr) (c_BadMany : Addr) (c_BadRow : Addr) (P_law : Addr) (g_is_from g_is_pair g_literal_right : SpZ) : TSZ := (zSeq (zIfS (zOr (zNot (zTst (zUn (rzIsi .tup) (zVar 1)))) (zNot (zTst (zCall (rzBls fun ns => .bl (ns.all id)) (zaCons (zComp (iSeq K (zVar 1)) (.nm 2) [2] zYes (zFn 1 g_is_pair (zaCons (zVar 2) zaNil))) zaNil))))) (zRet (zC (.bl false))) zNext) (zSeq (zIfS (zNot (zTst (zCall (rzBls fun ns => .bl (ns.all id)) (zaCons (zComp (iSeq K (zVar 1)) (.tup [(.nm 3), (.nm 4)]) [3, 4] zYes (zAndV (zFn 2 g_is_from (zaCons (zVar 3) (zaCons (zC (.int 1)) zaNil))) (zFn 2 g_literal_right (zaCons (zVar 0) (zaCons (zVar 4) zaNil))))) zaNil)))) (zRet (zC (.bl false))) zNext) (zSeq (zSet 5 (zComp (iSeq K (zVar 1)) (.tup [(.nm 3), (.nm 4)]) [3, 4] zYes (zCall (rzInt1 fun i => .int (if i < 0 then -i else i)) (zaCons (zVar 4) zaNil)))) (zRet (zCall (rzBls fun ns => .bl (ns.all id)) (zaCons (zComp (iZip (zVar 5) (zSl (zVar 5) (zoSome (zC (.int 1))) zoNone)) (.tup [(.nm 6), (.nm 7)]) [6, 7] zYes (zBin rzLt (zVar 6) (zVar 7))) zaNil))))))
theorem w_terms_right {P : Program} {w : World} {K : PySem.W.Frag} {mg : Str → Option Value} {base : Heap} {f : Addr} {fd : FuncData} {c_WitnessError : Addr} {c_BadLiterals : Addr} {c_BadMany : Addr} {c_BadRow : Addr} {P_law : Addr} (F : Fun K "terms_right" "terms_right" (top 15) f fd) (hm : mg "terms_right" = some (.ref f)) (B : Bs mg) {g_is_from g_is_pair g_literal_right : SpZ} (F_is_from : Fz P w K mg base 2 "is_from" 2 g_is_from) (F_is_pair : Fz P w K mg base 1 "is_pair" 1 g_is_pair) (F_literal_right : Fz P w K mg base 3 "literal_right" 2 g_literal_right) {g : SpZ}
    (hread : ∀ ds M Q, ds.length = 2 → g ds M Q → t_terms_right K c_WitnessError c_BadLiterals c_BadMany c_BadRow P_law g_is_from g_is_pair g_literal_right { nx := fun _ M' => Post Q .non M', rt := Post Q } (startZ 8 ds) M) : Fz P w K mg base 4 "terms_right" 2 g := by
  have S : FnScope ["many", "thing", "pair", "weight", "literal", "sizes", "one", "other"] ["many", "thing"] (defScope (top 15)) := ⟨rfl, rfl, rfl, by decide +kernel, rfl, by decide +kernel, by decide +kernel⟩
  refine fz_plain (T := t_terms_right K c_WitnessError c_BadLiterals c_BadMany c_BadRow P_law g_is_from g_is_pair g_literal_right) F S hm (fun _ _ _ _ _ _ us hl => match us, hl with | [_, _], _ => rfl) rfl (fun cdv A outer s H E hcd hrG => ?_) hread
  have hr := hrG.r
  exact (zb_cons (zs_if (zw_pt (zw_or (zp_not (zp_val (q_isTuple B (ze_var 1)))) (zw_or1 (zp_not (zp_val (q_all rfl B (ze_comp [("pair", 2)] rfl S.nd (zi_seq (ze_var 1)) (by kernel_rfl) (fun _ _ _ _ _ => (zg_nm 2 S.nd)) (fun _ _ _ _ _ => zts_nil) (fun _ _ _ _ _ => (q_call F_is_pair hrG (za_cons (ze_var 2) za_nil)))))))))) (zb_one (zs_ret ze_bl)) zb_nil) (zb_cons (zs_if (zp_not (zp_val (q_all rfl B (ze_comp [("weight", 3), ("literal", 4)] rfl S.nd (zi_seq (ze_var 1)) (by kernel_rfl) (fun _ _ _ _ _ => (zg_tup rfl (zgs_cons (zg_nm 3 S.nd) (zgs_cons (zg_nm 4 S.nd) zgs_nil)))) (fun _ _ _ _ _ => zts_nil) (fun _ _ _ _ _ => (ze_and (q_call F_is_from hrG (za_cons (ze_var 3) (za_cons ze_int za_nil))) (ze_one (q_call F_literal_right hrG (za_cons (ze_var 0) (za_cons (ze_var 4) za_nil)))))))))) (zb_one (zs_ret ze_bl)) zb_nil) (zb_cons (zs_setComp 5 [("weight", 3), ("literal", 4)] rfl S.nd (zi_seq (ze_var 1)) (by kernel_rfl) (fun _ _ _ _ _ => (zg_tup rfl (zgs_cons (zg_nm 3 S.nd) (zgs_cons (zg_nm 4 S.nd) zgs_nil)))) (fun _ _ _ _ _ => zts_nil) (fun _ _ _ _ _ => (q_abs B (ze_var 4)))) (zb_one (zs_ret (q_all rfl B (ze_comp [("one", 6), ("other", 7)] rfl S.nd (zi_zip rfl B.zip (ze_var 5) (ze_sl (ze_var 5) (zo_some ze_int) zo_none)) (by kernel_rfl) (fun _ _ _ _ _ => (zg_tup rfl (zgs_cons (zg_nm 6 S.nd) (zgs_cons (zg_nm 7 S.nd) zgs_nil)))) (fun _ _ _ _ _ => zts_nil) (fun _ _ _ _ _ => (q_lt (ze_var 6) (ze_var 7))))))))))
def t_row_right (K : PySem.W.Frag) (c_WitnessError : Addr) (c_BadLiterals : Addr) (c_BadMany : Addr) (c_BadRow : Addr) (P_law : Addr) (g_is_from g_is_pair g_terms_right : SpZ) : TSZ := (zRet (zAndV (zFn 1 g_is_pair (zaCons (zVar 1) zaNil)) (zAndV (zFn 2 g_terms_right (zaCons (zVar 0) (zaCons (zBin rzIx (zVar 1) (zC (.int 0))) zaNil))) (zFn 2 g_is_from (zaCons (zBin rzIx (zVar 1) (zC (.int 1))) (zaCons (zC (.int 0)) zaNil))))))
theorem w_row_right {P : Program} {w : World} {K : PySem.W.Frag} {mg : Str → Option Value} {base : Heap} {f : Addr} {fd : FuncData} {c_WitnessError : Addr} {c_BadLiterals : Addr} {c_BadMany : Addr} {c_BadRow : Addr} {P_law : Addr} (F : Fun K "row_right" "row_right" (top 16) f fd) (hm : mg "row_right" = some (.ref f)) (B : Bs mg) {g_is_from g_is_pair g_terms_right : SpZ} (F_is_from : Fz P w K mg base 2 "is_from" 2 g_is_from) (F_is_pair : Fz P w K mg base 1 "is_pair" 1 g_is_pair) (F_terms_right : Fz P w K mg base 4 "terms_right" 2 g_terms_right) {g : SpZ}
    (hread : ∀ ds M Q, ds.length = 2 → g ds M Q → t_row_right K c_WitnessError c_BadLiterals c_BadMany c_BadRow P_law g_is_from g_is_pair g_terms_right { nx := fun _ M' => Post Q .non M', rt := Post Q } (startZ 2 ds) M) : Fz P w K mg base 5 "row_right" 2 g := by
  have S : FnScope ["many", "thing"] ["many", "thing"] (defScope (top 16)) := ⟨rfl, rfl, rfl, by decide +kernel, rfl, by decide +kernel, by decide +kernel⟩
  refine fz_plain (T := t_row_right K c_WitnessError c_BadLiterals c_BadMany c_BadRow P_law g_is_from g_is_pair g_terms_right) F S hm (fun _ _ _ _ _ _ us hl => match us, hl with | [_, _], _ => rfl) rfl (fun cdv A outer s H E hcd hrG => ?_) hread
  have hr := hrG.r
  exact (zb_one (zs_ret (ze_and (q_call F_is_pair hrG (za_cons (ze_var 1) za_nil)) (ze_and (q_call F_terms_right hrG (za_cons (ze_var 0) (za_cons (q_ix (ze_var 1) ze_int) za_nil))) (ze_one (q_call F_is_from hrG (za_cons (q_ix (ze_var 1) ze_int) (za_cons ze_int za_nil))))))))
def t_literals_right (K : PySem.W.Frag) (c_WitnessError : Addr) (c_BadLiterals : Addr) (c_BadMany : Addr) (c_BadRow : Addr) (P_law : Addr) (g_is_list g_literal_right : SpZ) : TSZ := (zSeq (zIfS (zOr (zNot (zTst (zFn 1 g_is_list (zaCons (zVar 1) zaNil)))) (zNot (zTst (zCall (rzBls fun ns => .bl (ns.all id)) (zaCons (zComp (iSeq K (zVar 1)) (.nm 2) [2] zYes (zFn 2 g_literal_right (zaCons (zVar 0) (zaCons (zVar 2) zaNil)))) zaNil))))) (zRet (zC (.bl false))) zNext) (zRet (zBin rzEq (zLenSC (iSeq K (zVar 1)) (.nm 2) [2] zYes (zCall (rzInt1 fun i => .int (if i < 0 then -i else i)) (zaCons (zVar 2) zaNil))) (zCall (rzLen K) (zaCons (zVar 1) zaNil)))))
theorem w_literals_right {P : Program} {w : World} {K : PySem.W.Frag} {mg : Str → Option Value} {base : Heap} {f : Addr} {fd : FuncData} {c_WitnessError : Addr} {c_BadLiterals : Addr} {c_BadMany : Addr} {c_BadRow : Addr} {P_law : Addr} (F : Fun K "literals_right" "literals_right" (top 18) f fd) (hm : mg "literals_right" = some (.ref f)) (B : Bs mg) {g_is_list g_literal_right : SpZ} (F_is_list : Fz P w K mg base 1 "is_list" 1 g_is_list) (F_literal_right : Fz P w K mg base 3 "literal_right" 2 g_literal_right) {g : SpZ}
    (hread : ∀ ds M Q, ds.length = 2 → g ds M Q → t_literals_right K c_WitnessError c_BadLiterals c_BadMany c_BadRow P_law g_is_list g_literal_right { nx := fun _ M' => Post Q .non M', rt := Post Q } (startZ 3 ds) M) : Fz P w K mg base 4 "literals_right" 2 g := by
  have S : FnScope ["many", "thing", "literal"] ["many", "thing"] (defScope (top 18)) := ⟨rfl, rfl, rfl, by decide +kernel, rfl, by decide +kernel, by decide +kernel⟩
  refine fz_plain (T := t_literals_right K c_WitnessError c_BadLiterals c_BadMany c_BadRow P_law g_is_list g_literal_right) F S hm (fun _ _ _ _ _ _ us hl => match us, hl with | [_, _], _ => rfl) rfl (fun cdv A outer s H E hcd hrG => ?_) hread
  have hr := hrG.r
  exact (zb_cons (zs_if (zw_pt (zw_or (zp_not (zp_val (q_call F_is_list hrG (za_cons (ze_var 1) za_nil)))) (zw_or1 (zp_not (zp_val (q_all rfl B (ze_comp [("literal", 2)] rfl S.nd (zi_seq (ze_var 1)) (by kernel_rfl) (fun _ _ _ _ _ => (zg_nm 2 S.nd)) (fun _ _ _ _ _ => zts_nil) (fun _ _ _ _ _ => (q_call F_literal_right hrG (za_cons (ze_var 0) (za_cons (ze_var 2) za_nil))))))))))) (zb_one (zs_ret ze_bl)) zb_nil) (zb_one (zs_ret (q_eq hr (ze_lenSC [("literal", 2)] rfl S.nd B (zi_seq (ze_var 1)) (by kernel_rfl) (fun _ _ _ _ _ => (zg_nm 2 S.nd)) (fun _ _ _ _ _ => zts_nil) (fun _ _ _ _ _ => (q_abs B (ze_var 2)))) (q_len B (ze_var 1))))))
def t_room (K : PySem.W.Frag) (c_WitnessError : Addr) (c_BadLiterals : Addr) (c_BadMany : Addr) (c_BadRow : Addr) (P_law : Addr) : TSZ := (zRet (zBin rzSub (zCall (rzInts fun ns => .int ns.sum) (zaCons (zComp (iSeq K (zBin rzIx (zVar 0) (zC (.int 0)))) (.tup [(.nm 2), (.nm 3)]) [2, 3] (zTst (zBin (rzIn true) (zUn rzNeg (zVar 3)) (zVar 1))) (zVar 2)) zaNil)) (zBin rzIx (zVar 0) (zC (.int 1)))))
theorem w_room {P : Program} {w : World} {K : PySem.W.Frag} {mg : Str → Option Value} {base : Heap} {f : Addr} {fd : FuncData} {c_WitnessError : Addr} {c_BadLiterals : Addr} {c_BadMany : Addr} {c_BadRow : Addr} {P_law : Addr} (F : Fun K "room" "room" (top 19) f fd) (hm : mg "room" = some (.ref f)) (B : Bs mg) {g : SpZ}
    (hread : ∀ ds M Q, ds.length = 2 → g ds M Q → t_room K c_WitnessError c_BadLiterals c_BadMany c_BadRow P_law { nx := fun _ M' => Post Q .non M', rt := Post Q } (startZ 4 ds) M) : Fz P w K mg base 1 "room" 2 g := by
  have S : FnScope ["row", "held", "weight", "literal"] ["row", "held"] (defScope (top 19)) := ⟨rfl, rfl, rfl, by decide +kernel, rfl, by decide +kernel, by decide +kernel⟩
  refine fz_plain (T := t_room K c_WitnessError c_BadLiterals c_BadMany c_BadRow P_law) F S hm (fun _ _ _ _ _ _ us hl => match us, hl with | [_, _], _ => rfl) rfl (fun cdv A outer s H E hcd hrG => ?_) hread
  have hr := hrG.r
  exact (zb_one (zs_ret (q_sub (q_sum rfl B (ze_comp [("weight", 2), ("literal", 3)] rfl S.nd (zi_seq (q_ix (ze_var 0) ze_int)) (by kernel_rfl) (fun _ _ _ _ _ => (zg_tup rfl (zgs_cons (zg_nm 2 S.nd) (zgs_cons (zg_nm 3 S.nd) zgs_nil)))) (fun _ _ _ _ _ => (zts_one (p_notIn (q_neg (ze_var 3)) (ze_var 1)))) (fun _ _ _ _ _ => (ze_var 2)))) (q_ix (ze_var 0) ze_int))))
def t_clause_parts (K : PySem.W.Frag) (c_WitnessError : Addr) (c_BadLiterals : Addr) (c_BadMany : Addr) (c_BadRow : Addr) (P_law : Addr) : TSZ := (zRet (zComp (iSeq K (zBin rzIx (zVar 0) (zC (.int 0)))) (.tup [(.nm 2), (.nm 3)]) [2, 3] (zTst (zBin (rzIn false) (zUn rzNeg (zVar 3)) (zVar 1))) (zVar 3)))
theorem w_clause_parts {P : Program} {w : World} {K : PySem.W.Frag} {mg : Str → Option Value} {base : Heap} {f : Addr} {fd : FuncData} {c_WitnessError : Addr} {c_BadLiterals : Addr} {c_BadMany : Addr} {c_BadRow : Addr} {P_law : Addr} (F : Fun K "clause_parts" "clause_parts" (top 20) f fd) (hm : mg "clause_parts" = some (.ref f)) (B : Bs mg) {g : SpZ}
    (hread : ∀ ds M Q, ds.length = 2 → g ds M Q → t_clause_parts K c_WitnessError c_BadLiterals c_BadMany c_BadRow P_law { nx := fun _ M' => Post Q .non M', rt := Post Q } (startZ 4 ds) M) : Fz P w K mg base 1 "clause_parts" 2 g := by
  have S : FnScope ["row", "held", "weight", "literal"] ["row", "held"] (defScope (top 20)) := ⟨rfl, rfl, rfl, by decide +kernel, rfl, by decide +kernel, by decide +kernel⟩
  refine fz_plain (T := t_clause_parts K c_WitnessError c_BadLiterals c_BadMany c_BadRow P_law) F S hm (fun _ _ _ _ _ _ us hl => match us, hl with | [_, _], _ => rfl) rfl (fun cdv A outer s H E hcd hrG => ?_) hread
  have hr := hrG.r
  exact (zb_one (zs_ret (ze_comp [("weight", 2), ("literal", 3)] rfl S.nd (zi_seq (q_ix (ze_var 0) ze_int)) (by kernel_rfl) (fun _ _ _ _ _ => (zg_tup rfl (zgs_cons (zg_nm 2 S.nd) (zgs_cons (zg_nm 3 S.nd) zgs_nil)))) (fun _ _ _ _ _ => (zts_one (p_in (q_neg (ze_var 3)) (ze_var 1)))) (fun _ _ _ _ _ => (ze_var 3)))))
def t_clause_steps (K : PySem.W.Frag) (c_WitnessError : Addr) (c_BadLiterals : Addr) (c_BadMany : Addr) (c_BadRow : Addr) (P_law : Addr) (g_room : SpZ) : TSZ := (zSeq (zSet 3 (zComp (iSeq K (zBin rzIx (zVar 1) (zC (.int 0)))) (.tup [(.nm 4), (.nm 5)]) [4, 5] (zTst (zBin (rzIn true) (zUn rzNeg (zVar 5)) (zVar 2))) (zTup (zaCons (zC (.str "weakened")) (zaCons (zCall (rzInt1 fun i => .int (if i < 0 then -i else i)) (zaCons (zVar 5) zaNil)) zaNil))))) (zRet (zLst (zaCons (zTup (zaCons (zC (.str "row")) (zaCons (zVar 0) zaNil))) (zaStar (zVar 3) (zaCons (zTup (zaCons (zC (.str "capped")) zaNil)) (zaCons (zTup (zaCons (zC (.str "divided")) (zaCons (zUn rzNeg (zFn 2 g_room (zaCons (zVar 1) (zaCons (zVar 2) zaNil)))) zaNil))) zaNil)))))))
theorem w_clause_steps {P : Program} {w : World} {K : PySem.W.Frag} {mg : Str → Option Value} {base : Heap} {f : Addr} {fd : FuncData} {c_WitnessError : Addr} {c_BadLiterals : Addr} {c_BadMany : Addr} {c_BadRow : Addr} {P_law : Addr} (F : Fun K "clause_steps" "clause_steps" (top 21) f fd) (hm : mg "clause_steps" = some (.ref f)) (B : Bs mg) {g_room : SpZ} (F_room : Fz P w K mg base 1 "room" 2 g_room) {g : SpZ}
    (hread : ∀ ds M Q, ds.length = 3 → g ds M Q → t_clause_steps K c_WitnessError c_BadLiterals c_BadMany c_BadRow P_law g_room { nx := fun _ M' => Post Q .non M', rt := Post Q } (startZ 6 ds) M) : Fz P w K mg base 2 "clause_steps" 3 g := by
  have S : FnScope ["name", "row", "held", "spare", "weight", "literal"] ["name", "row", "held"] (defScope (top 21)) := ⟨rfl, rfl, rfl, by decide +kernel, rfl, by decide +kernel, by decide +kernel⟩
  refine fz_plain (T := t_clause_steps K c_WitnessError c_BadLiterals c_BadMany c_BadRow P_law g_room) F S hm (fun _ _ _ _ _ _ us hl => match us, hl with | [_, _, _], _ => rfl) rfl (fun cdv A outer s H E hcd hrG => ?_) hread
  have hr := hrG.r
  exact (zb_cons (zs_setComp 3 [("weight", 4), ("literal", 5)] rfl S.nd (zi_seq (q_ix (ze_var 1) ze_int)) (by kernel_rfl) (fun _ _ _ _ _ => (zg_tup rfl (zgs_cons (zg_nm 4 S.nd) (zgs_cons (zg_nm 5 S.nd) zgs_nil)))) (fun _ _ _ _ _ => (zts_one (p_notIn (q_neg (ze_var 5)) (ze_var 2)))) (fun _ _ _ _ _ => (ze_tup (za_cons ze_str (za_cons (q_abs B (ze_var 5)) za_nil))))) (zb_one (zs_ret (ze_lst (za_cons (ze_tup (za_cons ze_str (za_cons (ze_var 0) za_nil))) (za_star (ze_var 3) (za_cons (ze_tup (za_cons ze_str za_nil)) (za_cons (ze_tup (za_cons ze_str (za_cons (q_neg (q_call F_room hrG (za_cons (ze_var 1) (za_cons (ze_var 2) za_nil)))) za_nil))) za_nil))))))))
def t_clause_row (K : PySem.W.Frag) (c_WitnessError : Addr) (c_BadLiterals : Addr) (c_BadMany : Addr) (c_BadRow : Addr) (P_law : Addr) : TSZ := (zRet (zTup (zaCons (zCall rzTuple (zaCons (zComp (iSeq K (zVar 0)) (.nm 1) [1] zYes (zTup (zaCons (zC (.int 1)) (zaCons (zVar 1) zaNil)))) zaNil)) (zaCons (zC (.int 1)) zaNil))))
theorem w_clause_row {P : Program} {w : World} {K : PySem.W.Frag} {mg : Str → Option Value} {base : Heap} {f : Addr} {fd : FuncData} {c_WitnessError : Addr} {c_BadLiterals : Addr} {c_BadMany : Addr} {c_BadRow : Addr} {P_law : Addr} (F : Fun K "clause_row" "clause_row" (top 22) f fd) (hm : mg "clause_row" = some (.ref f)) (B : Bs mg) {g : SpZ}
    (hread : ∀ ds M Q, ds.length = 1 → g ds M Q → t_clause_row K c_WitnessError c_BadLiterals c_BadMany c_BadRow P_law { nx := fun _ M' => Post Q .non M', rt := Post Q } (startZ 2 ds) M) : Fz P w K mg base 1 "clause_row" 1 g := by
  have S : FnScope ["literals", "literal"] ["literals"] (defScope (top 22)) := ⟨rfl, rfl, rfl, by decide +kernel, rfl, by decide +kernel, by decide +kernel⟩
  refine fz_plain (T := t_clause_row K c_WitnessError c_BadLiterals c_BadMany c_BadRow P_law) F S hm (fun _ _ _ _ _ _ us hl => match us, hl with | [_], _ => rfl) rfl (fun cdv A outer s H E hcd hrG => ?_) hread
  have hr := hrG.r
  exact (zb_one (zs_ret (ze_tup (za_cons (q_tuple B (ze_comp [("literal", 1)] rfl S.nd (zi_seq (ze_var 0)) (by kernel_rfl) (fun _ _ _ _ _ => (zg_nm 1 S.nd)) (fun _ _ _ _ _ => zts_nil) (fun _ _ _ _ _ => (ze_tup (za_cons ze_int (za_cons (ze_var 1) za_nil)))))) (za_cons ze_int za_nil)))))
def t_clause_of (K : PySem.W.Frag) (c_WitnessError : Addr) (c_BadLiterals : Addr) (c_BadMany : Addr) (c_BadRow : Addr) (P_law : Addr) (g_need_many g_row_right g_literals_right g_room g_clause_parts g_clause_steps g_clause_row : SpZ) : TSZ := (zSeq (zDropX (zFn 1 g_need_many (zaCons (zVar 0) zaNil))) (zSeq (zIfS (zNot (zTst (zFn 2 g_row_right (zaCons (zVar 0) (zaCons (zVar 1) zaNil))))) (zRaise c_BadRow) zNext) (zSeq (zIfS (zNot (zTst (zFn 2 g_literals_right (zaCons (zVar 0) (zaCons (zVar 2) zaNil))))) (zRaise c_BadLiterals) zNext) (zSeq (zSet 3 (zCall rzTuple (zaCons (zVar 2) zaNil))) (zSeq (zIfS (zTst (zBin rzGe (zFn 2 g_room (zaCons (zVar 1) (zaCons (zVar 3) zaNil))) (zC (.int 0)))) (zRet (zC .non)) zNext) (zRet (zTup (zaCons (zFn 3 g_clause_steps (zaCons (zC (.int 0)) (zaCons (zVar 1) (zaCons (zVar 3) zaNil)))) (zaCons (zFn 1 g_clause_row (zaCons (zFn 2 g_clause_parts (zaCons (zVar 1) (zaCons (zVar 3) zaNil))) zaNil)) zaNil)))))))))
theorem w_clause_of {P : Program} {w : World} {K : PySem.W.Frag} {mg : Str → Option Value} {base : Heap} {f : Addr} {fd : FuncData} {c_WitnessError : Addr} {c_BadLiterals : Addr} {c_BadMany : Addr} {c_BadRow : Addr} {P_law : Addr} (F : Fun K "clause_of" "clause_of" (top 23) f fd) (hm : mg "clause_of" = some (.ref f)) (B : Bs mg) (e_BadLiterals : ErrC K mg "BadLiterals" c_BadLiterals) (x_BadLiterals : PySem.W.excIn K c_BadLiterals [.type "ValueError", .type "Exception", .type "BaseException", .type "object"] "ValueError.__new__" = true) (e_BadRow : ErrC K mg "BadRow" c_BadRow) (x_BadRow : PySem.W.excIn K c_BadRow [.type "ValueError", .type "Exception", .type "BaseException", .type "object"] "ValueError.__new__" = true) {g_need_many g_row_right g_literals_right g_room g_clause_parts g_clause_steps g_clause_row : SpZ} (F_need_many : Fx P w K mg base 3 "need_many" 1 g_need_many) (F_row_right : Fz P w K mg base 5 "row_right" 2 g_row_right) (F_literals_right : Fz P w K mg base 4 "literals_right" 2 g_literals_right) (F_room : Fz P w K mg base 1 "room" 2 g_room) (F_clause_parts : Fz P w K mg base 1 "clause_parts" 2 g_clause_parts) (F_clause_steps : Fz P w K mg base 2 "clause_steps" 3 g_clause_steps) (F_clause_row : Fz P w K mg base 1 "clause_row" 1 g_clause_row) {g : SpZ}
    (hread : ∀ ds M Q, ds.length = 3 → g ds M Q → t_clause_of K c_WitnessError c_BadLiterals c_BadMany c_BadRow P_law g_need_many g_row_right g_literals_right g_room g_clause_parts g_clause_steps g_clause_row { nx := fun _ M' => PostX Q .non M', rt := PostX Q } (startZ 4 ds) M) : Fx P w K mg base 6 "clause_of" 3 g := by
  have S : FnScope ["many", "row", "literals", "held"] ["many", "row", "literals"] (defScope (top 23)) := ⟨rfl, rfl, rfl, by decide +kernel, rfl, by decide +kernel, by decide +kernel⟩
  refine fx_of (T := t_clause_of K c_WitnessError c_BadLiterals c_BadMany c_BadRow P_law g_need_many g_row_right g_literals_right g_room g_clause_parts g_clause_steps g_clause_row) F S hm (fun _ _ _ _ _ _ us hl => match us, hl with | [_, _, _], _ => rfl) rfl (fun cdv A outer s H E hcd hrG tk => ?_) hread
  have hr := hrG.r
  exact (zbx_cons (zx_drop (q_callX tk F_need_many hrG (za_cons (ze_var 0) za_nil))) (zbx_cons (zx_if (zp_not (zp_val (q_call F_row_right hrG (za_cons (ze_var 0) (za_cons (ze_var 1) za_nil))))) (zbx_one (zx_raise rfl tk PySem.F.excBase_ValueError e_BadRow x_BadRow)) (zbx_of zb_nil)) (zbx_cons (zx_if (zp_not (zp_val (q_call F_literals_right hrG (za_cons (ze_var 0) (za_cons (ze_var 2) za_nil))))) (zbx_one (zx_raise rfl tk PySem.F.excBase_ValueError e_BadLiterals x_BadLiterals)) (zbx_of zb_nil)) (zbx_cons (zx_of (zs_set 3 S.nd (q_tuple B (ze_var 2)))) (zbx_cons (zx_of (zs_if (p_ge (q_call F_room hrG (za_cons (ze_var 1) (za_cons (ze_var 3) za_nil))) ze_int) (zb_one (zs_ret ze_non)) zb_nil)) (zbx_one (zx_of (zs_ret (ze_tup (za_cons (q_call F_clause_steps hrG (za_cons ze_int (za_cons (ze_var 1) (za_cons (ze_var 3) za_nil)))) (za_cons (q_call F_clause_row hrG (za_cons (q_call F_clause_parts hrG (za_cons (ze_var 1) (za_cons (ze_var 3) za_nil))) za_nil)) za_nil)))))))))))
def t__law_begun (K : PySem.W.Frag) (c_WitnessError : Addr) (c_BadLiterals : Addr) (c_BadMany : Addr) (c_BadRow : Addr) (P_law : Addr) : TSZ := (zSeq (zSet 1 (zComp (iSeq K (zVar 0)) (.nm 2) [2] zYes (zCall (rzInt1 fun i => .int (if i < 0 then -i else i)) (zaCons (zVar 2) zaNil)))) (zSeq (zSet 3 (zCompN (iSeq K (zVar 1)) (.nm 2) [2] (zTst (zBin rzGe (zVar 2) (zBin rzPow (zC (.int 10)) (zC (.int 18))))) (zBin rzSub (zVar 2) (zBin rzPow (zC (.int 10)) (zC (.int 18)))))) (zRet (zDisp [((zC (.str "large")), (zVar 3)), ((zC (.str "cells")), (zVar 1)), ((zC (.str "left")), (zC (.int 0))), ((zC (.str "turn")), (zC (.int 0)))]))))
theorem w__law_begun {P : Program} {w : World} {K : PySem.W.Frag} {mg : Str → Option Value} {base : Heap} {f : Addr} {fd : FuncData} {c_WitnessError : Addr} {c_BadLiterals : Addr} {c_BadMany : Addr} {c_BadRow : Addr} {P_law : Addr} (F : Fun K "_law_begun" "_law_begun" (top 25) f fd) (hm : mg "_law_begun" = some (.ref f)) (B : Bs mg) {g : SpZ}
    (hread : ∀ ds M Q, ds.length = 1 → g ds M Q → t__law_begun K c_WitnessError c_BadLiterals c_BadMany c_BadRow P_law { nx := fun _ M' => Post Q .non M', rt := Post Q } (startZ 4 ds) M) : Fz P w K mg base 1 "_law_begun" 1 g := by
  have S : FnScope ["_law_script", "_law_cells_here", "_law_cell", "_law_large_here"] ["_law_script"] (defScope (top 25)) := ⟨rfl, rfl, rfl, by decide +kernel, rfl, by decide +kernel, by decide +kernel⟩
  refine fz_plain (T := t__law_begun K c_WitnessError c_BadLiterals c_BadMany c_BadRow P_law) F S hm (fun _ _ _ _ _ _ us hl => match us, hl with | [_], _ => rfl) rfl (fun cdv A outer s H E hcd hrG => ?_) hread
  have hr := hrG.r
  exact (zb_cons (zs_setComp 1 [("_law_cell", 2)] rfl S.nd (zi_seq (ze_var 0)) (by kernel_rfl) (fun _ _ _ _ _ => (zg_nm 2 S.nd)) (fun _ _ _ _ _ => zts_nil) (fun _ _ _ _ _ => (q_abs B (ze_var 2)))) (zb_cons (zs_setCompN 3 [("_law_cell", 2)] rfl S.nd (zi_seq (ze_var 1)) (by kernel_rfl) (fun _ _ _ _ _ => (zg_nm 2 S.nd)) (fun _ _ _ _ _ => (zts_one (p_ge (ze_var 2) (q_pow ze_int ze_int)))) (fun _ _ _ _ _ => (q_sub (ze_var 2) (q_pow ze_int ze_int)))) (zb_one (zs_ret (ze_disp (zps_cons ze_str (ze_var 3) (zps_cons ze_str (ze_var 1) (zps_cons ze_str ze_int (zps_cons ze_str ze_int zps_nil)))))))))
def t__law_draw (K : PySem.W.Frag) (c_WitnessError : Addr) (c_BadLiterals : Addr) (c_BadMany : Addr) (c_BadRow : Addr) (P_law : Addr) : TSZ := (zSeq (zWhile (zAnd (zTst (zBin rzEq (zBin rzDGet (zVar 0) (zC (.str "left"))) (zC (.int 0)))) (zTst (zBin rzNe (zBin rzDGet (zVar 0) (zC (.str "large"))) (zLst zaNil)))) (zDPut (zVar 0) (zC (.str "left")) (zPopAt (zBin rzDGet (zVar 0) (zC (.str "large"))) (zaCons (zC (.int 0)) zaNil)))) (zSeq (zIfS (zTst (zBin rzGt (zBin rzDGet (zVar 0) (zC (.str "left"))) (zC (.int 0)))) (zSeq (zSet 2 (zBin rzMod (zCall rzInt (zaCons (zBin rzDGet (zVar 0) (zC (.str "left"))) zaNil)) (zVar 1))) (zSeq (zDPut (zVar 0) (zC (.str "left")) (zBin rzDiv (zBin rzDGet (zVar 0) (zC (.str "left"))) (zVar 1))) (zRet (zVar 2)))) zNext) (zSeq (zSet 3 (zBin rzAdd (zBin rzDGet (zVar 0) (zC (.str "turn"))) (zC (.int 1)))) (zSeq (zDPut (zVar 0) (zC (.str "turn")) (zVar 3)) (zSeq (zSet 4 (zIf (zTst (zBin rzNe (zBin rzDGet (zVar 0) (zC (.str "cells"))) (zLst zaNil))) (zBin rzIx (zBin rzDGet (zVar 0) (zC (.str "cells"))) (zBin rzMod (zCall rzInt (zaCons (zVar 3) zaNil)) (zCall (rzLen K) (zaCons (zBin rzDGet (zVar 0) (zC (.str "cells"))) zaNil)))) (zC (.int 0)))) (zSeq (zSet 5 (zBin rzMod (zCall rzInt (zaCons (zBin rzPow (zBin rzAdd (zBin rzAdd (zBin rzMod (zCall rzInt (zaCons (zVar 4) zaNil)) (zC (.int 2147483563))) (zBin rzMul (zC (.int 40692)) (zVar 3))) (zC (.int 24681))) (zC (.int 3))) zaNil)) (zC (.int 2147483629)))) (zRet (zBin rzMod (zCall rzInt (zaCons (zBin rzDiv (zBin rzMod (zCall rzInt (zaCons (zBin rzPow (zBin rzAdd (zVar 5) (zBin rzMul (zC (.int 104917)) (zVar 3))) (zC (.int 5))) zaNil)) (zC (.int 2147483579))) (zC (.int 29))) zaNil)) (zVar 1)))))))))
theorem w__law_draw {P : Program} {w : World} {K : PySem.W.Frag} {mg : Str → Option Value} {base : Heap} {f : Addr} {fd : FuncData} {c_WitnessError : Addr} {c_BadLiterals : Addr} {c_BadMany : Addr} {c_BadRow : Addr} {P_law : Addr} (F : Fun K "_law_draw" "_law_draw" (top 26) f fd) (hm : mg "_law_draw" = some (.ref f)) (B : Bs mg) {g : SpZ}
    (hread : ∀ G H ds M Q, RelM G M H → ds.length = 2 → g ds M Q → ∃ M0, Ex G M H M0 H ∧ RelM G M0 H ∧ t__law_draw K c_WitnessError c_BadLiterals c_BadMany c_BadRow P_law { nx := fun _ M' => Post Q .non M', rt := Post Q } (startZ 6 ds) M0) : Fz P w K mg base 1 "_law_draw" 2 g := by
  have S : FnScope ["_law_state", "_law_size_here", "_law_found", "_law_turn", "_law_cell", "_law_mixed_here"] ["_law_state", "_law_size_here"] (defScope (top 26)) := ⟨rfl, rfl, rfl, by decide +kernel, rfl, by decide +kernel, by decide +kernel⟩
  refine fz_of (T := t__law_draw K c_WitnessError c_BadLiterals c_BadMany c_BadRow P_law) F S hm (fun _ _ _ _ _ _ us hl => match us, hl with | [_, _], _ => rfl) rfl (fun cdv A outer s H E hcd hrG => ?_) hread
  have hr := hrG.r
  exact (zb_cons (zs_while PassesOwn.never (zw_pt (zw_and (p_eq hr (ze_dget hr (ze_var 0) ze_str) ze_int) (zw_and1 (p_ne hr (ze_dget hr (ze_var 0) ze_str) (ze_lst za_nil))))) (zb_one (zs_dput hr (ze_popAt (ze_dget hr (ze_var 0) ze_str) (za_cons ze_int za_nil)) (ze_var 0) ze_str))) (zb_cons (zs_if (p_gt (ze_dget hr (ze_var 0) ze_str) ze_int) (zb_cons (zs_set 2 S.nd (q_mod (q_int B (ze_dget hr (ze_var 0) ze_str)) (ze_var 1))) (zb_cons (zs_dput hr (q_div (ze_dget hr (ze_var 0) ze_str) (ze_var 1)) (ze_var 0) ze_str) (zb_one (zs_ret (ze_var 2))))) zb_nil) (zb_cons (zs_set 3 S.nd (q_add (ze_dget hr (ze_var 0) ze_str) ze_int)) (zb_cons (zs_dput hr (ze_var 3) (ze_var 0) ze_str) (zb_cons (zs_set 4 S.nd (ze_if (p_ne hr (ze_dget hr (ze_var 0) ze_str) (ze_lst za_nil)) (q_ix (ze_dget hr (ze_var 0) ze_str) (q_mod (q_int B (ze_var 3)) (q_len B (ze_dget hr (ze_var 0) ze_str)))) ze_int)) (zb_cons (zs_set 5 S.nd (q_mod (q_int B (q_pow (q_add (q_add (q_mod (q_int B (ze_var 4)) ze_int) (q_mul ze_int (ze_var 3))) ze_int) ze_int)) ze_int)) (zb_one (zs_ret (q_mod (q_int B (q_div (q_mod (q_int B (q_pow (q_add (ze_var 5) (q_mul ze_int (ze_var 3))) ze_int)) ze_int) ze_int)) (ze_var 1))))))))))
def t__law_pick (K : PySem.W.Frag) (c_WitnessError : Addr) (c_BadLiterals : Addr) (c_BadMany : Addr) (c_BadRow : Addr) (P_law : Addr) (g__law_draw : SpZ) : TSZ := (zRet (zBin rzIx (zVar 1) (zFn 2 g__law_draw (zaCons (zVar 0) (zaCons (zCall (rzLen K) (zaCons (zVar 1) zaNil)) zaNil)))))
theorem w__law_pick {P : Program} {w : World} {K : PySem.W.Frag} {mg : Str → Option Value} {base : Heap} {f : Addr} {fd : FuncData} {c_WitnessError : Addr} {c_BadLiterals : Addr} {c_BadMany : Addr} {c_BadRow : Addr} {P_law : Addr} (F : Fun K "_law_pick" "_law_pick" (top 27) f fd) (hm : mg "_law_pick" = some (.ref f)) (B : Bs mg) {g__law_draw : SpZ} (F__law_draw : Fz P w K mg base 1 "_law_draw" 2 g__law_draw) {g : SpZ}
    (hread : ∀ ds M Q, ds.length = 2 → g ds M Q → t__law_pick K c_WitnessError c_BadLiterals c_BadMany c_BadRow P_law g__law_draw { nx := fun _ M' => Post Q .non M', rt := Post Q } (startZ 2 ds) M) : Fz P w K mg base 2 "_law_pick" 2 g := by
  have S : FnScope ["_law_state", "_law_several"] ["_law_state", "_law_several"] (defScope (top 27)) := ⟨rfl, rfl, rfl, by decide +kernel, rfl, by decide +kernel, by decide +kernel⟩
  refine fz_plain (T := t__law_pick K c_WitnessError c_BadLiterals c_BadMany c_BadRow P_law g__law_draw) F S hm (fun _ _ _ _ _ _ us hl => match us, hl with | [_, _], _ => rfl) rfl (fun cdv A outer s H E hcd hrG => ?_) hread
  have hr := hrG.r
  exact (zb_one (zs_ret (q_ix (ze_var 1) (q_call F__law_draw hrG (za_cons (ze_var 0) (za_cons (q_len B (ze_var 1)) za_nil))))))
def t__law_mixed (K : PySem.W.Frag) (c_WitnessError : Addr) (c_BadLiterals : Addr) (c_BadMany : Addr) (c_BadRow : Addr) (P_law : Addr) (g__law_draw : SpZ) : TSZ := (zSeq (zPar [2, 3] (zaCons (zCall rzListN (zaCons (zVar 1) zaNil)) (zaCons (zLstN zaNil) zaNil))) (zSeq (zWhile (zTst (zBin rzNe (zVar 2) (zLst zaNil))) (zDrop (zAppend (zVar 3) (zaCons (zPopAt (zVar 2) (zaCons (zFn 2 g__law_draw (zaCons (zVar 0) (zaCons (zCall (rzLen K) (zaCons (zVar 2) zaNil)) zaNil))) zaNil)) zaNil)))) (zRet (zVar 3))))
theorem w__law_mixed {P : Program} {w : World} {K : PySem.W.Frag} {mg : Str → Option Value} {base : Heap} {f : Addr} {fd : FuncData} {c_WitnessError : Addr} {c_BadLiterals : Addr} {c_BadMany : Addr} {c_BadRow : Addr} {P_law : Addr} (F : Fun K "_law_mixed" "_law_mixed" (top 28) f fd) (hm : mg "_law_mixed" = some (.ref f)) (B : Bs mg) {g__law_draw : SpZ} (F__law_draw : Fz P w K mg base 1 "_law_draw" 2 g__law_draw) {g : SpZ}
    (hread : ∀ ds M Q, ds.length = 2 → g ds M Q → t__law_mixed K c_WitnessError c_BadLiterals c_BadMany c_BadRow P_law g__law_draw { nx := fun _ M' => Post Q .non M', rt := Post Q } (startZ 4 ds) M) : Fz P w K mg base 2 "_law_mixed" 2 g := by
  have S : FnScope ["_law_state", "_law_several", "_law_left", "_law_found"] ["_law_state", "_law_several"] (defScope (top 28)) := ⟨rfl, rfl, rfl, by decide +kernel, rfl, by decide +kernel, by decide +kernel⟩
  refine fz_plain (T := t__law_mixed K c_WitnessError c_BadLiterals c_BadMany c_BadRow P_law g__law_draw) F S hm (fun _ _ _ _ _ _ us hl => match us, hl with | [_, _], _ => rfl) rfl (fun cdv A outer s H E hcd hrG => ?_) hread
  have hr := hrG.r
  exact (zb_cons (zs_par2 2 3 rfl S.nd (za_cons (q_listN B (ze_var 1)) (za_cons (ze_lstN za_nil) za_nil))) (zb_cons (zs_while PassesOwn.never (p_ne hr (ze_var 2) (ze_lst za_nil)) (zb_one (zs_drop (ze_append (ze_var 3) (za_cons (ze_popAt (ze_var 2) (za_cons (q_call F__law_draw hrG (za_cons (ze_var 0) (za_cons (q_len B (ze_var 2)) za_nil))) za_nil)) za_nil))))) (zb_one (zs_ret (ze_var 3)))))
theorem w__law_caught {P : Program} {w : World} {K : PySem.W.Frag} {mg : Str → Option Value} {base : Heap} {f : Addr} {fd : FuncData} {c_WitnessError : Addr} {c_BadLiterals : Addr} {c_BadMany : Addr} {c_BadRow : Addr} {P_law : Addr} (F : Fun K "_law_caught" "_law_caught" (top 29) f fd) (hm : mg "_law_caught" = some (.ref f)) (me : mg "WitnessError" = some (.ref c_WitnessError)) : Catcher K mg "_law_caught" c_WitnessError := by
  have S : FnScope ["_law_work", "_law_caught_here", "error"] ["_law_work"] (defScope (top 29)) := ⟨rfl, rfl, rfl, by decide +kernel, rfl, by decide +kernel, by decide +kernel⟩
  exact ⟨top 29, f, fd, "_law_work", "_law_caught_here", "error", "WitnessError", _, _, _, _, _, _, _, _, _, _, _, _, _, _, _, F, hm, S, F.binds (fun _ _ _ _ _ _ us hl => match us, hl with | [_], _ => rfl), rfl, rfl, me, (by decide), rfl, rfl, .inl rfl⟩
def t__law_is_whole (K : PySem.W.Frag) (c_WitnessError : Addr) (c_BadLiterals : Addr) (c_BadMany : Addr) (c_BadRow : Addr) (P_law : Addr) : TSZ := (zRet (zAndV (zUn (rzIsi .int) (zVar 0)) (zNotV (zUn (rzIsi .bl) (zVar 0)))))
theorem w__law_is_whole {P : Program} {w : World} {K : PySem.W.Frag} {mg : Str → Option Value} {base : Heap} {f : Addr} {fd : FuncData} {c_WitnessError : Addr} {c_BadLiterals : Addr} {c_BadMany : Addr} {c_BadRow : Addr} {P_law : Addr} (F : Fun K "_law_is_whole" "_law_is_whole" (top 30) f fd) (hm : mg "_law_is_whole" = some (.ref f)) (B : Bs mg) {g : SpZ}
    (hread : ∀ ds M Q, ds.length = 1 → g ds M Q → t__law_is_whole K c_WitnessError c_BadLiterals c_BadMany c_BadRow P_law { nx := fun _ M' => Post Q .non M', rt := Post Q } (startZ 1 ds) M) : Fz P w K mg base 1 "_law_is_whole" 1 g := by
  have S : FnScope ["_law_item"] ["_law_item"] (defScope (top 30)) := ⟨rfl, rfl, rfl, by decide +kernel, rfl, by decide +kernel, by decide +kernel⟩
  refine fz_plain (T := t__law_is_whole K c_WitnessError c_BadLiterals c_BadMany c_BadRow P_law) F S hm (fun _ _ _ _ _ _ us hl => match us, hl with | [_], _ => rfl) rfl (fun cdv A outer s H E hcd hrG => ?_) hread
  have hr := hrG.r
  exact (zb_one (zs_ret (ze_and (q_isInt B (ze_var 0)) (ze_one (ze_not (q_isBool B (ze_var 0)))))))
def t__law_is_from (K : PySem.W.Frag) (c_WitnessError : Addr) (c_BadLiterals : Addr) (c_BadMany : Addr) (c_BadRow : Addr) (P_law : Addr) (g__law_is_whole : SpZ) : TSZ := (zRet (zAndV (zFn 1 g__law_is_whole (zaCons (zVar 0) zaNil)) (zChain rzLe rzLe (zVar 1) (zVar 0) (zVar 2))))
theorem w__law_is_from {P : Program} {w : World} {K : PySem.W.Frag} {mg : Str → Option Value} {base : Heap} {f : Addr} {fd : FuncData} {c_WitnessError : Addr} {c_BadLiterals : Addr} {c_BadMany : Addr} {c_BadRow : Addr} {P_law : Addr} (F : Fun K "_law_is_from" "_law_is_from" (top 31) f fd) (hm : mg "_law_is_from" = some (.ref f)) (B : Bs mg) {g__law_is_whole : SpZ} (F__law_is_whole : Fz P w K mg base 1 "_law_is_whole" 1 g__law_is_whole) {g : SpZ}
    (hread : ∀ ds M Q, ds.length = 3 → g ds M Q → t__law_is_from K c_WitnessError c_BadLiterals c_BadMany c_BadRow P_law g__law_is_whole { nx := fun _ M' => Post Q .non M', rt := Post Q } (startZ 3 ds) M) : Fz P w K mg base 2 "_law_is_from" 3 g := by
  have S : FnScope ["_law_item", "_law_low", "_law_top"] ["_law_item", "_law_low", "_law_top"] (defScope (top 31)) := ⟨rfl, rfl, rfl, by decide +kernel, rfl, by decide +kernel, by decide +kernel⟩
  refine fz_plain (T := t__law_is_from K c_WitnessError c_BadLiterals c_BadMany c_BadRow P_law g__law_is_whole) F S hm (fun _ _ _ _ _ _ us hl => match us, hl with | [_, _, _], _ => rfl) rfl (fun cdv A outer s H E hcd hrG => ?_) hread
  have hr := hrG.r
  exact (zb_one (zs_ret (ze_and (q_call F__law_is_whole hrG (za_cons (ze_var 0) za_nil)) (ze_one (q_lele (ze_var 1) (ze_var 0) (ze_var 2))))))
def t__law_fillings (K : PySem.W.Frag) (c_WitnessError : Addr) (c_BadLiterals : Addr) (c_BadMany : Addr) (c_BadRow : Addr) (P_law : Addr) : TSZ := (zSeq (zSet 1 (zLst (zaCons (zTup zaNil) zaNil))) (zSeq (zFor (iRange1 (zVar 0)) (.nm 2) (zSet 1 (zCall rzSort (zaCons (zBin rzAdd (zComp (iSeq K (zVar 1)) (.nm 3) [3] zYes (zBin rzAdd (zVar 3) (zTup (zaCons (zC (.int 0)) zaNil)))) (zComp (iSeq K (zVar 1)) (.nm 3) [3] zYes (zBin rzAdd (zVar 3) (zTup (zaCons (zC (.int 1)) zaNil))))) zaNil)))) (zRet (zVar 1))))
theorem w__law_fillings {P : Program} {w : World} {K : PySem.W.Frag} {mg : Str → Option Value} {base : Heap} {f : Addr} {fd : FuncData} {c_WitnessError : Addr} {c_BadLiterals : Addr} {c_BadMany : Addr} {c_BadRow : Addr} {P_law : Addr} (F : Fun K "_law_fillings" "_law_fillings" (top 32) f fd) (hm : mg "_law_fillings" = some (.ref f)) (B : Bs mg) {g : SpZ}
    (hread : ∀ ds M Q, ds.length = 1 → g ds M Q → t__law_fillings K c_WitnessError c_BadLiterals c_BadMany c_BadRow P_law { nx := fun _ M' => Post Q .non M', rt := Post Q } (startZ 4 ds) M) : Fz P w K mg base 1 "_law_fillings" 1 g := by
  have S : FnScope ["_law_many", "_law_found", "_law_lap", "_law_filling"] ["_law_many"] (defScope (top 32)) := ⟨rfl, rfl, rfl, by decide +kernel, rfl, by decide +kernel, by decide +kernel⟩
  refine fz_plain (T := t__law_fillings K c_WitnessError c_BadLiterals c_BadMany c_BadRow P_law) F S hm (fun _ _ _ _ _ _ us hl => match us, hl with | [_], _ => rfl) rfl (fun cdv A outer s H E hcd hrG => ?_) hread
  have hr := hrG.r
  exact (zb_cons (zs_set 1 S.nd (ze_lst (za_cons (ze_tup za_nil) za_nil))) (zb_cons (zs_for PassesOwn.never rfl (zi_range1 rfl B.range (ze_var 0)) (zg_nm 2 S.nd) (zb_one (zs_set 1 S.nd (q_sorted hr B (q_add (ze_comp [("_law_filling", 3)] rfl S.nd (zi_seq (ze_var 1)) (by kernel_rfl) (fun _ _ _ _ _ => (zg_nm 3 S.nd)) (fun _ _ _ _ _ => zts_nil) (fun _ _ _ _ _ => (q_add (ze_var 3) (ze_tup (za_cons ze_int za_nil))))) (ze_comp [("_law_filling", 3)] rfl S.nd (zi_seq (ze_var 1)) (by kernel_rfl) (fun _ _ _ _ _ => (zg_nm 3 S.nd)) (fun _ _ _ _ _ => zts_nil) (fun _ _ _ _ _ => (q_add (ze_var 3) (ze_tup (za_cons ze_int za_nil)))))))))) (zb_one (zs_ret (ze_var 1)))))
def t__law_worth (K : PySem.W.Frag) (c_WitnessError : Addr) (c_BadLiterals : Addr) (c_BadMany : Addr) (c_BadRow : Addr) (P_law : Addr) : TSZ := (zRet (zIf (zTst (zBin rzGt (zVar 0) (zC (.int 0)))) (zBin rzIx (zVar 1) (zBin rzSub (zVar 0) (zC (.int 1)))) (zBin rzSub (zC (.int 1)) (zBin rzIx (zVar 1) (zBin rzSub (zBin rzSub (zC (.int 0)) (zVar 0)) (zC (.int 1)))))))
theorem w__law_worth {P : Program} {w : World} {K : PySem.W.Frag} {mg : Str → Option Value} {base : Heap} {f : Addr} {fd : FuncData} {c_WitnessError : Addr} {c_BadLiterals : Addr} {c_BadMany : Addr} {c_BadRow : Addr} {P_law : Addr} (F : Fun K "_law_worth" "_law_worth" (top 33) f fd) (hm : mg "_law_worth" = some (.ref f)) (B : Bs mg) {g : SpZ}
    (hread : ∀ ds M Q, ds.length = 2 → g ds M Q → t__law_worth K c_WitnessError c_BadLiterals c_BadMany c_BadRow P_law { nx := fun _ M' => Post Q .non M', rt := Post Q } (startZ 2 ds) M) : Fz P w K mg base 1 "_law_worth" 2 g := by
  have S : FnScope ["_law_literal", "_law_filling"] ["_law_literal", "_law_filling"] (defScope (top 33)) := ⟨rfl, rfl, rfl, by decide +kernel, rfl, by decide +kernel, by decide +kernel⟩
  refine fz_plain (T := t__law_worth K c_WitnessError c_BadLiterals c_BadMany c_BadRow P_law) F S hm (fun _ _ _ _ _ _ us hl => match us, hl with | [_, _], _ => rfl) rfl (fun cdv A outer s H E hcd hrG => ?_) hread
  have hr := hrG.r
  exact (zb_one (zs_ret (ze_if (p_gt (ze_var 0) ze_int) (q_ix (ze_var 1) (q_sub (ze_var 0) ze_int)) (q_sub ze_int (q_ix (ze_var 1) (q_sub (q_sub ze_int (ze_var 0)) ze_int))))))
def t__law_comes (K : PySem.W.Frag) (c_WitnessError : Addr) (c_BadLiterals : Addr) (c_BadMany : Addr) (c_BadRow : Addr) (P_law : Addr) (g__law_worth : SpZ) : TSZ := (zRet (zCall (rzInts fun ns => .int ns.sum) (zaCons (zComp (iSeq K (zVar 0)) (.tup [(.nm 2), (.nm 3)]) [2, 3] (zTst (zBin rzEq (zFn 2 g__law_worth (zaCons (zVar 3) (zaCons (zVar 1) zaNil))) (zC (.int 1)))) (zVar 2)) zaNil)))
theorem w__law_comes {P : Program} {w : World} {K : PySem.W.Frag} {mg : Str → Option Value} {base : Heap} {f : Addr} {fd : FuncData} {c_WitnessError : Addr} {c_BadLiterals : Addr} {c_BadMany : Addr} {c_BadRow : Addr} {P_law : Addr} (F : Fun K "_law_comes" "_law_comes" (top 34) f fd) (hm : mg "_law_comes" = some (.ref f)) (B : Bs mg) {g__law_worth : SpZ} (F__law_worth : Fz P w K mg base 1 "_law_worth" 2 g__law_worth) {g : SpZ}
    (hread : ∀ ds M Q, ds.length = 2 → g ds M Q → t__law_comes K c_WitnessError c_BadLiterals c_BadMany c_BadRow P_law g__law_worth { nx := fun _ M' => Post Q .non M', rt := Post Q } (startZ 4 ds) M) : Fz P w K mg base 2 "_law_comes" 2 g := by
  have S : FnScope ["_law_terms_here", "_law_filling", "_law_weight", "_law_literal"] ["_law_terms_here", "_law_filling"] (defScope (top 34)) := ⟨rfl, rfl, rfl, by decide +kernel, rfl, by decide +kernel, by decide +kernel⟩
  refine fz_plain (T := t__law_comes K c_WitnessError c_BadLiterals c_BadMany c_BadRow P_law g__law_worth) F S hm (fun _ _ _ _ _ _ us hl => match us, hl with | [_, _], _ => rfl) rfl (fun cdv A outer s H E hcd hrG => ?_) hread
  have hr := hrG.r
  exact (zb_one (zs_ret (q_sum rfl B (ze_comp [("_law_weight", 2), ("_law_literal", 3)] rfl S.nd (zi_seq (ze_var 0)) (by kernel_rfl) (fun _ _ _ _ _ => (zg_tup rfl (zgs_cons (zg_nm 2 S.nd) (zgs_cons (zg_nm 3 S.nd) zgs_nil)))) (fun _ _ _ _ _ => (zts_one (p_eq hr (q_call F__law_worth hrG (za_cons (ze_var 3) (za_cons (ze_var 1) za_nil))) ze_int))) (fun _ _ _ _ _ => (ze_var 2))))))
def t__law_holds (K : PySem.W.Frag) (c_WitnessError : Addr) (c_BadLiterals : Addr) (c_BadMany : Addr) (c_BadRow : Addr) (P_law : Addr) (g__law_comes : SpZ) : TSZ := (zRet (zBin rzGe (zFn 2 g__law_comes (zaCons (zBin rzIx (zVar 0) (zC (.int 0))) (zaCons (zVar 1) zaNil))) (zBin rzIx (zVar 0) (zC (.int 1)))))
theorem w__law_holds {P : Program} {w : World} {K : PySem.W.Frag} {mg : Str → Option Value} {base : Heap} {f : Addr} {fd : FuncData} {c_WitnessError : Addr} {c_BadLiterals : Addr} {c_BadMany : Addr} {c_BadRow : Addr} {P_law : Addr} (F : Fun K "_law_holds" "_law_holds" (top 35) f fd) (hm : mg "_law_holds" = some (.ref f)) (B : Bs mg) {g__law_comes : SpZ} (F__law_comes : Fz P w K mg base 2 "_law_comes" 2 g__law_comes) {g : SpZ}
    (hread : ∀ ds M Q, ds.length = 2 → g ds M Q → t__law_holds K c_WitnessError c_BadLiterals c_BadMany c_BadRow P_law g__law_comes { nx := fun _ M' => Post Q .non M', rt := Post Q } (startZ 2 ds) M) : Fz P w K mg base 3 "_law_holds" 2 g := by
  have S : FnScope ["_law_row_here", "_law_filling"] ["_law_row_here", "_law_filling"] (defScope (top 35)) := ⟨rfl, rfl, rfl, by decide +kernel, rfl, by decide +kernel, by decide +kernel⟩
  refine fz_plain (T := t__law_holds K c_WitnessError c_BadLiterals c_BadMany c_BadRow P_law g__law_comes) F S hm (fun _ _ _ _ _ _ us hl => match us, hl with | [_, _], _ => rfl) rfl (fun cdv A outer s H E hcd hrG => ?_) hread
  have hr := hrG.r
  exact (zb_one (zs_ret (q_ge (q_call F__law_comes hrG (za_cons (q_ix (ze_var 0) ze_int) (za_cons (ze_var 1) za_nil))) (q_ix (ze_var 0) ze_int))))
def t__law_is_literal (K : PySem.W.Frag) (c_WitnessError : Addr) (c_BadLiterals : Addr) (c_BadMany : Addr) (c_BadRow : Addr) (P_law : Addr) (g__law_is_from : SpZ) : TSZ := (zRet (zAndV (zFn 3 g__law_is_from (zaCons (zVar 1) (zaCons (zBin rzSub (zC (.int 0)) (zVar 0)) (zaCons (zVar 0) zaNil)))) (zBin rzNe (zVar 1) (zC (.int 0)))))
theorem w__law_is_literal {P : Program} {w : World} {K : PySem.W.Frag} {mg : Str → Option Value} {base : Heap} {f : Addr} {fd : FuncData} {c_WitnessError : Addr} {c_BadLiterals : Addr} {c_BadMany : Addr} {c_BadRow : Addr} {P_law : Addr} (F : Fun K "_law_is_literal" "_law_is_literal" (top 36) f fd) (hm : mg "_law_is_literal" = some (.ref f)) (B : Bs mg) {g__law_is_from : SpZ} (F__law_is_from : Fz P w K mg base 2 "_law_is_from" 3 g__law_is_from) {g : SpZ}
    (hread : ∀ ds M Q, ds.length = 2 → g ds M Q → t__law_is_literal K c_WitnessError c_BadLiterals c_BadMany c_BadRow P_law g__law_is_from { nx := fun _ M' => Post Q .non M', rt := Post Q } (startZ 2 ds) M) : Fz P w K mg base 3 "_law_is_literal" 2 g := by
  have S : FnScope ["_law_many", "_law_item"] ["_law_many", "_law_item"] (defScope (top 36)) := ⟨rfl, rfl, rfl, by decide +kernel, rfl, by decide +kernel, by decide +kernel⟩
  refine fz_plain (T := t__law_is_literal K c_WitnessError c_BadLiterals c_BadMany c_BadRow P_law g__law_is_from) F S hm (fun _ _ _ _ _ _ us hl => match us, hl with | [_, _], _ => rfl) rfl (fun cdv A outer s H E hcd hrG => ?_) hread
  have hr := hrG.r
  exact (zb_one (zs_ret (ze_and (q_call F__law_is_from hrG (za_cons (ze_var 1) (za_cons (q_sub ze_int (ze_var 0)) (za_cons (ze_var 0) za_nil)))) (ze_one (q_ne hr (ze_var 1) ze_int)))))
def t__law_normal (K : PySem.W.Frag) (c_WitnessError : Addr) (c_BadLiterals : Addr) (c_BadMany : Addr) (c_BadRow : Addr) (P_law : Addr) : TSZ := (zSeq (zSet 2 zDNew) (zSeq (zFor (iSeq K (zVar 0)) (.tup [(.nm 3), (.nm 4)]) (zSeq (zIfS (zTst (zBin rzLt (zVar 4) (zC (.int 0)))) (zSet 1 (zBin rzSub (zVar 1) (zVar 3))) zNext) (zDPut (zVar 2) (zCall (rzInt1 fun i => .int (if i < 0 then -i else i)) (zaCons (zVar 4) zaNil)) (zBin rzAdd (zDGet2 (zVar 2) (zCall (rzInt1 fun i => .int (if i < 0 then -i else i)) (zaCons (zVar 4) zaNil)) (zC (.int 0))) (zIf (zTst (zBin rzGt (zVar 4) (zC (.int 0)))) (zVar 3) (zBin rzSub (zC (.int 0)) (zVar 3))))))) (zSeq (zSet 5 (zLstN zaNil)) (zSeq (zFor (iSeq K (zCall rzSortDI (zaCons (zVar 2) zaNil))) (.nm 6) (zSeq (zSet 3 (zBin rzDGet (zVar 2) (zVar 6))) (zSeq (zIfS (zTst (zBin rzNe (zVar 3) (zC (.int 0)))) (zDrop (zAppend (zVar 5) (zaCons (zTup (zaCons (zCall (rzInt1 fun i => .int (if i < 0 then -i else i)) (zaCons (zVar 3) zaNil)) (zaCons (zIf (zTst (zBin rzGt (zVar 3) (zC (.int 0)))) (zVar 6) (zBin rzSub (zC (.int 0)) (zVar 6))) zaNil))) zaNil))) zNext) (zIfS (zTst (zBin rzLt (zVar 3) (zC (.int 0)))) (zSet 1 (zBin rzSub (zVar 1) (zVar 3))) zNext)))) (zRet (zTup (zaCons (zCall rzTuple (zaCons (zVar 5) zaNil)) (zaCons (zCall (rzInt2 fun i j => .int (if j > i then j else i)) (zaCons (zC (.int 0)) (zaCons (zVar 1) zaNil))) zaNil))))))))
theorem w__law_normal {P : Program} {w : World} {K : PySem.W.Frag} {mg : Str → Option Value} {base : Heap} {f : Addr} {fd : FuncData} {c_WitnessError : Addr} {c_BadLiterals : Addr} {c_BadMany : Addr} {c_BadRow : Addr} {P_law : Addr} (F : Fun K "_law_normal" "_law_normal" (top 37) f fd) (hm : mg "_law_normal" = some (.ref f)) (B : Bs mg) {g : SpZ}
    (hread : ∀ ds M Q, ds.length = 2 → g ds M Q → t__law_normal K c_WitnessError c_BadLiterals c_BadMany c_BadRow P_law { nx := fun _ M' => Post Q .non M', rt := Post Q } (startZ 7 ds) M) : Fz P w K mg base 1 "_law_normal" 2 g := by
  have S : FnScope ["_law_pairs", "_law_bound", "_law_numbers_here", "_law_number", "_law_literal", "_law_terms_here", "_law_variable"] ["_law_pairs", "_law_bound"] (defScope (top 37)) := ⟨rfl, rfl, rfl, by decide +kernel, rfl, by decide +kernel, by decide +kernel⟩
  refine fz_plain (T := t__law_normal K c_WitnessError c_BadLiterals c_BadMany c_BadRow P_law) F S hm (fun _ _ _ _ _ _ us hl => match us, hl with | [_, _], _ => rfl) rfl (fun cdv A outer s H E hcd hrG => ?_) hread
  have hr := hrG.r
  exact (zb_cons (zs_set 2 S.nd ze_dnew) (zb_cons (zs_for PassesOwn.never rfl (zi_seq (ze_var 0)) (zg_tup rfl (zgs_cons (zg_nm 3 S.nd) (zgs_cons (zg_nm 4 S.nd) zgs_nil))) (zb_cons (zs_if (p_lt (ze_var 4) ze_int) (zb_one (zs_set 1 S.nd (q_sub (ze_var 1) (ze_var 3)))) zb_nil) (zb_one (zs_dput hr (q_add (ze_dget2 hr (ze_var 2) (q_abs B (ze_var 4)) ze_int) (ze_if (p_gt (ze_var 4) ze_int) (ze_var 3) (q_sub ze_int (ze_var 3)))) (ze_var 2) (q_abs B (ze_var 4)))))) (zb_cons (zs_set 5 S.nd (ze_lstN za_nil)) (zb_cons (zs_for PassesOwn.never rfl (zi_seq (q_sortedD rfl B (ze_var 2))) (zg_nm 6 S.nd) (zb_cons (zs_set 3 S.nd (ze_dget hr (ze_var 2) (ze_var 6))) (zb_cons (zs_if (p_ne hr (ze_var 3) ze_int) (zb_one (zs_drop (ze_append (ze_var 5) (za_cons (ze_tup (za_cons (q_abs B (ze_var 3)) (za_cons (ze_if (p_gt (ze_var 3) ze_int) (ze_var 6) (q_sub ze_int (ze_var 6))) za_nil))) za_nil)))) zb_nil) (zb_one (zs_if (p_lt (ze_var 3) ze_int) (zb_one (zs_set 1 S.nd (q_sub (ze_var 1) (ze_var 3)))) zb_nil))))) (zb_one (zs_ret (ze_tup (za_cons (q_tuple B (ze_var 5)) (za_cons (q_max2 rfl B ze_int (ze_var 1)) za_nil)))))))))
def t__law_terms (K : PySem.W.Frag) (c_WitnessError : Addr) (c_BadLiterals : Addr) (c_BadMany : Addr) (c_BadRow : Addr) (P_law : Addr) (g__law_draw : SpZ) : TSZ := (zSeq (zPar [3, 4] (zaCons (zLstN zaNil) (zaCons (zFn 2 g__law_draw (zaCons (zVar 0) (zaCons (zC (.int 4)) zaNil))) zaNil))) (zSeq (zFor (iRange2 (zC (.int 1)) (zBin rzAdd (zVar 1) (zC (.int 1)))) (.nm 5) (zIfS (zOr (zTst (zBin rzEq (zVar 4) (zC (.int 0)))) (zTst (zBin rzGt (zFn 2 g__law_draw (zaCons (zVar 0) (zaCons (zC (.int 3)) zaNil))) (zC (.int 0))))) (zSeq (zSet 6 (zIf (zTst (zBin rzEq (zVar 4) (zC (.int 1)))) (zC (.int 1)) (zBin rzAdd (zC (.int 1)) (zFn 2 g__law_draw (zaCons (zVar 0) (zaCons (zVar 2) zaNil)))))) (zDrop (zAppend (zVar 3) (zaCons (zTup (zaCons (zVar 6) (zaCons (zIf (zTst (zBin rzEq (zFn 2 g__law_draw (zaCons (zVar 0) (zaCons (zC (.int 2)) zaNil))) (zC (.int 0)))) (zVar 5) (zBin rzSub (zC (.int 0)) (zVar 5))) zaNil))) zaNil)))) zNext)) (zRet (zCall rzTuple (zaCons (zVar 3) zaNil)))))
theorem w__law_terms {P : Program} {w : World} {K : PySem.W.Frag} {mg : Str → Option Value} {base : Heap} {f : Addr} {fd : FuncData} {c_WitnessError : Addr} {c_BadLiterals : Addr} {c_BadMany : Addr} {c_BadRow : Addr} {P_law : Addr} (F : Fun K "_law_terms" "_law_terms" (top 38) f fd) (hm : mg "_law_terms" = some (.ref f)) (B : Bs mg) {g__law_draw : SpZ} (F__law_draw : Fz P w K mg base 1 "_law_draw" 2 g__law_draw) {g : SpZ}
    (hread : ∀ ds M Q, ds.length = 3 → g ds M Q → t__law_terms K c_WitnessError c_BadLiterals c_BadMany c_BadRow P_law g__law_draw { nx := fun _ M' => Post Q .non M', rt := Post Q } (startZ 7 ds) M) : Fz P w K mg base 2 "_law_terms" 3 g := by
  have S : FnScope ["_law_state", "_law_many", "_law_most", "_law_found", "_law_way", "_law_variable", "_law_weight"] ["_law_state", "_law_many", "_law_most"] (defScope (top 38)) := ⟨rfl, rfl, rfl, by decide +kernel, rfl, by decide +kernel, by decide +kernel⟩
  refine fz_plain (T := t__law_terms K c_WitnessError c_BadLiterals c_BadMany c_BadRow P_law g__law_draw) F S hm (fun _ _ _ _ _ _ us hl => match us, hl with | [_, _, _], _ => rfl) rfl (fun cdv A outer s H E hcd hrG => ?_) hread
  have hr := hrG.r
  exact (zb_cons (zs_par2 3 4 rfl S.nd (za_cons (ze_lstN za_nil) (za_cons (q_call F__law_draw hrG (za_cons (ze_var 0) (za_cons ze_int za_nil))) za_nil))) (zb_cons (zs_for PassesOwn.never rfl (zi_range2 rfl B.range ze_int (q_add (ze_var 1) ze_int)) (zg_nm 5 S.nd) (zb_one (zs_if (zw_pt (zw_or (p_eq hr (ze_var 4) ze_int) (zw_or1 (p_gt (q_call F__law_draw hrG (za_cons (ze_var 0) (za_cons ze_int za_nil))) ze_int)))) (zb_cons (zs_set 6 S.nd (ze_if (p_eq hr (ze_var 4) ze_int) ze_int (q_add ze_int (q_call F__law_draw hrG (za_cons (ze_var 0) (za_cons (ze_var 2) za_nil)))))) (zb_one (zs_drop (ze_append (ze_var 3) (za_cons (ze_tup (za_cons (ze_var 6) (za_cons (ze_if (p_eq hr (q_call F__law_draw hrG (za_cons (ze_var 0) (za_cons ze_int za_nil))) ze_int) (ze_var 5) (q_sub ze_int (ze_var 5))) za_nil))) za_nil))))) zb_nil))) (zb_one (zs_ret (q_tuple B (ze_var 3))))))
def t__law_row (K : PySem.W.Frag) (c_WitnessError : Addr) (c_BadLiterals : Addr) (c_BadMany : Addr) (c_BadRow : Addr) (P_law : Addr) (g__law_draw g__law_pick g__law_terms : SpZ) : TSZ := (zSeq (zSet 3 (zFn 3 g__law_terms (zaCons (zVar 0) (zaCons (zVar 1) (zaCons (zVar 2) zaNil))))) (zSeq (zSet 4 (zCall (rzInts fun ns => .int ns.sum) (zaCons (zComp (iSeq K (zVar 3)) (.tup [(.nm 5), (.nm 6)]) [5, 6] zYes (zVar 5)) zaNil))) (zSeq (zSet 7 (zFn 2 g__law_draw (zaCons (zVar 0) (zaCons (zC (.int 10)) zaNil)))) (zSeq (zIfS (zTst (zBin rzEq (zVar 7) (zC (.int 0)))) (zRet (zTup (zaCons (zVar 3) (zaCons (zFn 2 g__law_pick (zaCons (zVar 0) (zaCons (zLst (zaCons (zC (.int 0)) (zaCons (zVar 4) (zaCons (zBin rzAdd (zVar 4) (zC (.int 1))) zaNil)))) zaNil))) zaNil)))) zNext) (zRet (zTup (zaCons (zVar 3) (zaCons (zIf (zTst (zBin rzLt (zVar 7) (zC (.int 4)))) (zFn 2 g__law_draw (zaCons (zVar 0) (zaCons (zBin rzAdd (zVar 4) (zC (.int 1))) zaNil))) (zBin rzSub (zBin rzDiv (zBin rzAdd (zVar 4) (zC (.int 1))) (zC (.int 2))) (zCall rzInt (zaCons (zAndV (zBin rzEq (zVar 7) (zC (.int 4))) (zBin rzGt (zVar 4) (zC (.int 1)))) zaNil)))) zaNil))))))))
theorem w__law_row {P : Program} {w : World} {K : PySem.W.Frag} {mg : Str → Option Value} {base : Heap} {f : Addr} {fd : FuncData} {c_WitnessError : Addr} {c_BadLiterals : Addr} {c_BadMany : Addr} {c_BadRow : Addr} {P_law : Addr} (F : Fun K "_law_row" "_law_row" (top 39) f fd) (hm : mg "_law_row" = some (.ref f)) (B : Bs mg) {g__law_draw g__law_pick g__law_terms : SpZ} (F__law_draw : Fz P w K mg base 1 "_law_draw" 2 g__law_draw) (F__law_pick : Fz P w K mg base 2 "_law_pick" 2 g__law_pick) (F__law_terms : Fz P w K mg base 2 "_law_terms" 3 g__law_terms) {g : SpZ}
    (hread : ∀ ds M Q, ds.length = 3 → g ds M Q → t__law_row K c_WitnessError c_BadLiterals c_BadMany c_BadRow P_law g__law_draw g__law_pick g__law_terms { nx := fun _ M' => Post Q .non M', rt := Post Q } (startZ 8 ds) M) : Fz P w K mg base 3 "_law_row" 3 g := by
  have S : FnScope ["_law_state", "_law_many", "_law_most", "_law_terms_here", "_law_total_here", "_law_weight", "_law_literal", "_law_way"] ["_law_state", "_law_many", "_law_most"] (defScope (top 39)) := ⟨rfl, rfl, rfl, by decide +kernel, rfl, by decide +kernel, by decide +kernel⟩
  refine fz_plain (T := t__law_row K c_WitnessError c_BadLiterals c_BadMany c_BadRow P_law g__law_draw g__law_pick g__law_terms) F S hm (fun _ _ _ _ _ _ us hl => match us, hl with | [_, _, _], _ => rfl) rfl (fun cdv A outer s H E hcd hrG => ?_) hread
  have hr := hrG.r
  exact (zb_cons (zs_set 3 S.nd (q_call F__law_terms hrG (za_cons (ze_var 0) (za_cons (ze_var 1) (za_cons (ze_var 2) za_nil))))) (zb_cons (zs_set 4 S.nd (q_sum rfl B (ze_comp [("_law_weight", 5), ("_law_literal", 6)] rfl S.nd (zi_seq (ze_var 3)) (by kernel_rfl) (fun _ _ _ _ _ => (zg_tup rfl (zgs_cons (zg_nm 5 S.nd) (zgs_cons (zg_nm 6 S.nd) zgs_nil)))) (fun _ _ _ _ _ => zts_nil) (fun _ _ _ _ _ => (ze_var 5))))) (zb_cons (zs_set 7 S.nd (q_call F__law_draw hrG (za_cons (ze_var 0) (za_cons ze_int za_nil)))) (zb_cons (zs_if (p_eq hr (ze_var 7) ze_int) (zb_one (zs_ret (ze_tup (za_cons (ze_var 3) (za_cons (q_call F__law_pick hrG (za_cons (ze_var 0) (za_cons (ze_lst (za_cons ze_int (za_cons (ze_var 4) (za_cons (q_add (ze_var 4) ze_int) za_nil)))) za_nil))) za_nil))))) zb_nil) (zb_one (zs_ret (ze_tup (za_cons (ze_var 3) (za_cons (ze_if (p_lt (ze_var 7) ze_int) (q_call F__law_draw hrG (za_cons (ze_var 0) (za_cons (q_add (ze_var 4) ze_int) za_nil))) (q_sub (q_div (q_add (ze_var 4) ze_int) ze_int) (q_int B (ze_and (q_eq hr (ze_var 7) ze_int) (ze_one (q_gt (ze_var 4) ze_int)))))) za_nil)))))))))
def t__law_bad_many (K : PySem.W.Frag) (c_WitnessError : Addr) (c_BadLiterals : Addr) (c_BadMany : Addr) (c_BadRow : Addr) (P_law : Addr) (g__law_pick : SpZ) : TSZ := (zRet (zFn 2 g__law_pick (zaCons (zVar 0) (zaCons (zLst (zaCons (zC (.int 0)) (zaCons (zUn rzNeg (zC (.int 1))) (zaCons (zC (.int 601)) (zaCons (zBin rzPow (zC (.int 10)) (zC (.int 9))) (zaCons (zC .non) (zaCons (zC (.bl true)) (zaCons (zC (.str "3")) (zaCons (zTup (zaCons (zC (.int 3)) zaNil)) (zaCons (zLst (zaCons (zC (.int 2)) zaNil)) (zaCons zDNewF zaNil))))))))))) zaNil))))
theorem w__law_bad_many {P : Program} {w : World} {K : PySem.W.Frag} {mg : Str → Option Value} {base : Heap} {f : Addr} {fd : FuncData} {c_WitnessError : Addr} {c_BadLiterals : Addr} {c_BadMany : Addr} {c_BadRow : Addr} {P_law : Addr} (F : Fun K "_law_bad_many" "_law_bad_many" (top 40) f fd) (hm : mg "_law_bad_many" = some (.ref f)) (B : Bs mg) {g__law_pick : SpZ} (F__law_pick : Fz P w K mg base 2 "_law_pick" 2 g__law_pick) {g : SpZ}
    (hread : ∀ ds M Q, ds.length = 1 → g ds M Q → t__law_bad_many K c_WitnessError c_BadLiterals c_BadMany c_BadRow P_law g__law_pick { nx := fun _ M' => Post Q .non M', rt := Post Q } (startZ 1 ds) M) : Fz P w K mg base 3 "_law_bad_many" 1 g := by
  have S : FnScope ["_law_state"] ["_law_state"] (defScope (top 40)) := ⟨rfl, rfl, rfl, by decide +kernel, rfl, by decide +kernel, by decide +kernel⟩
  refine fz_plain (T := t__law_bad_many K c_WitnessError c_BadLiterals c_BadMany c_BadRow P_law g__law_pick) F S hm (fun _ _ _ _ _ _ us hl => match us, hl with | [_], _ => rfl) rfl (fun cdv A outer s H E hcd hrG => ?_) hread
  have hr := hrG.r
  exact (zb_one (zs_ret (q_call F__law_pick hrG (za_cons (ze_var 0) (za_cons (ze_lst (za_cons ze_int (za_cons (q_neg ze_int) (za_cons ze_int (za_cons (q_pow ze_int ze_int) (za_cons ze_non (za_cons ze_bl (za_cons ze_str (za_cons (ze_tup (za_cons ze_int za_nil)) (za_cons (ze_lst (za_cons ze_int za_nil)) (za_cons ze_dnewF za_nil))))))))))) za_nil)))))
def t__law_bad_row (K : PySem.W.Frag) (c_WitnessError : Addr) (c_BadLiterals : Addr) (c_BadMany : Addr) (c_BadRow : Addr) (P_law : Addr) (g__law_pick : SpZ) : TSZ := (zSeq (zSet 2 (zLstN (zaCons (zC .non) (zaCons (zC (.int 5)) (zaCons (zC (.str "row")) (zaCons (zTup zaNil) (zaCons (zTup (zaCons (zTup zaNil) (zaCons (zC (.int 0)) (zaCons (zC (.int 0)) zaNil)))) (zaCons (zLst (zaCons (zTup zaNil) (zaCons (zC (.int 0)) zaNil))) (zaCons (zTup (zaCons (zLst zaNil) (zaCons (zC (.int 0)) zaNil))) (zaCons (zTup (zaCons (zTup zaNil) (zaCons (zUn rzNeg (zC (.int 1))) zaNil))) (zaCons (zTup (zaCons (zTup zaNil) (zaCons (zC (.bl true)) zaNil))) (zaCons (zTup (zaCons (zTup zaNil) (zaCons (zC .non) zaNil))) (zaCons (zTup (zaCons (zTup (zaCons (zTup (zaCons (zC (.int 1)) (zaCons (zC (.int 1)) zaNil))) zaNil)) (zaCons (zC (.str "1")) zaNil))) (zaCons zDNewF zaNil)))))))))))))) (zSeq (zSet 2 (zBin rzAddN (zVar 2) (zLst (zaCons (zTup (zaCons (zTup (zaCons (zTup (zaCons (zC (.int 0)) (zaCons (zC (.int 1)) zaNil))) zaNil)) (zaCons (zC (.int 0)) zaNil))) (zaCons (zTup (zaCons (zTup (zaCons (zTup (zaCons (zUn rzNeg (zC (.int 1))) (zaCons (zC (.int 1)) zaNil))) zaNil)) (zaCons (zC (.int 0)) zaNil))) (zaCons (zTup (zaCons (zTup (zaCons (zTup (zaCons (zC (.bl true)) (zaCons (zC (.int 1)) zaNil))) zaNil)) (zaCons (zC (.int 1)) zaNil))) (zaCons (zTup (zaCons (zTup (zaCons (zTup (zaCons (zC (.int 1)) (zaCons (zC (.int 0)) zaNil))) zaNil)) (zaCons (zC (.int 0)) zaNil))) (zaCons (zTup (zaCons (zTup (zaCons (zTup (zaCons (zC (.int 1)) (zaCons (zBin rzAdd (zVar 1) (zC (.int 1))) zaNil))) zaNil)) (zaCons (zC (.int 1)) zaNil))) (zaCons (zTup (zaCons (zTup (zaCons (zTup (zaCons (zC (.int 1)) (zaCons (zC (.bl true)) zaNil))) zaNil)) (zaCons (zC (.int 1)) zaNil))) zaNil))))))))) (zSeq (zSet 2 (zBin rzAddN (zVar 2) (zLst (zaCons (zTup (zaCons (zTup (zaCons (zTup (zaCons (zC (.int 1)) (zaCons (zC (.int 1)) zaNil))) (zaCons (zTup (zaCons (zC (.int 1)) (zaCons (zC (.int 1)) zaNil))) zaNil))) (zaCons (zC (.int 1)) zaNil))) (zaCons (zTup (zaCons (zTup (zaCons (zTup (zaCons (zC (.int 1)) (zaCons (zC (.int 1)) zaNil))) (zaCons (zTup (zaCons (zC (.int 2)) (zaCons (zUn rzNeg (zC (.int 1))) zaNil))) zaNil))) (zaCons (zC (.int 1)) zaNil))) (zaCons (zTup (zaCons (zTup (zaCons (zTup (zaCons (zC (.int 1)) (zaCons (zC (.int 1)) (zaCons (zC (.int 1)) zaNil)))) zaNil)) (zaCons (zC (.int 1)) zaNil))) (zaCons (zTup (zaCons (zLst (zaCons (zTup (zaCons (zC (.int 1)) (zaCons (zC (.int 1)) zaNil))) zaNil)) (zaCons (zC (.int 1)) zaNil))) (zaCons (zTup (zaCons (zTup (zaCons (zLst (zaCons (zC (.int 1)) (zaCons (zC (.int 1)) zaNil))) zaNil)) (zaCons (zC (.int 1)) zaNil))) (zaCons (zTup (zaCons (zTup (zaCons (zTup (zaCons (zC (.int 1)) (zaCons (zC .non) zaNil))) zaNil)) (zaCons (zC (.int 0)) zaNil))) zaNil))))))))) (zSeq (zIfS (zTst (zBin rzGt (zVar 1) (zC (.int 1)))) (zDrop (zAppend (zVar 2) (zaCons (zTup (zaCons (zTup (zaCons (zTup (zaCons (zC (.int 1)) (zaCons (zC (.int 2)) zaNil))) (zaCons (zTup (zaCons (zC (.int 1)) (zaCons (zC (.int 1)) zaNil))) zaNil))) (zaCons (zC (.int 1)) zaNil))) zaNil))) zNext) (zRet (zFn 2 g__law_pick (zaCons (zVar 0) (zaCons (zVar 2) zaNil))))))))
theorem w__law_bad_row {P : Program} {w : World} {K : PySem.W.Frag} {mg : Str → Option Value} {base : Heap} {f : Addr} {fd : FuncData} {c_WitnessError : Addr} {c_BadLiterals : Addr} {c_BadMany : Addr} {c_BadRow : Addr} {P_law : Addr} (F : Fun K "_law_bad_row" "_law_bad_row" (top 41) f fd) (hm : mg "_law_bad_row" = some (.ref f)) (B : Bs mg) {g__law_pick : SpZ} (F__law_pick : Fz P w K mg base 2 "_law_pick" 2 g__law_pick) {g : SpZ}
    (hread : ∀ ds M Q, ds.length = 2 → g ds M Q → t__law_bad_row K c_WitnessError c_BadLiterals c_BadMany c_BadRow P_law g__law_pick { nx := fun _ M' => Post Q .non M', rt := Post Q } (startZ 3 ds) M) : Fz P w K mg base 3 "_law_bad_row" 2 g := by
  have S : FnScope ["_law_state", "_law_many", "_law_some"] ["_law_state", "_law_many"] (defScope (top 41)) := ⟨rfl, rfl, rfl, by decide +kernel, rfl, by decide +kernel, by decide +kernel⟩
  refine fz_plain (T := t__law_bad_row K c_WitnessError c_BadLiterals c_BadMany c_BadRow P_law g__law_pick) F S hm (fun _ _ _ _ _ _ us hl => match us, hl with | [_, _], _ => rfl) rfl (fun cdv A outer s H E hcd hrG => ?_) hread
  have hr := hrG.r
  exact (zb_cons (zs_set 2 S.nd (ze_lstN (za_cons ze_non (za_cons ze_int (za_cons ze_str (za_cons (ze_tup za_nil) (za_cons (ze_tup (za_cons (ze_tup za_nil) (za_cons ze_int (za_cons ze_int za_nil)))) (za_cons (ze_lst (za_cons (ze_tup za_nil) (za_cons ze_int za_nil))) (za_cons (ze_tup (za_cons (ze_lst za_nil) (za_cons ze_int za_nil))) (za_cons (ze_tup (za_cons (ze_tup za_nil) (za_cons (q_neg ze_int) za_nil))) (za_cons (ze_tup (za_cons (ze_tup za_nil) (za_cons ze_bl za_nil))) (za_cons (ze_tup (za_cons (ze_tup za_nil) (za_cons ze_non za_nil))) (za_cons (ze_tup (za_cons (ze_tup (za_cons (ze_tup (za_cons ze_int (za_cons ze_int za_nil))) za_nil)) (za_cons ze_str za_nil))) (za_cons ze_dnewF za_nil)))))))))))))) (zb_cons (zs_set 2 S.nd (q_addN (ze_var 2) (ze_lst (za_cons (ze_tup (za_cons (ze_tup (za_cons (ze_tup (za_cons ze_int (za_cons ze_int za_nil))) za_nil)) (za_cons ze_int za_nil))) (za_cons (ze_tup (za_cons (ze_tup (za_cons (ze_tup (za_cons (q_neg ze_int) (za_cons ze_int za_nil))) za_nil)) (za_cons ze_int za_nil))) (za_cons (ze_tup (za_cons (ze_tup (za_cons (ze_tup (za_cons ze_bl (za_cons ze_int za_nil))) za_nil)) (za_cons ze_int za_nil))) (za_cons (ze_tup (za_cons (ze_tup (za_cons (ze_tup (za_cons ze_int (za_cons ze_int za_nil))) za_nil)) (za_cons ze_int za_nil))) (za_cons (ze_tup (za_cons (ze_tup (za_cons (ze_tup (za_cons ze_int (za_cons (q_add (ze_var 1) ze_int) za_nil))) za_nil)) (za_cons ze_int za_nil))) (za_cons (ze_tup (za_cons (ze_tup (za_cons (ze_tup (za_cons ze_int (za_cons ze_bl za_nil))) za_nil)) (za_cons ze_int za_nil))) za_nil))))))))) (zb_cons (zs_set 2 S.nd (q_addN (ze_var 2) (ze_lst (za_cons (ze_tup (za_cons (ze_tup (za_cons (ze_tup (za_cons ze_int (za_cons ze_int za_nil))) (za_cons (ze_tup (za_cons ze_int (za_cons ze_int za_nil))) za_nil))) (za_cons ze_int za_nil))) (za_cons (ze_tup (za_cons (ze_tup (za_cons (ze_tup (za_cons ze_int (za_cons ze_int za_nil))) (za_cons (ze_tup (za_cons ze_int (za_cons (q_neg ze_int) za_nil))) za_nil))) (za_cons ze_int za_nil))) (za_cons (ze_tup (za_cons (ze_tup (za_cons (ze_tup (za_cons ze_int (za_cons ze_int (za_cons ze_int za_nil)))) za_nil)) (za_cons ze_int za_nil))) (za_cons (ze_tup (za_cons (ze_lst (za_cons (ze_tup (za_cons ze_int (za_cons ze_int za_nil))) za_nil)) (za_cons ze_int za_nil))) (za_cons (ze_tup (za_cons (ze_tup (za_cons (ze_lst (za_cons ze_int (za_cons ze_int za_nil))) za_nil)) (za_cons ze_int za_nil))) (za_cons (ze_tup (za_cons (ze_tup (za_cons (ze_tup (za_cons ze_int (za_cons ze_non za_nil))) za_nil)) (za_cons ze_int za_nil))) za_nil))))))))) (zb_cons (zs_if (p_gt (ze_var 1) ze_int) (zb_one (zs_drop (ze_append (ze_var 2) (za_cons (ze_tup (za_cons (ze_tup (za_cons (ze_tup (za_cons ze_int (za_cons ze_int za_nil))) (za_cons (ze_tup (za_cons ze_int (za_cons ze_int za_nil))) za_nil))) (za_cons ze_int za_nil))) za_nil)))) zb_nil) (zb_one (zs_ret (q_call F__law_pick hrG (za_cons (ze_var 0) (za_cons (ze_var 2) za_nil)))))))))
def t__law_changed_row (K : PySem.W.Frag) (c_WitnessError : Addr) (c_BadLiterals : Addr) (c_BadMany : Addr) (c_BadRow : Addr) (P_law : Addr) (g__law_is_whole : SpZ) : TSZ := (zSeq (zAsg (.tup [(.tup [(.nm 3), (.nm 4)]), (.nm 5)]) (zTup (zaCons (zVar 1) (zaCons (zBin rzIx (zVar 2) (zC (.int 0))) zaNil)))) (zSeq (zIfS (zAnd (zTst (zBin rzEq (zVar 5) (zC (.str "capped")))) (zTst (zBin rzEq (zCall (rzLen K) (zaCons (zVar 2) zaNil)) (zC (.int 1))))) (zRet (zIf (zTst (zBin rzGt (zVar 4) (zC (.int 0)))) (zTup (zaCons (zCall rzTuple (zaCons (zComp (iSeq K (zVar 3)) (.tup [(.nm 6), (.nm 7)]) [6, 7] zYes (zTup (zaCons (zCall (rzInt2 fun i j => .int (if j < i then j else i)) (zaCons (zVar 6) (zaCons (zVar 4) zaNil))) (zaCons (zVar 7) zaNil)))) zaNil)) (zaCons (zVar 4) zaNil))) (zTup (zaCons (zTup zaNil) (zaCons (zC (.int 0)) zaNil))))) zNext) (zSeq (zIfS (zOr (zTst (zBin rzNe (zCall (rzLen K) (zaCons (zVar 2) zaNil)) (zC (.int 2)))) (zOr (zNot (zTst (zFn 1 g__law_is_whole (zaCons (zBin rzIx (zVar 2) (zC (.int 1))) zaNil)))) (zTst (zBin rzLt (zBin rzIx (zVar 2) (zC (.int 1))) (zC (.int 1)))))) (zRet (zC .non)) zNext) (zSeq (zSet 8 (zBin rzIx (zVar 2) (zC (.int 1)))) (zSeq (zIfS (zTst (zBin rzEq (zVar 5) (zC (.str "times")))) (zRet (zTup (zaCons (zCall rzTuple (zaCons (zComp (iSeq K (zVar 3)) (.tup [(.nm 6), (.nm 7)]) [6, 7] zYes (zTup (zaCons (zBin rzMul (zVar 6) (zVar 8)) (zaCons (zVar 7) zaNil)))) zaNil)) (zaCons (zBin rzMul (zVar 4) (zVar 8)) zaNil)))) zNext) (zSeq (zIfS (zTst (zBin rzEq (zVar 5) (zC (.str "divided")))) (zRet (zTup (zaCons (zCall rzTuple (zaCons (zComp (iSeq K (zVar 3)) (.tup [(.nm 6), (.nm 7)]) [6, 7] zYes (zTup (zaCons (zBin rzDiv (zBin rzSub (zBin rzAdd (zVar 6) (zVar 8)) (zC (.int 1))) (zVar 8)) (zaCons (zVar 7) zaNil)))) zaNil)) (zaCons (zBin rzDiv (zBin rzSub (zBin rzAdd (zVar 4) (zVar 8)) (zC (.int 1))) (zVar 8)) zaNil)))) zNext) (zSeq (zIfS (zOr (zTst (zBin rzNe (zVar 5) (zC (.str "weakened")))) (zTst (zBin rzGt (zVar 8) (zVar 0)))) (zRet (zC .non)) zNext) (zSeq (zSet 9 (zCall (rzInts fun ns => .int ns.sum) (zaCons (zComp (iSeq K (zVar 3)) (.tup [(.nm 6), (.nm 7)]) [6, 7] (zTst (zBin rzEq (zCall (rzInt1 fun i => .int (if i < 0 then -i else i)) (zaCons (zVar 7) zaNil)) (zVar 8))) (zVar 6)) zaNil))) (zRet (zTup (zaCons (zCall rzTuple (zaCons (zComp (iSeq K (zVar 3)) (.nm 10) [10] (zTst (zBin rzNe (zCall (rzInt1 fun i => .int (if i < 0 then -i else i)) (zaCons (zBin rzIx (zVar 10) (zC (.int 1))) zaNil)) (zVar 8))) (zVar 10)) zaNil)) (zaCons (zCall (rzInt2 fun i j => .int (if j > i then j else i)) (zaCons (zC (.int 0)) (zaCons (zBin rzSub (zVar 4) (zVar 9)) zaNil))) zaNil))))))))))))
theorem w__law_changed_row {P : Program} {w : World} {K : PySem.W.Frag} {mg : Str → Option Value} {base : Heap} {f : Addr} {fd : FuncData} {c_WitnessError : Addr} {c_BadLiterals : Addr} {c_BadMany : Addr} {c_BadRow : Addr} {P_law : Addr} (F : Fun K "_law_changed_row" "_law_changed_row" (top 42) f fd) (hm : mg "_law_changed_row" = some (.ref f)) (B : Bs mg) {g__law_is_whole : SpZ} (F__law_is_whole : Fz P w K mg base 1 "_law_is_whole" 1 g__law_is_whole) {g : SpZ}
    (hread : ∀ ds M Q, ds.length = 3 → g ds M Q → t__law_changed_row K c_WitnessError c_BadLiterals c_BadMany c_BadRow P_law g__law_is_whole { nx := fun _ M' => Post Q .non M', rt := Post Q } (startZ 11 ds) M) : Fz P w K mg base 2 "_law_changed_row" 3 g := by
  have S : FnScope ["_law_many", "_law_row_here", "_law_step", "_law_terms_here", "_law_bound", "_law_word", "_law_weight", "_law_literal", "_law_number", "_law_gone", "_law_pair"] ["_law_many", "_law_row_here", "_law_step"] (defScope (top 42)) := ⟨rfl, rfl, rfl, by decide +kernel, rfl, by decide +kernel, by decide +kernel⟩
  refine fz_plain (T := t__law_changed_row K c_WitnessError c_BadLiterals c_BadMany c_BadRow P_law g__law_is_whole) F S hm (fun _ _ _ _ _ _ us hl => match us, hl with | [_, _, _], _ => rfl) rfl (fun cdv A outer s H E hcd hrG => ?_) hread
  have hr := hrG.r
  exact (zb_cons (zs_asg (ze_tup (za_cons (ze_var 1) (za_cons (q_ix (ze_var 2) ze_int) za_nil))) (zg_tup rfl (zgs_cons (zg_tup rfl (zgs_cons (zg_nm 3 S.nd) (zgs_cons (zg_nm 4 S.nd) zgs_nil))) (zgs_cons (zg_nm 5 S.nd) zgs_nil)))) (zb_cons (zs_if (zw_pt (zw_and (p_eq hr (ze_var 5) ze_str) (zw_and1 (p_eq hr (q_len B (ze_var 2)) ze_int)))) (zb_one (zs_ret (ze_if (p_gt (ze_var 4) ze_int) (ze_tup (za_cons (q_tuple B (ze_comp [("_law_weight", 6), ("_law_literal", 7)] rfl S.nd (zi_seq (ze_var 3)) (by kernel_rfl) (fun _ _ _ _ _ => (zg_tup rfl (zgs_cons (zg_nm 6 S.nd) (zgs_cons (zg_nm 7 S.nd) zgs_nil)))) (fun _ _ _ _ _ => zts_nil) (fun _ _ _ _ _ => (ze_tup (za_cons (q_min2 rfl B (ze_var 6) (ze_var 4)) (za_cons (ze_var 7) za_nil)))))) (za_cons (ze_var 4) za_nil))) (ze_tup (za_cons (ze_tup za_nil) (za_cons ze_int za_nil)))))) zb_nil) (zb_cons (zs_if (zw_pt (zw_or (p_ne hr (q_len B (ze_var 2)) ze_int) (zw_or (zp_not (zp_val (q_call F__law_is_whole hrG (za_cons (q_ix (ze_var 2) ze_int) za_nil)))) (zw_or1 (p_lt (q_ix (ze_var 2) ze_int) ze_int))))) (zb_one (zs_ret ze_non)) zb_nil) (zb_cons (zs_set 8 S.nd (q_ix (ze_var 2) ze_int)) (zb_cons (zs_if (p_eq hr (ze_var 5) ze_str) (zb_one (zs_ret (ze_tup (za_cons (q_tuple B (ze_comp [("_law_weight", 6), ("_law_literal", 7)] rfl S.nd (zi_seq (ze_var 3)) (by kernel_rfl) (fun _ _ _ _ _ => (zg_tup rfl (zgs_cons (zg_nm 6 S.nd) (zgs_cons (zg_nm 7 S.nd) zgs_nil)))) (fun _ _ _ _ _ => zts_nil) (fun _ _ _ _ _ => (ze_tup (za_cons (q_mul (ze_var 6) (ze_var 8)) (za_cons (ze_var 7) za_nil)))))) (za_cons (q_mul (ze_var 4) (ze_var 8)) za_nil))))) zb_nil) (zb_cons (zs_if (p_eq hr (ze_var 5) ze_str) (zb_one (zs_ret (ze_tup (za_cons (q_tuple B (ze_comp [("_law_weight", 6), ("_law_literal", 7)] rfl S.nd (zi_seq (ze_var 3)) (by kernel_rfl) (fun _ _ _ _ _ => (zg_tup rfl (zgs_cons (zg_nm 6 S.nd) (zgs_cons (zg_nm 7 S.nd) zgs_nil)))) (fun _ _ _ _ _ => zts_nil) (fun _ _ _ _ _ => (ze_tup (za_cons (q_div (q_sub (q_add (ze_var 6) (ze_var 8)) ze_int) (ze_var 8)) (za_cons (ze_var 7) za_nil)))))) (za_cons (q_div (q_sub (q_add (ze_var 4) (ze_var 8)) ze_int) (ze_var 8)) za_nil))))) zb_nil) (zb_cons (zs_if (zw_pt (zw_or (p_ne hr (ze_var 5) ze_str) (zw_or1 (p_gt (ze_var 8) (ze_var 0))))) (zb_one (zs_ret ze_non)) zb_nil) (zb_cons (zs_set 9 S.nd (q_sum rfl B (ze_comp [("_law_weight", 6), ("_law_literal", 7)] rfl S.nd (zi_seq (ze_var 3)) (by kernel_rfl) (fun _ _ _ _ _ => (zg_tup rfl (zgs_cons (zg_nm 6 S.nd) (zgs_cons (zg_nm 7 S.nd) zgs_nil)))) (fun _ _ _ _ _ => (zts_one (p_eq hr (q_abs B (ze_var 7)) (ze_var 8)))) (fun _ _ _ _ _ => (ze_var 6))))) (zb_one (zs_ret (ze_tup (za_cons (q_tuple B (ze_comp [("_law_pair", 10)] rfl S.nd (zi_seq (ze_var 3)) (by kernel_rfl) (fun _ _ _ _ _ => (zg_nm 10 S.nd)) (fun _ _ _ _ _ => (zts_one (p_ne hr (q_abs B (q_ix (ze_var 10) ze_int)) (ze_var 8)))) (fun _ _ _ _ _ => (ze_var 10)))) (za_cons (q_max2 rfl B ze_int (q_sub (ze_var 4) (ze_var 9))) za_nil)))))))))))))
def t__law_stack (K : PySem.W.Frag) (c_WitnessError : Addr) (c_BadLiterals : Addr) (c_BadMany : Addr) (c_BadRow : Addr) (P_law : Addr) (g__law_is_whole g__law_is_literal g__law_normal g__law_changed_row : SpZ) : TSZ := (zSeq (zIfS (zOr (zNot (zTst (zUn (rzIsi .tup) (zVar 3)))) (zOr (zTst (zBin rzEq (zVar 3) (zTup zaNil))) (zNot (zTst (zUn (rzIsi .str) (zBin rzIx (zVar 3) (zC (.int 0)))))))) (zRet (zC .non)) zNext) (zSeq (zIfS (zTst (zBin (rzIn false) (zBin rzIx (zVar 3) (zC (.int 0))) (zLst (zaCons (zC (.str "row")) (zaCons (zC (.str "literal")) zaNil))))) (zSeq (zIfS (zOr (zTst (zBin rzNe (zCall (rzLen K) (zaCons (zVar 3) zaNil)) (zC (.int 2)))) (zNot (zTst (zFn 1 g__law_is_whole (zaCons (zBin rzIx (zVar 3) (zC (.int 1))) zaNil))))) (zRet (zC .non)) zNext) (zSeq (zIfS (zTst (zBin rzEq (zBin rzIx (zVar 3) (zC (.int 0))) (zC (.str "row")))) (zRet (zIf (zTst (zBin (rzDIn false) (zBin rzIx (zVar 3) (zC (.int 1))) (zVar 1))) (zBin rzAdd (zVar 2) (zLst (zaCons (zBin rzDGet (zVar 1) (zBin rzIx (zVar 3) (zC (.int 1)))) zaNil))) (zC .non))) zNext) (zRet (zIf (zTst (zFn 2 g__law_is_literal (zaCons (zVar 0) (zaCons (zBin rzIx (zVar 3) (zC (.int 1))) zaNil)))) (zBin rzAdd (zVar 2) (zLst (zaCons (zTup (zaCons (zTup (zaCons (zTup (zaCons (zC (.int 1)) (zaCons (zBin rzIx (zVar 3) (zC (.int 1))) zaNil))) zaNil)) (zaCons (zC (.int 0)) zaNil))) zaNil))) (zC .non))))) zNext) (zSeq (zIfS (zTst (zBin rzEq (zVar 3) (zTup (zaCons (zC (.str "sum")) zaNil)))) (zSeq (zIfS (zTst (zBin rzLt (zCall (rzLen K) (zaCons (zVar 2) zaNil)) (zC (.int 2)))) (zRet (zC .non)) zNext) (zSeq (zSet 4 (zFn 2 g__law_normal (zaCons (zBin rzAdd (zBin rzIx (zBin rzIx (zVar 2) (zUn rzNeg (zC (.int 2)))) (zC (.int 0))) (zBin rzIx (zBin rzIx (zVar 2) (zUn rzNeg (zC (.int 1)))) (zC (.int 0)))) (zaCons (zBin rzAdd (zBin rzIx (zBin rzIx (zVar 2) (zUn rzNeg (zC (.int 2)))) (zC (.int 1))) (zBin rzIx (zBin rzIx (zVar 2) (zUn rzNeg (zC (.int 1)))) (zC (.int 1)))) zaNil)))) (zSet 5 (zSl (zVar 2) zoNone (zoSome (zUn rzNeg (zC (.int 2)))))))) (zAsg (.tup [(.nm 4), (.nm 5)]) (zIf (zTst (zBin rzNe (zVar 2) (zLst zaNil))) (zTup (zaCons (zFn 3 g__law_changed_row (zaCons (zVar 0) (zaCons (zBin rzIx (zVar 2) (zUn rzNeg (zC (.int 1)))) (zaCons (zVar 3) zaNil)))) (zaCons (zSl (zVar 2) zoNone (zoSome (zUn rzNeg (zC (.int 1))))) zaNil))) (zTup (zaCons (zC .non) (zaCons (zLst zaNil) zaNil)))))) (zSeq (zIfS (zOr (zTst (zBin rzIsN (zVar 4) (zC .non))) (zTst (zBin rzGe (zCall rzMaxL (zaCons (zBin rzAdd (zLst (zaCons (zBin rzIx (zVar 4) (zC (.int 1))) zaNil)) (zComp (iSeq K (zBin rzIx (zVar 4) (zC (.int 0)))) (.tup [(.nm 6), (.nm 7)]) [6, 7] zYes (zVar 6))) zaNil)) (zBin rzPow (zC (.int 10)) (zC (.int 40)))))) (zRet (zC .non)) zNext) (zRet (zBin rzAdd (zVar 5) (zLst (zaCons (zVar 4) zaNil))))))))
theorem w__law_stack {P : Program} {w : World} {K : PySem.W.Frag} {mg : Str → Option Value} {base : Heap} {f : Addr} {fd : FuncData} {c_WitnessError : Addr} {c_BadLiterals : Addr} {c_BadMany : Addr} {c_BadRow : Addr} {P_law : Addr} (F : Fun K "_law_stack" "_law_stack" (top 43) f fd) (hm : mg "_law_stack" = some (.ref f)) (B : Bs mg) {g__law_is_whole g__law_is_literal g__law_normal g__law_changed_row : SpZ} (F__law_is_whole : Fz P w K mg base 1 "_law_is_whole" 1 g__law_is_whole) (F__law_is_literal : Fz P w K mg base 3 "_law_is_literal" 2 g__law_is_literal) (F__law_normal : Fz P w K mg base 1 "_law_normal" 2 g__law_normal) (F__law_changed_row : Fz P w K mg base 2 "_law_changed_row" 3 g__law_changed_row) {g : SpZ}
    (hread : ∀ ds M Q, ds.length = 4 → g ds M Q → t__law_stack K c_WitnessError c_BadLiterals c_BadMany c_BadRow P_law g__law_is_whole g__law_is_literal g__law_normal g__law_changed_row { nx := fun _ M' => Post Q .non M', rt := Post Q } (startZ 8 ds) M) : Fz P w K mg base 4 "_law_stack" 4 g := by
  have S : FnScope ["_law_many", "_law_named", "_law_stack_here", "_law_step", "_law_made", "_law_left", "_law_weight", "_law_literal"] ["_law_many", "_law_named", "_law_stack_here", "_law_step"] (defScope (top 43)) := ⟨rfl, rfl, rfl, by decide +kernel, rfl, by decide +kernel, by decide +kernel⟩
  refine fz_plain (T := t__law_stack K c_WitnessError c_BadLiterals c_BadMany c_BadRow P_law g__law_is_whole g__law_is_literal g__law_normal g__law_changed_row) F S hm (fun _ _ _ _ _ _ us hl => match us, hl with | [_, _, _, _], _ => rfl) rfl (fun cdv A outer s H E hcd hrG => ?_) hread
  have hr := hrG.r
  exact (zb_cons (zs_if (zw_pt (zw_or (zp_not (zp_val (q_isTuple B (ze_var 3)))) (zw_or (p_eq hr (ze_var 3) (ze_tup za_nil)) (zw_or1 (zp_not (zp_val (q_isStr B (q_ix (ze_var 3) ze_int)))))))) (zb_one (zs_ret ze_non)) zb_nil) (zb_cons (zs_if (p_in (q_ix (ze_var 3) ze_int) (ze_lst (za_cons ze_str (za_cons ze_str za_nil)))) (zb_cons (zs_if (zw_pt (zw_or (p_ne hr (q_len B (ze_var 3)) ze_int) (zw_or1 (zp_not (zp_val (q_call F__law_is_whole hrG (za_cons (q_ix (ze_var 3) ze_int) za_nil))))))) (zb_one (zs_ret ze_non)) zb_nil) (zb_cons (zs_if (p_eq hr (q_ix (ze_var 3) ze_int) ze_str) (zb_one (zs_ret (ze_if (p_din hr (q_ix (ze_var 3) ze_int) (ze_var 1)) (q_add (ze_var 2) (ze_lst (za_cons (ze_dget hr (ze_var 1) (q_ix (ze_var 3) ze_int)) za_nil))) ze_non))) zb_nil) (zb_one (zs_ret (ze_if (zp_val (q_call F__law_is_literal hrG (za_cons (ze_var 0) (za_cons (q_ix (ze_var 3) ze_int) za_nil)))) (q_add (ze_var 2) (ze_lst (za_cons (ze_tup (za_cons (ze_tup (za_cons (ze_tup (za_cons ze_int (za_cons (q_ix (ze_var 3) ze_int) za_nil))) za_nil)) (za_cons ze_int za_nil))) za_nil))) ze_non))))) zb_nil) (zb_cons (zs_if (p_eq hr (ze_var 3) (ze_tup (za_cons ze_str za_nil))) (zb_cons (zs_if (p_lt (q_len B (ze_var 2)) ze_int) (zb_one (zs_ret ze_non)) zb_nil) (zb_cons (zs_set 4 S.nd (q_call F__law_normal hrG (za_cons (q_add (q_ix (q_ix (ze_var 2) (q_neg ze_int)) ze_int) (q_ix (q_ix (ze_var 2) (q_neg ze_int)) ze_int)) (za_cons (q_add (q_ix (q_ix (ze_var 2) (q_neg ze_int)) ze_int) (q_ix (q_ix (ze_var 2) (q_neg ze_int)) ze_int)) za_nil)))) (zb_one (zs_set 5 S.nd (ze_sl (ze_var 2) zo_none (zo_some (q_neg ze_int))))))) (zb_one (zs_asg (ze_if (p_ne hr (ze_var 2) (ze_lst za_nil)) (ze_tup (za_cons (q_call F__law_changed_row hrG (za_cons (ze_var 0) (za_cons (q_ix (ze_var 2) (q_neg ze_int)) (za_cons (ze_var 3) za_nil)))) (za_cons (ze_sl (ze_var 2) zo_none (zo_some (q_neg ze_int))) za_nil))) (ze_tup (za_cons ze_non (za_cons (ze_lst za_nil) za_nil)))) (zg_tup rfl (zgs_cons (zg_nm 4 S.nd) (zgs_cons (zg_nm 5 S.nd) zgs_nil)))))) (zb_cons (zs_if (zw_pt (zw_or (p_isN (ze_var 4) ze_non) (zw_or1 (p_ge (q_maxL rfl B (q_add (ze_lst (za_cons (q_ix (ze_var 4) ze_int) za_nil)) (ze_comp [("_law_weight", 6), ("_law_literal", 7)] rfl S.nd (zi_seq (q_ix (ze_var 4) ze_int)) (by kernel_rfl) (fun _ _ _ _ _ => (zg_tup rfl (zgs_cons (zg_nm 6 S.nd) (zgs_cons (zg_nm 7 S.nd) zgs_nil)))) (fun _ _ _ _ _ => zts_nil) (fun _ _ _ _ _ => (ze_var 6))))) (q_pow ze_int ze_int))))) (zb_one (zs_ret ze_non)) zb_nil) (zb_one (zs_ret (q_add (ze_var 5) (ze_lst (za_cons (ze_var 4) za_nil)))))))))
def t__law_end (K : PySem.W.Frag) (c_WitnessError : Addr) (c_BadLiterals : Addr) (c_BadMany : Addr) (c_BadRow : Addr) (P_law : Addr) (g__law_stack : SpZ) : TSZ := (zSeq (zIfS (zAnd (zNot (zTst (zUn (rzIsi .lst) (zVar 2)))) (zNot (zTst (zUn (rzIsi .tup) (zVar 2))))) (zRet (zC .non)) zNext) (zSeq (zSet 3 (zLst zaNil)) (zSeq (zFor (iSeq K (zVar 2)) (.nm 4) (zSeq (zSet 3 (zFn 4 g__law_stack (zaCons (zVar 0) (zaCons (zVar 1) (zaCons (zVar 3) (zaCons (zVar 4) zaNil)))))) (zIfS (zTst (zBin rzIsN (zVar 3) (zC .non))) (zRet (zC .non)) zNext))) (zRet (zIf (zTst (zBin rzEq (zCall (rzLen K) (zaCons (zVar 3) zaNil)) (zC (.int 1)))) (zBin rzIx (zVar 3) (zC (.int 0))) (zC .non))))))
theorem w__law_end {P : Program} {w : World} {K : PySem.W.Frag} {mg : Str → Option Value} {base : Heap} {f : Addr} {fd : FuncData} {c_WitnessError : Addr} {c_BadLiterals : Addr} {c_BadMany : Addr} {c_BadRow : Addr} {P_law : Addr} (F : Fun K "_law_end" "_law_end" (top 44) f fd) (hm : mg "_law_end" = some (.ref f)) (B : Bs mg) {g__law_stack : SpZ} (F__law_stack : Fz P w K mg base 4 "_law_stack" 4 g__law_stack) {g : SpZ}
    (hread : ∀ ds M Q, ds.length = 3 → g ds M Q → t__law_end K c_WitnessError c_BadLiterals c_BadMany c_BadRow P_law g__law_stack { nx := fun _ M' => Post Q .non M', rt := Post Q } (startZ 5 ds) M) : Fz P w K mg base 5 "_law_end" 3 g := by
  have S : FnScope ["_law_many", "_law_named", "_law_item", "_law_stack_here", "_law_step"] ["_law_many", "_law_named", "_law_item"] (defScope (top 44)) := ⟨rfl, rfl, rfl, by decide +kernel, rfl, by decide +kernel, by decide +kernel⟩
  refine fz_plain (T := t__law_end K c_WitnessError c_BadLiterals c_BadMany c_BadRow P_law g__law_stack) F S hm (fun _ _ _ _ _ _ us hl => match us, hl with | [_, _, _], _ => rfl) rfl (fun cdv A outer s H E hcd hrG => ?_) hread
  have hr := hrG.r
  exact (zb_cons (zs_if (zw_pt (zw_and (zp_not (zp_val (q_isList B (ze_var 2)))) (zw_and1 (zp_not (zp_val (q_isTuple B (ze_var 2))))))) (zb_one (zs_ret ze_non)) zb_nil) (zb_cons (zs_set 3 S.nd (ze_lst za_nil)) (zb_cons (zs_for PassesOwn.never rfl (zi_seq (ze_var 2)) (zg_nm 4 S.nd) (zb_cons (zs_set 3 S.nd (q_call F__law_stack hrG (za_cons (ze_var 0) (za_cons (ze_var 1) (za_cons (ze_var 3) (za_cons (ze_var 4) za_nil)))))) (zb_one (zs_if (p_isN (ze_var 3) ze_non) (zb_one (zs_ret ze_non)) zb_nil)))) (zb_one (zs_ret (ze_if (p_eq hr (q_len B (ze_var 3)) ze_int) (q_ix (ze_var 3) ze_int) ze_non))))))
def t__law_some_literals (K : PySem.W.Frag) (c_WitnessError : Addr) (c_BadLiterals : Addr) (c_BadMany : Addr) (c_BadRow : Addr) (P_law : Addr) (g__law_draw g__law_mixed : SpZ) : TSZ := (zSeq (zSet 2 (zSl (zFn 2 g__law_mixed (zaCons (zVar 0) (zaCons (zLRg (zRg2 (zC (.int 1)) (zBin rzAdd (zVar 1) (zC (.int 1))))) zaNil))) zoNone (zoSome (zFn 2 g__law_draw (zaCons (zVar 0) (zaCons (zBin rzAdd (zVar 1) (zC (.int 1))) zaNil)))))) (zRet (zComp (iSeq K (zVar 2)) (.nm 3) [3] zYes (zIf (zTst (zBin rzEq (zFn 2 g__law_draw (zaCons (zVar 0) (zaCons (zC (.int 2)) zaNil))) (zC (.int 0)))) (zVar 3) (zBin rzSub (zC (.int 0)) (zVar 3))))))
theorem w__law_some_literals {P : Program} {w : World} {K : PySem.W.Frag} {mg : Str → Option Value} {base : Heap} {f : Addr} {fd : FuncData} {c_WitnessError : Addr} {c_BadLiterals : Addr} {c_BadMany : Addr} {c_BadRow : Addr} {P_law : Addr} (F : Fun K "_law_some_literals" "_law_some_literals" (top 45) f fd) (hm : mg "_law_some_literals" = some (.ref f)) (B : Bs mg) {g__law_draw g__law_mixed : SpZ} (F__law_draw : Fz P w K mg base 1 "_law_draw" 2 g__law_draw) (F__law_mixed : Fz P w K mg base 2 "_law_mixed" 2 g__law_mixed) {g : SpZ}
    (hread : ∀ ds M Q, ds.length = 2 → g ds M Q → t__law_some_literals K c_WitnessError c_BadLiterals c_BadMany c_BadRow P_law g__law_draw g__law_mixed { nx := fun _ M' => Post Q .non M', rt := Post Q } (startZ 4 ds) M) : Fz P w K mg base 3 "_law_some_literals" 2 g := by
  have S : FnScope ["_law_state", "_law_many", "_law_line", "_law_variable"] ["_law_state", "_law_many"] (defScope (top 45)) := ⟨rfl, rfl, rfl, by decide +kernel, rfl, by decide +kernel, by decide +kernel⟩
  refine fz_plain (T := t__law_some_literals K c_WitnessError c_BadLiterals c_BadMany c_BadRow P_law g__law_draw g__law_mixed) F S hm (fun _ _ _ _ _ _ us hl => match us, hl with | [_, _], _ => rfl) rfl (fun cdv A outer s H E hcd hrG => ?_) hread
  have hr := hrG.r
  exact (zb_cons (zs_set 2 S.nd (ze_sl (q_call F__law_mixed hrG (za_cons (ze_var 0) (za_cons (ze_lrg rfl rfl B.list (zr_2 rfl B.range ze_int (q_add (ze_var 1) ze_int))) za_nil))) zo_none (zo_some (q_call F__law_draw hrG (za_cons (ze_var 0) (za_cons (q_add (ze_var 1) ze_int) za_nil)))))) (zb_one (zs_ret (ze_comp [("_law_variable", 3)] rfl S.nd (zi_seq (ze_var 2)) (by kernel_rfl) (fun _ _ _ _ _ => (zg_nm 3 S.nd)) (fun _ _ _ _ _ => zts_nil) (fun _ _ _ _ _ => (ze_if (p_eq hr (q_call F__law_draw hrG (za_cons (ze_var 0) (za_cons ze_int za_nil))) ze_int) (ze_var 3) (q_sub ze_int (ze_var 3))))))))
def t__law_large (K : PySem.W.Frag) (c_WitnessError : Addr) (c_BadLiterals : Addr) (c_BadMany : Addr) (c_BadRow : Addr) (P_law : Addr) (g__law_draw : SpZ) : TSZ := (zSeq (zIfS (zTst (zBin rzGt (zFn 2 g__law_draw (zaCons (zVar 0) (zaCons (zC (.int 4)) zaNil))) (zC (.int 0)))) (zRet (zVar 1)) zNext) (zSeq (zSet 2 (zBin rzAdd (zBin rzPow (zC (.int 10)) (zC (.int 24))) (zFn 2 g__law_draw (zaCons (zVar 0) (zaCons (zC (.int 1000)) zaNil))))) (zRet (zTup (zaCons (zCall rzTuple (zaCons (zComp (iSeq K (zBin rzIx (zVar 1) (zC (.int 0)))) (.tup [(.nm 3), (.nm 4)]) [3, 4] zYes (zTup (zaCons (zBin rzMul (zVar 3) (zVar 2)) (zaCons (zVar 4) zaNil)))) zaNil)) (zaCons (zBin rzMul (zBin rzIx (zVar 1) (zC (.int 1))) (zVar 2)) zaNil))))))
theorem w__law_large {P : Program} {w : World} {K : PySem.W.Frag} {mg : Str → Option Value} {base : Heap} {f : Addr} {fd : FuncData} {c_WitnessError : Addr} {c_BadLiterals : Addr} {c_BadMany : Addr} {c_BadRow : Addr} {P_law : Addr} (F : Fun K "_law_large" "_law_large" (top 46) f fd) (hm : mg "_law_large" = some (.ref f)) (B : Bs mg) {g__law_draw : SpZ} (F__law_draw : Fz P w K mg base 1 "_law_draw" 2 g__law_draw) {g : SpZ}
    (hread : ∀ ds M Q, ds.length = 2 → g ds M Q → t__law_large K c_WitnessError c_BadLiterals c_BadMany c_BadRow P_law g__law_draw { nx := fun _ M' => Post Q .non M', rt := Post Q } (startZ 5 ds) M) : Fz P w K mg base 2 "_law_large" 2 g := by
  have S : FnScope ["_law_state", "_law_row_here", "_law_number", "_law_weight", "_law_literal"] ["_law_state", "_law_row_here"] (defScope (top 46)) := ⟨rfl, rfl, rfl, by decide +kernel, rfl, by decide +kernel, by decide +kernel⟩
  refine fz_plain (T := t__law_large K c_WitnessError c_BadLiterals c_BadMany c_BadRow P_law g__law_draw) F S hm (fun _ _ _ _ _ _ us hl => match us, hl with | [_, _], _ => rfl) rfl (fun cdv A outer s H E hcd hrG => ?_) hread
  have hr := hrG.r
  exact (zb_cons (zs_if (p_gt (q_call F__law_draw hrG (za_cons (ze_var 0) (za_cons ze_int za_nil))) ze_int) (zb_one (zs_ret (ze_var 1))) zb_nil) (zb_cons (zs_set 2 S.nd (q_add (q_pow ze_int ze_int) (q_call F__law_draw hrG (za_cons (ze_var 0) (za_cons ze_int za_nil))))) (zb_one (zs_ret (ze_tup (za_cons (q_tuple B (ze_comp [("_law_weight", 3), ("_law_literal", 4)] rfl S.nd (zi_seq (q_ix (ze_var 1) ze_int)) (by kernel_rfl) (fun _ _ _ _ _ => (zg_tup rfl (zgs_cons (zg_nm 3 S.nd) (zgs_cons (zg_nm 4 S.nd) zgs_nil)))) (fun _ _ _ _ _ => zts_nil) (fun _ _ _ _ _ => (ze_tup (za_cons (q_mul (ze_var 3) (ze_var 2)) (za_cons (ze_var 4) za_nil)))))) (za_cons (q_mul (q_ix (ze_var 1) ze_int) (ze_var 2)) za_nil)))))))
def t__law_due (K : PySem.W.Frag) (c_WitnessError : Addr) (c_BadLiterals : Addr) (c_BadMany : Addr) (c_BadRow : Addr) (P_law : Addr) : TSZ := (zSeq (zSet 2 (zComp (iSeq K (zBin rzIx (zVar 0) (zC (.int 0)))) (.tup [(.nm 3), (.nm 4)]) [3, 4] (zTst (zBin (rzIn true) (zBin rzSub (zC (.int 0)) (zVar 4)) (zVar 1))) (zVar 4))) (zSeq (zSet 5 (zBin rzSub (zBin rzIx (zVar 0) (zC (.int 1))) (zCall (rzInts fun ns => .int ns.sum) (zaCons (zComp (iSeq K (zBin rzIx (zVar 0) (zC (.int 0)))) (.tup [(.nm 3), (.nm 4)]) [3, 4] (zTst (zBin (rzIn true) (zBin rzSub (zC (.int 0)) (zVar 4)) (zVar 1))) (zVar 3)) zaNil)))) (zSeq (zIfS (zTst (zBin rzLe (zVar 5) (zC (.int 0)))) (zRet (zC .non)) zNext) (zSeq (zSet 6 (zBin rzAdd (zBin rzAdd (zLst (zaCons (zTup (zaCons (zC (.str "row")) (zaCons (zC (.int 0)) zaNil))) zaNil)) (zComp (iSeq K (zVar 2)) (.nm 4) [4] zYes (zTup (zaCons (zC (.str "weakened")) (zaCons (zCall (rzInt1 fun i => .int (if i < 0 then -i else i)) (zaCons (zVar 4) zaNil)) zaNil))))) (zLst (zaCons (zTup (zaCons (zC (.str "capped")) zaNil)) (zaCons (zTup (zaCons (zC (.str "divided")) (zaCons (zVar 5) zaNil))) zaNil))))) (zRet (zTup (zaCons (zVar 6) (zaCons (zTup (zaCons (zCall rzTuple (zaCons (zComp (iSeq K (zBin rzIx (zVar 0) (zC (.int 0)))) (.tup [(.nm 3), (.nm 4)]) [3, 4] (zTst (zBin (rzIn false) (zBin rzSub (zC (.int 0)) (zVar 4)) (zVar 1))) (zTup (zaCons (zC (.int 1)) (zaCons (zVar 4) zaNil)))) zaNil)) (zaCons (zC (.int 1)) zaNil))) zaNil))))))))
theorem w__law_due {P : Program} {w : World} {K : PySem.W.Frag} {mg : Str → Option Value} {base : Heap} {f : Addr} {fd : FuncData} {c_WitnessError : Addr} {c_BadLiterals : Addr} {c_BadMany : Addr} {c_BadRow : Addr} {P_law : Addr} (F : Fun K "_law_due" "_law_due" (top 47) f fd) (hm : mg "_law_due" = some (.ref f)) (B : Bs mg) {g : SpZ}
    (hread : ∀ ds M Q, ds.length = 2 → g ds M Q → t__law_due K c_WitnessError c_BadLiterals c_BadMany c_BadRow P_law { nx := fun _ M' => Post Q .non M', rt := Post Q } (startZ 7 ds) M) : Fz P w K mg base 1 "_law_due" 2 g := by
  have S : FnScope ["_law_row_here", "_law_literals", "_law_spare", "_law_weight", "_law_literal", "_law_left", "_law_steps"] ["_law_row_here", "_law_literals"] (defScope (top 47)) := ⟨rfl, rfl, rfl, by decide +kernel, rfl, by decide +kernel, by decide +kernel⟩
  refine fz_plain (T := t__law_due K c_WitnessError c_BadLiterals c_BadMany c_BadRow P_law) F S hm (fun _ _ _ _ _ _ us hl => match us, hl with | [_, _], _ => rfl) rfl (fun cdv A outer s H E hcd hrG => ?_) hread
  have hr := hrG.r
  exact (zb_cons (zs_setComp 2 [("_law_weight", 3), ("_law_literal", 4)] rfl S.nd (zi_seq (q_ix (ze_var 0) ze_int)) (by kernel_rfl) (fun _ _ _ _ _ => (zg_tup rfl (zgs_cons (zg_nm 3 S.nd) (zgs_cons (zg_nm 4 S.nd) zgs_nil)))) (fun _ _ _ _ _ => (zts_one (p_notIn (q_sub ze_int (ze_var 4)) (ze_var 1)))) (fun _ _ _ _ _ => (ze_var 4))) (zb_cons (zs_set 5 S.nd (q_sub (q_ix (ze_var 0) ze_int) (q_sum rfl B (ze_comp [("_law_weight", 3), ("_law_literal", 4)] rfl S.nd (zi_seq (q_ix (ze_var 0) ze_int)) (by kernel_rfl) (fun _ _ _ _ _ => (zg_tup rfl (zgs_cons (zg_nm 3 S.nd) (zgs_cons (zg_nm 4 S.nd) zgs_nil)))) (fun _ _ _ _ _ => (zts_one (p_notIn (q_sub ze_int (ze_var 4)) (ze_var 1)))) (fun _ _ _ _ _ => (ze_var 3)))))) (zb_cons (zs_if (p_le (ze_var 5) ze_int) (zb_one (zs_ret ze_non)) zb_nil) (zb_cons (zs_set 6 S.nd (q_add (q_add (ze_lst (za_cons (ze_tup (za_cons ze_str (za_cons ze_int za_nil))) za_nil)) (ze_comp [("_law_literal", 4)] rfl S.nd (zi_seq (ze_var 2)) (by kernel_rfl) (fun _ _ _ _ _ => (zg_nm 4 S.nd)) (fun _ _ _ _ _ => zts_nil) (fun _ _ _ _ _ => (ze_tup (za_cons ze_str (za_cons (q_abs B (ze_var 4)) za_nil)))))) (ze_lst (za_cons (ze_tup (za_cons ze_str za_nil)) (za_cons (ze_tup (za_cons ze_str (za_cons (ze_var 5) za_nil))) za_nil))))) (zb_one (zs_ret (ze_tup (za_cons (ze_var 6) (za_cons (ze_tup (za_cons (q_tuple B (ze_comp [("_law_weight", 3), ("_law_literal", 4)] rfl S.nd (zi_seq (q_ix (ze_var 0) ze_int)) (by kernel_rfl) (fun _ _ _ _ _ => (zg_tup rfl (zgs_cons (zg_nm 3 S.nd) (zgs_cons (zg_nm 4 S.nd) zgs_nil)))) (fun _ _ _ _ _ => (zts_one (p_in (q_sub ze_int (ze_var 4)) (ze_var 1)))) (fun _ _ _ _ _ => (ze_tup (za_cons ze_int (za_cons (ze_var 4) za_nil)))))) (za_cons ze_int za_nil))) za_nil)))))))))
def t__law_bad_literals (K : PySem.W.Frag) (c_WitnessError : Addr) (c_BadLiterals : Addr) (c_BadMany : Addr) (c_BadRow : Addr) (P_law : Addr) (g__law_pick : SpZ) : TSZ := (zRet (zFn 2 g__law_pick (zaCons (zVar 0) (zaCons (zLst (zaCons (zC .non) (zaCons (zC (.int 5)) (zaCons (zC (.str "1")) (zaCons (zDispF [((zC (.int 1)), (zC (.int 1)))]) (zaCons (zLst (zaCons (zC (.int 0)) zaNil)) (zaCons (zLst (zaCons (zBin rzAdd (zVar 1) (zC (.int 1))) zaNil)) (zaCons (zLst (zaCons (zBin rzSub (zBin rzSub (zC (.int 0)) (zVar 1)) (zC (.int 1))) zaNil)) (zaCons (zLst (zaCons (zC (.bl true)) zaNil)) (zaCons (zLst (zaCons (zC (.int 1)) (zaCons (zC (.int 1)) zaNil))) (zaCons (zTup (zaCons (zC (.int 1)) (zaCons (zBin rzSub (zC (.int 0)) (zC (.int 1))) zaNil))) (zaCons (zLst (zaCons (zC .non) zaNil)) (zaCons (zLst (zaCons (zLst (zaCons (zC (.int 1)) zaNil)) zaNil)) (zaCons (zLst (zaCons (zC (.int 1)) (zaCons (zC (.str "2")) zaNil))) (zaCons (zLst (zaCons (zC (.str "yes")) zaNil)) zaNil))))))))))))))) zaNil))))
theorem w__law_bad_literals {P : Program} {w : World} {K : PySem.W.Frag} {mg : Str → Option Value} {base : Heap} {f : Addr} {fd : FuncData} {c_WitnessError : Addr} {c_BadLiterals : Addr} {c_BadMany : Addr} {c_BadRow : Addr} {P_law : Addr} (F : Fun K "_law_bad_literals" "_law_bad_literals" (top 48) f fd) (hm : mg "_law_bad_literals" = some (.ref f)) (B : Bs mg) {g__law_pick : SpZ} (F__law_pick : Fz P w K mg base 2 "_law_pick" 2 g__law_pick) {g : SpZ}
    (hread : ∀ ds M Q, ds.length = 2 → g ds M Q → t__law_bad_literals K c_WitnessError c_BadLiterals c_BadMany c_BadRow P_law g__law_pick { nx := fun _ M' => Post Q .non M', rt := Post Q } (startZ 2 ds) M) : Fz P w K mg base 3 "_law_bad_literals" 2 g := by
  have S : FnScope ["_law_state", "_law_many"] ["_law_state", "_law_many"] (defScope (top 48)) := ⟨rfl, rfl, rfl, by decide +kernel, rfl, by decide +kernel, by decide +kernel⟩
  refine fz_plain (T := t__law_bad_literals K c_WitnessError c_BadLiterals c_BadMany c_BadRow P_law g__law_pick) F S hm (fun _ _ _ _ _ _ us hl => match us, hl with | [_, _], _ => rfl) rfl (fun cdv A outer s H E hcd hrG => ?_) hread
  have hr := hrG.r
  exact (zb_one (zs_ret (q_call F__law_pick hrG (za_cons (ze_var 0) (za_cons (ze_lst (za_cons ze_non (za_cons ze_int (za_cons ze_str (za_cons (ze_dispF (zps_cons ze_int ze_int zps_nil)) (za_cons (ze_lst (za_cons ze_int za_nil)) (za_cons (ze_lst (za_cons (q_add (ze_var 1) ze_int) za_nil)) (za_cons (ze_lst (za_cons (q_sub (q_sub ze_int (ze_var 1)) ze_int) za_nil)) (za_cons (ze_lst (za_cons ze_bl za_nil)) (za_cons (ze_lst (za_cons ze_int (za_cons ze_int za_nil))) (za_cons (ze_tup (za_cons ze_int (za_cons (q_sub ze_int ze_int) za_nil))) (za_cons (ze_lst (za_cons ze_non za_nil)) (za_cons (ze_lst (za_cons (ze_lst (za_cons ze_int za_nil)) za_nil)) (za_cons (ze_lst (za_cons ze_int (za_cons ze_str za_nil))) (za_cons (ze_lst (za_cons ze_str za_nil)) za_nil))))))))))))))) za_nil)))))
def t_law (K : PySem.W.Frag) (c_WitnessError : Addr) (c_BadLiterals : Addr) (c_BadMany : Addr) (c_BadRow : Addr) (P_law : Addr) (g_clause_of g__law_begun g__law_draw g__law_fillings g__law_worth g__law_holds g__law_row g__law_bad_many g__law_bad_row g__law_end g__law_some_literals g__law_large g__law_due g__law_bad_literals : SpZ) : TSZ := (zSeq (zSet 1 (zFn 1 g__law_begun (zaCons (zVar 0) zaNil))) (zSeq (zFor (iRange1 (zBin rzAdd (zC (.int 6)) (zCall (rzInt2 fun i j => .int (if j < i then j else i)) (zaCons (zCall (rzLen K) (zaCons (zVar 0) zaNil)) (zaCons (zC (.int 8)) zaNil))))) (.nm 2) (zSeq (zSet 3 (zBin rzAdd (zC (.int 1)) (zFn 2 g__law_draw (zaCons (zVar 1) (zaCons (zC (.int 6)) zaNil))))) (zSeq (zAsg (.tup [(.nm 4), (.nm 5)]) (zTup (zaCons (zFn 2 g__law_large (zaCons (zVar 1) (zaCons (zFn 3 g__law_row (zaCons (zVar 1) (zaCons (zVar 3) (zaCons (zC (.int 6)) zaNil)))) zaNil))) (zaCons (zFn 2 g__law_some_literals (zaCons (zVar 1) (zaCons (zVar 3) zaNil))) zaNil)))) (zSeq (zPar [6, 7] (zaCons (zFn 2 g__law_due (zaCons (zVar 4) (zaCons (zVar 5) zaNil))) (zaCons (zFn 3 (pureOf g_clause_of) (zaCons (zVar 3) (zaCons (zVar 4) (zaCons (zVar 5) zaNil)))) zaNil))) (zSeq (zIfS (zTst (zBin rzIsN (zVar 6) (zC .non))) (zIfS (zTst (zBin rzNotN (zVar 7) (zC .non))) (zRet (zC (.bl false))) zNext) (zSeq (zIfS (zOr (zNot (zTst (zUn (rzIsi .tup) (zVar 7)))) (zOr (zTst (zBin rzNe (zCall (rzLen K) (zaCons (zVar 7) zaNil)) (zC (.int 2)))) (zOr (zNot (zTst (zUn (rzIsi .lst) (zBin rzIx (zVar 7) (zC (.int 0)))))) (zTst (zBin rzNe (zVar 7) (zVar 6)))))) (zRet (zC (.bl false))) zNext) (zSeq (zIfS (zTst (zBin rzNe (zFn 3 g__law_end (zaCons (zVar 3) (zaCons (zDispF [((zC (.int 0)), (zVar 4))]) (zaCons (zBin rzIx (zVar 7) (zC (.int 0))) zaNil)))) (zBin rzIx (zVar 7) (zC (.int 1))))) (zRet (zC (.bl false))) zNext) (zFor (iSeq K (zFn 1 g__law_fillings (zaCons (zVar 3) zaNil))) (.nm 8) (zSeq (zSet 9 (zBin rzEq (zComp (iSeq K (zVar 5)) (.nm 10) [10] (zTst (zBin rzEq (zFn 2 g__law_worth (zaCons (zVar 10) (zaCons (zVar 8) zaNil))) (zC (.int 0)))) (zC (.int 1))) (zLst zaNil))) (zIfS (zOr (zAnd (zTst (zFn 2 g__law_holds (zaCons (zVar 4) (zaCons (zVar 8) zaNil)))) (zOr (zTst (zVar 9)) (zNot (zTst (zFn 2 g__law_holds (zaCons (zBin rzIx (zVar 7) (zC (.int 1))) (zaCons (zVar 8) zaNil))))))) (zAnd (zTst (zVar 9)) (zTst (zFn 2 g__law_holds (zaCons (zBin rzIx (zVar 7) (zC (.int 1))) (zaCons (zVar 8) zaNil)))))) (zRet (zC (.bl false))) zNext)))))) (zSeq (zIfS (zTst (zBin rzNe (zFnK 0 [2, 1, 0] (pureOf g_clause_of) zaNil (zaCons (zCall rzTuple (zaCons (zVar 5) zaNil)) (zaCons (zVar 4) (zaCons (zVar 3) zaNil)))) (zVar 6))) (zRet (zC (.bl false))) zNext) (zSeq (zAsg (.tup [(.nm 11), (.nm 12), (.nm 13)]) (zTup (zaCons (zFn 1 g__law_bad_many (zaCons (zVar 1) zaNil)) (zaCons (zFn 2 g__law_bad_row (zaCons (zVar 1) (zaCons (zVar 3) zaNil))) (zaCons (zFn 2 g__law_bad_literals (zaCons (zVar 1) (zaCons (zVar 3) zaNil))) zaNil))))) (zSeq (zIfS (zNot (zTst (zUn (rzIsC K c_BadMany) (zCaught K c_WitnessError P_law (lq "law") (zFn 3 g_clause_of (zaCons (zVar 11) (zaCons (zVar 12) (zaCons (zC .non) zaNil)))))))) (zRet (zC (.bl false))) zNext) (zSeq (zIfS (zNot (zTst (zUn (rzIsC K c_BadRow) (zCaught K c_WitnessError P_law (lq "law") (zFn 3 g_clause_of (zaCons (zVar 3) (zaCons (zVar 12) (zaCons (zVar 13) zaNil)))))))) (zRet (zC (.bl false))) zNext) (zIfS (zNot (zTst (zUn (rzIsC K c_BadLiterals) (zCaught K c_WitnessError P_law (lq "law") (zFn 3 g_clause_of (zaCons (zVar 3) (zaCons (zVar 4) (zaCons (zVar 13) zaNil)))))))) (zRet (zC (.bl false))) zNext)))))))))) (zRet (zC (.bl true)))))
theorem w_law {P : Program} {w : World} {K : PySem.W.Frag} {mg : Str → Option Value} {base : Heap} {f : Addr} {fd : FuncData} {c_WitnessError : Addr} {c_BadLiterals : Addr} {c_BadMany : Addr} {c_BadRow : Addr} {P_law : Addr} (F : Fun K "law" "law" (top 49) f fd) (B : Bs mg) (m_BadLiterals : mg "BadLiterals" = some (.ref c_BadLiterals)) (m_BadMany : mg "BadMany" = some (.ref c_BadMany)) (m_BadRow : mg "BadRow" = some (.ref c_BadRow)) {co : Addr} (TB : TabB base mg co P_law) (hcL : fd.code = .ref co) (KB_clause_of_0 : KwB K mg "clause_of" 0 ["literals", "row", "many"] [2, 1, 0]) (C__law_caught : Catcher K mg "_law_caught" c_WitnessError) {g_clause_of g__law_begun g__law_draw g__law_fillings g__law_worth g__law_holds g__law_row g__law_bad_many g__law_bad_row g__law_end g__law_some_literals g__law_large g__law_due g__law_bad_literals : SpZ} (F_clause_of : Fx P w K mg base 6 "clause_of" 3 g_clause_of) (F__law_begun : Fz P w K mg base 1 "_law_begun" 1 g__law_begun) (F__law_draw : Fz P w K mg base 1 "_law_draw" 2 g__law_draw) (F__law_fillings : Fz P w K mg base 1 "_law_fillings" 1 g__law_fillings) (F__law_worth : Fz P w K mg base 1 "_law_worth" 2 g__law_worth) (F__law_holds : Fz P w K mg base 3 "_law_holds" 2 g__law_holds) (F__law_row : Fz P w K mg base 3 "_law_row" 3 g__law_row) (F__law_bad_many : Fz P w K mg base 3 "_law_bad_many" 1 g__law_bad_many) (F__law_bad_row : Fz P w K mg base 3 "_law_bad_row" 2 g__law_bad_row) (F__law_end : Fz P w K mg base 5 "_law_end" 3 g__law_end) (F__law_some_literals : Fz P w K mg base 3 "_law_some_literals" 2 g__law_some_literals) (F__law_large : Fz P w K mg base 2 "_law_large" 2 g__law_large) (F__law_due : Fz P w K mg base 1 "_law_due" 2 g__law_due) (F__law_bad_literals : Fz P w K mg base 3 "_law_bad_literals" 2 g__law_bad_literals) {g : SpZ}
    (hread : ∀ ds M Q, ds.length = 1 → g ds M Q → t_law K c_WitnessError c_BadLiterals c_BadMany c_BadRow P_law g_clause_of g__law_begun g__law_draw g__law_fillings g__law_worth g__law_holds g__law_row g__law_bad_many g__law_bad_row g__law_end g__law_some_literals g__law_large g__law_due g__law_bad_literals { nx := fun _ M' => Post Q .non M', rt := Post Q } (startZ 14 ds) M) : FnG P w K mg base CX0 9 f fd ["_law_script"] (liftSp 1 g) := by
  have S : FnScope ["_law_script", "_law_state", "_law_turn", "_law_many", "_law_row_here", "_law_literals", "_law_due_here", "_law_told", "_law_filling", "_law_given", "_law_literal", "_law_none_here", "_law_bad", "_law_wrong"] ["_law_script"] (defScope (top 49)) := ⟨rfl, rfl, rfl, by decide +kernel, rfl, by decide +kernel, by decide +kernel⟩
  refine fnz_plain (T := t_law K c_WitnessError c_BadLiterals c_BadMany c_BadRow P_law g_clause_of g__law_begun g__law_draw g__law_fillings g__law_worth g__law_holds g__law_row g__law_bad_many g__law_bad_row g__law_end g__law_some_literals g__law_large g__law_due g__law_bad_literals) F S rfl (fun cdv A outer s H E hcd hrG => ?_) hread
  have hr := hrG.r
  exact (zb_cons (zs_set 1 S.nd (q_call F__law_begun hrG (za_cons (ze_var 0) za_nil))) (zb_cons (zs_for PassesOwn.never rfl (zi_range1 rfl B.range (q_add ze_int (q_min2 rfl B (q_len B (ze_var 0)) ze_int))) (zg_nm 2 S.nd) (zb_cons (zs_set 3 S.nd (q_add ze_int (q_call F__law_draw hrG (za_cons (ze_var 1) (za_cons ze_int za_nil))))) (zb_cons (zs_asg (ze_tup (za_cons (q_call F__law_large hrG (za_cons (ze_var 1) (za_cons (q_call F__law_row hrG (za_cons (ze_var 1) (za_cons (ze_var 3) (za_cons ze_int za_nil)))) za_nil))) (za_cons (q_call F__law_some_literals hrG (za_cons (ze_var 1) (za_cons (ze_var 3) za_nil))) za_nil))) (zg_tup rfl (zgs_cons (zg_nm 4 S.nd) (zgs_cons (zg_nm 5 S.nd) zgs_nil)))) (zb_cons (zs_par2 6 7 rfl S.nd (za_cons (q_call F__law_due hrG (za_cons (ze_var 4) (za_cons (ze_var 5) za_nil))) (za_cons (q_callP F_clause_of hrG (za_cons (ze_var 3) (za_cons (ze_var 4) (za_cons (ze_var 5) za_nil)))) za_nil))) (zb_cons (zs_if (p_isN (ze_var 6) ze_non) (zb_one (zs_if (p_notN (ze_var 7) ze_non) (zb_one (zs_ret ze_bl)) zb_nil)) (zb_cons (zs_if (zw_pt (zw_or (zp_not (zp_val (q_isTuple B (ze_var 7)))) (zw_or (p_ne hr (q_len B (ze_var 7)) ze_int) (zw_or (zp_not (zp_val (q_isList B (q_ix (ze_var 7) ze_int)))) (zw_or1 (p_ne hr (ze_var 7) (ze_var 6))))))) (zb_one (zs_ret ze_bl)) zb_nil) (zb_cons (zs_if (p_ne hr (q_call F__law_end hrG (za_cons (ze_var 3) (za_cons (ze_dispF (zps_cons ze_int (ze_var 4) zps_nil)) (za_cons (q_ix (ze_var 7) ze_int) za_nil)))) (q_ix (ze_var 7) ze_int)) (zb_one (zs_ret ze_bl)) zb_nil) (zb_one (zs_for PassesOwn.never rfl (zi_seq (q_call F__law_fillings hrG (za_cons (ze_var 3) za_nil))) (zg_nm 8 S.nd) (zb_cons (zs_set 9 S.nd (q_eq hr (ze_comp [("_law_literal", 10)] rfl S.nd (zi_seq (ze_var 5)) (by kernel_rfl) (fun _ _ _ _ _ => (zg_nm 10 S.nd)) (fun _ _ _ _ _ => (zts_one (p_eq hr (q_call F__law_worth hrG (za_cons (ze_var 10) (za_cons (ze_var 8) za_nil))) ze_int))) (fun _ _ _ _ _ => ze_int)) (ze_lst za_nil))) (zb_one (zs_if (zw_pt (zw_or (zw_pt (zw_and (zp_val (q_call F__law_holds hrG (za_cons (ze_var 4) (za_cons (ze_var 8) za_nil)))) (zw_and1 (zw_pt (zw_or (zp_val (ze_var 9)) (zw_or1 (zp_not (zp_val (q_call F__law_holds hrG (za_cons (q_ix (ze_var 7) ze_int) (za_cons (ze_var 8) za_nil))))))))))) (zw_or1 (zw_pt (zw_and (zp_val (ze_var 9)) (zw_and1 (zp_val (q_call F__law_holds hrG (za_cons (q_ix (ze_var 7) ze_int) (za_cons (ze_var 8) za_nil)))))))))) (zb_one (zs_ret ze_bl)) zb_nil)))))))) (zb_cons (zs_if (p_ne hr (q_callPK0 F_clause_of KB_clause_of_0 hrG (zk_cons (q_tuple B (ze_var 5)) (zk_cons (ze_var 4) (zk_cons (ze_var 3) zk_nil)))) (ze_var 6)) (zb_one (zs_ret ze_bl)) zb_nil) (zb_cons (zs_asg (ze_tup (za_cons (q_call F__law_bad_many hrG (za_cons (ze_var 1) za_nil)) (za_cons (q_call F__law_bad_row hrG (za_cons (ze_var 1) (za_cons (ze_var 3) za_nil))) (za_cons (q_call F__law_bad_literals hrG (za_cons (ze_var 1) (za_cons (ze_var 3) za_nil))) za_nil)))) (zg_tup rfl (zgs_cons (zg_nm 11 S.nd) (zgs_cons (zg_nm 12 S.nd) (zgs_cons (zg_nm 13 S.nd) zgs_nil))))) (zb_cons (zs_if (zp_not (zp_val (ze_isC B m_BadMany (ze_caught C__law_caught hrG TB (hcd.symm.trans hcL) (lamS_by (by kernel_rfl)) rfl (fun A outer s H E f c' hrG tk => (have hr := hrG.r; (q_callX tk F_clause_of hrG (za_cons (ze_var 11) (za_cons (ze_var 12) (za_cons ze_non za_nil)))))))))) (zb_one (zs_ret ze_bl)) zb_nil) (zb_cons (zs_if (zp_not (zp_val (ze_isC B m_BadRow (ze_caught C__law_caught hrG TB (hcd.symm.trans hcL) (lamS_by (by kernel_rfl)) rfl (fun A outer s H E f c' hrG tk => (have hr := hrG.r; (q_callX tk F_clause_of hrG (za_cons (ze_var 3) (za_cons (ze_var 12) (za_cons (ze_var 13) za_nil)))))))))) (zb_one (zs_ret ze_bl)) zb_nil) (zb_one (zs_if (zp_not (zp_val (ze_isC B m_BadLiterals (ze_caught C__law_caught hrG TB (hcd.symm.trans hcL) (lamS_by (by kernel_rfl)) rfl (fun A outer s H E f c' hrG tk => (have hr := hrG.r; (q_callX tk F_clause_of hrG (za_cons (ze_var 3) (za_cons (ze_var 4) (za_cons (ze_var 13) za_nil)))))))))) (zb_one (zs_ret ze_bl)) zb_nil))))))))))) (zb_one (zs_ret ze_bl))))
end Zz

set_option Elab.async false
set_option linter.all false
set_option maxRecDepth 100000
set_option maxHeartbeats 1000000
namespace Zz
open PySem PySem.Spec PyProof.Rows L2

/-! ### data of the law -/
inductive Im where
  | yes | no | lit (i : Int)
deriving DecidableEq
def imD : Im → D
  | .yes => .str "yes"
  | .no => .str "no"
  | .lit i => .int i
abbrev Ts := List (Int × Int)
def prD (q : Int × Int) : D := .tup [.int q.1, .int q.2]
def tsD (ts : Ts) : List D := ts.map prD
abbrev Row := Ts × Int
def rowD (r : Row) : D := .tup [.tup (tsD r.1), .int r.2]
def witD (w : List Im) : D := .tup (w.map imD)
def filD (f : List Int) : D := .tup (f.map .int)
def LitOk (m l : Int) : Prop := -m ≤ l ∧ l ≤ m ∧ l ≠ 0
def TsOk (m : Int) (ts : Ts) : Prop := (∀ q, q ∈ ts → 1 ≤ q.1 ∧ LitOk m q.2) ∧ ts.Pairwise (fun a b => a.2.natAbs < b.2.natAbs)
def RowOk (m : Int) (r : Row) : Prop := TsOk m r.1 ∧ 0 ≤ r.2
def ImOk (m : Int) : Im → Prop
  | .lit l => LitOk m l
  | _ => True
def WitOk (m : Int) (w : List Im) : Prop := (w.length : Int) = m ∧ ∀ i, i ∈ w → ImOk m i
def FilOk (m : Int) (f : List Int) : Prop := (f.length : Int) = m ∧ ∀ x, x ∈ f → x = 0 ∨ x = 1
def MOk (m : Int) : Prop := 1 ≤ m ∧ m ≤ 600

/-! ### is_number, is_between, is_from, is_pair -/
def isNum : D → Bool
  | .int _ => true
  | _ => false
def g_is_number : SpZ := fun ds M Q => ∃ d k, ds = [d] ∧ kdOf M d = some k ∧ Q (.bl (isNum d)) M
theorem kd_int {M : MM} {d : D} {k : Kd} (h : kdOf M d = some k) : (isK k .int && !isK k .bl) = isNum d := by
  cases d <;> simp only [kdOf] at h <;> first | (cases h; done) | (obtain rfl := Option.some.inj h; rfl) | skip
  split at h <;> first | (cases h; done) | (obtain rfl := Option.some.inj h; rfl)
theorem r_is_number {K : PySem.W.Frag} {c_WitnessError : Addr} {c_BadLiterals : Addr} {c_BadMany : Addr} {c_BadRow : Addr} {P_law : Addr} (ds : List D) (M : MM) (Q : D → MM → Prop) (hl : ds.length = 1) (h : g_is_number ds M Q) : t_is_number K c_WitnessError c_BadLiterals c_BadMany c_BadRow P_law { nx := fun _ M' => Post Q .non M', rt := Post Q } (startZ 1 ds) M := by
  obtain ⟨d, k, rfl, hk, q⟩ := h
  have e := kd_int hk
  show t_is_number K c_WitnessError c_BadLiterals c_BadMany c_BadRow P_law _ [some d] M
  simp only [t_is_number, zRet, zRetN, zSeq, zIfS, zDrop, zSet, zNext, zBin, zUn, zCall, zC, zVar, zTst, zAndV, zOrV, zNotV, zAnd, zOr, zNot, zIf, zaNil, zaCons, zFn, rzI0, rzI, rzInt1, rzInt2, rzNeg, zYes, List.getElem?_cons_zero, List.getElem?_cons_succ, List.set_cons_zero, List.set_cons_succ, rzGt, rzLt, rzGe, rzLe, rzSub, rzMod, rzDiv, rzPow, if_true, if_false, Bool.false_eq_true, if_pos, rzIsi, hk]
  cases h1 : isK k .int with
  | true =>
    simp only [if_true]
    rw [h1, Bool.true_and] at e
    rw [e]; exact .self q
  | false =>
    simp only [Bool.false_eq_true, if_false]
    rw [h1, Bool.false_and] at e
    rw [e]; exact .self q
def isBet (lo hi : Int) : D → Bool
  | .int i => decide (lo ≤ i) && decide (i ≤ hi)
  | _ => false
def g_is_between : SpZ := fun ds M Q => ∃ d k lo hi, ds = [d, .int lo, .int hi] ∧ kdOf M d = some k ∧ Q (.bl (isBet lo hi d)) M
theorem r_is_between {K : PySem.W.Frag} {c_WitnessError : Addr} {c_BadLiterals : Addr} {c_BadMany : Addr} {c_BadRow : Addr} {P_law : Addr} (ds : List D) (M : MM) (Q : D → MM → Prop) (hl : ds.length = 3) (h : g_is_between ds M Q) : t_is_between K c_WitnessError c_BadLiterals c_BadMany c_BadRow P_law g_is_number { nx := fun _ M' => Post Q .non M', rt := Post Q } (startZ 3 ds) M := by
  obtain ⟨d, k, lo, hi, rfl, hk, q⟩ := h
  show t_is_between K c_WitnessError c_BadLiterals c_BadMany c_BadRow P_law _ _ [some d, some (.int lo), some (.int hi)] M
  simp only [t_is_between, zRet, zRetN, zSeq, zIfS, zDrop, zSet, zNext, zBin, zUn, zCall, zC, zVar, zTst, zAndV, zOrV, zNotV, zAnd, zOr, zNot, zIf, zaNil, zaCons, zFn, rzI0, rzI, rzInt1, rzInt2, rzNeg, zYes, List.getElem?_cons_zero, List.getElem?_cons_succ, List.set_cons_zero, List.set_cons_succ, rzGt, rzLt, rzGe, rzLe, rzSub, rzMod, rzDiv, rzPow, if_true, if_false, Bool.false_eq_true, if_pos]
  refine ⟨rfl, d, k, rfl, hk, ?_⟩
  cases d with
  | int i =>
    simp only [isNum, zChain, zRet, zRetN, zSeq, zIfS, zDrop, zSet, zNext, zBin, zUn, zCall, zC, zVar, zTst, zAndV, zOrV, zNotV, zAnd, zOr, zNot, zIf, zaNil, zaCons, zFn, rzI0, rzI, rzInt1, rzInt2, rzNeg, zYes, List.getElem?_cons_zero, List.getElem?_cons_succ, List.set_cons_zero, List.set_cons_succ, rzGt, rzLt, rzGe, rzLe, rzSub, rzMod, rzDiv, rzPow, if_true, if_false, Bool.false_eq_true, if_pos]
    simp only [isBet] at q
    by_cases h1 : lo ≤ i
    · simp only [h1, decide_true, if_true, Bool.true_and] at q ⊢; exact .self q
    · simp only [h1, decide_false, Bool.false_and, Bool.false_eq_true, if_false] at q ⊢; exact .self q
  | _ => simp only [isNum, Bool.false_eq_true, if_false]; exact .self q
def isFr (lo : Int) : D → Bool
  | .int i => decide (lo ≤ i)
  | _ => false
def g_is_from : SpZ := fun ds M Q => ∃ d k lo, ds = [d, .int lo] ∧ kdOf M d = some k ∧ Q (.bl (isFr lo d)) M
theorem r_is_from {K : PySem.W.Frag} {c_WitnessError : Addr} {c_BadLiterals : Addr} {c_BadMany : Addr} {c_BadRow : Addr} {P_law : Addr} (ds : List D) (M : MM) (Q : D → MM → Prop) (hl : ds.length = 2) (h : g_is_from ds M Q) : t_is_from K c_WitnessError c_BadLiterals c_BadMany c_BadRow P_law g_is_number { nx := fun _ M' => Post Q .non M', rt := Post Q } (startZ 2 ds) M := by
  obtain ⟨d, k, lo, rfl, hk, q⟩ := h
  show t_is_from K c_WitnessError c_BadLiterals c_BadMany c_BadRow P_law _ _ [some d, some (.int lo)] M
  simp only [t_is_from, zRet, zRetN, zSeq, zIfS, zDrop, zSet, zNext, zBin, zUn, zCall, zC, zVar, zTst, zAndV, zOrV, zNotV, zAnd, zOr, zNot, zIf, zaNil, zaCons, zFn, rzI0, rzI, rzInt1, rzInt2, rzNeg, zYes, List.getElem?_cons_zero, List.getElem?_cons_succ, List.set_cons_zero, List.set_cons_succ, rzGt, rzLt, rzGe, rzLe, rzSub, rzMod, rzDiv, rzPow, if_true, if_false, Bool.false_eq_true, if_pos]
  refine ⟨rfl, d, k, rfl, hk, ?_⟩
  cases d with
  | int i =>
    simp only [isNum, zRet, zRetN, zSeq, zIfS, zDrop, zSet, zNext, zBin, zUn, zCall, zC, zVar, zTst, zAndV, zOrV, zNotV, zAnd, zOr, zNot, zIf, zaNil, zaCons, zFn, rzI0, rzI, rzInt1, rzInt2, rzNeg, zYes, List.getElem?_cons_zero, List.getElem?_cons_succ, List.set_cons_zero, List.set_cons_succ, rzGt, rzLt, rzGe, rzLe, rzSub, rzMod, rzDiv, rzPow, if_true, if_false, Bool.false_eq_true, if_pos]
    exact .self q
  | _ => simp only [isNum, Bool.false_eq_true, if_false]; exact .self q
def isPr : D → Bool
  | .tup xs => decide (xs.length = 2)
  | _ => false
def g_is_pair : SpZ := fun ds M Q => ∃ d k, ds = [d] ∧ kdOf M d = some k ∧ Q (.bl (isPr d)) M
theorem deq_int (a b : Int) : deq (.int a) (.int b) = decide (a = b) := by
  show (a == b) = decide (a = b)
  rfl
theorem ok_int (n : Nat) (i : Int) : okD n (.int i) = true := by cases n <;> rfl
theorem r_is_pair {K : PySem.W.Frag} {c_WitnessError : Addr} {c_BadLiterals : Addr} {c_BadMany : Addr} {c_BadRow : Addr} {P_law : Addr} (ds : List D) (M : MM) (Q : D → MM → Prop) (hl : ds.length = 1) (h : g_is_pair ds M Q) : t_is_pair K c_WitnessError c_BadLiterals c_BadMany c_BadRow P_law { nx := fun _ M' => Post Q .non M', rt := Post Q } (startZ 1 ds) M := by
  obtain ⟨d, k, rfl, hk, q⟩ := h
  show t_is_pair K c_WitnessError c_BadLiterals c_BadMany c_BadRow P_law _ [some d] M
  simp only [t_is_pair, zRet, zRetN, zSeq, zIfS, zDrop, zSet, zNext, zBin, zUn, zCall, zC, zVar, zTst, zAndV, zOrV, zNotV, zAnd, zOr, zNot, zIf, zaNil, zaCons, zFn, rzI0, rzI, rzInt1, rzInt2, rzNeg, zYes, List.getElem?_cons_zero, List.getElem?_cons_succ, List.set_cons_zero, List.set_cons_succ, rzGt, rzLt, rzGe, rzLe, rzSub, rzMod, rzDiv, rzPow, if_true, if_false, Bool.false_eq_true, if_pos, rzIsi, hk]
  cases d with
  | tup xs =>
    obtain rfl : Kd.tup = k := Option.some.inj hk
    simp only [isK, zRet, zRetN, zSeq, zIfS, zDrop, zSet, zNext, zBin, zUn, zCall, zC, zVar, zTst, zAndV, zOrV, zNotV, zAnd, zOr, zNot, zIf, zaNil, zaCons, zFn, rzI0, rzI, rzInt1, rzInt2, rzNeg, zYes, List.getElem?_cons_zero, List.getElem?_cons_succ, List.set_cons_zero, List.set_cons_succ, rzGt, rzLt, rzGe, rzLe, rzSub, rzMod, rzDiv, rzPow, if_true, if_false, Bool.false_eq_true, if_pos, rzLen, lenOf, rzEq, view, ok_int, deq_int, true_and, decide_true]
    simp only [isPr] at q
    have e : decide ((xs.length : Int) = 2) = decide (xs.length = 2) := by congr 1; apply propext; omega
    rw [e]; exact .self q
  | ref a =>
    have e : isK k .tup = false := by
      simp only [kdOf] at hk
      split at hk <;> first | (cases hk; done) | (obtain rfl := Option.some.inj hk; rfl)
    simp only [e, Bool.false_eq_true, if_false]; exact .self q
  | _ =>
    simp only [kdOf] at hk
    first | (cases hk; done) | (obtain rfl := Option.some.inj hk; exact .self q)
def litR (m : Int) : D → Bool
  | .int l => decide (-m ≤ l) && decide (l ≤ m) && !decide (l = 0)
  | _ => false
def g_literal_right : SpZ := fun ds M Q => ∃ d k m, ds = [.int m, d] ∧ kdOf M d = some k ∧ Q (.bl (litR m d)) M
theorem litR_ok {m l : Int} (h : LitOk m l) : litR m (.int l) = true := by
  simp only [litR, h.1, h.2.1, h.2.2, decide_true, decide_false, Bool.and_self, Bool.not_false]
theorem r_literal_right {K : PySem.W.Frag} {c_WitnessError : Addr} {c_BadLiterals : Addr} {c_BadMany : Addr} {c_BadRow : Addr} {P_law : Addr} (ds : List D) (M : MM) (Q : D → MM → Prop) (hl : ds.length = 2) (h : g_literal_right ds M Q) : t_literal_right K c_WitnessError c_BadLiterals c_BadMany c_BadRow P_law g_is_between { nx := fun _ M' => Post Q .non M', rt := Post Q } (startZ 2 ds) M := by
  obtain ⟨d, k, m, rfl, hk, q⟩ := h
  show t_literal_right K c_WitnessError c_BadLiterals c_BadMany c_BadRow P_law _ _ [some (.int m), some d] M
  simp only [t_literal_right, zRet, zRetN, zSeq, zIfS, zDrop, zSet, zNext, zBin, zUn, zCall, zC, zVar, zTst, zAndV, zOrV, zNotV, zAnd, zOr, zNot, zIf, zaNil, zaCons, zFn, rzI0, rzI, rzInt1, rzInt2, rzNeg, zYes, List.getElem?_cons_zero, List.getElem?_cons_succ, List.set_cons_zero, List.set_cons_succ, rzGt, rzLt, rzGe, rzLe, rzSub, rzMod, rzDiv, rzPow, if_true, if_false, Bool.false_eq_true, if_pos]
  refine ⟨rfl, d, k, -m, m, rfl, hk, ?_⟩
  cases d with
  | int l =>
    simp only [litR] at q
    cases h1 : (decide (-m ≤ l) && decide (l ≤ m)) with
    | true =>
      rw [h1, Bool.true_and] at q
      simp only [isBet, h1, if_true, rzNe, view, ok_int, deq_int, true_and]
      exact .self q
    | false =>
      rw [h1, Bool.false_and] at q
      simp only [isBet, h1, Bool.false_eq_true, if_false]
      exact .self q
  | _ => simp only [isBet, Bool.false_eq_true, if_false]; exact .self q

/-! ### rows -/
theorem ev_rfl {T : TZ} {env : ZT} {M : MM} {d : D} (h : ∀ Q : D → MM → Prop, Q d M → T env M Q) : Ev T env M d := h
theorem zip_tail_all {ns : List Int} (h : ns.Pairwise (· < ·)) : (ns.zip (ns.drop 1)).all (fun q => decide (q.1 < q.2)) = true := by
  induction ns with
  | nil => rfl
  | cons n ns ih =>
    cases ns with
    | nil => rfl
    | cons m ns =>
      have h2 := List.pairwise_cons.mp h
      have := ih h2.2
      simp only [List.drop_succ_cons, List.drop_zero] at this ⊢
      rw [List.zip_cons_cons, List.all_cons, this, decide_eq_true (h2.1 m List.mem_cons_self)]
      rfl
def absI (i : Int) : Int := if i < 0 then -i else i
theorem absI_nat (i : Int) : absI i = i.natAbs := by unfold absI; split <;> omega
theorem lit_fr {m : Int} {q : Int × Int} (h : 1 ≤ q.1 ∧ LitOk m q.2) : isFr 1 (.int q.1) = true := decide_eq_true h.1
/-! ### any data as terms, as a row -/
def Kn (M : MM) (d : D) : Prop := ∃ k, kdOf M d = some k
theorem bet_int {lo hi : Int} {d : D} (h : isBet lo hi d = true) : ∃ m, d = .int m ∧ lo ≤ m ∧ m ≤ hi := by
  cases d <;> simp only [isBet] at h <;> first | (cases h; done) | skip
  simp only [Bool.and_eq_true, decide_eq_true_eq] at h
  exact ⟨_, rfl, h.1, h.2⟩
theorem bet_of {m : Int} (h : MOk m) : isBet 1 600 (.int m) = true := by simp only [isBet, h.1, h.2, decide_true, Bool.and_self]
def g_need_many (cM : Addr) : SpZ := fun ds M Q => ∃ d, ds = [d] ∧ Kn M d ∧ (isBet 1 600 d = false → Q (.exc cM [] []) M) ∧ (∀ m, d = .int m → MOk m → Q .non M)
theorem r_need_many {K : PySem.W.Frag} {c_WitnessError : Addr} {c_BadLiterals : Addr} {c_BadMany : Addr} {c_BadRow : Addr} {P_law : Addr} (ds : List D) (M : MM) (Q : D → MM → Prop) (hl : ds.length = 1) (h : (g_need_many c_BadMany) ds M Q) : t_need_many K c_WitnessError c_BadLiterals c_BadMany c_BadRow P_law g_is_between { nx := fun _ M' => PostX Q .non M', rt := PostX Q } (startZ 1 ds) M := by
  obtain ⟨d, rfl, ⟨k, hk⟩, q1, q2⟩ := h
  show t_need_many K c_WitnessError c_BadLiterals c_BadMany c_BadRow P_law _ _ [some d] M
  simp only [t_need_many, zRet, zRetN, zSeq, zIfS, zDrop, zSet, zNext, zBin, zUn, zCall, zC, zVar, zTst, zAndV, zOrV, zNotV, zAnd, zOr, zNot, zIf, zaNil, zaCons, zFn, rzI0, rzI, rzInt1, rzInt2, rzNeg, zYes, List.getElem?_cons_zero, List.getElem?_cons_succ, List.set_cons_zero, List.set_cons_succ, rzGt, rzLt, rzGe, rzLe, rzSub, rzMod, rzDiv, rzPow, if_true, if_false, Bool.false_eq_true, if_pos, zRaise]
  refine ⟨rfl, d, k, 1, 600, rfl, hk, ?_⟩
  cases hb : isBet 1 600 d with
  | false => exact .self (q1 hb)
  | true =>
    obtain ⟨m, rfl, h1, h2⟩ := bet_int hb
    exact .self (q2 m rfl ⟨h1, h2⟩)
def toPr : D → Option (Int × Int)
  | .tup [.int a, .int b] => some (a, b)
  | _ => none
def toTs : List D → Option Ts
  | [] => some []
  | x :: xs => match toPr x, toTs xs with
    | some q, some ts => some (q :: ts)
    | _, _ => none
theorem toPr_some {x : D} {q : Int × Int} (h : toPr x = some q) : x = prD q := by
  unfold toPr at h
  split at h
  · cases h; rfl
  · cases h
theorem toTs_some : ∀ {xs : List D} {ts : Ts}, toTs xs = some ts → xs = tsD ts
  | [], ts, h => by cases h; rfl
  | x :: xs, ts, h => by
    simp only [toTs] at h
    split at h
    · next q us h1 h2 =>
      cases h
      rw [toPr_some h1, toTs_some h2]; rfl
    · cases h
theorem toTs_tsD : ∀ ts : Ts, toTs (tsD ts) = some ts
  | [] => rfl
  | q :: ts => by
    have := toTs_tsD ts
    show (match toPr (prD q), toTs (tsD ts) with | some q, some ts => some (q :: ts) | _, _ => none) = _
    rw [this]; rfl
def ordB (ts : Ts) : Bool := ((ts.map fun q => absI q.2).zip ((ts.map fun q => absI q.2).drop 1)).all fun q => decide (q.1 < q.2)
theorem tail_pairs : ∀ {ns : List Int}, (ns.zip (ns.drop 1)).all (fun q => decide (q.1 < q.2)) = true → ns.Pairwise (· < ·)
  | [], _ => .nil
  | [n], _ => by simp
  | n :: m :: ns, h => by
    simp only [List.drop_succ_cons, List.drop_zero, List.zip_cons_cons, List.all_cons, Bool.and_eq_true, decide_eq_true_eq] at h
    have ih := tail_pairs (ns := m :: ns) (by simpa using h.2)
    refine List.pairwise_cons.mpr ⟨fun x hx => ?_, ih⟩
    rcases List.mem_cons.mp hx with rfl | hx
    · exact h.1
    · exact Int.lt_trans h.1 ((List.pairwise_cons.mp ih).1 x hx)
theorem ordB_iff {ts : Ts} : ordB ts = true ↔ ts.Pairwise (fun a b => a.2.natAbs < b.2.natAbs) := by
  have e : (ts.map fun q => absI q.2).Pairwise (· < ·) ↔ ts.Pairwise (fun a b => a.2.natAbs < b.2.natAbs) := by
    rw [List.pairwise_map]
    constructor
    · intro h; refine h.imp fun {a b} hab => ?_
      rw [absI_nat, absI_nat] at hab; omega
    · intro h; refine h.imp fun {a b} hab => ?_
      rw [absI_nat, absI_nat]; omega
  exact ⟨fun h => e.mp (tail_pairs h), fun h => zip_tail_all (e.mpr h)⟩
def tsB (m : Int) (ts : Ts) : Bool := ts.all (fun q => isFr 1 (.int q.1) && litR m (.int q.2)) && ordB ts
theorem litR_iff {m l : Int} : litR m (.int l) = true ↔ LitOk m l := by
  simp only [litR, Bool.and_eq_true, decide_eq_true_eq, Bool.not_eq_true', decide_eq_false_iff_not]
  exact ⟨fun h => ⟨h.1.1, h.1.2, h.2⟩, fun h => ⟨⟨h.1, h.2.1⟩, h.2.2⟩⟩
theorem tsB_iff {m : Int} {ts : Ts} : tsB m ts = true ↔ TsOk m ts := by
  unfold tsB TsOk
  rw [Bool.and_eq_true, ordB_iff, List.all_eq_true]
  refine and_congr (forall_congr' fun q => forall_congr' fun _ => ?_) Iff.rfl
  rw [Bool.and_eq_true, litR_iff]
  simp only [isFr, decide_eq_true_eq]
def termsR (m : Int) : D → Bool
  | .tup xs => match toTs xs with
    | some ts => tsB m ts
    | none => false
  | _ => false
theorem termsR_ts (m : Int) (ts : Ts) : termsR m (.tup (tsD ts)) = tsB m ts := by
  unfold termsR; simp only [toTs_tsD]
theorem toTs_np {xs : List D} (h : xs.all isPr = false) : toTs xs = none := by
  cases e : toTs xs with
  | none => rfl
  | some ts =>
    rw [toTs_some e] at h
    have : (tsD ts).all isPr = true := List.all_eq_true.mpr fun x hx => by
      unfold tsD at hx
      obtain ⟨q, _, rfl⟩ := List.mem_map.mp hx
      rfl
    rw [this] at h; cases h
def prP (p : D × D) : D := .tup [p.1, p.2]
theorem pairs_of : ∀ {xs : List D}, xs.all isPr = true → ∃ ps : List (D × D), xs = ps.map prP
  | [], _ => ⟨[], rfl⟩
  | x :: xs, h => by
    rw [List.all_cons, Bool.and_eq_true] at h
    obtain ⟨ps, e⟩ := pairs_of h.2
    match x, h.1 with
    | .tup [a, b], _ => exact ⟨(a, b) :: ps, by rw [e]; rfl⟩
    | .tup [], h => simp [isPr] at h
    | .tup [_], h => simp [isPr] at h
    | .tup (_ :: _ :: _ :: _), h => simp [isPr] at h
theorem ts_of {m : Int} : ∀ {ps : List (D × D)}, ps.all (fun p => isFr 1 p.1 && litR m p.2) = true → ∃ ts : Ts, ps.map prP = tsD ts ∧ ts.all (fun q => isFr 1 (.int q.1) && litR m (.int q.2)) = true
  | [], _ => ⟨[], rfl, rfl⟩
  | (a, b) :: ps, h => by
    rw [List.all_cons, Bool.and_eq_true] at h
    obtain ⟨ts, e, ht⟩ := ts_of h.2
    have h1 := h.1
    rw [Bool.and_eq_true] at h1
    match a, b, h1 with
    | .int x, .int y, h1 => exact ⟨(x, y) :: ts, by rw [List.map_cons, e]; rfl, by rw [List.all_cons, ht, Bool.and_true, Bool.and_eq_true]; exact h1⟩
theorem toTs_bad {m : Int} {ps : List (D × D)} (h : ps.all (fun p => isFr 1 p.1 && litR m p.2) = false) : termsR m (.tup (ps.map prP)) = false := by
  unfold termsR
  simp only
  cases e : toTs (ps.map prP) with
  | none => rfl
  | some ts =>
    simp only
    cases hb : tsB m ts with
    | false => rfl
    | true =>
      unfold tsB at hb
      rw [Bool.and_eq_true] at hb
      have e1 := toTs_some e
      have : ps.all (fun p => isFr 1 p.1 && litR m p.2) = true := List.all_eq_true.mpr fun p hp => by
        have : prP p ∈ tsD ts := by rw [← e1]; exact List.mem_map.mpr ⟨p, hp, rfl⟩
        unfold tsD at this
        obtain ⟨q, hq, e2⟩ := List.mem_map.mp this
        have e3 : [D.int q.1, D.int q.2] = [p.1, p.2] := D.tup.inj e2
        simp only [List.cons.injEq, and_true] at e3
        rw [← e3.1, ← e3.2]
        exact List.all_eq_true.mp hb.1 q hq
      rw [this] at h; cases h
def TsDat (M : MM) (d : D) : Prop := Kn M d ∧ ∀ xs, d = .tup xs → ∀ x, x ∈ xs → Kn M x ∧ ∀ a b, x = .tup [a, b] → Kn M a ∧ Kn M b
def g_terms_right : SpZ := fun ds M Q => ∃ m d, ds = [.int m, d] ∧ TsDat M d ∧ Q (.bl (termsR m d)) M
theorem r_terms_right {K : PySem.W.Frag} {c_WitnessError : Addr} {c_BadLiterals : Addr} {c_BadMany : Addr} {c_BadRow : Addr} {P_law : Addr} (ds : List D) (M : MM) (Q : D → MM → Prop) (hl : ds.length = 2) (h : g_terms_right ds M Q) : t_terms_right K c_WitnessError c_BadLiterals c_BadMany c_BadRow P_law g_is_from g_is_pair g_literal_right { nx := fun _ M' => Post Q .non M', rt := Post Q } (startZ 8 ds) M := by
  obtain ⟨m, d, rfl, ⟨⟨k, hk⟩, hx⟩, q⟩ := h
  show t_terms_right K c_WitnessError c_BadLiterals c_BadMany c_BadRow P_law _ _ _ _ [some (.int m), some d, none, none, none, none, none, none] M
  cases d with
  | tup xs =>
    simp only [t_terms_right, zRet, zRetN, zSeq, zIfS, zDrop, zSet, zNext, zBin, zUn, zCall, zC, zVar, zTst, zAndV, zOrV, zNotV, zAnd, zOr, zNot, zIf, zaNil, zaCons, zFn, rzI0, rzI, rzInt1, rzInt2, rzNeg, zYes, List.getElem?_cons_zero, List.getElem?_cons_succ, List.set_cons_zero, List.set_cons_succ, rzGt, rzLt, rzGe, rzLe, rzSub, rzMod, rzDiv, rzPow, if_true, if_false, Bool.false_eq_true, if_pos, rzIsi, kdOf, isK, decide_true]
    simp only [Bool.not_true, Bool.not_false, Bool.false_eq_true, if_false, if_true]
    refine comp_s (fun x : D => x) (fun x => .bl (isPr x)) xs (fun Q k => k) (.inl (by rw [List.map_id'])) (fun x hx' => ⟨_, rfl, fun Q k => ?_⟩) ?_
    · obtain ⟨⟨kx, hkx⟩, _⟩ := hx xs rfl x hx'
      exact ⟨rfl, x, kx, rfl, hkx, k⟩
    simp only [rzBls, view, blsOf_f (fun x => isPr x), List.all_map]
    have e0 : xs.all (id ∘ fun x => isPr x) = xs.all isPr := rfl
    rw [e0]
    cases hp : xs.all isPr with
    | false =>
      have e : termsR m (.tup xs) = false := by unfold termsR; simp only [toTs_np hp]
      rw [e] at q
      exact .self q
    | true =>
      obtain ⟨ps, rfl⟩ := pairs_of hp
      simp only [Bool.not_true, Bool.false_eq_true, if_false]
      refine comp_s prP (fun p => .bl (isFr 1 p.1 && litR m p.2)) ps (fun Q k => k) (.inl rfl) (fun p hp' => ⟨_, rfl, fun Q k => ?_⟩) ?_
      · obtain ⟨⟨k1, hk1⟩, ⟨k2, hk2⟩⟩ := (hx _ rfl (prP p) (List.mem_map.mpr ⟨p, hp', rfl⟩)).2 p.1 p.2 rfl
        refine ⟨rfl, p.1, k1, 1, rfl, hk1, ?_⟩
        cases hf : isFr 1 p.1 with
        | false => rw [hf, Bool.false_and] at k; exact k
        | true =>
          rw [hf, Bool.true_and] at k
          exact ⟨rfl, p.2, k2, m, rfl, hk2, k⟩
      simp only [rzBls, view, blsOf_f (fun p : D × D => isFr 1 p.1 && litR m p.2), List.all_map]
      have e0 : ps.all (id ∘ fun p : D × D => isFr 1 p.1 && litR m p.2) = ps.all (fun p => isFr 1 p.1 && litR m p.2) := rfl
      rw [e0]
      cases hq : ps.all (fun p => isFr 1 p.1 && litR m p.2) with
      | false =>
        rw [toTs_bad hq] at q
        exact .self q
      | true =>
        obtain ⟨ts, ets, hts⟩ := ts_of hq
        rw [ets] at q ⊢
        rw [termsR_ts, tsB, hts, Bool.true_and] at q
        simp only [Bool.not_true, Bool.false_eq_true, if_false]
        refine comp_s prD (fun q => .int (absI q.2)) ts (fun Q k => k) (.inl rfl) (fun q hq => ⟨_, rfl, fun Q k => k⟩) ?_
        simp only [List.set_cons_succ, List.set_cons_zero, zComp, iZip, zSl, zoSome, zoNone, rzSl, zVar, zC, List.getElem?_cons_succ, List.getElem?_cons_zero, view, cut_tail, lstK]
        have e2 : ((ts.map fun q => D.int (absI q.2)).zip ((ts.map fun q => D.int (absI q.2)).drop 1)).map (fun q => D.tup [q.1, q.2]) = ((ts.map fun q => absI q.2).zip ((ts.map fun q => absI q.2).drop 1)).map prD := by
          have e3 : (ts.map fun q => D.int (absI q.2)) = (ts.map fun q => absI q.2).map D.int := by rw [List.map_map]; rfl
          rw [e3, ← List.map_drop, List.zip_map, List.map_map] <;> rfl
        rw [e2]
        refine compGo_all prD (fun q => .bl (decide (q.1 < q.2))) ⟨trivial, trivial⟩ _ (fun q hq => ⟨_, rfl, fun Q k => k⟩) ?_
        simp only [rzBls, view, blsOf_f (fun q : Int × Int => decide (q.1 < q.2)), List.all_map]
        exact .self q
  | ref a =>
    have e : isK k .tup = false := by
      simp only [kdOf] at hk
      split at hk <;> first | (cases hk; done) | (obtain rfl := Option.some.inj hk; rfl)
    simp only [t_terms_right, zRet, zRetN, zSeq, zIfS, zDrop, zSet, zNext, zBin, zUn, zCall, zC, zVar, zTst, zAndV, zOrV, zNotV, zAnd, zOr, zNot, zIf, zaNil, zaCons, zFn, rzI0, rzI, rzInt1, rzInt2, rzNeg, zYes, List.getElem?_cons_zero, List.getElem?_cons_succ, List.set_cons_zero, List.set_cons_succ, rzGt, rzLt, rzGe, rzLe, rzSub, rzMod, rzDiv, rzPow, if_true, if_false, Bool.false_eq_true, if_pos, rzIsi, hk, e, Bool.not_false]
    exact .self q
  | _ =>
    simp only [kdOf] at hk
    first | (cases hk; done) | (obtain rfl := Option.some.inj hk; exact .self q)
def rowR (m : Int) : D → Bool
  | .tup [t, b] => termsR m t && isFr 0 b
  | _ => false
theorem rowR_ok {m : Int} {r : Row} (h : RowOk m r) : rowR m (rowD r) = true := by
  show (termsR m (.tup (tsD r.1)) && isFr 0 (.int r.2)) = true
  rw [termsR_ts, tsB_iff.mpr h.1]
  exact decide_eq_true h.2
theorem rowR_of {m : Int} {d : D} (h : rowR m d = true) : ∃ r, d = rowD r ∧ RowOk m r := by
  unfold rowR at h
  split at h
  · next t b =>
    rw [Bool.and_eq_true] at h
    obtain ⟨h1, h2⟩ := h
    unfold termsR at h1
    split at h1
    · next xs =>
      split at h1
      · next ts e =>
        rw [toTs_some e]
        unfold isFr at h2
        split at h2
        · next i => exact ⟨(ts, i), rfl, tsB_iff.mp h1, by simpa using h2⟩
        · cases h2
      · cases h1
    · cases h1
  · cases h
def RowDat (M : MM) (d : D) : Prop := Kn M d ∧ ∀ a b, d = .tup [a, b] → TsDat M a ∧ Kn M b
def g_row_right : SpZ := fun ds M Q => ∃ m d, ds = [.int m, d] ∧ RowDat M d ∧ Q (.bl (rowR m d)) M
theorem r_row_right {K : PySem.W.Frag} {c_WitnessError : Addr} {c_BadLiterals : Addr} {c_BadMany : Addr} {c_BadRow : Addr} {P_law : Addr} (ds : List D) (M : MM) (Q : D → MM → Prop) (hl : ds.length = 2) (h : g_row_right ds M Q) : t_row_right K c_WitnessError c_BadLiterals c_BadMany c_BadRow P_law g_is_from g_is_pair g_terms_right { nx := fun _ M' => Post Q .non M', rt := Post Q } (startZ 2 ds) M := by
  obtain ⟨m, d, rfl, ⟨⟨k, hk⟩, hd⟩, q⟩ := h
  show t_row_right K c_WitnessError c_BadLiterals c_BadMany c_BadRow P_law _ _ _ _ [some (.int m), some d] M
  simp only [t_row_right, zRet, zRetN, zSeq, zIfS, zDrop, zSet, zNext, zBin, zUn, zCall, zC, zVar, zTst, zAndV, zOrV, zNotV, zAnd, zOr, zNot, zIf, zaNil, zaCons, zFn, rzI0, rzI, rzInt1, rzInt2, rzNeg, zYes, List.getElem?_cons_zero, List.getElem?_cons_succ, List.set_cons_zero, List.set_cons_succ, rzGt, rzLt, rzGe, rzLe, rzSub, rzMod, rzDiv, rzPow, if_true, if_false, Bool.false_eq_true, if_pos]
  refine ⟨rfl, d, k, rfl, hk, ?_⟩
  by_cases hp : ∃ a b, d = .tup [a, b]
  · obtain ⟨a, b, rfl⟩ := hp
    obtain ⟨ha, kb, hb⟩ := hd a b rfl
    show _ ∧ _
    refine ⟨rfl, m, a, rfl, ha, ?_⟩
    cases ht : termsR m a with
    | false =>
      have e : rowR m (.tup [a, b]) = false := by show (termsR m a && isFr 0 b) = false; rw [ht]; rfl
      rw [e] at q
      exact .self q
    | true =>
      have e : rowR m (.tup [a, b]) = isFr 0 b := by show (termsR m a && isFr 0 b) = _; rw [ht]; rfl
      rw [e] at q
      exact ⟨rfl, b, kb, 0, rfl, hb, .self q⟩
  · have e : isPr d = false := by
      match d, hp with
      | .tup [a, b], hp => exact absurd ⟨a, b, rfl⟩ hp
      | .tup [], _ => rfl
      | .tup [_], _ => rfl
      | .tup (_ :: _ :: _ :: _), _ => simp [isPr]
      | .non, _ => rfl
      | .bl _, _ => rfl
      | .int _, _ => rfl
      | .str _, _ => rfl
      | .lst _, _ => rfl
      | .dic _ _, _ => rfl
      | .dct _ _, _ => rfl
      | .ref _, _ => rfl
      | .ty _, _ => rfl
      | .kls _ _ _, _ => rfl
      | .err _ _ _, _ => rfl
      | .exc _ _ _, _ => rfl
    have e2 : rowR m d = false := by
      cases h : rowR m d with
      | false => rfl
      | true =>
        obtain ⟨r, rfl, _⟩ := rowR_of h
        cases e
    rw [e2] at q
    rw [e]
    exact .self q
theorem kn_row (M : MM) (r : Row) : Kn M (rowD r) := ⟨.tup, rfl⟩
theorem rowDat (M : MM) (r : Row) : RowDat M (rowD r) := ⟨kn_row M r, fun a b e => by
  have e3 : [D.tup (tsD r.1), D.int r.2] = [a, b] := D.tup.inj e
  simp only [List.cons.injEq, and_true] at e3
  rw [← e3.1, ← e3.2]
  refine ⟨⟨⟨.tup, rfl⟩, fun xs ex x hx => ?_⟩, ⟨.int, rfl⟩⟩
  obtain rfl : tsD r.1 = xs := D.tup.inj ex
  unfold tsD at hx
  obtain ⟨q, _, rfl⟩ := List.mem_map.mp hx
  refine ⟨⟨.tup, rfl⟩, fun a b e => ?_⟩
  have e3 : [D.int q.1, D.int q.2] = [a, b] := D.tup.inj e
  simp only [List.cons.injEq, and_true] at e3
  rw [← e3.1, ← e3.2]
  exact ⟨⟨.int, rfl⟩, ⟨.int, rfl⟩⟩⟩
/-- what a literal is worth at a filling -/
def worth (l : Int) (f : List Int) : Int := if 0 < l then f.getD (l.natAbs - 1) 0 else 1 - f.getD (l.natAbs - 1) 0
def g_worth_of : SpZ := fun ds M Q => ∃ l f, ds = [.int l, filD f] ∧ LitOk f.length l ∧ Q (.int (worth l f)) M
theorem lit_ix {n : Nat} {l : Int} (h : LitOk n l) : l.natAbs - 1 < n ∧ (absI l - 1).toNat = l.natAbs - 1 ∧ 0 ≤ absI l - 1 := by
  obtain ⟨h1, h2, h3⟩ := h
  have := absI_nat l
  omega
theorem at_D {α : Type} {xs : List α} {g : α → D} {l : Int} {d : α} (h : LitOk xs.length l) : atI (xs.map g) (absI l - 1) = some (g (xs.getD (l.natAbs - 1) d)) := by
  obtain ⟨h1, h2, h3⟩ := lit_ix h
  refine atI_nat h3 ?_
  rw [h2, List.getElem?_map, List.getElem?_eq_getElem h1]
  simp [List.getD_eq_getElem?_getD, List.getElem?_eq_getElem h1]
def total (ts : Ts) : Int := (ts.map (·.1)).sum
def g_total_of : SpZ := fun ds M Q => ∃ r, ds = [rowD r] ∧ Q (.int (total r.1)) M
def comes (ts : Ts) (f : List Int) : Int := ((ts.filter fun q => decide (worth q.2 f = 1)).map (·.1)).sum
def LitsIn (n : Int) (ts : Ts) : Prop := ∀ q, q ∈ ts → LitOk n q.2
theorem TsOk.lits {m : Int} {ts : Ts} (h : TsOk m ts) : LitsIn m ts := fun q hq => (h.1 q hq).2
def g_comes_to : SpZ := fun ds M Q => ∃ r f, ds = [rowD r, filD f] ∧ LitsIn f.length r.1 ∧ Q (.int (comes r.1 f)) M
def holds (r : Row) (f : List Int) : Bool := decide (r.2 ≤ comes r.1 f)
def g_holds_at : SpZ := fun ds M Q => ∃ r f, ds = [rowD r, filD f] ∧ LitsIn f.length r.1 ∧ Q (.bl (holds r f)) M
/-! ### the normal row -/
def sgn (q : Int × Int) : Int := if 0 < q.2 then q.1 else -q.1
/-- what a list of pairs has on a variable -/
def coef (ts : Ts) (v : Int) : Int := (ts.map fun q => if absI q.2 = v then sgn q else 0).sum
/-- the numbers at negative literals -/
def neg (ts : Ts) : Int := (ts.map fun q => if 0 < q.2 then 0 else q.1).sum
def Srt (ts : Ts) : Prop := ts.Pairwise (fun a b => a.2.natAbs < b.2.natAbs)
def IsN (ps : Ts) (b : Int) (r : Row) : Prop := Srt r.1 ∧ (∀ q, q ∈ r.1 → 1 ≤ q.1 ∧ q.2 ≠ 0 ∧ ∃ p, p ∈ ps ∧ p.2.natAbs = q.2.natAbs) ∧ (∀ v, coef r.1 v = coef ps v) ∧ r.2 = (if b - neg ps + neg r.1 > 0 then b - neg ps + neg r.1 else 0)
def SeqM (M : MM) (d : D) (xs : List D) : Prop := SeqD d xs ∨ ∃ p, d = .ref p ∧ M p = some (.lst xs)
theorem iSeq_any {K : PySem.W.Frag} {Ta : TZ} {env : ZT} {M : MM} {d : D} {xs : List D} {R : List D → (MM → Prop) → MM → Prop} (hT : Ev Ta env M d) (hd : SeqM M d xs)
    (k : ∀ chk : MM → Prop, (∀ M' : MM, SeqM M' d xs → chk M') → R xs chk M) : iSeq K Ta env M R := by
  rcases hd with hd | ⟨p, rfl, hp⟩
  · exact iSeq_of hT hd (k _ fun _ _ => True.intro)
  · refine iSeq_ref hT hp (k _ fun M' h => ?_)
    rcases h with h | ⟨p', e, h⟩
    · rcases h with h | h <;> cases h
    · cases e; exact h
theorem SeqM.mu {M : MM} {d : D} {xs : List D} {p : Addr} {c : C} (h : SeqM M d xs) (hp : M p = none) : SeqM (mu M p c) d xs := by
  rcases h with h | ⟨q, e, h⟩
  · exact .inl h
  · exact .inr ⟨q, e, by rw [mu_ne fun z => by rw [z, hp] at h; cases h]; exact h⟩
/-- the dict of the numbers -/
def encA (as : List (Int × Int)) : List (Key × D) := as.map fun q => (.inl q.1, .int q.2)
def getA (as : List (Int × Int)) (v : Int) : Option Int := (as.find? fun q => decide (q.1 = v)).map (·.2)
def putA (as : List (Int × Int)) (v c : Int) : List (Int × Int) := if as.any (fun q => decide (q.1 = v)) = true then as.map (fun q => if q.1 = v then (q.1, c) else q) else as ++ [(v, c)]
theorem inl_eq (a b : Int) : decide ((Sum.inl a : Key) = .inl b) = decide (a = b) := by
  congr 1; exact propext ⟨fun h => Sum.inl.inj h, fun h => h ▸ rfl⟩
theorem valD_encA (as : List (Int × Int)) (v : Int) : valD (encA as) (.inl v) = (getA as v).map .int := by
  induction as with
  | nil => rfl
  | cons q as ih =>
    unfold valD encA getA at *
    simp only [List.map_cons, List.find?_cons, inl_eq]
    by_cases h : q.1 = v
    · simp [h]
    · simp only [h, decide_false]; exact ih
theorem putD_encA (as : List (Int × Int)) (v c : Int) : putD (encA as) (.inl v) (.int c) = encA (putA as v c) := by
  unfold putD putA encA
  rw [List.any_map]
  have e : ((fun kv : Key × D => decide (kv.1 = .inl v)) ∘ fun q : Int × Int => ((Sum.inl q.1 : Key), D.int q.2)) = fun q => decide (q.1 = v) := by
    funext q; exact inl_eq _ _
  rw [e]
  by_cases h : (as.any fun q => decide (q.1 = v)) = true
  · rw [if_pos h, if_pos h, List.map_map, List.map_map]
    apply List.map_congr_left
    intro q _
    simp only [Function.comp]
    by_cases hq : q.1 = v
    · rw [if_pos hq, if_pos (by rw [hq])]
    · rw [if_neg hq, if_neg (fun z => hq (Sum.inl.inj z))]
  · rw [if_neg h, if_neg h, List.map_append]
    rfl
/-- as tells the numbers of ps -/
def Tells (as : List (Int × Int)) (ps : Ts) : Prop := (as.map (·.1)).Nodup ∧ (∀ v, (getA as v).getD 0 = coef ps v) ∧ (∀ v, v ∈ as.map (·.1) → ∃ p, p ∈ ps ∧ absI p.2 = v) ∧ (∀ p, p ∈ ps → absI p.2 ∈ as.map (·.1)) ∧ as.length ≤ ps.length
theorem getA_put (as : List (Int × Int)) (v c u : Int) : getA (putA as v c) u = if u = v then some c else getA as u := by
  have dec : ∀ a b : Int, a = b → decide (a = b) = true := fun a b h => decide_eq_true h
  unfold putA
  by_cases h : (as.any fun q => decide (q.1 = v)) = true
  · rw [if_pos h]
    induction as with
    | nil => simp at h
    | cons q as ih =>
      unfold getA at *
      simp only [List.map_cons, List.find?_cons]
      by_cases hq : q.1 = v
      · rw [if_pos hq]
        by_cases hu : u = v
        · subst hu; simp [hq]
        · rw [if_neg hu]
          have h1 : ¬ q.1 = u := fun z => hu (z.symm.trans hq)
          simp only [h1, decide_false]
          -- below: what is left has no u changed
          by_cases h2 : (as.any fun q => decide (q.1 = v)) = true
          · have := ih h2; rw [if_neg hu] at this; exact this
          · have e : (as.map fun q => if q.1 = v then (q.1, c) else q) = as := by
              have : ∀ q ∈ as, ¬ q.1 = v := fun q hq z => h2 (List.any_eq_true.mpr ⟨q, hq, decide_eq_true z⟩)
              have e2 : (as.map fun q => if q.1 = v then (q.1, c) else q) = as.map id := List.map_congr_left fun q hq => by rw [if_neg (this q hq)]; rfl
              rw [e2, List.map_id]
            rw [e]
      · rw [if_neg hq]
        have h2 : (as.any fun q => decide (q.1 = v)) = true := by
          rw [List.any_cons] at h
          simpa [hq] using h
        by_cases hu : q.1 = u
        · have : ¬ u = v := fun z => hq (hu.trans z)
          simp [hu, this]
        · simp only [hu, decide_false]
          exact ih h2
  · rw [if_neg h]
    unfold getA
    rw [List.find?_append]
    by_cases hu : u = v
    · subst hu
      have e : as.find? (fun q => decide (q.1 = u)) = none := by
        rw [List.find?_eq_none]
        intro q hq z
        exact h (List.any_eq_true.mpr ⟨q, hq, z⟩)
      rw [e, if_pos rfl]
      simp
    · rw [if_neg hu]
      have e : [(v, c)].find? (fun q : Int × Int => decide (q.1 = u)) = none := by
        have : ¬ v = u := fun z => hu z.symm
        simp [this]
      rw [e, Option.or_none]
theorem keys_put (as : List (Int × Int)) (v c : Int) : (putA as v c).map (·.1) = if v ∈ as.map (·.1) then as.map (·.1) else as.map (·.1) ++ [v] := by
  unfold putA
  have e : (as.any fun q => decide (q.1 = v)) = true ↔ v ∈ as.map (·.1) := by
    rw [List.any_eq_true, List.mem_map]
    exact ⟨fun ⟨q, h1, h2⟩ => ⟨q, h1, of_decide_eq_true h2⟩, fun ⟨q, h1, h2⟩ => ⟨q, h1, decide_eq_true h2⟩⟩
  by_cases h : (as.any fun q => decide (q.1 = v)) = true
  · rw [if_pos h, if_pos (e.mp h), List.map_map]
    apply List.map_congr_left
    intro q _
    simp only [Function.comp]
    split <;> rfl
  · rw [if_neg h, if_neg (fun z => h (e.mpr z)), List.map_append]
    rfl
theorem coef_app (ts us : Ts) (v : Int) : coef (ts ++ us) v = coef ts v + coef us v := by
  unfold coef; rw [List.map_append, List.sum_append]
theorem coef_one (q : Int × Int) (v : Int) : coef [q] v = if absI q.2 = v then sgn q else 0 := by
  unfold coef; simp
theorem neg_app (ts us : Ts) : neg (ts ++ us) = neg ts + neg us := by
  unfold neg; rw [List.map_append, List.sum_append]
theorem Tells.put {as : List (Int × Int)} {ps : Ts} (h : Tells as ps) (q : Int × Int) : Tells (putA as (absI q.2) ((getA as (absI q.2)).getD 0 + sgn q)) (ps ++ [q]) := by
  obtain ⟨h1, h2, h3, h4, h5⟩ := h
  refine ⟨?_, fun v => ?_, fun v hv => ?_, fun p hp => ?_, ?_⟩
  · rw [keys_put]
    split
    · exact h1
    · next hn => exact List.nodup_append.mpr ⟨h1, by simp, fun a ha b hb z => by
        rw [List.mem_singleton] at hb; subst hb; subst z; exact hn ha⟩
  · rw [getA_put, coef_app, coef_one]
    by_cases hv : v = absI q.2
    · subst hv; rw [if_pos rfl, if_pos rfl, h2]; rfl
    · rw [if_neg hv, if_neg (fun z => hv z.symm), h2]; omega
  · rw [keys_put] at hv
    split at hv
    · obtain ⟨p, hp, e⟩ := h3 v hv; exact ⟨p, List.mem_append_left _ hp, e⟩
    · rw [List.mem_append, List.mem_singleton] at hv
      rcases hv with hv | rfl
      · obtain ⟨p, hp, e⟩ := h3 v hv; exact ⟨p, List.mem_append_left _ hp, e⟩
      · exact ⟨q, by simp, rfl⟩
  · rw [keys_put]
    rw [List.mem_append, List.mem_singleton] at hp
    split
    · next hm =>
      rcases hp with hp | rfl
      · exact h4 p hp
      · exact hm
    · rcases hp with hp | rfl
      · exact List.mem_append_left _ (h4 p hp)
      · simp
  · have : (putA as (absI q.2) ((getA as (absI q.2)).getD 0 + sgn q)).length = ((putA as (absI q.2) ((getA as (absI q.2)).getD 0 + sgn q)).map (·.1)).length := by rw [List.length_map]
    rw [this, keys_put, List.length_append]
    split
    · rw [List.length_map]; simp; omega
    · rw [List.length_append, List.length_map]; simp; omega

theorem intKeys_enc (as : List (Int × Int)) : intKeys ((encA as).map (·.1)) = some (as.map (·.1)) := by
  induction as with
  | nil => rfl
  | cons q as ih => simp only [encA, List.map_cons, intKeys] at ih ⊢; rw [ih]; rfl
theorem coef_none {ps : Ts} {v : Int} (h : ∀ p, p ∈ ps → absI p.2 ≠ v) : coef ps v = 0 := by
  induction ps with
  | nil => rfl
  | cons q ps ih =>
    have : coef (q :: ps) v = coef [q] v + coef ps v := coef_app [q] ps v
    rw [this, coef_one, if_neg (h q List.mem_cons_self), ih fun p hp => h p (List.mem_cons_of_mem _ hp)]
    rfl
/-- the terms that the second loop has laid -/
def Laid (ps : Ts) (ys : List Int) (i : Nat) (ts : Ts) : Prop := Srt ts ∧ (∀ q, q ∈ ts → 1 ≤ q.1 ∧ q.2 ≠ 0 ∧ absI q.2 ∈ ys.take i) ∧ (∀ v, coef ts v = if v ∈ ys.take i then coef ps v else 0) ∧ ts.length ≤ i
theorem Laid.step {ps ts : Ts} {ys : List Int} {i : Nat} {v : Int} (h : Laid ps ys i ts) (hs : ys.Pairwise (· ≤ ·)) (hn : ys.Nodup) (hv : ys[i]? = some v) (h0 : 0 < v) {us : Ts}
    (hu : (us = [] ∧ coef ps v = 0) ∨ ∃ q : Int × Int, us = [q] ∧ 1 ≤ q.1 ∧ q.2 ≠ 0 ∧ absI q.2 = v ∧ sgn q = coef ps v) : Laid ps ys (i + 1) (ts ++ us) := by
  obtain ⟨h1, h2, h3, h4⟩ := h
  have hlt := (List.getElem?_eq_some_iff.mp hv).1
  have et : ys.take (i + 1) = ys.take i ++ [v] := by rw [List.take_add_one, hv]; rfl
  have hni : v ∉ ys.take i := fun hm => by
    have hnd : (ys.take (i + 1)).Nodup := hn.sublist (List.take_sublist _ _)
    rw [et, List.nodup_append] at hnd
    exact hnd.2.2 v hm v (by simp) rfl
  have hle : ∀ u, u ∈ ys.take i → u ≤ v := fun u hm => by
    have hp : (ys.take (i + 1)).Pairwise (· ≤ ·) := hs.sublist (List.take_sublist _ _)
    rw [et, List.pairwise_append] at hp
    exact hp.2.2 u hm v (by simp)
  have hc : ∀ u, coef us u = if u = v then coef ps v else 0 := fun u => by
    rcases hu with ⟨rfl, e⟩ | ⟨q, rfl, _, _, e, e2⟩
    · rw [e]; simp [coef]
    · rw [coef_one, e, e2]
      by_cases z : u = v
      · rw [if_pos z, if_pos z.symm]
      · rw [if_neg z, if_neg fun w => z w.symm]
  refine ⟨?_, fun q hq => ?_, fun u => ?_, ?_⟩
  · refine List.pairwise_append.mpr ⟨h1, ?_, fun a ha b hb => ?_⟩
    · rcases hu with ⟨rfl, _⟩ | ⟨q, rfl, _⟩
      · exact List.Pairwise.nil
      · exact List.pairwise_singleton _ _
    · rcases hu with ⟨rfl, _⟩ | ⟨q, rfl, _, _, e, _⟩
      · simp at hb
      · rw [List.mem_singleton] at hb; subst hb
        have e1 := (h2 a ha).2.2
        have e2 := hle _ e1
        have e3 : absI a.2 ≠ v := fun z => hni (z ▸ e1)
        rw [absI_nat] at e2 e3 e
        omega
  · rw [List.mem_append] at hq
    rw [et]
    rcases hq with hq | hq
    · exact ⟨(h2 q hq).1, (h2 q hq).2.1, List.mem_append_left _ (h2 q hq).2.2⟩
    · rcases hu with ⟨rfl, _⟩ | ⟨q', rfl, a, b, e, _⟩
      · simp at hq
      · rw [List.mem_singleton] at hq; subst hq
        exact ⟨a, b, by rw [e]; simp⟩
  · rw [coef_app, h3, hc, et]
    by_cases z : u = v
    · subst z
      rw [if_neg hni, if_pos rfl, if_pos (by simp)]; omega
    · by_cases w : u ∈ ys.take i
      · rw [if_pos w, if_neg z, if_pos (List.mem_append_left _ w)]; omega
      · rw [if_neg w, if_neg z, if_neg (by simp [w, z])]; rfl
  · rw [List.length_append]
    rcases hu with ⟨rfl, _⟩ | ⟨q', rfl, _⟩ <;> simp <;> omega
def g_normal_of : SpZ := fun ds M Q => ∃ pd ps b, ds = [pd, .int b] ∧ SeqM M pd (tsD ps) ∧ ps.length < 64 ∧ (∀ p, p ∈ ps → p.2 ≠ 0) ∧ ∀ r, IsN ps b r → Q (rowD r) M
theorem len2 {α : Type} (a b : α) : [a, b].length ≤ 1000 := by simp
theorem take_snoc {α : Type} {xs : List α} {i : Nat} {x : α} (h : xs[i]? = some x) : xs.take (i + 1) = xs.take i ++ [x] := by rw [List.take_add_one, h]; rfl
theorem mem_of_at {α : Type} {xs : List α} {i : Nat} {x : α} (h : xs[i]? = some x) : x ∈ xs := List.mem_of_getElem? h
/-! ### opposite, covering -/
def max0 (x : Int) : Int := if x > 0 then x else 0
def opp (r : Row) : Row := (r.1.map (fun q => (q.1, -q.2)), max0 (total r.1 - r.2 + 1))
def g_opposite_of : SpZ := fun ds M Q => ∃ r, ds = [rowD r] ∧ Q (rowD (opp r)) M
theorem rowD_mk (ts us : List D) (r : Row) (b : Int) (h : us = tsD r.1) (hb : b = r.2) : D.tup [.tup us, .int b] = rowD r := by rw [h, hb]; rfl
/-- the weight that a row has on a literal -/
def getL (ts : Ts) (l : Int) : Int := ((ts.find? fun q => decide (q.2 = l)).map (·.1)).getD 0
theorem fold_put (l : Ts) : ∀ acc : Ts, (acc.map (·.2) ++ l.map (·.2)).Nodup → l.foldl (fun a q => putD a (.inl q.2) (.int q.1)) (acc.map fun q => ((.inl q.2 : Key), D.int q.1)) = (acc ++ l).map fun q => ((.inl q.2 : Key), D.int q.1) := by
  induction l with
  | nil => intro acc _; rw [List.append_nil]; rfl
  | cons q l ih =>
    intro acc h
    have hn : ¬ ((acc.map fun q => ((.inl q.2 : Key), D.int q.1)).any fun kv => decide (kv.1 = .inl q.2)) = true := by
      rw [List.any_map, List.any_eq_true]
      rintro ⟨p, hp, e⟩
      have e : p.2 = q.2 := Sum.inl.inj (of_decide_eq_true e)
      rw [List.nodup_append] at h
      exact h.2.2 p.2 (List.mem_map_of_mem hp) q.2 (by simp) e
    rw [List.foldl_cons]
    have e1 : putD (acc.map fun q => ((.inl q.2 : Key), D.int q.1)) (.inl q.2) (.int q.1) = (acc ++ [q]).map fun q => ((.inl q.2 : Key), D.int q.1) := by
      unfold putD; rw [if_neg hn, List.map_append]; rfl
    rw [e1, ih (acc ++ [q]) (by simpa using h)]
    simp
theorem val_getL (ts : Ts) (l : Int) : (valD (ts.map fun q => ((.inl q.2 : Key), D.int q.1)) (.inl l)).getD (.int 0) = .int (getL ts l) := by
  induction ts with
  | nil => rfl
  | cons q ts ih =>
    unfold valD getL at *
    simp only [List.map_cons, List.find?_cons, inl_eq]
    by_cases h : q.2 = l
    · simp [h]
    · simp only [h, decide_false]; exact ih
def cov (one other : Row) : Bool := decide (other.2 ≤ one.2 - (one.1.map fun q => max0 (q.1 - getL other.1 q.2)).sum)
theorem Srt.nodup {ts : Ts} (h : Srt ts) : (ts.map (·.2)).Nodup := by
  unfold List.Nodup
  rw [List.pairwise_map]
  exact h.imp fun {a b} hab e => by rw [e] at hab; omega
theorem RowOk.lits {m : Int} {r : Row} {f : List Int} (h : RowOk m r) (hf : FilOk m f) : LitsIn f.length r.1 := by
  rw [hf.1]; exact h.1.lits
theorem kd_im (M : MM) (i : Im) : ∃ k, kdOf M (imD i) = some k := by cases i <;> exact ⟨_, rfl⟩
def turn : Im → Im
  | .yes => .no
  | .no => .yes
  | .lit i => .lit (-i)
def g_turned_image : SpZ := fun ds M Q => ∃ i, ds = [imD i] ∧ Q (imD (turn i)) M
def imgOf (w : List Im) (l : Int) : Im := if 0 < l then w.getD (l.natAbs - 1) .yes else turn (w.getD (l.natAbs - 1) .yes)
def g_image_of : SpZ := fun ds M Q => ∃ w l, ds = [witD w, .int l] ∧ LitOk w.length l ∧ Q (imD (imgOf w l)) M
def imW (i : Im) (f : List Int) : Int := match i with
  | .yes => 1
  | .no => 0
  | .lit l => worth l f
theorem deq_str (a b : Str) : deq (.str a) (.str b) = (a == b) := rfl
theorem ok_yes (n : Nat) : okD n (.str "yes") = true := by cases n <;> (simp only [okD]; decide +kernel)
theorem ok_no (n : Nat) : okD n (.str "no") = true := by cases n <;> (simp only [okD]; decide +kernel)
theorem ok_im (n : Nat) (i : Im) : okD n (imD i) = true := by
  cases i with
  | yes => exact ok_yes n
  | no => exact ok_no n
  | lit l => exact ok_int n l
theorem view_im (M : MM) (i : Im) : view M (imD i) = imD i := by cases i <;> rfl
theorem deq_yes (i : Im) : deq (imD i) (.str "yes") = decide (i = .yes) := by cases i <;> first | rfl | decide
def g_image_worth : SpZ := fun ds M Q => ∃ i f, ds = [imD i, filD f] ∧ ImOk f.length i ∧ Q (.int (imW i f)) M
def ledTo (w : List Im) (f : List Int) : List Int := w.map fun i => imW i f
def g_led_to : SpZ := fun ds M Q => ∃ w f, ds = [witD w, filD f] ∧ (∀ i, i ∈ w → ImOk f.length i) ∧ Q (filD (ledTo w f)) M
theorem filD_map {α : Type} (g : α → Int) (l : List α) : D.tup (l.map fun a => D.int (g a)) = filD (l.map g) := by unfold filD; rw [List.map_map]; rfl
def joined (a b : List Im) : List Im := a.map fun i => match i with
  | .lit l => imgOf b l
  | x => x
def g_joined_of : SpZ := fun ds M Q => ∃ a b, ds = [witD a, witD b] ∧ (∀ i, i ∈ a → ImOk b.length i) ∧ Q (witD (joined a b)) M
def ledPairs (w : List Im) (ts : Ts) : Ts := ts.filterMap fun q => match imgOf w q.2 with
  | .lit l => some (q.1, l)
  | _ => none
def ledSum (w : List Im) (ts : Ts) : Int := (ts.map fun q => if imgOf w q.2 = .yes then q.1 else 0).sum
def IsLed (w : List Im) (r r' : Row) : Prop := IsN (ledPairs w r.1) (r.2 - ledSum w r.1) r'
def Im0 : Im → Prop
  | .lit l => l ≠ 0
  | _ => True
theorem imgOf_mem {w : List Im} {l : Int} (h : LitOk w.length l) : ∃ i, i ∈ w ∧ (imgOf w l = i ∨ imgOf w l = turn i) := by
  obtain ⟨h1, _, _⟩ := lit_ix h
  have hm : w.getD (l.natAbs - 1) .yes ∈ w := by
    rw [List.getD_eq_getElem?_getD, List.getElem?_eq_getElem h1]
    exact List.getElem_mem h1
  refine ⟨_, hm, ?_⟩
  unfold imgOf
  split
  · exact .inl rfl
  · exact .inr rfl
theorem imgOf_0 {w : List Im} {l : Int} (h : LitOk w.length l) (hw : ∀ i, i ∈ w → Im0 i) : Im0 (imgOf w l) := by
  obtain ⟨i, hi, e | e⟩ := imgOf_mem h
  · rw [e]; exact hw i hi
  · have := hw i hi
    rw [e]
    cases i with
    | lit k => show -k ≠ 0; have : k ≠ 0 := this; omega
    | _ => trivial
theorem ledPairs_app (w : List Im) (a b : Ts) : ledPairs w (a ++ b) = ledPairs w a ++ ledPairs w b := by unfold ledPairs; rw [List.filterMap_append]
theorem ledSum_app (w : List Im) (a b : Ts) : ledSum w (a ++ b) = ledSum w a + ledSum w b := by unfold ledSum; rw [List.map_append, List.sum_append]
theorem ledPairs_len (w : List Im) (a : Ts) : (ledPairs w a).length ≤ a.length := List.length_filterMap_le _ _
theorem at_map {α β : Type} {xs : List α} {f : α → β} {i : Nat} {x : β} (h : (xs.map f)[i]? = some x) : ∃ q, xs[i]? = some q ∧ x = f q := by
  rw [List.getElem?_map] at h
  cases e : xs[i]? with
  | none => rw [e] at h; cases h
  | some q => rw [e] at h; exact ⟨q, rfl, (Option.some.inj h).symm⟩
theorem tsD_snoc (ts : Ts) (a b : Int) : tsD ts ++ [D.tup [D.int a, D.int b]] = tsD (ts ++ [(a, b)]) := by unfold tsD; rw [List.map_append]; rfl
def g_led_of : SpZ := fun ds M Q => ∃ w r, ds = [witD w, rowD r] ∧ LitsIn w.length r.1 ∧ r.1.length < 64 ∧ (∀ i, i ∈ w → Im0 i) ∧ ∀ r', IsLed w r r' → Q (rowD r') M
/-! ### sorted lists of ints -/
def srtI (ns : List Int) : List Int := ns.mergeSort fun a b => decide (a ≤ b)
theorem sort_ints (ns : List Int) : (ns.map D.int).mergeSort (PySem.W.dataLe false toPy) = (srtI ns).map D.int := by
  unfold srtI
  refine (List.map_mergeSort (f := D.int) (r := fun a b : Int => decide (a ≤ b)) (s := PySem.W.dataLe false toPy) fun a _ b _ => ?_).symm
  have := congrFun (congrFun (PySem.W.dataLe_int (β := Int) id) a) b
  exact this.symm
theorem srtI_perm (ns : List Int) : (srtI ns).Perm ns := List.mergeSort_perm _ _
theorem srtI_sorted (ns : List Int) : (srtI ns).Pairwise (· ≤ ·) := by
  have := List.pairwise_mergeSort (le := fun a b : Int => decide (a ≤ b)) (fun a b c h1 h2 => by simp only [decide_eq_true_eq] at *; omega) (fun a b => by simp only [Bool.or_eq_true, decide_eq_true_eq]; omega) ns
  exact this.imp fun h => of_decide_eq_true h
theorem sorted_eq {a b : List Int} (ha : a.Pairwise (· ≤ ·)) (hb : b.Pairwise (· ≤ ·)) (h : a.Perm b) : a = b := List.Perm.eq_of_pairwise (fun a b _ _ h1 h2 => Int.le_antisymm h1 h2) ha hb h
theorem srtI_congr {a b : List Int} (h : a.Perm b) : srtI a = srtI b := sorted_eq (srtI_sorted a) (srtI_sorted b) (((srtI_perm a).trans h).trans (srtI_perm b).symm)
theorem alike_ints (ns : List Int) : PySem.W.AllAlike ((ns.map D.int).map toPy) := by
  rw [List.map_map]
  exact PySem.W.AllAlike.of fun _ _ => rfl
theorem sortable_ints (ns : List Int) : PySem.W.Sortable ((ns.map D.int).map toPy) := by
  rw [List.map_map]
  refine PySem.W.Sortable.others fun b => ⟨fun h => ?_, fun xs h => ?_⟩
  · have h : PyData.int b = .none := h
    cases h
  · have h : PyData.int b = .tuple xs := h
    cases h
theorem okDs_ints (n : Nat) (ns : List Int) : okDs n (ns.map D.int) = true := okDs_all fun x hx => by
  obtain ⟨i, _, rfl⟩ := List.mem_map.mp hx
  exact ok_int n i
/-- 1 .. m -/
def oneTo (m : Int) : List Int := (List.range m.toNat).map fun i : Nat => 1 + (i : Int)
theorem rngD_one (m : Int) : rngD 1 m.toNat = (oneTo m).map D.int := by unfold rngD oneTo; rw [List.map_map]; rfl
theorem oneTo_sorted (m : Int) : (oneTo m).Pairwise (· ≤ ·) := by
  unfold oneTo
  rw [List.pairwise_map]
  exact (List.pairwise_lt_range (n := m.toNat)).imp fun {a b} h => by omega
theorem oneTo_nodup (m : Int) : (oneTo m).Nodup := by
  unfold oneTo List.Nodup
  rw [List.pairwise_map]
  exact (List.pairwise_lt_range (n := m.toNat)).imp fun {a b} h => by omega
theorem mem_oneTo {m v : Int} : v ∈ oneTo m ↔ 1 ≤ v ∧ v ≤ m := by
  unfold oneTo
  rw [List.mem_map]
  refine ⟨fun ⟨i, hi, e⟩ => ?_, fun ⟨h1, h2⟩ => ⟨(v - 1).toNat, by rw [List.mem_range]; omega, by omega⟩⟩
  rw [List.mem_range] at hi; omega
/-- an exchange -/
def Exch (m : Int) (es : List Int) : Prop := (es.length : Int) = m ∧ (es.map absI).Perm (oneTo m)
theorem Exch.lit {m : Int} {es : List Int} (h : Exch m es) {e : Int} (he : e ∈ es) : LitOk m e := by
  have := (h.2.mem_iff (a := absI e)).mp (List.mem_map_of_mem he)
  rw [mem_oneTo, absI_nat] at this
  exact ⟨by omega, by omega, by omega⟩
def exD (es : List Int) : D := witD (es.map Im.lit)
theorem exD_eq (es : List Int) : exD es = .tup (es.map D.int) := by unfold exD witD; rw [List.map_map]; rfl
theorem Exch.wit {m : Int} {es : List Int} (h : Exch m es) : WitOk m (es.map Im.lit) := ⟨by rw [List.length_map]; exact h.1, fun i hi => by
  obtain ⟨e, he, rfl⟩ := List.mem_map.mp hi
  exact h.lit he⟩
def IsTurned (es es' : List Int) : Prop := es'.length = es.length ∧ ∀ (j : Nat) (e : Int), es[j]? = some e → es'[e.natAbs - 1]? = some (if 0 < e then (j : Int) + 1 else -((j : Int) + 1))
theorem Exch.apart {m : Int} {es : List Int} (h : Exch m es) {i j : Nat} {a b : Int} (hi : es[i]? = some a) (hj : es[j]? = some b) (e : a.natAbs = b.natAbs) : i = j := by
  have hn : (es.map absI).Nodup := h.2.nodup_iff.mpr (oneTo_nodup m)
  have h1 : (es.map absI)[i]? = some (absI a) := by rw [List.getElem?_map, hi]; rfl
  have h2 : (es.map absI)[j]? = some (absI b) := by rw [List.getElem?_map, hj]; rfl
  have e2 : absI a = absI b := by rw [absI_nat, absI_nat, e]
  rw [e2] at h1
  exact (List.getElem?_inj (by
    have := (List.getElem?_eq_some_iff.mp h1).1; exact this) hn).mp (h1.trans h2.symm)
def g_turned_exchange : SpZ := fun ds M Q => ∃ m es, ds = [exD es] ∧ MOk m ∧ Exch m es ∧ ∀ es', IsTurned es es' → Q (exD es') M
end Zz

set_option Elab.async false
set_option linter.all false
set_option maxRecDepth 100000
set_option maxHeartbeats 2000000
namespace Zz
open PySem PySem.Spec PyProof.Rows L2

/-! ### any data as fillings, images, witnesses, exchanges -/
/-- of known kinds, its items too -/
def TupDat (M : MM) (d : D) : Prop := Kn M d ∧ ∀ xs, d = .tup xs → ∀ x, x ∈ xs → Kn M x
theorem TupDat.all {M : MM} {xs : List D} (h : TupDat M (.tup xs)) : ∀ x, x ∈ xs → ∃ k, kdOf M x = some k := fun x hx => h.2 xs rfl x hx
theorem kd_tup {M : MM} {d : D} {k : Kd} (h : kdOf M d = some k) : isK k .tup = match d with | .tup _ => true | _ => false := by
  cases d <;> simp only [kdOf] at h <;> first | (cases h; done) | (obtain rfl := Option.some.inj h; rfl) | skip
  split at h <;> first | (cases h; done) | (obtain rfl := Option.some.inj h; rfl)
theorem kd_str {M : MM} {d : D} {k : Kd} (h : kdOf M d = some k) : isK k .str = match d with | .str _ => true | _ => false := by
  cases d <;> simp only [kdOf] at h <;> first | (cases h; done) | (obtain rfl := Option.some.inj h; rfl) | skip
  split at h <;> first | (cases h; done) | (obtain rfl := Option.some.inj h; rfl)
/-- all of m items keep p -/
def allR (m : Int) (p : D → Bool) : D → Bool
  | .tup xs => decide ((xs.length : Int) = m) && xs.all p
  | _ => false
theorem allR_not {m : Int} {p : D → Bool} {d : D} (h : ∀ xs, d ≠ .tup xs) : allR m p d = false := by
  cases d <;> first | rfl | exact absurd rfl (h _)
def filR (m : Int) : D → Bool := allR m (isBet 0 1)
def g_filling_right : SpZ := fun ds M Q => ∃ m d, ds = [.int m, d] ∧ TupDat M d ∧ Q (.bl (filR m d)) M
/-- isinstance(t, tuple) and len(t) == m and all([p(x) for x in t]) -/
theorem all_right {K : PySem.W.Frag} {m : Int} {d : D} {M : MM} {Q : D → MM → Prop} {te : TZ} {p : D → Bool} {e0 : Option D} (hd : TupDat M d) (hte : ∀ x k, kdOf M x = some k → Ev te [some (.int m), some d, some x] M (.bl (p x))) (q : Q (.bl (allR m p d)) M) :
    zAndV (zUn (rzIsi .tup) (zVar 1)) (zAndV (zBin rzEq (zCall (rzLen K) (zaCons (zVar 1) zaNil)) (zVar 0)) (zCall (rzBls fun ns => .bl (ns.all id)) (zaCons (zComp (iSeq K (zVar 1)) (.nm 2) [2] zYes te) zaNil))) [some (.int m), some d, e0] M Q := by
  obtain ⟨k, hk⟩ := hd.1
  have e := kd_tup hk
  simp only [zAndV, zUn, zVar, List.getElem?_cons_zero, List.getElem?_cons_succ, rzIsi, hk]
  by_cases ht : ∃ xs, d = .tup xs
  · obtain ⟨xs, rfl⟩ := ht
    simp only at e
    simp only [e, if_true, zBin, zCall, zaCons, zaNil, zVar, List.getElem?_cons_zero, List.getElem?_cons_succ, rzLen, lenOf, rzEq, view, ok_int, deq_int, true_and]
    by_cases hl : (xs.length : Int) = m
    · have ea : allR m p (.tup xs) = xs.all p := by show (decide ((xs.length : Int) = m) && xs.all p) = _; rw [decide_eq_true hl, Bool.true_and]
      rw [ea] at q
      simp only [hl, decide_true, if_true]
      refine comp_s (fun x : D => x) (fun x => .bl (p x)) xs (fun Q k => k) (.inl (by rw [List.map_id'])) (fun x hx => ⟨_, rfl, ?_⟩) ?_
      · obtain ⟨kx, hkx⟩ := hd.all x hx
        exact hte x kx hkx
      · simp only [rzBls, view, blsOf_f (fun x => p x), List.all_map]
        exact q
    · have ea : allR m p (.tup xs) = false := by show (decide ((xs.length : Int) = m) && xs.all p) = _; rw [decide_eq_false hl, Bool.false_and]
      rw [ea] at q
      simp only [hl, decide_false, Bool.false_eq_true, if_false]
      exact q
  · have hn : ∀ xs, d ≠ .tup xs := fun xs h => ht ⟨xs, h⟩
    rw [allR_not hn] at q
    have e2 : isK k .tup = false := by
      rw [e]; cases d <;> first | rfl | exact absurd rfl (hn _)
    simp only [e2, Bool.false_eq_true, if_false]
    exact q
theorem filR_ok {m : Int} {f : List Int} (h : FilOk m f) : filR m (filD f) = true := by
  show (decide (((f.map D.int).length : Int) = m) && (f.map D.int).all (isBet 0 1)) = true
  rw [List.length_map, decide_eq_true h.1, Bool.true_and, List.all_map]
  refine List.all_eq_true.mpr fun x hx => ?_
  rcases h.2 x hx with rfl | rfl <;> rfl
theorem fils_of : ∀ {xs : List D}, (∀ x, x ∈ xs → isBet 0 1 x = true) → ∃ f : List Int, xs = f.map D.int ∧ ∀ x, x ∈ f → x = 0 ∨ x = 1
  | [], _ => ⟨[], rfl, fun x hx => by simp at hx⟩
  | x :: xs, ha => by
    obtain ⟨f, e, hf⟩ := fils_of fun y hy => ha y (List.mem_cons_of_mem x hy)
    obtain ⟨i, rfl, h0, h1⟩ := bet_int (ha x List.mem_cons_self)
    refine ⟨i :: f, by rw [e]; rfl, fun y hy => ?_⟩
    rcases List.mem_cons.mp hy with rfl | hy
    · omega
    · exact hf y hy
theorem filR_of {m : Int} {d : D} (h : filR m d = true) : ∃ f, d = filD f ∧ FilOk m f := by
  cases d with
  | tup xs =>
    have h : (decide ((xs.length : Int) = m) && xs.all (isBet 0 1)) = true := h
    rw [Bool.and_eq_true, decide_eq_true_eq, List.all_eq_true] at h
    obtain ⟨hl, ha⟩ := h
    have := fils_of ha
    obtain ⟨f, rfl, hf⟩ := this
    exact ⟨f, rfl, by rw [← hl, List.length_map], hf⟩
  | _ => cases h
def g_need_filling (cF : Addr) : SpZ := fun ds M Q => ∃ m d, ds = [.int m, d] ∧ TupDat M d ∧ (filR m d = false → Q (.exc cF [] []) M) ∧ (∀ f, d = filD f → FilOk m f → Q .non M)
def yn : List D := [.str "yes", .str "no"]
def imR (m : Int) : D → Bool
  | .str x => inF (.str x) yn
  | d => litR m d
def g_image_right : SpZ := fun ds M Q => ∃ d k m, ds = [.int m, d] ∧ kdOf M d = some k ∧ Q (.bl (imR m d)) M
theorem imR_ok {m : Int} {i : Im} (h : ImOk m i) : imR m (imD i) = true := by
  cases i with
  | yes => rfl
  | no => rfl
  | lit l => exact litR_ok h
theorem imR_of {m : Int} {d : D} (h : imR m d = true) : ∃ i, d = imD i ∧ ImOk m i := by
  cases d with
  | str x =>
    have h : ((("yes" : Str) == x) || ((("no" : Str) == x) || false)) = true := h
    rw [Bool.or_false, Bool.or_eq_true, beq_iff_eq, beq_iff_eq] at h
    rcases h with rfl | rfl
    · exact ⟨.yes, rfl, trivial⟩
    · exact ⟨.no, rfl, trivial⟩
  | int l => exact ⟨.lit l, rfl, litR_iff.mp h⟩
  | _ => cases h
def witR (m : Int) : D → Bool := allR m (imR m)
def g_witness_right : SpZ := fun ds M Q => ∃ m d, ds = [.int m, d] ∧ TupDat M d ∧ Q (.bl (witR m d)) M
theorem witR_ok {m : Int} {w : List Im} (h : WitOk m w) : witR m (witD w) = true := by
  show (decide (((w.map imD).length : Int) = m) && (w.map imD).all (imR m)) = true
  rw [List.length_map, decide_eq_true h.1, Bool.true_and, List.all_map]
  exact List.all_eq_true.mpr fun x hx => imR_ok (h.2 x hx)
theorem wits_of {m : Int} : ∀ {xs : List D}, (∀ x, x ∈ xs → imR m x = true) → ∃ w : List Im, xs = w.map imD ∧ ∀ i, i ∈ w → ImOk m i
  | [], _ => ⟨[], rfl, fun x hx => by simp at hx⟩
  | x :: xs, ha => by
    obtain ⟨w, e, hw⟩ := wits_of fun y hy => ha y (List.mem_cons_of_mem x hy)
    obtain ⟨i, rfl, hi⟩ := imR_of (ha x List.mem_cons_self)
    refine ⟨i :: w, by rw [e]; rfl, fun y hy => ?_⟩
    rcases List.mem_cons.mp hy with rfl | hy
    · exact hi
    · exact hw y hy
theorem witR_of {m : Int} {d : D} (h : witR m d = true) : ∃ w, d = witD w ∧ WitOk m w := by
  cases d with
  | tup xs =>
    have h : (decide ((xs.length : Int) = m) && xs.all (imR m)) = true := h
    rw [Bool.and_eq_true, decide_eq_true_eq, List.all_eq_true] at h
    obtain ⟨hl, ha⟩ := h
    have := wits_of ha
    obtain ⟨w, rfl, hw⟩ := this
    exact ⟨w, rfl, by rw [← hl, List.length_map], hw⟩
  | _ => cases h
theorem kn_im (M : MM) (i : Im) : Kn M (imD i) := by cases i <;> exact ⟨_, rfl⟩
theorem witDat (M : MM) (w : List Im) : TupDat M (witD w) := ⟨⟨.tup, rfl⟩, fun xs e x hx => by
  obtain rfl : w.map imD = xs := D.tup.inj e
  obtain ⟨i, _, rfl⟩ := List.mem_map.mp hx
  exact kn_im M i⟩
theorem filDat (M : MM) (f : List Int) : TupDat M (filD f) := ⟨⟨.tup, rfl⟩, fun xs e x hx => by
  obtain rfl : f.map D.int = xs := D.tup.inj e
  obtain ⟨i, _, rfl⟩ := List.mem_map.mp hx
  exact ⟨.int, rfl⟩⟩
def g_need_witness (cM cW : Addr) : SpZ := fun ds M Q => ∃ md d, ds = [md, d] ∧ Kn M md ∧ TupDat M d ∧ (isBet 1 600 md = false → Q (.exc cM [] []) M) ∧ (∀ m, md = .int m → MOk m → witR m d = false → Q (.exc cW [] []) M) ∧ (∀ m w, md = .int m → MOk m → d = witD w → WitOk m w → Q .non M)
/-- an exchange: ints alone, each variable once -/
def exR (m : Int) (d : D) : Bool := witR m d && match d with
  | .tup xs => match intsOf xs with
    | some es => deq (.lst ((srtI (es.map absI)).map D.int)) (.lst ((oneTo m).map D.int))
    | none => false
  | _ => false
def notStr (d : D) : Bool := match d with | .str _ => false | _ => true
theorem ints_lit : ∀ w : List Im, (∃ es : List Int, w = es.map Im.lit ∧ intsOf (w.map imD) = some es ∧ (w.map imD).all notStr = true) ∨ (intsOf (w.map imD) = none ∧ (w.map imD).all notStr = false)
  | [] => .inl ⟨[], rfl, rfl, rfl⟩
  | i :: w => by
    rcases ints_lit w with ⟨es, e1, e2, e3⟩ | ⟨e2, e3⟩
    · cases i with
      | lit l => exact .inl ⟨l :: es, by rw [e1]; rfl, by simp [intsOf, imD, e2], by rw [List.map_cons, List.all_cons, e3]; rfl⟩
      | yes => exact .inr ⟨by simp only [List.map_cons, imD, intsOf], by rw [List.map_cons, List.all_cons]; rfl⟩
      | no => exact .inr ⟨by simp only [List.map_cons, imD, intsOf], by rw [List.map_cons, List.all_cons]; rfl⟩
    · cases i with
      | lit l => exact .inr ⟨by simp [intsOf, imD, e2], by rw [List.map_cons, List.all_cons, e3, Bool.and_false]⟩
      | yes => exact .inr ⟨by simp only [List.map_cons, imD, intsOf], by rw [List.map_cons, List.all_cons]; rfl⟩
      | no => exact .inr ⟨by simp only [List.map_cons, imD, intsOf], by rw [List.map_cons, List.all_cons]; rfl⟩
theorem exR_wit {m : Int} {w : List Im} (h : WitOk m w) : exR m (witD w) = match intsOf (w.map imD) with | some es => deq (.lst ((srtI (es.map absI)).map D.int)) (.lst ((oneTo m).map D.int)) | none => false := by
  unfold exR
  rw [witR_ok h, Bool.true_and]
  rfl
theorem eqv_ints : ∀ (a b : List Int), PyData.eqvAll (toPys (a.map D.int)) (toPys (b.map D.int)) = decide (a = b)
  | [], [] => rfl
  | [], b :: bs => rfl
  | a :: as, [] => rfl
  | a :: as, b :: bs => by
    have ih := eqv_ints as bs
    have e : PyData.eqv (toPy (.int a)) (toPy (.int b)) = decide (a = b) := deq_int a b
    simp only [List.map_cons, toPys, PyData.eqvAll, ih, e]
    by_cases h1 : a = b
    · by_cases h2 : as = bs
      · simp [h1, h2]
      · simp [h1, h2]
    · simp [h1]
theorem deq_ints (a b : List Int) : deq (.lst (a.map D.int)) (.lst (b.map D.int)) = decide (a = b) := eqv_ints a b
theorem exR_ok {m : Int} {es : List Int} (h : Exch m es) : exR m (exD es) = true := by
  have := exR_wit h.wit
  rw [show exD es = witD (es.map Im.lit) from rfl, this]
  have e : intsOf ((es.map Im.lit).map imD) = some es := by
    rw [List.map_map]; exact intsOf_map es
  rw [e]
  simp only
  rw [deq_ints]
  exact decide_eq_true (sorted_eq (srtI_sorted _) (oneTo_sorted m) ((srtI_perm _).trans h.2))
theorem exR_of {m : Int} {d : D} (h : exR m d = true) : ∃ es, d = exD es ∧ Exch m es := by
  have hw : witR m d = true := by
    unfold exR at h
    rw [Bool.and_eq_true] at h
    exact h.1
  obtain ⟨w, rfl, hwo⟩ := witR_of hw
  rw [exR_wit hwo] at h
  rcases ints_lit w with ⟨es, e1, e2, _⟩ | ⟨e2, _⟩
  · rw [e2] at h
    simp only at h
    rw [deq_ints, decide_eq_true_eq] at h
    subst e1
    refine ⟨es, rfl, by have := hwo.1; rwa [List.length_map] at this, ?_⟩
    rw [← h]
    exact (srtI_perm _).symm
  · rw [e2] at h; cases h
def g_exchange_right : SpZ := fun ds M Q => ∃ m d, ds = [.int m, d] ∧ MOk m ∧ TupDat M d ∧ Q (.bl (exR m d)) M
/-- sorted([abs(x) for x in es]) == list(range(1, m + 1)) -/
theorem sorted_one {K : PySem.W.Frag} {m : Int} {w : List Im} {es : List Int} {M : MM} {Q : D → MM → Prop} (hm : MOk m) (e : w = es.map Im.lit) (q : Q (.bl (deq (.lst ((srtI (es.map absI)).map D.int)) (.lst ((oneTo m).map D.int)))) M) :
    zBin rzEq (zCall rzSort (zaCons (zComp (iSeq K (zVar 1)) (.nm 2) [2] zYes (zCall (rzInt1 fun i => .int (if i < 0 then -i else i)) (zaCons (zVar 2) zaNil))) zaNil)) (zLRg (zRg2 (zC (.int 1)) (zBin rzAdd (zVar 0) (zC (.int 1))))) [some (.int m), some (witD w), none] M Q := by
  subst e
  refine st_bin (st_call1 ?_)
  refine comp_s D.int (fun e => .int (absI e)) es (d := exD es) (fun Q k => k) (.inl (exD_eq es)) (fun e he => ⟨_, rfl, fun Q k => k⟩) ?_
  have ea : (es.map fun e => D.int (absI e)) = (es.map absI).map D.int := by rw [List.map_map]; rfl
  simp only [rzSort, view, ea]
  refine ⟨okDs_ints 40 _, alike_ints _, sortable_ints _, ?_⟩
  simp only [zLRg, zRg2, zC, zBin, zVar, List.getElem?_cons_zero, rzAdd, view, rzEq]
  refine ⟨⟨by omega, by have := hm.2; omega, by omega, by have := hm.1; omega⟩, ?_⟩
  have em : (m + 1 - 1) = m := by omega
  rw [em, sort_ints, rngD_one]
  exact ⟨okDs_ints 59 _, okDs_ints 59 _, q⟩
def g_is_witness (cM : Addr) : SpZ := fun ds M Q => ∃ md d, ds = [md, d] ∧ Kn M md ∧ TupDat M d ∧ (isBet 1 600 md = false → Q (.exc cM [] []) M) ∧ (∀ m, md = .int m → MOk m → Q (.bl (witR m d)) M)
def g_is_exchange (cM : Addr) : SpZ := fun ds M Q => ∃ md d, ds = [md, d] ∧ Kn M md ∧ TupDat M d ∧ (isBet 1 600 md = false → Q (.exc cM [] []) M) ∧ (∀ m, md = .int m → MOk m → Q (.bl (exR m d)) M)
def g_turned (cM cE : Addr) : SpZ := fun ds M Q => ∃ md d, ds = [md, d] ∧ Kn M md ∧ TupDat M d ∧ (isBet 1 600 md = false → Q (.exc cM [] []) M) ∧ (∀ m, md = .int m → MOk m → exR m d = false → Q (.exc cE [] []) M) ∧ (∀ m es, md = .int m → MOk m → d = exD es → Exch m es → ∀ es', IsTurned es es' → Q (exD es') M)
def g_led_literal (cM cW cL : Addr) : SpZ := fun ds M Q => ∃ md d l, ds = [md, d, l] ∧ Kn M md ∧ TupDat M d ∧ Kn M l ∧ (isBet 1 600 md = false → Q (.exc cM [] []) M) ∧ (∀ m, md = .int m → MOk m → witR m d = false → Q (.exc cW [] []) M) ∧ (∀ m w, md = .int m → MOk m → d = witD w → WitOk m w → litR m l = false → Q (.exc cL [] []) M) ∧ (∀ m w i, md = .int m → MOk m → d = witD w → WitOk m w → l = .int i → LitOk m i → Q (imD (imgOf w i)) M)
theorem srt_len : ∀ (ts : Ts) (a : Nat) (m : Nat), ts.Pairwise (fun a b => a.2.natAbs < b.2.natAbs) → (∀ q, q ∈ ts → a < q.2.natAbs ∧ q.2.natAbs ≤ m) → ts.length ≤ m - a
  | [], _, _, _, _ => by simp
  | q :: ts, a, m, h, hq => by
    have h2 := List.pairwise_cons.mp h
    have h3 := hq q List.mem_cons_self
    have ih := srt_len ts q.2.natAbs m h2.2 fun p hp => ⟨h2.1 p hp, (hq p (List.mem_cons_of_mem _ hp)).2⟩
    rw [List.length_cons]; omega
theorem TsOk.len {m : Int} {ts : Ts} (h : TsOk m ts) (hm : 0 ≤ m) : (ts.length : Int) ≤ m := by
  have := srt_len ts 0 m.toNat h.2 fun q hq => by
    obtain ⟨_, h1, h2, h3⟩ := h.1 q hq
    omega
  omega
theorem WitOk.im0 {m : Int} {w : List Im} (h : WitOk m w) : ∀ i, i ∈ w → Im0 i := fun i hi => by
  have := h.2 i hi
  cases i with
  | lit l => exact this.2.2
  | _ => trivial
def g_led_row (cM cW cR : Addr) : SpZ := fun ds M Q => ∃ md d r, ds = [md, d, r] ∧ Kn M md ∧ TupDat M d ∧ RowDat M r ∧ (isBet 1 600 md = false → Q (.exc cM [] []) M) ∧ (∀ m, md = .int m → MOk m → witR m d = false → Q (.exc cW [] []) M) ∧ (∀ m w, md = .int m → MOk m → d = witD w → WitOk m w → rowR m r = false → Q (.exc cR [] []) M) ∧ (∀ m w r0, md = .int m → MOk m → d = witD w → WitOk m w → r = rowD r0 → RowOk m r0 → m ≤ 60 ∧ ∀ r', IsLed w r0 r' → Q (rowD r') M)
def g_led_filling (cM cW cF : Addr) : SpZ := fun ds M Q => ∃ md d f, ds = [md, d, f] ∧ Kn M md ∧ TupDat M d ∧ TupDat M f ∧ (isBet 1 600 md = false → Q (.exc cM [] []) M) ∧ (∀ m, md = .int m → MOk m → witR m d = false → Q (.exc cW [] []) M) ∧ (∀ m w, md = .int m → MOk m → d = witD w → WitOk m w → filR m f = false → Q (.exc cF [] []) M) ∧ (∀ m w f0, md = .int m → MOk m → d = witD w → WitOk m w → f = filD f0 → FilOk m f0 → Q (filD (ledTo w f0)) M)
def g_behind (cM cW : Addr) : SpZ := fun ds M Q => ∃ md d e, ds = [md, d, e] ∧ Kn M md ∧ TupDat M d ∧ TupDat M e ∧ (isBet 1 600 md = false → Q (.exc cM [] []) M) ∧ (∀ m, md = .int m → MOk m → witR m d = false → Q (.exc cW [] []) M) ∧ (∀ m w, md = .int m → MOk m → d = witD w → WitOk m w → witR m e = false → Q (.exc cW [] []) M) ∧ (∀ m w v, md = .int m → MOk m → d = witD w → WitOk m w → e = witD v → WitOk m v → Q (witD (joined w v)) M)
end Zz

set_option Elab.async false
set_option linter.all false
set_option maxRecDepth 100000
set_option maxHeartbeats 1000000
namespace Zz
open PySem PySem.Spec PyProof.Rows L2

theorem kne {x y : Str} (h : x ≠ y) : ¬ (kS x : Key) = kS y := fun e => h (Sum.inr.inj e)
def dr4 (a b c d : D) : List (Key × D) := [(kS "large", a), (kS "cells", b), (kS "left", c), (kS "turn", d)]
theorem n12 : ¬ (kS "large" : Key) = kS "cells" := kne (by decide +kernel)
theorem n13 : ¬ (kS "large" : Key) = kS "left" := kne (by decide +kernel)
theorem n14 : ¬ (kS "large" : Key) = kS "turn" := kne (by decide +kernel)
theorem n23 : ¬ (kS "cells" : Key) = kS "left" := kne (by decide +kernel)
theorem n24 : ¬ (kS "cells" : Key) = kS "turn" := kne (by decide +kernel)
theorem n34 : ¬ (kS "left" : Key) = kS "turn" := kne (by decide +kernel)
theorem v_large (a b c d : D) : valD (dr4 a b c d) (Sum.inr "large") = some a := by show valD (dr4 a b c d) (kS "large") = _; simp [valD, dr4]
theorem v_cells (a b c d : D) : valD (dr4 a b c d) (Sum.inr "cells") = some b := by show valD (dr4 a b c d) (kS "cells") = _; simp [valD, dr4, n12]
theorem v_left (a b c d : D) : valD (dr4 a b c d) (Sum.inr "left") = some c := by show valD (dr4 a b c d) (kS "left") = _; simp [valD, dr4, n13, n23]
theorem v_turn (a b c d : D) : valD (dr4 a b c d) (Sum.inr "turn") = some d := by show valD (dr4 a b c d) (kS "turn") = _; simp [valD, dr4, n14, n24, n34]
theorem p_left (a b c d e : D) : putD (dr4 a b c d) (Sum.inr "left") e = dr4 a b e d := by
  show putD (dr4 a b c d) (kS "left") e = _
  have n43 : ¬ (kS "turn" : Key) = kS "left" := fun h => n34 h.symm
  simp [putD, dr4, n13, n23, n43]
theorem p_turn (a b c d e : D) : putD (dr4 a b c d) (Sum.inr "turn") e = dr4 a b c e := by
  show putD (dr4 a b c d) (kS "turn") e = _
  simp [putD, dr4, n14, n24, n34]
theorem m_dr4 (a b c d : D) : mergeD [] (dr4 a b c d) = dr4 a b c d := by
  simp [mergeD, dr4, putD, n12, n13, n14, n23, n24, n34]
theorem drawD_eq (lp : Addr) (cells : List Int) (left turn : Int) : drawD lp cells left turn = .dic (dr4 (.ref lp) (.lst (cells.map D.int)) (.int left) (.int turn)) := rfl
abbrev most : Nat := 70368744177664
def g__law_begun (K : PySem.W.Frag) : SpZ := fun ds M Q => ∃ a ns, ds = [.kls K a ns] ∧ ns.length ≤ 63 ∧ ∀ st lp, st ≠ lp → M st = none → M lp = none → Q (.ref st) (mu (mu M lp (.hid st)) st (.draw most))
theorem r__law_begun {K : PySem.W.Frag} {c_WitnessError : Addr} {c_BadLiterals : Addr} {c_BadMany : Addr} {c_BadRow : Addr} {P_law : Addr} (ds : List D) (M : MM) (Q : D → MM → Prop) (hl : ds.length = 1) (h : g__law_begun K ds M Q) : t__law_begun K c_WitnessError c_BadLiterals c_BadMany c_BadRow P_law { nx := fun _ M' => Post Q .non M', rt := Post Q } (startZ 4 ds) M := by
  obtain ⟨a, ns, rfl, hn, q⟩ := h
  show t__law_begun K c_WitnessError c_BadLiterals c_BadMany c_BadRow P_law _ [some (.kls K a ns), none, none, none] M
  simp only [t__law_begun, zSeq, zSet, zComp, iSeq, zVar, List.getElem?_cons_zero, true_and]
  refine compGo_all D.int (fun i => .int (absI i)) True.intro ns (fun i hi => ⟨_, rfl, fun Q k => k⟩) ?_
  have ec : (ns.map fun i => D.int (absI i)) = (ns.map absI).map D.int := by rw [List.map_map]; rfl
  simp only [ec, List.set_cons_zero, List.set_cons_succ]
  show iSeq K _ _ _ _
  refine iSeq_of (d := .lst ((ns.map absI).map D.int)) (fun Q k => k) (.inr rfl) ?_
  refine compGo_map D.int (fun i => decide (1000000000000000000 ≤ i)) (fun i => .int (i - 1000000000000000000)) True.intro (ns.map absI) (fun i hi => ⟨_, rfl, fun Q k => ?_, fun _ Q k => ?_⟩) [] ?_
  · exact ⟨by decide, k⟩
  · exact ⟨by decide, k⟩
  intro lp hlp
  generalize hL : ((ns.map absI).filter fun i => decide (1000000000000000000 ≤ i)) = big
  simp only [zRet, zRetN, zSeq, zIfS, zDrop, zSet, zNext, zBin, zUn, zCall, zC, zVar, zTst, zAndV, zOrV, zNotV, zAnd, zOr, zNot, zIf, zaNil, zaCons, zFn, rzI0, rzI, rzInt1, rzInt2, rzNeg, zYes, List.getElem?_cons_zero, List.getElem?_cons_succ, List.set_cons_zero, List.set_cons_succ, rzGt, rzLt, rzGe, rzLe, rzSub, rzMod, rzDiv, rzPow, if_true, if_false, Bool.false_eq_true, if_pos, zDisp, zPairs, keyed, keyD, Option.map_some, List.nil_append]
  refine ⟨by simp, fun st hst => ?_⟩
  have hne : st ≠ lp := fun z => by rw [z, mu_same] at hst; cases hst
  have hst' : M st = none := by rw [mu_ne hne] at hst; exact hst
  have e2 : (big.map fun i => D.int (i - 1000000000000000000)) = (big.map fun i => i - 1000000000000000000).map D.int := by rw [List.map_map]; rfl
  have e3 : mergeD [] [((Sum.inr "large" : Key), D.ref lp), (Sum.inr "cells", .lst ((ns.map absI).map D.int)), (Sum.inr "left", .int 0), (Sum.inr "turn", .int 0)] = dr4 (.ref lp) (.lst ((ns.map absI).map D.int)) (.int 0) (.int 0) := m_dr4 _ _ _ _
  rw [e2, e3]
  have B : DrawB most (big.map fun i => i - 1000000000000000000) (ns.map absI) 0 0 := by
    refine ⟨Int.le_refl _, fun x hx => ?_, fun x hx => ?_, Int.le_refl _, by decide, ?_, by rw [List.length_map]; exact hn⟩
    · obtain ⟨i, hi, rfl⟩ := List.mem_map.mp hx
      rw [← hL] at hi
      have := of_decide_eq_true (List.mem_filter.mp hi).2
      omega
    · obtain ⟨i, _, rfl⟩ := List.mem_map.mp hx
      rw [absI_nat]; omega
    · rw [List.length_map, ← hL]
      exact Nat.le_trans (List.length_filter_le _ _) (by rw [List.length_map]; exact hn)
  refine ⟨.ref st, _, (draw_close (st := st) (lp := lp) hne.symm (by rw [mu_ne hne.symm, mu_same]) mu_same B).conv, ?_⟩
  have e4 : mu (mu (mu (mu M lp (.lst ((big.map fun i => i - 1000000000000000000).map D.int))) st (drawD lp (ns.map absI) 0 0)) lp (.hid st)) st (.draw most) = mu (mu M lp (.hid st)) st (.draw most) := by
    rw [mu_comm hne, mu_mu, mu_mu]
  rw [e4]
  exact q st lp hne hst' hlp

theorem log2_small {i : Int} {k : Nat} (h : i.natAbs < 2 ^ k) : i.natAbs.log2 ≤ k := by
  by_cases h0 : i.natAbs = 0
  · rw [h0]; exact Nat.zero_le _
  · exact Nat.le_of_lt ((Nat.log2_lt h0).mpr h)
def g__law_draw : SpZ := fun ds M Q => ∃ st n b, ds = [.ref st, .int n] ∧ M st = some (.draw (b + 1)) ∧ 0 < n ∧ n ≤ 1000000000 ∧ ∀ x, 0 ≤ x → x < n → Q (.int x) (mu M st (.draw b))
theorem okl_ints (n : Nat) (xs : List Int) : okD (n + 1) (.lst (xs.map D.int)) = true := okDs_ints n xs
theorem deq_nil (xs : List Int) : deq (.lst (xs.map D.int)) (.lst []) = xs.isEmpty := by cases xs <;> rfl
/-- the state within a draw -/
def inDr (M : MM) (st lp : Addr) (large cells : List Int) (left turn : Int) : MM := mu (mu M lp (.lst (large.map D.int))) st (drawD lp cells left turn)
theorem inDr_st {M : MM} {st lp : Addr} {large cells : List Int} {left turn : Int} : inDr M st lp large cells left turn st = some (.dic (dr4 (.ref lp) (.lst (cells.map D.int)) (.int left) (.int turn))) := mu_same
theorem inDr_lp {M : MM} {st lp : Addr} {large cells : List Int} {left turn : Int} (h : lp ≠ st) : inDr M st lp large cells left turn lp = some (.lst (large.map D.int)) := by unfold inDr; rw [mu_ne h, mu_same]
theorem inDr_put {M : MM} {st lp : Addr} {large cells : List Int} {left turn l2 t2 : Int} : mu (inDr M st lp large cells left turn) st (.dic (dr4 (.ref lp) (.lst (cells.map D.int)) (.int l2) (.int t2))) = inDr M st lp large cells l2 t2 := by unfold inDr; rw [mu_mu]; rfl
theorem inDr_pop {M : MM} {st lp : Addr} {large l2 cells : List Int} {left turn : Int} (h : lp ≠ st) : mu (inDr M st lp large cells left turn) lp (.lst (l2.map D.int)) = inDr M st lp l2 cells left turn := by unfold inDr; rw [mu_comm h.symm, mu_mu]
theorem inDr_close {M : MM} {st lp : Addr} {large cells : List Int} {left turn : Int} {b : Nat} (h : lp ≠ st) (hM : M lp = some (.hid st)) (B : DrawB b large cells left turn) : Shift (inDr M st lp large cells left turn) (mu M st (.draw b)) := by
  have := draw_close (st := st) (lp := lp) h (inDr_lp (M := M) (large := large) (cells := cells) (left := left) (turn := turn) h) mu_same B
  have e : mu (mu (inDr M st lp large cells left turn) lp (.hid st)) st (.draw b) = mu M st (.draw b) := by
    unfold inDr
    rw [mu_comm h.symm, mu_mu, mu_mu]
    rw [mu_self hM]
  rwa [e] at this
theorem r__law_draw {K : PySem.W.Frag} {c_WitnessError : Addr} {c_BadLiterals : Addr} {c_BadMany : Addr} {c_BadRow : Addr} {P_law : Addr} (G : Addr → Prop) (H : Hp) (ds : List D) (M : MM) (Q : D → MM → Prop) (rm : RelM G M H) (hl : ds.length = 2) (h : g__law_draw ds M Q) :
    ∃ M0, Ex G M H M0 H ∧ RelM G M0 H ∧ t__law_draw K c_WitnessError c_BadLiterals c_BadMany c_BadRow P_law { nx := fun _ M' => Post Q .non M', rt := Post Q } (startZ 6 ds) M0 := by
  obtain ⟨st, n, b, rfl, hst, hn0, hn1, q⟩ := h
  obtain ⟨lp, large, cells, left, turn, hlp, B, ex, rm0⟩ := draw_open rm hst
  refine ⟨_, ex, rm0, ?_⟩
  have hne : lp ≠ st := fun z => by rw [z, hst] at hlp; cases hlp
  show t__law_draw K c_WitnessError c_BadLiterals c_BadMany c_BadRow P_law _ [some (.ref st), some (.int n), none, none, none, none] (inDr M st lp large cells left turn)
  have dst : ∀ (large cells : List Int) (left turn : Int), dicOf (inDr M st lp large cells left turn) (.ref st) = some (dr4 (.ref lp) (.lst (cells.map D.int)) (.int left) (.int turn)) := fun a b c d => by
    simp only [dicOf, inDr_st]
  have vlp : ∀ (large cells : List Int) (left turn : Int), view (inDr M st lp large cells left turn) (.ref lp) = .lst (large.map D.int) := fun a b c d => by
    simp only [view, inDr_lp hne]
  unfold t__law_draw
  show zWhile _ _ _ _ _
  clear ex rm0
  refine while_of (fun m env M' => ∃ large left, m = large.length ∧ env = [some (.ref st), some (.int n), none, none, none, none] ∧ M' = inDr M st lp large cells left turn ∧ DrawB (b + 1) large cells left turn)
    (fun env M' => ∃ large left, env = [some (.ref st), some (.int n), none, none, none, none] ∧ M' = inDr M st lp large cells left turn ∧ DrawB (b + 1) large cells left turn) ⟨_, large, left, rfl, rfl, rfl, B⟩ ?_ ?_
  · rintro N hN m env M' ⟨large, left, rfl, rfl, rfl, B⟩
    simp only [zRet, zRetN, zSeq, zIfS, zDrop, zSet, zNext, zBin, zUn, zCall, zC, zVar, zTst, zAndV, zOrV, zNotV, zAnd, zOr, zNot, zIf, zaNil, zaCons, zFn, rzI0, rzI, rzInt1, rzInt2, rzNeg, zYes, List.getElem?_cons_zero, List.getElem?_cons_succ, List.set_cons_zero, List.set_cons_succ, rzGt, rzLt, rzGe, rzLe, rzSub, rzMod, rzDiv, rzPow, if_true, if_false, Bool.false_eq_true, if_pos, rzDGet, dst, keyD, v_left, v_large, v_cells, v_turn, rzEq, rzNe, view, ok_int, deq_int, true_and, zLst, inDr_lp hne]
    by_cases h0 : left = 0
    · subst h0
      simp only [decide_true, if_true]
      refine ⟨Nat.zero_le _, okl_ints 59 _, rfl, ?_⟩
      rw [deq_nil]
      cases hL : large with
      | nil =>
        simp only [List.isEmpty_nil, Bool.not_true, Bool.false_eq_true, if_false]
        exact hN _ _ ⟨[], 0, rfl, rfl, by rw [← hL]; exact B⟩
      | cons x xs =>
        have hL2 : large.map D.int = .int x :: xs.map D.int := by rw [hL]; rfl
        rw [hL] at B
        simp only [List.isEmpty_cons, Bool.not_false, if_true, zRet, zRetN, zSeq, zIfS, zDrop, zSet, zNext, zBin, zUn, zCall, zC, zVar, zTst, zAndV, zOrV, zNotV, zAnd, zOr, zNot, zIf, zaNil, zaCons, zFn, rzI0, rzI, rzInt1, rzInt2, rzNeg, zYes, List.getElem?_cons_zero, List.getElem?_cons_succ, List.set_cons_zero, List.set_cons_succ, rzGt, rzLt, rzGe, rzLe, rzSub, rzMod, rzDiv, rzPow, if_true, if_false, Bool.false_eq_true, if_pos, zDPut, zPopAt, rzDGet, dst, keyD, v_left, v_large, v_cells, v_turn, inDr_lp hne]
        refine ⟨⟨_, rfl⟩, by decide, by decide, ?_⟩
        have eer : ((x :: xs).map D.int).eraseIdx (Int.toNat 0) = xs.map D.int := rfl
        rw [eer]
        show match mu (inDr M st lp (x :: xs) cells 0 turn) lp (.lst (xs.map D.int)) st with
          | some (.dic kvs) => _
          | _ => False
        rw [inDr_pop hne, inDr_st]
        show _ ∧ _
        refine ⟨by simp [dr4], xs.length, by simp, xs, x, rfl, trivial, ?_, ?_⟩
        · rw [p_left, inDr_put]
        · obtain ⟨b1, b2, b3, b4, b5, b6, b7⟩ := B
          exact ⟨b2 x (by simp), fun y hy => b2 y (by simp [hy]), b3, b4, b5, by simp at b6; omega, b7⟩
    · simp only [h0, decide_false, Bool.false_eq_true, if_false]
      exact hN _ _ ⟨large, left, rfl, rfl, B⟩
  · rintro env M' ⟨large, left, rfl, rfl, B⟩
    obtain ⟨b1, b2, b3, b4, b5, b6, b7⟩ := id B
    simp only [zRet, zRetN, zSeq, zIfS, zDrop, zSet, zNext, zBin, zUn, zCall, zC, zVar, zTst, zAndV, zOrV, zNotV, zAnd, zOr, zNot, zIf, zaNil, zaCons, zFn, rzI0, rzI, rzInt1, rzInt2, rzNeg, zYes, List.getElem?_cons_zero, List.getElem?_cons_succ, List.set_cons_zero, List.set_cons_succ, rzGt, rzLt, rzGe, rzLe, rzSub, rzMod, rzDiv, rzPow, if_true, if_false, Bool.false_eq_true, if_pos, rzDGet, dst, keyD, v_left, v_large, v_cells, v_turn]
    by_cases h0 : 0 < left
    · simp only [h0, decide_true, if_true, zRet, zRetN, zSeq, zIfS, zDrop, zSet, zNext, zBin, zUn, zCall, zC, zVar, zTst, zAndV, zOrV, zNotV, zAnd, zOr, zNot, zIf, zaNil, zaCons, zFn, rzI0, rzI, rzInt1, rzInt2, rzNeg, zYes, List.getElem?_cons_zero, List.getElem?_cons_succ, List.set_cons_zero, List.set_cons_succ, rzGt, rzLt, rzGe, rzLe, rzSub, rzMod, rzDiv, rzPow, if_true, if_false, Bool.false_eq_true, if_pos, rzInt, zDPut, rzDGet, dst, keyD, v_left, inDr_st, p_left, inDr_put]
      refine ⟨hn0, ⟨hn0, Nat.lt_of_le_of_lt (log2_small (k := 30) (by omega)) (by decide)⟩, by simp [dr4], ?_⟩
      have B' : DrawB b large cells (left / n) turn := ⟨Int.ediv_nonneg b1 (by omega), b2, b3, b4, by omega, b6, b7⟩
      exact ⟨_, _, (inDr_close hne hlp B').conv, q _ (Int.emod_nonneg _ (by omega)) (Int.emod_lt_of_pos _ hn0)⟩
    · simp only [h0, decide_false, Bool.false_eq_true, if_false, zRet, zRetN, zSeq, zIfS, zDrop, zSet, zNext, zBin, zUn, zCall, zC, zVar, zTst, zAndV, zOrV, zNotV, zAnd, zOr, zNot, zIf, zaNil, zaCons, zFn, rzI0, rzI, rzInt1, rzInt2, rzNeg, zYes, List.getElem?_cons_zero, List.getElem?_cons_succ, List.set_cons_zero, List.set_cons_succ, rzGt, rzLt, rzGe, rzLe, rzSub, rzMod, rzDiv, rzPow, if_true, if_false, Bool.false_eq_true, if_pos, rzInt, zDPut, rzDGet, dst, keyD, v_left, v_turn, v_cells, inDr_st, p_turn, inDr_put, rzAdd, view, rzNe, zLst, ok_int]
      refine ⟨by simp [dr4], Nat.zero_le _, okl_ints 59 _, rfl, ?_⟩
      rw [deq_nil]
      have l1 : (40692 : Int).natAbs.log2 + (turn + 1).natAbs.log2 < 1000000 := by
        have h1 := log2_small (i := 40692) (k := 20) (by decide)
        have h2 := log2_small (i := turn + 1) (k := 64) (by omega)
        omega
      have l2 : (104917 : Int).natAbs.log2 + (turn + 1).natAbs.log2 < 1000000 := by
        have h1 := log2_small (i := 104917) (k := 20) (by decide)
        have h2 := log2_small (i := turn + 1) (k := 64) (by omega)
        omega
      have l3 : (0 < (29 : Int)) ∧ (29 : Int).natAbs.log2 < 9000 := ⟨by decide, Nat.lt_of_le_of_lt (log2_small (i := 29) (k := 10) (by decide)) (by decide)⟩
      have B' : DrawB b large cells left (turn + 1) := ⟨b1, b2, b3, by omega, by omega, b6, b7⟩
      have fin : ∀ v : Int, Post Q (.int (v % n)) (inDr M st lp large cells left (turn + 1)) := fun v => ⟨_, _, (inDr_close hne hlp B').conv, q _ (Int.emod_nonneg _ (by omega)) (Int.emod_lt_of_pos _ hn0)⟩
      have c1 : ∀ c : Int, (c % 2147483563 + 40692 * (turn + 1) + 24681).natAbs < 2 ^ 64 := fun c => by
        have h1 := Int.emod_nonneg c (b := 2147483563) (by decide)
        have h2 := Int.emod_lt_of_pos c (b := 2147483563) (by decide)
        omega
      have c2 : ∀ c : Int, (c % 2147483629 + 104917 * (turn + 1)).natAbs < 2 ^ 64 := fun c => by
        have h1 := Int.emod_nonneg c (b := 2147483629) (by decide)
        have h2 := Int.emod_lt_of_pos c (b := 2147483629) (by decide)
        omega
      have p1 : (0 : Int) ≤ 3 ∧ (3 : Int) ≤ 1000000 := by decide
      have p2 : (0 : Int) ≤ 5 ∧ (5 : Int) ≤ 1000000 := by decide
      cases hC : cells with
      | nil =>
        rw [hC] at fin
        simp only [List.isEmpty_nil, Bool.not_true, Bool.false_eq_true, if_false, rzMul, view]
        exact ⟨by decide, l1, ⟨p1.1, p1.2, c1 0⟩, by decide, l2, ⟨p2.1, p2.2, c2 _⟩, by decide, l3, hn0, fin _⟩
      | cons c0 cs =>
        rw [← hC]
        have hlen : 0 < cells.length := by rw [hC]; simp
        have hm := Int.emod_nonneg (turn + 1) (b := (cells.length : Int)) (by omega)
        have hm2 := Int.emod_lt_of_pos (turn + 1) (b := (cells.length : Int)) (by omega)
        have hat : atI (cells.map D.int) ((turn + 1) % (cells.length : Int)) = some (.int (cells.getD ((turn + 1) % (cells.length : Int)).toNat 0)) := by
          refine atI_nat hm ?_
          have hlt : ((turn + 1) % (cells.length : Int)).toNat < cells.length := by omega
          rw [List.getElem?_map, List.getElem?_eq_getElem hlt]
          simp [List.getD_eq_getElem?_getD, List.getElem?_eq_getElem hlt]
        have he : cells.isEmpty = false := by rw [hC]; rfl
        simp only [he, Bool.not_false, if_true, rzMul, view, rzLen, lenOf, List.length_map, rzIx, hat]
        exact ⟨by omega, by decide, l1, ⟨p1.1, p1.2, c1 _⟩, by decide, l2, ⟨p2.1, p2.2, c2 _⟩, by decide, l3, hn0, fin _⟩

/-- fewer draws may come -/
theorem shift_less {M : MM} {st : Addr} {b c : Nat} (h : M st = some (.draw c)) (hb : b ≤ c) : Shift M (mu M st (.draw b)) := fun G H rm => by
  have e1 : ∀ a, a ≠ st → mu M st (.draw b) a = M a := fun a ha => mu_ne ha
  have exA : ∀ a o, H a = some o → M a = none → ¬ G a → H a = some o ∧ mu M st (.draw b) a = none := fun a o h1 h2 _ => ⟨h1, by
    rw [e1 a (fun q => by rw [q, h] at h2; cases h2)]; exact h2⟩
  refine ⟨⟨exA, fun _ _ => rfl⟩, fun a d hc => ?_, fun a g => ?_⟩
  · by_cases ha : a = st
    · subst ha
      rw [mu_same] at hc; cases hc
      obtain ⟨lp, cp, large, cells, left, turn, q1, q2, q3, q4, q5, q6, q7, q8, q9, q10, q11, q12⟩ := rm.1 a _ h
      refine ⟨lp, cp, large, cells, left, turn, q1, ?_, q3, ⟨(exA cp _ q5 q4.1 q4.2).2, q4.2⟩, q5, q6, q7, q8, q9, by omega, q11, q12⟩
      rw [e1 lp (fun q => by rw [q, h] at q2; cases q2)]; exact q2
    · rw [e1 a ha] at hc
      refine (rm.1 a d hc).mono1 exA rfl fun x hx => ⟨?_, rfl⟩
      rw [e1 x (fun q => by rw [q, h] at hx; cases hx)]; exact hx
  · obtain ⟨h1, h2⟩ := rm.2 a g
    exact ⟨by rw [e1 a (fun q => by rw [q, h] at h1; cases h1)]; exact h1, h2⟩
theorem pick_len {K : PySem.W.Frag} {M : MM} {d : D} {xs : List D} {Q : D → MM → Prop} (h : view M d = .lst xs) (k : Q (.int (xs.length : Nat)) M) : rzLen K [d] M Q := by
  cases d with
  | lst ys =>
    obtain rfl : ys = xs := D.lst.inj h
    exact k
  | ref a =>
    simp only [view] at h
    split at h
    · next ys hy =>
      obtain rfl : ys = xs := D.lst.inj h
      simp only [rzLen, lenOf, hy]; exact k
    · cases h
  | _ => cases h
theorem view_mu {M : MM} {d : D} {xs : List D} {st : Addr} {b c : Nat} (h : view M d = .lst xs) (hst : M st = some (.draw b)) : view (mu M st (.draw c)) d = .lst xs := by
  cases d with
  | lst ys => exact h
  | ref a =>
    have ne : a ≠ st := fun e => by subst e; simp only [view, hst] at h; cases h
    simp only [view, mu_ne ne] at h ⊢
    exact h
  | _ => cases h
/-- one of a list's -/
def g__law_pick : SpZ := fun ds M Q => ∃ st xd xs b, ds = [.ref st, xd] ∧ view M xd = .lst xs ∧ M st = some (.draw (b + 1)) ∧ xs ≠ [] ∧ xs.length ≤ 1000000 ∧ ∀ x, x ∈ xs → Q x (mu M st (.draw b))
theorem r__law_pick {K : PySem.W.Frag} {c_WitnessError : Addr} {c_BadLiterals : Addr} {c_BadMany : Addr} {c_BadRow : Addr} {P_law : Addr} (ds : List D) (M : MM) (Q : D → MM → Prop) (hl : ds.length = 2) (h : g__law_pick ds M Q) : t__law_pick K c_WitnessError c_BadLiterals c_BadMany c_BadRow P_law g__law_draw { nx := fun _ M' => Post Q .non M', rt := Post Q } (startZ 2 ds) M := by
  obtain ⟨st, xd, xs, b, rfl, hv, hst, hx, hlen, q⟩ := h
  show t__law_pick K c_WitnessError c_BadLiterals c_BadMany c_BadRow P_law _ _ [some (.ref st), some xd] M
  have hl0 : 0 < xs.length := List.length_pos_iff.mpr hx
  simp only [t__law_pick, zRet, zRetN, zSeq, zIfS, zDrop, zSet, zNext, zBin, zUn, zCall, zC, zVar, zTst, zAndV, zOrV, zNotV, zAnd, zOr, zNot, zIf, zaNil, zaCons, zFn, rzI0, rzI, rzInt1, rzInt2, rzNeg, zYes, List.getElem?_cons_zero, List.getElem?_cons_succ, List.set_cons_zero, List.set_cons_succ, rzGt, rzLt, rzGe, rzLe, rzSub, rzMod, rzDiv, rzPow, if_true, if_false, Bool.false_eq_true, if_pos]
  refine pick_len hv ?_
  refine ⟨rfl, st, xs.length, b, rfl, hst, by omega, by omega, fun x h0 h1 => ?_⟩
  have hlt : x.toNat < xs.length := by omega
  have e : atI xs x = some xs[x.toNat] := atI_nat h0 (List.getElem?_eq_getElem hlt)
  simp only [rzIx, view_mu (c := b) hv hst, e]
  exact .self (q _ (List.getElem_mem hlt))
theorem isEmpty_of {α : Type} {xs : List α} : xs.isEmpty = decide (xs = []) := by cases xs <;> rfl
theorem deq_nilD (xs : List D) : deq (.lst xs) (.lst []) = xs.isEmpty := by cases xs <;> rfl
theorem cons_erase_perm {α : Type} : ∀ {xs : List α} {i : Nat} (h : i < xs.length), (xs[i] :: xs.eraseIdx i).Perm xs
  | x :: xs, 0, _ => List.Perm.refl _
  | x :: xs, i + 1, h => by
    have hi : i < xs.length := by simpa using h
    show (xs[i] :: x :: xs.eraseIdx i).Perm (x :: xs)
    exact (List.Perm.swap _ _ _).trans ((cons_erase_perm hi).cons x)
/-- a list's items in another sequence -/
def g__law_mixed : SpZ := fun ds M Q => ∃ st xs b, ds = [.ref st, .lst xs] ∧ M st = some (.draw (b + xs.length)) ∧ xs.length ≤ 1000 ∧ okDs 59 xs = true ∧ ∀ ys, ys.Perm xs → Q (.lst ys) (mu M st (.draw b))
theorem r__law_mixed {K : PySem.W.Frag} {c_WitnessError : Addr} {c_BadLiterals : Addr} {c_BadMany : Addr} {c_BadRow : Addr} {P_law : Addr} (ds : List D) (M : MM) (Q : D → MM → Prop) (hl : ds.length = 2) (h : g__law_mixed ds M Q) : t__law_mixed K c_WitnessError c_BadLiterals c_BadMany c_BadRow P_law g__law_draw { nx := fun _ M' => Post Q .non M', rt := Post Q } (startZ 4 ds) M := by
  obtain ⟨st, xs, b, rfl, hst, hlen, hok, q⟩ := h
  show t__law_mixed K c_WitnessError c_BadLiterals c_BadMany c_BadRow P_law _ _ [some (.ref st), some (.lst xs), none, none] M
  unfold t__law_mixed
  simp only [zSeq, zPar, zaCons, zaNil, zCall, rzListN, zVar, List.getElem?_cons_zero, List.getElem?_cons_succ, seqOf, view, zLstN]
  intro pl hpl
  refine ⟨Nat.zero_le _, fun pf hpf => ?_⟩
  have hlf : pf ≠ pl := fun z => by rw [z, mu_same] at hpf; cases hpf
  have hpf' : M pf = none := by rw [mu_ne hlf] at hpf; exact hpf
  have hsl : st ≠ pl := fun z => by rw [z, hpl] at hst; cases hst
  have hsf : st ≠ pf := fun z => by rw [z, hpf'] at hst; cases hst
  simp only [List.map_cons, List.map_nil, bindTs, bindT, Option.bind_some, List.set_cons_zero, List.set_cons_succ]
  let MM' : List D → List D → Nat → MM := fun ls fs c => mu (mu (mu M pl (.lst ls)) pf (.lst fs)) st (.draw c)
  have e0 : mu (mu M pl (.lst xs)) pf (.lst []) = MM' xs [] (b + xs.length) := by
    show _ = mu (mu (mu M pl (.lst xs)) pf (.lst [])) st (.draw (b + xs.length))
    rw [mu_self (M := mu (mu M pl (.lst xs)) pf (.lst []))]
    rw [mu_ne hsf, mu_ne hsl]; exact hst
  rw [e0]
  refine while_of (fun m env M' => ∃ ls fs, m = ls.length ∧ env = [some (.ref st), some (.lst xs), some (.ref pl), some (.ref pf)] ∧ M' = MM' ls fs (b + ls.length) ∧ (fs ++ ls).Perm xs)
    (fun env M' => ∃ fs, env = [some (.ref st), some (.lst xs), some (.ref pl), some (.ref pf)] ∧ M' = MM' [] fs b ∧ fs.Perm xs) ⟨_, xs, [], rfl, rfl, rfl, List.Perm.refl _⟩ ?_ ?_
  · rintro N hN m env M' ⟨ls, fs, rfl, rfl, rfl, hp⟩
    have m1 : ∀ ls fs c, MM' ls fs c pl = some (.lst ls) := fun ls fs c => by show mu (mu (mu M pl _) pf _) st _ pl = _; rw [mu_ne hsl.symm, mu_ne hlf.symm, mu_same]
    have m2 : ∀ ls fs c, MM' ls fs c pf = some (.lst fs) := fun ls fs c => by show mu (mu (mu M pl _) pf _) st _ pf = _; rw [mu_ne hsf.symm, mu_same]
    have m3 : ∀ ls fs c, MM' ls fs c st = some (.draw c) := fun ls fs c => mu_same
    have okl : okDs 59 ls = true := okDs_all fun x hx => by
      have : x ∈ xs := hp.mem_iff.mp (List.mem_append_right _ hx)
      exact okDs_mem hok x this
    simp only [zRet, zRetN, zSeq, zIfS, zDrop, zSet, zNext, zBin, zUn, zCall, zC, zVar, zTst, zAndV, zOrV, zNotV, zAnd, zOr, zNot, zIf, zaNil, zaCons, zFn, rzI0, rzI, rzInt1, rzInt2, rzNeg, zYes, List.getElem?_cons_zero, List.getElem?_cons_succ, List.set_cons_zero, List.set_cons_succ, rzGt, rzLt, rzGe, rzLe, rzSub, rzMod, rzDiv, rzPow, if_true, if_false, Bool.false_eq_true, if_pos, rzNe, view, m1, zLst, true_and]
    refine ⟨Nat.zero_le _, okl, rfl, ?_⟩
    rw [deq_nilD]
    cases hL : ls with
    | nil =>
      simp only [List.isEmpty_nil, Bool.not_true, Bool.false_eq_true, if_false]
      rw [hL] at hp
      rw [List.append_nil] at hp
      exact hN _ _ ⟨fs, rfl, rfl, hp⟩
    | cons y ys =>
      rw [← hL]
      have he : ls.isEmpty = false := by rw [hL]; rfl
      have hl0 : 0 < ls.length := by rw [hL]; simp
      have hle : ls.length ≤ 1000 := by
        have := hp.length_eq; rw [List.length_append] at this; omega
      simp only [he, Bool.not_false, if_true, zRet, zRetN, zSeq, zIfS, zDrop, zSet, zNext, zBin, zUn, zCall, zC, zVar, zTst, zAndV, zOrV, zNotV, zAnd, zOr, zNot, zIf, zaNil, zaCons, zFn, rzI0, rzI, rzInt1, rzInt2, rzNeg, zYes, List.getElem?_cons_zero, List.getElem?_cons_succ, List.set_cons_zero, List.set_cons_succ, rzGt, rzLt, rzGe, rzLe, rzSub, rzMod, rzDiv, rzPow, if_true, if_false, Bool.false_eq_true, if_pos, zAppend, zPopAt, m1, m2, rzLen, lenOf]
      refine ⟨⟨_, rfl⟩, ⟨_, rfl⟩, rfl, st, ls.length, b + (ls.length - 1), rfl, ?_, by omega, by omega, fun x h0 h1 => ?_⟩
      · rw [m3]; congr 2; omega
      have hlt : x.toNat < ls.length := by omega
      have e1 : mu (MM' ls fs (b + ls.length)) st (.draw (b + (ls.length - 1))) = MM' ls fs (b + (ls.length - 1)) := by show mu (mu (mu (mu M pl _) pf _) st _) st _ = _; rw [mu_mu]
      have e2 : ∀ c l2, mu (MM' ls fs c) pl (.lst l2) = MM' l2 fs c := fun c l2 => by
        show mu (mu (mu (mu M pl _) pf _) st _) pl _ = mu (mu (mu M pl _) pf _) st _
        rw [mu_comm hsl, mu_comm hlf, mu_mu]
      have e3 : ∀ c l2 f2, mu (MM' l2 fs c) pf (.lst f2) = MM' l2 f2 c := fun c l2 f2 => by
        show mu (mu (mu (mu M pl _) pf _) st _) pf _ = mu (mu (mu M pl _) pf _) st _
        rw [mu_comm hsf, mu_mu]
      have hp' : (fs ++ [ls[x.toNat]] ++ ls.eraseIdx x.toNat).Perm xs := by
        rw [List.append_assoc]
        refine List.Perm.trans (List.Perm.append_left fs ?_) hp
        exact cons_erase_perm hlt
      simp only [e1, m1, List.getElem?_eq_getElem hlt, e2, m2, e3]
      refine ⟨h0, by omega, ?_, ls.length - 1, by omega, ls.eraseIdx x.toNat, fs ++ [ls[x.toNat]], ?_, ?_, hp'⟩
      · have := hp.length_eq; rw [List.length_append] at this; omega
      · rw [List.length_eraseIdx_of_lt hlt]
      · rw [List.length_eraseIdx_of_lt hlt]
  · rintro env M' ⟨fs, rfl, rfl, hp⟩
    simp only [zRet, zRetN, zSeq, zIfS, zDrop, zSet, zNext, zBin, zUn, zCall, zC, zVar, zTst, zAndV, zOrV, zNotV, zAnd, zOr, zNot, zIf, zaNil, zaCons, zFn, rzI0, rzI, rzInt1, rzInt2, rzNeg, zYes, List.getElem?_cons_zero, List.getElem?_cons_succ, List.set_cons_zero, List.set_cons_succ, rzGt, rzLt, rzGe, rzLe, rzSub, rzMod, rzDiv, rzPow, if_true, if_false, Bool.false_eq_true, if_pos]
    refine ⟨.lst fs, mu M st (.draw b), ?_, q fs hp⟩
    have e1 : MM' [] fs b = mu (mu (mu M st (.draw b)) pl (.lst [])) pf (.lst fs) := by
      show mu (mu (mu M pl _) pf _) st _ = _
      rw [mu_comm hsf.symm, mu_comm hsl.symm]
    rw [e1]
    refine (conv_lst ?_).trans (shift_drop ?_ (c := .lst []) True.intro).conv
    · rw [mu_ne hlf, mu_ne hsf.symm]; exact hpf'
    · rw [mu_ne hsl.symm]; exact hpl

def g__law_fillings : SpZ := fun ds M Q => ∃ m, ds = [.int m] ∧ 0 ≤ m ∧ m ≤ 6 ∧ ∀ fs : List (List Int), fs ≠ [] → fs.length ≤ 64 → (∀ f, f ∈ fs → FilOk m f) → (∀ f, FilOk m f → f ∈ fs) → Q (.lst (fs.map filD)) M
theorem alike_fils (fs : List (List Int)) : PySem.W.AllAlike ((fs.map filD).map toPy) := by
  rw [List.map_map]
  refine PySem.W.AllAlike.of fun a b => ?_
  show PySem.W.alike (toPy (filD a)) (toPy (filD b)) = true
  have e : ∀ f : List Int, toPy (filD f) = .tuple (f.map PyData.int) := fun f => by
    unfold filD; rw [toPy, toPys_map, List.map_map]; rfl
  rw [e, e]
  exact PySem.W.alike_ints a b
theorem r__law_fillings {K : PySem.W.Frag} {c_WitnessError : Addr} {c_BadLiterals : Addr} {c_BadMany : Addr} {c_BadRow : Addr} {P_law : Addr} (ds : List D) (M : MM) (Q : D → MM → Prop) (hl : ds.length = 1) (h : g__law_fillings ds M Q) : t__law_fillings K c_WitnessError c_BadLiterals c_BadMany c_BadRow P_law { nx := fun _ M' => Post Q .non M', rt := Post Q } (startZ 4 ds) M := by
  obtain ⟨m, rfl, h0, h6, q⟩ := h
  show t__law_fillings K c_WitnessError c_BadLiterals c_BadMany c_BadRow P_law _ [some (.int m), none, none, none] M
  simp only [t__law_fillings, zSeq, zSet, zLst, zTup, zaCons, zaNil]
  refine ⟨by simp, by simp, ?_⟩
  show zFor _ _ _ _ [some (.int m), some (.lst [.tup []]), none, none] M
  refine ⟨by omega, by omega, ?_⟩
  refine forGo_ind _ (fun i env M' => ∃ (fs : List (List Int)) (e2 : Option D), env = [some (.int m), some (.lst (fs.map filD)), e2, none] ∧ M' = M ∧ fs ≠ [] ∧ fs.length = 2 ^ i ∧ (∀ f, f ∈ fs → f.length = i ∧ ∀ x, x ∈ f → x = 0 ∨ x = 1) ∧ ∀ f : List Int, f.length = i → (∀ x, x ∈ f → x = 0 ∨ x = 1) → f ∈ fs) ?_ ?_ _ _ ?_
  · rintro i x env M' hx ⟨fs, e2, rfl, rfl, hne, hl, hf, hall⟩
    have hi : i < 6 := by
      have := (List.getElem?_eq_some_iff.mp hx).1
      simp [rngD] at this; omega
    have hl64 : fs.length ≤ 32 := by
      rw [hl]; calc 2 ^ i ≤ 2 ^ 5 := Nat.pow_le_pow_right (by decide) (by omega)
        _ = 32 := by decide
    refine ⟨_, rfl, fun K' hK => ?_⟩
    have half : ∀ (c : Int) (QQ : D → MM → Prop), QQ (.lst ((fs.map (· ++ [c])).map filD)) M' → zComp (iSeq K (zVar 1)) (.nm 3) [3] zYes (zBin rzAdd (zVar 3) (zTup (zaCons (zC (.int c)) zaNil))) [some (.int m), some (.lst (fs.map filD)), some x, none] M' QQ := by
      intro c QQ k
      refine comp_s filD (fun f => filD (f ++ [c])) fs (d := .lst (fs.map filD)) (fun Q k => k) (.inr rfl) (fun f hf' => ⟨_, rfl, fun Q k => ⟨by simp, ?_⟩⟩) ?_
      · have hfl := (hf f hf').1
        simp only [rzAdd, filD, view, List.length_map]
        refine ⟨by simp; omega, ?_⟩
        have : f.map D.int ++ [D.int c] = (f ++ [c]).map D.int := by rw [List.map_append]; rfl
        rw [this]; exact k
      · rw [List.map_map] at k; exact k
    refine st_set (st_call1 (st_bin ?_))
    refine half 0 _ ?_
    refine half 1 _ ?_
    simp only [rzAdd, view]
    refine ⟨by simp only [List.length_map]; omega, ?_⟩
    have em : ((fs.map (· ++ [0])).map filD) ++ ((fs.map (· ++ [1])).map filD) = (fs.map (· ++ [0]) ++ fs.map (· ++ [1])).map filD := by rw [List.map_append]
    rw [em]
    generalize hg : fs.map (· ++ [0]) ++ fs.map (· ++ [1]) = gs
    have hgl : gs.length = 2 ^ (i + 1) := by rw [← hg, List.length_append, List.length_map, List.length_map, hl, Nat.pow_succ]; omega
    have hgf : ∀ f, f ∈ gs → f.length = i + 1 ∧ ∀ x, x ∈ f → x = 0 ∨ x = 1 := fun f hf' => by
      rw [← hg, List.mem_append, List.mem_map, List.mem_map] at hf'
      rcases hf' with ⟨a, ha, rfl⟩ | ⟨a, ha, rfl⟩
      · refine ⟨by rw [List.length_append, (hf a ha).1]; rfl, fun x hx => ?_⟩
        rw [List.mem_append, List.mem_singleton] at hx
        rcases hx with hx | rfl
        · exact (hf a ha).2 x hx
        · exact .inl rfl
      · refine ⟨by rw [List.length_append, (hf a ha).1]; rfl, fun x hx => ?_⟩
        rw [List.mem_append, List.mem_singleton] at hx
        rcases hx with hx | rfl
        · exact (hf a ha).2 x hx
        · exact .inr rfl
    have hga : ∀ f : List Int, f.length = i + 1 → (∀ x, x ∈ f → x = 0 ∨ x = 1) → f ∈ gs := fun f hl hf' => by
      have hne' : f ≠ [] := fun z => by rw [z] at hl; simp at hl
      have e := List.dropLast_concat_getLast hne'
      have hd : f.dropLast ∈ fs := hall _ (by rw [List.length_dropLast]; omega) fun x hx => hf' x (List.dropLast_subset f hx)
      rw [← hg, List.mem_append, List.mem_map, List.mem_map]
      rcases hf' _ (List.getLast_mem hne') with h0 | h1
      · exact .inl ⟨_, hd, by rw [← h0]; exact e⟩
      · exact .inr ⟨_, hd, by rw [← h1]; exact e⟩
    simp only [rzSort, view]
    refine ⟨okDs_all fun x hx => ?_, alike_fils gs, ?_, ?_⟩
    · obtain ⟨f, _, rfl⟩ := List.mem_map.mp hx
      exact okDs_ints 39 f
    · rw [List.map_map]
      refine .inl fun d hd => ?_
      obtain ⟨f, hf', rfl⟩ := List.mem_map.mp hd
      have := (hgf f hf').1
      cases f with
      | nil => simp at this
      | cons y ys => exact ⟨.int y, toPys (ys.map D.int), by show toPy (filD (y :: ys)) = _; unfold filD; rw [toPy]; rfl⟩
    · have es : (gs.map filD).mergeSort (PySem.W.dataLe false toPy) = (gs.mergeSort (fun a b => PySem.W.dataLe false toPy (filD a) (filD b))).map filD :=
        (List.map_mergeSort (f := filD) fun _ _ _ _ => rfl).symm
      rw [es]
      refine ⟨True.intro, hK _ _ ⟨_, _, rfl, rfl, fun z => ?_, by rw [List.length_mergeSort]; exact hgl, fun f hf' => hgf f (List.mem_mergeSort.mp hf'), fun f h1 h2 => List.mem_mergeSort.mpr (hga f h1 h2)⟩⟩
      have := congrArg List.length z
      rw [List.length_mergeSort, hgl] at this
      have := Nat.two_pow_pos (i + 1)
      simp at *
  · rintro env M' ⟨fs, e2, rfl, rfl, hne, hl, hf, hall⟩
    have hm : (rngD 0 m.toNat).length = m.toNat := by simp [rngD]
    rw [hm] at hl hf hall
    simp only [zRet, zRetN, zSeq, zIfS, zDrop, zSet, zNext, zBin, zUn, zCall, zC, zVar, zTst, zAndV, zOrV, zNotV, zAnd, zOr, zNot, zIf, zaNil, zaCons, zFn, rzI0, rzI, rzInt1, rzInt2, rzNeg, zYes, List.getElem?_cons_zero, List.getElem?_cons_succ, List.set_cons_zero, List.set_cons_succ, rzGt, rzLt, rzGe, rzLe, rzSub, rzMod, rzDiv, rzPow, if_true, if_false, Bool.false_eq_true, if_pos]
    refine .self (q fs hne ?_ (fun f hf' => ⟨by have := (hf f hf').1; omega, (hf f hf').2⟩) fun f hf' => hall f (by have := hf'.1; omega) hf'.2)
    rw [hl]; calc 2 ^ m.toNat ≤ 2 ^ 6 := Nat.pow_le_pow_right (by decide) (by omega)
      _ = 64 := by decide
  · exact ⟨[[]], none, rfl, rfl, by simp, rfl, fun f hf => by
      rw [List.mem_singleton] at hf; subst hf; exact ⟨rfl, fun x hx => by simp at hx⟩, fun f hl _ => by
      rw [List.length_eq_zero_iff.mp hl]; simp⟩
def g__law_worth : SpZ := g_worth_of
theorem r__law_worth {K : PySem.W.Frag} {c_WitnessError : Addr} {c_BadLiterals : Addr} {c_BadMany : Addr} {c_BadRow : Addr} {P_law : Addr} (ds : List D) (M : MM) (Q : D → MM → Prop) (hl : ds.length = 2) (h : g__law_worth ds M Q) : t__law_worth K c_WitnessError c_BadLiterals c_BadMany c_BadRow P_law { nx := fun _ M' => Post Q .non M', rt := Post Q } (startZ 2 ds) M := by
  obtain ⟨l, f, rfl, hl', q⟩ := h
  show t__law_worth K c_WitnessError c_BadLiterals c_BadMany c_BadRow P_law _ [some (.int l), some (filD f)] M
  have e := at_D (g := D.int) (d := 0) hl'
  simp only [t__law_worth, zRet, zRetN, zSeq, zIfS, zDrop, zSet, zNext, zBin, zUn, zCall, zC, zVar, zTst, zAndV, zOrV, zNotV, zAnd, zOr, zNot, zIf, zaNil, zaCons, zFn, rzI0, rzI, rzInt1, rzInt2, rzNeg, zYes, List.getElem?_cons_zero, List.getElem?_cons_succ, List.set_cons_zero, List.set_cons_succ, rzGt, rzLt, rzGe, rzLe, rzSub, rzMod, rzDiv, rzPow, if_true, if_false, Bool.false_eq_true, if_pos, rzIx, filD, view]
  unfold worth at q
  by_cases h0 : 0 < l
  · have ea : l - 1 = absI l - 1 := by rw [absI_nat]; omega
    simp only [h0, decide_true, if_true, ea, e] at q ⊢; exact .self q
  · have ea : 0 - l - 1 = absI l - 1 := by rw [absI_nat]; omega
    simp only [h0, decide_false, Bool.false_eq_true, if_false, ea, e] at q ⊢; exact .self q
def g__law_comes : SpZ := fun ds M Q => ∃ ts f, ds = [.tup (tsD ts), filD f] ∧ LitsIn f.length ts ∧ Q (.int (comes ts f)) M
theorem r__law_comes {K : PySem.W.Frag} {c_WitnessError : Addr} {c_BadLiterals : Addr} {c_BadMany : Addr} {c_BadRow : Addr} {P_law : Addr} (ds : List D) (M : MM) (Q : D → MM → Prop) (hl : ds.length = 2) (h : g__law_comes ds M Q) : t__law_comes K c_WitnessError c_BadLiterals c_BadMany c_BadRow P_law g__law_worth { nx := fun _ M' => Post Q .non M', rt := Post Q } (startZ 4 ds) M := by
  obtain ⟨ts, f, rfl, hr, q⟩ := h
  show t__law_comes K c_WitnessError c_BadLiterals c_BadMany c_BadRow P_law _ _ [some (.tup (tsD ts)), some (filD f), none, none] M
  unfold t__law_comes
  show zCall _ _ _ _ _
  refine sum_f prD (fun q => q.1) (fun q => decide (worth q.2 f = 1)) ts (d := .tup (tsD ts)) (fun Q k => k) (.inl rfl) (fun q hq => ⟨_, rfl, fun Q k => ?_, fun _ Q k => k⟩) ?_
  · refine ⟨rfl, q.2, f, rfl, hr q hq, ?_⟩
    show _ ∧ _ ∧ _
    simp only [view, ok_int, deq_int, true_and]
    exact k
  · exact .self q
def g__law_holds : SpZ := g_holds_at
theorem r__law_holds {K : PySem.W.Frag} {c_WitnessError : Addr} {c_BadLiterals : Addr} {c_BadMany : Addr} {c_BadRow : Addr} {P_law : Addr} (ds : List D) (M : MM) (Q : D → MM → Prop) (hl : ds.length = 2) (h : g__law_holds ds M Q) : t__law_holds K c_WitnessError c_BadLiterals c_BadMany c_BadRow P_law g__law_comes { nx := fun _ M' => Post Q .non M', rt := Post Q } (startZ 2 ds) M := by
  obtain ⟨r, f, rfl, hr, q⟩ := h
  show t__law_holds K c_WitnessError c_BadLiterals c_BadMany c_BadRow P_law _ _ [some (rowD r), some (filD f)] M
  simp only [t__law_holds, zRet, zRetN, zSeq, zIfS, zDrop, zSet, zNext, zBin, zUn, zCall, zC, zVar, zTst, zAndV, zOrV, zNotV, zAnd, zOr, zNot, zIf, zaNil, zaCons, zFn, rzI0, rzI, rzInt1, rzInt2, rzNeg, zYes, List.getElem?_cons_zero, List.getElem?_cons_succ, List.set_cons_zero, List.set_cons_succ, rzGt, rzLt, rzGe, rzLe, rzSub, rzMod, rzDiv, rzPow, if_true, if_false, Bool.false_eq_true, if_pos]
  exact ⟨rfl, r.1, f, rfl, hr, .self q⟩
def g__law_led : SpZ := g_led_to
/-! ### drawn terms, rows, witnesses, exchanges -/
/-- a list that grows while draws come -/
def gro (M : MM) (pf st : Addr) (ls : List D) (c : Nat) : MM := mu (mu M pf (.lst ls)) st (.draw c)
section
variable {M : MM} {pf st : Addr} {ls l2 : List D} {c b : Nat}
theorem gro_st : gro M pf st ls c st = some (.draw c) := mu_same
theorem gro_pf (h : st ≠ pf) : gro M pf st ls c pf = some (.lst ls) := by unfold gro; rw [mu_ne h.symm, mu_same]
theorem gro_draw : mu (gro M pf st ls c) st (.draw b) = gro M pf st ls b := by unfold gro; rw [mu_mu]
theorem gro_put (h : st ≠ pf) : mu (gro M pf st ls c) pf (.lst l2) = gro M pf st l2 c := by unfold gro; rw [mu_comm h, mu_mu]
theorem gro_new (h : st ≠ pf) (hM : M st = some (.draw c)) : mu M pf (.lst ls) = gro M pf st ls c := by unfold gro; rw [mu_self (M := mu M pf (.lst ls))]; rw [mu_ne h]; exact hM
theorem gro_out (h : st ≠ pf) (hp : M pf = none) (hb : b ≤ c) : Shift (gro M pf st ls c) (mu M st (.draw b)) := by
  have h1 : Shift (gro M pf st ls c) (mu M st (.draw c)) := by
    have e : gro M pf st ls c = mu (mu M st (.draw c)) pf (.lst ls) := by unfold gro; rw [mu_comm h.symm]
    rw [e]
    exact shift_drop (by rw [mu_ne h.symm]; exact hp) True.intro
  have h2 : Shift (mu M st (.draw c)) (mu (mu M st (.draw c)) st (.draw b)) := shift_less mu_same hb
  rw [mu_mu] at h2
  exact h1.trans h2
end
theorem TsOk.snoc {m : Int} {ts : Ts} {q : Int × Int} (h : TsOk m ts) (hq : 1 ≤ q.1 ∧ LitOk m q.2) (hb : ∀ p, p ∈ ts → p.2.natAbs < q.2.natAbs) : TsOk m (ts ++ [q]) := by
  refine ⟨fun p hp => ?_, List.pairwise_append.mpr ⟨h.2, List.pairwise_singleton _ _, fun a ha b hb' => ?_⟩⟩
  · rw [List.mem_append, List.mem_singleton] at hp
    rcases hp with hp | rfl
    · exact h.1 p hp
    · exact hq
  · rw [List.mem_singleton] at hb'; subst hb'; exact hb a ha
def g__law_terms : SpZ := fun ds M Q => ∃ st m mo b, ds = [.ref st, .int m, .int mo] ∧ M st = some (.draw (b + 19)) ∧ 1 ≤ m ∧ m ≤ 6 ∧ 1 ≤ mo ∧ mo ≤ 1000 ∧ ∀ ts, TsOk m ts → (∀ q, q ∈ ts → q.1 ≤ mo) → Q (.tup (tsD ts)) (mu M st (.draw b))
theorem r__law_terms {K : PySem.W.Frag} {c_WitnessError : Addr} {c_BadLiterals : Addr} {c_BadMany : Addr} {c_BadRow : Addr} {P_law : Addr} (ds : List D) (M : MM) (Q : D → MM → Prop) (hl : ds.length = 3) (h : g__law_terms ds M Q) : t__law_terms K c_WitnessError c_BadLiterals c_BadMany c_BadRow P_law g__law_draw { nx := fun _ M' => Post Q .non M', rt := Post Q } (startZ 7 ds) M := by
  obtain ⟨st, m, mo, b, rfl, hst, hm1, hm6, hmo1, hmo2, q⟩ := h
  show t__law_terms K c_WitnessError c_BadLiterals c_BadMany c_BadRow P_law _ _ [some (.ref st), some (.int m), some (.int mo), none, none, none, none] M
  unfold t__law_terms
  refine st_seq ?_
  simp only [zPar, zaCons, zaNil, zLstN]
  refine ⟨Nat.zero_le _, fun pf hpf => ?_⟩
  have hne : st ≠ pf := fun z => by rw [z, hpf] at hst; cases hst
  rw [gro_new hne hst]
  simp only [zFn, zaCons, zaNil, zVar, zC, List.getElem?_cons_zero, List.getElem?_cons_succ]
  refine ⟨rfl, st, 4, b + 18, rfl, gro_st, by decide, by decide, fun way hw0 hw1 => ?_⟩
  rw [gro_draw]
  simp only [List.map_cons, List.map_nil, bindTs, bindT, Option.bind_some, List.set_cons_zero, List.set_cons_succ]
  refine st_seq ?_
  simp only [zFor, iRange2, zC, zBin, zVar, List.getElem?_cons_zero, List.getElem?_cons_succ, rzAdd, view]
  refine ⟨by decide, by decide, by omega, by omega, by omega, ?_⟩
  have em : (m + 1 - 1) = m := by omega
  rw [em]
  have hrl : (rngD 1 m.toNat).length = m.toNat := by simp [rngD]
  refine forGo_ind _ (fun i env M' => ∃ (ts : Ts) (c : Nat) (e5 e6 : Option D), env = [some (.ref st), some (.int m), some (.int mo), some (.ref pf), some (.int way), e5, e6] ∧ M' = gro M pf st (tsD ts) c ∧ b + 3 * (6 - i) ≤ c ∧ TsOk m ts ∧ (∀ q, q ∈ ts → q.1 ≤ mo ∧ q.2.natAbs ≤ i) ∧ ts.length ≤ i) ?_ ?_ _ _ ?_
  · rintro i x env M' hx ⟨ts, c, e5, e6, rfl, rfl, hc, ht, hts, htl⟩
    have hi : i < m.toNat := by have := (List.getElem?_eq_some_iff.mp hx).1; omega
    obtain rfl : x = .int (1 + (i : Int)) := by
      simp only [rngD, List.getElem?_map, List.getElem?_range hi, Option.map_some, Option.some.injEq] at hx
      exact hx.symm
    refine ⟨_, rfl, fun K' hK => ?_⟩
    have hlen : (tsD ts).length < 10000000 := by unfold tsD; rw [List.length_map]; omega
    have skip : ∀ c', b + 3 * (6 - (i + 1)) ≤ c' → True ∧ K' [some (.ref st), some (.int m), some (.int mo), some (.ref pf), some (.int way), some (.int (1 + (i : Int))), e6] (gro M pf st (tsD ts) c') := fun c' hc' =>
      ⟨trivial, hK _ _ ⟨ts, c', _, _, rfl, rfl, hc', ht, fun q hq => ⟨(hts q hq).1, by have := (hts q hq).2; omega⟩, by omega⟩⟩
    have put : ∀ (c' : Nat) (w l : Int), b + 3 * (6 - (i + 1)) ≤ c' → 1 ≤ w → w ≤ mo → l = 1 + (i : Int) ∨ l = -(1 + (i : Int)) → True ∧ K' [some (.ref st), some (.int m), some (.int mo), some (.ref pf), some (.int way), some (.int (1 + (i : Int))), some (.int w)] (gro M pf st (tsD ts ++ [.tup [.int w, .int l]]) c') := by
      intro c' w l hc' hw1 hw2 hl
      rw [tsD_snoc]
      refine ⟨trivial, hK _ _ ⟨_, c', _, _, rfl, rfl, hc', ht.snoc ⟨hw1, ?_⟩ fun p hp => ?_, fun q hq => ?_, by simp; omega⟩⟩
      · refine ⟨?_, ?_, ?_⟩ <;> (show _; rcases hl with rfl | rfl <;> simp <;> omega)
      · have := (hts p hp).2
        show p.2.natAbs < l.natAbs
        rcases hl with rfl | rfl <;> omega
      · rw [List.mem_append, List.mem_singleton] at hq
        rcases hq with hq | rfl
        · exact ⟨(hts q hq).1, by have := (hts q hq).2; omega⟩
        · exact ⟨hw2, by show l.natAbs ≤ i + 1; rcases hl with rfl | rfl <;> omega⟩
    -- the weight and the sign
    have body : ∀ c', b + 2 + 3 * (6 - (i + 1)) ≤ c' → zSeq (zSet 6 (zIf (zTst (zBin rzEq (zVar 4) (zC (.int 1)))) (zC (.int 1)) (zBin rzAdd (zC (.int 1)) (zFn 2 g__law_draw (zaCons (zVar 0) (zaCons (zVar 2) zaNil)))))) (zDrop (zAppend (zVar 3) (zaCons (zTup (zaCons (zVar 6) (zaCons (zIf (zTst (zBin rzEq (zFn 2 g__law_draw (zaCons (zVar 0) (zaCons (zC (.int 2)) zaNil))) (zC (.int 0)))) (zVar 5) (zBin rzSub (zC (.int 0)) (zVar 5))) zaNil))) zaNil)))
        { nx := fun e M' => True ∧ K' e M', rt := Post Q, bk := zRet (zCall rzTuple (zaCons (zVar 3) zaNil)) { nx := fun x M' => Post Q D.non M', rt := Post Q }, ct := fun e M' => True ∧ K' e M' }
        [some (.ref st), some (.int m), some (.int mo), some (.ref pf), some (.int way), some (.int (1 + (i : Int))), e6] (gro M pf st (tsD ts) c') := by
      intro c' hc'
      have fin : ∀ (w : Int) (c2 : Nat), b + 1 + 3 * (6 - (i + 1)) ≤ c2 → 1 ≤ w → w ≤ mo → zDrop (zAppend (zVar 3) (zaCons (zTup (zaCons (zVar 6) (zaCons (zIf (zTst (zBin rzEq (zFn 2 g__law_draw (zaCons (zVar 0) (zaCons (zC (.int 2)) zaNil))) (zC (.int 0)))) (zVar 5) (zBin rzSub (zC (.int 0)) (zVar 5))) zaNil))) zaNil))
          { nx := fun e M' => True ∧ K' e M', rt := Post Q, bk := zRet (zCall rzTuple (zaCons (zVar 3) zaNil)) { nx := fun x M' => Post Q D.non M', rt := Post Q }, ct := fun e M' => True ∧ K' e M' }
          [some (.ref st), some (.int m), some (.int mo), some (.ref pf), some (.int way), some (.int (1 + (i : Int))), some (.int w)] (gro M pf st (tsD ts) c2) := by
        intro w c2 hc2 hw1 hw2
        simp only [zRet, zRetN, zSeq, zIfS, zDrop, zSet, zNext, zBin, zUn, zCall, zC, zVar, zTst, zAndV, zOrV, zNotV, zAnd, zOr, zNot, zIf, zaNil, zaCons, zFn, rzI0, rzI, rzInt1, rzInt2, rzNeg, zYes, List.getElem?_cons_zero, List.getElem?_cons_succ, List.set_cons_zero, List.set_cons_succ, rzGt, rzLt, rzGe, rzLe, rzSub, rzMod, rzDiv, rzPow, if_true, if_false, Bool.false_eq_true, if_pos, zAppend, gro_pf hne, zTup]
        refine ⟨⟨_, rfl⟩, rfl, st, 2, c2 - 1, rfl, by rw [gro_st]; congr 2; omega, by decide, by decide, fun sg h0 h1 => ?_⟩
        simp only [gro_draw, rzEq, view, ok_int, deq_int, true_and]
        by_cases hs : sg = 0
        · simp only [hs, decide_true, if_true, gro_pf hne, gro_put hne]
          exact ⟨len2 _ _, hlen, (put (c2 - 1) w (1 + (i : Int)) (by omega) hw1 hw2 (.inl rfl)).2⟩
        · simp only [hs, decide_false, Bool.false_eq_true, if_false, gro_pf hne, gro_put hne]
          exact ⟨len2 _ _, hlen, (put (c2 - 1) w (0 - (1 + (i : Int))) (by omega) hw1 hw2 (.inr (by omega))).2⟩
      have et : ∀ e6 M, EvT (zTst (zBin rzEq (zVar 4) (zC (.int 1)))) [some (.ref st), some (.int m), some (.int mo), some (.ref pf), some (.int way), some (.int (1 + (i : Int))), e6] M (decide (way = 1)) := fun e6 M Q k => by
        simp only [zTst, zBin, zVar, zC, List.getElem?_cons_zero, List.getElem?_cons_succ, rzEq, view, ok_int, deq_int, true_and]; exact k
      refine st_seq (st_set (st_if (et _ _ _ ?_)))
      by_cases h1 : way = 1
      · refine ite_t (decide_eq_true h1) ?_
        exact fin 1 c' (by omega) (by omega) (by omega)
      · refine ite_f (decide_eq_false h1) ?_
        refine ⟨rfl, st, mo, c' - 1, rfl, by rw [gro_st]; congr 2; omega, by omega, by omega, fun w h0 h2 => ?_⟩
        rw [gro_draw]
        exact fin _ _ (by omega) (by omega) (by omega)
    have et : ∀ e5 e6 M, EvT (zTst (zBin rzEq (zVar 4) (zC (.int 0)))) [some (.ref st), some (.int m), some (.int mo), some (.ref pf), some (.int way), e5, e6] M (decide (way = 0)) := fun e5 e6 M Q k => by
      simp only [zTst, zBin, zVar, zC, List.getElem?_cons_zero, List.getElem?_cons_succ, rzEq, view, ok_int, deq_int, true_and]; exact k
    refine st_ifS (st_or (et _ _ _ _ ?_))
    by_cases h0 : way = 0
    · refine ite_t (decide_eq_true h0) ?_
      exact body c (by omega)
    · refine ite_f (decide_eq_false h0) ?_
      refine ⟨rfl, st, 3, c - 1, rfl, by rw [gro_st]; congr 2; omega, by decide, by decide, fun s h1 h2 => ?_⟩
      rw [gro_draw]
      show if decide (0 < s) = true then _ else _
      by_cases hs : 0 < s
      · refine ite_t (decide_eq_true hs) ?_
        exact body _ (by omega)
      · refine ite_f (decide_eq_false hs) ?_
        exact skip _ (by omega)
  · rintro env M' ⟨ts, c, e5, e6, rfl, rfl, hc, ht, hts, htl⟩
    simp only [zRet, zRetN, zSeq, zIfS, zDrop, zSet, zNext, zBin, zUn, zCall, zC, zVar, zTst, zAndV, zOrV, zNotV, zAnd, zOr, zNot, zIf, zaNil, zaCons, zFn, rzI0, rzI, rzInt1, rzInt2, rzNeg, zYes, List.getElem?_cons_zero, List.getElem?_cons_succ, List.set_cons_zero, List.set_cons_succ, rzGt, rzLt, rzGe, rzLe, rzSub, rzMod, rzDiv, rzPow, if_true, if_false, Bool.false_eq_true, if_pos, rzTuple, view, gro_pf hne]
    exact ⟨_, _, (gro_out hne hpf (by omega)).conv, q ts ht fun q hq => (hts q hq).1⟩
  · exact ⟨[], b + 18, none, none, rfl, rfl, by omega, ⟨fun q hq => by simp at hq, List.Pairwise.nil⟩, fun q hq => by simp at hq, Nat.le_refl _⟩
end Zz

set_option Elab.async false
set_option linter.all false
set_option maxRecDepth 100000
set_option maxHeartbeats 1000000
namespace Zz
open PySem PySem.Spec PyProof.Rows L2

theorem total_bd {mo : Int} : ∀ ts : Ts, (∀ q, q ∈ ts → 1 ≤ q.1 ∧ q.1 ≤ mo) → 0 ≤ total ts ∧ total ts ≤ mo * ts.length
  | [], _ => by simp [total]
  | q :: ts, h => by
    have ih := total_bd ts fun p hp => h p (List.mem_cons_of_mem _ hp)
    have hq := h q List.mem_cons_self
    have e : total (q :: ts) = q.1 + total ts := by simp [total]
    have e2 : mo * ((q :: ts).length : Int) = mo * ts.length + mo := by
      rw [List.length_cons]; push_cast; rw [Int.mul_add, Int.mul_one]
    rw [e, e2]; omega
def g__law_row : SpZ := fun ds M Q => ∃ st m mo b, ds = [.ref st, .int m, .int mo] ∧ M st = some (.draw (b + 21)) ∧ 1 ≤ m ∧ m ≤ 6 ∧ 1 ≤ mo ∧ mo ≤ 1000 ∧ ∀ r, RowOk m r → (∀ q, q ∈ r.1 → q.1 ≤ mo) → r.2 ≤ 10000 → Q (rowD r) (mu M st (.draw b))
theorem r__law_row {K : PySem.W.Frag} {c_WitnessError : Addr} {c_BadLiterals : Addr} {c_BadMany : Addr} {c_BadRow : Addr} {P_law : Addr} (ds : List D) (M : MM) (Q : D → MM → Prop) (hl : ds.length = 3) (h : g__law_row ds M Q) : t__law_row K c_WitnessError c_BadLiterals c_BadMany c_BadRow P_law g__law_draw g__law_pick g__law_terms { nx := fun _ M' => Post Q .non M', rt := Post Q } (startZ 8 ds) M := by
  obtain ⟨st, m, mo, b, rfl, hst, hm1, hm6, hmo1, hmo2, q⟩ := h
  show t__law_row K c_WitnessError c_BadLiterals c_BadMany c_BadRow P_law _ _ _ _ [some (.ref st), some (.int m), some (.int mo), none, none, none, none, none] M
  unfold t__law_row
  refine st_seq (st_set ?_)
  refine ⟨rfl, st, m, mo, b + 2, rfl, hst, hm1, hm6, hmo1, hmo2, fun ts ht hts => ?_⟩
  have hb := total_bd (mo := mo) ts fun q hq => ⟨(ht.1 q hq).1, hts q hq⟩
  have hlen := ht.len (by omega)
  have hbig : total ts ≤ 6000 := by
    have : mo * (ts.length : Int) ≤ 1000 * 6 := Int.mul_le_mul hmo2 (by omega) (by omega) (by decide)
    omega
  simp only [List.set_cons_zero, List.set_cons_succ]
  refine st_seq (st_set ?_)
  refine sum_s prD (fun q => q.1) ts (d := .tup (tsD ts)) (fun Q k => k) (.inl rfl) (fun q hq => ⟨_, rfl, fun Q k => k⟩) ?_
  have etot : (ts.map fun q => q.1).sum = total ts := rfl
  simp only [List.set_cons_zero, List.set_cons_succ, etot]
  refine st_seq (st_set ?_)
  refine ⟨rfl, st, 10, b + 1, rfl, mu_same, by decide, by decide, fun way h0 h1 => ?_⟩
  rw [mu_mu]
  simp only [List.set_cons_zero, List.set_cons_succ]
  have done : ∀ (x : Int) (c : Nat), 0 ≤ x → x ≤ 10000 → b ≤ c → Post Q (.tup [.tup (tsD ts), .int x]) (mu M st (.draw c))   := fun x c hx hx2 hc => by
    have h2 : Shift (mu M st (.draw c)) (mu (mu M st (.draw c)) st (.draw b)) := shift_less mu_same hc
    rw [mu_mu] at h2
    exact ⟨_, _, h2.conv, q (ts, x) ⟨ht, hx⟩ (fun p hp => hts p hp) hx2⟩
  have et : EvT (zTst (zBin rzEq (zVar 7) (zC (.int 0)))) [some (.ref st), some (.int m), some (.int mo), some (.tup (tsD ts)), some (.int (total ts)), none, none, some (.int way)] (mu M st (.draw (b + 1))) (decide (way = 0)) := fun Q k => by
    simp only [zTst, zBin, zVar, zC, List.getElem?_cons_zero, List.getElem?_cons_succ, rzEq, view, ok_int, deq_int, true_and]; exact k
  refine st_seq (st_ifS (et _ ?_))
  by_cases hw : way = 0
  · refine ite_t (decide_eq_true hw) ?_
    simp only [zRet, zTup, zaCons, zaNil, zVar, zFn, zLst, zC, zBin, List.getElem?_cons_zero, List.getElem?_cons_succ, rzAdd, view]
    refine ⟨by simp, rfl, st, _, _, b, rfl, rfl, mu_same, by simp, by simp, fun x hx => ⟨len2 _ _, ?_⟩⟩
    rw [mu_mu]
    have : ∃ y : Int, x = .int y ∧ 0 ≤ y ∧ y ≤ 10000 := by
      simp at hx
      rcases hx with rfl | rfl | rfl
      · exact ⟨_, rfl, by omega, by omega⟩
      · exact ⟨_, rfl, by omega, by omega⟩
      · exact ⟨_, rfl, by omega, by omega⟩
    obtain ⟨y, rfl, hy, hy2⟩ := this
    exact done y b hy hy2 (Nat.le_refl _)
  · refine ite_f (decide_eq_false hw) ?_
    simp only [zNext, zRet, zTup, zaCons, zaNil, zVar, zIf, zTst, zBin, zC, List.getElem?_cons_zero, List.getElem?_cons_succ, rzLt, rzI0]
    by_cases h4 : way < 4
    · simp only [h4, decide_true, if_true, zFn, rzAdd, view]
      refine ⟨rfl, st, total ts + 1, b, rfl, mu_same, by omega, by omega, fun x hx0 hx1 => ⟨len2 _ _, ?_⟩⟩
      rw [mu_mu]
      exact done x b hx0 (by omega) (Nat.le_refl _)
    · simp only [h4, decide_false, Bool.false_eq_true, if_false, rzAdd, view, rzSub, rzDiv, rzI, rzI0, zCall, zaCons, zaNil, zAndV, zBin, rzEq, ok_int, deq_int, true_and, rzInt, rzGt, zVar, zC, List.getElem?_cons_zero, List.getElem?_cons_succ]
      refine ⟨⟨by decide, Nat.lt_of_le_of_lt (log2_small (i := 2) (k := 10) (by decide)) (by decide)⟩, ?_⟩
      by_cases h5 : way = 4
      · simp only [h5, decide_true, if_true]
        refine ⟨len2 _ _, done _ _ ?_ ?_ (by omega)⟩
        · by_cases h6 : 1 < total ts
          · simp only [h6, decide_true, if_true]; omega
          · simp only [h6, decide_false, Bool.false_eq_true, if_false]; omega
        · by_cases h6 : 1 < total ts
          · simp only [h6, decide_true, if_true]; omega
          · simp only [h6, decide_false, Bool.false_eq_true, if_false]; omega
      · simp only [h5, decide_false, Bool.false_eq_true, if_false]
        exact ⟨len2 _ _, done _ _ (by omega) (by omega) (by omega)⟩
def g__law_witness : SpZ := fun ds M Q => ∃ st m b, ds = [.ref st, .int m] ∧ M st = some (.draw (b + 19)) ∧ 1 ≤ m ∧ m ≤ 6 ∧ ∀ w, WitOk m w → Q (witD w) (mu M st (.draw b))
theorem oneTo_len {m : Int} (h : 0 ≤ m) : ((oneTo m).length : Int) = m := by simp [oneTo]; omega
theorem oneTo_wit {m : Int} (h : 0 ≤ m) : WitOk m ((oneTo m).map Im.lit) := ⟨by rw [List.length_map]; exact oneTo_len h, fun i hi => by
  obtain ⟨v, hv, rfl⟩ := List.mem_map.mp hi
  rw [mem_oneTo] at hv
  exact ⟨by omega, by omega, by omega⟩⟩
theorem st_yes {env : ZT} {M : MM} {Q : Bool → MM → Prop} (h : Q true M) : zYes env M Q := h
def g__law_exchange : SpZ := fun ds M Q => ∃ st m b, ds = [.ref st, .int m] ∧ M st = some (.draw (b + 13)) ∧ 1 ≤ m ∧ m ≤ 6 ∧ ∀ es, Exch m es → Q (exD es) (mu M st (.draw b))
def toI : D → Int
  | .int i => i
  | _ => 0
theorem perm_ints {ys : List D} {ns : List Int} (h : ys.Perm (ns.map D.int)) : ∃ zs : List Int, ys = zs.map D.int ∧ zs.Perm ns := by
  refine ⟨ys.map toI, ?_, ?_⟩
  · rw [List.map_map]
    have : ∀ y, y ∈ ys → (D.int ∘ toI) y = y := fun y hy => by
      obtain ⟨i, _, rfl⟩ := List.mem_map.mp (h.mem_iff.mp hy)
      rfl
    conv => lhs; rw [← List.map_id ys]
    exact (List.map_congr_left fun y hy => (this y hy)).symm
  · have := h.map toI
    rw [List.map_map] at this
    have e : ns.map (toI ∘ D.int) = ns := by
      conv => rhs; rw [← List.map_id ns]
      exact List.map_congr_left fun _ _ => rfl
    rwa [e] at this
/-! ### what is no number of variables, no row -/
def g__law_total : SpZ := g_total_of
def BadM (d : D) : Prop := isBet 1 600 d = false ∧ ∀ M, Kn M d
def g__law_bad_many : SpZ := fun ds M Q => ∃ st b, ds = [.ref st] ∧ M st = some (.draw (b + 1)) ∧ ∀ d, BadM d → Q d (mu M st (.draw b))
theorem r__law_bad_many {K : PySem.W.Frag} {c_WitnessError : Addr} {c_BadLiterals : Addr} {c_BadMany : Addr} {c_BadRow : Addr} {P_law : Addr} (ds : List D) (M : MM) (Q : D → MM → Prop) (hl : ds.length = 1) (h : g__law_bad_many ds M Q) : t__law_bad_many K c_WitnessError c_BadLiterals c_BadMany c_BadRow P_law g__law_pick { nx := fun _ M' => Post Q .non M', rt := Post Q } (startZ 1 ds) M := by
  obtain ⟨st, b, rfl, hst, q⟩ := h
  show t__law_bad_many K c_WitnessError c_BadLiterals c_BadMany c_BadRow P_law _ _ [some (.ref st)] M
  unfold t__law_bad_many
  refine st_ret ?_
  simp only [zFn, zaCons, zaNil, zLst, zTup, zUn, rzNeg, zC, zBin, rzPow, rzI, zDNewF, zVar, List.getElem?_cons_zero]
  refine ⟨⟨by decide, by decide, by decide⟩, by simp, by simp, by simp, rfl, st, _, _, b, rfl, rfl, hst, by simp, by simp, fun x hx => .self (q x ?_)⟩
  simp only [List.mem_cons, List.not_mem_nil, or_false] at hx
  rcases hx with rfl | rfl | rfl | rfl | rfl | rfl | rfl | rfl | rfl | rfl <;> exact ⟨by decide, fun M => ⟨_, rfl⟩⟩
end Zz

set_option Elab.async false
set_option linter.all false
set_option maxRecDepth 100000
set_option maxHeartbeats 2000000
namespace Zz
open PySem PySem.Spec PyProof.Rows L2

/-! ### what is no row -/
def kn : D → Bool
  | .non | .bl _ | .int _ | .str _ | .tup _ | .lst _ | .dic _ _ => true
  | _ => false
theorem kn_Kn {M : MM} {d : D} (h : kn d = true) : Kn M d := by
  cases d <;> first | exact ⟨_, rfl⟩ | cases h
def dat : Nat → D → Bool
  | 0, d => kn d
  | n + 1, d => kn d && match d with
    | .tup xs => xs.all (dat n) && decide (xs.length < 50)
    | _ => true
theorem dat_kn : ∀ {n : Nat} {d : D}, dat n d = true → kn d = true
  | 0, _, h => h
  | n + 1, _, h => by unfold dat at h; rw [Bool.and_eq_true] at h; exact h.1
theorem dat_tup {n : Nat} {xs : List D} (h : dat (n + 1) (.tup xs) = true) : ∀ x, x ∈ xs → dat n x = true := by
  unfold dat at h
  simp only [Bool.and_eq_true] at h
  exact List.all_eq_true.mp h.2.1
theorem dat_len {n : Nat} {xs : List D} (h : dat (n + 1) (.tup xs) = true) : xs.length < 50 := by
  unfold dat at h
  simp only [Bool.and_eq_true, decide_eq_true_eq] at h
  exact h.2.2
theorem dat_row {M : MM} {d : D} (h : dat 3 d = true) : RowDat M d := by
  refine ⟨kn_Kn (dat_kn h), fun a b e => ?_⟩
  subst e
  have h2 := dat_tup h
  have ha := h2 a (by simp)
  refine ⟨⟨kn_Kn (dat_kn ha), fun xs e x hx => ?_⟩, kn_Kn (dat_kn (h2 b (by simp)))⟩
  subst e
  have h3 := dat_tup ha x hx
  refine ⟨kn_Kn (dat_kn h3), fun p q e => ?_⟩
  subst e
  have h4 := dat_tup h3
  exact ⟨kn_Kn (dat_kn (h4 p (by simp))), kn_Kn (dat_kn (h4 q (by simp)))⟩
def BadR (m : Int) (d : D) : Prop := rowR m d = false ∧ dat 3 d = true
theorem shift_new {M : MM} {st p : Addr} {b : Nat} {c : C} (h : st ≠ p) (hp : M p = none) (hc : okC c) : Shift (mu (mu M p c) st (.draw b)) (mu M st (.draw b)) := by
  rw [mu_comm h.symm]
  exact shift_drop (by rw [mu_ne h.symm]; exact hp) hc
theorem draw_ne {M : MM} {st p : Addr} {b : Nat} (h : M st = some (.draw b)) (hp : M p = none) : st ≠ p := fun e => by rw [e, hp] at h; cases h
theorem mu_none {M : MM} {p q : Addr} {c : C} (h : mu M p c q = none) : q ≠ p ∧ M q = none := by
  by_cases e : q = p
  · rw [e, mu_same] at h; cases h
  · exact ⟨e, by rwa [mu_ne e] at h⟩
def tp (xs : List D) : D := .tup xs
def br1 : List D := [.non, .int 5, .str "row", .tup [], .tup [.tup [], .int 0, .int 0], .lst [.tup [], .int 0], .tup [.lst [], .int 0], .tup [.tup [], .int (-1)], .tup [.tup [], .bl true], .tup [.tup [], .non], .tup [.tup [.tup [.int 1, .int 1]], .str "1"], .dic [] []]
def br2 (m : Int) : List D := [.tup [.tup [.tup [.int 0, .int 1]], .int 0], .tup [.tup [.tup [.int (-1), .int 1]], .int 0], .tup [.tup [.tup [.bl true, .int 1]], .int 1], .tup [.tup [.tup [.int 1, .int 0]], .int 0], .tup [.tup [.tup [.int 1, .int (m + 1)]], .int 1], .tup [.tup [.tup [.int 1, .bl true]], .int 1]]
def br3 : List D := [.tup [.tup [.tup [.int 1, .int 1], .tup [.int 1, .int 1]], .int 1], .tup [.tup [.tup [.int 1, .int 1], .tup [.int 2, .int (-1)]], .int 1], .tup [.tup [.tup [.int 1, .int 1, .int 1]], .int 1], .tup [.lst [.tup [.int 1, .int 1]], .int 1], .tup [.tup [.lst [.int 1, .int 1]], .int 1], .tup [.tup [.tup [.int 1, .non]], .int 0]]
def br4 : D := .tup [.tup [.tup [.int 1, .int 2], .tup [.int 1, .int 1]], .int 1]
theorem br_bad (m : Int) (d : D) (h : d ∈ br1 ++ br2 m ++ br3 ++ [br4]) : BadR m d := by
  simp only [br1, br2, br3, br4, List.mem_append, List.mem_cons, List.not_mem_nil, or_false] at h
  rcases h with ((h | h) | h) | h
  · rcases h with rfl | rfl | rfl | rfl | rfl | rfl | rfl | rfl | rfl | rfl | rfl | rfl <;> refine ⟨?_, rfl⟩ <;> simp [rowR, termsR, toTs, toPr, tsB, isFr, litR, ordB, absI]
  · rcases h with rfl | rfl | rfl | rfl | rfl | rfl <;> refine ⟨?_, rfl⟩ <;> simp [rowR, termsR, toTs, toPr, tsB, isFr, litR, ordB, absI] <;> omega
  · rcases h with rfl | rfl | rfl | rfl | rfl | rfl <;> refine ⟨?_, rfl⟩ <;> simp [rowR, termsR, toTs, toPr, tsB, isFr, litR, ordB, absI]
  · subst h; refine ⟨?_, rfl⟩; simp [rowR, termsR, toTs, toPr, tsB, isFr, litR, ordB, absI]
def g__law_bad_row : SpZ := fun ds M Q => ∃ st m b, ds = [.ref st, .int m] ∧ M st = some (.draw (b + 1)) ∧ ∀ d, BadR m d → Q d (mu M st (.draw b))
theorem r__law_bad_row {K : PySem.W.Frag} {c_WitnessError : Addr} {c_BadLiterals : Addr} {c_BadMany : Addr} {c_BadRow : Addr} {P_law : Addr} (ds : List D) (M : MM) (Q : D → MM → Prop) (hl : ds.length = 2) (h : g__law_bad_row ds M Q) : t__law_bad_row K c_WitnessError c_BadLiterals c_BadMany c_BadRow P_law g__law_pick { nx := fun _ M' => Post Q .non M', rt := Post Q } (startZ 3 ds) M := by
  obtain ⟨st, m, b, rfl, hst, q⟩ := h
  show t__law_bad_row K c_WitnessError c_BadLiterals c_BadMany c_BadRow P_law _ _ [some (.ref st), some (.int m), none] M
  unfold t__law_bad_row
  refine ss_set ?_
  simp only [zLstN, zaCons, zaNil, zTup, zLst, zC, zUn, rzNeg, zDNewF]
  repeat (refine ⟨by simp, ?_⟩)
  intro p1 hp1
  simp only [List.set_cons_zero, List.set_cons_succ]
  refine ss_set ?_
  simp only [zBin, zVar, List.getElem?_cons_zero, List.getElem?_cons_succ, zaCons, zaNil, zTup, zLst, zC, zUn, rzNeg, rzAdd, view]
  repeat (refine ⟨by simp, ?_⟩)
  simp only [rzAddN, view, mu_same]
  refine ⟨by simp, fun p2 hp2 => ?_⟩
  simp only [List.set_cons_zero, List.set_cons_succ]
  refine ss_set ?_
  simp only [zBin, zVar, List.getElem?_cons_zero, List.getElem?_cons_succ, zaCons, zaNil, zTup, zLst, zC, zUn, rzNeg]
  repeat (refine ⟨by simp, ?_⟩)
  simp only [rzAddN, view, mu_same]
  refine ⟨by simp, fun p3 hp3 => ?_⟩
  simp only [List.set_cons_zero, List.set_cons_succ]
  obtain ⟨h21, n2⟩ := mu_none hp2
  obtain ⟨h32, hp3'⟩ := mu_none hp3
  obtain ⟨h31, n3⟩ := mu_none hp3'
  have s1 := draw_ne hst hp1
  have s2 := draw_ne hst n2
  have s3 := draw_ne hst n3
  have fin : ∀ (xs : List D), xs ≠ [] → xs.length ≤ 1000 → (∀ x, x ∈ xs → BadR m x) → zRet (zFn 2 g__law_pick (zaCons (zVar 0) (zaCons (zVar 2) zaNil))) { nx := fun _ M' => Post Q .non M', rt := Post Q } [some (.ref st), some (.int m), some (.ref p3)] (mu (mu (mu M p1 (.lst br1)) p2 (.lst (br1 ++ br2 m))) p3 (.lst xs)) := by
    intro xs hne hle hx
    refine ⟨rfl, st, .ref p3, xs, b, rfl, by simp only [view, mu_same], by rw [mu_ne s3, mu_ne s2, mu_ne s1]; exact hst, hne, by omega, fun x hx' => ?_⟩
    refine ⟨x, mu M st (.draw b), Shift.conv (((shift_new s3 (by rw [mu_ne h32, mu_ne h31]; exact n3) (show okC (.lst _) from trivial)).trans (shift_new s2 (by rw [mu_ne h21]; exact n2) (show okC (.lst _) from trivial))).trans (shift_new s1 hp1 (show okC (.lst _) from trivial))), q x (hx x hx')⟩
  have all := br_bad m
  refine st_seq ?_
  simp only [zIfS, zTst, zBin, zVar, zC, rzGt, rzI0, List.getElem?_cons_zero, List.getElem?_cons_succ]
  by_cases h1 : 1 < m
  · simp only [h1, decide_true, if_true, zDrop, zAppend, zaCons, zaNil, zTup, zC, zVar, List.getElem?_cons_zero, List.getElem?_cons_succ, mu_same]
    refine ⟨⟨_, rfl⟩, ?_⟩
    repeat (refine ⟨by simp, ?_⟩)
    rw [mu_mu]
    have := fin (br1 ++ br2 m ++ br3 ++ [br4]) (by simp [br1]) (by simp [br1, br2, br3]) all
    exact this.2
  · simp only [h1, decide_false, Bool.false_eq_true, if_false]
    exact fin (br1 ++ br2 m ++ br3) (by simp [br1]) (by simp [br1, br2, br3]) fun x hx => all x (List.mem_append_left _ hx)
def g__law_excess : SpZ := fun ds M Q => ∃ r f, ds = [rowD r, filD f] ∧ LitsIn f.length r.1 ∧ Q (.int (comes r.1 f - r.2)) M
end Zz

set_option Elab.async false
set_option linter.all false
set_option maxRecDepth 100000
set_option maxHeartbeats 1000000
/-! K5m: the law's mathematics. -/
namespace Zz
open PySem

/-! ### sums -/
theorem sum_perm {a b : List Int} (h : a.Perm b) : a.sum = b.sum := by
  induction h with
  | nil => rfl
  | cons x _ ih => simp [ih]
  | swap x y l => simp only [List.sum_cons]; omega
  | trans _ _ h1 h2 => exact h1.trans h2
theorem sum_add {α : Type} (l : List α) (f g : α → Int) : (l.map fun x => f x + g x).sum = (l.map f).sum + (l.map g).sum := by
  induction l with
  | nil => rfl
  | cons x l ih => simp only [List.map_cons, List.sum_cons, ih]; omega
theorem sum_mulr {α : Type} (l : List α) (f : α → Int) (c : Int) : (l.map fun x => f x * c).sum = (l.map f).sum * c := by
  induction l with
  | nil => simp
  | cons x l ih => simp only [List.map_cons, List.sum_cons, ih, Int.add_mul]
theorem sum_mull {α : Type} (l : List α) (f : α → Int) (c : Int) : (l.map fun x => c * f x).sum = c * (l.map f).sum := by
  induction l with
  | nil => simp
  | cons x l ih => simp only [List.map_cons, List.sum_cons, ih, Int.mul_add]
theorem sum_zero {α : Type} (l : List α) (f : α → Int) (h : ∀ x, x ∈ l → f x = 0) : (l.map f).sum = 0 := by
  induction l with
  | nil => rfl
  | cons x l ih => simp only [List.map_cons, List.sum_cons, h x List.mem_cons_self, ih fun y hy => h y (List.mem_cons_of_mem _ hy)]; rfl
theorem sum_congr {α : Type} {l : List α} {f g : α → Int} (h : ∀ x, x ∈ l → f x = g x) : (l.map f).sum = (l.map g).sum := by rw [List.map_congr_left h]
theorem sum_swap {α β : Type} (l : List α) (k : List β) (f : α → β → Int) : (l.map fun x => (k.map fun y => f x y).sum).sum = (k.map fun y => (l.map fun x => f x y).sum).sum := by
  induction l with
  | nil => simp; exact (sum_zero k _ fun _ _ => rfl).symm
  | cons x l ih => simp only [List.map_cons, List.sum_cons, ih, sum_add]
theorem sum_pos {α : Type} (l : List α) (f : α → Int) (h : ∀ x, x ∈ l → 0 ≤ f x) : 0 ≤ (l.map f).sum := by
  induction l with
  | nil => exact Int.le_refl _
  | cons x l ih =>
    have h1 := h x List.mem_cons_self
    have h2 := ih fun y hy => h y (List.mem_cons_of_mem _ hy)
    simp only [List.map_cons, List.sum_cons]; omega
/-- one term of a sum without doubles -/
theorem sum_pick {l : List Int} (hn : l.Nodup) {a : Int} (ha : a ∈ l) (c : Int) (F : Int → Int) : (l.map fun v => (if a = v then c else 0) * F v).sum = c * F a := by
  induction l with
  | nil => simp at ha
  | cons x l ih =>
    obtain ⟨h1, h2⟩ := List.nodup_cons.mp hn
    simp only [List.map_cons, List.sum_cons]
    by_cases hx : a = x
    · subst hx
      rw [if_pos rfl, sum_zero l _ fun v hv => ?_]
      · omega
      · rw [if_neg fun e : a = v => h1 (by rw [e]; exact hv)]; simp
    · rw [if_neg hx, ih h2 ((List.mem_cons.mp ha).resolve_left hx)]; simp
/-- over the variables 1 .. m -/
def Sm (m : Int) (F : Int → Int) : Int := ((oneTo m).map F).sum
theorem absI_in {m l : Int} (h : LitOk m l) : absI l ∈ oneTo m := by
  obtain ⟨h1, h2, h3⟩ := h
  rw [mem_oneTo, absI_nat]; omega
theorem lin {m : Int} (F : Int → Int) : ∀ ts : Ts, LitsIn m ts → (ts.map fun q => sgn q * F (absI q.2)).sum = Sm m fun v => coef ts v * F v
  | [], _ => (sum_zero _ _ fun v _ => by simp [coef]).symm
  | q :: ts, h => by
    have ih := lin F ts fun p hp => h p (List.mem_cons_of_mem _ hp)
    have hq := absI_in (h q List.mem_cons_self)
    simp only [List.map_cons, List.sum_cons, ih]
    have e : ∀ v, coef (q :: ts) v * F v = (if absI q.2 = v then sgn q else 0) * F v + coef ts v * F v := fun v => by
      have : coef (q :: ts) v = coef [q] v + coef ts v := coef_app [q] ts v
      rw [this, coef_one, Int.add_mul]
    unfold Sm
    rw [sum_congr (fun v _ => e v), sum_add, sum_pick (oneTo_nodup m) hq]
/-! ### a list of terms by its numbers -/
def Pos (ts : Ts) : Prop := ∀ q, q ∈ ts → 1 ≤ q.1 ∧ q.2 ≠ 0
def Nd (ts : Ts) : Prop := (ts.map fun q => absI q.2).Nodup
theorem Srt.nd {ts : Ts} (h : Srt ts) : Nd ts := by
  unfold Nd List.Nodup
  rw [List.pairwise_map]
  exact h.imp fun {a b} hab e => by rw [absI_nat, absI_nat] at e; omega
theorem coef_at {ts : Ts} (hn : Nd ts) {q : Int × Int} (hq : q ∈ ts) : coef ts (absI q.2) = sgn q := by
  induction ts with
  | nil => simp at hq
  | cons p ts ih =>
    unfold Nd at hn
    rw [List.map_cons, List.nodup_cons] at hn
    have e : coef (p :: ts) (absI q.2) = coef [p] (absI q.2) + coef ts (absI q.2) := coef_app [p] ts _
    rw [e, coef_one]
    rcases List.mem_cons.mp hq with rfl | hq
    · rw [if_pos rfl, coef_none fun r hr he => hn.1 (by rw [← he]; exact List.mem_map_of_mem (f := fun q : Int × Int => absI q.2) hr)]
      omega
    · rw [if_neg fun he => hn.1 (by rw [he]; exact List.mem_map_of_mem (f := fun q : Int × Int => absI q.2) hq), ih hn.2 hq]
      omega
theorem coef_ex {ts : Ts} {v : Int} (h : coef ts v ≠ 0) : ∃ p, p ∈ ts ∧ absI p.2 = v := by
  by_cases hp : ∃ p, p ∈ ts ∧ absI p.2 = v
  · exact hp
  · exact absurd (coef_none fun p h1 h2 => hp ⟨p, h1, h2⟩) h
theorem sgn_inj {p q : Int × Int} (hp : 1 ≤ p.1 ∧ p.2 ≠ 0) (hq : 1 ≤ q.1 ∧ q.2 ≠ 0) (ha : absI p.2 = absI q.2) (h : sgn p = sgn q) : p = q := by
  obtain ⟨a, b⟩ := p
  obtain ⟨c, d⟩ := q
  unfold sgn at h
  rw [absI_nat, absI_nat] at ha
  simp only at *
  have : a = c ∧ b = d := by
    by_cases h1 : 0 < b <;> by_cases h2 : 0 < d <;> simp only [h1, h2, if_true, if_false] at h <;> omega
  rw [this.1, this.2]
theorem mem_iff {ts : Ts} (hn : Nd ts) (hp : Pos ts) (q : Int × Int) : q ∈ ts ↔ (1 ≤ q.1 ∧ q.2 ≠ 0) ∧ coef ts (absI q.2) = sgn q := by
  refine ⟨fun h => ⟨hp q h, coef_at hn h⟩, fun ⟨h1, h2⟩ => ?_⟩
  have hne : coef ts (absI q.2) ≠ 0 := by rw [h2]; unfold sgn; split <;> omega
  obtain ⟨p, hpm, he⟩ := coef_ex hne
  have : p = q := sgn_inj (hp p hpm) h1 he (by rw [← coef_at hn hpm, he, h2])
  exact this ▸ hpm
theorem Nd.nodup {ts : Ts} (h : Nd ts) : ts.Nodup := by
  unfold Nd List.Nodup at h
  rw [List.pairwise_map] at h
  exact h.imp fun {a b} hab e => hab (by rw [e])
theorem perm_of {a b : Ts} (ha : Nd a) (hb : Nd b) (pa : Pos a) (pb : Pos b) (h : ∀ v, coef a v = coef b v) : a.Perm b :=
  (List.perm_ext_iff_of_nodup ha.nodup hb.nodup).mpr fun q => by rw [mem_iff ha pa, mem_iff hb pb, h]
theorem srt_eq {a b : Ts} (ha : Srt a) (hb : Srt b) (h : a.Perm b) : a = b := List.Perm.eq_of_pairwise (fun a b _ _ h1 h2 => by omega) ha hb h
theorem uniq {a b : Ts} (ha : Srt a) (hb : Srt b) (pa : Pos a) (pb : Pos b) (h : ∀ v, coef a v = coef b v) : a = b := srt_eq ha hb (perm_of ha.nd hb.nd pa pb h)
/-! ### images as linear terms -/
def imS (i : Im) (u : Int) : Int := match i with
  | .lit k => if absI k = u then (if 0 < k then 1 else -1) else 0
  | _ => 0
def imC (i : Im) : Int := match i with
  | .yes => 1
  | .no => 0
  | .lit k => if 0 < k then 0 else 1
theorem imS_turn {i : Im} (h : Im0 i) (u : Int) : imS (turn i) u = -imS i u := by
  cases i with
  | lit k =>
    have hk : k ≠ 0 := h
    have ha : absI (-k) = absI k := by rw [absI_nat, absI_nat]; omega
    simp only [turn, imS, ha]
    by_cases h1 : absI k = u
    · rw [if_pos h1, if_pos h1]
      by_cases h2 : 0 < k
      · rw [if_neg (show ¬ 0 < -k by omega), if_pos h2]
      · rw [if_pos (show 0 < -k by omega), if_neg h2]; rfl
    · rw [if_neg h1, if_neg h1]; rfl
  | _ => rfl
theorem imC_turn {i : Im} (h : Im0 i) : imC (turn i) = 1 - imC i := by
  cases i with
  | lit k =>
    have hk : k ≠ 0 := h
    simp only [turn, imC]
    by_cases h2 : 0 < k
    · rw [if_neg (show ¬ 0 < -k by omega), if_pos h2]; rfl
    · rw [if_pos (show 0 < -k by omega), if_neg h2]; rfl
  | _ => rfl
theorem turn_turn (i : Im) : turn (turn i) = i := by cases i <;> simp [turn]
theorem imgOf_abs {w : List Im} {l : Int} (hl : l ≠ 0) : imgOf w (absI l) = w.getD (l.natAbs - 1) .yes := by
  unfold imgOf
  have h1 : 0 < absI l := by rw [absI_nat]; omega
  have h2 : (absI l).natAbs = l.natAbs := by rw [absI_nat]; omega
  rw [if_pos h1, h2]
theorem imgOf_sgn {w : List Im} {l : Int} (hl : l ≠ 0) : imgOf w l = if 0 < l then imgOf w (absI l) else turn (imgOf w (absI l)) := by
  rw [imgOf_abs hl]; rfl
theorem img0 {m : Int} {w : List Im} (hw : WitOk m w) {l : Int} (hl : LitOk m l) : Im0 (imgOf w l) := imgOf_0 (by rw [hw.1]; exact hl) fun i hi => by
  have := hw.2 i hi
  cases i with
  | lit k => exact this.2.2
  | _ => trivial
theorem litAbs {m l : Int} (hl : LitOk m l) : LitOk m (absI l) := by
  obtain ⟨h1, h2, h3⟩ := hl
  rw [absI_nat]; exact ⟨by omega, by omega, by omega⟩
theorem term_S {m : Int} {w : List Im} (hw : WitOk m w) {q : Int × Int} (hq : LitOk m q.2) (u : Int) : q.1 * imS (imgOf w q.2) u = sgn q * imS (imgOf w (absI q.2)) u := by
  rw [imgOf_sgn hq.2.2]
  unfold sgn
  split
  · rfl
  · rw [imS_turn (img0 hw (litAbs hq)), Int.mul_neg, Int.neg_mul]
theorem term_C {m : Int} {w : List Im} (hw : WitOk m w) {q : Int × Int} (hq : LitOk m q.2) : q.1 * imC (imgOf w q.2) = sgn q * imC (imgOf w (absI q.2)) + (if 0 < q.2 then 0 else q.1) := by
  rw [imgOf_sgn hq.2.2]
  unfold sgn
  split
  · omega
  · rw [imC_turn (img0 hw (litAbs hq)), Int.mul_sub, Int.neg_mul]; omega
/-- what a led list has -/
theorem led_coef (w : List Im) (ts : Ts) (u : Int) : coef (ledPairs w ts) u = (ts.map fun q => q.1 * imS (imgOf w q.2) u).sum := by
  induction ts with
  | nil => rfl
  | cons q ts ih =>
    have e : ledPairs w (q :: ts) = ledPairs w [q] ++ ledPairs w ts := ledPairs_app w [q] ts
    rw [e, coef_app, ih, List.map_cons, List.sum_cons]
    congr 1
    cases h : imgOf w q.2 with
    | lit k =>
      have : ledPairs w [q] = [(q.1, k)] := by unfold ledPairs; simp [h]
      rw [this, coef_one]
      simp only [imS, sgn]
      split
      · split <;> omega
      · simp
    | yes =>
      have : ledPairs w [q] = [] := by unfold ledPairs; simp [h]
      rw [this]; simp [coef, imS]
    | no =>
      have : ledPairs w [q] = [] := by unfold ledPairs; simp [h]
      rw [this]; simp [coef, imS]
theorem led_const (w : List Im) (ts : Ts) : neg (ledPairs w ts) + ledSum w ts = (ts.map fun q => q.1 * imC (imgOf w q.2)).sum := by
  induction ts with
  | nil => rfl
  | cons q ts ih =>
    have e : ledPairs w (q :: ts) = ledPairs w [q] ++ ledPairs w ts := ledPairs_app w [q] ts
    have e2 : ledSum w (q :: ts) = ledSum w [q] + ledSum w ts := ledSum_app w [q] ts
    rw [e, e2, neg_app, List.map_cons, List.sum_cons, ← ih]
    have : neg (ledPairs w [q]) + ledSum w [q] = q.1 * imC (imgOf w q.2) := by
      cases h : imgOf w q.2 with
      | lit k =>
        have h1 : ledPairs w [q] = [(q.1, k)] := by unfold ledPairs; simp [h]
        have h2 : ledSum w [q] = 0 := by unfold ledSum; simp [h]
        rw [h1, h2]
        simp only [neg, imC, List.map_cons, List.map_nil, List.sum_cons, List.sum_nil]
        split <;> omega
      | yes =>
        have h1 : ledPairs w [q] = [] := by unfold ledPairs; simp [h]
        have h2 : ledSum w [q] = q.1 := by unfold ledSum; simp [h]
        rw [h1, h2]; simp [neg, imC]
      | no =>
        have h1 : ledPairs w [q] = [] := by unfold ledPairs; simp [h]
        have h2 : ledSum w [q] = 0 := by unfold ledSum; simp [h]
        rw [h1, h2]; simp [neg, imC]
    omega
/-- .. by the variables -/
theorem led_coefS {m : Int} {w : List Im} (hw : WitOk m w) {ts : Ts} (ht : LitsIn m ts) (u : Int) : coef (ledPairs w ts) u = Sm m fun v => coef ts v * imS (imgOf w v) u := by
  rw [led_coef, ← lin (fun v => imS (imgOf w v) u) ts ht]
  exact sum_congr fun q hq => term_S hw (ht q hq) u
theorem led_constS {m : Int} {w : List Im} (hw : WitOk m w) {ts : Ts} (ht : LitsIn m ts) : (ts.map fun q => q.1 * imC (imgOf w q.2)).sum = (Sm m fun v => coef ts v * imC (imgOf w v)) + neg ts := by
  rw [← lin (fun v => imC (imgOf w v)) ts ht]
  unfold neg
  rw [← sum_add]
  exact sum_congr fun q hq => term_C hw (ht q hq)
end Zz

set_option Elab.async false
set_option linter.all false
set_option maxRecDepth 100000
set_option maxHeartbeats 1000000
/-! K5n: what the law asks, of data. -/
namespace Zz
open PySem

theorem RowOk.pos {m : Int} {r : Row} (h : RowOk m r) : Pos r.1 := fun q hq => ⟨(h.1.1 q hq).1, (h.1.1 q hq).2.2.2⟩
structure Led (m : Int) (w : List Im) (r r' : Row) : Prop where
  ok : RowOk m r'
  co : ∀ u, coef r'.1 u = Sm m fun v => coef r.1 v * imS (imgOf w v) u
  bd : r'.2 = max0 (r.2 - ((Sm m fun v => coef r.1 v * imC (imgOf w v)) + neg r.1) + neg r'.1)
theorem ledPairs_mem {m : Int} {w : List Im} (hw : WitOk m w) {ts : Ts} (ht : LitsIn m ts) {p : Int × Int} (hp : p ∈ ledPairs w ts) : LitOk m p.2 := by
  unfold ledPairs at hp
  obtain ⟨q, hq, e⟩ := List.mem_filterMap.mp hp
  have hm := imgOf_mem (w := w) (l := q.2) (by rw [hw.1]; exact ht q hq)
  split at e
  · next l hl =>
    obtain rfl := Option.some.inj e
    obtain ⟨i, hi, h | h⟩ := hm
    · rw [hl] at h; have := hw.2 i hi; rw [← h] at this; exact this
    · rw [hl] at h
      have := hw.2 i hi
      cases i with
      | lit k =>
        have h : l = -k := by simpa [turn] using h
        obtain ⟨a, b, c⟩ : LitOk m k := this
        rw [h]; exact ⟨by omega, by omega, by omega⟩
      | yes => simp [turn] at h
      | no => simp [turn] at h
  · cases e
theorem led_of {m : Int} {w : List Im} {r r' : Row} (hw : WitOk m w) (hr : RowOk m r) (h : IsLed w r r') : Led m w r r' := by
  obtain ⟨h1, h2, h3, h4⟩ := h
  have hl := hr.1.lits
  have hc := led_const w r.1
  rw [led_constS hw hl] at hc
  refine ⟨⟨⟨fun q hq => ?_, h1⟩, ?_⟩, fun u => by rw [h3, led_coefS hw hl], ?_⟩
  · obtain ⟨a, b, p, hp, e⟩ := h2 q hq
    obtain ⟨c, d, f⟩ := ledPairs_mem hw hl hp
    exact ⟨a, by omega, by omega, b⟩
  · rw [h4]; split <;> omega
  · rw [h4]; unfold max0
    have e : r.2 - ledSum w r.1 - neg (ledPairs w r.1) + neg r'.1 = r.2 - ((Sm m fun v => coef r.1 v * imC (imgOf w v)) + neg r.1) + neg r'.1 := by omega
    rw [e]
/-! ### led twice -/
theorem Sm_congr {m : Int} {F H : Int → Int} (h : ∀ v, v ∈ oneTo m → F v = H v) : Sm m F = Sm m H := sum_congr h
theorem Sm_add {m : Int} (F H : Int → Int) : Sm m (fun v => F v + H v) = Sm m F + Sm m H := sum_add _ _ _
theorem oneTo_lit {m v : Int} (h : v ∈ oneTo m) : LitOk m v ∧ 0 < v := by
  rw [mem_oneTo] at h; exact ⟨⟨by omega, by omega, by omega⟩, by omega⟩
theorem getD_mem {α : Type} {xs : List α} {i : Nat} {d : α} (h : i < xs.length) : xs.getD i d ∈ xs := by
  rw [List.getD_eq_getElem?_getD, List.getElem?_eq_getElem h]; exact List.getElem_mem h
theorem joined_at {m : Int} {a b : List Im} (ha : WitOk m a) {v : Int} (hv : v ∈ oneTo m) : imgOf (joined a b) v = (match imgOf a v with | .lit l => imgOf b l | x => x) ∧ imgOf a v ∈ a := by
  obtain ⟨hl, h0⟩ := oneTo_lit hv
  have hl' : LitOk a.length v := by rw [ha.1]; exact hl
  obtain ⟨h1, _, _⟩ := lit_ix hl'
  unfold imgOf
  rw [if_pos h0, if_pos h0]
  refine ⟨?_, getD_mem h1⟩
  unfold joined
  rw [List.getD_eq_getElem?_getD, List.getElem?_map, List.getD_eq_getElem?_getD, List.getElem?_eq_getElem h1]
  rfl
theorem lin_S {m : Int} {a b : List Im} (ha : WitOk m a) (hb : WitOk m b) {v : Int} (hv : v ∈ oneTo m) (u : Int) : imS (imgOf (joined a b) v) u = Sm m fun x => imS (imgOf a v) x * imS (imgOf b x) u := by
  obtain ⟨e, hm⟩ := joined_at (b := b) ha hv
  rw [e]
  cases h : imgOf a v with
  | lit k =>
    have hk : LitOk m k := by rw [h] at hm; exact ha.2 _ hm
    have := lin (m := m) (fun x => imS (imgOf b x) u) [(1, k)] (fun q hq => by rw [List.mem_singleton] at hq; subst hq; exact hk)
    simp only [List.map_cons, List.map_nil, List.sum_cons, List.sum_nil, Int.add_zero] at this
    have t := term_S hb (q := (1, k)) hk u
    simp only [Int.one_mul] at t
    show imS (imgOf b k) u = _
    rw [t, this]
    refine Sm_congr fun x _ => ?_
    rw [coef_one]
    rfl
  | yes => exact (sum_zero _ _ fun x _ => by simp [imS]).symm
  | no => exact (sum_zero _ _ fun x _ => by simp [imS]).symm
theorem lin_C {m : Int} {a b : List Im} (ha : WitOk m a) (hb : WitOk m b) {v : Int} (hv : v ∈ oneTo m) : imC (imgOf (joined a b) v) = imC (imgOf a v) + Sm m fun x => imS (imgOf a v) x * imC (imgOf b x) := by
  obtain ⟨e, hm⟩ := joined_at (b := b) ha hv
  rw [e]
  cases h : imgOf a v with
  | lit k =>
    have hk : LitOk m k := by rw [h] at hm; exact ha.2 _ hm
    have := lin (m := m) (fun x => imC (imgOf b x)) [(1, k)] (fun q hq => by rw [List.mem_singleton] at hq; subst hq; exact hk)
    simp only [List.map_cons, List.map_nil, List.sum_cons, List.sum_nil, Int.add_zero] at this
    have t := term_C hb (q := (1, k)) hk
    simp only [Int.one_mul] at t
    show imC (imgOf b k) = _
    rw [t, this]
    have e2 : (Sm m fun v => coef [(1, k)] v * imC (imgOf b v)) = Sm m fun x => imS (.lit k) x * imC (imgOf b x) := Sm_congr fun x _ => by rw [coef_one]; rfl
    rw [e2]
    show _ = (if 0 < k then 0 else 1) + _
    omega
  | yes => rw [show (Sm m fun x => imS .yes x * imC (imgOf b x)) = 0 from sum_zero _ _ fun x _ => by simp [imS]]; rfl
  | no => rw [show (Sm m fun x => imS .no x * imC (imgOf b x)) = 0 from sum_zero _ _ fun x _ => by simp [imS]]; rfl
/-- sums within sums -/
theorem Sm_swap {m : Int} (c : Int → Int) (A : Int → Int → Int) (B : Int → Int) : (Sm m fun v => c v * Sm m fun x => A v x * B x) = Sm m fun x => (Sm m fun v => c v * A v x) * B x := by
  unfold Sm
  have e1 : ((oneTo m).map fun v => c v * ((oneTo m).map fun x => A v x * B x).sum).sum = ((oneTo m).map fun v => ((oneTo m).map fun x => c v * A v x * B x).sum).sum := by
    refine sum_congr fun v _ => ?_
    rw [← sum_mull]
    exact sum_congr fun x _ => by rw [Int.mul_assoc]
  rw [e1, sum_swap]
  exact sum_congr fun x _ => by rw [sum_mulr]
/-- an image's worth at numbers 0, 1 -/
theorem im_nn {m : Int} {i : Im} (hi : ImOk m i) {p : Int → Int} (hp : ∀ v, p v = 0 ∨ p v = 1) : 0 ≤ imC i + Sm m fun u => imS i u * p u := by
  cases i with
  | lit k =>
    have hk : LitOk m k := hi
    have := lin (m := m) p [(1, k)] (fun q hq => by rw [List.mem_singleton] at hq; subst hq; exact hk)
    simp only [List.map_cons, List.map_nil, List.sum_cons, List.sum_nil, Int.add_zero] at this
    have e2 : (Sm m fun v => coef [(1, k)] v * p v) = Sm m fun u => imS (.lit k) u * p u := Sm_congr fun x _ => by rw [coef_one]; rfl
    rw [← e2, ← this]
    simp only [imC, sgn]
    rcases hp (absI k) with h | h <;> rw [h] <;> split <;> omega
  | yes => rw [show (Sm m fun u => imS .yes u * p u) = 0 from sum_zero _ _ fun x _ => by simp [imS]]; decide
  | no => rw [show (Sm m fun u => imS .no u * p u) = 0 from sum_zero _ _ fun x _ => by simp [imS]]; decide
theorem imgOf_ok {m : Int} {w : List Im} (hw : WitOk m w) {l : Int} (hl : LitOk m l) : ImOk m (imgOf w l) := by
  obtain ⟨i, hi, h | h⟩ := imgOf_mem (w := w) (l := l) (by rw [hw.1]; exact hl)
  · rw [h]; exact hw.2 i hi
  · rw [h]
    have := hw.2 i hi
    cases i with
    | lit k =>
      obtain ⟨a, b, c⟩ : LitOk m k := this
      exact ⟨by omega, by omega, by omega⟩
    | _ => trivial
/-- the least that a list of terms comes to -/
theorem neg_least {m : Int} {w : List Im} {r r' : Row} (hw : WitOk m w) (hr : RowOk m r) (h : Led m w r r') : neg r'.1 ≤ (Sm m fun v => coef r.1 v * imC (imgOf w v)) + neg r.1 := by
  -- the filling at which all negative terms come true
  let p : Int → Int := fun u => if coef r'.1 u < 0 then 1 else 0
  have hp : ∀ v, p v = 0 ∨ p v = 1 := fun v => by
    show (if _ then _ else _) = _ ∨ (if _ then _ else _) = _
    split
    · exact .inr rfl
    · exact .inl rfl
  have hl := hr.1.lits
  have e1 : (Sm m fun u => coef r'.1 u * p u) = -neg r'.1 := by
    rw [← lin p r'.1 h.ok.1.lits]
    unfold neg
    have : ∀ q, q ∈ r'.1 → sgn q * p (absI q.2) = -1 * (if 0 < q.2 then 0 else q.1) := fun q hq => by
      have hc := coef_at (Srt.nd (ts := r'.1) h.ok.1.2) hq
      have h1 := (h.ok.pos q hq).1
      show sgn q * (if coef r'.1 (absI q.2) < 0 then 1 else 0) = _
      rw [hc]
      unfold sgn
      split
      · rw [if_neg (by omega)]; omega
      · rw [if_pos (by omega)]; omega
    rw [sum_congr this, sum_mull]; omega
  have e2 : (r.1.map fun q => q.1 * (imC (imgOf w q.2) + Sm m fun u => imS (imgOf w q.2) u * p u)).sum = ((Sm m fun v => coef r.1 v * imC (imgOf w v)) + neg r.1) + Sm m fun u => coef r'.1 u * p u := by
    rw [← led_constS hw hl]
    have : (Sm m fun u => coef r'.1 u * p u) = (r.1.map fun q => q.1 * Sm m fun u => imS (imgOf w q.2) u * p u).sum := by
      have e3 : ∀ u, coef r'.1 u * p u = (r.1.map fun q => q.1 * imS (imgOf w q.2) u * p u).sum := fun u => by
        rw [h.co u, ← led_coefS hw hl, led_coef, sum_mulr]
      unfold Sm
      rw [sum_congr fun u _ => e3 u, sum_swap]
      refine sum_congr fun q _ => ?_
      rw [← sum_mull]
      exact sum_congr fun u _ => by rw [Int.mul_assoc]
    rw [this, ← sum_add]
    exact sum_congr fun q _ => by rw [Int.mul_add]
  have e4 : 0 ≤ (r.1.map fun q => q.1 * (imC (imgOf w q.2) + Sm m fun u => imS (imgOf w q.2) u * p u)).sum := sum_pos _ _ fun q hq =>
    Int.mul_nonneg (by have := (hr.pos q hq).1; omega) (im_nn (imgOf_ok hw (hl q hq)) hp)
  omega
theorem led_led {m : Int} {a b : List Im} {r r1 r2 r3 : Row} (ha : WitOk m a) (hb : WitOk m b) (hj : WitOk m (joined a b)) (hr : RowOk m r) (h1 : Led m a r r1) (h2 : Led m b r1 r2) (h3 : Led m (joined a b) r r3) : r2 = r3 := by
  have ec : ∀ u, coef r2.1 u = coef r3.1 u := fun u => by
    rw [h2.co, h3.co]
    have e1 : (Sm m fun v => coef r.1 v * imS (imgOf (joined a b) v) u) = Sm m fun v => coef r.1 v * Sm m fun x => imS (imgOf a v) x * imS (imgOf b x) u := Sm_congr fun v hv => by rw [lin_S ha hb hv]
    rw [e1, Sm_swap (fun v => coef r.1 v) (fun v x => imS (imgOf a v) x) (fun x => imS (imgOf b x) u)]
    exact Sm_congr fun x _ => by rw [h1.co]
  have et : r2.1 = r3.1 := uniq h2.ok.1.2 h3.ok.1.2 h2.ok.pos h3.ok.pos ec
  have eC : (Sm m fun v => coef r.1 v * imC (imgOf (joined a b) v)) = (Sm m fun v => coef r.1 v * imC (imgOf a v)) + Sm m fun v => coef r1.1 v * imC (imgOf b v) := by
    have e1 : (Sm m fun v => coef r.1 v * imC (imgOf (joined a b) v)) = Sm m fun v => coef r.1 v * imC (imgOf a v) + coef r.1 v * Sm m fun x => imS (imgOf a v) x * imC (imgOf b x) := Sm_congr fun v hv => by rw [lin_C ha hb hv, Int.mul_add]
    rw [e1, Sm_add, Sm_swap (fun v => coef r.1 v) (fun v x => imS (imgOf a v) x) (fun x => imC (imgOf b x))]
    congr 1
    exact Sm_congr fun x _ => by rw [h1.co]
  have hn := neg_least hb h1.ok h2
  have b1 := h1.bd
  have b2 := h2.bd
  have b3 := h3.bd
  rw [eC, ← et] at b3
  refine Prod.ext et ?_
  unfold max0 at b1 b2 b3
  rw [b2, b3]
  split at b1 <;> split <;> split <;> omega
end Zz

set_option Elab.async false
set_option linter.all false
set_option maxRecDepth 100000
set_option maxHeartbeats 1000000
/-! K5o: what the law asks, of data: fillings, exchanges. -/
namespace Zz
open PySem

theorem wit_im0 {m : Int} {w : List Im} (h : WitOk m w) : ∀ i, i ∈ w → Im0 i := fun i hi => by
  have := h.2 i hi
  cases i with
  | lit l => exact this.2.2
  | _ => trivial
theorem oneTo_len' (m : Int) : (oneTo m).length = m.toNat := by simp [oneTo]
/-! ### where a row holds -/
theorem worth01 {m l : Int} {f : List Int} (hf : FilOk m f) (hl : LitOk m l) : worth l f = 0 ∨ worth l f = 1 := by
  have hl' : LitOk f.length l := by rw [hf.1]; exact hl
  obtain ⟨h1, _, _⟩ := lit_ix hl'
  have := hf.2 _ (getD_mem (d := 0) h1)
  unfold worth
  split <;> omega
theorem comes_eq {m : Int} {ts : Ts} {f : List Int} (hf : FilOk m f) (ht : LitsIn m ts) : comes ts f = (ts.map fun q => q.1 * worth q.2 f).sum := by
  unfold comes
  induction ts with
  | nil => rfl
  | cons q ts ih =>
    have ih := ih fun p hp => ht p (List.mem_cons_of_mem _ hp)
    rw [List.filter_cons, List.map_cons, List.sum_cons, ← ih]
    rcases worth01 hf (ht q List.mem_cons_self) with h | h
    · rw [h]; simp
    · rw [h]; simp
/-- a filling's number for a variable -/
def fv (f : List Int) (v : Int) : Int := f.getD (v.natAbs - 1) 0
theorem fv01 {m : Int} {f : List Int} (hf : FilOk m f) (v : Int) : fv f v = 0 ∨ fv f v = 1 := by
  unfold fv
  by_cases h : v.natAbs - 1 < f.length
  · exact hf.2 _ (getD_mem h)
  · rw [List.getD_eq_getElem?_getD, List.getElem?_eq_none (by omega)]; exact .inl rfl
theorem worth_fv {l : Int} (f : List Int) (hl : l ≠ 0) : worth l f = if 0 < l then fv f (absI l) else 1 - fv f (absI l) := by
  have : (absI l).natAbs = l.natAbs := by rw [absI_nat]; omega
  unfold worth fv
  rw [this]
theorem comes_S {m : Int} {ts : Ts} {f : List Int} (hf : FilOk m f) (ht : LitsIn m ts) : comes ts f = (Sm m fun v => coef ts v * fv f v) + neg ts := by
  rw [comes_eq hf ht, ← lin (fun v => fv f v) ts ht]
  unfold neg
  rw [← sum_add]
  refine sum_congr fun q hq => ?_
  rw [worth_fv f (ht q hq).2.2]
  unfold sgn
  split
  · omega
  · rw [Int.mul_sub, Int.neg_mul]; omega
theorem imW_S {m : Int} {i : Im} {f : List Int} (hi : ImOk m i) : imW i f = imC i + Sm m fun u => imS i u * fv f u := by
  cases i with
  | lit k =>
    have hk : LitOk m k := hi
    have := lin (m := m) (fv f) [(1, k)] (fun q hq => by rw [List.mem_singleton] at hq; subst hq; exact hk)
    simp only [List.map_cons, List.map_nil, List.sum_cons, List.sum_nil, Int.add_zero] at this
    have e2 : (Sm m fun v => coef [(1, k)] v * fv f v) = Sm m fun u => imS (.lit k) u * fv f u := Sm_congr fun x _ => by rw [coef_one]; rfl
    rw [← e2, ← this]
    show worth k f = _
    rw [worth_fv f hk.2.2]
    simp only [imC, sgn]
    split <;> omega
  | yes => rw [show (Sm m fun u => imS .yes u * fv f u) = 0 from sum_zero _ _ fun x _ => by simp [imS]]; rfl
  | no => rw [show (Sm m fun u => imS .no u * fv f u) = 0 from sum_zero _ _ fun x _ => by simp [imS]]; rfl
theorem imW_turn {i : Im} (h : Im0 i) (f : List Int) : imW (turn i) f = 1 - imW i f := by
  cases i with
  | lit k =>
    have hk : k ≠ 0 := h
    show worth (-k) f = 1 - worth k f
    have e : (-k).natAbs = k.natAbs := by omega
    unfold worth
    rw [e]
    by_cases h2 : 0 < k
    · rw [if_neg (show ¬ 0 < -k by omega), if_pos h2]
    · rw [if_pos (show 0 < -k by omega), if_neg h2]; omega
  | _ => rfl
theorem worth_led {m l : Int} {w : List Im} (hw : WitOk m w) (hl : LitOk m l) (f : List Int) : worth l (ledTo w f) = imW (imgOf w l) f := by
  have hl' : LitOk w.length l := by rw [hw.1]; exact hl
  obtain ⟨h1, _, _⟩ := lit_ix hl'
  have e : (ledTo w f).getD (l.natAbs - 1) 0 = imW (w.getD (l.natAbs - 1) .yes) f := by
    unfold ledTo
    rw [List.getD_eq_getElem?_getD, List.getElem?_map, List.getD_eq_getElem?_getD, List.getElem?_eq_getElem h1]
    rfl
  unfold worth imgOf
  rw [e]
  split
  · rfl
  · rw [imW_turn (wit_im0 hw _ (getD_mem (d := Im.yes) h1))]
theorem led_fil {m : Int} {w : List Im} {f : List Int} (hw : WitOk m w) (hf : FilOk m f) : FilOk m (ledTo w f) := by
  refine ⟨by unfold ledTo; rw [List.length_map]; exact hw.1, fun x hx => ?_⟩
  unfold ledTo at hx
  obtain ⟨i, hi, rfl⟩ := List.mem_map.mp hx
  cases i with
  | lit k => exact worth01 hf (hw.2 _ hi)
  | yes => exact .inr rfl
  | no => exact .inl rfl
/-- a led row holds where the row holds at the led filling -/
theorem holds_led {m : Int} {w : List Im} {r r' : Row} {f : List Int} (hw : WitOk m w) (hr : RowOk m r) (h : Led m w r r') (hf : FilOk m f) : holds r' f = holds r (ledTo w f) := by
  have hl := hr.1.lits
  have c1 := comes_S hf h.ok.1.lits
  have c0 : 0 ≤ comes r'.1 f := by
    rw [comes_eq hf h.ok.1.lits]
    refine sum_pos _ _ fun q hq => ?_
    have h1 := (h.ok.pos q hq).1
    rcases worth01 hf (h.ok.1.lits q hq) with e | e <;> rw [e] <;> omega
  have c2 : comes r.1 (ledTo w f) = ((Sm m fun v => coef r.1 v * imC (imgOf w v)) + neg r.1) + Sm m fun u => coef r'.1 u * fv f u := by
    rw [comes_eq (led_fil hw hf) hl, ← led_constS hw hl]
    have : (Sm m fun u => coef r'.1 u * fv f u) = (r.1.map fun q => q.1 * Sm m fun u => imS (imgOf w q.2) u * fv f u).sum := by
      have e3 : ∀ u, coef r'.1 u * fv f u = (r.1.map fun q => q.1 * imS (imgOf w q.2) u * fv f u).sum := fun u => by
        rw [h.co u, ← led_coefS hw hl, led_coef, sum_mulr]
      unfold Sm
      rw [sum_congr fun u _ => e3 u, sum_swap]
      refine sum_congr fun q _ => ?_
      rw [← sum_mull]
      exact sum_congr fun u _ => by rw [Int.mul_assoc]
    rw [this, ← sum_add]
    refine sum_congr fun q hq => ?_
    rw [worth_led hw (hl q hq), imW_S (imgOf_ok hw (hl q hq)), Int.mul_add]
  have b := h.bd
  unfold max0 at b
  unfold holds
  congr 1
  apply propext
  split at b <;> omega
theorem led_joined {m : Int} {a b : List Im} {f : List Int} (ha : WitOk m a) (hb : WitOk m b) : ledTo (joined a b) f = ledTo a (ledTo b f) := by
  unfold joined ledTo
  rw [List.map_map]
  refine List.map_congr_left fun i hi => ?_
  cases i with
  | lit l => exact (worth_led hb (ha.2 _ hi) f).symm
  | _ => rfl
theorem joined_ok {m : Int} {a b : List Im} (ha : WitOk m a) (hb : WitOk m b) : WitOk m (joined a b) := by
  refine ⟨by unfold joined; rw [List.length_map]; exact ha.1, fun i hi => ?_⟩
  unfold joined at hi
  obtain ⟨x, hx, rfl⟩ := List.mem_map.mp hi
  cases x with
  | lit l => exact imgOf_ok hb (ha.2 _ hx)
  | _ => trivial
/-- the image of a literal, led by both -/
theorem img_joined {m l : Int} {a b : List Im} (ha : WitOk m a) (hb : WitOk m b) (hl : LitOk m l) : imgOf (joined a b) l = (match imgOf a l with | .lit k => imgOf b k | x => x) := by
  rw [imgOf_sgn hl.2.2, imgOf_sgn (w := a) hl.2.2, (joined_at (b := b) ha (absI_in hl)).1]
  split
  · rfl
  · cases h : imgOf a (absI l) with
    | yes => rfl
    | no => rfl
    | lit k =>
      have hk : LitOk m k := by have := imgOf_ok ha (litAbs hl); rw [h] at this; exact this
      show turn (imgOf b k) = imgOf b (-k)
      have h1 : (-k) ≠ 0 := by have := hk.2.2; omega
      have h2 : absI (-k) = absI k := by rw [absI_nat, absI_nat]; omega
      rw [imgOf_sgn hk.2.2, imgOf_sgn h1, h2]
      by_cases h3 : 0 < k
      · rw [if_pos h3, if_neg (show ¬ 0 < -k by omega)]
      · rw [if_neg h3, if_pos (show 0 < -k by omega), turn_turn]
/-! ### opposites -/
theorem opp_ok {m : Int} {r : Row} (hr : RowOk m r) : RowOk m (opp r) := by
  refine ⟨⟨fun q hq => ?_, ?_⟩, ?_⟩
  · unfold opp at hq
    obtain ⟨p, hp, rfl⟩ := List.mem_map.mp hq
    obtain ⟨h1, h2, h3, h4⟩ := hr.1.1 p hp
    exact ⟨h1, by show -m ≤ -p.2; omega, by show -p.2 ≤ m; omega, by show -p.2 ≠ 0; omega⟩
  · unfold opp
    rw [List.pairwise_map]
    exact hr.1.2.imp fun {a b} h => by show (-a.2).natAbs < (-b.2).natAbs; omega
  · show 0 ≤ max0 _
    unfold max0; split <;> omega
theorem comes_opp {m : Int} {ts : Ts} {f : List Int} (hf : FilOk m f) (ht : LitsIn m ts) : comes (ts.map fun q => (q.1, -q.2)) f = total ts - comes ts f := by
  have ht2 : LitsIn m (ts.map fun q => (q.1, -q.2)) := fun q hq => by
    obtain ⟨p, hp, rfl⟩ := List.mem_map.mp hq
    obtain ⟨h2, h3, h4⟩ := ht p hp
    exact ⟨by show -m ≤ -p.2; omega, by show -p.2 ≤ m; omega, by show -p.2 ≠ 0; omega⟩
  rw [comes_eq hf ht2, comes_eq hf ht, List.map_map]
  unfold total
  have : ∀ q, q ∈ ts → q.1 = (fun q : Int × Int => q.1 * worth q.2 f) ((fun q : Int × Int => (q.1, -q.2)) q) + q.1 * worth q.2 f := fun q hq => by
    have := imW_turn (i := .lit q.2) (show q.2 ≠ 0 from (ht q hq).2.2) f
    have this : worth (-q.2) f = 1 - worth q.2 f := this
    show q.1 = q.1 * worth (-q.2) f + q.1 * worth q.2 f
    rw [this, Int.mul_sub]; omega
  rw [sum_congr this, sum_add]
  simp only [Function.comp_def]
  omega
theorem holds_opp {m : Int} {r : Row} {f : List Int} (hr : RowOk m r) (hf : FilOk m f) : holds (opp r) f = !holds r f := by
  have h1 := comes_opp hf hr.1.lits
  have c0 : 0 ≤ comes r.1 f ∧ comes r.1 f ≤ total r.1 := by
    rw [comes_eq hf hr.1.lits]
    have a := sum_pos r.1 (fun q => q.1 * worth q.2 f) fun q hq => by
      have h1 := (hr.pos q hq).1
      rcases worth01 hf (hr.1.lits q hq) with e | e <;> rw [e] <;> omega
    have b := sum_pos r.1 (fun q => q.1 - q.1 * worth q.2 f) fun q hq => by
      have h1 := (hr.pos q hq).1
      rcases worth01 hf (hr.1.lits q hq) with e | e <;> rw [e] <;> omega
    have c : total r.1 = (r.1.map fun q => (q.1 - q.1 * worth q.2 f) + q.1 * worth q.2 f).sum := sum_congr fun q _ => by omega
    rw [sum_add] at c
    omega
  unfold holds
  have e : comes (opp r).1 f = total r.1 - comes r.1 f := h1
  rw [e]
  have e2 : (opp r).2 = max0 (total r.1 - r.2 + 1) := rfl
  rw [e2]
  unfold max0
  rw [← decide_not]
  congr 1
  apply propext
  split <;> omega
/-! ### exchanges -/
def exL (es : List Int) (l : Int) : Int := if 0 < l then es.getD (l.natAbs - 1) 0 else -es.getD (l.natAbs - 1) 0
theorem ex_img {m l : Int} {es : List Int} (he : Exch m es) (hl : LitOk m l) : imgOf (es.map Im.lit) l = .lit (exL es l) := by
  have hl' : LitOk es.length l := by rw [he.1]; exact hl
  obtain ⟨h1, _, _⟩ := lit_ix hl'
  have e : (es.map Im.lit).getD (l.natAbs - 1) .yes = .lit (es.getD (l.natAbs - 1) 0) := by
    rw [List.getD_eq_getElem?_getD, List.getElem?_map, List.getD_eq_getElem?_getD, List.getElem?_eq_getElem h1]
    rfl
  unfold imgOf exL
  rw [e]
  split <;> rfl
theorem exL_abs {m l : Int} {es : List Int} (he : Exch m es) (hl : LitOk m l) : ∃ e, es[l.natAbs - 1]? = some e ∧ exL es l = (if 0 < l then e else -e) ∧ LitOk m e := by
  have hl' : LitOk es.length l := by rw [he.1]; exact hl
  obtain ⟨h1, _, _⟩ := lit_ix hl'
  refine ⟨es[l.natAbs - 1], List.getElem?_eq_getElem h1, ?_, he.lit (List.getElem_mem h1)⟩
  unfold exL
  rw [List.getD_eq_getElem?_getD, List.getElem?_eq_getElem h1]
  rfl
theorem exL_ok {m l : Int} {es : List Int} (he : Exch m es) (hl : LitOk m l) : LitOk m (exL es l) := by
  obtain ⟨e, _, h, a, b, c⟩ := exL_abs he hl
  rw [h]; split <;> exact ⟨by omega, by omega, by omega⟩
theorem exL_inj {m l k : Int} {es : List Int} (he : Exch m es) (hl : LitOk m l) (hk : LitOk m k) (h : (exL es l).natAbs = (exL es k).natAbs) : l.natAbs = k.natAbs := by
  obtain ⟨e, h1, h2, _⟩ := exL_abs he hl
  obtain ⟨e', h3, h4, _⟩ := exL_abs he hk
  have : e.natAbs = e'.natAbs := by
    rw [h2, h4] at h
    split at h <;> split at h <;> omega
  have := he.apart h1 h3 this
  obtain ⟨_, _, a⟩ := hl
  obtain ⟨_, _, b⟩ := hk
  omega
theorem exL_inj2 {m l k : Int} {es : List Int} (he : Exch m es) (hl : LitOk m l) (hk : LitOk m k) (h : exL es l = exL es k) : l = k := by
  have ha := exL_inj he hl hk (by rw [h])
  obtain ⟨e, h1, h2, _, _, h5⟩ := exL_abs he hl
  obtain ⟨e', h3, h4, _⟩ := exL_abs he hk
  rw [ha] at h1
  obtain rfl := Option.some.inj (h1.symm.trans h3)
  rw [h2, h4] at h
  split at h <;> split at h <;> omega
/-- a row's terms, led -/
def exTs (es : List Int) (ts : Ts) : Ts := ts.map fun q => (q.1, exL es q.2)
theorem ex_pairs {m : Int} {es : List Int} (he : Exch m es) {ts : Ts} (ht : LitsIn m ts) : ledPairs (es.map Im.lit) ts = exTs es ts ∧ ledSum (es.map Im.lit) ts = 0 := by
  induction ts with
  | nil => exact ⟨rfl, rfl⟩
  | cons q ts ih =>
    obtain ⟨h1, h2⟩ := ih fun p hp => ht p (List.mem_cons_of_mem _ hp)
    have h := ex_img he (ht q List.mem_cons_self)
    have e : ledPairs (es.map Im.lit) (q :: ts) = ledPairs (es.map Im.lit) [q] ++ ledPairs (es.map Im.lit) ts := ledPairs_app _ [q] ts
    have e2 : ledSum (es.map Im.lit) (q :: ts) = ledSum (es.map Im.lit) [q] + ledSum (es.map Im.lit) ts := ledSum_app _ [q] ts
    have h3 : ledPairs (es.map Im.lit) [q] = [(q.1, exL es q.2)] := by unfold ledPairs; simp [h]
    have h4 : ledSum (es.map Im.lit) [q] = 0 := by unfold ledSum; simp [h]
    rw [e, e2, h1, h2, h3, h4]
    exact ⟨rfl, rfl⟩
theorem ex_nd {m : Int} {es : List Int} (he : Exch m es) {ts : Ts} (h : TsOk m ts) : Nd (exTs es ts) ∧ Pos (exTs es ts) := by
  refine ⟨?_, fun q hq => ?_⟩
  · unfold Nd exTs List.Nodup
    rw [List.map_map, List.pairwise_map]
    have hp : ts.Pairwise fun a b => a ∈ ts ∧ b ∈ ts ∧ a.2.natAbs < b.2.natAbs := by
      exact List.pairwise_iff_forall_sublist.mpr fun {a b} hs => ⟨hs.subset (by simp), hs.subset (by simp), List.pairwise_iff_forall_sublist.mp h.2 hs⟩
    refine hp.imp fun {a b} ⟨ha, hb, hab⟩ e => ?_
    have e : absI (exL es a.2) = absI (exL es b.2) := e
    rw [absI_nat, absI_nat] at e
    have := exL_inj he (h.1 a ha).2 (h.1 b hb).2 (by omega)
    omega
  · unfold exTs at hq
    obtain ⟨p, hp, rfl⟩ := List.mem_map.mp hq
    exact ⟨(h.1 p hp).1, (exL_ok he (h.1 p hp).2).2.2⟩
theorem ex_led {m : Int} {es : List Int} {r r' : Row} (he : Exch m es) (hr : RowOk m r) (h : IsLed (es.map Im.lit) r r') : r'.1.Perm (exTs es r.1) ∧ r'.2 = r.2 := by
  obtain ⟨e1, e2⟩ := ex_pairs he hr.1.lits
  unfold IsLed at h
  rw [e1, e2] at h
  obtain ⟨h1, h2, h3, h4⟩ := h
  obtain ⟨n1, n2⟩ := ex_nd he hr.1
  have hp := perm_of (Srt.nd h1) n1 (fun q hq => ⟨(h2 q hq).1, (h2 q hq).2.1⟩) n2 h3
  refine ⟨hp, ?_⟩
  have hn : neg r'.1 = neg (exTs es r.1) := sum_perm (hp.map _)
  rw [h4, hn]
  have := hr.2
  split <;> omega
theorem sum_pmap {α : Type} {a b : List α} (h : a.Perm b) (f : α → Int) : (a.map f).sum = (b.map f).sum := sum_perm (h.map f)
/-- weights -/
theorem ex_weights {m : Int} {es : List Int} {r r' : Row} (he : Exch m es) (hr : RowOk m r) (h : IsLed (es.map Im.lit) r r') : srtI (r'.1.map (·.1)) = srtI (r.1.map (·.1)) := by
  refine srtI_congr ?_
  have := (ex_led he hr h).1.map (·.1)
  unfold exTs at this
  rw [List.map_map] at this
  exact this
theorem getL_mem {ts : Ts} (hn : (ts.map (·.2)).Nodup) {q : Int × Int} (hq : q ∈ ts) : getL ts q.2 = q.1 := by
  induction ts with
  | nil => simp at hq
  | cons p ts ih =>
    rw [List.map_cons, List.nodup_cons] at hn
    unfold getL at *
    rw [List.find?_cons]
    rcases List.mem_cons.mp hq with rfl | hq
    · simp
    · have : ¬ p.2 = q.2 := fun e => hn.1 (by rw [e]; exact List.mem_map_of_mem (f := (·.2)) hq)
      simp only [this, decide_false]
      exact ih hn.2 hq
theorem getL_no {ts : Ts} {l : Int} (h : ∀ q, q ∈ ts → q.2 ≠ l) : getL ts l = 0 := by
  unfold getL
  have : ts.find? (fun q => decide (q.2 = l)) = none := List.find?_eq_none.mpr fun q hq e => h q hq (of_decide_eq_true e)
  rw [this]; rfl
theorem ex_cov {m : Int} {es : List Int} {r n r' n' : Row} (he : Exch m es) (hr : RowOk m r) (hn : RowOk m n) (h1 : IsLed (es.map Im.lit) r r') (h2 : IsLed (es.map Im.lit) n n') : cov r' n' = cov r n := by
  obtain ⟨p1, b1⟩ := ex_led he hr h1
  obtain ⟨p2, b2⟩ := ex_led he hn h2
  have hg : ∀ l, LitOk m l → getL n'.1 (exL es l) = getL n.1 l := fun l hl => by
    by_cases hx : ∃ q, q ∈ n.1 ∧ q.2 = l
    · obtain ⟨q, hq, rfl⟩ := hx
      rw [getL_mem (Srt.nodup hn.1.2) hq]
      have hm : (q.1, exL es q.2) ∈ n'.1 := p2.mem_iff.mpr (List.mem_map_of_mem (f := fun q : Int × Int => (q.1, exL es q.2)) hq)
      exact getL_mem (Srt.nodup h2.1) hm
    · rw [getL_no (l := l) fun q hq e => hx ⟨q, hq, e⟩]
      refine getL_no fun q hq e => ?_
      have := p2.mem_iff.mp hq
      unfold exTs at this
      obtain ⟨p, hp, rfl⟩ := List.mem_map.mp this
      exact hx ⟨p, hp, exL_inj2 he (hn.1.lits p hp) hl e⟩
  unfold cov
  rw [b1, b2, sum_pmap p1]
  unfold exTs
  rw [List.map_map]
  have : (r.1.map ((fun q : Int × Int => max0 (q.1 - getL n'.1 q.2)) ∘ fun q => (q.1, exL es q.2))).sum = (r.1.map fun q => max0 (q.1 - getL n.1 q.2)).sum := sum_congr fun q hq => by
    show max0 (q.1 - getL n'.1 (exL es q.2)) = _
    rw [hg _ (hr.1.lits q hq)]
  rw [this]
/-! ### what leads back -/
theorem back_at {m : Int} {es es' : List Int} (he : Exch m es) (h : IsTurned es es') {p : Nat} (hp : p < es.length) : ∃ (i : Nat) (e : Int), es[i]? = some e ∧ e.natAbs - 1 = p ∧ es'[p]? = some (if 0 < e then (i : Int) + 1 else -((i : Int) + 1)) := by
  have hm : ((p : Int) + 1) ∈ es.map absI := he.2.mem_iff.mpr (by rw [mem_oneTo]; have := he.1; omega)
  obtain ⟨e, hE, h1⟩ := List.mem_map.mp hm
  obtain ⟨i, hi⟩ := List.getElem?_of_mem hE
  have h2 : e.natAbs - 1 = p := by rw [absI_nat] at h1; omega
  refine ⟨i, e, hi, h2, ?_⟩
  have := h.2 i e hi
  rwa [h2] at this
theorem back_ex {m : Int} {es es' : List Int} (he : Exch m es) (h : IsTurned es es') : Exch m es' := by
  have hl : es'.length = es.length := h.1
  refine ⟨by rw [hl]; exact he.1, (List.perm_ext_iff_of_nodup ?_ (oneTo_nodup m)).mpr fun v => ?_⟩
  · unfold List.Nodup
    rw [List.pairwise_iff_getElem]
    intro i j hi' hj' hij e
    have hj := hj'
    rw [List.length_map, hl] at hj
    have e : (es'.map absI)[i]? = (es'.map absI)[j]? := by rw [List.getElem?_eq_getElem hi', List.getElem?_eq_getElem hj', e]
    obtain ⟨a, x, ha, ha2, ha3⟩ := back_at he h (p := i) (by omega)
    obtain ⟨b, y, hb, hb2, hb3⟩ := back_at he h (p := j) hj
    rw [List.getElem?_map, List.getElem?_map, ha3, hb3] at e
    have e : absI (if 0 < x then (a : Int) + 1 else -((a : Int) + 1)) = absI (if 0 < y then (b : Int) + 1 else -((b : Int) + 1)) := Option.some.inj e
    rw [absI_nat, absI_nat] at e
    have hab : a = b := by split at e <;> split at e <;> omega
    subst hab
    have := Option.some.inj (ha.symm.trans hb)
    subst this
    omega
  · rw [mem_oneTo]
    refine ⟨fun hv => ?_, fun ⟨h1, h2⟩ => ?_⟩
    · obtain ⟨x, hx, rfl⟩ := List.mem_map.mp hv
      obtain ⟨p, hp⟩ := List.getElem?_of_mem hx
      have hlt := (List.getElem?_eq_some_iff.mp hp).1
      obtain ⟨a, y, ha, ha2, ha3⟩ := back_at he h (p := p) (by omega)
      have := Option.some.inj (hp.symm.trans ha3)
      have hla := (List.getElem?_eq_some_iff.mp ha).1
      have := he.1
      rw [absI_nat]
      subst x
      split <;> omega
    · have hlt : (v - 1).toNat < es.length := by have := he.1; omega
      have := h.2 (v - 1).toNat _ (List.getElem?_eq_getElem hlt)
      have hm := mem_of_at this
      refine List.mem_map.mpr ⟨_, hm, ?_⟩
      rw [absI_nat]
      split <;> omega
theorem back_back {m : Int} {es es' es2 : List Int} (he : Exch m es) (h : IsTurned es es') (h2 : IsTurned es' es2) : es2 = es := by
  refine List.ext_getElem? fun i => ?_
  by_cases hi : i < es.length
  · have hE := List.getElem?_eq_getElem hi
    have a := h.2 i _ hE
    have b := h2.2 _ _ a
    have hl := he.lit (List.getElem_mem hi)
    have e1 : (if 0 < es[i] then (i : Int) + 1 else -((i : Int) + 1)).natAbs - 1 = i := by split <;> omega
    rw [e1] at b
    rw [b, hE]
    congr 1
    obtain ⟨_, _, h0⟩ := hl
    by_cases hp : 0 < es[i]
    · rw [if_pos hp, if_pos (by omega)]; omega
    · rw [if_neg hp, if_neg (by omega)]; omega
  · rw [List.getElem?_eq_none (by rw [h2.1, h.1]; omega), List.getElem?_eq_none (by omega)]
theorem joined_back {m : Int} {es es' : List Int} (he : Exch m es) (h : IsTurned es es') : joined (es.map Im.lit) (es'.map Im.lit) = (oneTo m).map Im.lit := by
  have hb := back_ex he h
  refine List.ext_getElem? fun i => ?_
  unfold joined
  rw [List.getElem?_map, List.getElem?_map, List.getElem?_map]
  by_cases hi : i < es.length
  · have hE := List.getElem?_eq_getElem hi
    have hl := he.lit (List.getElem_mem hi)
    have a := h.2 i _ hE
    have ho : (oneTo m)[i]? = some (1 + (i : Int)) := by
      unfold oneTo
      rw [List.getElem?_map, List.getElem?_range (by have := he.1; omega)]
      rfl
    rw [hE, ho]
    show some (imgOf (es'.map Im.lit) es[i]) = some (Im.lit (1 + (i : Int)))
    rw [ex_img hb hl]
    unfold exL
    rw [List.getD_eq_getElem?_getD, a]
    show some (Im.lit (if 0 < es[i] then (if 0 < es[i] then (i : Int) + 1 else -((i : Int) + 1)) else -(if 0 < es[i] then (i : Int) + 1 else -((i : Int) + 1)))) = _
    by_cases hp : 0 < es[i]
    · rw [if_pos hp, if_pos hp]; congr 2; omega
    · rw [if_neg hp, if_neg hp]; congr 2; omega
  · have ho : (oneTo m)[i]? = none := List.getElem?_eq_none (by have := oneTo_len' m; have := he.1; omega)
    rw [List.getElem?_eq_none (by omega), ho]
    rfl
theorem id_led {m : Int} {r : Row} (hm : 0 ≤ m) (hr : RowOk m r) : IsLed ((oneTo m).map Im.lit) r r := by
  have he : Exch m (oneTo m) := ⟨by have := oneTo_len' m; omega, by
    have : (oneTo m).map absI = oneTo m := by
      conv => rhs; rw [← List.map_id (oneTo m)]
      exact List.map_congr_left fun v hv => by rw [mem_oneTo] at hv; rw [absI_nat]; show ((v.natAbs : Nat) : Int) = v; omega
    rw [this]⟩
  obtain ⟨e1, e2⟩ := ex_pairs he hr.1.lits
  have e3 : exTs (oneTo m) r.1 = r.1 := by
    unfold exTs
    conv => rhs; rw [← List.map_id r.1]
    refine List.map_congr_left fun q hq => ?_
    obtain ⟨e, h1, h2, _⟩ := exL_abs he (hr.1.lits q hq)
    have hl := hr.1.lits q hq
    have : e = 1 + ((q.2.natAbs - 1 : Nat) : Int) := by
      unfold oneTo at h1
      rw [List.getElem?_map, List.getElem?_range (by obtain ⟨a, b, c⟩ := hl; omega)] at h1
      exact (Option.some.inj h1).symm
    show (q.1, exL (oneTo m) q.2) = q
    rw [h2, this]
    refine Prod.ext rfl ?_
    show (if 0 < q.2 then _ else _) = q.2
    have := hl.2.2
    split <;> omega
  unfold IsLed
  rw [e1, e2, e3]
  refine ⟨hr.1.2, fun q hq => ⟨(hr.pos q hq).1, (hr.pos q hq).2, q, hq, rfl⟩, fun _ => rfl, ?_⟩
  have := hr.2
  split <;> omega
theorem led_back {m : Int} {es es' : List Int} {r r1 r2 : Row} (hm : 0 ≤ m) (he : Exch m es) (h : IsTurned es es') (hr : RowOk m r) (h1 : IsLed (es.map Im.lit) r r1) (h2 : IsLed (es'.map Im.lit) r1 r2) : r2 = r := by
  have hb := back_ex he h
  have L1 := led_of he.wit hr h1
  have L2 := led_of hb.wit L1.ok h2
  have hj := joined_ok he.wit hb.wit
  have L3 : Led m (joined (es.map Im.lit) (es'.map Im.lit)) r r := led_of hj hr (by rw [joined_back he h]; exact id_led hm hr)
  exact led_led he.wit hb.wit hj hr L1 L2 L3
/-! ### yes and no alone -/
def fixW (f : List Int) : List Im := f.map fun v => if v = 1 then Im.yes else Im.no
theorem fix_ok {m : Int} {f : List Int} (hf : FilOk m f) : WitOk m (fixW f) := ⟨by unfold fixW; rw [List.length_map]; exact hf.1, fun i hi => by
  unfold fixW at hi
  obtain ⟨v, _, rfl⟩ := List.mem_map.mp hi
  split <;> trivial⟩
theorem fix_img {m l : Int} {f : List Int} (hf : FilOk m f) (hl : LitOk m l) : imgOf (fixW f) l = if worth l f = 1 then .yes else .no := by
  have hl' : LitOk f.length l := by rw [hf.1]; exact hl
  obtain ⟨h1, _, _⟩ := lit_ix hl'
  have e : (fixW f).getD (l.natAbs - 1) .yes = if f.getD (l.natAbs - 1) 0 = 1 then Im.yes else Im.no := by
    unfold fixW
    rw [List.getD_eq_getElem?_getD, List.getElem?_map, List.getD_eq_getElem?_getD, List.getElem?_eq_getElem h1]
    rfl
  have h01 := hf.2 _ (getD_mem (d := 0) h1)
  unfold imgOf worth
  rw [e]
  by_cases h2 : 0 < l
  · rw [if_pos h2, if_pos h2]
  · rw [if_neg h2, if_neg h2]
    rcases h01 with h | h <;> rw [h] <;> rfl
theorem fix_led {m : Int} {f : List Int} {r r' : Row} (hf : FilOk m f) (hr : RowOk m r) (h : IsLed (fixW f) r r') : r'.1 = [] ∧ decide (r'.2 = 0) = holds r f := by
  have hp : ∀ ts : Ts, LitsIn m ts → ledPairs (fixW f) ts = [] ∧ ledSum (fixW f) ts = comes ts f := by
    intro ts
    induction ts with
    | nil => exact fun _ => ⟨rfl, rfl⟩
    | cons q ts ih =>
      intro ht
      obtain ⟨h1, h2⟩ := ih fun p hp => ht p (List.mem_cons_of_mem _ hp)
      have hi := fix_img hf (ht q List.mem_cons_self)
      have e : ledPairs (fixW f) (q :: ts) = ledPairs (fixW f) [q] ++ ledPairs (fixW f) ts := ledPairs_app _ [q] ts
      have e2 : ledSum (fixW f) (q :: ts) = ledSum (fixW f) [q] + ledSum (fixW f) ts := ledSum_app _ [q] ts
      rw [e, e2, h1, h2]
      unfold ledPairs ledSum comes
      rw [List.filter_cons]
      by_cases hw : worth q.2 f = 1
      · rw [if_pos hw] at hi
        simp [hi, hw]
      · rw [if_neg hw] at hi
        simp [hi, hw]
  obtain ⟨e1, e2⟩ := hp r.1 hr.1.lits
  unfold IsLed at h
  rw [e1, e2] at h
  obtain ⟨h1, h2, h3, h4⟩ := h
  have hnil : r'.1 = [] := by
    cases hr' : r'.1 with
    | nil => rfl
    | cons q ts =>
      obtain ⟨_, _, p, hp, _⟩ := h2 q (by rw [hr']; exact List.mem_cons_self)
      simp at hp
  refine ⟨hnil, ?_⟩
  rw [hnil] at h4
  simp only [neg, List.map_nil, List.sum_nil] at h4
  unfold holds
  congr 1
  apply propext
  rw [h4]
  split <;> omega
theorem fix_fil {m : Int} {f g : List Int} (hf : FilOk m f) : ledTo (fixW f) g = f := by
  unfold ledTo fixW
  rw [List.map_map]
  conv => rhs; rw [← List.map_id f]
  refine List.map_congr_left fun v hv => ?_
  rcases hf.2 v hv with rfl | rfl <;> rfl
end Zz

set_option Elab.async false
set_option linter.all false
set_option maxRecDepth 100000
set_option maxHeartbeats 2000000
namespace Zz
open PySem PySem.Spec PyProof.Rows L2

theorem ok_str {x : Str} (n : Nat) (h : PyData.strOk x = true) : okD n (.str x) = true := by cases n <;> exact h
theorem st_next {Dd : ZEnds} {env : ZT} {M : MM} (h : Dd.nx env M) : zNext Dd env M := h
theorem isN_uniq {ps : Ts} {b : Int} {r s : Row} (h1 : IsN ps b r) (h2 : IsN ps b s) : r = s := by
  obtain ⟨a1, a2, a3, a4⟩ := h1
  obtain ⟨b1, b2, b3, b4⟩ := h2
  have e : r.1 = s.1 := uniq a1 b1 (fun q hq => ⟨(a2 q hq).1, (a2 q hq).2.1⟩) (fun q hq => ⟨(b2 q hq).1, (b2 q hq).2.1⟩) fun v => (a3 v).trans (b3 v).symm
  refine Prod.ext e ?_
  rw [a4, b4, e]
def g__law_is_whole : SpZ := g_is_number
theorem r__law_is_whole {K : PySem.W.Frag} {c_WitnessError : Addr} {c_BadLiterals : Addr} {c_BadMany : Addr} {c_BadRow : Addr} {P_law : Addr} (ds : List D) (M : MM) (Q : D → MM → Prop) (hl : ds.length = 1) (h : g__law_is_whole ds M Q) : t__law_is_whole K c_WitnessError c_BadLiterals c_BadMany c_BadRow P_law { nx := fun _ M' => Post Q .non M', rt := Post Q } (startZ 1 ds) M := by
  obtain ⟨d, k, rfl, hk, q⟩ := h
  have e := kd_int hk
  show t__law_is_whole K c_WitnessError c_BadLiterals c_BadMany c_BadRow P_law _ [some d] M
  simp only [t__law_is_whole, zRet, zRetN, zSeq, zIfS, zDrop, zSet, zNext, zBin, zUn, zCall, zC, zVar, zTst, zAndV, zOrV, zNotV, zAnd, zOr, zNot, zIf, zaNil, zaCons, zFn, rzI0, rzI, rzInt1, rzInt2, rzNeg, zYes, List.getElem?_cons_zero, List.getElem?_cons_succ, List.set_cons_zero, List.set_cons_succ, rzGt, rzLt, rzGe, rzLe, rzSub, rzMod, rzDiv, rzPow, if_true, if_false, Bool.false_eq_true, if_pos, rzIsi, hk]
  cases h1 : isK k .int with
  | true =>
    simp only [if_true]
    rw [h1, Bool.true_and] at e
    rw [e]; exact .self q
  | false =>
    simp only [Bool.false_eq_true, if_false]
    rw [h1, Bool.false_and] at e
    rw [e]; exact .self q
def g__law_is_from : SpZ := g_is_between
theorem r__law_is_from {K : PySem.W.Frag} {c_WitnessError : Addr} {c_BadLiterals : Addr} {c_BadMany : Addr} {c_BadRow : Addr} {P_law : Addr} (ds : List D) (M : MM) (Q : D → MM → Prop) (hl : ds.length = 3) (h : g__law_is_from ds M Q) : t__law_is_from K c_WitnessError c_BadLiterals c_BadMany c_BadRow P_law g__law_is_whole { nx := fun _ M' => Post Q .non M', rt := Post Q } (startZ 3 ds) M := by
  obtain ⟨d, k, lo, hi, rfl, hk, q⟩ := h
  show t__law_is_from K c_WitnessError c_BadLiterals c_BadMany c_BadRow P_law _ _ [some d, some (.int lo), some (.int hi)] M
  simp only [t__law_is_from, zRet, zRetN, zSeq, zIfS, zDrop, zSet, zNext, zBin, zUn, zCall, zC, zVar, zTst, zAndV, zOrV, zNotV, zAnd, zOr, zNot, zIf, zaNil, zaCons, zFn, rzI0, rzI, rzInt1, rzInt2, rzNeg, zYes, List.getElem?_cons_zero, List.getElem?_cons_succ, List.set_cons_zero, List.set_cons_succ, rzGt, rzLt, rzGe, rzLe, rzSub, rzMod, rzDiv, rzPow, if_true, if_false, Bool.false_eq_true, if_pos]
  refine ⟨rfl, d, k, rfl, hk, ?_⟩
  cases d with
  | int i =>
    simp only [isNum, zChain, zRet, zRetN, zSeq, zIfS, zDrop, zSet, zNext, zBin, zUn, zCall, zC, zVar, zTst, zAndV, zOrV, zNotV, zAnd, zOr, zNot, zIf, zaNil, zaCons, zFn, rzI0, rzI, rzInt1, rzInt2, rzNeg, zYes, List.getElem?_cons_zero, List.getElem?_cons_succ, List.set_cons_zero, List.set_cons_succ, rzGt, rzLt, rzGe, rzLe, rzSub, rzMod, rzDiv, rzPow, if_true, if_false, Bool.false_eq_true, if_pos]
    simp only [isBet] at q
    by_cases h1 : lo ≤ i
    · simp only [h1, decide_true, if_true, Bool.true_and] at q ⊢; exact .self q
    · simp only [h1, decide_false, Bool.false_and, Bool.false_eq_true, if_false] at q ⊢; exact .self q
  | _ => simp only [isNum, Bool.false_eq_true, if_false]; exact .self q
def g__law_is_literal : SpZ := g_literal_right
theorem r__law_is_literal {K : PySem.W.Frag} {c_WitnessError : Addr} {c_BadLiterals : Addr} {c_BadMany : Addr} {c_BadRow : Addr} {P_law : Addr} (ds : List D) (M : MM) (Q : D → MM → Prop) (hl : ds.length = 2) (h : g__law_is_literal ds M Q) : t__law_is_literal K c_WitnessError c_BadLiterals c_BadMany c_BadRow P_law g__law_is_from { nx := fun _ M' => Post Q .non M', rt := Post Q } (startZ 2 ds) M := by
  obtain ⟨d, k, m, rfl, hk, q⟩ := h
  show t__law_is_literal K c_WitnessError c_BadLiterals c_BadMany c_BadRow P_law _ _ [some (.int m), some d] M
  simp only [t__law_is_literal, zRet, zRetN, zSeq, zIfS, zDrop, zSet, zNext, zBin, zUn, zCall, zC, zVar, zTst, zAndV, zOrV, zNotV, zAnd, zOr, zNot, zIf, zaNil, zaCons, zFn, rzI0, rzI, rzInt1, rzInt2, rzNeg, zYes, List.getElem?_cons_zero, List.getElem?_cons_succ, List.set_cons_zero, List.set_cons_succ, rzGt, rzLt, rzGe, rzLe, rzSub, rzMod, rzDiv, rzPow, if_true, if_false, Bool.false_eq_true, if_pos]
  refine ⟨rfl, d, k, 0 - m, m, rfl, hk, ?_⟩
  have em : (0 - m) = -m := by omega
  rw [em]
  cases d with
  | int l =>
    simp only [litR] at q
    cases h1 : (decide (-m ≤ l) && decide (l ≤ m)) with
    | true =>
      rw [h1, Bool.true_and] at q
      simp only [isBet, h1, if_true, rzNe, view, ok_int, deq_int, true_and]
      exact .self q
    | false =>
      rw [h1, Bool.false_and] at q
      simp only [isBet, h1, Bool.false_eq_true, if_false]
      exact .self q
  | _ => simp only [isBet, Bool.false_eq_true, if_false]; exact .self q
/-- the image of a literal, by a dict that is written out -/
def g__law_image : SpZ := g_image_of
theorem yn_dic (M : MM) (Q : D → MM → Prop) (env : ZT) (i : Im) (h : ∀ l, i ≠ .lit l) (j : Nat) (hj : env[j]? = some (some (imD i))) (k : Q (imD (turn i)) M) : zBin rzDGet (zDispF [((zC (.str "yes")), (zC (.str "no"))), ((zC (.str "no")), (zC (.str "yes")))]) (zVar j) env M Q := by
  have n1 : ¬ (kS "yes" : Key) = kS "no" := fun e => by have := Sum.inr.inj e; revert this; decide
  refine st_bin ?_
  simp only [zDispF, zPairs, zC, keyed, keyD]
  refine ⟨by simp, var_use hj ?_⟩
  have n2 : ¬ ((Sum.inr ("no" : Str) : Key) = Sum.inr ("yes" : Str)) := fun e => by have h := Sum.inr.inj e; revert h; decide
  have n3 : ¬ ((Sum.inr ("yes" : Str) : Key) = Sum.inr ("no" : Str)) := n1
  cases i with
  | lit l => exact absurd rfl (h l)
  | yes =>
    simp only [imD, rzDGet, dicOf, keyD, mergeD, putD, valD]
    simp [n2, n3]
    exact k
  | no =>
    simp only [imD, rzDGet, dicOf, keyD, mergeD, putD, valD]
    simp [n2, n3]
    exact k
def g__law_joined : SpZ := g_joined_of
/-- texts among the items are texts that may be compared -/
def OddDat (M : MM) (d : D) : Prop := TupDat M d ∧ ∀ xs, d = .tup xs → ∀ s, D.str s ∈ xs → PyData.strOk s = true
theorem witOdd (M : MM) (w : List Im) : OddDat M (witD w) := ⟨witDat M w, fun xs e s hs => by
  obtain rfl : w.map imD = xs := D.tup.inj e
  obtain ⟨i, _, hi⟩ := List.mem_map.mp hs
  cases i with
  | lit l => cases hi
  | yes => cases hi; decide +kernel
  | no => cases hi; decide +kernel⟩
def g__law_is_witness : SpZ := fun ds M Q => ∃ m d, ds = [.int m, d] ∧ OddDat M d ∧ Q (.bl (witR m d)) M
def g__law_is_exchange : SpZ := fun ds M Q => ∃ m d, ds = [.int m, d] ∧ MOk m ∧ OddDat M d ∧ Q (.bl (exR m d)) M
end Zz

set_option Elab.async false
set_option linter.all false
set_option maxRecDepth 100000
set_option maxHeartbeats 2000000
namespace Zz
open PySem PySem.Spec PyProof.Rows L2

def g__law_normal : SpZ := g_normal_of
theorem r__law_normal {K : PySem.W.Frag} {c_WitnessError : Addr} {c_BadLiterals : Addr} {c_BadMany : Addr} {c_BadRow : Addr} {P_law : Addr} (ds : List D) (M : MM) (Q : D → MM → Prop) (hl : ds.length = 2) (h : g__law_normal ds M Q) : t__law_normal K c_WitnessError c_BadLiterals c_BadMany c_BadRow P_law { nx := fun _ M' => Post Q .non M', rt := Post Q } (startZ 7 ds) M := by
  obtain ⟨pd, ps, b, rfl, hs, hl, h0, q⟩ := h
  show t__law_normal K c_WitnessError c_BadLiterals c_BadMany c_BadRow P_law _ [some pd, some (.int b), none, none, none, none, none] M
  simp only [t__law_normal, zSeq, zSet, zDNew]
  intro pn hpn
  have hs1 : ∀ c, SeqM (mu M pn c) pd (tsD ps) := fun c => hs.mu hpn
  simp only [List.set_cons_zero, List.set_cons_succ]
  refine iSeq_any (fun Q k => k) (hs1 _) fun chk hck => ?_
  refine forGo_ind (tsD ps) (fun i env M' => ∃ as e3 e4, env = [some pd, some (.int (b - neg (ps.take i))), some (.ref pn), e3, e4, none, none] ∧ M' = mu M pn (.dic (encA as)) ∧ Tells as (ps.take i)) ?_ ?_ _ _ ?_
  · rintro i x env M' hx ⟨as, e3, e4, rfl, rfl, ht⟩
    obtain ⟨q, hq, rfl⟩ := at_map hx
    have hlt := (List.getElem?_eq_some_iff.mp hq).1
    have hq0 := h0 q (mem_of_at hq)
    refine ⟨_, rfl, fun K' hK => ?_⟩
    have hlen : (encA as).length < 10000000 := by
      have := ht.2.2.2.2; rw [List.length_take] at this; unfold encA; rw [List.length_map]; omega
    have ht' := ht.put q
    rw [← take_snoc hq] at ht'
    have hn : neg (ps.take (i + 1)) = neg (ps.take i) + (if 0 < q.2 then 0 else q.1) := by
      rw [take_snoc hq, neg_app]; unfold neg; simp
    simp only [zRet, zRetN, zSeq, zIfS, zDrop, zSet, zNext, zBin, zUn, zCall, zC, zVar, zTst, zAndV, zOrV, zNotV, zAnd, zOr, zNot, zIf, zaNil, zaCons, zFn, rzI0, rzI, rzInt1, rzInt2, rzNeg, zYes, List.getElem?_cons_zero, List.getElem?_cons_succ, List.set_cons_zero, List.set_cons_succ, rzGt, rzLt, rzGe, rzLe, rzSub, rzMod, rzDiv, rzPow, if_true, if_false, Bool.false_eq_true, if_pos, zDPut, zDGet2, dicOf, mu_same, keyD, valD_encA, Option.isSome_some, true_and, rzAdd, view, bindT, bindTs, prD]
    have fin : ∀ (d : D) (s : Int), d = .int s → s = (getA as (absI q.2)).getD 0 + sgn q → ∀ bb : Int, bb = b - neg (ps.take (i + 1)) →
        chk (mu (mu M pn (.dic (encA as))) pn (.dic (putD (encA as) (.inl (absI q.2)) d))) ∧ K' [some pd, some (.int bb), some (.ref pn), some (.int q.1), some (.int q.2), none, none] (mu (mu M pn (.dic (encA as))) pn (.dic (putD (encA as) (.inl (absI q.2)) d))) := by
      rintro d s rfl rfl bb rfl
      rw [putD_encA, mu_mu]
      exact ⟨hck _ (hs1 _), hK _ _ ⟨_, _, _, rfl, rfl, ht'⟩⟩
    have ea : (if q.snd < 0 then -q.snd else q.snd) = absI q.snd := rfl
    have eg : ((getA as (absI q.2)).map D.int).getD (.int 0) = .int ((getA as (absI q.2)).getD 0) := by cases getA as (absI q.2) <;> rfl
    rw [ea, eg]
    by_cases hp : 0 < q.2
    · have hp2 : ¬ q.2 < 0 := by omega
      simp only [hp, hp2, decide_true, decide_false, Bool.false_eq_true, if_true, if_false]
      exact ⟨hlen, fin _ _ rfl (by unfold sgn; rw [if_pos hp]) _ (by rw [hn, if_pos hp]; omega)⟩
    · have hp2 : q.2 < 0 := by omega
      simp only [hp, hp2, decide_true, decide_false, Bool.false_eq_true, if_true, if_false]
      exact ⟨hlen, fin _ _ rfl (by unfold sgn; rw [if_neg hp]; omega) _ (by rw [hn, if_neg hp]; omega)⟩
  · rintro env M' ⟨as, e3, e4, rfl, rfl, ht⟩
    have epl : (tsD ps).length = ps.length := by unfold tsD; rw [List.length_map]
    rw [epl, List.take_length] at ht ⊢
    obtain ⟨t1, t2, t3, t4, t5⟩ := ht
    simp only [zSeq, zSet, zLstN, zaNil]
    refine ⟨Nat.zero_le _, fun pt hpt => ?_⟩
    have hne : pt ≠ pn := fun z => by rw [z, mu_same] at hpt; cases hpt
    simp only [List.set_cons_zero, List.set_cons_succ, zFor, iSeq, zCall, zaCons, zaNil, zVar, List.getElem?_cons_zero, List.getElem?_cons_succ, rzSortDI, dicOf]
    rw [mu_ne hne.symm, mu_same]
    simp only [intKeys_enc]
    refine ⟨by rw [List.length_map]; omega, fun ys hys hso => ?_⟩
    have hnd : ys.Nodup := hys.nodup_iff.mpr t1
    have hpos : ∀ v, v ∈ ys → 0 < v := fun v hv => by
      obtain ⟨p, hp, e⟩ := t3 v (hys.mem_iff.mp hv)
      have := h0 p hp
      rw [absI_nat] at e; omega
    refine forGo_ind (ys.map D.int) (fun i env M' => ∃ ts e3' e6, env = [some pd, some (.int (b - neg ps + neg ts)), some (.ref pn), e3', e4, some (.ref pt), e6] ∧ M' = mu (mu M pn (.dic (encA as))) pt (.lst (tsD ts)) ∧ Laid ps ys i ts) ?_ ?_ _ _ ?_
    · rintro i x env M' hx ⟨ts, e3', e6, rfl, rfl, hL⟩
      obtain ⟨v, hv, rfl⟩ := at_map hx
      have hlt := (List.getElem?_eq_some_iff.mp hv).1
      have hvk : v ∈ as.map (·.1) := hys.mem_iff.mp (mem_of_at hv)
      obtain ⟨c, hc⟩ : ∃ c, getA as v = some c := by
        cases e : getA as v with
        | some c => exact ⟨c, rfl⟩
        | none =>
          exfalso
          unfold getA at e
          rw [Option.map_eq_none_iff, List.find?_eq_none] at e
          obtain ⟨q, h1, h2⟩ := List.mem_map.mp hvk
          exact e q h1 (decide_eq_true h2)
      have hcc : coef ps v = c := by rw [← t2 v, hc]; rfl
      have hlen : (tsD ts).length < 10000000 := by
        have := hL.2.2.2
        have := hys.length_eq
        rw [List.length_map] at this
        unfold tsD; rw [List.length_map]; omega
      refine ⟨_, rfl, fun K' hK => ?_⟩
      simp only [zRet, zRetN, zSeq, zIfS, zDrop, zSet, zNext, zBin, zUn, zCall, zC, zVar, zTst, zAndV, zOrV, zNotV, zAnd, zOr, zNot, zIf, zaNil, zaCons, zFn, rzI0, rzI, rzInt1, rzInt2, rzNeg, zYes, List.getElem?_cons_zero, List.getElem?_cons_succ, List.set_cons_zero, List.set_cons_succ, rzGt, rzLt, rzGe, rzLe, rzSub, rzMod, rzDiv, rzPow, if_true, if_false, Bool.false_eq_true, if_pos, bindT, dicOf, keyD, valD_encA, zAppend, zTup]
      have em : ∀ xs, mu (mu M pn (.dic (encA as))) pt (.lst xs) pn = some (.dic (encA as)) := fun xs => by rw [mu_ne hne.symm, mu_same]
      simp only [rzDGet, dicOf, em, keyD, valD_encA, hc, Option.map_some, mu_same, mu_mu, rzNe, view, ok_int, deq_int, true_and]
      have done : ∀ (us : Ts) (bb : Int), bb = b - neg ps + neg (ts ++ us) → ((us = [] ∧ coef ps v = 0) ∨ ∃ q : Int × Int, us = [q] ∧ 1 ≤ q.1 ∧ q.2 ≠ 0 ∧ absI q.2 = v ∧ sgn q = coef ps v) →
          K' [some pd, some (.int bb), some (.ref pn), some (.int c), e4, some (.ref pt), some (.int v)] (mu (mu M pn (.dic (encA as))) pt (.lst (tsD (ts ++ us)))) := by
        rintro us bb rfl hu
        exact hK _ _ ⟨_, _, _, rfl, rfl, hL.step hso hnd hv (hpos v (mem_of_at hv)) hu⟩
      have es : ∀ q : Int × Int, tsD ts ++ [D.tup [D.int q.1, D.int q.2]] = tsD (ts ++ [q]) := fun q => by unfold tsD; rw [List.map_append]; rfl
      have en : ∀ q : Int × Int, neg (ts ++ [q]) = neg ts + (if 0 < q.2 then 0 else q.1) := fun q => by rw [neg_app]; unfold neg; simp
      have hv0 := hpos v (mem_of_at hv)
      have nv : ¬ 0 < 0 - v := by omega
      by_cases c1 : 0 < c
      · have c2 : ¬ c < 0 := by omega
        have c3 : ¬ c = 0 := by omega
        simp only [c1, c2, c3, decide_true, decide_false, Bool.not_false, Bool.false_eq_true, if_true, if_false]
        refine ⟨⟨_, rfl⟩, len2 _ _, hlen, ?_⟩
        rw [es (c, v)]
        refine done _ _ (by rw [en]; simp only [hv0, if_true]; omega) (.inr ⟨(c, v), rfl, by show 1 ≤ c; omega, by show v ≠ 0; omega, by rw [absI_nat]; show ((v.natAbs : Nat) : Int) = v; omega, ?_⟩)
        unfold sgn; simp only [hv0, if_true]; exact hcc.symm
      · by_cases c2 : c < 0
        · have c3 : ¬ c = 0 := by omega
          simp only [c1, c2, c3, decide_true, decide_false, Bool.not_false, Bool.false_eq_true, if_true, if_false]
          refine ⟨⟨_, rfl⟩, len2 _ _, hlen, ?_⟩
          rw [es (-c, 0 - v)]
          refine done _ _ (by rw [en]; simp only [nv, if_false]; omega) (.inr ⟨(-c, 0 - v), rfl, by show 1 ≤ -c; omega, by show 0 - v ≠ 0; omega, by rw [absI_nat]; show ((0 - v).natAbs : Int) = v; omega, ?_⟩)
          unfold sgn; simp only [nv, if_false]; rw [hcc]; omega
        · have c3 : c = 0 := by omega
          simp only [c1, c2, c3, decide_true, decide_false, Bool.not_true, Bool.false_eq_true, if_true, if_false]
          have := done [] _ rfl (.inl ⟨rfl, by rw [hcc]; omega⟩)
          rw [List.append_nil] at this
          simp only [c3] at this
          exact this
    · rintro env M' ⟨ts, e3', e6, rfl, rfl, hL⟩
      rw [List.length_map] at hL
      obtain ⟨l1, l2, l3, l4⟩ := hL
      rw [List.take_length] at l2 l3
      simp only [zRet, zRetN, zSeq, zIfS, zDrop, zSet, zNext, zBin, zUn, zCall, zC, zVar, zTst, zAndV, zOrV, zNotV, zAnd, zOr, zNot, zIf, zaNil, zaCons, zFn, rzI0, rzI, rzInt1, rzInt2, rzNeg, zYes, List.getElem?_cons_zero, List.getElem?_cons_succ, List.set_cons_zero, List.set_cons_succ, rzGt, rzLt, rzGe, rzLe, rzSub, rzMod, rzDiv, rzPow, if_true, if_false, Bool.false_eq_true, if_pos, zTup, rzTuple, view, mu_same]
      refine ⟨len2 _ _, ?_⟩
      refine ⟨_, M, ((shift_drop hpt (c := .lst (tsD ts)) True.intro).trans (shift_drop hpn (c := .dic (encA as)) True.intro)).conv, ?_⟩
      refine q (ts, if b - neg ps + neg ts > 0 then b - neg ps + neg ts else 0) ⟨l1, fun q hq => ⟨(l2 q hq).1, (l2 q hq).2.1, ?_⟩, fun v => ?_, rfl⟩
      · obtain ⟨p, hp, e⟩ := t3 _ (hys.mem_iff.mp (l2 q hq).2.2)
        refine ⟨p, hp, ?_⟩
        rw [absI_nat, absI_nat] at e; omega
      · show coef ts v = coef ps v
        rw [l3]
        split
        · rfl
        · next hn => exact (coef_none fun p hp e => hn (hys.mem_iff.mpr (by rw [← e]; exact t4 p hp))).symm
    · exact ⟨[], e3, none, by simp [neg], rfl, List.Pairwise.nil, fun q hq => by simp at hq, fun v => by simp [coef], Nat.le_refl _⟩
  · exact ⟨[], none, none, by simp [neg], rfl, by refine ⟨List.nodup_nil, fun v => rfl, fun v h => ?_, fun p h => ?_, Nat.le_refl _⟩ <;> simp at h⟩
def g__law_led_row : SpZ := g_led_of
def g__law_filling : SpZ := fun ds M Q => ∃ st m b, ds = [.ref st, .int m] ∧ M st = some (.draw (b + 6)) ∧ 1 ≤ m ∧ m ≤ 6 ∧ ∀ f, FilOk m f → Q (filD f) (mu M st (.draw b))
/-! ### odd ones -/
def og (d : D) : Bool := kn d && match d with
  | .str s => PyData.strOk s
  | _ => true
def od (d : D) : Bool := kn d && match d with
  | .tup xs => xs.all og
  | _ => true
theorem og_kn {d : D} (h : og d = true) : kn d = true := by unfold og at h; rw [Bool.and_eq_true] at h; exact h.1
theorem od_odd {d : D} (h : od d = true) (M : MM) : OddDat M d := by
  have h1 : kn d = true := by unfold od at h; rw [Bool.and_eq_true] at h; exact h.1
  have h2 : ∀ xs, d = .tup xs → xs.all og = true := fun xs e => by subst e; unfold od at h; rw [Bool.and_eq_true] at h; exact h.2
  refine ⟨⟨kn_Kn h1, fun xs e x hx => kn_Kn (og_kn (List.all_eq_true.mp (h2 xs e) x hx))⟩, fun xs e s hs => ?_⟩
  have := List.all_eq_true.mp (h2 xs e) _ hs
  unfold og at this
  rw [Bool.and_eq_true] at this
  exact this.2
end Zz

set_option Elab.async false
set_option linter.all false
set_option maxRecDepth 100000
set_option maxHeartbeats 2000000
namespace Zz
open PySem PySem.Spec PyProof.Rows L2

/-! ### what is told is short; each is told once -/
theorem turned_uniq {m : Int} {es a b : List Int} (he : Exch m es) (ha : IsTurned es a) (hb : IsTurned es b) : a = b := by
  refine List.ext_getElem? fun p => ?_
  by_cases hp : p < es.length
  · obtain ⟨i, e, hi, h2, h3⟩ := back_at he ha hp
    have := hb.2 i e hi
    rw [h2] at this
    rw [h3, this]
  · rw [List.getElem?_eq_none (by rw [ha.1]; omega), List.getElem?_eq_none (by rw [hb.1]; omega)]
theorem sho_im {m : Int} {i : Im} (hm : m ≤ 600) (h : ImOk m i) : Sho 0 40 (imD i) := by
  cases i with
  | lit l =>
    obtain ⟨h1, h2, h3⟩ : LitOk m l := h
    exact .int (by omega)
  | yes => exact .str (by decide +kernel) (by decide +kernel)
  | no => exact .str (by decide +kernel) (by decide +kernel)
theorem sho_wit {m : Int} {w : List Im} (hm0 : 0 ≤ m) (hm : m ≤ 6) (h : WitOk m w) : Sho 1 246 (witD w) := by
  have hl : w.length ≤ 6 := by have := h.1; omega
  refine Sho.mono (Sho.tup (n := 0) (w := 40) fun x hx => ?_) (Nat.le_refl _) ?_
  · obtain ⟨i, hi, rfl⟩ := List.mem_map.mp hx
    exact sho_im (m := m) (by omega) (h.2 i hi)
  · rw [List.length_map]
    exact Nat.le_trans (Nat.mul_le_mul_right 41 hl) (by decide)
theorem sho_fil {m : Int} {f : List Int} (hm0 : 0 ≤ m) (hm : m ≤ 6) (h : FilOk m f) : Sho 1 246 (filD f) := by
  have hl : f.length ≤ 6 := by have := h.1; omega
  refine Sho.mono (Sho.tup (n := 0) (w := 40) fun x hx => ?_) (Nat.le_refl _) ?_
  · obtain ⟨i, hi, rfl⟩ := List.mem_map.mp hx
    have := h.2 i hi
    exact .int (by omega)
  · rw [List.length_map]
    exact Nat.le_trans (Nat.mul_le_mul_right 41 hl) (by decide)
/-- a row of at most six variables, of numbers below 10 ** 12 -/
theorem sho_row {m : Int} {r : Row} (hm0 : 0 ≤ m) (hm : m ≤ 6) (h : RowOk m r) (hw : ∀ q, q ∈ r.1 → q.1 < 10 ^ 12) (hb : r.2 < 10 ^ 12) : Sho 3 2000 (rowD r) := by
  have hl := h.1.len hm0
  have h1 : Sho 2 600 (.tup (tsD r.1)) := by
    refine Sho.mono (Sho.tup (n := 1) (w := 82) fun x hx => ?_) (Nat.le_refl _) ?_
    · obtain ⟨q, hq, rfl⟩ := List.mem_map.mp hx
      obtain ⟨a, b, c, d⟩ := h.1.1 q hq
      have := hw q hq
      have e : Sho 1 (2 * 41) (.tup [.int q.1, .int q.2]) := Sho.tup (n := 0) (w := 40) (xs := [.int q.1, .int q.2]) fun z hz => by
        simp only [List.mem_cons, List.not_mem_nil, or_false] at hz
        rcases hz with rfl | rfl
        · exact .int (by omega)
        · exact .int (by omega)
      exact e
    · have hl2 : (tsD r.1).length ≤ 6 := by unfold tsD; rw [List.length_map]; omega
      exact Nat.le_trans (Nat.mul_le_mul_right 83 hl2) (by decide)
  have e : Sho 3 (2 * 601) (.tup [.tup (tsD r.1), .int r.2]) := Sho.tup (n := 2) (w := 600) (xs := [.tup (tsD r.1), .int r.2]) fun z hz => by
    simp only [List.mem_cons, List.not_mem_nil, or_false] at hz
    rcases hz with rfl | rfl
    · exact h1
    · have := h.2
      exact Sho.mono (Sho.int (by omega)) (by decide) (by decide)
  exact e.mono (by decide) (by decide)
theorem sum_le {α : Type} (l : List α) (f : α → Int) (c : Int) (h : ∀ x, x ∈ l → f x ≤ c) : (l.map f).sum ≤ l.length * c := by
  induction l with
  | nil => simp
  | cons x l ih =>
    have h1 := h x List.mem_cons_self
    have h2 := ih fun y hy => h y (List.mem_cons_of_mem x hy)
    rw [List.map_cons, List.sum_cons, List.length_cons]
    have e : (((l.length + 1 : Nat) : Int)) * c = l.length * c + c := by rw [Int.natCast_add, Int.add_mul]; simp
    rw [e]; omega
theorem sum_ge {α : Type} (l : List α) (f : α → Int) (c : Int) (h : ∀ x, x ∈ l → -c ≤ f x) : -(l.length * c) ≤ (l.map f).sum := by
  induction l with
  | nil => simp
  | cons x l ih =>
    have h1 := h x List.mem_cons_self
    have h2 := ih fun y hy => h y (List.mem_cons_of_mem x hy)
    rw [List.map_cons, List.sum_cons, List.length_cons]
    have e : (((l.length + 1 : Nat) : Int)) * c = l.length * c + c := by rw [Int.natCast_add, Int.add_mul]; simp
    rw [e]; omega
/-- the normal row of pairs with small numbers has small numbers -/
theorem isN_small {ps : Ts} {b c B : Int} {r : Row} (h : IsN ps b r) (hc : 0 ≤ c) (hB : 0 ≤ B) (hp : ∀ p, p ∈ ps → 0 ≤ p.1 ∧ p.1 ≤ c) (hb : b ≤ B) : (∀ q, q ∈ r.1 → q.1 ≤ ps.length * c) ∧ r.2 ≤ B + r.1.length * (ps.length * c) := by
  obtain ⟨h1, h2, h3, h4⟩ := h
  have hq : ∀ q, q ∈ r.1 → q.1 ≤ ps.length * c := fun q hq => by
    have e := coef_at h1.nd hq
    rw [h3] at e
    obtain ⟨a, b0, _⟩ := h2 q hq
    have u : coef ps (absI q.2) ≤ ps.length * c := by
      unfold coef
      refine sum_le _ _ _ fun p hpm => ?_
      have := hp p hpm
      unfold sgn
      split <;> first | omega | (split <;> omega)
    have l : -(ps.length * c) ≤ coef ps (absI q.2) := by
      unfold coef
      refine sum_ge _ _ _ fun p hpm => ?_
      have := hp p hpm
      unfold sgn
      split <;> first | omega | (split <;> omega)
    rw [e] at u l
    unfold sgn at u l
    split at u <;> omega
  refine ⟨hq, ?_⟩
  have n0 : 0 ≤ neg ps := by
    unfold neg
    refine sum_pos _ _ fun p hpm => ?_
    have := hp p hpm
    split <;> omega
  have hpc : 0 ≤ (ps.length : Int) * c := Int.mul_nonneg (by omega) hc
  have n1 : neg r.1 ≤ r.1.length * (ps.length * c) := by
    unfold neg
    refine sum_le _ _ _ fun q hqm => ?_
    have := hq q hqm
    split <;> omega
  have n2 : 0 ≤ (r.1.length : Int) * (ps.length * c) := Int.mul_nonneg (by omega) hpc
  rw [h4]
  split <;> omega
theorem sho_led {m : Int} {w : List Im} {r r' : Row} (hm0 : 0 ≤ m) (hm : m ≤ 6) (hw : WitOk m w) (hr : RowOk m r) (h5 : ∀ q, q ∈ r.1 → q.1 ≤ 1000) (hb : r.2 ≤ 10000) (h : IsLed w r r') : Sho 3 2000 (rowD r') := by
  have L := led_of hw hr h
  have hl := hr.1.len hm0
  have hl' := L.ok.1.len hm0
  have hpl : (ledPairs w r.1).length ≤ 6 := by
    have := ledPairs_len w r.1
    omega
  have s0 : 0 ≤ ledSum w r.1 := by
    unfold ledSum
    refine sum_pos _ _ fun q hq => ?_
    have := (hr.1.1 q hq).1
    split <;> omega
  obtain ⟨a, b⟩ := isN_small (c := 1000) (B := 10000) h (by decide) (by decide) (fun p hp => by
    unfold ledPairs at hp
    obtain ⟨q, hq, e⟩ := List.mem_filterMap.mp hp
    have h1 := (hr.1.1 q hq).1
    have h2 := h5 q hq
    split at e
    · obtain rfl := Option.some.inj e
      exact ⟨by show 0 ≤ q.1; omega, h2⟩
    · cases e) (by omega)
  have k1 : ((ledPairs w r.1).length : Int) * 1000 ≤ 6 * 1000 := Int.mul_le_mul_of_nonneg_right (by omega) (by decide)
  have k2 : (r'.1.length : Int) * (((ledPairs w r.1).length : Int) * 1000) ≤ 6 * 6000 := Int.mul_le_mul (by omega) k1 (by omega) (by decide)
  exact sho_row hm0 hm L.ok (fun q hq => by have := a q hq; omega) (by omega)
end Zz

set_option Elab.async false
set_option linter.all false
set_option maxRecDepth 100000
set_option maxHeartbeats 2000000
namespace Zz
open PySem PySem.Spec PyProof.Rows L2

/-! ### lists of pairs, any data -/
def g_is_list : SpZ := fun ds M Q => ∃ d k, ds = [d] ∧ kdOf M d = some k ∧ Q (.bl ([Kd.lst, Kd.tup].any (isK k))) M
theorem r_is_list {K : PySem.W.Frag} {c_WitnessError : Addr} {c_BadLiterals : Addr} {c_BadMany : Addr} {c_BadRow : Addr} {P_law : Addr} (ds : List D) (M : MM) (Q : D → MM → Prop) (hl : ds.length = 1) (h : g_is_list ds M Q) : t_is_list K c_WitnessError c_BadLiterals c_BadMany c_BadRow P_law { nx := fun _ M' => Post Q .non M', rt := Post Q } (startZ 1 ds) M := by
  obtain ⟨d, k, rfl, hk, q⟩ := h
  show t_is_list K c_WitnessError c_BadLiterals c_BadMany c_BadRow P_law _ [some d] M
  unfold t_is_list
  refine st_ret ?_
  simp only [zCall, zaCons, zaNil, zVar, zTup, zC, List.getElem?_cons_zero, rzIsiL, hk]
  exact ⟨by simp, by simp, rfl, .self q⟩
def SumsDat (M : MM) (d : D) : Prop := Kn M d ∧ (∀ a, d ≠ .ref a) ∧ ∀ xs, SeqD d xs → ∀ x, x ∈ xs → Kn M x ∧ ∀ a b, x = .tup [a, b] → Kn M a ∧ Kn M b
def seqD : D → Option (List D)
  | .lst xs => some xs
  | .tup xs => some xs
  | _ => none
theorem seqD_iff {d : D} {xs : List D} : seqD d = some xs ↔ SeqD d xs := by
  cases d <;> simp [seqD, SeqD]
def prsR (m : Int) (xs : List D) : Bool := decide (xs.length ≤ 2000) && match toTs xs with
  | some ps => ps.all fun q => litR m (.int q.2)
  | none => false
def sumsR (m : Int) (d : D) : Bool := match seqD d with
  | some xs => prsR m xs
  | none => false
theorem kd_seq {M : MM} {d : D} {k : Kd} (h : kdOf M d = some k) (hr : ∀ a, d ≠ .ref a) : [Kd.lst, Kd.tup].any (isK k) = (seqD d).isSome := by
  cases d <;> simp only [kdOf] at h <;> first | (cases h; done) | (obtain rfl := Option.some.inj h; rfl) | exact absurd rfl (hr _)
theorem num_int {d : D} (h : isNum d = true) : ∃ i, d = .int i := by
  cases d <;> first | exact ⟨_, rfl⟩ | cases h
theorem prs_of {m : Int} : ∀ {ps : List (D × D)}, ps.all (fun p => isNum p.1 && litR m p.2) = true → ∃ ts : Ts, ps.map prP = tsD ts ∧ ts.all (fun q => litR m (.int q.2)) = true
  | [], _ => ⟨[], rfl, rfl⟩
  | (a, b) :: ps, h => by
    rw [List.all_cons, Bool.and_eq_true] at h
    obtain ⟨ts, e, ht⟩ := prs_of h.2
    have h1 := h.1
    rw [Bool.and_eq_true] at h1
    match a, b, h1 with
    | .int x, .int y, h1 => exact ⟨(x, y) :: ts, by rw [List.map_cons, e]; rfl, by rw [List.all_cons, ht, Bool.and_true]; exact h1.2⟩
theorem prs_bad {m : Int} {ps : List (D × D)} (h : ps.all (fun p => isNum p.1 && litR m p.2) = false) : prsR m (ps.map prP) = false := by
  unfold prsR
  cases e : toTs (ps.map prP) with
  | none => simp
  | some ts =>
    simp only
    cases hb : ts.all (fun q => litR m (.int q.2)) with
    | false => simp
    | true =>
      have e1 := toTs_some e
      have : ps.all (fun p => isNum p.1 && litR m p.2) = true := List.all_eq_true.mpr fun p hp => by
        have : prP p ∈ tsD ts := by rw [← e1]; exact List.mem_map.mpr ⟨p, hp, rfl⟩
        unfold tsD at this
        obtain ⟨q, hq, e2⟩ := List.mem_map.mp this
        have e3 : [D.int q.1, D.int q.2] = [p.1, p.2] := D.tup.inj e2
        simp only [List.cons.injEq, and_true] at e3
        rw [← e3.1, ← e3.2]
        exact List.all_eq_true.mp hb q hq
      rw [this] at h; cases h
theorem len_use {K : PySem.W.Frag} {M : MM} {d : D} {xs : List D} {Q : D → MM → Prop} (h : SeqD d xs) (k : Q (.int xs.length) M) : rzLen K [d] M Q := by
  rcases h with rfl | rfl <;> exact k
theorem len_seq {M : MM} {d : D} {xs : List D} (h : SeqD d xs) : lenOf M d = some xs.length := by
  rcases h with rfl | rfl <;> rfl
def g_normal (cM cS cB : Addr) : SpZ := fun ds M Q => ∃ md d bd, ds = [md, d, bd] ∧ Kn M md ∧ SumsDat M d ∧ Kn M bd ∧ (isBet 1 600 md = false → Q (.exc cM [] []) M) ∧ (∀ m, md = .int m → MOk m → sumsR m d = false → Q (.exc cS [] []) M) ∧ (∀ m, md = .int m → MOk m → sumsR m d = true → isNum bd = false → Q (.exc cB [] []) M) ∧
  (∀ m ps b, md = .int m → MOk m → SeqD d (tsD ps) → (∀ q, q ∈ ps → LitOk m q.2) → bd = .int b → ps.length < 64 ∧ ∀ r, IsN ps b r → Q (rowD r) M)
def g_is_literal (cM : Addr) : SpZ := fun ds M Q => ∃ md d, ds = [md, d] ∧ Kn M md ∧ Kn M d ∧ (isBet 1 600 md = false → Q (.exc cM [] []) M) ∧ (∀ m, md = .int m → MOk m → Q (.bl (litR m d)) M)
def g_is_row (cM : Addr) : SpZ := fun ds M Q => ∃ md d, ds = [md, d] ∧ Kn M md ∧ RowDat M d ∧ (isBet 1 600 md = false → Q (.exc cM [] []) M) ∧ (∀ m, md = .int m → MOk m → Q (.bl (rowR m d)) M)
end Zz

set_option Elab.async false
set_option linter.all false
set_option maxRecDepth 100000
set_option maxHeartbeats 2000000
namespace Zz
open PySem PySem.Spec PyProof.Rows L2

/-! ### rows judged by the law -/
def okP (m : Int) : D → Bool
  | .tup [a, b] => isFr 1 a && litR m b
  | _ => false
theorem okP_pr {m : Int} {x : D} (h : okP m x = true) : ∃ q : Int × Int, x = prD q ∧ (isFr 1 (.int q.1) && litR m (.int q.2)) = true := by
  unfold okP at h
  split at h
  · next a b =>
    have h2 := h
    rw [Bool.and_eq_true] at h2
    cases a <;> first | (cases h2.1; done) | skip
    cases b <;> first | (cases h2.2; done) | skip
    exact ⟨(_, _), rfl, h⟩
  · cases h
theorem okP_ts {m : Int} : ∀ {xs : List D}, xs.all (okP m) = true → ∃ ts : Ts, xs = tsD ts ∧ ts.all (fun q => isFr 1 (.int q.1) && litR m (.int q.2)) = true
  | [], _ => ⟨[], rfl, rfl⟩
  | x :: xs, h => by
    rw [List.all_cons, Bool.and_eq_true] at h
    obtain ⟨ts, e, ht⟩ := okP_ts h.2
    obtain ⟨q, rfl, h1⟩ := okP_pr h.1
    exact ⟨q :: ts, by rw [e]; rfl, by rw [List.all_cons, ht, Bool.and_true]; exact h1⟩
theorem okP_bad {m : Int} {xs : List D} {x : D} (hx : x ∈ xs) (h : okP m x = false) : termsR m (.tup xs) = false := by
  unfold termsR
  simp only
  cases e : toTs xs with
  | none => rfl
  | some ts =>
    simp only
    cases hb : tsB m ts with
    | false => rfl
    | true =>
      unfold tsB at hb
      rw [Bool.and_eq_true] at hb
      rw [toTs_some e] at hx
      unfold tsD at hx
      obtain ⟨q, hq, rfl⟩ := List.mem_map.mp hx
      have : okP m (prD q) = true := List.all_eq_true.mp hb.1 q hq
      rw [this] at h; cases h
theorem lt_uniq {ns ys : List Int} (hy : ys.Pairwise (· < ·)) (hm : ∀ k, k ∈ ys ↔ k ∈ ns) : decide (ns = ys) = true ↔ ns.Pairwise (· < ·) := by
  rw [decide_eq_true_eq]
  refine ⟨fun e => by rw [e]; exact hy, fun hn => ?_⟩
  have nd1 : ns.Nodup := hn.imp fun h e => by omega
  have nd2 : ys.Nodup := hy.imp fun h e => by omega
  have hp : ns.Perm ys := (List.perm_ext_iff_of_nodup nd1 nd2).mpr fun k => (hm k).symm
  exact List.Perm.eq_of_pairwise (fun a b _ _ h1 h2 => by omega) hn hy hp
theorem ord_iff2 {ts : Ts} : ordB ts = true ↔ (ts.map fun q => absI q.2).Pairwise (· < ·) := ⟨fun h => tail_pairs h, fun h => zip_tail_all h⟩
def g__law_are_terms : SpZ := fun ds M Q => ∃ m d, ds = [.int m, d] ∧ TsDat M d ∧ (∀ xs, d = .tup xs → xs.length < 50) ∧ Q (.bl (termsR m d)) M
end Zz

set_option Elab.async false
set_option linter.all false
set_option maxRecDepth 100000
set_option maxHeartbeats 2000000
namespace Zz
open PySem PySem.Spec PyProof.Rows L2

theorem for_lst {K : PySem.W.Frag} {Ta : TAZ} {t : Tg} {tb : TSZ} {Dd : ZEnds} {env : ZT} {M : MM} (h : Ta env M fun ds M1 => ds.length ≤ 1000 ∧ forGo (fun _ => True) t tb ds Dd env M1) : zFor (iSeq K (zLst Ta)) t tb Dd env M := h
structure Errs (K : PySem.W.Frag) (cW : Addr) (cs : List Addr) : Prop where
  exm : ∀ c ∈ cs, PySem.W.exmOne K (.ref c) (.ref cW) = some true
  exc : ∀ c ∈ cs, ExcC K c
theorem kit_self {K : PySem.W.Frag} {v : Value} (h : (v == v) = true) : PySem.W.kitOne K v v = some true := by unfold PySem.W.kitOne; rw [if_pos h]
theorem isC_caught {K : PySem.W.Frag} {cW c P : Addr} {q : Str} {T : TZ} {env : ZT} {M : MM} (hP : M P = some (.tab q)) (he : PySem.W.exmOne K (.ref c) (.ref cW) = some true) (hc : ExcC K c) (hT : ∀ Q : D → MM → Prop, Q (.exc c [] []) M → T env M Q) :
    EvT (zNot (zTst (zUn (rzIsC K c) (zCaught K cW P q T)))) env M false := fun Q k =>
  ⟨hP, hT _ ⟨he, rfl, hc, true, kit_self (by simp), k⟩⟩
theorem isC_via {K : PySem.W.Frag} {cW c P : Addr} {q : Str} {T : TZ} {env : ZT} {M : MM} {R : MM → Prop} {Q : D → MM → Prop} (hP : M P = some (.tab q)) (he : PySem.W.exmOne K (.ref c) (.ref cW) = some true) (hc : ExcC K c) (hT : ∀ Q : D → MM → Prop, (∀ M', R M' → Q (.exc c [] []) M') → T env M Q) (k : ∀ M', R M' → Q (.bl true) M') :
    zUn (rzIsC K c) (zCaught K cW P q T) env M Q := ⟨hP, hT _ fun M' hR => ⟨he, rfl, hc, true, kit_self (by simp), k M' hR⟩⟩
theorem map_inj {α β : Type} {f : α → β} (hf : ∀ a b, f a = f b → a = b) : ∀ {xs ys : List α}, xs.map f = ys.map f → xs = ys
  | [], [], _ => rfl
  | [], _ :: _, h => by cases h
  | _ :: _, [], h => by cases h
  | x :: xs, y :: ys, h => by
    rw [List.map_cons, List.map_cons, List.cons.injEq] at h
    rw [hf _ _ h.1, map_inj hf h.2]
theorem filD_inj {a b : List Int} (h : filD a = filD b) : a = b := map_inj (fun _ _ => D.int.inj) (D.tup.inj h)
theorem prD_inj {a b : Int × Int} (h : prD a = prD b) : a = b := by
  have h : [D.int a.1, D.int a.2] = [D.int b.1, D.int b.2] := D.tup.inj h
  simp only [List.cons.injEq, D.int.injEq, and_true] at h
  exact Prod.ext h.1 h.2
theorem rowD_inj {a b : Row} (h : rowD a = rowD b) : a = b := by
  have e3 : [D.tup (tsD a.1), D.int a.2] = [D.tup (tsD b.1), D.int b.2] := D.tup.inj h
  simp only [List.cons.injEq, and_true] at e3
  obtain ⟨e1, e2⟩ := e3
  exact Prod.ext (map_inj (fun _ _ => prD_inj) (D.tup.inj e1)) (D.int.inj e2)
theorem many_no {m' : Int} (hx : BadM x) (e : x = .int m') (h : MOk m') : False := by
  have := hx.1; rw [e, bet_of h] at this; cases this
def Iv (st P : Addr) (c : Nat) (M : MM) : Prop := M st = some (.draw c) ∧ M P = some (.tab (lq "law"))
theorem Iv.dr {st P : Addr} {c c' : Nat} {M : MM} (h : Iv st P c M) (e : c = c') : M st = some (.draw c') := by rw [← e]; exact h.1
theorem Iv.draw {st P : Addr} {c : Nat} {M : MM} (h : Iv st P c M) (hne : P ≠ st) (b : Nat) : Iv st P b (mu M st (.draw b)) := ⟨mu_same, by rw [mu_ne hne]; exact h.2⟩
theorem Iv.new {st P p : Addr} {c : Nat} {d : C} {M : MM} (h : Iv st P c M) (hp : M p = none) : Iv st P c (mu M p d) := ⟨by rw [mu_ne (fun e => by rw [← e, h.1] at hp; cases hp)]; exact h.1, by rw [mu_ne (fun e => by rw [← e, h.2] at hp; cases hp)]; exact h.2⟩
theorem Iv.ne {st P p : Addr} {c : Nat} {M : MM} (h : Iv st P c M) (hp : M p = none) : p ≠ st := fun e => by rw [e, h.1] at hp; cases hp
theorem Iv.neP {st P p : Addr} {c : Nat} {M : MM} (h : Iv st P c M) (hp : M p = none) : p ≠ P := fun e => by rw [e, h.2] at hp; cases hp
theorem ss_asg3 {Ta Tb Tc : TZ} {env : ZT} {M : MM} {Dd : ZEnds} {i j k : Nat} {u : TSZ} (h : Ta env M fun x M1 => Tb env M1 fun y M2 => Tc env M2 fun z M3 => u Dd (((env.set i (some x)).set j (some y)).set k (some z)) M3) : zSeq (zAsg (.tup [.nm i, .nm j, .nm k]) (zTup (zaCons Ta (zaCons Tb (zaCons Tc zaNil))))) u Dd env M := by
  have e : (fun (x : D) (M1 : MM) => Tb env M1 fun y M2 => Tc env M2 fun z M3 => u Dd (((env.set i (some x)).set j (some y)).set k (some z)) M3) = fun x M1 => Tb env M1 fun y M2 => Tc env M2 fun z M3 => ([x, y, z] : List D).length ≤ 1000 ∧ u Dd (((env.set i (some x)).set j (some y)).set k (some z)) M3 := by funext x M1; congr 1; funext y M2; congr 1; funext z M3; simp
  rw [e] at h; exact h
theorem ev_fn2 {g : SpZ} {Ta Tb : TZ} {env : ZT} {M : MM} {a b d : D} (ha : Ev Ta env M a) (hb : Ev Tb env M b) (h : ∀ Q : D → MM → Prop, Q d M → g [a, b] M Q) : Ev (zFn 2 g (zaCons Ta (zaCons Tb zaNil))) env M d := fun Q k => st_fn2 (ha _ (hb _ (h Q k)))
theorem ev_fn3 {g : SpZ} {Ta Tb Tc : TZ} {env : ZT} {M : MM} {a b c d : D} (ha : Ev Ta env M a) (hb : Ev Tb env M b) (hc : Ev Tc env M c) (h : ∀ Q : D → MM → Prop, Q d M → g [a, b, c] M Q) : Ev (zFn 3 g (zaCons Ta (zaCons Tb (zaCons Tc zaNil)))) env M d := fun Q k => st_fn3 (ha _ (hb _ (hc _ (h Q k))))
theorem ev_v {env : ZT} {M : MM} {i : Nat} {d : D} (h : env[i]? = some (some d)) : Ev (zVar i) env M d := fun Q k => var_use h k
theorem ev_k2 {g : SpZ} {Ta Tb : TZ} {env : ZT} {M : MM} {a b d : D} (ha : Ev Ta env M a) (hb : Ev Tb env M b) (h : ∀ Q : D → MM → Prop, Q d M → g [b, a] M Q) : Ev (zFnK 0 [1, 0] g zaNil (zaCons Ta (zaCons Tb zaNil))) env M d := fun Q k => ha _ (hb _ ⟨⟨rfl, rfl⟩, h Q k⟩)
theorem ev_k3 {g : SpZ} {Ta Tb Tc : TZ} {env : ZT} {M : MM} {a b c d : D} (ha : Ev Ta env M a) (hb : Ev Tb env M b) (hc : Ev Tc env M c) (h : ∀ Q : D → MM → Prop, Q d M → g [c, b, a] M Q) : Ev (zFnK 0 [2, 1, 0] g zaNil (zaCons Ta (zaCons Tb (zaCons Tc zaNil)))) env M d := fun Q k => ha _ (hb _ (hc _ ⟨⟨rfl, rfl⟩, h Q k⟩))
theorem ev_l2 {Ta Tb : TZ} {env : ZT} {M : MM} {a b : D} (ha : Ev Ta env M a) (hb : Ev Tb env M b) : Ev (zLst (zaCons Ta (zaCons Tb zaNil))) env M (.lst [a, b]) := fun Q k => ha _ (hb _ ⟨by simp, k⟩)
theorem ev_l4 {Ta Tb Tc Td : TZ} {env : ZT} {M : MM} {a b c d : D} (ha : Ev Ta env M a) (hb : Ev Tb env M b) (hc : Ev Tc env M c) (hd : Ev Td env M d) : Ev (zLst (zaCons Ta (zaCons Tb (zaCons Tc (zaCons Td zaNil))))) env M (.lst [a, b, c, d]) := fun Q k => ha _ (hb _ (hc _ (hd _ ⟨by simp, k⟩)))
theorem app_use {env : ZT} {M : MM} {Q : D → MM → Prop} {i : Nat} {p : Addr} {xs : List D} {T : TAZ} (hv : env[i]? = some (some (.ref p))) (h0 : M p = some (.lst xs)) (h : T env M fun ds M2 => match ds, M2 p with | [d], some (.lst xs) => xs.length < 10000000 ∧ Q .non (mu M2 p (.lst (xs ++ [d]))) | _, _ => False) : zAppend (zVar i) T env M Q := by
  unfold zAppend
  exact var_use hv ⟨⟨_, h0⟩, h⟩
def Du (st P p : Addr) (c : Nat) (l : List D) (M : MM) : Prop := (p ≠ st ∧ p ≠ P ∧ P ≠ st) ∧ Iv st P c M ∧ M p = some (.lst l)
theorem Du.draw {st P p : Addr} {c : Nat} {l : List D} {M : MM} (h : Du st P p c l M) (b : Nat) : Du st P p b l (mu M st (.draw b)) := ⟨h.1, h.2.1.draw h.1.2.2 b, by rw [mu_ne h.1.1]; exact h.2.2⟩
theorem Du.put {st P p : Addr} {c : Nat} {l l2 : List D} {M : MM} (h : Du st P p c l M) : Du st P p c l2 (mu M p (.lst l2)) := ⟨h.1, ⟨by rw [mu_ne (fun e => h.1.1 e.symm)]; exact h.2.1.1, by rw [mu_ne (fun e => h.1.2.1 e.symm)]; exact h.2.1.2⟩, mu_same⟩
theorem dr_of {st P p : Addr} {c c' : Nat} {l : List D} {M : MM} (h : Du st P p c l M) (e : c = c') : M st = some (.draw c') := h.2.1.dr e
theorem ss_due {K : PySem.W.Frag} {cW c P st p : Addr} {cc c2 i : Nat} {l : List D} {T : TZ} {env : ZT} {M : MM} {u : TSZ} {Dd : ZEnds} (hv : env[i]? = some (some (.ref p))) (hD : Du st P p cc l M) (he : PySem.W.exmOne K (.ref c) (.ref cW) = some true) (hc : ExcC K c)
    (hT : ∀ Q : D → MM → Prop, (∀ M', Du st P p c2 l M' → Q (.exc c [] []) M') → T env M Q) (hl : l.length < 10000000) (k : ∀ M', Du st P p c2 (l ++ [.bl true]) M' → u Dd env M') :
    zSeq (zDrop (zAppend (zVar i) (zaCons (zUn (rzIsC K c) (zCaught K cW P (lq "law") T)) zaNil))) u Dd env M := by
  refine st_seq (st_drop (app_use hv hD.2.2 (ta_cons (isC_via (R := Du st P p c2 l) hD.2.1.2 he hc hT fun M' hR => ta_nil ?_))))
  simp only [hR.2.2]
  exact ⟨hl, k _ hR.put⟩
end Zz

set_option Elab.async false
set_option linter.all false
set_option maxRecDepth 100000
set_option maxHeartbeats 2000000
namespace Zz
open PySem PySem.Spec PyProof.Rows L2

theorem frR_num {d : D} : isFr 0 d = (isNum d && match d with | .int i => decide (0 ≤ i) | _ => false) := by
  cases d <;> rfl
def g__law_is_row : SpZ := fun ds M Q => ∃ m d, ds = [.int m, d] ∧ dat 3 d = true ∧ Q (.bl (rowR m d)) M
def g__law_odd : SpZ := fun ds M Q => ∃ st b, ds = [.ref st] ∧ M st = some (.draw (b + 1)) ∧ ∀ d, od d = true → dat 3 d = true → Q d (mu M st (.draw b))
/-! ### near rows -/
theorem dat1_tup {xs : List D} (h : ∀ x, x ∈ xs → kn x = true) (hl : xs.length < 50) : dat 1 (.tup xs) = true := by
  show (true && (xs.all (dat 0) && decide (xs.length < 50))) = true
  rw [Bool.true_and, decide_eq_true hl, Bool.and_true]
  exact List.all_eq_true.mpr h
theorem dat2_tup {xs : List D} (h : ∀ x, x ∈ xs → dat 1 x = true) (hl : xs.length < 50) : dat 2 (.tup xs) = true := by
  show (true && (xs.all (dat 1) && decide (xs.length < 50))) = true
  rw [Bool.true_and, decide_eq_true hl, Bool.and_true]
  exact List.all_eq_true.mpr h
theorem dat3_tup {xs : List D} (h : ∀ x, x ∈ xs → dat 2 x = true) (hl : xs.length < 50) : dat 3 (.tup xs) = true := by
  show (true && (xs.all (dat 2) && decide (xs.length < 50))) = true
  rw [Bool.true_and, decide_eq_true hl, Bool.and_true]
  exact List.all_eq_true.mpr h
theorem dat3_row {xs : List D} {b : D} (h : ∀ x, x ∈ xs → dat 1 x = true) (hl : xs.length < 50) (hb : dat 2 b = true) : dat 3 (.tup [.tup xs, b]) = true := dat3_tup (fun x hx => by
  simp only [List.mem_cons, List.not_mem_nil, or_false] at hx
  rcases hx with rfl | rfl
  · exact dat2_tup h hl
  · exact hb) (by simp)
theorem dat1_pr (q : Int × Int) : dat 1 (prD q) = true := rfl
theorem dat1_ts {ts : Ts} : ∀ x, x ∈ tsD ts → dat 1 x = true := fun x hx => by
  unfold tsD at hx
  obtain ⟨q, _, rfl⟩ := List.mem_map.mp hx
  rfl
theorem deq_nilT (xs : List D) : deq (.tup xs) (.tup []) = xs.isEmpty := by cases xs <;> rfl
theorem ok_tup (n : Nat) (ts : Ts) : okD (n + 2) (.tup (tsD ts)) = true := by
  show okDs (n + 1) (tsD ts) = true
  refine okDs_all fun x hx => ?_
  unfold tsD at hx
  obtain ⟨q, _, rfl⟩ := List.mem_map.mp hx
  show (okD n (.int q.1) && (okD n (.int q.2) && true)) = true
  rw [ok_int, ok_int]; rfl
theorem conv_gro {M : MM} {pf st : Addr} {ls : List D} {b : Nat} (h : st ≠ pf) (hp : M pf = none) : Conv (.ref pf) (gro M pf st ls b) (.lst ls) (mu M st (.draw b)) := by
  have e : gro M pf st ls b = mu (mu M st (.draw b)) pf (.lst ls) := by unfold gro; rw [mu_comm h.symm]
  rw [e]
  exact conv_lst (by rw [mu_ne h.symm]; exact hp)
def g__law_pairs : SpZ := fun ds M Q => ∃ st m b, ds = [.ref st, .int m] ∧ M st = some (.draw (b + 25)) ∧ 1 ≤ m ∧ m ≤ 6 ∧ ∀ ps : Ts, ps.length ≤ 8 → (∀ q, q ∈ ps → -5 ≤ q.1 ∧ q.1 ≤ 5 ∧ LitOk m q.2) → Q (.lst (tsD ps)) (mu M st (.draw b))
end Zz

set_option Elab.async false
set_option linter.all false
set_option maxRecDepth 100000
set_option maxHeartbeats 2000000
namespace Zz
open PySem PySem.Spec PyProof.Rows L2

/-! ### the normal row of pairs, at fillings -/
theorem isN_ok {m : Int} {ps : Ts} {b : Int} {r : Row} (hp : LitsIn m ps) (h : IsN ps b r) : RowOk m r := by
  obtain ⟨h1, h2, h3, h4⟩ := h
  refine ⟨⟨fun q hq => ?_, h1⟩, ?_⟩
  · obtain ⟨a, b0, p, hpm, e⟩ := h2 q hq
    obtain ⟨c, d, f⟩ := hp p hpm
    exact ⟨a, by omega, by omega, b0⟩
  · rw [h4]; split <;> omega
theorem isN_holds {m : Int} {ps : Ts} {b : Int} {r : Row} {f : List Int} (hf : FilOk m f) (hp : LitsIn m ps) (h : IsN ps b r) : holds r f = decide (b ≤ (ps.map fun q => q.1 * worth q.2 f).sum) := by
  have hr := isN_ok hp h
  have e1 := comes_S hf hr.1.lits
  have e2 := comes_S hf hp
  rw [comes_eq hf hp] at e2
  have h0 : 0 ≤ comes r.1 f := by
    rw [comes_eq hf hr.1.lits]
    refine sum_pos _ _ fun q hq => ?_
    have h1 := (hr.1.1 q hq).1
    rcases worth01 hf (hr.1.lits q hq) with e | e <;> rw [e] <;> omega
  obtain ⟨h1, h2, h3, h4⟩ := h
  have es : (Sm m fun v => coef r.1 v * fv f v) = Sm m fun v => coef ps v * fv f v := Sm_congr fun v _ => by rw [h3]
  rw [es] at e1
  unfold holds
  rw [Bool.eq_iff_iff, decide_eq_true_eq, decide_eq_true_eq, e2, h4]
  split <;> constructor <;> intro h <;> omega
theorem isN_small2 {ps : Ts} {b c B : Int} {r : Row} (h : IsN ps b r) (hc : 0 ≤ c) (hB : 0 ≤ B) (hp : ∀ p, p ∈ ps → -c ≤ p.1 ∧ p.1 ≤ c) (hb : b ≤ B) : (∀ q, q ∈ r.1 → q.1 ≤ ps.length * c) ∧ r.2 ≤ B + ps.length * c + r.1.length * (ps.length * c) := by
  obtain ⟨h1, h2, h3, h4⟩ := h
  have hq : ∀ q, q ∈ r.1 → q.1 ≤ ps.length * c := fun q hq => by
    have e := coef_at h1.nd hq
    rw [h3] at e
    obtain ⟨a, b0, _⟩ := h2 q hq
    have u : coef ps (absI q.2) ≤ ps.length * c := by
      unfold coef
      refine sum_le _ _ _ fun p hpm => ?_
      have := hp p hpm
      unfold sgn
      split <;> first | omega | (split <;> omega)
    have l : -(ps.length * c) ≤ coef ps (absI q.2) := by
      unfold coef
      refine sum_ge _ _ _ fun p hpm => ?_
      have := hp p hpm
      unfold sgn
      split <;> first | omega | (split <;> omega)
    rw [e] at u l
    unfold sgn at u l
    split at u <;> omega
  refine ⟨hq, ?_⟩
  have n0 : -(ps.length * c) ≤ neg ps := by
    unfold neg
    refine sum_ge _ _ _ fun p hpm => ?_
    have := hp p hpm
    split <;> omega
  have hpc : 0 ≤ (ps.length : Int) * c := Int.mul_nonneg (by omega) hc
  have n1 : neg r.1 ≤ r.1.length * (ps.length * c) := by
    unfold neg
    refine sum_le _ _ _ fun q hqm => ?_
    have := hq q hqm
    split <;> omega
  have n2 : 0 ≤ (r.1.length : Int) * (ps.length * c) := Int.mul_nonneg (by omega) hpc
  rw [h4]
  split <;> omega
theorem sho_isN {m : Int} {ps : Ts} {b : Int} {r : Row} (hm0 : 0 ≤ m) (hm : m ≤ 6) (hl : ps.length ≤ 8) (hp : ∀ q, q ∈ ps → -5 ≤ q.1 ∧ q.1 ≤ 5 ∧ LitOk m q.2) (hb : b ≤ 1000) (h : IsN ps b r) : Sho 3 2000 (rowD r) := by
  have hr : RowOk m r := isN_ok (fun q hq => (hp q hq).2.2) h
  have hl' := hr.1.len hm0
  obtain ⟨x, y⟩ := isN_small2 (c := 5) (B := 1000) h (by decide) (by decide) (fun p hpm => ⟨(hp p hpm).1, (hp p hpm).2.1⟩) hb
  have k1 : (ps.length : Int) * 5 ≤ 8 * 5 := Int.mul_le_mul_of_nonneg_right (by omega) (by decide)
  have k2 : (r.1.length : Int) * ((ps.length : Int) * 5) ≤ 6 * 40 := Int.mul_le_mul (by omega) k1 (by omega) (by decide)
  exact sho_row hm0 hm hr (fun q hq => by have := x q hq; omega) (by omega)
theorem sho_pairs {m : Int} {ps : Ts} (hm : m ≤ 6) (hl : ps.length ≤ 8) (hp : ∀ q, q ∈ ps → -5 ≤ q.1 ∧ q.1 ≤ 5 ∧ LitOk m q.2) : Sho 2 1000 (.lst (tsD ps)) := by
  refine Sho.mono (Sho.lst (n := 1) (w := 82) fun x hx => ?_) (Nat.le_refl _) ?_
  · obtain ⟨q, hq, rfl⟩ := List.mem_map.mp hx
    obtain ⟨a, b, c, d, e⟩ := hp q hq
    have s1 : Sho 1 (2 * 41) (.tup [.int q.1, .int q.2]) := Sho.tup (n := 0) (w := 40) (xs := [.int q.1, .int q.2]) fun z hz => by
      simp only [List.mem_cons, List.not_mem_nil, or_false] at hz
      rcases hz with rfl | rfl
      · exact .int (by omega)
      · exact .int (by omega)
    exact s1
  · have hl2 : (tsD ps).length ≤ 8 := by unfold tsD; rw [List.length_map]; exact hl
    exact Nat.le_trans (Nat.mul_le_mul_right 83 hl2) (by decide)
end Zz

set_option Elab.async false
set_option linter.all false
set_option maxRecDepth 100000
set_option maxHeartbeats 2000000
namespace Zz
open PySem PySem.Spec PyProof.Rows L2

/-! ### instructions, what they make -/
inductive Ins where
  | row (i : Int) | lit (l : Int) | sum | times (n : Int) | divd (n : Int) | cap | weak (v : Int)
deriving DecidableEq
def insD : Ins → D
  | .row i => .tup [.str "row", .int i]
  | .lit l => .tup [.str "literal", .int l]
  | .sum => .tup [.str "sum"]
  | .times n => .tup [.str "times", .int n]
  | .divd n => .tup [.str "divided", .int n]
  | .cap => .tup [.str "capped"]
  | .weak v => .tup [.str "weakened", .int v]
abbrev Book := List (Int × Row)
def bookD (b : Book) : D := .dic (b.map fun q => (.inl q.1 : Key)) (b.map fun q => rowD q.2)
def bookGet (b : Book) (i : Int) : Option Row := (b.find? fun q => decide (q.1 = i)).map (·.2)
theorem dicOf_book (M : MM) (b : Book) : dicOf M (bookD b) = some (b.map fun q => ((.inl q.1 : Key), rowD q.2)) := by
  unfold bookD dicOf
  simp only [List.length_map, if_true, List.zip_map']
theorem valD_book (b : Book) (i : Int) : valD (b.map fun q => ((.inl q.1 : Key), rowD q.2)) (.inl i) = (bookGet b i).map rowD := by
  unfold valD bookGet
  rw [List.find?_map, Option.map_map, Option.map_map]
  have e : ((fun kv : Key × D => decide (kv.1 = .inl i)) ∘ fun q : Int × Row => ((.inl q.1 : Key), rowD q.2)) = fun q => decide (q.1 = i) := by
    funext q; exact inl_eq q.1 i
  rw [e]; rfl
def tenFt : Int := 10000000000000000000000000000000000000000
def InsOk (m : Int) (b : Book) : Ins → Prop
  | .row i => (bookGet b i).isSome = true
  | .lit l => LitOk m l
  | .times n => 1 ≤ n ∧ n ≤ tenFt
  | .divd n => 1 ≤ n ∧ n ≤ tenFt
  | .weak v => 1 ≤ v ∧ v ≤ m
  | _ => True
theorem deq_nonI (i : Int) : deq .non (.int i) = false := rfl
theorem deq_Inon (i : Int) : deq (.int i) .non = false := rfl
theorem ok_non (n : Nat) : okD n .non = true := by cases n <;> rfl
def sOk (x : Str) : Prop := ∀ n, okD n (.str x) = true
theorem sOk_of {x : Str} (h : PyData.strOk x = true) : sOk x := fun n => by cases n <;> exact h

/-! ### named rows -/
def rowsBook (rs : List Row) : Book := rs.zipIdx.map fun q => ((q.2 : Int), q.1)
def g_named_right : SpZ := fun ds M Q => ∃ m rs, ds = [.int m, .lst (List.map rowD rs)] ∧ (∀ r, r ∈ rs → RowOk m r) ∧ Q (.bl true) M
theorem book_rows (rs : List Row) : D.dic (numK (rs.map rowD).length) (rs.map rowD) = bookD (rowsBook rs) := by
  unfold bookD rowsBook numK
  congr 1
  · rw [List.map_map]
    refine List.ext_getElem (by simp) fun i h1 h2 => ?_
    simp
  · rw [List.map_map]
    refine List.ext_getElem (by simp) fun i h1 h2 => ?_
    simp
def g_book_of : SpZ := fun ds M Q => ∃ rs, ds = [.lst (List.map rowD rs)] ∧ Q (bookD (rowsBook rs)) M
/-! ### is it an instruction -/
section
variable {env : ZT} {M : MM} {Dd : ZEnds} {t u : TSZ} {test : TTZ} {Ta : TZ}
theorem ss_hit (h : EvT test env M true) (k : t { Dd with nx := u Dd } env M) : zSeq (zIfS test t zNext) u Dd env M := h _ (ite_t rfl k)
theorem ev_ix0 {x : D} {xs : List D} (ha : Ev Ta env M (.tup (x :: xs))) : Ev (zBin rzIx Ta (zC (.int 0))) env M x := fun Q k => ha _ (show rzIx (.tup (x :: xs)) (.int 0) M Q from by
  have e : atI (x :: xs) 0 = some x := atI_nat (by decide) rfl
  simp only [rzIx, view, e]; exact k)
theorem ev_ix1 {x y : D} {xs : List D} (ha : Ev Ta env M (.tup (x :: y :: xs))) : Ev (zBin rzIx Ta (zC (.int 1))) env M y := fun Q k => ha _ (show rzIx (.tup (x :: y :: xs)) (.int 1) M Q from by
  have e : atI (x :: y :: xs) 1 = some y := atI_nat (by decide) rfl
  simp only [rzIx, view, e]; exact k)
theorem ev_eqS {x y : Str} {b : Bool} (ha : Ev Ta env M (.str x)) (h : (PyData.strOk x && PyData.strOk y && ((x == y) == b)) = true := by first | decide +kernel | (dsimp only [kindS]; decide +kernel)) : EvT (zTst (zBin rzEq Ta (zC (.str y)))) env M b := fun Q k => ha _ (show rzEq (.str x) (.str y) M (fun d M' => match d with | .bl b => Q b M' | _ => False) from by
  rw [Bool.and_eq_true, Bool.and_eq_true] at h
  refine ⟨h.1.1, h.1.2, ?_⟩
  have e : deq (.str x) (.str y) = b := (deq_str x y).trans (by simpa using h.2)
  show Q (deq (.str x) (.str y)) M
  rw [e]; exact k)
theorem ev_isi {d : D} {k n : Kd} {b : Bool} (ha : Ev Ta env M d) (hk : kdOf M d = some k) (hb : isK k n = b) : EvT (zTst (zUn (rzIsi n) Ta)) env M b := fun Q q => ha _ (by
  show rzIsi n d M _
  unfold rzIsi
  rw [hk]
  simp only [hb]
  exact q)
theorem ev_not {b : Bool} (h : EvT test env M b) : EvT (zNot test) env M (!b) := fun Q k => h _ k
theorem ev_lenT {K : PySem.W.Frag} {xs : List D} (ha : Ev Ta env M (.tup xs)) : Ev (zCall (rzLen K) (zaCons Ta zaNil)) env M (.int (xs.length : Nat)) := fun Q k => ha _ k
theorem ev_eqI {Tb : TZ} {a c : Int} {b : Bool} (ha : Ev Ta env M (.int a)) (hb : Ev Tb env M (.int c)) (h : decide (a = c) = b) : EvT (zTst (zBin rzEq Ta Tb)) env M b := fun Q k => ha _ (hb _ (show rzEq (.int a) (.int c) M (fun d M' => match d with | .bl b => Q b M' | _ => False) from ⟨ok_int _ _, ok_int _ _, by
  show Q (deq (.int a) (.int c)) M
  rw [deq_int, h]; exact k⟩))
theorem ev_neI {Tb : TZ} {a c : Int} {b : Bool} (ha : Ev Ta env M (.int a)) (hb : Ev Tb env M (.int c)) (h : (!decide (a = c)) = b) : EvT (zTst (zBin rzNe Ta Tb)) env M b := fun Q k => ha _ (hb _ (show rzNe (.int a) (.int c) M (fun d M' => match d with | .bl b => Q b M' | _ => False) from ⟨ok_int _ _, ok_int _ _, by
  show Q (!deq (.int a) (.int c)) M
  rw [deq_int, h]; exact k⟩))
theorem ev_lenI {K : PySem.W.Frag} {xs : List D} {c : Int} {b : Bool} {T : TZ} {Q : D → MM → Prop} (ha : Ev Ta env M (.tup xs)) (h : decide (((xs.length : Nat) : Int) = c) = b) (k : if b = true then Q (.bl true) M else T env M Q) : zOrV (zBin rzEq (zCall (rzLen K) (zaCons Ta zaNil)) (zC (.int c))) T env M Q := ev_lenT ha _ (st_c (show rzEq (.int (xs.length : Nat)) (.int c) M _ from ⟨ok_int _ _, ok_int _ _, by
  simp only [view, deq_int, h]
  cases b with
  | true => exact k
  | false => exact k⟩))
theorem ev_kget {d : Addr} {f : Str → Option (Option Int)} {x : Str} {r : Option Int} (ha : Ev Ta env M (.str x)) (hf : f x = some r) : Ev (zKGet d f (zC (.ref d)) Ta) env M (numD r) := fun Q k => ⟨rfl, ha _ (by simp only [hf]; exact k)⟩
end
def kindS : Ins → Str
  | .row _ => "row"
  | .lit _ => "literal"
  | .sum => "sum"
  | .times _ => "times"
  | .divd _ => "divided"
  | .cap => "capped"
  | .weak _ => "weakened"
def argL : Ins → List D
  | .row i => [.int i]
  | .lit i => [.int i]
  | .times i => [.int i]
  | .divd i => [.int i]
  | .weak i => [.int i]
  | _ => []
theorem insD_eq (i : Ins) : insD i = .tup (.str (kindS i) :: argL i) := by cases i <;> rfl
def g_instruction_right : SpZ := fun ds M Q => ∃ m b i, ds = [.int m, bookD b, insD i] ∧ InsOk m b i ∧ Q (.bl true) M
/-! ### rows that are made -/
def timedF (r : Row) (n : Int) : Row := (r.1.map (fun q => (q.1 * n, q.2)), r.2 * n)
def cdiv (a n : Int) : Int := -((-a) / n)
def divF (r : Row) (n : Int) : Row := (r.1.map (fun q => (cdiv q.1 n, q.2)), cdiv r.2 n)
def capF (r : Row) : Row := if r.2 = 0 then ([], 0) else (r.1.map (fun q => (if r.2 < q.1 then r.2 else q.1, q.2)), r.2)
def goneW (r : Row) (v : Int) : Int := ((r.1.filter fun q => decide (absI q.2 = v)).map (·.1)).sum
def weakF (r : Row) (v : Int) : Row := (r.1.filter (fun q => !decide (absI q.2 = v)), max0 (r.2 - goneW r v))
def SmR (r : Row) : Prop := (∀ q, q ∈ r.1 → 1 ≤ q.1 ∧ q.1 < tenFt) ∧ 0 ≤ r.2 ∧ r.2 < tenFt
theorem post_row {r : Row} {us : List D} {b : Int} {Q : D → MM → Prop} {M : MM} (h : us = tsD r.1) (hb : b = r.2) (q : Q (rowD r) M) : Post Q (.tup [.tup us, .int b]) M := by
  subst h hb; exact Post.self (d := rowD r) q
theorem log_ft {a : Int} (h0 : 0 ≤ a) (h : a ≤ tenFt) : a.natAbs.log2 < 200 := by
  by_cases hz : a.natAbs = 0
  · rw [hz]; decide
  · refine (Nat.log2_lt hz).mpr ?_
    unfold tenFt at h
    have : a.natAbs ≤ 10000000000000000000000000000000000000000 := by omega
    refine Nat.lt_of_le_of_lt this (by decide)
theorem row_get0 (r : Row) {env : ZT} {M : MM} {Ta : TZ} (ha : Ev Ta env M (rowD r)) : Ev (zBin rzIx Ta (zC (.int 0))) env M (.tup (tsD r.1)) := ev_ix0 ha
theorem row_get1 (r : Row) {env : ZT} {M : MM} {Ta : TZ} (ha : Ev Ta env M (rowD r)) : Ev (zBin rzIx Ta (zC (.int 1))) env M (.int r.2) := ev_ix1 ha
def g_timed : SpZ := fun ds M Q => ∃ r n, ds = [rowD r, .int n] ∧ SmR r ∧ 0 ≤ n ∧ n ≤ tenFt ∧ Q (rowD (timedF r n)) M
def g_divided : SpZ := fun ds M Q => ∃ r n, ds = [rowD r, .int n] ∧ 1 ≤ n ∧ n ≤ tenFt ∧ Q (rowD (divF r n)) M
def g_capped : SpZ := fun ds M Q => ∃ r, ds = [rowD r] ∧ Q (rowD (capF r)) M
def g_weakened : SpZ := fun ds M Q => ∃ r v, ds = [rowD r, .int v] ∧ Q (rowD (weakF r v)) M
def bigR (r : Row) : Bool := decide (tenFt ≤ r.2) || r.1.any fun q => decide (tenFt ≤ q.1)
def g_too_great : SpZ := fun ds M Q => ∃ r, ds = [rowD r] ∧ Q (.bl (bigR r)) M
/-- the row of a sum -/
noncomputable def norm (ps : Ts) (b : Int) : Row := by classical exact if h : ∃ r, IsN ps b r then h.choose else ([], 0)
theorem norm_eq {ps : Ts} {b : Int} {r : Row} (h : IsN ps b r) : norm ps b = r := by
  have hx : ∃ r, IsN ps b r := ⟨r, h⟩
  unfold norm
  rw [dif_pos hx]
  exact isN_uniq hx.choose_spec h
noncomputable def addF (a b : Row) : Row := norm (a.1 ++ b.1) (a.2 + b.2)
def IsAdd (a b : Row) : Prop := IsN (a.1 ++ b.1) (a.2 + b.2) (addF a b)
def g_added : SpZ := fun ds M Q => ∃ a b, ds = [rowD a, rowD b] ∧ a.1.length + b.1.length < 64 ∧ (∀ q, q ∈ a.1 ++ b.1 → q.2 ≠ 0) ∧ (IsAdd a b → Q (rowD (addF a b)) M)
end Zz

set_option Elab.async false
set_option linter.all false
set_option maxRecDepth 100000
set_option maxHeartbeats 2000000
namespace Zz
open PySem PySem.Spec PyProof.Rows L2

/-! ### each sum has its row -/
theorem sorted_ex : ∀ ns : List Int, ∃ ys : List Int, ys.Pairwise (· < ·) ∧ ∀ k, k ∈ ys ↔ k ∈ ns
  | [] => ⟨[], .nil, fun k => Iff.rfl⟩
  | n :: ns => by
    obtain ⟨ys, h1, h2⟩ := sorted_ex ns
    by_cases hn : n ∈ ys
    · refine ⟨ys, h1, fun k => ?_⟩
      rw [List.mem_cons, ← h2 k]
      exact ⟨.inr, fun h => h.elim (fun e => e ▸ hn) id⟩
    · refine ⟨ys.filter (fun k => decide (k < n)) ++ n :: ys.filter (fun k => decide (n < k)), ?_, fun k => ?_⟩
      · refine List.pairwise_append.mpr ⟨h1.sublist List.filter_sublist, List.pairwise_cons.mpr ⟨fun k hk => ?_, h1.sublist List.filter_sublist⟩, fun a ha c hc => ?_⟩
        · simpa using (List.mem_filter.mp hk).2
        · have ha := of_decide_eq_true (List.mem_filter.mp ha).2
          rcases List.mem_cons.mp hc with rfl | hc
          · exact ha
          · have := of_decide_eq_true (List.mem_filter.mp hc).2; omega
      · rw [List.mem_append, List.mem_cons, List.mem_cons, List.mem_filter, List.mem_filter, ← h2 k]
        simp only [decide_eq_true_eq]
        constructor
        · rintro (h | h | h)
          · exact .inr h.1
          · exact .inl h
          · exact .inr h.1
        · rintro (h | h)
          · exact .inr (.inl h)
          · by_cases e : k = n
            · exact .inr (.inl e)
            · by_cases l : k < n
              · exact .inl ⟨h, l⟩
              · exact .inr (.inr ⟨h, by omega⟩)
theorem laid_ex {ps : Ts} {ys : List Int} (hs : ys.Pairwise (· < ·)) (h0 : ∀ y, y ∈ ys → 0 < y) : ∀ i, i ≤ ys.length → ∃ ts, Laid ps ys i ts
  | 0, _ => ⟨[], List.Pairwise.nil, fun q hq => by simp at hq, fun v => by simp [coef], Nat.le_refl _⟩
  | i + 1, hi => by
    obtain ⟨ts, h⟩ := laid_ex hs h0 i (by omega)
    have hv : ys[i]? = some ys[i] := List.getElem?_eq_getElem (by omega)
    have hp := h0 ys[i] (List.getElem_mem (by omega))
    have hle : ys.Pairwise (· ≤ ·) := hs.imp fun h => Int.le_of_lt h
    have hnd : ys.Nodup := hs.imp fun h e => by omega
    by_cases c1 : 0 < coef ps ys[i]
    · exact ⟨_, h.step hle hnd hv hp (us := [(coef ps ys[i], ys[i])]) (.inr ⟨_, rfl, by show 1 ≤ coef ps ys[i]; omega, by show ys[i] ≠ 0; omega, by show absI ys[i] = ys[i]; unfold absI; rw [if_neg (by omega)], by unfold sgn; rw [if_pos hp]⟩)⟩
    · by_cases c2 : coef ps ys[i] < 0
      · exact ⟨_, h.step hle hnd hv hp (us := [(-coef ps ys[i], -ys[i])]) (.inr ⟨_, rfl, by show 1 ≤ -coef ps ys[i]; omega, by show -ys[i] ≠ 0; omega, by show absI (-ys[i]) = ys[i]; unfold absI; rw [if_pos (by omega)]; omega, by
          unfold sgn
          rw [if_neg (by show ¬ 0 < -ys[i]; omega)]
          show -(-coef ps ys[i]) = _
          omega⟩)⟩
      · exact ⟨_, h.step hle hnd hv hp (us := []) (.inl ⟨rfl, by omega⟩)⟩
theorem isN_ex {ps : Ts} (b : Int) (h0 : ∀ p, p ∈ ps → p.2 ≠ 0) : IsN ps b (norm ps b) := by
  obtain ⟨ys, h1, h2⟩ := sorted_ex (ps.map fun p => absI p.2)
  have hy : ∀ y, y ∈ ys → 0 < y := fun y hy => by
    obtain ⟨p, hp, rfl⟩ := List.mem_map.mp ((h2 y).mp hy)
    have := h0 p hp
    show 0 < absI p.2
    rw [absI_nat]; omega
  obtain ⟨ts, l1, l2, l3, _⟩ := laid_ex (ps := ps) h1 hy ys.length (Nat.le_refl _)
  rw [List.take_length] at l2 l3
  have h : IsN ps b (ts, if b - neg ps + neg ts > 0 then b - neg ps + neg ts else 0) := by
    refine ⟨l1, fun q hq => ⟨(l2 q hq).1, (l2 q hq).2.1, ?_⟩, fun v => ?_, rfl⟩
    · obtain ⟨p, hp, e⟩ := List.mem_map.mp ((h2 _).mp (l2 q hq).2.2)
      refine ⟨p, hp, ?_⟩
      have e : absI p.2 = absI q.2 := e
      rw [absI_nat, absI_nat] at e; omega
    · show coef ts v = coef ps v
      rw [l3]
      split
      · rfl
      · next hn => exact (coef_none fun p hp e => hn ((h2 v).mpr (List.mem_map.mpr ⟨p, hp, e⟩))).symm
  rw [norm_eq h]; exact h
theorem isAdd_of {m : Int} {a b : Row} (ha : RowOk m a) (hb : RowOk m b) : IsAdd a b := isN_ex _ fun q hq => by
  rcases List.mem_append.mp hq with h | h
  · exact ((ha.1.1 q h).2).2.2
  · exact ((hb.1.1 q h).2).2.2

/-! ### a stack of rows -/
def R0 : Row := ([], 0)
def takeN : Ins → Nat
  | .row _ => 0
  | .lit _ => 0
  | .sum => 2
  | _ => 1
noncomputable def madeF (b : Book) (tk : List Row) : Ins → Row
  | .row i => (bookGet b i).getD R0
  | .lit l => ([(1, l)], 0)
  | .sum => addF (tk.getD 0 R0) (tk.getD 1 R0)
  | .times n => timedF (tk.getD 0 R0) n
  | .divd n => divF (tk.getD 0 R0) n
  | .cap => capF (tk.getD 0 R0)
  | .weak v => weakF (tk.getD 0 R0) v
def Stk (m : Int) (st : List Row) : Prop := ∀ r, r ∈ st → RowOk m r ∧ bigR r = false
theorem small_of {m : Int} {r : Row} (h : RowOk m r) (hb : bigR r = false) : SmR r := by
  unfold bigR at hb
  rw [Bool.or_eq_false_iff, decide_eq_false_iff_not, List.any_eq_false] at hb
  refine ⟨fun q hq => ⟨(h.1.1 q hq).1, ?_⟩, h.2, by omega⟩
  have := hb.2 q hq
  simp only [decide_eq_true_eq] at this
  omega
theorem tk1 {m : Int} {tk : List Row} (hs : Stk m tk) (hl : tk.length = 1) : ∃ r, tk = [r] ∧ RowOk m r ∧ bigR r = false := by
  match tk, hl with
  | [r], _ => exact ⟨r, rfl, hs r (by simp)⟩
theorem tk2 {m : Int} {tk : List Row} (hs : Stk m tk) (hl : tk.length = 2) : ∃ r u, tk = [r, u] ∧ RowOk m r ∧ RowOk m u := by
  match tk, hl with
  | [r, u], _ => exact ⟨r, u, rfl, (hs r (by simp)).1, (hs u (by simp)).1⟩
section
variable {env : ZT} {M : MM} {Ta : TZ}
theorem st_tupA {Q : D → MM → Prop} (h : Ta env M fun x M1 => Q (.tup [x]) M1) : zTup (zaCons Ta zaNil) env M Q := by
  have e : (fun (x : D) (M1 : MM) => Q (.tup [x]) M1) = fun x M1 => ([x] : List D).length ≤ 1000 ∧ Q (.tup [x]) M1 := by funext x M1; simp
  rw [e] at h; exact h
theorem ev_at0 {x : D} {xs : List D} (ha : Ev Ta env M (.lst (x :: xs))) : Ev (zBin rzIx Ta (zC (.int 0))) env M x := fun Q k => ha _ (show rzIx (.lst (x :: xs)) (.int 0) M Q from by
  have e : atI (x :: xs) 0 = some x := atI_nat (by decide) rfl
  simp only [rzIx, view, e]; exact k)
theorem ev_at1 {x y : D} {xs : List D} (ha : Ev Ta env M (.lst (x :: y :: xs))) : Ev (zBin rzIx Ta (zC (.int 1))) env M y := fun Q k => ha _ (show rzIx (.lst (x :: y :: xs)) (.int 1) M Q from by
  have e : atI (x :: y :: xs) 1 = some y := atI_nat (by decide) rfl
  simp only [rzIx, view, e]; exact k)
end
def g_made : SpZ := fun ds M Q => ∃ m b tk i, ds = [bookD b, .lst (List.map rowD tk), insD i] ∧ 0 ≤ m ∧ m ≤ 6 ∧ InsOk m b i ∧ tk.length = takeN i ∧ Stk m tk ∧ Q (rowD (madeF b tk i)) M
/-! ### a derivation worked off -/
noncomputable def stepF (b : Book) (st : List Row) (i : Ins) : Option (List Row) :=
  if st.length < takeN i then none else if bigR (madeF b (st.drop (st.length - takeN i)) i) = true then none else some (st.take (st.length - takeN i) ++ [madeF b (st.drop (st.length - takeN i)) i])
noncomputable def workF (b : Book) : Nat → List Row → List Ins → Nat × Option (List Row)
  | k, st, [] => (k, some st)
  | k, st, i :: is => match stepF b st i with
    | none => (k, none)
    | some st' => workF b (k + 1) st' is
def endD : Nat × Option (List Row) → D
  | (k, some [r]) => .tup [.int (k : Nat), rowD r]
  | (k, _) => .tup [.int (k : Nat), .non]
def BookOk (m : Int) (b : Book) : Prop := ∀ i r, bookGet b i = some r → RowOk m r
theorem absI_pos {l : Int} (h : l ≠ 0) : 1 ≤ absI l := by rw [absI_nat]; omega
theorem made_ok {m : Int} {b : Book} {tk : List Row} {i : Ins} (hb : BookOk m b) (hi : InsOk m b i) (htl : tk.length = takeN i) (hs : Stk m tk) : RowOk m (madeF b tk i) := by
  have mapOk : ∀ (r : Row) (g : Int × Int → Int) (c : Int), RowOk m r → (∀ q, q ∈ r.1 → 1 ≤ g q) → 0 ≤ c → RowOk m (r.1.map (fun q => (g q, q.2)), c) := fun r g c hr hg hc => by
    refine ⟨⟨fun q hq => ?_, ?_⟩, hc⟩
    · obtain ⟨q', hq', rfl⟩ := List.mem_map.mp hq
      exact ⟨hg q' hq', (hr.1.1 q' hq').2⟩
    · rw [List.pairwise_map]
      exact hr.1.2
  cases i with
  | row i =>
    obtain ⟨r, hr⟩ := Option.isSome_iff_exists.mp hi
    show RowOk m ((bookGet b i).getD R0)
    rw [hr]
    exact hb i r hr
  | lit l =>
    refine ⟨⟨fun q hq => ?_, List.pairwise_singleton _ _⟩, Int.le_refl _⟩
    have e : q = (1, l) := by simpa [madeF] using hq
    subst e
    exact ⟨Int.le_refl _, hi⟩
  | sum =>
    obtain ⟨r, u, rfl, hr, hu⟩ := tk2 hs htl
    refine isN_ok (fun q hq => ?_) (isAdd_of hr hu)
    rcases List.mem_append.mp hq with h | h
    · exact (hr.1.1 q h).2
    · exact (hu.1.1 q h).2
  | times n =>
    obtain ⟨r, rfl, hr, _⟩ := tk1 hs htl
    refine mapOk r (fun q => q.1 * n) (r.2 * n) hr (fun q hq => ?_) (Int.mul_nonneg hr.2 (by have := hi.1; omega))
    have h1 := (hr.1.1 q hq).1
    have := Int.mul_le_mul h1 hi.1 (by decide) (by omega)
    simpa using this
  | divd n =>
    obtain ⟨r, rfl, hr, _⟩ := tk1 hs htl
    have hn : 0 < n := by have := hi.1; omega
    have cd : ∀ a : Int, 0 ≤ a → 0 ≤ cdiv a n ∧ (1 ≤ a → 1 ≤ cdiv a n) := fun a ha => by
      unfold cdiv
      have h1 : (-a) / n ≤ 0 := Int.le_of_lt_add_one (Int.ediv_lt_of_lt_mul hn (by omega))
      refine ⟨by omega, fun h => ?_⟩
      have : (-a) / n < 0 := Int.ediv_lt_of_lt_mul hn (by omega)
      omega
    exact mapOk r (fun q => cdiv q.1 n) (cdiv r.2 n) hr (fun q hq => (cd q.1 (by have := (hr.1.1 q hq).1; omega)).2 (hr.1.1 q hq).1) (cd r.2 hr.2).1
  | cap =>
    obtain ⟨r, rfl, hr, _⟩ := tk1 hs htl
    show RowOk m (capF r)
    unfold capF
    split
    · exact ⟨⟨fun q hq => by simp at hq, List.Pairwise.nil⟩, Int.le_refl _⟩
    · next h0 =>
      refine mapOk r _ r.2 hr (fun q hq => ?_) hr.2
      have := (hr.1.1 q hq).1
      have := hr.2
      split <;> omega
  | weak v =>
    obtain ⟨r, rfl, hr, _⟩ := tk1 hs htl
    refine ⟨⟨fun q hq => hr.1.1 q (List.mem_filter.mp hq).1, hr.1.2.sublist List.filter_sublist⟩, ?_⟩
    show 0 ≤ max0 _
    unfold max0
    split <;> omega
theorem stk_drop {m : Int} {st : List Row} (h : Stk m st) (n : Nat) : Stk m (st.drop n) := fun r hr => h r (List.mem_of_mem_drop hr)
theorem step_ok {m : Int} {b : Book} {st st' : List Row} {i : Ins} (hb : BookOk m b) (hi : InsOk m b i) (hs : Stk m st) (h : stepF b st i = some st') : Stk m st' := by
  unfold stepF at h
  split at h
  · cases h
  · next hl =>
    split at h
    · cases h
    · next hg =>
      obtain rfl := Option.some.inj h
      intro r hr
      rcases List.mem_append.mp hr with hr | hr
      · exact hs r (List.mem_of_mem_take hr)
      · rw [List.mem_singleton] at hr
        subst hr
        exact ⟨made_ok hb hi (by rw [List.length_drop]; omega) (stk_drop hs _), by simpa using hg⟩
end Zz

set_option Elab.async false
set_option linter.all false
set_option maxRecDepth 100000
set_option maxHeartbeats 2000000
namespace Zz
open PySem PySem.Spec PyProof.Rows L2

theorem takeN_le (i : Ins) : takeN i ≤ 2 := by cases i <;> simp [takeN]
theorem cut_from {xs : List D} {k : Nat} (h : k ≤ xs.length) : cutD xs (some (k : Int)) none = xs.drop k := by
  unfold cutD
  have e : HT.sIx xs.length 0 (some (k : Int)) = min k xs.length := HT.sIx_nat _ _ k
  rw [e, HT.sIx_none, Nat.min_eq_left h]
  exact List.take_of_length_le (by rw [List.length_drop]; omega)
theorem ev_geI {env : ZT} {M : MM} {Ta Tb : TZ} {a c : Int} {b : Bool} (ha : Ev Ta env M (.int a)) (hb : Ev Tb env M (.int c)) (h : decide (a ≥ c) = b) : EvT (zTst (zBin rzGe Ta Tb)) env M b := fun Q k => ha _ (hb _ (by
  show Q (decide (a ≥ c)) M
  rw [h]; exact k))
theorem ev_ltI {env : ZT} {M : MM} {Ta Tb : TZ} {a c : Int} {b : Bool} (ha : Ev Ta env M (.int a)) (hb : Ev Tb env M (.int c)) (h : decide (a < c) = b) : EvT (zTst (zBin rzLt Ta Tb)) env M b := fun Q k => ha _ (hb _ (by
  show Q (decide (a < c)) M
  rw [h]; exact k))
theorem ev_lenR {K : PySem.W.Frag} {env : ZT} {M : MM} {Ta : TZ} {p : Addr} {xs : List D} (ha : Ev Ta env M (.ref p)) (hp : M p = some (.lst xs)) : Ev (zCall (rzLen K) (zaCons Ta zaNil)) env M (.int (xs.length : Nat)) := fun Q k => ha _ (by
  show rzLen K [.ref p] M Q
  simp only [rzLen, lenOf, hp]
  exact k)
theorem ev_lenL {K : PySem.W.Frag} {env : ZT} {M : MM} {Ta : TZ} {xs : List D} (ha : Ev Ta env M (.lst xs)) : Ev (zCall (rzLen K) (zaCons Ta zaNil)) env M (.int (xs.length : Nat)) := fun Q k => ha _ k
theorem for_enum {Ta : TZ} {env : ZT} {M : MM} {tg : Tg} {tb : TSZ} {Dd : ZEnds} {xs : List D} (hT : Ev Ta env M (.lst xs)) (k : forGo (fun _ => True) tg tb (xs.zipIdx.map fun q => .tup [.int (q.2 : Nat), q.1]) Dd env M) : zFor (iEnum Ta) tg tb Dd env M := hT _ k
theorem workF_nil (b : Book) (k : Nat) (st : List Row) : workF b k st [] = (k, some st) := rfl
theorem workF_cons (b : Book) (k : Nat) (st : List Row) (i : Ins) (is : List Ins) : workF b k st (i :: is) = match stepF b st i with
    | none => (k, none)
    | some st' => workF b (k + 1) st' is := rfl
theorem workF_end (b : Book) : ∀ (is : List Ins) (k : Nat) (st : List Row), (workF b k st is).2 = none ∨ (workF b k st is).1 = k + is.length
  | [], k, st => .inr rfl
  | i :: is, k, st => by
    unfold workF
    split
    · exact .inl rfl
    · next st' _ =>
      rcases workF_end b is (k + 1) st' with h | h
      · exact .inl h
      · right; rw [h, List.length_cons]; omega
def g_worked_off : SpZ := fun ds M Q => ∃ m b is, ds = [.int m, bookD b, .lst (List.map insD is)] ∧ 0 ≤ m ∧ m ≤ 6 ∧ BookOk m b ∧ (∀ i, i ∈ is → InsOk m b i) ∧ is.length ≤ 400000 ∧ Q (endD (workF b 0 [] is)) M
theorem book_mem {b : Book} {i : Int} {r : Row} (h : bookGet b i = some r) : ∃ q, q ∈ b ∧ q.1 = i ∧ q.2 = r := by
  unfold bookGet at h
  rw [Option.map_eq_some_iff] at h
  obtain ⟨q, h1, h2⟩ := h
  exact ⟨q, List.mem_of_find?_eq_some h1, by simpa using List.find?_some h1, h2⟩
theorem rowsBook_mem {rs : List Row} {q : Int × Row} (h : q ∈ rowsBook rs) : ∃ k : Nat, rs[k]? = some q.2 ∧ q.1 = k := by
  unfold rowsBook at h
  obtain ⟨⟨r, k⟩, h1, rfl⟩ := List.mem_map.mp h
  exact ⟨k, (List.mem_zipIdx_iff_getElem?.mp h1), rfl⟩
theorem rowsBook_ok {m : Int} {rs : List Row} (h : ∀ r, r ∈ rs → RowOk m r) : BookOk m (rowsBook rs) := fun i r hr => by
  obtain ⟨q, h1, h2, h3⟩ := book_mem hr
  obtain ⟨k, h4, h5⟩ := rowsBook_mem h1
  exact h r (h3 ▸ List.mem_of_getElem? h4)
theorem st_asgT {T : TZ} {tg : Tg} {Dd : ZEnds} {env : ZT} {M : MM} (h : T env M fun d M1 => match bindT tg d env with | some env' => Dd.nx env' M1 | none => False) : zAsg tg T Dd env M := h
theorem bind2 {i j : Nat} {a b : D} {env : ZT} {M : MM} {Nx : ZT → MM → Prop} (h : Nx ((env.set i (some a)).set j (some b)) M) : (match bindT (.tup [.nm i, .nm j]) (.tup [a, b]) env with | some env' => Nx env' M | none => False) := by simpa [bindT, bindTs] using h
theorem endD_some {k : Nat} {r : Row} : endD (k, some [r]) = .tup [.int (k : Nat), rowD r] := rfl
def g_derived : SpZ := fun ds M Q => ∃ m rs is r, ds = [.int m, .lst (List.map rowD rs), .lst (List.map insD is)] ∧ MOk m ∧ m ≤ 6 ∧ (∀ r, r ∈ rs → RowOk m r) ∧ (∀ i, i ∈ is → InsOk m (rowsBook rs) i) ∧ is.length ≤ 400000 ∧ (workF (rowsBook rs) 0 [] is).2 = some [r] ∧ Q (rowD r) M
end Zz

set_option Elab.async false
set_option linter.all false
set_option maxRecDepth 100000
set_option maxHeartbeats 2000000
namespace Zz
open PySem PySem.Spec PyProof.Rows L2

/-! ### the stack's height -/
def heightF : Nat → List Ins → Option Nat
  | h, [] => some h
  | h, i :: is => if h < takeN i then none else heightF (h - takeN i + 1) is
theorem heightF_cons (h : Nat) (i : Ins) (is : List Ins) : heightF h (i :: is) = if h < takeN i then none else heightF (h - takeN i + 1) is := rfl
theorem heightF_app : ∀ (is js : List Ins) (h : Nat), heightF h (is ++ js) = (heightF h is).bind fun k => heightF k js
  | [], js, h => rfl
  | i :: is, js, h => by
    rw [List.cons_append, heightF_cons, heightF_cons]
    split
    · rfl
    · exact heightF_app is js _
def mulN : List Ins → Nat
  | [] => 0
  | i :: is => (if takeN i = 0 then 0 else 1) + mulN is
theorem mulN_app : ∀ is js : List Ins, mulN (is ++ js) = mulN is + mulN js
  | [], js => by simp [mulN]
  | i :: is, js => by rw [List.cons_append, mulN, mulN, mulN_app is js]; omega
theorem mulN_sums : ∀ n : Nat, mulN (List.replicate n Ins.sum) = n
  | 0 => rfl
  | n + 1 => by rw [List.replicate_succ, mulN, mulN_sums n]; simp [takeN]; omega
theorem height_sums : ∀ n h : Nat, n < h → heightF h (List.replicate n Ins.sum) = some (h - n)
  | 0, h, _ => rfl
  | n + 1, h, hn => by
    rw [List.replicate_succ, heightF, if_neg (by simp [takeN]; omega), height_sums n _ (by simp [takeN]; omega)]
    simp [takeN]; omega
/-! ### bounds -/
def SmB (B : Int) (r : Row) : Prop := (∀ q, q ∈ r.1 → q.1 ≤ B) ∧ r.2 ≤ B
def Few : Ins → Prop
  | .times n => n ≤ 90
  | _ => True
theorem SmB.up {B C : Int} {r : Row} (h : SmB B r) (hc : B ≤ C) : SmB C r := ⟨fun q hq => Int.le_trans (h.1 q hq) hc, Int.le_trans h.2 hc⟩
theorem made_small {m B : Int} {b : Book} {tk : List Row} {i : Ins} (hm0 : 0 ≤ m) (hm : m ≤ 6) (hB : 1 ≤ B) (hbk : ∀ i r, bookGet b i = some r → SmB B r) (hi : InsOk m b i) (hf : Few i) (htl : tk.length = takeN i) (hs : Stk m tk) (hb : ∀ r, r ∈ tk → SmB B r) :
    SmB (if takeN i = 0 then B else 90 * B) (madeF b tk i) := by
  cases i with
  | row i =>
    obtain ⟨r, hr⟩ := Option.isSome_iff_exists.mp hi
    show SmB B ((bookGet b i).getD R0)
    rw [hr]
    exact hbk i r hr
  | lit l =>
    refine ⟨fun q hq => ?_, by show (0 : Int) ≤ B; omega⟩
    have e : q = (1, l) := by simpa [madeF] using hq
    subst e
    exact hB
  | sum =>
    obtain ⟨r, u, rfl, hr, hu⟩ := tk2 hs htl
    show SmB (90 * B) (addF r u)
    have hr' := hb r (by simp)
    have hu' := hb u (by simp)
    obtain ⟨h1, h2⟩ := isN_small (c := B) (B := 2 * B) (isAdd_of hr hu) (by omega) (by omega) (fun p hp => by
      rcases List.mem_append.mp hp with hp | hp
      · exact ⟨by have := (hr.1.1 p hp).1; omega, hr'.1 p hp⟩
      · exact ⟨by have := (hu.1.1 p hp).1; omega, hu'.1 p hp⟩) (by have := hr'.2; have := hu'.2; omega)
    have hl : ((r.1 ++ u.1).length : Int) ≤ 12 := by
      have a1 := hr.1.len hm0; have a2 := hu.1.len hm0
      rw [List.length_append]; omega
    have hl2 : (((addF r u).1).length : Int) ≤ 6 := by
      have ok : RowOk m (addF r u) := isN_ok (fun q hq => by
        rcases List.mem_append.mp hq with h | h
        · exact (hr.1.1 q h).2
        · exact (hu.1.1 q h).2) (isAdd_of hr hu)
      have := ok.1.len hm0; omega
    have k1 : ((r.1 ++ u.1).length : Int) * B ≤ 12 * B := Int.mul_le_mul_of_nonneg_right hl (by omega)
    have k0 : 0 ≤ ((r.1 ++ u.1).length : Int) * B := Int.mul_nonneg (by omega) (by omega)
    have k2 : (((addF r u).1).length : Int) * (((r.1 ++ u.1).length : Int) * B) ≤ 6 * (12 * B) := Int.mul_le_mul hl2 k1 k0 (by decide)
    exact ⟨fun q hq => by have := h1 q hq; omega, by omega⟩
  | times n =>
    obtain ⟨r, rfl, hr, _⟩ := tk1 hs htl
    have hr' := hb r (by simp)
    have hn : n ≤ 90 := hf
    have hn1 : 1 ≤ n := hi.1
    have k : ∀ x : Int, 0 ≤ x → x ≤ B → x * n ≤ 90 * B := fun x h0 hx => by
      have h1 : x * n ≤ x * 90 := Int.mul_le_mul_of_nonneg_left hn h0
      omega
    refine ⟨fun q hq => ?_, k r.2 hr.2 hr'.2⟩
    obtain ⟨q', hq', rfl⟩ := List.mem_map.mp (show q ∈ r.1.map (fun q => (q.1 * n, q.2)) from hq)
    exact k q'.1 (by have := (hr.1.1 q' hq').1; omega) (hr'.1 q' hq')
  | divd n =>
    obtain ⟨r, rfl, hr, _⟩ := tk1 hs htl
    have hr' := hb r (by simp)
    have hn : 1 ≤ n := hi.1
    have k : ∀ x : Int, 0 ≤ x → x ≤ B → cdiv x n ≤ 90 * B := fun x h0 hx => by
      unfold cdiv
      have : -x ≤ (-x) / n := by
        rw [Int.le_ediv_iff_mul_le (by omega)]
        have : x * 1 ≤ x * n := Int.mul_le_mul_of_nonneg_left hn h0
        rw [Int.neg_mul]; omega
      omega
    refine ⟨fun q hq => ?_, k r.2 hr.2 hr'.2⟩
    obtain ⟨q', hq', rfl⟩ := List.mem_map.mp (show q ∈ r.1.map (fun q => (cdiv q.1 n, q.2)) from hq)
    exact k q'.1 (by have := (hr.1.1 q' hq').1; omega) (hr'.1 q' hq')
  | cap =>
    obtain ⟨r, rfl, hr, _⟩ := tk1 hs htl
    have hr' := hb r (by simp)
    show SmB (90 * B) (capF r)
    unfold capF
    split
    · exact ⟨fun q hq => by simp at hq, by show (0 : Int) ≤ _; omega⟩
    · refine ⟨fun q hq => ?_, by have := hr'.2; show r.2 ≤ _; omega⟩
      obtain ⟨q', hq', rfl⟩ := List.mem_map.mp hq
      have h1 := hr'.1 q' hq'
      have h2 := hr'.2
      show (if r.2 < q'.1 then r.2 else q'.1) ≤ 90 * B
      split <;> omega
  | weak v =>
    obtain ⟨r, rfl, hr, _⟩ := tk1 hs htl
    have hr' := hb r (by simp)
    show SmB (90 * B) (weakF r v)
    refine ⟨fun q hq => by have := hr'.1 q (List.mem_filter.mp hq).1; omega, ?_⟩
    have h0 : 0 ≤ goneW r v := by
      unfold goneW
      refine sum_pos _ _ fun q hq => ?_
      have := (hr.1.1 q (List.mem_filter.mp hq).1).1; omega
    show max0 (r.2 - goneW r v) ≤ 90 * B
    have := hr'.2
    unfold max0
    split <;> omega
theorem big_small {B : Int} {r : Row} (h : SmB B r) (hB : B < tenFt) : bigR r = false := by
  unfold bigR
  rw [Bool.or_eq_false_iff, decide_eq_false_iff_not, List.any_eq_false]
  refine ⟨by have := h.2; omega, fun q hq => ?_⟩
  have := h.1 q hq
  simp only [decide_eq_true_eq]; omega
theorem pow_pos90 (n : Nat) : (1 : Int) ≤ 90 ^ n := by
  have : (0 : Int) < 90 ^ n := Int.pow_pos (by decide)
  omega
theorem run_ok {m : Int} {b : Book} {h : Nat} (hm0 : 0 ≤ m) (hm : m ≤ 6) : ∀ (is : List Ins) (k : Nat) (st : List Row) (B : Int), 1 ≤ B → (∀ i r, bookGet b i = some r → RowOk m r ∧ SmB B r) → Stk m st → (∀ r, r ∈ st → SmB B r) → (∀ i, i ∈ is → InsOk m b i ∧ Few i) →
    heightF st.length is = some h → B * 90 ^ (mulN is) < tenFt → ∃ st', workF b k st is = (k + is.length, some st') ∧ st'.length = h ∧ Stk m st' ∧ ∀ r, r ∈ st' → SmB (B * 90 ^ (mulN is)) r
  | [], k, st, B, hB, hbk, hs, hb, hi, hh, hlt => by
    refine ⟨st, rfl, by simpa [heightF] using hh, hs, fun r hr => ?_⟩
    simpa [mulN] using hb r hr
  | i :: is, k, st, B, hB, hbk, hs, hb, hi, hh, hlt => by
    unfold heightF at hh
    split at hh
    · cases hh
    next hge =>
    have hii := hi i (by simp)
    have htl : (st.drop (st.length - takeN i)).length = takeN i := by rw [List.length_drop]; omega
    have ms := made_small hm0 hm hB (fun i r e => (hbk i r e).2) hii.1 hii.2 htl (stk_drop hs _) (fun r hr => hb r (List.mem_of_mem_drop hr))
    have mo := made_ok (fun i r e => (hbk i r e).1) hii.1 htl (stk_drop hs _)
    generalize hmade : madeF b (st.drop (st.length - takeN i)) i = r at ms mo
    generalize hB' : (if takeN i = 0 then B else 90 * B) = B' at ms
    have eB : B * 90 ^ (mulN (i :: is)) = B' * 90 ^ (mulN is) := by
      rw [← hB', mulN]
      split
      · rw [Nat.zero_add]
      · rw [Nat.add_comm 1, Int.pow_succ, Int.mul_comm 90 B, Int.mul_assoc, Int.mul_comm 90]
    have hBB : B ≤ B' := by rw [← hB']; split <;> omega
    rw [eB] at hlt
    have p1 := pow_pos90 (mulN is)
    have hB'lt : B' < tenFt := by
      have : B' * 1 ≤ B' * 90 ^ (mulN is) := Int.mul_le_mul_of_nonneg_left p1 (by omega)
      omega
    have hbig := big_small ms hB'lt
    have hst : stepF b st i = some (st.take (st.length - takeN i) ++ [r]) := by
      unfold stepF
      rw [if_neg hge, hmade, if_neg (by rw [hbig]; exact Bool.false_ne_true)]
    have hs' := step_ok (fun i r e => (hbk i r e).1) hii.1 hs hst
    have hlen : (st.take (st.length - takeN i) ++ [r]).length = st.length - takeN i + 1 := by rw [List.length_append, List.length_take, List.length_singleton]; omega
    obtain ⟨st', h1, h2, h3, h4⟩ := run_ok hm0 hm is (k + 1) _ B' (by omega) (fun i r e => ⟨(hbk i r e).1, (hbk i r e).2.up hBB⟩) hs' (fun u hu => by
      rcases List.mem_append.mp hu with hu | hu
      · exact (hb u (List.mem_of_mem_take hu)).up hBB
      · rw [List.mem_singleton] at hu; subst hu; exact ms) (fun j hj => hi j (List.mem_cons_of_mem _ hj)) (by rw [hlen]; exact hh) hlt
    refine ⟨st', ?_, h2, h3, by rw [eB]; exact h4⟩
    rw [workF_cons, hst]
    simp only [h1, List.length_cons]
    congr 1; omega
/-! ### below, behind, other books -/
theorem step_frame {b : Book} {st st1 : List Row} {i : Ins} (pre : List Row) (h : stepF b st i = some st1) : stepF b (pre ++ st) i = some (pre ++ st1) := by
  unfold stepF at h ⊢
  split at h
  · cases h
  next hge =>
  rw [if_neg (by rw [List.length_append]; omega)]
  have e : (pre ++ st).length - takeN i = pre.length + (st.length - takeN i) := by rw [List.length_append]; omega
  rw [e, List.drop_append, List.take_append, List.drop_eq_nil_of_le (by omega), List.take_of_length_le (l := pre) (by omega), List.nil_append, Nat.add_sub_cancel_left]
  split at h
  · cases h
  next hb =>
  rw [if_neg hb]
  obtain rfl := Option.some.inj h
  rw [List.append_assoc]
theorem work_frame {b : Book} (pre : List Row) : ∀ (is : List Ins) (k k' : Nat) (st st' : List Row), workF b k st is = (k', some st') → workF b k (pre ++ st) is = (k', some (pre ++ st'))
  | [], k, k', st, st', h => by cases h; rfl
  | i :: is, k, k', st, st', h => by
    rw [workF_cons] at h ⊢
    split at h
    · cases h
    next st1 h1 =>
    rw [step_frame pre h1]
    exact work_frame pre is (k + 1) k' st1 st' h
theorem work_app {b : Book} {k' : Nat} {st' : List Row} (js : List Ins) : ∀ (is : List Ins) (k : Nat) (st : List Row), workF b k st is = (k', some st') → workF b k st (is ++ js) = workF b k' st' js
  | [], k, st, h => by cases h; rfl
  | i :: is, k, st, h => by
    rw [List.cons_append, workF_cons]
    rw [workF_cons] at h
    split at h
    · cases h
    next st1 h1 =>
    exact work_app js is (k + 1) st1 h
theorem work_k {b : Book} : ∀ (is : List Ins) (k j k' : Nat) (st st' : List Row), workF b k st is = (k', some st') → ∃ j', workF b j st is = (j', some st')
  | [], k, j, k', st, st', h => by cases h; exact ⟨j, rfl⟩
  | i :: is, k, j, k', st, st', h => by
    rw [workF_cons] at h ⊢
    split at h
    · cases h
    next st1 h1 =>
    exact work_k is (k + 1) (j + 1) k' st1 st' h
theorem step_congr {b b' : Book} {st : List Row} {i : Ins} (h : ∀ n, i = .row n → bookGet b n = bookGet b' n) : stepF b st i = stepF b' st i := by
  have e : ∀ tk, madeF b tk i = madeF b' tk i := fun tk => by
    cases i with
    | row n => show (bookGet b n).getD R0 = (bookGet b' n).getD R0; rw [h n rfl]
    | _ => rfl
  unfold stepF
  rw [e]
theorem work_congr {b b' : Book} : ∀ (is : List Ins) (k : Nat) (st : List Row), (∀ n, Ins.row n ∈ is → bookGet b n = bookGet b' n) → workF b k st is = workF b' k st is
  | [], k, st, h => rfl
  | i :: is, k, st, h => by
    rw [workF_cons, workF_cons, step_congr (b' := b') fun n e => h n (by rw [e]; simp)]
    split
    · rfl
    · exact work_congr is _ _ fun n hn => h n (List.mem_cons_of_mem _ hn)
end Zz

set_option Elab.async false
set_option linter.all false
set_option maxRecDepth 100000
set_option maxHeartbeats 2000000
namespace Zz
open PySem PySem.Spec PyProof.Rows L2

/-! ### what holds of the rows, holds of the end -/
theorem sum_mono {α : Type} (l : List α) (f g : α → Int) (h : ∀ x, x ∈ l → f x ≤ g x) : (l.map f).sum ≤ (l.map g).sum := by
  induction l with
  | nil => exact Int.le_refl _
  | cons x l ih =>
    rw [List.map_cons, List.map_cons, List.sum_cons, List.sum_cons]
    have := h x (by simp); have := ih fun y hy => h y (List.mem_cons_of_mem _ hy)
    omega
theorem sum_mulR {α : Type} (l : List α) (f : α → Int) (c : Int) : (l.map fun x => f x * c).sum = (l.map f).sum * c := by
  induction l with
  | nil => simp
  | cons x l ih => rw [List.map_cons, List.map_cons, List.sum_cons, List.sum_cons, ih, Int.add_mul]
theorem cdiv_mul {a n : Int} (hn : 0 < n) : a ≤ cdiv a n * n := by
  unfold cdiv
  have := Int.ediv_mul_le (-a) (b := n) (by omega)
  rw [Int.neg_mul]; omega
theorem cdiv_le {a s n : Int} (hn : 0 < n) (h : a ≤ s * n) : cdiv a n ≤ s := by
  unfold cdiv
  have : -s ≤ (-a) / n := by
    rw [Int.le_ediv_iff_mul_le hn, Int.neg_mul]; omega
  omega
theorem holds_iff {m : Int} {r : Row} {f : List Int} (hf : FilOk m f) (hr : RowOk m r) : holds r f = true ↔ r.2 ≤ (r.1.map fun q => q.1 * worth q.2 f).sum := by
  unfold holds
  rw [decide_eq_true_eq, comes_eq hf hr.1.lits]
theorem made_holds {m : Int} {b : Book} {tk : List Row} {i : Ins} {f : List Int} (hf : FilOk m f) (hbk : ∀ i r, bookGet b i = some r → RowOk m r ∧ holds r f = true) (hi : InsOk m b i) (htl : tk.length = takeN i) (hs : Stk m tk) (hh : ∀ r, r ∈ tk → holds r f = true) : holds (madeF b tk i) f = true := by
  have mo := made_ok (fun i r e => (hbk i r e).1) hi htl hs
  have w01 : ∀ {r : Row}, RowOk m r → ∀ q, q ∈ r.1 → worth q.2 f = 0 ∨ worth q.2 f = 1 := fun hr q hq => worth01 hf (hr.1.lits q hq)
  cases i with
  | row i =>
    obtain ⟨r, hr⟩ := Option.isSome_iff_exists.mp hi
    show holds ((bookGet b i).getD R0) f = true
    rw [hr]
    exact (hbk i r hr).2
  | lit l =>
    rw [holds_iff hf mo]
    refine sum_pos _ _ fun q hq => ?_
    have e : q = (1, l) := by simpa [madeF] using hq
    subst e
    show 0 ≤ 1 * worth l f
    rcases worth01 hf hi with e | e <;> rw [e] <;> decide
  | sum =>
    obtain ⟨r, u, rfl, hr, hu⟩ := tk2 hs htl
    have h1 := (holds_iff hf hr).mp (hh r (by simp))
    have h2 := (holds_iff hf hu).mp (hh u (by simp))
    show holds (addF r u) f = true
    rw [isN_holds hf (fun q hq => by
        rcases List.mem_append.mp hq with h | h
        · exact (hr.1.1 q h).2
        · exact (hu.1.1 q h).2) (isAdd_of hr hu), decide_eq_true_eq, List.map_append, List.sum_append]
    omega
  | times n =>
    obtain ⟨r, rfl, hr, _⟩ := tk1 hs htl
    have h1 := (holds_iff hf hr).mp (hh r (by simp))
    rw [holds_iff hf mo]
    show r.2 * n ≤ ((r.1.map (fun q => (q.1 * n, q.2))).map fun q => q.1 * worth q.2 f).sum
    rw [List.map_map]
    have e : ((fun q : Int × Int => q.1 * worth q.2 f) ∘ fun q : Int × Int => (q.1 * n, q.2)) = fun q => (q.1 * worth q.2 f) * n := by
      funext q
      show q.1 * n * worth q.2 f = q.1 * worth q.2 f * n
      rw [Int.mul_assoc, Int.mul_assoc, Int.mul_comm n]
    rw [e, sum_mulR]
    exact Int.mul_le_mul_of_nonneg_right h1 (by have := hi.1; omega)
  | divd n =>
    obtain ⟨r, rfl, hr, _⟩ := tk1 hs htl
    have h1 := (holds_iff hf hr).mp (hh r (by simp))
    rw [holds_iff hf mo]
    have hn : 0 < n := by have := hi.1; omega
    show cdiv r.2 n ≤ ((r.1.map (fun q => (cdiv q.1 n, q.2))).map fun q => q.1 * worth q.2 f).sum
    refine cdiv_le hn ?_
    rw [List.map_map, ← sum_mulR]
    refine Int.le_trans h1 (sum_mono _ _ _ fun q hq => ?_)
    show q.1 * worth q.2 f ≤ cdiv q.1 n * worth q.2 f * n
    have := cdiv_mul (a := q.1) hn
    rcases w01 hr q hq with e | e <;> rw [e]
    · omega
    · rw [Int.mul_one, Int.mul_one]; exact this
  | cap =>
    obtain ⟨r, rfl, hr, _⟩ := tk1 hs htl
    have h1 := (holds_iff hf hr).mp (hh r (by simp))
    rw [holds_iff hf mo]
    show (capF r).2 ≤ _
    by_cases h0 : r.2 = 0
    · have e : madeF b [r] .cap = ([], 0) := by show capF r = _; unfold capF; rw [if_pos h0]
      have e2 : capF r = ([], 0) := e
      rw [e, e2]; exact Int.le_refl _
    · have e2 : capF r = (r.1.map (fun q => (if r.2 < q.1 then r.2 else q.1, q.2)), r.2) := by unfold capF; rw [if_neg h0]
      have e : madeF b [r] .cap = (r.1.map (fun q => (if r.2 < q.1 then r.2 else q.1, q.2)), r.2) := e2
      rw [e, e2]
      show r.2 ≤ ((r.1.map (fun q => (if r.2 < q.1 then r.2 else q.1, q.2))).map fun q => q.1 * worth q.2 f).sum
      rw [List.map_map]
      by_cases hx : ∃ q, q ∈ r.1 ∧ worth q.2 f = 1 ∧ r.2 < q.1
      · obtain ⟨q, hq, hw, hlt⟩ := hx
        have key : ∀ l : Ts, (∀ p, p ∈ l → p ∈ r.1) → q ∈ l → r.2 ≤ (l.map ((fun q : Int × Int => q.1 * worth q.2 f) ∘ fun q => (if r.2 < q.1 then r.2 else q.1, q.2))).sum := by
          intro l
          induction l with
          | nil => intro _ h; simp at h
          | cons p l ih =>
            intro hl hm
            rw [List.map_cons, List.sum_cons]
            have nn : ∀ p, p ∈ r.1 → 0 ≤ ((fun q : Int × Int => q.1 * worth q.2 f) ∘ fun q => (if r.2 < q.1 then r.2 else q.1, q.2)) p := fun p hp => by
              show 0 ≤ (if r.2 < p.1 then r.2 else p.1) * worth p.2 f
              have := (hr.1.1 p hp).1
              have := hr.2
              refine Int.mul_nonneg (by split <;> omega) ?_
              rcases w01 hr p hp with e | e <;> rw [e] <;> decide
            have n1 := nn p (hl p (by simp))
            have n2 : 0 ≤ (l.map ((fun q : Int × Int => q.1 * worth q.2 f) ∘ fun q => (if r.2 < q.1 then r.2 else q.1, q.2))).sum := sum_pos _ _ fun x hx => nn x (hl x (List.mem_cons_of_mem _ hx))
            rcases List.mem_cons.mp hm with rfl | hm
            · have : ((fun q : Int × Int => q.1 * worth q.2 f) ∘ fun q => (if r.2 < q.1 then r.2 else q.1, q.2)) q = r.2 := by
                show (if r.2 < q.1 then r.2 else q.1) * worth q.2 f = r.2
                rw [if_pos hlt, hw, Int.mul_one]
              omega
            · have := ih (fun x hx => hl x (List.mem_cons_of_mem _ hx)) hm
              omega
        exact key r.1 (fun _ h => h) hq
      · refine Int.le_trans h1 (sum_mono _ _ _ fun q hq => ?_)
        show q.1 * worth q.2 f ≤ (if r.2 < q.1 then r.2 else q.1) * worth q.2 f
        rcases w01 hr q hq with e | e
        · rw [e]; omega
        · rw [if_neg fun hlt => hx ⟨q, hq, e, hlt⟩]; exact Int.le_refl _
  | weak v =>
    obtain ⟨r, rfl, hr, _⟩ := tk1 hs htl
    have h1 := (holds_iff hf hr).mp (hh r (by simp))
    rw [holds_iff hf mo]
    have key : ∀ l : Ts, (∀ p, p ∈ l → p ∈ r.1) → (l.map fun q => q.1 * worth q.2 f).sum ≤ ((l.filter fun q => !decide (absI q.2 = v)).map fun q => q.1 * worth q.2 f).sum + ((l.filter fun q => decide (absI q.2 = v)).map (·.1)).sum := by
      intro l
      induction l with
      | nil => intro _; simp
      | cons p l ih =>
        intro hl
        have := ih fun x hx => hl x (List.mem_cons_of_mem _ hx)
        have hp := hl p (by simp)
        have hw := w01 hr p hp
        have h1 := (hr.1.1 p hp).1
        by_cases hv : absI p.2 = v
        · rw [List.filter_cons_of_neg (by simp [hv]), List.filter_cons_of_pos (by simp [hv])]
          simp only [List.map_cons, List.sum_cons]
          have : p.1 * worth p.2 f ≤ p.1 := by rcases hw with e | e <;> rw [e] <;> omega
          omega
        · rw [List.filter_cons_of_pos (by simp [hv]), List.filter_cons_of_neg (by simp [hv])]
          simp only [List.map_cons, List.sum_cons]
          omega
    have k := key r.1 fun _ h => h
    have n0 : 0 ≤ ((r.1.filter fun q => !decide (absI q.2 = v)).map fun q => q.1 * worth q.2 f).sum := sum_pos _ _ fun q hq => by
      have hq := (List.mem_filter.mp hq).1
      have := (hr.1.1 q hq).1
      refine Int.mul_nonneg (by omega) ?_
      rcases w01 hr q hq with e | e <;> rw [e] <;> decide
    show max0 (r.2 - goneW r v) ≤ ((r.1.filter fun q => !decide (absI q.2 = v)).map fun q => q.1 * worth q.2 f).sum
    unfold max0 goneW
    split <;> omega
theorem run_holds {m : Int} {b : Book} {f : List Int} (hf : FilOk m f) (hbk : ∀ i r, bookGet b i = some r → RowOk m r ∧ holds r f = true) : ∀ (is : List Ins) (k k' : Nat) (st st' : List Row), Stk m st → (∀ r, r ∈ st → holds r f = true) → (∀ i, i ∈ is → InsOk m b i) → workF b k st is = (k', some st') →
    ∀ r, r ∈ st' → holds r f = true
  | [], k, k', st, st', hs, hh, hi, hw => by cases hw; exact hh
  | i :: is, k, k', st, st', hs, hh, hi, hw => by
    rw [workF_cons] at hw
    split at hw
    · cases hw
    next st1 h1 =>
    have hii := hi i (by simp)
    have hs1 := step_ok (fun i r e => (hbk i r e).1) hii hs h1
    refine run_holds hf hbk is (k + 1) k' st1 st' hs1 (fun r hr => ?_) (fun j hj => hi j (List.mem_cons_of_mem _ hj)) hw
    unfold stepF at h1
    split at h1
    · cases h1
    next hge =>
    split at h1
    · cases h1
    obtain rfl := Option.some.inj h1
    rcases List.mem_append.mp hr with hr | hr
    · exact hh r (List.mem_of_mem_take hr)
    · rw [List.mem_singleton] at hr
      subst hr
      exact made_holds hf hbk hii (by rw [List.length_drop]; omega) (stk_drop hs _) fun u hu => hh u (List.mem_of_mem_drop hu)
end Zz

set_option Elab.async false
set_option linter.all false
set_option maxRecDepth 100000
set_option maxHeartbeats 2000000
namespace Zz
open PySem PySem.Spec PyProof.Rows L2

/-! ### what the law draws -/
theorem ok_lst_ints (ns : List Int) : okD 60 (.lst (ns.map D.int)) = true := okDs_all fun x hx => by
  obtain ⟨i, _, rfl⟩ := List.mem_map.mp hx
  exact ok_int _ i
def RsOk (m : Int) (rs : List Row) : Prop := ∀ r, r ∈ rs → RowOk m r ∧ SmB 10000 r
def g__law_all_hold : SpZ := fun ds M Q => ∃ m rs f, ds = [.lst (List.map rowD rs), filD f] ∧ FilOk m f ∧ (∀ r, r ∈ rs → RowOk m r) ∧ Q (.bl (rs.all fun r => holds r f)) M
def g__law_where : SpZ := fun ds M Q => ∃ m rs, ds = [.int m, .lst (List.map rowD rs)] ∧ 0 ≤ m ∧ m ≤ 6 ∧ (∀ r, r ∈ rs → RowOk m r) ∧ ∀ fs : List (List Int), fs.length ≤ 64 → (∀ f, f ∈ fs → FilOk m f ∧ ∀ r, r ∈ rs → holds r f = true) → Q (.lst (fs.map filD)) M
def g__law_is_closed : SpZ := fun ds M Q => ∃ r, ds = [rowD r] ∧ Q (.bl (decide (r.2 > total r.1))) M
def g__law_stronger : SpZ := fun ds M Q => ∃ st r b, ds = [.ref st, rowD r] ∧ M st = some (.draw (b + 1)) ∧ ∀ x, 0 ≤ x → x ≤ 2 → Q (rowD (r.1, r.2 + x)) (mu M st (.draw b))
def PushI (m : Int) (ns : List Int) (i : Ins) : Prop := (∃ k, k ∈ ns ∧ i = .row k) ∨ ∃ l, LitOk m l ∧ i = .lit l
theorem less_to {M : MM} {st : Addr} {b c : Nat} (h : b ≤ c) : Shift (mu M st (.draw c)) (mu M st (.draw b)) := by
  have h2 : Shift (mu M st (.draw c)) (mu (mu M st (.draw c)) st (.draw b)) := shift_less mu_same h
  rwa [mu_mu] at h2
theorem lit_pm {m v l : Int} (h0 : 1 ≤ v) (h1 : v ≤ m) (hl : D.int l ∈ [D.int v, D.int (0 - v)]) : LitOk m l := by
  simp only [List.mem_cons, List.not_mem_nil, or_false, D.int.injEq] at hl
  rcases hl with rfl | rfl
  · exact ⟨by omega, by omega, by omega⟩
  · exact ⟨by omega, by omega, by omega⟩
def g__law_push : SpZ := fun ds M Q => ∃ st m ns b, ds = [.ref st, .int m, .lst (List.map D.int ns)] ∧ M st = some (.draw (b + 3)) ∧ 1 ≤ m ∧ m ≤ 6 ∧ ns.length ≤ 100 ∧ ∀ i, PushI m ns i → Q (insD i) (mu M st (.draw b))
def ChgI (m c : Int) : Ins → Prop
  | .times n => 1 ≤ n ∧ n ≤ c
  | .divd n => 1 ≤ n ∧ n ≤ c
  | .cap => True
  | .weak v => 1 ≤ v ∧ v ≤ m
  | _ => False
def g__law_change : SpZ := fun ds M Q => ∃ st m c b, ds = [.ref st, .int m, .int c] ∧ M st = some (.draw (b + 2)) ∧ 1 ≤ m ∧ m ≤ 6 ∧ 1 ≤ c ∧ c ≤ 90 ∧ ∀ i, ChgI m c i → Q (insD i) (mu M st (.draw b))
end Zz

set_option Elab.async false
set_option linter.all false
set_option maxRecDepth 100000
set_option maxHeartbeats 2000000
namespace Zz
open PySem PySem.Spec PyProof.Rows L2

theorem ev_gtI {env : ZT} {M : MM} {Ta Tb : TZ} {a c : Int} {b : Bool} (ha : Ev Ta env M (.int a)) (hb : Ev Tb env M (.int c)) (h : decide (a > c) = b) : EvT (zTst (zBin rzGt Ta Tb)) env M b := fun Q k => ha _ (hb _ (by
  show Q (decide (a > c)) M
  rw [h]; exact k))
theorem st_fn4 {g : SpZ} {Ta Tb Tc Td : TZ} {env : ZT} {M : MM} {Q : D → MM → Prop} (h : Ta env M fun x M1 => Tb env M1 fun y M2 => Tc env M2 fun z M3 => Td env M3 fun u M4 => g [x, y, z, u] M4 Q) : zFn 4 g (zaCons Ta (zaCons Tb (zaCons Tc (zaCons Td zaNil)))) env M Q := by
  have e : (fun (x : D) (M1 : MM) => Tb env M1 fun y M2 => Tc env M2 fun z M3 => Td env M3 fun u M4 => g [x, y, z, u] M4 Q) = fun x M1 => Tb env M1 fun y M2 => Tc env M2 fun z M3 => Td env M3 fun u M4 => ([x, y, z, u] : List D).length = 4 ∧ g [x, y, z, u] M4 Q := by funext x M1; congr 1; funext y M2; congr 1; funext z M3; congr 1; funext u M4; simp
  rw [e] at h; exact h
theorem row_small {m : Int} {r : Row} (h : RowOk m r) (h1 : ∀ q, q ∈ r.1 → q.1 ≤ 4) (h2 : r.2 ≤ 10000) : RowOk m r ∧ SmB 10000 r := ⟨h, fun q hq => by have := h1 q hq; omega, h2⟩
def g__law_rows_at : SpZ := fun ds M Q => ∃ st m n f b, ds = [.ref st, .int m, .int n, filD f] ∧ M st = some (.draw (b + 84)) ∧ 1 ≤ m ∧ m ≤ 6 ∧ 0 ≤ n ∧ n ≤ 4 ∧ FilOk m f ∧ ∀ rs, RsOk m rs → rs.length ≤ 4 → Q (.lst (List.map rowD rs)) (mu M st (.draw b))
def g__law_some_rows : SpZ := fun ds M Q => ∃ st m b, ds = [.ref st, .int m] ∧ M st = some (.draw (b + 92)) ∧ 1 ≤ m ∧ m ≤ 6 ∧ ∀ rs, RsOk m rs → rs.length ≤ 4 → Q (.lst (List.map rowD rs)) (mu M st (.draw b))
/-! ### a whole derivation -/
def GenI (m : Int) (ns : List Int) (i : Ins) : Prop := PushI m ns i ∨ i = .sum ∨ ChgI m 7 i
def DerOk (m : Int) (ns : List Int) (laps : Nat) (is : List Ins) : Prop := heightF 0 is = some 1 ∧ (∀ i, i ∈ is → GenI m ns i) ∧ mulN is ≤ laps ∧ is.length ≤ 2 * laps + 1
theorem push_take {m : Int} {ns : List Int} {i : Ins} (h : PushI m ns i) : takeN i = 0 := by
  rcases h with ⟨k, _, rfl⟩ | ⟨l, _, rfl⟩ <;> rfl
theorem chg_take {m c : Int} {i : Ins} (h : ChgI m c i) : takeN i = 1 := by
  cases i <;> first | rfl | exact h.elim
theorem height_snoc {is : List Ins} {t : Nat} {i : Ins} (h : heightF 0 is = some t) (ht : takeN i ≤ t) : heightF 0 (is ++ [i]) = some (t - takeN i + 1) := by
  rw [heightF_app, h]
  show heightF t [i] = _
  rw [heightF_cons, if_neg (by omega)]
  rfl
theorem mul_snoc (is : List Ins) (i : Ins) : mulN (is ++ [i]) = mulN is + (if takeN i = 0 then 0 else 1) := by
  rw [mulN_app]; rfl
def g__law_whole_derivation : SpZ := fun ds M Q => ∃ st m ns laps b, ds = [.ref st, .int m, .lst (List.map D.int ns), .int (laps : Nat)] ∧ M st = some (.draw (b + (4 * laps + 3))) ∧ 1 ≤ m ∧ m ≤ 6 ∧ ns.length ≤ 100 ∧ laps ≤ 1000 ∧ ∀ is, DerOk m ns laps is → Q (.lst (List.map insD is)) (mu M st (.draw b))
end Zz

set_option Elab.async false
set_option linter.all false
set_option maxRecDepth 100000
set_option maxHeartbeats 4000000
namespace Zz
open PySem PySem.Spec PyProof.Rows L2

theorem ok_rowD (r : Row) : okD 60 (rowD r) = true := by
  show (okD 59 (.tup (tsD r.1)) && (okD 59 (.int r.2) && true)) = true
  rw [ok_tup 57, ok_int]; rfl
theorem dat_rowD {m : Int} {r : Row} (hm0 : 0 ≤ m) (hm6 : m ≤ 6) (hr : RowOk m r) : dat 3 (rowD r) = true := dat3_row dat1_ts (by have := hr.1.len hm0; unfold tsD; rw [List.length_map]; omega) rfl
theorem comes_tot {m : Int} {ts : Ts} {f : List Int} (hf : FilOk m f) (h : TsOk m ts) : comes ts f ≤ total ts := by
  rw [comes_eq hf h.lits]
  unfold total
  refine sum_mono _ _ _ fun q hq => ?_
  have h1 := (h.1 q hq).1
  rcases worth01 hf (h.lits q hq) with e | e <;> rw [e] <;> omega
theorem nms_ints (n : Nat) : rngD 0 n = ((List.range n).map fun i : Nat => (i : Int)).map D.int := by
  unfold rngD
  rw [List.map_map]
  refine List.map_congr_left fun i _ => ?_
  show D.int (0 + (i : Int)) = D.int (i : Int)
  rw [Int.zero_add]
theorem st_lrg {K : PySem.W.Frag} {Ta : TZ} {env : ZT} {M : MM} {xs : List D} {Q : D → MM → Prop} (ha : Ev Ta env M (.lst xs)) (hl : xs.length ≤ 10000) (k : Q (.lst (rngD 0 xs.length)) M) : zLRg (zRg1 (zCall (rzLen K) (zaCons Ta zaNil))) env M Q := by
  refine ev_lenL ha _ ⟨by omega, ?_⟩
  have e : (((xs.length : Nat) : Int) - 0).toNat = xs.length := by omega
  rw [e]; exact k
theorem ev_andF {env : ZT} {M : MM} {c e : TTZ} {b : Bool} (h : EvT c env M b) (h2 : b = true → EvT e env M false) : EvT (zAnd c e) env M false := fun Q k => st_and (h _ (by
  cases b with
  | true => exact ite_t rfl (h2 rfl _ k)
  | false => exact ite_f rfl k))
theorem filter_none {e : Row} {fs : List (List Int)} (h : ∀ f, f ∈ fs → holds e f = true) : (fs.filter fun f => !holds e f) = [] := List.filter_eq_nil_iff.mpr fun f hf => by rw [h f hf]; simp
theorem ev_ix9 {env : ZT} {M : MM} {Ta : TZ} {x y : D} (ha : Ev Ta env M (.lst [x, y])) : Ev (zBin rzIx Ta (zC (.int 0))) env M x ∧ Ev (zBin rzIx Ta (zC (.int 1))) env M y := ⟨ev_at0 ha, ev_at1 ha⟩
theorem ev_addL {env : ZT} {M : MM} {Ta Tb : TZ} {xs ys : List D} (ha : Ev Ta env M (.lst xs)) (hb : Ev Tb env M (.lst ys)) (hl : xs.length + ys.length ≤ 10000000) : Ev (zBin rzAdd Ta Tb) env M (.lst (xs ++ ys)) := fun Q k => ha _ (hb _ ⟨hl, k⟩)
theorem ev_addT {env : ZT} {M : MM} {Ta Tb : TZ} {xs ys : List D} (ha : Ev Ta env M (.tup xs)) (hb : Ev Tb env M (.tup ys)) (hl : xs.length + ys.length ≤ 10000000) : Ev (zBin rzAdd Ta Tb) env M (.tup (xs ++ ys)) := fun Q k => ha _ (hb _ ⟨hl, k⟩)
theorem ev_addI {env : ZT} {M : MM} {Ta Tb : TZ} {x y : Int} (ha : Ev Ta env M (.int x)) (hb : Ev Tb env M (.int y)) : Ev (zBin rzAdd Ta Tb) env M (.int (x + y)) := fun Q k => ha _ (hb _ k)
theorem ev_t1 {env : ZT} {M : MM} {Ta : TZ} {x : D} (ha : Ev Ta env M x) : Ev (zTup (zaCons Ta zaNil)) env M (.tup [x]) := fun Q k => st_tupA (ha _ k)
theorem ev_t2 {env : ZT} {M : MM} {Ta Tb : TZ} {x y : D} (ha : Ev Ta env M x) (hb : Ev Tb env M y) : Ev (zTup (zaCons Ta (zaCons Tb zaNil))) env M (.tup [x, y]) := fun Q k => st_tup2 (ha _ (hb _ k))
theorem ev_t0 {env : ZT} {M : MM} : Ev (zTup zaNil) env M (.tup []) := fun Q k => ⟨by simp, k⟩
theorem ev_c {env : ZT} {M : MM} {d : D} : Ev (zC d) env M d := fun Q k => k
theorem ev_l1 {env : ZT} {M : MM} {Ta : TZ} {x : D} (ha : Ev Ta env M x) : Ev (zLst (zaCons Ta zaNil)) env M (.lst [x]) := fun Q k => ha _ ⟨by simp, k⟩
theorem ev_l22 {env : ZT} {M : MM} {Ta Tb : TZ} {x y : D} (ha : Ev Ta env M x) (hb : Ev Tb env M y) : Ev (zLst (zaCons Ta (zaCons Tb zaNil))) env M (.lst [x, y]) := fun Q k => ha _ (hb _ ⟨by simp, k⟩)
theorem ev_l33 {env : ZT} {M : MM} {Ta Tb Tc : TZ} {x y z : D} (ha : Ev Ta env M x) (hb : Ev Tb env M y) (hc : Ev Tc env M z) : Ev (zLst (zaCons Ta (zaCons Tb (zaCons Tc zaNil)))) env M (.lst [x, y, z]) := fun Q k => ha _ (hb _ (hc _ ⟨by simp, k⟩))
theorem ev_sum {env : ZT} {M : MM} : Ev (zTup (zaCons (zC (.str "sum")) zaNil)) env M (insD .sum) := ev_t1 ev_c
theorem ev_rowI {env : ZT} {M : MM} {Ta : TZ} {i : Int} (ha : Ev Ta env M (.int i)) : Ev (zTup (zaCons (zC (.str "row")) (zaCons Ta zaNil))) env M (insD (.row i)) := ev_t2 ev_c ha
end Zz

set_option Elab.async false
set_option linter.all false
set_option maxRecDepth 100000
set_option maxHeartbeats 2000000
namespace Zz
open PySem PySem.Spec PyProof.Rows L2

/-! ### lists of literals, any data -/
theorem ev_or_t {env : ZT} {M : MM} {c e : TTZ} (h1 : EvT c env M true) : EvT (zOr c e) env M true := fun Q k => h1 _ (ite_t rfl k)
theorem ev_or_tt {env : ZT} {M : MM} {c e : TTZ} (h1 : EvT c env M false) (h2 : EvT e env M true) : EvT (zOr c e) env M true := fun Q k => h1 _ (ite_f rfl (h2 _ k))
def litsD (b : Bool) (ls : List Int) : D := if b = true then .tup (ls.map D.int) else .lst (ls.map D.int)
def LsOk (m : Int) (ls : List Int) : Prop := (∀ l, l ∈ ls → LitOk m l) ∧ (ls.map absI).Nodup
def itemsOf : D → Option (List D)
  | .tup xs => some xs
  | .lst xs => some xs
  | _ => none
def toLs : List D → Option (List Int)
  | [] => some []
  | .int i :: xs => (toLs xs).map (i :: ·)
  | _ => none
theorem toLs_some : ∀ {xs : List D} {ls : List Int}, toLs xs = some ls → xs = ls.map D.int
  | [], ls, h => by cases h; rfl
  | .int i :: xs, ls, h => by
    simp only [toLs, Option.map_eq_some_iff] at h
    obtain ⟨ks, h1, rfl⟩ := h
    rw [toLs_some h1]; rfl
theorem toLs_map : ∀ ls : List Int, toLs (ls.map D.int) = some ls
  | [] => rfl
  | l :: ls => by simp [toLs, toLs_map ls]
def litsR (m : Int) (d : D) : Bool := match itemsOf d with
  | some xs => xs.all (litR m) && (match toLs xs with
    | some ls => decide ((ls.map absI).Nodup)
    | none => false)
  | none => false
theorem litR_int {m : Int} {d : D} (h : litR m d = true) : ∃ i, d = .int i ∧ LitOk m i := by
  cases d with
  | int i => exact ⟨i, rfl, litR_iff.mp h⟩
  | _ => simp [litR] at h
theorem all_lit {m : Int} : ∀ {xs : List D}, xs.all (litR m) = true → ∃ ls : List Int, xs = ls.map D.int ∧ ∀ l, l ∈ ls → LitOk m l
  | [], _ => ⟨[], rfl, fun l hl => by simp at hl⟩
  | x :: xs, h => by
    rw [List.all_cons, Bool.and_eq_true] at h
    obtain ⟨i, rfl, hi⟩ := litR_int h.1
    obtain ⟨ls, rfl, hl⟩ := all_lit h.2
    exact ⟨i :: ls, rfl, fun l hm => (List.mem_cons.mp hm).elim (fun e => e ▸ hi) (hl l)⟩
theorem litsR_of {m : Int} {d : D} (h : litsR m d = true) : ∃ b ls, d = litsD b ls ∧ LsOk m ls := by
  unfold litsR at h
  split at h
  · next xs hx =>
    rw [Bool.and_eq_true] at h
    obtain ⟨ls, rfl, hl⟩ := all_lit h.1
    have h2 := h.2
    rw [toLs_map] at h2
    have hn : (ls.map absI).Nodup := by simpa using h2
    cases d with
    | tup ys => cases hx; exact ⟨true, ls, rfl, hl, hn⟩
    | lst ys => cases hx; exact ⟨false, ls, rfl, hl, hn⟩
    | _ => cases hx
  · cases h
theorem litsR_ok {m : Int} {b : Bool} {ls : List Int} (h : LsOk m ls) : litsR m (litsD b ls) = true := by
  have e : itemsOf (litsD b ls) = some (ls.map D.int) := by cases b <;> rfl
  unfold litsR
  rw [e]
  simp only [toLs_map]
  rw [Bool.and_eq_true, List.all_eq_true]
  refine ⟨fun x hx => ?_, decide_eq_true h.2⟩
  obtain ⟨l, hl, rfl⟩ := List.mem_map.mp hx
  exact litR_ok (h.1 l hl)
def LsDat (M : MM) (d : D) : Prop := Kn M d ∧ (∀ a, d ≠ .ref a) ∧ ∀ xs, itemsOf d = some xs → xs.length < 50 ∧ ∀ x, x ∈ xs → Kn M x
theorem kn_lits {M : MM} {b : Bool} {ls : List Int} : Kn M (litsD b ls) := by cases b <;> exact ⟨_, rfl⟩
theorem ls_len {m : Int} {ls : List Int} (h : LsOk m ls) (hm0 : 0 ≤ m) : (ls.length : Int) ≤ m := by
  have h1 := (nodup_len (ls.map absI) (oneTo m) h.2 fun k hk => by
    obtain ⟨l, hl, rfl⟩ := List.mem_map.mp hk
    exact absI_in (h.1 l hl)).1
  have h2 : (oneTo m).length = m.toNat := by unfold oneTo; simp
  rw [List.length_map, h2] at h1
  omega
theorem lsDat {M : MM} {m : Int} {b : Bool} {ls : List Int} (h : LsOk m ls) (hm0 : 0 ≤ m) (hm : m ≤ 6) : LsDat M (litsD b ls) := by
  refine ⟨kn_lits, (fun a e => by cases b <;> cases e), fun xs hx => ?_⟩
  have e : itemsOf (litsD b ls) = some (ls.map D.int) := by cases b <;> rfl
  rw [e] at hx
  obtain rfl := Option.some.inj hx
  refine ⟨by have := ls_len h hm0; rw [List.length_map]; omega, fun x hx => ?_⟩
  obtain ⟨l, _, rfl⟩ := List.mem_map.mp hx
  exact ⟨_, rfl⟩
def g_need_literals (cL : Addr) : SpZ := fun ds M Q => ∃ m d, ds = [.int m, d] ∧ LsDat M d ∧ (litsR m d = false → Q (.exc cL [] []) M) ∧ (litsR m d = true → Q .non M)
/-! ### given literals -/
theorem fold_true (l : List Int) : ∀ acc : List Int, (acc ++ l).Nodup → l.foldl (fun a q => putD a (.inl q) (.bl true)) (acc.map fun q => ((.inl q : Key), D.bl true)) = (acc ++ l).map fun q => ((.inl q : Key), D.bl true) := by
  induction l with
  | nil => intro acc _; rw [List.append_nil]; rfl
  | cons x l ih =>
    intro acc h
    have hx : x ∉ acc := fun hm => by
      rw [List.nodup_append] at h
      exact h.2.2 x hm x (by simp) rfl
    have e : putD (acc.map fun q => ((.inl q : Key), D.bl true)) (.inl x) (.bl true) = (acc ++ [x]).map fun q => ((.inl q : Key), D.bl true) := by
      unfold putD
      rw [if_neg]
      · rw [List.map_append]; rfl
      · rw [List.any_map, List.any_eq_true]
        rintro ⟨y, hy, he⟩
        have he : decide ((Sum.inl y : Key) = .inl x) = true := he
        rw [inl_eq, decide_eq_true_eq] at he
        exact hx (he ▸ hy)
    rw [List.foldl_cons, e, ih (acc ++ [x]) (by rw [List.append_assoc]; exact h), List.append_assoc]
    rfl
def givD (ls : List Int) : D := .dic (ls.map fun q => (.inl q : Key)) (ls.map fun _ => .bl true)
theorem dicOf_giv (M : MM) (ls : List Int) : dicOf M (givD ls) = some (ls.map fun q => ((.inl q : Key), D.bl true)) := by
  unfold givD dicOf
  simp only [List.length_map, if_true, List.zip_map']
theorem val_giv (ls : List Int) (i : Int) : (valD (ls.map fun q => ((.inl q : Key), D.bl true)) (.inl i)).isSome = decide (i ∈ ls) := by
  unfold valD
  rw [Option.isSome_map, List.find?_map, Option.isSome_map, Bool.eq_iff_iff, List.find?_isSome, decide_eq_true_eq]
  constructor
  · rintro ⟨x, hx, he⟩
    have he : decide ((Sum.inl x : Key) = .inl i) = true := he
    rw [inl_eq, decide_eq_true_eq] at he
    exact he ▸ hx
  · intro h
    exact ⟨i, h, by show decide ((Sum.inl i : Key) = .inl i) = true; rw [inl_eq]; simp⟩
theorem abs_nodup {ls : List Int} (h : (ls.map absI).Nodup) : ls.Nodup := (List.pairwise_map.mp h).imp fun {a b} hne e => hne (by rw [e])
def g_given_by : SpZ := fun ds M Q => ∃ d ls, ds = [d] ∧ SeqD d (ls.map D.int) ∧ ls.Nodup ∧ Q (givD ls) M
end Zz

set_option Elab.async false
set_option linter.all false
set_option maxRecDepth 100000
set_option maxHeartbeats 2000000
namespace Zz
open PySem PySem.Spec PyProof.Rows L2

/-! ### a row cut down -/
def wOf (ts : Ts) (l : Int) : Int := ((ts.filter fun q => decide (q.2 = l)).map (·.1)).sum
def outB (ls : List Int) (d l : Int) (q : Int × Int) : Bool := !decide (q.2 = l) && (!decide (q.1 % d = 0) && !decide (-q.2 ∈ ls))
def cutT (ls : List Int) (d l : Int) (ts : Ts) : Ts := (ts.filter fun q => !outB ls d l q).map fun q => (cdiv q.1 d, q.2)
def cutB (ls : List Int) (d l b : Int) (ts : Ts) : Int := ts.foldl (fun b q => if outB ls d l q = true then max0 (b - q.1) else b) b
def cutF (ls : List Int) (r : Row) (l : Int) : Row := (cutT ls (wOf r.1 l) l r.1, cdiv (cutB ls (wOf r.1 l) l r.2 r.1) (wOf r.1 l))
def movesF (ls : List Int) (r : Row) (l : Int) : List Ins := (r.1.filter fun q => outB ls (wOf r.1 l) l q).map (fun q => .weak (absI q.2)) ++ [.divd (wOf r.1 l)]
def g_weight_of : SpZ := fun ds M Q => ∃ r l, ds = [rowD r, .int l] ∧ Q (.int (wOf r.1 l)) M
theorem ev_neg {env : ZT} {M : MM} {Ta : TZ} {i : Int} (ha : Ev Ta env M (.int i)) : Ev (zUn rzNeg Ta) env M (.int (-i)) := fun Q k => ha _ k
theorem ev_cdiv {env : ZT} {M : MM} {Ta Tb : TZ} {a n : Int} (ha : Ev Ta env M (.int a)) (hb : Ev Tb env M (.int n)) (hn : 0 < n) (hl : n.natAbs.log2 < 9000) : Ev (zUn rzNeg (zBin rzDiv (zUn rzNeg Ta) Tb)) env M (.int (cdiv a n)) := fun Q k => ha _ (hb _ ⟨⟨hn, hl⟩, k⟩)
theorem pr_get0 (q : Int × Int) {env : ZT} {M : MM} {Ta : TZ} (ha : Ev Ta env M (prD q)) : Ev (zBin rzIx Ta (zC (.int 0))) env M (.int q.1) := ev_ix0 ha
theorem pr_get1 (q : Int × Int) {env : ZT} {M : MM} {Ta : TZ} (ha : Ev Ta env M (prD q)) : Ev (zBin rzIx Ta (zC (.int 1))) env M (.int q.2) := ev_ix1 ha
def g_goes_out : SpZ := fun ds M Q => ∃ q d ls l, ds = [prD q, .int d, givD ls, .int l] ∧ 0 < d ∧ d ≤ tenFt ∧ Q (.bl (outB ls d l q)) M
def CutOk (r : Row) (l : Int) : Prop := SmR r ∧ r.1.length ≤ 100 ∧ 1 ≤ wOf r.1 l ∧ wOf r.1 l ≤ tenFt
def g_cut_of : SpZ := fun ds M Q => ∃ r ls l, ds = [rowD r, givD ls, .int l] ∧ CutOk r l ∧ Q (rowD (cutF ls r l)) M
def g_cut_moves : SpZ := fun ds M Q => ∃ r ls l, ds = [rowD r, givD ls, .int l] ∧ CutOk r l ∧ Q (.lst ((movesF ls r l).map insD)) M
end Zz

set_option Elab.async false
set_option linter.all false
set_option maxRecDepth 100000
set_option maxHeartbeats 2000000
namespace Zz
open PySem PySem.Spec PyProof.Rows L2

/-! ### cutting down, with its checks -/
structure CutArgs (md rd d ld : D) (m : Int) (r : Row) (b : Bool) (ls : List Int) : Prop where
  em : md = .int m
  mo : MOk m
  er : rd = rowD r
  ro : RowOk m r
  el : d = litsD b ls
  lo : LsOk m ls
def CutBad (cM cR cL cl : Addr) (md rd d ld : D) (M : MM) (Q : D → MM → Prop) : Prop := Kn M md ∧ RowDat M rd ∧ LsDat M d ∧ Kn M ld ∧ (isBet 1 600 md = false → Q (.exc cM [] []) M) ∧ (∀ m, md = .int m → MOk m → rowR m rd = false → Q (.exc cR [] []) M) ∧
  (∀ m r, md = .int m → MOk m → rd = rowD r → RowOk m r → litsR m d = false → Q (.exc cL [] []) M) ∧ (∀ m r b ls, CutArgs md rd d ld m r b ls → (litR m ld = false ∨ ∃ l, ld = .int l ∧ wOf r.1 l = 0) → Q (.exc cl [] []) M)
def g_need_cut (cM cR cL cl : Addr) : SpZ := fun ds M Q => ∃ md rd d ld, ds = [md, rd, d, ld] ∧ CutBad cM cR cL cl md rd d ld M Q ∧ (∀ m r b ls l, CutArgs md rd d ld m r b ls → ld = .int l → LitOk m l → wOf r.1 l ≠ 0 → Q .non M)
theorem wOf_pos {m : Int} {r : Row} {l : Int} (hr : RowOk m r) (h : wOf r.1 l ≠ 0) : 1 ≤ wOf r.1 l := by
  have : 0 ≤ wOf r.1 l := sum_pos _ _ fun q hq => by have := (hr.1.1 q (List.mem_filter.mp hq).1).1; omega
  omega
def SmallR (r : Row) (l : Int) : Prop := SmR r ∧ r.1.length ≤ 100 ∧ wOf r.1 l ≤ tenFt
theorem seq_lits (b : Bool) (ls : List Int) : SeqD (litsD b ls) (ls.map D.int) := by
  cases b
  · exact .inr rfl
  · exact .inl rfl
def g_cut_down (cM cR cL cl : Addr) : SpZ := fun ds M Q => ∃ md rd d ld, ds = [md, rd, d, ld] ∧ CutBad cM cR cL cl md rd d ld M Q ∧ (∀ m r b ls l, CutArgs md rd d ld m r b ls → ld = .int l → LitOk m l → wOf r.1 l ≠ 0 → SmallR r l ∧ Q (rowD (cutF ls r l)) M)
def g_cut_instructions (cM cR cL cl : Addr) : SpZ := fun ds M Q => ∃ md rd d ld, ds = [md, rd, d, ld] ∧ CutBad cM cR cL cl md rd d ld M Q ∧ (∀ m r b ls l, CutArgs md rd d ld m r b ls → ld = .int l → LitOk m l → wOf r.1 l ≠ 0 → SmallR r l ∧ Q (.lst ((movesF ls r l).map insD)) M)
end Zz

set_option Elab.async false
set_option linter.all false
set_option maxRecDepth 100000
set_option maxHeartbeats 2000000
namespace Zz
open PySem PySem.Spec PyProof.Rows L2

/-! ### the law's own stack -/
theorem cdiv_alt {a n : Int} (hn : 0 < n) : (a + n - 1) / n = cdiv a n := by
  have h1 := cdiv_mul (a := a) hn
  have h2 : cdiv a n ≤ (a + n - 1) / n := cdiv_le hn (by
    have := Int.lt_ediv_add_one_mul_self (a + n - 1) hn
    rw [Int.add_mul] at this
    omega)
  have h3 : (a + n - 1) / n < cdiv a n + 1 := by
    refine Int.ediv_lt_of_lt_mul hn ?_
    rw [Int.add_mul]; omega
  omega
section
variable {env : ZT} {M : MM} {c e : TTZ} {Ta Tb : TZ}
theorem ev_andT {b : Bool} (h : EvT c env M true) (h2 : EvT e env M b) : EvT (zAnd c e) env M b := fun Q k => st_and (h _ (ite_t rfl (h2 _ k)))
theorem ev_andN (h : EvT c env M false) : EvT (zAnd c e) env M false := fun Q k => st_and (h _ (ite_f rfl k))
theorem ev_neStr {x y : Str} {b : Bool} (ha : Ev Ta env M (.str x)) (h : (PyData.strOk x && PyData.strOk y && ((x == y) == !b)) = true := by first | decide +kernel | (dsimp only [kindS]; decide +kernel)) : EvT (zTst (zBin rzNe Ta (zC (.str y)))) env M b := fun Q k => ha _ (show rzNe (.str x) (.str y) M (fun d M' => match d with | .bl b => Q b M' | _ => False) from by
  rw [Bool.and_eq_true, Bool.and_eq_true] at h
  refine ⟨h.1.1, h.1.2, ?_⟩
  have e : (!deq (.str x) (.str y)) = b := by rw [deq_str]; have := h.2; cases b <;> simp_all
  show Q (!deq (.str x) (.str y)) M
  rw [e]; exact k)
theorem ev_lnT {K : PySem.W.Frag} {xs : List D} {n : Nat} (ha : Ev Ta env M (.tup xs)) (hn : xs.length = n) : Ev (zCall (rzLen K) (zaCons Ta zaNil)) env M (.int (n : Nat)) := by subst hn; exact ev_lenT ha
theorem bind21 {i j k : Nat} {a b d : D} {Nx : ZT → MM → Prop} (h : Nx (((env.set i (some a)).set j (some b)).set k (some d)) M) : (match bindT (.tup [.tup [.nm i, .nm j], .nm k]) (.tup [.tup [a, b], d]) env with | some env' => Nx env' M | none => False) := by simpa [bindT, bindTs] using h
end
def g__law_changed_row : SpZ := fun ds M Q => ∃ m b r i, ds = [.int m, rowD r, insD i] ∧ takeN i = 1 ∧ InsOk m b i ∧ SmR r ∧ Q (rowD (madeF b [r] i)) M
theorem r__law_changed_row {K : PySem.W.Frag} {c_WitnessError : Addr} {c_BadLiterals : Addr} {c_BadMany : Addr} {c_BadRow : Addr} {P_law : Addr} (ds : List D) (M : MM) (Q : D → MM → Prop) (hl : ds.length = 3) (h : g__law_changed_row ds M Q) : t__law_changed_row K c_WitnessError c_BadLiterals c_BadMany c_BadRow P_law g__law_is_whole { nx := fun _ M' => Post Q .non M', rt := Post Q } (startZ 11 ds) M := by
  obtain ⟨m, b, r, i, rfl, ht, hi, hs, q⟩ := h
  rw [insD_eq]
  show t__law_changed_row K c_WitnessError c_BadLiterals c_BadMany c_BadRow P_law _ _ [some (.int m), some (rowD r), some (.tup (.str (kindS i) :: argL i)), none, none, none, none, none, none, none, none] M
  refine st_seq (st_asgT (st_tup2 (var_use rfl (ev_ix0 (fun Q k => var_use rfl k) _ ?_))))
  rw [show D.tup [rowD r, .str (kindS i)] = .tup [.tup [.tup (tsD r.1), .int r.2], .str (kindS i)] from rfl]
  refine bind21 ?_
  dsimp only [List.set_cons_zero, List.set_cons_succ]
  have v2 : ∀ {e6 e7 e8 e9 e10 : Option D}, Ev (zVar 2) [some (.int m), some (rowD r), some (.tup (.str (kindS i) :: argL i)), some (.tup (tsD r.1)), some (.int r.2), some (.str (kindS i)), e6, e7, e8, e9, e10] M (.tup (.str (kindS i) :: argL i)) := fun Q k => var_use rfl k
  have v5 : ∀ {e6 e7 e8 e9 e10 : Option D}, Ev (zVar 5) [some (.int m), some (rowD r), some (.tup (.str (kindS i) :: argL i)), some (.tup (tsD r.1)), some (.int r.2), some (.str (kindS i)), e6, e7, e8, e9, e10] M (.str (kindS i)) := fun Q k => var_use rfl k
  have v3 : ∀ {e6 e7 e8 e9 e10 : Option D}, Ev (zVar 3) [some (.int m), some (rowD r), some (.tup (.str (kindS i) :: argL i)), some (.tup (tsD r.1)), some (.int r.2), some (.str (kindS i)), e6, e7, e8, e9, e10] M (.tup (tsD r.1)) := fun Q k => var_use rfl k
  have v4 : ∀ {e6 e7 e8 e9 e10 : Option D}, Ev (zVar 4) [some (.int m), some (rowD r), some (.tup (.str (kindS i) :: argL i)), some (.tup (tsD r.1)), some (.int r.2), some (.str (kindS i)), e6, e7, e8, e9, e10] M (.int r.2) := fun Q k => var_use rfl k
  cases i with
  | row i => cases ht
  | lit l => cases ht
  | sum => cases ht
  | cap =>
    refine ss_hit (ev_andT (ev_eqS v5) (ev_eqI (ev_lnT (n := 1) v2 rfl) (fun Q k => k) rfl)) ?_
    have q : Q (rowD (capF r)) M := q
    unfold capF at q
    refine st_ret (st_if (ev_use (decide (r.2 > 0)) (ev_gtI v4 (fun Q k => k) rfl) ?_))
    by_cases h0 : r.2 > 0
    · rw [decide_eq_true h0, if_pos rfl]
      rw [if_neg (by omega)] at q
      refine st_tup2 (st_call1 ?_)
      refine comp_s prD (fun q => prD (if r.2 < q.1 then r.2 else q.1, q.2)) r.1 v3 (.inl rfl) (fun q hq => ⟨_, rfl, fun Q k => ?_⟩) ?_
      · refine st_tup2 (st_call2 (var_use rfl (var_use rfl ?_)))
        dsimp only [rzInt2]
        exact var_use rfl k
      · dsimp only [rzTuple, view]
        refine v4 _ ?_
        exact post_row (r := (r.1.map (fun q => (if r.2 < q.1 then r.2 else q.1, q.2)), r.2)) (by unfold tsD; rw [List.map_map]; rfl) rfl q
    · rw [decide_eq_false h0, if_neg Bool.false_ne_true]
      have := hs.2.1
      rw [if_pos (by omega)] at q
      refine st_tup2 ?_
      show _ ∧ _
      exact ⟨by simp, st_c (.self q)⟩
  | times n =>
    have hn1 := hi.1
    have hn2 := log_ft (by omega) hi.2
    refine ss_chk (ev_andN (ev_eqS v5)) ?_
    refine ss_chk (ev_or_f (ev_neI (ev_lnT (n := 2) v2 rfl) (fun Q k => k) rfl) (ev_or_f (ev_not (b := true) (fun Q k => st_tst (st_fn1 (ev_ix1 v2 _ ⟨.int n, _, rfl, rfl, k⟩)))) (ev_ltI (ev_ix1 v2) (fun Q k => k) (decide_eq_false (by omega))))) ?_
    refine ss_ev (d := .int n) (ev_ix1 v2) ?_
    dsimp only [List.set_cons_zero, List.set_cons_succ]
    refine ss_hit (ev_eqS v5) ?_
    refine st_ret (st_tup2 (st_call1 ?_))
    refine comp_s prD (fun q => prD (q.1 * n, q.2)) r.1 v3 (.inl rfl) (fun q hq => ⟨_, rfl, fun Q k => ?_⟩) ?_
    · have := hs.1 q hq
      have hl := log_ft (a := q.1) (by omega) (by omega)
      exact st_tup2 (st_bin (var_use rfl (var_use rfl ⟨by omega, var_use rfl k⟩)))
    · dsimp only [rzTuple, view]
      refine st_bin (v4 _ (var_use rfl ?_))
      have hl := log_ft (a := r.2) hs.2.1 (by have := hs.2.2; omega)
      refine ⟨by omega, ?_⟩
      exact post_row (r := timedF r n) (by unfold timedF tsD; rw [List.map_map]; rfl) rfl q
  | divd n =>
    have hn1 := hi.1
    have hn2 := log_ft (by omega) hi.2
    have hn0 : 0 < n := by omega
    refine ss_chk (ev_andN (ev_eqS v5)) ?_
    refine ss_chk (ev_or_f (ev_neI (ev_lnT (n := 2) v2 rfl) (fun Q k => k) rfl) (ev_or_f (ev_not (b := true) (fun Q k => st_tst (st_fn1 (ev_ix1 v2 _ ⟨.int n, _, rfl, rfl, k⟩)))) (ev_ltI (ev_ix1 v2) (fun Q k => k) (decide_eq_false (by omega))))) ?_
    refine ss_ev (d := .int n) (ev_ix1 v2) ?_
    dsimp only [List.set_cons_zero, List.set_cons_succ]
    refine ss_chk (ev_eqS v5) (ss_hit (ev_eqS v5) ?_)
    refine st_ret (st_tup2 (st_call1 ?_))
    have dv : ∀ {env : ZT} {Ta Tb : TZ} {a : Int}, Ev Ta env M (.int a) → Ev Tb env M (.int n) → Ev (zBin rzDiv (zBin rzSub (zBin rzAdd Ta Tb) (zC (.int 1))) Tb) env M (.int (cdiv a n)) := fun ha hb Q k => ha _ (hb _ (hb _ ⟨⟨hn0, by omega⟩, by
      rw [← cdiv_alt hn0] at k
      exact k⟩))
    refine comp_s prD (fun q => prD (cdiv q.1 n, q.2)) r.1 v3 (.inl rfl) (fun q hq => ⟨_, rfl, fun Q k => ?_⟩) ?_
    · exact st_tup2 (dv (fun Q k => var_use rfl k) (fun Q k => var_use rfl k) _ (var_use rfl k))
    · dsimp only [rzTuple, view]
      refine dv v4 (fun Q k => var_use rfl k) _ ?_
      exact post_row (r := divF r n) (by unfold divF tsD; rw [List.map_map]; rfl) rfl q
  | weak v =>
    refine ss_chk (ev_andN (ev_eqS v5)) ?_
    refine ss_chk (ev_or_f (ev_neI (ev_lnT (n := 2) v2 rfl) (fun Q k => k) rfl) (ev_or_f (ev_not (b := true) (fun Q k => st_tst (st_fn1 (ev_ix1 v2 _ ⟨.int v, _, rfl, rfl, k⟩)))) (ev_ltI (ev_ix1 v2) (fun Q k => k) (decide_eq_false (by have := hi.1; omega))))) ?_
    refine ss_ev (d := .int v) (ev_ix1 v2) ?_
    dsimp only [List.set_cons_zero, List.set_cons_succ]
    refine ss_chk (ev_eqS v5) (ss_chk (ev_eqS v5) ?_)
    refine ss_chk (ev_or_f (ev_neStr v5) (ev_gtI (a := v) (c := m) (fun Q k => var_use rfl k) (fun Q k => var_use rfl k) (decide_eq_false (by have := hi.2; omega)))) ?_
    refine ss_set ?_
    refine sum_f prD (fun q => q.1) (fun q => decide (absI q.2 = v)) r.1 v3 (.inl rfl) (fun q hq => ⟨_, rfl, ?_, fun _ Q k => var_use rfl k⟩) ?_
    · exact ev_eqI (fun Q k => st_call1 (var_use rfl k)) (fun Q k => var_use rfl k) rfl
    dsimp only [List.set_cons_zero, List.set_cons_succ]
    refine st_ret (st_tup2 (st_call1 ?_))
    refine comp_f prD prD (fun q => !decide (absI q.2 = v)) r.1 v3 (.inl rfl) (fun q hq => ⟨_, rfl, ?_, fun _ Q k => var_use rfl k⟩) ?_
    · exact ev_neI (fun Q k => st_call1 (ev_ix1 (y := .int q.2) (fun Q k => var_use rfl k) _ k)) (fun Q k => var_use rfl k) rfl
    · dsimp only [rzTuple, view]
      refine st_call2 (st_c (st_bin (v4 _ (var_use rfl ?_))))
      simp only [rzSub, rzI0, rzInt2]
      exact post_row (r := weakF r v) rfl rfl q
/-! ### one step, all steps -/
noncomputable def stepL (b : Book) (st : List Row) (i : Ins) : Option (List Row) :=
  if takeN i = 0 then some (st ++ [madeF b [] i]) else if st = [] then none else if bigR (madeF b (st.drop (st.length - 1)) i) = true then none else some (st.take (st.length - 1) ++ [madeF b (st.drop (st.length - 1)) i])
noncomputable def runL (b : Book) : List Row → List Ins → Option (List Row)
  | st, [] => some st
  | st, i :: is => match stepL b st i with
    | none => none
    | some st' => runL b st' is
def optD : Option (List Row) → D
  | some st => .lst (st.map rowD)
  | none => .non
theorem at_last {α : Type} {xs : List α} (h : 0 < xs.length) : atI xs (-1) = xs[xs.length - 1]? := by
  unfold atI ixN
  rw [if_neg (by omega), if_pos (by omega)]
  show xs[(-1 + (xs.length : Int)).toNat]? = _
  congr 1; omega
theorem cut_last {xs : List D} (h : 0 < xs.length) : cutD xs none (some (-1)) = xs.take (xs.length - 1) := by
  unfold cutD
  rw [HT.sIx_none, List.drop_zero]
  have e : HT.sIx xs.length xs.length (some (-1)) = xs.length - 1 := by
    show (if (-1 : Int) < 0 then ((-1 : Int) + (xs.length : Int)).toNat else min (-1 : Int).toNat xs.length) = _
    rw [if_pos (by decide)]; omega
  rw [e]; rfl
theorem deq_nilT2 (x : D) (xs : List D) : deq (.tup (x :: xs)) (.tup []) = false := rfl
theorem kind_ok (i : Ins) (n : Nat) : okD n (.str (kindS i)) = true := sOk_of (by cases i <;> (simp only [kindS]; decide +kernel)) n
theorem arg_int {i : Ins} {x : D} (h : x ∈ argL i) : ∃ j, x = .int j := by
  cases i <;> simp only [argL, List.mem_singleton, List.not_mem_nil] at h <;> exact ⟨_, h⟩
theorem ok_ins (i : Ins) : okD 60 (.tup (.str (kindS i) :: argL i)) = true := okDs_all (n := 59) fun x hx => by
  rcases List.mem_cons.mp hx with rfl | hx
  · exact kind_ok i 59
  · obtain ⟨j, rfl⟩ := arg_int hx
    exact ok_int _ _
theorem sum_no {i : Ins} (h : i ≠ .sum) : deq (.tup (.str (kindS i) :: argL i)) (.tup [.str "sum"]) = false := by
  cases i <;> first | exact absurd rfl h | rfl | decide +kernel
theorem ok_rowN (n : Nat) (r : Row) : okD (n + 3) (rowD r) = true := by
  show (okD (n + 2) (.tup (tsD r.1)) && (okD (n + 2) (.int r.2) && true)) = true
  rw [ok_tup n, ok_int]; rfl
theorem ok_rows (st : List Row) : okD 60 (.lst (st.map rowD)) = true := okDs_all (n := 59) fun x hx => by
  obtain ⟨r, _, rfl⟩ := List.mem_map.mp hx
  exact ok_rowN 56 r
theorem last_of {st : List Row} (h : st ≠ []) : ∃ r, st[st.length - 1]? = some r ∧ st.drop (st.length - 1) = [r] := by
  have hl : st.length - 1 < st.length := by have := List.length_pos_iff.mpr h; omega
  refine ⟨st[st.length - 1], List.getElem?_eq_getElem hl, ?_⟩
  rw [List.drop_eq_getElem_cons hl, List.drop_eq_nil_of_le (by omega)]
theorem chg_inF {i : Ins} (h : takeN i = 1) : inF (.str (kindS i)) [.str "row", .str "literal"] = false := by
  cases i <;> first | (cases h; done) | rfl
theorem chg_ok {m : Int} {b : Book} {i : Ins} {r : Row} (h : takeN i = 1) (hi : InsOk m b i) (hr : RowOk m r) (hb : bigR r = false) : RowOk m (madeF b [r] i) := by
  have e : madeF b [r] i = madeF [] [r] i := by cases i <;> first | (cases h; done) | rfl
  have hi' : InsOk m [] i := by cases i <;> first | (cases h; done) | exact hi
  rw [e]
  exact made_ok (fun i r e => by simp [bookGet] at e) hi' h.symm (fun u hu => by rw [List.mem_singleton] at hu; subst hu; exact ⟨hr, hb⟩)
theorem max_big {r : Row} {x : Int} (h1 : x ∈ r.2 :: r.1.map (·.1)) (h2 : ∀ n, n ∈ r.2 :: r.1.map (·.1) → n ≤ x) : decide (x ≥ tenFt) = bigR r := by
  unfold bigR
  rw [Bool.eq_iff_iff, decide_eq_true_eq, Bool.or_eq_true, decide_eq_true_eq, List.any_eq_true]
  constructor
  · intro h
    rcases List.mem_cons.mp h1 with rfl | hm
    · exact .inl h
    · obtain ⟨q, hq, rfl⟩ := List.mem_map.mp hm
      exact .inr ⟨q, hq, decide_eq_true h⟩
  · rintro (h | ⟨q, hq, h⟩)
    · have := h2 r.2 (by simp); omega
    · have := h2 q.1 (List.mem_cons_of_mem _ (List.mem_map.mpr ⟨q, hq, rfl⟩))
      have := of_decide_eq_true h
      omega
def g__law_stack : SpZ := fun ds M Q => ∃ m b st i, ds = [.int m, bookD b, .lst (List.map rowD st), insD i] ∧ i ≠ .sum ∧ 0 ≤ m ∧ m ≤ 600 ∧ InsOk m b i ∧ Stk m st ∧ st.length ≤ 1000 ∧ Q (optD (stepL b st i)) M
theorem r__law_stack {K : PySem.W.Frag} {c_WitnessError : Addr} {c_BadLiterals : Addr} {c_BadMany : Addr} {c_BadRow : Addr} {P_law : Addr} (ds : List D) (M : MM) (Q : D → MM → Prop) (hl : ds.length = 4) (h : g__law_stack ds M Q) : t__law_stack K c_WitnessError c_BadLiterals c_BadMany c_BadRow P_law g__law_is_whole g__law_is_literal g__law_normal g__law_changed_row { nx := fun _ M' => Post Q .non M', rt := Post Q } (startZ 8 ds) M := by
  obtain ⟨m, b, st, i, rfl, hns, hm0, hm6, hi, hs, hlen, q⟩ := h
  rw [insD_eq]
  show t__law_stack K c_WitnessError c_BadLiterals c_BadMany c_BadRow P_law _ _ _ _ _ [some (.int m), some (bookD b), some (.lst (st.map rowD)), some (.tup (.str (kindS i) :: argL i)), none, none, none, none] M
  have v3 : ∀ {e4 e5 e6 e7 : Option D}, Ev (zVar 3) [some (.int m), some (bookD b), some (.lst (st.map rowD)), some (.tup (.str (kindS i) :: argL i)), e4, e5, e6, e7] M (.tup (.str (kindS i) :: argL i)) := fun Q k => var_use rfl k
  have v2 : ∀ {e4 e5 e6 e7 : Option D}, Ev (zVar 2) [some (.int m), some (bookD b), some (.lst (st.map rowD)), some (.tup (.str (kindS i) :: argL i)), e4, e5, e6, e7] M (.lst (st.map rowD)) := fun Q k => var_use rfl k
  have lD : (st.map rowD).length ≤ 1000 := by rw [List.length_map]; exact hlen
  refine ss_chk (ev_or_f (ev_not (b := true) (ev_isi v3 rfl rfl)) (ev_or_f (fun Q k => st_tst (st_bin (v3 _ ⟨by simp, ok_ins i, rfl, ?_⟩))) (ev_not (b := true) (ev_isi (ev_ix0 v3) rfl rfl)))) ?_
  · simp only [view, deq_nilT2]; exact k
  by_cases h1 : takeN i = 1
  · refine ss_chk (fun Q k => st_tst (st_bin (ev_ix0 v3 _ ⟨by simp, by rfl, by rfl, ?_⟩))) ?_
    · simp only [Bool.false_eq_true, if_false]
      rw [chg_inF h1]; exact k
    refine st_seq (st_ifS (ev_use false (fun Q k => st_tst (st_bin (v3 _ (st_tupA (st_c ⟨ok_ins i, ok_ins .sum, ?_⟩))))) (ite_f rfl ?_)))
    · simp only [view]
      rw [sum_no hns]; exact k
    have hne0 : takeN i ≠ 0 := by omega
    by_cases hst : st = []
    · have e : stepL b st i = none := by unfold stepL; rw [if_neg hne0, if_pos hst]
      rw [e] at q
      refine st_asgT (st_if (ev_use false (fun Q k => st_tst (st_bin (v2 _ ⟨by simp, ok_rows st, rfl, ?_⟩))) (ite_f rfl ?_)))
      · simp only [view, deq_nilD]
        rw [hst]; exact k
      refine st_tup2 (st_c ?_)
      refine (show zLst zaNil _ _ _ from ⟨by simp, bind2 ?_⟩)
      dsimp only [List.set_cons_zero, List.set_cons_succ]
      refine ss_hit (ev_or_t (fun Q k => st_tst (st_bin (var_use rfl (st_c k))))) ?_
      exact st_ret (st_c (.self q))
    · obtain ⟨r, hr, hdr⟩ := last_of hst
      have hrm : r ∈ st := List.mem_of_getElem? hr
      refine st_asgT (st_if (ev_use true (fun Q k => st_tst (st_bin (v2 _ ⟨by simp, ok_rows st, rfl, ?_⟩))) (ite_t rfl ?_)))
      · simp only [view, deq_nilD]
        have : (st.map rowD).isEmpty = false := by rw [List.isEmpty_eq_false_iff]; simpa using hst
        rw [this]; exact k
      have hpos : 0 < (st.map rowD).length := by rw [List.length_map]; exact List.length_pos_iff.mpr hst
      refine st_tup2 (st_fn3 (var_use rfl (st_bin (v2 _ (ev_neg (i := 1) (fun Q k => k) _ ?_)))))
      have eat : atI (st.map rowD) (-1) = some (rowD r) := by rw [at_last hpos, List.length_map, List.getElem?_map, hr]; rfl
      simp only [rzIx, view, eat]
      refine v3 _ ⟨m, b, r, i, by rw [insD_eq], h1, hi, small_of (hs r hrm).1 (hs r hrm).2, ?_⟩
      refine (show zSl _ _ _ _ M _ from v2 _ ?_)
      simp only [zoNone, zoSome, zUn, zC, rzNeg, rzSl, view]
      rw [cut_last hpos, List.length_map, ← List.map_take]
      refine bind2 ?_
      dsimp only [List.set_cons_zero, List.set_cons_succ]
      have hml : (madeF b [r] i).1.length ≤ 600 := by
        have ok := chg_ok h1 hi (hs r hrm).1 (hs r hrm).2
        have := ok.1.len hm0
        omega
      generalize hmade : madeF b [r] i = rm at *
      have T2 : EvT (zTst (zBin rzGe (zCall rzMaxL (zaCons (zBin rzAdd (zLst (zaCons (zBin rzIx (zVar 4) (zC (.int 1))) zaNil)) (zComp (iSeq K (zBin rzIx (zVar 4) (zC (.int 0)))) (.tup [(.nm 6), (.nm 7)]) [6, 7] zYes (zVar 6))) zaNil)) (zBin rzPow (zC (.int 10)) (zC (.int 40))))) [some (.int m), some (bookD b), some (.lst (st.map rowD)), some (.tup (.str (kindS i) :: argL i)), some (rowD rm), some (.lst ((st.take (st.length - 1)).map rowD)), none, none] M (bigR rm) := fun Q k => by
        refine st_tst (st_bin (st_call1 (ev_addL (ev_l1 (row_get1 rm fun Q k => var_use rfl k)) (fun Q k => comp_s prD (fun q => .int q.1) rm.1 (row_get0 rm fun Q k => var_use rfl k) (.inl rfl) (fun q hq => ⟨_, rfl, fun Q k => var_use rfl k⟩) k) ?_ _ ?_)))
        · simp only [List.length_map, List.length_singleton]
          omega
        · refine (show rzMaxL [.lst ([D.int rm.2] ++ rm.1.map fun q => D.int q.1)] M _ from ⟨rm.2 :: rm.1.map (·.1), by rw [List.map_cons, List.map_map]; rfl, by simp, fun mx m1 m2 => ?_⟩)
          refine st_bin (st_c (st_c ⟨⟨by decide, by decide, by decide⟩, ?_⟩))
          refine (show (match D.bl (decide (mx ≥ tenFt)) with | .bl b => Q b M | _ => False) from ?_)
          rw [max_big m1 m2]
          exact k
      have e : stepL b st i = if bigR rm = true then none else some (st.take (st.length - 1) ++ [rm]) := by unfold stepL; rw [if_neg hne0, if_neg hst, hdr, hmade]
      have T1 : EvT (zTst (zBin rzIsN (zVar 4) (zC .non))) [some (.int m), some (bookD b), some (.lst (st.map rowD)), some (.tup (.str (kindS i) :: argL i)), some (rowD rm), some (.lst ((st.take (st.length - 1)).map rowD)), none, none] M false := fun Q k => st_tst (st_bin (var_use rfl (st_c (show rzIsN (rowD rm) .non M _ from k))))
      cases hbig : bigR rm with
      | true =>
        rw [hbig] at T2 e
        rw [e, if_pos rfl] at q
        exact ss_hit (ev_or_tt T1 T2) (st_ret (st_c (.self q)))
      | false =>
        rw [hbig] at T2 e
        rw [e, if_neg Bool.false_ne_true] at q
        refine ss_chk (ev_or_f T1 T2) ?_
        refine st_ret (ev_addL (fun Q k => var_use rfl k) (ev_l1 (x := rowD rm) fun Q k => var_use rfl k) (by rw [List.length_map, List.length_take, List.length_singleton]; omega) _ ?_)
        have e2 : (st.take (st.length - 1)).map rowD ++ [rowD rm] = (st.take (st.length - 1) ++ [rm]).map rowD := by rw [List.map_append]; rfl
        rw [e2]
        exact .self q
  cases i with
  | sum => exact absurd rfl hns
  | row k =>
    refine ss_hit (fun Q k => st_tst (st_bin (ev_ix0 v3 _ ⟨by simp, by rfl, by rfl, k⟩))) ?_
    refine ss_chk (ev_or_f (ev_neI (ev_lnT (n := 2) v3 rfl) (fun Q k => k) rfl) (ev_not (b := true) (fun Q k' => st_tst (st_fn1 (ev_ix1 v3 _ ⟨.int k, _, rfl, rfl, k'⟩))))) ?_
    refine ss_hit (ev_eqS (ev_ix0 v3)) ?_
    obtain ⟨r, hr⟩ := Option.isSome_iff_exists.mp hi
    refine st_ret (st_if (ev_use true (fun Q k' => st_tst (st_bin (ev_ix1 v3 _ (var_use rfl ?_)))) (ite_t rfl ?_)))
    · simp only [rzDIn, dicOf_book, keyD, valD_book, hr, Bool.false_eq_true, if_false]
      exact k'
    have em : madeF b [] (.row k) = r := by show (bookGet b k).getD R0 = r; rw [hr]; rfl
    have e : stepL b st (.row k) = some (st ++ [r]) := by unfold stepL; rw [if_pos (show takeN (Ins.row k) = 0 from rfl), em]
    rw [e] at q
    refine st_bin (v2 _ (ta_cons (st_bin (var_use rfl (ev_ix1 v3 _ ?_)))))
    simp only [rzDGet, dicOf_book, keyD, valD_book, hr, Option.map_some]
    refine ta_nil ⟨by simp, ⟨by simp only [List.length_singleton]; omega, ?_⟩⟩
    have e2 : st.map rowD ++ [rowD r] = (st ++ [r]).map rowD := by rw [List.map_append]; rfl
    show Post Q (.lst (st.map rowD ++ [rowD r])) M
    rw [e2]
    exact .self q
  | lit l =>
    refine ss_hit (fun Q k => st_tst (st_bin (ev_ix0 v3 _ ⟨by simp, by rfl, by rfl, k⟩))) ?_
    refine ss_chk (ev_or_f (ev_neI (ev_lnT (n := 2) v3 rfl) (fun Q k => k) rfl) (ev_not (b := true) (fun Q k' => st_tst (st_fn1 (ev_ix1 v3 _ ⟨.int l, _, rfl, rfl, k'⟩))))) ?_
    refine ss_chk (ev_eqS (ev_ix0 v3)) ?_
    refine st_ret (st_if (ev_use true (fun Q k' => st_tst (st_fn2 (var_use rfl (ev_ix1 v3 _ ⟨.int l, _, m, rfl, rfl, ?_⟩)))) (ite_t rfl ?_)))
    · rw [litR_ok hi]; exact k'
    have e : stepL b st (.lit l) = some (st ++ [([(1, l)], 0)]) := rfl
    rw [e] at q
    refine st_bin (v2 _ (ta_cons (st_tup2 (st_tupA (st_tup2 (st_c (ev_ix1 v3 _ (st_c (ta_nil ⟨by simp, ⟨by simp only [List.length_singleton]; omega, ?_⟩⟩)))))))))
    have e2 : st.map rowD ++ [rowD ([(1, l)], 0)] = (st ++ [([(1, l)], 0)]).map rowD := by rw [List.map_append]; rfl
    show Post Q (.lst (st.map rowD ++ [rowD ([(1, l)], 0)])) M
    rw [e2]
    exact .self q
  | _ => exact absurd rfl h1
theorem stepL_ok {m : Int} {b : Book} {st st' : List Row} {i : Ins} (hb : ∀ i r, bookGet b i = some r → RowOk m r ∧ bigR r = false) (hns : i ≠ .sum) (hi : InsOk m b i) (hs : Stk m st) (h : stepL b st i = some st') : Stk m st' ∧ st'.length ≤ st.length + 1 := by
  unfold stepL at h
  by_cases h0 : takeN i = 0
  · rw [if_pos h0] at h
    obtain rfl := Option.some.inj h
    refine ⟨fun r hr => ?_, by rw [List.length_append]; simp⟩
    rcases List.mem_append.mp hr with hr | hr
    · exact hs r hr
    · rw [List.mem_singleton] at hr
      subst hr
      refine ⟨made_ok (fun i r e => (hb i r e).1) hi (by rw [h0]; rfl) (fun u hu => by simp at hu), ?_⟩
      cases i with
      | row k =>
        obtain ⟨r, hr⟩ := Option.isSome_iff_exists.mp hi
        show bigR ((bookGet b k).getD R0) = false
        rw [hr]; exact (hb k r hr).2
      | lit l => show bigR ([(1, l)], 0) = false; unfold bigR; simp [tenFt]
      | _ => cases h0
  · rw [if_neg h0] at h
    split at h
    · cases h
    next hst =>
    obtain ⟨r, hr, hdr⟩ := last_of hst
    have hrm : r ∈ st := List.mem_of_getElem? hr
    split at h
    · cases h
    next hbig =>
    obtain rfl := Option.some.inj h
    have h1 : takeN i = 1 := by have := takeN_le i; cases i <;> first | exact absurd rfl hns | exact absurd rfl h0 | rfl
    refine ⟨fun u hu => ?_, by rw [List.length_append, List.length_take, List.length_singleton]; omega⟩
    rcases List.mem_append.mp hu with hu | hu
    · exact hs u (List.mem_of_mem_take hu)
    · rw [List.mem_singleton] at hu
      subst hu
      rw [hdr] at hbig ⊢
      exact ⟨chg_ok h1 hi (hs r hrm).1 (hs r hrm).2, by simpa using hbig⟩
def endL : Option (List Row) → D
  | some [r] => rowD r
  | _ => .non
def g__law_end : SpZ := fun ds M Q => ∃ m b is, ds = [.int m, bookD b, .lst (List.map insD is)] ∧ 0 ≤ m ∧ m ≤ 600 ∧ (∀ i r, bookGet b i = some r → RowOk m r ∧ bigR r = false) ∧ (∀ i, i ∈ is → i ≠ .sum ∧ InsOk m b i) ∧ is.length ≤ 900 ∧ Q (endL (runL b [] is)) M
theorem r__law_end {K : PySem.W.Frag} {c_WitnessError : Addr} {c_BadLiterals : Addr} {c_BadMany : Addr} {c_BadRow : Addr} {P_law : Addr} (ds : List D) (M : MM) (Q : D → MM → Prop) (hl : ds.length = 3) (h : g__law_end ds M Q) : t__law_end K c_WitnessError c_BadLiterals c_BadMany c_BadRow P_law g__law_stack { nx := fun _ M' => Post Q .non M', rt := Post Q } (startZ 5 ds) M := by
  obtain ⟨m, b, is, rfl, hm0, hm6, hb, hi, hl, q⟩ := h
  show t__law_end K c_WitnessError c_BadLiterals c_BadMany c_BadRow P_law _ _ [some (.int m), some (bookD b), some (.lst (is.map insD)), none, none] M
  refine ss_chk (ev_andN (ev_not (b := true) (ev_isi (fun Q k => var_use rfl k) rfl rfl))) ?_
  refine ss_set (show zLst zaNil _ _ _ from ⟨by simp, ?_⟩)
  dsimp only [List.set_cons_zero, List.set_cons_succ]
  refine ss_for (for_sq (d := .lst (is.map insD)) (fun Q k => var_use rfl k) (.inr rfl) ?_)
  refine forGo_ind _ (fun k env M' => ∃ (st : List Row) (e4 : Option D), env = [some (.int m), some (bookD b), some (.lst (is.map insD)), some (.lst (st.map rowD)), e4] ∧ M' = M ∧ Stk m st ∧ st.length ≤ k ∧ runL b st (is.drop k) = runL b [] is) ?_ ?_ _ _ ?_
  · rintro k x env M' hx ⟨st, e4, rfl, rfl, hs, hsl, hw⟩
    obtain ⟨i, hxi, rfl⟩ := at_map hx
    have hk : k < is.length := (List.getElem?_eq_some_iff.mp hxi).1
    refine ⟨_, rfl, fun K' hK => ?_⟩
    dsimp only [List.set_cons_zero, List.set_cons_succ]
    have hik := hi i (List.mem_of_getElem? hxi)
    have ed : is.drop k = i :: is.drop (k + 1) := by
      rw [List.drop_eq_getElem_cons hk]
      have := (List.getElem?_eq_some_iff.mp hxi).2
      rw [this]
    rw [ed] at hw
    refine ss_set (st_fn4 (var_use rfl (var_use rfl (var_use rfl (var_use rfl ⟨m, b, st, i, rfl, hik.1, hm0, hm6, hik.2, hs, by omega, ?_⟩)))))
    dsimp only [List.set_cons_zero, List.set_cons_succ]
    have hw : (match stepL b st i with
      | none => none
      | some st' => runL b st' (is.drop (k + 1))) = runL b [] is := hw
    cases hst : stepL b st i with
    | none =>
      rw [hst] at hw
      rw [← hw] at q
      refine st_ifS (ev_use true (fun Q k => st_tst (st_bin (var_use (d := .non) rfl (st_c k)))) (ite_t rfl ?_))
      exact st_ret (st_c (.self q))
    | some st' =>
      rw [hst] at hw
      obtain ⟨o1, o2⟩ := stepL_ok hb hik.1 hik.2 hs hst
      refine s1_chk (fun Q k => st_tst (st_bin (var_use (d := .lst (st'.map rowD)) rfl (st_c (show rzIsN (.lst (st'.map rowD)) .non _ _ from k))))) ⟨trivial, hK _ _ ⟨st', _, rfl, rfl, o1, by omega, hw⟩⟩
  · rintro env M' ⟨st, e4, rfl, rfl, hs, hsl, hw⟩
    rw [List.length_map, List.drop_length] at hw
    have hw : some st = runL b [] is := hw
    rw [← hw] at q
    dsimp only
    have vL : Ev (zCall (rzLen K) (zaCons (zVar 3) zaNil)) [some (.int m), some (bookD b), some (.lst (is.map insD)), some (.lst (st.map rowD)), e4] M' (.int ((st.map rowD).length : Nat)) := ev_lenL (fun Q k => var_use rfl k)
    match st, q, vL with
    | [r], q, vL =>
      refine st_ret (st_if (ev_use true (ev_eqI vL (fun Q k => k) rfl) (ite_t rfl ?_)))
      exact ev_at0 (x := rowD r) (xs := []) (fun Q k => var_use rfl k) _ (.self q)
    | [], q, vL =>
      refine st_ret (st_if (ev_use false (ev_eqI vL (fun Q k => k) rfl) (ite_f rfl (st_c (.self q)))))
    | r :: u :: st, q, vL =>
      exact st_ret (st_if (ev_use false (ev_eqI vL (fun Q k => k) (decide_eq_false (by simp only [List.length_map, List.length_cons]; omega))) (ite_f rfl (st_c (.self q)))))
  · exact ⟨[], none, rfl, rfl, fun r hr => by simp at hr, by simp, rfl⟩
end Zz

set_option Elab.async false
set_option linter.all false
set_option maxRecDepth 100000
set_option maxHeartbeats 2000000
namespace Zz
open PySem PySem.Spec PyProof.Rows L2

/-! ### what the law works out -/
theorem inF_ints (ls : List Int) (i : Int) : inF (.int i) (ls.map D.int) = decide (i ∈ ls) := by
  unfold inF
  rw [List.any_map, Bool.eq_iff_iff, List.any_eq_true, decide_eq_true_eq]
  constructor
  · rintro ⟨x, hx, he⟩
    have he : (x == i) = true := he
    rw [beq_iff_eq] at he
    exact he ▸ hx
  · intro h
    exact ⟨i, h, by show (i == i) = true; simp⟩
theorem flat_ints (ls : List Int) : (ls.map D.int).all flatD = true := List.all_eq_true.mpr fun x hx => by
  obtain ⟨i, _, rfl⟩ := List.mem_map.mp hx
  rfl
section
variable {env : ZT} {M : MM} {Ta Tb : TZ}
theorem ev_inL {i : Int} {gd : D} {ls : List Int} {b : Bool} (ha : Ev Ta env M (.int i)) (hb : Ev Tb env M gd) (hs : seqOf M gd = some (ls.map D.int)) (h : decide (i ∈ ls) = b) : EvT (zTst (zBin (rzIn false) Ta Tb)) env M b := fun Q k => st_tst (st_bin (ha _ (hb _ (by
  unfold rzIn
  rw [hs]
  refine ⟨rfl, flat_ints ls, ?_⟩
  rw [inF_ints, h]
  exact k))))
theorem ev_ninL {i : Int} {gd : D} {ls : List Int} {b : Bool} (ha : Ev Ta env M (.int i)) (hb : Ev Tb env M gd) (hs : seqOf M gd = some (ls.map D.int)) (h : (!decide (i ∈ ls)) = b) : EvT (zTst (zBin (rzIn true) Ta Tb)) env M b := fun Q k => st_tst (st_bin (ha _ (hb _ (by
  unfold rzIn
  rw [hs]
  refine ⟨rfl, flat_ints ls, ?_⟩
  rw [inF_ints, h]
  exact k))))
theorem ev_int {i : Int} (ha : Ev Ta env M (.int i)) : Ev (zCall rzInt (zaCons Ta zaNil)) env M (.int i) := fun Q k => ha _ k
theorem ev_neg0 {i : Int} (ha : Ev Ta env M (.int i)) : Ev (zBin rzSub (zC (.int 0)) Ta) env M (.int (-i)) := fun Q k => ha _ (by
  show Q (.int (0 - i)) M
  rw [Int.zero_sub]; exact k)
end
def slk (r : Row) (ls : List Int) : Int := ((r.1.filter fun q => !decide (-q.2 ∈ ls)).map (·.1)).sum - r.2
def g__law_slack : SpZ := fun ds M Q => ∃ r gd ls, ds = [rowD r, gd] ∧ seqOf M gd = some (List.map D.int ls) ∧ Q (.int (slk r ls)) M
def frc (r : Row) (ls : List Int) : List Int := if slk r ls < 0 then [] else ((r.1.filter fun q => !decide (q.2 ∈ ls) && !decide (-q.2 ∈ ls)).filter fun q => decide (q.1 > slk r ls)).map (·.2)
def g__law_forced : SpZ := fun ds M Q => ∃ r gd ls, ds = [rowD r, gd] ∧ seqOf M gd = some (List.map D.int ls) ∧ Q (.lst ((frc r ls).map D.int)) M
def g__law_has : SpZ := g_weight_of
theorem ev_cdiv0 {env : ZT} {M : MM} {Ta Tb : TZ} {a n : Int} (ha : Ev Ta env M (.int a)) (hb : Ev Tb env M (.int n)) (hn : 0 < n) (hl : n.natAbs.log2 < 9000) : Ev (zBin rzSub (zC (.int 0)) (zBin rzDiv (zBin rzSub (zC (.int 0)) Ta) Tb)) env M (.int (cdiv a n)) := fun Q k => ha _ (hb _ ⟨⟨hn, hl⟩, by
  show Q (.int (0 - (0 - a) / n)) M
  rw [Int.zero_sub, Int.zero_sub]; exact k⟩)
def g__law_cut : SpZ := fun ds M Q => ∃ r gd ls l, ds = [rowD r, gd, .int l] ∧ seqOf M gd = some (List.map D.int ls) ∧ (∀ a, gd ≠ .ref a) ∧ CutOk r l ∧ Q (rowD (cutF ls r l)) M
theorem seq_mu {M : MM} {p : Addr} {c : C} {gd : D} {xs : List D} (h : seqOf M gd = some xs) (hn : ∀ a, gd ≠ .ref a) : seqOf (mu M p c) gd = some xs := by
  cases gd with
  | ref a => exact absurd rfl (hn a)
  | _ => exact h
end Zz

set_option Elab.async false
set_option linter.all false
set_option maxRecDepth 100000
set_option maxHeartbeats 2000000
namespace Zz
open PySem PySem.Spec PyProof.Rows L2

/-! ### what the law draws -/
/-! ### values that are no literals -/
def BadLs (m : Int) (d : D) : Prop := litsR m d = false ∧ ∀ M, LsDat M d
theorem lsDat_of {d : D} (h1 : ∀ M, Kn M d) (h2 : ∀ a, d ≠ .ref a) (h3 : ∀ xs, itemsOf d = some xs → xs.length < 50 ∧ ∀ x, x ∈ xs → ∀ M, Kn M x) (M : MM) : LsDat M d := ⟨h1 M, h2, fun xs hx => ⟨(h3 xs hx).1, fun x hm => (h3 xs hx).2 x hm M⟩⟩
def olB (d : D) : Bool := kn d && match itemsOf d with
  | some xs => decide (xs.length < 50) && xs.all kn
  | none => true
def badL (m : Int) (d : D) : Bool := !litsR m d && olB d
theorem badL_of {m : Int} {d : D} (h : badL m d = true) : BadLs m d := by
  unfold badL at h
  rw [Bool.and_eq_true, Bool.not_eq_true'] at h
  obtain ⟨h1, h2⟩ := h
  unfold olB at h2
  rw [Bool.and_eq_true] at h2
  refine ⟨h1, fun M => ⟨kn_Kn h2.1, (fun a e => by subst e; have := h2.1; cases this), fun xs hx => ?_⟩⟩
  have h3 := h2.2
  rw [hx] at h3
  simp only [Bool.and_eq_true, decide_eq_true_eq] at h3
  exact ⟨h3.1, fun x hm => kn_Kn (List.all_eq_true.mp h3.2 x hm)⟩
/-! ### literals that are drawn -/
theorem ints_perm {ys : List D} {ns : List Int} (h : ys.Perm (ns.map D.int)) : ∃ ks : List Int, ys = ks.map D.int ∧ ks.Perm ns := by
  have hx : ∀ y, y ∈ ys → ∃ i, y = .int i := fun y hy => by
    obtain ⟨i, _, e⟩ := List.mem_map.mp (h.mem_iff.mp hy)
    exact ⟨i, e.symm⟩
  obtain ⟨ks, rfl⟩ : ∃ ks : List Int, ys = ks.map D.int := by
    clear h
    induction ys with
    | nil => exact ⟨[], rfl⟩
    | cons y ys ih =>
      obtain ⟨i, rfl⟩ := hx y (by simp)
      obtain ⟨ks, rfl⟩ := ih fun z hz => hx z (List.mem_cons_of_mem _ hz)
      exact ⟨i :: ks, rfl⟩
  refine ⟨ks, rfl, ?_⟩
  have := h.map (fun d => match d with | D.int i => i | _ => 0)
  rw [List.map_map, List.map_map] at this
  have e : ∀ l : List Int, l.map ((fun d => match d with | D.int i => i | _ => 0) ∘ D.int) = l := fun l => by
    induction l with
    | nil => rfl
    | cons x l ih => rw [List.map_cons, ih]; rfl
  rwa [e, e] at this
theorem cut_first {xs : List D} {n : Int} (h0 : 0 ≤ n) : cutD xs none (some n) = xs.take n.toNat := by
  unfold cutD
  rw [HT.sIx_none, List.drop_zero, Nat.sub_zero]
  obtain ⟨k, rfl⟩ : ∃ k : Nat, n = k := ⟨n.toNat, by omega⟩
  rw [HT.sIx_nat, Int.toNat_natCast]
  by_cases h : k ≤ xs.length
  · rw [Nat.min_eq_left h]
  · rw [Nat.min_eq_right (by omega), List.take_of_length_le (Nat.le_refl _), List.take_of_length_le (by omega)]
theorem rng_one {m : Int} (h : 0 ≤ m) : rngD 1 (m + 1 - 1).toNat = (oneTo m).map D.int := by
  have e : (m + 1 - 1).toNat = m.toNat := by omega
  rw [e]
  unfold rngD oneTo
  rw [List.map_map]
  refine List.map_congr_left fun i _ => ?_
  show D.int (1 + (i : Int)) = D.int _
  congr 1
theorem oneTo_n (m : Int) : (oneTo m).length = m.toNat := by unfold oneTo; simp
theorem st_lrg2 {m : Int} {M : MM} {env : ZT} {Q : D → MM → Prop} (hm1 : 1 ≤ m) (hm6 : m ≤ 6) (h1 : env[1]? = some (some (.int m))) (k : Q (.lst ((oneTo m).map D.int)) M) : zLRg (zRg2 (zC (.int 1)) (zBin rzAdd (zVar 1) (zC (.int 1)))) env M Q := by
  have hv : Ev (zBin rzAdd (zVar 1) (zC (.int 1))) env M (.int (m + 1)) := ev_addI (fun Q k => var_use h1 k) ev_c
  unfold zLRg zRg2
  refine st_c (hv _ ⟨⟨by decide, by omega, by decide, by omega⟩, ?_⟩)
  rw [rng_one (by omega)]
  exact k
/-- some of the variables, in any sequence -/
def VarsOk (m : Int) (ks : List Int) : Prop := ks.Nodup ∧ ∀ k, k ∈ ks → 1 ≤ k ∧ k ≤ m
theorem vars_take {m : Int} {ks : List Int} (h : ks.Perm (oneTo m)) (n : Nat) : VarsOk m (ks.take n) := by
  refine ⟨(h.nodup_iff.mpr (oneTo_nodup m)).sublist (List.take_sublist _ _), fun k hk => ?_⟩
  have := h.mem_iff.mp (List.mem_of_mem_take hk)
  rw [mem_oneTo] at this
  omega
/-- list(range(1, m + 1)), mixed, the first ones -/
theorem st_some {st : Addr} {m lo : Int} {b : Nat} {M : MM} {env : ZT} {Q : D → MM → Prop} {Tn : TZ} (hm1 : 1 ≤ m) (hm6 : m ≤ 6) (h0 : env[0]? = some (some (.ref st))) (h1 : env[1]? = some (some (.int m))) (hst : M st = some (.draw (b + 7)))
    (hn : ∀ M' (Q : D → MM → Prop), M' = mu M st (.draw (b + 7 - m.toNat)) → (∀ n, lo ≤ n → n ≤ m → Q (.int n) (mu M st (.draw (b + 6 - m.toNat)))) → Tn env M' Q) (hlo : 0 ≤ lo)
    (k : ∀ ks, VarsOk m ks → lo ≤ ks.length → Q (.lst (ks.map D.int)) (mu M st (.draw (b + 6 - m.toNat)))) : zSl (zFn 2 g__law_mixed (zaCons (zVar 0) (zaCons (zLRg (zRg2 (zC (.int 1)) (zBin rzAdd (zVar 1) (zC (.int 1))))) zaNil))) zoNone (zoSome Tn) env M Q := by
  refine st_fn2 (var_use h0 ?_)
  refine st_lrg2 hm1 hm6 h1 ?_
  refine ⟨st, (oneTo m).map D.int, b + 7 - m.toNat, rfl, ?_, ?_, ?_, fun ys hys => ?_⟩
  · rw [List.length_map, oneTo_n, hst]; congr 2; omega
  · rw [List.length_map, oneTo_n]; omega
  · exact okDs_all fun x hx => by
      obtain ⟨i, _, rfl⟩ := List.mem_map.mp hx
      exact ok_int _ i
  · obtain ⟨ks, rfl, hp⟩ := ints_perm hys
    simp only [zoNone, zoSome]
    refine hn _ _ rfl fun n n0 n1 => ?_
    show rzSl (.lst (ks.map D.int)) none (some n) _ _
    simp only [rzSl, view]
    rw [cut_first (by omega), ← List.map_take]
    refine k _ (vars_take hp _) ?_
    have hl := hp.length_eq
    rw [oneTo_n] at hl
    rw [List.length_take]; omega
theorem signed {m : Int} {ks : List Int} (h : VarsOk m ks) {ls : List Int} (hl : ls.map absI = ks) (hz : ∀ l, l ∈ ls → l ≠ 0) : LsOk m ls := by
  refine ⟨fun l hm => ?_, by rw [hl]; exact h.1⟩
  have := h.2 (absI l) (by rw [← hl]; exact List.mem_map.mpr ⟨l, hm, rfl⟩)
  rw [absI_nat] at this
  have := hz l hm
  exact ⟨by omega, by omega, this⟩
def g__law_literals : SpZ := fun ds M Q => ∃ st m b, ds = [.ref st, .int m] ∧ M st = some (.draw (b + 14)) ∧ 1 ≤ m ∧ m ≤ 6 ∧ ∀ t ls, LsOk m ls → Q (litsD t ls) (mu M st (.draw b))
end Zz

set_option Elab.async false
set_option linter.all false
set_option maxRecDepth 100000
set_option maxHeartbeats 2000000
namespace Zz
open PySem PySem.Spec PyProof.Rows L2

/-! ### cutting down by instructions: the plain law -/
theorem cdiv_le_self {a n : Int} (ha : 0 ≤ a) (hn : 1 ≤ n) : cdiv a n ≤ a := cdiv_le (by omega) (by
  have : a * 1 ≤ a * n := Int.mul_le_mul_of_nonneg_left hn ha
  omega)
theorem sm_big {m : Int} {r : Row} (h : SmR r) : bigR r = false := by
  unfold bigR
  rw [Bool.or_eq_false_iff, decide_eq_false_iff_not, List.any_eq_false]
  refine ⟨by have := h.2.2; omega, fun q hq => ?_⟩
  have := (h.1 q hq).2
  simp only [decide_eq_true_eq]; omega
theorem max0_le {x y : Int} (h : x ≤ y) (hy : 0 ≤ y) : max0 x ≤ y := by unfold max0; split <;> omega
theorem max0_nn {x : Int} : 0 ≤ max0 x := by unfold max0; split <;> omega
theorem gone_nn {m : Int} {r : Row} (h : RowOk m r) (v : Int) : 0 ≤ goneW r v := sum_pos _ _ fun q hq => by have := (h.1.1 q (List.mem_filter.mp hq).1).1; omega
theorem weak_sm {m : Int} {r : Row} (h : RowOk m r) (hs : SmR r) (v : Int) : SmR (weakF r v) := by
  refine ⟨fun q hq => hs.1 q (List.mem_filter.mp hq).1, max0_nn, ?_⟩
  have := gone_nn h v
  have h1 : max0 (r.2 - goneW r v) ≤ r.2 := max0_le (by omega) hs.2.1
  have := hs.2.2
  show max0 (r.2 - goneW r v) < tenFt
  omega
theorem div_sm {m : Int} {r : Row} (h : RowOk m r) (hs : SmR r) {n : Int} (hn : 1 ≤ n) (h2 : RowOk m (divF r n)) : SmR (divF r n) := by
  refine ⟨fun q hq => ⟨(h2.1.1 q hq).1, ?_⟩, h2.2, ?_⟩
  · obtain ⟨p, hp, rfl⟩ := List.mem_map.mp hq
    have := hs.1 p hp
    have := cdiv_le_self (a := p.1) (n := n) (by omega) hn
    show cdiv p.1 n < tenFt
    omega
  · have := cdiv_le_self (a := r.2) (n := n) hs.2.1 hn
    have := hs.2.2
    show cdiv r.2 n < tenFt
    omega
theorem step_one {b : Book} {r : Row} {i : Ins} (h : takeN i = 1) (hb : bigR (madeF b [r] i) = false) : stepL b [r] i = some [madeF b [r] i] := by
  unfold stepL
  rw [if_neg (by rw [h]; decide), if_neg (by simp)]
  show (if bigR (madeF b [r] i) = true then none else some ([] ++ [madeF b [r] i])) = _
  rw [hb]; rfl
/-- the row, with some variables weakened away -/
def wk (r : Row) (vs : List Int) : Row := vs.foldl weakF r
theorem runs_down {m : Int} {b : Book} {d : Int} (hd1 : 1 ≤ d) (hdT : d ≤ tenFt) : ∀ (vs : List Int) (r : Row), RowOk m r → SmR r → (∀ v, v ∈ vs → 1 ≤ v ∧ v ≤ m) →
    runL b [r] (vs.map Ins.weak ++ [Ins.divd d]) = some [divF (wk r vs) d] ∧ RowOk m (divF (wk r vs) d) ∧ SmR (divF (wk r vs) d) ∧ ∀ f, FilOk m f → holds r f = true → holds (divF (wk r vs) d) f = true
  | [], r, hr, hs, hv => by
    have e : madeF b [r] (.divd d) = divF r d := rfl
    have hi : InsOk m b (.divd d) := ⟨hd1, hdT⟩
    have ho := chg_ok (i := .divd d) rfl hi hr (sm_big (m := m) hs)
    rw [e] at ho
    have hs2 := div_sm hr hs hd1 ho
    refine ⟨?_, ho, hs2, fun f hf hh => ?_⟩
    · show (match stepL b [r] (.divd d) with
        | none => none
        | some st' => runL b st' []) = _
      rw [step_one (i := .divd d) rfl (by rw [e]; exact sm_big (m := m) hs2)]
      rfl
    · refine made_holds (b := []) (tk := [r]) (i := .divd d) hf (fun i r e => by simp [bookGet] at e) ⟨hd1, hdT⟩ rfl (fun u hu => ?_) (fun u hu => ?_)
      · rw [List.mem_singleton] at hu; subst hu; exact ⟨hr, sm_big (m := m) hs⟩
      · rw [List.mem_singleton] at hu; subst hu; exact hh
  | v :: vs, r, hr, hs, hv => by
    have e : madeF b [r] (.weak v) = weakF r v := rfl
    have hi : InsOk m b (.weak v) := hv v (by simp)
    have ho := chg_ok (i := .weak v) rfl hi hr (sm_big (m := m) hs)
    rw [e] at ho
    have hs2 := weak_sm hr hs v
    obtain ⟨h1, h2, h3, h4⟩ := runs_down (b := b) hd1 hdT vs (weakF r v) ho hs2 fun u hu => hv u (List.mem_cons_of_mem _ hu)
    refine ⟨?_, h2, h3, fun f hf hh => h4 f hf ?_⟩
    · show (match stepL b [r] (.weak v) with
        | none => none
        | some st' => runL b st' (vs.map Ins.weak ++ [Ins.divd d])) = _
      rw [step_one (i := .weak v) rfl (by rw [e]; exact sm_big (m := m) hs2)]
      exact h1
    · refine made_holds (b := []) (tk := [r]) (i := .weak v) hf (fun i r e => by simp [bookGet] at e) (hv v (by simp)) rfl (fun u hu => ?_) (fun u hu => ?_)
      · rw [List.mem_singleton] at hu; subst hu; exact ⟨hr, sm_big (m := m) hs⟩
      · rw [List.mem_singleton] at hu; subst hu; exact hh
/-! ### the row that results is the row cut -/
theorem one_sum {p : Int × Int → Bool} {n : Nat} (hp : ∀ q, p q = true → q.2.natAbs = n) : ∀ {ts : Ts} {q : Int × Int}, ts.Pairwise (fun a b => a.2.natAbs < b.2.natAbs) → q ∈ ts → p q = true → ((ts.filter p).map (·.1)).sum = q.1
  | [], q, _, hq, _ => by simp at hq
  | x :: ts, q, hs, hq, h => by
    rw [List.pairwise_cons] at hs
    rcases List.mem_cons.mp hq with rfl | hq
    · rw [List.filter_cons_of_pos h]
      have e : ts.filter p = [] := List.filter_eq_nil_iff.mpr fun y hy hpy => by
        have := hs.1 y hy
        rw [hp _ h, hp _ hpy] at this
        omega
      rw [e]; simp
    · have hx : p x ≠ true := fun hx => by
        have := hs.1 q hq
        rw [hp _ h, hp _ hx] at this
        omega
      rw [List.filter_cons_of_neg hx]
      exact one_sum hp hs.2 hq h
theorem wOf_one {m : Int} {ts : Ts} {q : Int × Int} {l : Int} (h : TsOk m ts) (hq : q ∈ ts) (e : q.2 = l) : wOf ts l = q.1 := one_sum (n := l.natAbs) (fun p hp => by rw [of_decide_eq_true hp]) h.2 hq (decide_eq_true e)
theorem gone_one {m : Int} {r : Row} {q : Int × Int} {v : Int} (h : RowOk m r) (hq : q ∈ r.1) (e : absI q.2 = v) : goneW r v = q.1 := one_sum (n := v.natAbs) (fun p hp => by have := of_decide_eq_true hp; rw [absI_nat] at this; omega) h.1.2 hq (decide_eq_true e)
theorem wk_eq {m : Int} : ∀ (os : Ts) (r : Row), RowOk m r → (∀ q, q ∈ os → q ∈ r.1) → os.Pairwise (fun a b => a.2.natAbs < b.2.natAbs) →
    wk r (os.map fun q => absI q.2) = (r.1.filter (fun q => !decide (absI q.2 ∈ os.map fun q => absI q.2)), os.foldl (fun b q => max0 (b - q.1)) r.2)
  | [], r, hr, ho, hp => by
    show r = (r.1.filter _, r.2)
    rw [List.filter_eq_self.mpr fun q hq => by simp]
  | q :: os, r, hr, ho, hp => by
    rw [List.pairwise_cons] at hp
    have hq := ho q (by simp)
    have hw : RowOk m (weakF r (absI q.2)) := ⟨⟨fun p hp => hr.1.1 p (List.mem_filter.mp hp).1, hr.1.2.filter _⟩, max0_nn⟩
    have ih := wk_eq os (weakF r (absI q.2)) hw (fun p hpp => by
      refine List.mem_filter.mpr ⟨ho p (List.mem_cons_of_mem _ hpp), ?_⟩
      have := hp.1 p hpp
      rw [Bool.not_eq_true', decide_eq_false_iff_not, absI_nat, absI_nat]; omega) hp.2
    show wk (weakF r (absI q.2)) (os.map fun q => absI q.2) = _
    rw [ih]
    have eg : (weakF r (absI q.2)).2 = max0 (r.2 - q.1) := by
      show max0 (r.2 - goneW r (absI q.2)) = _
      rw [gone_one hr hq rfl]
    rw [eg]
    show ((r.1.filter fun p => !decide (absI p.2 = absI q.2)).filter _, _) = _
    rw [List.filter_filter, List.foldl_cons]
    congr 1
    refine List.filter_congr fun p hpp => ?_
    rw [List.map_cons, Bool.eq_iff_iff]
    simp only [Bool.and_eq_true, Bool.not_eq_true', decide_eq_false_iff_not, List.mem_cons, not_or]
    exact and_comm
theorem foldl_filter2 {α β : Type} (p : α → Bool) (f : β → α → β) : ∀ (l : List α) (b : β), (l.filter p).foldl f b = l.foldl (fun b x => if p x = true then f b x else b) b
  | [], b => rfl
  | x :: l, b => by
    cases h : p x with
    | true => rw [List.filter_cons_of_pos h, List.foldl_cons, List.foldl_cons, foldl_filter2 p f l, if_pos h]
    | false => rw [List.filter_cons_of_neg (by rw [h]; exact Bool.false_ne_true), List.foldl_cons, foldl_filter2 p f l, if_neg (by rw [h]; exact Bool.false_ne_true)]
theorem ts_inj {ts : Ts} (h : ts.Pairwise (fun a b => a.2.natAbs < b.2.natAbs)) {p q : Int × Int} (hp : p ∈ ts) (hq : q ∈ ts) (e : p.2.natAbs = q.2.natAbs) : p = q := by
  induction ts with
  | nil => simp at hp
  | cons x ts ih =>
    rw [List.pairwise_cons] at h
    rcases List.mem_cons.mp hp with h1 | h1 <;> rcases List.mem_cons.mp hq with h2 | h2
    · rw [h1, h2]
    · have := h.1 q h2; rw [h1] at e; omega
    · have := h.1 p h1; rw [h2] at e; omega
    · exact ih h.2 h1 h2
theorem cut_wk {m : Int} {r : Row} {ls : List Int} {l : Int} (hr : RowOk m r) : divF (wk r ((r.1.filter fun q => outB ls (wOf r.1 l) l q).map fun q => absI q.2)) (wOf r.1 l) = cutF ls r l := by
  rw [wk_eq _ r hr (fun q hq => (List.mem_filter.mp hq).1) (hr.1.2.filter _)]
  unfold divF cutF cutT cutB
  rw [foldl_filter2]
  congr 2
  refine List.filter_congr fun p hpp => ?_
  congr 1
  rw [Bool.eq_iff_iff, decide_eq_true_eq, List.mem_map]
  constructor
  · rintro ⟨q, hq, e⟩
    rw [List.mem_filter] at hq
    rw [absI_nat, absI_nat] at e
    rw [← ts_inj hr.1.2 hq.1 hpp (by omega)]
    exact hq.2
  · intro h
    exact ⟨p, List.mem_filter.mpr ⟨hpp, h⟩, rfl⟩
theorem moves_run {m : Int} {r : Row} {ls : List Int} {l : Int} (hr : RowOk m r) (hs : SmR r) (hd1 : 1 ≤ wOf r.1 l) (hdT : wOf r.1 l ≤ tenFt) :
    runL [(7, r)] [] (.row 7 :: movesF ls r l) = some [cutF ls r l] ∧ RowOk m (cutF ls r l) ∧ SmR (cutF ls r l) ∧ ∀ f, FilOk m f → holds r f = true → holds (cutF ls r l) f = true := by
  have h := runs_down (m := m) (b := [(7, r)]) hd1 hdT ((r.1.filter fun q => outB ls (wOf r.1 l) l q).map fun q => absI q.2) r hr hs fun v hv => by
    obtain ⟨q, hq, rfl⟩ := List.mem_map.mp hv
    have := (hr.1.1 q (List.mem_filter.mp hq).1).2
    rw [absI_nat]
    obtain ⟨a, b, c⟩ := this
    omega
  rw [cut_wk hr] at h
  refine ⟨?_, h.2⟩
  have e : movesF ls r l = ((r.1.filter fun q => outB ls (wOf r.1 l) l q).map fun q => absI q.2).map Ins.weak ++ [Ins.divd (wOf r.1 l)] := by
    unfold movesF; rw [List.map_map]; rfl
  rw [e]
  exact h.1
/-! ### what it leaves over -/
theorem cutB_zero {ls : List Int} {d l : Int} : ∀ {ts : Ts}, (∀ q, q ∈ ts → 1 ≤ q.1) → cutB ls d l 0 ts = 0
  | [], _ => rfl
  | q :: ts, h => by
    show cutB ls d l (if outB ls d l q = true then max0 (0 - q.1) else 0) ts = 0
    have h1 := h q (by simp)
    have e : (if outB ls d l q = true then max0 (0 - q.1) else (0 : Int)) = 0 := by
      split
      · unfold max0; rw [if_neg (by omega)]
      · rfl
    rw [e]
    exact cutB_zero fun p hp => h p (List.mem_cons_of_mem _ hp)
def leftN (ls : List Int) (d l : Int) (ts : Ts) : Int := (((ts.filter fun q => !outB ls d l q).filter fun q => !decide (-q.2 ∈ ls)).map (·.1)).sum
def leftS (ls : List Int) (ts : Ts) : Int := ((ts.filter fun q => !decide (-q.2 ∈ ls)).map (·.1)).sum
theorem cut_bal {ls : List Int} {d l : Int} : ∀ {ts : Ts} {b : Int}, (∀ q, q ∈ ts → 1 ≤ q.1) → 0 ≤ b → 0 ≤ cutB ls d l b ts ∧ leftN ls d l ts - cutB ls d l b ts ≤ leftS ls ts - b ∧ (leftN ls d l ts - cutB ls d l b ts = leftS ls ts - b ∨ cutB ls d l b ts = 0)
  | [], b, _, hb => ⟨hb, Int.le_refl _, .inl rfl⟩
  | q :: ts, b, h, hb => by
    have h1 := h q (by simp)
    have h' : ∀ p, p ∈ ts → 1 ≤ p.1 := fun p hp => h p (List.mem_cons_of_mem _ hp)
    have eB : cutB ls d l b (q :: ts) = cutB ls d l (if outB ls d l q = true then max0 (b - q.1) else b) ts := rfl
    rw [eB]
    cases ho : outB ls d l q with
    | true =>
      rw [if_pos rfl]
      have hf : decide (-q.2 ∈ ls) = false := by
        unfold outB at ho
        rw [Bool.and_eq_true, Bool.and_eq_true] at ho
        simpa using ho.2.2
      have eN : leftN ls d l (q :: ts) = leftN ls d l ts := by unfold leftN; rw [List.filter_cons_of_neg (by rw [ho]; decide)]
      have eS : leftS ls (q :: ts) = q.1 + leftS ls ts := by unfold leftS; rw [List.filter_cons_of_pos (by rw [hf]; rfl), List.map_cons, List.sum_cons]
      obtain ⟨i0, i1, i2⟩ := cut_bal (ls := ls) (d := d) (l := l) h' (max0_nn (x := b - q.1))
      rw [eN, eS]
      by_cases hx : b - q.1 > 0
      · have e : max0 (b - q.1) = b - q.1 := by unfold max0; rw [if_pos hx]
        rw [e] at i0 i1 i2 ⊢
        exact ⟨i0, by omega, by omega⟩
      · have e : max0 (b - q.1) = 0 := by unfold max0; rw [if_neg hx]
        rw [e] at i0 i1 i2 ⊢
        have := cutB_zero (ls := ls) (d := d) (l := l) h'
        exact ⟨i0, by omega, .inr this⟩
    | false =>
      rw [if_neg Bool.false_ne_true]
      obtain ⟨i0, i1, i2⟩ := cut_bal (ls := ls) (d := d) (l := l) h' hb
      by_cases hf : -q.2 ∈ ls
      · have eN : leftN ls d l (q :: ts) = leftN ls d l ts := by unfold leftN; rw [List.filter_cons_of_pos (by rw [ho]; rfl), List.filter_cons_of_neg (by simp [hf])]
        have eS : leftS ls (q :: ts) = leftS ls ts := by unfold leftS; rw [List.filter_cons_of_neg (by simp [hf])]
        rw [eN, eS]; exact ⟨i0, i1, i2⟩
      · have eN : leftN ls d l (q :: ts) = q.1 + leftN ls d l ts := by unfold leftN; rw [List.filter_cons_of_pos (by rw [ho]; rfl), List.filter_cons_of_pos (by simp [hf]), List.map_cons, List.sum_cons]
        have eS : leftS ls (q :: ts) = q.1 + leftS ls ts := by unfold leftS; rw [List.filter_cons_of_pos (by simp [hf]), List.map_cons, List.sum_cons]
        rw [eN, eS]; exact ⟨i0, by omega, by omega⟩
theorem cdiv_dvd {a d : Int} (hd : 0 < d) (h : a % d = 0) : cdiv a d * d = a := by
  unfold cdiv
  have h1 : d ∣ a := Int.dvd_of_emod_eq_zero h
  obtain ⟨k, rfl⟩ := h1
  rw [← Int.mul_neg, Int.mul_ediv_cancel_left _ (by omega), Int.neg_neg, Int.mul_comm]
theorem left_cut {ls : List Int} {d l : Int} (hd : 0 < d) : ∀ {ts : Ts}, (∀ q, q ∈ ts → q.2 = l → q.1 = d) → leftS ls (cutT ls d l ts) * d = leftN ls d l ts
  | [], _ => by unfold leftS cutT leftN; simp
  | q :: ts, h => by
    have ih := left_cut (ls := ls) hd fun p hp => h p (List.mem_cons_of_mem _ hp)
    cases ho : outB ls d l q with
    | true =>
      have eT : cutT ls d l (q :: ts) = cutT ls d l ts := by unfold cutT; rw [List.filter_cons_of_neg (by rw [ho]; decide)]
      have eN : leftN ls d l (q :: ts) = leftN ls d l ts := by unfold leftN; rw [List.filter_cons_of_neg (by rw [ho]; decide)]
      rw [eT, eN]; exact ih
    | false =>
      have eT : cutT ls d l (q :: ts) = (cdiv q.1 d, q.2) :: cutT ls d l ts := by unfold cutT; rw [List.filter_cons_of_pos (by rw [ho]; rfl), List.map_cons]
      rw [eT]
      by_cases hf : -q.2 ∈ ls
      · have eN : leftN ls d l (q :: ts) = leftN ls d l ts := by unfold leftN; rw [List.filter_cons_of_pos (by rw [ho]; rfl), List.filter_cons_of_neg (by simp [hf])]
        have eS : leftS ls ((cdiv q.1 d, q.2) :: cutT ls d l ts) = leftS ls (cutT ls d l ts) := by unfold leftS; rw [List.filter_cons_of_neg (by simp [hf])]
        rw [eN, eS]; exact ih
      · have eN : leftN ls d l (q :: ts) = q.1 + leftN ls d l ts := by unfold leftN; rw [List.filter_cons_of_pos (by rw [ho]; rfl), List.filter_cons_of_pos (by simp [hf]), List.map_cons, List.sum_cons]
        have eS : leftS ls ((cdiv q.1 d, q.2) :: cutT ls d l ts) = cdiv q.1 d + leftS ls (cutT ls d l ts) := by unfold leftS; rw [List.filter_cons_of_pos (by simp [hf]), List.map_cons, List.sum_cons]
        rw [eN, eS, Int.add_mul, ih]
        have hm : q.1 % d = 0 := by
          by_cases hl : q.2 = l
          · rw [h q (by simp) hl]; exact Int.emod_self
          · unfold outB at ho
            simpa [hl, hf] using ho
        rw [cdiv_dvd hd hm]
theorem slk_eq (r : Row) (ls : List Int) : slk r ls = leftS ls r.1 - r.2 := rfl
theorem cut_slack {m : Int} {r : Row} {ls : List Int} {l : Int} (hr : RowOk m r) (hd1 : 1 ≤ wOf r.1 l) (h : slk r ls < 0) : slk (cutF ls r l) ls < 0 := by
  obtain ⟨b0, b1, _⟩ := cut_bal (ls := ls) (d := wOf r.1 l) (l := l) (ts := r.1) (b := r.2) (fun q hq => (hr.1.1 q hq).1) hr.2
  have hk := left_cut (ls := ls) (d := wOf r.1 l) (l := l) (by omega) (ts := r.1) fun q hq e => (wOf_one hr.1 hq e).symm
  rw [slk_eq] at h
  rw [slk_eq]
  show leftS ls (cutT ls (wOf r.1 l) l r.1) - cdiv (cutB ls (wOf r.1 l) l r.2 r.1) (wOf r.1 l) < 0
  generalize wOf r.1 l = d at *
  generalize cutB ls d l r.2 r.1 = B at *
  generalize leftS ls (cutT ls d l r.1) = k at *
  have hB := cdiv_mul (a := B) (n := d) (by omega)
  have : k * d < cdiv B d * d := by omega
  have := Int.lt_of_mul_lt_mul_right this (by omega)
  omega
theorem cut_forced {m : Int} {r : Row} {ls : List Int} {l : Int} (hr : RowOk m r) (hd1 : 1 ≤ wOf r.1 l) (h : l ∈ frc r ls) : slk (cutF ls r l) ls = 0 ∧ wOf (cutF ls r l).1 l = 1 := by
  unfold frc at h
  by_cases h0 : slk r ls < 0
  · rw [if_pos h0] at h; simp at h
  rw [if_neg h0] at h
  obtain ⟨q, hq, hql⟩ := List.mem_map.mp h
  obtain ⟨hq1, hq2⟩ := List.mem_filter.mp hq
  have hqr := (List.mem_filter.mp hq1).1
  have hgt := of_decide_eq_true hq2
  have hqd := wOf_one hr.1 hqr hql
  obtain ⟨b0, b1, b2⟩ := cut_bal (ls := ls) (d := wOf r.1 l) (l := l) (ts := r.1) (b := r.2) (fun q hq => (hr.1.1 q hq).1) hr.2
  have hk := left_cut (ls := ls) (d := wOf r.1 l) (l := l) (by omega) (ts := r.1) fun q hq e => (wOf_one hr.1 hq e).symm
  have n0 : 0 ≤ leftN ls (wOf r.1 l) l r.1 := sum_pos _ _ fun p hp => by
    have := (hr.1.1 p (List.mem_filter.mp (List.mem_filter.mp hp).1).1).1; omega
  rw [slk_eq] at h0 hgt
  constructor
  · rw [slk_eq]
    show leftS ls (cutT ls (wOf r.1 l) l r.1) - cdiv (cutB ls (wOf r.1 l) l r.2 r.1) (wOf r.1 l) = 0
    rw [← hqd] at hgt
    clear hqd
    generalize wOf r.1 l = d at *
    generalize cutB ls d l r.2 r.1 = B at *
    generalize leftS ls (cutT ls d l r.1) = k at *
    have hB := cdiv_mul (a := B) (n := d) (by omega)
    have u1 : cdiv B d ≤ k := cdiv_le (by omega) (by omega)
    have u2 : ¬ cdiv B d ≤ k - 1 := fun hle => by
      have : cdiv B d * d ≤ (k - 1) * d := Int.mul_le_mul_of_nonneg_right hle (by omega)
      rw [Int.sub_mul] at this
      omega
    omega
  · have ho : outB ls (wOf r.1 l) l q = false := by unfold outB; rw [decide_eq_true hql]; rfl
    have hm : ((cdiv q.1 (wOf r.1 l), q.2) : Int × Int) ∈ (cutF ls r l).1 := List.mem_map.mpr ⟨q, List.mem_filter.mpr ⟨hqr, by rw [ho]; rfl⟩, rfl⟩
    have hp : (cutF ls r l).1.Pairwise (fun a b => a.2.natAbs < b.2.natAbs) := by
      show (cutT ls (wOf r.1 l) l r.1).Pairwise _
      unfold cutT
      rw [List.pairwise_map]
      exact hr.1.2.filter _
    have e : wOf (cutF ls r l).1 l = cdiv q.1 (wOf r.1 l) := one_sum (n := l.natAbs) (fun p hp => by rw [of_decide_eq_true hp]) hp hm (decide_eq_true hql)
    rw [e, hqd]
    have := cdiv_dvd (a := q.1) (d := q.1) (by omega) Int.emod_self
    have h2 : cdiv q.1 q.1 * q.1 = 1 * q.1 := by omega
    exact Int.eq_of_mul_eq_mul_right (a := q.1) (by omega) h2
end Zz

set_option Elab.async false
set_option linter.all false
set_option maxRecDepth 100000
set_option maxHeartbeats 2000000
namespace Zz
open PySem PySem.Spec PyProof.Rows L2

/-! ### clauses of rows that bar -/
def g_literals_right : SpZ := fun ds M Q => ∃ m d, ds = [.int m, d] ∧ LsDat M d ∧ Q (.bl (litsR m d)) M
theorem r_literals_right {K : PySem.W.Frag} {c_WitnessError : Addr} {c_BadLiterals : Addr} {c_BadMany : Addr} {c_BadRow : Addr} {P_law : Addr} (ds : List D) (M : MM) (Q : D → MM → Prop) (hl : ds.length = 2) (h : g_literals_right ds M Q) : t_literals_right K c_WitnessError c_BadLiterals c_BadMany c_BadRow P_law g_is_list g_literal_right { nx := fun _ M' => Post Q .non M', rt := Post Q } (startZ 3 ds) M := by
  obtain ⟨m, d, rfl, ⟨⟨k, hk⟩, hr, hx⟩, q⟩ := h
  show t_literals_right K c_WitnessError c_BadLiterals c_BadMany c_BadRow P_law _ _ _ [some (.int m), some d, none] M
  cases hd : itemsOf d with
  | none =>
    have e : litsR m d = false := by unfold litsR; rw [hd]
    rw [e] at q
    have hl : ([Kd.lst, Kd.tup].any (isK k)) = false := by
      cases d with
      | tup _ => cases hd
      | lst _ => cases hd
      | ref a => exact absurd rfl (hr a)
      | _ => simp only [kdOf] at hk <;> first | (cases hk; done) | (obtain rfl := Option.some.inj hk; rfl)
    have T1 : EvT (zNot (zTst (zFn 1 g_is_list (zaCons (zVar 1) zaNil)))) [some (.int m), some d, none] M true := by
      have := ev_not (test := zTst (zFn 1 g_is_list (zaCons (zVar 1) zaNil))) (env := [some (.int m), some d, none]) (M := M) (b := [Kd.lst, Kd.tup].any (isK k)) (fun Q k' => st_tst (st_fn1 (var_use rfl ⟨d, k, rfl, hk, k'⟩)))
      rwa [hl] at this
    exact ss_hit (ev_or_t T1) (st_ret (st_c (.self q)))
  | some xs =>
    obtain ⟨hlen, hkn⟩ := hx xs hd
    have hsd : SeqD d xs := by
      cases d with
      | tup _ => cases hd; exact .inl rfl
      | lst _ => cases hd; exact .inr rfl
      | _ => cases hd
    have hl : ([Kd.lst, Kd.tup].any (isK k)) = true := by
      cases d with
      | tup _ => obtain rfl := Option.some.inj hk; rfl
      | lst _ => obtain rfl := Option.some.inj hk; rfl
      | _ => cases hd
    have T1 : EvT (zNot (zTst (zFn 1 g_is_list (zaCons (zVar 1) zaNil)))) [some (.int m), some d, none] M false := by
      have := ev_not (test := zTst (zFn 1 g_is_list (zaCons (zVar 1) zaNil))) (env := [some (.int m), some d, none]) (M := M) (b := [Kd.lst, Kd.tup].any (isK k)) (fun Q k' => st_tst (st_fn1 (var_use rfl ⟨d, k, rfl, hk, k'⟩)))
      rwa [hl] at this
    have T2 : EvT (zNot (zTst (zCall (rzBls fun ns => .bl (ns.all id)) (zaCons (zComp (iSeq K (zVar 1)) (.nm 2) [2] zYes (zFn 2 g_literal_right (zaCons (zVar 0) (zaCons (zVar 2) zaNil)))) zaNil)))) [some (.int m), some d, none] M (!(xs.all (litR m))) := ev_not (fun Q k' => st_tst (st_call1 (comp_s (fun x : D => x) (fun x => .bl (litR m x)) xs (fun Q k => var_use rfl k) (by rw [List.map_id']; exact hsd) (fun x hxx => ⟨_, rfl, fun Q k => by
      obtain ⟨kx, hkx⟩ := hkn x hxx
      exact st_fn2 (var_use rfl (var_use rfl ⟨x, kx, m, rfl, hkx, k⟩))⟩) (by
        simp only [rzBls, view, blsOf_f (fun x => litR m x), List.all_map]
        exact k'))))
    cases hall : xs.all (litR m) with
    | false =>
      have e : litsR m d = false := by unfold litsR; rw [hd]; simp only [hall, Bool.false_and]
      rw [e] at q
      rw [hall] at T2
      exact ss_hit (ev_or_tt T1 T2) (st_ret (st_c (.self q)))
    | true =>
      rw [hall] at T2
      refine ss_chk (ev_or_f T1 T2) ?_
      obtain ⟨ls, rfl, hls⟩ := all_lit hall
      have e : litsR m d = decide ((ls.map absI).Nodup) := by unfold litsR; rw [hd]; simp only [hall, toLs_map, Bool.true_and]
      rw [e] at q
      refine st_ret (st_bin ?_)
      refine (show zLenSC (iSeq K (zVar 1)) (.nm 2) [2] zYes (zCall (rzInt1 fun i => .int (if i < 0 then -i else i)) (zaCons (zVar 2) zaNil)) _ M _ from iSeq_of (xs := ls.map D.int) (d := d) (fun Q k => var_use rfl k) hsd ⟨by omega, ?_⟩)
      refine compGo_all D.int (fun l => .int (absI l)) trivial ls (fun l hl => ⟨_, rfl, fun Q k => (show zCall (rzInt1 fun i => .int (if i < 0 then -i else i)) (zaCons (zVar 2) zaNil) _ M _ from st_call1 (var_use (d := .int l) rfl ⟨⟨_, rfl⟩, k⟩))⟩) fun ns hns c hc hcn => ?_
      have ens : ns = ls.map absI := by
        have : ls.map (fun l => D.int (absI l)) = (ls.map absI).map D.int := by rw [List.map_map]; rfl
        rw [this] at hns
        exact (map_inj (fun _ _ => D.int.inj) hns).symm
      subst ens
      rw [List.length_map] at hc
      have hlD : ∀ Q : D → MM → Prop, Q (.int (ls.length : Nat)) M → zCall (rzLen K) (zaCons (zVar 1) zaNil) [some (.int m), some d, none] M Q := fun Q k => by
        rcases hsd with rfl | rfl
        · have := ev_lenT (K := K) (env := [some (.int m), some (.tup (ls.map D.int)), none]) (M := M) (Ta := zVar 1) (fun Q k => var_use rfl k) Q
          rw [List.length_map] at this
          exact this k
        · have := ev_lenL (K := K) (env := [some (.int m), some (.lst (ls.map D.int)), none]) (M := M) (Ta := zVar 1) (fun Q k => var_use rfl k) Q
          rw [List.length_map] at this
          exact this k
      refine hlD _ ⟨ok_int _ _, ok_int _ _, ?_⟩
      simp only [view, deq_int]
      have ee : decide (((c : Nat) : Int) = (ls.length : Nat)) = decide ((ls.map absI).Nodup) := by
        rw [decide_eq_decide, ← hcn, List.length_map]; omega
      rw [ee]
      exact .self q
def prt (r : Row) (ls : List Int) : List Int := (r.1.filter fun q => decide (-q.2 ∈ ls)).map (·.2)
def stps (n : Int) (r : Row) (ls : List Int) : List Ins := .row n :: ((r.1.filter fun q => !decide (-q.2 ∈ ls)).map (fun q => .weak (absI q.2)) ++ [.cap, .divd (-slk r ls)])
def clR (r : Row) (ls : List Int) : Row := ((prt r ls).map fun k => (1, k), 1)
def clD (r : Row) (ls : List Int) : D := if slk r ls ≥ 0 then .non else .tup [.lst ((stps 0 r ls).map insD), rowD (clR r ls)]
def g_room : SpZ := fun ds M Q => ∃ r gd ls, ds = [rowD r, gd] ∧ seqOf M gd = some (List.map D.int ls) ∧ Q (.int (slk r ls)) M
theorem r_room {K : PySem.W.Frag} {c_WitnessError : Addr} {c_BadLiterals : Addr} {c_BadMany : Addr} {c_BadRow : Addr} {P_law : Addr} (ds : List D) (M : MM) (Q : D → MM → Prop) (hl : ds.length = 2) (h : g_room ds M Q) : t_room K c_WitnessError c_BadLiterals c_BadMany c_BadRow P_law { nx := fun _ M' => Post Q .non M', rt := Post Q } (startZ 4 ds) M := by
  obtain ⟨r, gd, ls, rfl, hs, q⟩ := h
  show t_room K c_WitnessError c_BadLiterals c_BadMany c_BadRow P_law _ [some (rowD r), some gd, none, none] M
  refine st_ret (st_bin ?_)
  refine sum_f prD (fun q => q.1) (fun q => !decide (-q.2 ∈ ls)) r.1 (row_get0 r fun Q k => var_use rfl k) (.inl rfl) (fun q hq => ⟨_, rfl, ev_ninL (ev_neg fun Q k => var_use rfl k) (fun Q k => var_use (d := gd) rfl k) hs rfl, fun _ Q k => var_use rfl k⟩) ?_
  refine row_get1 r (fun Q k => var_use rfl k) _ ?_
  exact .self q
def g_clause_parts : SpZ := fun ds M Q => ∃ r gd ls, ds = [rowD r, gd] ∧ seqOf M gd = some (List.map D.int ls) ∧ Q (.lst ((prt r ls).map D.int)) M
theorem r_clause_parts {K : PySem.W.Frag} {c_WitnessError : Addr} {c_BadLiterals : Addr} {c_BadMany : Addr} {c_BadRow : Addr} {P_law : Addr} (ds : List D) (M : MM) (Q : D → MM → Prop) (hl : ds.length = 2) (h : g_clause_parts ds M Q) : t_clause_parts K c_WitnessError c_BadLiterals c_BadMany c_BadRow P_law { nx := fun _ M' => Post Q .non M', rt := Post Q } (startZ 4 ds) M := by
  obtain ⟨r, gd, ls, rfl, hs, q⟩ := h
  show t_clause_parts K c_WitnessError c_BadLiterals c_BadMany c_BadRow P_law _ [some (rowD r), some gd, none, none] M
  refine st_ret (comp_f prD (fun q => .int q.2) (fun q => decide (-q.2 ∈ ls)) r.1 (row_get0 r fun Q k => var_use rfl k) (.inl rfl) (fun q hq => ⟨_, rfl, ev_inL (ev_neg fun Q k => var_use rfl k) (fun Q k => var_use (d := gd) rfl k) hs rfl, fun _ Q k => var_use rfl k⟩) ?_)
  unfold prt at q
  rw [List.map_map] at q
  exact .self q
def g_clause_steps : SpZ := fun ds M Q => ∃ n r gd ls, ds = [.int n, rowD r, gd] ∧ seqOf M gd = some (List.map D.int ls) ∧ r.1.length ≤ 100 ∧ Q (.lst ((stps n r ls).map insD)) M
theorem r_clause_steps {K : PySem.W.Frag} {c_WitnessError : Addr} {c_BadLiterals : Addr} {c_BadMany : Addr} {c_BadRow : Addr} {P_law : Addr} (ds : List D) (M : MM) (Q : D → MM → Prop) (hl : ds.length = 3) (h : g_clause_steps ds M Q) : t_clause_steps K c_WitnessError c_BadLiterals c_BadMany c_BadRow P_law g_room { nx := fun _ M' => Post Q .non M', rt := Post Q } (startZ 6 ds) M := by
  obtain ⟨n, r, gd, ls, rfl, hs, hlen, q⟩ := h
  show t_clause_steps K c_WitnessError c_BadLiterals c_BadMany c_BadRow P_law _ _ [some (.int n), some (rowD r), some gd, none, none, none] M
  refine ss_set (comp_f prD (fun p => insD (.weak (absI p.2))) (fun q => !decide (-q.2 ∈ ls)) r.1 (row_get0 r fun Q k => var_use rfl k) (.inl rfl) (fun q hq => ⟨_, rfl, ev_ninL (ev_neg fun Q k => var_use rfl k) (fun Q k => var_use (d := gd) rfl k) hs rfl, fun _ Q k => st_tup2 (st_c (st_call1 (var_use rfl k)))⟩) ?_)
  dsimp only [List.set_cons_zero, List.set_cons_succ]
  refine st_ret ?_
  refine (show zaCons (zTup (zaCons (zC (.str "row")) (zaCons (zVar 0) zaNil))) _ _ M _ from ta_cons (st_tup2 (st_c (var_use rfl ?_))))
  refine (show zaStar _ _ _ M _ from var_use rfl ?_)
  simp only [seqOf, view]
  refine ta_cons (st_tupA (st_c (ta_cons (st_tup2 (st_c (ev_neg (fun Q k => st_fn2 (var_use rfl (var_use rfl ⟨r, gd, ls, rfl, hs, k⟩))) _ (ta_nil ⟨?_, ?_⟩))))))) 
  · have := List.length_filter_le (fun q : Int × Int => !decide (-q.2 ∈ ls)) r.1
    simp only [List.length_append, List.length_map, List.length_cons, List.length_nil]; omega
  · have e : (stps n r ls).map insD = insD (.row n) :: ((r.1.filter fun q => !decide (-q.2 ∈ ls)).map (fun p => insD (.weak (absI p.2))) ++ [insD .cap, insD (.divd (-slk r ls))]) := by
      unfold stps
      rw [List.map_cons, List.map_append, List.map_map]; rfl
    rw [e] at q
    exact .self q
def g_clause_row : SpZ := fun ds M Q => ∃ ks : List Int, ds = [.lst (ks.map D.int)] ∧ Q (rowD (ks.map (fun k => (1, k)), 1)) M
theorem r_clause_row {K : PySem.W.Frag} {c_WitnessError : Addr} {c_BadLiterals : Addr} {c_BadMany : Addr} {c_BadRow : Addr} {P_law : Addr} (ds : List D) (M : MM) (Q : D → MM → Prop) (hl : ds.length = 1) (h : g_clause_row ds M Q) : t_clause_row K c_WitnessError c_BadLiterals c_BadMany c_BadRow P_law { nx := fun _ M' => Post Q .non M', rt := Post Q } (startZ 2 ds) M := by
  obtain ⟨ks, rfl, q⟩ := h
  show t_clause_row K c_WitnessError c_BadLiterals c_BadMany c_BadRow P_law _ [some (.lst (ks.map D.int)), none] M
  refine st_ret (st_tup2 (st_call1 ?_))
  refine comp_s D.int (fun k => prD (1, k)) ks (fun Q k => var_use rfl k) (.inr rfl) (fun k hk => ⟨_, rfl, fun Q k => st_tup2 (st_c (var_use rfl k))⟩) ?_
  simp only [rzTuple, view]
  refine st_c ?_
  exact post_row (r := (ks.map (fun k => (1, k)), 1)) (by unfold tsD; rw [List.map_map]; rfl) rfl q
structure ClArgs (md rd d : D) (m : Int) (r : Row) (b : Bool) (ls : List Int) : Prop where
  em : md = .int m
  mo : MOk m
  er : rd = rowD r
  ro : RowOk m r
  el : d = litsD b ls
  lo : LsOk m ls
def g_clause_of (cM cR cL : Addr) : SpZ := fun ds M Q => ∃ md rd d, ds = [md, rd, d] ∧ Kn M md ∧ (∀ m, md = .int m → MOk m → RowDat M rd) ∧ (∀ m r, md = .int m → MOk m → rd = rowD r → RowOk m r → LsDat M d) ∧ (isBet 1 600 md = false → Q (.exc cM [] []) M) ∧ (∀ m, md = .int m → MOk m → rowR m rd = false → Q (.exc cR [] []) M) ∧
  (∀ m r, md = .int m → MOk m → rd = rowD r → RowOk m r → litsR m d = false → Q (.exc cL [] []) M) ∧ (∀ m r b ls, ClArgs md rd d m r b ls → r.1.length ≤ 100 ∧ Q (clD r ls) M)
theorem r_clause_of {K : PySem.W.Frag} {c_WitnessError : Addr} {c_BadLiterals : Addr} {c_BadMany : Addr} {c_BadRow : Addr} {P_law : Addr} (ds : List D) (M : MM) (Q : D → MM → Prop) (hl : ds.length = 3) (h : (g_clause_of c_BadMany c_BadRow c_BadLiterals) ds M Q) : t_clause_of K c_WitnessError c_BadLiterals c_BadMany c_BadRow P_law (g_need_many c_BadMany) g_row_right g_literals_right g_room g_clause_parts g_clause_steps g_clause_row { nx := fun _ M' => PostX Q .non M', rt := PostX Q } (startZ 4 ds) M := by
  obtain ⟨md, rd, d, rfl, km, hrd, hd, q1, q2, q3, q4⟩ := h
  show t_clause_of K c_WitnessError c_BadLiterals c_BadMany c_BadRow P_law _ _ _ _ _ _ _ _ [some md, some rd, some d, none] M
  refine (show _ ∧ _ from ⟨rfl, md, rfl, km, fun hb => .self (q1 hb), fun m em hmo => ?_⟩)
  subst em
  have T1 : EvT (zNot (zTst (zFn 2 g_row_right (zaCons (zVar 0) (zaCons (zVar 1) zaNil))))) [some (.int m), some rd, some d, none] M (!rowR m rd) := ev_not (fun Q k => st_tst (st_fn2 (var_use rfl (var_use rfl ⟨m, rd, rfl, hrd m rfl hmo, k⟩))))
  cases hr : rowR m rd with
  | false =>
    rw [hr] at T1
    exact ss_hit T1 (.self (q2 m rfl hmo hr))
  | true =>
    rw [hr] at T1
    refine ss_chk T1 ?_
    obtain ⟨r, rfl, hro⟩ := rowR_of hr
    have T2 : EvT (zNot (zTst (zFn 2 g_literals_right (zaCons (zVar 0) (zaCons (zVar 2) zaNil))))) [some (.int m), some (rowD r), some d, none] M (!litsR m d) := ev_not (fun Q k => st_tst (st_fn2 (var_use rfl (var_use rfl ⟨m, d, rfl, hd m r rfl hmo rfl hro, k⟩))))
    cases hl : litsR m d with
    | false =>
      rw [hl] at T2
      exact ss_hit T2 (.self (q3 m r rfl hmo rfl hro hl))
    | true =>
      rw [hl] at T2
      refine ss_chk T2 ?_
      obtain ⟨b, ls, rfl, hls⟩ := litsR_of hl
      obtain ⟨hlen, q⟩ := q4 m r b ls ⟨rfl, hmo, rfl, hro, rfl, hls⟩
      refine ss_ev (d := .tup (ls.map D.int)) (fun Q k => st_call1 (var_use (d := litsD b ls) rfl (by cases b <;> exact k))) ?_
      dsimp only [List.set_cons_zero, List.set_cons_succ]
      have T3 : EvT (zTst (zBin rzGe (zFn 2 g_room (zaCons (zVar 1) (zaCons (zVar 3) zaNil))) (zC (.int 0)))) [some (.int m), some (rowD r), some (litsD b ls), some (.tup (ls.map D.int))] M (decide (slk r ls ≥ 0)) := ev_geI (fun Q k => st_fn2 (var_use rfl (var_use rfl ⟨r, .tup (ls.map D.int), ls, rfl, rfl, k⟩))) (fun Q k => k) rfl
      unfold clD at q
      by_cases h0 : slk r ls ≥ 0
      · rw [if_pos h0] at q
        rw [decide_eq_true h0] at T3
        exact ss_hit T3 (st_ret (st_c (.self q)))
      · rw [if_neg h0] at q
        rw [decide_eq_false h0] at T3
        refine ss_chk T3 (st_ret (st_tup2 (st_fn3 (st_c (var_use rfl (var_use rfl ⟨0, r, .tup (ls.map D.int), ls, rfl, rfl, hlen, ?_⟩))))))
        refine st_fn1 (st_fn2 (var_use rfl (var_use rfl ⟨r, .tup (ls.map D.int), ls, rfl, rfl, prt r ls, rfl, ?_⟩)))
        exact .self q
end Zz

set_option Elab.async false
set_option linter.all false
set_option maxRecDepth 100000
set_option maxHeartbeats 2000000
namespace Zz
open PySem PySem.Spec PyProof.Rows L2

/-! ### what the law of clauses draws and works out -/
theorem ev_leI {env : ZT} {M : MM} {Ta Tb : TZ} {a c : Int} {b : Bool} (ha : Ev Ta env M (.int a)) (hb : Ev Tb env M (.int c)) (h : decide (a ≤ c) = b) : EvT (zTst (zBin rzLe Ta Tb)) env M b := fun Q k => ha _ (hb _ (by
  show Q (decide (a ≤ c)) M
  rw [h]; exact k))
def g__law_some_literals : SpZ := fun ds M Q => ∃ st m b, ds = [.ref st, .int m] ∧ M st = some (.draw (b + 14)) ∧ 1 ≤ m ∧ m ≤ 6 ∧ ∀ ls, LsOk m ls → Q (.lst (ls.map D.int)) (mu M st (.draw b))
theorem r__law_some_literals {K : PySem.W.Frag} {c_WitnessError : Addr} {c_BadLiterals : Addr} {c_BadMany : Addr} {c_BadRow : Addr} {P_law : Addr} (ds : List D) (M : MM) (Q : D → MM → Prop) (hl : ds.length = 2) (h : g__law_some_literals ds M Q) : t__law_some_literals K c_WitnessError c_BadLiterals c_BadMany c_BadRow P_law g__law_draw g__law_mixed { nx := fun _ M' => Post Q .non M', rt := Post Q } (startZ 4 ds) M := by
  obtain ⟨st, m, b, rfl, hst, hm1, hm6, q⟩ := h
  show t__law_some_literals K c_WitnessError c_BadLiterals c_BadMany c_BadRow P_law _ _ _ [some (.ref st), some (.int m), none, none] M
  refine ss_set (st_some (b := b + 7) (lo := 0) hm1 hm6 rfl rfl hst (fun M' Q e k => ?_) (by decide) fun ks hks _ => ?_)
  · subst e
    refine st_fn2 (var_use rfl (ev_addI (fun Q k => var_use rfl k) ev_c _ ⟨st, m + 1, b + 13 - m.toNat, rfl, by rw [mu_same]; congr 2; omega, by omega, by omega, fun n n0 n1 => ?_⟩))
    rw [mu_mu]
    exact k n n0 (by omega)
  dsimp only [List.set_cons_zero, List.set_cons_succ]
  have hkl : ks.length ≤ 6 := by
    have h1 := (nodup_len ks (oneTo m) hks.1 fun k hk => by rw [mem_oneTo]; have := hks.2 k hk; omega).1
    rw [oneTo_n] at h1; omega
  refine st_ret ?_
  refine (show zComp (iSeq K (zVar 2)) (.nm 3) [3] zYes (zIf (zTst (zBin rzEq (zFn 2 g__law_draw (zaCons (zVar 0) (zaCons (zC (.int 2)) zaNil))) (zC (.int 0)))) (zVar 3) (zBin rzSub (zC (.int 0)) (zVar 3))) _ _ _ from iSeq_of (xs := ks.map D.int) (d := .lst (ks.map D.int)) (fun Q k => var_use rfl k) (.inr rfl) ?_)
  refine compGo_ind _ (fun j acc M' => ∃ (ls : List Int) (c : Nat), acc = ls.map D.int ∧ M' = mu M st (.draw c) ∧ b + (ks.length - j) ≤ c ∧ ls.map absI = ks.take j ∧ ∀ l, l ∈ ls → l ≠ 0) ?_ ?_ _ _ ⟨[], b + 7 + 6 - m.toNat, rfl, rfl, ?_, rfl, fun l hl => by simp at hl⟩
  · rintro j y acc M' hy ⟨ls, c, rfl, rfl, hc, hls, hz⟩
    obtain ⟨k, hk, rfl⟩ := at_map hy
    have hj : j < ks.length := (List.getElem?_eq_some_iff.mp hk).1
    have hk1 := hks.2 k (List.mem_of_getElem? hk)
    refine ⟨_, rfl, fun K3 hK3 => st_yes (ite_t rfl ?_)⟩
    refine st_if (st_tst (st_bin (st_fn2 (var_use rfl (st_c ⟨st, 2, c - 1, rfl, by rw [mu_same]; congr 2; omega, by decide, by decide, fun w w0 w1 => st_c ⟨ok_int _ _, ok_int _ _, ?_⟩⟩)))))
    rw [mu_mu]
    simp only [view, deq_int]
    have fin : ∀ l : Int, absI l = k → l ≠ 0 → (True ∧ K3 (ls.map D.int ++ [D.int l]) (mu M st (.draw (c - 1)))) := fun l e1 e2 => ⟨trivial, hK3 _ _ ⟨ls ++ [l], c - 1, by rw [List.map_append]; rfl, rfl, by omega, by rw [List.map_append, hls, take_snoc hk]; show _ ++ [absI l] = _; rw [e1], fun u hu => by
      rcases List.mem_append.mp hu with hu | hu
      · exact hz u hu
      · rw [List.mem_singleton] at hu; subst hu; exact e2⟩⟩
    by_cases hw : w = 0
    · rw [decide_eq_true hw, if_pos rfl]
      exact var_use rfl (fin k (by unfold absI; rw [if_neg (by omega)]) (by omega))
    · rw [decide_eq_false hw, if_neg Bool.false_ne_true]
      exact ev_neg0 (fun Q k => var_use rfl k) _ (fin (-k) (by unfold absI; rw [if_pos (by omega)]; omega) (by omega))
  · rintro acc M' ⟨ls, c, rfl, rfl, hc, hls, hz⟩
    rw [List.length_map, List.take_length] at hls
    rw [List.length_map] at hc
    exact ⟨.lst (ls.map D.int), _, (less_to (by omega)).conv, q ls (signed hks hls hz)⟩
  · omega
theorem mul_ft {a b : Int} {M : MM} {Q : D → MM → Prop} (ha : 0 ≤ a) (ha' : a ≤ tenFt) (hb : 0 ≤ b) (hb' : b ≤ tenFt) (k : Q (.int (a * b)) M) : rzMul (.int a) (.int b) M Q := by
  have h1 := log_ft ha ha'
  have h2 := log_ft hb hb'
  simp only [rzMul, view]
  exact ⟨by omega, k⟩
theorem large_ok {m : Int} {r : Row} {n : Int} (hr : RowOk m r) (h6 : ∀ q, q ∈ r.1 → q.1 ≤ 6) (hb : r.2 ≤ 10000) (hn : 1 ≤ n) (hn2 : n ≤ 10000000000000000000000000) : RowOk m (r.1.map (fun q => (q.1 * n, q.2)), r.2 * n) ∧ SmR (r.1.map (fun q => (q.1 * n, q.2)), r.2 * n) := by
  have up : ∀ x : Int, 0 ≤ x → x ≤ 10000 → x * n < tenFt := fun x h0 h1 => by
    have h2 : x * n ≤ 10000 * n := Int.mul_le_mul_of_nonneg_right h1 (by omega)
    unfold tenFt; omega
  have lo : ∀ x : Int, 1 ≤ x → 1 ≤ x * n := fun x h => by
    have h4 : 1 * 1 ≤ x * n := Int.mul_le_mul h hn (by decide) (by omega)
    omega
  refine ⟨⟨⟨fun q hq => ?_, ?_⟩, Int.mul_nonneg hr.2 (by omega)⟩, fun q hq => ?_, Int.mul_nonneg hr.2 (by omega), up _ hr.2 hb⟩
  · obtain ⟨p, hp, rfl⟩ := List.mem_map.mp hq
    exact ⟨lo _ (hr.1.1 p hp).1, (hr.1.1 p hp).2⟩
  · rw [List.pairwise_map]
    exact hr.1.2
  · obtain ⟨p, hp, rfl⟩ := List.mem_map.mp hq
    have h1 := (hr.1.1 p hp).1
    have := h6 p hp
    exact ⟨lo _ h1, up _ (by omega) (by omega)⟩
theorem small_row {m : Int} {r : Row} (hr : RowOk m r) (h6 : ∀ q, q ∈ r.1 → q.1 ≤ 6) (hb : r.2 ≤ 10000) : SmR r := ⟨fun q hq => ⟨(hr.1.1 q hq).1, by have := h6 q hq; unfold tenFt; omega⟩, hr.2, by unfold tenFt; omega⟩
def g__law_large : SpZ := fun ds M Q => ∃ st m r b, ds = [.ref st, rowD r] ∧ M st = some (.draw (b + 2)) ∧ RowOk m r ∧ (∀ q, q ∈ r.1 → q.1 ≤ 6) ∧ r.2 ≤ 10000 ∧ ∀ r', RowOk m r' → SmR r' → Q (rowD r') (mu M st (.draw b))
theorem r__law_large {K : PySem.W.Frag} {c_WitnessError : Addr} {c_BadLiterals : Addr} {c_BadMany : Addr} {c_BadRow : Addr} {P_law : Addr} (ds : List D) (M : MM) (Q : D → MM → Prop) (hl : ds.length = 2) (h : g__law_large ds M Q) : t__law_large K c_WitnessError c_BadLiterals c_BadMany c_BadRow P_law g__law_draw { nx := fun _ M' => Post Q .non M', rt := Post Q } (startZ 5 ds) M := by
  obtain ⟨st, m, r, b, rfl, hst, hr, h6, hb, q⟩ := h
  show t__law_large K c_WitnessError c_BadLiterals c_BadMany c_BadRow P_law _ _ [some (.ref st), some (rowD r), none, none, none] M
  refine st_seq (st_ifS (st_tst (st_bin (st_fn2 (var_use rfl (st_c ⟨st, 4, b + 1, rfl, hst, by decide, by decide, fun w w0 w1 => st_c ?_⟩))))))
  simp only [rzGt, rzI0]
  by_cases h0 : w > 0
  · rw [decide_eq_true h0, if_pos rfl]
    exact st_ret (var_use rfl ⟨rowD r, _, (less_to (by omega)).conv, q r hr (small_row hr h6 hb)⟩)
  · rw [decide_eq_false h0, if_neg Bool.false_ne_true]
    dsimp only [zNext]
    have e : (10 : Int) ^ (24 : Int).toNat = 1000000000000000000000000 := by decide
    have vp : ∀ (env : ZT) (M : MM), Ev (zBin rzPow (zC (.int 10)) (zC (.int 24))) env M (.int 1000000000000000000000000) := fun env M Q k => (show (_ ∧ _) from ⟨⟨by decide, by decide, by decide⟩, by
      show Q (.int ((10 : Int) ^ (24 : Int).toNat)) M
      rw [e]; exact k⟩)
    refine ss_set (st_bin (vp _ _ _ ?_))
    refine st_fn2 (var_use rfl (st_c ⟨st, 1000, b, rfl, mu_same, by decide, by decide, fun v v0 v1 => ?_⟩))
    rw [mu_mu]
    simp only [rzAdd, view]
    obtain ⟨n, hn⟩ : ∃ n : Int, n = 1000000000000000000000000 + v := ⟨_, rfl⟩
    rw [← hn]
    dsimp only [List.set_cons_zero, List.set_cons_succ]
    refine st_ret (st_tup2 (st_call1 ?_))
    refine comp_s prD (fun q => prD (q.1 * n, q.2)) r.1 (row_get0 r fun Q k => var_use rfl k) (.inl rfl) (fun q hq => ⟨_, rfl, fun Q k => by
      have h1 := (hr.1.1 q hq).1
      have h2 := h6 q hq
      refine st_tup2 (st_bin (var_use rfl (var_use rfl (mul_ft (by omega) (by unfold tenFt; omega) (by omega) (by unfold tenFt; omega) ?_))))
      exact var_use (d := .int q.2) rfl k⟩) ?_
    simp only [rzTuple, view]
    refine st_bin (row_get1 r (fun Q k => var_use rfl k) _ (var_use rfl ?_))
    have := hr.2
    refine mul_ft this (by unfold tenFt; omega) (by omega) (by unfold tenFt; omega) ?_
    obtain ⟨o1, o2⟩ := large_ok (n := n) hr h6 hb (by omega) (by omega)
    have hrow : D.tup [.tup (r.1.map fun q => prD (q.1 * n, q.2)), .int (r.2 * n)] = rowD (r.1.map (fun q => (q.1 * n, q.2)), r.2 * n) := by
      unfold rowD tsD; rw [List.map_map]; rfl
    rw [hrow]
    exact .self (q _ o1 o2)
def g__law_due : SpZ := fun ds M Q => ∃ r gd ls, ds = [rowD r, gd] ∧ seqOf M gd = some (List.map D.int ls) ∧ r.1.length ≤ 100 ∧ Q (clD r ls) M
theorem r__law_due {K : PySem.W.Frag} {c_WitnessError : Addr} {c_BadLiterals : Addr} {c_BadMany : Addr} {c_BadRow : Addr} {P_law : Addr} (ds : List D) (M : MM) (Q : D → MM → Prop) (hl : ds.length = 2) (h : g__law_due ds M Q) : t__law_due K c_WitnessError c_BadLiterals c_BadMany c_BadRow P_law { nx := fun _ M' => Post Q .non M', rt := Post Q } (startZ 7 ds) M := by
  obtain ⟨r, gd, ls, rfl, hs, hlen, q⟩ := h
  show t__law_due K c_WitnessError c_BadLiterals c_BadMany c_BadRow P_law _ [some (rowD r), some gd, none, none, none, none, none] M
  refine ss_set (comp_f prD (fun q => .int q.2) (fun q => !decide (-q.2 ∈ ls)) r.1 (row_get0 r fun Q k => var_use rfl k) (.inl rfl) (fun q hq => ⟨_, rfl, ev_ninL (ev_neg0 fun Q k => var_use rfl k) (fun Q k => var_use (d := gd) rfl k) hs rfl, fun _ Q k => var_use rfl k⟩) ?_)
  dsimp only [List.set_cons_zero, List.set_cons_succ]
  obtain ⟨sp, hsp⟩ : ∃ sp : Ts, sp = r.1.filter fun q => !decide (-q.2 ∈ ls) := ⟨_, rfl⟩
  have hspl : sp.length ≤ 100 := by rw [hsp]; exact Nat.le_trans (List.length_filter_le _ _) hlen
  rw [← hsp]
  refine ss_set (st_bin (row_get1 r (fun Q k => var_use rfl k) _ ?_))
  refine sum_f prD (fun q => q.1) (fun q => !decide (-q.2 ∈ ls)) r.1 (row_get0 r fun Q k => var_use rfl k) (.inl rfl) (fun q hq => ⟨_, rfl, ev_ninL (ev_neg0 fun Q k => var_use rfl k) (fun Q k => var_use (d := gd) rfl k) hs rfl, fun _ Q k => var_use rfl k⟩) ?_
  simp only [rzSub, rzI0]
  have esl : r.2 - ((r.1.filter fun q => !decide (-q.2 ∈ ls)).map (·.1)).sum = -slk r ls := by unfold slk; omega
  rw [esl]
  dsimp only [List.set_cons_zero, List.set_cons_succ]
  unfold clD at q
  by_cases h0 : slk r ls ≥ 0
  · rw [if_pos h0] at q
    exact ss_hit (ev_leI (fun Q k => var_use rfl k) (fun Q k => k) (decide_eq_true (by omega))) (st_ret (st_c (.self q)))
  · rw [if_neg h0] at q
    refine ss_chk (ev_leI (fun Q k => var_use rfl k) (fun Q k => k) (decide_eq_false (by omega))) ?_
    have vcomp : Ev (zComp (iSeq K (zVar 2)) (.nm 4) [4] zYes (zTup (zaCons (zC (.str "weakened")) (zaCons (zCall (rzInt1 fun i => .int (if i < 0 then -i else i)) (zaCons (zVar 4) zaNil)) zaNil)))) [some (rowD r), some gd, some (.lst (sp.map fun q => .int q.2)), none, none, some (.int (-slk r ls)), none] M (.lst (sp.map fun q => insD (.weak (absI q.2)))) := fun Q k =>
      comp_s (fun q : Int × Int => D.int q.2) (fun q => insD (.weak (absI q.2))) sp (fun Q k => var_use rfl k) (.inr rfl) (fun q hq => ⟨_, rfl, fun Q k => st_tup2 (st_c (st_call1 (var_use rfl k)))⟩) k
    refine ss_ev (d := .lst ((stps 0 r ls).map insD)) ?_ ?_
    · have e : (stps 0 r ls).map insD = ([insD (.row 0)] ++ sp.map fun q => insD (.weak (absI q.2))) ++ [insD .cap, insD (.divd (-slk r ls))] := by
        unfold stps
        rw [List.map_cons, List.map_append, List.map_map, ← hsp]; rfl
      rw [e]
      refine ev_addL (ev_addL (ev_l1 (ev_rowI ev_c)) vcomp (by rw [List.length_map, List.length_singleton]; omega)) (ev_l22 (ev_t1 ev_c) (ev_t2 ev_c (fun Q k => var_use rfl k))) (by simp only [List.length_append, List.length_map, List.length_cons, List.length_nil]; omega)
    dsimp only [List.set_cons_zero, List.set_cons_succ]
    refine st_ret (st_tup2 (var_use rfl (st_tup2 (st_call1 ?_))))
    refine comp_f prD (fun q => prD (1, q.2)) (fun q => decide (-q.2 ∈ ls)) r.1 (row_get0 r fun Q k => var_use rfl k) (.inl rfl) (fun q hq => ⟨_, rfl, ev_inL (ev_neg0 fun Q k => var_use rfl k) (fun Q k => var_use (d := gd) rfl k) hs rfl, fun _ Q k => st_tup2 (st_c (var_use rfl k))⟩) ?_
    simp only [rzTuple, view]
    refine st_c ?_
    have ec : D.tup [.tup ((r.1.filter fun q => decide (-q.2 ∈ ls)).map fun q => prD (1, q.2)), .int 1] = rowD (clR r ls) := by
      unfold rowD tsD clR prt
      simp only [List.map_map]; rfl
    rw [ec]
    exact .self q
def blM (m : Int) : List D := [.non, .int 5, .str "1", .dic [.inl 1] [.int 1], .lst [.int 0], .lst [.int (m + 1)], .lst [.int (0 - m - 1)], .lst [.bl true], .lst [.int 1, .int 1], .tup [.int 1, .int (0 - 1)], .lst [.non], .lst [.lst [.int 1]], .lst [.int 1, .str "2"], .lst [.str "yes"]]
theorem blM_bad (m : Int) (h1 : 1 ≤ m) (h6 : m ≤ 6) (d : D) (h : d ∈ blM m) : BadLs m d := by
  refine badL_of ?_
  simp only [blM, List.mem_cons, List.not_mem_nil, or_false] at h
  have hm : m = 1 ∨ m = 2 ∨ m = 3 ∨ m = 4 ∨ m = 5 ∨ m = 6 := by omega
  rcases hm with rfl | rfl | rfl | rfl | rfl | rfl <;> rcases h with rfl | rfl | rfl | rfl | rfl | rfl | rfl | rfl | rfl | rfl | rfl | rfl | rfl | rfl <;> decide +kernel
def g__law_bad_literals : SpZ := fun ds M Q => ∃ st m b, ds = [.ref st, .int m] ∧ M st = some (.draw (b + 1)) ∧ 1 ≤ m ∧ m ≤ 6 ∧ ∀ d, BadLs m d → Q d (mu M st (.draw b))
theorem r__law_bad_literals {K : PySem.W.Frag} {c_WitnessError : Addr} {c_BadLiterals : Addr} {c_BadMany : Addr} {c_BadRow : Addr} {P_law : Addr} (ds : List D) (M : MM) (Q : D → MM → Prop) (hl : ds.length = 2) (h : g__law_bad_literals ds M Q) : t__law_bad_literals K c_WitnessError c_BadLiterals c_BadMany c_BadRow P_law g__law_pick { nx := fun _ M' => Post Q .non M', rt := Post Q } (startZ 2 ds) M := by
  obtain ⟨st, m, b, rfl, hst, hm1, hm6, q⟩ := h
  show t__law_bad_literals K c_WitnessError c_BadLiterals c_BadMany c_BadRow P_law _ _ [some (.ref st), some (.int m)] M
  refine st_ret (st_fn2 (var_use rfl ?_))
  simp only [zLst, zaCons, zaNil, zC, zVar, zBin, zUn, zTup, rzAdd, rzSub, rzNeg, rzI0, zDNewF, zDispF, zPairs, view, List.getElem?_cons_zero, List.getElem?_cons_succ]
  repeat (refine And.intro (by first | (simp; done) | omega | decide +kernel | (simp; omega)) ?_)
  refine (show g__law_pick [.ref st, .lst (blM m)] M _ from ⟨st, _, blM m, b, rfl, rfl, hst, by simp [blM], by simp [blM], fun x hx => ?_⟩)
  exact .self (q x (blM_bad m hm1 hm6 x hx))
end Zz

set_option Elab.async false
set_option linter.all false
set_option maxRecDepth 100000
set_option maxHeartbeats 2000000
namespace Zz
open PySem PySem.Spec PyProof.Rows L2

/-! ### the clause of a row that bars: the plain law -/
theorem runs_wk {m : Int} {b : Book} : ∀ (vs : List Int) (r : Row) (tl : List Ins), RowOk m r → SmR r → (∀ v, v ∈ vs → 1 ≤ v ∧ v ≤ m) →
    runL b [r] (vs.map Ins.weak ++ tl) = runL b [wk r vs] tl ∧ RowOk m (wk r vs) ∧ SmR (wk r vs) ∧ ∀ f, FilOk m f → holds r f = true → holds (wk r vs) f = true
  | [], r, tl, hr, hs, hv => ⟨rfl, hr, hs, fun f _ h => h⟩
  | v :: vs, r, tl, hr, hs, hv => by
    have e : madeF b [r] (.weak v) = weakF r v := rfl
    have hi : InsOk m b (.weak v) := hv v (by simp)
    have ho := chg_ok (i := .weak v) rfl hi hr (sm_big (m := m) hs)
    rw [e] at ho
    have hs2 := weak_sm hr hs v
    obtain ⟨h1, h2, h3, h4⟩ := runs_wk (b := b) vs (weakF r v) tl ho hs2 fun u hu => hv u (List.mem_cons_of_mem _ hu)
    refine ⟨?_, h2, h3, fun f hf hh => h4 f hf ?_⟩
    · show (match stepL b [r] (.weak v) with
        | none => none
        | some st' => runL b st' (vs.map Ins.weak ++ tl)) = _
      rw [step_one (i := .weak v) rfl (by rw [e]; exact sm_big (m := m) hs2)]
      exact h1
    · refine made_holds (b := []) (tk := [r]) (i := .weak v) hf (fun i r e => by simp [bookGet] at e) (hv v (by simp)) rfl (fun u hu => ?_) (fun u hu => ?_)
      · rw [List.mem_singleton] at hu; subst hu; exact ⟨hr, sm_big (m := m) hs⟩
      · rw [List.mem_singleton] at hu; subst hu; exact hh
theorem foldl_sub : ∀ (os : Ts) (b : Int), (∀ q, q ∈ os → 1 ≤ q.1) → 0 < b - (os.map (·.1)).sum → os.foldl (fun b q => max0 (b - q.1)) b = b - (os.map (·.1)).sum
  | [], b, _, h => by simp
  | q :: os, b, hw, h => by
    rw [List.map_cons, List.sum_cons] at h
    have h1 := hw q (by simp)
    have h0 : 0 ≤ (os.map (·.1)).sum := sum_pos _ _ fun p hp => by have := hw p (List.mem_cons_of_mem _ hp); omega
    rw [List.foldl_cons, List.map_cons, List.sum_cons]
    have e : max0 (b - q.1) = b - q.1 := by unfold max0; rw [if_pos (by omega)]
    rw [e, foldl_sub os _ (fun p hp => hw p (List.mem_cons_of_mem _ hp)) (by omega)]
    omega
theorem cdiv_one {a n : Int} (h1 : 1 ≤ a) (h2 : a ≤ n) : cdiv a n = 1 := by
  have u1 : cdiv a n ≤ 1 := cdiv_le (by omega) (by omega)
  have u2 := cdiv_mul (a := a) (n := n) (by omega)
  have u3 : ¬ cdiv a n ≤ 0 := fun h => by
    have : cdiv a n * n ≤ 0 * n := Int.mul_le_mul_of_nonneg_right h (by omega)
    omega
  omega
theorem cl_run {m : Int} {r : Row} {ls : List Int} (hr : RowOk m r) (hs : SmR r) (hb : slk r ls < 0) : runL [(0, r)] [] (stps 0 r ls) = some [clR r ls] ∧ RowOk m (clR r ls) ∧ ∀ f, FilOk m f → holds r f = true → holds (clR r ls) f = true := by
  obtain ⟨os, hos⟩ : ∃ os : Ts, os = r.1.filter fun q => !decide (-q.2 ∈ ls) := ⟨_, rfl⟩
  have hsub : ∀ q, q ∈ os → q ∈ r.1 := fun q hq => by rw [hos] at hq; exact (List.mem_filter.mp hq).1
  have hw : ∀ q, q ∈ os → 1 ≤ q.1 := fun q hq => (hr.1.1 q (hsub q hq)).1
  have hsl : slk r ls = (os.map (·.1)).sum - r.2 := by rw [hos]; rfl
  have h0 : 0 ≤ (os.map (·.1)).sum := sum_pos _ _ fun p hp => by have := hw p hp; omega
  obtain ⟨B, hB⟩ : ∃ B, B = -slk r ls := ⟨_, rfl⟩
  have hB1 : 1 ≤ B := by omega
  obtain ⟨F, hF⟩ : ∃ F : Ts, F = r.1.filter fun q => decide (-q.2 ∈ ls) := ⟨_, rfl⟩
  obtain ⟨h1, h2, h3, h4⟩ := runs_wk (b := [(0, r)]) (os.map fun q => absI q.2) r [.cap, .divd B] hr hs fun v hv => by
    obtain ⟨q, hq, rfl⟩ := List.mem_map.mp hv
    obtain ⟨a, b, c⟩ := (hr.1.1 q (hsub q hq)).2
    rw [absI_nat]
    omega
  have ew : wk r (os.map fun q => absI q.2) = (F, B) := by
    rw [wk_eq os r hr hsub (by rw [hos]; exact hr.1.2.filter _), foldl_sub os r.2 hw (by omega)]
    congr 1
    · rw [hF]
      refine List.filter_congr fun p hp => ?_
      rw [Bool.eq_iff_iff, Bool.not_eq_true', decide_eq_false_iff_not, decide_eq_true_eq, List.mem_map]
      constructor
      · intro h
        by_cases hm : -p.2 ∈ ls
        · exact hm
        · exact absurd ⟨p, by rw [hos]; exact List.mem_filter.mpr ⟨hp, by simp [hm]⟩, rfl⟩ h
      · rintro h ⟨q, hq, e⟩
        rw [absI_nat, absI_nat] at e
        have := ts_inj hr.1.2 (hsub q hq) hp (by omega)
        subst this
        rw [hos] at hq
        have := (List.mem_filter.mp hq).2
        simp [h] at this
    · omega
  rw [ew] at h1 h2 h3 h4
  -- capped
  have ec : capF (F, B) = (F.map (fun q => (if B < q.1 then B else q.1, q.2)), B) := by
    unfold capF; rw [if_neg (show ¬ B = 0 by omega)]
  have e1 : madeF [(0, r)] [(F, B)] .cap = capF (F, B) := rfl
  have hc := chg_ok (m := m) (b := [(0, r)]) (i := .cap) rfl trivial h2 (sm_big (m := m) h3)
  rw [e1, ec] at hc
  have hcs : SmR (F.map (fun q => (if B < q.1 then B else q.1, q.2)), B) := by
    refine ⟨fun q hq => ?_, h3.2⟩
    obtain ⟨p, hp, rfl⟩ := List.mem_map.mp hq
    have := h3.1 p hp
    have := h3.2.2
    show 1 ≤ (if B < p.1 then B else p.1) ∧ (if B < p.1 then B else p.1) < tenFt
    split <;> omega
  -- divided
  have e2 : madeF [(0, r)] [(F.map (fun q => (if B < q.1 then B else q.1, q.2)), B)] (.divd B) = clR r ls := by
    show divF (F.map (fun q => (if B < q.1 then B else q.1, q.2)), B) B = _
    unfold divF clR prt
    rw [← hF]
    simp only [List.map_map]
    rw [cdiv_one hB1 (Int.le_refl _)]
    congr 1
    refine List.map_congr_left fun q hq => ?_
    have h1 := (h3.1 q hq).1
    show (cdiv (if B < q.1 then B else q.1) B, q.2) = (1, q.2)
    rw [cdiv_one (by split <;> omega) (by split <;> omega)]
  have hBT : B ≤ tenFt := by have := h3.2.2; show B ≤ tenFt; omega
  have hi : InsOk m [(0, r)] (.divd B) := ⟨hB1, hBT⟩
  have hd := chg_ok (m := m) (b := [(0, r)]) (i := .divd B) rfl hi hc (sm_big (m := m) hcs)
  rw [e2] at hd
  have hds : SmR (clR r ls) := by
    refine ⟨fun q hq => ?_, by show (0 : Int) ≤ 1; decide, by show (1 : Int) < tenFt; decide⟩
    obtain ⟨k, hk, rfl⟩ := List.mem_map.mp hq
    exact ⟨by show (1 : Int) ≤ 1; decide, by show (1 : Int) < tenFt; decide⟩
  refine ⟨?_, hd, fun f hf hh => ?_⟩
  · have es : stps 0 r ls = .row 0 :: ((os.map fun q => absI q.2).map Ins.weak ++ [.cap, .divd B]) := by
      unfold stps
      rw [← hos, ← hB, List.map_map]; rfl
    rw [es]
    have e0 : runL [(0, r)] [] (.row 0 :: ((os.map fun q => absI q.2).map Ins.weak ++ [.cap, .divd B])) = runL [(0, r)] [r] ((os.map fun q => absI q.2).map Ins.weak ++ [.cap, .divd B]) := rfl
    rw [e0, h1]
    show (match stepL [(0, r)] [(F, B)] .cap with
      | none => none
      | some st' => runL [(0, r)] st' [.divd B]) = _
    rw [step_one (i := .cap) rfl (by rw [e1, ec]; exact sm_big (m := m) hcs), e1, ec]
    show (match stepL [(0, r)] [(F.map (fun q => (if B < q.1 then B else q.1, q.2)), B)] (.divd B) with
      | none => none
      | some st' => runL [(0, r)] st' []) = _
    rw [step_one (i := .divd B) rfl (by rw [e2]; exact sm_big (m := m) hds), e2]
    rfl
  · have h5 := h4 f hf hh
    have hbk : ∀ i u, bookGet [(0, r)] i = some u → RowOk m u ∧ holds u f = true := fun i u hu => by
      have : r = u := by
        unfold bookGet at hu
        by_cases h7 : (0 : Int) = i
        · rw [List.find?_cons_of_pos (by simp [h7])] at hu
          exact Option.some.inj hu
        · rw [List.find?_cons_of_neg (by simp [h7])] at hu
          cases hu
      subst this
      exact ⟨hr, hh⟩
    have h6 : holds (F.map (fun q => (if B < q.1 then B else q.1, q.2)), B) f = true := by
      have h7 := made_holds (m := m) (b := [(0, r)]) (tk := [(F, B)]) (i := .cap) hf hbk trivial rfl (fun u hu => by rw [List.mem_singleton] at hu; subst hu; exact ⟨h2, sm_big (m := m) h3⟩) (fun u hu => by rw [List.mem_singleton] at hu; subst hu; exact h5)
      rw [e1, ec] at h7
      exact h7
    have h7 := made_holds (m := m) (b := [(0, r)]) (tk := [(F.map (fun q => (if B < q.1 then B else q.1, q.2)), B)]) (i := .divd B) hf hbk hi rfl (fun u hu => by rw [List.mem_singleton] at hu; subst hu; exact ⟨hc, sm_big (m := m) hcs⟩) (fun u hu => by rw [List.mem_singleton] at hu; subst hu; exact h6)
    rw [e2] at h7
    exact h7
theorem worth_neg1 {l : Int} {f : List Int} (h : l ≠ 0) : worth (-l) f = 1 - worth l f := by
  unfold worth
  rw [Int.natAbs_neg]
  by_cases h0 : 0 < l
  · rw [if_neg (by omega), if_pos h0]
  · rw [if_pos (by omega), if_neg h0]; omega
/-- where all that is given is true -/
theorem cl_given {m : Int} {r : Row} {ls : List Int} {f : List Int} (hr : RowOk m r) (hf : FilOk m f) (hb : slk r ls < 0) (hg : ∀ l, l ∈ ls → worth l f ≠ 0) : holds r f = false ∧ holds (clR r ls) f = false := by
  have hno : ∀ q, q ∈ r.1 → -q.2 ∈ ls → worth q.2 f = 0 := fun q hq hm => by
    have h1 := hg _ hm
    rw [worth_neg1 (hr.1.1 q hq).2.2.2] at h1
    rcases worth01 hf (hr.1.lits q hq) with e | e
    · exact e
    · rw [e] at h1; exact absurd rfl h1
  constructor
  · unfold holds
    rw [decide_eq_false_iff_not]
    have : comes r.1 f ≤ ((r.1.filter fun q => !decide (-q.2 ∈ ls)).map (·.1)).sum := by
      unfold comes
      have key : ∀ l : Ts, (∀ q, q ∈ l → q ∈ r.1) → ((l.filter fun q => decide (worth q.2 f = 1)).map (·.1)).sum ≤ ((l.filter fun q => !decide (-q.2 ∈ ls)).map (·.1)).sum := by
        intro l
        induction l with
        | nil => intro _; simp
        | cons q l ih =>
          intro hl
          have i := ih fun p hp => hl p (List.mem_cons_of_mem _ hp)
          have hq := hl q (by simp)
          have h1 := (hr.1.1 q hq).1
          by_cases hm : -q.2 ∈ ls
          · rw [List.filter_cons_of_neg (by simp [hno q hq hm]), List.filter_cons_of_neg (by simp [hm])]; exact i
          · rw [List.filter_cons_of_pos (p := fun q : Int × Int => !decide (-q.2 ∈ ls)) (by simp [hm]), List.map_cons, List.sum_cons]
            by_cases hw : worth q.2 f = 1
            · rw [List.filter_cons_of_pos (by simp [hw]), List.map_cons, List.sum_cons]; omega
            · rw [List.filter_cons_of_neg (by simp [hw])]; omega
      exact key r.1 fun _ h => h
    unfold slk at hb
    omega
  · unfold holds
    rw [decide_eq_false_iff_not]
    have e : ((clR r ls).1.filter fun q => decide (worth q.2 f = 1)) = [] := List.filter_eq_nil_iff.mpr fun q hq => by
      obtain ⟨k, hk, rfl⟩ := List.mem_map.mp hq
      obtain ⟨p, hp, rfl⟩ := List.mem_map.mp hk
      obtain ⟨h1, h2⟩ := List.mem_filter.mp hp
      have := hno p h1 (of_decide_eq_true h2)
      simp [this]
    unfold comes
    rw [e]
    show ¬ (1 : Int) ≤ 0
    decide
end Zz

set_option Elab.async false
set_option linter.all false
set_option maxRecDepth 100000
set_option maxHeartbeats 4000000
namespace Zz
open PySem PySem.Spec PyProof.Rows L2

section
variable {cM cR cL : Addr} {M : MM} {Q : D → MM → Prop} {m : Int} {r : Row} {t : Bool} {ls : List Int}
theorem isBet_no (h : MOk m) (e : isBet 1 600 (.int m) = false) : False := by rw [bet_of h] at e; cases e
theorem noExc_cl (r : Row) (ls : List Int) : noExc (clD r ls) := by
  unfold clD
  split <;> trivial
theorem lits_eq {t b' : Bool} {ls ls' : List Int} (e : litsD t ls = litsD b' ls') : ls' = ls := by
  have hi : ∀ {a b : List Int}, a.map D.int = b.map D.int → a = b := fun h => map_inj (fun _ _ => D.int.inj) h
  cases t <;> cases b'
  · exact (hi (D.lst.inj e)).symm
  · cases e
  · cases e
  · exact (hi (D.tup.inj e)).symm
theorem cl_good (hm : MOk m) (hm6 : m ≤ 6) (hr : RowOk m r) (hl : LsOk m ls) (k : Q (clD r ls) M) : pureOf (g_clause_of cM cR cL) [.int m, rowD r, litsD t ls] M Q := by
  have hm0 : 0 ≤ m := by have := hm.1; omega
  refine ⟨.int m, rowD r, litsD t ls, rfl, ⟨_, rfl⟩, fun _ _ _ => dat_row (dat_rowD hm0 hm6 hr), fun _ _ _ _ _ _ => lsDat hl hm0 hm6, fun e => (isBet_no hm e).elim, fun m' e _ h => ?_, fun m' r' e _ e2 _ h => ?_, fun m' r' b' ls' A => ?_⟩
  · obtain rfl := D.int.inj e
    rw [rowR_ok hr] at h; cases h
  · obtain rfl := D.int.inj e
    rw [litsR_ok hl] at h; cases h
  · obtain rfl := rowD_inj A.er
    obtain rfl := lits_eq A.el
    exact ⟨by have := hr.1.len hm0; omega, noExc_cl _ _, k⟩
theorem cl_many {md rd d : D} (hx : BadM md) (k : Q (.exc cM [] []) M) : g_clause_of cM cR cL [md, rd, d] M Q :=
  ⟨md, rd, d, rfl, hx.2 M, fun m' e h => (many_no hx e h).elim, fun m' r' e h => (many_no hx e h).elim, fun _ => k, fun m' e h => (many_no hx e h).elim, fun m' r' e h => (many_no hx e h).elim, fun m' r' b' ls' A => (many_no hx A.em A.mo).elim⟩
theorem cl_row {rd d : D} (hm : MOk m) (hb : BadR m rd) (k : Q (.exc cR [] []) M) : g_clause_of cM cR cL [.int m, rd, d] M Q := by
  have no : ∀ m' r', D.int m = .int m' → rd = rowD r' → RowOk m' r' → False := fun m' r' e e2 h => by
    obtain rfl := D.int.inj e
    have := hb.1
    rw [e2, rowR_ok h] at this; cases this
  exact ⟨.int m, rd, d, rfl, ⟨_, rfl⟩, fun _ _ _ => dat_row hb.2, fun m' r' e _ e2 h => (no m' r' e e2 h).elim, fun e => (isBet_no hm e).elim, fun _ _ _ _ => k, fun m' r' e _ e2 h => (no m' r' e e2 h).elim, fun m' r' b' ls' A => (no m' r' A.em A.er A.ro).elim⟩
theorem cl_lits {d : D} (hm : MOk m) (hm6 : m ≤ 6) (hr : RowOk m r) (hd : BadLs m d) (k : Q (.exc cL [] []) M) : g_clause_of cM cR cL [.int m, rowD r, d] M Q := by
  have hm0 : 0 ≤ m := by have := hm.1; omega
  refine ⟨.int m, rowD r, d, rfl, ⟨_, rfl⟩, fun _ _ _ => dat_row (dat_rowD hm0 hm6 hr), fun _ _ _ _ _ _ => hd.2 M, fun e => (isBet_no hm e).elim, fun m' e _ h => ?_, fun _ _ _ _ _ _ _ => k, fun m' r' b' ls' A => ?_⟩
  · obtain rfl := D.int.inj e
    rw [rowR_ok hr] at h; cases h
  · obtain rfl := D.int.inj A.em
    have := hd.1
    rw [A.el, litsR_ok A.lo] at this; cases this
theorem ok_insN (i : Ins) (n : Nat) : okD (n + 1) (insD i) = true := by
  have e : insD i = .tup (.str (kindS i) :: argL i) := by cases i <;> rfl
  rw [e]
  refine (show okDs n (.str (kindS i) :: argL i) = true from okDs_all fun x hx => ?_)
  rcases List.mem_cons.mp hx with rfl | hx
  · exact kind_ok i n
  · obtain ⟨j, rfl⟩ := arg_int hx
    exact ok_int _ _
theorem ok_cl (r : Row) (ls : List Int) : okD 60 (clD r ls) = true := by
  unfold clD
  split
  · rfl
  · refine okDs_all (n := 59) fun x hx => ?_
    simp only [List.mem_cons, List.not_mem_nil, or_false] at hx
    rcases hx with rfl | rfl
    · refine okDs_all (n := 58) fun y hy => ?_
      obtain ⟨i, _, rfl⟩ := List.mem_map.mp hy
      exact ok_insN i 57
    · exact ok_rowN 56 _
theorem book_disp {env : ZT} {Q : D → MM → Prop} {i : Nat} {n : Int} (h : env[i]? = some (some (rowD r))) (k : Q (bookD [(n, r)]) M) : zDispF [((zC (.int n)), (zVar i))] env M Q := by
  refine (show zPairs _ env M _ from ?_)
  simp only [zPairs, zC]
  refine var_use h ?_
  exact (show (_ ∧ _) from ⟨by simp, k⟩)
theorem book_one {n i : Int} {r' : Row} (h : bookGet [(n, r)] i = some r') : r = r' := by
  unfold bookGet at h
  by_cases h7 : n = i
  · rw [List.find?_cons_of_pos (by simp [h7])] at h
    exact Option.some.inj h
  · rw [List.find?_cons_of_neg (by simp [h7])] at h
    cases h
end
def g_law (K : PySem.W.Frag) (cW cM cR cL P : Addr) : SpZ := fun ds M Q => ∃ a ns, ds = [.kls K a ns] ∧ ns.length ≤ 63 ∧ M P = some (.tab (lq "law")) ∧ Errs K cW [cM, cR, cL] ∧ ∀ M', Q (.bl true) M'
theorem r_law {K : PySem.W.Frag} {c_WitnessError : Addr} {c_BadLiterals : Addr} {c_BadMany : Addr} {c_BadRow : Addr} {P_law : Addr} (ds : List D) (M : MM) (Q : D → MM → Prop) (hl : ds.length = 1) (h : (g_law K c_WitnessError c_BadMany c_BadRow c_BadLiterals P_law) ds M Q) : t_law K c_WitnessError c_BadLiterals c_BadMany c_BadRow P_law (g_clause_of c_BadMany c_BadRow c_BadLiterals) (g__law_begun K) g__law_draw g__law_fillings g__law_worth g__law_holds g__law_row g__law_bad_many g__law_bad_row g__law_end g__law_some_literals g__law_large g__law_due g__law_bad_literals { nx := fun _ M' => Post Q .non M', rt := Post Q } (startZ 14 ds) M := by
  obtain ⟨a, ns, rfl, hn, hP, HE, q⟩ := h
  show t_law K c_WitnessError c_BadLiterals c_BadMany c_BadRow P_law _ _ _ _ _ _ _ _ _ _ _ _ _ _ _ [some (.kls K a ns), none, none, none, none, none, none, none, none, none, none, none, none, none] M
  unfold t_law
  refine ss_set ?_
  refine ⟨rfl, a, ns, rfl, hn, fun st lp hne hst hlp => ?_⟩
  have hPs : P_law ≠ st := fun e => by rw [e, hst] at hP; cases hP
  have hPl : P_law ≠ lp := fun e => by rw [e, hlp] at hP; cases hP
  generalize hM1 : mu M lp (.hid st) = M1
  have hI0 : Iv st P_law most (mu M1 st (.draw most)) := ⟨mu_same, by rw [mu_ne hPs, ← hM1, mu_ne hPl]; exact hP⟩
  simp only [List.set_cons_zero, List.set_cons_succ]
  refine ss_for ?_
  refine for_rg1 (j := 6 + (if (8 : Int) < (ns.length : Int) then (8 : Int) else (ns.length : Int))) ?_ ?_ ?_ ?_
  · intro Q k
    exact ⟨rfl, k⟩
  · split <;> omega
  · split <;> omega
  have hrl : (rngD 0 (6 + (if (8 : Int) < (ns.length : Int) then (8 : Int) else (ns.length : Int))).toNat).length ≤ 14 := by simp [rngD]; split <;> omega
  refine forGo_ind _ (fun i env M' => ∃ (g : Nat → Option D) (c : Nat), env = [some (.kls K a ns), some (.ref st), g 2, g 3, g 4, g 5, g 6, g 7, g 8, g 9, g 10, g 11, g 12, g 13] ∧ Iv st P_law c M' ∧ 100 * (14 - i) ≤ c) ?_ ?_ _ _ ?_
  · rintro i x env M' hx ⟨g, c, rfl, hI, hc⟩
    have hi : i < 14 := by have := (List.getElem?_eq_some_iff.mp hx).1; omega
    obtain ⟨b, rfl⟩ : ∃ b, c = b + 100 := ⟨c - 100, by omega⟩
    refine ⟨_, rfl, fun K' hK => ?_⟩
    dsimp only [List.set_cons_zero, List.set_cons_succ]
    -- how many variables
    refine ss_set (st_bin (st_c (st_fn2 (var_use rfl (st_c ⟨st, 6, b + 99, rfl, hI.dr rfl, by decide, by decide, fun x0 hx0 hx1 => ?_⟩)))))
    have hI := hI.draw hPs (b + 99)
    generalize mu M' st (.draw (b + 99)) = M2 at hI
    simp only [rzAdd, view]
    dsimp only [List.set_cons_zero, List.set_cons_succ]
    obtain ⟨m, hm⟩ : ∃ m : Int, m = 1 + x0 := ⟨_, rfl⟩
    rw [← hm]
    have hm1 : 1 ≤ m := by omega
    have hm6 : m ≤ 6 := by omega
    have hm0 : 0 ≤ m := by omega
    have hmo : MOk m := ⟨hm1, by omega⟩
    -- a row, literals
    refine ss_asg2 (st_fn2 (var_use rfl (st_fn3 (var_use rfl (var_use rfl (st_c ⟨st, m, 6, b + 78, rfl, hI.dr rfl, hm1, hm6, by decide, by decide, fun r0 hr0 h6 hb0 => ?_⟩))))))
    have hI := hI.draw hPs (b + 78)
    generalize mu M2 st (.draw (b + 78)) = M3 at hI
    refine ⟨st, m, r0, b + 76, rfl, hI.dr rfl, hr0, h6, hb0, fun r hr hsm => ?_⟩
    have hI := hI.draw hPs (b + 76)
    generalize mu M3 st (.draw (b + 76)) = M4 at hI
    refine st_fn2 (var_use rfl (var_use rfl ⟨st, m, b + 62, rfl, hI.dr rfl, hm1, hm6, fun ls hls => ?_⟩))
    have hI := hI.draw hPs (b + 62)
    generalize mu M4 st (.draw (b + 62)) = M5 at hI
    dsimp only [List.set_cons_zero, List.set_cons_succ]
    have hrl6 : r.1.length ≤ 6 := by have := hr.1.len hm0; omega
    -- what is due, what is told
    refine ss_par (ta_cons (st_fn2 (var_use rfl (var_use rfl ⟨r, .lst (ls.map D.int), ls, rfl, rfl, by omega, ta_cons (st_fn3 (var_use rfl (var_use rfl (var_use rfl (cl_good (t := false) hmo hm6 hr hls (ta_nil (par2_use ?_)))))))⟩))))
    dsimp only [List.set_cons_zero, List.set_cons_succ]
    -- behind the first part
    have rest : ∀ e8 e9 e10 : Option D, (zSeq (zIfS (zTst (zBin rzNe (zFnK 0 [2, 1, 0] (pureOf (g_clause_of c_BadMany c_BadRow c_BadLiterals)) zaNil (zaCons (zCall rzTuple (zaCons (zVar 5) zaNil)) (zaCons (zVar 4) (zaCons (zVar 3) zaNil)))) (zVar 6))) (zRet (zC (.bl false))) zNext) (zSeq (zAsg (.tup [.nm 11, .nm 12, .nm 13]) (zTup (zaCons (zFn 1 g__law_bad_many (zaCons (zVar 1) zaNil)) (zaCons (zFn 2 g__law_bad_row (zaCons (zVar 1) (zaCons (zVar 3) zaNil))) (zaCons (zFn 2 g__law_bad_literals (zaCons (zVar 1) (zaCons (zVar 3) zaNil))) zaNil))))) (zSeq (zIfS (zNot (zTst (zUn (rzIsC K c_BadMany) (zCaught K c_WitnessError P_law (lq "law") (zFn 3 (g_clause_of c_BadMany c_BadRow c_BadLiterals) (zaCons (zVar 11) (zaCons (zVar 12) (zaCons (zC .non) zaNil)))))))) (zRet (zC (.bl false))) zNext) (zSeq (zIfS (zNot (zTst (zUn (rzIsC K c_BadRow) (zCaught K c_WitnessError P_law (lq "law") (zFn 3 (g_clause_of c_BadMany c_BadRow c_BadLiterals) (zaCons (zVar 3) (zaCons (zVar 12) (zaCons (zVar 13) zaNil)))))))) (zRet (zC (.bl false))) zNext) (zIfS (zNot (zTst (zUn (rzIsC K c_BadLiterals) (zCaught K c_WitnessError P_law (lq "law") (zFn 3 (g_clause_of c_BadMany c_BadRow c_BadLiterals) (zaCons (zVar 3) (zaCons (zVar 4) (zaCons (zVar 13) zaNil)))))))) (zRet (zC (.bl false))) zNext))))) { nx := fun e M' => True ∧ K' e M', rt := Post Q, bk := zRet (zC (.bl true)) { nx := fun x M' => Post Q .non M', rt := Post Q }, ct := fun e M' => True ∧ K' e M' } [some (.kls K a ns), some (.ref st), some x, some (.int m), some (rowD r), some (.lst (ls.map D.int)), some (clD r ls), some (clD r ls), e8, e9, e10, g 11, g 12, g 13] M5 := by
      intro e8 e9 e10
      refine ss_chk (ev_ne (d := clD r ls) (ev_k3 (a := .tup (ls.map D.int)) (fun Q k => st_call1 (var_use rfl k)) (ev_v rfl) (ev_v rfl) fun Q k => cl_good (t := true) hmo hm6 hr hls k) (ev_v rfl) (by unfold clD; split <;> rfl) (ok_cl _ _)) ?_
      refine ss_asg3 (st_fn1 (var_use rfl ⟨st, b + 61, rfl, hI.dr rfl, fun bm hbm => ?_⟩))
      have hI := hI.draw hPs (b + 61)
      generalize mu M5 st (.draw (b + 61)) = M6 at hI
      refine st_fn2 (var_use rfl (var_use rfl ⟨st, m, b + 60, rfl, hI.dr rfl, fun br hbr => ?_⟩))
      have hI := hI.draw hPs (b + 60)
      generalize mu M6 st (.draw (b + 60)) = M7 at hI
      refine st_fn2 (var_use rfl (var_use rfl ⟨st, m, b + 59, rfl, hI.dr rfl, hm1, hm6, fun bl hbl => ?_⟩))
      have hI := hI.draw hPs (b + 59)
      generalize mu M7 st (.draw (b + 59)) = M8 at hI
      dsimp only [List.set_cons_zero, List.set_cons_succ]
      refine ss_chk (isC_caught hI.2 (HE.exm _ (by simp)) (HE.exc _ (by simp)) fun Q k => st_fn3 (var_use rfl (var_use rfl (st_c (cl_many hbm k))))) ?_
      refine ss_chk (isC_caught hI.2 (HE.exm _ (by simp)) (HE.exc _ (by simp)) fun Q k => st_fn3 (var_use rfl (var_use rfl (var_use rfl (cl_row hmo hbr k))))) ?_
      refine s1_chk (isC_caught hI.2 (HE.exm _ (by simp)) (HE.exc _ (by simp)) fun Q k => st_fn3 (var_use rfl (var_use rfl (var_use rfl (cl_lits hmo hm6 hr hbl k))))) ?_
      exact ⟨trivial, hK _ _ ⟨fun k => match k with | 2 => some x | 3 => some (.int m) | 4 => some (rowD r) | 5 => some (.lst (ls.map D.int)) | 6 => some (clD r ls) | 7 => some (clD r ls) | 8 => e8 | 9 => e9 | 10 => e10 | 11 => some bm | 12 => some br | 13 => some bl | _ => none, b + 59, rfl, hI, by omega⟩⟩
    by_cases h0 : slk r ls ≥ 0
    · have ecl : clD r ls = .non := by unfold clD; rw [if_pos h0]
      refine st_seq (st_ifS (ev_use true (fun Q k => st_tst (st_bin (var_use (d := clD r ls) rfl (st_c (by rw [ecl]; exact k))))) (ite_t rfl ?_)))
      refine s1_chk (fun Q k => st_tst (st_bin (var_use (d := clD r ls) rfl (st_c (by rw [ecl]; exact k))))) ?_
      exact rest _ _ _
    · have ecl : clD r ls = .tup [.lst ((stps 0 r ls).map insD), rowD (clR r ls)] := by unfold clD; rw [if_neg h0]
      have hok := ok_cl r ls
      rw [ecl] at rest hok ⊢
      have hsl : slk r ls < 0 := by omega
      obtain ⟨hrun, hcok, hchold⟩ := cl_run hr hsm hsl
      obtain ⟨cr, hcr⟩ : ∃ cr, cr = clR r ls := ⟨_, rfl⟩
      obtain ⟨sd, hsd⟩ : ∃ sd : D, sd = .lst ((stps 0 r ls).map insD) := ⟨_, rfl⟩
      rw [← hcr] at hrun hcok hchold
      rw [← hcr, ← hsd] at rest hok ⊢
      have v7 : ∀ {env : ZT} {Mx : MM}, env[7]? = some (some (.tup [sd, rowD cr])) → Ev (zVar 7) env Mx (.tup [sd, rowD cr]) := fun h Q k => var_use h k
      refine st_seq (st_ifS (ev_use false (fun Q k => st_tst (st_bin (var_use (d := .tup [sd, rowD cr]) rfl (st_c (show rzIsN (.tup [sd, rowD cr]) .non _ _ from k))))) (ite_f rfl ?_)))
      refine ss_chk (ev_or_f (ev_not (b := true) (ev_isi (v7 rfl) rfl rfl)) (ev_or_f (ev_neI (ev_lnT (v7 rfl) rfl) ev_c rfl) (ev_or_f (ev_not (b := true) (ev_isi (d := sd) (ev_ix0 (v7 rfl)) (by rw [hsd]; rfl) rfl)) (ev_ne (v7 rfl) (ev_v rfl) rfl hok)))) ?_
      refine ss_chk (ev_ne (d := rowD cr) (fun Q k => ?_) (ev_ix1 (v7 rfl)) rfl (ok_rowN 57 _)) ?_
      · refine st_fn3 (var_use rfl (book_disp rfl (ev_ix0 (v7 rfl) _ ?_)))
        rw [hsd]
        refine ⟨m, [(0, r)], stps 0 r ls, rfl, hm0, by omega, fun i r' h => by rw [← book_one h]; exact ⟨hr, sm_big (m := m) hsm⟩, fun i hi => ?_, ?_, ?_⟩
        · unfold stps at hi
          rcases List.mem_cons.mp hi with rfl | hi
          · exact ⟨(fun e => by cases e), rfl⟩
          rcases List.mem_append.mp hi with hi | hi
          · obtain ⟨q, hq, rfl⟩ := List.mem_map.mp hi
            obtain ⟨a1, a2, a3⟩ := (hr.1.1 q (List.mem_filter.mp hq).1).2
            refine ⟨(fun e => by cases e), ?_⟩
            show 1 ≤ absI q.2 ∧ absI q.2 ≤ m
            rw [absI_nat]; omega
          · simp only [List.mem_cons, List.not_mem_nil, or_false] at hi
            rcases hi with rfl | rfl
            · exact ⟨(fun e => by cases e), trivial⟩
            · refine ⟨(fun e => by cases e), ?_⟩
              have n0 : 0 ≤ ((r.1.filter fun q => !decide (-q.2 ∈ ls)).map (·.1)).sum := sum_pos _ _ fun p hp => by have := (hr.1.1 p (List.mem_filter.mp hp).1).1; omega
              have h2 := hsm.2.2
              show 1 ≤ -slk r ls ∧ -slk r ls ≤ tenFt
              unfold slk at hsl ⊢
              omega
        · unfold stps
          have := List.length_filter_le (fun q : Int × Int => !decide (-q.2 ∈ ls)) r.1
          simp only [List.length_cons, List.length_append, List.length_map, List.length_nil]; omega
        · rw [hrun]; exact k
      -- at all fillings
      refine (show iSeq K _ _ _ _ from st_fn1 (var_use rfl ⟨m, rfl, hm0, hm6, fun fs _ _ hff _ => ?_⟩))
      refine (show forGo _ _ _ _ _ _ _ from ?_)
      refine forGo_ind _ (fun j env M' => ∃ e8 e9 e10 : Option D, env = [some (.kls K a ns), some (.ref st), some x, some (.int m), some (rowD r), some (.lst (ls.map D.int)), some (.tup [sd, rowD cr]), some (.tup [sd, rowD cr]), e8, e9, e10, g 11, g 12, g 13] ∧ M' = M5) ?_ ?_ _ _ ⟨_, _, _, rfl, rfl⟩
      · rintro j y env M' hy ⟨e8, e9, e10, rfl, rfl⟩
        obtain ⟨f, hfm, rfl⟩ := List.mem_map.mp (mem_of_at hy)
        have hf := hff f hfm
        refine ⟨_, rfl, fun K2 hK2 => ?_⟩
        dsimp only [List.set_cons_zero, List.set_cons_succ]
        obtain ⟨gv, hgv⟩ : ∃ gv : Bool, gv = ((ls.filter fun l => decide (worth l f = 0)).map fun _ => D.int 1).isEmpty := ⟨_, rfl⟩
        refine ss_ev (d := .bl gv) (fun Q k => st_bin ?_) ?_
        · refine comp_f D.int (fun _ => .int 1) (fun l => decide (worth l f = 0)) ls (fun Q k => var_use rfl k) (.inr rfl) (fun l hl => ⟨_, rfl, ev_eqI (fun Q k => st_fn2 (var_use rfl (var_use rfl ?_))) ev_c rfl, fun _ Q k => k⟩) ?_
          · refine ⟨l, f, rfl, ?_, ?_⟩
            · have := hf.1
              rw [this]; exact hls.1 l hl
            · exact ‹_›
          · refine (show zLst zaNil _ _ _ from ⟨by simp, ?_⟩)
            refine ⟨okDs_all (n := 59) fun x hx => ?_, rfl, ?_⟩
            · obtain ⟨_, _, rfl⟩ := List.mem_map.mp hx
              exact ok_int _ _
            · simp only [view]
              rw [deq_nilD, ← hgv]
              exact k
        have hgt : gv = true → ∀ l, l ∈ ls → worth l f ≠ 0 := fun h l hl e => by
          rw [hgv, List.isEmpty_iff, List.map_eq_nil_iff, List.filter_eq_nil_iff] at h
          exact h l hl (decide_eq_true e)
        dsimp only [List.set_cons_zero, List.set_cons_succ]
        have h4 : EvT (zTst (zFn 2 g__law_holds (zaCons (zVar 4) (zaCons (zVar 8) zaNil)))) [some (.kls K a ns), some (.ref st), some x, some (.int m), some (rowD r), some (.lst (ls.map D.int)), some (.tup [sd, rowD cr]), some (.tup [sd, rowD cr]), some (filD f), some (.bl gv), e10, g 11, g 12, g 13] M' (holds r f) := fun Q k => st_tst (st_fn2 (var_use rfl (var_use rfl ⟨r, f, rfl, hr.lits hf, k⟩)))
        have h5 : EvT (zTst (zFn 2 g__law_holds (zaCons (zBin rzIx (zVar 7) (zC (.int 1))) (zaCons (zVar 8) zaNil)))) [some (.kls K a ns), some (.ref st), some x, some (.int m), some (rowD r), some (.lst (ls.map D.int)), some (.tup [sd, rowD cr]), some (.tup [sd, rowD cr]), some (filD f), some (.bl gv), e10, g 11, g 12, g 13] M' (holds cr f) := fun Q k => st_tst (st_fn2 (ev_ix1 (v7 rfl) _ (var_use rfl ⟨cr, f, rfl, hcok.lits hf, k⟩)))
        have h9 : EvT (zTst (zVar 9)) [some (.kls K a ns), some (.ref st), some x, some (.int m), some (rowD r), some (.lst (ls.map D.int)), some (.tup [sd, rowD cr]), some (.tup [sd, rowD cr]), some (filD f), some (.bl gv), e10, g 11, g 12, g 13] M' gv := fun Q k => st_tst (var_use rfl k)
        refine s1_chk (ev_or_f ?_ ?_) ⟨trivial, hK2 _ _ ⟨_, _, _, rfl, rfl⟩⟩
        · cases hb : holds r f with
          | false => rw [hb] at h4; exact ev_andN h4
          | true =>
            rw [hb] at h4
            rw [hchold f hf hb] at h5
            cases hg : gv with
            | false => rw [hg] at h9; exact ev_andT h4 (ev_or_f h9 (ev_not h5))
            | true =>
              have := (cl_given hr hf hsl (hgt hg)).1
              rw [hb] at this; cases this
        · cases hg : gv with
          | false => rw [hg] at h9; exact ev_andN h9
          | true =>
            rw [hg] at h9
            have : holds cr f = false := by rw [hcr]; exact (cl_given hr hf hsl (hgt hg)).2
            rw [this] at h5
            exact ev_andT h9 h5
      · rintro env M' ⟨e8, e9, e10, rfl, rfl⟩
        exact rest _ _ _
  · rintro env M' ⟨g, c, rfl, hI, hc⟩
    dsimp only
    exact st_ret (st_c (Post.self (q _)))
  · refine ⟨fun _ => none, most, rfl, hI0, by decide⟩
end Zz

set_option Elab.async false
set_option linter.all false
set_option maxRecDepth 100000
set_option maxHeartbeats 0
namespace Zz
open PySem PySem.Spec PyProof.Rows L2

structure FnAt (K : PySem.W.Frag) (x : Str) (st : Stmt) (f : Addr) (fd : FuncData) : Prop where
  ns : PySem.W.nsIn K mainGlobals x = some (some (.ref f))
  fn : Fun K x x st f fd
theorem FnAt.of {K : PySem.W.Frag} {x : Str} {st : Stmt} {f : Addr} {oc : Value} {od an : Option Addr} {osl : Array (Option Value)} {kV doc pm cdv ct : Value} (a : PySem.W.nsIn K mainGlobals x = some (some (.ref f))) (l : K.lookup f = some ⟨oc, od, .func (PySem.W.fnOf x x (defArgs st) (defBody st) (defScope st) .none kV doc pm an cdv ct), osl⟩) (c : PySem.W.codeIn K cdv x = true) (k : PySem.W.keepIn K (.ref f) = true) : FnAt K x st f (PySem.W.fnOf x x (defArgs st) (defBody st) (defScope st) .none kV doc pm an cdv ct) := ⟨a, fun_mk l c k⟩
theorem all_mk {l : PySem.W.OpenLaw} {w : World} {K : PySem.W.Frag} {h : Heap} {mg : Str → Option Value} {fa : Addr} (X : K.In h) (G : h.Ns mainGlobals mg) (hfa : mg "law" = some (.ref fa))
    {f0 f1 f2 f3 f4 f5 f6 f7 f8 f9 f10 f11 f12 f13 f14 f15 f16 f17 f18 f19 f20 f21 f22 f23 f24 f25 f26 f27 f28 f29 f30 f31 f32 f33 f34 f35 f36 f37 f38 f39 : Addr} {fd0 fd1 fd2 fd3 fd4 fd5 fd6 fd7 fd8 fd9 fd10 fd11 fd12 fd13 fd14 fd15 fd16 fd17 fd18 fd19 fd20 fd21 fd22 fd23 fd24 fd25 fd26 fd27 fd28 fd29 fd30 fd31 fd32 fd33 fd34 fd35 fd36 fd37 fd38 : FuncData} {od39 an39 : Option Addr} {sl39 : Array (Option Value)} {oc39 kV39 dc39 pm39 cd39 ct39 : Value}
    {c_WitnessError c_BadLiterals c_BadMany c_BadRow : Addr}
    {co_law P_law : Addr}
    (A0 : FnAt K "is_number" (top 6) f0 fd0)
    (A1 : FnAt K "is_between" (top 7) f1 fd1)
    (A2 : FnAt K "is_from" (top 8) f2 fd2)
    (A3 : FnAt K "is_list" (top 9) f3 fd3)
    (A4 : FnAt K "is_pair" (top 10) f4 fd4)
    (A5 : FnAt K "need_many" (top 13) f5 fd5)
    (A6 : FnAt K "literal_right" (top 14) f6 fd6)
    (A7 : FnAt K "terms_right" (top 15) f7 fd7)
    (A8 : FnAt K "row_right" (top 16) f8 fd8)
    (A9 : FnAt K "literals_right" (top 18) f9 fd9)
    (A10 : FnAt K "room" (top 19) f10 fd10)
    (A11 : FnAt K "clause_parts" (top 20) f11 fd11)
    (A12 : FnAt K "clause_steps" (top 21) f12 fd12)
    (A13 : FnAt K "clause_row" (top 22) f13 fd13)
    (A14 : FnAt K "clause_of" (top 23) f14 fd14)
    (A15 : FnAt K "_law_begun" (top 25) f15 fd15)
    (A16 : FnAt K "_law_draw" (top 26) f16 fd16)
    (A17 : FnAt K "_law_pick" (top 27) f17 fd17)
    (A18 : FnAt K "_law_mixed" (top 28) f18 fd18)
    (A19 : FnAt K "_law_caught" (top 29) f19 fd19)
    (A20 : FnAt K "_law_is_whole" (top 30) f20 fd20)
    (A21 : FnAt K "_law_is_from" (top 31) f21 fd21)
    (A22 : FnAt K "_law_fillings" (top 32) f22 fd22)
    (A23 : FnAt K "_law_worth" (top 33) f23 fd23)
    (A24 : FnAt K "_law_comes" (top 34) f24 fd24)
    (A25 : FnAt K "_law_holds" (top 35) f25 fd25)
    (A26 : FnAt K "_law_is_literal" (top 36) f26 fd26)
    (A27 : FnAt K "_law_normal" (top 37) f27 fd27)
    (A28 : FnAt K "_law_terms" (top 38) f28 fd28)
    (A29 : FnAt K "_law_row" (top 39) f29 fd29)
    (A30 : FnAt K "_law_bad_many" (top 40) f30 fd30)
    (A31 : FnAt K "_law_bad_row" (top 41) f31 fd31)
    (A32 : FnAt K "_law_changed_row" (top 42) f32 fd32)
    (A33 : FnAt K "_law_stack" (top 43) f33 fd33)
    (A34 : FnAt K "_law_end" (top 44) f34 fd34)
    (A35 : FnAt K "_law_some_literals" (top 45) f35 fd35)
    (A36 : FnAt K "_law_large" (top 46) f36 fd36)
    (A37 : FnAt K "_law_due" (top 47) f37 fd37)
    (A38 : FnAt K "_law_bad_literals" (top 48) f38 fd38)
    (a39 : PySem.W.nsIn K mainGlobals "law" = some (some (.ref f39))) (l39 : K.lookup f39 = some ⟨oc39, od39, .func (PySem.W.fnOf "law" "law" (defArgs (top 49)) (defBody (top 49)) (defScope (top 49)) .none kV39 dc39 pm39 an39 cd39 ct39), sl39⟩) (c39 : PySem.W.codeIn K cd39 "law" = true) (k39 : PySem.W.keepIn K (.ref f39) = true)
    (b_len : PySem.W.nsIn K mainGlobals "len" = some none) (b_abs : PySem.W.nsIn K mainGlobals "abs" = some none) (b_max : PySem.W.nsIn K mainGlobals "max" = some none) (b_min : PySem.W.nsIn K mainGlobals "min" = some none) (b_sum : PySem.W.nsIn K mainGlobals "sum" = some none) (b_all : PySem.W.nsIn K mainGlobals "all" = some none) (b_any : PySem.W.nsIn K mainGlobals "any" = some none) (b_sorted : PySem.W.nsIn K mainGlobals "sorted" = some none) (b_tuple : PySem.W.nsIn K mainGlobals "tuple" = some none) (b_list : PySem.W.nsIn K mainGlobals "list" = some none) (b_int : PySem.W.nsIn K mainGlobals "int" = some none) (b_bool : PySem.W.nsIn K mainGlobals "bool" = some none) (b_str : PySem.W.nsIn K mainGlobals "str" = some none) (b_range : PySem.W.nsIn K mainGlobals "range" = some none) (b_zip : PySem.W.nsIn K mainGlobals "zip" = some none) (b_enumerate : PySem.W.nsIn K mainGlobals "enumerate" = some none) (b_isinstance : PySem.W.nsIn K mainGlobals "isinstance" = some none) (b_repr : PySem.W.nsIn K mainGlobals "repr" = some none) (b_set : PySem.W.nsIn K mainGlobals "set" = some none) (b_dict : PySem.W.nsIn K mainGlobals "dict" = some none) (b_reversed : PySem.W.nsIn K mainGlobals "reversed" = some none)
    (n_WitnessError : PySem.W.nsIn K mainGlobals "WitnessError" = some (some (.ref c_WitnessError)))
    (n_BadLiterals : PySem.W.nsIn K mainGlobals "BadLiterals" = some (some (.ref c_BadLiterals)))
    (n_BadMany : PySem.W.nsIn K mainGlobals "BadMany" = some (some (.ref c_BadMany)))
    (n_BadRow : PySem.W.nsIn K mainGlobals "BadRow" = some (some (.ref c_BadRow)))
    (q_BadLiterals : PySem.W.keepIn K (.ref c_BadLiterals) = true) (s_BadLiterals : PySem.W.subIn K (.ref c_BadLiterals) (.type "BaseException") = some true) (y_BadLiterals : PySem.W.typeIn K (.ref c_BadLiterals) = some (.type "type")) (x_BadLiterals : PySem.W.excIn K c_BadLiterals [.type "ValueError", .type "Exception", .type "BaseException", .type "object"] "ValueError.__new__" = true)
    (q_BadMany : PySem.W.keepIn K (.ref c_BadMany) = true) (s_BadMany : PySem.W.subIn K (.ref c_BadMany) (.type "BaseException") = some true) (y_BadMany : PySem.W.typeIn K (.ref c_BadMany) = some (.type "type")) (x_BadMany : PySem.W.excIn K c_BadMany [.type "ValueError", .type "Exception", .type "BaseException", .type "object"] "ValueError.__new__" = true)
    (q_BadRow : PySem.W.keepIn K (.ref c_BadRow) = true) (s_BadRow : PySem.W.subIn K (.ref c_BadRow) (.type "BaseException") = some true) (y_BadRow : PySem.W.typeIn K (.ref c_BadRow) = some (.type "type")) (x_BadRow : PySem.W.excIn K c_BadRow [.type "ValueError", .type "Exception", .type "BaseException", .type "object"] "ValueError.__new__" = true)
    (m_BadLiterals_WitnessError : PySem.W.exmOne K (.ref c_BadLiterals) (.ref c_WitnessError) = some true)
    (e1_BadLiterals : PySem.W.findIn K (.ref c_BadLiterals) "__getattribute__" = some (some (.builtin "BaseException.__getattribute__"))) (e2_BadLiterals : PySem.W.findIn K (.ref c_BadLiterals) "__getattr__" = some none) (e3_BadLiterals : PySem.W.hasDictIn K c_BadLiterals = true) (e4_BadLiterals : PySem.W.findIn K (.ref c_BadLiterals) "__class__" = some (some (.builtin "object.__class__"))) (e5_BadLiterals : PySem.W.mroIn K c_BadLiterals (.type "object") = some true)
    (m_BadMany_WitnessError : PySem.W.exmOne K (.ref c_BadMany) (.ref c_WitnessError) = some true)
    (e1_BadMany : PySem.W.findIn K (.ref c_BadMany) "__getattribute__" = some (some (.builtin "BaseException.__getattribute__"))) (e2_BadMany : PySem.W.findIn K (.ref c_BadMany) "__getattr__" = some none) (e3_BadMany : PySem.W.hasDictIn K c_BadMany = true) (e4_BadMany : PySem.W.findIn K (.ref c_BadMany) "__class__" = some (some (.builtin "object.__class__"))) (e5_BadMany : PySem.W.mroIn K c_BadMany (.type "object") = some true)
    (m_BadRow_WitnessError : PySem.W.exmOne K (.ref c_BadRow) (.ref c_WitnessError) = some true)
    (e1_BadRow : PySem.W.findIn K (.ref c_BadRow) "__getattribute__" = some (some (.builtin "BaseException.__getattribute__"))) (e2_BadRow : PySem.W.findIn K (.ref c_BadRow) "__getattr__" = some none) (e3_BadRow : PySem.W.hasDictIn K c_BadRow = true) (e4_BadRow : PySem.W.findIn K (.ref c_BadRow) "__class__" = some (some (.builtin "object.__class__"))) (e5_BadRow : PySem.W.mroIn K c_BadRow (.type "object") = some true)
    (z1 : PySem.W.specialIn K (.builtin "object.__class__") "__get__" = some (some (.builtin "getset_descriptor.__get__"))) (z2 : PySem.W.takesIn K (.builtin "object.__class__") = some true)
    {te_law : Value} {td_law : Option Addr} {tv_law : Array Value} {ts_law : Array (Option Value)} (tq_law : cd39 = .ref co_law) (tc_law : K.lookup co_law = some ⟨te_law, td_law, .fields tv_law, ts_law⟩) (tp_law : (tv_law[11]? : Option Value) = some (.ref P_law)) (nt_law : K.lookup P_law = none)
    {t_MOST_MANY : Tok} (i_MOST_MANY : PySem.W.nsIn K mainGlobals "MOST_MANY" = some (some (.int 600 t_MOST_MANY)))
    : ∃ (fd : FuncData) (cs : List (Addr × Addr)) (nm : Addr → Str) (g : SpZ), (∀ p ∈ cs, (∃ x ∈ (["law"] : List Str), PySem.W.tabIn K x = some p) ∧ K.lookup p.2 = none) ∧ (∀ (s : Shared) (v : Value), BindsTo s fd ⟨[v], []⟩ [("_law_script", v)]) ∧ (∀ (a : Addr) (ns : List Int), ns.length ≤ 63 → g [.kls K a ns] (startM cs nm) fun d _ => d = .bl true) ∧ ∀ base : Heap, K.In base → base.Ns mainGlobals mg → (∀ p ∈ cs, LamX.TabB base mg p.1 p.2) → FnG l.prog w K mg base CX0 9 fa fd ["_law_script"] (liftSp 1 g) := by
  have e := hfa.symm.trans (PySem.W.mg_of X G a39)
  cases e
  have B : Bs mg := ⟨PySem.W.mg_none_of X G b_len, PySem.W.mg_none_of X G b_abs, PySem.W.mg_none_of X G b_max, PySem.W.mg_none_of X G b_min, PySem.W.mg_none_of X G b_sum, PySem.W.mg_none_of X G b_all, PySem.W.mg_none_of X G b_any, PySem.W.mg_none_of X G b_sorted, PySem.W.mg_none_of X G b_tuple, PySem.W.mg_none_of X G b_list, PySem.W.mg_none_of X G b_int, PySem.W.mg_none_of X G b_bool, PySem.W.mg_none_of X G b_str, PySem.W.mg_none_of X G b_range, PySem.W.mg_none_of X G b_zip, PySem.W.mg_none_of X G b_enumerate, PySem.W.mg_none_of X G b_isinstance, PySem.W.mg_none_of X G b_repr, PySem.W.mg_none_of X G b_set, PySem.W.mg_none_of X G b_dict, PySem.W.mg_none_of X G b_reversed⟩
  have tb_law : PySem.W.tabIn K "law" = some (co_law, P_law) := tab_mk a39 l39 tq_law tc_law tp_law
  have m_MOST_MANY : ∃ t, mg "MOST_MANY" = some (.int 600 t) := ⟨_, PySem.W.mg_of X G i_MOST_MANY⟩
  have m_WitnessError := PySem.W.mg_of X G n_WitnessError
  have m_BadLiterals := PySem.W.mg_of X G n_BadLiterals
  have m_BadMany := PySem.W.mg_of X G n_BadMany
  have m_BadRow := PySem.W.mg_of X G n_BadRow
  have e_BadLiterals : ErrC K mg "BadLiterals" c_BadLiterals := ⟨m_BadLiterals, q_BadLiterals, s_BadLiterals, y_BadLiterals⟩
  have E_BadLiterals : ExcC K c_BadLiterals := ⟨e1_BadLiterals, e2_BadLiterals, s_BadLiterals, e3_BadLiterals, e4_BadLiterals, z1, z2, e5_BadLiterals⟩
  have e_BadMany : ErrC K mg "BadMany" c_BadMany := ⟨m_BadMany, q_BadMany, s_BadMany, y_BadMany⟩
  have E_BadMany : ExcC K c_BadMany := ⟨e1_BadMany, e2_BadMany, s_BadMany, e3_BadMany, e4_BadMany, z1, z2, e5_BadMany⟩
  have e_BadRow : ErrC K mg "BadRow" c_BadRow := ⟨m_BadRow, q_BadRow, s_BadRow, y_BadRow⟩
  have E_BadRow : ExcC K c_BadRow := ⟨e1_BadRow, e2_BadRow, s_BadRow, e3_BadRow, e4_BadRow, z1, z2, e5_BadRow⟩
  have F39 := fun_mk (st := top 49) l39 c39 k39
  have K_KB_clause_of_0_law : KwB K mg "clause_of" 0 ["literals", "row", "many"] [2, 1, 0] := kwB_mk A14.fn (PySem.W.mg_of X G A14.ns) (fun _ _ _ _ _ _ us ws h1 h2 => match us, ws, h1, h2 with | [], [_, _, _], _, _ => rfl)
  refine ⟨PySem.W.fnOf "law" "law" (defArgs (top 49)) (defBody (top 49)) (defScope (top 49)) .none kV39 dc39 pm39 an39 cd39 ct39, [(co_law, P_law)], fun _ => lq "law", (g_law K c_WitnessError c_BadMany c_BadRow c_BadLiterals P_law), fun p hp => ?_, fun s v => .of_eq rfl, fun a ns hn => ?_, fun base _ _ TBs => ?_⟩
  · obtain rfl := List.mem_singleton.mp hp
    exact ⟨⟨"law", List.mem_singleton.mpr rfl, tb_law⟩, nt_law⟩
  · exact ⟨a, ns, rfl, hn, if_pos (by simp), ⟨fun c hc => by simp only [List.mem_cons, List.not_mem_nil, or_false] at hc; rcases hc with rfl | rfl | rfl <;> assumption, fun c hc => by simp only [List.mem_cons, List.not_mem_nil, or_false] at hc; rcases hc with rfl | rfl | rfl <;> assumption⟩, fun _ => rfl⟩
  have H_is_number : Fz l.prog w K mg base 1 "is_number" 1 g_is_number := w_is_number (c_WitnessError := c_WitnessError) (c_BadLiterals := c_BadLiterals) (c_BadMany := c_BadMany) (c_BadRow := c_BadRow) (P_law := P_law) A0.fn (PySem.W.mg_of X G A0.ns) B r_is_number
  have H_is_between : Fz l.prog w K mg base 2 "is_between" 3 g_is_between := w_is_between (c_WitnessError := c_WitnessError) (c_BadLiterals := c_BadLiterals) (c_BadMany := c_BadMany) (c_BadRow := c_BadRow) (P_law := P_law) A1.fn (PySem.W.mg_of X G A1.ns) B H_is_number r_is_between
  have H_is_from : Fz l.prog w K mg base 2 "is_from" 2 g_is_from := w_is_from (c_WitnessError := c_WitnessError) (c_BadLiterals := c_BadLiterals) (c_BadMany := c_BadMany) (c_BadRow := c_BadRow) (P_law := P_law) A2.fn (PySem.W.mg_of X G A2.ns) B H_is_number r_is_from
  have H_is_list : Fz l.prog w K mg base 1 "is_list" 1 g_is_list := w_is_list (c_WitnessError := c_WitnessError) (c_BadLiterals := c_BadLiterals) (c_BadMany := c_BadMany) (c_BadRow := c_BadRow) (P_law := P_law) A3.fn (PySem.W.mg_of X G A3.ns) B r_is_list
  have H_is_pair : Fz l.prog w K mg base 1 "is_pair" 1 g_is_pair := w_is_pair (c_WitnessError := c_WitnessError) (c_BadLiterals := c_BadLiterals) (c_BadMany := c_BadMany) (c_BadRow := c_BadRow) (P_law := P_law) A4.fn (PySem.W.mg_of X G A4.ns) B r_is_pair
  have H_need_many : Fx l.prog w K mg base 3 "need_many" 1 (g_need_many c_BadMany) := w_need_many (c_WitnessError := c_WitnessError) (c_BadLiterals := c_BadLiterals) (c_BadMany := c_BadMany) (c_BadRow := c_BadRow) (P_law := P_law) A5.fn (PySem.W.mg_of X G A5.ns) B m_MOST_MANY e_BadMany x_BadMany H_is_between r_need_many
  have H_literal_right : Fz l.prog w K mg base 3 "literal_right" 2 g_literal_right := w_literal_right (c_WitnessError := c_WitnessError) (c_BadLiterals := c_BadLiterals) (c_BadMany := c_BadMany) (c_BadRow := c_BadRow) (P_law := P_law) A6.fn (PySem.W.mg_of X G A6.ns) B H_is_between r_literal_right
  have H_terms_right : Fz l.prog w K mg base 4 "terms_right" 2 g_terms_right := w_terms_right (c_WitnessError := c_WitnessError) (c_BadLiterals := c_BadLiterals) (c_BadMany := c_BadMany) (c_BadRow := c_BadRow) (P_law := P_law) A7.fn (PySem.W.mg_of X G A7.ns) B H_is_from H_is_pair H_literal_right r_terms_right
  have H_row_right : Fz l.prog w K mg base 5 "row_right" 2 g_row_right := w_row_right (c_WitnessError := c_WitnessError) (c_BadLiterals := c_BadLiterals) (c_BadMany := c_BadMany) (c_BadRow := c_BadRow) (P_law := P_law) A8.fn (PySem.W.mg_of X G A8.ns) B H_is_from H_is_pair H_terms_right r_row_right
  have H_literals_right : Fz l.prog w K mg base 4 "literals_right" 2 g_literals_right := w_literals_right (c_WitnessError := c_WitnessError) (c_BadLiterals := c_BadLiterals) (c_BadMany := c_BadMany) (c_BadRow := c_BadRow) (P_law := P_law) A9.fn (PySem.W.mg_of X G A9.ns) B H_is_list H_literal_right r_literals_right
  have H_room : Fz l.prog w K mg base 1 "room" 2 g_room := w_room (c_WitnessError := c_WitnessError) (c_BadLiterals := c_BadLiterals) (c_BadMany := c_BadMany) (c_BadRow := c_BadRow) (P_law := P_law) A10.fn (PySem.W.mg_of X G A10.ns) B r_room
  have H_clause_parts : Fz l.prog w K mg base 1 "clause_parts" 2 g_clause_parts := w_clause_parts (c_WitnessError := c_WitnessError) (c_BadLiterals := c_BadLiterals) (c_BadMany := c_BadMany) (c_BadRow := c_BadRow) (P_law := P_law) A11.fn (PySem.W.mg_of X G A11.ns) B r_clause_parts
  have H_clause_steps : Fz l.prog w K mg base 2 "clause_steps" 3 g_clause_steps := w_clause_steps (c_WitnessError := c_WitnessError) (c_BadLiterals := c_BadLiterals) (c_BadMany := c_BadMany) (c_BadRow := c_BadRow) (P_law := P_law) A12.fn (PySem.W.mg_of X G A12.ns) B H_room r_clause_steps
  have H_clause_row : Fz l.prog w K mg base 1 "clause_row" 1 g_clause_row := w_clause_row (c_WitnessError := c_WitnessError) (c_BadLiterals := c_BadLiterals) (c_BadMany := c_BadMany) (c_BadRow := c_BadRow) (P_law := P_law) A13.fn (PySem.W.mg_of X G A13.ns) B r_clause_row
  have H_clause_of : Fx l.prog w K mg base 6 "clause_of" 3 (g_clause_of c_BadMany c_BadRow c_BadLiterals) := w_clause_of (c_WitnessError := c_WitnessError) (c_BadLiterals := c_BadLiterals) (c_BadMany := c_BadMany) (c_BadRow := c_BadRow) (P_law := P_law) A14.fn (PySem.W.mg_of X G A14.ns) B e_BadLiterals x_BadLiterals e_BadRow x_BadRow H_need_many H_row_right H_literals_right H_room H_clause_parts H_clause_steps H_clause_row r_clause_of
  have H__law_begun : Fz l.prog w K mg base 1 "_law_begun" 1 (g__law_begun K) := w__law_begun (c_WitnessError := c_WitnessError) (c_BadLiterals := c_BadLiterals) (c_BadMany := c_BadMany) (c_BadRow := c_BadRow) (P_law := P_law) A15.fn (PySem.W.mg_of X G A15.ns) B r__law_begun
  have H__law_draw : Fz l.prog w K mg base 1 "_law_draw" 2 g__law_draw := w__law_draw (c_WitnessError := c_WitnessError) (c_BadLiterals := c_BadLiterals) (c_BadMany := c_BadMany) (c_BadRow := c_BadRow) (P_law := P_law) A16.fn (PySem.W.mg_of X G A16.ns) B r__law_draw
  have H__law_pick : Fz l.prog w K mg base 2 "_law_pick" 2 g__law_pick := w__law_pick (c_WitnessError := c_WitnessError) (c_BadLiterals := c_BadLiterals) (c_BadMany := c_BadMany) (c_BadRow := c_BadRow) (P_law := P_law) A17.fn (PySem.W.mg_of X G A17.ns) B H__law_draw r__law_pick
  have H__law_mixed : Fz l.prog w K mg base 2 "_law_mixed" 2 g__law_mixed := w__law_mixed (c_WitnessError := c_WitnessError) (c_BadLiterals := c_BadLiterals) (c_BadMany := c_BadMany) (c_BadRow := c_BadRow) (P_law := P_law) A18.fn (PySem.W.mg_of X G A18.ns) B H__law_draw r__law_mixed
  have H__law_caught := w__law_caught (P := l.prog) (w := w) (base := base) (c_WitnessError := c_WitnessError) (c_BadLiterals := c_BadLiterals) (c_BadMany := c_BadMany) (c_BadRow := c_BadRow) (P_law := P_law) A19.fn (PySem.W.mg_of X G A19.ns) m_WitnessError
  have H__law_is_whole : Fz l.prog w K mg base 1 "_law_is_whole" 1 g__law_is_whole := w__law_is_whole (c_WitnessError := c_WitnessError) (c_BadLiterals := c_BadLiterals) (c_BadMany := c_BadMany) (c_BadRow := c_BadRow) (P_law := P_law) A20.fn (PySem.W.mg_of X G A20.ns) B r__law_is_whole
  have H__law_is_from : Fz l.prog w K mg base 2 "_law_is_from" 3 g__law_is_from := w__law_is_from (c_WitnessError := c_WitnessError) (c_BadLiterals := c_BadLiterals) (c_BadMany := c_BadMany) (c_BadRow := c_BadRow) (P_law := P_law) A21.fn (PySem.W.mg_of X G A21.ns) B H__law_is_whole r__law_is_from
  have H__law_fillings : Fz l.prog w K mg base 1 "_law_fillings" 1 g__law_fillings := w__law_fillings (c_WitnessError := c_WitnessError) (c_BadLiterals := c_BadLiterals) (c_BadMany := c_BadMany) (c_BadRow := c_BadRow) (P_law := P_law) A22.fn (PySem.W.mg_of X G A22.ns) B r__law_fillings
  have H__law_worth : Fz l.prog w K mg base 1 "_law_worth" 2 g__law_worth := w__law_worth (c_WitnessError := c_WitnessError) (c_BadLiterals := c_BadLiterals) (c_BadMany := c_BadMany) (c_BadRow := c_BadRow) (P_law := P_law) A23.fn (PySem.W.mg_of X G A23.ns) B r__law_worth
  have H__law_comes : Fz l.prog w K mg base 2 "_law_comes" 2 g__law_comes := w__law_comes (c_WitnessError := c_WitnessError) (c_BadLiterals := c_BadLiterals) (c_BadMany := c_BadMany) (c_BadRow := c_BadRow) (P_law := P_law) A24.fn (PySem.W.mg_of X G A24.ns) B H__law_worth r__law_comes
  have H__law_holds : Fz l.prog w K mg base 3 "_law_holds" 2 g__law_holds := w__law_holds (c_WitnessError := c_WitnessError) (c_BadLiterals := c_BadLiterals) (c_BadMany := c_BadMany) (c_BadRow := c_BadRow) (P_law := P_law) A25.fn (PySem.W.mg_of X G A25.ns) B H__law_comes r__law_holds
  have H__law_is_literal : Fz l.prog w K mg base 3 "_law_is_literal" 2 g__law_is_literal := w__law_is_literal (c_WitnessError := c_WitnessError) (c_BadLiterals := c_BadLiterals) (c_BadMany := c_BadMany) (c_BadRow := c_BadRow) (P_law := P_law) A26.fn (PySem.W.mg_of X G A26.ns) B H__law_is_from r__law_is_literal
  have H__law_normal : Fz l.prog w K mg base 1 "_law_normal" 2 g__law_normal := w__law_normal (c_WitnessError := c_WitnessError) (c_BadLiterals := c_BadLiterals) (c_BadMany := c_BadMany) (c_BadRow := c_BadRow) (P_law := P_law) A27.fn (PySem.W.mg_of X G A27.ns) B r__law_normal
  have H__law_terms : Fz l.prog w K mg base 2 "_law_terms" 3 g__law_terms := w__law_terms (c_WitnessError := c_WitnessError) (c_BadLiterals := c_BadLiterals) (c_BadMany := c_BadMany) (c_BadRow := c_BadRow) (P_law := P_law) A28.fn (PySem.W.mg_of X G A28.ns) B H__law_draw r__law_terms
  have H__law_row : Fz l.prog w K mg base 3 "_law_row" 3 g__law_row := w__law_row (c_WitnessError := c_WitnessError) (c_BadLiterals := c_BadLiterals) (c_BadMany := c_BadMany) (c_BadRow := c_BadRow) (P_law := P_law) A29.fn (PySem.W.mg_of X G A29.ns) B H__law_draw H__law_pick H__law_terms r__law_row
  have H__law_bad_many : Fz l.prog w K mg base 3 "_law_bad_many" 1 g__law_bad_many := w__law_bad_many (c_WitnessError := c_WitnessError) (c_BadLiterals := c_BadLiterals) (c_BadMany := c_BadMany) (c_BadRow := c_BadRow) (P_law := P_law) A30.fn (PySem.W.mg_of X G A30.ns) B H__law_pick r__law_bad_many
  have H__law_bad_row : Fz l.prog w K mg base 3 "_law_bad_row" 2 g__law_bad_row := w__law_bad_row (c_WitnessError := c_WitnessError) (c_BadLiterals := c_BadLiterals) (c_BadMany := c_BadMany) (c_BadRow := c_BadRow) (P_law := P_law) A31.fn (PySem.W.mg_of X G A31.ns) B H__law_pick r__law_bad_row
  have H__law_changed_row : Fz l.prog w K mg base 2 "_law_changed_row" 3 g__law_changed_row := w__law_changed_row (c_WitnessError := c_WitnessError) (c_BadLiterals := c_BadLiterals) (c_BadMany := c_BadMany) (c_BadRow := c_BadRow) (P_law := P_law) A32.fn (PySem.W.mg_of X G A32.ns) B H__law_is_whole r__law_changed_row
  have H__law_stack : Fz l.prog w K mg base 4 "_law_stack" 4 g__law_stack := w__law_stack (c_WitnessError := c_WitnessError) (c_BadLiterals := c_BadLiterals) (c_BadMany := c_BadMany) (c_BadRow := c_BadRow) (P_law := P_law) A33.fn (PySem.W.mg_of X G A33.ns) B H__law_is_whole H__law_is_literal H__law_normal H__law_changed_row r__law_stack
  have H__law_end : Fz l.prog w K mg base 5 "_law_end" 3 g__law_end := w__law_end (c_WitnessError := c_WitnessError) (c_BadLiterals := c_BadLiterals) (c_BadMany := c_BadMany) (c_BadRow := c_BadRow) (P_law := P_law) A34.fn (PySem.W.mg_of X G A34.ns) B H__law_stack r__law_end
  have H__law_some_literals : Fz l.prog w K mg base 3 "_law_some_literals" 2 g__law_some_literals := w__law_some_literals (c_WitnessError := c_WitnessError) (c_BadLiterals := c_BadLiterals) (c_BadMany := c_BadMany) (c_BadRow := c_BadRow) (P_law := P_law) A35.fn (PySem.W.mg_of X G A35.ns) B H__law_draw H__law_mixed r__law_some_literals
  have H__law_large : Fz l.prog w K mg base 2 "_law_large" 2 g__law_large := w__law_large (c_WitnessError := c_WitnessError) (c_BadLiterals := c_BadLiterals) (c_BadMany := c_BadMany) (c_BadRow := c_BadRow) (P_law := P_law) A36.fn (PySem.W.mg_of X G A36.ns) B H__law_draw r__law_large
  have H__law_due : Fz l.prog w K mg base 1 "_law_due" 2 g__law_due := w__law_due (c_WitnessError := c_WitnessError) (c_BadLiterals := c_BadLiterals) (c_BadMany := c_BadMany) (c_BadRow := c_BadRow) (P_law := P_law) A37.fn (PySem.W.mg_of X G A37.ns) B r__law_due
  have H__law_bad_literals : Fz l.prog w K mg base 3 "_law_bad_literals" 2 g__law_bad_literals := w__law_bad_literals (c_WitnessError := c_WitnessError) (c_BadLiterals := c_BadLiterals) (c_BadMany := c_BadMany) (c_BadRow := c_BadRow) (P_law := P_law) A38.fn (PySem.W.mg_of X G A38.ns) B H__law_pick r__law_bad_literals
  exact w_law (c_WitnessError := c_WitnessError) (c_BadLiterals := c_BadLiterals) (c_BadMany := c_BadMany) (c_BadRow := c_BadRow) (P_law := P_law) F39 B m_BadLiterals m_BadMany m_BadRow (TBs (co_law, P_law) (by simp)) (code_of_tab tb_law a39 l39) K_KB_clause_of_0_law H__law_caught H_clause_of H__law_begun H__law_draw H__law_fillings H__law_worth H__law_holds H__law_row H__law_bad_many H__law_bad_row H__law_end H__law_some_literals H__law_large H__law_due H__law_bad_literals r_law
end Zz
open PySem PySem.W PyProof.Rows
set_option maxRecDepth 100000 in
set_option maxHeartbeats 0 in
set_option pp.maxSteps 400 in
theorem PySem.Challenge.cw_witnesslog_k11_clauses_of_rows_that_bar_holds : PySem.Challenge.rw_witnesslog_k11_clauses_of_rows_that_bar.Holds := by
  w_on; o_law; k_head; (case hw => w_witness2)
  k_fill
  refine Zz.walk_tabs (l := PySem.Challenge.rw_witnesslog_k11_clauses_of_rows_that_bar) (k := 9) (x := "_law_script") ["law"] rfl rfl ⟨⟨rfl, by decide, by decide⟩, rfl⟩ ?hrec (fun w h Y => PySem.W.km_in_of Y) ?F
  case hrec => first | rfl | decide +kernel
  case F =>
    intro w mg fa h KX G hmg
    refine' Zz.all_mk KX G hmg ?A0 ?A1 ?A2 ?A3 ?A4 ?A5 ?A6 ?A7 ?A8 ?A9 ?A10 ?A11 ?A12 ?A13 ?A14 ?A15 ?A16 ?A17 ?A18 ?A19 ?A20 ?A21 ?A22 ?A23 ?A24 ?A25 ?A26 ?A27 ?A28 ?A29 ?A30 ?A31 ?A32 ?A33 ?A34 ?A35 ?A36 ?A37 ?A38 ?a39 ?l39 ?c39 ?k39 ?b_len ?b_abs ?b_max ?b_min ?b_sum ?b_all ?b_any ?b_sorted ?b_tuple ?b_list ?b_int ?b_bool ?b_str ?b_range ?b_zip ?b_enumerate ?b_isinstance ?b_repr ?b_set ?b_dict ?b_reversed ?n_WitnessError ?n_BadLiterals ?n_BadMany ?n_BadRow ?q_BadLiterals ?s_BadLiterals ?y_BadLiterals ?x_BadLiterals ?q_BadMany ?s_BadMany ?y_BadMany ?x_BadMany ?q_BadRow ?s_BadRow ?y_BadRow ?x_BadRow ?m_BadLiterals_WitnessError ?e1_BadLiterals ?e2_BadLiterals ?e3_BadLiterals ?e4_BadLiterals ?e5_BadLiterals ?m_BadMany_WitnessError ?e1_BadMany ?e2_BadMany ?e3_BadMany ?e4_BadMany ?e5_BadMany ?m_BadRow_WitnessError ?e1_BadRow ?e2_BadRow ?e3_BadRow ?e4_BadRow ?e5_BadRow ?z1 ?z2 ?tq_law ?tc_law ?tp_law ?nt_law ?i_MOST_MANY
    (case A0 => refine' Zz.FnAt.of ?_ ?_ ?_ ?_ <;> first | k_is | skip)
    (case A1 => refine' Zz.FnAt.of ?_ ?_ ?_ ?_ <;> first | k_is | skip)
    (case A2 => refine' Zz.FnAt.of ?_ ?_ ?_ ?_ <;> first | k_is | skip)
    (case A3 => refine' Zz.FnAt.of ?_ ?_ ?_ ?_ <;> first | k_is | skip)
    (case A4 => refine' Zz.FnAt.of ?_ ?_ ?_ ?_ <;> first | k_is | skip)
    (case A5 => refine' Zz.FnAt.of ?_ ?_ ?_ ?_ <;> first | k_is | skip)
    (case A6 => refine' Zz.FnAt.of ?_ ?_ ?_ ?_ <;> first | k_is | skip)
    (case A7 => refine' Zz.FnAt.of ?_ ?_ ?_ ?_ <;> first | k_is | skip)
    (case A8 => refine' Zz.FnAt.of ?_ ?_ ?_ ?_ <;> first | k_is | skip)
    (case A9 => refine' Zz.FnAt.of ?_ ?_ ?_ ?_ <;> first | k_is | skip)
    (case A10 => refine' Zz.FnAt.of ?_ ?_ ?_ ?_ <;> first | k_is | skip)
    (case A11 => refine' Zz.FnAt.of ?_ ?_ ?_ ?_ <;> first | k_is | skip)
    (case A12 => refine' Zz.FnAt.of ?_ ?_ ?_ ?_ <;> first | k_is | skip)
    (case A13 => refine' Zz.FnAt.of ?_ ?_ ?_ ?_ <;> first | k_is | skip)
    (case A14 => refine' Zz.FnAt.of ?_ ?_ ?_ ?_ <;> first | k_is | skip)
    (case A15 => refine' Zz.FnAt.of ?_ ?_ ?_ ?_ <;> first | k_is | skip)
    (case A16 => refine' Zz.FnAt.of ?_ ?_ ?_ ?_ <;> first | k_is | skip)
    (case A17 => refine' Zz.FnAt.of ?_ ?_ ?_ ?_ <;> first | k_is | skip)
    (case A18 => refine' Zz.FnAt.of ?_ ?_ ?_ ?_ <;> first | k_is | skip)
    (case A19 => refine' Zz.FnAt.of ?_ ?_ ?_ ?_ <;> first | k_is | skip)
    (case A20 => refine' Zz.FnAt.of ?_ ?_ ?_ ?_ <;> first | k_is | skip)
    (case A21 => refine' Zz.FnAt.of ?_ ?_ ?_ ?_ <;> first | k_is | skip)
    (case A22 => refine' Zz.FnAt.of ?_ ?_ ?_ ?_ <;> first | k_is | skip)
    (case A23 => refine' Zz.FnAt.of ?_ ?_ ?_ ?_ <;> first | k_is | skip)
    (case A24 => refine' Zz.FnAt.of ?_ ?_ ?_ ?_ <;> first | k_is | skip)
    (case A25 => refine' Zz.FnAt.of ?_ ?_ ?_ ?_ <;> first | k_is | skip)
    (case A26 => refine' Zz.FnAt.of ?_ ?_ ?_ ?_ <;> first | k_is | skip)
    (case A27 => refine' Zz.FnAt.of ?_ ?_ ?_ ?_ <;> first | k_is | skip)
    (case A28 => refine' Zz.FnAt.of ?_ ?_ ?_ ?_ <;> first | k_is | skip)
    (case A29 => refine' Zz.FnAt.of ?_ ?_ ?_ ?_ <;> first | k_is | skip)
    (case A30 => refine' Zz.FnAt.of ?_ ?_ ?_ ?_ <;> first | k_is | skip)
    (case A31 => refine' Zz.FnAt.of ?_ ?_ ?_ ?_ <;> first | k_is | skip)
    (case A32 => refine' Zz.FnAt.of ?_ ?_ ?_ ?_ <;> first | k_is | skip)
    (case A33 => refine' Zz.FnAt.of ?_ ?_ ?_ ?_ <;> first | k_is | skip)
    (case A34 => refine' Zz.FnAt.of ?_ ?_ ?_ ?_ <;> first | k_is | skip)
    (case A35 => refine' Zz.FnAt.of ?_ ?_ ?_ ?_ <;> first | k_is | skip)
    (case A36 => refine' Zz.FnAt.of ?_ ?_ ?_ ?_ <;> first | k_is | skip)
    (case A37 => refine' Zz.FnAt.of ?_ ?_ ?_ ?_ <;> first | k_is | skip)
    (case A38 => refine' Zz.FnAt.of ?_ ?_ ?_ ?_ <;> first | k_is | skip)
    (case a39 => k_is)
    (case l39 => k_is)
    (case c39 => k_is)
    (case k39 => k_is)
    (case b_len => k_is)
    (case b_abs => k_is)
    (case b_max => k_is)
    (case b_min => k_is)
    (case b_sum => k_is)
    (case b_all => k_is)
    (case b_any => k_is)
    (case b_sorted => k_is)
    (case b_tuple => k_is)
    (case b_list => k_is)
    (case b_int => k_is)
    (case b_bool => k_is)
    (case b_str => k_is)
    (case b_range => k_is)
    (case b_zip => k_is)
    (case b_enumerate => k_is)
    (case b_isinstance => k_is)
    (case b_repr => k_is)
    (case b_set => k_is)
    (case b_dict => k_is)
    (case b_reversed => k_is)
    (case n_WitnessError => k_is)
    (case n_BadLiterals => k_is)
    (case n_BadMany => k_is)
    (case n_BadRow => k_is)
    (case q_BadLiterals => k_is)
    (case s_BadLiterals => k_is)
    (case y_BadLiterals => k_is)
    (case x_BadLiterals => first | kernel_rfl | rfl)
    (case q_BadMany => k_is)
    (case s_BadMany => k_is)
    (case y_BadMany => k_is)
    (case x_BadMany => first | kernel_rfl | rfl)
    (case q_BadRow => k_is)
    (case s_BadRow => k_is)
    (case y_BadRow => k_is)
    (case x_BadRow => first | kernel_rfl | rfl)
    (case m_BadLiterals_WitnessError => first | kernel_rfl | rfl)
    (case e1_BadLiterals => k_is)
    (case e2_BadLiterals => k_is)
    (case e3_BadLiterals => k_is)
    (case e4_BadLiterals => k_is)
    (case e5_BadLiterals => k_is)
    (case m_BadMany_WitnessError => first | kernel_rfl | rfl)
    (case e1_BadMany => k_is)
    (case e2_BadMany => k_is)
    (case e3_BadMany => k_is)
    (case e4_BadMany => k_is)
    (case e5_BadMany => k_is)
    (case m_BadRow_WitnessError => first | kernel_rfl | rfl)
    (case e1_BadRow => k_is)
    (case e2_BadRow => k_is)
    (case e3_BadRow => k_is)
    (case e4_BadRow => k_is)
    (case e5_BadRow => k_is)
    (case z1 => k_is)
    (case z2 => k_is)
    (case tq_law => rfl)
    (case tc_law => k_is)
    (case tp_law => rfl)
    (case nt_law => first | kernel_rfl | rfl)
    (case i_MOST_MANY => k_is)
#print axioms PySem.Challenge.cw_witnesslog_k11_clauses_of_rows_that_bar_holds

