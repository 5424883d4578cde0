import PyProof.Rows.All
import HandS.ForMost
import HandS.ForExc
import HandS.Wide
import HandS.NoneIn
import HandS.TupAny
import HandS.TupMul
import HandS.TupLe
import HandS.Style
import HandS.Zip
import HandS.Conv
import HandS.Deep
import HandS.IsInst
import HandS.ExcCtx
import HandS.ExcInit
import HandS.HotCalls
import HandS.EndTab
import KE.GoesMore
import KE.GoesZip
import KE.GoesEnum
import HandS.SortInts
import HandS.Text
import KE.KExcInit
import KE.KTryMore
import KE.KExcIs
import HandS.ExcIs
import HandS.ExcField
import HandS.Defaults
import HandS.Head0
import HandS.Head1
import HandS.Head2
import HandS.HeadHook1
import HandS.HeadHook2
import HandS.HeadNt
import PySem.Challenge.RW_bentthrough_k78_claims_that_are_none
import HandS.Property
import PyProof.FitsInt
import HandS.SetFor
import HandS.Strs
import HandS.Star
import PyProof.EqKinds
import KE.KTupSum
import HandS.OwnEq
import KE.KNestM
import HandS.ReCall
import PyProof.ReprRoads
import PyProof.NeKinds
import HandS.Iter
import HandS.FStr
import KE.KItemsList
import HandS.ClsMeth
import HandS.DictComp
import KE.DataMinMax
import KE.SortData
import KE.KCallOwn
import OpenK.KOps
import HandS.More
import HandS.SortRule
import HandS.HeadHook3
import PyProof.MaxThree
import PyProof.P3In
import HandS.RaiseMore
import PyProof.Rows.CountFlat
import PyProof.Rows.StrMul
import HandS.ReplaceLit
set_option Elab.async false
set_option linter.all false
set_option maxRecDepth 100000
set_option maxHeartbeats 4000000
set_option exponentiation.threshold 10000
namespace DL
open PySem PySem.Spec L2
open PyProof.Rows hiding St
structure Rm (k : Nat) (A : Around) : Prop where
  room : Room k A
  quiet : A.guards = some []
theorem Rm.less {i k : Nat} {A : Around} (r : Rm k A) (h : i ≤ k) : Rm i A := ⟨r.room.mono h, r.quiet⟩
theorem quiet_deeper {A : Around} (h : A.guards = some []) (env : Env) : (A.deeper env).guards = some [] := by
  simpa [Around.deeper] using h
theorem Rm.deeper {k : Nat} {A : Around} (r : Rm (k + 1) A) (env : Env) : Rm k (A.deeper env) := ⟨r.room.deeper env, quiet_deeper r.quiet env⟩
structure FnG (P : Program) (w : World) (K : PySem.W.Frag) (mg : Str → Option Value) (base : Heap) (k : Nat) (f : Addr)
    (fd : FuncData) (ps : List Str) (sp : Sp) : Prop where
  arity : ∀ vs H Q E, sp vs H Q E → vs.length = ps.length
  go : ∀ (A : Around) (outer : List Env) (s : Shared) (H : Hp) (args : Args) (us : List Value) (vs : List V) (Q : VK) (E : XK),
    Rm k A → Env0 P w K mg base A outer s H → BindsTo s fd args (ps.zip us) → Vals vs us → sp vs H Q E →
    codeAny (model P w) A (.call (.ref f) args) (CR (L2N.CX P w) outer P w H s Q E) s
section
variable {P : Program} {w : World} {K : PySem.W.Frag} {mg : Str → Option Value} {base : Heap}
theorem FnG.less {i k : Nat} {f : Addr} {fd : FuncData} {ps : List Str} {sp : Sp} (F : FnG P w K mg base i f fd ps sp) (h : i ≤ k) :
    FnG P w K mg base k f fd ps sp :=
  ⟨F.arity, fun A outer s H args us vs Q E r => F.go A outer s H args us vs Q E (r.less h)⟩
theorem fnG_of {k : Nat} {f : Addr} {name qual : Str} {pr : Arguments} {body : List Stmt} {sc : Scope} {v1 v2 v3 v4 v5 v6 v7 : Value} {a1 a2 : Option Addr}
    {sl : Array (Option Value)} {N ps : List Str} {sp : Sp}
    (hf : K.lookup f = some ⟨v7, a2, .func (PySem.W.fnOf name qual pr body sc v1 v2 v3 v4 a1 v5 v6), sl⟩)
    (hc : PySem.W.codeIn K v5 qual = true) (S : FnScope N ps sc) (ar : ∀ vs H Q E, sp vs H Q E → vs.length = ps.length)
    (hb : ∀ (A : Around) (outer : List Env) (s : Shared) (H : Hp) (vs : List V) (Q : VK) (E : XK),
      Rm k (A.deeper (envOfC qual sc s.heap.objs.size f v5)) → sp vs H Q E →
      ∃ t, PSs (cxOf (L2N.CX P w) P w K mg base N qual sc f v5 A outer s H E) body t ∧ t { nx := fun _ H' => Q .non H', rt := Q } (start N vs) H) :
    FnG P w K mg base (k + 1) f (PySem.W.fnOf name qual pr body sc v1 v2 v3 v4 a1 v5 v6) ps sp := by
  constructor
  · exact ar
  intro A outer s H args us vs Q E rm e0 hbd hv hsp
  have hn := ar _ _ _ _ hsp
  have old : ∀ b o, base.get? b = some o → s.heap.get? b = some o := fun b o e => (e0.bs b o e).1
  have kin : K.In s.heap := e0.mod.kin.keeps old
  have nol : s.heap.NoLimit := e0.mod.nolimit.keeps old
  have kinds : ∀ y ∈ ps.zip us, sc.names.lookup y.1 = some .local ∨
      (sc.names.lookup y.1 = some .cell ∧ ((cellsFrom (s.heap.objs.size + 1) sc.names []).lookup y.1).isSome = true) := by
    rintro ⟨n, v⟩ hy
    rcases S.par n (List.of_mem_zip hy).1 with h | h
    · exact Or.inl h
    · exact Or.inr ⟨h, PySem.W.cellsFrom_some _ _ _ (Or.inl h)⟩
  refine codeAny_call_function rm.room.depth (kin _ _ hf) rfl S.co S.gen rfl (PySem.W.codeRec_of kin hc) (hbd _ _ _ _ ?_)
  refine wpAny_newFunctionEnv_cells S.kind kinds fun env ee s1 ic => ?_
  cases ee
  refine ⟨nol.keeps ic.toInCall.keep, codeAny_func ?_⟩
  obtain ⟨t, ht, hq⟩ := hb A outer s H vs Q E (rm.deeper _) hsp
  have J := inv_start (CX := L2N.CX P w) (E := E) S rm.room.hd e0 hn hv ic
  refine wpAny_mono (ht.run [] s1 (start N vs) H _ J hq) ?_ (fun _ _ h => h)
  intro fl s2 h2
  have done : ∀ {σ2 : St} {H2 : Hp} {v : V} {u : Value}, Inv (cxOf (L2N.CX P w) P w K mg base N qual sc f v5 A outer s H E) [] σ2 H2 s2 →
      RelV v u → Q v H2 → CE outer P w H s Q u s2 := fun {σ2 H2 v u} J2 rv q => ⟨v, H2, J2.os, J2.bare, J2.base, J2.hok, rv, q⟩
  match fl, h2 with
  | .ret u, ⟨v, σ2, H2, J2, rv, q⟩ => exact done J2 rv q
  | .next, ⟨σ2, H2, J2, q⟩ => exact done (v := V.non) (u := Value.none) J2 rfl q
  | .brk, ⟨_, _, _, q⟩ => exact q.elim
  | .cont, ⟨_, _, _, q⟩ => exact q.elim
theorem fnG {x qual : Str} {st : Stmt} {f : Addr} {fd : FuncData} {N ps : List Str} {k : Nat} {sp : Sp} (F : Fun K x qual st f fd) (S : FnScope N ps (defScope st))
    (ar : ∀ vs H Q E, sp vs H Q E → vs.length = ps.length)
    (hb : ∀ (cd : Value) (A : Around) (outer : List Env) (s : Shared) (H : Hp) (vs : List V) (Q : VK) (E : XK),
      Rm k (A.deeper (envOfC qual (defScope st) s.heap.objs.size f cd)) → sp vs H Q E →
      ∃ t, PSs (cxOf (L2N.CX P w) P w K mg base N qual (defScope st) f cd A outer s H E) (defBody st) t ∧ t { nx := fun _ H' => Q .non H', rt := Q } (start N vs) H) :
    FnG P w K mg base (k + 1) f fd ps sp := by
  obtain ⟨oc, od, kV, doc, pm, an, cd, ct, osl, e, lk, hcd⟩ := F.ex
  cases e
  exact fnG_of lk hcd S ar fun A outer s H vs Q E => hb cd A outer s H vs Q E
end
abbrev EE := St → XK
def EX0 : EE := fun _ _ _ _ => False
def Px (X : Cx) (E : EE) : Prop := ∀ (pins : List (Addr × Obj)) (σ : St) (H : Hp) (s : Shared) (e : Value) (s' : Shared), Inv X pins σ H s → L2N.CX X.prog X.w X.stack H s (E σ) e s' → X.xe e s'
theorem px_of {X : Cx} {E : EE} (tk : L2N.Takes X fun cls d σ H => E σ cls d H) : Px X E := fun _ _ _ _ e s' I c => tk e s' (L2N.XE.of_call I (fun _ _ _ h => h) c)
theorem px_0 {X : Cx} : Px X EX0 := px_of fun _ _ ⟨_, _, _, _, _, _, _, _, _, _, _, _, _, _, _, _, w⟩ => w.elim
section
variable {X : Cx} {k : Nat} {f C : Addr} {fd : FuncData} {ps : List Str} {sp : Sp} {E : EE} {x m : Str} {p pos : Pos} {e o : Expr} {es : List Expr} {t : TA}
def tCallG (sp : Sp) (E : EE) (t : TA) : TE := fun σ H Q => t σ H fun vs H1 => sp vs H1 Q (E σ)
theorem runG {pins : List (Addr × Obj)} {σ : St} {H : Hp} {s : Shared} {Q : VK} {us : List Value} {vs : List V} {args : Args}
    (F : FnG X.prog X.w X.K X.mg X.base k f fd ps sp) (rm : Rm k X.A) (px : Px X E)
    (I : Inv X pins σ H s) (bd : BindsTo s fd args (ps.zip us)) (r : Vals vs us) (h : sp vs H Q (E σ)) :
    codeAny (model X.prog X.w) X.A (.call (.ref f) args) (fun r s' => match r with
      | .ok (.ret u) => EP X pins σ Q u s'
      | .ok _ => False
      | .error e => X.xe e s') s := by
  refine codeAny_mono (F.go X.A X.stack s H args us vs Q (E σ) rm I.env0 bd r h) ?_
  intro r s' hr
  match r, hr with
  | .error e, hr => exact px pins σ H s e s' I hr
  | .ok (.ret u), hr => exact I.after hr
theorem wpG {pins : List (Addr × Obj)} {σ : St} {H : Hp} {s : Shared} {Q : VK} {us : List Value} {vs : List V}
    (F : FnG X.prog X.w X.K X.mg X.base k f fd ps sp) (rm : Rm k X.A) (hb : Binds X.K fd ps []) (px : Px X E)
    (I : Inv X pins σ H s) (r : Vals vs us) (h : sp vs H Q (E σ)) : wpAny (model X.prog X.w) X.A (call (.ref f) us) (EP X pins σ Q) X.xe s := by
  have hl : us.length = ps.length := r.length.symm.trans (F.arity _ _ _ _ h)
  have bd := hb s us I.kIn (by rw [List.append_nil]; exact hl)
  rw [List.append_nil] at bd
  refine wpAny_call (codeAny_mono (runG F rm px I bd r h) ?_)
  intro r s' hr
  match r, hr with
  | .error e, hr => exact hr
  | .ok (.ret u), hr => exact hr
theorem pe_callG (F : FnG X.prog X.w X.K X.mg X.base k f fd ps sp) (rm : Rm k X.A) (hg : Gl X x) (hm : X.mg x = some (.ref f))
    (hk : PySem.W.keepIn X.K (.ref f) = true) (hb : Binds X.K fd ps []) (px : Px X E) (ha : PA X (e :: es) t)
    (hd : (x == ("__debug__" : Str)) = false := by decide)
    (h1 : starEach (e :: es) X.env = (false, eval e X.env) :: starEach es X.env := by rfl)
    (h2 : (backTo pos (starEach es X.env)).any (·.1) = false := by rfl) :
    PE X (.Call (.Name x p) (e :: es) [] pos) (tCallG sp E t) := by
  constructor
  intro pins s σ H Q I h
  refine wpAny_Call_Name_kw (ld_glob I hg hm ?_ hd)
  refine PySem.W.callWith_K (h₀ := X.base) I.ok.mod.kin hk (thn (ha.run pos pins s σ H _ I h) ?_) h1 h2
  rintro us s1 ⟨vs, H1, I1, r, q⟩
  exact ⟨I1.kIn, wpG F rm hb px I1 r q⟩
theorem pe_callG0 (F : FnG X.prog X.w X.K X.mg X.base k f fd ps sp) (rm : Rm k X.A) (hg : Gl X x) (hm : X.mg x = some (.ref f))
    (hk : PySem.W.keepIn X.K (.ref f) = true) (hb : Binds X.K fd ps []) (px : Px X E)
    (hd : (x == ("__debug__" : Str)) = false := by decide) : PE X (.Call (.Name x p) [] [] pos) (tCallG sp E tNil) := by
  constructor
  intro pins s σ H Q I h
  refine wpAny_Call_Name_kw (ld_glob I hg hm ?_ hd)
  exact PySem.W.callWith_K0 I.kIn hk (wpG (us := []) F rm hb px I .nil h)
end
end DL
namespace DL
open PySem PySem.Spec L2
open PyProof.Rows hiding St
inductive D where
  | non | bl (b : Bool) | int (i : Int) | str (s : Str)
  | tup (xs : List D) | lst (xs : List D) | ro (xs : List D) | dct (ks : List Key) (xs : List D)
  | obj (c : Str) (ns : List Str) (xs : List D) | cell (n : Nat)
  | ty (n : String) | cls (c : Str)
  | exc (c : Str) (ns : List Str) (xs : List D)
abbrev Fz := Addr → Prop
def noH : Hp := fun _ => none
def BT (vs : List V) (o : HO) : Prop := ∃ ob : Obj, ob.dict = none ∧ o = .frz ob (.tup vs)
def SqM (K : PySem.W.Frag) (a : Addr) (vs : List V) : Prop := SqT K noH a vs ∧ ∃ ob, K.lookup a = some ob ∧ ob.dict = none
def TupAt (K : PySem.W.Frag) (F : Fz) (H : Hp) (a : Addr) (vs : List V) : Prop := (F a ∧ ∃ o, BT vs o ∧ H a = some o) ∨ SqM K a vs
def LstAt (_ : PySem.W.Frag) (F : Fz) (H : Hp) (a : Addr) (vs : List V) : Prop := F a ∧ H a = some (.lst vs)
def RoAt (K : PySem.W.Frag) (F : Fz) (H : Hp) (a : Addr) (vs : List V) : Prop := (F a ∧ Rd H a (.lst vs)) ∨ SqL K noH a vs
def Lk (H : Hp) (a : Addr) (u : HO) : Prop := ∃ o, H a = some (.frz o u)
theorem Lk.rd {H : Hp} {a : Addr} {u : HO} (h : Lk H a u) : Rd H a u := .inr h
def tLk (t : TE) : TE := fun σ H Q => t σ H fun v H1 => ∃ p u, v = .ref p ∧ H1 p = some u ∧ Mut (some u) ∧ ∀ od, Q v (upd H1 p (.frz od u))
theorem pe_lk {X : Cx} {e : Expr} {t : TE} (h : PE X e t) : PE X e (tLk t) := by
  refine ⟨fun pins s σ H Q I hw => thn (h.run pins s σ H _ I hw) fun r s1 ⟨v, H1, I1, rv, p, u, ev, hp, mu, q⟩ => ?_⟩
  obtain ⟨od, I2⟩ := I1.lock hp mu
  exact ⟨v, _, I2, rv, q od⟩
mutual
def Rep (K : PySem.W.Frag) (mg : Str → Option Value) (F : Fz) (ι : List Addr) (H : Hp) : D → V → Prop
  | .non, v => v = .non
  | .bl b, v => v = .bl b
  | .int i, v => v = .int i
  | .str s, v => v = .str s
  | .tup xs, v => ∃ a vs, v = .ref a ∧ TupAt K F H a vs ∧ Reps K mg F ι H xs vs
  | .lst xs, v => ∃ a vs, v = .ref a ∧ LstAt K F H a vs ∧ Reps K mg F ι H xs vs
  | .ro xs, v => ∃ a vs, v = .ref a ∧ RoAt K F H a vs ∧ Reps K mg F ι H xs vs
  | .dct ks xs, v => ∃ a vs, v = .ref a ∧ F a ∧ Lk H a (.dK (ks.zip vs)) ∧ vs.length = ks.length ∧ Reps K mg F ι H xs vs
  | .obj c ns xs, v => ∃ a C dx vs, v = .ref a ∧ F a ∧ mg c = some (.ref C) ∧ H a = some (.ins C dx (ns.zip vs)) ∧ vs.length = ns.length ∧ Reps K mg F ι H xs vs
  | .cell n, v => ∃ a, v = .ref a ∧ ι[n]? = some a
  | .ty n, v => v = .ty n
  | .cls c, v => ∃ C, v = .ref C ∧ mg c = some (.ref C)
  | .exc c ns xs, v => ∃ a C oe u od vs, v = .ref a ∧ F a ∧ mg c = some (.ref C) ∧ H a = some (.frz oe u) ∧ L2N.Zn (.ref C) od oe ∧ (∃ fv, oe.data = .fields fv) ∧ vs.length = ns.length ∧
      ((ns = [] ∧ od = none) ∨ ∃ dd, od = some dd ∧ F dd ∧ H dd = some (.xd (ns.zip vs))) ∧ Reps K mg F ι H xs vs
def Reps (K : PySem.W.Frag) (mg : Str → Option Value) (F : Fz) (ι : List Addr) (H : Hp) : List D → List V → Prop
  | [], vs => vs = []
  | d :: ds, vs => ∃ v r, vs = v :: r ∧ Rep K mg F ι H d v ∧ Reps K mg F ι H ds r
end
structure Ext (H : Hp) (F : Fz) (ι : List Addr) (H' : Hp) (F' : Fz) (ι' : List Addr) : Prop where
  sub : ∀ a, F a → F' a
  new : ∀ a, F' a → F a ∨ H a = none
  keep : ∀ a o, H a = some o → (F a ∨ a ∉ ι) → H' a = some o
  mono : ∀ a, H' a = none → H a = none
  pre : ι <+: ι'
  cnew : ∀ a ∈ ι', a ∈ ι ∨ H a = none
theorem Ext.refl {H : Hp} {F : Fz} {ι : List Addr} : Ext H F ι H F ι :=
  ⟨fun _ h => h, fun _ h => .inl h, fun _ _ h _ => h, fun _ h => h, List.prefix_refl _, fun _ h => .inl h⟩
theorem Ext.trans {H H1 H2 : Hp} {F F1 F2 : Fz} {ι ι1 ι2 : List Addr} (a : Ext H F ι H1 F1 ι1) (b : Ext H1 F1 ι1 H2 F2 ι2) : Ext H F ι H2 F2 ι2 where
  sub := fun x h => b.sub x (a.sub x h)
  new := fun x h => (b.new x h).elim (a.new x) fun q => .inr (a.mono x q)
  keep := fun x o h n => b.keep x o (a.keep x o h n) (n.elim (fun f => .inl (a.sub x f)) fun n => .inr fun q => (a.cnew x q).elim n fun z => by rw [h] at z; cases z)
  mono := fun x h => a.mono x (b.mono x h)
  pre := a.pre.trans b.pre
  cnew := fun x h => (b.cnew x h).elim (a.cnew x) fun q => .inr (a.mono x q)
inductive Cell where
  | lst (xs : List D) | ins (c : Str) (ns : List Str) (xs : List D) | dead | tab (p : Addr) (q : Str)
def Cell.live : Cell → Bool
  | .dead => false
  | _ => true
def CellOk (K : PySem.W.Frag) (mg : Str → Option Value) (F : Fz) (ι : List Addr) (H : Hp) (a : Addr) : Cell → Prop
  | .lst xs => ∃ vs, H a = some (.lst vs) ∧ Reps K mg F ι H xs vs
  | .ins c ns xs => ∃ C dx vs, mg c = some (.ref C) ∧ H a = some (.ins C dx (ns.zip vs)) ∧ vs.length = ns.length ∧ Reps K mg F ι H xs vs
  | .dead => F a
  | .tab p q => a = p ∧ ∃ ps : Array Value, H a = some (.tbl ps) ∧ TriplesOk ps.toList ∧ ∀ (pos : Pos) (cv : Value), codeAmong pos ps.toList = some cv → ∃ c, cv = .ref c ∧ F c ∧ H c = some (LamX.CodeO c q)
structure Wd (K : PySem.W.Frag) (mg : Str → Option Value) (F : Fz) (ι : List Addr) (H : Hp) (S : List Cell) : Prop where
  fin : ∀ a, F a → H a ≠ none
  cnf : ∀ (n : Nat) c a, S[n]? = some c → ι[n]? = some a → c.live = true → ¬ F a
  cnd : ι.Nodup
  len : S.length = ι.length
  cells : ∀ (n : Nat) c a, S[n]? = some c → ι[n]? = some a → CellOk K mg F ι H a c
section
variable {K : PySem.W.Frag} {mg : Str → Option Value} {F F' : Fz} {ι ι' : List Addr} {H H' : Hp}
theorem BT.rd {a : Addr} {vs : List V} (h : ∃ o, BT vs o ∧ H a = some o) : Rd H a (.tup vs) := by
  obtain ⟨_, ⟨ob, _, rfl⟩, e⟩ := h
  exact .inr ⟨ob, e⟩
theorem TupAt.sq {a : Addr} {vs : List V} (h : TupAt K F H a vs) : SqT K H a vs := by
  rcases h with ⟨_, h⟩ | ⟨h | h, _⟩
  · exact .inl (BT.rd h)
  · rcases h with h | ⟨_, h⟩ <;> cases h
  · exact .inr h
theorem LstAt.sq {a : Addr} {vs : List V} (h : LstAt K F H a vs) : SqL K H a vs := .inl (.inl h.2)
theorem RoAt.sq {a : Addr} {vs : List V} (h : RoAt K F H a vs) : SqL K H a vs := by
  rcases h with ⟨_, h⟩ | (h | h)
  · exact .inl h
  · rcases h with h | ⟨_, h⟩ <;> cases h
  · exact .inr h
def Stay (F : Fz) (H H' : Hp) : Prop := ∀ a o, F a → H a = some o → H' a = some o
theorem Stay.rd {a : Addr} {o : HO} (s : Stay F H H') (hf : F a) (h : Rd H a o) : Rd H' a o := by
  rcases h with h | ⟨ob, h⟩
  · exact .inl (s _ _ hf h)
  · exact .inr ⟨ob, s _ _ hf h⟩
theorem Stay.lk {a : Addr} {o : HO} (s : Stay F H H') (hf : F a) (h : Lk H a o) : Lk H' a o := by
  obtain ⟨ob, h⟩ := h
  exact ⟨ob, s _ _ hf h⟩
theorem TupAt.mono {a : Addr} {vs : List V} (hs : ∀ a, F a → F' a) (s : Stay F H H') (h : TupAt K F H a vs) : TupAt K F' H' a vs := by
  rcases h with ⟨f, o, b, h⟩ | h
  · exact .inl ⟨hs _ f, o, b, s _ _ f h⟩
  · exact .inr h
theorem LstAt.mono {a : Addr} {vs : List V} (hs : ∀ a, F a → F' a) (s : Stay F H H') (h : LstAt K F H a vs) : LstAt K F' H' a vs := ⟨hs _ h.1, s _ _ h.1 h.2⟩
theorem RoAt.mono {a : Addr} {vs : List V} (hs : ∀ a, F a → F' a) (s : Stay F H H') (h : RoAt K F H a vs) : RoAt K F' H' a vs := by
  rcases h with ⟨f, h⟩ | h
  · exact .inl ⟨hs _ f, s.rd f h⟩
  · exact .inr h
theorem pre_get {n : Nat} {a : Addr} (p : ι <+: ι') (h : ι[n]? = some a) : ι'[n]? = some a := by
  obtain ⟨r, rfl⟩ := p
  rw [List.getElem?_append_left (by have := (List.getElem?_eq_some_iff.mp h).1; exact this)]
  exact h
mutual
theorem rep_mono (hs : ∀ a, F a → F' a) (s : Stay F H H') (p : ι <+: ι') : ∀ (d : D) (v : V), Rep K mg F ι H d v → Rep K mg F' ι' H' d v
  | .non, _, h => h
  | .bl _, _, h => h
  | .int _, _, h => h
  | .str _, _, h => h
  | .tup xs, v, h => by
    obtain ⟨a, vs, e, t, r⟩ := h
    exact ⟨a, vs, e, t.mono hs s, reps_mono hs s p xs vs r⟩
  | .lst xs, v, h => by
    obtain ⟨a, vs, e, t, r⟩ := h
    exact ⟨a, vs, e, t.mono hs s, reps_mono hs s p xs vs r⟩
  | .ro xs, v, h => by
    obtain ⟨a, vs, e, t, r⟩ := h
    exact ⟨a, vs, e, t.mono hs s, reps_mono hs s p xs vs r⟩
  | .dct ks xs, v, h => by
    obtain ⟨a, vs, e, f, t, l, r⟩ := h
    exact ⟨a, vs, e, hs _ f, s.lk f t, l, reps_mono hs s p xs vs r⟩
  | .obj c ns xs, v, h => by
    obtain ⟨a, C, dx, vs, e, f, hm, t, l, r⟩ := h
    exact ⟨a, C, dx, vs, e, hs _ f, hm, s _ _ f t, l, reps_mono hs s p xs vs r⟩
  | .cell n, v, h => by
    obtain ⟨a, e, q⟩ := h
    exact ⟨a, e, pre_get p q⟩
  | .ty _, _, h => h
  | .cls _, _, h => h
  | .exc c ns xs, v, h => by
    obtain ⟨a, C, oe, u, od, vs, e, f, hm, t, z, fv, l, dd, r⟩ := h
    refine ⟨a, C, oe, u, od, vs, e, hs _ f, hm, s _ _ f t, z, fv, l, ?_, reps_mono hs s p xs vs r⟩
    rcases dd with dd | ⟨dd, e1, f1, h1⟩
    · exact .inl dd
    · exact .inr ⟨dd, e1, hs _ f1, s _ _ f1 h1⟩
theorem reps_mono (hs : ∀ a, F a → F' a) (s : Stay F H H') (p : ι <+: ι') : ∀ (ds : List D) (vs : List V), Reps K mg F ι H ds vs → Reps K mg F' ι' H' ds vs
  | [], _, h => h
  | d :: ds, vs, h => by
    obtain ⟨v, r, e, h1, h2⟩ := h
    exact ⟨v, r, e, rep_mono hs s p d v h1, reps_mono hs s p ds r h2⟩
end
theorem cell_mono (hs : ∀ a, F a → F' a) (s : Stay F H H') (p : ι <+: ι') {a : Addr} (ha : ∀ o, H a = some o → H' a = some o) : ∀ (c : Cell), CellOk K mg F ι H a c → CellOk K mg F' ι' H' a c
  | .lst xs, ⟨vs, h, r⟩ => ⟨vs, ha _ h, reps_mono hs s p xs vs r⟩
  | .ins c ns xs, ⟨C, dx, vs, hm, h, l, r⟩ => ⟨C, dx, vs, hm, ha _ h, l, reps_mono hs s p xs vs r⟩
  | .dead, h => hs _ h
  | .tab p q, ⟨e, ps, h, ht, hc⟩ => ⟨e, ps, ha _ h, ht, fun pos cv z => by
    obtain ⟨c, e1, f1, h1⟩ := hc pos cv z
    exact ⟨c, e1, hs _ f1, s _ _ f1 h1⟩⟩
theorem Reps.len : ∀ {ds : List D} {vs : List V}, Reps K mg F ι H ds vs → vs.length = ds.length
  | [], _, h => by rw [h]; rfl
  | d :: ds, vs, h => by
    obtain ⟨v, r, rfl, _, h2⟩ := h
    rw [List.length_cons, List.length_cons, Reps.len h2]
theorem Reps.get : ∀ {ds : List D} {vs : List V} {i : Nat} {d : D}, Reps K mg F ι H ds vs → ds[i]? = some d → ∃ v, vs[i]? = some v ∧ Rep K mg F ι H d v
  | [], _, i, d, _, e => by simp at e
  | d :: ds, vs, 0, d', h, e => by
    obtain ⟨v, r, rfl, h1, h2⟩ := h
    simp at e
    subst e
    exact ⟨v, rfl, h1⟩
  | d :: ds, vs, i + 1, d', h, e => by
    obtain ⟨v, r, rfl, h1, h2⟩ := h
    obtain ⟨u, h3, h4⟩ := Reps.get h2 (by simpa using e)
    exact ⟨u, by simpa using h3, h4⟩
theorem Reps.back {ds : List D} {vs : List V} {i : Nat} {v : V} (h : Reps K mg F ι H ds vs) (e : vs[i]? = some v) : ∃ d, ds[i]? = some d ∧ Rep K mg F ι H d v := by
  have hl := h.len
  have hi : i < ds.length := by have := (List.getElem?_eq_some_iff.mp e).1; omega
  obtain ⟨u, h1, h2⟩ := h.get (List.getElem?_eq_getElem hi)
  rw [e] at h1
  cases h1
  exact ⟨_, List.getElem?_eq_getElem hi, h2⟩
theorem Reps.app : ∀ {ds es : List D} {vs us : List V}, Reps K mg F ι H ds vs → Reps K mg F ι H es us → Reps K mg F ι H (ds ++ es) (vs ++ us)
  | [], _, _, _, h, g => by rw [show _ = _ from h]; exact g
  | d :: ds, es, vs, us, h, g => by
    obtain ⟨v, r, rfl, h1, h2⟩ := h
    exact ⟨v, r ++ us, rfl, h1, h2.app g⟩
theorem Reps.one {d : D} {v : V} (h : Rep K mg F ι H d v) : Reps K mg F ι H [d] [v] := ⟨v, [], rfl, h, rfl⟩
theorem Reps.cons {d : D} {v : V} {ds : List D} {vs : List V} (h : Rep K mg F ι H d v) (g : Reps K mg F ι H ds vs) : Reps K mg F ι H (d :: ds) (v :: vs) := ⟨v, vs, rfl, h, g⟩
theorem Reps.drop : ∀ {ds : List D} {vs : List V} (n : Nat), Reps K mg F ι H ds vs → Reps K mg F ι H (ds.drop n) (vs.drop n)
  | _, _, 0, h => h
  | [], _, n + 1, h => by rw [show _ = _ from h]; rfl
  | d :: ds, vs, n + 1, h => by
    obtain ⟨v, r, rfl, h1, h2⟩ := h
    exact Reps.drop n h2
theorem Reps.take : ∀ {ds : List D} {vs : List V} (n : Nat), Reps K mg F ι H ds vs → Reps K mg F ι H (ds.take n) (vs.take n)
  | _, _, 0, h => rfl
  | [], _, n + 1, h => by rw [show _ = _ from h]; rfl
  | d :: ds, vs, n + 1, h => by
    obtain ⟨v, r, rfl, h1, h2⟩ := h
    exact ⟨v, _, rfl, h1, Reps.take n h2⟩
theorem Reps.set : ∀ {ds : List D} {vs : List V} (n : Nat) {d : D} {v : V}, Reps K mg F ι H ds vs → Rep K mg F ι H d v → Reps K mg F ι H (ds.set n d) (vs.set n v)
  | [], _, _, _, _, h, _ => by rw [show _ = _ from h]; rfl
  | x :: ds, vs, 0, d, v, h, g => by
    obtain ⟨u, r, rfl, h1, h2⟩ := h
    exact ⟨v, r, rfl, g, h2⟩
  | x :: ds, vs, n + 1, d, v, h, g => by
    obtain ⟨u, r, rfl, h1, h2⟩ := h
    exact ⟨u, _, rfl, h1, Reps.set n h2 g⟩
theorem Wd.stay {S : List Cell} (w : Wd K mg F ι H S) (e : Ext H F ι H' F' ι') : Stay F H H' := fun a o f h => e.keep a o h (.inl f)
theorem Wd.rep {S : List Cell} {d : D} {v : V} (w : Wd K mg F ι H S) (e : Ext H F ι H' F' ι') (h : Rep K mg F ι H d v) : Rep K mg F' ι' H' d v := rep_mono e.sub (w.stay e) e.pre d v h
theorem Wd.reps {S : List Cell} {ds : List D} {vs : List V} (w : Wd K mg F ι H S) (e : Ext H F ι H' F' ι') (h : Reps K mg F ι H ds vs) : Reps K mg F' ι' H' ds vs := reps_mono e.sub (w.stay e) e.pre ds vs h
end
inductive Sl where
  | un | val (d : D) | own (xs : List D) | ownd (ks : List Key) (xs : List D)
structure Snap where
  H0 : Hp
  F0 : Fz
  ι0 : List Addr
def OwnD (K : PySem.W.Frag) (mg : Str → Option Value) (g : Snap) (H : Hp) (F : Fz) (ι : List Addr) (a : Addr) (ks : List Key) (ds : List D) : Prop :=
  ∃ vs, H a = some (.dK (ks.zip vs)) ∧ vs.length = ks.length ∧ Reps K mg F ι H ds vs ∧ ¬ F a ∧ a ∉ ι ∧ g.H0 a = none
structure RS (K : PySem.W.Frag) (mg : Str → Option Value) (g : Snap) (σ : St) (H : Hp) (F : Fz) (ι : List Addr) (env : List Sl) (S : List Cell) : Prop where
  wd : Wd K mg F ι H S
  ext : Ext g.H0 g.F0 g.ι0 H F ι
  len : σ.length = env.length
  slot : ∀ (i : Nat) d, env[i]? = some (.val d) → ∃ v, σ[i]? = some (some v) ∧ Rep K mg F ι H d v
  own : ∀ (i : Nat) ds, env[i]? = some (.own ds) → ∃ a vs, σ[i]? = some (some (.ref a)) ∧ H a = some (.lst vs) ∧ Reps K mg F ι H ds vs ∧ ¬ F a ∧ a ∉ ι ∧ g.H0 a = none
  apart : ∀ (i j : Nat) a di dj, env[i]? = some (.own di) → env[j]? = some (.own dj) → σ[i]? = some (some (.ref a)) → σ[j]? = some (some (.ref a)) → i = j
  ownd : ∀ (i : Nat) ks ds, env[i]? = some (.ownd ks ds) → ∃ a, σ[i]? = some (some (.ref a)) ∧ OwnD K mg g H F ι a ks ds
  apartd : ∀ (i j : Nat) a ki di kj dj, env[i]? = some (.ownd ki di) → env[j]? = some (.ownd kj dj) → σ[i]? = some (some (.ref a)) → σ[j]? = some (some (.ref a)) → i = j
section
variable {K : PySem.W.Frag} {mg : Str → Option Value} {F F' : Fz} {ι ι' : List Addr} {H H' : Hp} {g : Snap} {σ : St} {env : List Sl} {S S' : List Cell}
theorem RS.step (r : RS K mg g σ H F ι env S) (e : Ext H F ι H' F' ι') (w : Wd K mg F' ι' H' S') : RS K mg g σ H' F' ι' env S' where
  wd := w
  ext := r.ext.trans e
  len := r.len
  slot := fun i d h => by
    obtain ⟨v, h1, h2⟩ := r.slot i d h
    exact ⟨v, h1, r.wd.rep e h2⟩
  own := fun i ds h => by
    obtain ⟨a, vs, h1, h2, h3, h4, h5, h6⟩ := r.own i ds h
    refine ⟨a, vs, h1, e.keep a _ h2 (.inr h5), r.wd.reps e h3, fun z => ?_, fun z => ?_, h6⟩
    · rcases e.new a z with z | z
      · exact h4 z
      · rw [h2] at z; cases z
    · rcases e.cnew a z with z | z
      · exact h5 z
      · rw [h2] at z; cases z
  apart := r.apart
  ownd := fun i ks ds h => by
    obtain ⟨a, h1, vs, h2, h2', h3, h4, h5, h6⟩ := r.ownd i ks ds h
    refine ⟨a, h1, vs, e.keep a _ h2 (.inr h5), h2', r.wd.reps e h3, fun z => ?_, fun z => ?_, h6⟩
    · rcases e.new a z with z | z
      · exact h4 z
      · rw [h2] at z; cases z
    · rcases e.cnew a z with z | z
      · exact h5 z
      · rw [h2] at z; cases z
  apartd := r.apartd
theorem Wd.lay {a : Addr} {o : HO} (w : Wd K mg F ι H S) (n : H a = none) : Ext H F ι (upd H a o) (fun b => F b ∨ b = a) ι ∧ Wd K mg (fun b => F b ∨ b = a) ι (upd H a o) S := by
  have e : Ext H F ι (upd H a o) (fun b => F b ∨ b = a) ι := by
    refine ⟨fun _ h => .inl h, fun b h => ?_, fun b u h _ => ?_, fun b h => ?_, List.prefix_refl _, fun _ h => .inl h⟩
    · rcases h with h | rfl
      · exact .inl h
      · exact .inr n
    · rw [upd_ne (ne_of_none h n)]
      exact h
    · by_cases hb : b = a
      · subst hb; exact n
      · rwa [upd_ne hb] at h
  refine ⟨e, ⟨fun b h => ?_, fun i c b h1 h2 hl h => ?_, w.cnd, w.len, fun i c b h1 h2 => ?_⟩⟩
  · rcases h with h | rfl
    · by_cases hb : b = a
      · subst hb; rw [upd_same]; simp
      · rw [upd_ne hb]; exact w.fin b h
    · rw [upd_same]; simp
  · rcases h with h | rfl
    · exact w.cnf i c b h1 h2 hl h
    · have q := w.cells i c b h1 h2
      cases c with
      | lst xs => obtain ⟨_, q, _⟩ := q; rw [n] at q; cases q
      | ins c ns xs => obtain ⟨_, _, _, _, q, _⟩ := q; rw [n] at q; cases q
      | dead => cases hl
      | tab p q => obtain ⟨_, _, q, _⟩ := q; rw [n] at q; cases q
  · refine cell_mono e.sub (w.stay e) e.pre (fun o ho => ?_) c (w.cells i c b h1 h2)
    rw [upd_ne (ne_of_none ho n)]
    exact ho
theorem Wd.layO {a : Addr} {o : HO} (w : Wd K mg F ι H S) (n : H a = none) : Ext H F ι (upd H a o) F ι ∧ Wd K mg F ι (upd H a o) S := by
  have e : Ext H F ι (upd H a o) F ι := by
    refine ⟨fun _ h => h, fun b h => .inl h, fun b u h _ => ?_, fun b h => ?_, List.prefix_refl _, fun _ h => .inl h⟩
    · rw [upd_ne (ne_of_none h n)]
      exact h
    · by_cases hb : b = a
      · subst hb; exact n
      · rwa [upd_ne hb] at h
  refine ⟨e, ⟨fun b h => ?_, w.cnf, w.cnd, w.len, fun i c b h1 h2 => ?_⟩⟩
  · by_cases hb : b = a
    · subst hb; rw [upd_same]; simp
    · rw [upd_ne hb]; exact w.fin b h
  · refine cell_mono e.sub (w.stay e) e.pre (fun o ho => ?_) c (w.cells i c b h1 h2)
    rw [upd_ne (ne_of_none ho n)]
    exact ho
theorem Wd.cell_some {n : Nat} {a : Addr} (w : Wd K mg F ι H S) (h : ι[n]? = some a) : ∃ c, S[n]? = some c ∧ CellOk K mg F ι H a c := by
  have hl : n < S.length := by rw [w.len]; exact (List.getElem?_eq_some_iff.mp h).1
  exact ⟨_, List.getElem?_eq_getElem hl, w.cells n _ a (List.getElem?_eq_getElem hl) h⟩
theorem CellOk.some {a : Addr} {c : Cell} (h : CellOk K mg F ι H a c) (fin : ∀ a, F a → H a ≠ none) : ∃ o, H a = some o := by
  cases c with
  | lst xs => obtain ⟨vs, h, _⟩ := h; exact ⟨_, h⟩
  | ins c ns xs => obtain ⟨C, dx, vs, _, h, _⟩ := h; exact ⟨_, h⟩
  | tab p q => obtain ⟨_, _, h, _⟩ := h; exact ⟨_, h⟩
  | dead =>
    cases z : H a with
    | none => exact absurd z (fin a h)
    | some o => exact ⟨o, rfl⟩
theorem Wd.cell_ne {a : Addr} (w : Wd K mg F ι H S) (h : a ∈ ι) : H a ≠ none := by
  obtain ⟨n, hn⟩ := List.getElem?_of_mem h
  obtain ⟨c, _, hc⟩ := w.cell_some hn
  obtain ⟨o, ho⟩ := hc.some w.fin
  rw [ho]; simp
theorem Wd.freeze {a : Addr} (w : Wd K mg F ι H S) (h : H a ≠ none) (hc : a ∉ ι) : Wd K mg (fun b => F b ∨ b = a) ι H S := by
  refine ⟨fun b hb => ?_, fun n c b h1 h2 hl z => ?_, w.cnd, w.len, fun n c b h1 h2 => cell_mono (fun _ h => .inl h) (fun _ _ _ h => h) (List.prefix_refl _) (fun _ h => h) c (w.cells n c b h1 h2)⟩
  · rcases hb with hb | rfl
    · exact w.fin b hb
    · exact h
  · rcases z with z | rfl
    · exact w.cnf n c b h1 h2 hl z
    · exact hc (List.mem_of_getElem? h2)
end
end DL
namespace DL
open PySem PySem.Spec L2
open PyProof.Rows hiding St
def LayT (H : Hp) (vs : List V) (Q : VK) : Prop := ∀ p o, BT vs o → H p = none → Q (.ref p) (upd H p o)
section
variable {X : Cx} {pins : List (Addr × Obj)} {σ : St} {H : Hp} {s : Shared} {Q : VK} {vs : List V} {its : List Value}
theorem bt_new {t' : Nat} (J : Inv X pins σ H s) (rv : Vals vs its) (z : vs.length ≤ sizeLine) (q : LayT H vs Q) :
    EP X pins σ Q (.ref s.heap.objs.size) { s with heap := s.heap.push { cls := .type "tuple", data := .seq its.toArray }, toks := t' } :=
  ⟨.ref s.heap.objs.size, upd H s.heap.objs.size (.frz _ (.tup vs)), J.laid (t' := t') (fun b ob hb => Heap.get?_push_of_some _ hb) (Nat.le_refl _) ⟨Heap.get?_push_size _ rfl, z, its, rv, IsTup.new _ _⟩, rfl, q _ _ ⟨_, rfl, rfl⟩ (J.hok.fresh (Nat.le_refl _))⟩
variable {es : List Expr} {ta : TA} {pos : Pos}
def tTupB (ta : TA) : TE := fun σ H Q => ta σ H fun zs H1 => zs.length ≤ sizeLine ∧ LayT H1 zs Q
theorem pe_tupB {x1} (ha : PA X es ta) : PE X (.Tuple es x1 pos) (tTupB ta) := ⟨fun pins s σ H Q J h =>
  wpAny_Tuple_spliced (thn (ha.run pos pins s σ H _ J h) fun us s1 ⟨zs, H1, J1, rv, hz, q⟩ => ⟨by rw [← rv.length]; exact hz, bt_new (t' := s1.toks) J1 rv hz q⟩)⟩
def rCatB (K : PySem.W.Frag) : R2 := fun x y H Q => ∃ a b xs ys, x = .ref a ∧ y = .ref b ∧ SqT K H a xs ∧ SqT K H b ys ∧ xs.length + ys.length ≤ sizeLine ∧
  (xs = [] → Q (.ref b) H) ∧ (xs ≠ [] → ys = [] → Q (.ref a) H) ∧ (xs ≠ [] → ys ≠ [] → LayT H (xs ++ ys) Q)
theorem op_catB : OpR X (binaryOp .Add) (rCatB X.K) := by
  intro pins s σ H x y v u Q J rx ry ⟨a, b, xs, ys, hx, hy, ha, hb, hz, q0, q1, q2⟩
  by_cases h : xs = [] ∨ ys = []
  · refine op_catA pins s σ H x y v u Q J rx ry ⟨a, b, xs, ys, hx, hy, ha, hb, hz, q0, q1, fun n1 n2 => ?_⟩
    rcases h with h | h
    · exact absurd h n1
    · exact absurd h n2
  · have n1 : xs ≠ [] := fun e => h (.inl e)
    have n2 : ys ≠ [] := fun e => h (.inr e)
    subst hx hy
    cases rx
    cases ry
    obtain ⟨us, ra, pa, _⟩ := J.tuple ha
    obtain ⟨ws, rb, pb, _⟩ := J.tuple hb
    refine HT.cat_tup pa pb (fun e => n1 (ra.nil_iff.mp e)) (fun e => absurd (rb.nil_iff.mp e) n2) (fun _ => ?_) (by rw [← ra.length, ← rb.length]; exact hz)
    exact bt_new (t' := s.toks) J (ra.append rb) (by rw [List.length_append]; exact hz) (q2 n1 n2)
def rSlB (K : PySem.W.Frag) : V → Option Int → Option Int → Hp → VK → Prop := fun x lo hi H Q => ∃ a xs, x = .ref a ∧ SqT K H a xs ∧
  (HT.sIx xs.length 0 lo = 0 ∧ HT.sIx xs.length xs.length hi = xs.length → Q (.ref a) H) ∧ (¬ (HT.sIx xs.length 0 lo = 0 ∧ HT.sIx xs.length xs.length hi = xs.length) → LayT H (cutV xs lo hi) Q)
theorem sl_tupB : SlR X (rSlB X.K) := by
  intro pins s σ H x v vl vu lo hi sl Q J rx hs pl pu ⟨a, xs, hx, hq, q1, q2⟩
  by_cases hw : HT.sIx xs.length 0 lo = 0 ∧ HT.sIx xs.length xs.length hi = xs.length
  · exact sl_tupA pins s σ H x v vl vu lo hi sl Q J rx hs pl pu ⟨a, xs, hx, hq, q1, fun n => absurd hw n⟩
  · subst hx
    cases rx
    obtain ⟨us, ra, pt, hz⟩ := J.tuple hq
    have sz : us.toArray.size = xs.length := (List.size_toArray ..).trans ra.length.symm
    refine ⟨"tuple", _, PyProof.Rows.slot_tuple_getitem.lookup, pt.typeIs, HT.getItem_tuple_cut pt hs pl pu (by rw [sz]; exact hw) ?_ (by rw [sz]; exact hz)⟩
    rw [sz]
    exact bt_new (t' := s.toks) J ((ra.drop (HT.sIx xs.length 0 lo)).take (HT.sIx xs.length xs.length hi - HT.sIx xs.length 0 lo)) (Nat.le_trans (cutV_length xs lo hi) hz) (q2 hw)
theorem call_tupleB : CallR X (.type "tuple") (fun xs H Q => ∃ p ys, xs = [.ref p] ∧ ((SqL X.K H p ys ∧ LayT H ys Q) ∨ (SqT X.K H p ys ∧ Q (.ref p) H))) := by
  intro pins s σ H xs us Q J rv h
  rcases h with ⟨p, ys, hx, ⟨hq, q⟩ | ⟨hq, q⟩⟩
  · subst hx
    obtain ⟨u, rfl, ru⟩ := vals1 rv
    cases ru
    obtain ⟨ws, rw', pl, hz⟩ := J.list hq
    have sz := rw'.length
    refine call_tuple_list pl.isList (fun h' kp => ?_) (by simp only [List.size_toArray] <;> omega)
    have J1 : Inv X pins σ H { s with heap := h' } := J.kept (t' := s.toks) kp
    exact bt_new (t' := s.toks) J1 rw' hz q
  · exact call_tuple_of pins s σ H xs us Q J rv ⟨p, ys, hx, .inr ⟨hq, q⟩⟩
theorem call_divmodB : CallR X (.builtin "divmod") (fun xs H Q => ∃ i j, xs = [.int i, .int j] ∧ CDiv i j ∧ LayT H [.int (i / j), .int (i % j)] Q) := by
  intro pins s σ H xs us Q J rv ⟨i, j, hx, ⟨c1, c2⟩, q⟩
  subst hx
  obtain ⟨u, w', rfl, ⟨t, rfl⟩, ⟨t', rfl⟩⟩ := vals2 rv
  refine divmod_int (by omega) ?_ (.inl (PyProof.noPylong_small (by omega)))
  rw [Int.fdiv_eq_ediv_of_nonneg i (by omega), Int.fmod_eq_emod_of_nonneg i (by omega)]
  exact bt_new (vs := [.int (i / j), .int (i % j)]) J (.cons ⟨_, rfl⟩ (.cons ⟨_, rfl⟩ .nil)) (by simp only [List.length_cons, List.length_nil]; rw [sizeLine_eq]; decide) q
def rRepB (K : PySem.W.Frag) : R2 := fun x y H Q => ∃ l k xs, x = .ref l ∧ y = .int k ∧ SqT K H l xs ∧ xs ≠ [] ∧ 2 ≤ k ∧ k ≤ 1000 ∧ xs.length ≤ 1000 ∧ LayT H (List.replicate k.toNat xs).flatten Q
end
end DL
namespace DL
open PySem PySem.Spec L2
open PyProof.Rows hiding St
inductive Rs (α : Type) where
  | ok (a : α) (S : List Cell) | ex (c : Str) (ns : List Str) (ds : List D) (S : List Cell) | bad
abbrev Ex (α : Type) := List Sl → List Cell → Rs α
def Rs.andThen {α β : Type} (r : Rs α) (h : α → List Cell → Rs β) : Rs β := match r with
  | .ok a S => h a S
  | .ex c ns ds S => .ex c ns ds S
  | .bad => .bad
@[simp] theorem andThen_ok {α β : Type} (a : α) (S : List Cell) (h : α → List Cell → Rs β) : (Rs.ok a S).andThen h = h a S := rfl
@[simp] theorem andThen_ex {α β : Type} (c ns ds S) (h : α → List Cell → Rs β) : (Rs.ex c ns ds S).andThen h = .ex c ns ds S := rfl
@[simp] theorem andThen_bad {α β : Type} (h : α → List Cell → Rs β) : (Rs.bad).andThen h = .bad := rfl
inductive Fl where
  | nx (e : List Sl) (S : List Cell) | rt (d : D) (S : List Cell) | bk (e : List Sl) (S : List Cell) | ct (e : List Sl) (S : List Cell)
  | ex (c : Str) (ns : List Str) (ds : List D) (e : List Sl) (S : List Cell) | bad
abbrev Sm := List Sl → List Cell → Fl
def Rs.go {α : Type} (r : Rs α) (env : List Sl) (h : α → List Cell → Fl) : Fl := match r with
  | .ok a S => h a S
  | .ex c ns ds S => .ex c ns ds env S
  | .bad => .bad
@[simp] theorem go_ok {α : Type} (a : α) (S : List Cell) (env : List Sl) (h : α → List Cell → Fl) : (Rs.ok a S).go env h = h a S := rfl
@[simp] theorem go_ex {α : Type} (c ns ds S env) (h : α → List Cell → Fl) : (Rs.ex c ns ds S).go env h = .ex c ns ds env S := rfl
@[simp] theorem go_bad {α : Type} (env : List Sl) (h : α → List Cell → Fl) : (Rs.bad).go env h = .bad := rfl
structure Grow (H : Hp) (F : Fz) (ι : List Addr) (H' : Hp) (F' : Fz) (ι' : List Addr) : Prop where
  sub : ∀ a, F a → F' a
  stay : Stay F H H'
  pre : ι <+: ι'
theorem Grow.refl {H : Hp} {F : Fz} {ι : List Addr} : Grow H F ι H F ι := ⟨fun _ h => h, fun _ _ _ h => h, List.prefix_refl _⟩
theorem Grow.trans {H H1 H2 : Hp} {F F1 F2 : Fz} {ι ι1 ι2 : List Addr} (a : Grow H F ι H1 F1 ι1) (b : Grow H1 F1 ι1 H2 F2 ι2) : Grow H F ι H2 F2 ι2 :=
  ⟨fun x h => b.sub x (a.sub x h), fun x o f h => b.stay x o (a.sub x f) (a.stay x o f h), a.pre.trans b.pre⟩
theorem Wd.grow {K : PySem.W.Frag} {mg : Str → Option Value} {H H' : Hp} {F F' : Fz} {ι ι' : List Addr} {S : List Cell} (w : Wd K mg F ι H S) (e : Ext H F ι H' F' ι') : Grow H F ι H' F' ι' := ⟨e.sub, w.stay e, e.pre⟩
def DictAt (K : PySem.W.Frag) (mg : Str → Option Value) (F : Fz) (ι : List Addr) (H : Hp) (d : Option Addr) (ns : List Str) (ds : List D) : Prop :=
  ∃ vs, Reps K mg F ι H ds vs ∧ vs.length = ns.length ∧ ((ns = [] ∧ d = none) ∨ ∃ dd, d = some dd ∧ F dd ∧ H dd = some (.xd (ns.zip vs)))
def ExTo (K : PySem.W.Frag) (mg : Str → Option Value) (g : Snap) (E : EE) (R : Hp → Fz → List Addr → Prop) (c : Str) (ns : List Str) (ds : List D) (σ : St) (env : List Sl) (S : List Cell) : Prop :=
  ∀ C d H' F' ι', mg c = some (.ref C) → RS K mg g σ H' F' ι' env S → R H' F' ι' → DictAt K mg F' ι' H' d ns ds → E σ (.ref C) d H'
section
variable (K : PySem.W.Frag) (mg : Str → Option Value) (g : Snap) (E : EE)
def rdAt {α : Type} (σ : St) (H : Hp) (F : Fz) (ι : List Addr) (env : List Sl) (k : α → Hp → Fz → List Addr → List Cell → Prop) : Rs α → Prop
  | .ok a S' => ∀ H' F' ι', Ext H F ι H' F' ι' → RS K mg g σ H' F' ι' env S' → k a H' F' ι' S'
  | .ex c ns ds S' => ExTo K mg g E (Ext H F ι) c ns ds σ env S'
  | .bad => False
def tV (f : Ex D) : TE := fun σ H Q => ∃ F ι env S, RS K mg g σ H F ι env S ∧ rdAt K mg g E σ H F ι env (fun d H' F' ι' _ => ∀ v, Rep K mg F' ι' H' d v → Q v H') (f env S)
def tT (f : Ex Bool) : TT := fun σ H Q => ∃ F ι env S, RS K mg g σ H F ι env S ∧ rdAt K mg g E σ H F ι env (fun b H' _ _ _ => Q b H') (f env S)
def tAr (f : Ex (List D)) : TA := fun σ H Q => ∃ F ι env S, RS K mg g σ H F ι env S ∧ rdAt K mg g E σ H F ι env (fun ds H' F' ι' _ => ∀ vs, Reps K mg F' ι' H' ds vs → Q vs H') (f env S)
def tO (f : Ex (List D)) : TE := fun σ H Q => ∃ F ι env S, RS K mg g σ H F ι env S ∧
  rdAt K mg g E σ H F ι env (fun ds H' F' ι' _ => ∀ a vs, H' a = some (.lst vs) → Reps K mg F' ι' H' ds vs → ¬ F' a → a ∉ ι' → H a = none → Q (.ref a) H') (f env S)
def flAt (H : Hp) (F : Fz) (ι : List Addr) (D : Ends) : Fl → Prop
  | .nx env' S' => ∀ σ' H' F' ι', RS K mg g σ' H' F' ι' env' S' → Grow H F ι H' F' ι' → D.nx σ' H'
  | .bk env' S' => ∀ σ' H' F' ι', RS K mg g σ' H' F' ι' env' S' → Grow H F ι H' F' ι' → D.bk σ' H'
  | .ct env' S' => ∀ σ' H' F' ι', RS K mg g σ' H' F' ι' env' S' → Grow H F ι H' F' ι' → D.ct σ' H'
  | .rt d S' => ∀ v H' F' ι', Ext g.H0 g.F0 g.ι0 H' F' ι' → Wd K mg F' ι' H' S' → Rep K mg F' ι' H' d v → D.rt v H'
  | .ex c ns ds env' S' => ∀ σ', ExTo K mg g E (Grow H F ι) c ns ds σ' env' S'
  | .bad => False
def tS (m : Sm) : TS := fun D σ H => ∃ F ι env S, RS K mg g σ H F ι env S ∧ flAt K mg g E H F ι D (m env S)
end
def VE (X : Cx) (E : EE) (e : Expr) (f : Ex D) : Prop := ∀ g, PE X e (tV X.K X.mg g E f)
def VT (X : Cx) (E : EE) (e : Expr) (f : Ex Bool) : Prop := ∀ g, PT X e (tT X.K X.mg g E f)
def VA (X : Cx) (E : EE) (es : List Expr) (f : Ex (List D)) : Prop := ∀ g, PA X es (tAr X.K X.mg g E f)
def VO (X : Cx) (E : EE) (e : Expr) (f : Ex (List D)) : Prop := ∀ g, PE X e (tO X.K X.mg g E f)
def VS (X : Cx) (E : EE) (st : Stmt) (m : Sm) : Prop := ∀ g, PS X st (tS X.K X.mg g E m)
def VB (X : Cx) (E : EE) (sts : List Stmt) (m : Sm) : Prop := ∀ g, PSs X sts (tS X.K X.mg g E m)
theorem _root_.L2.PE.imp {X : Cx} {e : Expr} {t t' : TE} (p : PE X e t) (h : ∀ σ H Q, t' σ H Q → t σ H Q) : PE X e t' := ⟨fun pins s σ H Q I q => p.run pins s σ H Q I (h σ H Q q)⟩
theorem _root_.L2.PT.imp {X : Cx} {e : Expr} {t t' : TT} (p : PT X e t) (h : ∀ σ H Q, t' σ H Q → t σ H Q) : PT X e t' := ⟨fun pins s σ H Q I q => p.run pins s σ H Q I (h σ H Q q)⟩
theorem _root_.L2.PA.imp {X : Cx} {e : List Expr} {t t' : TA} (p : PA X e t) (h : ∀ σ H Q, t' σ H Q → t σ H Q) : PA X e t' := ⟨fun pos pins s σ H Q I q => p.run pos pins s σ H Q I (h σ H Q q)⟩
theorem _root_.L2.PS.imp {X : Cx} {e : Stmt} {t t' : TS} (p : PS X e t) (h : ∀ D σ H, t' D σ H → t D σ H) : PS X e t' := ⟨fun pins s σ H D I q => p.run pins s σ H D I (h D σ H q)⟩
theorem _root_.L2.PSs.imp {X : Cx} {e : List Stmt} {t t' : TS} (p : PSs X e t) (h : ∀ D σ H, t' D σ H → t D σ H) : PSs X e t' := ⟨fun pins s σ H D I q => p.run pins s σ H D I (h D σ H q)⟩
section
variable {K : PySem.W.Frag} {mg : Str → Option Value} {g : Snap} {E : EE} {σ : St} {H H' : Hp} {F F' : Fz} {ι ι' : List Addr} {env : List Sl} {S S' : List Cell}
theorem rd_then {α β : Type} {r : Rs α} {h : α → List Cell → Rs β} {k : β → Hp → Fz → List Addr → List Cell → Prop}
    (q : rdAt K mg g E σ H F ι env k (r.andThen h)) :
    rdAt K mg g E σ H F ι env (fun a H1 F1 ι1 S1 => Ext H F ι H1 F1 ι1 ∧ RS K mg g σ H1 F1 ι1 env S1 ∧
      rdAt K mg g E σ H1 F1 ι1 env (fun b H2 F2 ι2 S2 => Ext H1 F1 ι1 H2 F2 ι2 ∧ RS K mg g σ H2 F2 ι2 env S2 ∧ k b H2 F2 ι2 S2) (h a S1)) r := by
  cases r with
  | bad => exact q
  | ex c ns ds S1 => exact q
  | ok a S1 =>
    intro H1 F1 ι1 e1 r1
    refine ⟨e1, r1, ?_⟩
    show rdAt K mg g E σ H1 F1 ι1 env _ (h a S1)
    have q : rdAt K mg g E σ H F ι env k (h a S1) := q
    revert q
    cases h a S1 with
    | bad => exact id
    | ex c ns ds S2 => exact fun q C d H' F' ι' hc w' r' hd => q C d H' F' ι' hc w' (e1.trans r') hd
    | ok b S2 => exact fun q H2 F2 ι2 e2 r2 => ⟨e2, r2, q H2 F2 ι2 (e1.trans e2) r2⟩
theorem rd_mono {α : Type} {r : Rs α} {k k' : α → Hp → Fz → List Addr → List Cell → Prop} (q : rdAt K mg g E σ H F ι env k r)
    (h : ∀ a H1 F1 ι1 S1, r = .ok a S1 → Ext H F ι H1 F1 ι1 → RS K mg g σ H1 F1 ι1 env S1 → k a H1 F1 ι1 S1 → k' a H1 F1 ι1 S1) : rdAt K mg g E σ H F ι env k' r := by
  cases r with
  | bad => exact q
  | ex c ns ds S1 => exact q
  | ok a S1 => exact fun H1 F1 ι1 e1 r1 => h a H1 F1 ι1 S1 rfl e1 r1 (q H1 F1 ι1 e1 r1)
theorem fl_grow {D : Ends} (w : Grow H F ι H' F' ι') : ∀ {fl : Fl}, flAt K mg g E H F ι D fl → flAt K mg g E H' F' ι' D fl
  | .nx _ _, q => fun σ2 H2 F2 ι2 r e => q σ2 H2 F2 ι2 r (w.trans e)
  | .bk _ _, q => fun σ2 H2 F2 ι2 r e => q σ2 H2 F2 ι2 r (w.trans e)
  | .ct _ _, q => fun σ2 H2 F2 ι2 r e => q σ2 H2 F2 ι2 r (w.trans e)
  | .rt _ _, q => q
  | .ex _ _ _ _ _, q => fun σ' C d H' F' ι' hc w' r' hd => q σ' C d H' F' ι' hc w' (w.trans r') hd
  | .bad, q => q
theorem rd_go {α : Type} {r : Rs α} {h : α → List Cell → Fl} {D : Ends} (w : Wd K mg F ι H S) (q : flAt K mg g E H F ι D (r.go env h)) :
    rdAt K mg g E σ H F ι env (fun a H1 F1 ι1 S1 => Ext H F ι H1 F1 ι1 ∧ RS K mg g σ H1 F1 ι1 env S1 ∧ flAt K mg g E H1 F1 ι1 D (h a S1)) r := by
  cases r with
  | bad => exact q
  | ex c ns ds S1 => exact fun C d H' F' ι' hc w' r' hd => q σ C d H' F' ι' hc w' (w.grow r') hd
  | ok a S1 => exact fun H1 F1 ι1 e1 r1 => ⟨e1, r1, fl_grow (w.grow e1) q⟩
def Told (K : PySem.W.Frag) (mg : Str → Option Value) (H : Hp) (F : Fz) (ι : List Addr) (S : List Cell) (d : D) (Q : VK) : Prop :=
  ∀ v H' F' ι', Ext H F ι H' F' ι' → Wd K mg F' ι' H' S → Rep K mg F' ι' H' d v → Q v H'
def ToldO (K : PySem.W.Frag) (mg : Str → Option Value) (H : Hp) (F : Fz) (ι : List Addr) (S : List Cell) (ds : List D) (Q : VK) : Prop :=
  ∀ a vs H', Ext H F ι H' F ι → Wd K mg F ι H' S → H' a = some (.lst vs) → Reps K mg F ι H' ds vs → ¬ F a → a ∉ ι → H a = none → Q (.ref a) H'
theorem Told.here {d : D} {v : V} {Q : VK} (t : Told K mg H F ι S d Q) (w : Wd K mg F ι H S) (r : Rep K mg F ι H d v) : Q v H := t v H F ι Ext.refl w r
theorem Told.own {ds : List D} {Q : VK} (t : Told K mg H F ι S (.lst ds) Q) : ToldO K mg H F ι S ds Q := by
  intro a vs H' e w h r nf nc n
  refine t (.ref a) H' (fun b => F b ∨ b = a) ι ⟨fun b hb => .inl hb, fun b hb => ?_, e.keep, e.mono, List.prefix_refl _, fun b hb => .inl hb⟩ (w.freeze (by rw [h]; simp) nc) ?_
  · rcases hb with hb | rfl
    · exact .inl hb
    · exact .inr n
  · exact ⟨a, vs, rfl, ⟨.inr rfl, h⟩, reps_mono (fun _ h => .inl h) (fun _ _ _ h => h) (List.prefix_refl _) ds vs r⟩
theorem ToldO.lay {ds : List D} {vs : List V} {Q : VK} {p : Addr} (t : ToldO K mg H F ι S ds Q) (w : Wd K mg F ι H S) (r : Reps K mg F ι H ds vs) (n : H p = none) : Q (.ref p) (upd H p (.lst vs)) := by
  obtain ⟨e, w'⟩ := w.layO (o := .lst vs) n
  exact t p vs _ e w' upd_same (w.reps e r) (fun z => w.fin p z n) (fun z => w.cell_ne z n) n
theorem Told.layT {ds : List D} {vs : List V} {Q : VK} (t : Told K mg H F ι S (.tup ds) Q) (w : Wd K mg F ι H S) (r : Reps K mg F ι H ds vs) : LayT H vs Q := by
  intro p o b n
  obtain ⟨e, w'⟩ := w.lay (o := o) n
  exact t (.ref p) _ _ _ e w' ⟨p, vs, rfl, .inl ⟨.inr rfl, o, b, upd_same⟩, w.reps e r⟩
end
section
variable {X : Cx} {E : EE} {a b c e o : Expr} {es : List Expr} {f h k : Ex D} {p q : Ex Bool} {fa : Ex (List D)} {pos : Pos}
def mVar (i : Nat) : Ex D := fun env S => match env[i]? with
  | some (.val d) => .ok d S
  | _ => .bad
theorem v_of_pe {i : Nat} (h : PE X e (tVar i)) : VE X E e (mVar i) := fun g => h.imp fun σ H Q ⟨F, ι, env, S, r, q⟩ => by
  unfold mVar at q
  split at q
  · rename_i d hd
    obtain ⟨v, h1, h2⟩ := r.slot i d hd
    exact ⟨v, h1, q H F ι Ext.refl r v h2⟩
  · exact q.elim
theorem v_var (i : Nat) {x : Str} {pos : Pos} (hN : X.N[i]? = some x := by rfl) (hv : Vis X.env.scope x := by first | exact Or.inl rfl | exact Or.inr (Or.inl rfl) | exact Or.inr (Or.inr rfl))
    (hd : (x == ("__debug__" : Str)) = false := by decide) (hcd : (x == ("__classdict__" : Str)) = false := by decide) : VE X E (.Name x pos) (mVar i) := v_of_pe (pe_var hN hv hd hcd)
def mC (d : D) : Ex D := fun _ S => .ok d S
theorem v_const {d : D} {v : V} (h : PE X e (tC v)) (r : ∀ F ι H, Rep X.K X.mg F ι H d v) : VE X E e (mC d) := fun g => h.imp fun σ H Q ⟨F, ι, env, S, w, q⟩ => q H F ι Ext.refl w v (r F ι H)
theorem v_int {i j pos} : VE X E (.Constant (.int i) j pos) (mC (.int i)) := v_const pe_int fun _ _ _ => rfl
theorem v_bl {i j pos} : VE X E (.Constant (.bool i) j pos) (mC (.bl i)) := v_const pe_bl fun _ _ _ => rfl
theorem v_non {j pos} : VE X E (.Constant .none j pos) (mC .non) := v_const pe_non fun _ _ _ => rfl
theorem v_str {x j pos} : VE X E (.Constant (.str x) j pos) (mC (.str x)) := v_const pe_str fun _ _ _ => rfl
theorem v_glob {x : Str} {d : D} {v : V} {u : Value} (hg : Gl X x) (hm : X.mg x = some u) (r : RelV v u) (hr : ∀ F ι H, Rep X.K X.mg F ι H d v) (hd : (x == ("__debug__" : Str)) = false := by decide) :
    VE X E (.Name x pos) (mC d) := v_const (pe_glob hg hm r hd) hr
abbrev Op1 := D → List Cell → Option D
abbrev Op2 := D → D → List Cell → Option D
abbrev OpN := List D → List Cell → Option D
def ofO (o : Option D) (S : List Cell) : Rs D := match o with
  | some d => .ok d S
  | none => .bad
@[simp] theorem ofO_some (d : D) (S : List Cell) : ofO (some d) S = .ok d S := rfl
@[simp] theorem ofO_none (S : List Cell) : ofO none S = .bad := rfl
def Ok2 (K : PySem.W.Frag) (mg : Str → Option Value) (r : R2) (op : Op2) : Prop :=
  ∀ H F ι S x y d v u Q, Wd K mg F ι H S → Rep K mg F ι H x v → Rep K mg F ι H y u → op x y S = some d → Told K mg H F ι S d Q → r v u H Q
def Ok1 (K : PySem.W.Frag) (mg : Str → Option Value) (r : V → Hp → VK → Prop) (op : Op1) : Prop :=
  ∀ H F ι S x d v Q, Wd K mg F ι H S → Rep K mg F ι H x v → op x S = some d → Told K mg H F ι S d Q → r v H Q
def OkN (K : PySem.W.Frag) (mg : Str → Option Value) (r : List V → Hp → VK → Prop) (op : OpN) : Prop :=
  ∀ H F ι S xs d vs Q, Wd K mg F ι H S → Reps K mg F ι H xs vs → op xs S = some d → Told K mg H F ι S d Q → r vs H Q
def mOp (op : Op2) (f h : Ex D) : Ex D := fun env S => (f env S).andThen fun x S1 => (h env S1).andThen fun y S2 => ofO (op x y S2) S2
def mUn (op : Op1) (f : Ex D) : Ex D := fun env S => (f env S).andThen fun x S1 => ofO (op x S1) S1
theorem op2_imp {g : Snap} {r : R2} {op : Op2} (ok : Ok2 X.K X.mg r op) : ∀ σ H Q, tV X.K X.mg g E (mOp op f h) σ H Q → tOp r (tV X.K X.mg g E f) (tV X.K X.mg g E h) σ H Q := by
  rintro σ H Q ⟨F, ι, env, S, w, q⟩
  refine ⟨F, ι, env, S, w, rd_mono (rd_then q) ?_⟩
  rintro x H1 F1 ι1 S1 - e1 w1 ⟨_, _, q1⟩ v hv
  refine ⟨F1, ι1, env, S1, w1, rd_mono (rd_then q1) ?_⟩
  rintro y H2 F2 ι2 S2 - e2 w2 ⟨_, _, q2⟩ u hu
  cases ho : op x y S2 with
  | none => rw [ho] at q2; exact q2.elim
  | some d =>
    rw [ho] at q2
    refine ok H2 F2 ι2 S2 x y d v u Q w2.wd (w1.wd.rep e2 hv) hu ho fun v' H' F' ι' e' w' hv' => ?_
    exact (q2 H' F' ι' e' (w2.step e' w')).2.2.2.2 v' hv'
theorem v_op {o : Operator} {r : R2} {op : Op2} (ho : OpR X (binaryOp o) r) (ok : Ok2 X.K X.mg r op) (ha : VE X E a f) (hb : VE X E b h) : VE X E (.BinOp a o b pos) (mOp op f h) :=
  fun g => (pe_op ho (ha g) (hb g)).imp (op2_imp ok)
theorem v_cmp {o : CmpOp} {r : R2} {op : Op2} (ho : OpR X (compareOp o) r) (ok : Ok2 X.K X.mg r op) (ha : VE X E a f) (hb : VE X E b h) (hm : behindInMarks o b = false) :
    VE X E (.Compare a [o] [b] pos) (mOp op f h) := fun g => (pe_cmpR ho (ha g) (hb g) hm).imp (op2_imp ok)
theorem v_un {o : UnaryOp} {r : V → Hp → VK → Prop} {op : Op1} (ho : UnR X (unaryOp o) r) (ok : Ok1 X.K X.mg r op) (ha : VE X E a f) : VE X E (.UnaryOp o a pos) (mUn op f) := fun g =>
  (pe_un ho (ha g)).imp fun σ H Q ⟨F, ι, env, S, w, q⟩ => ⟨F, ι, env, S, w, rd_mono (rd_then q) fun x H1 F1 ι1 S1 _ e1 w1 ⟨_, _, q1⟩ v hv => by
    cases ho : op x S1 with
    | none => rw [ho] at q1; exact q1.elim
    | some d =>
      rw [ho] at q1
      exact ok H1 F1 ι1 S1 x d v Q w1.wd hv ho fun v' H' F' ι' e' w' hv' => (q1 H' F' ι' e' (w1.step e' w')).2.2 v' hv'⟩
theorem v_ix {r : R2} {op : Op2} (hi : IxR X r) (ok : Ok2 X.K X.mg r op) (ha : VE X E a f) (hb : VE X E b h) (hs : PlainIxT b) : VE X E (.Subscript a b pos) (mOp op f h) :=
  fun g => (pe_ix hi (ha g) (hb g) hs).imp (op2_imp ok)
def mNil : Ex (List D) := fun _ S => .ok [] S
def mCons (f : Ex D) (r : Ex (List D)) : Ex (List D) := fun env S => (f env S).andThen fun x S1 => (r env S1).andThen fun xs S2 => .ok (x :: xs) S2
theorem a_nil : VA X E [] mNil := fun g => pa_nil.imp fun σ H Q ⟨F, ι, env, S, w, q⟩ => q H F ι Ext.refl w [] rfl
theorem a_cons (he : VE X E e f) (hr : VA X E es fa) (hs : starEach (e :: es) X.env = (false, eval e X.env) :: starEach es X.env := by rfl) : VA X E (e :: es) (mCons f fa) := fun g =>
  (pa_cons (he g) (hr g) hs).imp fun σ H Q ⟨F, ι, env, S, w, q⟩ => ⟨F, ι, env, S, w, rd_mono (rd_then q) fun x H1 F1 ι1 S1 _ e1 w1 ⟨_, _, q1⟩ v hv =>
    ⟨F1, ι1, env, S1, w1, rd_mono (rd_then q1) fun xs H2 F2 ι2 S2 _ e2 w2 ⟨_, _, q2⟩ vs hvs => (q2 H2 F2 ι2 Ext.refl w2).2.2.2.2 (v :: vs) ⟨v, vs, rfl, w1.wd.rep e2 hv, hvs⟩⟩⟩
def mTup (f : Ex (List D)) : Ex D := fun env S => (f env S).andThen fun xs S1 => if xs.length ≤ 100000 then .ok (.tup xs) S1 else .bad
theorem v_tup {x1} (ha : VA X E es fa) : VE X E (.Tuple es x1 pos) (mTup fa) := fun g => (pe_tupB (ha g)).imp fun σ H Q ⟨F, ι, env, S, w, q⟩ =>
  ⟨F, ι, env, S, w, rd_mono (rd_then q) fun xs H1 F1 ι1 S1 _ e1 w1 ⟨_, _, q1⟩ vs hvs => by
    by_cases hl : xs.length ≤ 100000
    · rw [if_pos hl] at q1
      refine ⟨Nat.le_trans (by rw [hvs.len]; exact hl) (by decide), ?_⟩
      exact Told.layT (fun v' H' F' ι' e' w' hv' => (q1 H' F' ι' e' (w1.step e' w')).2.2 v' hv') w1.wd hvs
    · rw [if_neg hl] at q1
      exact q1.elim⟩
def mLst (f : Ex (List D)) : Ex (List D) := fun env S => (f env S).andThen fun xs S1 => if xs.length ≤ 100000 then .ok xs S1 else .bad
theorem o_lst (ha : VA X E es fa) : VO X E (.List es pos) (mLst fa) := fun g => (pe_lst (ha g)).imp fun σ H Q ⟨F, ι, env, S, w, q⟩ =>
  ⟨F, ι, env, S, w, rd_mono (rd_then q) fun xs H1 F1 ι1 S1 _ e1 w1 ⟨_, _, q1⟩ vs hvs => by
    by_cases hl : xs.length ≤ 100000
    · rw [if_pos hl] at q1
      refine ⟨Nat.le_trans (by rw [hvs.len]; exact hl) (by decide), fun p hp => ?_⟩
      obtain ⟨e', w'⟩ := w1.wd.layO (o := .lst vs) hp
      exact (q1 _ _ _ e' (w1.step e' w')).2.2 p vs upd_same (w1.wd.reps e' hvs) (fun z => w1.wd.fin p z hp) (fun z => w1.wd.cell_ne z hp) (e1.mono p hp)
    · rw [if_neg hl] at q1
      exact q1.elim⟩
def mFr (f : Ex (List D)) : Ex D := fun env S => (f env S).andThen fun xs S1 => .ok (.lst xs) S1
theorem v_fr (h : VO X E e fa) : VE X E e (mFr fa) := fun g => (h g).imp fun σ H Q ⟨F, ι, env, S, w, q⟩ => ⟨F, ι, env, S, w, by
  unfold mFr at q
  cases hf : fa env S with
  | bad => rw [hf] at q; exact q
  | ex c ns ds S1 => rw [hf] at q; exact q
  | ok xs S1 =>
    rw [hf] at q
    intro H1 F1 ι1 e1 w1 a vs h1 r nf nc n
    have w2 := w1.wd.freeze (a := a) (by rw [h1]; simp) nc
    have e2 : Ext H F ι H1 (fun b => F1 b ∨ b = a) ι1 := ⟨fun b hb => .inl (e1.sub b hb), fun b hb => by
      rcases hb with hb | rfl
      · exact e1.new b hb
      · exact .inr n, e1.keep, e1.mono, e1.pre, e1.cnew⟩
    exact q H1 (fun b => F1 b ∨ b = a) ι1 e2 (w.step e2 w2) (.ref a) ⟨a, vs, rfl, ⟨.inr rfl, h1⟩, reps_mono (fun _ h => .inl h) (fun _ _ _ h => h) (List.prefix_refl _) xs vs r⟩⟩
end
end DL
namespace DL
open PySem PySem.Spec L2
open PyProof.Rows hiding St
section
variable {X : Cx} {E : EE} {a b c e o : Expr} {es rest : List Expr} {f h k : Ex D} {p q : Ex Bool} {fa : Ex (List D)} {pos : Pos}
def asB : D → List Cell → Rs Bool
  | .bl b, S => .ok b S
  | _, _ => .bad
@[simp] theorem asB_bl (b : Bool) (S : List Cell) : asB (.bl b) S = .ok b S := rfl
def mB (f : Ex D) : Ex Bool := fun env S => (f env S).andThen asB
theorem tB_imp {g : Snap} : ∀ σ H Q, tT X.K X.mg g E (mB f) σ H Q → tV X.K X.mg g E f σ H fun x H1 => ∃ c, x = .bl c ∧ Q c H1 := by
  rintro σ H Q ⟨F, ι, env, S, w, q⟩
  refine ⟨F, ι, env, S, w, rd_mono (rd_then q) ?_⟩
  rintro d H1 F1 ι1 S1 - e1 w1 ⟨_, _, q1⟩ v hv
  cases d with
  | bl b => exact ⟨b, hv, (q1 H1 F1 ι1 Ext.refl w1).2.2⟩
  | _ => exact q1.elim
theorem t_val (he : VE X E e f) (h1 : ∀ whole, isTrue e X.env whole = (do let v ← whole; standAt e.pos; holding [v] (truthy v)) := by intro _; rfl) : VT X E e (mB f) :=
  fun g => (pt_val (he g) h1).imp tB_imp
theorem t_cmp {o : CmpOp} {r : R2} {op : Op2} (ho : OpR X (compareOp o) r) (ok : Ok2 X.K X.mg r op) (ha : VE X E a f) (hb : VE X E b h) (hm : behindInMarks o b = false) :
    VT X E (.Compare a [o] [b] pos) (mB (mOp op f h)) := fun g => (pt_cmpR ho (ha g) (hb g) hm).imp fun σ H Q q => op2_imp ok σ H _ (tV_imp_of q) where
  tV_imp_of {g : Snap} {σ : St} {H : Hp} {Q : Bool → Hp → Prop} {f : Ex D} (q : tT X.K X.mg g E (mB f) σ H Q) : tV X.K X.mg g E f σ H fun x H1 => ∃ c, x = .bl c ∧ Q c H1 := tB_imp σ H Q q
def mNot (p : Ex Bool) : Ex Bool := fun env S => (p env S).andThen fun b S1 => .ok (!b) S1
theorem t_not (hp : VT X E a p) : VT X E (.UnaryOp .Not a pos) (mNot p) := fun g => (pt_not (hp g)).imp fun σ H Q ⟨F, ι, env, S, w, q⟩ =>
  ⟨F, ι, env, S, w, rd_mono (rd_then q) fun b H1 F1 ι1 S1 _ e1 w1 ⟨_, _, q1⟩ => (q1 H1 F1 ι1 Ext.refl w1).2.2⟩
def VW (X : Cx) (E : EE) (e : Expr) (p : Ex Bool) : Prop := ∀ g, PW X e (tT X.K X.mg g E p)
theorem _root_.L2.PW.imp {X : Cx} {e : Expr} {t t' : TT} (p : PW X e t) (h : ∀ σ H Q, t' σ H Q → t σ H Q) : PW X e t' := ⟨fun whole pins s σ H Q I q => p.run whole pins s σ H Q I (h σ H Q q)⟩
def mAnd (p q : Ex Bool) : Ex Bool := fun env S => (p env S).andThen fun b S1 => if b = true then q env S1 else .ok false S1
def mOr (p q : Ex Bool) : Ex Bool := fun env S => (p env S).andThen fun b S1 => if b = true then .ok true S1 else q env S1
theorem w_and1 (hp : VT X E a p) : VW X E (.BoolOp .And [a] pos) p := fun g => pw_and1 (hp g)
theorem w_or1 (hp : VT X E a p) : VW X E (.BoolOp .Or [a] pos) p := fun g => pw_or1 (hp g)
theorem w_and (hp : VT X E a p) (hq : VW X E (.BoolOp .And (b :: rest) pos) q) : VW X E (.BoolOp .And (a :: b :: rest) pos) (mAnd p q) := fun g => (pw_and (hp g) (hq g)).imp fun σ H Q ⟨F, ι, env, S, w, q⟩ =>
  ⟨F, ι, env, S, w, rd_mono (rd_then q) fun b H1 F1 ι1 S1 _ e1 w1 ⟨_, _, q1⟩ => by
    cases b with
    | true => exact ⟨F1, ι1, env, S1, w1, rd_mono q1 fun _ _ _ _ _ _ _ _ z => z.2.2⟩
    | false => exact (q1 H1 F1 ι1 Ext.refl w1).2.2⟩
theorem w_or (hp : VT X E a p) (hq : VW X E (.BoolOp .Or (b :: rest) pos) q) : VW X E (.BoolOp .Or (a :: b :: rest) pos) (mOr p q) := fun g => (pw_or (hp g) (hq g)).imp fun σ H Q ⟨F, ι, env, S, w, q⟩ =>
  ⟨F, ι, env, S, w, rd_mono (rd_then q) fun b H1 F1 ι1 S1 _ e1 w1 ⟨_, _, q1⟩ => by
    cases b with
    | false => exact ⟨F1, ι1, env, S1, w1, rd_mono q1 fun _ _ _ _ _ _ _ _ z => z.2.2⟩
    | true => exact (q1 H1 F1 ι1 Ext.refl w1).2.2⟩
theorem t_w (hp : VW X E e p) : VT X E e p := fun g => (hp g).pt
def mBD (p : Ex Bool) : Ex D := fun env S => (p env S).andThen fun b S1 => .ok (.bl b) S1
def mAndV (f h : Ex D) : Ex D := fun env S => (mB f env S).andThen fun b S1 => if b = true then h env S1 else .ok (.bl false) S1
def mOrV (f h : Ex D) : Ex D := fun env S => (mB f env S).andThen fun b S1 => if b = true then .ok (.bl true) S1 else h env S1
def mNotV (f : Ex D) : Ex D := fun env S => (mB f env S).andThen fun b S1 => .ok (.bl (!b)) S1
theorem rd_B {g : Snap} {σ : St} {H : Hp} {F : Fz} {ι : List Addr} {env : List Sl} {k : Bool → Hp → Fz → List Addr → List Cell → Prop} {r : Rs D}
    (q : rdAt X.K X.mg g E σ H F ι env k (r.andThen asB)) : rdAt X.K X.mg g E σ H F ι env (fun d H1 F1 ι1 S1 => ∃ b, d = .bl b ∧ k b H1 F1 ι1 S1) r := by
  refine rd_mono (rd_then q) ?_
  rintro d H1 F1 ι1 S1 - e1 w1 ⟨_, _, q1⟩
  cases d with
  | bl b => exact ⟨b, rfl, (q1 H1 F1 ι1 Ext.refl w1).2.2⟩
  | _ => exact q1.elim
theorem v_and (ha : VE X E a f) (hb : VE X E (.BoolOp .And (b :: rest) pos) h) : VE X E (.BoolOp .And (a :: b :: rest) pos) (mAndV f h) := fun g => (pe_and (ha g) (hb g)).imp fun σ H Q ⟨F, ι, env, S, w, q⟩ =>
  ⟨F, ι, env, S, w, rd_mono (rd_B (rd_then q)) fun d H1 F1 ι1 S1 _ e1 w1 ⟨b, hd, _, _, q1⟩ v hv => by
    subst hd
    refine ⟨b, hv, ?_⟩
    cases b with
    | true => exact ⟨F1, ι1, env, S1, w1, rd_mono q1 fun _ _ _ _ _ _ _ _ z => z.2.2⟩
    | false => exact (q1 H1 F1 ι1 Ext.refl w1).2.2 _ rfl⟩
theorem v_and1 (ha : VE X E a f) : VE X E (.BoolOp .And [a] pos) f := fun g => pe_one (ha g)
theorem v_not (ha : VE X E a f) : VE X E (.UnaryOp .Not a pos) (mNotV f) := fun g => (pe_not (ha g)).imp fun σ H Q ⟨F, ι, env, S, w, q⟩ =>
  ⟨F, ι, env, S, w, rd_mono (rd_B (rd_then q)) fun d H1 F1 ι1 S1 _ e1 w1 ⟨b, hd, _, _, q1⟩ v hv => by
    subst hd
    exact ⟨b, hv, (q1 H1 F1 ι1 Ext.refl w1).2.2 _ rfl⟩⟩
def mIf (p : Ex Bool) (f h : Ex D) : Ex D := fun env S => (p env S).andThen fun b S1 => if b = true then f env S1 else h env S1
theorem v_if (hp : VT X E c p) (ha : VE X E a f) (hb : VE X E b h) : VE X E (.IfExp c a b pos) (mIf p f h) := fun g => (pe_ifExp (hp g) (ha g) (hb g)).imp fun σ H Q ⟨F, ι, env, S, w, q⟩ =>
  ⟨F, ι, env, S, w, rd_mono (rd_then q) fun b H1 F1 ι1 S1 _ e1 w1 ⟨_, _, q1⟩ => by
    cases b with
    | true => exact ⟨F1, ι1, env, S1, w1, rd_mono q1 fun _ _ _ _ _ _ _ _ z => z.2.2⟩
    | false => exact ⟨F1, ι1, env, S1, w1, rd_mono q1 fun _ _ _ _ _ _ _ _ z => z.2.2⟩⟩
def mChain (op op' : Op2) (f h k : Ex D) : Ex D := fun env S => (f env S).andThen fun x S1 => (h env S1).andThen fun y S2 => ((ofO (op x y S2) S2).andThen asB).andThen fun b S3 =>
  if b = true then (k env S3).andThen fun z S4 => ofO (op' y z S4) S4 else .ok (.bl false) S3
theorem chain_imp {g : Snap} {r r' : R2} {op op' : Op2} (ok : Ok2 X.K X.mg r op) (ok' : Ok2 X.K X.mg r' op') :
    ∀ σ H Q, tV X.K X.mg g E (mChain op op' f h k) σ H Q → tChain r r' (tV X.K X.mg g E f) (tV X.K X.mg g E h) (tV X.K X.mg g E k) σ H Q := by
  rintro σ H Q ⟨F, ι, env, S, w, q⟩
  refine ⟨F, ι, env, S, w, rd_mono (rd_then q) ?_⟩
  rintro x H1 F1 ι1 S1 - e1 w1 ⟨_, _, q1⟩ v hv
  refine ⟨F1, ι1, env, S1, w1, rd_mono (rd_then q1) ?_⟩
  rintro y H2 F2 ι2 S2 - e2 w2 ⟨_, _, q2⟩ u hu
  cases ho : op x y S2 with
  | none => rw [ho] at q2; exact q2.elim
  | some d =>
    rw [ho] at q2
    refine ok H2 F2 ι2 S2 x y d v u _ w2.wd (w1.wd.rep e2 hv) hu ho fun v' H3 F3 ι3 e3 w3 hv' => ?_
    have w3' := w2.step e3 w3
    have q3 := rd_B (rd_then q2) H3 F3 ι3 e3 w3'
    obtain ⟨b, rfl, _, _, q3⟩ := q3
    refine ⟨b, hv', ?_⟩
    cases b with
    | false => exact (q3 H3 F3 ι3 Ext.refl w3').2.2.2.2.2.2 _ rfl
    | true =>
      have q3 : rdAt X.K X.mg g E σ H3 F3 ι3 env _ ((k env S2).andThen fun z S4 => ofO (op' y z S4) S4) := q3
      refine ⟨F3, ι3, env, S2, w3', rd_mono (rd_then q3) ?_⟩
      rintro z H4 F4 ι4 S4 - e4 w4 ⟨_, _, q4⟩ t ht
      cases ho' : op' y z S4 with
      | none => rw [ho'] at q4; exact q4.elim
      | some d' =>
        rw [ho'] at q4
        refine ok' H4 F4 ι4 S4 y z d' u t Q w4.wd (w3'.wd.rep e4 (w2.wd.rep e3 hu)) ht ho' fun v'' H5 F5 ι5 e5 w5 hv'' => ?_
        exact (q4 H5 F5 ι5 e5 (w4.step e5 w5)).2.2.2.2.2.2.2.2 v'' hv''
theorem v_chain {o1 o2 : CmpOp} {r r' : R2} {op op' : Op2} (h1 : OpR X (compareOp o1) r) (ok : Ok2 X.K X.mg r op) (h2 : OpR X (compareOp o2) r') (ok' : Ok2 X.K X.mg r' op')
    (ha : VE X E a f) (hb : VE X E b h) (hc : VE X E c k) (hm : lastMarks [o1, o2] [b, c] = false := by with_unfolding_all rfl) : VE X E (.Compare a [o1, o2] [b, c] pos) (mChain op op' f h k) :=
  fun g => (pe_chain h1 h2 (ha g) (hb g) (hc g) hm).imp (chain_imp ok ok')
theorem t_chain {o1 o2 : CmpOp} {r r' : R2} {op op' : Op2} (h1 : OpR X (compareOp o1) r) (ok : Ok2 X.K X.mg r op) (h2 : OpR X (compareOp o2) r') (ok' : Ok2 X.K X.mg r' op')
    (ha : VE X E a f) (hb : VE X E b h) (hc : VE X E c k) (hm : lastMarks [o1, o2] [b, c] = false := by with_unfolding_all rfl) : VT X E (.Compare a [o1, o2] [b, c] pos) (mB (mChain op op' f h k)) :=
  fun g => (pt_chain h1 h2 (ha g) (hb g) (hc g) hm).imp fun σ H Q q => chain_imp ok ok' σ H _ (tB_imp σ H Q q)
def mCall (op : OpN) (fa : Ex (List D)) : Ex D := fun env S => (fa env S).andThen fun xs S1 => ofO (op xs S1) S1
theorem cb_imp {g : Snap} {r : List V → Hp → VK → Prop} {op : OpN} (ok : OkN X.K X.mg r op) : ∀ σ H Q, tV X.K X.mg g E (mCall op fa) σ H Q → tCB r (tAr X.K X.mg g E fa) σ H Q := by
  rintro σ H Q ⟨F, ι, env, S, w, q⟩
  refine ⟨F, ι, env, S, w, rd_mono (rd_then q) ?_⟩
  rintro xs H1 F1 ι1 S1 - e1 w1 ⟨_, _, q1⟩ vs hvs
  cases ho : op xs S1 with
  | none => rw [ho] at q1; exact q1.elim
  | some d =>
    rw [ho] at q1
    exact ok H1 F1 ι1 S1 xs d vs Q w1.wd hvs ho fun v' H' F' ι' e' w' hv' => (q1 H' F' ι' e' (w1.step e' w')).2.2 v' hv'
theorem v_callB {x : Str} {p : Pos} {id : String} {r : List V → Hp → VK → Prop} {op : OpN} (hc : CallR X (.builtin id) r) (ok : OkN X.K X.mg r op) (hg : Gl X x) (hm : X.mg x = none) (hv : bootBuiltins x = some (.builtin id))
    (ha : VA X E (e :: es) fa) (hn : x ≠ "__name__" := by decide) (hd : (x == ("__debug__" : Str)) = false := by decide)
    (h1 : starEach (e :: es) X.env = (false, eval e X.env) :: starEach es X.env := by rfl) (h2 : (backTo pos (starEach es X.env)).any (·.1) = false := by rfl) :
    VE X E (.Call (.Name x p) (e :: es) [] pos) (mCall op fa) := fun g => (pe_callB hc hg hm hv (ha g) hn hd h1 h2).imp (cb_imp ok)
theorem v_callTy {x : Str} {p : Pos} {T : String} {r : List V → Hp → VK → Prop} {op : OpN} (hc : CallR X (.type T) r) (ok : OkN X.K X.mg r op) (hg : Gl X x) (hm : X.mg x = none) (hv : bootBuiltins x = some (.type T))
    (ha : VA X E (e :: es) fa) (hn : x ≠ "__name__" := by decide) (hd : (x == ("__debug__" : Str)) = false := by decide)
    (h1 : starEach (e :: es) X.env = (false, eval e X.env) :: starEach es X.env := by rfl) (h2 : (backTo pos (starEach es X.env)).any (·.1) = false := by rfl) :
    VE X E (.Call (.Name x p) (e :: es) [] pos) (mCall op fa) := fun g => (pe_callTy hc hg hm hv (ha g) hn hd h1 h2).imp (cb_imp ok)
abbrev Fn := List D → List Cell → Rs D
def SpM (K : PySem.W.Frag) (mg : Str → Option Value) (n : Nat) (m : Fn) : Sp := fun vs H Q E => vs.length = n ∧ ∃ F ι ds S, Wd K mg F ι H S ∧ Reps K mg F ι H ds vs ∧ match m ds S with
  | .ok d S' => ∀ v H' F' ι', Ext H F ι H' F' ι' → Wd K mg F' ι' H' S' → Rep K mg F' ι' H' d v → Q v H'
  | .ex c ns es S' => ∀ C d H' F' ι', mg c = some (.ref C) → Ext H F ι H' F' ι' → Wd K mg F' ι' H' S' → DictAt K mg F' ι' H' d ns es → E (.ref C) d H'
  | .bad => False
def mFn (n : Nat) (m : Fn) (fa : Ex (List D)) : Ex D := fun env S => (fa env S).andThen fun xs S1 => if xs.length = n then m xs S1 else .bad
theorem sp_of {g : Snap} {σ : St} {H1 : Hp} {F1 : Fz} {ι1 : List Addr} {env : List Sl} {S1 : List Cell} {xs : List D} {vs : List V} {n : Nat} {m : Fn} {k : D → Hp → Fz → List Addr → List Cell → Prop} {Q : VK}
    (w1 : RS X.K X.mg g σ H1 F1 ι1 env S1) (hvs : Reps X.K X.mg F1 ι1 H1 xs vs) (q1 : rdAt X.K X.mg g E σ H1 F1 ι1 env k (if xs.length = n then m xs S1 else .bad))
    (hk : ∀ d H' F' ι' S', k d H' F' ι' S' → ∀ v, Rep X.K X.mg F' ι' H' d v → Q v H') : SpM X.K X.mg n m vs H1 Q (E σ) := by
  by_cases hl : xs.length = n
  · rw [if_pos hl] at q1
    refine ⟨hvs.len.trans hl, F1, ι1, xs, S1, w1.wd, hvs, ?_⟩
    cases hm : m xs S1 with
    | bad => rw [hm] at q1; exact q1.elim
    | ex c ns ds S2 =>
      rw [hm] at q1
      exact fun C d H' F' ι' hc e w hd => q1 C d H' F' ι' hc (w1.step e w) e hd
    | ok d S2 =>
      rw [hm] at q1
      exact fun v H' F' ι' e w hv => hk _ _ _ _ _ (q1 H' F' ι' e (w1.step e w)) v hv
  · rw [if_neg hl] at q1
    exact q1.elim
theorem fn_imp {g : Snap} {n : Nat} {m : Fn} : ∀ σ H Q, tV X.K X.mg g E (mFn n m fa) σ H Q → tCallG (SpM X.K X.mg n m) E (tAr X.K X.mg g E fa) σ H Q := by
  rintro σ H Q ⟨F, ι, env, S, w, q⟩
  refine ⟨F, ι, env, S, w, rd_mono (rd_then q) ?_⟩
  rintro xs H1 F1 ι1 S1 - e1 w1 ⟨_, _, q1⟩ vs hvs
  exact sp_of w1 hvs q1 fun d H' F' ι' S' z v hv => z.2.2 v hv
theorem v_call {x : Str} {p : Pos} {i : Nat} {fx : Addr} {fd : FuncData} {ps : List Str} {n : Nat} {m : Fn} (G : FnG X.prog X.w X.K X.mg X.base i fx fd ps (SpM X.K X.mg n m)) (rm : Rm i X.A) (hm : X.mg x = some (.ref fx))
    (hk : PySem.W.keepIn X.K (.ref fx) = true) (hb : Binds X.K fd ps []) (px : Px X E) (ha : VA X E (e :: es) fa) (hg : Gl X x := by rfl)
    (hd : (x == ("__debug__" : Str)) = false := by decide)
    (h1 : starEach (e :: es) X.env = (false, eval e X.env) :: starEach es X.env := by rfl) (h2 : (backTo pos (starEach es X.env)).any (·.1) = false := by rfl) :
    VE X E (.Call (.Name x p) (e :: es) [] pos) (mFn n m fa) := fun g => (pe_callG G rm hg hm hk hb px (ha g) hd h1 h2).imp fn_imp
theorem v_call0 {x : Str} {p : Pos} {i : Nat} {fx : Addr} {fd : FuncData} {ps : List Str} {n : Nat} {m : Fn} (G : FnG X.prog X.w X.K X.mg X.base i fx fd ps (SpM X.K X.mg n m)) (rm : Rm i X.A) (hm : X.mg x = some (.ref fx))
    (hk : PySem.W.keepIn X.K (.ref fx) = true) (hb : Binds X.K fd ps []) (px : Px X E) (hg : Gl X x := by rfl) (hd : (x == ("__debug__" : Str)) = false := by decide) :
    VE X E (.Call (.Name x p) [] [] pos) (mFn n m mNil) := fun g => (pe_callG0 G rm hg hm hk hb px hd).imp fun σ H Q q => by
  obtain ⟨F, ι, env, S, w, q⟩ := fn_imp σ H Q q
  exact q H F ι Ext.refl w [] rfl
end
section
variable {K : PySem.W.Frag} {mg : Str → Option Value} {g : Snap} {σ : St} {H H' : Hp} {F F' : Fz} {ι ι' : List Addr} {env : List Sl} {S S' : List Cell}
theorem RS.put {d : D} {v : V} (r : RS K mg g σ H F ι env S) (i : Nat) (h : Rep K mg F ι H d v) : RS K mg g (σ.set i (some v)) H F ι (env.set i (.val d)) S where
  wd := r.wd
  ext := r.ext
  len := by simpa using r.len
  slot := fun j d' hj => by
    rw [List.getElem?_set] at hj ⊢
    have hl := r.len
    by_cases e : i = j
    · subst e
      rw [if_pos rfl] at hj ⊢
      by_cases hi : i < env.length
      · rw [if_pos hi] at hj
        cases hj
        exact ⟨v, by rw [if_pos (by omega)], h⟩
      · rw [if_neg hi] at hj; cases hj
    · rw [if_neg e] at hj ⊢
      exact r.slot j d' hj
  own := fun j ds hj => by
    rw [List.getElem?_set] at hj ⊢
    by_cases e : i = j
    · subst e
      rw [if_pos rfl] at hj
      split at hj <;> cases hj
    · rw [if_neg e] at hj ⊢
      exact r.own j ds hj
  apart := fun j k a di dj h1 h2 h3 h4 => by
    rw [List.getElem?_set] at h1 h2 h3 h4
    by_cases e : i = j
    · subst e
      rw [if_pos rfl] at h1
      split at h1 <;> cases h1
    · by_cases e2 : i = k
      · subst e2
        rw [if_pos rfl] at h2
        split at h2 <;> cases h2
      · rw [if_neg e] at h1 h3
        rw [if_neg e2] at h2 h4
        exact r.apart j k a di dj h1 h2 h3 h4
  ownd := fun j ks' ds hj => by
    rw [List.getElem?_set] at hj ⊢
    by_cases e : i = j
    · subst e
      rw [if_pos rfl] at hj
      split at hj <;> cases hj
    · rw [if_neg e] at hj ⊢
      exact r.ownd j ks' ds hj
  apartd := fun j k a ki di kj dj h1 h2 h3 h4 => by
    rw [List.getElem?_set] at h1 h2 h3 h4
    by_cases e : i = j
    · subst e
      rw [if_pos rfl] at h1
      split at h1 <;> cases h1
    · by_cases e2 : i = k
      · subst e2
        rw [if_pos rfl] at h2
        split at h2 <;> cases h2
      · rw [if_neg e] at h1 h3
        rw [if_neg e2] at h2 h4
        exact r.apartd j k a ki di kj dj h1 h2 h3 h4
theorem RS.putO {ds : List D} {vs : List V} {a : Addr} (r : RS K mg g σ H F ι env S) (i : Nat) (h1 : H a = some (.lst vs)) (h2 : Reps K mg F ι H ds vs) (h3 : ¬ F a) (h4 : a ∉ ι) (h5 : g.H0 a = none)
    (h6 : ∀ (j : Nat) dj, env[j]? = some (.own dj) → σ[j]? = some (some (.ref a)) → j = i) : RS K mg g (σ.set i (some (.ref a))) H F ι (env.set i (.own ds)) S where
  wd := r.wd
  ext := r.ext
  len := by simpa using r.len
  slot := fun j d' hj => by
    rw [List.getElem?_set] at hj ⊢
    by_cases e : i = j
    · subst e
      rw [if_pos rfl] at hj
      split at hj <;> cases hj
    · rw [if_neg e] at hj ⊢
      exact r.slot j d' hj
  own := fun j ds' hj => by
    rw [List.getElem?_set] at hj ⊢
    have hl := r.len
    by_cases e : i = j
    · subst e
      rw [if_pos rfl] at hj ⊢
      by_cases hi : i < env.length
      · rw [if_pos hi] at hj
        cases hj
        exact ⟨a, vs, by rw [if_pos (by omega)], h1, h2, h3, h4, h5⟩
      · rw [if_neg hi] at hj; cases hj
    · rw [if_neg e] at hj ⊢
      exact r.own j ds' hj
  apart := fun j k b di dj q1 q2 q3 q4 => by
    rw [List.getElem?_set] at q1 q2 q3 q4
    by_cases e : i = j
    · by_cases e2 : i = k
      · exact e.symm.trans e2
      · subst e
        rw [if_pos rfl] at q1 q3
        rw [if_neg e2] at q2 q4
        split at q3
        · cases q3
          exact (h6 k dj q2 q4).symm
        · cases q3
    · by_cases e2 : i = k
      · subst e2
        rw [if_pos rfl] at q2 q4
        rw [if_neg e] at q1 q3
        split at q4
        · cases q4
          exact h6 j di q1 q3
        · cases q4
      · rw [if_neg e] at q1 q3
        rw [if_neg e2] at q2 q4
        exact r.apart j k b di dj q1 q2 q3 q4
  ownd := fun j ks' ds hj => by
    rw [List.getElem?_set] at hj ⊢
    by_cases e : i = j
    · subst e
      rw [if_pos rfl] at hj
      split at hj <;> cases hj
    · rw [if_neg e] at hj ⊢
      exact r.ownd j ks' ds hj
  apartd := fun j k a ki di kj dj h1 h2 h3 h4 => by
    rw [List.getElem?_set] at h1 h2 h3 h4
    by_cases e : i = j
    · subst e
      rw [if_pos rfl] at h1
      split at h1 <;> cases h1
    · by_cases e2 : i = k
      · subst e2
        rw [if_pos rfl] at h2
        split at h2 <;> cases h2
      · rw [if_neg e] at h1 h3
        rw [if_neg e2] at h2 h4
        exact r.apartd j k a ki di kj dj h1 h2 h3 h4
theorem RS.forget (r : RS K mg g σ H F ι env S) (i : Nat) (x : Option V) : RS K mg g (σ.set i x) H F ι (env.set i .un) S where
  wd := r.wd
  ext := r.ext
  len := by simpa using r.len
  slot := fun j d' hj => by
    rw [List.getElem?_set] at hj ⊢
    by_cases e : i = j
    · subst e
      rw [if_pos rfl] at hj
      split at hj <;> cases hj
    · rw [if_neg e] at hj ⊢
      exact r.slot j d' hj
  own := fun j ds hj => by
    rw [List.getElem?_set] at hj ⊢
    by_cases e : i = j
    · subst e
      rw [if_pos rfl] at hj
      split at hj <;> cases hj
    · rw [if_neg e] at hj ⊢
      exact r.own j ds hj
  apart := fun j k a di dj h1 h2 h3 h4 => by
    rw [List.getElem?_set] at h1 h2 h3 h4
    by_cases e : i = j
    · subst e
      rw [if_pos rfl] at h1
      split at h1 <;> cases h1
    · by_cases e2 : i = k
      · subst e2
        rw [if_pos rfl] at h2
        split at h2 <;> cases h2
      · rw [if_neg e] at h1 h3
        rw [if_neg e2] at h2 h4
        exact r.apart j k a di dj h1 h2 h3 h4
  ownd := fun j ks' ds hj => by
    rw [List.getElem?_set] at hj ⊢
    by_cases e : i = j
    · subst e
      rw [if_pos rfl] at hj
      split at hj <;> cases hj
    · rw [if_neg e] at hj ⊢
      exact r.ownd j ks' ds hj
  apartd := fun j k a ki di kj dj h1 h2 h3 h4 => by
    rw [List.getElem?_set] at h1 h2 h3 h4
    by_cases e : i = j
    · subst e
      rw [if_pos rfl] at h1
      split at h1 <;> cases h1
    · by_cases e2 : i = k
      · subst e2
        rw [if_pos rfl] at h2
        split at h2 <;> cases h2
      · rw [if_neg e] at h1 h3
        rw [if_neg e2] at h2 h4
        exact r.apartd j k a ki di kj dj h1 h2 h3 h4
theorem RS.freeze {i : Nat} {ds : List D} (r : RS K mg g σ H F ι env S) (h : env[i]? = some (.own ds)) : ∃ F', RS K mg g σ H F' ι (env.set i (.val (.lst ds))) S ∧ Grow H F ι H F' ι := by
  obtain ⟨a, vs, h1, h2, h3, h4, h5, h6⟩ := r.own i ds h
  have hi : i < env.length := (List.getElem?_eq_some_iff.mp h).1
  have mono : ∀ d v, Rep K mg F ι H d v → Rep K mg (fun b => F b ∨ b = a) ι H d v := fun d v q => rep_mono (fun _ h => .inl h) (fun _ _ _ h => h) (List.prefix_refl _) d v q
  have monos : ∀ d v, Reps K mg F ι H d v → Reps K mg (fun b => F b ∨ b = a) ι H d v := fun d v q => reps_mono (fun _ h => .inl h) (fun _ _ _ h => h) (List.prefix_refl _) d v q
  refine ⟨fun b => F b ∨ b = a, ⟨r.wd.freeze (by rw [h2]; simp) h5, ⟨fun b hb => .inl (r.ext.sub b hb), fun b hb => ?_, r.ext.keep, r.ext.mono, r.ext.pre, r.ext.cnew⟩, by simpa using r.len, fun j d hj => ?_, fun j ds' hj => ?_, fun j k b di dj q1 q2 q3 q4 => ?_, fun j ks' ds' hj => ?_, fun j k b ki di kj dj q1 q2 q3 q4 => ?_⟩, ⟨fun _ h => .inl h, fun _ _ _ h => h, List.prefix_refl _⟩⟩
  · rcases hb with hb | rfl
    · exact r.ext.new b hb
    · exact .inr h6
  · rw [List.getElem?_set] at hj
    by_cases e : i = j
    · subst e
      rw [if_pos rfl, if_pos hi] at hj
      cases hj
      exact ⟨.ref a, h1, a, vs, rfl, ⟨.inr rfl, h2⟩, monos _ _ h3⟩
    · rw [if_neg e] at hj
      obtain ⟨v, q1, q2⟩ := r.slot j d hj
      exact ⟨v, q1, mono _ _ q2⟩
  · rw [List.getElem?_set] at hj
    by_cases e : i = j
    · subst e
      rw [if_pos rfl, if_pos hi] at hj
      cases hj
    · rw [if_neg e] at hj
      obtain ⟨b, us, q1, q2, q3, q4, q5, q6⟩ := r.own j ds' hj
      refine ⟨b, us, q1, q2, monos _ _ q3, fun z => ?_, q5, q6⟩
      rcases z with z | rfl
      · exact q4 z
      · exact e (r.apart i j b _ _ h hj h1 q1)
  · rw [List.getElem?_set] at q1 q2
    by_cases e : i = j
    · subst e
      rw [if_pos rfl, if_pos hi] at q1
      cases q1
    · by_cases e2 : i = k
      · subst e2
        rw [if_pos rfl, if_pos hi] at q2
        cases q2
      · rw [if_neg e] at q1
        rw [if_neg e2] at q2
        exact r.apart j k b di dj q1 q2 q3 q4
  · rw [List.getElem?_set] at hj
    by_cases e : i = j
    · subst e
      rw [if_pos rfl, if_pos hi] at hj
      cases hj
    · rw [if_neg e] at hj
      obtain ⟨b, q1, us, q2, q2', q3, q4, q5, q6⟩ := r.ownd j ks' ds' hj
      refine ⟨b, q1, us, q2, q2', monos _ _ q3, fun z => ?_, q5, q6⟩
      rcases z with z | rfl
      · exact q4 z
      · rw [h2] at q2; cases q2
  · rw [List.getElem?_set] at q1 q2
    by_cases e : i = j
    · subst e
      rw [if_pos rfl, if_pos hi] at q1
      cases q1
    · by_cases e2 : i = k
      · subst e2
        rw [if_pos rfl, if_pos hi] at q2
        cases q2
      · rw [if_neg e] at q1
        rw [if_neg e2] at q2
        exact r.apartd j k b ki di kj dj q1 q2 q3 q4
theorem ne_of_not {p : Addr → Prop} {a b : Addr} (h1 : p b) (h2 : ¬ p a) : b ≠ a := fun z => by
  subst z
  exact h2 h1
theorem ext_upd {a : Addr} {o : HO} {H0 : Hp} {F0 : Fz} {ι0 : List Addr} (e : Ext H0 F0 ι0 H F ι) (h : H0 a = none) (n : H a ≠ none) : Ext H0 F0 ι0 (upd H a o) F ι :=
  ⟨e.sub, e.new, fun b u hb nb => by rw [upd_ne (ne_of_none hb h)]; exact e.keep b u hb nb, fun b hb => by
    by_cases z : b = a
    · subst z; exact h
    · rw [upd_ne z] at hb; exact e.mono b hb, e.pre, e.cnew⟩
theorem stay_upd {a : Addr} {o : HO} (h : ¬ F a) : Stay F H (upd H a o) := fun b u f hb => by rw [upd_ne (ne_of_not f h)]; exact hb
theorem Wd.updO {a : Addr} {o : HO} (w : Wd K mg F ι H S) (h : ¬ F a) (hc : a ∉ ι) : Wd K mg F ι (upd H a o) S :=
  ⟨fun b hb => by rw [upd_ne (ne_of_not hb h)]; exact w.fin b hb, w.cnf, w.cnd, w.len, fun n c b h1 h2 => cell_mono (fun _ h => h) (stay_upd h) (List.prefix_refl _) (fun u hu => by
    rw [upd_ne (ne_of_not (p := (· ∈ ι)) (List.mem_of_getElem? h2) hc)]; exact hu) c (w.cells n c b h1 h2)⟩
theorem RS.mutO {i : Nat} {ds ds' : List D} {vs' : List V} {a : Addr} (r : RS K mg g σ H F ι env S) (h : env[i]? = some (.own ds)) (ha : σ[i]? = some (some (.ref a))) (q : Reps K mg F ι H ds' vs') :
    RS K mg g σ (upd H a (.lst vs')) F ι (env.set i (.own ds')) S ∧ Grow H F ι (upd H a (.lst vs')) F ι := by
  obtain ⟨a', vs, h1, h2, h3, h4, h5, h6⟩ := r.own i ds h
  obtain rfl : a' = a := by rw [ha] at h1; cases h1; rfl
  have hi : i < env.length := (List.getElem?_eq_some_iff.mp h).1
  have st : Stay F H (upd H a' (.lst vs')) := stay_upd h4
  refine ⟨⟨r.wd.updO h4 h5, ext_upd r.ext h6 (by rw [h2]; simp), by simpa using r.len, fun j d hj => ?_, fun j dj hj => ?_, fun j k b di dj q1 q2 q3 q4 => ?_, fun j kj dj hj => ?_, fun j k b ki di kj dj q1 q2 q3 q4 => ?_⟩, ⟨fun _ h => h, st, List.prefix_refl _⟩⟩
  · rw [List.getElem?_set] at hj
    by_cases e : i = j
    · subst e
      rw [if_pos rfl, if_pos hi] at hj
      cases hj
    · rw [if_neg e] at hj
      obtain ⟨v, q1, q2⟩ := r.slot j d hj
      exact ⟨v, q1, rep_mono (fun _ h => h) st (List.prefix_refl _) d v q2⟩
  · rw [List.getElem?_set] at hj
    by_cases e : i = j
    · subst e
      rw [if_pos rfl, if_pos hi] at hj
      cases hj
      exact ⟨a', vs', ha, upd_same, reps_mono (fun _ h => h) st (List.prefix_refl _) _ _ q, h4, h5, h6⟩
    · rw [if_neg e] at hj
      obtain ⟨b, us, q1, q2, q3, q4, q5, q6⟩ := r.own j dj hj
      refine ⟨b, us, q1, ?_, reps_mono (fun _ h => h) st (List.prefix_refl _) _ _ q3, q4, q5, q6⟩
      rw [upd_ne (fun z => e (r.apart i j b _ _ h hj (by rw [z]; exact ha) q1))]
      exact q2
  · have back : ∀ (j : Nat) dj, (env.set i (.own ds'))[j]? = some (.own dj) → ∃ dj', env[j]? = some (.own dj') := fun j dj hj => by
      rw [List.getElem?_set] at hj
      by_cases e : i = j
      · subst e; exact ⟨ds, h⟩
      · rw [if_neg e] at hj; exact ⟨dj, hj⟩
    obtain ⟨d1, z1⟩ := back j di q1
    obtain ⟨d2, z2⟩ := back k dj q2
    exact r.apart j k b d1 d2 z1 z2 q3 q4
  · rw [List.getElem?_set] at hj
    by_cases e : i = j
    · subst e
      rw [if_pos rfl, if_pos hi] at hj
      cases hj
    · rw [if_neg e] at hj
      obtain ⟨b, q1, us, q2, q2', q3, q4, q5, q6⟩ := r.ownd j kj dj hj
      refine ⟨b, q1, us, ?_, q2', reps_mono (fun _ h => h) st (List.prefix_refl _) _ _ q3, q4, q5, q6⟩
      rw [upd_ne (fun z => by rw [z, h2] at q2; cases q2)]
      exact q2
  · rw [List.getElem?_set] at q1 q2
    by_cases e : i = j
    · subst e
      rw [if_pos rfl, if_pos hi] at q1
      cases q1
    · by_cases e2 : i = k
      · subst e2
        rw [if_pos rfl, if_pos hi] at q2
        cases q2
      · rw [if_neg e] at q1
        rw [if_neg e2] at q2
        exact r.apartd j k b ki di kj dj q1 q2 q3 q4
theorem RS.cell {n : Nat} {a : Addr} {o : HO} {c' : Cell} (r : RS K mg g σ H F ι env S) (h : ι[n]? = some a) (live : ∃ c, S[n]? = some c ∧ c.live = true) (hl' : c'.live = true) (q : ∀ H', H' a = some o → Stay F H H' → CellOk K mg F ι H' a c') :
    RS K mg g σ (upd H a o) F ι env (S.set n c') ∧ Grow H F ι (upd H a o) F ι := by
  have hm : a ∈ ι := List.mem_of_getElem? h
  have nf : ¬ F a := by
    obtain ⟨c, h1, h2⟩ := live
    exact r.wd.cnf n c a h1 h h2
  have st : Stay F H (upd H a o) := stay_upd nf
  have wd : Wd K mg F ι (upd H a o) (S.set n c') := by
    refine ⟨fun b hb => by rw [upd_ne (ne_of_not hb nf)]; exact r.wd.fin b hb, fun i c b h1 h2 hl => ?_, r.wd.cnd, by rw [List.length_set]; exact r.wd.len, fun i c b h1 h2 => ?_⟩
    · rw [List.getElem?_set] at h1
      by_cases e : n = i
      · subst e
        rw [h] at h2
        cases h2
        exact nf
      · rw [if_neg e] at h1
        exact r.wd.cnf i c b h1 h2 hl
    rw [List.getElem?_set] at h1
    by_cases e : n = i
    · subst e
      have : b = a := by rw [h] at h2; cases h2; rfl
      subst this
      rw [if_pos rfl] at h1
      split at h1
      · cases h1
        exact q _ upd_same st
      · cases h1
    · rw [if_neg e] at h1
      have ne : b ≠ a := fun z => by
        subst z
        have l1 := (List.getElem?_eq_some_iff.mp h)
        have l2 := (List.getElem?_eq_some_iff.mp h2)
        obtain ⟨p1, e1⟩ := l1
        obtain ⟨p2, e2⟩ := l2
        exact e ((List.getElem_inj r.wd.cnd).mp (e1.trans e2.symm))
      exact cell_mono (fun _ h => h) st (List.prefix_refl _) (fun u hu => by rw [upd_ne ne]; exact hu) c (r.wd.cells i c b h1 h2)
  have ex : Ext g.H0 g.F0 g.ι0 (upd H a o) F ι := by
    refine ⟨r.ext.sub, r.ext.new, fun b u hb nb => ?_, fun b hb => ?_, r.ext.pre, r.ext.cnew⟩
    · have : b ≠ a := fun z => by
        subst z
        rcases nb with f | nb
        · exact nf (r.ext.sub b f)
        · rcases r.ext.cnew b hm with z | z
          · exact nb z
          · rw [hb] at z; cases z
      rw [upd_ne this]
      exact r.ext.keep b u hb nb
    · by_cases z : b = a
      · subst z; rw [upd_same] at hb; cases hb
      · rw [upd_ne z] at hb; exact r.ext.mono b hb
  refine ⟨⟨wd, ex, r.len, fun j d hj => ?_, fun j dj hj => ?_, r.apart, fun j kj dj hj => ?_, r.apartd⟩, ⟨fun _ h => h, st, List.prefix_refl _⟩⟩
  · obtain ⟨v, q1, q2⟩ := r.slot j d hj
    exact ⟨v, q1, rep_mono (fun _ h => h) st (List.prefix_refl _) d v q2⟩
  · obtain ⟨b, us, q1, q2, q3, q4, q5, q6⟩ := r.own j dj hj
    refine ⟨b, us, q1, ?_, reps_mono (fun _ h => h) st (List.prefix_refl _) _ _ q3, q4, q5, q6⟩
    rw [upd_ne (fun z => q5 (by rw [z]; exact hm))]
    exact q2
  · obtain ⟨b, q1, us, q2, q2', q3, q4, q5, q6⟩ := r.ownd j kj dj hj
    refine ⟨b, q1, us, ?_, q2', reps_mono (fun _ h => h) st (List.prefix_refl _) _ _ q3, q4, q5, q6⟩
    rw [upd_ne (fun z => q5 (by rw [z]; exact hm))]
    exact q2
end
end DL
namespace DL
open PySem PySem.Spec L2
open PyProof.Rows hiding St
section
variable {X : Cx} {E : EE} {a b c e o : Expr} {es : List Expr} {f h k : Ex D} {p q : Ex Bool} {fa : Ex (List D)} {pos : Pos} {st : Stmt} {sts : List Stmt} {m m1 m2 : Sm}
theorem _root_.L2.PG.imp {X : Cx} {e : Expr} {t t' : TG} (p : PG X e t) (h : ∀ v σ H Q, t' v σ H Q → t v σ H Q) : PG X e t' := ⟨fun pins s σ H v u Q I r q => p.run pins s σ H v u Q I r (h v σ H Q q)⟩
def mSkip : Sm := fun env S => .nx env S
def mSeq (m1 m2 : Sm) : Sm := fun env S => match m1 env S with
  | .nx e S' => m2 e S'
  | r => r
@[simp] theorem mSeq_nx {m1 m2 : Sm} {env : List Sl} {S : List Cell} {e : List Sl} {S' : List Cell} (h : m1 env S = .nx e S') : mSeq m1 m2 env S = m2 e S' := by unfold mSeq; rw [h]
theorem b_nil : VB X E [] mSkip := fun g => pss_nil.imp fun D σ H ⟨F, ι, env, S, w, q⟩ => q σ H F ι w Grow.refl
theorem b_one (h1 : VS X E st m) : VB X E [st] m := fun g => pss_one (h1 g)
theorem fl_nx {K : PySem.W.Frag} {mg : Str → Option Value} {g : Snap} {H : Hp} {F : Fz} {ι : List Addr} {D : Ends} {m2 : Sm} : ∀ {fl : Fl}, flAt K mg g E H F ι D (match (motive := Fl → Fl) fl with | .nx e S' => m2 e S' | r => r) →
    flAt K mg g E H F ι { D with nx := fun σ' H' => tS K mg g E m2 D σ' H' } fl
  | .nx e S', q => fun σ' H' F' ι' r gr => ⟨F', ι', e, S', r, fl_grow gr q⟩
  | .bk _ _, q => q
  | .ct _ _, q => q
  | .rt _ _, q => q
  | .ex _ _ _ _ _, q => q
  | .bad, q => q
theorem b_cons (h1 : VS X E st m1) (h2 : VB X E sts m2) : VB X E (st :: sts) (mSeq m1 m2) := fun g => (pss_cons (h1 g) (h2 g)).imp fun D σ H ⟨F, ι, env, S, w, q⟩ => by
  refine ⟨F, ι, env, S, w, ?_⟩
  unfold mSeq at q
  exact fl_nx q
def mIfS (p : Ex Bool) (m1 m2 : Sm) : Sm := fun env S => (p env S).go env fun b S1 => if b = true then m1 env S1 else m2 env S1
theorem s_if {A B : List Stmt} (hp : VT X E c p) (h1 : VB X E A m1) (h2 : VB X E B m2) : VS X E (.If c A B pos) (mIfS p m1 m2) := fun g => (ps_if (hp g) (h1 g) (h2 g)).imp fun D σ H ⟨F, ι, env, S, w, q⟩ =>
  ⟨F, ι, env, S, w, rd_mono (rd_go w.wd q) fun b H1 F1 ι1 S1 _ e1 w1 ⟨_, _, q1⟩ => by
    cases b with
    | true => exact ⟨F1, ι1, env, S1, w1, q1⟩
    | false => exact ⟨F1, ι1, env, S1, w1, q1⟩⟩
def mRet (f : Ex D) : Sm := fun env S => (f env S).go env fun d S1 => .rt d S1
theorem s_ret (he : VE X E e f) : VS X E (.Return (some e) pos) (mRet f) := fun g => (ps_ret (he g)).imp fun D σ H ⟨F, ι, env, S, w, q⟩ =>
  ⟨F, ι, env, S, w, rd_mono (rd_go w.wd q) fun d H1 F1 ι1 S1 _ e1 w1 ⟨_, _, q1⟩ v hv => q1 v H1 F1 ι1 w1.ext w1.wd hv⟩
def mRetN : Sm := fun _ S => .rt .non S
def mExpr (f : Ex D) : Sm := fun env S => (f env S).go env fun _ S1 => .nx env S1
def mBreak : Sm := fun env S => .bk env S
def mCont : Sm := fun env S => .ct env S
def mFz (i : Nat) (m : Sm) : Sm := fun env S => match env[i]? with
  | some (.own ds) => m (env.set i (.val (.lst ds))) S
  | some (.val _) => m env S
  | _ => .bad
theorem fz_imp {K : PySem.W.Frag} {mg : Str → Option Value} {g : Snap} {i : Nat} {D : Ends} {σ : St} {H : Hp} (h : tS K mg g E (mFz i m) D σ H) : tS K mg g E m D σ H := by
  obtain ⟨F, ι, env, S, w, q⟩ := h
  unfold mFz at q
  split at q
  · rename_i ds hd
    obtain ⟨F', w', gr⟩ := w.freeze hd
    exact ⟨F', ι, _, S, w', fl_grow gr q⟩
  · exact ⟨F, ι, env, S, w, q⟩
  · exact q.elim
theorem s_fz (i : Nat) (h : VS X E st m) : VS X E st (mFz i m) := fun g => (h g).imp fun D σ H q => fz_imp q
inductive Pat where
  | nm (i : Nat) | tp (ps : List Pat)
mutual
def bindP : Pat → D → List Sl → Option (List Sl)
  | .nm i, d, env => some (env.set i (.val d))
  | .tp ps, .tup ds, env => bindPs ps ds env
  | .tp ps, .lst ds, env => bindPs ps ds env
  | .tp _, _, _ => none
def bindPs : List Pat → List D → List Sl → Option (List Sl)
  | [], [], env => some env
  | p :: ps, d :: ds, env => match bindP p d env with
    | some env' => bindPs ps ds env'
    | none => none
  | _, _, _ => none
end
mutual
def gPat (K : PySem.W.Frag) : Pat → TG
  | .nm i => gName i
  | .tp ps => fun v σ H Q => gTup K ps.length (gPats K ps) v σ H Q ∨ gUnl K ps.length (gPats K ps) v σ H Q
def gPats (K : PySem.W.Frag) : List Pat → TGs
  | [] => gNil
  | p :: ps => gCons (gPat K p) (gPats K ps)
end
mutual
def patIn : Pat → List Nat → Bool
  | .nm i, vs => vs.contains i
  | .tp ps, vs => patsIn ps vs
def patsIn : List Pat → List Nat → Bool
  | [], _ => true
  | p :: ps, vs => patIn p vs && patsIn ps vs
end
def SameBut (vs : List Nat) (σ σ' : St) : Prop := σ.length = σ'.length ∧ ∀ i, i ∉ vs → σ'[i]? = σ[i]?
theorem SameBut.refl {vs : List Nat} {σ : St} : SameBut vs σ σ := ⟨rfl, fun _ _ => rfl⟩
theorem SameBut.trans {vs : List Nat} {σ σ1 σ2 : St} (a : SameBut vs σ σ1) (b : SameBut vs σ1 σ2) : SameBut vs σ σ2 := ⟨a.1.trans b.1, fun i h => (b.2 i h).trans (a.2 i h)⟩
section
variable {K : PySem.W.Frag} {mg : Str → Option Value} {g : Snap} {H : Hp} {F : Fz} {ι : List Addr} {S : List Cell} {vs : List Nat}
mutual
theorem pat_ok : ∀ (p : Pat) (d : D) (v : V) (σ : St) (env env' : List Sl) (Q : St → Hp → Prop), RS K mg g σ H F ι env S → Rep K mg F ι H d v → bindP p d env = some env' →
    (∀ σ', RS K mg g σ' H F ι env' S → (patIn p vs = true → SameBut vs σ σ') → Q σ' H) → gPat K p v σ H Q
  | .nm i, d, v, σ, env, env', Q, w, r, hb, q => by
    have e : env.set i (.val d) = env' := by simpa [bindP] using hb
    subst e
    refine q _ (w.put i r) fun hi => ⟨by simp, fun j hj => ?_⟩
    have hi' : i ∈ vs := by simpa [patIn] using hi
    rw [List.getElem?_set_ne (fun z => hj (by rw [← z]; exact hi'))]
  | .tp ps, .tup ds, v, σ, env, env', Q, w, r, hb, q => by
    obtain ⟨a, us, rfl, hs, hr⟩ := r
    have hb' : bindPs ps ds env = some env' := by simpa [bindP] using hb
    exact .inl ⟨a, us, rfl, hs.sq, hr.len.trans (bind_len ps ds env env' hb').symm, pats_ok ps ds us σ env env' Q w hr hb' fun σ' w' h => q σ' w' fun z => h (by simpa [patIn] using z)⟩
  | .tp ps, .lst ds, v, σ, env, env', Q, w, r, hb, q => by
    obtain ⟨a, us, rfl, hs, hr⟩ := r
    have hb' : bindPs ps ds env = some env' := by simpa [bindP] using hb
    exact .inr ⟨a, us, rfl, hs.sq, hr.len.trans (bind_len ps ds env env' hb').symm, pats_ok ps ds us σ env env' Q w hr hb' fun σ' w' h => q σ' w' fun z => h (by simpa [patIn] using z)⟩
  | .tp ps, .non, v, σ, env, env', Q, w, r, hb, q => by simp [bindP] at hb
  | .tp ps, .bl _, v, σ, env, env', Q, w, r, hb, q => by simp [bindP] at hb
  | .tp ps, .int _, v, σ, env, env', Q, w, r, hb, q => by simp [bindP] at hb
  | .tp ps, .str _, v, σ, env, env', Q, w, r, hb, q => by simp [bindP] at hb
  | .tp ps, .ro _, v, σ, env, env', Q, w, r, hb, q => by simp [bindP] at hb
  | .tp ps, .dct _ _, v, σ, env, env', Q, w, r, hb, q => by simp [bindP] at hb
  | .tp ps, .obj _ _ _, v, σ, env, env', Q, w, r, hb, q => by simp [bindP] at hb
  | .tp ps, .cell _, v, σ, env, env', Q, w, r, hb, q => by simp [bindP] at hb
  | .tp ps, .ty _, v, σ, env, env', Q, w, r, hb, q => by simp [bindP] at hb
  | .tp ps, .cls _, v, σ, env, env', Q, w, r, hb, q => by simp [bindP] at hb
  | .tp ps, .exc _ _ _, v, σ, env, env', Q, w, r, hb, q => by simp [bindP] at hb
theorem pats_ok : ∀ (ps : List Pat) (ds : List D) (us : List V) (σ : St) (env env' : List Sl) (Q : St → Hp → Prop), RS K mg g σ H F ι env S → Reps K mg F ι H ds us → bindPs ps ds env = some env' →
    (∀ σ', RS K mg g σ' H F ι env' S → (patsIn ps vs = true → SameBut vs σ σ') → Q σ' H) → gPats K ps us σ H Q
  | [], [], us, σ, env, env', Q, w, r, hb, q => by
    have e : env = env' := by simpa [bindPs] using hb
    subst e
    exact ⟨r, q σ w fun _ => SameBut.refl⟩
  | p :: ps, d :: ds, us, σ, env, env', Q, w, r, hb, q => by
    obtain ⟨v, us', rfl, r1, r2⟩ := r
    cases h1 : bindP p d env with
    | none => simp [bindPs, h1] at hb
    | some env1 =>
      have hb' : bindPs ps ds env1 = some env' := by simpa [bindPs, h1] using hb
      refine ⟨v, us', rfl, pat_ok p d v σ env env1 _ w r1 h1 fun σ1 w1 s1 => ?_⟩
      exact pats_ok ps ds us' σ1 env1 env' Q w1 r2 hb' fun σ' w' s' => q σ' w' fun z => by
        have z' : patIn p vs = true ∧ patsIn ps vs = true := by simpa [patsIn] using z
        exact (s1 z'.1).trans (s' z'.2)
  | [], d :: ds, us, σ, env, env', Q, w, r, hb, q => by simp [bindPs] at hb
  | p :: ps, [], us, σ, env, env', Q, w, r, hb, q => by simp [bindPs] at hb
theorem bind_len : ∀ (ps : List Pat) (ds : List D) (env env' : List Sl), bindPs ps ds env = some env' → ps.length = ds.length
  | [], [], _, _, _ => rfl
  | p :: ps, d :: ds, env, env', hb => by
    cases h1 : bindP p d env with
    | none => simp [bindPs, h1] at hb
    | some env1 => rw [List.length_cons, List.length_cons, bind_len ps ds env1 env' (by simpa [bindPs, h1] using hb)]
  | [], d :: ds, _, _, hb => by simp [bindPs] at hb
  | p :: ps, [], _, _, hb => by simp [bindPs] at hb
end
end
theorem pg_or {t t' : TG} (h1 : PG X e t) (h2 : PG X e t') : PG X e (fun v σ H Q => t v σ H Q ∨ t' v σ H Q) :=
  ⟨fun pins s σ H v u Q I r q => q.elim (h1.run pins s σ H v u Q I r) (h2.run pins s σ H v u Q I r)⟩
def mSet (i : Nat) (f : Ex D) : Sm := fun env S => (f env S).go env fun d S1 => .nx (env.set i (.val d)) S1
theorem set_imp {g : Snap} {i : Nat} : ∀ D σ H, tS X.K X.mg g E (mSet i f) D σ H → tAsg (tV X.K X.mg g E f) (gName i) D σ H := fun D σ H ⟨F, ι, env, S, w, q⟩ =>
  ⟨F, ι, env, S, w, rd_mono (rd_go w.wd q) fun d H1 F1 ι1 S1 _ e1 w1 ⟨_, _, q1⟩ v hv => q1 _ H1 F1 ι1 (w1.put i hv) Grow.refl⟩
theorem s_set (i : Nat) {x : Str} {px : Pos} (he : VE X E e f) (hN : X.N.Nodup) (hi : X.N[i]? = some x := by rfl) (hx : Loc X.env.scope x := by first | exact Or.inl rfl | exact Or.inr rfl)
    (hs : swapsWith e (some (.Name x px)) pos.line X.env = pure false := by rfl) (hf : X.fn x = true ∨ X.env.scope.names.lookup x = some .local := by first | exact .inl rfl | exact .inr rfl) :
    VS X E (.Assign [.Name x px] e pos) (mSet i f) := fun g => (ps_set hN hi hx (he g) hs hf).imp set_imp
def mSetO (i : Nat) (f : Ex (List D)) : Sm := fun env S => (f env S).go env fun ds S1 => .nx (env.set i (.own ds)) S1
theorem setO_imp {g : Snap} {i : Nat} : ∀ D σ H, tS X.K X.mg g E (mSetO i fa) D σ H → tAsg (tO X.K X.mg g E fa) (gName i) D σ H := fun D σ H ⟨F, ι, env, S, w, q⟩ =>
  ⟨F, ι, env, S, w, rd_mono (rd_go w.wd q) fun d H1 F1 ι1 S1 _ e1 w1 ⟨_, _, q1⟩ a vs h1 h2 h3 h4 h5 => q1 _ H1 F1 ι1 (w1.putO i h1 h2 h3 h4 (w.ext.mono a h5) fun j dj hj hσ => by
    obtain ⟨a', us, z1, z2, _⟩ := w.own j dj hj
    rw [hσ] at z1
    cases z1
    rw [h5] at z2
    cases z2) Grow.refl⟩
theorem s_setO (i : Nat) {x : Str} {px : Pos} (he : VO X E e fa) (hN : X.N.Nodup) (hi : X.N[i]? = some x := by rfl) (hx : Loc X.env.scope x := by first | exact Or.inl rfl | exact Or.inr rfl)
    (hs : swapsWith e (some (.Name x px)) pos.line X.env = pure false := by rfl) (hf : X.fn x = true ∨ X.env.scope.names.lookup x = some .local := by first | exact .inl rfl | exact .inr rfl) :
    VS X E (.Assign [.Name x px] e pos) (mSetO i fa) := fun g => (ps_set hN hi hx (he g) hs hf).imp setO_imp
def mUnp (p : Pat) (f : Ex D) : Sm := fun env S => (f env S).go env fun d S1 => match bindP p d env with
  | some env' => .nx env' S1
  | none => .bad
theorem s_unp {tg : Expr} {pt : Pat} (he : VE X E e f) (hg : PG X tg (gPat X.K pt)) (hs : swapsWithSole [tg] e pos.line X.env = pure false := by rfl) (hw : swappedStores [tg] e X.env = pure none := by rfl) (h1 : (assignEach [tg] X.env).map (·.2) = [assign tg X.env] := by rfl) :
    VS X E (.Assign [tg] e pos) (mUnp pt f) := fun g => (ps_asg (he g) hg hs hw h1).imp fun D σ H ⟨F, ι, env, S, w, q⟩ =>
  ⟨F, ι, env, S, w, rd_mono (rd_go w.wd q) fun d H1 F1 ι1 S1 _ e1 w1 ⟨_, _, q1⟩ v hv => by
    cases hb : bindP pt d env with
    | none => rw [hb] at q1; exact q1.elim
    | some env' =>
      rw [hb] at q1
      exact pat_ok (vs := []) pt d v σ env env' _ w1 hv hb fun σ' w' _ => q1 σ' H1 F1 ι1 w' Grow.refl⟩
def mPar (i j : Nat) (f h : Ex D) : Sm := fun env S => (f env S).go env fun d S1 => (h env S1).go env fun d' S2 => .nx ((env.set i (.val d)).set j (.val d')) S2
def forL (p : Pat) (m : Sm) : List D → Sm
  | [], env, S => .nx env S
  | d :: ds, env, S => match bindP p d env with
    | none => .bad
    | some env1 => match m env1 S with
      | .nx e S' => forL p m ds e S'
      | .ct e S' => forL p m ds e S'
      | .bk e S' => .nx e S'
      | r => r
def mFor (it : Ex (List D)) (p : Pat) (m : Sm) : Sm := fun env S => (it env S).go env fun ds S1 => forL p m ds env S1
def WalkD (K : PySem.W.Frag) (mg : Str → Option Value) (F : Fz) (ι : List Addr) (H : Hp) (J : It) (ds : List D) : Prop :=
  ∀ F2 ι2 H2 S2, Wd K mg F2 ι2 H2 S2 → Grow H F ι H2 F2 ι2 → ∀ i, (ds.length = i → J.stop i H2) ∧ ∀ d, ds[i]? = some d → J.go i H2 ∧ ∀ x H3, J.yld i H2 x H3 →
    ∃ F3, Ext H2 F2 ι2 H3 F3 ι2 ∧ Wd K mg F3 ι2 H3 S2 ∧ Rep K mg F3 ι2 H3 d x
def tI (K : PySem.W.Frag) (mg : Str → Option Value) (g : Snap) (E : EE) (it : Ex (List D)) : TI := fun σ H R => ∃ F ι env S, RS K mg g σ H F ι env S ∧
  rdAt K mg g E σ H F ι env (fun ds H' F' ι' _ => ∀ J, WalkD K mg F' ι' H' J ds → R J H') (it env S)
def VI (X : Cx) (E : EE) (tg iter : Expr) (it : Ex (List D)) : Prop := ∀ g, PI X tg iter (tI X.K X.mg g E it)
theorem _root_.L2.PI.imp {X : Cx} {tg iter : Expr} {t t' : TI} (p : PI X tg iter t) (h : ∀ σ H R, t' σ H R → t σ H R) : PI X tg iter t' := ⟨fun pins s σ H R I q => p.run pins s σ H R I (h σ H R q)⟩
theorem s_for {tg iter : Expr} {body : List Stmt} {it : Ex (List D)} {pt : Pat} (hp : PassesOwn (model X.prog X.w) X.A X.env X.xe) (hc : X.calm = true) (hi : VI X E tg iter it) (hg : PG X tg (gPat X.K pt)) (hb : VB X E body m)
    (hs : ∀ x, foldedSetIterable iter X.env x = pure x := by intro _; rfl) : VS X E (.For tg iter body [] pos) (mFor it pt m) := fun g => (ps_for hp hc (hi g) hg (hb g) hs).imp fun D σ H ⟨F, ι, env, S, w, q⟩ =>
  ⟨F, ι, env, S, w, rd_mono (rd_go w.wd q) fun ds H1 F1 ι1 S1 _ e1 w1 ⟨_, _, q1⟩ J hJ => by
    refine ⟨fun i m' σ' H' => m' = ds.length - i ∧ i ≤ ds.length ∧ ∃ F' ι' env' S', RS X.K X.mg g σ' H' F' ι' env' S' ∧ Grow H1 F1 ι1 H' F' ι' ∧ flAt X.K X.mg g E H' F' ι' D (forL pt m (ds.drop i) env' S'),
      ⟨ds.length, rfl, Nat.zero_le _, F1, ι1, env, S1, w1, Grow.refl, q1⟩, ?_⟩
    rintro i m' σ2 H2 ⟨rfl, hi, F2, ι2, env2, S2, w2, gr, q2⟩
    obtain ⟨st, go⟩ := hJ F2 ι2 H2 S2 w2.wd gr i
    by_cases hl : i < ds.length
    · obtain ⟨hgo, hy⟩ := go _ (List.getElem?_eq_getElem hl)
      rw [List.drop_eq_getElem_cons hl] at q2
      refine .inr ⟨hgo, fun σ' H' => ∃ F' ι' env' S', RS X.K X.mg g σ' H' F' ι' env' S' ∧ Grow H1 F1 ι1 H' F' ι' ∧ flAt X.K X.mg g E H' F' ι' D (forL pt m (ds.drop (i + 1)) env' S'),
        fun σ' H' n => ⟨ds.length - (i + 1), by omega, rfl, hl, n⟩, fun x H3 y => ?_⟩
      obtain ⟨F3, e3, w3, r3⟩ := hy x H3 y
      have rs3 := w2.step e3 w3
      unfold forL at q2
      cases hb' : bindP pt ds[i] env2 with
      | none => rw [hb'] at q2; exact q2.elim
      | some env3 =>
        rw [hb'] at q2
        refine pat_ok (vs := []) pt ds[i] x σ2 env2 env3 _ rs3 r3 hb' fun σ4 w4 _ => ?_
        have q2 := fl_grow (w2.wd.grow e3) q2
        dsimp only at q2
        have gr3 := gr.trans (w2.wd.grow e3)
        refine ⟨F3, ι2, env3, S2, w4, ?_⟩
        cases hm : m env3 S2 with
        | nx e' S' => rw [hm] at q2; exact fun σ5 H5 F5 ι5 w5 g5 => ⟨F5, ι5, e', S', w5, gr3.trans g5, fl_grow g5 q2⟩
        | ct e' S' => rw [hm] at q2; exact fun σ5 H5 F5 ι5 w5 g5 => ⟨F5, ι5, e', S', w5, gr3.trans g5, fl_grow g5 q2⟩
        | bk e' S' => rw [hm] at q2; exact q2
        | rt d S' => rw [hm] at q2; exact q2
        | ex c' ns' ds' e' S' => rw [hm] at q2; exact q2
        | bad => rw [hm] at q2; exact q2
    · have : i = ds.length := by omega
      subst this
      rw [List.drop_length] at q2
      exact .inl ⟨st rfl, q2 σ2 H2 F2 ι2 w2 Grow.refl⟩⟩
def whileN (p : Ex Bool) (m : Sm) : Nat → Sm
  | 0, _, _ => .bad
  | n + 1, env, S => (p env S).go env fun b S1 => if b = true then match m env S1 with
      | .nx e S' => whileN p m n e S'
      | .ct e S' => whileN p m n e S'
      | .bk e S' => .nx e S'
      | r => r
    else .nx env S1
theorem s_while (n : Nat) {body : List Stmt} (hp : PassesOwn (model X.prog X.w) X.A X.env X.xe) (hc : VT X E c p) (hb : VB X E body m) : VS X E (.While c body [] pos) (whileN p m n) := fun g => (ps_while hp (hc g) (hb g)).imp fun D σ H ⟨F, ι, env, S, w, q⟩ => by
  refine ⟨fun k σ' H' => ∃ F' ι' env' S', RS X.K X.mg g σ' H' F' ι' env' S' ∧ flAt X.K X.mg g E H' F' ι' D (whileN p m k env' S'), ⟨n, F, ι, env, S, w, q⟩, ?_⟩
  rintro k σ2 H2 ⟨F2, ι2, env2, S2, w2, q2⟩
  cases k with
  | zero => exact q2.elim
  | succ k =>
    unfold whileN at q2
    refine ⟨F2, ι2, env2, S2, w2, rd_mono (rd_go w2.wd q2) ?_⟩
    rintro b H3 F3 ι3 S3 - e3 w3 ⟨_, _, q3⟩
    cases b with
    | false => exact q3 σ2 H3 F3 ι3 w3 Grow.refl
    | true =>
      refine ⟨fun σ' H' => ∃ F' ι' env' S', RS X.K X.mg g σ' H' F' ι' env' S' ∧ flAt X.K X.mg g E H' F' ι' D (whileN p m k env' S'), fun σ' H' z => ⟨k, Nat.lt_succ_self k, z⟩, F3, ι3, env2, S3, w3, ?_⟩
      rw [if_pos rfl] at q3
      cases hm : m env2 S3 with
      | nx e' S' => rw [hm] at q3; exact fun σ5 H5 F5 ι5 w5 g5 => ⟨F5, ι5, e', S', w5, fl_grow g5 q3⟩
      | ct e' S' => rw [hm] at q3; exact fun σ5 H5 F5 ι5 w5 g5 => ⟨F5, ι5, e', S', w5, fl_grow g5 q3⟩
      | bk e' S' => rw [hm] at q3; exact q3
      | rt d S' => rw [hm] at q3; exact q3
      | ex c' ns' ds' e' S' => rw [hm] at q3; exact q3
      | bad => rw [hm] at q3; exact q3
end
def startE (n : Nat) (ds : List D) : List Sl := ds.map .val ++ List.replicate (n - ds.length) .un
def mDef (n : Nat) (m : Sm) : Fn := fun ds S => match m (startE n ds) S with
  | .nx _ S' => .ok .non S'
  | .rt d S' => .ok d S'
  | .ex c ns es _ S' => .ex c ns es S'
  | _ => .bad
theorem start_rs {K : PySem.W.Frag} {mg : Str → Option Value} {F : Fz} {ι : List Addr} {H : Hp} {N : List Str} {ds : List D} {vs : List V} {S : List Cell} (w : Wd K mg F ι H S) (r : Reps K mg F ι H ds vs) :
    RS K mg ⟨H, F, ι⟩ (start N vs) H F ι (startE N.length ds) S := by
  have hl := r.len
  have noown : ∀ (i : Nat) xs, (startE N.length ds)[i]? ≠ some (.own xs) := fun i xs h => by
    unfold startE at h
    have hm := List.mem_of_getElem? h
    rcases List.mem_append.mp hm with z | z
    · obtain ⟨d, _, e⟩ := List.mem_map.mp z
      cases e
    · cases (List.mem_replicate.mp z).2
  have noownd : ∀ (i : Nat) ks xs, (startE N.length ds)[i]? ≠ some (.ownd ks xs) := fun i ks xs h => by
    unfold startE at h
    have hm := List.mem_of_getElem? h
    rcases List.mem_append.mp hm with z | z
    · obtain ⟨d, _, e⟩ := List.mem_map.mp z
      cases e
    · cases (List.mem_replicate.mp z).2
  refine ⟨w, Ext.refl, ?_, fun i d h => ?_, fun i xs h => absurd h (noown i xs), fun i j a di dj h _ _ _ => absurd h (noown i di), fun i ks xs h => absurd h (noownd i ks xs), fun i j a ki di kj dj h _ _ _ => absurd h (noownd i ki di)⟩
  · unfold L2.start startE
    simp [hl]
  · unfold startE at h
    unfold L2.start
    by_cases hi : i < ds.length
    · rw [List.getElem?_append_left (by simpa using hi), List.getElem?_map] at h
      rw [List.getElem?_append_left (by simpa [hl] using hi), List.getElem?_map]
      rw [List.getElem?_eq_getElem hi] at h
      have h' : ds[i] = d := by simpa using h
      obtain ⟨v, h1, h2⟩ := r.get (List.getElem?_eq_getElem hi)
      exact ⟨v, by rw [h1]; rfl, by rw [← h']; exact h2⟩
    · rw [List.getElem?_append_right (by simpa using hi)] at h
      have := List.mem_of_getElem? h
      cases (List.mem_replicate.mp this).2
section
variable {P : Program} {w : World} {K : PySem.W.Frag} {mg : Str → Option Value} {base : Heap}
theorem fnM {x qual : Str} {st : Stmt} {f : Addr} {fd : FuncData} {N ps : List Str} {k n : Nat} {m : Sm} (F : Fun K x qual st f fd) (S : FnScope N ps (defScope st)) (hn : ps.length = n)
    (hb : ∀ (cd : Value) (A : Around) (outer : List Env) (s : Shared) (H : Hp) (E : XK), Rm k (A.deeper (envOfC qual (defScope st) s.heap.objs.size f cd)) →
      VB (cxOf (L2N.CX P w) P w K mg base N qual (defScope st) f cd A outer s H E) (fun _ => E) (defBody st) m) :
    FnG P w K mg base (k + 1) f fd ps (SpM K mg n (mDef N.length m)) := by
  refine fnG F S (fun vs H Q E h => h.1.trans hn.symm) fun cd A outer s H vs Q E rm h => ?_
  obtain ⟨hl, F, ι, ds, S', wd, r, q⟩ := h
  refine ⟨_, hb cd A outer s H E rm ⟨H, F, ι⟩, F, ι, startE N.length ds, S', start_rs wd r, ?_⟩
  unfold mDef at q
  cases hm : m (startE N.length ds) S' with
  | nx e S1 => rw [hm] at q; exact fun σ' H' F' ι' w' _ => q .non H' F' ι' w'.ext w'.wd rfl
  | rt d S1 => rw [hm] at q; exact fun v H' F' ι' e w' hv => q v H' F' ι' e w' hv
  | ex c ns es e1 S1 => rw [hm] at q; exact fun σ' C d H' F' ι' hc w' _ hd => q C d H' F' ι' hc w'.ext w'.wd hd
  | bk e S1 => rw [hm] at q; exact q.elim
  | ct e S1 => rw [hm] at q; exact q.elim
  | bad => rw [hm] at q; exact q.elim
theorem px_def {N : List Str} {qual : Str} {sc : Scope} {f : Addr} {cd : Value} {A : Around} {outer : List Env} {s : Shared} {H : Hp} {E : XK} :
    Px (cxOf (L2N.CX P w) P w K mg base N qual sc f cd A outer s H E) (fun _ => E) := px_of (L2N.takes_of rfl rfl rfl rfl)
theorem po_def {N : List Str} {qual : Str} {sc : Scope} {f : Addr} {cd : Value} {A : Around} {outer : List Env} {s : Shared} {H : Hp} {E : XK} :
    PassesOwn (model P w) (cxOf (L2N.CX P w) P w K mg base N qual sc f cd A outer s H E).A (cxOf (L2N.CX P w) P w K mg base N qual sc f cd A outer s H E).env (cxOf (L2N.CX P w) P w K mg base N qual sc f cd A outer s H E).xe := passes_of rfl
end
end DL
namespace DL
open PySem PySem.Spec L2
open PyProof.Rows hiding St
def wipeE (env : List Sl) : List Nat → List Sl
  | [] => env
  | v :: vs => (wipeE env vs).set v .un
def noX {α : Type} : Rs α → Rs α
  | .ok a S => .ok a S
  | _ => .bad
@[simp] theorem noX_ok {α : Type} (a : α) (S : List Cell) : noX (.ok a S) = .ok a S := rfl
def compL (vs : List Nat) (p : Pat) (cond : Ex Bool) (elt : Ex D) : List D → Ex (List D)
  | [], _, S => .ok [] S
  | d :: ds, env, S => match bindP p d (wipeE env vs) with
    | none => .bad
    | some env1 => (noX (cond env1 S)).andThen fun b S1 => if b = true then (noX (elt env1 S1)).andThen fun x S2 => (compL vs p cond elt ds env S2).andThen fun xs S3 => .ok (x :: xs) S3
      else compL vs p cond elt ds env S1
def mComp (it : Ex (List D)) (vs : List Nat) (p : Pat) (cond : Ex Bool) (elt : Ex D) : Ex (List D) := fun env S => (it env S).andThen fun ds S1 => if ds.length ≤ 100000 then noX (compL vs p cond elt ds env S1) else .bad
def mYes : Ex Bool := fun _ S => .ok true S
section
variable {K : PySem.W.Frag} {mg : Str → Option Value} {g : Snap} {σ : St} {H H' : Hp} {F F' : Fz} {ι ι' : List Addr} {env : List Sl} {S S' : List Cell}
theorem RS.wiped (r : RS K mg g σ H F ι env S) : ∀ vs : List Nat, RS K mg g (wipe σ vs) H F ι (wipeE env vs) S
  | [] => r
  | v :: vs => (RS.wiped r vs).forget v none
theorem wipe_in {σ : St} {i : Nat} : ∀ {vs : List Nat}, i ∈ vs → (wipe σ vs)[i]? = (σ[i]?).map fun _ => none
  | v :: vs, h => by
    unfold wipe
    rw [List.getElem?_set]
    by_cases e : v = i
    · subst e
      rw [if_pos rfl, wipe_length]
      by_cases hl : v < σ.length
      · rw [if_pos hl, List.getElem?_eq_getElem hl]; rfl
      · rw [if_neg hl, List.getElem?_eq_none (by omega)]; rfl
    · rw [if_neg e]
      exact wipe_in ((List.mem_cons.mp h).resolve_left fun z => e z.symm)
theorem wipe_same {vs : List Nat} {σ σ' : St} (h : SameBut vs (wipe σ vs) σ') : wipe σ' vs = wipe σ vs := by
  refine List.ext_getElem? fun i => ?_
  by_cases hi : i ∈ vs
  · have hl : σ.length = σ'.length := by have := h.1; rw [wipe_length] at this; exact this
    rw [wipe_in hi, wipe_in hi]
    by_cases z : i < σ.length
    · rw [List.getElem?_eq_getElem z, List.getElem?_eq_getElem (by omega)]; rfl
    · rw [List.getElem?_eq_none (by omega), List.getElem?_eq_none (by omega)]
  · rw [wipe_out hi, h.2 i hi]
theorem lc_imp {E : EE} {it : Ex (List D)} {vs : List Nat} {p : Pat} {cond : Ex Bool} {elt : Ex D} (hp : patIn p vs = true) : ∀ σ H Q, tO K mg g E (mComp it vs p cond elt) σ H Q →
    tLc (tI K mg g E it) (gPat K p) (tT K mg g EX0 cond) (tV K mg g EX0 elt) vs σ H Q := by
  rintro σ H Q ⟨F, ι, env, S, w, q⟩
  refine ⟨F, ι, env, S, w, rd_mono (rd_then q) ?_⟩
  rintro ds H1 F1 ι1 S1 - e1 w1 ⟨_, _, q1⟩ J hJ L hL
  by_cases hlen : ds.length ≤ 100000
  case neg => rw [if_neg hlen] at q1; exact q1.elim
  rw [if_pos hlen] at q1
  cases hc : compL vs p cond elt ds env S1 with
  | bad => rw [hc] at q1; exact q1.elim
  | ex c ns es S2 => rw [hc] at q1; exact q1.elim
  | ok all Sf =>
    rw [hc] at q1
    refine ⟨fun i m H2 => m = ds.length - i ∧ i ≤ ds.length ∧ ∃ F2 ι2 S2 acc avs xs, Ext H1 F1 ι1 H2 F2 ι2 ∧ Wd K mg F2 ι2 H2 S2 ∧ H2 L = some (.lst avs) ∧ Reps K mg F2 ι2 H2 acc avs ∧ ¬ F2 L ∧ L ∉ ι2 ∧ acc.length ≤ i ∧
      compL vs p cond elt (ds.drop i) env S2 = .ok xs Sf ∧ acc ++ xs = all, ?_, ?_⟩
    · obtain ⟨e', w'⟩ := w1.wd.layO (o := .lst []) hL
      exact ⟨ds.length, rfl, Nat.zero_le _, F1, ι1, S1, [], [], all, e', w', upd_same, rfl, fun z => w1.wd.fin L z hL, fun z => w1.wd.cell_ne z hL, Nat.le_refl _, hc, rfl⟩
    rintro i m H2 ⟨rfl, hi, F2, ι2, S2, acc, avs, xs, e2, wd2, hL2, ra, nF, nι, hal, hcs, hx⟩
    have w2 := w1.step e2 wd2
    obtain ⟨st, go⟩ := hJ F2 ι2 H2 S2 wd2 (w1.wd.grow e2) i
    by_cases hlt : i < ds.length
    · obtain ⟨hgo, hy⟩ := go _ (List.getElem?_eq_getElem hlt)
      rw [List.drop_eq_getElem_cons hlt] at hcs
      unfold compL at hcs
      cases hb : bindP p ds[i] (wipeE env vs) with
      | none => rw [hb] at hcs; cases hcs
      | some env1 =>
        rw [hb] at hcs
        dsimp only at hcs
        refine .inr ⟨hgo, fun H' => ∃ F' ι' S' acc' avs' xs', Ext H1 F1 ι1 H' F' ι' ∧ Wd K mg F' ι' H' S' ∧ H' L = some (.lst avs') ∧ Reps K mg F' ι' H' acc' avs' ∧ ¬ F' L ∧ L ∉ ι' ∧ acc'.length ≤ i + 1 ∧
          compL vs p cond elt (ds.drop (i + 1)) env S' = .ok xs' Sf ∧ acc' ++ xs' = all, fun H' n => ⟨ds.length - (i + 1), by omega, rfl, hlt, n⟩, fun x H3 y => ?_⟩
        obtain ⟨F3, e3, wd3, r3⟩ := hy x H3 y
        have w3 := (w2.step e3 wd3).wiped vs
        refine pat_ok (vs := vs) p ds[i] x _ _ env1 _ w3 r3 hb fun σ4 w4 sm => ⟨wipe_same (sm hp), ?_⟩
        have keepL : ∀ {H' F' ι'}, Ext H3 F3 ι2 H' F' ι' → H' L = some (.lst avs) ∧ ¬ F' L ∧ L ∉ ι' := fun {H' F' ι'} e => by
          have h3 : H3 L = some (.lst avs) := e3.keep L _ hL2 (.inr nι)
          have nF3 : ¬ F3 L := fun z => (e3.new L z).elim nF fun z => by rw [hL2] at z; cases z
          refine ⟨e.keep L _ h3 (.inr nι), fun z => (e.new L z).elim nF3 fun z => ?_, fun z => (e.cnew L z).elim nι fun z => ?_⟩ <;> (rw [h3] at z; cases z)
        cases hcd : cond env1 S2 with
        | bad => rw [hcd] at hcs; cases hcs
        | ex c ns es S5 => rw [hcd] at hcs; cases hcs
        | ok b S4 =>
          rw [hcd] at hcs
          refine ⟨F3, ι2, env1, S2, w4, ?_⟩
          rw [hcd]
          intro H4 F4 ι4 e4 w5
          cases b with
          | false =>
            rw [if_neg Bool.false_ne_true]
            obtain ⟨h4, nF4, nι4⟩ := keepL e4
            exact ⟨F4, ι4, S4, acc, avs, xs, (e2.trans e3).trans e4, w5.wd, h4, w4.wd.reps e4 (w2.wd.reps e3 ra), nF4, nι4, by omega, by simpa using hcs, hx⟩
          | true =>
            rw [if_pos rfl]
            rw [noX_ok, andThen_ok, if_pos rfl] at hcs
            cases hel : elt env1 S4 with
            | bad => rw [hel] at hcs; cases hcs
            | ex c ns es S6 => rw [hel] at hcs; cases hcs
            | ok x' S5 =>
              rw [hel, noX_ok, andThen_ok] at hcs
              refine ⟨F4, ι4, env1, S4, w5, ?_⟩
              rw [hel]
              intro H5 F5 ι5 e5 w6 v hv
              obtain ⟨h5, nF5, nι5⟩ := keepL (e4.trans e5)
              cases hr : compL vs p cond elt (ds.drop (i + 1)) env S5 with
              | bad => rw [hr] at hcs; cases hcs
              | ex c ns es S6 => rw [hr] at hcs; cases hcs
              | ok xs' S6 =>
                rw [hr, andThen_ok] at hcs
                cases hcs
                have ra5 := w5.wd.reps e5 (w4.wd.reps e4 (w2.wd.reps e3 ra))
                refine ⟨avs, h5, ?_, F5, ι5, S5, acc ++ [x'], avs ++ [v], xs', ?_, w6.wd.updO nF5 nι5, upd_same, reps_mono (fun _ h => h) (stay_upd nF5) (List.prefix_refl _) _ _ (ra5.app (.one hv)), nF5, nι5, ?_, hr, ?_⟩
                · rw [ra.len]
                  exact Nat.lt_of_le_of_lt hal (Nat.lt_of_lt_of_le hlt (Nat.le_trans hlen (by decide)))
                · exact ext_upd (((e2.trans e3).trans e4).trans e5) hL (by rw [h5]; simp)
                · rw [List.length_append]; simpa using hal
                · rw [List.append_assoc]; exact hx
    · have : i = ds.length := by omega
      subst this
      rw [List.drop_length] at hcs
      cases hcs
      rw [List.append_nil] at hx
      subst hx
      exact .inl ⟨st rfl, (q1 H2 F2 ι2 e2 w2).2.2 L avs hL2 ra nF nι (e1.mono L hL)⟩
end
section
variable {X : Cx} {E : EE} {elt tg iter : Expr} {ifs : List Expr} {scope : Scope} {own : List (Str × Nat)} {pos spos : Pos} {it : Ex (List D)} {p : Pat} {cond : Ex Bool} {f : Ex D}
def VTs (X : Cx) (E : EE) (es : List Expr) (p : Ex Bool) : Prop := ∀ g, PTs X es (tT X.K X.mg g E p)
theorem ts_nil : VTs X E [] mYes := fun g => ⟨fun pins s σ H Q I ⟨F, ι, env, S, w, q⟩ => pts_nil.run pins s σ H Q I (q H F ι Ext.refl w)⟩
theorem ts_one {c : Expr} {q : Ex Bool} (h : VT X E c q) : VTs X E [c] q := fun g => pts_one (h g)
theorem o_lc (hc : X.calm = true) (hN : X.N.Nodup) (hp : patIn p (own.map (·.2)) = true) (hi : VI X E tg iter it) (ok : BlkOk X.N X.env.scope scope own)
    (hg : ∀ (s : Shared) (H : Hp) (C : Addr) (cl : List (Str × Addr)) (fp : List Addr), PG (X.blk s H scope (compEnvC scope cl C X.env) fp) tg (gPat X.K p))
    (ht : ∀ (s : Shared) (H : Hp) (C : Addr) (cl : List (Str × Addr)) (fp : List Addr), VTs (X.blk s H scope (compEnvC scope cl C X.env) fp) EX0 ifs cond)
    (he : ∀ (s : Shared) (H : Hp) (C : Addr) (cl : List (Str × Addr)) (fp : List Addr), VE (X.blk s H scope (compEnvC scope cl C X.env) fp) EX0 elt f)
    (hs : ∀ x, foldedSetIterable iter X.env x = pure x := by intro _; rfl) : VO X E (.ListComp elt [⟨tg, iter, ifs, 0⟩] scope pos) (mComp it (own.map (·.2)) p cond f) := fun g =>
  (pe_lc hc hN (hi g) ok hg (fun s H C cl fp => ht s H C cl fp g) (fun s H C cl fp => he s H C cl fp g) hs).imp (lc_imp hp)
theorem s_setLcO (i : Nat) {y : Str} {py : Pos} (hc : X.calm = true) (hN : X.N.Nodup) (hp : patIn p (own.map (·.2)) = true) (hi : VI X E tg iter it) (ok : BlkOk X.N X.env.scope scope own)
    (hg : ∀ (s : Shared) (H : Hp) (C : Addr) (cl : List (Str × Addr)) (fp : List Addr), PG (X.blk s H scope (compEnvC scope cl C X.env) fp) tg (gPat X.K p))
    (ht : ∀ (s : Shared) (H : Hp) (C : Addr) (cl : List (Str × Addr)) (fp : List Addr), VTs (X.blk s H scope (compEnvC scope cl C X.env) fp) EX0 ifs cond)
    (he : ∀ (s : Shared) (H : Hp) (C : Addr) (cl : List (Str × Addr)) (fp : List Addr), VE (X.blk s H scope (compEnvC scope cl C X.env) fp) EX0 elt f)
    (hy : X.N[i]? = some y := by rfl) (hyl : X.env.scope.names.lookup y = some .local := by rfl)
    (hsw : swapsWith (.ListComp elt [⟨tg, iter, ifs, 0⟩] scope pos) (some (.Name y py)) spos.line X.env = pure true := by exact sw_true rfl rfl rfl (by decide +kernel))
    (hs : ∀ x, foldedSetIterable iter X.env x = pure x := by intro _; rfl) : VS X E (.Assign [.Name y py] (.ListComp elt [⟨tg, iter, ifs, 0⟩] scope pos) spos) (mSetO i (mComp it (own.map (·.2)) p cond f)) := fun g =>
  (ps_setLc hc hN hy hyl hsw (hi g) ok hg (fun s H C cl fp => ht s H C cl fp g) (fun s H C cl fp => he s H C cl fp g) hs).imp fun D σ H q => lc_imp hp σ H _ (setO_imp D σ H q)
theorem s_setLc (i : Nat) {y : Str} {py : Pos} (hc : X.calm = true) (hN : X.N.Nodup) (hp : patIn p (own.map (·.2)) = true) (hi : VI X E tg iter it) (ok : BlkOk X.N X.env.scope scope own)
    (hg : ∀ (s : Shared) (H : Hp) (C : Addr) (cl : List (Str × Addr)) (fp : List Addr), PG (X.blk s H scope (compEnvC scope cl C X.env) fp) tg (gPat X.K p))
    (ht : ∀ (s : Shared) (H : Hp) (C : Addr) (cl : List (Str × Addr)) (fp : List Addr), VTs (X.blk s H scope (compEnvC scope cl C X.env) fp) EX0 ifs cond)
    (he : ∀ (s : Shared) (H : Hp) (C : Addr) (cl : List (Str × Addr)) (fp : List Addr), VE (X.blk s H scope (compEnvC scope cl C X.env) fp) EX0 elt f)
    (hy : X.N[i]? = some y := by rfl) (hyl : X.env.scope.names.lookup y = some .local := by rfl)
    (hsw : swapsWith (.ListComp elt [⟨tg, iter, ifs, 0⟩] scope pos) (some (.Name y py)) spos.line X.env = pure true := by exact sw_true rfl rfl rfl (by decide +kernel))
    (hs : ∀ x, foldedSetIterable iter X.env x = pure x := by intro _; rfl) : VS X E (.Assign [.Name y py] (.ListComp elt [⟨tg, iter, ifs, 0⟩] scope pos) spos) (mSet i (mFr (mComp it (own.map (·.2)) p cond f))) := fun g =>
  (s_setLcO i hc hN hp hi ok hg ht he hy hyl hsw hs g).imp fun D σ H ⟨F, ι, env, S, w, q⟩ => by
    refine ⟨F, ι, env, S, w, ?_⟩
    unfold mSet mFr at q
    unfold mSetO
    cases hm : mComp it (own.map (·.2)) p cond f env S with
    | bad => rw [hm] at q; exact q
    | ex c ns es S1 => rw [hm] at q; exact q
    | ok xs S1 =>
      rw [hm] at q
      intro σ' H' F' ι' w' gr
      by_cases hi' : i < env.length
      · obtain ⟨F2, w2, g2⟩ := w'.freeze (i := i) (ds := xs) (by simp [hi'])
        rw [List.set_set] at w2
        exact q σ' H' F2 ι' w2 (gr.trans g2)
      · have e1 : ∀ x : Sl, env.set i x = env := fun x => List.set_eq_of_length_le (by omega)
        rw [e1] at w'
        exact q σ' H' F' ι' (by rw [e1]; exact w') gr
variable {e a b : Expr} {h k : Ex D} {fa : Ex (List D)}
def itemsOf : D → List Cell → Rs (List D)
  | .lst xs, S => .ok xs S
  | .tup xs, S => .ok xs S
  | .ro xs, S => .ok xs S
  | _, _ => .bad
def mItems (f : Ex D) : Ex (List D) := fun env S => (f env S).andThen itemsOf
theorem walk_of_list {K : PySem.W.Frag} {mg : Str → Option Value} {F : Fz} {ι : List Addr} {H : Hp} {ds : List D} {a : Addr} {vs : List V} (h : ∀ {F2 : Fz} {H2 : Hp}, (∀ a, F a → F2 a) → Stay F H H2 → SqL K H2 a vs) (r : Reps K mg F ι H ds vs) : WalkD K mg F ι H (Itl K a) ds :=
  fun F2 ι2 H2 S2 wd gr i => by
    have h2 := h gr.sub gr.stay
    have r2 := reps_mono gr.sub gr.stay gr.pre ds vs r
    refine ⟨fun hi => ⟨vs, h2, Nat.le_of_eq (r.len.trans hi)⟩, fun d hd => ?_⟩
    obtain ⟨v, hv, rv⟩ := r2.get hd
    refine ⟨⟨vs, v, h2, hv⟩, fun x H3 y => ?_⟩
    obtain ⟨rfl, y⟩ := y
    have := y vs h2
    rw [hv] at this
    cases this
    exact ⟨F2, Ext.refl, wd, rv⟩
theorem walk_of_tup {K : PySem.W.Frag} {mg : Str → Option Value} {F : Fz} {ι : List Addr} {H : Hp} {ds : List D} {a : Addr} {vs : List V} (h : TupAt K F H a vs) (r : Reps K mg F ι H ds vs) : WalkD K mg F ι H (Itt K a) ds :=
  fun F2 ι2 H2 S2 wd gr i => by
    have h2 := (h.mono gr.sub gr.stay).sq
    have r2 := reps_mono gr.sub gr.stay gr.pre ds vs r
    refine ⟨fun hi => ⟨vs, h2, Nat.le_of_eq (r.len.trans hi)⟩, fun d hd => ?_⟩
    obtain ⟨v, hv, rv⟩ := r2.get hd
    refine ⟨⟨vs, v, h2, hv⟩, fun x H3 y => ?_⟩
    obtain ⟨rfl, y⟩ := y
    have := y vs h2
    rw [hv] at this
    cases this
    exact ⟨F2, Ext.refl, wd, rv⟩
theorem walk_of_range {K : PySem.W.Frag} {mg : Str → Option Value} {F : Fz} {ι : List Addr} {H : Hp} (lo : Int) (n : Nat) : WalkD K mg F ι H (Itr lo n) ((List.range n).map fun i => .int (lo + (i : Nat))) :=
  fun F2 ι2 H2 S2 wd gr i => by
    refine ⟨fun hi => Nat.le_of_eq (by simpa using hi : n = i), fun d hd => ?_⟩
    rw [List.getElem?_map] at hd
    by_cases hi : i < n
    · rw [List.getElem?_range hi] at hd
      cases hd
      exact ⟨hi, fun x H3 ⟨e1, e2⟩ => by subst e1; subst e2; exact ⟨F2, Ext.refl, wd, rfl⟩⟩
    · rw [List.getElem?_eq_none (by simpa using hi)] at hd; cases hd
theorem _root_.L2.PI.or {tg iter : Expr} {t t' : TI} (h1 : PI X tg iter t) (h2 : PI X tg iter t') : PI X tg iter (fun σ H R => t σ H R ∨ t' σ H R) :=
  ⟨fun pins s σ H R I q => q.elim (h1.run pins s σ H R I) (h2.run pins s σ H R I)⟩
theorem i_seq {l : Expr} {f : Ex D} (he : VE X E l f) : VI X E tg l (mItems f) := fun g => ((pi_list (he g)).or (pi_tup (he g))).imp fun σ H R ⟨F, ι, env, S, w, q⟩ => by
  unfold mItems at q
  cases hf : f env S with
  | bad => rw [hf] at q; exact q.elim
  | ex c ns es S1 => exact .inl ⟨F, ι, env, S, w, by rw [hf] at q ⊢; exact q⟩
  | ok d S1 =>
    rw [hf] at q
    cases d with
    | lst xs =>
      refine .inl ⟨F, ι, env, S, w, ?_⟩
      rw [hf]
      intro H1 F1 ι1 e1 w1 v hv
      obtain ⟨a, vs, rfl, hl, hr⟩ := hv
      exact ⟨a, rfl, ⟨vs, hl.sq⟩, q H1 F1 ι1 e1 w1 _ (walk_of_list (fun h1 h2 => (hl.mono h1 h2).sq) hr)⟩
    | ro xs =>
      refine .inl ⟨F, ι, env, S, w, ?_⟩
      rw [hf]
      intro H1 F1 ι1 e1 w1 v hv
      obtain ⟨a, vs, rfl, hl, hr⟩ := hv
      exact ⟨a, rfl, ⟨vs, hl.sq⟩, q H1 F1 ι1 e1 w1 _ (walk_of_list (fun h1 h2 => (hl.mono h1 h2).sq) hr)⟩
    | tup xs =>
      refine .inr ⟨F, ι, env, S, w, ?_⟩
      rw [hf]
      intro H1 F1 ι1 e1 w1 v hv
      obtain ⟨a, vs, rfl, hl, hr⟩ := hv
      exact ⟨a, rfl, ⟨vs, hl.sq⟩, q H1 F1 ι1 e1 w1 _ (walk_of_tup hl hr)⟩
    | _ => exact q.elim
def smallI (i : Int) : Bool := decide (-1000000000 ≤ i ∧ i ≤ 1000000000)
def range1D : List D → List Cell → Rs (List D)
  | [.int j], S => if smallI j then .ok ((List.range j.toNat).map fun i => .int (i : Nat)) S else .bad
  | _, _ => .bad
def range2D : List D → List Cell → Rs (List D)
  | [.int i, .int j], S => if smallI i && smallI j then .ok ((List.range (j - i).toNat).map fun k => .int (i + (k : Nat))) S else .bad
  | _, _ => .bad
def rangeBD : List D → List Cell → Rs (List D)
  | [.int i, .int j, .int c], S => if smallI i && smallI j && c == -1 then .ok ((List.range (i - j).toNat).map fun k => .int (i - (k : Nat))) S else .bad
  | _, _ => .bad
def mRange1 (fa : Ex (List D)) : Ex (List D) := fun env S => (fa env S).andThen range1D
def mRange2 (fa : Ex (List D)) : Ex (List D) := fun env S => (fa env S).andThen range2D
def mRangeB (fa : Ex (List D)) : Ex (List D) := fun env S => (fa env S).andThen rangeBD
theorem small_of {i : Int} (h : smallI i = true) : -(2 ^ 62) ≤ i ∧ i < 2 ^ 62 := by
  have := of_decide_eq_true h
  omega
theorem i_range1 {p : Pos} (hm : X.mg "range" = none) (ha : VA X E [a] fa) (hg : Gl X "range" := by rfl) (hs : starEach [a] X.env = [(false, eval a X.env)] := by rfl) : VI X E tg (.Call (.Name "range" p) [a] [] pos) (mRange1 fa) := fun g =>
  (pi_range1 hg hm (ha g) hs).imp fun σ H R ⟨F, ι, env, S, w, q⟩ => ⟨F, ι, env, S, w, rd_mono (rd_then q) fun xs H1 F1 ι1 S1 hx e1 w1 ⟨_, _, q1⟩ vs hvs => by
    unfold range1D at q1
    split at q1
    · obtain ⟨v, r, rfl, rfl, rfl⟩ := hvs
      split at q1
      · rename_i j S1 hj
        obtain ⟨h1, h2⟩ := small_of hj
        refine ⟨j, rfl, h1, h2, (q1 H1 F1 ι1 Ext.refl w1).2.2 _ ?_⟩
        have := walk_of_range (K := X.K) (mg := X.mg) (F := F1) (ι := ι1) (H := H1) 0 j.toNat
        simpa only [Int.zero_add] using this
      · exact q1.elim
    · exact q1.elim⟩
end
end DL
namespace DL
open PySem PySem.Spec L2
open PyProof.Rows hiding St
def SqX (b : Bool) (K : PySem.W.Frag) (H : Hp) (a : Addr) (xs : List V) : Prop := if b = true then SqT K H a xs else SqL K H a xs
def AtX (b : Bool) (h : Heap) (a : Addr) (its : Array Value) : Prop := if b = true then h.IsTuple a its else h.IsList a its
def ItX (b : Bool) (h : Heap) (it a : Addr) (i : Nat) : Prop := if b = true then h.IsTupleIter it a i else h.IsListIter it a i
def itO (b : Bool) (a : Addr) : Obj := if b = true then { cls := .type "tuple_iterator", data := .fields #[.ref a, .int 0 0] } else { cls := .type "list_iterator", data := .fields #[.ref a, .int 0 0] }
section
variable {b : Bool} {h h' : Heap} {a it : Addr} {its : Array Value} {i : Nat}
theorem AtX.obj (x : AtX b h a its) : ∃ o, h.get? a = some o ∧ o.cls = .type (if b = true then "tuple" else "list") := by
  cases b
  · obtain ⟨o, e, c, _⟩ := (show h.IsList a its from x); exact ⟨o, e, c⟩
  · obtain ⟨o, e, c, _⟩ := (show h.IsTuple a its from x); exact ⟨o, e, c⟩
theorem ItX.obj (x : ItX b h it a i) : ∃ o, h.get? it = some o ∧ o.cls = .type (if b = true then "tuple_iterator" else "list_iterator") ∧ ∃ vs, o.data = .fields vs := by
  cases b
  · obtain ⟨o, e, c, d⟩ := (show h.IsListIter it a i from x); exact ⟨o, e, c, _, d⟩
  · obtain ⟨o, e, c, d⟩ := (show h.IsTupleIter it a i from x); exact ⟨o, e, c, _, d⟩
theorem ItX.at (x : ItX b h it a i) (k : ∀ o, h.get? it = some o → h'.get? it = some o) : ItX b h' it a i := by
  cases b
  · exact (show h.IsListIter it a i from x).at k
  · exact (show h.IsTupleIter it a i from x).at k
theorem AtX.keeps (x : AtX b h a its) (k : ∀ b o, h.get? b = some o → h'.get? b = some o) : AtX b h' a its := by
  cases b
  · exact (show h.IsList a its from x).at fun o e => k a o e
  · exact (show h.IsTuple a its from x).at fun o e => k a o e
theorem ItX.apart {b' : Bool} {c : Addr} (x : ItX b h it a i) (y : AtX b' h c its) : c ≠ it := fun z => by
  obtain ⟨o, e, k, _⟩ := x.obj
  obtain ⟨o', e', k'⟩ := y.obj
  rw [z, e] at e'
  cases e'
  rw [k] at k'
  cases b <;> cases b' <;> simp at k'
theorem begX (b : Bool) (a : Addr) (its : Array Value) : Begins (.ref a) (itO b a) fun h => AtX b h a its := by
  cases b
  · exact begins_list a its
  · exact begins_tuple a its
theorem itX_new {h : Heap} {it : Addr} (e : h.get? it = some (itO b a)) : ItX b h it a 0 := by
  cases b
  · exact ⟨_, e, rfl, rfl⟩
  · exact ⟨_, e, rfl, rfl⟩
theorem drawX (b : Bool) {prog : Program} {w : World} {A : Around} (hh : A.handled = none) (it a : Addr) (hne : a ≠ it) (its : Array Value) :
    Draws prog w A it [it, a] its.size (fun i v => its[i]? = some v) (fun i h => ItX b h it a i ∧ AtX b h a its) := by
  cases b
  · exact Draws.list hh it a hne its
  · exact Draws.tuple hh it a hne its
end
theorem seqX {X : Cx} {pins : List (Addr × Obj)} {σ : St} {H : Hp} {s : Shared} {b : Bool} {a : Addr} {xs : List V} (I : Inv X pins σ H s) (h : SqX b X.K H a xs) : ∃ its : List Value, Vals xs its ∧ AtX b s.heap a its.toArray := by
  cases b
  · obtain ⟨its, r, p, _⟩ := I.list (show SqL X.K H a xs from h); exact ⟨its, r, p.isList⟩
  · obtain ⟨its, r, p, _⟩ := I.tuple (show SqT X.K H a xs from h); exact ⟨its, r, p⟩
theorem seqX_inj {X : Cx} {pins : List (Addr × Obj)} {σ : St} {H : Hp} {s : Shared} {b : Bool} {a : Addr} {xs ys : List V} (I : Inv X pins σ H s) (h : SqX b X.K H a xs) (h' : SqX b X.K H a ys) : xs = ys := by
  cases b
  · exact I.list_inj h h'
  · exact I.tuple_inj h h'
theorem fp_far {X : Cx} {pins : List (Addr × Obj)} {σ : St} {H : Hp} {s : Shared} {b : Bool} {a c : Addr} {xs : List V} (I : Inv X pins σ H s) (f : FpOk X pins H c) (h : SqX b X.K H a xs) (e : c = a) : False := by
  subst e
  obtain ⟨f0, _, _, f3, _⟩ := f
  have kb : ∀ o, X.K.lookup c = some o → False := fun o ho => by
    have hb := I.ok.mod.kin c o ho
    rcases f3 with z | z
    · exact I.ok.noex c o hb z
    · exact absurd (Nat.lt_of_lt_of_le (Heap.lt_size hb) (Nat.le_trans I.ok.bsz z)) (Nat.lt_irrefl _)
  cases b
  · rcases (show SqL X.K H c xs from h) with (q | ⟨_, q⟩) | ⟨o, _, _, ho, _⟩
    · rw [f0] at q; cases q
    · rw [f0] at q; cases q
    · exact kb o ho
  · rcases (show SqT X.K H c xs from h) with (q | ⟨_, q⟩) | ⟨o, _, _, ho, _⟩
    · rw [f0] at q; cases q
    · rw [f0] at q; cases q
    · exact kb o ho
theorem mem_two {α : Type} {x a b : α} (h : x ∈ [a, b]) : x = a ∨ x = b := by simpa using h
def EnX (b : Bool) (K : PySem.W.Frag) (a : Addr) : It where
  go := fun i H => ∃ (xs : List V) (x : V), SqX b K H a xs ∧ xs[i]? = some x
  yld := fun i H v H' => ∃ T x o, v = .ref T ∧ H T = none ∧ BT [.int (i : Nat), x] o ∧ H' = upd H T o ∧ ∀ xs, SqX b K H a xs → xs[i]? = some x
  stop := fun i H => ∃ xs : List V, SqX b K H a xs ∧ xs.length = i
theorem turn_enX {b : Bool} {P : Program} {w : World} {K : PySem.W.Frag} {elts : List Expr} {kk : Nat} {tpos : Pos} (a e it : Addr) :
    Turn P w K (.Tuple elts kk tpos) (EnX b K a) [e, it] e (fun i h => (∃ old, IsEnum h e it ((i : Nat) : Int) old) ∧ ItX b h it a i ∧ e ≠ it) where
  mem := List.mem_cons_self
  obj := fun i h ⟨⟨old, he⟩, hi, _⟩ c hc => by
    rcases mem_two hc with rfl | rfl
    · exact ⟨_, he, fun v q => nomatch q⟩
    · obtain ⟨o, ho, _, vs, hd⟩ := hi.obj
      exact ⟨o, ho, fun v q => by rw [hd] at q; cases q⟩
  keep := fun i h h' ⟨⟨old, he⟩, hi, ne⟩ k => ⟨⟨old, k e List.mem_cons_self _ he⟩, hi.at fun o q => k it (List.mem_cons_of_mem _ List.mem_cons_self) o q, ne⟩
  item := by
    intro X e1 e2 e3 hc i pins s σ H E I hf st hg
    subst e1 e2 e3
    obtain ⟨⟨old, he⟩, hi, ne⟩ := st
    obtain ⟨xs, x, hq, hx⟩ := hg
    obtain ⟨its, rv, p⟩ := seqX I hq
    obtain ⟨u, hu, ru⟩ := rv.get hx
    have l1 : e < s.heap.objs.size := Heap.lt_size he
    have l2 : it < s.heap.objs.size := by obtain ⟨_, q, _⟩ := hi.obj; exact Heap.lt_size q
    have hea : e ≠ a := fun z => by
      obtain ⟨o, ho, hc⟩ := p.obj
      rw [← z, he] at ho
      cases ho
      cases b <;> simp at hc
    have hlt : i < its.toArray.size := by simpa using (List.getElem?_eq_some_iff.mp hu).1
    refine wpAny_pyNext_enum_itemC (drawX b (A := X.A.in1) (I.ok.hd hc) it a (hi.apart p) its.toArray) he ⟨hi, p⟩ hlt ne (by simp [ne, hea]) fun x' h' tk hx' ho hit' hT hsz hk => ?_
    have : x' = u := by
      have hx' : its.toArray[i]? = some x' := hx'
      rw [List.getElem?_toArray, hu] at hx'
      exact (Option.some.inj hx').symm
    subst this
    refine ⟨_, rfl, wpAny_letOwnedTupleGo_enum (s := { s with heap := h', toks := tk + 1 }) ho fun h'' he' sb => ?_⟩
    have hT2 : h''.get? s.heap.objs.size = some { cls := .type "tuple", data := .seq #[.int i tk, x'] } := (sb.2 _ (Nat.ne_of_gt l1)).trans hT
    have nw : ObjOk X.prog X.w (upd H s.heap.objs.size (.frz { cls := .type "tuple", data := .seq #[.int i tk, x'] } (.tup [.int (i : Nat), x]))) h'' s.heap.objs.size (.frz { cls := .type "tuple", data := .seq #[.int i tk, x'] } (.tup [.int (i : Nat), x])) :=
      ⟨hT2, by show 2 ≤ sizeLine; decide, [.int i tk, x'], .cons ⟨_, rfl⟩ (.cons ru .nil), _, hT2, rfl, _, rfl⟩
    have J := I.turnedNew (t' := tk + 1) (ch := [e, it]) (h' := h'') (fun c ob hb q => by
      have hb' : c ≠ e ∧ c ≠ it := by simpa using hb
      exact (sb.2 c hb'.1).trans (hk c ob hb'.1 hb'.2 q)) hf (Nat.le_refl _) nw
    refine ⟨.ref s.heap.objs.size, _, J, rfl, ⟨_, x, _, rfl, I.hok.fresh (Nat.le_refl _), ⟨_, rfl, rfl⟩, rfl, fun ys hy => by rw [seqX_inj I hy hq]; exact hx⟩, ⟨⟨x', ?_⟩, hit'.1.at fun o q => (sb.2 it (Ne.symm ne)).trans q, ne⟩, fun c hcm => ?_⟩
    · have e1 : ((i + 1 : Nat) : Int) = (i : Int) + 1 := Int.natCast_succ i
      rw [e1]
      exact he'
    · have hlt' : c < s.heap.objs.size := by
        rcases mem_two hcm with rfl | rfl
        · exact l1
        · exact l2
      rw [upd_ne (Nat.ne_of_lt hlt')]
      exact (hf c hcm).1
  done := by
    intro X e1 e2 e3 hc i pins s σ H E I hf st hg
    subst e1 e2 e3
    obtain ⟨⟨old, he⟩, hi, ne⟩ := st
    obtain ⟨xs, hq, hx⟩ := hg
    obtain ⟨its, rv, p⟩ := seqX I hq
    have hn : its.toArray.size = i := by rw [List.size_toArray, ← rv.length]; exact hx
    obtain ⟨f0, f1, f2, f3, f4, f5⟩ := hf it (List.mem_cons_of_mem _ List.mem_cons_self)
    have D := drawX (prog := X.prog) (w := X.w) b (A := X.A.in1) (I.ok.hd hc) it a (hi.apart p) its.toArray
    rw [← hn] at hi
    exact wpAny_pyNext_enum_endD D he ⟨hi, p⟩ fun h' eb => ⟨rfl, I.turned (t' := s.toks) (fun c o hb q => eb c o hb q) f0 f1 f3 f4 f5⟩
  self := fun A i s Q E ⟨⟨_, he⟩, _⟩ h => wpAny_pyIter_enum he h
theorem meets_enum1 {v : Value} {o : Obj} {H : Heap → Prop} (B : Begins v o H) :
    Meets (Builtin.«enumerate.__new__» ⟨[.type "enumerate", v], []⟩) (fun _ R s => H s.heap ∧
      R (.ok (.ret (.ref (s.heap.push o).objs.size))) { s with heap := (s.heap.push o).push { cls := .type "enumerate", data := .fields #[.none, .bool false, .ref s.heap.objs.size, rawInt 0, .none, .none] } }) :=
  .of_wp fun prog w A R s h => by
    obtain ⟨hp, gn, dr, tk, os⟩ := s
    obtain ⟨h1, h⟩ := h
    have sb := sub_enumerate
    have go : ∀ {A' : Around} {E : Value → Shared → Prop} {Q : Value → Shared → Prop}, Q (.ref hp.objs.size) ⟨hp.push o, gn, dr, tk, os⟩ → wpAny (model prog w) A' (pyIter v) Q E ⟨hp, gn, dr, tk, os⟩ :=
      fun q => B.iter prog w _ _ ⟨hp, gn, dr, tk, os⟩ _ h1 q
    wp_walk using go
    refine wpAny_stack_any fun st => wpAny_pure ?_
    split
    · rename_i c _ _ _ _ _
      cases (c == Value.type "enumerate") <;> (wp_walk using go) <;> exact ⟨_, rfl, h⟩
    · wp_walk using go
      exact ⟨_, rfl, h⟩
theorem call_enum1 {prog : Program} {w : World} {A : Around} {E : Value → Shared → Prop} {s : Shared} {v : Value} {o : Obj} {H : Heap → Prop} {Q : Value → Shared → Prop} (B : Begins v o H) (h1 : H s.heap)
    (h : ∀ h', IsEnum h' (s.heap.objs.size + 1) s.heap.objs.size 0 .none → h'.get? s.heap.objs.size = some o → (∀ b o, s.heap.get? b = some o → h'.get? b = some o) → Q (.ref (s.heap.objs.size + 1)) { s with heap := h' }) :
    wpAny (model prog w) A (call (.type "enumerate") [v]) Q E s := by
  refine callType_new F.called_enumerate (by decide) (F.typeCall_enumerate_1 _) (F.newCall_enumerate_1 _) (fun obj => F.args_object_init_2 obj _) F.entry_enumerate_new (meets_enum1 B) ⟨h1, ?_⟩
  have hz : (s.heap.push o).objs.size = s.heap.objs.size + 1 := Heap.size_push ..
  show _ ∧ _
  rw [hz]
  have he : IsEnum ((s.heap.push o).push { cls := .type "enumerate", data := .fields #[.none, .bool false, .ref s.heap.objs.size, rawInt 0, .none, .none] }) (s.heap.objs.size + 1) s.heap.objs.size 0 .none := by
    have q := Heap.get?_push_size (s.heap.push o) (o := { cls := .type "enumerate", data := .fields #[.none, .bool false, .ref s.heap.objs.size, rawInt 0, .none, .none] }) rfl
    rwa [hz] at q
  exact ⟨⟨_, he, rfl⟩, h _ he (Heap.get?_push_of_some _ (Heap.get?_push_size _ B.free)) fun b ob x => Heap.get?_push_of_some _ (Heap.get?_push_of_some _ x)⟩
section
variable {X : Cx} {E : EE} {e e2 : Expr} {elts : List Expr} {kk : Nat} {pos tpos p : Pos} {fa : Ex (List D)} {ta : TA}
theorem pi_enX (hg : Gl X "enumerate") (hm : X.mg "enumerate" = none) (ha : PA X [e] ta) (hs : starEach [e] X.env = [(false, eval e X.env)] := by rfl) :
    PI X (.Tuple elts kk tpos) (.Call (.Name "enumerate" p) [e] [] pos) (fun σ H R => ta σ H fun vs H1 => ∃ b a xs, vs = [.ref a] ∧ SqX b X.K H1 a xs ∧ R (EnX b X.K a) H1) := by
  constructor
  intro pins s σ H R I h
  refine Call_ (ld_blt I hg hm boot_enumerate (PyProof.Rows.callWith_type1 (thn (ha.run pos pins s σ H _ I h) ?_) hs rfl))
  rintro us s1 ⟨vs, H1, I1, r1, b, a, xs, rfl, hq, q⟩
  obtain ⟨u, rfl, ru⟩ := vals1 r1
  cases ru
  obtain ⟨its, rv, pl⟩ := seqX I1 hq
  refine call_enum1 (begX b a its.toArray) pl fun h' he hi hk => wpAny_pyIter_enum he ?_
  have nw : ∀ c ∈ [s1.heap.objs.size + 1, s1.heap.objs.size], s1.heap.objs.size ≤ c := fun c hc => by
    rcases mem_two hc with rfl | rfl
    · exact Nat.le_succ _
    · exact Nat.le_refl _
  exact ⟨_, [s1.heap.objs.size + 1, s1.heap.objs.size], _, EnX b X.K a, H1, rfl, I1.kept (t' := s1.toks) hk, turn_enX a (s1.heap.objs.size + 1) s1.heap.objs.size, ⟨⟨.none, he⟩, itX_new hi, Nat.succ_ne_self _⟩,
    fun c hc => I1.fpOk (nw c hc) (I1.hok.fresh (nw c hc)), q⟩
def ZpX (b1 b2 : Bool) (K : PySem.W.Frag) (a1 a2 : Addr) : It where
  go := fun i H => ∃ (xs ys : List V) (x y : V), SqX b1 K H a1 xs ∧ SqX b2 K H a2 ys ∧ xs[i]? = some x ∧ ys[i]? = some y
  yld := fun i H v H' => ∃ T x y o, v = .ref T ∧ H T = none ∧ BT [x, y] o ∧ H' = upd H T o ∧ (∀ xs, SqX b1 K H a1 xs → xs[i]? = some x) ∧ ∀ ys, SqX b2 K H a2 ys → ys[i]? = some y
  stop := fun i H => ∃ xs ys : List V, SqX b1 K H a1 xs ∧ SqX b2 K H a2 ys ∧ i ≤ xs.length ∧ i ≤ ys.length ∧ (i = xs.length ∨ i = ys.length)
structure Five (z TI TO i1 i2 : Addr) : Prop where
  nd : [z, TI, TO, i1, i2].Nodup
theorem turn_zpX {b1 b2 : Bool} {P : Program} {w : World} {K : PySem.W.Frag} {a1 a2 z TI TO i1 i2 : Addr} (D : Five z TI TO i1 i2) :
    Turn P w K (.Tuple elts kk tpos) (ZpX b1 b2 K a1 a2) [z, TI, TO, i1, i2] z (fun i h => IsZip h z TI TO .none ∧ IsTupOf2 h TI (.ref i1) (.ref i2) ∧ (∃ x y, IsTupOf2 h TO x y) ∧ ItX b1 h i1 a1 i ∧ ItX b2 h i2 a2 i) := by
  have nd : z ≠ TI ∧ z ≠ TO ∧ z ≠ i1 ∧ z ≠ i2 ∧ TI ≠ TO ∧ TI ≠ i1 ∧ TI ≠ i2 ∧ TO ≠ i1 ∧ TO ≠ i2 ∧ i1 ≠ i2 := by
    have := D.nd
    simp only [List.nodup_cons, List.mem_cons, not_or, List.not_mem_nil, not_false_eq_true, and_true] at this
    exact ⟨this.1.1, this.1.2.1, this.1.2.2.1, this.1.2.2.2, this.2.1.1, this.2.1.2.1, this.2.1.2.2, this.2.2.1.1, this.2.2.1.2, this.2.2.2.1⟩
  obtain ⟨n1, n2, n3, n4, n5, n6, n7, n8, n9, n10⟩ := nd
  -- what is walked is none of the five
  have far : ∀ {b : Bool} {h : Heap} {a : Addr} {its : Array Value} {i : Nat}, IsZip h z TI TO .none → (∃ x y, IsTupOf2 h TO x y) → ItX b1 h i1 a1 i → ItX b2 h i2 a2 i → AtX b h a its → z ≠ a ∧ i1 ≠ a ∧ i2 ≠ a := fun {b h a its i} hz _ h1 h2 y =>
    ⟨fun q => by
      obtain ⟨o, ho, hc⟩ := y.obj
      rw [← q, hz] at ho
      cases ho
      cases b <;> simp at hc, fun q => h1.apart y q.symm, fun q => h2.apart y q.symm⟩
  refine ⟨List.mem_cons_self, ?_, ?_, ?_, ?_, fun A i s Q E h q => wpAny_pyIter_zip h.1 q⟩
  · rintro i h ⟨hz, hTI, ⟨x, y, hTO⟩, h1, h2⟩ c hc
    simp only [List.mem_cons, List.not_mem_nil, or_false] at hc
    rcases hc with rfl | rfl | rfl | rfl | rfl
    · exact ⟨_, hz, fun v q => nomatch q⟩
    · exact ⟨_, hTI, fun v q => nomatch q⟩
    · exact ⟨_, hTO, fun v q => nomatch q⟩
    · obtain ⟨o, ho, _, vs, hd⟩ := h1.obj
      exact ⟨o, ho, fun v q => by rw [hd] at q; cases q⟩
    · obtain ⟨o, ho, _, vs, hd⟩ := h2.obj
      exact ⟨o, ho, fun v q => by rw [hd] at q; cases q⟩
  · rintro i h h' ⟨hz, hTI, ⟨x, y, hTO⟩, h1, h2⟩ k
    exact ⟨k z (by simp) _ hz, k TI (by simp) _ hTI, ⟨x, y, k TO (by simp) _ hTO⟩, h1.at fun o q => k i1 (by simp) o q, h2.at fun o q => k i2 (by simp) o q⟩
  · intro X e1 e2 e3 hc i pins s σ H E I hf st hg
    subst e1 e2 e3
    obtain ⟨hz, hTI, ⟨x0, y0, hTO⟩, h1, h2⟩ := st
    obtain ⟨xs, ys, x, y, qx, qy, hx, hy⟩ := hg
    obtain ⟨its1, r1, p1⟩ := seqX I qx
    obtain ⟨its2, r2, p2⟩ := seqX I qy
    obtain ⟨u1, hu1, ru1⟩ := r1.get hx
    obtain ⟨u2, hu2, ru2⟩ := r2.get hy
    have zl : z < s.heap.objs.size := Heap.lt_size hz
    obtain ⟨f1, f2, f3⟩ := far hz ⟨_, _, hTO⟩ h1 h2 p1
    obtain ⟨g1, g2, g3⟩ := far hz ⟨_, _, hTO⟩ h1 h2 p2
    have apartTO : TO ≠ a1 ∧ TO ≠ a2 := by
      have t1 : H TO = none := (hf TO (by simp)).1
      refine ⟨fun q => ?_, fun q => ?_⟩
      · exact fp_far I (hf TO (by simp)) qx q
      · exact fp_far I (hf TO (by simp)) qy q
    have sep : ZipSep2 z TI TO i1 i2 [i1, a1] [i2, a2] := ⟨n1.symm, n2.symm, n5, n6, List.mem_cons_self, by simp [n3, f1], by simp [n8, apartTO.1], n7, List.mem_cons_self, by simp [n4, g1], by simp [n9, apartTO.2], by simp [n10, g2], by simp [n10.symm, f3]⟩
    have l1 : i < its1.toArray.size := by simpa using (List.getElem?_eq_some_iff.mp hu1).1
    have l2 : i < its2.toArray.size := by simpa using (List.getElem?_eq_some_iff.mp hu2).1
    refine wpAny_pyNext_zipD2_item sep (drawX b1 (A := X.A.in1) (I.ok.hd hc) i1 a1 (h1.apart p1) its1.toArray) (drawX b2 (A := X.A.in1) (I.ok.hd hc) i2 a2 (h2.apart p2) its2.toArray) hz hTI hTO ⟨h1, p1⟩ ⟨h2, p2⟩ l1 l2
      fun v1 v2 h' tk hv1 hv2 z' TO' s1' s2' hT hsz hk => ?_
    have e1 : v1 = u1 := by
      have hv : its1.toArray[i]? = some v1 := hv1
      rw [List.getElem?_toArray, hu1] at hv
      exact (Option.some.inj hv).symm
    have e2 : v2 = u2 := by
      have hv : its2.toArray[i]? = some v2 := hv2
      rw [List.getElem?_toArray, hu2] at hv
      exact (Option.some.inj hv).symm
    subst e1 e2
    refine ⟨_, rfl, wpAny_letOwnedTupleGo_zip (s := { s with heap := h', toks := tk }) z' fun h'' z'' sb => ?_⟩
    have hT2 : h''.get? s.heap.objs.size = some { cls := .type "tuple", data := .seq #[v1, v2] } := (sb.2 _ (Nat.ne_of_gt zl)).trans hT
    have nw : ObjOk X.prog X.w (upd H s.heap.objs.size (.frz { cls := .type "tuple", data := .seq #[v1, v2] } (.tup [x, y]))) h'' s.heap.objs.size (.frz { cls := .type "tuple", data := .seq #[v1, v2] } (.tup [x, y])) :=
      ⟨hT2, by show 2 ≤ sizeLine; decide, [v1, v2], .cons ru1 (.cons ru2 .nil), _, hT2, rfl, _, rfl⟩
    have J := I.turnedNew (t' := tk) (ch := [z, TI, TO, i1, i2]) (h' := h'') (fun c ob hb q => by
      simp only [List.mem_cons, List.not_mem_nil, or_false, not_or] at hb
      exact (sb.2 c hb.1).trans (hk c ob hb.1 hb.2.2.1 hb.2.2.2.1 hb.2.2.2.2 q)) hf (Nat.le_refl _) nw
    refine ⟨.ref s.heap.objs.size, _, J, rfl, ⟨_, x, y, _, rfl, I.hok.fresh (Nat.le_refl _), ⟨_, rfl, rfl⟩, rfl, fun l hl => by rw [seqX_inj I hl qx]; exact hx, fun l hl => by rw [seqX_inj I hl qy]; exact hy⟩, ⟨z'', ?_, ⟨v1, v2, ?_⟩, ?_, ?_⟩, fun c hcm => ?_⟩
    · exact (sb.2 _ n1.symm).trans (hk _ _ n1.symm n5 n6 n7 hTI)
    · exact (sb.2 _ n2.symm).trans TO'
    · exact s1'.1.at fun o q => (sb.2 _ n3.symm).trans q
    · exact s2'.1.at fun o q => (sb.2 _ n4.symm).trans q
    · have lt' : c < s.heap.objs.size := by
        simp only [List.mem_cons, List.not_mem_nil, or_false] at hcm
        rcases hcm with rfl | rfl | rfl | rfl | rfl
        · exact zl
        · exact Heap.lt_size hTI
        · exact Heap.lt_size hTO
        · obtain ⟨_, q, _⟩ := h1.obj; exact Heap.lt_size q
        · obtain ⟨_, q, _⟩ := h2.obj; exact Heap.lt_size q
      rw [upd_ne (Nat.ne_of_lt lt')]
      exact (hf c hcm).1
  · intro X e1 e2 e3 hc i pins s σ H E I hf st hg
    subst e1 e2 e3
    obtain ⟨hz, hTI, ⟨x0, y0, hTO⟩, h1, h2⟩ := st
    obtain ⟨xs, ys, qx, qy, lx, ly, hend⟩ := hg
    obtain ⟨its1, r1, p1⟩ := seqX I qx
    obtain ⟨its2, r2, p2⟩ := seqX I qy
    obtain ⟨f1, f2, f3⟩ := far hz ⟨_, _, hTO⟩ h1 h2 p1
    obtain ⟨g1, g2, g3⟩ := far hz ⟨_, _, hTO⟩ h1 h2 p2
    have t1 : TO ≠ a1 := fun q => fp_far I (hf TO (by simp)) qx q
    have t2 : TO ≠ a2 := fun q => fp_far I (hf TO (by simp)) qy q
    have sep : ZipSep2 z TI TO i1 i2 [i1, a1] [i2, a2] := ⟨n1.symm, n2.symm, n5, n6, List.mem_cons_self, by simp [n3, f1], by simp [n8, t1], n7, List.mem_cons_self, by simp [n4, g1], by simp [n9, t2], by simp [n10, g2], by simp [n10.symm, f3]⟩
    have e1 := r1.length
    have e2 := r2.length
    refine wpAny_pyNext_zipD2_end sep (drawX b1 (A := X.A.in1) (I.ok.hd hc) i1 a1 (h1.apart p1) its1.toArray) (drawX b2 (A := X.A.in1) (I.ok.hd hc) i2 a2 (h2.apart p2) its2.toArray) hz hTI hTO ⟨h1, p1⟩ ⟨h2, p2⟩
      (by rw [List.size_toArray]; omega) (by rw [List.size_toArray]; omega) (by rw [List.size_toArray, List.size_toArray]; omega) fun h' tk hk => ⟨rfl, I.turnedL (t' := tk) (ch := [z, TI, TO, i1, i2]) (fun c o hb q => ?_) hf⟩
    simp only [List.mem_cons, List.not_mem_nil, or_false, not_or] at hb
    exact hk c o hb.1 hb.2.2.1 hb.2.2.2.1 hb.2.2.2.2 q
theorem pi_zpX (hg : Gl X "zip") (hm : X.mg "zip" = none) (ha : PA X [e, e2] ta) (hs : starEach [e, e2] X.env = (false, eval e X.env) :: starEach [e2] X.env := by rfl) (hp : (backTo pos (starEach [e2] X.env)).any (·.1) = false := by rfl) :
    PI X (.Tuple elts kk tpos) (.Call (.Name "zip" p) [e, e2] [] pos) (fun σ H R => ta σ H fun vs H1 => ∃ b1 b2 a1 a2 xs ys, vs = [.ref a1, .ref a2] ∧ SqX b1 X.K H1 a1 xs ∧ SqX b2 X.K H1 a2 ys ∧ R (ZpX b1 b2 X.K a1 a2) H1) := by
  constructor
  intro pins s σ H R I h
  refine Call_ (ld_blt I hg hm PyProof.Rows.boot_zip (PyProof.Rows.callWith_type1 (thn (ha.run pos pins s σ H _ I h) ?_) hs hp))
  rintro us s1 ⟨vs, H1, I1, r1, b1, b2, a1, a2, xs, ys, rfl, qx, qy, q⟩
  obtain ⟨u, u', rfl, ru, ru'⟩ := vals2 r1
  cases ru
  cases ru'
  obtain ⟨its1, rv1, p1⟩ := seqX I1 qx
  obtain ⟨its2, rv2, p2⟩ := seqX I1 qy
  refine zip_begins2 (begX b1 a1 its1.toArray) (begX b2 a2 its2.toArray) p1 p2 fun h' hz hTI hTO h1 h2 hsz hk => wpAny_pyIter_zip hz ?_
  have nw : ∀ c ∈ [s1.heap.objs.size + 4, s1.heap.objs.size + 2, s1.heap.objs.size + 3, s1.heap.objs.size, s1.heap.objs.size + 1], s1.heap.objs.size ≤ c := fun c hc => by
    simp only [List.mem_cons, List.not_mem_nil, or_false] at hc
    rcases hc with rfl | rfl | rfl | rfl | rfl <;> omega
  exact ⟨_, _, _, ZpX b1 b2 X.K a1 a2, H1, rfl, I1.kept (t' := s1.toks) hk, turn_zpX ⟨by simp⟩, ⟨hz, hTI, ⟨_, _, hTO⟩, itX_new h1, itX_new h2⟩, fun c hc => I1.fpOk (nw c hc) (I1.hok.fresh (nw c hc)), q⟩
def seqOf : D → Option (Bool × List D)
  | .lst xs => some (false, xs)
  | .tup xs => some (true, xs)
  | .ro xs => some (false, xs)
  | _ => none
theorem seq_at {K : PySem.W.Frag} {mg : Str → Option Value} {F : Fz} {ι : List Addr} {H : Hp} {d : D} {v : V} {b : Bool} {xs : List D} (h : Rep K mg F ι H d v) (e : seqOf d = some (b, xs)) :
    ∃ a vs, v = .ref a ∧ Reps K mg F ι H xs vs ∧ ∀ {F2 : Fz} {H2 : Hp}, (∀ a, F a → F2 a) → Stay F H H2 → SqX b K H2 a vs := by
  cases d with
  | lst ys =>
    cases e
    obtain ⟨a, vs, rfl, hl, hr⟩ := h
    exact ⟨a, vs, rfl, hr, fun h1 h2 => (hl.mono h1 h2).sq⟩
  | ro ys =>
    cases e
    obtain ⟨a, vs, rfl, hl, hr⟩ := h
    exact ⟨a, vs, rfl, hr, fun h1 h2 => (hl.mono h1 h2).sq⟩
  | tup ys =>
    cases e
    obtain ⟨a, vs, rfl, hl, hr⟩ := h
    exact ⟨a, vs, rfl, hr, fun h1 h2 => (hl.mono h1 h2).sq⟩
  | _ => cases e
def pairsI (xs : List D) : List D := xs.mapIdx fun i d => .tup [.int (i : Nat), d]
def enumD : List D → List Cell → Rs (List D)
  | [d], S => match seqOf d with
    | some (_, xs) => .ok (pairsI xs) S
    | none => .bad
  | _, _ => .bad
def mEnum (fa : Ex (List D)) : Ex (List D) := fun env S => (fa env S).andThen enumD
def pairsZ (xs ys : List D) : List D := List.zipWith (fun x y => .tup [x, y]) xs ys
def zipD : List D → List Cell → Rs (List D)
  | [d, d'], S => match seqOf d, seqOf d' with
    | some (_, xs), some (_, ys) => .ok (pairsZ xs ys) S
    | _, _ => .bad
  | _, _ => .bad
def mZip (fa : Ex (List D)) : Ex (List D) := fun env S => (fa env S).andThen zipD
theorem new_pair {K : PySem.W.Frag} {mg : Str → Option Value} {F : Fz} {ι : List Addr} {H : Hp} {S : List Cell} {T : Addr} {x y : V} {d d' : D} {o : HO} (w : Wd K mg F ι H S) (n : H T = none) (b : BT [x, y] o) (r : Rep K mg F ι H d x) (r' : Rep K mg F ι H d' y) :
    ∃ F3, Ext H F ι (upd H T o) F3 ι ∧ Wd K mg F3 ι (upd H T o) S ∧ Rep K mg F3 ι (upd H T o) (.tup [d, d']) (.ref T) := by
  obtain ⟨e, w'⟩ := w.lay (o := o) n
  exact ⟨_, e, w', T, [x, y], rfl, .inl ⟨.inr rfl, o, b, upd_same⟩, x, [y], rfl, w.rep e r, y, [], rfl, w.rep e r', rfl⟩
theorem i_enum (hm : X.mg "enumerate" = none) (ha : VA X E [e] fa) (hg : Gl X "enumerate" := by rfl) (hs : starEach [e] X.env = [(false, eval e X.env)] := by rfl) :
    VI X E (.Tuple elts kk tpos) (.Call (.Name "enumerate" p) [e] [] pos) (mEnum fa) := fun g => (pi_enX hg hm (ha g) hs).imp fun σ H R ⟨F, ι, env, S, w, q⟩ =>
  ⟨F, ι, env, S, w, rd_mono (rd_then q) fun ds H1 F1 ι1 S1 _ e1 w1 ⟨_, _, q1⟩ vs hvs => by
    unfold enumD at q1
    split at q1
    · rename_i d S1
      obtain ⟨v, r, rfl, hv, rfl⟩ := hvs
      split at q1
      · rename_i b xs hd
        obtain ⟨a, us, rfl, hr, hs⟩ := seq_at hv hd
        refine ⟨b, a, us, rfl, hs (fun _ h => h) (fun _ _ _ h => h), (q1 H1 F1 ι1 Ext.refl w1).2.2 _ ?_⟩
        intro F2 ι2 H2 S2 wd gr i
        have h2 := hs gr.sub gr.stay
        have r2 := reps_mono gr.sub gr.stay gr.pre xs us hr
        refine ⟨fun hi => ?_, fun d' hd' => ?_⟩
        · unfold pairsI at hi
          rw [List.length_mapIdx] at hi
          exact ⟨us, h2, r2.len.trans hi⟩
        · unfold pairsI at hd'
          rw [List.getElem?_mapIdx] at hd'
          cases hx : xs[i]? with
          | none => rw [hx] at hd'; cases hd'
          | some d0 =>
            rw [hx] at hd'
            have ed : d' = .tup [.int (i : Nat), d0] := by simpa using hd'.symm
            subst ed
            obtain ⟨u, hu, ru⟩ := r2.get hx
            refine ⟨⟨us, u, h2, hu⟩, fun x H3 ⟨T, x', o, ex, n, bt, eH, fx⟩ => ?_⟩
            have := fx us h2
            rw [hu] at this
            cases this
            subst ex
            subst eH
            exact new_pair wd n bt rfl ru
      · exact q1.elim
    · exact q1.elim⟩
theorem i_zip (hm : X.mg "zip" = none) (ha : VA X E [e, e2] fa) (hg : Gl X "zip" := by rfl) (hs : starEach [e, e2] X.env = (false, eval e X.env) :: starEach [e2] X.env := by rfl)
    (hp : (backTo pos (starEach [e2] X.env)).any (·.1) = false := by rfl) : VI X E (.Tuple elts kk tpos) (.Call (.Name "zip" p) [e, e2] [] pos) (mZip fa) := fun g => (pi_zpX hg hm (ha g) hs hp).imp fun σ H R ⟨F, ι, env, S, w, q⟩ =>
  ⟨F, ι, env, S, w, rd_mono (rd_then q) fun ds H1 F1 ι1 S1 _ e1 w1 ⟨_, _, q1⟩ vs hvs => by
    unfold zipD at q1
    split at q1
    · rename_i d d' S1
      obtain ⟨v, r, rfl, hv, v', r', rfl, hv', rfl⟩ := hvs
      split at q1
      · rename_i b1 xs b2 ys hd hd'
        obtain ⟨a1, us, rfl, hr, hs⟩ := seq_at hv hd
        obtain ⟨a2, us', rfl, hr', hs'⟩ := seq_at hv' hd'
        refine ⟨b1, b2, a1, a2, us, us', rfl, hs (fun _ h => h) (fun _ _ _ h => h), hs' (fun _ h => h) (fun _ _ _ h => h), (q1 H1 F1 ι1 Ext.refl w1).2.2 _ ?_⟩
        intro F2 ι2 H2 S2 wd gr i
        have h2 := hs gr.sub gr.stay
        have h2' := hs' gr.sub gr.stay
        have r2 := reps_mono gr.sub gr.stay gr.pre xs us hr
        have r2' := reps_mono gr.sub gr.stay gr.pre ys us' hr'
        have l1 := r2.len
        have l2 := r2'.len
        refine ⟨fun hi => ?_, fun d' hd' => ?_⟩
        · unfold pairsZ at hi
          rw [List.length_zipWith] at hi
          exact ⟨us, us', h2, h2', by omega, by omega, by omega⟩
        · unfold pairsZ at hd'
          rw [List.getElem?_zipWith] at hd'
          split at hd'
          · rename_i x y hx hy
            have ed : d' = .tup [x, y] := by simpa using hd'.symm
            subst ed
            obtain ⟨u, hu, ru⟩ := r2.get hx
            obtain ⟨u', hu', ru'⟩ := r2'.get hy
            refine ⟨⟨us, us', u, u', h2, h2', hu, hu'⟩, fun z H3 ⟨T, x', y', o, ex, n, bt, eH, fx, fy⟩ => ?_⟩
            have := fx us h2
            rw [hu] at this
            cases this
            have := fy us' h2'
            rw [hu'] at this
            cases this
            subst ex
            subst eH
            exact new_pair wd n bt ru ru'
          · cases hd'
      · exact q1.elim
    · exact q1.elim⟩
end
end DL
namespace DL
open PySem PySem.Spec L2
open PyProof.Rows hiding St
def okMul (i j : Int) : Bool := decide (i.natAbs.log2 + j.natAbs.log2 < 1000000)
def okDiv (j : Int) : Bool := decide (0 < j ∧ j.natAbs.log2 < 9000)
instance (i j : Int) : Decidable (CMulW i j) := inferInstanceAs (Decidable (_ < _))
instance (i j : Int) : Decidable (CDivW i j) := inferInstanceAs (Decidable (_ ∧ _))
instance (i j : Int) : Decidable (CPow i j) := inferInstanceAs (Decidable (_ ∧ _ ∧ _))
def okLen (n : Nat) : Bool := decide (n ≤ 100000)
theorem okLen_le {n : Nat} (h : okLen n = true) : n ≤ sizeLine := Nat.le_trans (of_decide_eq_true h) (by decide)
section
variable {X : Cx} {K : PySem.W.Frag} {mg : Str → Option Value}
def addD : Op2 := fun x y _ => match x, y with
  | .int i, .int j => some (.int (i + j))
  | .str a, .str b => if okLen (a.length + b.length) then some (.str (a ++ b)) else none
  | .lst a, .lst b => if okLen (a.length + b.length) then some (.lst (a ++ b)) else none
  | .tup a, .tup b => if okLen (a.length + b.length) then some (.tup (a ++ b)) else none
  | _, _ => none
def rAddAll (K : PySem.W.Frag) : R2 := fun x y H Q => ((((∃ i j, x = .int i ∧ y = .int j ∧ Q (.int (i + j)) H) ∨ ∃ i j, x = .str i ∧ y = .str j ∧ i.length + j.length ≤ sizeLine ∧ Q (.str (i ++ j)) H)) ∨ rCat x y H Q) ∨ rCatB K x y H Q
theorem op_addAll : OpR X (binaryOp .Add) (rAddAll X.K) := ((op_add.or op_add_str).or op_cat).or op_catB
theorem ok_add : Ok2 K mg (rAddAll K) addD := by
  intro H F ι S x y d v u Q w rx ry ho t
  unfold addD at ho
  split at ho
  · cases ho
    exact .inl (.inl (.inl ⟨_, _, rx, ry, t.here w rfl⟩))
  · split at ho
    · rename_i hl
      cases ho
      exact .inl (.inl (.inr ⟨_, _, rx, ry, okLen_le hl, t.here w rfl⟩))
    · cases ho
  · split at ho
    · rename_i hl
      cases ho
      obtain ⟨a, vs, rfl, h1, h2⟩ := rx
      obtain ⟨b, us, rfl, h3, h4⟩ := ry
      refine .inl (.inr ⟨a, b, vs, us, rfl, rfl, h1.2, h3.2, ?_, fun p n => t.own.lay w (h2.app h4) n⟩)
      rw [h2.len, h4.len]
      exact okLen_le hl
    · cases ho
  · split at ho
    · rename_i a b hl
      cases ho
      obtain ⟨p, vs, rfl, h1, h2⟩ := rx
      obtain ⟨q, us, rfl, h3, h4⟩ := ry
      refine .inr ⟨p, q, vs, us, rfl, rfl, h1.sq, h3.sq, by rw [h2.len, h4.len]; exact okLen_le hl, fun e => ?_, fun _ e => ?_, fun _ _ => t.layT w (h2.app h4)⟩
      · subst e
        have : a = [] := by have := h2.len; exact List.eq_nil_of_length_eq_zero this.symm
        subst this
        exact t.here w ⟨q, us, rfl, h3, h4⟩
      · subst e
        have : b = [] := by have := h4.len; exact List.eq_nil_of_length_eq_zero this.symm
        subst this
        rw [List.append_nil] at t
        exact t.here w ⟨p, vs, rfl, h1, h2⟩
    · cases ho
  · cases ho
def intD (c : Int → Int → Bool) (f : Int → Int → D) : Op2 := fun x y _ => match x, y with
  | .int i, .int j => if c i j then some (f i j) else none
  | _, _ => none
theorem ok_int {C : Int → Int → Prop} {c : Int → Int → Bool} {f : Int → Int → D} {h : Int → Int → V} (hc : ∀ i j, c i j = true → C i j) (hr : ∀ i j F ι H, Rep K mg F ι H (f i j) (h i j)) : Ok2 K mg (rI C h) (intD c f) := by
  intro H F ι S x y d v u Q w rx ry ho t
  unfold intD at ho
  split at ho
  · split at ho
    · rename_i i j hcc
      cases ho
      exact ⟨i, j, rx, ry, hc i j hcc, t.here w (hr i j F ι H)⟩
    · cases ho
  · cases ho
theorem ok_int0 {f : Int → Int → D} {h : Int → Int → V} (hr : ∀ i j F ι H, Rep K mg F ι H (f i j) (h i j)) : Ok2 K mg (rI0 h) (intD (fun _ _ => true) f) := by
  intro H F ι S x y d v u Q w rx ry ho t
  unfold intD at ho
  split at ho
  · rw [if_pos rfl] at ho
    cases ho
    exact ⟨_, _, rx, ry, t.here w (hr _ _ F ι H)⟩
  · cases ho
def subD : Op2 := intD (fun _ _ => true) fun i j => .int (i - j)
def divD : Op2 := intD (fun _ j => okDiv j) fun i j => .int (i / j)
def modD : Op2 := intD (fun _ j => decide (0 < j)) fun i j => .int (i % j)
def ltD : Op2 := intD (fun _ _ => true) fun i j => .bl (decide (i < j))
def leD : Op2 := intD (fun _ _ => true) fun i j => .bl (decide (i ≤ j))
def gtD : Op2 := intD (fun _ _ => true) fun i j => .bl (decide (j < i))
def geD : Op2 := intD (fun _ _ => true) fun i j => .bl (decide (j ≤ i))
theorem ok_sub : Ok2 K mg (rI0 fun i j => .int (i - j)) subD := ok_int0 fun _ _ _ _ _ => rfl
theorem ok_div : Ok2 K mg (rI CDivW fun i j => .int (i / j)) divD := ok_int (fun _ _ h => of_decide_eq_true h) fun _ _ _ _ _ => rfl
theorem ok_mod : Ok2 K mg (rI (fun _ j => 0 < j) fun i j => .int (i % j)) modD := ok_int (fun _ _ h => of_decide_eq_true h) fun _ _ _ _ _ => rfl
theorem ok_lt : Ok2 K mg (rI0 fun i j => .bl (decide (i < j))) ltD := ok_int0 fun _ _ _ _ _ => rfl
theorem ok_le : Ok2 K mg (rI0 fun i j => .bl (decide (i ≤ j))) leD := ok_int0 fun _ _ _ _ _ => rfl
theorem ok_gt : Ok2 K mg (rI0 fun i j => .bl (decide (j < i))) gtD := ok_int0 fun _ _ _ _ _ => rfl
theorem ok_ge : Ok2 K mg (rI0 fun i j => .bl (decide (j ≤ i))) geD := ok_int0 fun _ _ _ _ _ => rfl
def powD : Op2 := intD (fun i j => decide (0 ≤ j ∧ j ≤ 1000000 ∧ i.natAbs < 2 ^ 64)) fun i j => .int (i ^ j.toNat)
theorem ok_pow : Ok2 K mg (rI CPow fun i j => .int (i ^ j.toNat)) powD := ok_int (fun _ _ h => of_decide_eq_true h) fun _ _ _ _ _ => rfl
def mulD : Op2 := fun x y _ => match x, y with
  | .int i, .int j => if okMul i j then some (.int (i * j)) else none
  | .lst a, .int k => if decide (-(2 ^ 63) ≤ k ∧ k < 2 ^ 63) && okLen (a.length * k.toNat) then some (.lst (List.replicate k.toNat a).flatten) else none
  | _, _ => none
theorem Reps.flat {F : Fz} {ι : List Addr} {H : Hp} {ds : List D} {vs : List V} (h : Reps K mg F ι H ds vs) : ∀ n : Nat, Reps K mg F ι H (List.replicate n ds).flatten (List.replicate n vs).flatten
  | 0 => rfl
  | n + 1 => by
    rw [List.replicate_succ, List.replicate_succ, List.flatten_cons, List.flatten_cons]
    exact h.app (Reps.flat h n)
def rMulAll : R2 := fun x y H Q => (rI CMulW (fun i j => .int (i * j)) x y H Q) ∨ rRep x y H Q
theorem op_mulAll : OpR X (binaryOp .Mult) rMulAll := op_mulW.or op_rep
theorem ok_mul : Ok2 K mg rMulAll mulD := by
  intro H F ι S x y d v u Q w rx ry ho t
  unfold mulD at ho
  split at ho
  · split at ho
    · rename_i i j hc
      cases ho
      exact .inl ⟨i, j, rx, ry, of_decide_eq_true hc, t.here w rfl⟩
    · cases ho
  · split at ho
    · rename_i a k hc
      cases ho
      rw [Bool.and_eq_true] at hc
      obtain ⟨h1, h2⟩ := of_decide_eq_true hc.1
      obtain ⟨l, vs, rfl, hl, hr⟩ := rx
      exact .inr ⟨l, k, vs, rfl, ry, hl.2, h1, h2, by rw [hr.len]; exact okLen_le hc.2, fun p n => t.own.lay w (hr.flat k.toNat) n⟩
    · cases ho
  · cases ho
def negD : Op1 := fun x _ => match x with
  | .int i => some (.int (-i))
  | _ => none
theorem ok_neg : Ok1 K mg (rU fun i => .int (-i)) negD := by
  intro H F ι S x d v Q w rx ho t
  unfold negD at ho
  split at ho
  · cases ho
    exact ⟨_, rx, t.here w rfl⟩
  · cases ho
def ixD : Op2 := fun x y S => match x, y with
  | .lst xs, .int i => atI xs i
  | .tup xs, .int i => atI xs i
  | .ro xs, .int i => atI xs i
  | .cell n, .int i => match S[n]? with
    | some (.lst xs) => atI xs i
    | _ => none
  | .str s, .int i => if okLen s.length then (atI s.cps.toList i).map fun c => .str ⟨#[c]⟩ else none
  | _, _ => none
theorem Reps.atI {F : Fz} {ι : List Addr} {H : Hp} {ds : List D} {vs : List V} {i : Int} {d : D} (h : Reps K mg F ι H ds vs) (e : L2.atI ds i = some d) : ∃ v, L2.atI vs i = some v ∧ Rep K mg F ι H d v := by
  unfold L2.atI at e ⊢
  rw [h.len]
  cases hj : ixN ds.length i with
  | none => rw [hj] at e; cases e
  | some j =>
    rw [hj] at e
    exact h.get e
def rIxAll (K : PySem.W.Frag) : R2 := fun x y H Q => (rIxL K x y H Q ∨ rIxT K x y H Q) ∨ rIxS x y H Q
theorem ix_all : IxR X (rIxAll X.K) := (ix_list.or ix_tup).or ix_str
theorem ok_ix : Ok2 K mg (rIxAll K) ixD := by
  intro H F ι S x y d v u Q w rx ry ho t
  unfold ixD at ho
  split at ho
  · obtain ⟨a, vs, rfl, hl, hr⟩ := rx
    obtain ⟨z, h1, h2⟩ := hr.atI ho
    exact .inl (.inl ⟨a, vs, _, z, rfl, ry, hl.sq, h1, t.here w h2⟩)
  · obtain ⟨a, vs, rfl, hl, hr⟩ := rx
    obtain ⟨z, h1, h2⟩ := hr.atI ho
    exact .inl (.inr ⟨a, vs, _, z, rfl, ry, hl.sq, h1, t.here w h2⟩)
  · obtain ⟨a, vs, rfl, hl, hr⟩ := rx
    obtain ⟨z, h1, h2⟩ := hr.atI ho
    exact .inl (.inl ⟨a, vs, _, z, rfl, ry, hl.sq, h1, t.here w h2⟩)
  · obtain ⟨a, rfl, ha⟩ := rx
    split at ho
    · rename_i xs hs
      obtain ⟨vs, h1, hr⟩ := w.cells _ _ a hs ha
      obtain ⟨z, h3, h4⟩ := hr.atI ho
      exact .inl (.inl ⟨a, vs, _, z, rfl, ry, .inl (.inl h1), h3, t.here w h4⟩)
    · cases ho
  · split at ho
    · rename_i s i hl
      cases hc : L2.atI s.cps.toList i with
      | none => rw [hc] at ho; cases ho
      | some c =>
        rw [hc] at ho
        cases ho
        exact .inr ⟨s, i, c, rx, ry, okLen_le hl, hc, t.here w rfl⟩
    · cases ho
  · cases ho
def SlD (K : PySem.W.Frag) (mg : Str → Option Value) (r : V → Option Int → Option Int → Hp → VK → Prop) (op : D → Option Int → Option Int → Option D) : Prop :=
  ∀ H F ι S x lo hi d v Q, Wd K mg F ι H S → Rep K mg F ι H x v → op x lo hi = some d → Told K mg H F ι S d Q → r v lo hi H Q
def cutD (xs : List D) (lo hi : Option Int) : List D := (xs.drop (HT.sIx xs.length 0 lo)).take (HT.sIx xs.length xs.length hi - HT.sIx xs.length 0 lo)
def sliceD : D → Option Int → Option Int → Option D := fun x lo hi => match x with
  | .lst xs => some (.lst (cutD xs lo hi))
  | .ro xs => some (.lst (cutD xs lo hi))
  | .tup xs => some (.tup (cutD xs lo hi))
  | .str s => if okLen s.length then some (.str (cutS s lo hi)) else none
  | _ => none
theorem Reps.cut {F : Fz} {ι : List Addr} {H : Hp} {ds : List D} {vs : List V} (h : Reps K mg F ι H ds vs) (lo hi : Option Int) : Reps K mg F ι H (cutD ds lo hi) (cutV vs lo hi) := by
  unfold cutD cutV
  rw [h.len]
  exact (h.drop _).take _
theorem SlR.or {r r' : V → Option Int → Option Int → Hp → VK → Prop} (h : SlR X r) (h' : SlR X r') : SlR X (fun x lo hi H Q => r x lo hi H Q ∨ r' x lo hi H Q) := by
  intro pins s σ H x v vl vu lo hi sl Q I rx hs pl pu q
  rcases q with q | q
  · exact h pins s σ H x v vl vu lo hi sl Q I rx hs pl pu q
  · exact h' pins s σ H x v vl vu lo hi sl Q I rx hs pl pu q
def rSlAll (K : PySem.W.Frag) : V → Option Int → Option Int → Hp → VK → Prop := fun x lo hi H Q => (rSlL K x lo hi H Q ∨ rSlB K x lo hi H Q) ∨ rSlS x lo hi H Q
theorem sl_all : SlR X (rSlAll X.K) := SlR.or (SlR.or sl_list sl_tupB) sl_str
theorem cut_whole {α : Type} {xs : List α} {lo hi : Option Int} (h : HT.sIx xs.length 0 lo = 0 ∧ HT.sIx xs.length xs.length hi = xs.length) : (xs.drop (HT.sIx xs.length 0 lo)).take (HT.sIx xs.length xs.length hi - HT.sIx xs.length 0 lo) = xs := by
  rw [h.1, h.2, List.drop_zero, Nat.sub_zero, List.take_length]
theorem ok_slice : SlD K mg (rSlAll K) sliceD := by
  intro H F ι S x lo hi d v Q w rx ho t
  unfold sliceD at ho
  split at ho
  · cases ho
    obtain ⟨a, vs, rfl, hl, hr⟩ := rx
    exact .inl (.inl ⟨a, vs, rfl, hl.sq, fun p n => t.own.lay w (hr.cut lo hi) n⟩)
  · cases ho
    obtain ⟨a, vs, rfl, hl, hr⟩ := rx
    exact .inl (.inl ⟨a, vs, rfl, hl.sq, fun p n => t.own.lay w (hr.cut lo hi) n⟩)
  · cases ho
    obtain ⟨a, vs, rfl, hl, hr⟩ := rx
    refine .inl (.inr ⟨a, vs, rfl, hl.sq, fun hw => ?_, fun _ => t.layT w (hr.cut lo hi)⟩)
    rw [hr.len] at hw
    unfold cutD at t
    rw [cut_whole hw] at t
    exact t.here w ⟨a, vs, rfl, hl, hr⟩
  · split at ho
    · rename_i hl
      cases ho
      exact .inr ⟨_, rx, okLen_le hl, t.here w rfl⟩
    · cases ho
  · cases ho
abbrev ExO := Ex (Option Int)
def mNoPart : ExO := fun _ S => .ok none S
def asI : D → List Cell → Rs (Option Int)
  | .int i, S => .ok (some i) S
  | _, _ => .bad
def mPart (f : Ex D) : ExO := fun env S => (f env S).andThen asI
def tPo (K : PySem.W.Frag) (mg : Str → Option Value) (g : Snap) (E : EE) (f : ExO) : TO := fun σ H Q => ∃ F ι env S, RS K mg g σ H F ι env S ∧ rdAt K mg g E σ H F ι env (fun o H' _ _ _ => Q o H') (f env S)
def VP (X : Cx) (E : EE) (e : Option Expr) (f : ExO) : Prop := ∀ g, PO X e (tPo X.K X.mg g E f)
theorem _root_.L2.PO.imp {X : Cx} {e : Option Expr} {t t' : TO} (p : PO X e t) (h : ∀ σ H Q, t' σ H Q → t σ H Q) : PO X e t' := ⟨fun pins s σ H Q I q => p.run pins s σ H Q I (h σ H Q q)⟩
variable {E : EE} {e : Expr} {f : Ex D} {lo hi : Option Expr} {fl fh : ExO} {pos p2 : Pos}
theorem p_none : VP X E none mNoPart := fun g => po_none.imp fun σ H Q ⟨F, ι, env, S, w, q⟩ => q H F ι Ext.refl w
theorem p_some (h : VE X E e f) : VP X E (some e) (mPart f) := fun g => (po_some (h g)).imp fun σ H Q ⟨F, ι, env, S, w, q⟩ =>
  ⟨F, ι, env, S, w, rd_mono (rd_then q) fun d H1 F1 ι1 S1 _ e1 w1 ⟨_, _, q1⟩ v hv => by
    cases d with
    | int i => exact ⟨i, hv, (q1 H1 F1 ι1 Ext.refl w1).2.2⟩
    | _ => exact q1.elim⟩
def mSlice (op : D → Option Int → Option Int → Option D) (f : Ex D) (fl fh : ExO) : Ex D := fun env S => (f env S).andThen fun x S1 => (fl env S1).andThen fun l S2 => (fh env S2).andThen fun h S3 => ofO (op x l h) S3
theorem v_slice {r : V → Option Int → Option Int → Hp → VK → Prop} {op : D → Option Int → Option Int → Option D} (hr : SlR X r) (ok : SlD X.K X.mg r op) (he : VE X E e f) (hl : VP X E lo fl) (hu : VP X E hi fh) :
    VE X E (.Subscript e (.Slice lo hi none p2) pos) (mSlice op f fl fh) := fun g => (pe_slice hr (he g) (hl g) (hu g)).imp fun σ H Q ⟨F, ι, env, S, w, q⟩ =>
  ⟨F, ι, env, S, w, rd_mono (rd_then q) fun x H1 F1 ι1 S1 _ e1 w1 ⟨_, _, q1⟩ v hv => ⟨F1, ι1, env, S1, w1, rd_mono (rd_then q1) fun l H2 F2 ι2 S2 _ e2 w2 ⟨_, _, q2⟩ =>
    ⟨F2, ι2, env, S2, w2, rd_mono (rd_then q2) fun u H3 F3 ι3 S3 _ e3 w3 ⟨_, _, q3⟩ => by
      cases ho : op x l u with
      | none => rw [ho] at q3; exact q3.elim
      | some d =>
        rw [ho] at q3
        refine ok H3 F3 ι3 S3 x l u d v Q w3.wd (w2.wd.rep e3 (w1.wd.rep e2 hv)) ho fun v' H' F' ι' e' w' hv' => ?_
        exact (q3 H' F' ι' e' (w3.step e' w')).2.2.2.2.2.2 v' hv'⟩⟩⟩
mutual
def toP : D → Option PyData
  | .non => some .none
  | .bl b => some (.bool b)
  | .int i => some (.int i)
  | .str s => some (.str s)
  | .tup xs => (toPs xs).map .tuple
  | .lst xs => (toPs xs).map .list
  | .ro xs => (toPs xs).map .list
  | _ => none
def toPs : List D → Option (List PyData)
  | [] => some []
  | d :: ds => match toP d, toPs ds with
    | some p, some ps => some (p :: ps)
    | _, _ => none
end
mutual
theorem toP_dp {F : Fz} {ι : List Addr} {H : Hp} : ∀ (d : D) (v : V) (p : PyData), Rep K mg F ι H d v → toP d = some p → Dp K H v p
  | .non, _, _, h, e => by cases e; rw [show _ = _ from h]; exact .non
  | .bl _, _, _, h, e => by cases e; rw [show _ = _ from h]; exact .bl _
  | .int _, _, _, h, e => by cases e; rw [show _ = _ from h]; exact .int _
  | .str _, _, _, h, e => by cases e; rw [show _ = _ from h]; exact .str _
  | .tup xs, _, p, h, e => by
    obtain ⟨a, vs, rfl, hl, hr⟩ := h
    unfold toP at e
    cases he : toPs xs with
    | none => rw [he] at e; cases e
    | some ps => rw [he] at e; cases e; exact .tup hl.sq (toPs_dp xs vs ps hr he)
  | .lst xs, _, p, h, e => by
    obtain ⟨a, vs, rfl, hl, hr⟩ := h
    unfold toP at e
    cases he : toPs xs with
    | none => rw [he] at e; cases e
    | some ps => rw [he] at e; cases e; exact .lst hl.sq (toPs_dp xs vs ps hr he)
  | .ro xs, _, p, h, e => by
    obtain ⟨a, vs, rfl, hl, hr⟩ := h
    unfold toP at e
    cases he : toPs xs with
    | none => rw [he] at e; cases e
    | some ps => rw [he] at e; cases e; exact .lst hl.sq (toPs_dp xs vs ps hr he)
  | .dct _ _, _, _, _, e => by cases e
  | .obj _ _ _, _, _, _, e => by cases e
  | .cell _, _, _, _, e => by cases e
  | .ty _, _, _, _, e => by cases e
  | .cls _, _, _, _, e => by cases e
  | .exc _ _ _, _, _, _, e => by cases e
theorem toPs_dp {F : Fz} {ι : List Addr} {H : Hp} : ∀ (ds : List D) (vs : List V) (ps : List PyData), Reps K mg F ι H ds vs → toPs ds = some ps → DpAll K H vs ps
  | [], _, _, h, e => by cases e; rw [show _ = _ from h]; exact .nil
  | d :: ds, vs, ps, h, e => by
    obtain ⟨v, r, rfl, h1, h2⟩ := h
    unfold toPs at e
    cases e1 : toP d with
    | none => rw [e1] at e; cases e
    | some p =>
      cases e2 : toPs ds with
      | none => rw [e1, e2] at e; cases e
      | some qs => rw [e1, e2] at e; cases e; exact .cons (toP_dp d v p h1 e1) (toPs_dp ds r qs h2 e2)
end
def eqP (x y : D) : Option Bool := match toP x, toP y with
  | some p, some q => if SeqAt.shaped p && SeqAt.shaped q then some (PyData.eqv p q) else none
  | _, _ => none
def eqA (x y : D) : Option Bool := match x, y with
  | .str a, .str b => some (decide (a = b))
  | _, _ => eqP x y
def eqD : Op2 := fun x y _ => (eqA x y).map .bl
def neD : Op2 := fun x y _ => (eqA x y).map fun b => .bl (!b)
def rEqA (K : PySem.W.Frag) : R2 := fun x y H Q => rEqD K x y H Q ∨ rEq x y H Q
def rNeA (K : PySem.W.Frag) : R2 := fun x y H Q => rNeD K x y H Q ∨ rNe x y H Q
theorem op_eqAll {X : Cx} (hu : X.A.units + 64 < cLine) : OpR X (compareOp .Eq) (rEqA X.K) := (op_eqD hu).or op_eq
theorem op_neAll {X : Cx} (hu : X.A.units + 64 < cLine) : OpR X (compareOp .NotEq) (rNeA X.K) := (op_neD hu).or op_ne
theorem eqA_cases {x y : D} {b : Bool} (h : eqA x y = some b) : eqP x y = some b ∨ ∃ a c, x = .str a ∧ y = .str c ∧ b = decide (a = c) := by
  unfold eqA at h
  split at h
  · cases h; exact .inr ⟨_, _, rfl, rfl, rfl⟩
  · exact .inl h
theorem eqP_dp {F : Fz} {ι : List Addr} {H : Hp} {x y : D} {v u : V} {b : Bool} (rx : Rep K mg F ι H x v) (ry : Rep K mg F ι H y u) (h : eqP x y = some b) :
    ∃ p q, Dp K H v p ∧ Dp K H u q ∧ SeqAt.shaped p = true ∧ SeqAt.shaped q = true ∧ PyData.eqv p q = b := by
  unfold eqP at h
  split at h
  · rename_i p q hp hq
    split at h
    · rename_i hs
      rw [Bool.and_eq_true] at hs
      exact ⟨p, q, toP_dp x v p rx hp, toP_dp y u q ry hq, hs.1, hs.2, by simpa using h⟩
    · cases h
  · cases h
theorem ok_eq : Ok2 K mg (rEqA K) eqD := by
  intro H F ι S x y d v u Q w rx ry ho t
  unfold eqD at ho
  cases hb : eqA x y with
  | none => rw [hb] at ho; cases ho
  | some b =>
    rw [hb] at ho
    cases ho
    rcases eqA_cases hb with hb | ⟨a, c, rfl, rfl, rfl⟩
    · obtain ⟨p, q, h1, h2, h3, h4, h5⟩ := eqP_dp rx ry hb
      exact .inl ⟨p, q, h1, h2, h3, h4, by rw [h5]; exact t.here w rfl⟩
    · rw [show v = _ from rx, show u = _ from ry]
      refine .inr ⟨rfl, ?_⟩
      have e : decide (V.str a = V.str c) = decide (a = c) := by simp
      rw [e]
      exact t.here w rfl
theorem ok_ne : Ok2 K mg (rNeA K) neD := by
  intro H F ι S x y d v u Q w rx ry ho t
  unfold neD at ho
  cases hb : eqA x y with
  | none => rw [hb] at ho; cases ho
  | some b =>
    rw [hb] at ho
    cases ho
    rcases eqA_cases hb with hb | ⟨a, c, rfl, rfl, rfl⟩
    · obtain ⟨p, q, h1, h2, h3, h4, h5⟩ := eqP_dp rx ry hb
      exact .inl ⟨p, q, h1, h2, h3, h4, by rw [h5]; exact t.here w rfl⟩
    · rw [show v = _ from rx, show u = _ from ry]
      refine .inr ⟨rfl, ?_⟩
      have e : decide (V.str a = V.str c) = decide (a = c) := by simp
      rw [e]
      exact t.here w rfl
def isND : Op2 := fun x y _ => match y, x with
  | .non, .non => some (.bl true)
  | .non, .cell _ => none
  | .non, _ => some (.bl false)
  | .bl b, .bl a => some (.bl (a == b))
  | _, _ => none
end
end DL
namespace DL
open PySem PySem.Spec L2
open PyProof.Rows hiding St
section
variable {X : Cx} {K : PySem.W.Frag} {mg : Str → Option Value}
def lenD : OpN := fun xs S => match xs with
  | [.lst a] => some (.int (a.length : Nat))
  | [.ro a] => some (.int (a.length : Nat))
  | [.tup a] => some (.int (a.length : Nat))
  | [.str s] => if okLen s.length then some (.int (s.length : Nat)) else none
  | [.cell n] => match S[n]? with
    | some (.lst a) => some (.int (a.length : Nat))
    | _ => none
  | _ => none
def rLenAll (K : PySem.W.Frag) : List V → Hp → VK → Prop := fun xs H Q => (∃ p ys, xs = [.ref p] ∧ (SqL K H p ys ∨ SqT K H p ys) ∧ Q (.int ys.length) H) ∨ ∃ x n, xs = [x] ∧ LenV K x H n ∧ Q (.int n) H
theorem CallR.or {f : Value} {r r' : List V → Hp → VK → Prop} (h : CallR X f r) (h' : CallR X f r') : CallR X f (fun xs H Q => r xs H Q ∨ r' xs H Q) := by
  intro pins s σ H xs us Q I rv q
  rcases q with q | q
  · exact h pins s σ H xs us Q I rv q
  · exact h' pins s σ H xs us Q I rv q
theorem call_lenAll : CallR X (.builtin "len") (rLenAll X.K) := CallR.or call_len_seq call_len
theorem one_of {F : Fz} {ι : List Addr} {H : Hp} {d : D} {vs : List V} (h : Reps K mg F ι H [d] vs) : ∃ v, vs = [v] ∧ Rep K mg F ι H d v := by
  obtain ⟨v, r, rfl, h1, rfl⟩ := h
  exact ⟨v, rfl, h1⟩
theorem two_of {F : Fz} {ι : List Addr} {H : Hp} {d d' : D} {vs : List V} (h : Reps K mg F ι H [d, d'] vs) : ∃ v u, vs = [v, u] ∧ Rep K mg F ι H d v ∧ Rep K mg F ι H d' u := by
  obtain ⟨v, r, rfl, h1, u, r2, rfl, h2, rfl⟩ := h
  exact ⟨v, u, rfl, h1, h2⟩
theorem ok_len : OkN K mg (rLenAll K) lenD := by
  intro H F ι S xs d vs Q w rx ho t
  unfold lenD at ho
  split at ho
  · cases ho
    obtain ⟨v, rfl, a, us, rfl, hl, hr⟩ := one_of rx
    exact .inl ⟨a, us, rfl, .inl hl.sq, by rw [hr.len]; exact t.here w rfl⟩
  · cases ho
    obtain ⟨v, rfl, a, us, rfl, hl, hr⟩ := one_of rx
    exact .inl ⟨a, us, rfl, .inl hl.sq, by rw [hr.len]; exact t.here w rfl⟩
  · cases ho
    obtain ⟨v, rfl, a, us, rfl, hl, hr⟩ := one_of rx
    exact .inl ⟨a, us, rfl, .inr hl.sq, by rw [hr.len]; exact t.here w rfl⟩
  · split at ho
    · rename_i hl
      cases ho
      obtain ⟨v, rfl, hv⟩ := one_of rx
      rw [show v = _ from hv]
      exact .inr ⟨_, _, rfl, ⟨okLen_le hl, rfl⟩, t.here w rfl⟩
    · cases ho
  · obtain ⟨v, rfl, a, rfl, ha⟩ := one_of rx
    split at ho
    · rename_i ys hs
      cases ho
      obtain ⟨us, h1, hr⟩ := w.cells _ _ a hs ha
      exact .inl ⟨a, us, rfl, .inl (.inl (.inl h1)), by rw [hr.len]; exact t.here w rfl⟩
    · cases ho
  · cases ho
def absD : OpN := fun xs _ => match xs with
  | [.int i] => some (.int (if i < 0 then -i else i))
  | _ => none
theorem ok_abs : OkN K mg (fun xs H Q => ∃ i, xs = [.int i] ∧ Q (.int (if i < 0 then -i else i)) H) absD := by
  intro H F ι S xs d vs Q w rx ho t
  unfold absD at ho
  split at ho
  · cases ho
    obtain ⟨v, rfl, hv⟩ := one_of rx
    rw [show v = _ from hv]
    exact ⟨_, rfl, t.here w rfl⟩
  · cases ho
def toIntD : OpN := fun xs _ => match xs with
  | [.int i] => some (.int i)
  | [.bl b] => some (.int (if b = true then 1 else 0))
  | _ => none
theorem ok_toInt : OkN K mg (fun xs H Q => (∃ i, xs = [.int i] ∧ Q (.int i) H) ∨ ∃ k, xs = [.bl k] ∧ Q (.int (if k then 1 else 0)) H) toIntD := by
  intro H F ι S xs d vs Q w rx ho t
  unfold toIntD at ho
  split at ho
  · cases ho
    obtain ⟨v, rfl, hv⟩ := one_of rx
    rw [show v = _ from hv]
    exact .inl ⟨_, rfl, t.here w rfl⟩
  · cases ho
    obtain ⟨v, rfl, hv⟩ := one_of rx
    rw [show v = _ from hv]
    exact .inr ⟨_, rfl, t.here w rfl⟩
  · cases ho
def maxD : OpN := fun xs _ => match xs with
  | [.int i, .int j] => some (.int (if j > i then j else i))
  | _ => none
def minD : OpN := fun xs _ => match xs with
  | [.int i, .int j] => some (.int (if j < i then j else i))
  | _ => none
theorem ok_max : OkN K mg (fun xs H Q => ∃ i j, xs = [.int i, .int j] ∧ Q (.int (if j > i then j else i)) H) maxD := by
  intro H F ι S xs d vs Q w rx ho t
  unfold maxD at ho
  split at ho
  · cases ho
    obtain ⟨v, u, rfl, hv, hu⟩ := two_of rx
    rw [show v = _ from hv, show u = _ from hu]
    exact ⟨_, _, rfl, t.here w rfl⟩
  · cases ho
theorem ok_min : OkN K mg (fun xs H Q => ∃ i j, xs = [.int i, .int j] ∧ Q (.int (if j < i then j else i)) H) minD := by
  intro H F ι S xs d vs Q w rx ho t
  unfold minD at ho
  split at ho
  · cases ho
    obtain ⟨v, u, rfl, hv, hu⟩ := two_of rx
    rw [show v = _ from hv, show u = _ from hu]
    exact ⟨_, _, rfl, t.here w rfl⟩
  · cases ho
def tupleD : OpN := fun xs _ => match xs with
  | [.lst a] => some (.tup a)
  | [.ro a] => some (.tup a)
  | [.tup a] => some (.tup a)
  | _ => none
theorem ok_tuple : OkN K mg (fun xs H Q => ∃ p ys, xs = [.ref p] ∧ ((SqL K H p ys ∧ LayT H ys Q) ∨ (SqT K H p ys ∧ Q (.ref p) H))) tupleD := by
  intro H F ι S xs d vs Q w rx ho t
  unfold tupleD at ho
  split at ho
  · cases ho
    obtain ⟨v, rfl, a, us, rfl, hl, hr⟩ := one_of rx
    exact ⟨a, us, rfl, .inl ⟨hl.sq, t.layT w hr⟩⟩
  · cases ho
    obtain ⟨v, rfl, a, us, rfl, hl, hr⟩ := one_of rx
    exact ⟨a, us, rfl, .inl ⟨hl.sq, t.layT w hr⟩⟩
  · cases ho
    obtain ⟨v, rfl, a, us, rfl, hl, hr⟩ := one_of rx
    exact ⟨a, us, rfl, .inr ⟨hl.sq, t.here w ⟨a, us, rfl, hl, hr⟩⟩⟩
  · cases ho
def listD : OpN := fun xs _ => match xs with
  | [.lst a] => some (.lst a)
  | [.ro a] => some (.lst a)
  | [.tup a] => some (.lst a)
  | _ => none
theorem ok_list : OkN K mg (fun xs H Q => ∃ p ys, xs = [.ref p] ∧ (SqL K H p ys ∨ SqT K H p ys) ∧ ∀ l, H l = none → Q (.ref l) (upd H l (.lst ys))) listD := by
  intro H F ι S xs d vs Q w rx ho t
  unfold listD at ho
  split at ho
  · cases ho
    obtain ⟨v, rfl, a, us, rfl, hl, hr⟩ := one_of rx
    exact ⟨a, us, rfl, .inl hl.sq, fun l n => t.own.lay w hr n⟩
  · cases ho
    obtain ⟨v, rfl, a, us, rfl, hl, hr⟩ := one_of rx
    exact ⟨a, us, rfl, .inl hl.sq, fun l n => t.own.lay w hr n⟩
  · cases ho
    obtain ⟨v, rfl, a, us, rfl, hl, hr⟩ := one_of rx
    exact ⟨a, us, rfl, .inr hl.sq, fun l n => t.own.lay w hr n⟩
  · cases ho
def boolsOf : List D → Option (List Bool)
  | [] => some []
  | .bl b :: r => (boolsOf r).map (b :: ·)
  | _ => none
def intsOf : List D → Option (List Int)
  | [] => some []
  | .int i :: r => (intsOf r).map (i :: ·)
  | _ => none
theorem bools_vals {F : Fz} {ι : List Addr} {H : Hp} : ∀ {ds : List D} {bs : List Bool} {vs : List V}, boolsOf ds = some bs → Reps K mg F ι H ds vs → vs = bs.map V.bl
  | [], bs, vs, e, h => by cases e; exact h
  | d :: ds, bs, vs, e, h => by
    obtain ⟨v, r, rfl, h1, h2⟩ := h
    cases d with
    | bl b =>
      unfold boolsOf at e
      cases e2 : boolsOf ds with
      | none => rw [e2] at e; cases e
      | some cs =>
        rw [e2] at e
        cases e
        rw [show v = _ from h1, bools_vals e2 h2]
        rfl
    | _ => cases e
theorem ints_vals {F : Fz} {ι : List Addr} {H : Hp} : ∀ {ds : List D} {ns : List Int} {vs : List V}, intsOf ds = some ns → Reps K mg F ι H ds vs → vs = ns.map V.int
  | [], bs, vs, e, h => by cases e; exact h
  | d :: ds, bs, vs, e, h => by
    obtain ⟨v, r, rfl, h1, h2⟩ := h
    cases d with
    | int b =>
      unfold intsOf at e
      cases e2 : intsOf ds with
      | none => rw [e2] at e; cases e
      | some cs =>
        rw [e2] at e
        cases e
        rw [show v = _ from h1, ints_vals e2 h2]
        rfl
    | _ => cases e
theorem boolsOf_map : ∀ bs : List Bool, boolsOf (bs.map D.bl) = some bs
  | [] => rfl
  | b :: bs => by rw [List.map_cons]; unfold boolsOf; rw [boolsOf_map bs]; rfl
theorem reps_ints {F : Fz} {ι : List Addr} {H : Hp} : ∀ ns : List Int, Reps K mg F ι H (ns.map D.int) (ns.map V.int)
  | [] => rfl
  | n :: ns => ⟨.int n, _, rfl, rfl, reps_ints ns⟩
def allD : OpN := fun xs _ => match xs with
  | [.lst a] => (boolsOf a).map fun bs => .bl (bs.all id)
  | _ => none
def anyD : OpN := fun xs _ => match xs with
  | [.lst a] => (boolsOf a).map fun bs => .bl (bs.any id)
  | _ => none
def sumD : OpN := fun xs _ => match xs with
  | [.lst a] => (intsOf a).map fun ns => .int ns.sum
  | _ => none
theorem ok_all : OkN K mg (rAll K) allD := by
  intro H F ι S xs d vs Q w rx ho t
  unfold allD at ho
  split at ho
  · rename_i a
    obtain ⟨v, rfl, p, us, rfl, hl, hr⟩ := one_of rx
    cases e : boolsOf a with
    | none => rw [e] at ho; cases ho
    | some bs =>
      rw [e] at ho
      cases ho
      have := bools_vals e hr
      subst this
      exact ⟨p, bs, rfl, hl.sq, t.here w rfl⟩
  · cases ho
theorem ok_any : OkN K mg (rAny K) anyD := by
  intro H F ι S xs d vs Q w rx ho t
  unfold anyD at ho
  split at ho
  · rename_i a
    obtain ⟨v, rfl, p, us, rfl, hl, hr⟩ := one_of rx
    cases e : boolsOf a with
    | none => rw [e] at ho; cases ho
    | some bs =>
      rw [e] at ho
      cases ho
      have := bools_vals e hr
      subst this
      exact ⟨p, bs, rfl, hl.sq, t.here w rfl⟩
  · cases ho
def okShow (p : PyData) : Bool := p.showable && !p.hasDict && decide (p.depth ≤ 60) && decide (p.shown.length ≤ sizeLine)
def reprD : OpN := fun xs _ => match xs with
  | [d] => match toP d with
    | some p => if okShow p then some (.str p.shown) else none
    | none => none
  | _ => none
def rRepr (K : PySem.W.Frag) : List V → Hp → VK → Prop := fun xs H Q => ∃ x p, xs = [x] ∧ Dp K H x p ∧ okShow p = true ∧ Q (.str p.shown) H
theorem call_repr {k : Nat} (rm : Rm k X.A) : CallR X (.builtin "repr") (rRepr X.K) := by
  intro pins s σ H xs us Q I r h
  obtain ⟨x, p, rfl, hp, hk, q⟩ := h
  obtain ⟨u, rfl, ru⟩ := vals1 r
  obtain ⟨as, rd⟩ := Dp.reads I p x u hp ru
  simp only [okShow, Bool.and_eq_true, decide_eq_true_eq, Bool.not_eq_true'] at hk
  obtain ⟨⟨⟨h1, h2⟩, h3⟩, h4⟩ := hk
  have hu : X.A.units + (p.depth + 1) < cLine := by have := rm.room.units; omega
  cases hp with
  | non => cases ru; exact PySem.P.repr_of_none ⟨.str _, H, I.tok _, ⟨_, rfl⟩, q⟩
  | bl b => cases ru; exact PySem.P.repr_of_bool ⟨.str _, H, I.tok _, ⟨_, rfl⟩, q⟩
  | int i => obtain ⟨t, rfl⟩ := ru; exact PySem.P.repr_of_int (by simpa [PyData.showable] using h1) ⟨.str _, H, I.tok _, ⟨_, rfl⟩, q⟩
  | str z => obtain ⟨t, rfl⟩ := ru; exact PySem.P.repr_of_str ⟨.str _, H, I.tok _, ⟨_, rfl⟩, q⟩ h4
  | lst _ _ => cases ru; exact repr_of_reads' rd h1 (fun z => by rw [h2] at z; cases z) rm.quiet hu (fun _ _ e => e) (fun h' u' tk hk => ⟨.str _, H, I.kept hk, ⟨_, rfl⟩, q⟩) h4
  | tup _ _ => cases ru; exact repr_of_reads' rd h1 (fun z => by rw [h2] at z; cases z) rm.quiet hu (fun _ _ e => e) (fun h' u' tk hk => ⟨.str _, H, I.kept hk, ⟨_, rfl⟩, q⟩) h4
theorem ok_repr : OkN K mg (rRepr K) reprD := by
  intro H F ι S xs d vs Q w rx ho t
  unfold reprD at ho
  split at ho
  · rename_i x
    obtain ⟨v, rfl, hv⟩ := one_of rx
    split at ho
    · rename_i p hp
      split at ho
      · rename_i hk
        cases ho
        exact ⟨v, p, rfl, toP_dp x v p hv hp, hk, t.here w rfl⟩
      · cases ho
    · cases ho
  · cases ho
def tyName : D → Option String
  | .non => some "NoneType"
  | .bl _ => some "bool"
  | .int _ => some "int"
  | .str _ => some "str"
  | .tup _ => some "tuple"
  | .lst _ => some "list"
  | .ro _ => some "list"
  | .dct _ _ => some "dict"
  | _ => none
def tyNames : List String := ["NoneType", "bool", "int", "str", "tuple", "list", "dict"]
def isTB (a T : String) : Option Bool := if tyNames.contains a && tyNames.contains T then some (a == T || (a == "bool" && T == "int")) else none
theorem isTB_ok {a T : String} {b : Bool} (h : isTB a T = some b) : kitB a T = some b := by
  unfold isTB at h
  split at h
  · rename_i hc
    rw [Bool.and_eq_true] at hc
    have key : ∀ a ∈ tyNames, ∀ T ∈ tyNames, kitB a T = some (a == T || (a == "bool" && T == "int")) := by decide +kernel
    rw [key a (by simpa using hc.1) T (by simpa using hc.2)]
    exact h
  · cases h
theorem ty_at {F : Fz} {ι : List Addr} {H : Hp} {d : D} {v : V} {a : String} (h : Rep K mg F ι H d v) (e : tyName d = some a) : TyX K H v (.type a) := by
  cases d with
  | non => cases e; rw [show v = _ from h]; exact .base .non
  | bl b => cases e; rw [show v = _ from h]; exact .base (.bl b)
  | int i => cases e; rw [show v = _ from h]; exact .base (.int i)
  | str s => cases e; rw [show v = _ from h]; exact .base (.str s)
  | tup xs =>
    cases e
    obtain ⟨p, vs, rfl, hl, hr⟩ := h
    rcases hl.sq with (q | ⟨o, q⟩) | ⟨o, _, _, q, c, _⟩
    · exact .base (.tup q)
    · exact .fTuple q
    · exact .kTuple q c
  | lst xs =>
    cases e
    obtain ⟨p, vs, rfl, hl, hr⟩ := h
    exact .base (.lst hl.2)
  | ro xs =>
    cases e
    obtain ⟨p, vs, rfl, hl, hr⟩ := h
    rcases hl.sq with (q | ⟨o, q⟩) | ⟨o, _, _, q, c, _⟩
    · exact .base (.lst q)
    · exact .base (.frz q)
    · exact .kList q c
  | dct ks xs =>
    cases e
    obtain ⟨p, vs, rfl, hf, hl, _⟩ := h
    obtain ⟨o, q⟩ := hl
    exact .fDict q
  | _ => cases e
def isBD : OpN := fun xs _ => match xs with
  | [d, .ty T] => match tyName d with
    | some a => (isTB a T).map .bl
    | none => none
  | _ => none
end
theorem v_bty {X : Cx} {E : EE} {x : Str} {n : String} {pos : Pos} (hm : X.mg x = none) (hv : bootBuiltins x = some (.type n)) (hg : Gl X x := by rfl) (hn : x ≠ "__name__" := by decide) (hd : (x == ("__debug__" : Str)) = false := by decide) :
    VE X E (.Name x pos) (mC (.ty n)) := v_const (pe_bltn (v := .ty n) hg hm hv rfl hn hd) fun _ _ _ => rfl
section
variable {K : PySem.W.Frag} {mg : Str → Option Value} (g : Snap) (E : EE)
def gAt (K : PySem.W.Frag) (mg : Str → Option Value) (H : Hp) (F : Fz) (ι : List Addr) (Q : L2.St → Hp → Prop) : Fl → Prop
  | .nx env' S' => ∀ σ' H' F' ι', RS K mg g σ' H' F' ι' env' S' → Grow H F ι H' F' ι' → Q σ' H'
  | .ex c ns ds e' S' => ∀ σ', ExTo K mg g E (Grow H F ι) c ns ds σ' e' S'
  | _ => False
def tG (K : PySem.W.Frag) (mg : Str → Option Value) (t : D → Sm) : TG := fun v σ H Q => ∃ F ι env S d, RS K mg g σ H F ι env S ∧ Rep K mg F ι H d v ∧ gAt g E K mg H F ι Q (t d env S)
def tGs (K : PySem.W.Frag) (mg : Str → Option Value) (t : List D → Sm) : TGs := fun vs σ H Q => ∃ F ι env S ds, RS K mg g σ H F ι env S ∧ Reps K mg F ι H ds vs ∧ gAt g E K mg H F ι Q (t ds env S)
end
def VG (X : Cx) (E : EE) (tg : Expr) (t : D → Sm) : Prop := ∀ g, PG X tg (tG g E X.K X.mg t)
def VGs (X : Cx) (E : EE) (tgs : List Expr) (t : List D → Sm) : Prop := ∀ g, PGs X tgs (tGs g E X.K X.mg t)
theorem _root_.L2.PGs.imp {X : Cx} {e : List Expr} {t t' : TGs} (p : PGs X e t) (h : ∀ v σ H Q, t' v σ H Q → t v σ H Q) : PGs X e t' := ⟨fun pins s σ H vs us Q I r q => p.run pins s σ H vs us Q I r (h vs σ H Q q)⟩
section
variable {X : Cx} {E : EE} {e o i : Expr} {es : List Expr} {f h : Ex D} {pos : Pos} {t : D → Sm} {ts : List D → Sm}
theorem gAt_grow {K : PySem.W.Frag} {mg : Str → Option Value} {g : Snap} {H H' : Hp} {F F' : Fz} {ι ι' : List Addr} {Q : L2.St → Hp → Prop} (w : Grow H F ι H' F' ι') : ∀ {fl : Fl}, gAt g E K mg H F ι Q fl → gAt g E K mg H' F' ι' Q fl
  | .nx _ _, q => fun σ2 H2 F2 ι2 r e => q σ2 H2 F2 ι2 r (w.trans e)
  | .ex _ _ _ _ _, q => fun σ' C d H' F' ι' hc w' r' hd => q σ' C d H' F' ι' hc w' (w.trans r') hd
  | .bk _ _, q => q
  | .ct _ _, q => q
  | .rt _ _, q => q
  | .bad, q => q
theorem rd_gAt {α : Type} {K : PySem.W.Frag} {mg : Str → Option Value} {g : Snap} {σ : L2.St} {H : Hp} {F : Fz} {ι : List Addr} {env : List Sl} {S : List Cell} {Q : L2.St → Hp → Prop} {r : Rs α} {h : α → List Cell → Fl} (w : Wd K mg F ι H S) (q : gAt g E K mg H F ι Q (r.go env h)) :
    rdAt K mg g E σ H F ι env (fun a H1 F1 ι1 S1 => Ext H F ι H1 F1 ι1 ∧ RS K mg g σ H1 F1 ι1 env S1 ∧ gAt g E K mg H1 F1 ι1 Q (h a S1)) r := by
  cases r with
  | bad => exact q
  | ex c ns ds S1 => exact fun C d H' F' ι' hc w' r' hd => q σ C d H' F' ι' hc w' (w.grow r') hd
  | ok a S1 => exact fun H1 F1 ι1 e1 r1 => ⟨e1, r1, gAt_grow (w.grow e1) q⟩
def gName' (k : Nat) : D → Sm := fun d env S => .nx (env.set k (.val d)) S
theorem g_name (k : Nat) {x : Str} (hN : X.N.Nodup) (hi : X.N[k]? = some x := by rfl) (hx : Loc X.env.scope x := by first | exact Or.inl rfl | exact Or.inr rfl) (hf : X.fn x = true ∨ X.env.scope.names.lookup x = some .local := by first | exact .inl rfl | exact .inr rfl) :
    VG X E (.Name x pos) (gName' k) := fun g => (pg_name hN hi hx hf).imp fun v σ H Q ⟨F, ι, env, S, d, w, r, q⟩ => q _ H F ι (w.put k r) Grow.refl
def putC (o i d : D) (S : List Cell) : Option (List Cell) := match o, i with
  | .cell n, .int j => match S[n]? with
    | some (.lst xs) => (ixN xs.length j).map fun m => S.set n (.lst (xs.set m d))
    | _ => none
  | _, _ => none
def gSubC (f h : Ex D) : D → Sm := fun d env S => (f env S).go env fun x S1 => (h env S1).go env fun y S2 => match putC x y d S2 with
  | some S3 => .nx env S3
  | none => .bad
theorem g_subC (ho : VE X E o f) (hi : VE X E i h) (ha : ∀ v, assign (.Subscript o i pos) X.env v = (do
      let ov ← holding [v] (eval o X.env)
      let iv ← holding [v, ov] (eval i X.env)
      standAt pos
      holding [v, ov, iv] (setItem ov iv v)
      release [v, ov, iv] []) := by intro _; rfl) : VG X E (.Subscript o i pos) (gSubC f h) := fun g => (pg_sub (ho g) (hi g) set_list ha).imp fun v σ H Q ⟨F, ι, env, S, d, w, r, q⟩ =>
  ⟨F, ι, env, S, w, rd_mono (rd_gAt w.wd q) fun x H1 F1 ι1 S1 _ e1 w1 ⟨_, _, q1⟩ ov hov => ⟨F1, ι1, env, S1, w1, rd_mono (rd_gAt w1.wd q1) fun y H2 F2 ι2 S2 _ e2 w2 ⟨_, _, q2⟩ iv hiv => by
    have rd := w1.wd.rep e2 (w.wd.rep e1 r)
    have ro := w1.wd.rep e2 hov
    unfold putC at q2
    split at q2
    · rename_i S3 hp
      cases x with
      | cell n =>
        cases y with
        | int j =>
          dsimp only at hp
          cases hs : S2[n]? with
          | none => rw [hs] at hp; cases hp
          | some cl =>
            cases cl with
            | ins c ns xs => rw [hs] at hp; cases hp
            | dead => rw [hs] at hp; cases hp
            | tab _ _ => rw [hs] at hp; cases hp
            | lst xs =>
              rw [hs] at hp
              dsimp only at hp
              cases hm : ixN xs.length j with
              | none => rw [hm] at hp; cases hp
              | some m =>
                rw [hm] at hp
                cases hp
                obtain ⟨a, rfl, ha⟩ := ro
                obtain ⟨vs, h1, hr⟩ := w2.wd.cells _ _ a hs ha
                obtain ⟨w3, gr⟩ := w2.cell (n := n) (a := a) (o := .lst (vs.set m v)) (c' := .lst (xs.set m d)) ha ⟨_, hs, rfl⟩ rfl fun H' hH' st => ⟨_, hH', reps_mono (fun _ h => h) st (List.prefix_refl _) _ _ (hr.set m rd)⟩
                exact ⟨a, vs, j, m, rfl, hiv, h1, by rw [hr.len]; exact hm, q2 _ _ _ _ w3 gr⟩
        | _ => cases hp
      | _ => cases hp
    · exact q2.elim⟩⟩
def gNil' : List D → Sm := fun ds env S => match ds with
  | [] => .nx env S
  | _ => .bad
def gCons' (t : D → Sm) (ts : List D → Sm) : List D → Sm := fun ds env S => match ds with
  | d :: r => match t d env S with
    | .nx e S' => ts r e S'
    | .ex c ns es e' S' => .ex c ns es e' S'
    | _ => .bad
  | [] => .bad
theorem gs_nil : VGs X E [] gNil' := fun g => pgs_nil.imp fun vs σ H Q ⟨F, ι, env, S, ds, w, r, q⟩ => by
  cases ds with
  | nil => exact ⟨r, q σ H F ι w Grow.refl⟩
  | cons d ds => exact q.elim
theorem gs_cons (h1 : VG X E e t) (h2 : VGs X E es ts) (hs : (assignEach (e :: es) X.env).map (·.2) = assign e X.env :: (assignEach es X.env).map (·.2) := by rfl) : VGs X E (e :: es) (gCons' t ts) := fun g => (pgs_cons (h1 g) (h2 g) hs).imp fun vs σ H Q ⟨F, ι, env, S, ds, w, r, q⟩ => by
  cases ds with
  | nil => exact q.elim
  | cons d ds =>
    obtain ⟨v, us, rfl, r1, r2⟩ := r
    refine ⟨v, us, rfl, F, ι, env, S, d, w, r1, ?_⟩
    have q : gAt g E X.K X.mg H F ι Q (match t d env S with
      | .nx e S' => ts ds e S'
      | .ex c ns es e' S' => .ex c ns es e' S'
      | _ => .bad) := q
    cases ht : t d env S with
    | nx e' S' => rw [ht] at q; exact fun σ' H' F' ι' w' gr => ⟨F', ι', e', S', ds, w', reps_mono gr.sub gr.stay gr.pre ds us r2, gAt_grow gr q⟩
    | ex c ns es' e' S' => rw [ht] at q; exact q
    | _ => rw [ht] at q; exact q.elim
def gTup' (ts : List D → Sm) : D → Sm := fun d env S => match d with
  | .tup ds => ts ds env S
  | .lst ds => ts ds env S
  | _ => .bad
theorem g_tup {k n : Nat} (hc : X.calm = true) (h : VGs X E es ts) (hlen : ∀ ds env S, ds.length ≠ n → ts ds env S = .bad) (hn : (assignEach es X.env).length = n := by rfl) (hst : (assignEach es X.env).findIdx? (·.1) = none := by rfl) :
    VG X E (.Tuple es k pos) (gTup' ts) := fun g => (pg_or (pg_tup hc (h g) hn hst) (pg_unl hc (h g) hn hst)).imp fun v σ H Q ⟨F, ι, env, S, d, w, r, q⟩ => by
  have fits : ∀ ds, gAt g E X.K X.mg H F ι Q (ts ds env S) → ds.length = n := fun ds q => by
    by_cases z : ds.length = n
    · exact z
    · rw [hlen ds env S z] at q; exact q.elim
  cases d with
  | tup ds =>
    obtain ⟨a, vs, rfl, hl, hr⟩ := r
    exact .inl ⟨a, vs, rfl, hl.sq, hr.len.trans (fits ds q), F, ι, env, S, ds, w, hr, q⟩
  | lst ds =>
    obtain ⟨a, vs, rfl, hl, hr⟩ := r
    exact .inr ⟨a, vs, rfl, hl.sq, hr.len.trans (fits ds q), F, ι, env, S, ds, w, hr, q⟩
  | _ => exact q.elim
def mAsg (f : Ex D) (t : D → Sm) : Sm := fun env S => (f env S).go env fun d S1 => t d env S1
theorem s_asg {tg : Expr} (he : VE X E e f) (hg : VG X E tg t) (hno : ∀ d env S, (∃ e S', t d env S = .nx e S') ∨ (∃ c ns ds e' S', t d env S = .ex c ns ds e' S') ∨ t d env S = .bad)
    (hs : swapsWithSole [tg] e pos.line X.env = pure false := by rfl) (hw : swappedStores [tg] e X.env = pure none := by rfl) (h1 : (assignEach [tg] X.env).map (·.2) = [assign tg X.env] := by rfl) :
    VS X E (.Assign [tg] e pos) (mAsg f t) := fun g => (ps_asg (he g) (hg g) hs hw h1).imp fun D σ H ⟨F, ι, env, S, w, q⟩ =>
  ⟨F, ι, env, S, w, rd_mono (rd_go w.wd q) fun d H1 F1 ι1 S1 _ e1 w1 ⟨_, _, q1⟩ v hv => ⟨F1, ι1, env, S1, d, w1, hv, by
    rcases hno d env S1 with ⟨e', S', h⟩ | ⟨c, ns, ds, e', S', h⟩ | h
    · rw [h] at q1 ⊢; exact q1
    · rw [h] at q1 ⊢; exact q1
    · rw [h] at q1; exact q1.elim⟩⟩
def mApp (k : Nat) (f : Ex D) : Sm := fun env S => match env[k]? with
  | some (.own ds) => (f env S).go env fun d S1 => if okLen (ds.length + 1) then .nx (env.set k (.own (ds ++ [d]))) S1 else .bad
  | _ => .bad
theorem s_app (k : Nat) {x : Str} {px apos cpos : Pos} (he : VE X E e f) (hN : X.N[k]? = some x := by rfl) (hv : Vis X.env.scope x := by first | exact Or.inl rfl | exact Or.inr (Or.inl rfl) | exact Or.inr (Or.inr rfl))
    (h1 : attributeBase (.Name x px) "append" X.env (eval (.Name x px) X.env) = eval (.Name x px) X.env := by rfl)
    (h2 : ((backTo cpos (starEach [e] X.env)).all (fun x => !x.1) && (backToKw cpos (keywordEach [] X.env)).all (fun x => x.1.isSome)
      && decide ([e].length + ([] : List Keyword).length + (if ([] : List Keyword).isEmpty then 0 else 1) < 30)) = true := by rfl)
    (h3 : (apos.endLine == cpos.line) = true := by rfl) (h4 : starEach [e] X.env = (false, eval e X.env) :: starEach [] X.env := by rfl) (h5 : (backTo cpos (starEach [] X.env)).any (·.1) = false := by rfl)
    (hs : swapsWith (.Call (.Attribute (.Name x px) "append" apos) [e] [] cpos) none pos.line X.env = pure false := by rfl) (hd : (x == ("__debug__" : Str)) = false := by decide) (hcd : (x == ("__classdict__" : Str)) = false := by decide) :
    VS X E (.Expr (.Call (.Attribute (.Name x px) "append" apos) [e] [] cpos) pos) (mApp k f) := fun g =>
  (ps_expr (pe_bm PySem.F.plainAttrs_list PySem.F.slot_list_append PySem.F.type_list_append mt_append (pe_var hN hv hd hcd) (pa_cons (he g) pa_nil h4) h1 h2 h3 h4 h5) hs).imp fun D σ H ⟨F, ι, env, S, w, q⟩ => by
    unfold mApp at q
    split at q
    · rename_i ds hd'
      obtain ⟨a, vs, h1, h2, h3, h4, h5, h6⟩ := w.own k ds hd'
      refine ⟨.ref a, h1, .inl ⟨rfl, vs, .inl (.inl h2)⟩, F, ι, env, S, w, rd_mono (rd_go w.wd q) ?_⟩
      rintro d H1 F1 ι1 S1 - e1 w1 ⟨_, _, q1⟩ v hv
      split at q1
      · rename_i hl
        have k2 := e1.keep a _ h2 (.inr h5)
        obtain ⟨w2, gr⟩ := w1.mutO (ds' := ds ++ [d]) (vs' := vs ++ [v]) hd' h1 ((w.wd.reps e1 h3).app (.one hv))
        refine ⟨a, vs, v, rfl, rfl, k2, ?_, q1 _ _ _ _ w2 gr⟩
        have := okLen_le hl
        rw [h3.len]
        omega
      · exact q1.elim
    · exact q.elim
end
end DL
namespace DL
open PySem PySem.Spec L2
open PyProof.Rows hiding St
open Builtin Builtin.ObjectAttr
theorem osaG {prog : Program} {w : World} {A : Around} {R : Result → Shared → Prop} {hp : Heap} {g : Array GenState} {d : Drawn} {t : Nat} {os : OsState} {K : PySem.W.Frag} {name : Str} {bmB : List Value} {tk : Tok} {v : Value} {x C : Addr} {fv : Array Value} {Bn : String}
    (SF : StoreFacts Bn bmB "object.__setattr__" "object") (kin : K.In hp) (hx : hp.get? x = some { cls := .ref C, data := .fields fv }) (ov : PySem.W.excOver K C bmB = true) (hh : PySem.W.hasDictIn K C = true) (ht : PySem.W.takerIn K C name = some none)
    (go : ∀ h1 t1 dx, (∀ b o, b ≠ x → hp.get? b = some o → h1.get? b = some o) → hp.objs.size ≤ dx → dx ≠ x → h1.get? x = some { cls := .ref C, dict := some dx, data := .fields fv } →
      h1.Ns1 dx (fun y => if y = name then some v else none) → R (.ok (.ret .none)) ⟨h1, g, d, t1, os⟩) :
    codeAny (model prog w) A (.call (.builtin "object.__setattr__") ⟨[.ref x, .str name tk, v], []⟩) R ⟨hp, g, d, t, os⟩ := by
  have at0 : PySem.W.InstAt hp x { cls := .ref C, data := .fields fv } C none := ⟨hx, rfl, rfl, trivial⟩
  obtain ⟨cd, hc, hdt⟩ := PySem.W.any_some hh
  have lc : PySem.W.Looks (model prog w) hp (classData C) cd := PySem.W.looks_clsIn kin hc
  have xn : x ≠ hp.objs.size := Nat.ne_of_lt (Heap.lt_size hx)
  refine PySem.W.osa_openX (s := ⟨hp, g, d, t, os⟩) SF kin at0 ov ht fun b => ?_
  obtain ⟨c1, c2, c3, c4, c5, c6, c7, c8, c9, c10, c11⟩ := cd
  dsimp only at hdt ⊢
  subst hdt
  unfold storeInOwnDict ownDictForStores
  repeat (first | with_reducible refine HandSPX.store_in_new ?_ ?_ | with_reducible refine wpAny_loadPart_at hx ?_ | with_reducible refine lc.at ?_ | wp_step)
  · exact ⟨_, #[], _, (Heap.get?_update_ne _ _ _ _ xn.symm).trans (Heap.get?_push_at rfl rfl), rfl, fun e he => absurd he (by simp), fun _ => rfl⟩
  · intro h1 t1 hn sb
    have x1 : (hp.push { cls := .type "dict", data := .dict #[] }).get? x = some { cls := .ref C, data := .fields fv } := Heap.get?_push_of_some _ hx
    refine go h1 t1 hp.objs.size (fun b o nb ob => ?_) (Nat.le_refl _) xn.symm ((sb.2 x xn).trans (Heap.get?_update_self _ x1 rfl)) hn
    exact (sb.2 b (Nat.ne_of_lt (Heap.lt_size ob))).trans ((Heap.get?_update_ne _ _ _ _ nb).trans (Heap.get?_push_of_some _ ob))
theorem _root_.L2.Inv.track {X : Cx} {pins : List (Addr × Obj)} {σ τ : L2.St} {H G : Hp} {s sJ : Shared} {dx : Addr} {o : HO} (I : Inv X pins σ H s) (J : Inv X pins τ G sJ) (nj : sJ.heap.get? dx = none) (hn : H dx = none)
    (new : ObjOk X.prog X.w (upd H dx o) s.heap dx o) : Inv X pins σ (upd H dx o) s := by
  have ne : ∀ {b u}, sJ.heap.get? b = some u → b ≠ dx := fun {b u} h z => by rw [z, nj] at h; cases h
  have nt : ∀ {b u}, H b = some u → b ≠ dx := fun {b u} h z => by rw [z, hn] at h; cases h
  refine ⟨I.ok, I.os, I.bare, ⟨I.base.keep, I.base.slot, fun b u hb h0 nx => ?_, I.base.there, fun b xs h => ?_, fun b ob u h => ?_, fun b ps h => ?_⟩, I.loc, I.cell, ?_, fun x c h => ?_, fun q hq => ?_, fun b u h => ?_, I.len⟩
  · obtain ⟨u', h'⟩ := J.base.there b u hb nx
    rw [upd_ne (ne h')]
    exact I.base.free b u hb h0 nx
  · have h2 := I.base.tups b xs h
    rw [upd_ne (nt h2)]; exact h2
  · have h2 := I.base.frzs b ob u h
    rw [upd_ne (nt h2)]; exact h2
  · obtain ⟨more, h2⟩ := I.base.tbls b ps h
    exact ⟨more, by rw [upd_ne (nt h2)]; exact h2⟩
  · obtain ⟨m, hns, _⟩ := J.loc
    obtain ⟨ol, _, _, hol, _⟩ := hns
    rw [upd_ne (ne hol)]; exact I.free
  · obtain ⟨v, hv⟩ := J.cell x c h
    obtain ⟨oc, hoc, _⟩ := hv
    rw [upd_ne (ne hoc)]; exact I.freeC x c h
  · obtain ⟨a1, a2, a3⟩ := I.pin q hq
    exact ⟨a1, by rw [upd_ne (ne (J.pin q hq).1)]; exact a2, a3⟩
  · by_cases z : b = dx
    · subst z
      rw [upd_same] at h
      cases h
      exact new
    · rw [upd_ne z] at h
      exact (I.hok b u h).stay (fun _ _ _ z => z) (fun c hc => by rw [upd_ne (nt hc)]; exact hc) fun c xs hc => by rw [upd_ne (nt hc)]; exact hc
structure OexG (K : PySem.W.Frag) (C : Addr) : Prop where
  base : ∃ (B newId initId : String) (bmB : List Value), ExcBaseFacts B newId initId bmB ∧ StoreFacts B bmB "object.__setattr__" "object" ∧ PySem.W.excInitIn K C bmB newId = true ∧ PySem.W.excOver K C bmB = true
  hd : PySem.W.hasDictIn K C = true
  sa : PySem.W.findIn K (.ref C) "__setattr__" = some (some (.builtin "object.__setattr__"))
  exC : PySem.W.subIn K (.ref C) (.type "BaseException") = some true
  tyC : PySem.W.typeIn K (.ref C) = some (.type "type")
  kC : PySem.W.keepIn K (.ref C) = true
section
variable {X : Cx} {pins : List (Addr × Obj)} {σ : L2.St} {H : Hp} {s : Shared} {a C dx : Addr} {f : Str} {y : V} {u : Value} {Q : Unit → Shared → Prop} {E : Value → Shared → Prop} {A : Around}
theorem ostG (T : OexG X.K C) (I : Inv X pins σ H s) (e : H a = some (exo a C none)) (ht : PySem.W.takerIn X.K C f = some none) (ry : RelV y u)
    (go : ∀ dx s', H dx = none → dx ≠ a → Inv X pins σ (upd (upd H a (exo a C (some dx))) dx (exd dx [(f, y)])) s' → Q () s') : wpAny (model X.prog X.w) A (setAttr (.ref a) f u) Q E s := by
  obtain ⟨B, _, _, bmB, _, SF, _, ov⟩ := T.base
  obtain ⟨t1, ho⟩ := exo_at I.hok e
  obtain ⟨hp, g, d, t, os⟩ := s
  refine PySem.W.set_plain I.kIn (ox := { cls := .ref C, dict := none, data := .fields #[.ref t1, .none, .none, .none, .bool false, .none] }) (od := none) ⟨ho, rfl, rfl, trivial⟩ T.sa ?_
  refine osaG SF I.kIn ho ov T.hd ht fun h1 t2 dx k dn dne hx hns => ?_
  have hnd : H dx = none := I.hok.fresh dn
  have J := I.write (t' := t2) (x := a) (e := a) (o := exo a C (some dx)) (by rw [e]; exact True.intro) (.inl rfl) k ⟨_, hx⟩ (exo_ok hx)
  have hg : hp.get? dx = none := Heap.get?_none_of_le dn
  refine go dx _ hnd dne (J.track I hg (by rw [upd_ne dne]; exact hnd) ?_)
  exact exd_ok hns (relO_put (fs := []) ry fun g => True.intro)
def tOstG (K : PySem.W.Frag) (f : Str) (to te : TE) : TS := fun D σ H => te σ H fun y H1 => to σ H1 fun x H2 => ∃ a C : Addr, x = .ref a ∧ OexG K C ∧ PySem.W.takerIn K C f = some none ∧
  H2 a = some (exo a C none) ∧ ∀ dx, H2 dx = none → dx ≠ a → D.nx σ (upd (upd H2 a (exo a C (some dx))) dx (exd dx [(f, y)]))
theorem ps_ostG {o e : Expr} {to te : TE} {p' pos : Pos} (ho : PE X o to) (he : PE X e te) (hs : swapsWith e (some (.Attribute o f p')) pos.line X.env = pure false := by rfl) : PS X (.Assign [.Attribute o f p'] e pos) (tOstG X.K f to te) := by
  constructor
  intro pins s σ H D I h
  refine plainObj_wpAny_Assign_Attribute (thn (he.run pins s σ H _ I h) fun v s1 q1 => ?_) hs
  obtain ⟨y, H1, I1, r1, q1⟩ := q1
  refine thn (ho.run pins s1 σ H1 _ I1 q1) fun u s2 q2 => ?_
  obtain ⟨x, H2, I2, r2, a, C, rfl, T, ht, ea, q⟩ := q2
  obtain rfl : u = Value.ref a := r2
  exact ostG T I2 ea ht r1 fun dx s' n ne J => ⟨σ, _, J, q dx n ne⟩
end
def tMkG (C : Addr) (sp : Sp) (ta : TA) : L2.St → Hp → XK → Prop := fun σ H Q => ta σ H fun vs H1 => vs.length ≤ 1000 ∧ ∀ a, H1 a = none → sp (.ref a :: vs) (upd H1 a (exo a C none))
  (fun v H2 => v = .non ∧ ∃ (d : Addr) (fs : List (Str × V)), H2 a = some (exo a C (some d)) ∧ H2 d = some (exd d fs) ∧ H1 d = none ∧ Q (.ref C) (some d) (upd (del H2 a) d (.xd fs))) (fun _ _ _ => False)
theorem pmkG {X : Cx} {CX : CXT} {x : Str} {C fI : Addr} {k : Nat} {fd : FuncData} {ps : List Str} {sp : Sp} {e : Expr} {es : List Expr} {ta : TA} {p pos : Pos} (T : OexG X.K C) (iC : PySem.W.findIn X.K (.ref C) "__init__" = some (some (.ref fI)))
    (tI : PySem.W.typeIn X.K (.ref fI) = some (.type "function")) (FI : FnOk X.prog X.w X.K X.mg X.base CX k fI fd ps sp) (rm : Room (k + 1) X.A) (hb : Binds X.K fd ps []) (px : Passes CX X (fun _ _ _ => False)) (hg : Gl X x) (hm : X.mg x = some (.ref C))
    (ha : PA X (e :: es) ta) (hdb : (x == ("__debug__" : Str)) = false := by decide) (he : starEach (e :: es) X.env = (false, eval e X.env) :: starEach es X.env := by rfl) (hpl : (backTo pos (starEach es X.env)).any (·.1) = false := by rfl) :
    L2N.PMk X (.Call (.Name x p) (e :: es) [] pos) (tMkG C sp ta) := by
  intro pins s σ H Q I h
  obtain ⟨B, newId, initId, bmB, BF, _, inI, _⟩ := T.base
  refine wpAny_Call_Name_kw (ld_glob I hg hm ?_ hdb)
  refine PySem.W.callWith_K (h₀ := X.base) I.ok.mod.kin T.kC (thn (ha.run pos pins s σ H _ I h) fun us s1 hv => ?_) he hpl
  obtain ⟨vs, H1, I1, r1, hz, q1⟩ := hv
  refine ⟨I1.kIn, ?_⟩
  show wpAny _ _ (call (.ref C) us) _ _ _
  obtain ⟨hp, g, dr, tk, os⟩ := s1
  obtain ⟨nm, N, qn, bs, bm, hdct, sn, sub, ab, col, dd, k0, k1, k2, k3, k5, hC, hbm⟩ := PySem.W.excInit_of I1.kIn inI
  have up1 : hp.objs.size ≤ hp.objs.size + 1 := Nat.le_succ _
  have hn : H1 (hp.objs.size + 1) = none := I1.hok.fresh up1
  have kk : ∀ b o, hp.get? b = some o → ((hp.push (PySem.W.kdv_tup us)).push (HandSPX.excO C hp.objs.size)).get? b = some o := fun b o z => Heap.get?_push_of_some _ (Heap.get?_push_of_some _ z)
  have at1 : ((hp.push (PySem.W.kdv_tup us)).push (HandSPX.excO C hp.objs.size)).get? (hp.objs.size + 1) = some (HandSPX.excO C hp.objs.size) := by heap_get
  have I2 := I1.laid (t' := tk) (a := hp.objs.size + 1) (o := exo (hp.objs.size + 1) C none) (h' := (hp.push (PySem.W.kdv_tup us)).push (HandSPX.excO C hp.objs.size)) kk up1 (exo_ok at1)
  have q := q1 _ hn
  have rr : Vals (V.ref (hp.objs.size + 1) :: vs) (Value.ref (hp.objs.size + 1) :: us) := .cons rfl r1
  have hl : (Value.ref (hp.objs.size + 1) :: us).length = ps.length := rr.length.symm.trans (FI.len _ _ _ _ q)
  have hus : us.length ≤ sizeLine := by rw [← Paired.length r1, sizeLine_eq]; omega
  have bd := hb ⟨(hp.push (PySem.W.kdv_tup us)).push (HandSPX.excO C hp.objs.size), g, dr, tk, os⟩ (Value.ref (hp.objs.size + 1) :: us) I2.kIn (by rw [List.append_nil]; exact hl)
  rw [List.append_nil] at bd
  refine wpAny_call (HandSPX.call_own BF hbm hC (PySem.W.looks_findIn I1.kIn iC) (fun self => PySem.W.bind_fn I1.kIn self tI) hus (codeAny_mono (FI.run _ X.stack _ _ ⟨Value.ref (hp.objs.size + 1) :: us, []⟩ _ _ _ (fun _ _ _ => False)
    (rm.make C us []) (I2.env0.make C us []) bd rr q) ?_))
  rintro r ⟨h2, g2, d2, t2, os2⟩ hr
  cases r with
  | error er => exact px pins σ _ _ er _ I2 hr
  | ok fl =>
    cases fl with
    | ret u =>
      obtain ⟨v, H2, o2, b2, un2, ok2, rv, ev, d, fs, ea, ed, hd1, q2⟩ := hr
      subst ev
      obtain ⟨t0, G, J, kG, ge, hoe, na⟩ := mk_end0 (d2 := d2) (t2 := t2) I1 up1 kk un2 ok2 o2 b2 ea ed hd1
      exact ⟨rv, _, _, _, ⟨G, g2, d2, t2, os2⟩, _, .ref C, some d, rfl, J, kG, ge, hoe, ⟨rfl, rfl, fun vs z => by cases z; rfl⟩, rfl, rfl, na, rfl, b2, raises_own T.exC T.tyC, q2⟩
    | _ => exact False.elim hr
end DL
namespace DL
open PySem PySem.Spec L2
open PyProof.Rows hiding St
def spI (C : Addr) (fld : Str) : Sp := fun vs H Q E => ∃ a y, vs = [.ref a, y] ∧ H a = some (exo a C none) ∧ ∀ dx, H dx = none → dx ≠ a → Q .non (upd (upd H a (exo a C (some dx))) dx (exd dx [(fld, y)]))
theorem init1 {P : Program} {w : World} {K : PySem.W.Frag} {mg : Str → Option Value} {base : Heap} {qual x1 fld : Str} {st : Stmt} {f C : Addr} {fd : FuncData} {p1 p2 p3 p4 : Pos} (F : Fun K "__init__" qual st f fd)
    (hb : defBody st = [.Assign [.Attribute (.Name "self" p1) fld p2] (.Name x1 p3) p4]) (S : FnScope ["self", x1] ["self", x1] (defScope st)) (T : OexG K C) (ht : PySem.W.takerIn K C fld = some none)
    (hd : (x1 == ("__debug__" : Str)) = false := by decide) (hcd : (x1 == ("__classdict__" : Str)) = false := by decide) :
    FnOk P w K mg base CX0 1 f fd ["self", x1] (spI C fld) := by
  have vis : ∀ x ∈ (["self", x1] : List Str), Vis (defScope st) x := fun x hx => (S.par x hx).elim .inl fun z => .inr (.inl z)
  refine F.ok S (fun vs H Q E ⟨a, y, e, _⟩ => by rw [e]; rfl) fun cd A outer s H vs Q E rm h => ?_
  obtain ⟨a, y, rfl, ha, q⟩ := h
  rw [hb]
  refine ⟨_, pss_one (ps_ostG (pe_var (i := 0) rfl (vis _ (by simp)) (by decide) (by decide)) (pe_var (i := 1) rfl (vis _ (by simp)) hd hcd) (by rfl)), ?_⟩
  exact ⟨y, rfl, .ref a, rfl, a, C, rfl, T, ht, ha, fun dx n ne => q dx n ne⟩
structure Rz (P : Program) (w : World) (K : PySem.W.Frag) (mg : Str → Option Value) (base : Heap) (x fld : Str) : Prop where
  at' : ∃ (C fI : Addr) (fd : FuncData) (ps : List Str), mg x = some (.ref C) ∧ OexG K C ∧ PySem.W.findIn K (.ref C) "__init__" = some (some (.ref fI)) ∧ PySem.W.typeIn K (.ref fI) = some (.type "function") ∧ FnOk P w K mg base CX0 1 fI fd ps (spI C fld) ∧ Binds K fd ps []
def mRaise (x fld : Str) (f : Ex D) : Sm := fun env S => (f env S).go env fun d S1 => .ex x [fld] [d] env S1
section
variable {X : Cx} {E : EE} {k : Nat} {x fld : Str} {e : Expr} {f : Ex D} {p pos pos' : Pos}
theorem s_raise1 (Z : Rz X.prog X.w X.K X.mg X.base x fld) (hc : X.calm = true) (tk : L2N.Takes X fun cls d σ H => E σ cls d H) (rm : Rm 2 X.A) (he : VE X E e f) (hg : Gl X x := by rfl) (hdb : (x == ("__debug__" : Str)) = false := by decide)
    (h1 : starEach [e] X.env = (false, eval e X.env) :: starEach [] X.env := by rfl) (h2 : (backTo pos (starEach [] X.env)).any (·.1) = false := by rfl) :
    VS X E (.Raise (some (.Call (.Name x p) [e] [] pos)) none pos') (mRaise x fld f) := fun g => by
  obtain ⟨C, fI, fd, ps, hm, T, iC, tI, FI, hb⟩ := Z.at'
  refine (L2N.ps_raise hc tk (pmkG T iC tI FI (rm.room.mono (by decide)) hb pass0 hg hm (pa_cons (he g) pa_nil h1) hdb h1 h2)).imp ?_
  rintro D σ H ⟨F, ι, env, S, w, q⟩
  refine ⟨F, ι, env, S, w, rd_mono (rd_go w.wd q) ?_⟩
  rintro d H1 F1 ι1 S1 - e1 w1 ⟨_, _, q1⟩ v hv
  refine ⟨Nat.le_of_ble_eq_true rfl, fun a ha => ⟨a, v, rfl, upd_same, fun dx hdx ne => ?_⟩⟩
  rw [upd_ne ne] at hdx
  refine ⟨rfl, dx, [(fld, v)], by rw [upd_ne (Ne.symm ne), upd_same], upd_same, hdx, ?_⟩
  have same : upd (del (upd (upd (upd H1 a (exo a C none)) a (exo a C (some dx))) dx (exd dx [(fld, v)])) a) dx (.xd [(fld, v)]) = upd H1 dx (.xd [(fld, v)]) := by
    funext b
    by_cases z : b = dx
    · subst z; rw [upd_same, upd_same]
    · rw [upd_ne z, upd_ne z]
      by_cases y : b = a
      · subst y; rw [del_same, ha]
      · rw [del_ne y, upd_ne z, upd_ne y, upd_ne y]
  rw [same]
  obtain ⟨e2, wd2⟩ := w1.wd.lay (o := .xd [(fld, v)]) hdx
  exact q1 σ C (some dx) _ _ _ hm (w1.step e2 wd2) (w1.wd.grow e2) ⟨[v], .one (w1.wd.rep e2 hv), rfl, .inr ⟨dx, rfl, .inr rfl, upd_same⟩⟩
end
end DL
namespace DL
open PySem PySem.Spec L2
open PyProof.Rows hiding St
theorem flying_kept {B h h' : Heap} {l : List Env} {a : Addr} {Z : Obj → Prop} (fl : HandSPX.FlyingZ B l a Z h) (k : ∀ b o, h.get? b = some o → h'.get? b = some o) : HandSPX.FlyingZ B l a Z h' := by
  obtain ⟨g1, g2, g3, ob, xs, T, oT, ts, ha, hz, hd, x1, nT, neT, hT, dT, x3⟩ := fl
  exact ⟨fun b o z => k b o (g1 b o z), g2, g3.of_keeps fun b o z _ => ⟨o, k b o z, rfl⟩, ob, xs, T, oT, ts, k _ _ ha, hz, hd, x1, nT, neT, k _ _ hT, dT, x3⟩
def catches (sub : Str → Str → Option Bool) (c : Str) : List Str → Option Bool
  | [] => some false
  | x :: r => match sub c x, catches sub c r with
    | some b, some d => some (b || d)
    | _, _ => none
def SubOk (K : PySem.W.Frag) (mg : Str → Option Value) (sub : Str → Str → Option Bool) : Prop :=
  ∀ c x b, sub c x = some b → ∀ C, mg c = some (.ref C) → ∃ D, mg x = some (.ref D) ∧ PySem.W.exmOne K (.ref C) (.ref D) = some b
theorem catches_ok {K : PySem.W.Frag} {mg : Str → Option Value} {sub : Str → Str → Option Bool} (ok : SubOk K mg sub) {c : Str} {C : Addr} (hm : mg c = some (.ref C)) : ∀ {cs : List Str} {b : Bool}, catches sub c cs = some b →
    ∃ cvs : List Value, cs.map mg = cvs.map some ∧ PySem.W.exmAny K (.ref C) cvs = some b
  | [], b, h => ⟨[], rfl, h⟩
  | x :: r, b, h => by
    unfold catches at h
    cases h1 : sub c x with
    | none => rw [h1] at h; cases h
    | some b1 =>
      cases h2 : catches sub c r with
      | none => rw [h1, h2] at h; cases h
      | some b2 =>
        rw [h1, h2] at h
        obtain ⟨D, e1, e2⟩ := ok c x b1 h1 C hm
        obtain ⟨cvs, e3, e4⟩ := catches_ok ok hm h2
        refine ⟨.ref D :: cvs, by rw [List.map_cons, List.map_cons, e1, e3], ?_⟩
        unfold PySem.W.exmAny
        rw [e2, e4]
        exact h
def TstX (X : Cx) (t : Expr) (cs : List Str) : Prop := ∀ (a : Addr) (pn pins : List (Addr × Obj)) (σ : L2.St) (H : Hp) (s : Shared) (cls : Value) (b : Bool) (cvs : List Value) (Q : Bool → Shared → Prop) (E : Value → Shared → Prop),
  Inv (X.suite a pn) pins σ H s → PySem.W.Looks (model X.prog X.w) s.heap (typeOf (.ref a)) cls → cs.map X.mg = cvs.map some → PySem.W.exmAny X.K cls cvs = some b →
  (∀ h', (∀ q o, s.heap.get? q = some o → h'.get? q = some o) → Q b { s with heap := h' }) →
  wpAny (model X.prog X.w) (X.A.mark (some (.ref a))) (eval t X.env) (fun c s1 => wpAny (model X.prog X.w) (X.A.mark (some (.ref a))) (excMatches (.ref a) c) Q E s1) E s
theorem tst1 {X : Cx} {x : Str} {np : Pos} (hg : Gl X x := by rfl) (hd : (x == ("__debug__" : Str)) = false := by decide) : TstX X (.Name x np) [x] := by
  intro a pn pins σ H s cls b cvs Q E I L hc hx go
  have hl : cvs.length = 1 := by simpa using (congrArg List.length hc).symm
  match cvs, hl, hc, hx with
  | [c], _, hc, hx =>
    have hm : X.mg x = some c := by simpa using hc
    obtain ⟨b1, d1, x1, y1, rfl⟩ := PySem.W.exmAny_cons hx
    cases y1
    rw [Bool.or_false] at go
    exact ld_glob (X := X.suite a pn) I hg hm ((PySem.W.exm_one (M := model X.prog X.w) I.kIn L x1).here (go s.heap fun _ _ z => z)) hd
abbrev sutO (oe : Obj) (a : Addr) : HO := .frz oe (.ext fun h => h.get? a = some oe)
abbrev _root_.L2.Cx.sut (X : Cx) (a : Addr) (pn : List (Addr × Obj)) (oe : Obj) : Cx := { X with A := X.A.mark (some (.ref a)), calm := false, pn := pn, xe := fun _ _ => False, H_0 := upd X.H_0 a (sutO oe a) }
section
variable {X : Cx} {pins : List (Addr × Obj)} {σ τ : L2.St} {H G : Hp} {s sI : Shared} {a : Addr} {oe : Obj} {vs : Array Value}
theorem sut_in (I : Inv X pins σ H s) (J : Inv X pins τ G sI) (na : sI.heap.get? a = none) (hn : H a = none) (he : s.heap.get? a = some oe) (nF : a ∉ X.fs) : Inv (X.sut a (X.pn ++ pins) oe) [] σ (upd H a (sutO oe a)) s := by
  have T := I.track (o := sutO oe a) J na hn ⟨he, he, ⟨oe, he⟩, fun h1 h2 z k => k _ z⟩
  have nb : ∀ b o, X.base.get? b = some o → b ≠ a := fun b o z y => by
    have := (J.bs b o z).1
    rw [y, na] at this
    cases this
  have ko : ∀ b, (upd X.H_0 a (sutO oe a)) b = none → b ≠ a ∧ X.H_0 b = none := fun b z => by
    by_cases y : b = a
    · subst y; rw [upd_same] at z; cases z
    · rw [upd_ne y] at z; exact ⟨y, z⟩
  have ok := I.ok
  refine ⟨⟨ok.mod, ok.kind, ok.glob, ok.blt, ok.above, ok.inj, ok.has, ok.cab, (fun z => absurd (show false = true from z) Bool.false_ne_true), ok.frames, ok.stk, ok.exf, fun b o z => ⟨(ok.bs b o z).1, ?_⟩, ok.bsz, ok.noex, ok.exfs, ok.funs, fun b z => ?_⟩,
    T.os, T.bare, ⟨fun b o hb h0 => T.base.keep b o hb (ko b h0).2, fun b o hb h0 => T.base.slot b o hb (ko b h0).2, fun b o hb h0 => T.base.free b o hb (ko b h0).2, T.base.there, fun b xs z => ?_, fun b o u z => ?_, fun b ps z => ?_⟩,
    T.loc, T.cell, T.free, T.freeC, fun p hp => T.pin p (by simpa using hp), T.hok, T.len⟩
  · show upd X.H_0 a (sutO oe a) b = none
    rw [upd_ne (nb b o z)]
    exact (ok.bs b o z).2
  · show upd X.H_0 a (sutO oe a) b = none
    rw [upd_ne (fun y => nF (by rw [← y]; exact z))]
    exact ok.frf b z
  · by_cases y : b = a
    · subst y
      have z : upd X.H_0 b (sutO oe b) b = _ := z
      rw [upd_same] at z
      cases z
    · have z : upd X.H_0 a (sutO oe a) b = _ := z
      rw [upd_ne y] at z
      exact T.base.tups b xs z
  · by_cases y : b = a
    · subst y
      have z : upd X.H_0 b (sutO oe b) b = _ := z
      rw [upd_same] at z
      rw [upd_same]
      exact z
    · have z : upd X.H_0 a (sutO oe a) b = _ := z
      rw [upd_ne y] at z
      exact T.base.frzs b o u z
  · by_cases y : b = a
    · subst y
      have z : upd X.H_0 b (sutO oe b) b = _ := z
      rw [upd_same] at z
      cases z
    · have z : upd X.H_0 a (sutO oe a) b = _ := z
      rw [upd_ne y] at z
      exact T.base.tbls b ps z
theorem sut_out {H' : Hp} {s' : Shared} {σ' : L2.St} (I : Inv (X.sut a (X.pn ++ pins) oe) [] σ' H' s') (J : Inv X pins τ G sI) (na : sI.heap.get? a = none) (ga : G a = none) : Inv X pins σ' H' s' := by
  have no : ∀ b u, X.s_0.heap.get? b = some u → b ∉ X.ex → b ≠ a := fun b u z nx y => by
    obtain ⟨o', h⟩ := J.base.there b u z nx
    rw [y, na] at h
    cases h
  have back : ∀ {b}, b ≠ a → X.H_0 b = none → (X.sut a (X.pn ++ pins) oe).H_0 b = none := fun {b} y z => by
    show upd X.H_0 a (sutO oe a) b = none
    rw [upd_ne y]
    exact z
  have same : ∀ {b u}, b ≠ a → X.H_0 b = some u → (X.sut a (X.pn ++ pins) oe).H_0 b = some u := fun {b u} y z => by
    show upd X.H_0 a (sutO oe a) b = some u
    rw [upd_ne y]
    exact z
  refine ⟨J.ok, I.os, I.bare, ⟨fun b o hb h0 hf nx => I.base.keep b o hb (back (no b o hb nx) h0) hf nx, fun b o hb h0 hf nx => I.base.slot b o hb (back (no b o hb nx) h0) hf nx, fun b o hb h0 nx => I.base.free b o hb (back (no b o hb nx) h0) nx, I.base.there,
    fun b xs z => I.base.tups b xs (same (fun y => ?_) z), fun b o u z => I.base.frzs b o u (same (fun y => ?_) z), fun b ps z => I.base.tbls b ps (same (fun y => ?_) z)⟩, I.loc, I.cell, I.free, I.freeC, fun p hp => I.pin p (by simpa using hp), I.hok, I.len⟩
  · have := J.base.tups b xs z
    rw [y, ga] at this; cases this
  · have := J.base.frzs b o u z
    rw [y, ga] at this; cases this
  · obtain ⟨more, this⟩ := J.base.tbls b ps z
    rw [y, ga] at this; cases this
end
end DL
namespace DL
open PySem PySem.Spec L2
open PyProof.Rows hiding St
abbrev Hd := List Str × Option Nat × Sm
def suiteOut (o : Option Nat) : Fl → Fl
  | .nx e S => .nx (match o with | some i => e.set i .un | none => e) S
  | .bk e S => .bk (match o with | some i => e.set i .un | none => e) S
  | .ct e S => .ct (match o with | some i => e.set i .un | none => e) S
  | .rt d S => .rt d S
  | _ => .bad
def runH (sub : Str → Str → Option Bool) (c : Str) (ns : List Str) (ds : List D) : List Hd → Sm
  | [], env, S => .ex c ns ds env S
  | (cs, o, m) :: r, env, S => match catches sub c cs with
    | none => .bad
    | some true => suiteOut o (m (match o with | some i => env.set i (.val (.exc c ns ds)) | none => env) S)
    | some false => runH sub c ns ds r env S
def mTry (sub : Str → Str → Option Bool) (m : Sm) (hs : List Hd) : Sm := fun env S => match m env S with
  | .ex c ns ds e S' => runH sub c ns ds hs e S'
  | r => r
def HotO (oe : Obj) : Prop := ∃ vs : Array Value, oe.data = .fields vs ∧ vs[2]? = some .none
inductive Hds (X : Cx) : List ExceptHandler → List Hd → Prop
  | nil : Hds X [] []
  | named {t : Expr} {n : Str} {i : Nat} {b0 : Stmt} {suite : List Stmt} {pos : Pos} {m : Sm} {cs : List Str} {r : List ExceptHandler} {hs : List Hd} (ht : TstX X t cs) (hi : X.N[i]? = some n) (hl : X.env.kindOf n = some .local)
      (hm : ∀ (a : Addr) (pn : List (Addr × Obj)) (oe : Obj), HotO oe → VB (X.sut a pn oe) EX0 (b0 :: suite) m) (hr : Hds X r hs) : Hds X (.ExceptHandler (some t) (some n) (b0 :: suite) pos :: r) ((cs, some i, m) :: hs)
  | plain {t : Expr} {b0 : Stmt} {suite : List Stmt} {pos : Pos} {m : Sm} {cs : List Str} {r : List ExceptHandler} {hs : List Hd} (ht : TstX X t cs)
      (hm : ∀ (a : Addr) (pn : List (Addr × Obj)) (oe : Obj), HotO oe → VB (X.sut a pn oe) EX0 (b0 :: suite) m) (hr : Hds X r hs) : Hds X (.ExceptHandler (some t) none (b0 :: suite) pos :: r) ((cs, none, m) :: hs)
section
variable {X : Cx} {E : EE} {body : List Stmt} {h₀ : ExceptHandler} {hds : List ExceptHandler} {hs : List Hd} {sub : Str → Str → Option Bool} {m : Sm} {pos : Pos}
theorem suite_end {g : Snap} {H : Hp} {F : Fz} {ι : List Addr} {D : Ends} {o : Option Nat} {J : L2.St → Hp → Prop} : ∀ {fl : Fl}, flAt X.K X.mg g E H F ι D (suiteOut o fl) →
    flAt X.K X.mg g EX0 H F ι { nx := fun σ' H' => D.nx (match o with | some i => σ'.set i none | none => σ') H', rt := D.rt, bk := fun σ' H' => D.bk (match o with | some i => σ'.set i none | none => σ') H', ct := fun σ' H' => D.ct (match o with | some i => σ'.set i none | none => σ') H' } fl
  | .nx e S, q => fun σ' H' F' ι' w gr => by
    cases o with
    | none => exact q σ' H' F' ι' w gr
    | some i => exact q _ H' F' ι' (w.forget i none) gr
  | .bk e S, q => fun σ' H' F' ι' w gr => by
    cases o with
    | none => exact q σ' H' F' ι' w gr
    | some i => exact q _ H' F' ι' (w.forget i none) gr
  | .ct e S, q => fun σ' H' F' ι' w gr => by
    cases o with
    | none => exact q σ' H' F' ι' w gr
    | some i => exact q _ H' F' ι' (w.forget i none) gr
  | .rt _ _, q => q
  | .ex _ _ _ _ _, q => q.elim
  | .bad, q => q.elim
theorem s_tryG {g : Snap} (hst : X.stack = X.env :: X.outer) (hf : X.env.frame = some X.env.locals) (hN : X.N.Nodup) (tk : L2N.Takes X fun cls d σ H => E σ cls d H) (ok : SubOk X.K X.mg sub)
    (hb : ∀ (E' : EE) (pn : List (Addr × Obj)) (xe : Value → Shared → Prop), L2N.Takes (X.tr pn xe) (fun cls d σ H => E' σ cls d H) → PassesOwn (model X.prog X.w) X.A X.env xe → PSs (X.tr pn xe) body (tS X.K X.mg g E' m))
    (hh : Hds X (h₀ :: hds) hs) : PS X (.Try body (h₀ :: hds) [] [] pos) (tS X.K X.mg g E (mTry sub m hs)) := by
  constructor
  rintro pins s σ H D I ⟨F, ι, env, S, w, q⟩
  have xok := I.ok
  have hfr : X.A.frames = some (X.env :: X.outer) := by rw [xok.frames, hst]
  let E' : EE := fun σ' cls d H' => ∃ C c ns ds F' ι' env' S', cls = .ref C ∧ X.mg c = some (.ref C) ∧ RS X.K X.mg g σ' H' F' ι' env' S' ∧ Grow H F ι H' F' ι' ∧ DictAt X.K X.mg F' ι' H' d ns ds ∧ flAt X.K X.mg g E H F ι D (runH sub c ns ds hs env' S')
  have q0 : flAt X.K X.mg g E' H F ι D (m env S) := by
    unfold mTry at q
    cases hm : m env S with
    | ex c ns ds e' S' => rw [hm] at q; exact fun σ' C d H' F' ι' hc w' gr hd => ⟨C, c, ns, ds, F', ι', e', S', rfl, hc, w', gr, hd, q⟩
    | nx _ _ => rw [hm] at q; exact q
    | bk _ _ => rw [hm] at q; exact q
    | ct _ _ => rw [hm] at q; exact q
    | rt _ _ => rw [hm] at q; exact q
    | bad => rw [hm] at q; exact q
  refine wpAny_Try_except ?_
  refine wpAny_mono ((hb E' (X.pn ++ pins) (fun e s1 => wpAny (model X.prog X.w) X.A (noteFrame e X.env) (fun _ s2 => wpAny (model X.prog X.w) X.A (setFlight e none) (fun _ s3 =>
    wpAny (model X.prog X.w) X.A (handleBy e X.env (h₀ :: hds)) (SP X pins D) X.xe s3) X.xe s2) X.xe s1) (fun u s' air => ?_) PassesOwn.looking).run [] s σ H D (I.toTry _) ⟨F, ι, env, S, w, q0⟩) (fun fl s1 hsp => ?_) fun e s1 z => z
  · obtain ⟨a, B, sI, pins', σ', H', cls, d, rfl, J', nb, up, sky, na, os, ag, we⟩ := air
    obtain ⟨C, c, ns, ds, F', ι', env', S', rfl, hmc, w', gr, hdd, hq⟩ := we
    have J : Inv X pins σ' H' sI := J'.ofTry xok
    have sky' : Sky B (X.env :: X.outer) a (L2N.Zn (.ref C) d) X.env.locals s'.heap := by rw [← hst]; exact sky
    show wpAny (model X.prog X.w) X.A (noteFrame (.ref a) X.env) _ _ _
    refine L2N.Sky.land L2N.Zn.steady hfr hf sky' fun h3 fl3 up3 => ?_
    -- a is none of the frames, and new
    have offF : ∀ {h : Heap}, HandSPX.FlyingZ B (X.env :: X.outer) a (L2N.Zn (.ref C) d) h → a ∉ frs (X.env :: X.outer) := fun {h} fl hm => by
      obtain ⟨ob, xs, hx, _, hdx⟩ := fl.there
      obtain ⟨_, o', e', nf⟩ := fl.2.2.1.mem hm
      rw [hx] at e'
      cases e'
      exact nf _ hdx
    have nfr := offF fl3
    have nF : a ∉ X.fs := fun hm => by
      obtain ⟨e, he, z⟩ := List.mem_filterMap.mp hm
      exact nfr (List.mem_filterMap.mpr ⟨e, List.mem_cons_of_mem _ he, z⟩)
    have newI : sI.heap.get? a = none := by
      cases z : sI.heap.get? a with
      | none => rfl
      | some o =>
        have z2 := nb a o z (by rw [hst]; exact nfr)
        rw [fl3.2.1] at z2
        cases z2
    have go : ∀ {hds' : List ExceptHandler} {hs' : List Hd}, Hds X hds' hs' → ∀ (h5 : Heap), HandSPX.FlyingZ B (X.env :: X.outer) a (L2N.Zn (.ref C) d) h5 → sI.heap.UpToSlots h5 → flAt X.K X.mg g E H F ι D (runH sub c ns ds hs' env' S') →
        wpAny (model X.prog X.w) X.A (handleBy (.ref a) X.env hds') (SP X pins D) X.xe { s' with heap := h5 } := by
      intro hds' hs' hk
      -- the test of a clause
      have test : ∀ {t : Expr} {cs : List Str} {b : Bool} {h5 : Heap} {Q : Bool → Shared → Prop} {E1 : Value → Shared → Prop}, TstX X t cs → catches sub c cs = some b → HandSPX.FlyingZ B (X.env :: X.outer) a (L2N.Zn (.ref C) d) h5 → sI.heap.UpToSlots h5 →
          (∀ h6, (∀ q o, h5.get? q = some o → h6.get? q = some o) → Q b { s' with heap := h6 }) →
          wpAny (model X.prog X.w) (X.A.mark (some (.ref a))) (eval t X.env) (fun c s1 => wpAny (model X.prog X.w) (X.A.mark (some (.ref a))) (excMatches (.ref a) c) Q E1 s1) E1 { s' with heap := h5 } := fun {t cs b h5 Q E1} ht hcb fl5 up5 k => by
        obtain ⟨cvs, e1, e2⟩ := catches_ok ok hmc hcb
        have J5 : Inv X pins σ' H' { s' with heap := h5 } := J.landed nb fl5.1 up5 os ag
        obtain ⟨ob, xs, hx, hz, hdx⟩ := fl5.there
        have nL : a ≠ X.env.locals := fun z => nfr (List.mem_filterMap.mpr ⟨X.env, List.mem_cons_self, by rw [hf, z]⟩)
        exact ht a _ [] σ' H' _ (.ref C) b cvs Q E1 (J5.suite hx hdx na nL nF) (fun A Q E s k q => wpAny_typeOf_ref (k _ _ hx) (by rw [hz.1]; exact q)) e1 e2 k
      induction hk with
      | nil =>
        intro h5 fl5 up5 q5
        refine wpAny_handleBy_nil ?_
        have fl5' := fl5
        obtain ⟨y1, y2, y3, ob, xs, T, oT, ts, hx, hz, hdx, x1, hrest⟩ := fl5'
        unfold PySem.passOn
        refine wpAny_bind (wpAny_field hx hdx x1 ?_)
        rw [if_neg (show ¬ ((Value.ref T == Value.none) = true) from by simp)]
        have out : wpAny (model X.prog X.w) X.A (setFlight (.ref a) X.env.frame) (fun _ s4 => wpAny (model X.prog X.w) X.A (throw (.ref a) : Sem Flow) (SP X pins D) X.xe s4) X.xe { s' with heap := h5 } := by
          rw [hf]
          refine HandSPX.setFlight_upZ fl5 fun h6 held up6 => wpAny_throw (tk _ _ ?_)
          exact ⟨a, B, sI, pins, σ', H', .ref C, d, rfl, J, nb, up5.trans up6, .inr (.inr (by rw [hst]; exact held)), na, os, ag, q5 σ' C d H' F' ι' hmc w' gr hdd⟩
        first
          | exact wpAny_bind (wpAny_pure (wpAny_bind out))
          | exact wpAny_bind out
      | @named t n i b0 suite pos' m cs r hs2 ht hi hl hm hr ih =>
        intro h5 fl5 up5 q5
        unfold runH at q5
        cases hcb : catches sub c cs with
        | none => rw [hcb] at q5; exact q5.elim
        | some b =>
          rw [hcb] at q5
          refine wpAny_handleBy_cons (codeAny_handlers_test (test ht hcb fl5 up5 fun h6 k6 => ?_)) (by intro z; cases z)
          have fl6 := flying_kept fl5 k6
          have up6 : sI.heap.UpToSlots h6 := up5.trans (Heap.UpToSlots.of_keeps k6)
          cases b with
          | false => exact ih h6 fl6 up6 q5
          | true =>
            refine codeAny_handlers_suite_as ?_
            refine HandSPX.lands_againZ fl6 fun h7 fl7 up7 => ?_
            have J7 : Inv X pins σ' H' { s' with heap := h7 } := J.landed nb fl7.1 (up6.trans up7) os ag
            obtain ⟨ob, xs, hx, hz, hdx⟩ := fl7.there
            have K7 := sut_in J7 J newI na hx nF
            refine store_ok (X := X.sut a (X.pn ++ pins) ob) (v := .ref a) K7 hN hi (.inl hl) rfl (fun s8 K8 => ?_) (.inr hl)
            have e8 : Ext H' F' ι' (upd H' a (sutO ob a)) (fun b => F' b ∨ b = a) ι' := (w'.wd.lay (o := sutO ob a) na).1
            have wd8 := (w'.wd.lay (o := sutO ob a) na).2
            have w8 := w'.step e8 wd8
            have rep8 : Rep X.K X.mg (fun b => F' b ∨ b = a) ι' (upd H' a (sutO ob a)) (.exc c ns ds) (.ref a) := by
              obtain ⟨vs, rv, lv, dd⟩ := hdd
              refine ⟨a, C, ob, _, d, vs, rfl, .inr rfl, hmc, upd_same, hz, ⟨xs, hdx⟩, lv, ?_, w'.wd.reps e8 rv⟩
              rcases dd with dd | ⟨dd, z1, z2, z3⟩
              · exact .inl dd
              · exact .inr ⟨dd, z1, .inl z2, e8.keep dd _ z3 (.inl z2)⟩
            have w9 := w8.put i rep8
            have q9 : flAt X.K X.mg g E (upd H' a (sutO ob a)) (fun b => F' b ∨ b = a) ι' D (suiteOut (some i) (m (env'.set i (.val (.exc c ns ds))) S')) := fl_grow (gr.trans (w'.wd.grow e8)) q5
            refine wpAny_mono ((hm a (X.pn ++ pins) ob ⟨xs, hdx, hz.2.2 xs hdx⟩ g).run [] s8 _ _ _ K8 ⟨_, ι', _, S', w9, suite_end (J := fun _ _ => True) q9⟩) (fun fl s9 hsp => ?_) (fun _ _ z => False.elim z)
            have fin : ∀ {σ6 : L2.St} {H6 : Hp} {Q : Shared → Prop}, Inv (X.sut a (X.pn ++ pins) ob) [] σ6 H6 s9 → (∀ s7, Inv X pins (σ6.set i none) H6 s7 → Q s7) →
                wpAny (model X.prog X.w) X.A (do bindName X.env n .none; unbindBehindTheSuite X.env n pos') (fun _ s7 => Q s7) X.xe s9 := fun {σ6 H6 Q} S6 hq => gone_ok (sut_out S6 J newI na) hN hi hl hq
            cases fl with
            | next =>
              obtain ⟨σ6, H6, S6, q6⟩ := hsp
              exact fin S6 fun s7 J7 => ⟨_, _, J7, q6⟩
            | brk =>
              obtain ⟨σ6, H6, S6, q6⟩ := hsp
              exact fin S6 fun s7 J7 => ⟨_, _, J7, q6⟩
            | cont =>
              obtain ⟨σ6, H6, S6, q6⟩ := hsp
              exact fin S6 fun s7 J7 => ⟨_, _, J7, q6⟩
            | ret u =>
              obtain ⟨v6, σ6, H6, S6, r6, q6⟩ := hsp
              exact fin S6 fun s7 J7 => ⟨_, _, _, J7, r6, q6⟩
      | @plain t b0 suite pos' m cs r hs2 ht hm hr ih =>
        intro h5 fl5 up5 q5
        unfold runH at q5
        cases hcb : catches sub c cs with
        | none => rw [hcb] at q5; exact q5.elim
        | some b =>
          rw [hcb] at q5
          refine wpAny_handleBy_cons (codeAny_handlers_test (test ht hcb fl5 up5 fun h6 k6 => ?_)) (by intro z; cases z)
          have fl6 := flying_kept fl5 k6
          have up6 : sI.heap.UpToSlots h6 := up5.trans (Heap.UpToSlots.of_keeps k6)
          cases b with
          | false => exact ih h6 fl6 up6 q5
          | true =>
            refine codeAny_handlers_suite ?_
            refine HandSPX.lands_againZ fl6 fun h7 fl7 up7 => ?_
            have J7 : Inv X pins σ' H' { s' with heap := h7 } := J.landed nb fl7.1 (up6.trans up7) os ag
            obtain ⟨ob, xs, hx, hz, hdx⟩ := fl7.there
            have K7 := sut_in J7 J newI na hx nF
            have e8 : Ext H' F' ι' (upd H' a (sutO ob a)) (fun b => F' b ∨ b = a) ι' := (w'.wd.lay (o := sutO ob a) na).1
            have wd8 := (w'.wd.lay (o := sutO ob a) na).2
            have w8 := w'.step e8 wd8
            have q9 : flAt X.K X.mg g E (upd H' a (sutO ob a)) (fun b => F' b ∨ b = a) ι' D (suiteOut none (m env' S')) := fl_grow (gr.trans (w'.wd.grow e8)) q5
            refine wpAny_mono ((hm a (X.pn ++ pins) ob ⟨xs, hdx, hz.2.2 xs hdx⟩ g).run [] _ _ _ _ K7 ⟨_, ι', _, S', w8, suite_end (J := fun _ _ => True) q9⟩) (fun fl s9 hsp => ?_) (fun _ _ z => False.elim z)
            cases fl with
            | next =>
              obtain ⟨σ6, H6, S6, q6⟩ := hsp
              exact ⟨_, _, sut_out S6 J newI na, q6⟩
            | brk =>
              obtain ⟨σ6, H6, S6, q6⟩ := hsp
              exact ⟨_, _, sut_out S6 J newI na, q6⟩
            | cont =>
              obtain ⟨σ6, H6, S6, q6⟩ := hsp
              exact ⟨_, _, sut_out S6 J newI na, q6⟩
            | ret u =>
              obtain ⟨v6, σ6, H6, S6, r6, q6⟩ := hsp
              exact ⟨_, _, _, sut_out S6 J newI na, r6, q6⟩
    exact go hh h3 fl3 (up.trans up3) hq
  · cases fl with
    | next =>
      obtain ⟨σ2, H2, J2, q2⟩ := hsp
      exact wpAny_execs_nil ⟨σ2, H2, J2.ofTry xok, q2⟩
    | brk =>
      obtain ⟨σ2, H2, J2, q2⟩ := hsp
      exact ⟨σ2, H2, J2.ofTry xok, q2⟩
    | cont =>
      obtain ⟨σ2, H2, J2, q2⟩ := hsp
      exact ⟨σ2, H2, J2.ofTry xok, q2⟩
    | ret u =>
      obtain ⟨v2, σ2, H2, J2, r2, q2⟩ := hsp
      exact ⟨v2, σ2, H2, J2.ofTry xok, r2, q2⟩
theorem s_try (hst : X.stack = X.env :: X.outer) (hf : X.env.frame = some X.env.locals) (hN : X.N.Nodup) (tk : L2N.Takes X fun cls d σ H => E σ cls d H) (ok : SubOk X.K X.mg sub)
    (hb : ∀ (E' : EE) (pn : List (Addr × Obj)) (xe : Value → Shared → Prop), L2N.Takes (X.tr pn xe) (fun cls d σ H => E' σ cls d H) → PassesOwn (model X.prog X.w) X.A X.env xe → VB (X.tr pn xe) E' body m)
    (hh : Hds X (h₀ :: hds) hs) : VS X E (.Try body (h₀ :: hds) [] [] pos) (mTry sub m hs) := fun g =>
  s_tryG hst hf hN tk ok (fun E' pn xe h1 h2 => hb E' pn xe h1 h2 g) hh
end
end DL
namespace DL
open PySem PySem.Spec L2
open PyProof.Rows hiding St
inductive TyE (K : PySem.W.Frag) (H : Hp) : V → Value → Prop where
  | x {v : V} {t : Value} (h : TyX K H v t) : TyE K H v t
  | exc {a C : Addr} {oe : Obj} {u : HO} {od : Option Addr} (e : H a = some (.frz oe u)) (c : L2.ExcC K C) (z : Zc (.ref C) od oe) (f : ∃ vs, oe.data = .fields vs) (d : ∀ dd, od = some dd → ∃ fs, H dd = some (.xd fs)) : TyE K H (.ref a) (.ref C)
section
variable {X : Cx} {pins : List (Addr × Obj)} {σ : L2.St} {H : Hp} {s : Shared}
theorem kit_ofE {v : V} {u t : Value} (I : Inv X pins σ H s) (rv : RelV v u) (ty : TyE X.K H v t) : ∃ P : Heap → Prop, PySem.W.KitX X.K u t P ∧ P s.heap ∧ u ≠ .builtin "__main__.__loader__#opaque" := by
  cases ty with
  | x h => exact kit_of I rv h
  | @exc a C oe q od e c z f d =>
    cases (show u = Value.ref a from rv)
    obtain ⟨ha, _⟩ := (show ObjOk X.prog X.w H s.heap a (.frz oe q) from I.hok a _ e)
    obtain ⟨vs, hv⟩ := f
    have hcl : (PySem.W.clsIn X.K C).isSome = true := by
      obtain ⟨cd, hc, _⟩ := PySem.W.any_some c.hd
      rw [hc]; rfl
    have no : PySem.W.notCls oe = true := by unfold PySem.W.notCls; rw [hv] <;> rfl
    cases hod : od with
    | none =>
      have J : PySem.W.InstAt s.heap a oe C none := ⟨ha, z.1, no, by rw [z.2, hod]; trivial⟩
      exact ⟨_, PySem.W.kitx_exc hcl c.hg c.hk c.hs c.ha c.hn c.ht c.hm, J, fun y => nomatch y⟩
    | some dd =>
      obtain ⟨fs, hdd⟩ := d dd hod
      obtain ⟨mA, hns, _⟩ := (show ObjOk X.prog X.w H s.heap dd (.xd fs) from I.hok dd _ hdd)
      obtain ⟨o1, _, _, ho, _⟩ := hns
      have J : PySem.W.InstAt s.heap a oe C (some o1) := ⟨ha, z.1, no, by rw [z.2, hod]; exact ho⟩
      exact ⟨_, PySem.W.kitx_exc hcl c.hg c.hk c.hs c.ha c.hn c.ht c.hm, J, fun y => nomatch y⟩
def rIsA (K : PySem.W.Frag) : List V → Hp → VK → Prop := fun xs H Q => ∃ (v c : V) (t u : Value) (b : Bool), xs = [v, c] ∧ ClsV c u ∧ TyE K H v t ∧ PySem.W.kitOne K t u = some b ∧ Q (.bl b) H
def rIsAT (K : PySem.W.Frag) : List V → Hp → VK → Prop := fun xs H Q => ∃ (v : V) (tp : Addr) (cs : List V) (t : Value) (us : List Value) (b : Bool), xs = [v, .ref tp] ∧ SqT K H tp cs ∧ Paired ClsV cs us ∧ TyE K H v t ∧ PySem.W.kitAny K t us = some b ∧ Q (.bl b) H
theorem call_isA : CallR X (.builtin "isinstance") (rIsA X.K) := by
  intro pins s σ H xs us Q I r h
  obtain ⟨v, c, t, u, b, rfl, k, ty, e, q⟩ := h
  obtain ⟨u1, u2, rfl, r1, r2⟩ := vals2 r
  obtain rfl := k.eq r2
  obtain ⟨P, Z, p, hx⟩ := kit_ofE I r1 ty
  exact PySem.W.kia_one Z I.kIn p e hx fun tk => ⟨.bl b, H, I.tok tk, rfl, q⟩
theorem call_isAT : CallR X (.builtin "isinstance") (rIsAT X.K) := by
  intro pins s σ H xs us Q I r h
  obtain ⟨v, tp, cs, t, ws, b, rfl, hT, k, ty, e, q⟩ := h
  obtain ⟨u1, u2, rfl, r1, r2⟩ := vals2 r
  cases (show u2 = Value.ref tp from r2)
  obtain ⟨P, Z, p, hx⟩ := kit_ofE I r1 ty
  obtain ⟨its, rv, ⟨o, h1, h2, n, h3⟩, _⟩ := I.tuple hT
  obtain rfl := ClsV.all k rv
  obtain ⟨oc, od, dt, sl⟩ := o
  simp only at h2 h3
  subst h2 h3
  exact PySem.W.kia_tup Z I.kIn p h1 e hx fun tk => ⟨.bl b, H, I.tok tk, rfl, q⟩
theorem call_isAll : CallR X (.builtin "isinstance") (fun xs H Q => rIsA X.K xs H Q ∨ rIsAT X.K xs H Q) := CallR.or call_isA call_isAT
end
inductive KT where
  | b (n : String) | o (c : Str)
  deriving DecidableEq
def ktv (mg : Str → Option Value) : KT → Value → Prop
  | .b n, v => v = .type n
  | .o c, v => ∃ C, v = .ref C ∧ mg c = some (.ref C)
structure Tab where
  os : List Str
  es : List Str
  isa : KT → KT → Option Bool
structure InsC (K : PySem.W.Frag) (C : Addr) : Prop where
  cl : Cls K C
  ha : PySem.W.findIn K (.ref C) "__class__" = some (some (.builtin "object.__class__"))
  hn : PySem.W.specialIn K (.builtin "object.__class__") "__get__" = some (some (.builtin "getset_descriptor.__get__"))
  ht : PySem.W.takesIn K (.builtin "object.__class__") = some true
  hm : PySem.W.mroIn K C (.type "object") = some true
structure TabOk (K : PySem.W.Frag) (mg : Str → Option Value) (T : Tab) : Prop where
  os : ∀ c ∈ T.os, ∀ C, mg c = some (.ref C) → InsC K C
  es : ∀ c ∈ T.es, ∀ C, mg c = some (.ref C) → L2.ExcC K C
  isa : ∀ a b r, T.isa a b = some r → ∀ u, ktv mg a u → ∃ w, ktv mg b w ∧ PySem.W.kitOne K u w = some r
def clsOf (T : Tab) (S : List Cell) (d : D) : Option KT := match tyName d with
  | some n => some (.b n)
  | none => match d with
    | .obj c _ _ => if T.os.contains c then some (.o c) else none
    | .exc c _ _ => if T.es.contains c then some (.o c) else none
    | .cell n => match S[n]? with
      | some (.ins c _ _) => if T.os.contains c then some (.o c) else none
      | some (.lst _) => some (.b "list")
      | _ => none
    | _ => none
def ktOf : D → Option KT
  | .ty n => some (.b n)
  | .cls c => some (.o c)
  | _ => none
def isAny (T : Tab) (a : KT) : List D → Option Bool
  | [] => some false
  | d :: r => match (ktOf d).bind (T.isa a) with
    | some true => if (r.all fun x => (ktOf x).isSome) then some true else none
    | some false => isAny T a r
    | none => none
def isAD (T : Tab) : OpN := fun xs S => match xs with
  | [d, c] => (clsOf T S d).bind fun a => match c with
    | .tup cs => (isAny T a cs).map .bl
    | _ => ((ktOf c).bind (T.isa a)).map .bl
  | _ => none
section
variable {K : PySem.W.Frag} {mg : Str → Option Value} {T : Tab} {F : Fz} {ι : List Addr} {H : Hp} {S : List Cell}
theorem cls_at (ok : TabOk K mg T) (w : Wd K mg F ι H S) {d : D} {v : V} {a : KT} (r : Rep K mg F ι H d v) (h : clsOf T S d = some a) : ∃ t, ktv mg a t ∧ TyE K H v t := by
  unfold clsOf at h
  split at h
  · rename_i n hn
    cases h
    exact ⟨_, rfl, .x (ty_at r hn)⟩
  · split at h
    · rename_i c ns xs hnn
      split at h
      · rename_i hc
        cases h
        obtain ⟨p, C, dx, vs, rfl, f, hm, e, _⟩ := r
        have k := ok.os c (by simpa using hc) C hm
        exact ⟨.ref C, ⟨C, rfl, hm⟩, .x (.base (.ins e k.cl k.ha k.hn k.ht k.hm))⟩
      · cases h
    · rename_i c ns xs hnn
      split at h
      · rename_i hc
        cases h
        obtain ⟨p, C, oe, u, od, vs, rfl, f, hm, e, z, fv, _, dd, _⟩ := r
        refine ⟨.ref C, ⟨C, rfl, hm⟩, .exc e (ok.es c (by simpa using hc) C hm) z.zc fv fun x hx => ?_⟩
        rcases dd with ⟨_, dd⟩ | ⟨y, e1, _, e2⟩
        · rw [hx] at dd; cases dd
        · rw [hx] at e1
          cases e1
          exact ⟨_, e2⟩
      · cases h
    · rename_i n hnn
      obtain ⟨p, rfl, hp⟩ := r
      split at h
      · rename_i c ns xs hs
        split at h
        · rename_i hc
          cases h
          obtain ⟨C, dx, vs, hm, e, _⟩ := w.cells _ _ p hs hp
          have k := ok.os c (by simpa using hc) C hm
          exact ⟨.ref C, ⟨C, rfl, hm⟩, .x (.base (.ins e k.cl k.ha k.hn k.ht k.hm))⟩
        · cases h
      · rename_i xs hs
        cases h
        obtain ⟨vs, e, _⟩ := w.cells _ _ p hs hp
        exact ⟨_, rfl, .x (.base (.lst e))⟩
      · cases h
    · cases h
theorem kt_at {d : D} {v : V} {a : KT} (r : Rep K mg F ι H d v) (h : ktOf d = some a) : ∃ u, ktv mg a u ∧ ClsV v u := by
  cases d with
  | ty n => cases h; rw [show v = _ from r]; exact ⟨_, rfl, .ty n⟩
  | cls c =>
    cases h
    obtain ⟨C, rfl, hm⟩ := r
    exact ⟨_, ⟨C, rfl, hm⟩, .own C⟩
  | _ => cases h
theorem ktv_one {a : KT} {u w : Value} (h1 : ktv mg a u) (h2 : ktv mg a w) : u = w := by
  cases a with
  | b n => exact (show u = _ from h1).trans (show w = _ from h2).symm
  | o c =>
    obtain ⟨C, rfl, e1⟩ := h1
    obtain ⟨C', rfl, e2⟩ := h2
    rw [e1] at e2
    cases e2
    rfl
theorem any_at (ok : TabOk K mg T) {a : KT} {t : Value} (ha : ktv mg a t) : ∀ {ds : List D} {vs : List V} {b : Bool}, Reps K mg F ι H ds vs → isAny T a ds = some b → ∃ us, Paired ClsV vs us ∧ PySem.W.kitAny K t us = some b
  | [], vs, b, r, h => by
    cases h
    rw [show vs = [] from r]
    exact ⟨[], .nil, rfl⟩
  | d :: ds, vs, b, r, h => by
    obtain ⟨v, vs', rfl, r1, r2⟩ := r
    unfold isAny at h
    cases hk : ktOf d with
    | none => rw [hk] at h; cases h
    | some k =>
      rw [hk] at h
      obtain ⟨u, hu, hc⟩ := kt_at r1 hk
      cases hi : T.isa a k with
      | none => rw [Option.bind_some, hi] at h; cases h
      | some c =>
        rw [Option.bind_some, hi] at h
        obtain ⟨w, hw, hkit⟩ := ok.isa a k c hi t ha
        obtain rfl := ktv_one hu hw
        cases c with
        | false =>
          obtain ⟨us, p, e⟩ := any_at ok ha r2 h
          exact ⟨u :: us, .cons hc p, by unfold PySem.W.kitAny; rw [hkit]; exact e⟩
        | true =>
          dsimp only at h
          split at h
          · rename_i hall
            cases h
            have all : ∀ {ds : List D} {vs : List V}, Reps K mg F ι H ds vs → (ds.all fun x => (ktOf x).isSome) = true → ∃ us, Paired ClsV vs us := by
              intro ds
              induction ds with
              | nil => intro vs r _; rw [show vs = [] from r]; exact ⟨[], .nil⟩
              | cons d ds ih =>
                intro vs r h
                obtain ⟨v, vs', rfl, r1, r2⟩ := r
                rw [List.all_cons, Bool.and_eq_true] at h
                obtain ⟨k, hk⟩ := Option.isSome_iff_exists.mp h.1
                obtain ⟨u, _, hc⟩ := kt_at r1 hk
                obtain ⟨us, p⟩ := ih r2 h.2
                exact ⟨u :: us, .cons hc p⟩
            obtain ⟨us, p⟩ := all r2 hall
            exact ⟨u :: us, .cons hc p, by unfold PySem.W.kitAny; rw [hkit]⟩
          · cases h
theorem ok_isA (ok : TabOk K mg T) : OkN K mg (fun xs H Q => rIsA K xs H Q ∨ rIsAT K xs H Q) (isAD T) := by
  intro H F ι S xs d vs Q w rx ho t
  unfold isAD at ho
  split at ho
  · rename_i x c
    obtain ⟨v, u, rfl, hv, hu⟩ := two_of rx
    cases ha : clsOf T S x with
    | none => rw [ha] at ho; cases ho
    | some a =>
      rw [ha, Option.bind_some] at ho
      obtain ⟨tt, h1, h2⟩ := cls_at ok w hv ha
      split at ho
      · rename_i cs
        cases hb : isAny T a cs with
        | none => rw [hb] at ho; cases ho
        | some b =>
          rw [hb] at ho
          cases ho
          obtain ⟨p, us, rfl, hl, hr⟩ := hu
          obtain ⟨ws, hp, hk⟩ := any_at ok h1 hr hb
          exact .inr ⟨v, p, us, tt, ws, b, rfl, hl.sq, hp, h2, hk, t.here w rfl⟩
      · cases hk : ktOf c with
        | none => rw [hk] at ho; cases ho
        | some k =>
          rw [hk, Option.bind_some] at ho
          cases hb : T.isa a k with
          | none => rw [hb] at ho; cases ho
          | some b =>
            rw [hb] at ho
            cases ho
            obtain ⟨w1, hw, hkit⟩ := ok.isa a k b hb tt h1
            obtain ⟨u1, hu1, hc⟩ := kt_at hu hk
            obtain rfl := ktv_one hu1 hw
            exact .inl ⟨v, u, tt, u1, b, rfl, hc, h2, hkit, t.here w rfl⟩
  · cases ho
end
def XfOk (K : PySem.W.Frag) (mg : Str → Option Value) (tb : List (Str × Str)) : Prop := ∀ c f, (c, f) ∈ tb → ∀ C, mg c = some (.ref C) → XfC K C ∧ PySem.W.findIn K (.ref C) f = some none
def fieldOf (n : Str) : List Str → List D → Option D
  | m :: ns, d :: ds => if m = n then some d else fieldOf n ns ds
  | _, _ => none
def xfD (tb : List (Str × Str)) (n : Str) : Op1 := fun d _ => match d with
  | .exc c ns xs => if tb.contains (c, n) then fieldOf n ns xs else none
  | _ => none
theorem field_rep {K : PySem.W.Frag} {mg : Str → Option Value} {F : Fz} {ι : List Addr} {H : Hp} {n : Str} : ∀ {ns : List Str} {ds : List D} {vs : List V} {d : D}, Reps K mg F ι H ds vs → fieldOf n ns ds = some d → ∃ v, (ns.zip vs).lookup n = some v ∧ Rep K mg F ι H d v
  | m :: ns, d :: ds, vs, x, r, h => by
    obtain ⟨v, vs', rfl, r1, r2⟩ := r
    unfold fieldOf at h
    rw [List.zip_cons_cons, lookup_put]
    by_cases e : m = n
    · rw [if_pos e] at h
      cases h
      exact ⟨v, by rw [if_pos e.symm], r1⟩
    · rw [if_neg e] at h
      obtain ⟨u, h1, h2⟩ := field_rep r2 h
      exact ⟨u, by rw [if_neg fun z => e z.symm]; exact h1, h2⟩
  | [], _, _, _, _, h => by cases h
  | _ :: _, [], _, _, _, h => by cases h
end DL
namespace DL
open PySem PySem.Spec L2
open PyProof.Rows hiding St
def pickL {α : Type} (p : List Nat) (l : List α) : List α := p.filterMap fun i => l[i]?
theorem pick_vals {vs : List V} {us : List Value} (r : Vals vs us) : ∀ p : List Nat, Vals (pickL p vs) (pickL p us)
  | [] => .nil
  | i :: p => by
    unfold pickL
    rw [List.filterMap_cons, List.filterMap_cons]
    have hl := r.length
    cases h : vs[i]? with
    | none =>
      have : us[i]? = none := by
        rw [List.getElem?_eq_none_iff] at h ⊢
        omega
      rw [this]
      exact pick_vals r p
    | some v =>
      obtain ⟨u, hu, ru⟩ := r.get h
      rw [hu]
      exact .cons ru (pick_vals r p)
theorem pick_reps {K : PySem.W.Frag} {mg : Str → Option Value} {F : Fz} {ι : List Addr} {H : Hp} {ds : List D} {vs : List V} (r : Reps K mg F ι H ds vs) : ∀ p : List Nat, Reps K mg F ι H (pickL p ds) (pickL p vs)
  | [] => rfl
  | i :: p => by
    unfold pickL
    rw [List.filterMap_cons, List.filterMap_cons]
    have hl := r.len
    cases h : ds[i]? with
    | none =>
      have : vs[i]? = none := by
        rw [List.getElem?_eq_none_iff] at h ⊢
        omega
      rw [this]
      exact pick_reps r p
    | some d =>
      obtain ⟨v, hv, rv⟩ := r.get h
      rw [hv]
      exact ⟨v, _, rfl, rv, pick_reps r p⟩
def BindsW (K : PySem.W.Frag) (fd : FuncData) (ps : List Str) (n : Nat) (ks : List Str) (p : List Nat) : Prop :=
  ∀ (s : Shared) (us ws : List Value), K.In s.heap → us.length = n → ws.length = ks.length → BindsTo s fd ⟨us, ks.zip ws⟩ (ps.zip (pickL p (us ++ ws)))
theorem _root_.L2.Fun.bindsW {K : PySem.W.Frag} {x qual : Str} {st : Stmt} {f : Addr} {fd : FuncData} {ps ks : List Str} {n : Nat} {p : List Nat} (F : Fun K x qual st f fd)
    (h : ∀ (kV doc pm : Value) (an : Option Addr) (cdv ct : Value) (us ws : List Value), us.length = n → ws.length = ks.length →
      bindArgs (PySem.W.fnOf x qual (defArgs st) (defBody st) (defScope st) .none kV doc pm an cdv ct) ⟨us, ks.zip ws⟩ = pure (ps.zip (pickL p (us ++ ws)))) : BindsW K fd ps n ks p := by
  obtain ⟨oc, od, kV, doc, pm, an, cdv, ct, osl, rfl, lk, hcd⟩ := F.ex
  intro s us ws _ h1 h2
  exact L2.BindsTo.of_looks fun M => .of_pure (h kV doc pm an cdv ct us ws h1 h2)
def mFnK (n np nk : Nat) (p : List Nat) (m : Fn) (fa fk : Ex (List D)) : Ex D := fun env S => (fa env S).andThen fun xs S1 => if xs.length = np then (fk env S1).andThen (fun zs S2 =>
  if zs.length = nk then (if (pickL p (xs ++ zs)).length = n then m (pickL p (xs ++ zs)) S2 else .bad) else .bad) else .bad
def VK' (X : Cx) (E : EE) (kws : List Keyword) (f : Ex (List D)) : Prop := ∀ g, PK X kws (tAr X.K X.mg g E f)
section
variable {X : Cx} {E : EE} {e : Expr} {es : List Expr} {kws : List Keyword} {f : Ex D} {fa fk : Ex (List D)} {nm : Option Str} {kpos pos p : Pos}
theorem _root_.L2.PK.imp {X : Cx} {e : List Keyword} {t t' : TA} (p : PK X e t) (h : ∀ σ H Q, t' σ H Q → t σ H Q) : PK X e t' := ⟨fun pos pins s σ H Q I q => p.run pos pins s σ H Q I (h σ H Q q)⟩
theorem k_nil : VK' X E [] mNil := fun g => pk_nil.imp fun σ H Q ⟨F, ι, env, S, w, q⟩ => q H F ι Ext.refl w [] rfl
theorem k_cons (he : VE X E e f) (hr : VK' X E kws fk) : VK' X E (⟨nm, e, kpos⟩ :: kws) (mCons f fk) := fun g =>
  (pk_cons (he g) (hr g)).imp fun σ H Q ⟨F, ι, env, S, w, q⟩ => ⟨F, ι, env, S, w, rd_mono (rd_then q) fun x H1 F1 ι1 S1 _ e1 w1 ⟨_, _, q1⟩ v hv =>
    ⟨F1, ι1, env, S1, w1, rd_mono (rd_then q1) fun xs H2 F2 ι2 S2 _ e2 w2 ⟨_, _, q2⟩ vs hvs => (q2 H2 F2 ι2 Ext.refl w2).2.2.2.2 (v :: vs) ⟨v, vs, rfl, w1.wd.rep e2 hv, hvs⟩⟩⟩
theorem run_kw {x : Str} {i : Nat} {fx : Addr} {fd : FuncData} {ps ks : List Str} {n np : Nat} {pk : List Nat} {m : Fn} {pins : List (Addr × Obj)} {σ : L2.St} {H : Hp} {s : Shared} {Q : VK} {us ws : List Value} {vs zs : List V}
    (G : FnG X.prog X.w X.K X.mg X.base i fx fd ps (SpM X.K X.mg n m)) (rm : Rm i X.A) (hb : BindsW X.K fd ps np ks pk) (px : Px X E) (I : Inv X pins σ H s) (r : Vals vs us) (rz : Vals zs ws) (l1 : vs.length = np) (l2 : zs.length = ks.length)
    (h : SpM X.K X.mg n m (pickL pk (vs ++ zs)) H Q (E σ)) : wpAny (model X.prog X.w) X.A (call (.ref fx) us (ks.zip ws)) (EP X pins σ Q) X.xe s := by
  have rr : Vals (pickL pk (vs ++ zs)) (pickL pk (us ++ ws)) := pick_vals (r.append rz) pk
  have bd := hb s us ws I.kIn (r.length.symm.trans l1) (rz.length.symm.trans l2)
  refine wpAny_call (codeAny_mono (runG G rm px I bd rr h) ?_)
  intro r s' hr
  match r, hr with
  | .error e, hr => exact hr
  | .ok (.ret u), hr => exact hr
theorem v_callK0 {x : Str} {i nk : Nat} {fx : Addr} {fd : FuncData} {ps ks : List Str} {n : Nat} {pk : List Nat} {m : Fn} (G : FnG X.prog X.w X.K X.mg X.base i fx fd ps (SpM X.K X.mg n m)) (rm : Rm i X.A) (hm : X.mg x = some (.ref fx))
    (hk : PySem.W.keepIn X.K (.ref fx) = true) (hb : BindsW X.K fd ps 0 ks pk) (px : Px X E) (hkw : VK' X E kws fk) (hnk : ks.length = nk := by rfl) (hg : Gl X x := by rfl) (hd : (x == ("__debug__" : Str)) = false := by decide)
    (hall : (backToKw pos (keywordEach kws X.env)).all (·.1.isSome) = true := by rfl) (hks : (backToKw pos (keywordEach kws X.env)).filterMap (·.1) = ks := by rfl)
    (hpl : ((backTo pos (starEach [] X.env)).any (·.1) || (backToKw pos (keywordEach kws X.env)).any (·.1.isNone)) = false := by rfl) : VE X E (.Call (.Name x p) [] kws pos) (mFnK n 0 nk pk m mNil fk) := fun g => by
  subst hnk
  constructor
  rintro pins s σ H Q I ⟨F, ι, env, S, w, q⟩
  refine wpAny_Call_Name_kw (ld_glob I hg hm ?_ hd)
  refine PySem.W.callWith_KW0 (h₀ := X.base) I.ok.mod.kin hk hall (thn ((hkw g).run pos pins s σ H (fun zs H2 => zs.length = ks.length ∧ SpM X.K X.mg n m (pickL pk ([] ++ zs)) H2 Q (E σ)) I ⟨F, ι, env, S, w, ?_⟩) fun ws s2 hh => ?_) hpl
  · have q : rdAt X.K X.mg g E σ H F ι env (fun d H' F' ι' _ => ∀ v, Rep X.K X.mg F' ι' H' d v → Q v H') ((fk env S).andThen fun zs S2 => if zs.length = ks.length then (if (pickL pk ([] ++ zs)).length = n then m (pickL pk ([] ++ zs)) S2 else .bad) else .bad) := q
    refine rd_mono (rd_then q) ?_
    rintro zs H2 F2 ι2 S2 - e2 w2 ⟨_, _, q2⟩ vs hvs
    by_cases hc : zs.length = ks.length
    · rw [if_pos hc] at q2
      exact ⟨hvs.len.trans hc, sp_of w2 (pick_reps (by simpa using hvs) pk) q2 fun d H' F' ι' S' z v hv => z.2.2 v hv⟩
    · rw [if_neg hc] at q2
      exact q2.elim
  · obtain ⟨zs, H2, I2, rz, l2, sp⟩ := hh
    refine ⟨I2.kIn, ?_⟩
    rw [hks]
    exact run_kw (x := x) (us := []) (vs := []) G rm hb px I2 .nil rz rfl l2 sp
end
end DL
namespace DL
open PySem PySem.Spec L2
open PyProof.Rows hiding St
section
variable {K : PySem.W.Frag} {mg : Str → Option Value} {F : Fz} {ι : List Addr} {H : Hp} {S : List Cell}
theorem Wd.cellNew {a : Addr} {c : Cell} (w : Wd K mg F ι H S) (hf : ¬ F a) (hi : a ∉ ι) (hc : CellOk K mg F ι H a c) : Wd K mg F (ι ++ [a]) H (S ++ [c]) := by
  have pre : ι <+: ι ++ [a] := List.prefix_append _ _
  have up : ∀ (b : Addr) c, CellOk K mg F ι H b c → CellOk K mg F (ι ++ [a]) H b c := fun b c h => cell_mono (fun _ h => h) (fun _ _ _ h => h) pre (fun _ h => h) c h
  refine ⟨w.fin, fun n d b h1 h2 hl => ?_, ?_, by rw [List.length_append, List.length_append, w.len]; rfl, fun n d b h1 h2 => ?_⟩
  · by_cases hn : n < S.length
    · rw [List.getElem?_append_left hn] at h1
      rw [List.getElem?_append_left (by rw [← w.len]; exact hn)] at h2
      exact w.cnf n d b h1 h2 hl
    · rw [List.getElem?_append_right (by rw [← w.len]; omega)] at h2
      have := List.mem_of_getElem? h2
      rw [List.mem_singleton.mp this]
      exact hf
  · rw [List.nodup_append]
    refine ⟨w.cnd, by simp, fun x hx y hy e => ?_⟩
    rw [List.mem_singleton] at hy
    subst hy e
    exact hi hx
  · by_cases hn : n < S.length
    · rw [List.getElem?_append_left hn] at h1
      rw [List.getElem?_append_left (by rw [← w.len]; exact hn)] at h2
      exact up b d (w.cells n d b h1 h2)
    · rw [List.getElem?_append_right (by omega)] at h1
      rw [List.getElem?_append_right (by rw [← w.len]; omega)] at h2
      have e0 : n - S.length = 0 := by
        cases z : n - S.length with
        | zero => rfl
        | succ k => rw [z] at h1; simp at h1
      rw [e0] at h1
      rw [← w.len, e0] at h2
      have h1 : some c = some d := h1
      have h2 : some a = some b := h2
      cases h1
      cases h2
      exact up _ _ hc
theorem cell_ext {H' : Hp} {F' : Fz} {ι' : List Addr} {a : Addr} (e : Ext H F ι H' F' ι') (n : H a = none) : Ext H F ι H' F' (ι' ++ [a]) :=
  ⟨e.sub, e.new, e.keep, e.mono, e.pre.trans (List.prefix_append _ _), fun b hb => (List.mem_append.mp hb).elim (e.cnew b) fun z => by rw [List.mem_singleton.mp z]; exact .inr n⟩
end
section
variable {X : Cx} {E : EE} {e a b : Expr} {fa : Ex (List D)} {f : Ex D} {pos : Pos}
def mCell (f : Ex (List D)) : Ex D := fun env S => (f env S).andThen fun xs S1 => .ok (.cell S1.length) (S1 ++ [.lst xs])
theorem v_cell (h : VO X E e fa) : VE X E e (mCell fa) := fun g => (h g).imp fun σ H Q ⟨F, ι, env, S, w, q⟩ => ⟨F, ι, env, S, w, by
  unfold mCell at q
  cases hf : fa env S with
  | bad => rw [hf] at q; exact q
  | ex c ns ds S1 => rw [hf] at q; exact q
  | ok xs S1 =>
    rw [hf] at q
    intro H1 F1 ι1 e1 w1 p vs h1 r nf nc n
    have w2 := w1.wd.cellNew (c := .lst xs) nf nc ⟨vs, h1, r⟩
    have e2 := cell_ext e1 n
    exact q H1 F1 (ι1 ++ [p]) e2 (w.step e2 w2) (.ref p) ⟨p, rfl, by rw [w1.wd.len]; simp⟩⟩
def divmodD : OpN := fun xs _ => match xs with
  | [.int i, .int j] => if 0 < j ∧ j < 1073741824 then some (.tup [.int (i / j), .int (i % j)]) else none
  | _ => none
theorem ok_divmod {K : PySem.W.Frag} {mg : Str → Option Value} : OkN K mg (fun xs H Q => ∃ i j, xs = [.int i, .int j] ∧ CDiv i j ∧ LayT H [.int (i / j), .int (i % j)] Q) divmodD := by
  intro H F ι S xs d vs Q w rx ho t
  unfold divmodD at ho
  split at ho
  · rename_i i j
    obtain ⟨v, u, rfl, hv, hu⟩ := two_of rx
    rw [show v = _ from hv, show u = _ from hu]
    split at ho
    · rename_i hc
      cases ho
      exact ⟨i, j, rfl, hc, t.layT w ⟨_, _, rfl, rfl, _, _, rfl, rfl, rfl⟩⟩
    · cases ho
  · cases ho
def isN (neg : Bool) : Op2 := fun x y _ => match y, x with
  | .non, .non => some (.bl (!neg))
  | .non, _ => some (.bl neg)
  | _, _ => none
def isNon : D → Bool
  | .non => true
  | _ => false
theorem rep_non {K : PySem.W.Frag} {mg : Str → Option Value} {F : Fz} {ι : List Addr} {H : Hp} {d : D} {v : V} (r : Rep K mg F ι H d v) : decide (v = .non) = isNon d := by
  cases d with
  | non => rw [show v = _ from r]; rfl
  | bl b => rw [show v = _ from r]; rfl
  | int b => rw [show v = _ from r]; rfl
  | str b => rw [show v = _ from r]; rfl
  | tup xs => obtain ⟨p, vs, rfl, _⟩ := r; rfl
  | lst xs => obtain ⟨p, vs, rfl, _⟩ := r; rfl
  | ro xs => obtain ⟨p, vs, rfl, _⟩ := r; rfl
  | dct ks xs => obtain ⟨p, vs, rfl, _⟩ := r; rfl
  | obj c ns xs => obtain ⟨p, C, dx, vs, rfl, _⟩ := r; rfl
  | cell n => obtain ⟨p, rfl, _⟩ := r; rfl
  | ty n => rw [show v = _ from r]; rfl
  | cls c => obtain ⟨p, rfl, _⟩ := r; rfl
  | exc c ns xs => obtain ⟨p, C, oe, u, od, vs, rfl, _⟩ := r; rfl
theorem ok_isN {K : PySem.W.Frag} {mg : Str → Option Value} : Ok2 K mg (fun x y H Q => y = .non ∧ Q (.bl (decide (x = .non))) H) (isN false) := by
  intro H F ι S x y d v u Q w rx ry ho t
  unfold isN at ho
  split at ho
  · cases ho
    rw [show u = _ from ry]
    exact ⟨rfl, by rw [rep_non rx]; exact t.here w rfl⟩
  · rename_i hx
    cases ho
    rw [show u = _ from ry]
    refine ⟨rfl, ?_⟩
    rw [rep_non rx]
    cases x with
    | non => exact absurd rfl hx
    | _ => exact t.here w rfl
  · cases ho
theorem v_dict0 : VE X E (.Dict [] [] pos) (mC (.dct [] [])) := fun g => (pe_lk pe_dnewK).imp fun σ H Q ⟨F, ι, env, S, w, q⟩ p hp => by
  refine ⟨p, .dK [], rfl, upd_same, True.intro, fun od => ?_⟩
  rw [upd_upd]
  obtain ⟨e, wd⟩ := w.wd.lay (o := .frz od (.dK [])) hp
  exact q _ _ _ e (w.step e wd) (.ref p) ⟨p, [], rfl, .inr rfl, ⟨od, upd_same⟩, rfl, rfl⟩
def mPar2 (i j : Nat) (fa : Ex (List D)) : Sm := fun env S => (fa env S).go env fun ds S1 => match ds with
  | [d, d'] => .nx ((env.set i (.val d)).set j (.val d')) S1
  | _ => .bad
theorem s_par (i j : Nat) {x y : Str} {px py pt : Pos} {kt k2 pt2} (ha : VA X E [a, b] fa) (hc : X.calm = true) (hN : X.N.Nodup) (hi : X.N[i]? = some x := by rfl) (hj : X.N[j]? = some y := by rfl) (hij : i ≠ j := by decide)
    (hx : X.env.scope.names.lookup x = some .local := by rfl) (hy : X.env.scope.names.lookup y = some .local := by rfl) (hw : swappedStores [.Tuple [.Name x px, .Name y py] kt pt] (.Tuple [a, b] k2 pt2) X.env = pure (some [x, y]) := by rfl)
    (hs : swapsWithSole [.Tuple [.Name x px, .Name y py] kt pt] (.Tuple [a, b] k2 pt2) pos.line X.env = pure false := by rfl) :
    VS X E (.Assign [.Tuple [.Name x px, .Name y py] kt pt] (.Tuple [a, b] k2 pt2) pos) (mPar2 i j fa) := fun g => (ps_par hc hN hi hj hij hx hy (ha g) hw hs).imp fun D σ H ⟨F, ι, env, S, w, q⟩ =>
  ⟨F, ι, env, S, w, rd_mono (rd_go w.wd q) fun ds H1 F1 ι1 S1 _ e1 w1 ⟨_, _, q1⟩ vs hvs => by
    match ds, q1 with
    | [d, d'], q1 =>
      obtain ⟨v, u, rfl, hv, hu⟩ := two_of hvs
      exact ⟨v, u, rfl, q1 _ H1 F1 ι1 ((w1.put i hv).put j hu) Grow.refl⟩⟩
end
end DL
namespace DL
open PySem PySem.Spec L2
open PyProof.Rows hiding St
theorem rm_caller {k : Nat} (h : Room k callerA) (hq : callerA.guards = some [] := by rfl) : Rm k callerA := ⟨h, hq⟩
def scriptD (ns : List Int) : D := .ro (ns.map .int)
theorem mean_of_law {P : Program} {w : World} {K : PySem.W.Frag} {mg mb : Str → Option Value} {k : Nat} {fa a : Addr} {fd : FuncData} {x : Str} {m : Fn} {s1 : Shared} {vs : List Value} {ns : List Int}
    (KX : K.In s1.heap) (nG : s1.heap.Ns mainGlobals mg) (nB : s1.heap.Ns builtinsNs mb) (bB : ∀ x : Str, x ≠ "__name__" → mb x = bootBuiltins x) (lim : s1.heap.NoLimit) (noG : s1.gens = #[])
    (at_ : s1.heap.get? a = some { cls := .type "list", data := .seq vs.toArray }) (hi : IntsAre vs ns) (hl : ns.length ≤ sizeLine) (rm : Rm k callerA)
    (G : ∀ base : Heap, K.In base → base.Ns mainGlobals mg → FnG P w K mg base k fa fd [x] (SpM K mg 1 m)) (bd : ∀ (s : Shared) (u : Value), BindsTo s fd ⟨[u], []⟩ [(x, u)])
    (hm : ∃ S', m [scriptD ns] [] = .ok (.bl true) S') :
    codeAny (model P w) callerA (.call (.ref fa) ⟨[.ref a], []⟩) (fun r s' => r = .ok (.ret (.bool true)) ∧ OldK s1.heap s'.heap ∧ s'.os = s1.os ∧ AllBare s'.gens) s1 := by
  have rv := vals_ints hi
  have lenV := hi.length
  let scr : HO := .frz { cls := .type "list", data := .seq vs.toArray } (.lst (ns.map V.int))
  have main : ∀ (H : Hp) (F0 : Fz), (∀ b u, H b = some u → b = a ∧ u = scr ∧ K.lookup a = none) → (∀ b, F0 b → H b ≠ none) → HOk P w H s1.heap → RoAt K F0 H a (ns.map V.int) →
      codeAny (model P w) callerA (.call (.ref fa) ⟨[.ref a], []⟩) (fun r s' => r = .ok (.ret (.bool true)) ∧ OldK s1.heap s'.heap ∧ s'.os = s1.os ∧ AllBare s'.gens) s1 := by
    intro H F0 only f0 hok ro
    have hid : ∀ {b : Addr} {o : Obj}, s1.heap.get? b = some o → H b = none → (hidT s1.heap H).get? b = some o := fun e n => hidT_get e n
    have free : ∀ {b : Addr} {o : Obj}, s1.heap.get? b = some o → (b = a → o = { cls := .type "list", data := .seq vs.toArray } → K.lookup a = none → False) → H b = none := fun {b o} e no => by
      cases q : H b with
      | none => rfl
      | some u =>
        obtain ⟨rfl, _, hK⟩ := only b u q
        rw [at_] at e
        exact (no rfl (by cases e; rfl) hK).elim
    have nsT : ∀ {b : Addr} {mm : Str → Option Value}, s1.heap.Ns b mm → (hidT s1.heap H).Ns b mm := fun {b mm} ⟨o, es, ep, e, d, r⟩ => ⟨o, es, ep, hid e (free e fun _ z _ => by
      rw [z] at d
      have d' : Data.seq vs.toArray _ = Data.dict es ep := d
      cases d'), d, r⟩
    have kin : K.In (hidT s1.heap H) := fun b o e => hid (KX b o e) (free (KX b o e) fun z _ hK => by
      rw [z, hK] at e
      cases e)
    have md : Mod K mg (hidT s1.heap H) := ⟨kin, nsT nG, ⟨mb, nsT nB, bB⟩, let ⟨mc, h1, h2⟩ := lim; ⟨mc, nsT h1, h2⟩⟩
    have e0 : Env0 P w K mg (hidT s1.heap H) callerA [] s1 H := ⟨rfl, md, fun b o e => of_hidT e, Nat.le_of_eq (hidT_size _ _), trivial, fun b hb => absurd (show b ∈ ([] : List Addr) from hb) (by simp), hok, .of_eq noG⟩
    have wd : Wd K mg F0 [] H [] := ⟨f0, fun n c b h _ => by simp at h, by simp, rfl, fun n c b h _ => by simp at h⟩
    have sp : SpM K mg 1 m [.ref a] H (fun v _ => v = .bl true) (fun _ _ _ => False) := by
      refine ⟨rfl, F0, [], [scriptD ns], [], wd, .one ⟨a, ns.map V.int, rfl, ro, reps_ints ns⟩, ?_⟩
      obtain ⟨S', hS⟩ := hm
      rw [hS]
      exact fun v H' F' ι' _ _ hv => hv
    refine codeAny_mono ((G _ kin (nsT nG)).go callerA [] s1 H ⟨[.ref a], []⟩ [.ref a] [.ref a] _ _ rm e0 (bd s1 (.ref a)) (.cons rfl .nil) sp) fun r s' h => ?_
    cases r with
    | error e =>
      obtain ⟨_, _, _, _, _, _, _, _, _, _, _, _, h⟩ := h
      exact h.elim
    | ok fl =>
      cases fl with
      | ret u =>
        obtain ⟨v, H', os, bare, un, hok', r', q⟩ := h
        obtain rfl : v = .bl true := q
        obtain rfl : u = Value.bool true := r'
        refine ⟨rfl, OldK.of_keep fun b o e => ?_, os, bare⟩
        cases q : H b with
        | none => exact un.keep b o e q (by intro z; exact absurd (show b ∈ ([] : List Addr) from z) (by simp)) (by simp)
        | some u =>
          obtain ⟨rfl, rfl, _⟩ := only b u q
          obtain ⟨e1, _⟩ := hok' b _ (un.frzs b _ _ q)
          rw [at_] at e
          cases e
          exact e1
      | _ => exact False.elim h
  cases hk : K.lookup a with
  | some o =>
    have e := KX a o hk
    rw [at_] at e
    cases e
    exact main noH (fun _ => False) (fun b u z => nomatch z) (fun _ z => z.elim) (fun b u z => nomatch z)
      (.inr (.inr ⟨_, vs.toArray, _, hk, rfl, rfl, rfl, by rw [List.size_toArray, lenV]; exact hl, by simpa using rv⟩))
  | none =>
    refine main (upd noH a scr) (fun b => b = a) (fun b u z => ?_) (fun b z => ?_) (fun b u z => ?_) (.inl ⟨rfl, .inr ⟨_, upd_same⟩⟩)
    · by_cases hb : b = a
      · subst hb
        rw [upd_same] at z
        cases z
        exact ⟨rfl, rfl, hk⟩
      · rw [upd_ne hb] at z
        exact nomatch z
    · rw [z, upd_same]; simp
    · by_cases hb : b = a
      · subst hb
        rw [upd_same] at z
        cases z
        exact ⟨at_, by rw [List.length_map]; exact hl, vs, _, rv, at_⟩
      · rw [upd_ne hb] at z
        exact nomatch z
end DL
namespace DL
open PySem PySem.Spec L2
open PyProof.Rows hiding St
def recF (K : PySem.W.Frag) (p : Addr) (T : String) : Addr := match PySem.W.recIn K p T with
  | some (.ref f :: _) => f
  | _ => 0
def recB (K : PySem.W.Frag) (p : Addr) (T : String) : Bool := match PySem.W.recIn K p T with
  | some (.ref _ :: _) => true
  | _ => false
theorem recB_ok {K : PySem.W.Frag} {p : Addr} {T : String} (h : recB K p T = true) : ∃ rest, PySem.W.recIn K p T = some (.ref (recF K p T) :: rest) := by
  unfold recB at h
  unfold recF
  split at h
  · rename_i f r e
    exact ⟨r, by rw [e]⟩
  · cases h
theorem lst_ex {K : PySem.W.Frag} {x : Str} {vs : List He.Dv} {us : List V} (h : He.lstB K x vs = true) (hu : vs.map (He.Dv.v K) = us) :
    ∃ (I : Array Value) (n : Nat) (S : Array (Option Value)), K.lookup (He.ga K x) = some ⟨.type "list", none, .seq I n, S⟩ ∧ I.size ≤ sizeLine ∧ Vals us I.toList := by
  subst hu
  unfold He.lstB at h
  cases q : K.lookup (He.ga K x) with
  | none =>
    rw [q] at h
    cases h
  | some o =>
    obtain ⟨oc, od, dt, osl⟩ := o
    rw [q] at h
    cases oc with
    | type c =>
      cases od with
      | none =>
        cases dt with
        | seq its n =>
          obtain ⟨h1, h2⟩ := He.ba (show (decide (c = "list") && (decide (its.size ≤ sizeLine) && He.relAll (vs.map (He.Dv.v K)) its.toList)) = true from h)
          obtain ⟨h3, h4⟩ := He.ba h2
          have e : c = "list" := of_decide_eq_true h1
          subst e
          exact ⟨its, n, osl, rfl, of_decide_eq_true h3, He.relAll_ok h4⟩
        | _ => cases h
      | some a => cases dt <;> cases h
    | _ => cases od <;> cases dt <;> cases h
theorem tup_ex {K : PySem.W.Frag} {x : Str} {vs : List He.Dv} {us : List V} (h : He.tupB K x vs = true) (hu : vs.map (He.Dv.v K) = us) :
    ∃ (D : Option Addr) (I : Array Value) (n : Nat) (S : Array (Option Value)), K.lookup (He.ga K x) = some ⟨.type "tuple", D, .seq I n, S⟩ ∧ I.size ≤ sizeLine ∧ Vals us I.toList := by
  subst hu
  unfold He.tupB at h
  cases q : K.lookup (He.ga K x) with
  | none =>
    rw [q] at h
    cases h
  | some o =>
    obtain ⟨oc, od, dt, osl⟩ := o
    rw [q] at h
    cases oc with
    | type c =>
      cases dt with
      | seq its n =>
        obtain ⟨h1, h2⟩ := He.ba (show (decide (c = "tuple") && (decide (its.size ≤ sizeLine) && He.relAll (vs.map (He.Dv.v K)) its.toList)) = true from h)
        obtain ⟨h3, h4⟩ := He.ba h2
        have e : c = "tuple" := of_decide_eq_true h1
        subst e
        exact ⟨od, its, n, osl, rfl, of_decide_eq_true h3, He.relAll_ok h4⟩
      | _ => cases h
    | _ => cases dt <;> cases h
def tupN (K : PySem.W.Frag) (x : Str) : Bool := match K.lookup (He.ga K x) with
  | some o => o.dict.isNone
  | none => false
theorem tup_exN {K : PySem.W.Frag} {x : Str} {vs : List He.Dv} {us : List V} (h : He.tupB K x vs = true) (hn : tupN K x = true) (hu : vs.map (He.Dv.v K) = us) :
    ∃ (I : Array Value) (n : Nat) (S : Array (Option Value)), K.lookup (He.ga K x) = some ⟨.type "tuple", none, .seq I n, S⟩ ∧ I.size ≤ sizeLine ∧ Vals us I.toList := by
  obtain ⟨D, I, n, S, e, r⟩ := tup_ex h hu
  unfold tupN at hn
  rw [e] at hn
  obtain rfl : D = none := Option.isNone_iff_eq_none.mp hn
  exact ⟨I, n, S, e, r⟩
def codeA (g : Addr → Option Obj) (a : Addr) : List Addr := a :: (match g a with
  | some ⟨_, _, .func fd, _⟩ => He.refV fd.code
  | _ => [])
def holdA (g : Addr → Option Obj) (a : Addr) : List Addr := match g a with
  | some ⟨_, _, .func fd, _⟩ => a :: He.refV fd.code
  | some o => a :: (He.refsO o).flatMap (codeA g)
  | none => []
def atN (g : Addr → Option Obj) (d : Addr) (x : Str) : List Addr := match g d with
  | some ⟨_, _, .dict es _, _⟩ => (match es.toList.find? fun e => e.key.isStr x with
    | some e => He.refV e.val
    | none => [])
  | _ => []
def clsA (g : Addr → Option Obj) (ms : List Str) (C : Addr) : List Addr := match g C with
  | some ⟨_, _, .cls cd, _⟩ => C :: cd.ns :: ms.flatMap fun m => (atN g cd.ns m).flatMap (holdA g)
  | _ => [C]
def asQ (fs : List Str) (cs : List (Str × List Str)) (g : Addr → Option Obj) : List Addr :=
  mainGlobals :: PySem.cStatics :: sysModules :: ((cs.flatMap fun c => (atN g mainGlobals c.1).flatMap (clsA g c.2)) ++ fs.flatMap fun f => (atN g mainGlobals f).flatMap (codeA g))
def obsQ (chk : PySem.W.Frag → Bool) (fn : List He5.DefA) (K : PySem.W.Frag) : He.AlD := (chk K && fn.all fun d => d.ok K, fn.map fun d => He5.fnA K (d.at_ K))
def SaysQ (chk : PySem.W.Frag → Bool) (fn : List He5.DefA) (K : PySem.W.Frag) : Prop := obsQ chk fn K = He5.valA fn
def hookQ (as : (Addr → Option Obj) → List Addr) (chk : PySem.W.Frag → Bool) (fn : List He5.DefA) : PySem.W.Hook where
  α := He.AlD
  obs := fun s => obsQ chk fn (He.frG s.heap.get? (as s.heap.get?))
  val := fun _ => He5.valA fn
  says := fun _ h => ∃ K : PySem.W.Frag, K.In h ∧ SaysQ chk fn K
  of := fun _ _ e => ⟨_, He.frG_in, e⟩
  keeps := fun _ _ _ ⟨K, hK, c⟩ k => ⟨K, PySem.W.Frag.In.keeps hK k, c⟩
def obQ (as : (Addr → Option Obj) → List Addr) (chk : PySem.W.Frag → Bool) (fn : List He5.DefA) (s : PySem.W.SharedT) : He.AlD := obsQ chk fn (He.frG (HandSHeadRun.getT s) (as (HandSHeadRun.getT s)))
theorem obQ_eq {as : (Addr → Option Obj) → List Addr} {chk : PySem.W.Frag → Bool} {fn : List He5.DefA} (s : PySem.W.SharedT) : obQ as chk fn s = (hookQ as chk fn).obs s.abs := by
  have e : HandSHeadRun.getT s = s.abs.heap.get? := funext (HandSHeadRun.getT_eq s)
  unfold obQ
  rw [e] <;> rfl
section
variable {chk : PySem.W.Frag → Bool} {fn : List He5.DefA} {K : PySem.W.Frag}
theorem SaysQ.chk0 (c : SaysQ chk fn K) : chk K = true := (He.ba (show (chk K && fn.all fun d => d.ok K) = true from congrArg (fun z : He.AlD => z.1) c)).1
theorem SaysQ.def_ (c : SaysQ chk fn K) (i : Nat) {d : He5.DefA} (h : fn[i]? = some d := by rfl) : ∃ fd, L2.FunD K d.name d.qual d.params d.body d.scope (d.dvs K) (d.kws K) (d.at_ K) fd := by
  have c2 := (He.ba (show (chk K && fn.all fun d => d.ok K) = true from congrArg (fun z : He.AlD => z.1) c)).2
  have e : fn.map (fun d => He5.fnA K (d.at_ K)) = fn.map He5.DefA.val := congrArg (fun z : He.AlD => z.2) c
  have e2 : (fn.map fun d => He5.fnA K (d.at_ K))[i]? = (fn.map He5.DefA.val)[i]? := by rw [e]
  rw [List.getElem?_map, List.getElem?_map, h] at e2
  exact He5.DefA.funD (Option.some.inj e2) (List.all_eq_true.mp c2 d (List.mem_of_getElem? h))
end
abbrev defQ (at_ : PySem.W.Frag → Addr) (x q : Str) (st : Stmt) : He5.DefA := ⟨at_, x, q, defArgs st, defBody st, defScope st, [], []⟩
theorem SaysQ.fun_ {chk : PySem.W.Frag → Bool} {fn : List He5.DefA} {K : PySem.W.Frag} (c : SaysQ chk fn K) (i : Nat) {at_ : PySem.W.Frag → Addr} {x q : Str} {st : Stmt} (h : fn[i]? = some (defQ at_ x q st)) : ∃ fd, L2.Fun K x q st (at_ K) fd := by
  obtain ⟨fd, F⟩ := c.def_ i h
  exact ⟨fd, He5.fun_of F⟩
theorem walkQ {l : PySem.W.OpenLaw} {n k : Nat} {q : Program} {loose : List Str} {XP : (Str → Option Value) → Heap → Prop} {YP : World → Heap → Prop} {d : DefRec} {x : Str} {m : Fn}
    (hn : l.most = some n) (hn2 : n ≤ sizeLine) (hdf : d.params.defaults = []) (hr : Room k callerA)
    (F : ∀ (w : World) (mg : Str → Option Value) (fa : Addr) (h : Heap), YP w h → h.Ns mainGlobals mg → mg d.name = some (.ref fa) →
      ∃ K : PySem.W.Frag, K.In h ∧ ∃ fd : FuncData, (∀ (s : Shared) (u : Value), BindsTo s fd ⟨[u], []⟩ [(x, u)]) ∧
        ∀ base : Heap, K.In base → base.Ns mainGlobals mg → FnG l.prog w K mg base k fa fd [x] (SpM K mg 1 m))
    (hm : ∀ ns : List Int, ns.length ≤ n → ∃ S', m [scriptD ns] [] = .ok (.bl true) S') :
    PySem.W.WalkO q loose XP YP l.row.toRowW d [] (fun f vs => PySem.call f vs) := by
  refine Att.attach_call hn hdf fun w s0 s1 mg mb fa o pm cd doc a vs ns G Y ho hd hcd hmg hobj hints hlen hg => ?_
  obtain ⟨K, KX, fd, hb, hF⟩ := F w mg fa _ Y G.T.g hmg
  exact mean_of_law KX G.T.g G.T.b G.T.builtins G.T.nolimit hg hobj hints (Nat.le_trans hlen hn2) (rm_caller hr) hF hb (hm ns hlen)
end DL
namespace K78
open PySem PySem.Spec L2 DL
open PyProof.Rows hiding St
def topS (i : Nat) : Stmt := PySem.Challenge.pw_bentthrough_k78_claims_that_are_none.main.body.getD i (.Pass ⟨0, 0, 0, 0⟩)
abbrev si_InvalidKnots : Stmt := match topS 4 with
  | .ClassDef _ _ _ b _ _ _ _ _ _ _ => b.getD 0 (.Pass ⟨0, 0, 0, 0⟩)
  | _ => .Pass ⟨0, 0, 0, 0⟩
abbrev si_InvalidDegree : Stmt := match topS 3 with
  | .ClassDef _ _ _ b _ _ _ _ _ _ _ => b.getD 0 (.Pass ⟨0, 0, 0, 0⟩)
  | _ => .Pass ⟨0, 0, 0, 0⟩
abbrev si_InvalidText : Stmt := match topS 2 with
  | .ClassDef _ _ _ b _ _ _ _ _ _ _ => b.getD 0 (.Pass ⟨0, 0, 0, 0⟩)
  | _ => .Pass ⟨0, 0, 0, 0⟩
abbrev s_l_well : Stmt := topS 56
abbrev s_p_is_integer : Stmt := topS 13
abbrev s_p_is_between : Stmt := topS 14
abbrev s_p_is_place : Stmt := topS 16
abbrev s_p_places_fault : Stmt := topS 18
abbrev s_p_is_height : Stmt := topS 17
abbrev s_p_heights_fault : Stmt := topS 19
abbrev s_p_number_in : Stmt := topS 15
abbrev s_p_knots_fault : Stmt := topS 22
abbrev s_c_Frame___init__ : Stmt := match topS 23 with
  | .ClassDef _ _ _ b _ _ _ _ _ _ _ => b.getD 0 (.Pass ⟨0, 0, 0, 0⟩)
  | _ => .Pass ⟨0, 0, 0, 0⟩
abbrev s_c_Frame_read : Stmt := match topS 23 with
  | .ClassDef _ _ _ b _ _ _ _ _ _ _ => b.getD 1 (.Pass ⟨0, 0, 0, 0⟩)
  | _ => .Pass ⟨0, 0, 0, 0⟩
abbrev s_p_frame_in : Stmt := topS 36
abbrev s_p_is_count : Stmt := topS 47
abbrev s_c_Frame_hills : Stmt := match topS 23 with
  | .ClassDef _ _ _ b _ _ _ _ _ _ _ => b.getD 4 (.Pass ⟨0, 0, 0, 0⟩)
  | _ => .Pass ⟨0, 0, 0, 0⟩
abbrev s_p_common : Stmt := topS 27
abbrev s_p_ratio : Stmt := topS 28
abbrev s_p_times : Stmt := topS 30
abbrev s_p_plus : Stmt := topS 29
abbrev s_p_total : Stmt := topS 31
abbrev s_p_joined : Stmt := topS 32
abbrev s_p_is_ratio : Stmt := topS 34
abbrev s_p_are_fractions : Stmt := topS 39
abbrev s_c_Frame_degree : Stmt := match topS 23 with
  | .ClassDef _ _ _ b _ _ _ _ _ _ _ => b.getD 2 (.Pass ⟨0, 0, 0, 0⟩)
  | _ => .Pass ⟨0, 0, 0, 0⟩
abbrev s_c_Frame_knots : Stmt := match topS 23 with
  | .ClassDef _ _ _ b _ _ _ _ _ _ _ => b.getD 3 (.Pass ⟨0, 0, 0, 0⟩)
  | _ => .Pass ⟨0, 0, 0, 0⟩
abbrev s_p_hill_at : Stmt := topS 37
abbrev s_p_hills_at : Stmt := topS 38
abbrev s_p_rows_at : Stmt := topS 48
abbrev s_p_shows_through : Stmt := topS 49
abbrev s_p_are_weights : Stmt := topS 40
abbrev s_p_weighed : Stmt := topS 42
abbrev s_p_are_silent : Stmt := topS 43
abbrev s_p_shows_never : Stmt := topS 50
abbrev s_p_is_pair : Stmt := topS 41
abbrev s_p_shows_rank : Stmt := topS 51
abbrev s_p_are_in_steps : Stmt := topS 44
abbrev s_p_shows_below : Stmt := topS 52
abbrev s_p_is_less : Stmt := topS 33
abbrev s_p_are_ascending : Stmt := topS 45
abbrev s_p_shows_turns : Stmt := topS 53
abbrev s_p_accepts : Stmt := topS 54
abbrev s_l_draw : Stmt := topS 57
abbrev s_l_one : Stmt := topS 58
abbrev s_l_bank : Stmt := topS 59
abbrev s_l_words : Stmt := topS 60
abbrev s_l_texts : Stmt := topS 61
abbrev s_l_thirds : Stmt := topS 62
abbrev s_l_fourths : Stmt := topS 63
abbrev s_l_none : Stmt := topS 64
abbrev s_l_right : Stmt := topS 65
abbrev s_p_law : Stmt := topS 66
abbrev ad_l_well (K : PySem.W.Frag) : Addr := He.ga K "_law_well"
abbrev ad_p_is_integer (K : PySem.W.Frag) : Addr := He.ga K "is_integer"
abbrev ad_p_is_between (K : PySem.W.Frag) : Addr := He.ga K "is_between"
abbrev ad_p_is_place (K : PySem.W.Frag) : Addr := He.ga K "is_place"
abbrev ad_p_places_fault (K : PySem.W.Frag) : Addr := He.ga K "places_fault"
abbrev ad_p_is_height (K : PySem.W.Frag) : Addr := He.ga K "is_height"
abbrev ad_p_heights_fault (K : PySem.W.Frag) : Addr := He.ga K "heights_fault"
abbrev ad_p_number_in (K : PySem.W.Frag) : Addr := He.ga K "number_in"
abbrev ad_p_knots_fault (K : PySem.W.Frag) : Addr := He.ga K "knots_fault"
abbrev C_Frame (K : PySem.W.Frag) : Addr := He.ga K "Frame"
abbrev ad_c_Frame___init__ (K : PySem.W.Frag) : Addr := He.ma K (C_Frame K) "__init__"
abbrev pc_c_Frame_read (K : PySem.W.Frag) : Addr := He.ma K (C_Frame K) "read"
abbrev ad_c_Frame_read (K : PySem.W.Frag) : Addr := He5.wf K (C_Frame K) "classmethod" "read"
abbrev ad_p_frame_in (K : PySem.W.Frag) : Addr := He.ga K "frame_in"
abbrev ad_p_is_count (K : PySem.W.Frag) : Addr := He.ga K "is_count"
abbrev pq_c_Frame_hills (K : PySem.W.Frag) : Addr := He.ma K (C_Frame K) "hills"
abbrev ad_c_Frame_hills (K : PySem.W.Frag) : Addr := recF K (pq_c_Frame_hills K) "property"
abbrev ad_p_common (K : PySem.W.Frag) : Addr := He.ga K "common"
abbrev ad_p_ratio (K : PySem.W.Frag) : Addr := He.ga K "ratio"
abbrev ad_p_times (K : PySem.W.Frag) : Addr := He.ga K "times"
abbrev ad_p_plus (K : PySem.W.Frag) : Addr := He.ga K "plus"
abbrev ad_p_total (K : PySem.W.Frag) : Addr := He.ga K "total"
abbrev ad_p_joined (K : PySem.W.Frag) : Addr := He.ga K "joined"
abbrev ad_p_is_ratio (K : PySem.W.Frag) : Addr := He.ga K "is_ratio"
abbrev ad_p_are_fractions (K : PySem.W.Frag) : Addr := He.ga K "are_fractions"
abbrev pq_c_Frame_degree (K : PySem.W.Frag) : Addr := He.ma K (C_Frame K) "degree"
abbrev ad_c_Frame_degree (K : PySem.W.Frag) : Addr := recF K (pq_c_Frame_degree K) "property"
abbrev pq_c_Frame_knots (K : PySem.W.Frag) : Addr := He.ma K (C_Frame K) "knots"
abbrev ad_c_Frame_knots (K : PySem.W.Frag) : Addr := recF K (pq_c_Frame_knots K) "property"
abbrev ad_p_hill_at (K : PySem.W.Frag) : Addr := He.ga K "hill_at"
abbrev ad_p_hills_at (K : PySem.W.Frag) : Addr := He.ga K "hills_at"
abbrev ad_p_rows_at (K : PySem.W.Frag) : Addr := He.ga K "rows_at"
abbrev ad_p_shows_through (K : PySem.W.Frag) : Addr := He.ga K "shows_through"
abbrev ad_p_are_weights (K : PySem.W.Frag) : Addr := He.ga K "are_weights"
abbrev ad_p_weighed (K : PySem.W.Frag) : Addr := He.ga K "weighed"
abbrev ad_p_are_silent (K : PySem.W.Frag) : Addr := He.ga K "are_silent"
abbrev ad_p_shows_never (K : PySem.W.Frag) : Addr := He.ga K "shows_never"
abbrev ad_p_is_pair (K : PySem.W.Frag) : Addr := He.ga K "is_pair"
abbrev ad_p_shows_rank (K : PySem.W.Frag) : Addr := He.ga K "shows_rank"
abbrev ad_p_are_in_steps (K : PySem.W.Frag) : Addr := He.ga K "are_in_steps"
abbrev ad_p_shows_below (K : PySem.W.Frag) : Addr := He.ga K "shows_below"
abbrev ad_p_is_less (K : PySem.W.Frag) : Addr := He.ga K "is_less"
abbrev ad_p_are_ascending (K : PySem.W.Frag) : Addr := He.ga K "are_ascending"
abbrev ad_p_shows_turns (K : PySem.W.Frag) : Addr := He.ga K "shows_turns"
abbrev ad_p_accepts (K : PySem.W.Frag) : Addr := He.ga K "accepts"
abbrev ad_l_draw (K : PySem.W.Frag) : Addr := He.ga K "_law_draw"
abbrev ad_l_one (K : PySem.W.Frag) : Addr := He.ga K "_law_one"
abbrev ad_l_bank (K : PySem.W.Frag) : Addr := He.ga K "_law_bank"
abbrev ad_l_words (K : PySem.W.Frag) : Addr := He.ga K "_law_words"
abbrev ad_l_texts (K : PySem.W.Frag) : Addr := He.ga K "_law_texts"
abbrev ad_l_thirds (K : PySem.W.Frag) : Addr := He.ga K "_law_thirds"
abbrev ad_l_fourths (K : PySem.W.Frag) : Addr := He.ga K "_law_fourths"
abbrev ad_l_none (K : PySem.W.Frag) : Addr := He.ga K "_law_none"
abbrev ad_l_right (K : PySem.W.Frag) : Addr := He.ga K "_law_right"
abbrev ad_p_law (K : PySem.W.Frag) : Addr := He.ga K "law"
abbrev T_HEAD (K : PySem.W.Frag) : Addr := He.ga K "HEAD"
abbrev T_NONE (K : PySem.W.Frag) : Addr := He.ga K "NONE"
abbrev T_ONE (K : PySem.W.Frag) : Addr := He.ga K "ONE"
abbrev C_InvalidText (K : PySem.W.Frag) : Addr := He.ga K "InvalidText"
abbrev C_InvalidDegree (K : PySem.W.Frag) : Addr := He.ga K "InvalidDegree"
abbrev C_InvalidKnots (K : PySem.W.Frag) : Addr := He.ga K "InvalidKnots"
abbrev fi_InvalidKnots (K : PySem.W.Frag) : Addr := He.ma K (C_InvalidKnots K) "__init__"
abbrev fi_InvalidDegree (K : PySem.W.Frag) : Addr := He.ma K (C_InvalidDegree K) "__init__"
abbrev fi_InvalidText (K : PySem.W.Frag) : Addr := He.ma K (C_InvalidText K) "__init__"
abbrev FA0 (K : PySem.W.Frag) : Prop :=
  PySem.W.nsIn K mainGlobals "_law_well" = some (some (.ref (ad_l_well K))) ∧
  PySem.W.nsIn K mainGlobals "is_integer" = some (some (.ref (ad_p_is_integer K))) ∧
  PySem.W.nsIn K mainGlobals "is_between" = some (some (.ref (ad_p_is_between K))) ∧
  PySem.W.nsIn K mainGlobals "is_place" = some (some (.ref (ad_p_is_place K))) ∧
  PySem.W.nsIn K mainGlobals "places_fault" = some (some (.ref (ad_p_places_fault K))) ∧
  PySem.W.nsIn K mainGlobals "is_height" = some (some (.ref (ad_p_is_height K))) ∧
  PySem.W.nsIn K mainGlobals "heights_fault" = some (some (.ref (ad_p_heights_fault K))) ∧
  PySem.W.nsIn K mainGlobals "number_in" = some (some (.ref (ad_p_number_in K))) ∧
  PySem.W.nsIn K mainGlobals "knots_fault" = some (some (.ref (ad_p_knots_fault K))) ∧
  PySem.W.nsIn K mainGlobals "Frame" = some (some (.ref (C_Frame K)))
abbrev FA1 (K : PySem.W.Frag) : Prop :=
  PySem.W.findIn K (.ref (C_Frame K)) "__init__" = some (some (.ref (ad_c_Frame___init__ K))) ∧
  He5.wrapB K (C_Frame K) "classmethod" "classmethod.__get__" "read" = true ∧
  PySem.W.fnIn K (ad_c_Frame_read K) = true ∧
  PySem.W.readsIn K (C_Frame K) (.type "type") = true ∧
  PySem.W.specialIn K (.ref (C_Frame K)) "__getattribute__" = some (some (.builtin "type.__getattribute__")) ∧
  PySem.W.nsIn K mainGlobals "frame_in" = some (some (.ref (ad_p_frame_in K))) ∧
  PySem.W.nsIn K mainGlobals "is_count" = some (some (.ref (ad_p_is_count K))) ∧
  PySem.W.findIn K (.ref (C_Frame K)) "hills" = some (some (.ref (pq_c_Frame_hills K))) ∧
  PySem.W.specialIn K (.ref (pq_c_Frame_hills K)) "__get__" = some (some (.builtin "property.__get__")) ∧
  PySem.W.takesIn K (.ref (pq_c_Frame_hills K)) = some true
abbrev FA2 (K : PySem.W.Frag) : Prop :=
  recB K (pq_c_Frame_hills K) "property" = true ∧
  PySem.W.nsIn K mainGlobals "common" = some (some (.ref (ad_p_common K))) ∧
  PySem.W.nsIn K mainGlobals "ratio" = some (some (.ref (ad_p_ratio K))) ∧
  PySem.W.nsIn K mainGlobals "times" = some (some (.ref (ad_p_times K))) ∧
  PySem.W.nsIn K mainGlobals "plus" = some (some (.ref (ad_p_plus K))) ∧
  PySem.W.nsIn K mainGlobals "total" = some (some (.ref (ad_p_total K))) ∧
  PySem.W.nsIn K mainGlobals "joined" = some (some (.ref (ad_p_joined K))) ∧
  PySem.W.nsIn K mainGlobals "is_ratio" = some (some (.ref (ad_p_is_ratio K))) ∧
  PySem.W.nsIn K mainGlobals "are_fractions" = some (some (.ref (ad_p_are_fractions K))) ∧
  PySem.W.findIn K (.ref (C_Frame K)) "degree" = some (some (.ref (pq_c_Frame_degree K)))
abbrev FA3 (K : PySem.W.Frag) : Prop :=
  PySem.W.specialIn K (.ref (pq_c_Frame_degree K)) "__get__" = some (some (.builtin "property.__get__")) ∧
  PySem.W.takesIn K (.ref (pq_c_Frame_degree K)) = some true ∧
  recB K (pq_c_Frame_degree K) "property" = true ∧
  PySem.W.findIn K (.ref (C_Frame K)) "knots" = some (some (.ref (pq_c_Frame_knots K))) ∧
  PySem.W.specialIn K (.ref (pq_c_Frame_knots K)) "__get__" = some (some (.builtin "property.__get__")) ∧
  PySem.W.takesIn K (.ref (pq_c_Frame_knots K)) = some true ∧
  recB K (pq_c_Frame_knots K) "property" = true ∧
  PySem.W.nsIn K mainGlobals "hill_at" = some (some (.ref (ad_p_hill_at K))) ∧
  PySem.W.nsIn K mainGlobals "hills_at" = some (some (.ref (ad_p_hills_at K))) ∧
  PySem.W.nsIn K mainGlobals "rows_at" = some (some (.ref (ad_p_rows_at K)))
abbrev FA4 (K : PySem.W.Frag) : Prop :=
  PySem.W.nsIn K mainGlobals "shows_through" = some (some (.ref (ad_p_shows_through K))) ∧
  PySem.W.nsIn K mainGlobals "are_weights" = some (some (.ref (ad_p_are_weights K))) ∧
  PySem.W.nsIn K mainGlobals "weighed" = some (some (.ref (ad_p_weighed K))) ∧
  PySem.W.nsIn K mainGlobals "are_silent" = some (some (.ref (ad_p_are_silent K))) ∧
  PySem.W.nsIn K mainGlobals "shows_never" = some (some (.ref (ad_p_shows_never K))) ∧
  PySem.W.nsIn K mainGlobals "is_pair" = some (some (.ref (ad_p_is_pair K))) ∧
  PySem.W.nsIn K mainGlobals "shows_rank" = some (some (.ref (ad_p_shows_rank K))) ∧
  PySem.W.nsIn K mainGlobals "are_in_steps" = some (some (.ref (ad_p_are_in_steps K))) ∧
  PySem.W.nsIn K mainGlobals "shows_below" = some (some (.ref (ad_p_shows_below K))) ∧
  PySem.W.nsIn K mainGlobals "is_less" = some (some (.ref (ad_p_is_less K)))
abbrev FA5 (K : PySem.W.Frag) : Prop :=
  PySem.W.nsIn K mainGlobals "are_ascending" = some (some (.ref (ad_p_are_ascending K))) ∧
  PySem.W.nsIn K mainGlobals "shows_turns" = some (some (.ref (ad_p_shows_turns K))) ∧
  PySem.W.nsIn K mainGlobals "accepts" = some (some (.ref (ad_p_accepts K))) ∧
  PySem.W.nsIn K mainGlobals "_law_draw" = some (some (.ref (ad_l_draw K))) ∧
  PySem.W.nsIn K mainGlobals "_law_one" = some (some (.ref (ad_l_one K))) ∧
  PySem.W.nsIn K mainGlobals "_law_bank" = some (some (.ref (ad_l_bank K))) ∧
  PySem.W.nsIn K mainGlobals "_law_words" = some (some (.ref (ad_l_words K))) ∧
  PySem.W.nsIn K mainGlobals "_law_texts" = some (some (.ref (ad_l_texts K))) ∧
  PySem.W.nsIn K mainGlobals "_law_thirds" = some (some (.ref (ad_l_thirds K))) ∧
  PySem.W.nsIn K mainGlobals "_law_fourths" = some (some (.ref (ad_l_fourths K)))
abbrev FA6 (K : PySem.W.Frag) : Prop :=
  PySem.W.nsIn K mainGlobals "_law_none" = some (some (.ref (ad_l_none K))) ∧
  PySem.W.nsIn K mainGlobals "_law_right" = some (some (.ref (ad_l_right K))) ∧
  PySem.W.nsIn K mainGlobals "law" = some (some (.ref (ad_p_law K))) ∧
  PySem.W.nsIn K mainGlobals "abs" = some none ∧
  PySem.W.nsIn K mainGlobals "all" = some none ∧
  PySem.W.nsIn K mainGlobals "any" = some none ∧
  PySem.W.nsIn K mainGlobals "bool" = some none ∧
  PySem.W.nsIn K mainGlobals "divmod" = some none ∧
  PySem.W.nsIn K mainGlobals "enumerate" = some none ∧
  PySem.W.nsIn K mainGlobals "int" = some none
abbrev FA7 (K : PySem.W.Frag) : Prop :=
  PySem.W.nsIn K mainGlobals "isinstance" = some none ∧
  PySem.W.nsIn K mainGlobals "len" = some none ∧
  PySem.W.nsIn K mainGlobals "list" = some none ∧
  PySem.W.nsIn K mainGlobals "max" = some none ∧
  PySem.W.nsIn K mainGlobals "min" = some none ∧
  PySem.W.nsIn K mainGlobals "range" = some none ∧
  PySem.W.nsIn K mainGlobals "repr" = some none ∧
  PySem.W.nsIn K mainGlobals "str" = some none ∧
  PySem.W.nsIn K mainGlobals "sum" = some none ∧
  PySem.W.nsIn K mainGlobals "tuple" = some none
abbrev FA8 (K : PySem.W.Frag) : Prop :=
  PySem.W.nsIn K mainGlobals "zip" = some none ∧
  (He.Fa.str "FIGURES" "0123456789").ok K = true ∧
  PySem.W.nsIn K mainGlobals "HEAD" = some (some (.ref (T_HEAD K))) ∧
  He.lstB K "HEAD" [.str "degree", .str "knots"] = true ∧
  (He.Fa.int "MOST_DEGREE" (4)).ok K = true ∧
  (He.Fa.int "MOST_FIGURES" (60)).ok K = true ∧
  (He.Fa.int "MOST_HEIGHT" (100000000000000000000)).ok K = true ∧
  (He.Fa.int "MOST_HILLS" (10)).ok K = true ∧
  (He.Fa.int "MOST_KNOT" (1000000)).ok K = true ∧
  (He.Fa.int "MOST_PLACES" (12)).ok K = true
abbrev FA9 (K : PySem.W.Frag) : Prop :=
  PySem.W.nsIn K mainGlobals "NONE" = some (some (.ref (T_NONE K))) ∧
  He.tupB K "NONE" [.int (0), .int (1)] = true ∧
  tupN K "NONE" = true ∧
  PySem.W.nsIn K mainGlobals "ONE" = some (some (.ref (T_ONE K))) ∧
  He.tupB K "ONE" [.int (1), .int (1)] = true ∧
  tupN K "ONE" = true ∧
  PySem.W.nsIn K mainGlobals "InvalidText" = some (some (.ref (C_InvalidText K))) ∧
  PySem.W.nsIn K mainGlobals "InvalidDegree" = some (some (.ref (C_InvalidDegree K))) ∧
  PySem.W.nsIn K mainGlobals "InvalidKnots" = some (some (.ref (C_InvalidKnots K))) ∧
  PySem.W.specialIn K (.builtin "object.__class__") "__get__" = some (some (.builtin "getset_descriptor.__get__"))
abbrev FA10 (K : PySem.W.Frag) : Prop :=
  PySem.W.takesIn K (.builtin "object.__class__") = some true ∧
  PySem.W.plainGet K (C_Frame K) Str.empty = true ∧
  PySem.W.hasDictIn K (C_Frame K) = true ∧
  PySem.W.plainOver K (C_Frame K) = true ∧
  PySem.W.findIn K (.ref (C_Frame K)) "__setattr__" = some (some (.builtin "object.__setattr__")) ∧
  PySem.W.findIn K (.ref (C_Frame K)) "__class__" = some (some (.builtin "object.__class__")) ∧
  PySem.W.mroIn K (C_Frame K) (.type "object") = some true ∧
  (∀ m ∈ tyNames, PySem.W.kitOne K (.type m) (.ref (C_Frame K)) = some false) ∧
  PySem.W.makesIn K (C_Frame K) = true ∧
  PySem.W.isFn K (.ref (ad_c_Frame___init__ K)) = true
abbrev FA11 (K : PySem.W.Frag) : Prop :=
  PySem.W.keepIn K (.ref (C_Frame K)) = true ∧
  PySem.W.findIn K (.ref (C_Frame K)) "parts" = some none ∧
  PySem.W.excInitIn K (C_InvalidKnots K) [.type "ValueError", .type "Exception", .type "BaseException", .type "object"] "ValueError.__new__" = true ∧
  PySem.W.excOver K (C_InvalidKnots K) [.type "ValueError", .type "Exception", .type "BaseException", .type "object"] = true ∧
  PySem.W.hasDictIn K (C_InvalidKnots K) = true ∧
  PySem.W.findIn K (.ref (C_InvalidKnots K)) "__setattr__" = some (some (.builtin "object.__setattr__")) ∧
  PySem.W.subIn K (.ref (C_InvalidKnots K)) (.type "BaseException") = some true ∧
  PySem.W.typeIn K (.ref (C_InvalidKnots K)) = some (.type "type") ∧
  PySem.W.keepIn K (.ref (C_InvalidKnots K)) = true ∧
  PySem.W.findIn K (.ref (C_InvalidKnots K)) "__getattribute__" = some (some (.builtin "BaseException.__getattribute__"))
abbrev FA12 (K : PySem.W.Frag) : Prop :=
  PySem.W.findIn K (.ref (C_InvalidKnots K)) "__getattr__" = some none ∧
  PySem.W.findIn K (.ref (C_InvalidKnots K)) "__class__" = some (some (.builtin "object.__class__")) ∧
  PySem.W.mroIn K (C_InvalidKnots K) (.type "object") = some true ∧
  PySem.W.findIn K (.ref (C_InvalidKnots K)) "index" = some none ∧
  PySem.W.findIn K (.ref (C_InvalidKnots K)) "__init__" = some (some (.ref (fi_InvalidKnots K))) ∧
  PySem.W.typeIn K (.ref (fi_InvalidKnots K)) = some (.type "function") ∧
  PySem.W.takerIn K (C_InvalidKnots K) "index" = some none ∧
  PySem.W.excInitIn K (C_InvalidDegree K) [.type "ValueError", .type "Exception", .type "BaseException", .type "object"] "ValueError.__new__" = true ∧
  PySem.W.excOver K (C_InvalidDegree K) [.type "ValueError", .type "Exception", .type "BaseException", .type "object"] = true ∧
  PySem.W.hasDictIn K (C_InvalidDegree K) = true
abbrev FA13 (K : PySem.W.Frag) : Prop :=
  PySem.W.findIn K (.ref (C_InvalidDegree K)) "__setattr__" = some (some (.builtin "object.__setattr__")) ∧
  PySem.W.subIn K (.ref (C_InvalidDegree K)) (.type "BaseException") = some true ∧
  PySem.W.typeIn K (.ref (C_InvalidDegree K)) = some (.type "type") ∧
  PySem.W.keepIn K (.ref (C_InvalidDegree K)) = true ∧
  PySem.W.findIn K (.ref (C_InvalidDegree K)) "__getattribute__" = some (some (.builtin "BaseException.__getattribute__")) ∧
  PySem.W.findIn K (.ref (C_InvalidDegree K)) "__getattr__" = some none ∧
  PySem.W.findIn K (.ref (C_InvalidDegree K)) "__class__" = some (some (.builtin "object.__class__")) ∧
  PySem.W.mroIn K (C_InvalidDegree K) (.type "object") = some true ∧
  PySem.W.findIn K (.ref (C_InvalidDegree K)) "given" = some none ∧
  PySem.W.findIn K (.ref (C_InvalidDegree K)) "__init__" = some (some (.ref (fi_InvalidDegree K)))
abbrev FA14 (K : PySem.W.Frag) : Prop :=
  PySem.W.typeIn K (.ref (fi_InvalidDegree K)) = some (.type "function") ∧
  PySem.W.takerIn K (C_InvalidDegree K) "given" = some none ∧
  PySem.W.excInitIn K (C_InvalidText K) [.type "ValueError", .type "Exception", .type "BaseException", .type "object"] "ValueError.__new__" = true ∧
  PySem.W.excOver K (C_InvalidText K) [.type "ValueError", .type "Exception", .type "BaseException", .type "object"] = true ∧
  PySem.W.hasDictIn K (C_InvalidText K) = true ∧
  PySem.W.findIn K (.ref (C_InvalidText K)) "__setattr__" = some (some (.builtin "object.__setattr__")) ∧
  PySem.W.subIn K (.ref (C_InvalidText K)) (.type "BaseException") = some true ∧
  PySem.W.typeIn K (.ref (C_InvalidText K)) = some (.type "type") ∧
  PySem.W.keepIn K (.ref (C_InvalidText K)) = true ∧
  PySem.W.findIn K (.ref (C_InvalidText K)) "__getattribute__" = some (some (.builtin "BaseException.__getattribute__"))
abbrev FA15 (K : PySem.W.Frag) : Prop :=
  PySem.W.findIn K (.ref (C_InvalidText K)) "__getattr__" = some none ∧
  PySem.W.findIn K (.ref (C_InvalidText K)) "__class__" = some (some (.builtin "object.__class__")) ∧
  PySem.W.mroIn K (C_InvalidText K) (.type "object") = some true ∧
  PySem.W.findIn K (.ref (C_InvalidText K)) "given" = some none ∧
  PySem.W.findIn K (.ref (C_InvalidText K)) "__init__" = some (some (.ref (fi_InvalidText K))) ∧
  PySem.W.typeIn K (.ref (fi_InvalidText K)) = some (.type "function") ∧
  PySem.W.takerIn K (C_InvalidText K) "given" = some none ∧
  PySem.W.kitOne K (.ref (C_InvalidKnots K)) (.ref (C_InvalidText K)) = some false ∧
  PySem.W.kitOne K (.ref (C_InvalidKnots K)) (.ref (C_InvalidDegree K)) = some false ∧
  PySem.W.kitOne K (.ref (C_InvalidKnots K)) (.ref (C_InvalidKnots K)) = some true
abbrev FA16 (K : PySem.W.Frag) : Prop :=
  PySem.W.kitOne K (.ref (C_InvalidDegree K)) (.ref (C_InvalidText K)) = some false ∧
  PySem.W.kitOne K (.ref (C_InvalidDegree K)) (.ref (C_InvalidDegree K)) = some true ∧
  PySem.W.kitOne K (.ref (C_InvalidDegree K)) (.ref (C_InvalidKnots K)) = some false ∧
  PySem.W.kitOne K (.ref (C_InvalidText K)) (.ref (C_InvalidText K)) = some true ∧
  PySem.W.kitOne K (.ref (C_InvalidText K)) (.ref (C_InvalidDegree K)) = some false ∧
  PySem.W.kitOne K (.ref (C_InvalidText K)) (.ref (C_InvalidKnots K)) = some false ∧
  PySem.W.kitOne K (.ref (C_Frame K)) (.ref (C_Frame K)) = some true ∧
  PySem.W.kitOne K (.ref (C_Frame K)) (.type "int") = some false ∧
  PySem.W.kitOne K (.ref (C_Frame K)) (.type "bool") = some false ∧
  PySem.W.kitOne K (.ref (C_Frame K)) (.type "tuple") = some false
abbrev FA17 (K : PySem.W.Frag) : Prop :=
  PySem.W.kitOne K (.ref (C_Frame K)) (.type "str") = some false ∧
  PySem.W.kitOne K (.ref (C_Frame K)) (.type "list") = some false ∧
  PySem.W.exmOne K (.ref (C_InvalidKnots K)) (.ref (C_InvalidText K)) = some false ∧
  PySem.W.exmOne K (.ref (C_InvalidDegree K)) (.ref (C_InvalidText K)) = some false ∧
  PySem.W.exmOne K (.ref (C_InvalidText K)) (.ref (C_InvalidText K)) = some true
def chkQ (K : PySem.W.Frag) : Bool := decide (FA0 K) && (decide (FA1 K) && (decide (FA2 K) && (decide (FA3 K) && (decide (FA4 K) && (decide (FA5 K) && (decide (FA6 K) && (decide (FA7 K) && (decide (FA8 K) && (decide (FA9 K) && (decide (FA10 K) && (decide (FA11 K) && (decide (FA12 K) && (decide (FA13 K) && (decide (FA14 K) && (decide (FA15 K) && (decide (FA16 K) && (decide (FA17 K))))))))))))))))))
def fnQ : List He5.DefA := [defQ ad_l_well "_law_well" "_law_well" s_l_well,
  defQ ad_p_is_integer "is_integer" "is_integer" s_p_is_integer,
  defQ ad_p_is_between "is_between" "is_between" s_p_is_between,
  defQ ad_p_is_place "is_place" "is_place" s_p_is_place,
  defQ ad_p_places_fault "places_fault" "places_fault" s_p_places_fault,
  defQ ad_p_is_height "is_height" "is_height" s_p_is_height,
  defQ ad_p_heights_fault "heights_fault" "heights_fault" s_p_heights_fault,
  defQ ad_p_number_in "number_in" "number_in" s_p_number_in,
  defQ ad_p_knots_fault "knots_fault" "knots_fault" s_p_knots_fault,
  defQ ad_c_Frame___init__ "__init__" "Frame.__init__" s_c_Frame___init__,
  defQ ad_c_Frame_read "read" "Frame.read" s_c_Frame_read,
  defQ ad_p_frame_in "frame_in" "frame_in" s_p_frame_in,
  defQ ad_p_is_count "is_count" "is_count" s_p_is_count,
  defQ ad_c_Frame_hills "hills" "Frame.hills" s_c_Frame_hills,
  defQ ad_p_common "common" "common" s_p_common,
  defQ ad_p_ratio "ratio" "ratio" s_p_ratio,
  defQ ad_p_times "times" "times" s_p_times,
  defQ ad_p_plus "plus" "plus" s_p_plus,
  defQ ad_p_total "total" "total" s_p_total,
  defQ ad_p_joined "joined" "joined" s_p_joined,
  defQ ad_p_is_ratio "is_ratio" "is_ratio" s_p_is_ratio,
  defQ ad_p_are_fractions "are_fractions" "are_fractions" s_p_are_fractions,
  defQ ad_c_Frame_degree "degree" "Frame.degree" s_c_Frame_degree,
  defQ ad_c_Frame_knots "knots" "Frame.knots" s_c_Frame_knots,
  defQ ad_p_hill_at "hill_at" "hill_at" s_p_hill_at,
  defQ ad_p_hills_at "hills_at" "hills_at" s_p_hills_at,
  defQ ad_p_rows_at "rows_at" "rows_at" s_p_rows_at,
  defQ ad_p_shows_through "shows_through" "shows_through" s_p_shows_through,
  defQ ad_p_are_weights "are_weights" "are_weights" s_p_are_weights,
  defQ ad_p_weighed "weighed" "weighed" s_p_weighed,
  defQ ad_p_are_silent "are_silent" "are_silent" s_p_are_silent,
  defQ ad_p_shows_never "shows_never" "shows_never" s_p_shows_never,
  defQ ad_p_is_pair "is_pair" "is_pair" s_p_is_pair,
  defQ ad_p_shows_rank "shows_rank" "shows_rank" s_p_shows_rank,
  defQ ad_p_are_in_steps "are_in_steps" "are_in_steps" s_p_are_in_steps,
  defQ ad_p_shows_below "shows_below" "shows_below" s_p_shows_below,
  defQ ad_p_is_less "is_less" "is_less" s_p_is_less,
  defQ ad_p_are_ascending "are_ascending" "are_ascending" s_p_are_ascending,
  defQ ad_p_shows_turns "shows_turns" "shows_turns" s_p_shows_turns,
  defQ ad_p_accepts "accepts" "accepts" s_p_accepts,
  defQ ad_l_draw "_law_draw" "_law_draw" s_l_draw,
  defQ ad_l_one "_law_one" "_law_one" s_l_one,
  defQ ad_l_bank "_law_bank" "_law_bank" s_l_bank,
  defQ ad_l_words "_law_words" "_law_words" s_l_words,
  defQ ad_l_texts "_law_texts" "_law_texts" s_l_texts,
  defQ ad_l_thirds "_law_thirds" "_law_thirds" s_l_thirds,
  defQ ad_l_fourths "_law_fourths" "_law_fourths" s_l_fourths,
  defQ ad_l_none "_law_none" "_law_none" s_l_none,
  defQ ad_l_right "_law_right" "_law_right" s_l_right,
  defQ ad_p_law "law" "law" s_p_law,
  defQ fi_InvalidKnots "__init__" "InvalidKnots.__init__" si_InvalidKnots,
  defQ fi_InvalidDegree "__init__" "InvalidDegree.__init__" si_InvalidDegree,
  defQ fi_InvalidText "__init__" "InvalidText.__init__" si_InvalidText]
def fsQ : List Str := (["_law_well", "is_integer", "is_between", "is_place", "places_fault", "is_height", "heights_fault", "number_in", "knots_fault", "frame_in", "is_count", "common", "ratio", "times", "plus", "total", "joined", "is_ratio", "are_fractions", "hill_at", "hills_at", "rows_at", "shows_through", "are_weights", "weighed", "are_silent", "shows_never", "is_pair", "shows_rank", "are_in_steps"] : List PySem.Str) ++ (["shows_below", "is_less", "are_ascending", "shows_turns", "accepts", "_law_draw", "_law_one", "_law_bank", "_law_words", "_law_texts", "_law_thirds", "_law_fourths", "_law_none", "_law_right", "law", "HEAD", "NONE", "ONE"] : List PySem.Str)
def csQ : List (Str × List Str) := [("InvalidText", ["__init__"]), ("InvalidDegree", ["__init__"]), ("InvalidKnots", ["__init__"]), ("Frame", ["__init__", "read", "hills", "degree", "knots"]), ("NotRight", [])]
abbrev RQ : PySem.W.OpenRow := PySem.W.OpenLaw.row PySem.Challenge.rw_bentthrough_k78_claims_that_are_none
def looseQ : List PySem.Str := (["NotRight", "InvalidText", "InvalidDegree", "InvalidKnots", "MOST_DEGREE", "MOST_KNOT", "MOST_HILLS", "MOST_PLACES", "MOST_HEIGHT", "FIGURES", "MOST_FIGURES", "is_integer", "is_between", "number_in", "is_place", "is_height", "places_fault", "heights_fault", "HEAD", "knots_fault", "Frame", "NONE", "ONE", "common", "ratio", "plus", "times", "total", "joined", "is_less"] : List PySem.Str) ++ (["is_ratio", "frame_in", "hill_at", "hills_at", "are_fractions", "are_weights", "is_pair", "weighed", "are_silent", "are_in_steps", "are_ascending", "is_count", "rows_at", "shows_through", "shows_never", "shows_rank", "shows_below", "shows_turns", "accepts", "_law_well", "_law_draw", "_law_one", "_law_bank", "_law_words", "_law_texts", "_law_thirds", "_law_fourths", "_law_none", "_law_right"] : List PySem.Str)
abbrev hkQ : PySem.W.Hook := DL.hookQ (DL.asQ fsQ csQ) chkQ fnQ
abbrev obK (s : PySem.W.SharedT) : hkQ.α := DL.obQ (DL.asQ fsQ csQ) chkQ fnQ s
set_option maxHeartbeats 0 in
theorem run (w : World) : HandSHeadRun.RunEq RQ (PySem.W.view RQ.prog [66]) (DL.hookQ (DL.asQ fsQ csQ) chkQ fnQ) (DL.obQ (DL.asQ fsQ csQ) chkQ fnQ) 20000 looseQ w := by
  intro os
  kernel_rfl
end K78
namespace DL
open PySem PySem.Spec L2
open PyProof.Rows hiding St
section
variable {X : Cx} {E : EE} {es : List Expr} {x : Str} {pos : Pos} {n : Int}
theorem pp_nm (i : Nat) (hN : X.N.Nodup) (hi : X.N[i]? = some x := by rfl) (hx : Loc X.env.scope x := by first | exact Or.inl rfl | exact Or.inr rfl) (hf : X.fn x = true ∨ X.env.scope.names.lookup x = some .local := by first | exact .inl rfl | exact .inr rfl) :
    PG X (.Name x pos) (gPat X.K (.nm i)) := pg_name hN hi hx hf
theorem pp_tp {k : Nat} {ps : List Pat} (hc : X.calm = true) (h : PGs X es (gPats X.K ps)) (hn : (assignEach es X.env).length = ps.length := by rfl) (hst : (assignEach es X.env).findIdx? (·.1) = none := by rfl) :
    PG X (.Tuple es k pos) (gPat X.K (.tp ps)) := pg_or (pg_tup hc h hn hst) (pg_unl hc h hn hst)
theorem pp_nil : PGs X [] (gPats X.K []) := pgs_nil
theorem pp_cons {e : Expr} {p : Pat} {ps : List Pat} (h1 : PG X e (gPat X.K p)) (h2 : PGs X es (gPats X.K ps)) (hs : (assignEach (e :: es) X.env).map (·.2) = assign e X.env :: (assignEach es X.env).map (·.2) := by rfl) :
    PGs X (e :: es) (gPats X.K (p :: ps)) := pgs_cons h1 h2 hs
theorem v_gint (h : ∃ t, X.mg x = some (.int n t)) (hg : Gl X x := by rfl) (hd : (x == ("__debug__" : Str)) = false := by decide) : VE X E (.Name x pos) (mC (.int n)) := by
  obtain ⟨t, h⟩ := h
  exact v_glob (v := .int n) hg h ⟨t, rfl⟩ (fun _ _ _ => rfl) hd
theorem v_cls {C : Addr} (h : X.mg x = some (.ref C)) (hg : Gl X x := by rfl) (hd : (x == ("__debug__" : Str)) = false := by decide) : VE X E (.Name x pos) (mC (.cls x)) :=
  v_glob (v := .ref C) hg h rfl (fun _ _ _ => ⟨C, rfl, h⟩) hd
end
def isaOf (oo : List (Str × Str × Bool)) (ob : List (Str × String × Bool)) (own : List Str) : KT → KT → Option Bool
  | .b m, .b n => isTB m n
  | .b m, .o c => if own.contains c && tyNames.contains m then some false else none
  | .o c, .o d => (oo.find? fun r => r.1 == c && r.2.1 == d).map (·.2.2)
  | .o c, .b n => (ob.find? fun r => r.1 == c && r.2.1 == n).map (·.2.2)
theorem isa_ok {K : PySem.W.Frag} {mg : Str → Option Value} {oo : List (Str × Str × Bool)} {ob : List (Str × String × Bool)} {own : List Str}
    (h1 : ∀ c d b, (c, d, b) ∈ oo → ∃ C D, mg c = some (.ref C) ∧ mg d = some (.ref D) ∧ PySem.W.kitOne K (.ref C) (.ref D) = some b)
    (h2 : ∀ c n b, (c, n, b) ∈ ob → ∃ C, mg c = some (.ref C) ∧ PySem.W.kitOne K (.ref C) (.type n) = some b)
    (h3 : ∀ c ∈ own, ∀ m ∈ tyNames, ∃ C, mg c = some (.ref C) ∧ PySem.W.kitOne K (.type m) (.ref C) = some false) :
    ∀ a b r, isaOf oo ob own a b = some r → ∀ u, ktv mg a u → ∃ w, ktv mg b w ∧ PySem.W.kitOne K u w = some r := by
  intro a b r h u hu
  cases a with
  | b m =>
    cases b with
    | b n =>
      rw [show u = _ from hu]
      exact ⟨_, rfl, kit_ty (isTB_ok h)⟩
    | o c =>
      unfold isaOf at h
      dsimp only at h
      split at h
      · rename_i hc
        rw [Bool.and_eq_true] at hc
        cases h
        obtain ⟨C, e1, e2⟩ := h3 c (by simpa using hc.1) m (by simpa using hc.2)
        rw [show u = _ from hu]
        exact ⟨_, ⟨C, rfl, e1⟩, e2⟩
      · cases h
  | o c =>
    obtain ⟨C', rfl, e0⟩ := hu
    cases b with
    | b n =>
      obtain ⟨⟨c', n', b'⟩, hf, rfl⟩ := Option.map_eq_some_iff.mp h
      have hp := List.find?_some hf
      rw [Bool.and_eq_true, beq_iff_eq, beq_iff_eq] at hp
      obtain ⟨hp1, hp2⟩ := hp
      dsimp only at hp1 hp2
      subst hp1 hp2
      obtain ⟨C, e1, e2⟩ := h2 _ _ _ (List.mem_of_find?_eq_some hf)
      rw [e0] at e1
      cases e1
      exact ⟨_, rfl, e2⟩
    | o d =>
      obtain ⟨⟨c', n', b'⟩, hf, rfl⟩ := Option.map_eq_some_iff.mp h
      have hp := List.find?_some hf
      rw [Bool.and_eq_true, beq_iff_eq, beq_iff_eq] at hp
      obtain ⟨hp1, hp2⟩ := hp
      dsimp only at hp1 hp2
      subst hp1 hp2
      obtain ⟨C, D, e1, e3, e2⟩ := h1 _ _ _ (List.mem_of_find?_eq_some hf)
      rw [e0] at e1
      cases e1
      exact ⟨_, ⟨D, rfl, e3⟩, e2⟩
def subOf (oo : List (Str × Str × Bool)) (c d : Str) : Option Bool := (oo.find? fun r => r.1 == c && r.2.1 == d).map (·.2.2)
theorem sub_ok {K : PySem.W.Frag} {mg : Str → Option Value} {oo : List (Str × Str × Bool)} (h : ∀ c d b, (c, d, b) ∈ oo → ∃ C D, mg c = some (.ref C) ∧ mg d = some (.ref D) ∧ PySem.W.exmOne K (.ref C) (.ref D) = some b) : SubOk K mg (subOf oo) := by
  intro c x b hs C hC
  obtain ⟨⟨c', d', b'⟩, hf, rfl⟩ := Option.map_eq_some_iff.mp hs
  have hp := List.find?_some hf
  rw [Bool.and_eq_true, beq_iff_eq, beq_iff_eq] at hp
  obtain ⟨hp1, hp2⟩ := hp
  dsimp only at hp1 hp2
  subst hp1 hp2
  obtain ⟨C', D, e1, e3, e2⟩ := h _ _ _ (List.mem_of_find?_eq_some hf)
  rw [hC] at e1
  cases e1
  exact ⟨D, e3, e2⟩
theorem Rm.units {k : Nat} {A : Around} (r : Rm k A) : A.units + 64 < cLine := r.room.units
end DL
namespace DL
open PySem PySem.Spec L2
open PyProof.Rows hiding St
def NxE {α : Type} (f : Ex α) : Prop := ∀ env S, (∃ d S', f env S = .ok d S') ∨ f env S = .bad
def NxG (t : D → Sm) : Prop := ∀ d env S, (∃ e S', t d env S = .nx e S') ∨ t d env S = .bad
def LenB (n : Nat) (ts : List D → Sm) : Prop := ∀ ds env S, ds.length ≠ n → ts ds env S = .bad
def NxGs (ts : List D → Sm) : Prop := ∀ ds env S, (∃ e S', ts ds env S = .nx e S') ∨ ts ds env S = .bad
theorem nx_var (i : Nat) : NxE (mVar i) := fun env S => by
  unfold mVar
  split
  · exact .inl ⟨_, _, rfl⟩
  · exact .inr rfl
theorem nx_c (d : D) : NxE (mC d) := fun env S => .inl ⟨_, _, rfl⟩
theorem ng_name (k : Nat) : NxG (gName' k) := fun d env S => .inl ⟨_, _, rfl⟩
theorem ng_sub {f h : Ex D} (hf : NxE f) (hh : NxE h) : NxG (gSubC f h) := fun d env S => by
  unfold gSubC
  rcases hf env S with ⟨x, S1, e⟩ | e
  · rw [e, go_ok]
    rcases hh env S1 with ⟨y, S2, e2⟩ | e2
    · rw [e2, go_ok]
      split
      · exact .inl ⟨_, _, rfl⟩
      · exact .inr rfl
    · rw [e2]; exact .inr rfl
  · rw [e]; exact .inr rfl
theorem ngs_nil : NxGs gNil' := fun ds env S => by
  unfold gNil'
  split
  · exact .inl ⟨_, _, rfl⟩
  · exact .inr rfl
theorem ngs_cons {t : D → Sm} {ts : List D → Sm} (h1 : NxG t) (h2 : NxGs ts) : NxGs (gCons' t ts) := fun ds env S => by
  cases ds with
  | nil => exact .inr rfl
  | cons d r =>
    have key : ∀ fl, fl = t d env S → (∃ e S', (match (motive := Fl → Fl) fl with | .nx e S' => ts r e S' | .ex c ns es e' S' => .ex c ns es e' S' | _ => .bad) = Fl.nx e S') ∨ (match (motive := Fl → Fl) fl with | .nx e S' => ts r e S' | .ex c ns es e' S' => .ex c ns es e' S' | _ => .bad) = Fl.bad := fun fl hfl => by
      rcases h1 d env S with ⟨e, S', q⟩ | q
      · rw [hfl, q]; exact h2 r e S'
      · rw [hfl, q]; exact .inr rfl
    exact key _ rfl
theorem ng_tup {ts : List D → Sm} (h : NxGs ts) : NxG (gTup' ts) := fun d env S => by
  cases d with
  | tup ds => exact h ds env S
  | lst ds => exact h ds env S
  | _ => exact .inr rfl
theorem lb_nil : LenB 0 gNil' := fun ds env S h => by
  cases ds with
  | nil => exact absurd rfl h
  | cons d r => rfl
theorem lb_cons {n : Nat} {t : D → Sm} {ts : List D → Sm} (h1 : NxG t) (h2 : LenB n ts) : LenB (n + 1) (gCons' t ts) := fun ds env S h => by
  cases ds with
  | nil => rfl
  | cons d r =>
    show (match t d env S with | .nx e S' => ts r e S' | .ex c ns es e' S' => .ex c ns es e' S' | _ => .bad) = Fl.bad
    rcases h1 d env S with ⟨e, S', q⟩ | q
    · rw [q]; exact h2 r e S' fun z => h (by rw [List.length_cons, z])
    · rw [q]
theorem hno_of {t : D → Sm} (h : NxG t) : ∀ d env S, (∃ e S', t d env S = .nx e S') ∨ (∃ c ns ds e' S', t d env S = .ex c ns ds e' S') ∨ t d env S = .bad := fun d env S => (h d env S).elim .inl fun z => .inr (.inr z)
end DL
namespace DL
theorem nr {α : Sort _} {a b : α} (h : a = b) : a = b := by cases h; exact Eq.refl _
open PySem PySem.Spec L2
open PyProof.Rows hiding St
@[simp] theorem gTup_tup (ts : List D → Sm) (ds : List D) (env : List Sl) (S : List Cell) : gTup' ts (.tup ds) env S = ts ds env S := nr rfl
@[simp] theorem gTup_lst (ts : List D → Sm) (ds : List D) (env : List Sl) (S : List Cell) : gTup' ts (.lst ds) env S = ts ds env S := nr rfl
@[simp] theorem asI_int (i : Int) (S : List Cell) : asI (.int i) S = .ok (some i) S := nr rfl
@[simp] theorem items_lst (xs : List D) (S : List Cell) : itemsOf (.lst xs) S = .ok xs S := nr rfl
@[simp] theorem items_tup (xs : List D) (S : List Cell) : itemsOf (.tup xs) S = .ok xs S := nr rfl
@[simp] theorem items_ro (xs : List D) (S : List Cell) : itemsOf (.ro xs) S = .ok xs S := nr rfl
@[simp] theorem bindP_nm (i : Nat) (d : D) (env : List Sl) : bindP (.nm i) d env = some (env.set i (.val d)) := by unfold bindP; rfl
@[simp] theorem bindP_tup (ps : List Pat) (ds : List D) (env : List Sl) : bindP (.tp ps) (.tup ds) env = bindPs ps ds env := by unfold bindP; rfl
@[simp] theorem bindP_lst (ps : List Pat) (ds : List D) (env : List Sl) : bindP (.tp ps) (.lst ds) env = bindPs ps ds env := by unfold bindP; rfl
@[simp] theorem bindPs_nil (env : List Sl) : bindPs [] [] env = some env := by unfold bindPs; rfl
@[simp] theorem bindPs_cons (p : Pat) (ps : List Pat) (d : D) (ds : List D) (env : List Sl) : bindPs (p :: ps) (d :: ds) env = (match bindP p d env with | some env' => bindPs ps ds env' | none => none) := by first | (rw [bindPs]; done) | (rw [bindPs]; cases bindP p d env <;> rfl)
@[simp] theorem wipeE_nil (env : List Sl) : wipeE env [] = env := nr rfl
@[simp] theorem wipeE_cons (env : List Sl) (v : Nat) (vs : List Nat) : wipeE env (v :: vs) = (wipeE env vs).set v .un := nr rfl
theorem forL_cons (p : Pat) (m : Sm) (d : D) (ds : List D) (env : List Sl) (S : List Cell) : forL p m (d :: ds) env S = (match bindP p d env with
    | none => .bad
    | some env1 => match m env1 S with
      | .nx e S' => forL p m ds e S'
      | .ct e S' => forL p m ds e S'
      | .bk e S' => .nx e S'
      | r => r) := rfl
@[simp] theorem intD_int (c : Int → Int → Bool) (f : Int → Int → D) (i j : Int) (S : List Cell) : intD c f (.int i) (.int j) S = if c i j then some (f i j) else none := nr rfl
@[simp] theorem subD_int (i j : Int) (S : List Cell) : subD (.int i) (.int j) S = some (.int (i - j)) := nr rfl
@[simp] theorem ltD_int (i j : Int) (S : List Cell) : ltD (.int i) (.int j) S = some (.bl (decide (i < j))) := nr rfl
@[simp] theorem leD_int (i j : Int) (S : List Cell) : leD (.int i) (.int j) S = some (.bl (decide (i ≤ j))) := nr rfl
@[simp] theorem gtD_int (i j : Int) (S : List Cell) : gtD (.int i) (.int j) S = some (.bl (decide (j < i))) := nr rfl
@[simp] theorem geD_int (i j : Int) (S : List Cell) : geD (.int i) (.int j) S = some (.bl (decide (j ≤ i))) := nr rfl
@[simp] theorem addD_int (i j : Int) (S : List Cell) : addD (.int i) (.int j) S = some (.int (i + j)) := nr rfl
@[simp] theorem negD_int (i : Int) (S : List Cell) : negD (.int i) S = some (.int (-i)) := nr rfl
theorem modD_int {i j : Int} {S : List Cell} (h : 0 < j) : modD (.int i) (.int j) S = some (.int (i % j)) := by
  show (if decide (0 < j) = true then _ else _) = _
  rw [if_pos (by simpa using h)]
theorem divD_int {i j : Int} {S : List Cell} (h : 0 < j) (h2 : j.natAbs.log2 < 9000) : divD (.int i) (.int j) S = some (.int (i / j)) := by
  show (if okDiv j = true then _ else _) = _
  rw [if_pos (by unfold okDiv; simp [h, h2])]
theorem powD_int {i j : Int} {S : List Cell} (h : (decide (0 ≤ j ∧ j ≤ 1000000 ∧ i.natAbs < 2 ^ 64)) = true) : powD (.int i) (.int j) S = some (.int (i ^ j.toNat)) := by
  show (if _ = true then _ else _) = _
  rw [if_pos h]
theorem log2_lt {n k : Nat} (h : n < 2 ^ k) (hk : 0 < k) : n.log2 < k := by
  by_cases hn : n = 0
  · subst hn; simpa using hk
  · exact (Nat.log2_lt hn).mpr h
theorem mulD_int {i j : Int} {S : List Cell} (h : okMul i j = true) : mulD (.int i) (.int j) S = some (.int (i * j)) := by
  show (if okMul i j = true then _ else _) = _
  rw [if_pos h]
end DL
namespace DL
open PySem PySem.Spec L2
open PyProof.Rows hiding St
theorem quiet_make {A : Around} (h : A.guards = some []) (C : Addr) (us : List Value) (kw : List (Str × Value)) : (A.under (.builtin "type.__call__" ⟨.ref C :: us, kw⟩)).guards = some [] := by
  simp [Around.under, Code.weight, Code.isCreation, Code.isGuard, Code.isCaller, Code.frames, Code.isFrame, guardIds, h, pushGuards, Code.guards]
theorem Rm.make {k : Nat} {A : Around} (r : Rm (k + 1) A) (C : Addr) (us : List Value) (kw : List (Str × Value)) : Rm k (A.under (.builtin "type.__call__" ⟨.ref C :: us, kw⟩)) := ⟨r.room.make C us kw, quiet_make r.quiet C us kw⟩
theorem Rm.in1 {k : Nat} {A : Around} (r : Rm (k + 1) A) : Rm k A.in1 := ⟨r.room.in1, by have := r.quiet; simpa [Around.in1] using this⟩
section
variable {K : PySem.W.Frag} {mg : Str → Option Value} {F : Fz} {ι : List Addr} {H : Hp} {S : List Cell}
theorem Wd.kill {n : Nat} {a : Addr} (w : Wd K mg F ι H S) (h : ι[n]? = some a) : Wd K mg (fun b => F b ∨ b = a) ι H (S.set n .dead) := by
  have hm : a ∈ ι := List.mem_of_getElem? h
  refine ⟨fun b hb => ?_, fun i c b h1 h2 hl hb => ?_, w.cnd, by rw [List.length_set]; exact w.len, fun i c b h1 h2 => ?_⟩
  · rcases hb with hb | rfl
    · exact w.fin b hb
    · exact w.cell_ne hm
  · rw [List.getElem?_set] at h1
    by_cases e : n = i
    · subst e
      rw [if_pos rfl] at h1
      split at h1 <;> cases h1
      cases hl
    · rw [if_neg e] at h1
      rcases hb with hb | rfl
      · exact w.cnf i c b h1 h2 hl hb
      · obtain ⟨p1, e1⟩ := List.getElem?_eq_some_iff.mp h
        obtain ⟨p2, e2⟩ := List.getElem?_eq_some_iff.mp h2
        exact e ((List.getElem_inj w.cnd).mp (e1.trans e2.symm))
  · rw [List.getElem?_set] at h1
    by_cases e : n = i
    · subst e
      rw [if_pos rfl] at h1
      split at h1
      · cases h1
        rw [h] at h2
        cases h2
        exact .inr rfl
      · cases h1
    · rw [if_neg e] at h1
      exact cell_mono (fun _ h => .inl h) (fun _ _ _ h => h) (List.prefix_refl _) (fun _ h => h) c (w.cells i c b h1 h2)
theorem Wd.inst {x dx C : Addr} {c : Str} (w : Wd K mg F ι H S) (hx : H x = none) (hdx : H dx = none) (ne : dx ≠ x) (hc : mg c = some (.ref C)) :
    Ext H F ι (upd (upd H dx (.own x)) x (.ins C dx [])) F (ι ++ [x]) ∧ Wd K mg F (ι ++ [x]) (upd (upd H dx (.own x)) x (.ins C dx [])) (S ++ [.ins c [] []]) := by
  obtain ⟨e1, w1⟩ := w.layO (o := .own x) hdx
  have hx1 : (upd H dx (.own x)) x = none := by rw [upd_ne (Ne.symm ne)]; exact hx
  obtain ⟨e2, w2⟩ := w1.layO (o := .ins C dx []) hx1
  refine ⟨cell_ext (e1.trans e2) hx, w2.cellNew (fun z => w.fin x z hx) (fun z => w.cell_ne z hx) ⟨C, dx, [], hc, upd_same, rfl, rfl⟩⟩
end
def madeR (c : Str) (fz : Bool) (n : Nat) : Rs D → Rs D
  | .ok .non S2 => match S2[n]? with
    | some (.ins c' ns ys) => if c' = c then (if fz = true then .ok (.obj c ns ys) (S2.set n .dead) else .ok (.cell n) S2) else .bad
    | _ => .bad
  | .ex c' ns es S2 => .ex c' ns es S2
  | _ => .bad
def mMake (c : Str) (fz : Bool) (n : Nat) (m : Fn) (fa : Ex (List D)) : Ex D := fun env S => (fa env S).andThen fun xs S1 => if xs.length + 1 = n then madeR c fz S1.length (m (.cell S1.length :: xs) (S1 ++ [.ins c [] []])) else .bad
def mMakeK (c : Str) (fz : Bool) (n np nk : Nat) (p : List Nat) (m : Fn) (fa fk : Ex (List D)) : Ex D := fun env S => (fa env S).andThen fun xs S1 => if xs.length = np then (fk env S1).andThen (fun zs S2 => if zs.length = nk then
  (if (pickL p (.cell S2.length :: (xs ++ zs))).length = n then madeR c fz S2.length (m (pickL p (.cell S2.length :: (xs ++ zs))) (S2 ++ [.ins c [] []])) else .bad) else .bad) else .bad
section
variable {X : Cx} {E : EE} {e : Expr} {es : List Expr} {kws : List Keyword} {f : Ex D} {fa fk : Ex (List D)} {pos p : Pos} {c : Str} {C fI : Addr} {i n : Nat} {fd : FuncData} {ps : List Str} {m : Fn} {fz : Bool}
theorem run_mk {pins : List (Addr × Obj)} {σ : L2.St} {H : Hp} {s : Shared} {Q : VK} {us : List Value} {us2 : Value → List Value} {ds2 : D → List D} {vs2 : V → List V} {g : Snap} {F : Fz} {ι : List Addr} {env : List Sl} {S : List Cell}
    (M : Mk X.K C fI) (G : FnG X.prog X.w X.K X.mg X.base i fI fd ps (SpM X.K X.mg n m)) (rm : Rm (i + 1) X.A) (px : Px X E) (hc : X.mg c = some (.ref C)) (I : Inv X pins σ H s) (w : RS X.K X.mg g σ H F ι env S) (kw : List (Str × Value))
    (bd : ∀ (s' : Shared) (x : Value), X.K.In s'.heap → BindsTo s' fd ⟨x :: us, kw⟩ (ps.zip (us2 x))) (rr : ∀ x : Addr, Vals (vs2 (.ref x)) (us2 (.ref x)))
    (reps : ∀ (x : Addr) (F' : Fz) (ι' : List Addr) (H' : Hp) (k : Nat), Ext H F ι H' F' ι' → Rep X.K X.mg F' ι' H' (.cell k) (.ref x) → Reps X.K X.mg F' ι' H' (ds2 (.cell k)) (vs2 (.ref x)))
    (hn : ∀ d, (ds2 d).length = n)
    (q : rdAt X.K X.mg g E σ H F ι env (fun d H' F' ι' _ => ∀ v, Rep X.K X.mg F' ι' H' d v → Q v H') (madeR c fz S.length (m (ds2 (.cell S.length)) (S ++ [.ins c [] []])))) :
    wpAny (model X.prog X.w) X.A (call (.ref C) us kw) (EP X pins σ Q) X.xe s := by
  have hx0 : H (s.heap.objs.size + 1) = none := I.hok.fresh (Nat.le_succ _)
  have hd0 : H s.heap.objs.size = none := I.hok.fresh (Nat.le_refl _)
  have ne : s.heap.objs.size ≠ s.heap.objs.size + 1 := Nat.ne_of_lt (Nat.lt_succ_self _)
  obtain ⟨e1, w1⟩ := w.wd.inst hx0 hd0 ne hc
  have I2 := Inv.made (C := C) I
  have cel : (ι ++ [s.heap.objs.size + 1])[S.length]? = some (s.heap.objs.size + 1) := by rw [w.wd.len]; simp
  have rs := reps (s.heap.objs.size + 1) F (ι ++ [s.heap.objs.size + 1]) _ S.length e1 ⟨_, rfl, cel⟩
  have sp : SpM X.K X.mg n m (vs2 (.ref (s.heap.objs.size + 1))) (upd (upd H s.heap.objs.size (.own (s.heap.objs.size + 1))) (s.heap.objs.size + 1) (.ins C s.heap.objs.size [])) (fun v H2 => v = .non ∧ Q (.ref (s.heap.objs.size + 1)) H2) (E σ) := by
    refine ⟨rs.len.trans (hn _), F, ι ++ [s.heap.objs.size + 1], ds2 (.cell S.length), S ++ [.ins c [] []], w1, rs, ?_⟩
    cases hm : m (ds2 (.cell S.length)) (S ++ [.ins c [] []]) with
    | bad => rw [hm] at q; exact q.elim
    | ex c' ns es S2 =>
      rw [hm] at q
      exact fun C' d H' F' ι' hc' e' w' hd => q C' d H' F' ι' hc' (w.step (e1.trans e') w') (e1.trans e') hd
    | ok d S2 =>
      rw [hm] at q
      intro v H' F' ι' e' w' hv
      cases d with
      | non =>
        refine ⟨hv, ?_⟩
        have q : rdAt X.K X.mg g E σ H F ι env (fun d H' F' ι' _ => ∀ v, Rep X.K X.mg F' ι' H' d v → Q v H') (match S2[S.length]? with
          | some (.ins c' ns ys) => if c' = c then (if fz = true then .ok (.obj c ns ys) (S2.set S.length .dead) else .ok (.cell S.length) S2) else .bad
          | _ => .bad) := q
        have cel' : ι'[S.length]? = some (s.heap.objs.size + 1) := pre_get e'.pre cel
        split at q
        · rename_i c' ns ys hS
          split at q
          · rename_i hcc
            subst hcc
            obtain ⟨C', dx', vs, hm', ea, hl, hr⟩ := w'.cells _ _ _ hS cel'
            by_cases hz : fz = true
            · rw [if_pos hz] at q
              have w3 := w'.kill cel'
              have e3 : Ext H F ι H' (fun b => F' b ∨ b = s.heap.objs.size + 1) ι' := by
                have et := e1.trans e'
                exact ⟨fun b h => .inl (et.sub b h), fun b h => by
                  rcases h with h | rfl
                  · exact et.new b h
                  · exact .inr hx0, et.keep, et.mono, et.pre, et.cnew⟩
              exact q H' _ ι' e3 (w.step e3 w3) (.ref _) ⟨_, C', dx', vs, rfl, .inr rfl, hm', ea, hl, reps_mono (fun _ h => .inl h) (fun _ _ _ h => h) (List.prefix_refl _) ys vs hr⟩
            · rw [if_neg hz] at q
              exact q H' F' ι' (e1.trans e') (w.step (e1.trans e') w') (.ref _) ⟨_, rfl, cel'⟩
          · exact q.elim
        · exact q.elim
      | _ => exact q.elim
  refine wpAny_call (make_map (f := fI) I.kIn M.makes M.init (beq_iff_eq.mp M.fn) (codeAny_mono (G.go _ X.stack _ _ ⟨Value.ref (s.heap.objs.size + 1) :: us, kw⟩ _ _ _ (E σ) (rm.make C us kw) (I2.env0.make C us kw) (bd _ _ I2.kIn) (rr _) sp) fun r s' hr => ?_))
  cases r with
  | error er => exact px pins σ _ _ er s' I2 hr
  | ok fl =>
    cases fl with
    | ret u =>
      obtain ⟨v, H', I3, rv, ev, q3⟩ := I2.after hr
      subst ev
      exact ⟨rv, ⟨V.ref (s.heap.objs.size + 1), H', I3, rfl, q3⟩⟩
    | _ => exact False.elim hr
def FldOk (K : PySem.W.Frag) (mg : Str → Option Value) (ft : List (Str × Str)) : Prop := ∀ c f, (c, f) ∈ ft → ∀ C, mg c = some (.ref C) → Cls K C ∧ NoAttr K C f
def fldD (ft : List (Str × Str)) (f : Str) : Op1 := fun d S => match d with
  | .obj c ns xs => if ft.contains (c, f) then fieldOf f ns xs else none
  | .cell n => match S[n]? with
    | some (.ins c ns xs) => if ft.contains (c, f) then fieldOf f ns xs else none
    | _ => none
  | _ => none
theorem v_fld {ft : List (Str × Str)} {fl : Str} (ok : FldOk X.K X.mg ft) (he : VE X E e f) (hb : attributeBase e fl X.env (eval e X.env) = eval e X.env := by rfl) : VE X E (.Attribute e fl pos) (mUn (fldD ft fl) f) := fun g =>
  (pe_fld (he g) hb).imp fun σ H Q ⟨F, ι, env, S, w, q⟩ => ⟨F, ι, env, S, w, rd_mono (rd_then q) fun d H1 F1 ι1 S1 _ e1 w1 ⟨_, _, q1⟩ v hv => by
    cases ho : fldD ft fl d S1 with
    | none => rw [ho] at q1; exact q1.elim
    | some d2 =>
      rw [ho] at q1
      have go : ∀ u, Rep X.K X.mg F1 ι1 H1 d2 u → Q u H1 := fun u hu => (q1 H1 F1 ι1 Ext.refl w1).2.2 u hu
      cases d with
      | obj c ns xs =>
        have ho : (if ft.contains (c, fl) then fieldOf fl ns xs else none) = some d2 := ho
        split at ho
        · rename_i hc
          obtain ⟨a, C, dx, vs, rfl, fa, hm, ea, hl, hr⟩ := hv
          obtain ⟨k1, k2⟩ := ok c fl (by simpa using hc) C hm
          obtain ⟨u, hu, ru⟩ := field_rep hr ho
          exact ⟨a, C, dx, ns.zip vs, u, rfl, ea, k1, k2, hu, go u ru⟩
        · cases ho
      | cell n =>
        obtain ⟨a, rfl, ha⟩ := hv
        have ho : (match S1[n]? with
          | some (.ins c ns xs) => if ft.contains (c, fl) then fieldOf fl ns xs else none
          | _ => none) = some d2 := ho
        cases hS : S1[n]? with
        | none => rw [hS] at ho; cases ho
        | some cl =>
          rw [hS] at ho
          cases cl with
          | ins c ns xs =>
            have ho : (if ft.contains (c, fl) then fieldOf fl ns xs else none) = some d2 := ho
            split at ho
            · rename_i hc
              obtain ⟨C, dx, vs, hm, ea, hl, hr⟩ := w1.wd.cells _ _ a hS ha
              obtain ⟨k1, k2⟩ := ok c fl (by simpa using hc) C hm
              obtain ⟨u, hu, ru⟩ := field_rep hr ho
              exact ⟨a, C, dx, ns.zip vs, u, rfl, ea, k1, k2, hu, go u ru⟩
            · cases ho
          | _ => cases ho
      | _ => cases ho⟩
def putNs (f : Str) : List Str → List Str
  | [] => [f]
  | g :: r => if g = f then g :: r else g :: putNs f r
def putXs {α : Type} (f : Str) (v : α) : List Str → List α → List α
  | [], _ => [v]
  | g :: r, x :: xs => if g = f then v :: xs else x :: putXs f v r xs
  | _ :: _, [] => []
theorem put_zip {f : Str} {v : V} : ∀ {ns : List Str} {vs : List V}, vs.length = ns.length → putF f v (ns.zip vs) = (putNs f ns).zip (putXs f v ns vs) ∧ (putXs f v ns vs).length = (putNs f ns).length
  | [], vs, h => by
    cases vs with
    | nil => exact ⟨rfl, rfl⟩
    | cons x r => cases h
  | g :: r, [], h => by cases h
  | g :: r, x :: xs, h => by
    obtain ⟨h1, h2⟩ := put_zip (f := f) (v := v) (ns := r) (vs := xs) (by simpa using h)
    rw [List.zip_cons_cons]
    unfold putF putNs putXs
    by_cases e : g = f
    · rw [if_pos e, if_pos e, if_pos e]
      exact ⟨rfl, by simpa using h⟩
    · rw [if_neg e, if_neg e, if_neg e]
      exact ⟨by rw [h1]; rfl, by rw [List.length_cons, List.length_cons, h2]⟩
theorem put_reps {K : PySem.W.Frag} {mg : Str → Option Value} {F : Fz} {ι : List Addr} {H : Hp} {f : Str} {d : D} {v : V} (r : Rep K mg F ι H d v) : ∀ {ns : List Str} {ds : List D} {vs : List V}, Reps K mg F ι H ds vs → ds.length = ns.length → Reps K mg F ι H (putXs f d ns ds) (putXs f v ns vs)
  | [], ds, vs, h, hl => by
    cases ds with
    | nil => rw [show vs = [] from h]; exact .one r
    | cons x r => cases hl
  | g :: ns, [], vs, h, hl => by cases hl
  | g :: ns, x :: ds, vs, h, hl => by
    obtain ⟨u, us, rfl, h1, h2⟩ := h
    unfold putXs
    by_cases e : g = f
    · rw [if_pos e, if_pos e]; exact ⟨v, us, rfl, r, h2⟩
    · rw [if_neg e, if_neg e]; exact ⟨u, _, rfl, h1, put_reps r h2 (by simpa using hl)⟩
def putFld (ft : List (Str × Str)) (f : Str) (o d : D) (S : List Cell) : Option (List Cell) := match o with
  | .cell n => match S[n]? with
    | some (.ins c ns xs) => if ft.contains (c, f) && decide (ns.length < 900) && decide (xs.length = ns.length) then some (S.set n (.ins c (putNs f ns) (putXs f d ns xs))) else none
    | _ => none
  | _ => none
def mSetF (ft : List (Str × Str)) (f : Str) (fe fo : Ex D) : Sm := fun env S => (fe env S).go env fun d S1 => (fo env S1).go env fun o S2 => match putFld ft f o d S2 with
  | some S3 => .nx env S3
  | none => .bad
theorem s_fld {ft : List (Str × Str)} {fl : Str} {o : Expr} {fe fo : Ex D} {pos' : Pos} (ok : FldOk X.K X.mg ft) (he : VE X E e fe) (ho : VE X E o fo) (hs : swapsWith e (some (.Attribute o fl pos')) pos.line X.env = pure false := by rfl) :
    VS X E (.Assign [.Attribute o fl pos'] e pos) (mSetF ft fl fe fo) := fun g => (ps_fld (ho g) (he g) hs).imp fun D' σ H ⟨F, ι, env, S, w, q⟩ =>
  ⟨F, ι, env, S, w, rd_mono (rd_go w.wd q) fun d H1 F1 ι1 S1 _ e1 w1 ⟨_, _, q1⟩ v hv => ⟨F1, ι1, env, S1, w1, rd_mono (rd_go w1.wd q1) fun y H2 F2 ι2 S2 _ e2 w2 ⟨_, _, q2⟩ ov hov => by
    have rd := w1.wd.rep e2 hv
    cases hp : putFld ft fl y d S2 with
    | none => rw [hp] at q2; exact q2.elim
    | some S3 =>
      rw [hp] at q2
      cases y with
      | cell n =>
        obtain ⟨a, rfl, ha⟩ := hov
        have hp : (match S2[n]? with
          | some (.ins c ns xs) => if ft.contains (c, fl) && decide (ns.length < 900) && decide (xs.length = ns.length) then some (S2.set n (.ins c (putNs fl ns) (putXs fl d ns xs))) else none
          | _ => none) = some S3 := hp
        cases hS : S2[n]? with
        | none => rw [hS] at hp; cases hp
        | some cl =>
          rw [hS] at hp
          cases cl with
          | ins c ns xs =>
            have hp : (if ft.contains (c, fl) && decide (ns.length < 900) && decide (xs.length = ns.length) then some (S2.set n (.ins c (putNs fl ns) (putXs fl d ns xs))) else none) = some S3 := hp
            split at hp
            · rename_i hc
              rw [Bool.and_eq_true, Bool.and_eq_true] at hc
              obtain ⟨⟨hc1, hc2⟩, hc3⟩ := hc
              cases hp
              obtain ⟨C, dx, vs, hm, ea, hl, hr⟩ := w2.wd.cells _ _ a hS ha
              obtain ⟨k1, k2⟩ := ok c fl (by simpa using hc1) C hm
              obtain ⟨z1, z2⟩ := put_zip (f := fl) (v := v) (ns := ns) (vs := vs) hl
              have nl : ns.length < 900 := of_decide_eq_true hc2
              obtain ⟨w3, gr⟩ := w2.cell (n := n) (a := a) (o := .ins C dx (putF fl v (ns.zip vs))) (c' := .ins c (putNs fl ns) (putXs fl d ns xs)) ha ⟨_, hS, rfl⟩ rfl fun H' hH' st =>
                ⟨C, dx, putXs fl v ns vs, hm, by rw [hH', z1], z2, reps_mono (fun _ h => h) st (List.prefix_refl _) _ _ (put_reps rd hr (of_decide_eq_true hc3))⟩
              exact ⟨a, C, dx, ns.zip vs, rfl, ea, k1, k2, by rw [List.length_zip]; omega, q2 _ _ _ _ w3 gr⟩
            · cases hp
          | _ => cases hp
      | _ => cases hp⟩⟩
end
end DL
namespace DL
open PySem PySem.Spec L2
open PyProof.Rows hiding St
def isIns (c nm : Str) (d : D) (S : List Cell) : Bool := match d with
  | .obj c' ns _ => c' == c && !ns.contains nm
  | .cell k => match S[k]? with
    | some (.ins c' ns _) => c' == c && !ns.contains nm
    | _ => false
  | _ => false
def mMeth (c nm : Str) (n : Nat) (m : Fn) (fo : Ex D) (fa : Ex (List D)) : Ex D := fun env S => (fo env S).andThen fun o S1 => if isIns c nm o S1 = true then (fa env S1).andThen (fun xs S2 => if (o :: xs).length = n then m (o :: xs) S2 else .bad) else .bad
section
variable {X : Cx} {E : EE} {e o : Expr} {es : List Expr} {f fo h : Ex D} {fa : Ex (List D)} {pos p apos : Pos} {c nm : Str} {C gI : Addr} {i n : Nat} {fd : FuncData} {ps : List Str} {m : Fn}
def isInsP (c : Str) (d : D) (S : List Cell) : Bool := match d with
  | .obj c' _ _ => c' == c
  | .cell k => match S[k]? with
    | some (.ins c' _ _) => c' == c
    | _ => false
  | _ => false
theorem insP_at {K : PySem.W.Frag} {mg : Str → Option Value} {F : Fz} {ι : List Addr} {H : Hp} {S : List Cell} {c : Str} {C : Addr} {d : D} {v : V} (w : Wd K mg F ι H S) (r : Rep K mg F ι H d v) (h : isInsP c d S = true) (hc : mg c = some (.ref C)) :
    ∃ a dx fs, v = .ref a ∧ H a = some (.ins C dx fs) := by
  cases d with
  | obj c' ns xs =>
    have h : (c' == c) = true := h
    obtain ⟨a, C', dx, vs, rfl, _, hm, ea, _⟩ := r
    rw [beq_iff_eq.mp h, hc] at hm
    cases hm
    exact ⟨a, dx, _, rfl, ea⟩
  | cell k =>
    have h : (match S[k]? with | some (.ins c' _ _) => c' == c | _ => false) = true := h
    obtain ⟨a, rfl, ha⟩ := r
    cases hS : S[k]? with
    | none => rw [hS] at h; cases h
    | some cl =>
      rw [hS] at h
      cases cl with
      | ins c' ns xs =>
        have h : (c' == c) = true := h
        obtain ⟨C', dx, vs, hm, ea, _⟩ := w.cells _ _ a hS ha
        rw [beq_iff_eq.mp h, hc] at hm
        cases hm
        exact ⟨a, dx, _, rfl, ea⟩
      | _ => cases h
  | _ => cases h
def mProp (c : Str) (m : Fn) (fo : Ex D) : Ex D := fun env S => (fo env S).andThen fun o S1 => if isInsP c o S1 = true then noX (m [o] S1) else .bad
theorem v_prop {fl : Str} {q0 : Addr} (G : FnG X.prog X.w X.K X.mg X.base i gI fd ps (SpM X.K X.mg 1 m)) (rm : Rm (i + 1) X.A) (hc : X.mg c = some (.ref C)) (cl : Cls X.K C) (hp : PropOf X.K C fl q0 gI) (hb : Binds X.K fd ps []) (he : VE X E e fo) (hpn : ps.length = 1 := by rfl)
    (hab : attributeBase e fl X.env (eval e X.env) = eval e X.env := by rfl) : VE X E (.Attribute e fl pos) (mProp c m fo) := fun g => by
  constructor
  rintro pins s σ H Q I ⟨F, ι, env, S, w, q⟩
  refine attr_of hab (thn ((he g).run pins s σ H (fun v H1 => ∃ a dx fs, v = .ref a ∧ H1 a = some (.ins C dx fs) ∧ SpM X.K X.mg 1 m [v] H1 Q (fun _ _ _ => False)) I ⟨F, ι, env, S, w, rd_mono (rd_then q) ?_⟩) fun u s1 h1 => ?_)
  · rintro d H1 F1 ι1 S1 - e1 w1 ⟨_, _, q1⟩ v hv
    by_cases hi : isInsP c d S1 = true
    · rw [if_pos hi] at q1
      obtain ⟨a, dx, fs, rfl, ea⟩ := insP_at w1.wd hv hi hc
      refine ⟨a, dx, fs, rfl, ea, rfl, F1, ι1, [d], S1, w1.wd, .one hv, ?_⟩
      cases hm : m [d] S1 with
      | bad => rw [hm] at q1; exact q1.elim
      | ex c ns es S2 => rw [hm] at q1; exact q1.elim
      | ok d2 S2 =>
        rw [hm] at q1
        exact fun v H' F' ι' e' w' hv' => (q1 H' F' ι' e' (w1.step e' w')).2.2 v hv'
    · rw [if_neg hi] at q1
      exact q1.elim
  · obtain ⟨v, H1, I1, rv, a, dx, fs, rfl, ea, sp⟩ := h1
    obtain rfl : u = Value.ref a := rv
    obtain ⟨mA, O, _, _, _, _⟩ := ins_get I1.hok ea
    obtain ⟨od, J, _⟩ := O.look
    obtain ⟨rest, hrec⟩ := hp.rec_
    have I2 := I1.tok (s1.toks + 1)
    have hcl : (PySem.W.clsIn X.K C).isSome = true := by
      obtain ⟨cd, h, _⟩ := PySem.W.any_some cl.hd
      rw [h]; rfl
    have bd := hb { s1 with toks := s1.toks + 1 } [.ref a] I2.kIn (by rw [hpn]; rfl)
    rw [List.append_nil] at bd
    refine PySem.W.get_bind I1.kIn J (PySem.W.plainGet_of (cl.get fl)).1 (PySem.W.findObj_data hcl hp.at_ hp.get hp.tak) (PySem.W.plainGet_of (cl.get fl)).2 (wpAny_call (PySem.W.prop_get (s := { s1 with toks := s1.toks + 1 }) I1.kIn hrec ?_))
    refine codeAny_mono (G.go X.A.in1 X.stack { s1 with toks := s1.toks + 1 } H1 ⟨[.ref a], []⟩ [.ref a] [.ref a] Q (fun _ _ _ => False) rm.in1 I2.env0.in1 bd (.cons rfl .nil) sp) fun r s' hr => ?_
    cases r with
    | error er =>
      obtain ⟨_, _, _, _, _, _, _, _, _, _, _, _, z⟩ := hr
      exact z.elim
    | ok fl =>
      cases fl with
      | ret u =>
        obtain ⟨v2, H', I3, rv2, q3⟩ := I2.after hr
        show wpAny _ _ (handedOut u) _ _ _
        rw [PySem.W.handedOut_of (handed_of rv2)]
        exact wpAny_pure ⟨v2, H', I3, rv2, q3⟩
      | _ => exact False.elim hr
end
end DL
namespace DL
open PySem PySem.Spec L2
open PyProof.Rows hiding St
def fnBad : Fn := fun _ _ => .bad
theorem fnG_bad {P : Program} {w : World} {K : PySem.W.Frag} {mg : Str → Option Value} {base : Heap} {k n : Nat} {f : Addr} {fd : FuncData} {ps : List Str} (hn : ps.length = n) : FnG P w K mg base k f fd ps (SpM K mg n fnBad) :=
  ⟨fun vs H Q E h => h.1.trans hn.symm, fun A outer s H args us vs Q E rm e0 bd r h => by
    obtain ⟨_, F, ι, ds, S, _, _, q⟩ := h
    exact q.elim⟩
def sortI (ns : List Int) : List Int := ns.mergeSort fun a b => decide (a ≤ b)
def sortedD : OpN := fun xs _ => match xs with
  | [.lst a] => (intsOf a).map fun ns => .lst ((sortI ns).map .int)
  | _ => none
def flatD : D → Bool
  | .non => true
  | .bl _ => true
  | .int _ => true
  | .str _ => true
  | _ => false
def eqFl : D → D → Bool
  | .non, .non => true
  | .bl a, .bl b => a == b
  | .bl a, .int b => (if a then 1 else 0) == b
  | .int a, .bl b => a == (if b then 1 else 0)
  | .int a, .int b => a == b
  | .str a, .str b => a == b
  | _, _ => false
theorem flat_v {K : PySem.W.Frag} {mg : Str → Option Value} {F : Fz} {ι : List Addr} {H : Hp} {d : D} {v : V} (r : Rep K mg F ι H d v) (h : flatD d = true) : flatV v = true := by
  cases d <;> first | (cases h; done) | (rw [show v = _ from r]; rfl)
theorem flat_eq {K : PySem.W.Frag} {mg : Str → Option Value} {F : Fz} {ι : List Addr} {H : Hp} {d d' : D} {v v' : V} (r : Rep K mg F ι H d v) (r' : Rep K mg F ι H d' v') (h : flatD d = true) (h' : flatD d' = true) : eqV v v' = eqFl d d' := by
  cases d <;> first | (cases h; done) | (cases d' <;> first | (cases h'; done) | (rw [show v = _ from r, show v' = _ from r']; rfl))
def inFl (x : D) (xs : List D) : Bool := xs.any fun y => eqFl y x
def inD (neg : Bool) : Op2 := fun x y S => match y with
  | .lst xs => if flatD x && xs.all flatD then some (.bl (if neg then !inFl x xs else inFl x xs)) else none
  | .tup xs => if flatD x && xs.all flatD then some (.bl (if neg then !inFl x xs else inFl x xs)) else none
  | _ => none
theorem in_reps {K : PySem.W.Frag} {mg : Str → Option Value} {F : Fz} {ι : List Addr} {H : Hp} {x : D} {v : V} (r : Rep K mg F ι H x v) (hx : flatD x = true) : ∀ {ds : List D} {vs : List V}, Reps K mg F ι H ds vs → ds.all flatD = true → vs.all flatV = true ∧ inV v vs = inFl x ds
  | [], vs, h, _ => by rw [show vs = [] from h]; exact ⟨rfl, rfl⟩
  | d :: ds, vs, h, ha => by
    obtain ⟨u, us, rfl, h1, h2⟩ := h
    rw [List.all_cons, Bool.and_eq_true] at ha
    obtain ⟨a1, a2⟩ := in_reps r hx h2 ha.2
    refine ⟨by rw [List.all_cons, flat_v h1 ha.1, a1]; rfl, ?_⟩
    show (eqV u v || inV v us) = (eqFl d x || inFl x ds)
    rw [flat_eq h1 r ha.1 hx, a2]
theorem ok_in {K : PySem.W.Frag} {mg : Str → Option Value} : Ok2 K mg (rIn K false) (inD false) := by
  intro H F ι S x y d v u Q w rx ry ho t
  unfold inD at ho
  split at ho
  · split at ho
    · rename_i xs hc
      rw [Bool.and_eq_true] at hc
      cases ho
      obtain ⟨p, us, rfl, hl, hr⟩ := ry
      obtain ⟨a1, a2⟩ := in_reps rx hc.1 hr hc.2
      exact ⟨p, us, rfl, .inl hl.sq, flat_v rx hc.1, a1, by rw [a2]; exact t.here w rfl⟩
    · cases ho
  · split at ho
    · rename_i xs hc
      rw [Bool.and_eq_true] at hc
      cases ho
      obtain ⟨p, us, rfl, hl, hr⟩ := ry
      obtain ⟨a1, a2⟩ := in_reps rx hc.1 hr hc.2
      exact ⟨p, us, rfl, .inr hl.sq, flat_v rx hc.1, a1, by rw [a2]; exact t.here w rfl⟩
    · cases ho
  · cases ho
section
variable {X : Cx} {E : EE} {a b c e : Expr} {f : Ex D} {fa : Ex (List D)} {pos : Pos}
def mPar3 (i j l : Nat) (fa : Ex (List D)) : Sm := fun env S => (fa env S).go env fun ds S1 => match ds with
  | [d, d', d''] => .nx (((env.set i (.val d)).set j (.val d')).set l (.val d'')) S1
  | _ => .bad
end
end DL
namespace DL
open PySem PySem.Spec L2
open PyProof.Rows hiding St
section
variable {X : Cx} {E : EE} {a b c e : Expr} {f h : Ex D} {fa fo : Ex (List D)} {pos p p' p2 : Pos}
def rgD (i j : Int) : List D := (List.range (j - i).toNat).map fun k => .int (i + (k : Nat))
def okRg (i j : Int) : Bool := smallI i && smallI j && decide ((j - i).toNat ≤ 100000)
def mRg1 (f : Ex D) : Ex (List D) := fun env S => (f env S).andThen fun x S1 => match x with
  | .int j => if okRg 0 j then .ok (rgD 0 j) S1 else .bad
  | _ => .bad
def mRg2 (f h : Ex D) : Ex (List D) := fun env S => (f env S).andThen fun x S1 => (h env S1).andThen fun y S2 => match x, y with
  | .int i, .int j => if okRg i j then .ok (rgD i j) S2 else .bad
  | _, _ => .bad
theorem okRg_ok {i j : Int} (h : okRg i j = true) : RgOk i j := by
  unfold okRg at h
  rw [Bool.and_eq_true, Bool.and_eq_true] at h
  obtain ⟨a1, a2⟩ := small_of h.1.1
  obtain ⟨b1, b2⟩ := small_of h.1.2
  have := of_decide_eq_true h.2
  exact ⟨a1, a2, b1, b2, by omega⟩
theorem rg_reps {K : PySem.W.Frag} {mg : Str → Option Value} {F : Fz} {ι : List Addr} {H : Hp} (i j : Int) : Reps K mg F ι H (rgD i j) (rgV i j) := by
  have e1 : rgD i j = ((List.range (j - i).toNat).map fun k => i + (k : Nat)).map D.int := by unfold rgD; rw [List.map_map]; rfl
  have e2 : rgV i j = ((List.range (j - i).toNat).map fun k => i + (k : Nat)).map V.int := by unfold rgV; rw [List.map_map]; rfl
  rw [e1, e2]
  exact reps_ints _
def mParO (i j : Nat) (f : Ex D) (fo : Ex (List D)) : Sm := fun env S => (f env S).go env fun d S1 => (fo env S1).go env fun ds S2 => .nx ((env.set i (.val d)).set j (.own ds)) S2
theorem v_gtup {x : Str} {T : Addr} {ns : List Int} {o : Obj} {its : Array Value} {n : Nat} (hm : X.mg x = some (.ref T)) (hl : X.K.lookup T = some o) (hc : o.cls = .type "tuple") (hd : o.data = .seq its n) (hz : its.size ≤ sizeLine) (hv : Vals (ns.map V.int) its.toList) (hg : Gl X x := by rfl)
    (hdb : (x == ("__debug__" : Str)) = false := by decide) (hn : o.dict = none := by rfl) : VE X E (.Name x pos) (mC (.tup (ns.map .int))) :=
  v_glob (v := .ref T) hg hm rfl (fun F ι H => ⟨T, ns.map V.int, rfl, .inr ⟨.inr ⟨o, its, n, hl, hc, hd, hz, hv⟩, o, hl, hn⟩, reps_ints ns⟩) hdb
end
end DL
namespace DL
open PySem PySem.Spec L2
open PyProof.Rows hiding St
section
variable {X : Cx} {E : EE} {a b : Expr} {f : Ex D} {fo : Ex (List D)} {pos : Pos}
end
end DL
namespace DL
open PySem PySem.Spec L2
open PyProof.Rows hiding St
abbrev XQ := Str → List Str → List D → List Cell → Prop
abbrev XN : XQ := fun _ _ _ _ => False
abbrev XF := Str → List Str → List D → List Sl → List Cell → Prop
class PR (α : Type) where
  Q : α → List Cell → Prop
  X : XQ
class PF where
  N : List Sl → List Cell → Prop
  R : D → List Cell → Prop
  B : List Sl → List Cell → Prop
  C : List Sl → List Cell → Prop
  X : XF
def Rs.V {α : Type} (r : Rs α) [P : PR α] : Prop := match r with
  | .ok a S => P.Q a S
  | .ex c ns ds S => P.X c ns ds S
  | .bad => False
def Fl.V (r : Fl) [P : PF] : Prop := match r with
  | .nx e S => P.N e S
  | .rt d S => P.R d S
  | .bk e S => P.B e S
  | .ct e S => P.C e S
  | .ex c ns ds e S => P.X c ns ds e S
  | .bad => False
abbrev Rs.W {α : Type} (r : Rs α) (Q : α → List Cell → Prop) (X : XQ) : Prop := @Rs.V α r ⟨Q, X⟩
abbrev Fl.W (r : Fl) (N : List Sl → List Cell → Prop) (R : D → List Cell → Prop) (B C : List Sl → List Cell → Prop) (X : XF) : Prop := @Fl.V r ⟨N, R, B, C, X⟩
abbrev PF.nx (P : PF) (N : List Sl → List Cell → Prop) : PF := ⟨N, P.R, P.B, P.C, P.X⟩
abbrev PF.rd {α : Type} (P : PF) (env : List Sl) (Q : α → List Cell → Prop) : PR α := ⟨Q, fun c ns ds S => P.X c ns ds env S⟩
abbrev PR.rd {α β : Type} (P : PR α) (Q : β → List Cell → Prop) : PR β := ⟨Q, P.X⟩
@[simp] theorem nx_N (P : PF) (N) : @PF.N (P.nx N) = N := nr rfl
@[simp] theorem nx_R (P : PF) (N) : @PF.R (P.nx N) = P.R := nr rfl
@[simp] theorem nx_B (P : PF) (N) : @PF.B (P.nx N) = P.B := nr rfl
@[simp] theorem nx_C (P : PF) (N) : @PF.C (P.nx N) = P.C := nr rfl
@[simp] theorem nx_X (P : PF) (N) : @PF.X (P.nx N) = P.X := nr rfl
@[simp] theorem frd_Q {α : Type} (P : PF) (env : List Sl) (Q : α → List Cell → Prop) : @PR.Q α (P.rd env Q) = Q := nr rfl
@[simp] theorem frd_X {α : Type} (P : PF) (env : List Sl) (Q : α → List Cell → Prop) : @PR.X α (P.rd env Q) = fun c ns ds S => P.X c ns ds env S := nr rfl
@[simp] theorem rrd_Q {α β : Type} (P : PR α) (Q : β → List Cell → Prop) : @PR.Q β (P.rd Q) = Q := nr rfl
@[simp] theorem rrd_X {α β : Type} (P : PR α) (Q : β → List Cell → Prop) : @PR.X β (P.rd Q) = P.X := nr rfl
section
variable {α β : Type} {P : PR α} {F : PF}
@[simp] theorem V_ok (a : α) (S : List Cell) : @Rs.V α (Rs.ok a S) P = P.Q a S := nr rfl
@[simp] theorem V_ex (c ns ds S) : @Rs.V α (Rs.ex c ns ds S) P = P.X c ns ds S := nr rfl
@[simp] theorem V_bad : @Rs.V α Rs.bad P = False := nr rfl
@[simp] theorem V_nx (e S) : @Fl.V (Fl.nx e S) F = F.N e S := nr rfl
@[simp] theorem V_rt (d S) : @Fl.V (Fl.rt d S) F = F.R d S := nr rfl
@[simp] theorem V_bk (e S) : @Fl.V (Fl.bk e S) F = F.B e S := nr rfl
@[simp] theorem V_ct (e S) : @Fl.V (Fl.ct e S) F = F.C e S := nr rfl
@[simp] theorem V_fex (c ns ds e S) : @Fl.V (Fl.ex c ns ds e S) F = F.X c ns ds e S := nr rfl
@[simp] theorem V_fbad : @Fl.V Fl.bad F = False := nr rfl
@[simp ↓] theorem V_andThen (r : Rs β) (h : β → List Cell → Rs α) : @Rs.V α (r.andThen h) P = @Rs.V β r (P.rd fun b S => @Rs.V α (h b S) P) := by cases r <;> rfl
@[simp ↓] theorem V_go (r : Rs α) (env : List Sl) (h : α → List Cell → Fl) : @Fl.V (r.go env h) F = @Rs.V α r (F.rd env fun a S => @Fl.V (h a S) F) := by cases r <;> rfl
@[simp ↓] theorem V_noX (r : Rs α) : @Rs.V α (noX r) P = @Rs.V α r ⟨P.Q, XN⟩ := by cases r <;> rfl
@[simp] theorem andThen_assoc {γ : Type} (r : Rs α) (h : α → List Cell → Rs β) (k : β → List Cell → Rs γ) : (r.andThen h).andThen k = r.andThen fun a S => (h a S).andThen k := by cases r <;> rfl
@[simp] theorem ofO_some' (d : D) (S : List Cell) : ofO (some d) S = .ok d S := nr rfl
@[simp] theorem ofO_none' (S : List Cell) : ofO none S = .bad := nr rfl
theorem Rs.V.to {r : Rs α} {P' : PR α} (h : @Rs.V α r P) (k : ∀ a S, P.Q a S → P'.Q a S) (x : ∀ c ns ds S, P.X c ns ds S → P'.X c ns ds S) : @Rs.V α r P' := by
  cases r with
  | ok a S => exact k a S h
  | ex c ns ds S => exact x c ns ds S h
  | bad => exact h
theorem Rs.W.on {r : Rs α} {Q : α → List Cell → Prop} {P' : PR α} (h : r.W Q XN) (k : ∀ a S, Q a S → P'.Q a S) : @Rs.V α r P' := Rs.V.to h k fun _ _ _ _ h => h.elim
theorem Rs.W.of {r : Rs α} {Q : α → List Cell → Prop} (h : r.W Q XN) : ∃ a S, r = .ok a S ∧ Q a S := by
  cases r with
  | ok a S => exact ⟨a, S, rfl, h⟩
  | ex c ns ds S => exact h.elim
  | bad => exact h.elim
theorem Rs.W.eq {r : Rs α} {v : α} {S : List Cell} (h : r.W (fun d S' => d = v ∧ S' = S) XN) : r = .ok v S := by
  obtain ⟨a, S', rfl, rfl, rfl⟩ := h.of
  rfl
theorem Rs.W.of_eq {r : Rs α} {v : α} {S : List Cell} {P : PR α} (h : r = .ok v S) (k : P.Q v S) : @Rs.V α r P := by rw [h]; exact k
theorem Fl.V.to {r : Fl} {F' : PF} (h : @Fl.V r F) (n : ∀ e S, F.N e S → F'.N e S) (t : ∀ d S, F.R d S → F'.R d S) (b : ∀ e S, F.B e S → F'.B e S) (c : ∀ e S, F.C e S → F'.C e S)
    (y : ∀ c ns ds e S, F.X c ns ds e S → F'.X c ns ds e S) : @Fl.V r F' := by
  cases r with
  | nx e S => exact n e S h
  | rt d S => exact t d S h
  | bk e S => exact b e S h
  | ct e S => exact c e S h
  | ex c ns ds e S => exact y c ns ds e S h
  | bad => exact h
section
variable (env : List Sl) (S : List Cell)
@[simp ↓] theorem V_seq (a b : Sm) : @Fl.V (mSeq a b env S) F = @Fl.V (a env S) (F.nx fun e S' => @Fl.V (b e S') F) := by
  unfold mSeq; cases a env S <;> rfl
@[simp ↓] theorem V_skip  : @Fl.V (mSkip env S) F = F.N env S := nr rfl
@[simp ↓] theorem V_set (i : Nat) (f : Ex D) : @Fl.V (mSet i f env S) F = @Rs.V D (f env S) (F.rd env fun d S1 => F.N (env.set i (.val d)) S1) := by
  unfold mSet; rw [V_go]; rfl
@[simp ↓] theorem V_setO (i : Nat) (f : Ex (List D)) : @Fl.V (mSetO i f env S) F = @Rs.V (List D) (f env S) (F.rd env fun d S1 => F.N (env.set i (.own d)) S1) := by
  unfold mSetO; rw [V_go]; rfl
@[simp ↓] theorem V_ifS (p : Ex Bool) (a b : Sm) : @Fl.V (mIfS p a b env S) F = @Rs.V Bool (p env S) (F.rd env fun b' S1 => @Fl.V (if b' = true then a env S1 else b env S1) F) := by
  unfold mIfS; rw [V_go]
@[simp ↓] theorem V_ret (f : Ex D) : @Fl.V (mRet f env S) F = @Rs.V D (f env S) (F.rd env F.R) := by
  unfold mRet; rw [V_go]; rfl
@[simp ↓] theorem V_retN  : @Fl.V (mRetN env S) F = F.R .non S := nr rfl
@[simp ↓] theorem V_expr (f : Ex D) : @Fl.V (mExpr f env S) F = @Rs.V D (f env S) (F.rd env fun _ S1 => F.N env S1) := by
  unfold mExpr; rw [V_go]; rfl
@[simp ↓] theorem V_break  : @Fl.V (mBreak env S) F = F.B env S := nr rfl
@[simp ↓] theorem V_cont  : @Fl.V (mCont env S) F = F.C env S := nr rfl
@[simp ↓] theorem V_raise (x fld : Str) (f : Ex D) : @Fl.V (mRaise x fld f env S) F = @Rs.V D (f env S) (F.rd env fun d S1 => F.X x [fld] [d] env S1) := by
  unfold mRaise; rw [V_go]; rfl
@[simp ↓] theorem V_unp (p : Pat) (f : Ex D) : @Fl.V (mUnp p f env S) F = @Rs.V D (f env S) (F.rd env fun d S1 => @Fl.V (match bindP p d env with | some env' => Fl.nx env' S1 | none => .bad) F) := by
  unfold mUnp; rw [V_go]
@[simp ↓] theorem V_par2 (i j : Nat) (f : Ex (List D)) : @Fl.V (mPar2 i j f env S) F = @Rs.V (List D) (f env S) (F.rd env fun ds S1 => @Fl.V (match ds with | [d, d'] => Fl.nx ((env.set i (.val d)).set j (.val d')) S1 | _ => .bad) F) := by
  unfold mPar2; rw [V_go]
@[simp ↓] theorem V_par3 (i j l : Nat) (f : Ex (List D)) : @Fl.V (mPar3 i j l f env S) F = @Rs.V (List D) (f env S) (F.rd env fun ds S1 => @Fl.V (match ds with | [d, d', d''] => Fl.nx (((env.set i (.val d)).set j (.val d')).set l (.val d'')) S1 | _ => .bad) F) := by
  unfold mPar3; rw [V_go]
@[simp ↓] theorem V_parO (i j : Nat) (f : Ex D) (fo : Ex (List D)) : @Fl.V (mParO i j f fo env S) F = @Rs.V D (f env S) (F.rd env fun d S1 => @Rs.V (List D) (fo env S1) (F.rd env fun ds S2 => F.N ((env.set i (.val d)).set j (.own ds)) S2)) := by
  unfold mParO; cases f env S
  · rw [go_ok, V_go]; rfl
  · rfl
  · rfl
@[simp ↓] theorem V_for (it : Ex (List D)) (p : Pat) (m : Sm) : @Fl.V (mFor it p m env S) F = @Rs.V (List D) (it env S) (F.rd env fun ds S1 => @Fl.V (forL p m ds env S1) F) := by
  unfold mFor; rw [V_go]
@[simp ↓] theorem V_asg (f : Ex D) (t : D → Sm) : @Fl.V (mAsg f t env S) F = @Rs.V D (f env S) (F.rd env fun d S1 => @Fl.V (t d env S1) F) := by
  unfold mAsg; rw [V_go]
@[simp ↓] theorem V_gname (k : Nat) (d : D) : @Fl.V (gName' k d env S) F = F.N (env.set k (.val d)) S := nr rfl
@[simp ↓] theorem V_gsub (f h : Ex D) (d : D) : @Fl.V (gSubC f h d env S) F = @Rs.V D (f env S) (F.rd env fun x S1 => @Rs.V D (h env S1) (F.rd env fun y S2 => @Fl.V (match putC x y d S2 with | some S3 => Fl.nx env S3 | none => .bad) F)) := by
  unfold gSubC; cases f env S
  · rw [go_ok, V_go]; rfl
  · rfl
  · rfl
@[simp ↓] theorem V_gtup1 (ts : List D → Sm) (ds : List D) : @Fl.V (gTup' ts (.tup ds) env S) F = @Fl.V (ts ds env S) F := nr rfl
@[simp ↓] theorem V_gtup2 (ts : List D → Sm) (ds : List D) : @Fl.V (gTup' ts (.lst ds) env S) F = @Fl.V (ts ds env S) F := nr rfl
@[simp ↓] theorem V_gnil  : @Fl.V (gNil' [] env S) F = F.N env S := nr rfl
@[simp ↓] theorem V_gcons (t : D → Sm) (ts : List D → Sm) (d : D) (r : List D) : @Fl.V (gCons' t ts (d :: r) env S) F = @Fl.V (t d env S) ⟨fun e S' => @Fl.V (ts r e S') F, fun _ _ => False, fun _ _ => False, fun _ _ => False, F.X⟩ := by
  unfold gCons'; dsimp only; cases t d env S <;> rfl
@[simp ↓] theorem V_app (k : Nat) (f : Ex D) : @Fl.V (mApp k f env S) F = @Fl.V (match env[k]? with | some (.own ds) => (f env S).go env fun d S1 => if okLen (ds.length + 1) then .nx (env.set k (.own (ds ++ [d]))) S1 else .bad | _ => .bad : Fl) F := nr rfl
@[simp ↓] theorem V_fz (k : Nat) (m : Sm) : @Fl.V (mFz k m env S) F = @Fl.V (match env[k]? with | some (.own ds) => m (env.set k (.val (.lst ds))) S | some (.val _) => m env S | _ => .bad : Fl) F := by
  unfold mFz; first | rfl | (split <;> rfl)
@[simp ↓] theorem V_setF (ft : List (Str × Str)) (f : Str) (fe fo : Ex D) : @Fl.V (mSetF ft f fe fo env S) F = @Rs.V D (fe env S) (F.rd env fun d S1 => @Rs.V D (fo env S1) (F.rd env fun o S2 => @Fl.V (match putFld ft f o d S2 with | some S3 => Fl.nx env S3 | none => .bad) F)) := by
  unfold mSetF; cases fe env S
  · rw [go_ok, V_go]; rfl
  · rfl
  · rfl
@[simp ↓] theorem V_try (sub : Str → Str → Option Bool) (m : Sm) (hs : List Hd) : @Fl.V (mTry sub m hs env S) F = @Fl.V (m env S) ⟨F.N, F.R, F.B, F.C, fun c ns ds e S' => @Fl.V (runH sub c ns ds hs e S') F⟩ := by
  unfold mTry; cases m env S <;> rfl
@[simp ↓] theorem V_runH0 (sub : Str → Str → Option Bool) (c ns ds) : @Fl.V (runH sub c ns ds [] env S) F = F.X c ns ds env S := nr rfl
@[simp ↓] theorem V_suite1 (i : Nat) (f : Fl) : @Fl.V (suiteOut (some i) f) F = @Fl.V f ⟨fun e S => F.N (e.set i .un) S, F.R, fun e S => F.B (e.set i .un) S, fun e S => F.C (e.set i .un) S, fun _ _ _ _ _ => False⟩ := by cases f <;> rfl
@[simp ↓] theorem V_suite0 (f : Fl) : @Fl.V (suiteOut none f) F = @Fl.V f ⟨F.N, F.R, F.B, F.C, fun _ _ _ _ _ => False⟩ := by cases f <;> rfl
@[simp ↓] theorem V_def (n : Nat) (m : Sm) (ds : List D) {P : PR D} : @Rs.V D (mDef n m ds S) P = @Fl.V (m (startE n ds) S) ⟨fun _ S' => P.Q .non S', P.Q, fun _ _ => False, fun _ _ => False, fun c ns es _ S' => P.X c ns es S'⟩ := by
  unfold mDef; cases m (startE n ds) S <;> rfl
end
section
variable (env : List Sl) (S : List Cell)
@[simp] theorem r_var (i : Nat) : mVar i env S = (match env[i]? with | some (.val d) => .ok d S | _ => .bad) := nr rfl
@[simp] theorem r_c (d : D) : mC d env S = .ok d S := nr rfl
@[simp ↓] theorem V_rc (d : D) {P : PR D} : @Rs.V D (mC d env S) P = P.Q d S := nr rfl
@[simp] theorem r_op (o : Op2) (f h : Ex D) : mOp o f h env S = (f env S).andThen fun x S1 => (h env S1).andThen fun y S2 => ofO (o x y S2) S2 := nr rfl
@[simp ↓] theorem V_rop (o : Op2) (f h : Ex D) {P : PR D} : @Rs.V D (mOp o f h env S) P = @Rs.V D ((f env S).andThen fun x S1 => (h env S1).andThen fun y S2 => ofO (o x y S2) S2) P := by rw [r_op]
@[simp] theorem r_un (o : Op1) (f : Ex D) : mUn o f env S = (f env S).andThen fun x S1 => ofO (o x S1) S1 := nr rfl
@[simp ↓] theorem V_run (o : Op1) (f : Ex D) {P : PR D} : @Rs.V D (mUn o f env S) P = @Rs.V D ((f env S).andThen fun x S1 => ofO (o x S1) S1) P := by rw [r_un]
@[simp] theorem r_B (f : Ex D) : mB f env S = (f env S).andThen asB := nr rfl
@[simp ↓] theorem V_rB (f : Ex D) {P : PR Bool} : @Rs.V Bool (mB f env S) P = @Rs.V Bool ((f env S).andThen asB) P := by rw [r_B]
@[simp] theorem r_not (p : Ex Bool) : mNot p env S = (p env S).andThen fun b S1 => .ok (!b) S1 := nr rfl
@[simp ↓] theorem V_rnot (p : Ex Bool) {P : PR Bool} : @Rs.V Bool (mNot p env S) P = @Rs.V Bool ((p env S).andThen fun b S1 => .ok (!b) S1) P := by rw [r_not]
@[simp] theorem r_and (p q : Ex Bool) : mAnd p q env S = (p env S).andThen fun b S1 => if b = true then q env S1 else .ok false S1 := nr rfl
@[simp ↓] theorem V_rand (p q : Ex Bool) {P : PR Bool} : @Rs.V Bool (mAnd p q env S) P = @Rs.V Bool ((p env S).andThen fun b S1 => if b = true then q env S1 else .ok false S1) P := by rw [r_and]
@[simp] theorem r_or (p q : Ex Bool) : mOr p q env S = (p env S).andThen fun b S1 => if b = true then .ok true S1 else q env S1 := nr rfl
@[simp ↓] theorem V_ror (p q : Ex Bool) {P : PR Bool} : @Rs.V Bool (mOr p q env S) P = @Rs.V Bool ((p env S).andThen fun b S1 => if b = true then .ok true S1 else q env S1) P := by rw [r_or]
@[simp] theorem r_andV (f h : Ex D) : mAndV f h env S = (mB f env S).andThen fun b S1 => if b = true then h env S1 else .ok (.bl false) S1 := nr rfl
@[simp ↓] theorem V_randV (f h : Ex D) {P : PR D} : @Rs.V D (mAndV f h env S) P = @Rs.V D ((mB f env S).andThen fun b S1 => if b = true then h env S1 else .ok (.bl false) S1) P := by rw [r_andV]
@[simp] theorem r_orV (f h : Ex D) : mOrV f h env S = (mB f env S).andThen fun b S1 => if b = true then .ok (.bl true) S1 else h env S1 := nr rfl
@[simp ↓] theorem V_rorV (f h : Ex D) {P : PR D} : @Rs.V D (mOrV f h env S) P = @Rs.V D ((mB f env S).andThen fun b S1 => if b = true then .ok (.bl true) S1 else h env S1) P := by rw [r_orV]
@[simp] theorem r_notV (f : Ex D) : mNotV f env S = (mB f env S).andThen fun b S1 => .ok (.bl (!b)) S1 := nr rfl
@[simp ↓] theorem V_rnotV (f : Ex D) {P : PR D} : @Rs.V D (mNotV f env S) P = @Rs.V D ((mB f env S).andThen fun b S1 => .ok (.bl (!b)) S1) P := by rw [r_notV]
@[simp] theorem r_if (p : Ex Bool) (f h : Ex D) : mIf p f h env S = (p env S).andThen fun b S1 => if b = true then f env S1 else h env S1 := nr rfl
@[simp ↓] theorem V_rif (p : Ex Bool) (f h : Ex D) {P : PR D} : @Rs.V D (mIf p f h env S) P = @Rs.V D ((p env S).andThen fun b S1 => if b = true then f env S1 else h env S1) P := by rw [r_if]
@[simp] theorem r_chain (o o' : Op2) (f h k : Ex D) : mChain o o' f h k env S = (f env S).andThen fun x S1 => (h env S1).andThen fun y S2 => ((ofO (o x y S2) S2).andThen asB).andThen fun b S3 =>
  if b = true then (k env S3).andThen fun z S4 => ofO (o' y z S4) S4 else .ok (.bl false) S3 := nr rfl
@[simp ↓] theorem V_rchain (o o' : Op2) (f h k : Ex D) {P : PR D} : @Rs.V D (mChain o o' f h k env S) P = @Rs.V D ((f env S).andThen fun x S1 => (h env S1).andThen fun y S2 => ((ofO (o x y S2) S2).andThen asB).andThen fun b S3 =>
  if b = true then (k env S3).andThen fun z S4 => ofO (o' y z S4) S4 else .ok (.bl false) S3) P := by rw [r_chain]
@[simp] theorem r_call (o : OpN) (fa : Ex (List D)) : mCall o fa env S = (fa env S).andThen fun xs S1 => ofO (o xs S1) S1 := nr rfl
@[simp ↓] theorem V_rcall (o : OpN) (fa : Ex (List D)) {P : PR D} : @Rs.V D (mCall o fa env S) P = @Rs.V D ((fa env S).andThen fun xs S1 => ofO (o xs S1) S1) P := by rw [r_call]
@[simp] theorem r_fn (n : Nat) (m : Fn) (fa : Ex (List D)) : mFn n m fa env S = (fa env S).andThen fun xs S1 => if xs.length = n then m xs S1 else .bad := nr rfl
@[simp ↓] theorem V_rfn (n : Nat) (m : Fn) (fa : Ex (List D)) {P : PR D} : @Rs.V D (mFn n m fa env S) P = @Rs.V D ((fa env S).andThen fun xs S1 => if xs.length = n then m xs S1 else .bad) P := by rw [r_fn]
@[simp] theorem r_fnK (n np nk : Nat) (p : List Nat) (m : Fn) (fa fk : Ex (List D)) : mFnK n np nk p m fa fk env S = (fa env S).andThen fun xs S1 => if xs.length = np then (fk env S1).andThen (fun zs S2 =>
  if zs.length = nk then (if (pickL p (xs ++ zs)).length = n then m (pickL p (xs ++ zs)) S2 else .bad) else .bad) else .bad := nr rfl
@[simp ↓] theorem V_rfnK (n np nk : Nat) (p : List Nat) (m : Fn) (fa fk : Ex (List D)) {P : PR D} : @Rs.V D (mFnK n np nk p m fa fk env S) P = @Rs.V D ((fa env S).andThen fun xs S1 => if xs.length = np then (fk env S1).andThen (fun zs S2 =>
  if zs.length = nk then (if (pickL p (xs ++ zs)).length = n then m (pickL p (xs ++ zs)) S2 else .bad) else .bad) else .bad) P := by rw [r_fnK]
@[simp] theorem r_cons (f : Ex D) (r : Ex (List D)) : mCons f r env S = (f env S).andThen fun x S1 => (r env S1).andThen fun xs S2 => .ok (x :: xs) S2 := nr rfl
@[simp ↓] theorem V_rcons (f : Ex D) (r : Ex (List D)) {P : PR (List D)} : @Rs.V (List D) (mCons f r env S) P = @Rs.V (List D) ((f env S).andThen fun x S1 => (r env S1).andThen fun xs S2 => .ok (x :: xs) S2) P := by rw [r_cons]
@[simp] theorem r_nil  : mNil env S = .ok [] S := nr rfl
@[simp ↓] theorem V_rnil  {P : PR (List D)} : @Rs.V (List D) (mNil env S) P = P.Q [] S := nr rfl
@[simp] theorem r_tup (f : Ex (List D)) : mTup f env S = (f env S).andThen fun xs S1 => if xs.length ≤ 100000 then .ok (.tup xs) S1 else .bad := nr rfl
@[simp ↓] theorem V_rtup (f : Ex (List D)) {P : PR D} : @Rs.V D (mTup f env S) P = @Rs.V D ((f env S).andThen fun xs S1 => if xs.length ≤ 100000 then .ok (.tup xs) S1 else .bad) P := by rw [r_tup]
@[simp] theorem r_lst (f : Ex (List D)) : mLst f env S = (f env S).andThen fun xs S1 => if xs.length ≤ 100000 then .ok xs S1 else .bad := nr rfl
@[simp ↓] theorem V_rlst (f : Ex (List D)) {P : PR (List D)} : @Rs.V (List D) (mLst f env S) P = @Rs.V (List D) ((f env S).andThen fun xs S1 => if xs.length ≤ 100000 then .ok xs S1 else .bad) P := by rw [r_lst]
@[simp] theorem r_fr (f : Ex (List D)) : mFr f env S = (f env S).andThen fun xs S1 => .ok (.lst xs) S1 := nr rfl
@[simp ↓] theorem V_rfr (f : Ex (List D)) {P : PR D} : @Rs.V D (mFr f env S) P = @Rs.V D ((f env S).andThen fun xs S1 => .ok (.lst xs) S1) P := by rw [r_fr]
@[simp] theorem r_cell (f : Ex (List D)) : mCell f env S = (f env S).andThen fun xs S1 => .ok (.cell S1.length) (S1 ++ [.lst xs]) := by
  unfold mCell; cases f env S <;> rfl
@[simp ↓] theorem V_rcell (f : Ex (List D)) {P : PR D} : @Rs.V D (mCell f env S) P = @Rs.V D ((f env S).andThen fun xs S1 => .ok (.cell S1.length) (S1 ++ [.lst xs])) P := by rw [r_cell]
@[simp] theorem r_slice (o : D → Option Int → Option Int → Option D) (f : Ex D) (l h : ExO) : mSlice o f l h env S = (f env S).andThen fun x S1 => (l env S1).andThen fun a S2 => (h env S2).andThen fun b S3 => ofO (o x a b) S3 := nr rfl
@[simp ↓] theorem V_rslice (o : D → Option Int → Option Int → Option D) (f : Ex D) (l h : ExO) {P : PR D} : @Rs.V D (mSlice o f l h env S) P = @Rs.V D ((f env S).andThen fun x S1 => (l env S1).andThen fun a S2 => (h env S2).andThen fun b S3 => ofO (o x a b) S3) P := by rw [r_slice]
@[simp] theorem r_noPart  : mNoPart env S = .ok none S := nr rfl
@[simp ↓] theorem V_rnoPart  {P : PR (Option Int)} : @Rs.V (Option Int) (mNoPart env S) P = P.Q none S := nr rfl
@[simp] theorem r_part (f : Ex D) : mPart f env S = (f env S).andThen asI := nr rfl
@[simp ↓] theorem V_rpart (f : Ex D) {P : PR (Option Int)} : @Rs.V (Option Int) (mPart f env S) P = @Rs.V (Option Int) ((f env S).andThen asI) P := by rw [r_part]
@[simp] theorem r_range1 (f : Ex (List D)) : mRange1 f env S = (f env S).andThen range1D := nr rfl
@[simp ↓] theorem V_rrange1 (f : Ex (List D)) {P : PR (List D)} : @Rs.V (List D) (mRange1 f env S) P = @Rs.V (List D) ((f env S).andThen range1D) P := by rw [r_range1]
@[simp] theorem r_range2 (f : Ex (List D)) : mRange2 f env S = (f env S).andThen range2D := nr rfl
@[simp ↓] theorem V_rrange2 (f : Ex (List D)) {P : PR (List D)} : @Rs.V (List D) (mRange2 f env S) P = @Rs.V (List D) ((f env S).andThen range2D) P := by rw [r_range2]
@[simp] theorem r_rangeB (f : Ex (List D)) : mRangeB f env S = (f env S).andThen rangeBD := nr rfl
@[simp ↓] theorem V_rrangeB (f : Ex (List D)) {P : PR (List D)} : @Rs.V (List D) (mRangeB f env S) P = @Rs.V (List D) ((f env S).andThen rangeBD) P := by rw [r_rangeB]
@[simp] theorem r_items (f : Ex D) : mItems f env S = (f env S).andThen itemsOf := nr rfl
@[simp ↓] theorem V_ritems (f : Ex D) {P : PR (List D)} : @Rs.V (List D) (mItems f env S) P = @Rs.V (List D) ((f env S).andThen itemsOf) P := by rw [r_items]
@[simp] theorem r_enum (f : Ex (List D)) : mEnum f env S = (f env S).andThen enumD := nr rfl
@[simp ↓] theorem V_renum (f : Ex (List D)) {P : PR (List D)} : @Rs.V (List D) (mEnum f env S) P = @Rs.V (List D) ((f env S).andThen enumD) P := by rw [r_enum]
@[simp] theorem r_zip (f : Ex (List D)) : mZip f env S = (f env S).andThen zipD := nr rfl
@[simp ↓] theorem V_rzip (f : Ex (List D)) {P : PR (List D)} : @Rs.V (List D) (mZip f env S) P = @Rs.V (List D) ((f env S).andThen zipD) P := by rw [r_zip]
@[simp] theorem r_yes  : mYes env S = .ok true S := nr rfl
@[simp ↓] theorem V_ryes  {P : PR Bool} : @Rs.V Bool (mYes env S) P = P.Q true S := nr rfl
@[simp] theorem r_comp (it : Ex (List D)) (vs : List Nat) (p : Pat) (c : Ex Bool) (e : Ex D) : mComp it vs p c e env S = (it env S).andThen fun ds S1 => if ds.length ≤ 100000 then noX (compL vs p c e ds env S1) else .bad := nr rfl
@[simp ↓] theorem V_rcomp (it : Ex (List D)) (vs : List Nat) (p : Pat) (c : Ex Bool) (e : Ex D) {P : PR (List D)} : @Rs.V (List D) (mComp it vs p c e env S) P = @Rs.V (List D) ((it env S).andThen fun ds S1 => if ds.length ≤ 100000 then noX (compL vs p c e ds env S1) else .bad) P := by rw [r_comp]
@[simp] theorem r_make (c : Str) (fz : Bool) (n : Nat) (m : Fn) (fa : Ex (List D)) : mMake c fz n m fa env S = (fa env S).andThen fun xs S1 => if xs.length + 1 = n then madeR c fz S1.length (m (.cell S1.length :: xs) (S1 ++ [.ins c [] []])) else .bad := nr rfl
@[simp ↓] theorem V_rmake (c : Str) (fz : Bool) (n : Nat) (m : Fn) (fa : Ex (List D)) {P : PR D} : @Rs.V D (mMake c fz n m fa env S) P = @Rs.V D ((fa env S).andThen fun xs S1 => if xs.length + 1 = n then madeR c fz S1.length (m (.cell S1.length :: xs) (S1 ++ [.ins c [] []])) else .bad) P := by rw [r_make]
@[simp] theorem r_makeK (c : Str) (fz : Bool) (n np nk : Nat) (p : List Nat) (m : Fn) (fa fk : Ex (List D)) : mMakeK c fz n np nk p m fa fk env S = (fa env S).andThen fun xs S1 => if xs.length = np then (fk env S1).andThen (fun zs S2 => if zs.length = nk then
  (if (pickL p (.cell S2.length :: (xs ++ zs))).length = n then madeR c fz S2.length (m (pickL p (.cell S2.length :: (xs ++ zs))) (S2 ++ [.ins c [] []])) else .bad) else .bad) else .bad := nr rfl
@[simp ↓] theorem V_rmakeK (c : Str) (fz : Bool) (n np nk : Nat) (p : List Nat) (m : Fn) (fa fk : Ex (List D)) {P : PR D} : @Rs.V D (mMakeK c fz n np nk p m fa fk env S) P = @Rs.V D ((fa env S).andThen fun xs S1 => if xs.length = np then (fk env S1).andThen (fun zs S2 => if zs.length = nk then
  (if (pickL p (.cell S2.length :: (xs ++ zs))).length = n then madeR c fz S2.length (m (pickL p (.cell S2.length :: (xs ++ zs))) (S2 ++ [.ins c [] []])) else .bad) else .bad) else .bad) P := by rw [r_makeK]
@[simp] theorem r_prop (c : Str) (m : Fn) (f : Ex D) : mProp c m f env S = (f env S).andThen fun o S1 => if isInsP c o S1 = true then noX (m [o] S1) else .bad := nr rfl
@[simp ↓] theorem V_rprop (c : Str) (m : Fn) (f : Ex D) {P : PR D} : @Rs.V D (mProp c m f env S) P = @Rs.V D ((f env S).andThen fun o S1 => if isInsP c o S1 = true then noX (m [o] S1) else .bad) P := by rw [r_prop]
@[simp] theorem r_meth (c nm : Str) (n : Nat) (m : Fn) (fo : Ex D) (fa : Ex (List D)) : mMeth c nm n m fo fa env S = (fo env S).andThen fun o S1 => if isIns c nm o S1 = true then (fa env S1).andThen (fun xs S2 => if (o :: xs).length = n then m (o :: xs) S2 else .bad) else .bad := nr rfl
@[simp ↓] theorem V_rmeth (c nm : Str) (n : Nat) (m : Fn) (fo : Ex D) (fa : Ex (List D)) {P : PR D} : @Rs.V D (mMeth c nm n m fo fa env S) P = @Rs.V D ((fo env S).andThen fun o S1 => if isIns c nm o S1 = true then (fa env S1).andThen (fun xs S2 => if (o :: xs).length = n then m (o :: xs) S2 else .bad) else .bad) P := by rw [r_meth]
@[simp] theorem r_rg1 (f : Ex D) : mRg1 f env S = (f env S).andThen fun x S1 => match x with
  | .int j => if okRg 0 j then .ok (rgD 0 j) S1 else .bad
  | _ => .bad := nr rfl
@[simp ↓] theorem V_rrg1 (f : Ex D) {P : PR (List D)} : @Rs.V (List D) (mRg1 f env S) P = @Rs.V (List D) ((f env S).andThen fun x S1 => match x with
  | .int j => if okRg 0 j then .ok (rgD 0 j) S1 else .bad
  | _ => .bad) P := by rw [r_rg1]
@[simp] theorem r_rg2 (f h : Ex D) : mRg2 f h env S = (f env S).andThen fun x S1 => (h env S1).andThen fun y S2 => match x, y with
  | .int i, .int j => if okRg i j then .ok (rgD i j) S2 else .bad
  | _, _ => .bad := nr rfl
@[simp ↓] theorem V_rrg2 (f h : Ex D) {P : PR (List D)} : @Rs.V (List D) (mRg2 f h env S) P = @Rs.V (List D) ((f env S).andThen fun x S1 => (h env S1).andThen fun y S2 => match x, y with
  | .int i, .int j => if okRg i j then .ok (rgD i j) S2 else .bad
  | _, _ => .bad) P := by rw [r_rg2]
@[simp] theorem r_noX_ok {α : Type} (a : α) (S : List Cell) : noX (.ok a S) = .ok a S := nr rfl
@[simp] theorem ite_ok {α : Type} {c : Prop} [Decidable c] (a b : α) (S : List Cell) : (if c then Rs.ok a S else Rs.ok b S) = .ok (if c then a else b) S := by split <;> rfl
@[simp] theorem ite_int {c : Prop} [Decidable c] (a b : Int) : (if c then D.int a else D.int b) = .int (if c then a else b) := by split <;> rfl
@[simp] theorem ite_bl {c : Prop} [Decidable c] (a b : Bool) : (if c then D.bl a else D.bl b) = .bl (if c then a else b) := by split <;> rfl
@[simp] theorem start_ap (n : Nat) (ds : List D) : startE n ds = ds.map .val ++ List.replicate (n - ds.length) .un := nr rfl
end
end
def inF (p : Pat) (d : D) (env : List Sl) (f : List Sl → Fl) : Fl := match bindP p d env with
  | some e => f e
  | none => .bad
def inR {α : Type} (p : Pat) (d : D) (env : List Sl) (f : List Sl → Rs α) : Rs α := match bindP p d env with
  | some e => f e
  | none => .bad
@[simp ↓] theorem inF_nm (i : Nat) (d : D) (env : List Sl) (f : List Sl → Fl) {P : PF} : @Fl.V (inF (.nm i) d env f) P = @Fl.V (f (env.set i (.val d))) P := by
  unfold inF; rw [bindP_nm]
@[simp ↓] theorem inF_tp (ps : List Pat) (d : D) (env : List Sl) (f : List Sl → Fl) {P : PF} : @Fl.V (inF (.tp ps) d env f) P = @Fl.V (match bindP (.tp ps) d env with | some e => f e | none => .bad) P := nr rfl
@[simp ↓] theorem inR_nm {α : Type} (i : Nat) (d : D) (env : List Sl) (f : List Sl → Rs α) {P : PR α} : @Rs.V α (inR (.nm i) d env f) P = @Rs.V α (f (env.set i (.val d))) P := by
  unfold inR; rw [bindP_nm]
@[simp ↓] theorem inR_tp {α : Type} (ps : List Pat) (d : D) (env : List Sl) (f : List Sl → Rs α) {P : PR α} : @Rs.V α (inR (.tp ps) d env f) P = @Rs.V α (match bindP (.tp ps) d env with | some e => f e | none => .bad) P := nr rfl
theorem inF_of {p : Pat} {d : D} {env : List Sl} {f : List Sl → Fl} {P : PF} (h : @Fl.V (inF p d env f) P) : ∃ e, bindP p d env = some e ∧ @Fl.V (f e) P := by
  unfold inF at h
  cases hb : bindP p d env with
  | none => rw [hb] at h; exact h.elim
  | some e => rw [hb] at h; exact ⟨e, rfl, h⟩
theorem inR_of {α : Type} {p : Pat} {d : D} {env : List Sl} {f : List Sl → Rs α} {P : PR α} (h : @Rs.V α (inR p d env f) P) : ∃ e, bindP p d env = some e ∧ @Rs.V α (f e) P := by
  unfold inR at h
  cases hb : bindP p d env with
  | none => rw [hb] at h; exact h.elim
  | some e => rw [hb] at h; exact ⟨e, rfl, h⟩
section
variable {N B C : List Sl → List Cell → Prop} {R : D → List Cell → Prop} {Y : Str → List Str → List D → List Sl → List Cell → Prop}
theorem for_W {p : Pat} {m : Sm} (I : Nat → List Sl → List Cell → Prop) : ∀ (ds : List D) (i : Nat) (env : List Sl) (S : List Cell), I i env S →
    (∀ (j : Nat) (d : D) (env : List Sl) (S : List Cell), ds[j]? = some d → I (i + j) env S → ∃ env1, bindP p d env = some env1 ∧ (m env1 S).W (I (i + j + 1)) R N (I (i + j + 1)) Y) →
    (∀ env S, I (i + ds.length) env S → N env S) → (forL p m ds env S).W N R B C Y
  | [], i, env, S, h, _, k => k env S h
  | d :: ds, i, env, S, h, st, k => by
    obtain ⟨env1, e1, w⟩ := st 0 d env S rfl h
    have go : ∀ e S', I (i + 0 + 1) e S' → (forL p m ds e S').W N R B C Y := fun e S' h' => for_W I ds (i + 1) e S' h' (fun j x en S hx hI => by
      have := st (j + 1) x en S (by simpa using hx) (by rw [show i + (j + 1) = i + 1 + j by omega]; exact hI)
      rw [show i + (j + 1) = i + 1 + j by omega] at this
      exact this) fun en S hI => k en S (by rw [List.length_cons, show i + (ds.length + 1) = i + 1 + ds.length by omega]; exact hI)
    rw [forL_cons, e1]
    dsimp only
    cases hm : m env1 S with
    | nx e S' => rw [hm] at w; exact go e S' w
    | ct e S' => rw [hm] at w; exact go e S' w
    | bk e S' => rw [hm] at w; exact w
    | rt d S' => rw [hm] at w; exact w
    | ex c ns es e S' => rw [hm] at w; exact w
    | bad => rw [hm] at w; exact w
theorem for_at {p : Pat} {m : Sm} {ds : List D} {env : List Sl} {S : List Cell} (I : Nat → List Sl → List Cell → Prop) (h0 : I 0 env S)
    (st : ∀ (j : Nat) (d : D) (env : List Sl) (S : List Cell), ds[j]? = some d → I j env S → (inF p d env fun e => m e S).W (I (j + 1)) R N (I (j + 1)) Y)
    (k : ∀ env S, I ds.length env S → N env S) : (forL p m ds env S).W N R B C Y :=
  for_W I ds 0 env S h0 (fun j d env S hd hI => by rw [Nat.zero_add] at hI ⊢; exact inF_of (st j d env S hd hI)) fun env S hI => k env S (by rw [Nat.zero_add] at hI; exact hI)
theorem for_rng0 {p : Pat} {m : Sm} {n : Nat} {env : List Sl} {S : List Cell} (I : Nat → List Sl → List Cell → Prop) (h0 : I 0 env S)
    (st : ∀ (j : Nat) (env : List Sl) (S : List Cell), j < n → I j env S → (inF p (.int (j : Nat)) env fun e => m e S).W (I (j + 1)) R N (I (j + 1)) Y)
    (k : ∀ env S, I n env S → N env S) : (forL p m ((List.range n).map fun k => .int (k : Nat)) env S).W N R B C Y :=
  for_at I h0 (fun j d env S hd hI => by
    rw [List.getElem?_map] at hd
    by_cases hj : j < n
    · rw [List.getElem?_range hj] at hd
      cases hd
      exact st j env S hj hI
    · rw [List.getElem?_eq_none (by simpa using hj)] at hd
      cases hd) fun env S hI => k env S (by simpa using hI)
theorem comp_W {vs : List Nat} {p : Pat} {cond : Ex Bool} {elt : Ex D} {env : List Sl} (I : Nat → List D → List Cell → Prop) : ∀ (ds : List D) (i : Nat) (acc : List D) (S : List Cell) (Q : List D → List Cell → Prop) (X : XQ), I i acc S →
    (∀ (j : Nat) (d : D) (acc : List D) (S : List Cell), ds[j]? = some d → I (i + j) acc S → ∃ env1, bindP p d (wipeE env vs) = some env1 ∧ (cond env1 S).W (fun b S1 => (b = false → I (i + j + 1) acc S1) ∧ (b = true → (elt env1 S1).W (fun x S2 => I (i + j + 1) (acc ++ [x]) S2) XN)) XN) →
    (∀ acc' S', I (i + ds.length) (acc ++ acc') S' → Q acc' S') → (compL vs p cond elt ds env S).W Q X
  | [], i, acc, S, Q, X, h, _, k => k [] S (by rw [List.append_nil]; exact h)
  | d :: ds, i, acc, S, Q, X, h, st, k => by
    obtain ⟨env1, e1, w⟩ := st 0 d acc S rfl h
    have go : ∀ acc2 S' (Q' : List D → List Cell → Prop), I (i + 0 + 1) acc2 S' → (∀ acc' S'', I (i + (ds.length + 1)) (acc2 ++ acc') S'' → Q' acc' S'') → (compL vs p cond elt ds env S').W Q' X := fun acc2 S' Q' h' k' =>
      comp_W I ds (i + 1) acc2 S' Q' X h' (fun j x a S hx hI => by
        have := st (j + 1) x a S (by simpa using hx) (by rw [show i + (j + 1) = i + 1 + j by omega]; exact hI)
        rw [show i + (j + 1) = i + 1 + j by omega] at this
        exact this) fun a S hI => k' a S (by rw [show i + (ds.length + 1) = i + 1 + ds.length by omega]; exact hI)
    unfold compL
    rw [e1]
    dsimp only
    show @Rs.V _ _ ⟨Q, X⟩
    rw [V_andThen, V_noX]
    refine Rs.W.on w fun b S1 ⟨h1, h2⟩ => ?_
    change Rs.W (if _ = true then _ else _) Q X
    cases b with
    | false =>
      rw [if_neg (by simp)]
      exact go acc S1 Q (h1 rfl) fun a S hI => k a S hI
    | true =>
      rw [if_pos rfl]
      change @Rs.V _ _ ⟨Q, X⟩
      rw [V_andThen, V_noX]
      refine Rs.W.on (h2 rfl) fun x S2 h3 => ?_
      change @Rs.V _ ((compL vs p cond elt ds env S2).andThen fun xs S3 => Rs.ok (x :: xs) S3) ⟨Q, X⟩
      rw [V_andThen]
      exact go (acc ++ [x]) S2 _ h3 fun a S hI => k (x :: a) S (by simpa using hI)
theorem comp_at {vs : List Nat} {p : Pat} {cond : Ex Bool} {elt : Ex D} {env : List Sl} {ds : List D} {S : List Cell} {Q : List D → List Cell → Prop} {X : XQ} (I : Nat → List D → List Cell → Prop) (h0 : I 0 [] S)
    (st : ∀ (j : Nat) (d : D) (acc : List D) (S : List Cell), ds[j]? = some d → I j acc S → (inR p d (wipeE env vs) fun e => (cond e S).andThen fun b S1 => if b = true then (elt e S1).andThen fun x S2 => .ok [x] S2 else .ok [] S1).W (fun xs S2 => I (j + 1) (acc ++ xs) S2) XN)
    (k : ∀ acc' S', I ds.length acc' S' → Q acc' S') : (compL vs p cond elt ds env S).W Q X :=
  comp_W I ds 0 [] S Q X h0 (fun j d a S hd hI => by
    rw [Nat.zero_add] at hI ⊢
    obtain ⟨e, e1, h⟩ := inR_of (st j d a S hd hI)
    rw [V_andThen] at h
    refine ⟨e, e1, Rs.V.to h (fun b S1 h => ⟨fun hb => ?_, fun hb => ?_⟩) fun _ _ _ _ h => h⟩
    · subst hb
      have h : I (j + 1) (a ++ []) S1 := h
      rw [List.append_nil] at h
      exact h
    · subst hb
      have h : @Rs.V _ ((elt e S1).andThen fun x S2 => .ok [x] S2) ⟨fun xs S2 => I (j + 1) (a ++ xs) S2, XN⟩ := h
      rw [V_andThen] at h
      exact h) fun a S hI => k a S (by rw [Nat.zero_add, List.nil_append] at hI; exact hI)
theorem comp_fm {vs : List Nat} {p : Pat} {cond : Ex Bool} {elt : Ex D} {env : List Sl} {S : List Cell} {α : Type} (g : α → D) (c : α → Bool) (f : α → D) (as : List α) (h : ∀ a ∈ as, (inR p (g a) (wipeE env vs) fun e => (cond e S).andThen fun b S1 => if b = true then (elt e S1).andThen fun x S2 => .ok [x] S2 else .ok [] S1).W (fun xs S2 => xs = (if c a = true then [f a] else []) ∧ S2 = S) XN) :
    compL vs p cond elt (as.map g) env S = .ok ((as.filter c).map f) S := by
  induction as with
  | nil => rfl
  | cons a r ih =>
    obtain ⟨env1, e1, e2⟩ := inR_of (h a (by simp))
    have ih := ih fun x hx => h x (by simp [hx])
    rw [List.map_cons]
    unfold compL
    rw [e1]
    dsimp only
    cases hcd : cond env1 S with
    | bad => rw [hcd] at e2; exact e2.elim
    | ex c ns ds S1 => rw [hcd] at e2; exact e2.elim
    | ok b S1 =>
      rw [hcd] at e2
      rw [noX_ok, andThen_ok]
      rw [andThen_ok] at e2
      cases b with
      | false =>
        obtain ⟨h1, h2⟩ : [] = (if c a = true then [f a] else []) ∧ S1 = S := e2
        subst h2
        have hc : ¬ c a = true := fun z => by rw [if_pos z] at h1; cases h1
        rw [if_neg (by simp), ih, List.filter_cons_of_neg hc]
      | true =>
        rw [if_pos rfl] at e2 ⊢
        cases hel : elt env1 S1 with
        | bad => rw [hel] at e2; exact e2.elim
        | ex c ns ds S1 => rw [hel] at e2; exact e2.elim
        | ok x S2 =>
          rw [hel] at e2
          obtain ⟨h1, h2⟩ : [x] = (if c a = true then [f a] else []) ∧ S2 = S := e2
          subst h2
          have hc : c a = true := by
            by_cases z : c a = true
            · exact z
            · rw [if_neg z] at h1; cases h1
          rw [if_pos hc] at h1
          cases h1
          rw [noX_ok, andThen_ok, ih, andThen_ok, List.filter_cons_of_pos hc, List.map_cons]
theorem comp_gm {vs : List Nat} {p : Pat} {elt : Ex D} {env : List Sl} {S : List Cell} {α : Type} (g : α → D) (f : α → D) (as : List α) (h : ∀ a ∈ as, (inR p (g a) (wipeE env vs) fun e => elt e S).W (fun x S' => x = f a ∧ S' = S) XN) :
    compL vs p mYes elt (as.map g) env S = .ok (as.map f) S := by
  have := comp_fm (vs := vs) (p := p) (cond := mYes) (elt := elt) (env := env) (S := S) g (fun _ => true) f as fun a ha => by
    obtain ⟨e, e1, h1⟩ := inR_of (h a ha)
    unfold inR
    rw [e1]
    dsimp only
    have h2 : elt e S = .ok (f a) S := Rs.W.eq h1
    simp [h2]
  rw [this, List.filter_eq_self.mpr fun _ _ => rfl]
end
end DL
namespace DL
open PySem PySem.Spec L2
open PyProof.Rows hiding St
@[simp] theorem ix_tup (xs : List D) (i : Int) (S : List Cell) : ixD (.tup xs) (.int i) S = L2.atI xs i := nr rfl
@[simp] theorem ix_lst (xs : List D) (i : Int) (S : List Cell) : ixD (.lst xs) (.int i) S = L2.atI xs i := nr rfl
@[simp] theorem ix_ro (xs : List D) (i : Int) (S : List Cell) : ixD (.ro xs) (.int i) S = L2.atI xs i := nr rfl
@[simp] theorem ix_cellD (n : Nat) (i : Int) (S : List Cell) : ixD (.cell n) (.int i) S = (match S[n]? with | some (.lst xs) => L2.atI xs i | _ => none) := nr rfl
@[simp] theorem put_cellD (n : Nat) (j : Int) (d : D) (S : List Cell) : putC (.cell n) (.int j) d S = (match S[n]? with | some (.lst xs) => (ixN xs.length j).map fun m => S.set n (.lst (xs.set m d)) | _ => none) := nr rfl
@[simp] theorem len_cellD (n : Nat) (S : List Cell) : lenD [.cell n] S = (match S[n]? with | some (.lst xs) => some (.int (xs.length : Nat)) | _ => none) := nr rfl
theorem ix_cell {S : List Cell} {n : Nat} {xs : List D} (h : S[n]? = some (.lst xs)) (i : Int) : ixD (.cell n) (.int i) S = L2.atI xs i := by
  show (match S[n]? with | some (.lst xs) => L2.atI xs i | _ => none) = _
  rw [h]
@[simp] theorem at_0 {α : Type} (x : α) (r : List α) : L2.atI (x :: r) 0 = some x := by
  unfold L2.atI ixN
  rw [if_pos (Int.le_refl 0), if_pos (by simp)]
  rfl
@[simp] theorem at_1 {α : Type} (x y : α) (r : List α) : L2.atI (x :: y :: r) 1 = some y := by
  unfold L2.atI ixN
  rw [if_pos (by decide), if_pos (by simp only [List.length_cons]; omega)]
  rfl
@[simp] theorem at_2 {α : Type} (x y z : α) (r : List α) : L2.atI (x :: y :: z :: r) 2 = some z := by
  unfold L2.atI ixN
  rw [if_pos (by decide), if_pos (by simp only [List.length_cons]; omega)]
  rfl
@[simp] theorem at_3 {α : Type} (x y z u : α) (r : List α) : L2.atI (x :: y :: z :: u :: r) 3 = some u := by
  unfold L2.atI ixN
  rw [if_pos (by decide), if_pos (by simp only [List.length_cons]; omega)]
  rfl
theorem at_ok {α : Type} {xs : List α} {i : Int} (h0 : 0 ≤ i) (h1 : i < (xs.length : Nat)) : L2.atI xs i = some (xs[i.toNat]'(by omega)) := by
  unfold L2.atI ixN
  rw [if_pos h0, if_pos (by omega), Option.bind_some, List.getElem?_eq_getElem]
theorem at_nat {α : Type} {xs : List α} {k : Nat} (h : k < xs.length) : L2.atI xs (k : Int) = some xs[k] := by
  rw [at_ok (by omega) (by omega)]
  rfl
theorem at_map {α β : Type} (f : α → β) (xs : List α) (i : Int) : L2.atI (xs.map f) i = (L2.atI xs i).map f := by
  unfold L2.atI
  rw [List.length_map]
  cases ixN xs.length i with
  | none => rfl
  | some n => simp
def kt (ks : List Int) (k : Nat) : Int := ks.getD k 0
theorem kt_ix {ks : List Int} {i : Int} {k : Nat} (e : i = (k : Nat)) (h : k < ks.length) : L2.atI ks i = some (kt ks k) := by
  rw [e, at_nat h]
  unfold kt
  simp [h]
@[simp] theorem eq_int (i j : Int) (S : List Cell) : eqD (.int i) (.int j) S = some (.bl (decide (i = j))) := nr rfl
@[simp] theorem ne_int (i j : Int) (S : List Cell) : neD (.int i) (.int j) S = some (.bl (!decide (i = j))) := nr rfl
@[simp] theorem eq_bl (i j : Bool) (S : List Cell) : eqD (.bl i) (.bl j) S = some (.bl (decide (i = j))) := by cases i <;> cases j <;> rfl
@[simp] theorem ne_bl (i j : Bool) (S : List Cell) : neD (.bl i) (.bl j) S = some (.bl (!decide (i = j))) := by cases i <;> cases j <;> rfl
@[simp] theorem eq_str (a b : Str) (S : List Cell) : eqD (.str a) (.str b) S = some (.bl (decide (a = b))) := nr rfl
@[simp] theorem ne_str (a b : Str) (S : List Cell) : neD (.str a) (.str b) S = some (.bl (!decide (a = b))) := nr rfl
@[simp] theorem toInt_int (i : Int) (S : List Cell) : toIntD [.int i] S = some (.int i) := nr rfl
@[simp] theorem toInt_bl (b : Bool) (S : List Cell) : toIntD [.bl b] S = some (.int (if b = true then 1 else 0)) := nr rfl
@[simp] theorem abs_int (i : Int) (S : List Cell) : absD [.int i] S = some (.int (if i < 0 then -i else i)) := nr rfl
@[simp] theorem max_int (i j : Int) (S : List Cell) : maxD [.int i, .int j] S = some (.int (if j > i then j else i)) := nr rfl
@[simp] theorem min_int (i j : Int) (S : List Cell) : minD [.int i, .int j] S = some (.int (if j < i then j else i)) := nr rfl
@[simp] theorem len_lst (xs : List D) (S : List Cell) : lenD [.lst xs] S = some (.int (xs.length : Nat)) := nr rfl
@[simp] theorem len_tup (xs : List D) (S : List Cell) : lenD [.tup xs] S = some (.int (xs.length : Nat)) := nr rfl
@[simp] theorem len_ro (xs : List D) (S : List Cell) : lenD [.ro xs] S = some (.int (xs.length : Nat)) := nr rfl
@[simp] theorem tuple_lst (xs : List D) (S : List Cell) : tupleD [.lst xs] S = some (.tup xs) := nr rfl
@[simp] theorem list_tup (xs : List D) (S : List Cell) : listD [.tup xs] S = some (.lst xs) := nr rfl
theorem range1_ok {n : Nat} (h : n ≤ 1000000000) (S : List Cell) : range1D [.int (n : Nat)] S = .ok ((List.range n).map fun k => .int (k : Nat)) S := by
  show (if smallI (n : Nat) then Rs.ok ((List.range ((n : Nat) : Int).toNat).map fun i => D.int (i : Nat)) S else .bad) = _
  rw [if_pos (by unfold smallI; exact decide_eq_true (by omega)), Int.toNat_natCast]
theorem range1_int {i : Int} {n : Nat} (e : i = (n : Nat)) (h : n ≤ 1000000000) (S : List Cell) : range1D [.int i] S = .ok ((List.range n).map fun k => .int (k : Nat)) S := by rw [e, range1_ok h]
theorem mul_ok {i j : Int} {S : List Cell} (n m : Nat) (h1 : i.natAbs < 2 ^ n) (h2 : j.natAbs < 2 ^ m) (hn : 0 < n := by decide) (hm : 0 < m := by decide) (h : n + m ≤ 1000000 := by decide) : mulD (.int i) (.int j) S = some (.int (i * j)) :=
  mulD_int (by
    unfold okMul
    have a := log2_lt h1 hn
    have b := log2_lt h2 hm
    exact decide_eq_true (by omega))
theorem add_lst {xs ys : List D} {S : List Cell} (h : xs.length + ys.length ≤ 100000) : addD (.lst xs) (.lst ys) S = some (.lst (xs ++ ys)) := by
  show (if _ = true then _ else _) = _
  rw [if_pos (by unfold okLen; exact decide_eq_true h)]
theorem cut_to {xs : List D} {k : Int} (h : 0 ≤ k) : cutD xs none (some k) = xs.take k.toNat := by
  obtain ⟨m, rfl⟩ := Int.eq_ofNat_of_zero_le h
  unfold cutD
  rw [HT.sIx_none, HT.sIx_nat, List.drop_zero, Nat.sub_zero, Int.toNat_natCast]
  rw [List.take_eq_take_iff]
  omega
theorem cut_from {xs : List D} {k : Int} (h : 0 ≤ k) : cutD xs (some k) none = xs.drop k.toNat := by
  obtain ⟨m, rfl⟩ := Int.eq_ofNat_of_zero_le h
  unfold cutD
  rw [HT.sIx_none, HT.sIx_nat, Int.toNat_natCast]
  by_cases hm : m ≤ xs.length
  · rw [Nat.min_eq_left hm]
    exact List.take_of_length_le (by simp)
  · rw [Nat.min_eq_right (by omega), List.drop_of_length_le (Nat.le_refl _), List.drop_of_length_le (by omega)]
    simp
@[simp] theorem sl_tup (xs : List D) (a b : Option Int) : sliceD (.tup xs) a b = some (.tup (cutD xs a b)) := nr rfl
@[simp] theorem sl_lst (xs : List D) (a b : Option Int) : sliceD (.lst xs) a b = some (.lst (cutD xs a b)) := nr rfl
@[simp] theorem sl_ro (xs : List D) (a b : Option Int) : sliceD (.ro xs) a b = some (.lst (cutD xs a b)) := nr rfl
def frD (q : Rat) : D := .tup [.int q.num, .int (q.den : Nat)]
def Sz (n : Nat) (q : Rat) : Prop := q.num.natAbs < 2 ^ n ∧ q.den < 2 ^ n
theorem Sz.mono {n m : Nat} {q : Rat} (h : Sz n q) (hm : n ≤ m) : Sz m q :=
  ⟨Nat.lt_of_lt_of_le h.1 (Nat.pow_le_pow_right (by decide) hm), Nat.lt_of_lt_of_le h.2 (Nat.pow_le_pow_right (by decide) hm)⟩
theorem Sz.divInt {a b : Int} {n m : Nat} (ha : a.natAbs < 2 ^ n) (hb : b.natAbs < 2 ^ m) (hnm : m ≤ n) (h1 : 0 < n := by decide) : Sz n (Rat.divInt a b) := by
  constructor
  · rw [Rat.num_divInt]
    have h : (b.sign * a / (b.gcd a : Nat)).natAbs ≤ (b.sign * a).natAbs := by
      rw [Int.natAbs_ediv_of_dvd]
      · exact Nat.div_le_self _ _
      · exact Int.dvd_trans (Int.gcd_dvd_right ..) (Int.dvd_mul_left _ _)
    refine Nat.lt_of_le_of_lt h ?_
    rw [Int.natAbs_mul]
    have : b.sign.natAbs ≤ 1 := by
      rcases Int.sign_trichotomy b with h | h | h <;> rw [h] <;> decide
    calc b.sign.natAbs * a.natAbs ≤ 1 * a.natAbs := Nat.mul_le_mul_right _ this
      _ < 2 ^ n := by rw [Nat.one_mul]; exact ha
  · rw [Rat.den_divInt]
    split
    · exact Nat.one_lt_two_pow (by omega)
    · exact Nat.lt_of_le_of_lt (Nat.div_le_self _ _) (Nat.lt_of_lt_of_le hb (Nat.pow_le_pow_right (by decide) hnm))
theorem abs_mul_lt {a b : Int} {n m : Nat} (ha : a.natAbs < 2 ^ n) (hb : b.natAbs < 2 ^ m) : (a * b).natAbs < 2 ^ (n + m) := by
  rw [Int.natAbs_mul, Nat.pow_add]
  exact Nat.mul_lt_mul'' ha hb
theorem Sz.mul {a b : Rat} {n m : Nat} (ha : Sz n a) (hb : Sz m b) (h : 0 < n + m := by decide) : Sz (n + m) (a * b) := by
  rw [Rat.mul_def', ← Rat.divInt_ofNat]
  refine Sz.divInt (abs_mul_lt ha.1 hb.1) (m := n + m) ?_ (Nat.le_refl _) h
  rw [Int.natAbs_natCast, Nat.pow_add]
  exact Nat.mul_lt_mul'' ha.2 hb.2
theorem Sz.add {a b : Rat} {n m : Nat} (ha : Sz n a) (hb : Sz m b) : Sz (n + m + 1) (a + b) := by
  rw [Rat.add_def', ← Rat.divInt_ofNat]
  refine Sz.divInt ?_ (m := n + m) ?_ (Nat.le_succ _) (Nat.succ_pos _)
  · have h1 : (a.num * (b.den : Nat)).natAbs < 2 ^ (n + m) := abs_mul_lt ha.1 (by simpa using hb.2)
    have h2 : (b.num * (a.den : Nat)).natAbs < 2 ^ (n + m) := by rw [Nat.add_comm n m]; exact abs_mul_lt hb.1 (by simpa using ha.2)
    have := Int.natAbs_add_le (a.num * (b.den : Nat)) (b.num * (a.den : Nat))
    rw [Nat.pow_succ]
    omega
  · rw [Int.natAbs_natCast, Nat.pow_add]
    exact Nat.mul_lt_mul'' ha.2 hb.2
theorem Sz.neg {a : Rat} {n : Nat} (h : Sz n a) : Sz n (-a) := ⟨by rw [Rat.neg_num, Int.natAbs_neg]; exact h.1, h.2⟩
theorem Sz.zero : Sz 1 0 := by constructor <;> decide
theorem Sz.one : Sz 1 1 := by constructor <;> decide
def Kp (n : Nat) (S S' : List Cell) : Prop := S.length ≤ S'.length ∧ ∀ m, m ≠ n → m < S.length → S'[m]? = S[m]?
theorem Kp.refl {n : Nat} {S : List Cell} : Kp n S S := ⟨Nat.le_refl _, fun _ _ _ => rfl⟩
theorem Kp.trans {n : Nat} {S S1 S2 : List Cell} (a : Kp n S S1) (b : Kp n S1 S2) : Kp n S S2 := ⟨Nat.le_trans a.1 b.1, fun m h h' => (b.2 m h (Nat.lt_of_lt_of_le h' a.1)).trans (a.2 m h h')⟩
theorem Kp.set {n : Nat} {S : List Cell} {c : Cell} : Kp n S (S.set n c) := ⟨by simp, fun m h _ => by rw [List.getElem?_set_ne (Ne.symm h)]⟩
theorem Kp.app {n : Nat} {S T : List Cell} : Kp n S (S ++ T) := ⟨by simp, fun m _ h => List.getElem?_append_left h⟩
theorem get_set {S : List Cell} {n : Nat} {c c' : Cell} (h : S[n]? = some c) : (S.set n c')[n]? = some c' := by
  have hl := (List.getElem?_eq_some_iff.mp h).1
  simp [hl]
theorem put_at {S : List Cell} {n : Nat} {xs : List D} {d : D} {j : Int} {m : Nat} (h : S[n]? = some (.lst xs)) (hj : ixN xs.length j = some m) : putC (.cell n) (.int j) d S = some (S.set n (.lst (xs.set m d))) := by
  show (match S[n]? with | some (.lst xs) => (ixN xs.length j).map fun m => S.set n (.lst (xs.set m d)) | _ => none) = _
  rw [h]
  dsimp only
  rw [hj]
  rfl
theorem put_fld {ft : List (Str × Str)} {f c : Str} {n : Nat} {d : D} {S : List Cell} {ns : List Str} {xs : List D} (h : S[n]? = some (.ins c ns xs)) (ht : (ft.contains (c, f) && decide (ns.length < 900) && decide (xs.length = ns.length)) = true) : putFld ft f (.cell n) d S = some (S.set n (.ins c (putNs f ns) (putXs f d ns xs))) := by
  simp only [putFld, h]
  rw [if_pos ht]
theorem made_fz {c : Str} {n : Nat} {S2 : List Cell} {ns : List Str} {ys : List D} (h : S2[n]? = some (.ins c ns ys)) : madeR c true n (.ok .non S2) = .ok (.obj c ns ys) (S2.set n .dead) := by
  simp only [madeR, h, if_true]
@[simp] theorem made_ex {c : Str} {fz : Bool} {n : Nat} (c' : Str) (ns : List Str) (es : List D) (S : List Cell) : madeR c fz n (.ex c' ns es S) = .ex c' ns es S := nr rfl
end DL
namespace DL
open PySem PySem.Spec L2
open PyProof.Rows hiding St
def Pl (b : Nat) : Nat → D → Prop
  | _, .non => True
  | _, .bl _ => True
  | _, .int i => i.natAbs.log2 < b
  | _, .str s => PyData.strOk s = true
  | n + 1, .tup xs => ∀ x ∈ xs, Pl b n x
  | n + 1, .lst xs => ∀ x ∈ xs, Pl b n x
  | n + 1, .ro xs => ∀ x ∈ xs, Pl b n x
  | _, _ => False
def Pq : Nat → D → Prop
  | _, .non => True
  | _, .bl _ => True
  | _, .int i => True
  | _, .str s => PyData.strOk s = true
  | n + 1, .tup xs => ∀ x ∈ xs, Pq n x
  | n + 1, .lst xs => ∀ x ∈ xs, Pq n x
  | n + 1, .ro xs => ∀ x ∈ xs, Pq n x
  | _, _ => False
@[simp] theorem Pl_non (b n : Nat) : Pl b n .non = True := by cases n <;> rfl
@[simp] theorem Pl_bl (b n : Nat) (v : Bool) : Pl b n (.bl v) = True := by cases n <;> rfl
@[simp] theorem Pl_int (b n : Nat) (i : Int) : Pl b n (.int i) = (i.natAbs.log2 < b) := by cases n <;> rfl
@[simp] theorem Pl_str (b n : Nat) (s : Str) : Pl b n (.str s) = (PyData.strOk s = true) := by cases n <;> rfl
@[simp] theorem Pl_tup (b n : Nat) (xs : List D) : Pl b (n + 1) (.tup xs) = ∀ x ∈ xs, Pl b n x := rfl
@[simp] theorem Pl_lst (b n : Nat) (xs : List D) : Pl b (n + 1) (.lst xs) = ∀ x ∈ xs, Pl b n x := rfl
@[simp] theorem Pq_non (n : Nat) : Pq n .non = True := by cases n <;> rfl
@[simp] theorem Pq_bl (n : Nat) (b : Bool) : Pq n (.bl b) = True := by cases n <;> rfl
@[simp] theorem Pq_int (n : Nat) (i : Int) : Pq n (.int i) = True := by cases n <;> rfl
@[simp] theorem Pq_str (n : Nat) (s : Str) : Pq n (.str s) = (PyData.strOk s = true) := by cases n <;> rfl
@[simp] theorem Pq_tup (n : Nat) (xs : List D) : Pq (n + 1) (.tup xs) = ∀ x ∈ xs, Pq n x := rfl
@[simp] theorem Pq_lst (n : Nat) (xs : List D) : Pq (n + 1) (.lst xs) = ∀ x ∈ xs, Pq n x := rfl
mutual
def wt : D → Nat
  | .int i => if i == 0 then 0 else i.natAbs.log2 + 1
  | .str s => s.cps.size
  | .tup xs => wts xs
  | .lst xs => wts xs
  | .ro xs => wts xs
  | _ => 0
def wts : List D → Nat
  | [] => 0
  | x :: xs => wt x + 1 + wts xs
end
@[simp] theorem wts_nil : wts [] = 0 := rfl
@[simp] theorem wts_cons (x : D) (xs : List D) : wts (x :: xs) = wt x + 1 + wts xs := rfl
@[simp] theorem wt_tup (xs : List D) : wt (.tup xs) = wts xs := rfl
@[simp] theorem wt_lst (xs : List D) : wt (.lst xs) = wts xs := rfl
@[simp] theorem wt_non : wt .non = 0 := rfl
@[simp] theorem wt_bl (b : Bool) : wt (.bl b) = 0 := rfl
@[simp] theorem wt_str (s : Str) : wt (.str s) = s.cps.size := rfl
def eqv2 (x y : D) : Option Bool := match toP x, toP y with
  | some p, some q => some (PyData.eqv p q)
  | _, _ => none
end DL
namespace DL
open PySem PySem.Spec L2
open PyProof.Rows hiding St
@[simp] theorem ix_fr0 (q : Rat) (S : List Cell) : ixD (frD q) (.int 0) S = some (.int q.num) := by unfold frD; rw [ix_tup, at_0]
@[simp] theorem ix_fr1 (q : Rat) (S : List Cell) : ixD (frD q) (.int 1) S = some (.int (q.den : Nat)) := by unfold frD; rw [ix_tup, at_1]
end DL
namespace DL
@[simp] theorem ne_ll0 (S : List Cell) : neD (.lst []) (.lst []) S = some (.bl false) := nr rfl
@[simp] theorem eq_ll0 (S : List Cell) : eqD (.lst []) (.lst []) S = some (.bl true) := nr rfl
end DL
namespace DL
open PySem PySem.Spec L2
open PyProof.Rows hiding St
structure Frm (g : Nat) (ks : List Int) : Prop where
  hg : g ≤ 4
  lo : g + 2 ≤ ks.length
  hi : ks.length ≤ g + 11
  mono : ∀ i j, i ≤ j → j < ks.length → kt ks i ≤ kt ks j
  gap : ∀ i, i + g + 1 < ks.length → kt ks i < kt ks (i + g + 1)
  nn : ∀ i, i < ks.length → 0 ≤ kt ks i
  ub : ∀ i, i < ks.length → kt ks i ≤ 1000000
def Mono (ks : List Int) : Prop := ∀ i j, i ≤ j → j < ks.length → kt ks i ≤ kt ks j
theorem kt_get {ks : List Int} {i : Nat} (h : i < ks.length) : kt ks i = ks[i] := by
  unfold kt; simp [h]
def fixAt (ks : List Int) (p : Nat) : List Int := ks.take p ++ (ks.drop p).map (· + 1)
end DL
namespace DL
open PySem PySem.Spec L2
open PyProof.Rows hiding St
theorem all_true (k : Nat) (S : List Cell) : allD [.lst (List.replicate k (.bl true))] S = some (.bl true) := by
  have : List.replicate k (D.bl true) = (List.replicate k true).map D.bl := by rw [List.map_replicate]
  show (boolsOf (List.replicate k (D.bl true))).map _ = _
  rw [this, boolsOf_map]
  simp
theorem turns_ok {vs : List Nat} {p : Pat} {elt : Ex D} {env : List Sl} {n : Nat} {S : List Cell} {P : PR (List D)} (I : List Cell → Prop) (h0 : I S)
    (st : ∀ (j : Nat) (S : List Cell), j < n → I S → (inR p (.int (j : Nat)) (wipeE env vs) fun e => elt e S).W (fun d S' => d = .bl true ∧ I S') XN)
    (k : ∀ S', I S' → P.Q (List.replicate n (.bl true)) S') : @Rs.V _ (compL vs p mYes elt ((List.range n).map fun k => .int (k : Nat)) env S) P := by
  have := comp_at (vs := vs) (p := p) (cond := mYes) (elt := elt) (env := env) (ds := (List.range n).map fun k => D.int (k : Nat)) (S := S) (Q := P.Q) (X := P.X) (fun j acc S => acc = List.replicate j (.bl true) ∧ I S) ⟨rfl, h0⟩ (fun j d acc S hd ⟨e, hI⟩ => by
    have hj : j < n := by have := (List.getElem?_eq_some_iff.mp hd).1; simpa using this
    obtain ⟨_, hd⟩ := List.getElem?_eq_some_iff.mp hd
    rw [List.getElem_map, List.getElem_range] at hd
    subst hd e
    obtain ⟨e1, h1, h2⟩ := inR_of (st j S hj hI)
    unfold inR
    rw [h1]
    dsimp only
    obtain ⟨x, S', e2, rfl, h3⟩ := Rs.W.of h2
    have y : mYes e1 S = .ok true S := rfl
    rw [y, andThen_ok, if_pos rfl, e2, andThen_ok]
    exact ⟨by rw [List.replicate_succ', ], h3⟩) fun acc S' ⟨e, hI⟩ => by
      rw [e, List.length_map, List.length_range]
      exact k S' hI
  exact this
end DL
namespace DL
end DL
namespace DL
open PySem PySem.Spec L2
open PyProof.Rows hiding St
end DL
namespace DL
open PySem PySem.Spec PySem.Calls L2
open PyProof.Rows hiding St
abbrev emptySet (w : World) : Obj := { cls := .type "set", dict := none, data := .set #[] 0 (.fresh 0 0 (!w.params.followText "set-order")) }
section
variable {P : Program} {w : World} {A : Around} {E : Value → Shared → Prop} {s : Shared}
def Made (w : World) (s : Shared) (ns : List Int) (s2 : Shared) : Prop := ∃ h' tk c, s2 = { s with heap := h', toks := tk } ∧ SetR w h' s.heap.objs.size (fun j => decide (j ∈ ns)) c ∧ c ≤ ns.length ∧ ∀ b o, s.heap.get? b = some o → h'.get? b = some o
end
def ddI : List Int → List Int
  | [] => []
  | x :: r => if x ∈ ddI r then ddI r else x :: ddI r
def uniI (ns : List Int) : List Int := sortI (ddI ns)
def rSetL (K : PySem.W.Frag) (w : World) : List V → Hp → VK → Prop := fun xs H Q => ∃ (l : Addr) (ns : List Int), xs = [.ref l] ∧ SqL K H l (ns.map V.int) ∧ ns.length ≤ 60 ∧
  ∀ (c : Nat) (p : Addr), c ≤ ns.length → H p = none → Q (.ref p) (upd H p (SetO w p (fun j => decide (j ∈ ns)) c))
def mUni (f : Ex D) : Ex (List D) := fun env S => (f env S).andThen fun x S1 => match x with
  | .lst xs => match intsOf xs with
    | some ns => if ns.length ≤ 60 then .ok ((uniI ns).map .int) S1 else .bad
    | none => .bad
  | _ => .bad
section
variable {X : Cx} {E : EE} {e : Expr} {f : Ex D} {pos p p2 q : Pos}
@[simp] theorem r_uni (f : Ex D) (env : List Sl) (S : List Cell) : mUni f env S = (f env S).andThen fun x S1 => match x with
  | .lst xs => match intsOf xs with
    | some ns => if ns.length ≤ 60 then .ok ((uniI ns).map .int) S1 else .bad
    | none => .bad
  | _ => .bad := nr rfl
@[simp ↓] theorem V_runi (f : Ex D) (env : List Sl) (S : List Cell) {P : PR (List D)} : @Rs.V _ (mUni f env S) P = @Rs.V _ ((f env S).andThen fun x S1 => match x with
  | .lst xs => match intsOf xs with
    | some ns => if ns.length ≤ 60 then .ok ((uniI ns).map .int) S1 else .bad
    | none => .bad
  | _ => .bad) P := by rw [r_uni]
end
end DL
namespace DL
open PySem PySem.Spec L2
open PyProof.Rows hiding St
structure TruC (K : PySem.W.Frag) (C : Addr) : Prop where
  b : PySem.W.findIn K (.ref C) "__bool__" = some none
  l : PySem.W.findIn K (.ref C) "__len__" = some none
section
variable {prog : Program} {w : World} {A : Around} {E : Value → Shared → Prop} {s : Shared} {K : PySem.W.Frag} {a C : Addr} {ox : Obj} {od : Option Obj}
end
def rTru (K : PySem.W.Frag) : List V → Hp → VK → Prop := fun xs H Q => (∃ k, xs = [.bl k] ∧ Q (.bl k) H) ∨ ∃ a C dx fs, xs = [.ref a] ∧ H a = some (.ins C dx fs) ∧ TruC K C ∧ Q (.bl true) H
def truD (cs : List Str) : OpN := fun xs _ => match xs with
  | [.bl b] => some (.bl b)
  | [.obj c _ _] => if cs.contains c = true then some (.bl true) else none
  | _ => none
def TruOk (K : PySem.W.Frag) (mg : Str → Option Value) (cs : List Str) : Prop := ∀ c ∈ cs, ∀ C, mg c = some (.ref C) → TruC K C
def mMethK (c nm : Str) (n nk : Nat) (p : List Nat) (m : Fn) (fo : Ex D) (fk : Ex (List D)) : Ex D := fun env S => (fo env S).andThen fun o S1 => if isIns c nm o S1 = true then (fk env S1).andThen (fun zs S2 => if zs.length = nk then (if (pickL p (o :: zs)).length = n then m (pickL p (o :: zs)) S2 else .bad) else .bad) else .bad
section
variable {X : Cx} {E : EE} {e o : Expr} {kws : List Keyword} {f fo h : Ex D} {fk : Ex (List D)} {pos p apos : Pos} {c nm : Str} {C gI : Addr} {i n nk : Nat} {fd : FuncData} {ps ks : List Str} {m : Fn} {pk : List Nat}
end
end DL
namespace DL
open PySem PySem.Spec L2
open PyProof.Rows hiding St
section
variable {prog : Program} {w : World} {A : Around} {E : Value → Shared → Prop} {s : Shared}
end
def tRevA (K : PySem.W.Frag) (te : TE) : TE := fun σ H Q => te σ H fun x H1 => (∃ a xs, x = .ref a ∧ SqL K H1 a xs ∧ ∀ p, H1 p = none → Q (.ref p) (upd H1 p (.lst xs.reverse))) ∨ ∃ a xs, x = .ref a ∧ SqT K H1 a xs ∧ LayT H1 xs.reverse Q
def revD : Op1 := fun d _ => match d with
  | .lst xs => some (.lst xs.reverse)
  | .ro xs => some (.lst xs.reverse)
  | .tup xs => some (.tup xs.reverse)
  | _ => none
@[simp] theorem revD_lst (xs : List D) (S : List Cell) : revD (.lst xs) S = some (.lst xs.reverse) := nr rfl
@[simp] theorem revD_ro (xs : List D) (S : List Cell) : revD (.ro xs) S = some (.lst xs.reverse) := nr rfl
@[simp] theorem revD_tup (xs : List D) (S : List Cell) : revD (.tup xs) S = some (.tup xs.reverse) := nr rfl
section
variable {X : Cx} {E : EE} {a b e o i : Expr} {es : List Expr} {f h : Ex D} {fa : Ex (List D)} {pos p : Pos}
def mOwnIx (k : Nat) (h : Ex D) : Ex D := fun env S => match env[k]? with
  | some (.own xs) => (h env S).andThen fun y S1 => ofO (ixD (.lst xs) y S1) S1
  | _ => .bad
def gOwn (k : Nat) (h : Ex D) : D → Sm := fun d env S => match env[k]? with
  | some (.own xs) => (h env S).go env fun y S1 => match y with
    | .int j => match L2.ixN xs.length j with
      | some m => .nx (env.set k (.own (xs.set m d))) S1
      | none => .bad
    | _ => .bad
  | _ => .bad
def NxO (t : D → Sm) : Prop := NxG t
def mOwnLen (k : Nat) : Ex D := fun env S => match env[k]? with
  | some (.own xs) => .ok (.int (xs.length : Nat)) S
  | _ => .bad
def mStar (f : Ex (List D)) (r : Ex (List D)) : Ex (List D) := fun env S => (f env S).andThen fun xs S1 => (r env S1).andThen fun ys S2 => .ok (xs ++ ys) S2
theorem a_star (he : VE X E e f) (hr : VA X E es fa) (hs : starEach (.Starred e p :: es) X.env = (true, eval e X.env) :: starEach es X.env := by rfl) : VA X E (.Starred e p :: es) (mStar (mItems f) fa) := fun g =>
  (StX.pa_star (he g) (hr g) hs).imp fun σ H Q ⟨F, ι, env, S, w, q⟩ => by
    have q : rdAt X.K X.mg g E σ H F ι env (fun ds H' F' ι' _ => ∀ vs, Reps X.K X.mg F' ι' H' ds vs → Q vs H') (((f env S).andThen itemsOf).andThen fun xs S1 => (fa env S1).andThen fun ys S2 => .ok (xs ++ ys) S2) := q
    refine ⟨F, ι, env, S, w, rd_mono (rd_then (rd_then q)) ?_⟩
    rintro d H1 F1 ι1 S1 - e1 w1 ⟨_, _, q1⟩ v hv
    have go : ∀ {xs : List D} {vs : List V}, itemsOf d S1 = .ok xs S1 → Reps X.K X.mg F1 ι1 H1 xs vs → tAr X.K X.mg g E fa σ H1 fun ys H2 => Q (vs ++ ys) H2 := fun {xs vs} hi hr => by
      rw [hi] at q1
      have q2 := (q1 H1 F1 ι1 Ext.refl w1).2.2.2.2
      refine ⟨F1, ι1, env, S1, w1, rd_mono (rd_then q2) ?_⟩
      rintro ys H2 F2 ι2 S2 - e2 w2 ⟨_, _, q3⟩ us hus
      exact (q3 H2 F2 ι2 Ext.refl w2).2.2.2.2 (vs ++ us) ((w1.wd.reps e2 hr).app hus)
    cases d with
    | lst xs =>
      obtain ⟨a, vs, rfl, hl, hr⟩ := hv
      exact ⟨a, vs, rfl, .inr hl.sq, go rfl hr⟩
    | ro xs =>
      obtain ⟨a, vs, rfl, hl, hr⟩ := hv
      exact ⟨a, vs, rfl, .inr hl.sq, go rfl hr⟩
    | tup xs =>
      obtain ⟨a, vs, rfl, hl, hr⟩ := hv
      exact ⟨a, vs, rfl, .inl hl.sq, go rfl hr⟩
    | _ => exact q1.elim
end
section
variable (env : List Sl) (S : List Cell)
@[simp] theorem r_ownIx (k : Nat) (h : Ex D) : mOwnIx k h env S = (match env[k]? with | some (.own xs) => (h env S).andThen fun y S1 => ofO (ixD (.lst xs) y S1) S1 | _ => .bad) := nr rfl
@[simp ↓] theorem V_rownIx (k : Nat) (h : Ex D) {P : PR D} : @Rs.V D (mOwnIx k h env S) P = @Rs.V D (match env[k]? with | some (.own xs) => (h env S).andThen fun y S1 => ofO (ixD (.lst xs) y S1) S1 | _ => .bad) P := by rw [r_ownIx]
@[simp ↓] theorem V_gown (k : Nat) (h : Ex D) (d : D) {F : PF} : @Fl.V (gOwn k h d env S) F = @Fl.V (match env[k]? with
  | some (.own xs) => (h env S).go env fun y S1 => (match y with
    | .int j => (match L2.ixN xs.length j with
      | some m => Fl.nx (env.set k (.own (xs.set m d))) S1
      | none => Fl.bad)
    | _ => Fl.bad)
  | _ => Fl.bad) F := by unfold gOwn; rfl
@[simp] theorem r_star (f : Ex (List D)) (r : Ex (List D)) : mStar f r env S = (f env S).andThen fun xs S1 => (r env S1).andThen fun ys S2 => .ok (xs ++ ys) S2 := nr rfl
@[simp ↓] theorem V_rstar (f : Ex (List D)) (r : Ex (List D)) {P : PR (List D)} : @Rs.V (List D) (mStar f r env S) P = @Rs.V (List D) ((f env S).andThen fun xs S1 => (r env S1).andThen fun ys S2 => .ok (xs ++ ys) S2) P := by rw [r_star]
@[simp] theorem r_methK (c nm : Str) (n nk : Nat) (p : List Nat) (m : Fn) (fo : Ex D) (fk : Ex (List D)) : mMethK c nm n nk p m fo fk env S = (fo env S).andThen fun o S1 => if isIns c nm o S1 = true then (fk env S1).andThen (fun zs S2 => if zs.length = nk then (if (pickL p (o :: zs)).length = n then m (pickL p (o :: zs)) S2 else .bad) else .bad) else .bad := nr rfl
@[simp ↓] theorem V_rmethK (c nm : Str) (n nk : Nat) (p : List Nat) (m : Fn) (fo : Ex D) (fk : Ex (List D)) {P : PR D} : @Rs.V D (mMethK c nm n nk p m fo fk env S) P = @Rs.V D ((fo env S).andThen fun o S1 => if isIns c nm o S1 = true then (fk env S1).andThen (fun zs S2 => if zs.length = nk then (if (pickL p (o :: zs)).length = n then m (pickL p (o :: zs)) S2 else .bad) else .bad) else .bad) P := by rw [r_methK]
end
end DL
namespace DL
open PySem PySem.Spec L2
open PyProof.Rows hiding St
def HotD (X : Cx) : Prop := ∃ a oe u, X.A.handled = some (.ref a) ∧ HotO oe ∧ X.H_0 a = some (.frz oe u)
theorem HotD.here {X : Cx} {pins : List (Addr × Obj)} {σ : L2.St} {H : Hp} {s : Shared} (hot : HotD X) (I : Inv X pins σ H s) : ∃ a oe u, X.A.handled = some (.ref a) ∧ HotO oe ∧ H a = some (.frz oe u) ∧ s.heap.get? a = some oe := by
  obtain ⟨a, oe, u, e1, e2, e3⟩ := hot
  have e4 := I.base.frzs a oe u e3
  obtain ⟨e5, _⟩ := I.hok a _ e4
  exact ⟨a, oe, u, e1, e2, e4, e5⟩
theorem HotD.at {X : Cx} {pins : List (Addr × Obj)} {σ : L2.St} {H : Hp} {s : Shared} (hot : HotD X) (I : Inv X pins σ H s) : ∃ a, HotX.HotAt X.A a s.heap := by
  obtain ⟨a, oe, u, e1, ⟨vs, e2, e3⟩, _, e4⟩ := hot.here I
  exact ⟨a, e1, oe, vs, e4, e2, e3⟩
section
variable {prog : Program} {w : World} {A : Around} {E : Value → Shared → Prop} {s : Shared}
end
theorem HotD.blk {X : Cx} {pins : List (Addr × Obj)} {σ : L2.St} {H : Hp} {s : Shared} (hot : HotD X) (I : Inv X pins σ H s) (scope : Scope) (ce : Env) (fp : List Addr) : HotD (X.blk s H scope ce fp) := by
  obtain ⟨a, oe, u, e1, e2, e3, _⟩ := hot.here I
  exact ⟨a, oe, u, e1, e2, e3⟩
def tLcL (K : PySem.W.Frag) (ti : TE) (g : TG) (tt : TT) (te : TE) (vs : List Nat) : TE := fun σ H Q => ti σ H fun x H1 => ∃ a xs, x = .ref a ∧ SqL K H1 a xs ∧ ∀ L, H1 L = none → ∃ W : Nat → Nat → Hp → Prop,
  (∃ m, W 0 m (upd H1 L (.lst []))) ∧ ∀ i m H2, W i m H2 → SqL K H2 a xs ∧ ((xs.length ≤ i ∧ Q (.ref L) H2) ∨ ∃ x, xs[i]? = some x ∧ ∃ Nx : Hp → Prop, (∀ H3, Nx H3 → ∃ m1, m1 < m ∧ W (i + 1) m1 H3) ∧
    g x (wipe σ vs) H2 fun σ3 H3 => wipe σ3 vs = wipe σ vs ∧ tt σ3 H3 fun b H4 => if b = true then te σ3 H4 fun y H5 => ∃ acc, H5 L = some (.lst acc) ∧ acc.length < sizeLine ∧ Nx (upd H5 L (.lst (acc ++ [y]))) else Nx H4)
section
variable {X : Cx} {pins : List (Addr × Obj)} {σ : L2.St} {H : Hp} {s : Shared} {elt tg iter : Expr} {ifs : List Expr} {scope : Scope} {own : List (Str × Nat)} {ti : TE} {g : TG} {tt : TT} {te : TE}
end
end DL
namespace DL
open PySem PySem.Spec L2
open PyProof.Rows hiding St
structure RmH (k : Nat) (A : Around) : Prop where
  room : L2H.RoomH k A
  quiet : A.guards = some []
theorem RmH.less {i k : Nat} {A : Around} (r : RmH k A) (h : i ≤ k) : RmH i A := ⟨r.room.mono h, r.quiet⟩
theorem RmH.deeper {k : Nat} {A : Around} (r : RmH (k + 1) A) (env : Env) : RmH k (A.deeper env) := ⟨r.room.deeper env, quiet_deeper r.quiet env⟩
theorem RmH.units {k : Nat} {A : Around} (r : RmH k A) : A.units + 64 < cLine := by have := r.room.un; omega
theorem Rm.mark {k : Nat} {A : Around} (r : Rm k A) (v : Option Value) : RmH k (A.mark v) := by
  refine ⟨⟨?_, ?_⟩, ?_⟩
  · exact r.room.dp
  · exact r.room.un
  · exact r.quiet
abbrev cxD (P : Program) (w : World) (K : PySem.W.Frag) (mg : Str → Option Value) (base : Heap) (N : List Str) (qual : Str) (scope : Scope) (f : Addr) (cd : Value) (A : Around) (outer : List Env) (s : Shared) (H : Hp) (E : XK) (p : Addr × Obj) : Cx :=
  L2H.cxH (L2N.CX P w) P w K mg base N qual scope f cd A outer s H E p
structure FnGH (P : Program) (w : World) (K : PySem.W.Frag) (mg : Str → Option Value) (base : Heap) (k : Nat) (f : Addr) (fd : FuncData) (ps : List Str) (sp : Sp) : Prop where
  arity : ∀ vs H Q E, sp vs H Q E → vs.length = ps.length
  go : ∀ (A : Around) (outer : List Env) (s : Shared) (H : Hp) (args : Args) (us : List Value) (vs : List V) (Q : VK) (E : XK) (a : Addr) (oe : Obj) (u : HO),
    RmH k A → A.handled = some (.ref a) → HotO oe → H a = some (.frz oe u) → Env0 P w K mg base A outer s H → BindsTo s fd args (ps.zip us) → Vals vs us → sp vs H Q E →
    codeAny (model P w) A (.call (.ref f) args) (CR (L2N.CX P w) outer P w H s Q E) s
section
variable {P : Program} {w : World} {K : PySem.W.Frag} {mg : Str → Option Value} {base : Heap}
end
section
variable {X : Cx} {k : Nat} {f : Addr} {fd : FuncData} {ps : List Str} {sp : Sp} {E : EE} {x : Str} {p pos : Pos} {e : Expr} {es : List Expr} {t : TA}
end
end DL
namespace DL
open PySem PySem.Spec L2
open PyProof.Rows hiding St
abbrev LamO (o : Obj) (f : Addr) : HO := .ext fun h => h.get? f = some o
section
variable {K : PySem.W.Frag} {mg : Str → Option Value} {F : Fz} {ι : List Addr} {H : Hp} {S : List Cell}
theorem Wd.push {f : Addr} (w : Wd K mg F ι H S) (nf : f ∉ ι) (hf : F f) : Wd K mg F (ι ++ [f]) H (S ++ [.dead]) := by
  have side : ∀ {n : Nat} {c : Cell} {a : Addr}, (S ++ [Cell.dead])[n]? = some c → (ι ++ [f])[n]? = some a → (S[n]? = some c ∧ ι[n]? = some a) ∨ (c = .dead ∧ a = f) := fun {n c a} h1 h2 => by
    have hl := w.len
    by_cases hn : n < S.length
    · rw [List.getElem?_append_left hn] at h1
      rw [List.getElem?_append_left (by omega)] at h2
      exact .inl ⟨h1, h2⟩
    · rw [List.getElem?_append_right (by omega)] at h1 h2
      rw [hl] at h1
      cases z : n - ι.length with
      | zero => rw [z] at h1 h2; exact .inr ⟨by simpa using h1.symm, by simpa using h2.symm⟩
      | succ k => rw [z] at h1; simp at h1
  refine ⟨w.fin, fun n c a h1 h2 hl => ?_, ?_, by simp [w.len], fun n c a h1 h2 => ?_⟩
  · rcases side h1 h2 with ⟨e1, e2⟩ | ⟨e1, e2⟩
    · exact w.cnf n c a e1 e2 hl
    · rw [e1] at hl; cases hl
  · rw [List.nodup_append]
    refine ⟨w.cnd, by simp, fun a ha b hb => ?_⟩
    obtain rfl : b = f := by simpa using hb
    exact fun z => nf (z ▸ ha)
  · rcases side h1 h2 with ⟨e1, e2⟩ | ⟨e1, e2⟩
    · exact cell_mono (fun _ h => h) (fun _ _ _ h => h) (List.prefix_append _ _) (fun _ h => h) c (w.cells n c a e1 e2)
    · rw [e1, e2]; exact hf
theorem Wd.code {P c : Addr} {q : Str} {n : Nat} {ps more : Array Value} (w : Wd K mg F ι H S) (hn : S[n]? = some (.tab P q)) (hP : H P = some (.tbl ps)) (nc : H c = none) (ht : TriplesOk (ps ++ more).toList)
    (old : ∀ pos cv, codeAmong pos ps.toList = some cv → ∃ d, cv = .ref d ∧ F d ∧ H d = some (LamX.CodeO d q)) (ha : ∀ pos cv, codeAmong pos (ps ++ more).toList = some cv → codeAmong pos ps.toList = some cv ∨ cv = .ref c) :
    Ext H F ι (upd (upd H P (.tbl (ps ++ more))) c (LamX.CodeO c q)) (fun b => F b ∨ b = c) ι ∧ Wd K mg (fun b => F b ∨ b = c) ι (upd (upd H P (.tbl (ps ++ more))) c (LamX.CodeO c q)) S := by
  have hl : n < ι.length := by rw [← w.len]; exact (List.getElem?_eq_some_iff.mp hn).1
  have hi := List.getElem?_eq_getElem hl
  obtain ⟨e0, _⟩ := w.cells n _ _ hn hi
  have iP : P ∈ ι := by rw [← e0]; exact List.getElem_mem hl
  have nF : ¬ F P := by have := w.cnf n _ _ hn hi rfl; rwa [e0] at this
  have ci : c ∉ ι := fun z => w.cell_ne z nc
  have nPc : P ≠ c := ne_of_none hP nc
  have same : ∀ {b o}, H b = some o → b ≠ P → upd (upd H P (.tbl (ps ++ more))) c (LamX.CodeO c q) b = some o := fun {b o} h1 h2 => by rw [upd_ne (ne_of_none h1 nc), upd_ne h2]; exact h1
  have e : Ext H F ι (upd (upd H P (.tbl (ps ++ more))) c (LamX.CodeO c q)) (fun b => F b ∨ b = c) ι := by
    refine ⟨fun _ h => .inl h, fun b h => ?_, fun b o h hw => same h fun z => ?_, fun b h => ?_, List.prefix_refl _, fun _ h => .inl h⟩
    · rcases h with h | rfl
      · exact .inl h
      · exact .inr nc
    · subst z
      exact hw.elim nF fun y => y iP
    · cases z : H b with
      | none => rfl
      | some o =>
        by_cases hb : b = P
        · subst hb; rw [upd_ne nPc, upd_same] at h; cases h
        · rw [same z hb] at h; cases h
  refine ⟨e, ⟨fun b h z => ?_, fun k cl a h1 h2 hv h => ?_, w.cnd, w.len, fun k cl a h1 h2 => ?_⟩⟩
  · rcases h with h | rfl
    · exact w.fin b h (e.mono b z)
    · rw [upd_same] at z; cases z
  · rcases h with h | rfl
    · exact w.cnf k cl a h1 h2 hv h
    · exact ci (List.mem_of_getElem? h2)
  · by_cases hb : a = P
    · have kn : k = n := by
        have hk : k < ι.length := (List.getElem?_eq_some_iff.mp h2).1
        refine (List.getElem_inj (h₀ := hk) (h₁ := hl) w.cnd).mp ?_
        rw [(List.getElem?_eq_some_iff.mp h2).2, e0, hb]
      subst kn
      rw [hn] at h1
      cases h1
      refine ⟨hb, _, by rw [hb, upd_ne nPc, upd_same], ht, fun pos cv z => ?_⟩
      rcases ha pos cv z with z | rfl
      · obtain ⟨d, e1, f1, h1⟩ := old pos cv z
        refine ⟨d, e1, .inl f1, same h1 fun y => ?_⟩
        rw [y] at f1
        exact nF f1
      · exact ⟨c, rfl, .inr rfl, upd_same⟩
    · exact cell_mono e.sub (w.stay e) e.pre (fun o ho => same ho hb) cl (w.cells k cl a h1 h2)
end
section
variable {X : Cx} {pins : List (Addr × Obj)} {σ : L2.St} {H : Hp} {s : Shared}
end
end DL
namespace DL
open PySem PySem.Spec PySem.Calls L2
open PyProof.Rows hiding St
def mulT : Op2 := fun x y S => match x, y with
  | .tup a, .int k => if (!a.isEmpty && decide (2 ≤ k ∧ k ≤ 1000) && decide (a.length ≤ 1000)) = true then some (.tup (List.replicate k.toNat a).flatten) else none
  | _, _ => none
def rSumT (K : PySem.W.Frag) : List V → Hp → VK → Prop := fun vs H Q => ∃ (a : Addr) (ns : List Int), vs = [V.ref a] ∧ SqT K H a (ns.map V.int) ∧ Q (.int ns.sum) H
theorem cr_sumT {X : Cx} (hc : X.calm = true) : CallR X (.builtin "sum") (rSumT X.K) := by
  intro pins s σ H vs us Q I r h
  obtain ⟨a, ns, rfl, hs, q⟩ := h
  obtain ⟨its, rv, hl, _⟩ := I.tuple hs
  rw [Vals.ref1 r]
  have hi := rv.ints
  obtain ⟨xs, e⟩ := hi.allInts.items
  have hn := hi.numsOf
  rw [show its = (intItems xs).toList by rw [← e]] at hn
  rw [nums_intItems] at hn
  have hl : s.heap.IsTuple a its.toArray := hl
  rw [e] at hl
  refine PySem.W.ktm_sumG (I.ok.hd hc) hl fun h' tk t' hk => ?_
  rw [preSum_eq, List.take_of_length_le (by simp), hn]
  exact ⟨.int _, H, I.kept hk, ⟨_, rfl⟩, q⟩
def sumA : OpN := fun xs _ => match xs with
  | [.lst a] => (intsOf a).map fun ns => .int ns.sum
  | [.tup a] => (intsOf a).map fun ns => .int ns.sum
  | _ => none
theorem ok_sumA {K : PySem.W.Frag} {mg : Str → Option Value} : OkN K mg (fun xs H Q => rSum K xs H Q ∨ rSumT K xs H Q) sumA := by
  intro H F ι S xs d vs Q w rx ho t
  unfold sumA at ho
  split at ho
  · rename_i a
    obtain ⟨v, rfl, p, us, rfl, hl, hr⟩ := one_of rx
    cases e : intsOf a with
    | none => rw [e] at ho; cases ho
    | some ns =>
      rw [e] at ho
      cases ho
      have := ints_vals e hr
      subst this
      exact .inl ⟨p, ns, rfl, hl.sq, t.here w rfl⟩
  · rename_i a
    obtain ⟨v, rfl, p, us, rfl, hl, hr⟩ := one_of rx
    cases e : intsOf a with
    | none => rw [e] at ho; cases ho
    | some ns =>
      rw [e] at ho
      cases ho
      have := ints_vals e hr
      subst this
      exact .inr ⟨p, ns, rfl, hl.sq, t.here w rfl⟩
  · cases ho
theorem cr_sumA {X : Cx} (hc : X.calm = true) : CallR X (.builtin "sum") (fun xs H Q => rSum X.K xs H Q ∨ rSumT X.K xs H Q) := CallR.or (cr_sum hc) (cr_sumT hc)
end DL
namespace GQB
open PySem PySem.SeqAt
open AutoSeq1 (wpAny_loadPart')
open MeetsSeq MeetsSeq2 MeetsSeq3 SeqRoads2
open GQ
section
variable {prog : Program} {w : World} {A : Around} {R : Result → Shared → Prop}
end
end GQB
namespace DL
open PySem PySem.Spec L2
open PyProof.Rows hiding St
structure EqC (K : PySem.W.Frag) (C f : Addr) : Prop where
  eq : PySem.W.findIn K (.ref C) "__eq__" = some (some (.ref f))
  fn : PySem.W.isFn K (.ref f) = true
  ne : PySem.W.findIn K (.ref C) "__ne__" = some (some (.builtin "object.__ne__"))
  ob : PySem.W.subIn K (.ref C) (.type "object") = some true
  tt : PySem.W.subIn K (.type "tuple") (.ref C) = some false
  ts : PySem.W.subIn K (.type "str") (.ref C) = some false
section
variable {prog : Program} {w : World} {A : Around} {E : Value → Shared → Prop} {s : Shared} {K : PySem.W.Frag} {x C f L : Addr} {ox : Obj} {od : Option Obj} {b tb : Value} {h₀ : Heap} {m : Str → Option Value}
end
end DL
namespace DL
open PySem PySem.Spec L2
open PyProof.Rows hiding St RelV
def elO (e : Str → D → D → Option Bool) (x y : D) : Option Bool := match x with
  | .obj c _ _ => e c x y
  | _ => eqA x y
def allO (e : Str → D → D → Option Bool) : List D → List D → Option Bool
  | [], [] => some true
  | x :: xs, y :: ys => match elO e x y, allO e xs ys with
    | some a, some b => some (a && b)
    | _, _ => none
  | _, _ => none
def eqOA (e : Str → D → D → Option Bool) (x y : D) : Option Bool := match eqA x y with
  | some b => some b
  | none => match x, y with
    | .obj c _ _, _ => e c x y
    | .tup xs, .tup ys => allO e xs ys
    | _, _ => none
def neOA (e : Str → D → D → Option Bool) (x y : D) : Option Bool := match eqA x y with
  | some b => some (!b)
  | none => match x with
    | .obj c _ _ => (e c x y).map (!·)
    | _ => none
def eqO (e : Str → D → D → Option Bool) : Op2 := fun x y _ => (eqOA e x y).map .bl
def neO (e : Str → D → D → Option Bool) : Op2 := fun x y _ => (neOA e x y).map .bl
def BackO (X : Cx) (pins : List (Addr × Obj)) (σ : L2.St) (H : Hp) (F : Fz) (ι : List Addr) (S : List Cell) (s' : Shared) : Prop := ∃ H' F' ι', Inv X pins σ H' s' ∧ Ext H F ι H' F' ι' ∧ Wd X.K X.mg F' ι' H' S
structure EOk (X : Cx) (n : Nat) (e : Str → D → D → Option Bool) : Prop where
  same : ∀ (pins : List (Addr × Obj)) (s : Shared) (σ : L2.St) (H : Hp) (F : Fz) (ι : List Addr) (c : Str) (ns : List Str) (xs : List D) (y : D) (a : Addr) (r : Bool), Inv X pins σ H s → Rep X.K X.mg F ι H (.obj c ns xs) (.ref a) → Rep X.K X.mg F ι H y (.ref a) → e c (.obj c ns xs) y = some r → r = true
  ref : ∀ (c : Str) (ns : List Str) (xs : List D) (y : D) (r : Bool), e c (.obj c ns xs) y = some r → (∃ c' ns' ys, y = .obj c' ns' ys) ∨ r = false
  run : ∀ (A : Around) (pins : List (Addr × Obj)) (s : Shared) (σ : L2.St) (H : Hp) (F : Fz) (ι : List Addr) (S : List Cell) (c : Str) (ns : List Str) (xs : List D) (y : D) (vx vy : V) (u v : Value) (r : Bool), L2.Sub X n A → A.guards = some [] → Inv X pins σ H s → Wd X.K X.mg F ι H S →
    Rep X.K X.mg F ι H (.obj c ns xs) vx → Rep X.K X.mg F ι H y vy → RelV vx u → RelV vy v → e c (.obj c ns xs) y = some r →
    wpAny (model X.prog X.w) A (richCompare .Eq u v) (fun w s' => w = .bool r ∧ BackO X pins σ H F ι S s') X.xe s ∧ wpAny (model X.prog X.w) A (richCompare .NotEq u v) (fun w s' => w = .bool (!r) ∧ BackO X pins σ H F ι S s') X.xe s
section
variable {X : Cx} {pins : List (Addr × Obj)} {σ : L2.St} {H : Hp} {s : Shared} {F : Fz} {ι : List Addr} {S : List Cell}
end
section
variable {X : Cx} {pins : List (Addr × Obj)} {σ : L2.St} {H : Hp} {s : Shared} {F : Fz} {ι : List Addr} {S : List Cell} {n : Nat} {e : Str → D → D → Option Bool}
theorem BackO.here (I : Inv X pins σ H s) (w : Wd X.K X.mg F ι H S) : BackO X pins σ H F ι S s := ⟨H, F, ι, I, Ext.refl, w⟩
theorem BackO.next {H1 : Hp} {F1 : Fz} {ι1 : List Addr} {s' : Shared} (e : Ext H F ι H1 F1 ι1) (b : BackO X pins σ H1 F1 ι1 S s') : BackO X pins σ H F ι S s' := by
  obtain ⟨H', F', ι', I, e', w⟩ := b
  exact ⟨H', F', ι', I, e.trans e', w⟩
def rEqO (X : Cx) (f : D → D → Option Bool) : R2 := fun x y H Q => ∃ F ι S dx dy r, Wd X.K X.mg F ι H S ∧ Rep X.K X.mg F ι H dx x ∧ Rep X.K X.mg F ι H dy y ∧ eqA dx dy = none ∧ f dx dy = some r ∧ Told X.K X.mg H F ι S (.bl r) Q
end
def eqStd (c0 : Str) (e : Str → D → D → Option Bool) (x y : D) : Option Bool := match x, y with
  | .obj c ["parts"] [p], .obj c' ["parts"] [q] => if c = c0 ∧ c' = c0 then eqOA e p q else none
  | .obj c ["parts"] [_], .tup _ => if c = c0 then some false else none
  | .obj c ["parts"] [_], .str _ => if c = c0 then some false else none
  | _, _ => none
section
variable {X : Cx} {n n' i : Nat} {e : Str → D → D → Option Bool} {c0 : Str} {C f : Addr} {fd : FuncData} {ps : List Str} {m : Fn}
end
end DL
namespace DL
open PySem PySem.Spec L2
open PyProof.Rows hiding St
theorem ok_notin {K : PySem.W.Frag} {mg : Str → Option Value} : Ok2 K mg (rIn K true) (inD true) := by
  intro H F ι S x y d v u Q w rx ry ho t
  unfold inD at ho
  split at ho
  · split at ho
    · rename_i xs hc
      rw [Bool.and_eq_true] at hc
      cases ho
      obtain ⟨p, us, rfl, hl, hr⟩ := ry
      obtain ⟨a1, a2⟩ := in_reps rx hc.1 hr hc.2
      exact ⟨p, us, rfl, .inl hl.sq, flat_v rx hc.1, a1, by rw [a2]; exact t.here w rfl⟩
    · cases ho
  · split at ho
    · rename_i xs hc
      rw [Bool.and_eq_true] at hc
      cases ho
      obtain ⟨p, us, rfl, hl, hr⟩ := ry
      obtain ⟨a1, a2⟩ := in_reps rx hc.1 hr hc.2
      exact ⟨p, us, rfl, .inr hl.sq, flat_v rx hc.1, a1, by rw [a2]; exact t.here w rfl⟩
    · cases ho
  · cases ho
section
variable {X : Cx} {E : EE} {o e a : Expr} {f h : Ex D} {pos apos cpos : Pos}
def mNinO (k : Nat) (f : Ex D) : Ex D := fun env S => match env[k]? with
  | some (.own ds) => (f env S).andThen fun d S1 => if flatD d && ds.all flatD then .ok (.bl (!inFl d ds)) S1 else .bad
  | _ => .bad
def mRem (k : Nat) (f : Ex D) : Sm := fun env S => match env[k]? with
  | some (.own ds) => (f env S).go env fun d S1 => match d, intsOf ds with
    | .int i, some ns => if i ∈ ns then .nx (env.set k (.own ((ns.eraseIdx (ns.idxOf i)).map .int))) S1 else .bad
    | _, _ => .bad
  | _ => .bad
def itsOf2 : D → List Cell → Rs (List D)
  | .tup xs, S => .ok xs S
  | .lst xs, S => .ok xs S
  | _, _ => .bad
def mLsO (f : Ex D) : Ex (List D) := fun env S => (f env S).andThen itsOf2
end
end DL
namespace DL
open PySem PySem.Spec L2
open PyProof.Rows hiding St
def rNeLen (K : PySem.W.Frag) : R2 := fun x y H Q => ∃ (a b : Addr) (xs ys : List V), x = .ref a ∧ y = .ref b ∧ SqL K H a xs ∧ SqL K H b ys ∧ xs.length ≠ ys.length ∧ Q (.bl true) H
theorem op_neLen {X : Cx} (hu : X.A.units + 64 < cLine) : OpR X (compareOp .NotEq) (rNeLen X.K) := by
  rintro pins s σ H x y v u Q I rx ry ⟨a, b, xs, ys, rfl, rfl, h1, h2, hl, q⟩
  cases rx
  cases ry
  obtain ⟨i1, v1, p1, _⟩ := I.list h1
  obtain ⟨i2, v2, p2, _⟩ := I.list h2
  have e1 := v1.length
  have e2 := v2.length
  refine PySem.W.cmp_ofNotEq ?_
  exact SeqAt.RcNeAt.lists_lengths p1.isList p2.isList (by simp; omega) (by omega) X.prog X.w _ _ ⟨.bl true, H, I, rfl, q⟩
def neL : Op2 := fun x y S => match x, y with
  | .lst (_ :: _), .lst [] => some (.bl true)
  | _, _ => neD x y S
theorem op_neL {X : Cx} (hu : X.A.units + 64 < cLine) : OpR X (compareOp .NotEq) (fun x y H Q => rNeA X.K x y H Q ∨ rNeLen X.K x y H Q) := (op_neAll hu).or (op_neLen hu)
theorem ok_neL {K : PySem.W.Frag} {mg : Str → Option Value} : Ok2 K mg (fun x y H Q => rNeA K x y H Q ∨ rNeLen K x y H Q) neL := by
  intro H F ι S x y d v u Q w rx ry ho t
  unfold neL at ho
  split at ho
  · rename_i x0 xs
    cases ho
    obtain ⟨a, vs, rfl, hl, hr⟩ := rx
    obtain ⟨b, us, rfl, hl2, hr2⟩ := ry
    obtain rfl : us = [] := hr2
    refine .inr ⟨a, b, vs, [], rfl, rfl, hl.sq, hl2.sq, ?_, t.here w rfl⟩
    rw [hr.len]
    simp
  · exact .inl (ok_ne H F ι S x y d v u Q w rx ry ho t)
@[simp] theorem neL_cons (x : D) (xs : List D) (S : List Cell) : neL (.lst (x :: xs)) (.lst []) S = some (.bl true) := nr rfl
@[simp] theorem neL_nil (S : List Cell) : neL (.lst []) (.lst []) S = some (.bl false) := nr rfl
end DL
namespace DL
open PySem PySem.Spec L2
open PyProof.Rows hiding St
section
variable {X : Cx} {E : EE} {tg a b c e : Expr} {fa : Ex (List D)} {f : Ex D} {pos : Pos}
def mInc (i : Nat) (f : Ex D) : Sm := fun env S => match env[i]? with
  | some (.val (.int x)) => (f env S).go env fun d S1 => match d with
    | .int y => .nx (env.set i (.val (.int (x + y)))) S1
    | _ => .bad
  | _ => .bad
def tTupRgB (te : L2.St → Hp → (Int → Int → Hp → Prop) → Prop) : TE := fun σ H Q => te σ H fun a b H1 => RgOk a b ∧ LayT H1 (rgV a b) Q
theorem pe_tupRgB {X : Cx} {e : Expr} {te : L2.St → Hp → (Int → Int → Hp → Prop) → Prop} {p pos : Pos} (hc : X.calm = true) (gt : Gl X "tuple") (mt : X.mg "tuple" = none) (he : PRg X e te) (na : starEach [e] X.env = (false, eval e X.env) :: starEach [] X.env := by rfl) :
    PE X (.Call (.Name "tuple" p) [e] [] pos) (tTupRgB te) := by
  constructor
  intro pins s σ H Q J h
  refine Call_ (ld_blt J gt mt boot_tuple (PyProof.Rows.callWith_type1 (args_cons (thn (he pins s σ H _ J h) ?_) na) na))
  rintro x s1 ⟨r, a, b, t, u, v, H1, ex, hr, J1, rok, q⟩
  refine args_nil ?_
  subst ex
  obtain ⟨b1, b2, b3, b4, b5⟩ := rok
  refine call_tuple_range (n := (b - a).toNat) (J1.ok.hd hc) hr (small_one b1 b2 b3 b4) (rangeSize_nat a b) b5 fun h' tk acc kp is => ?_
  have J2 : Inv X pins σ H1 { s1 with heap := h', toks := tk } := J1.kept kp
  exact bt_new (t' := tk) J2 (its := acc.toList) (vals_rg is) (by rw [rgV_length, sizeLine_eq]; omega) q
def mTupRg (f : Ex D) : Ex D := fun env S => (f env S).andThen fun x S1 => match x with
  | .int j => if okRg 0 j then .ok (.tup (rgD 0 j)) S1 else .bad
  | _ => .bad
theorem v_tupRg {p p' p2 : Pos} (he : VE X E e f) (zl : X.mg "tuple" = none) (zr : X.mg "range" = none) (hc : X.calm = true) (gl : Gl X "tuple" := by rfl) (gr : Gl X "range" := by rfl) (na : starEach [e] X.env = (false, eval e X.env) :: starEach [] X.env := by rfl)
    (nb : starEach [.Call (.Name "range" p) [e] [] p'] X.env = (false, eval (.Call (.Name "range" p) [e] [] p') X.env) :: starEach [] X.env := by rfl) :
    VE X E (.Call (.Name "tuple" p2) [.Call (.Name "range" p) [e] [] p'] [] pos) (mTupRg f) := fun g =>
  (pe_tupRgB hc gl zl (prg_1 gr zr (he g) na) nb).imp fun σ H Q ⟨F, ι, env, S, w, q⟩ => ⟨F, ι, env, S, w, rd_mono (rd_then q) fun x H1 F1 ι1 S1 _ e1 w1 ⟨_, _, q1⟩ v hv => by
    cases x with
    | int j =>
      have q1 : rdAt X.K X.mg g E σ H1 F1 ι1 env _ (if okRg 0 j then Rs.ok (D.tup (rgD 0 j)) S1 else .bad) := q1
      by_cases hr : okRg 0 j = true
      · rw [if_pos hr] at q1
        refine ⟨j, hv, okRg_ok hr, fun q0 o bt hq => ?_⟩
        obtain ⟨e', w'⟩ := w1.wd.lay (o := o) hq
        exact (q1 _ _ _ e' (w1.step e' w')).2.2 _ ⟨q0, _, rfl, .inl ⟨.inr rfl, o, bt, upd_same⟩, rg_reps 0 j⟩
      · rw [if_neg hr] at q1
        exact q1.elim
    | _ => exact q1.elim⟩
end
section
variable {env : List Sl} {S : List Cell} [F : PF]
end
end DL
namespace DL
open PySem PySem.Spec L2
open PyProof.Rows hiding St
section
variable (env : List Sl) (S : List Cell)
@[simp ↓] theorem V_incF (i : Nat) (f : Ex D) {F : PF} : @Fl.V (mInc i f env S) F = @Fl.V (match env[i]? with
  | some (.val (.int x)) => (f env S).go env fun d S1 => match d with
    | .int y => Fl.nx (env.set i (.val (.int (x + y)))) S1
    | _ => .bad
  | _ => .bad : Fl) F := nr rfl
@[simp] theorem r_tupRg (f : Ex D) : mTupRg f env S = (f env S).andThen fun x S1 => match x with
  | .int j => if okRg 0 j then .ok (.tup (rgD 0 j)) S1 else .bad
  | _ => .bad := nr rfl
@[simp ↓] theorem V_rtupRg (f : Ex D) {P : PR D} : @Rs.V D (mTupRg f env S) P = @Rs.V D ((f env S).andThen fun x S1 => match x with
  | .int j => if okRg 0 j then .ok (.tup (rgD 0 j)) S1 else .bad
  | _ => .bad) P := by rw [r_tupRg]
end
def mParO3 (i j l : Nat) (f h : Ex D) (fo : Ex (List D)) : Sm := fun env S => (f env S).go env fun d S1 => (h env S1).go env fun d' S2 => (fo env S2).go env fun ds S3 => .nx (((env.set i (.val d)).set j (.val d')).set l (.own ds)) S3
section
variable {X : Cx} {E : EE} {a b c : Expr} {f h : Ex D} {fo : Ex (List D)} {pos : Pos}
end
@[simp ↓] theorem V_parO3 (i j l : Nat) (f h : Ex D) (fo : Ex (List D)) (env : List Sl) (S : List Cell) {F : PF} : @Fl.V (mParO3 i j l f h fo env S) F = @Rs.V D (f env S) (F.rd env fun d S1 => @Rs.V D (h env S1) (F.rd env fun d' S2 => @Rs.V (List D) (fo env S2) (F.rd env fun ds S3 => F.N (((env.set i (.val d)).set j (.val d')).set l (.own ds)) S3))) := by
  unfold mParO3
  cases f env S with
  | ok a S1 =>
    show @Fl.V ((h env S1).go env fun d' S2 => (fo env S2).go env fun ds S3 => .nx (((env.set i (.val a)).set j (.val d')).set l (.own ds)) S3) F = @Rs.V D (h env S1) (F.rd env fun d' S2 => @Rs.V (List D) (fo env S2) (F.rd env fun ds S3 => F.N (((env.set i (.val a)).set j (.val d')).set l (.own ds)) S3))
    cases h env S1 with
    | ok b S2 =>
      show @Fl.V ((fo env S2).go env fun ds S3 => .nx (((env.set i (.val a)).set j (.val b)).set l (.own ds)) S3) F = @Rs.V (List D) (fo env S2) (F.rd env fun ds S3 => F.N (((env.set i (.val a)).set j (.val b)).set l (.own ds)) S3)
      cases fo env S2 <;> rfl
    | _ => rfl
  | _ => rfl
def mOwnCmp (op : Op2) (k : Nat) (h : Ex D) : Ex D := fun env S => match env[k]? with
  | some (.own ds) => (h env S).andThen fun y S1 => ofO (op (.lst ds) y S1) S1
  | _ => .bad
section
variable {X : Cx} {E : EE} {b : Expr} {h : Ex D} {pos : Pos}
end
section
variable (env : List Sl) (S : List Cell)
@[simp] theorem r_ownCmp (op : Op2) (k : Nat) (h : Ex D) : mOwnCmp op k h env S = (match env[k]? with | some (.own ds) => (h env S).andThen fun y S1 => ofO (op (.lst ds) y S1) S1 | _ => .bad) := nr rfl
@[simp ↓] theorem V_rownCmp (op : Op2) (k : Nat) (h : Ex D) {P : PR D} : @Rs.V D (mOwnCmp op k h env S) P = @Rs.V D (match env[k]? with | some (.own ds) => (h env S).andThen fun y S1 => ofO (op (.lst ds) y S1) S1 | _ => .bad) P := by rw [r_ownCmp]
end
end DL
namespace DL
open PySem PySem.Spec L2
open PyProof.Rows hiding St
section
variable {K : PySem.W.Frag} {mg : Str → Option Value}
def strD : OpN := fun xs _ => match xs with
  | [.int i] => if i.natAbs.log2 < 1920 then some (.str (toString i)) else none
  | _ => none
theorem ok_str : OkN K mg (fun xs H Q => ∃ i, xs = [.int i] ∧ i.natAbs.log2 < 1920 ∧ Q (.str (toString i)) H) strD := by
  intro H F ι S xs d vs Q w rx ho t
  unfold strD at ho
  split at ho
  · split at ho
    · rename_i h
      cases ho
      obtain ⟨v, rfl, hv⟩ := one_of rx
      rw [show v = _ from hv]
      exact ⟨_, rfl, h, t.here w rfl⟩
    · cases ho
  · cases ho
def toIntS : OpN := fun xs _ => match xs with
  | [.str a] => if a.length ≤ 640 then (PySem.intText? a).map .int else none
  | _ => none
theorem ok_toIntS : OkN K mg (fun xs H Q => ∃ a n, xs = [.str a] ∧ PySem.intText? a = some n ∧ a.length ≤ 640 ∧ Q (.int n) H) toIntS := by
  intro H F ι S xs d vs Q w rx ho t
  unfold toIntS at ho
  split at ho
  · rename_i a
    split at ho
    · rename_i h
      cases hn : PySem.intText? a with
      | none => rw [hn] at ho; cases ho
      | some n =>
        rw [hn] at ho
        cases ho
        obtain ⟨v, rfl, hv⟩ := one_of rx
        rw [show v = _ from hv]
        exact ⟨_, _, rfl, hn, h, t.here w rfl⟩
    · cases ho
  · cases ho
def strsOf : List D → Option (List Str)
  | [] => some []
  | .str s :: r => (strsOf r).map (s :: ·)
  | _ :: _ => none
theorem texts_reps {F : Fz} {ι : List Addr} {H : Hp} : ∀ ys : List Str, Reps K mg F ι H (ys.map .str) (ys.map V.str)
  | [] => rfl
  | y :: ys => ⟨_, _, rfl, rfl, texts_reps ys⟩
def joinD : Op2 := fun x y _ => match x, y with
  | .str a, .lst xs => match strsOf xs with
    | some ys => if (ys.map (·.length)).sum + ys.length * a.length ≤ 100000 then some (.str (Txt.join a ys)) else none
    | none => none
  | _, _ => none
def splitD : Op2 := fun x y _ => match x, y with
  | .str a, .str b => if (b.length == 0) = false ∧ a.length ≤ 100000 then some (.lst ((Txt.split a b).map .str)) else none
  | _, _ => none
end
def inS (neg : Bool) : Op2 := fun x y _ => match x, y with
  | .str a, .str z => if a.cps.size = 1 then some (.bl (if neg then !decide (a.cps.getD 0 0 ∈ z.cps.toList) else decide (a.cps.getD 0 0 ∈ z.cps.toList))) else none
  | _, _ => none
theorem one_sign {a : Str} (h : a.cps.size = 1) : a = ⟨#[a.cps.getD 0 0]⟩ := by
  obtain ⟨cs⟩ := a
  obtain ⟨l⟩ := cs
  match l, h with
  | [c], _ => rfl
theorem ok_inS {K : PySem.W.Frag} {mg : Str → Option Value} : Ok2 K mg (fun x y H Q => ∃ (c : Nat) (z : Str), x = .str ⟨#[c]⟩ ∧ y = .str z ∧ Q (.bl (decide (c ∈ z.cps.toList))) H) (inS false) := by
  intro H F ι S x y d v u Q w rx ry ho t
  unfold inS at ho
  split at ho
  · rename_i a z
    split at ho
    · rename_i h
      cases ho
      rw [show v = _ from rx, show u = _ from ry]
      exact ⟨a.cps.getD 0 0, z, by rw [← one_sign h], rfl, t.here w rfl⟩
    · cases ho
  · cases ho
def mTxt (op : Op2) (f h : Ex D) : Ex D := fun env S => (f env S).andThen fun x S1 => match x with
  | .str a => (h env S1).andThen fun y S2 => ofO (op (.str a) y S2) S2
  | _ => .bad
section
variable {X : Cx} {E : EE} {o e l : Expr} {f h : Ex D} {apos pos : Pos}
theorem v_split (ho : VE X E o f) (he : VE X E e h) (hs : starEach [e] X.env = [(false, eval e X.env)] := by rfl) (hbase : attributeBase o "split" X.env (eval o X.env) = eval o X.env := by rfl) (hline : (apos.endLine == pos.line) = true := by rfl) :
    VE X E (.Call (.Attribute o "split" apos) [e] [] pos) (mTxt splitD f h) := fun g => (pe_split (ho g) (he g) hs hbase hline).imp fun σ H Q ⟨F, ι, env, S, w, q⟩ => by
  refine ⟨F, ι, env, S, w, rd_mono (rd_then q) ?_⟩
  rintro x H1 F1 ι1 S1 - e1 w1 ⟨_, _, q1⟩ v hv
  cases x with
  | str a =>
    refine ⟨⟨a, hv⟩, F1, ι1, env, S1, w1, rd_mono (rd_then q1) ?_⟩
    rintro y H2 F2 ι2 S2 - e2 w2 ⟨_, _, q2⟩ u hu
    cases hj : splitD (.str a) y S2 with
    | none => rw [hj] at q2; exact q2.elim
    | some d =>
      rw [hj] at q2
      unfold splitD at hj
      split at hj
      · rename_i a' b e1'
        cases e1'
        split at hj
        · rename_i hz
          cases hj
          refine ⟨a, b, hv, by rw [show u = _ from hu], hz.1, Nat.le_trans (Nat.add_le_add_right hz.2 2) (by decide), ?_⟩
          exact fun p hp => ToldO.lay (Told.own fun v' H' F' ι' e' w' hv' => (q2 H' F' ι' e' (w2.step e' w')).2.2.2.2 v' hv') w2.wd (texts_reps _) hp
        · cases hj
      · cases hj
  | _ => exact q1.elim
def mSigns (f : Ex D) : Ex (List D) := fun env S => (f env S).andThen fun x S1 => match x with
  | .str a => .ok (a.cps.toList.map fun c => .str ⟨#[c]⟩) S1
  | _ => .bad
end
end DL
namespace DL
open PySem PySem.Spec L2
open PyProof.Rows hiding St
section
variable {X : Cx} {E : EE} {o e l tg : Expr} {es : List Expr} {f h : Ex D} {fa : Ex (List D)} {apos pos cpos p : Pos}
theorem walk_of_signs {K : PySem.W.Frag} {mg : Str → Option Value} {F : Fz} {ι : List Addr} {H : Hp} (x : Str) : WalkD K mg F ι H (Its x) (x.cps.toList.map fun c => .str ⟨#[c]⟩) :=
  fun F2 ι2 H2 S2 wd gr i => by
    refine ⟨fun hi => Nat.le_of_eq (by simpa using hi), fun d hd => ?_⟩
    rw [List.getElem?_map] at hd
    obtain ⟨c, hc, rfl⟩ := Option.map_eq_some_iff.mp hd
    have hc' : x.cps[i]? = some c := by simpa using hc
    obtain ⟨hlt, _⟩ := Array.getElem?_eq_some_iff.mp hc'
    refine ⟨hlt, fun y H3 ⟨e1, c2, e2, e3⟩ => ?_⟩
    subst e1 e3
    rw [hc'] at e2
    cases e2
    exact ⟨F2, Ext.refl, wd, rfl⟩
theorem i_signs (he : VE X E l f) : VI X E tg l (mSigns f) := fun g => (pi_str (he g)).imp fun σ H R ⟨F, ι, env, S, w, q⟩ => by
  refine ⟨F, ι, env, S, w, rd_mono (rd_then q) ?_⟩
  rintro x H1 F1 ι1 S1 - e1 w1 ⟨_, _, q1⟩ v hv
  cases x with
  | str a => exact ⟨a, hv, (q1 H1 F1 ι1 Ext.refl w1).2.2 _ (walk_of_signs a)⟩
  | _ => exact q1.elim
def mCnt (k : Nat) (f : Ex D) : Ex D := fun env S => match env[k]? with
  | some (.own ds) => (f env S).andThen fun d S1 => match d, intsOf ds with
    | .int i, some ns => .ok (.int (ns.count i : Nat)) S1
    | _, _ => .bad
  | _ => .bad
theorem v_gstr {x s : Str} (h : ∃ t, X.mg x = some (.str s t)) (hg : Gl X x := by rfl) (hd : (x == ("__debug__" : Str)) = false := by decide) : VE X E (.Name x pos) (mC (.str s)) := by
  obtain ⟨t, h⟩ := h
  exact v_glob (v := .str s) hg h ⟨t, rfl⟩ (fun _ _ _ => rfl) hd
theorem v_gro {x : Str} {T : Addr} {ys : List Str} {ob : Obj} {its : Array Value} {n : Nat} (hm : X.mg x = some (.ref T)) (hl : X.K.lookup T = some ob) (hc : ob.cls = .type "list") (hdn : ob.dict = none) (hd : ob.data = .seq its n) (hz : its.size ≤ sizeLine) (hv : Vals (ys.map V.str) its.toList) (hg : Gl X x := by rfl)
    (hdb : (x == ("__debug__" : Str)) = false := by decide) : VE X E (.Name x pos) (mC (.ro (ys.map .str))) :=
  v_glob (v := .ref T) hg hm rfl (fun F ι H => ⟨T, ys.map V.str, rfl, .inr (.inr ⟨ob, its, n, hl, hc, hdn, hd, hz, hv⟩), texts_reps ys⟩) hdb
def mCMeth (c : Str) (n : Nat) (m : Fn) (fa : Ex (List D)) : Ex D := fun env S => (mC (.cls c) env S).andThen fun x S0 => (fa env S0).andThen fun xs S1 => if (x :: xs).length = n then m (x :: xs) S1 else .bad
variable {c nm : Str} {C pr gI : Addr} {mc : Value} {i n : Nat} {fd : FuncData} {ps : List Str} {m : Fn}
theorem v_cmeth {pl : Sem Bool} {pn : Pos} (G : FnG X.prog X.w X.K X.mg X.base i gI fd ps (SpM X.K X.mg n m)) (rm : Rm i X.A) (px : Px X E) (hc : X.mg c = some (.ref C)) (r : ClX.CRead X.K C mc) (k : ClX.CMet X.K C mc nm pr gI) (hb : Binds X.K fd ps []) (ha : VA X E (e :: es) fa)
    (hgl : Gl X c := by rfl) (hdb : (c == ("__debug__" : Str)) = false := by decide)
    (hst : starEach (e :: es) X.env = (false, eval e X.env) :: starEach es X.env := by rfl) (hpl : (backTo pos (starEach es X.env)).any (·.1) = false := by rfl)
    (ht : eval (.Call (.Attribute (.Name c pn) nm apos) (e :: es) [] pos) X.env = (do
      let ov ← eval (.Name c pn) X.env
      standAt apos.atName
      let (f, first) ← holding [ov] (getMethod ov nm pl)
      callWith pos f first (backTo pos (starEach (e :: es) X.env)) (backToKw pos (keywordEach [] X.env))) := by rfl) : VE X E (.Call (.Attribute (.Name c pn) nm apos) (e :: es) [] pos) (mCMeth c n m fa) := fun g => by
  constructor
  rintro pins s σ H Q I ⟨F, ι, env, S, w, q⟩
  have he : VE X E (.Name c pn) (mC (.cls c)) := v_cls hc hgl hdb
  refine PySem.W.methodCall_KW (pl := pl) (thn ((he g).run pins s σ H (fun v H1 => v = .ref C ∧ ∃ F1 ι1 S1, RS X.K X.mg g σ H1 F1 ι1 env S1 ∧ rdAt X.K X.mg g E σ H1 F1 ι1 env (fun d H' F' ι' _ => ∀ v, Rep X.K X.mg F' ι' H' d v → Q v H') ((fa env S1).andThen fun xs S2 => if (D.cls c :: xs).length = n then m (.cls c :: xs) S2 else .bad)) I ⟨F, ι, env, S, w, rd_mono (rd_then q) ?_⟩) fun u s1 h1 => ?_) ht
  · rintro x H1 F1 ι1 S1 hx e1 w1 ⟨_, _, q1⟩ v hv
    obtain ⟨rfl, rfl⟩ : x = .cls c ∧ S1 = S := by
      have : (Rs.ok (D.cls c) S : Rs D) = .ok x S1 := hx
      cases this
      exact ⟨rfl, rfl⟩
    obtain ⟨C', rfl, hC⟩ := hv
    rw [hc] at hC
    cases hC
    exact ⟨rfl, F1, ι1, S1, w1, rd_mono q1 fun _ _ _ _ _ _ _ _ z => z.2.2⟩
  · obtain ⟨x, H1, I1, rx, rfl, F1, ι1, S1, w1, q1⟩ := h1
    obtain rfl : u = Value.ref C := rx
    refine ClX.getmethcm_ok I1 r k fun s2 I2 => ?_
    refine ClX.callwith_cm I2 (ClX.base_none I1 (Nat.le_refl _)) k.fi (thn ((ha g).run pos _ s2 σ H1 (fun vs H2 => SpM X.K X.mg n m (.ref C :: vs) H2 Q (E σ)) I2 ⟨F1, ι1, env, S1, w1, rd_mono (rd_then q1) ?_⟩) fun us s3 ⟨vs, H2, I3, rv, q2⟩ => ⟨⟨ClX.pin_at I3, I3.kIn⟩, ?_⟩) hst hpl
    · rintro xs H2 F2 ι2 S2 - e2 w2 ⟨_, _, q2⟩ vs hvs
      exact sp_of (xs := .cls c :: xs) w2 ⟨_, vs, rfl, ⟨C, rfl, hc⟩, hvs⟩ q2 fun d H' F' ι' S' z v hv => z.2.2 v hv
    · have hl : (Value.ref C :: us).length = ps.length := by
        have a := G.arity _ _ _ _ q2
        rw [← a, List.length_cons, List.length_cons, rv.length]
      have bd := hb s3 (.ref C :: us) I3.kIn (by rw [List.append_nil]; exact hl)
      rw [List.append_nil] at bd
      have z : wpAny (model X.prog X.w) X.A (call (.ref s1.heap.objs.size) us) (EP X ((s1.heap.objs.size, PySem.W.methodObj (.ref gI) (.ref C)) :: pins) σ Q) X.xe s3 := by
        refine wpAny_call (PySem.W.method_call (ClX.pin_at I3) (codeAny_mono (runG (us := .ref C :: us) (vs := .ref C :: vs) G rm px I3 bd (.cons rfl rv) q2) ?_))
        intro r s' hr
        match r, hr with
        | .error e, hr => exact hr
        | .ok (.ret u), hr => exact hr
      exact thn z fun _ _ y => ClX.unpinE y
def mMakeV (k : Nat) (c : Str) (fz : Bool) (n : Nat) (m : Fn) (fa : Ex (List D)) : Ex D := fun env S => match env[k]? with
  | some (.val (.cls c')) => if c' = c then mMake c fz n m fa env S else .bad
  | _ => .bad
theorem v_makeV (k : Nat) {x : Str} {fI : Addr} {fz : Bool} (M : Mk X.K C fI) (G : FnG X.prog X.w X.K X.mg X.base i fI fd ps (SpM X.K X.mg n m)) (rm : Rm (i + 1) X.A) (px : Px X E) (hc : X.mg c = some (.ref C)) (hb : Binds X.K fd ps []) (ha : VA X E (e :: es) fa) (hpn : ps.length = n := by rfl)
    (hN : X.N[k]? = some x := by rfl) (hv : Vis X.env.scope x := by first | exact Or.inl rfl | exact Or.inr (Or.inl rfl) | exact Or.inr (Or.inr rfl))
    (hd : (x == ("__debug__" : Str)) = false := by decide) (hcd : (x == ("__classdict__" : Str)) = false := by decide) (h1 : starEach (e :: es) X.env = (false, eval e X.env) :: starEach es X.env := by rfl) (h2 : (backTo pos (starEach es X.env)).any (·.1) = false := by rfl) :
    VE X E (.Call (.Name x p) (e :: es) [] pos) (mMakeV k c fz n m fa) := fun g => by
  constructor
  rintro pins s σ H Q I ⟨F, ι, env, S, w, q⟩
  unfold mMakeV at q
  split at q
  · rename_i c' hk
    split at q
    · rename_i hcc
      subst hcc
      obtain ⟨v0, hs, C', rfl, hC⟩ := w.slot k _ hk
      rw [hc] at hC
      cases hC
      refine wpAny_Call_Name_kw (thn ((pe_var (pos := p) hN hv hd hcd).run pins s σ H (fun v H1 => v = .ref C ∧ H1 = H) I ⟨.ref C, hs, rfl, rfl⟩) fun u s0 ⟨v, H0, I0, r0, q0⟩ => ?_)
      obtain ⟨rfl, rfl⟩ := q0
      obtain rfl : u = Value.ref C := r0
      refine PySem.W.callWith_K (h₀ := X.base) I0.ok.mod.kin M.kp (thn ((ha g).run pos pins s0 σ H0 (fun vs H1 => ∃ F1 ι1 S1 xs, Ext H0 F ι H1 F1 ι1 ∧ RS X.K X.mg g σ H1 F1 ι1 env S1 ∧ Reps X.K X.mg F1 ι1 H1 xs vs ∧ xs.length + 1 = n ∧
        rdAt X.K X.mg g E σ H1 F1 ι1 env (fun d H' F' ι' _ => ∀ v, Rep X.K X.mg F' ι' H' d v → Q v H') (madeR c' fz S1.length (m (.cell S1.length :: xs) (S1 ++ [.ins c' [] []])))) I0 ⟨F, ι, env, S, w, rd_mono (rd_then q) ?_⟩) fun us s1 hh => ?_) h1 h2
      · rintro xs H1 F1 ι1 S1 - e1 w1 ⟨_, _, q1⟩ vs hvs
        by_cases hl : xs.length + 1 = n
        · rw [if_pos hl] at q1
          exact ⟨F1, ι1, S1, xs, e1, w1, hvs, hl, rd_mono q1 fun _ _ _ _ _ _ _ _ z => z.2.2⟩
        · rw [if_neg hl] at q1
          exact q1.elim
      · obtain ⟨vs, H1, I1, r, F1, ι1, S1, xs, e1, w1, hvs, hl, q1⟩ := hh
        refine ⟨I1.kIn, ?_⟩
        show wpAny _ _ (call (.ref C) us) _ _ _
        refine run_mk (us2 := fun x => x :: us) (ds2 := fun d => d :: xs) (vs2 := fun v => v :: vs) M G rm px hc I1 w1 [] (fun s' x kin => ?_) (fun x => .cons rfl r) (fun x F' ι' H' k e' hk => ⟨_, vs, rfl, hk, w1.wd.reps e' hvs⟩) (fun d => hl) q1
        have := hb s' (x :: us) kin (by rw [List.append_nil, hpn, ← hl, List.length_cons, ← r.length, hvs.len])
        rw [List.append_nil] at this
        exact this
    · exact q.elim
  · exact q.elim
end
end DL
namespace DL
open PySem PySem.Spec L2
open PyProof.Rows hiding St
section
variable {X : Cx} {E : EE} {a b : Expr} {f h : Ex D} {fo : Ex (List D)} {pos : Pos}
def mRep (f h : Ex D) : Ex (List D) := fun env S => (f env S).andThen fun x S1 => (h env S1).andThen fun y S2 => match x, y with
  | .lst xs, .int k => if decide (-(2 ^ 63) ≤ k ∧ k < 2 ^ 63) && okLen (xs.length * k.toNat) then .ok (List.replicate k.toNat xs).flatten S2 else .bad
  | _, _ => .bad
def mCatO (f h : Ex D) : Ex (List D) := fun env S => (f env S).andThen fun x S1 => (h env S1).andThen fun y S2 => match x, y with
  | .lst xs, .lst ys => if okLen (xs.length + ys.length) then .ok (xs ++ ys) S2 else .bad
  | _, _ => .bad
theorem o_cat (ha : VE X E a f) (hb : VE X E b h) : VO X E (.BinOp a .Add b pos) (mCatO f h) := fun g => (pe_op op_cat (ha g) (hb g)).imp fun σ H Q ⟨F, ι, env, S, w, q⟩ => by
  refine ⟨F, ι, env, S, w, rd_mono (rd_then q) ?_⟩
  rintro x H1 F1 ι1 S1 - e1 w1 ⟨_, _, q1⟩ v hv
  refine ⟨F1, ι1, env, S1, w1, rd_mono (rd_then q1) ?_⟩
  rintro y H2 F2 ι2 S2 - e2 w2 ⟨_, _, q2⟩ u hu
  cases x with
  | lst xs =>
    cases y with
    | lst ys =>
      by_cases hc : okLen (xs.length + ys.length) = true
      · dsimp only at q2
        rw [if_pos hc] at q2
        obtain ⟨l, vs, rfl, hl, hr⟩ := w1.wd.rep e2 hv
        obtain ⟨l2, us, rfl, hl2, hr2⟩ := hu
        refine ⟨l, l2, vs, us, rfl, rfl, hl.2, hl2.2, by rw [hr.len, hr2.len]; exact okLen_le hc, fun p n => ?_⟩
        obtain ⟨e', w'⟩ := w2.wd.layO (o := .lst (vs ++ us)) n
        exact (q2 _ _ _ e' (w2.step e' w')).2.2.2.2 p _ upd_same (w2.wd.reps e' (hr.app hr2)) (fun z => w2.wd.fin p z n) (fun z => w2.wd.cell_ne z n) (e1.mono p (e2.mono p n))
      · dsimp only at q2
        rw [if_neg hc] at q2
        exact q2.elim
    | _ => exact q2.elim
  | _ => exact q2.elim
def mParP (i j : Nat) (fo : Ex (List D)) (f : Ex D) : Sm := fun env S => (fo env S).go env fun ds S1 => (f env S1).go env fun d S2 => .nx ((env.set i (.own ds)).set j (.val d)) S2
end
end DL
namespace DL
open PySem PySem.Spec L2
open PyProof.Rows hiding St
section
variable {X : Cx} {ta tb tc td : TE} {a b c d : Expr} {pos : Pos}
def tChain3 (r r' r'' : R2) (ta tb tc td : TE) : TE := fun σ H Q => ta σ H fun x H1 => tb σ H1 fun y H2 => r x y H2 fun z H3 => ∃ k, z = .bl k ∧
  (if k = true then tc σ H3 fun w H4 => r' y w H4 fun z' H5 => ∃ k', z' = .bl k' ∧ (if k' = true then td σ H5 fun u H6 => r'' w u H6 Q else Q (.bl false) H5) else Q (.bl false) H3)
end
section
variable {X : Cx} {E : EE} {a b c d : Expr} {f h k l : Ex D} {pos : Pos}
def mChain3 (op op' op'' : Op2) (f h k l : Ex D) : Ex D := fun env S => (f env S).andThen fun x S1 => (h env S1).andThen fun y S2 => ((ofO (op x y S2) S2).andThen asB).andThen fun b S3 =>
  if b = true then (k env S3).andThen fun z S4 => ((ofO (op' y z S4) S4).andThen asB).andThen fun b' S5 =>
    if b' = true then (l env S5).andThen fun u S6 => ofO (op'' z u S6) S6 else .ok (.bl false) S5 else .ok (.bl false) S3
end
section
variable (env : List Sl) (S : List Cell)
@[simp] theorem r_chain3 (o o' o'' : Op2) (f h k l : Ex D) : mChain3 o o' o'' f h k l env S = (f env S).andThen fun x S1 => (h env S1).andThen fun y S2 => ((ofO (o x y S2) S2).andThen asB).andThen fun b S3 =>
  if b = true then (k env S3).andThen fun z S4 => ((ofO (o' y z S4) S4).andThen asB).andThen fun b' S5 =>
    if b' = true then (l env S5).andThen fun u S6 => ofO (o'' z u S6) S6 else .ok (.bl false) S5 else .ok (.bl false) S3 := nr rfl
end
end DL
namespace DL
open PySem PySem.Spec L2
section
variable (env : List Sl) (S : List Cell)
@[simp] theorem r_signs (f : Ex D) : mSigns f env S = (f env S).andThen fun x S1 => match x with | .str a => .ok (a.cps.toList.map fun c => .str ⟨#[c]⟩) S1 | _ => .bad := nr rfl
@[simp ↓] theorem V_rsigns (f : Ex D) {P : PR (List D)} : @Rs.V (List D) (mSigns f env S) P = @Rs.V (List D) ((f env S).andThen fun x S1 => match x with | .str a => .ok (a.cps.toList.map fun c => .str ⟨#[c]⟩) S1 | _ => .bad) P := by rw [r_signs]
@[simp] theorem r_txt (op : Op2) (f h : Ex D) : mTxt op f h env S = (f env S).andThen fun x S1 => match x with | .str a => (h env S1).andThen fun y S2 => ofO (op (.str a) y S2) S2 | _ => .bad := nr rfl
@[simp ↓] theorem V_rtxt (op : Op2) (f h : Ex D) {P : PR D} : @Rs.V D (mTxt op f h env S) P = @Rs.V D ((f env S).andThen fun x S1 => match x with | .str a => (h env S1).andThen fun y S2 => ofO (op (.str a) y S2) S2 | _ => .bad) P := by rw [r_txt]
@[simp] theorem r_cmeth (c : Str) (n : Nat) (m : Fn) (fa : Ex (List D)) : mCMeth c n m fa env S = (mC (.cls c) env S).andThen fun x S0 => (fa env S0).andThen fun xs S1 => if (x :: xs).length = n then m (x :: xs) S1 else .bad := nr rfl
@[simp ↓] theorem V_rcmeth (c : Str) (n : Nat) (m : Fn) (fa : Ex (List D)) {P : PR D} : @Rs.V D (mCMeth c n m fa env S) P = @Rs.V D ((mC (.cls c) env S).andThen fun x S0 => (fa env S0).andThen fun xs S1 => if (x :: xs).length = n then m (x :: xs) S1 else .bad) P := by rw [r_cmeth]
@[simp] theorem r_makeV (k : Nat) (c : Str) (fz : Bool) (n : Nat) (m : Fn) (fa : Ex (List D)) : mMakeV k c fz n m fa env S = match env[k]? with | some (.val (.cls c')) => if c' = c then mMake c fz n m fa env S else .bad | _ => .bad := nr rfl
@[simp ↓] theorem V_rmakeV (k : Nat) (c : Str) (fz : Bool) (n : Nat) (m : Fn) (fa : Ex (List D)) {P : PR D} : @Rs.V D (mMakeV k c fz n m fa env S) P = @Rs.V D (match env[k]? with | some (.val (.cls c')) => if c' = c then mMake c fz n m fa env S else .bad | _ => .bad) P := by rw [r_makeV]
@[simp] theorem r_rep (f h : Ex D) : mRep f h env S = (f env S).andThen fun x S1 => (h env S1).andThen fun y S2 => match x, y with
  | .lst xs, .int k => if decide (-(2 ^ 63) ≤ k ∧ k < 2 ^ 63) && okLen (xs.length * k.toNat) then .ok (List.replicate k.toNat xs).flatten S2 else .bad
  | _, _ => .bad := nr rfl
@[simp ↓] theorem V_rrep (f h : Ex D) {P : PR (List D)} : @Rs.V (List D) (mRep f h env S) P = @Rs.V (List D) ((f env S).andThen fun x S1 => (h env S1).andThen fun y S2 => match x, y with
  | .lst xs, .int k => if decide (-(2 ^ 63) ≤ k ∧ k < 2 ^ 63) && okLen (xs.length * k.toNat) then .ok (List.replicate k.toNat xs).flatten S2 else .bad
  | _, _ => .bad) P := by rw [r_rep]
@[simp] theorem r_catO (f h : Ex D) : mCatO f h env S = (f env S).andThen fun x S1 => (h env S1).andThen fun y S2 => match x, y with
  | .lst xs, .lst ys => if okLen (xs.length + ys.length) then .ok (xs ++ ys) S2 else .bad
  | _, _ => .bad := nr rfl
@[simp ↓] theorem V_rcatO (f h : Ex D) {P : PR (List D)} : @Rs.V (List D) (mCatO f h env S) P = @Rs.V (List D) ((f env S).andThen fun x S1 => (h env S1).andThen fun y S2 => match x, y with
  | .lst xs, .lst ys => if okLen (xs.length + ys.length) then .ok (xs ++ ys) S2 else .bad
  | _, _ => .bad) P := by rw [r_catO]
@[simp ↓] theorem V_parP (i j : Nat) (fo : Ex (List D)) (f : Ex D) {F : PF} : @Fl.V (mParP i j fo f env S) F = @Fl.V ((fo env S).go env fun ds S1 => (f env S1).go env fun d S2 => .nx ((env.set i (.own ds)).set j (.val d)) S2) F := nr rfl
@[simp ↓] theorem V_rchain3 (o o' o'' : Op2) (f h k l : Ex D) {P : PR D} : @Rs.V D (mChain3 o o' o'' f h k l env S) P = @Rs.V D ((f env S).andThen fun x S1 => (h env S1).andThen fun y S2 => ((ofO (o x y S2) S2).andThen asB).andThen fun b S3 =>
  if b = true then (k env S3).andThen fun z S4 => ((ofO (o' y z S4) S4).andThen asB).andThen fun b' S5 =>
    if b' = true then (l env S5).andThen fun u S6 => ofO (o'' z u S6) S6 else .ok (.bl false) S5 else .ok (.bl false) S3) P := by rw [r_chain3]
end
end DL
namespace DL
open PySem PySem.Spec L2
open PyProof.Rows hiding St
def idxI (xs : List D) (d : D) (S : List Cell) : Rs D := match d, intsOf xs with
  | .int i, some ns => if i ∈ ns then .ok (.int (ns.idxOf i : Nat)) S else .bad
  | _, _ => .bad
def cntI (xs : List D) (d : D) (S : List Cell) : Rs D := match d, intsOf xs with
  | .int i, some ns => .ok (.int (ns.count i : Nat)) S
  | _, _ => .bad
def mIdxL (f h : Ex D) : Ex D := fun env S => (f env S).andThen fun d S1 => match d with
  | .lst xs => (h env S1).andThen fun y S2 => idxI xs y S2
  | _ => .bad
def mCntL (f h : Ex D) : Ex D := fun env S => (f env S).andThen fun d S1 => match d with
  | .lst xs => (h env S1).andThen fun y S2 => cntI xs y S2
  | _ => .bad
def mBad : Ex D := fun _ _ => .bad
section
variable {X : Cx} {E : EE} {o e : Expr} {f h : Ex D} {apos cpos : Pos}
end
def isT2 (neg : Bool) : Op2 := fun x y _ => match x, y with
  | .bl a, .bl b => some (.bl (if neg = true then !decide (a = b) else decide (a = b)))
  | _, _ => none
theorem ok_notT2 {K : PySem.W.Frag} {mg : Str → Option Value} : Ok2 K mg rNotB (isT2 true) := by
  intro H F ι S x y d v u Q w rx ry ho t
  unfold isT2 at ho
  split at ho
  · cases ho
    rw [show v = _ from rx, show u = _ from ry]
    exact ⟨_, _, rfl, rfl, t.here w rfl⟩
  · cases ho
@[simp] theorem isT2_f (a b : Bool) (S : List Cell) : isT2 false (.bl a) (.bl b) S = some (.bl (decide (a = b))) := nr rfl
@[simp] theorem isT2_t (a b : Bool) (S : List Cell) : isT2 true (.bl a) (.bl b) S = some (.bl (!decide (a = b))) := nr rfl
section
variable {X : Cx} {E : EE} {a b : Expr} {f : Ex D} {fo : Ex (List D)} {pos : Pos}
end
section
variable {env : List Sl} {S : List Cell}
@[simp] theorem r_idxL (f h : Ex D) : mIdxL f h env S = (f env S).andThen fun d S1 => match d with
  | .lst xs => (h env S1).andThen fun y S2 => idxI xs y S2
  | _ => .bad := nr rfl
@[simp ↓] theorem V_ridxL (f h : Ex D) {P : PR D} : @Rs.V D (mIdxL f h env S) P = @Rs.V D ((f env S).andThen fun d S1 => match d with
  | .lst xs => (h env S1).andThen fun y S2 => idxI xs y S2
  | _ => .bad) P := by rw [r_idxL]
@[simp] theorem r_cntL (f h : Ex D) : mCntL f h env S = (f env S).andThen fun d S1 => match d with
  | .lst xs => (h env S1).andThen fun y S2 => cntI xs y S2
  | _ => .bad := nr rfl
@[simp ↓] theorem V_rcntL (f h : Ex D) {P : PR D} : @Rs.V D (mCntL f h env S) P = @Rs.V D ((f env S).andThen fun d S1 => match d with
  | .lst xs => (h env S1).andThen fun y S2 => cntI xs y S2
  | _ => .bad) P := by rw [r_cntL]
end
end DL
namespace DL
open PySem PySem.Spec L2
open PyProof.Rows hiding St
def mKeysE (it : Ex (List D)) (vs : List Nat) (p : Pat) (elt : Ex D) : Ex (List D) := fun env S => (it env S).andThen fun ds S1 => if ds.length ≤ 100000 then (noX (compL vs p mYes elt ds env S1)).andThen fun es S2 => match intsOf es with
    | some ns => .ok ((uniI ns).map .int) S2
    | none => .bad
  else .bad
section
variable {K : PySem.W.Frag} {mg : Str → Option Value} {g : Snap}
def tKeys (E : EE) (f : Ex (List D)) : TE := fun σ H Q => ∃ F ι env S, RS K mg g σ H F ι env S ∧
  rdAt K mg g E σ H F ι env (fun es H' F' ι' _ => ∀ (a : Addr) (kvs : List (Key × V)) (ks : List Int), H' a = some (.dK kvs) → kvs.map (·.1) = ks.map Sum.inl → ks.Nodup → (∀ i : Int, i ∈ ks ↔ D.int i ∈ es) → ¬ F' a → a ∉ ι' → H a = none → Q (.ref a) H') (f env S)
end
section
variable {X : Cx} {E : EE} {kx vx tg iter : Expr} {scope : Scope} {own : List (Str × Nat)} {pos cpos pp : Pos} {it : Ex (List D)} {p : Pat} {f : Ex D}
end
section
variable {env : List Sl} {S : List Cell}
@[simp] theorem r_keysE (it : Ex (List D)) (vs : List Nat) (p : Pat) (e : Ex D) : mKeysE it vs p e env S = (it env S).andThen fun ds S1 => if ds.length ≤ 100000 then (noX (compL vs p mYes e ds env S1)).andThen (fun es S2 => match intsOf es with
    | some ns => .ok ((uniI ns).map .int) S2
    | none => .bad)
  else .bad := nr rfl
@[simp ↓] theorem V_rkeysE (it : Ex (List D)) (vs : List Nat) (p : Pat) (e : Ex D) {P : PR (List D)} : @Rs.V (List D) (mKeysE it vs p e env S) P = @Rs.V (List D) ((it env S).andThen fun ds S1 => if ds.length ≤ 100000 then (noX (compL vs p mYes e ds env S1)).andThen (fun es S2 => match intsOf es with
    | some ns => .ok ((uniI ns).map .int) S2
    | none => .bad)
  else .bad) P := by rw [r_keysE]
end
end DL
namespace DL
open PySem PySem.Spec L2
open PyProof.Rows hiding St
def mPop (k : Nat) : Sm := fun env S => match env[k]? with
  | some (.own ds) => if ds.isEmpty then .bad else .nx (env.set k (.own ds.dropLast)) S
  | _ => .bad
def mSetPop (i k : Nat) : Sm := fun env S => match env[k]? with
  | some (.own ds) => match ds.getLast? with
    | some d => .nx ((env.set k (.own ds.dropLast)).set i (.val d)) S
    | none => .bad
  | _ => .bad
def mSetPopAt (i k : Nat) (f : Ex D) : Sm := fun env S => match env[k]? with
  | some (.own ds) => (f env S).go env fun y S1 => match y with
    | .int j => if 0 ≤ j ∧ j < 1000000 then match ds[j.toNat]? with
      | some d => .nx ((env.set k (.own (ds.eraseIdx j.toNat))).set i (.val d)) S1
      | none => .bad
      else .bad
    | _ => .bad
  | _ => .bad
def popAt (env : List Sl) (i k : Nat) (ds : List D) (y : D) (S1 : List Cell) : Fl := match y with
  | .int j => if 0 ≤ j ∧ j < 1000000 then match ds[j.toNat]? with
    | some d => .nx ((env.set k (.own (ds.eraseIdx j.toNat))).set i (.val d)) S1
    | none => .bad
    else .bad
  | _ => .bad
theorem Reps.erase {K : PySem.W.Frag} {mg : Str → Option Value} {F : Fz} {ι : List Addr} {H : Hp} {ds : List D} {vs : List V} (r : Reps K mg F ι H ds vs) (j : Nat) : Reps K mg F ι H (ds.eraseIdx j) (vs.eraseIdx j) := by
  rw [List.eraseIdx_eq_take_drop_succ, List.eraseIdx_eq_take_drop_succ]
  exact (r.take j).app (r.drop (j + 1))
section
variable {X : Cx} {E : EE} {e : Expr} {f : Ex D} {pos : Pos}
end
section
variable {env : List Sl} {S : List Cell} {F : PF}
@[simp ↓] theorem V_pop (k : Nat) : @Fl.V (mPop k env S) F = @Fl.V (match env[k]? with | some (.own ds) => (if ds.isEmpty then .bad else .nx (env.set k (.own ds.dropLast)) S) | _ => .bad : Fl) F := nr rfl
@[simp ↓] theorem V_setPop (i k : Nat) : @Fl.V (mSetPop i k env S) F = @Fl.V (match env[k]? with | some (.own ds) => (match ds.getLast? with | some d => .nx ((env.set k (.own ds.dropLast)).set i (.val d)) S | none => .bad) | _ => .bad : Fl) F := nr rfl
theorem popAt_def (i k : Nat) (f : Ex D) : mSetPopAt i k f env S = (match env[k]? with | some (.own ds) => ((f env S).go env fun y S1 => popAt env i k ds y S1) | _ => .bad : Fl) := by
  unfold mSetPopAt popAt
  rfl
@[simp ↓] theorem V_setPopAt (i k : Nat) (f : Ex D) : @Fl.V (mSetPopAt i k f env S) F = @Fl.V (match env[k]? with | some (.own ds) => ((f env S).go env fun y S1 => popAt env i k ds y S1) | _ => .bad : Fl) F := by rw [popAt_def]
end
end DL
namespace DL
open PySem PySem.Spec PySem.Calls L2
open PyProof.Rows hiding St
section
variable {prog : Program} {w : World} {KK : Type} [DecidableEq KK] {kd : KeyKind prog w KK} {A : Around} {E : Value → Shared → Prop} {s : Shared}
end
def tDispS (te tk tv : TE) : TE := fun σ H Q => ∀ p0, H p0 = none → te σ (upd H p0 (.dK [])) fun x H1 => H1 p0 = some (.dK []) ∧ ∃ (a : Addr) (kvs : List (Key × V)), x = .ref a ∧ Rd H1 a (.dK kvs) ∧ a ≠ p0 ∧ kvs.length < sizeLine ∧
  ∀ p1, (upd H1 p0 (.dK kvs)) p1 = none → tPairs [(tk, tv)] σ (upd (upd H1 p0 (.dK kvs)) p1 (.dK [])) fun ps H2 => H2 p1 = some (.dK []) ∧ H2 p0 = some (.dK kvs) ∧ ∃ (kk : Key) (z : V), ps = [(kV kk, z)] ∧
    Q (.ref p0) (upd (upd H2 p1 (.dK [(kk, z)])) p0 (.dK (putK kvs kk z)))
end DL
namespace DL
open PySem PySem.Spec PySem.Calls L2
open PyProof.Rows hiding St
section
variable {K : PySem.W.Frag} {mg : Str → Option Value} {F F' : Fz} {ι ι' : List Addr} {H H' : Hp} {g : Snap} {σ : St} {env : List Sl} {S : List Cell}
theorem Ext.over {p : Addr} {o : HO} (e : Ext H F ι H' F' ι') (n : H p = none) : Ext H F ι (upd H' p o) F' ι' where
  sub := e.sub
  new := e.new
  keep := fun a ob h c => by
    have ne : a ≠ p := fun z => by rw [z, n] at h; cases h
    rw [upd_ne ne]
    exact e.keep a ob h c
  mono := fun a h => by
    by_cases z : a = p
    · rw [z, upd_same] at h; cases h
    · rw [upd_ne z] at h; exact e.mono a h
  pre := e.pre
  cnew := e.cnew
theorem Ext.froze {p : Addr} (e : Ext H F ι H' F' ι') (n : H p = none) : Ext H F ι H' (fun b => F' b ∨ b = p) ι' where
  sub := fun a h => .inl (e.sub a h)
  new := fun a h => by
    rcases h with h | rfl
    · exact e.new a h
    · exact .inr n
  keep := e.keep
  mono := e.mono
  pre := e.pre
  cnew := e.cnew
theorem stay_over {p : Addr} {o : HO} (n : ¬ F p) : Stay F H (upd H p o) := fun a ob f h => by
  have ne : a ≠ p := fun z => n (z ▸ f)
  rw [upd_ne ne]
  exact h
theorem RS.over {p : Addr} {o : HO} (r : RS K mg g σ H F ι env S) (nF : ¬ F p) (ni : p ∉ ι) (n0 : g.H0 p = none) (nl : ∀ vs, H p ≠ some (.lst vs)) (nd : ∀ (i : Nat) ks ds, env[i]? = some (.ownd ks ds) → σ[i]? ≠ some (some (.ref p))) : RS K mg g σ (upd H p o) F ι env S where
  wd := r.wd.updO nF ni
  ext := r.ext.over n0
  len := r.len
  slot := fun i d h => by
    obtain ⟨v, h1, h2⟩ := r.slot i d h
    exact ⟨v, h1, rep_mono (fun _ h => h) (stay_over nF) (List.prefix_refl _) d v h2⟩
  own := fun i ds h => by
    obtain ⟨a, vs, h1, h2, h3, h4, h5, h6⟩ := r.own i ds h
    have ne : a ≠ p := fun z => nl vs (z ▸ h2)
    exact ⟨a, vs, h1, by rw [upd_ne ne]; exact h2, reps_mono (fun _ h => h) (stay_over nF) (List.prefix_refl _) ds vs h3, h4, h5, h6⟩
  apart := r.apart
  ownd := fun i ks ds h => by
    obtain ⟨a, h1, vs, h2, h2', h3, h4, h5, h6⟩ := r.ownd i ks ds h
    have ne : a ≠ p := fun z => nd i ks ds h (z ▸ h1)
    exact ⟨a, h1, vs, by rw [upd_ne ne]; exact h2, h2', reps_mono (fun _ h => h) (stay_over nF) (List.prefix_refl _) ds vs h3, h4, h5, h6⟩
  apartd := r.apartd
theorem RS.froze {p : Addr} (r : RS K mg g σ H F ι env S) (hp : H p ≠ none) (ni : p ∉ ι) (n0 : g.H0 p = none) (nl : ∀ vs, H p ≠ some (.lst vs)) (nd : ∀ (i : Nat) ks ds, env[i]? = some (.ownd ks ds) → σ[i]? ≠ some (some (.ref p))) : RS K mg g σ H (fun b => F b ∨ b = p) ι env S where
  wd := r.wd.freeze hp ni
  ext := r.ext.froze n0
  len := r.len
  slot := fun i d h => by
    obtain ⟨v, h1, h2⟩ := r.slot i d h
    exact ⟨v, h1, rep_mono (fun _ h => .inl h) (fun _ _ _ h => h) (List.prefix_refl _) d v h2⟩
  own := fun i ds h => by
    obtain ⟨a, vs, h1, h2, h3, h4, h5, h6⟩ := r.own i ds h
    refine ⟨a, vs, h1, h2, reps_mono (fun _ h => .inl h) (fun _ _ _ h => h) (List.prefix_refl _) ds vs h3, fun z => ?_, h5, h6⟩
    rcases z with z | z
    · exact h4 z
    · exact nl vs (z ▸ h2)
  apart := r.apart
  ownd := fun i ks ds h => by
    obtain ⟨a, h1, vs, h2, h2', h3, h4, h5, h6⟩ := r.ownd i ks ds h
    refine ⟨a, h1, vs, h2, h2', reps_mono (fun _ h => .inl h) (fun _ _ _ h => h) (List.prefix_refl _) ds vs h3, fun z => ?_, h5, h6⟩
    rcases z with z | z
    · exact h4 z
    · exact nd i ks ds h (z ▸ h1)
  apartd := r.apartd
end
def putD (ks : List Key) (xs : List D) (k : Key) (d : D) : D := if (ks.any fun q => decide (q = k)) = true then .dct ks (List.zipWith (fun q x => if q = k then d else x) ks xs) else .dct (ks ++ [k]) (xs ++ [d])
def mDispS (f h l : Ex D) : Ex D := fun env S => (f env S).andThen fun x S1 => match x with
  | .dct ks xs => if ks.length ≤ 1000 then (h env S1).andThen fun y S2 => match y with
      | .str z => (l env S2).andThen fun d S3 => .ok (putD ks xs (.inr z) d) S3
      | _ => .bad
    else .bad
  | _ => .bad
section
variable {X : Cx} {E : EE} {e ek el : Expr} {f h l : Ex D} {pos : Pos}
end
end DL
namespace DL
open PySem PySem.Spec PySem.Calls L2
open PyProof.Rows hiding St
def leS (a b : Str) : Bool := !ltCps b.cps.toList a.cps.toList
def sortS (ss : List Str) : List Str := ss.mergeSort leS
def strsK : List Key → Option (List Str)
  | [] => some []
  | .inr s :: r => (strsK r).map (s :: ·)
  | _ => none
def sortDS : OpN := fun xs _ => match xs with
  | [.dct ks _] => match strsK ks with
    | some ss => if ss.length < 64 then some (.lst ((sortS ss).map .str)) else none
    | none => none
  | _ => none
def rSortDS : List V → Hp → VK → Prop := fun xs H Q => ∃ (a : Addr) (kvs : List (Key × V)) (ks : List Str), xs = [.ref a] ∧ Rd H a (.dK kvs) ∧ kvs.map (·.1) = ks.map Sum.inr ∧ ks.length < 64 ∧
    ∀ (p : Addr), H p = none → Q (.ref p) (upd H p (.lst ((sortS ks).map V.str)))
def keyD : Key → D
  | .inl i => .int i
  | .inr s => .str s
def keysOf : D → List Cell → Rs (List D)
  | .dct ks _, S => .ok (ks.map keyD) S
  | _, _ => .bad
def mKeysD (f : Ex D) : Ex (List D) := fun env S => (f env S).andThen keysOf
section
variable {X : Cx} {E : EE} {tg l e : Expr} {f h : Ex D} {pos : Pos}
def neE : Op2 := fun x y _ => match x, y with
  | .dct ks _, .dct [] [] => some (.bl (!ks.isEmpty))
  | _, _ => none
def rNeE : R2 := fun x y H Q => ∃ a b ks, x = .ref a ∧ y = .ref b ∧ Rd H a (.dK ks) ∧ Rd H b (.dK []) ∧ Q (.bl (!ks.isEmpty)) H
end
section
variable {env : List Sl} {S : List Cell}
@[simp] theorem r_keysD (f : Ex D) : mKeysD f env S = (f env S).andThen keysOf := nr rfl
@[simp ↓] theorem V_rkeysD (f : Ex D) {P : PR (List D)} : @Rs.V (List D) (mKeysD f env S) P = @Rs.V (List D) ((f env S).andThen keysOf) P := by rw [r_keysD]
end
end DL
namespace DL
open PySem PySem.Spec PySem.Calls L2
open PyProof.Rows hiding St
section
variable {X : Cx} {E : EE} {pos : Pos}
end
end DL
namespace DL
open PySem PySem.Spec PySem.Calls L2
open PyProof.Rows hiding St
def strB : OpN := fun xs S => match xs with
  | [.str s] => some (.str s)
  | _ => strD xs S
def rStrB : List V → Hp → VK → Prop := fun xs H Q => (∃ i, xs = [V.int i] ∧ i.natAbs.log2 < 1920 ∧ Q (.str (toString i)) H) ∨ ∃ a, xs = [V.str a] ∧ Q (.str a) H
end DL
namespace DL
open PySem PySem.Spec PySem.Calls L2
open PyProof.Rows hiding St
def rMulS : R2 := fun x y H Q => ∃ s k, x = .str s ∧ y = .int k ∧ (0 ≤ k ∧ k ≤ 1000) ∧ s.length ≤ 1000 ∧ Q (.str (Txt.mul s k)) H
theorem op_mulS {X : Cx} : OpR X (binaryOp .Mult) rMulS := by
  intro pins s σ H x y v u Q I rx ry h
  obtain ⟨i, k, rfl, rfl, hk, hl, q⟩ := h
  obtain ⟨t, rfl⟩ := rx
  obtain ⟨t', rfl⟩ := ry
  exact SB.mul (mulOk_of 1000 1000 hl (by omega) (by omega) (by decide) (by decide)) fun t' tk => ⟨.str (Txt.mul i k), H, I.tok _, ⟨_, rfl⟩, q⟩
def mulS : Op2 := fun x y S => match x, y with
  | .str s, .int k => if decide (0 ≤ k ∧ k ≤ 1000) && decide (s.length ≤ 1000) then some (.str (Txt.mul s k)) else none
  | _, _ => none
theorem ok_mulS {K : PySem.W.Frag} {mg : Str → Option Value} : Ok2 K mg rMulS mulS := by
  intro H F ι S x y d v u Q w rx ry ho t
  unfold mulS at ho
  split at ho
  · split at ho
    · rename_i s k hc
      cases ho
      rw [Bool.and_eq_true] at hc
      exact ⟨s, k, rx, ry, of_decide_eq_true hc.1, of_decide_eq_true hc.2, t.here w rfl⟩
    · cases ho
  · cases ho
def repS (s : Str) : Nat → Str
  | 0 => ⟨#[]⟩
  | n + 1 => repS s n ++ s
end DL
namespace DL
open PySem PySem.Spec L2
open PyProof.Rows hiding St
def mCMethK (c : Str) (n nk : Nat) (p : List Nat) (m : Fn) (fk : Ex (List D)) : Ex D := fun env S => (mC (.cls c) env S).andThen fun x S0 => (fk env S0).andThen fun zs S2 => if zs.length = nk then (if (pickL p (x :: zs)).length = n then m (pickL p (x :: zs)) S2 else .bad) else .bad
section
variable {X : Cx} {E : EE} {kws : List Keyword} {fk : Ex (List D)} {pos pn apos : Pos} {c nm : Str} {C pr gI : Addr} {mc : Value} {i n nk : Nat} {fd : FuncData} {ps ks : List Str} {m : Fn} {pk : List Nat}
end
section
variable {env : List Sl} {S : List Cell} {c : Str} {n nk : Nat} {pk : List Nat} {m : Fn} {fk : Ex (List D)}
@[simp] theorem r_cmethK : mCMethK c n nk pk m fk env S = (mC (.cls c) env S).andThen fun x S0 => (fk env S0).andThen fun zs S2 => if zs.length = nk then (if (pickL pk (x :: zs)).length = n then m (pickL pk (x :: zs)) S2 else .bad) else .bad := nr rfl
@[simp ↓] theorem V_rcmethK {P : PR D} : @Rs.V D (mCMethK c n nk pk m fk env S) P = @Rs.V D ((mC (.cls c) env S).andThen fun x S0 => (fk env S0).andThen fun zs S2 => if zs.length = nk then (if (pickL pk (x :: zs)).length = n then m (pickL pk (x :: zs)) S2 else .bad) else .bad) P := by rw [r_cmethK]
end
end DL
namespace DL
open PySem PySem.Spec PySem.Calls L2
open PyProof.Rows hiding St
def PEK (X : Cx) (e : Expr) (t : TE) : Prop := ∀ (pins : List (Addr × Obj)) (s : Shared) (σ : St) (H : Hp) (Q : VK), Inv X pins σ H s → t σ H Q → wpAny (model X.prog X.w) X.A (eval e X.env) (fun v s1 => 1 ≤ s1.toks ∧ EP X pins σ Q v s1) X.xe s
theorem PEK.imp {X : Cx} {e : Expr} {t t' : TE} (p : PEK X e t) (h : ∀ σ H Q, t' σ H Q → t σ H Q) : PEK X e t' := fun pins s σ H Q I q => p pins s σ H Q I (h σ H Q q)
theorem PET_imp {X : Cx} {e : Expr} {t t' : TE} (p : PET X e t) (h : ∀ σ H Q, t' σ H Q → t σ H Q) : PET X e t' := fun pins s σ H Q h0 I q => p pins s σ H Q h0 I (h σ H Q q)
theorem PAT_imp {X : Cx} {e : List Expr} {t t' : TA} (p : PAT X e t) (h : ∀ σ H Q, t' σ H Q → t σ H Q) : PAT X e t' := fun pos pins s σ H Q h0 I q => p pos pins s σ H Q h0 I (h σ H Q q)
def VEK (X : Cx) (E : EE) (e : Expr) (f : Ex D) : Prop := ∀ g, PEK X e (tV X.K X.mg g E f)
def VET (X : Cx) (E : EE) (e : Expr) (f : Ex D) : Prop := ∀ g, PET X e (tV X.K X.mg g E f)
def VAT (X : Cx) (E : EE) (es : List Expr) (f : Ex (List D)) : Prop := ∀ g, PAT X es (tAr X.K X.mg g E f)
def mRepl (y z : Str) (f : Ex D) : Ex D := fun env S => (f env S).andThen fun x S1 => match x with
  | .str a => if a.length + (a.length + 1) * z.length ≤ 100000 then .ok (.str (Txt.replace a y z)) S1 else .bad
  | _ => .bad
section
variable {X : Cx} {E : EE} {e a b o : Expr} {es : List Expr} {f h : Ex D} {fa : Ex (List D)} {pos apos : Pos}
theorem pek_str {x : Str} {j : Nat} : PEK X (.Constant (.str x) j pos) (tC (.str x)) := fun pins s σ H Q I q =>
  Calls.Constant_str ⟨by show 1 ≤ s.toks + 1; omega, V.str x, H, I.tok (s.toks + 1), ⟨s.toks, rfl⟩, q⟩
theorem pek_op {op : Operator} {r : R2} {te tf : TE} (ho : OpR X (binaryOp op) r) (ha : PE X a te) (hb : PEK X b tf) : PEK X (.BinOp a op b pos) (tOp r te tf) := by
  intro pins s σ H Q I h
  refine wpAny_BinOp (wpAny_mono (ha.run pins s σ H _ I h) (fun v s1 q => ?_) fun _ _ z => z)
  obtain ⟨x, H1, I1, r1, q1⟩ := q
  refine wpAny_mono (hb pins s1 σ H1 _ I1 q1) (fun u s2 q2 => ?_) fun _ _ z => z
  obtain ⟨hk, y, H2, I2, r2, q2⟩ := q2
  exact wpAny_mono (PySem.wpAny_toks (ho pins s2 σ H2 x y v u Q I2 r1 r2 q2)) (fun w s3 q => ⟨Nat.le_trans hk q.1, q.2⟩) fun _ _ z => z.2
theorem ek_str {x : Str} {j : Nat} : VEK X E (.Constant (.str x) j pos) (mC (.str x)) := fun g => pek_str.imp fun σ H Q ⟨F, ι, env, S, w, q⟩ => q H F ι Ext.refl w (.str x) rfl
theorem ek_op {p : Operator} {r : R2} {op : Op2} (ho : OpR X (binaryOp p) r) (ok : Ok2 X.K X.mg r op) (ha : VE X E a f) (hb : VEK X E b h) : VEK X E (.BinOp a p b pos) (mOp op f h) :=
  fun g => (pek_op ho (ha g) (hb g)).imp (op2_imp ok)
theorem et_of (h : VE X E e f) : VET X E e f := fun g => CwR.PET.of (h g)
theorem et_repl {y z : Str} {j k : Nat} {c0 c1 : Pos} (ho : VE X E o f) (hyz : (y == z) = false := by decide)
    (hst : starEach [.Constant (.str y) j c0, .Constant (.str z) k c1] X.env = [(false, eval (.Constant (.str y) j c0) X.env), (false, eval (.Constant (.str z) k c1) X.env)] := by rfl)
    (hbase : attributeBase o "replace" X.env (eval o X.env) = eval o X.env := by rfl) (hline : (apos.endLine == pos.line) = true := by rfl) :
    VET X E (.Call (.Attribute o "replace" apos) [.Constant (.str y) j c0, .Constant (.str z) k c1] [] pos) (mRepl y z f) := fun g => PET_imp (CwR.pet_replC (ho g) hyz hst hbase hline) fun σ H Q ⟨F, ι, env, S, w, q⟩ => by
  refine ⟨F, ι, env, S, w, rd_mono (rd_then q) ?_⟩
  rintro x H1 F1 ι1 S1 - e1 w1 ⟨_, _, q1⟩ v hv
  cases x with
  | str a =>
    dsimp only at q1
    split at q1
    · rename_i hz
      exact ⟨a, hv, Nat.le_trans hz (by decide), (q1 H1 F1 ι1 Ext.refl w1).2.2 _ rfl⟩
    · exact q1.elim
  | _ => exact q1.elim
theorem at_of (h : VA X E es fa) : VAT X E es fa := fun g pos pins s σ H Q _ I q => (h g).run pos pins s σ H Q I q
theorem at_cons (he : VET X E e f) (hr : VAT X E es fa) (hs : starEach (e :: es) X.env = (false, eval e X.env) :: starEach es X.env := by rfl) : VAT X E (e :: es) (mCons f fa) := fun g =>
  PAT_imp (pat_cons (he g) (hr g) hs) fun σ H Q ⟨F, ι, env, S, w, q⟩ => ⟨F, ι, env, S, w, rd_mono (rd_then q) fun x H1 F1 ι1 S1 _ e1 w1 ⟨_, _, q1⟩ v hv =>
    ⟨F1, ι1, env, S1, w1, rd_mono (rd_then q1) fun xs H2 F2 ι2 S2 _ e2 w2 ⟨_, _, q2⟩ vs hvs => (q2 H2 F2 ι2 Ext.refl w2).2.2.2.2 (v :: vs) ⟨v, vs, rfl, w1.wd.rep e2 hv, hvs⟩⟩⟩
theorem pa_consK {te : TE} {ta : TA} (ha : PEK X e te) (hr : PAT X es ta) (hs : starEach (e :: es) X.env = (false, eval e X.env) :: starEach es X.env := by rfl) : PA X (e :: es) (tCons te ta) := by
  refine ⟨fun pos pins s σ H Q I h => ?_⟩
  rw [hs]
  show wpAny _ _ (spliced ((false, eval e X.env) :: backTo pos (starEach es X.env))) _ _ s
  refine Calls.spliced_cons (wpAny_mono (ha pins s σ H _ I h) (fun v s1 q => ?_) fun _ _ z => z)
  obtain ⟨hk, x, H1, I1, r1, q1⟩ := q
  exact thn (hr pos pins s1 σ H1 _ hk I1 q1) fun us s2 ⟨xs, H2, I2, r2, q2⟩ => ⟨x :: xs, H2, I2, .cons r1 r2, q2⟩
theorem a_consK (he : VEK X E e f) (hr : VAT X E es fa) (hs : starEach (e :: es) X.env = (false, eval e X.env) :: starEach es X.env := by rfl) : VA X E (e :: es) (mCons f fa) := fun g =>
  (pa_consK (he g) (hr g) hs).imp fun σ H Q ⟨F, ι, env, S, w, q⟩ => ⟨F, ι, env, S, w, rd_mono (rd_then q) fun x H1 F1 ι1 S1 _ e1 w1 ⟨_, _, q1⟩ v hv =>
    ⟨F1, ι1, env, S1, w1, rd_mono (rd_then q1) fun xs H2 F2 ι2 S2 _ e2 w2 ⟨_, _, q2⟩ vs hvs => (q2 H2 F2 ι2 Ext.refl w2).2.2.2.2 (v :: vs) ⟨v, vs, rfl, w1.wd.rep e2 hv, hvs⟩⟩⟩
end
section
variable {env : List Sl} {S : List Cell}
@[simp] theorem r_repl (y z : Str) (f : Ex D) : mRepl y z f env S = (f env S).andThen fun x S1 => match x with
  | .str a => if a.length + (a.length + 1) * z.length ≤ 100000 then .ok (.str (Txt.replace a y z)) S1 else .bad
  | _ => .bad := nr rfl
@[simp ↓] theorem V_repl (y z : Str) (f : Ex D) {R : PR D} : @Rs.V D (mRepl y z f env S) R = @Rs.V D ((f env S).andThen fun x S1 => match x with
  | .str a => if a.length + (a.length + 1) * z.length ≤ 100000 then .ok (.str (Txt.replace a y z)) S1 else .bad
  | _ => .bad) R := by rw [r_repl]
end
end DL
namespace K78
open PySem PySem.Spec L2 DL
open PyProof.Rows hiding St
def ooT : List (Str × Str × Bool) := [(("InvalidKnots", "InvalidText", false) : Str × Str × Bool), (("InvalidKnots", "InvalidDegree", false) : Str × Str × Bool), (("InvalidKnots", "InvalidKnots", true) : Str × Str × Bool), (("InvalidDegree", "InvalidText", false) : Str × Str × Bool), (("InvalidDegree", "InvalidDegree", true) : Str × Str × Bool), (("InvalidDegree", "InvalidKnots", false) : Str × Str × Bool), (("InvalidText", "InvalidText", true) : Str × Str × Bool), (("InvalidText", "InvalidDegree", false) : Str × Str × Bool), (("InvalidText", "InvalidKnots", false) : Str × Str × Bool), (("Frame", "Frame", true) : Str × Str × Bool)]
def obT : List (Str × String × Bool) := [(("Frame", "int", false) : Str × String × Bool), (("Frame", "bool", false) : Str × String × Bool), (("Frame", "tuple", false) : Str × String × Bool), (("Frame", "str", false) : Str × String × Bool), (("Frame", "list", false) : Str × String × Bool)]
def subT : List (Str × Str × Bool) := [(("InvalidKnots", "InvalidText", false) : Str × Str × Bool), (("InvalidDegree", "InvalidText", false) : Str × Str × Bool), (("InvalidText", "InvalidText", true) : Str × Str × Bool)]
def tabT : Tab := ⟨["Frame"], ["InvalidKnots", "InvalidDegree", "InvalidText"], isaOf ooT obT ["Frame"]⟩
def fldT : List (Str × Str) := [("Frame", "parts")]
def xfT : List (Str × Str) := [("InvalidKnots", "index"), ("InvalidDegree", "given"), ("InvalidText", "given")]
section
variable {P : Program} {w : World} {K : PySem.W.Frag} {mg : Str → Option Value} {base : Heap}
def m_l_well : Sm := (mSeq (mSet 2 (mIf (mB (mOp ltD (mVar 1) (mCall lenD (mCons (mVar 0) mNil)))) (mCall toIntD (mCons (mOp ixD (mVar 0) (mVar 1)) mNil)) (mOp mulD (mC (.int 71011)) (mOp addD (mVar 1) (mC (.int 2))))))
  (mSeq (mSet 3 (mOp addD (mC (.int 52027)) (mOp mulD (mC (.int 7019)) (mVar 1))))
  (mSeq (mFor (mItems (mOp addD (mSlice sliceD (mVar 0) mNoPart (mPart (mC (.int 5)))) (mFr (mLst (mCons (mVar 2) mNil))))) (.nm 4) (mSet 3 (mOp modD (mCall toIntD (mCons (mOp addD (mOp addD (mOp mulD (mVar 3) (mC (.int 40829))) (mOp modD (mCall toIntD (mCons (mVar 4) mNil)) (mC (.int 2147483423)))) (mC (.int 41))) mNil)) (mC (.int 2147483423)))))
  (mRet (mCell (mLst (mCons (mIf (mOr (mB (mOp ltD (mVar 2) (mC (.int 0)))) (mB (mOp geD (mVar 2) (mOp powD (mC (.int 10)) (mC (.int 18)))))) (mCall absD (mCons (mVar 2) mNil)) (mC (.int 0))) (mCons (mVar 3) mNil))))))))
def f_l_well : Fn := mDef 5 m_l_well
def m_p_is_integer : Sm := (mRet (mAndV (mCall (isAD tabT) (mCons (mVar 0) (mCons (mC (.ty "int")) mNil))) (mNotV (mCall (isAD tabT) (mCons (mVar 0) (mCons (mC (.ty "bool")) mNil))))))
def f_p_is_integer : Fn := mDef 1 m_p_is_integer
def m_p_is_between : Sm := (mRet (mAndV (mFn 1 f_p_is_integer (mCons (mVar 0) mNil)) (mChain leD leD (mVar 1) (mVar 0) (mVar 2))))
def f_p_is_between : Fn := mDef 3 m_p_is_between
def m_p_is_place : Sm := (mRet (mFn 3 f_p_is_between (mCons (mVar 0) (mCons (mC (.int 0)) (mCons (mC (.int 1000000)) mNil)))))
def f_p_is_place : Fn := mDef 1 m_p_is_place
def m_p_places_fault : Sm := (mSeq (mIfS (mOr (mNot (mB (mCall (isAD tabT) (mCons (mVar 0) (mCons (mC (.ty "tuple")) mNil))))) (mB (mOp eqD (mVar 0) (mTup mNil)))) (mRet (mC .non)) mSkip)
  (mSeq (mFor (mEnum (mCons (mVar 0) mNil)) (.tp [(.nm 1), (.nm 2)]) (mIfS (mOr (mB (mOp eqD (mVar 1) (mC (.int 12)))) (mOr (mNot (mB (mFn 1 f_p_is_place (mCons (mVar 2) mNil)))) (mAnd (mB (mOp gtD (mVar 1) (mC (.int 0)))) (mB (mOp leD (mVar 2) (mOp ixD (mVar 0) (mOp subD (mVar 1) (mC (.int 1))))))))) (mRet (mVar 1)) mSkip))
  (mRet (mUn negD (mC (.int 1))))))
def f_p_places_fault : Fn := mDef 3 m_p_places_fault
def m_p_is_height : Sm := (mRet (mFn 3 f_p_is_between (mCons (mVar 0) (mCons (mUn negD (mC (.int 100000000000000000000))) (mCons (mC (.int 100000000000000000000)) mNil)))))
def f_p_is_height : Fn := mDef 1 m_p_is_height
def m_p_heights_fault : Sm := (mSeq (mIfS (mOr (mNot (mB (mCall (isAD tabT) (mCons (mVar 0) (mCons (mC (.ty "tuple")) mNil))))) (mB (mOp neD (mCall lenD (mCons (mVar 0) mNil)) (mVar 1)))) (mRet (mC .non)) mSkip)
  (mSeq (mSet 2 (mFr (mComp (mEnum (mCons (mVar 0) mNil)) [3, 4] (.tp [(.nm 3), (.nm 4)]) (mNot (mB (mFn 1 f_p_is_height (mCons (mVar 4) mNil)))) (mVar 3))))
  (mRet (mIf (mB (mOp neD (mVar 2) (mFr (mLst mNil)))) (mOp ixD (mVar 2) (mC (.int 0))) (mUn negD (mC (.int 1)))))))
def f_p_heights_fault : Fn := mDef 5 m_p_heights_fault
def m_p_number_in : Sm := (mSeq (mIfS (mOr (mNot (mB (mChain leD leD (mC (.int 1)) (mCall lenD (mCons (mVar 0) mNil)) (mC (.int 60))))) (mNot (mB (mCall allD (mCons (mFr (mComp (mSigns (mVar 0)) [2] (.nm 2) mYes (mOp (inS false) (mVar 2) (mC (.str "0123456789"))))) mNil))))) (mRet (mC .non)) mSkip)
  (mSeq (mIfS (mAnd (mB (mOp eqD (mOp ixD (mVar 0) (mC (.int 0))) (mC (.str "0")))) (mB (mOp neD (mVar 0) (mC (.str "0"))))) (mRet (mC .non)) mSkip)
  (mRet (mIf (mB (mOp leD (mCall toIntS (mCons (mVar 0) mNil)) (mVar 1))) (mCall toIntS (mCons (mVar 0) mNil)) (mC .non)))))
def f_p_number_in : Fn := mDef 3 m_p_number_in
def m_p_knots_fault : Sm := (mSeq (mIfS (mOr (mNot (mB (mCall (isAD tabT) (mCons (mVar 1) (mCons (mC (.ty "tuple")) mNil))))) (mB (mOp ltD (mCall lenD (mCons (mVar 1) mNil)) (mOp addD (mVar 0) (mC (.int 2)))))) (mRet (mC .non)) mSkip)
  (mSeq (mFor (mEnum (mCons (mVar 1) mNil)) (.tp [(.nm 2), (.nm 3)]) (mSeq (mIfS (mOr (mB (mOp eqD (mVar 2) (mOp addD (mOp addD (mVar 0) (mC (.int 1))) (mC (.int 10))))) (mNot (mB (mFn 3 f_p_is_between (mCons (mVar 3) (mCons (mC (.int 0)) (mCons (mC (.int 1000000)) mNil))))))) (mRet (mVar 2)) mSkip)
  (mSeq (mIfS (mAnd (mB (mOp gtD (mVar 2) (mC (.int 0)))) (mB (mOp ltD (mVar 3) (mOp ixD (mVar 1) (mOp subD (mVar 2) (mC (.int 1))))))) (mRet (mVar 2)) mSkip)
  (mIfS (mAnd (mB (mOp gtD (mVar 2) (mVar 0))) (mB (mOp eqD (mOp ixD (mVar 1) (mOp subD (mOp subD (mVar 2) (mVar 0)) (mC (.int 1)))) (mVar 3)))) (mRet (mVar 2)) mSkip))))
  (mRet (mUn negD (mC (.int 1))))))
def f_p_knots_fault : Fn := mDef 4 m_p_knots_fault
def m_c_Frame___init__ : Sm := (mSeq (mIfS (mNot (mB (mFn 3 f_p_is_between (mCons (mVar 1) (mCons (mC (.int 0)) (mCons (mC (.int 4)) mNil)))))) (mRaise "InvalidDegree" "given" (mVar 1)) mSkip)
  (mSeq (mIfS (mB (mOp neD (mFn 2 f_p_knots_fault (mCons (mVar 1) (mCons (mVar 2) mNil))) (mUn negD (mC (.int 1))))) (mRaise "InvalidKnots" "index" (mFn 2 f_p_knots_fault (mCons (mVar 1) (mCons (mVar 2) mNil)))) mSkip)
  (mSetF fldT "parts" (mTup (mCons (mVar 1) (mCons (mVar 2) mNil))) (mVar 0))))
def f_c_Frame___init__ : Fn := mDef 3 m_c_Frame___init__
def m_c_Frame_read : Sm := (mSeq (mSet 2 (mIf (mB (mCall (isAD tabT) (mCons (mVar 1) (mCons (mC (.ty "str")) mNil)))) (mTxt splitD (mVar 1) (mC (.str " "))) (mFr (mLst mNil))))
  (mSeq (mIfS (mOr (mB (mOp ltD (mCall lenD (mCons (mVar 2) mNil)) (mC (.int 4)))) (mB (mOp neD (mFr (mLst (mCons (mOp ixD (mVar 2) (mC (.int 0))) (mCons (mOp ixD (mVar 2) (mC (.int 2))) mNil)))) (mC (.ro ((["degree", "knots"] : List Str).map .str)))))) (mRaise "InvalidText" "given" (mVar 1)) mSkip)
  (mSeq (mSet 3 (mFr (mComp (mItems (mFr (mLst (mCons (mOp ixD (mVar 2) (mC (.int 1))) (mStar (mItems (mSlice sliceD (mVar 2) (mPart (mC (.int 3))) mNoPart)) mNil))))) [4] (.nm 4) mYes (mFn 2 f_p_number_in (mCons (mVar 4) (mCons (mC (.int 1000000)) mNil))))))
  (mSeq (mIfS (mOr (mB (mOp (inD false) (mC .non) (mVar 3))) (mOr (mB (mOp gtD (mOp ixD (mVar 3) (mC (.int 0))) (mC (.int 4)))) (mB (mOp neD (mFn 2 f_p_knots_fault (mCons (mOp ixD (mVar 3) (mC (.int 0))) (mCons (mCall tupleD (mCons (mSlice sliceD (mVar 3) (mPart (mC (.int 1))) mNoPart) mNil)) mNil))) (mUn negD (mC (.int 1))))))) (mRaise "InvalidText" "given" (mVar 1)) mSkip)
  (mRet (mMakeV 0 "Frame" true 3 f_c_Frame___init__ (mCons (mOp ixD (mVar 3) (mC (.int 0))) (mCons (mCall tupleD (mCons (mSlice sliceD (mVar 3) (mPart (mC (.int 1))) mNoPart) mNil)) mNil))))))))
def f_c_Frame_read : Fn := mDef 5 m_c_Frame_read
def m_p_frame_in : Sm := (mTry (subOf subT) (mRet (mCMeth "Frame" 2 f_c_Frame_read (mCons (mVar 0) mNil)))
  [(["InvalidText"], none, (mRet (mC .non)))])
def f_p_frame_in : Fn := mDef 1 m_p_frame_in
def m_p_is_count : Sm := (mRet (mAndV (mFn 1 f_p_is_integer (mCons (mVar 0) mNil)) (mOp geD (mVar 0) (mC (.int 0)))))
def f_p_is_count : Fn := mDef 1 m_p_is_count
def m_c_Frame_hills : Sm := (mRet (mOp subD (mOp subD (mCall lenD (mCons (mOp ixD (mUn (fldD fldT "parts") (mVar 0)) (mC (.int 1))) mNil)) (mOp ixD (mUn (fldD fldT "parts") (mVar 0)) (mC (.int 0)))) (mC (.int 1))))
def f_c_Frame_hills : Fn := mDef 1 m_c_Frame_hills
def m_p_common : Sm := (mSeq (mPar2 0 1 (mCons (mCall absD (mCons (mVar 0) mNil)) (mCons (mCall absD (mCons (mVar 1) mNil)) mNil)))
  (mSeq (whileN (mB (mOp gtD (mVar 1) (mC (.int 0)))) (mPar2 0 1 (mCons (mVar 1) (mCons (mOp modD (mVar 0) (mVar 1)) mNil))) 100000)
  (mRet (mVar 0))))
def f_p_common : Fn := mDef 2 m_p_common
def m_p_ratio : Sm := (mSeq (mIfS (mB (mOp ltD (mVar 1) (mC (.int 0)))) (mPar2 0 1 (mCons (mUn negD (mVar 0)) (mCons (mUn negD (mVar 1)) mNil))) mSkip)
  (mSeq (mSet 2 (mFn 2 f_p_common (mCons (mVar 0) (mCons (mVar 1) mNil))))
  (mRet (mTup (mCons (mOp divD (mVar 0) (mVar 2)) (mCons (mOp divD (mVar 1) (mVar 2)) mNil))))))
def f_p_ratio : Fn := mDef 3 m_p_ratio
def m_p_times : Sm := (mRet (mFn 2 f_p_ratio (mCons (mOp mulD (mOp ixD (mVar 0) (mC (.int 0))) (mOp ixD (mVar 1) (mC (.int 0)))) (mCons (mOp mulD (mOp ixD (mVar 0) (mC (.int 1))) (mOp ixD (mVar 1) (mC (.int 1)))) mNil))))
def f_p_times : Fn := mDef 2 m_p_times
def m_p_plus : Sm := (mRet (mFn 2 f_p_ratio (mCons (mOp addD (mOp mulD (mOp ixD (mVar 0) (mC (.int 0))) (mOp ixD (mVar 1) (mC (.int 1)))) (mOp mulD (mOp ixD (mVar 1) (mC (.int 0))) (mOp ixD (mVar 0) (mC (.int 1))))) (mCons (mOp mulD (mOp ixD (mVar 0) (mC (.int 1))) (mOp ixD (mVar 1) (mC (.int 1)))) mNil))))
def f_p_plus : Fn := mDef 2 m_p_plus
def m_p_total : Sm := (mSeq (mSet 1 (mC (.tup (([0, 1] : List Int).map .int))))
  (mSeq (mFor (mItems (mVar 0)) (.nm 2) (mSet 1 (mFn 2 f_p_plus (mCons (mVar 1) (mCons (mVar 2) mNil)))))
  (mRet (mVar 1))))
def f_p_total : Fn := mDef 3 m_p_total
def m_p_joined : Sm := (mRet (mFn 1 f_p_total (mCons (mFr (mComp (mZip (mCons (mVar 0) (mCons (mVar 1) mNil))) [2, 3] (.tp [(.nm 2), (.nm 3)]) mYes (mFn 2 f_p_times (mCons (mVar 2) (mCons (mVar 3) mNil))))) mNil)))
def f_p_joined : Fn := mDef 4 m_p_joined
def m_p_is_ratio : Sm := (mSeq (mIfS (mOr (mNot (mB (mCall (isAD tabT) (mCons (mVar 0) (mCons (mC (.ty "tuple")) mNil))))) (mOr (mB (mOp neD (mCall lenD (mCons (mVar 0) mNil)) (mC (.int 2)))) (mOr (mNot (mB (mFn 1 f_p_is_integer (mCons (mOp ixD (mVar 0) (mC (.int 0))) mNil)))) (mNot (mB (mFn 1 f_p_is_integer (mCons (mOp ixD (mVar 0) (mC (.int 1))) mNil))))))) (mRet (mC (.bl false))) mSkip)
  (mRet (mAndV (mOp gtD (mOp ixD (mVar 0) (mC (.int 1))) (mC (.int 0))) (mOp eqD (mFn 2 f_p_common (mCons (mOp ixD (mVar 0) (mC (.int 0))) (mCons (mOp ixD (mVar 0) (mC (.int 1))) mNil))) (mC (.int 1))))))
def f_p_is_ratio : Fn := mDef 1 m_p_is_ratio
def m_p_are_fractions : Sm := (mRet (mAndV (mCall (isAD tabT) (mCons (mVar 0) (mCons (mC (.ty "tuple")) mNil))) (mAndV (mOp eqD (mCall lenD (mCons (mVar 0) mNil)) (mVar 1)) (mCall allD (mCons (mFr (mComp (mItems (mVar 0)) [2] (.nm 2) mYes (mFn 1 f_p_is_ratio (mCons (mVar 2) mNil)))) mNil)))))
def f_p_are_fractions : Fn := mDef 3 m_p_are_fractions
def m_c_Frame_degree : Sm := (mRet (mOp ixD (mUn (fldD fldT "parts") (mVar 0)) (mC (.int 0))))
def f_c_Frame_degree : Fn := mDef 1 m_c_Frame_degree
def m_c_Frame_knots : Sm := (mRet (mOp ixD (mUn (fldD fldT "parts") (mVar 0)) (mC (.int 1))))
def f_c_Frame_knots : Fn := mDef 1 m_c_Frame_knots
def m_p_hill_at (rec : Fn) : Sm := (mSeq (mUnp (.tp [(.nm 4), (.nm 5)]) (mVar 3))
  (mSeq (mIfS (mB (mOp eqD (mVar 2) (mC (.int 0)))) (mSeq (mPar2 6 7 (mCons (mOp mulD (mOp ixD (mVar 0) (mVar 1)) (mVar 5)) (mCons (mOp mulD (mOp ixD (mVar 0) (mOp addD (mVar 1) (mC (.int 1)))) (mVar 5)) mNil)))
  (mSeq (mSet 8 (mIf (mB (mOp eqD (mVar 4) (mOp mulD (mOp ixD (mVar 0) (mUn negD (mC (.int 1)))) (mVar 5)))) (mChain ltD leD (mVar 6) (mVar 4) (mVar 7)) (mChain leD ltD (mVar 6) (mVar 4) (mVar 7))))
  (mRet (mIf (mB (mVar 8)) (mC (.tup (([1, 1] : List Int).map .int))) (mC (.tup (([0, 1] : List Int).map .int))))))) mSkip)
  (mSeq (mPar2 9 10 (mCons (mC (.tup (([0, 1] : List Int).map .int))) (mCons (mOp subD (mOp ixD (mVar 0) (mOp addD (mVar 1) (mVar 2))) (mOp ixD (mVar 0) (mVar 1))) mNil)))
  (mSeq (mIfS (mB (mOp gtD (mVar 10) (mC (.int 0)))) (mSeq (mSet 11 (mFn 2 f_p_ratio (mCons (mOp subD (mVar 4) (mOp mulD (mOp ixD (mVar 0) (mVar 1)) (mVar 5))) (mCons (mOp mulD (mVar 10) (mVar 5)) mNil))))
  (mSet 9 (mFn 2 f_p_times (mCons (mVar 11) (mCons (mFn 4 rec (mCons (mVar 0) (mCons (mVar 1) (mCons (mOp subD (mVar 2) (mC (.int 1))) (mCons (mVar 3) mNil))))) mNil))))) mSkip)
  (mSeq (mSet 12 (mOp subD (mOp ixD (mVar 0) (mOp addD (mOp addD (mVar 1) (mVar 2)) (mC (.int 1)))) (mOp ixD (mVar 0) (mOp addD (mVar 1) (mC (.int 1))))))
  (mSeq (mIfS (mB (mOp gtD (mVar 12) (mC (.int 0)))) (mSeq (mSet 11 (mFn 2 f_p_ratio (mCons (mOp subD (mOp mulD (mOp ixD (mVar 0) (mOp addD (mOp addD (mVar 1) (mVar 2)) (mC (.int 1)))) (mVar 5)) (mVar 4)) (mCons (mOp mulD (mVar 12) (mVar 5)) mNil))))
  (mSet 9 (mFn 2 f_p_plus (mCons (mVar 9) (mCons (mFn 2 f_p_times (mCons (mVar 11) (mCons (mFn 4 rec (mCons (mVar 0) (mCons (mOp addD (mVar 1) (mC (.int 1))) (mCons (mOp subD (mVar 2) (mC (.int 1))) (mCons (mVar 3) mNil))))) mNil))) mNil))))) mSkip)
  (mRet (mVar 9))))))))
def f_p_hill_at : Nat → Fn
  | 0 => fnBad
  | n + 1 => mDef 13 (m_p_hill_at (f_p_hill_at n))
def m_p_hills_at : Sm := (mRet (mFr (mComp (mRange1 (mCons (mProp "Frame" f_c_Frame_hills (mVar 0)) mNil)) [2] (.nm 2) mYes (mFn 4 (f_p_hill_at 8) (mCons (mProp "Frame" f_c_Frame_knots (mVar 0)) (mCons (mVar 2) (mCons (mProp "Frame" f_c_Frame_degree (mVar 0)) (mCons (mVar 1) mNil))))))))
def f_p_hills_at : Fn := mDef 3 m_p_hills_at
def m_p_rows_at : Sm := (mRet (mFr (mComp (mItems (mVar 1)) [2] (.nm 2) mYes (mFn 2 f_p_hills_at (mCons (mVar 0) (mCons (mFn 2 f_p_ratio (mCons (mVar 2) (mCons (mC (.int 1)) mNil))) mNil))))))
def f_p_rows_at : Fn := mDef 3 m_p_rows_at
def m_p_shows_through : Sm := (mSeq (mIfS (mNot (mB (mFn 2 f_p_are_fractions (mCons (mVar 3) (mCons (mProp "Frame" f_c_Frame_hills (mVar 0)) mNil))))) (mRet (mC (.bl false))) mSkip)
  (mSeq (mSet 4 (mFn 2 f_p_rows_at (mCons (mVar 0) (mCons (mVar 1) mNil))))
  (mRet (mCall allD (mCons (mFr (mComp (mZip (mCons (mVar 4) (mCons (mVar 2) mNil))) [5, 6] (.tp [(.nm 5), (.nm 6)]) mYes (mOp eqD (mFn 2 f_p_joined (mCons (mVar 3) (mCons (mVar 5) mNil))) (mFn 2 f_p_ratio (mCons (mVar 6) (mCons (mC (.int 1)) mNil)))))) mNil)))))
def f_p_shows_through : Fn := mDef 7 m_p_shows_through
def m_p_are_weights : Sm := (mSeq (mIfS (mOr (mNot (mB (mCall (isAD tabT) (mCons (mVar 0) (mCons (mC (.ty "tuple")) mNil))))) (mOr (mB (mOp neD (mCall lenD (mCons (mVar 0) mNil)) (mVar 1))) (mNot (mB (mCall allD (mCons (mFr (mComp (mItems (mVar 0)) [2] (.nm 2) mYes (mFn 1 f_p_is_integer (mCons (mVar 2) mNil)))) mNil)))))) (mRet (mC (.bl false))) mSkip)
  (mRet (mCall anyD (mCons (mFr (mComp (mItems (mVar 0)) [2] (.nm 2) mYes (mOp neD (mVar 2) (mC (.int 0))))) mNil))))
def f_p_are_weights : Fn := mDef 3 m_p_are_weights
def m_p_weighed : Sm := (mRet (mFn 2 f_p_joined (mCons (mFr (mComp (mItems (mVar 0)) [2] (.nm 2) mYes (mFn 2 f_p_ratio (mCons (mVar 2) (mCons (mC (.int 1)) mNil))))) (mCons (mVar 1) mNil))))
def f_p_weighed : Fn := mDef 3 m_p_weighed
def m_p_are_silent : Sm := (mRet (mCall allD (mCons (mFr (mComp (mRange1 (mCons (mVar 2) mNil)) [3] (.nm 3) mYes (mOp eqD (mFn 2 f_p_weighed (mCons (mVar 0) (mCons (mFr (mComp (mItems (mVar 1)) [4] (.nm 4) mYes (mOp ixD (mVar 4) (mVar 3)))) mNil))) (mC (.tup (([0, 1] : List Int).map .int)))))) mNil)))
def f_p_are_silent : Fn := mDef 5 m_p_are_silent
def m_p_shows_never : Sm := (mSeq (mIfS (mOr (mNot (mB (mFn 2 f_p_are_weights (mCons (mVar 3) (mCons (mCall lenD (mCons (mVar 1) mNil)) mNil))))) (mNot (mB (mFn 3 f_p_are_silent (mCons (mVar 3) (mCons (mFn 2 f_p_rows_at (mCons (mVar 0) (mCons (mVar 1) mNil))) (mCons (mProp "Frame" f_c_Frame_hills (mVar 0)) mNil))))))) (mRet (mC (.bl false))) mSkip)
  (mRet (mOp neD (mCall sumA (mCons (mFr (mComp (mZip (mCons (mVar 3) (mCons (mVar 2) mNil))) [4, 5] (.tp [(.nm 4), (.nm 5)]) mYes (mOp mulD (mVar 4) (mVar 5)))) mNil)) (mC (.int 0)))))
def f_p_shows_never : Fn := mDef 6 m_p_shows_never
def m_p_is_pair : Sm := (mSeq (mIfS (mOr (mNot (mB (mCall (isAD tabT) (mCons (mVar 0) (mCons (mC (.ty "tuple")) mNil))))) (mB (mOp neD (mCall lenD (mCons (mVar 0) mNil)) (mC (.int 2))))) (mRet (mC (.bl false))) mSkip)
  (mRet (mAndV (mFn 3 f_p_is_between (mCons (mOp ixD (mVar 0) (mC (.int 0))) (mCons (mC (.int 0)) (mCons (mOp subD (mVar 1) (mC (.int 1))) mNil)))) (mFn 3 f_p_is_between (mCons (mOp ixD (mVar 0) (mC (.int 1))) (mCons (mC (.int 0)) (mCons (mOp subD (mVar 2) (mC (.int 1))) mNil)))))))
def f_p_is_pair : Fn := mDef 3 m_p_is_pair
def m_p_shows_rank : Sm := (mSeq (mIfS (mOr (mNot (mB (mCall (isAD tabT) (mCons (mVar 3) (mCons (mC (.ty "tuple")) mNil))))) (mB (mOp neD (mCall lenD (mCons (mVar 3) mNil)) (mVar 2)))) (mRet (mC (.bl false))) mSkip)
  (mSeq (mIfS (mNot (mB (mCall allD (mCons (mFr (mComp (mItems (mVar 3)) [5] (.nm 5) mYes (mFn 3 f_p_is_pair (mCons (mVar 5) (mCons (mProp "Frame" f_c_Frame_hills (mVar 0)) (mCons (mCall lenD (mCons (mVar 1) mNil)) mNil)))))) mNil)))) (mRet (mC (.bl false))) mSkip)
  (mSeq (mIfS (mNot (mB (mCall allD (mCons (mFr (mComp (mZip (mCons (mVar 3) (mCons (mSlice sliceD (mVar 3) (mPart (mC (.int 1))) mNoPart) mNil))) [6, 7] (.tp [(.nm 6), (.nm 7)]) mYes (mAndV (mOp ltD (mOp ixD (mVar 6) (mC (.int 0))) (mOp ixD (mVar 7) (mC (.int 0)))) (mOp ltD (mOp ixD (mVar 6) (mC (.int 1))) (mOp ixD (mVar 7) (mC (.int 1))))))) mNil)))) (mRet (mC (.bl false))) mSkip)
  (mSeq (mSet 4 (mFn 2 f_p_rows_at (mCons (mVar 0) (mCons (mVar 1) mNil))))
  (mRet (mCall allD (mCons (mFr (mComp (mItems (mVar 3)) [8, 9] (.tp [(.nm 8), (.nm 9)]) mYes (mOp neD (mOp ixD (mOp ixD (mVar 4) (mVar 9)) (mVar 8)) (mC (.tup (([0, 1] : List Int).map .int)))))) mNil)))))))
def f_p_shows_rank : Fn := mDef 10 m_p_shows_rank
def m_p_are_in_steps : Sm := (mSeq (mFor (mEnum (mCons (mVar 0) mNil)) (.tp [(.nm 1), (.nm 2)]) (mSeq (mSet 3 (mSlice sliceD (mVar 0) (mPart (mOp addD (mVar 1) (mC (.int 1)))) mNoPart))
  (mIfS (mNot (mB (mCall anyD (mCons (mFr (mComp (mEnum (mCons (mVar 2) mNil)) [4, 5] (.tp [(.nm 4), (.nm 5)]) mYes (mAndV (mOp neD (mVar 5) (mC (.int 0))) (mCall allD (mCons (mFr (mComp (mItems (mVar 3)) [6] (.nm 6) mYes (mOp eqD (mOp ixD (mVar 6) (mVar 4)) (mC (.int 0))))) mNil))))) mNil)))) (mRet (mC (.bl false))) mSkip)))
  (mRet (mC (.bl true))))
def f_p_are_in_steps : Fn := mDef 7 m_p_are_in_steps
def m_p_shows_below : Sm := (mSeq (mIfS (mOr (mNot (mB (mCall (isAD tabT) (mCons (mVar 3) (mCons (mC (.ty "tuple")) mNil))))) (mB (mOp neD (mCall lenD (mCons (mVar 3) mNil)) (mCall maxD (mCons (mC (.int 0)) (mCons (mOp subD (mCall lenD (mCons (mVar 1) mNil)) (mVar 2)) mNil)))))) (mRet (mC (.bl false))) mSkip)
  (mSeq (mIfS (mOr (mNot (mB (mCall allD (mCons (mFr (mComp (mItems (mVar 3)) [5] (.nm 5) mYes (mFn 2 f_p_are_weights (mCons (mVar 5) (mCons (mCall lenD (mCons (mVar 1) mNil)) mNil))))) mNil)))) (mNot (mB (mFn 1 f_p_are_in_steps (mCons (mVar 3) mNil))))) (mRet (mC (.bl false))) mSkip)
  (mSeq (mSet 4 (mFn 2 f_p_rows_at (mCons (mVar 0) (mCons (mVar 1) mNil))))
  (mRet (mCall allD (mCons (mFr (mComp (mItems (mVar 3)) [5] (.nm 5) mYes (mFn 3 f_p_are_silent (mCons (mVar 5) (mCons (mVar 4) (mCons (mProp "Frame" f_c_Frame_hills (mVar 0)) mNil)))))) mNil))))))
def f_p_shows_below : Fn := mDef 6 m_p_shows_below
def m_p_is_less : Sm := (mRet (mOp ltD (mOp mulD (mOp ixD (mVar 0) (mC (.int 0))) (mOp ixD (mVar 1) (mC (.int 1)))) (mOp mulD (mOp ixD (mVar 1) (mC (.int 0))) (mOp ixD (mVar 0) (mC (.int 1))))))
def f_p_is_less : Fn := mDef 2 m_p_is_less
def m_p_are_ascending : Sm := (mRet (mCall allD (mCons (mFr (mComp (mZip (mCons (mVar 0) (mCons (mSlice sliceD (mVar 0) (mPart (mC (.int 1))) mNoPart) mNil))) [1, 2] (.tp [(.nm 1), (.nm 2)]) mYes (mFn 2 f_p_is_less (mCons (mVar 1) (mCons (mVar 2) mNil))))) mNil)))
def f_p_are_ascending : Fn := mDef 3 m_p_are_ascending
def m_p_shows_turns : Sm := (mSeq (mIfS (mOr (mNot (mB (mFn 2 f_p_are_fractions (mCons (mVar 1) (mCons (mProp "Frame" f_c_Frame_hills (mVar 0)) mNil))))) (mOr (mNot (mB (mFn 1 f_p_is_count (mCons (mVar 2) mNil)))) (mNot (mB (mFn 2 f_p_are_fractions (mCons (mVar 3) (mCons (mVar 2) mNil))))))) (mRet (mC (.bl false))) mSkip)
  (mSeq (mSet 4 (mFr (mComp (mItems (mVar 3)) [5] (.nm 5) mYes (mOp ixD (mFn 2 f_p_joined (mCons (mVar 1) (mCons (mFn 2 f_p_hills_at (mCons (mVar 0) (mCons (mVar 5) mNil))) mNil))) (mC (.int 0))))))
  (mSeq (mIfS (mOr (mB (mCall anyD (mCons (mFr (mComp (mItems (mVar 4)) [6] (.nm 6) mYes (mOp eqD (mVar 6) (mC (.int 0))))) mNil))) (mNot (mB (mFn 1 f_p_are_ascending (mCons (mVar 3) mNil))))) (mRet (mC (.bl false))) mSkip)
  (mRet (mCall allD (mCons (mFr (mComp (mZip (mCons (mVar 4) (mCons (mSlice sliceD (mVar 4) (mPart (mC (.int 1))) mNoPart) mNil))) [7, 8] (.tp [(.nm 7), (.nm 8)]) mYes (mOp neD (mOp gtD (mVar 7) (mC (.int 0))) (mOp gtD (mVar 8) (mC (.int 0)))))) mNil))))))
def f_p_shows_turns : Fn := mDef 9 m_p_shows_turns
def m_p_accepts : Sm := (mSeq (mIfS (mOr (mNot (mB (mCall (isAD tabT) (mCons (mVar 0) (mCons (mC (.ty "tuple")) mNil))))) (mOr (mB (mOp neD (mCall lenD (mCons (mVar 0) mNil)) (mC (.int 4)))) (mNot (mB (mCall (isAD tabT) (mCons (mOp ixD (mVar 0) (mC (.int 0))) (mCons (mC (.ty "str")) mNil))))))) (mRet (mC (.bl false))) mSkip)
  (mSeq (mUnp (.tp [(.nm 2), (.nm 3), (.nm 4), (.nm 5)]) (mVar 0))
  (mSeq (mSet 6 (mFn 1 f_p_frame_in (mCons (mVar 3) mNil)))
  (mSeq (mIfS (mB (mOp (isN false) (mVar 6) (mC .non))) (mRet (mC (.bl false))) mSkip)
  (mSeq (mIfS (mB (mOp eqD (mVar 2) (mC (.str "turns")))) (mRet (mFn 4 f_p_shows_turns (mCons (mVar 6) (mCons (mVar 4) (mCons (mVar 5) (mCons (mVar 1) mNil)))))) mSkip)
  (mSeq (mIfS (mB (mOp neD (mFn 1 f_p_places_fault (mCons (mVar 4) mNil)) (mUn negD (mC (.int 1))))) (mRet (mC (.bl false))) mSkip)
  (mSeq (mIfS (mOr (mB (mOp eqD (mVar 2) (mC (.str "rank")))) (mB (mOp eqD (mVar 2) (mC (.str "below"))))) (mSeq (mIfS (mNot (mB (mFn 1 f_p_is_count (mCons (mVar 5) mNil)))) (mRet (mC (.bl false))) mSkip)
  (mRet (mIf (mB (mOp eqD (mVar 2) (mC (.str "rank")))) (mFn 4 f_p_shows_rank (mCons (mVar 6) (mCons (mVar 4) (mCons (mVar 5) (mCons (mVar 1) mNil))))) (mFn 4 f_p_shows_below (mCons (mVar 6) (mCons (mVar 4) (mCons (mVar 5) (mCons (mVar 1) mNil)))))))) mSkip)
  (mSeq (mIfS (mOr (mB (mOp (inD true) (mVar 2) (mTup (mCons (mC (.str "through")) (mCons (mC (.str "never")) mNil))))) (mB (mOp neD (mFn 2 f_p_heights_fault (mCons (mVar 5) (mCons (mCall lenD (mCons (mVar 4) mNil)) mNil))) (mUn negD (mC (.int 1)))))) (mRet (mC (.bl false))) mSkip)
  (mRet (mIf (mB (mOp eqD (mVar 2) (mC (.str "through")))) (mFn 4 f_p_shows_through (mCons (mVar 6) (mCons (mVar 4) (mCons (mVar 5) (mCons (mVar 1) mNil))))) (mFn 4 f_p_shows_never (mCons (mVar 6) (mCons (mVar 4) (mCons (mVar 5) (mCons (mVar 1) mNil)))))))))))))))
def f_p_accepts : Fn := mDef 7 m_p_accepts
def m_l_draw : Sm := (mSeq (mIfS (mB (mOp gtD (mOp ixD (mVar 0) (mC (.int 0))) (mC (.int 0)))) (mSeq (mAsg (mCall divmodD (mCons (mOp ixD (mVar 0) (mC (.int 0))) (mCons (mVar 1) mNil))) (gTup' (gCons' (gSubC (mVar 0) (mC (.int 0))) (gCons' (gName' 2) gNil'))))
  (mRet (mVar 2))) mSkip)
  (mSeq (mAsg (mOp modD (mCall toIntD (mCons (mOp addD (mOp mulD (mOp ixD (mVar 0) (mC (.int 1))) (mC (.int 48889))) (mC (.int 12289))) mNil)) (mC (.int 2147483423))) (gSubC (mVar 0) (mC (.int 1))))
  (mRet (mOp modD (mCall toIntD (mCons (mOp divD (mOp ixD (mVar 0) (mC (.int 1))) (mC (.int 1021))) mNil)) (mVar 1)))))
def f_l_draw : Fn := mDef 3 m_l_draw
def m_l_one : Sm := (mRet (mOp ixD (mVar 1) (mFn 2 f_l_draw (mCons (mVar 0) (mCons (mCall lenD (mCons (mVar 1) mNil)) mNil)))))
def f_l_one : Fn := mDef 2 m_l_one
def m_l_bank : Sm := (mSeq (mUnp (.tp [(.nm 0), (.nm 1)]) (mTup (mCons (mC (.str "degree 1 knots 0 2 4 6")) (mCons (mC (.str "degree 2 knots 0 0 0 4 4 4")) mNil))))
  (mSeq (mSetO 2 (mLst (mCons (mFr (mLst (mCons (mTup (mCons (mC (.str "through")) (mCons (mVar 0) (mCons (mTup (mCons (mC (.int 1)) (mCons (mC (.int 5)) mNil))) (mCons (mTup (mCons (mC (.int 3)) (mCons (mC (.int 1)) mNil))) mNil))))) (mCons (mTup (mCons (mTup (mCons (mC (.int 6)) (mCons (mC (.int 1)) mNil))) (mCons (mTup (mCons (mC (.int 2)) (mCons (mC (.int 1)) mNil))) mNil))) mNil)))) (mCons (mFr (mLst (mCons (mTup (mCons (mC (.str "never")) (mCons (mVar 0) (mCons (mTup (mCons (mC (.int 1)) (mCons (mC (.int 2)) mNil))) (mCons (mTup (mCons (mC (.int 1)) (mCons (mC (.int 1)) mNil))) mNil))))) (mCons (mTup (mCons (mC (.int 2)) (mCons (mUn negD (mC (.int 1))) mNil))) mNil)))) mNil))))
  (mSeq (mApp 2 (mFr (mLst (mCons (mTup (mCons (mC (.str "through")) (mCons (mVar 1) (mCons (mTup (mCons (mC (.int 2)) mNil)) (mCons (mTup (mCons (mC (.int 0)) mNil)) mNil))))) (mCons (mTup (mCons (mTup (mCons (mC (.int 0)) (mCons (mC (.int 1)) mNil))) (mCons (mTup (mCons (mC (.int 0)) (mCons (mC (.int 1)) mNil))) (mCons (mTup (mCons (mC (.int 0)) (mCons (mC (.int 1)) mNil))) mNil)))) mNil)))))
  (mSeq (mApp 2 (mFr (mLst (mCons (mTup (mCons (mC (.str "never")) (mCons (mVar 0) (mCons (mTup (mCons (mC (.int 6)) (mCons (mC (.int 7)) mNil))) (mCons (mTup (mCons (mC (.int 0)) (mCons (mUn negD (mC (.int 1))) mNil))) mNil))))) (mCons (mTup (mCons (mC (.int 5)) (mCons (mC (.int 1)) mNil))) mNil)))))
  (mSeq (mFz 2 (mSetO 2 (mCatO (mVar 2) (mFr (mLst (mCons (mFr (mLst (mCons (mTup (mCons (mC (.str "rank")) (mCons (mVar 0) (mCons (mTup (mCons (mC (.int 1)) (mCons (mC (.int 5)) mNil))) (mCons (mC (.int 2)) mNil))))) (mCons (mTup (mCons (mTup (mCons (mC (.int 0)) (mCons (mC (.int 0)) mNil))) (mCons (mTup (mCons (mC (.int 1)) (mCons (mC (.int 1)) mNil))) mNil))) mNil)))) (mCons (mFr (mLst (mCons (mTup (mCons (mC (.str "rank")) (mCons (mVar 0) (mCons (mTup (mCons (mC (.int 3)) mNil)) (mCons (mC (.int 0)) mNil))))) (mCons (mTup mNil) mNil)))) mNil)))))))
  (mSeq (mApp 2 (mFr (mLst (mCons (mTup (mCons (mC (.str "rank")) (mCons (mVar 1) (mCons (mTup (mCons (mC (.int 0)) (mCons (mC (.int 1)) (mCons (mC (.int 4)) mNil)))) (mCons (mC (.int 3)) mNil))))) (mCons (mTup (mCons (mTup (mCons (mC (.int 0)) (mCons (mC (.int 0)) mNil))) (mCons (mTup (mCons (mC (.int 1)) (mCons (mC (.int 1)) mNil))) (mCons (mTup (mCons (mC (.int 2)) (mCons (mC (.int 2)) mNil))) mNil)))) mNil)))))
  (mSeq (mFz 2 (mSetO 2 (mCatO (mVar 2) (mFr (mLst (mCons (mFr (mLst (mCons (mTup (mCons (mC (.str "below")) (mCons (mVar 0) (mCons (mTup (mCons (mC (.int 1)) (mCons (mC (.int 2)) mNil))) (mCons (mC (.int 1)) mNil))))) (mCons (mTup (mCons (mTup (mCons (mC (.int 2)) (mCons (mUn negD (mC (.int 1))) mNil))) mNil)) mNil)))) (mCons (mFr (mLst (mCons (mTup (mCons (mC (.str "below")) (mCons (mVar 0) (mCons (mTup (mCons (mC (.int 1)) (mCons (mC (.int 5)) mNil))) (mCons (mC (.int 2)) mNil))))) (mCons (mTup mNil) mNil)))) mNil)))))))
  (mSeq (mApp 2 (mFr (mLst (mCons (mTup (mCons (mC (.str "below")) (mCons (mVar 0) (mCons (mTup (mCons (mC (.int 6)) (mCons (mC (.int 7)) mNil))) (mCons (mC (.int 0)) mNil))))) (mCons (mTup (mCons (mTup (mCons (mC (.int 1)) (mCons (mC (.int 0)) mNil))) (mCons (mTup (mCons (mC (.int 0)) (mCons (mC (.int 1)) mNil))) mNil))) mNil)))))
  (mSeq (mApp 2 (mFr (mLst (mCons (mTup (mCons (mC (.str "turns")) (mCons (mVar 1) (mCons (mTup (mCons (mTup (mCons (mC (.int 1)) (mCons (mC (.int 1)) mNil))) (mCons (mTup (mCons (mUn negD (mC (.int 2))) (mCons (mC (.int 1)) mNil))) (mCons (mTup (mCons (mC (.int 1)) (mCons (mC (.int 1)) mNil))) mNil)))) (mCons (mC (.int 3)) mNil))))) (mCons (mTup (mCons (mTup (mCons (mC (.int 0)) (mCons (mC (.int 1)) mNil))) (mCons (mTup (mCons (mC (.int 2)) (mCons (mC (.int 1)) mNil))) (mCons (mTup (mCons (mC (.int 4)) (mCons (mC (.int 1)) mNil))) mNil)))) mNil)))))
  (mFz 2 (mRet (mOp addD (mVar 2) (mFr (mLst (mCons (mFr (mLst (mCons (mTup (mCons (mC (.str "turns")) (mCons (mVar 0) (mCons (mTup (mCons (mTup (mCons (mC (.int 0)) (mCons (mC (.int 1)) mNil))) (mCons (mTup (mCons (mC (.int 0)) (mCons (mC (.int 1)) mNil))) mNil))) (mCons (mC (.int 0)) mNil))))) (mCons (mTup mNil) mNil)))) mNil)))))))))))))))
def f_l_bank : Fn := mDef 3 m_l_bank
def m_l_words : Sm := (mRet (mFr (mLst (mCons (mC (.str "Through")) (mCons (mC (.str "")) (mCons (mC (.str "none")) (mCons (mC (.str "through ")) (mCons (mC (.str "ranks")) (mCons (mC .non) (mCons (mC (.int 0)) (mCons (mTup (mCons (mC (.str "rank")) mNil)) (mCons (mFr (mLst (mCons (mC (.str "rank")) mNil))) (mCons (mC (.bl true)) (mCons (mC (.str "all")) (mCons (mC (.str "one")) (mCons (mC (.str "within")) mNil))))))))))))))))
def f_l_words : Fn := mDef 0 m_l_words
def m_l_texts : Sm := (mSeq (mSet 1 (mFr (mLst (mCons (mOp addD (mVar 0) (mC (.str " "))) (mCons (mOp addD (mC (.str " ")) (mVar 0)) (mCons (mRepl " " "  " (mVar 0)) (mCons (mRepl "degree" "Degree" (mVar 0)) (mCons (mOp addD (mVar 0) (mC (.str " 1"))) (mCons (mOp addD (mVar 0) (mC (.str " 06"))) mNil)))))))))
  (mSeq (mSet 1 (mOp addD (mVar 1) (mFr (mLst (mCons (mC (.str "")) (mCons (mC (.str "degree")) (mCons (mC (.str "degree 1 knots")) (mCons (mC (.str "degree 1 knots 0 2")) (mCons (mC (.str "degree 5 knots 0 1 2 3 4 5 6")) (mCons (mC .non) (mCons (mC (.int 0)) mNil)))))))))))
  (mSeq (mSet 1 (mOp addD (mVar 1) (mFr (mLst (mCons (mC (.str "degree 1 knots 0 0 0")) (mCons (mC (.str "degree 1 knots 0 1000001 1000002")) (mCons (mC (.str "degree 0 knots -1 1")) (mCons (mOp addD (mVar 0) (mC (.str "."))) (mCons (mC (.dct [] [])) mNil)))))))))
  (mSeq (mSet 1 (mOp addD (mVar 1) (mFr (mLst (mCons (mC (.str "degree 0 knots 0 1 2 3 4 5 6 7 8 9 10 11")) (mCons (mC (.str "degree 1, knots 0 2 4 6")) (mCons (mC (.str "knots 0 2 4 6")) (mCons (mFr (mLst (mCons (mVar 0) mNil))) mNil))))))))
  (mRet (mOp addD (mVar 1) (mFr (mLst (mCons (mCMeth "Frame" 2 f_c_Frame_read (mCons (mVar 0) mNil)) (mCons (mTup (mCons (mVar 0) mNil)) (mCons (mOp addD (mC (.str "degree 1 knots 0 2 4 0")) (mOp mulS (mC (.str "6")) (mC (.int 50)))) (mCons (mOp addD (mVar 0) (mC (.str "\n"))) (mCons (mC (.bl true)) (mCons (mC (.str "degree 01 knots 0 1 2")) mNil))))))))))))))
def f_l_texts : Fn := mDef 2 m_l_texts
def m_l_thirds : Sm := (mSeq (mIfS (mB (mOp eqD (mVar 0) (mC (.str "turns")))) (mSeq (mSet 2 (mFr (mLst (mCons (mSlice sliceD (mVar 1) (mPart (mC (.int 1))) mNoPart) (mCons (mOp addD (mVar 1) (mTup (mCons (mTup (mCons (mC (.int 0)) (mCons (mC (.int 1)) mNil))) mNil))) (mCons (mCall listD (mCons (mVar 1) mNil)) (mCons (mC .non) (mCons (mTup mNil) (mCons (mC (.int 0)) (mCons (mCall tupleD (mCons (mFr (mComp (mItems (mVar 1)) [3] (.nm 3) mYes (mC (.int 1)))) mNil)) (mCons (mTup (mCons (mVar 1) mNil)) mNil)))))))))))
  (mRet (mOp addD (mVar 2) (mFr (mComp (mItems (mFr (mLst (mCons (mTup (mCons (mC (.int 0)) (mCons (mC (.int 2)) mNil))) (mCons (mTup (mCons (mC (.int 1)) (mCons (mC (.int 0)) mNil))) (mCons (mTup (mCons (mC (.int 1)) (mCons (mUn negD (mC (.int 1))) mNil))) (mCons (mTup (mCons (mC (.int 2)) (mCons (mC (.int 2)) mNil))) (mCons (mFr (mLst (mCons (mC (.int 1)) (mCons (mC (.int 1)) mNil)))) (mCons (mTup (mCons (mC (.bl true)) (mCons (mC (.int 1)) mNil))) (mCons (mTup (mCons (mC (.int 1)) mNil)) (mCons (mC .non) mNil))))))))))) [4] (.nm 4) mYes (mOp addD (mSlice sliceD (mVar 1) (mPart (mC (.int 1))) mNoPart) (mTup (mCons (mVar 4) mNil)))))))) mSkip)
  (mSeq (mSet 2 (mFr (mLst (mCons (mTup mNil) (mCons (mCall listD (mCons (mVar 1) mNil)) (mCons (mC .non) (mCons (mC (.int 0)) (mCons (mOp addD (mSlice sliceD (mVar 1) mNoPart (mPart (mUn negD (mC (.int 1))))) (mTup (mCons (mUn negD (mC (.int 1))) mNil))) (mCons (mOp addD (mSlice sliceD (mVar 1) mNoPart (mPart (mUn negD (mC (.int 1))))) (mTup (mCons (mOp addD (mOp powD (mC (.int 10)) (mC (.int 6))) (mC (.int 1))) mNil))) (mCons (mOp addD (mVar 1) (mSlice sliceD (mVar 1) (mPart (mUn negD (mC (.int 1)))) mNoPart)) (mCons (mC (.dct [] [])) (mCons (mTup (mCons (mVar 1) mNil)) mNil))))))))))))
  (mRet (mOp addD (mVar 2) (mFr (mLst (mCons (mOp addD (mTup (mCons (mOp powD (mC (.int 10)) (mC (.int 6))) mNil)) (mVar 1)) (mCons (mOp addD (mVar 1) (mTup (mCons (mC (.bl true)) mNil))) (mCons (mOp addD (mVar 1) (mTup (mCons (mC (.str "9")) mNil))) (mCons (mOp addD (mTup (mCons (mC .non) mNil)) (mVar 1)) (mCons (mTupRg (mC (.int 13))) (mCons (mTup (mCons (mC (.bl true)) mNil)) mNil))))))))))))
def f_l_thirds : Fn := mDef 5 m_l_thirds
def m_l_fourths : Sm := (mSeq (mIfS (mB (mOp (inD false) (mVar 0) (mFr (mLst (mCons (mC (.str "rank")) (mCons (mC (.str "below")) (mCons (mC (.str "turns")) mNil))))))) (mRet (mFr (mLst (mCons (mUn negD (mC (.int 1))) (mCons (mC (.bl true)) (mCons (mC (.bl false)) (mCons (mC .non) (mCons (mCall strD (mCons (mVar 1) mNil)) (mCons (mTup (mCons (mVar 1) mNil)) (mCons (mFr (mLst (mCons (mVar 1) mNil))) (mCons (mC (.str "")) (mCons (mC (.dct [] [])) (mCons (mTup mNil) mNil))))))))))))) mSkip)
  (mSeq (mSet 2 (mFr (mLst (mCons (mSlice sliceD (mVar 1) (mPart (mC (.int 1))) mNoPart) (mCons (mOp addD (mVar 1) (mTup (mCons (mC (.int 0)) mNil))) (mCons (mCall listD (mCons (mVar 1) mNil)) (mCons (mC .non) (mCons (mC (.int 0)) (mCons (mOp addD (mSlice sliceD (mVar 1) mNoPart (mPart (mUn negD (mC (.int 1))))) (mTup (mCons (mOp addD (mOp powD (mC (.int 10)) (mC (.int 20))) (mC (.int 1))) mNil))) (mCons (mTup mNil) (mCons (mC (.dct [] [])) (mCons (mTup (mCons (mVar 1) mNil)) mNil))))))))))))
  (mRet (mOp addD (mVar 2) (mFr (mComp (mItems (mFr (mLst (mCons (mOp subD (mUn negD (mOp powD (mC (.int 10)) (mC (.int 20)))) (mC (.int 1))) (mCons (mC (.bl true)) (mCons (mC (.bl false)) (mCons (mC .non) (mCons (mC (.str "0")) (mCons (mTup (mCons (mC (.int 1)) mNil)) (mCons (mTup (mCons (mC (.int 1)) (mCons (mC (.int 1)) mNil))) (mCons (mFr (mLst (mCons (mC (.int 0)) mNil))) mNil))))))))))) [3] (.nm 3) mYes (mOp addD (mSlice sliceD (mVar 1) mNoPart (mPart (mUn negD (mC (.int 1))))) (mTup (mCons (mVar 3) mNil)))))))))
def f_l_fourths : Fn := mDef 4 m_l_fourths
def m_l_none : Sm := (mSeq (mSet 2 (mFn 2 f_l_draw (mCons (mVar 0) (mCons (mC (.int 5)) mNil))))
  (mSeq (mIfS (mB (mOp eqD (mVar 2) (mC (.int 0)))) (mRet (mOp addD (mTup (mCons (mFn 2 f_l_one (mCons (mVar 0) (mCons (mFn 0 f_l_words mNil) mNil))) mNil)) (mSlice sliceD (mVar 1) (mPart (mC (.int 1))) mNoPart))) mSkip)
  (mSeq (mIfS (mB (mOp eqD (mVar 2) (mC (.int 1)))) (mRet (mOp addD (mOp addD (mSlice sliceD (mVar 1) mNoPart (mPart (mC (.int 1)))) (mTup (mCons (mFn 2 f_l_one (mCons (mVar 0) (mCons (mFn 1 f_l_texts (mCons (mOp ixD (mVar 1) (mC (.int 1))) mNil)) mNil))) mNil))) (mSlice sliceD (mVar 1) (mPart (mC (.int 2))) mNoPart))) mSkip)
  (mSeq (mIfS (mB (mOp eqD (mVar 2) (mC (.int 2)))) (mRet (mOp addD (mOp addD (mSlice sliceD (mVar 1) mNoPart (mPart (mC (.int 2)))) (mTup (mCons (mFn 2 f_l_one (mCons (mVar 0) (mCons (mFn 2 f_l_thirds (mCons (mOp ixD (mVar 1) (mC (.int 0))) (mCons (mOp ixD (mVar 1) (mC (.int 2))) mNil))) mNil))) mNil))) (mSlice sliceD (mVar 1) (mPart (mC (.int 3))) mNoPart))) mSkip)
  (mSeq (mIfS (mB (mOp eqD (mVar 2) (mC (.int 3)))) (mRet (mOp addD (mSlice sliceD (mVar 1) mNoPart (mPart (mC (.int 3)))) (mTup (mCons (mFn 2 f_l_one (mCons (mVar 0) (mCons (mFn 2 f_l_fourths (mCons (mOp ixD (mVar 1) (mC (.int 0))) (mCons (mOp ixD (mVar 1) (mC (.int 3))) mNil))) mNil))) mNil)))) mSkip)
  (mRet (mFn 2 f_l_one (mCons (mVar 0) (mCons (mFr (mLst (mCons (mSlice sliceD (mVar 1) mNoPart (mPart (mC (.int 3)))) (mCons (mOp addD (mVar 1) (mTup (mCons (mC (.int 0)) mNil))) (mCons (mCall listD (mCons (mVar 1) mNil)) (mCons (mTup (mCons (mVar 1) mNil)) (mCons (mSlice sliceD (mVar 1) (mPart (mC (.int 1))) mNoPart) (mCons (mC .non) (mCons (mOp ixD (mVar 1) (mC (.int 0))) (mCons (mC (.int 0)) (mCons (mC (.dct [] [])) (mCons (mOp addD (mVar 1) (mTup (mCons (mTup mNil) mNil))) (mCons (mTup mNil) mNil))))))))))))) mNil)))))))))
def f_l_none : Fn := mDef 3 m_l_none
def m_l_right : Sm := (mSeq (mSet 1 (mFn 0 f_l_bank mNil))
  (mSeq (mIfS (mB (mOp neL (mFr (mComp (mItems (mVar 1)) [7] (.nm 7) (mB (mOp (isT2 true) (mFn 2 f_p_accepts (mCons (mOp ixD (mVar 7) (mC (.int 0))) (mCons (mOp ixD (mVar 7) (mC (.int 1))) mNil))) (mC (.bl true)))) (mVar 7))) (mFr (mLst mNil)))) (mRet (mC (.bl false))) mSkip)
  (mSeq (mFor (mRange1 (mCons (mC (.int 10)) mNil)) (.nm 2) (mSeq (mUnp (.tp [(.nm 3), (.nm 4)]) (mFn 2 f_l_one (mCons (mVar 0) (mCons (mVar 1) mNil))))
  (mSeq (mSet 5 (mFn 2 f_l_none (mCons (mVar 0) (mCons (mVar 3) mNil))))
  (mSeq (mSet 6 (mFr (mLst (mCons (mFn 2 f_p_accepts (mCons (mVar 5) (mCons (mVar 4) mNil))) (mCons (mFnK 2 0 2 [1, 0] f_p_accepts mNil (mCons (mVar 4) (mCons (mVar 5) mNil))) (mCons (mFn 2 f_p_accepts (mCons (mVar 3) (mCons (mVar 4) mNil))) mNil))))))
  (mIfS (mB (mOp neD (mCall reprD (mCons (mVar 6) mNil)) (mCall reprD (mCons (mFr (mLst (mCons (mC (.bl false)) (mCons (mC (.bl false)) (mCons (mC (.bl true)) mNil))))) mNil)))) (mRet (mC (.bl false))) mSkip)))))
  (mRet (mC (.bl true))))))
def f_l_right : Fn := mDef 8 m_l_right
def m_p_law : Sm := (mRet (mCall allD (mCons (mFr (mComp (mRange1 (mCons (mCall maxD (mCons (mC (.int 2)) (mCons (mCall minD (mCons (mCall lenD (mCons (mVar 0) mNil)) (mCons (mC (.int 6)) mNil))) mNil))) mNil)) [1] (.nm 1) mYes (mFn 1 f_l_right (mCons (mFn 2 f_l_well (mCons (mVar 0) (mCons (mVar 1) mNil))) mNil)))) mNil)))
def f_p_law : Fn := mDef 2 m_p_law
structure Lf (K : PySem.W.Frag) (mg : Str → Option Value) where
  a_l_well : Addr
  d_l_well : FuncData
  F_l_well : Fun K "_law_well" "_law_well" s_l_well a_l_well d_l_well
  m_l_well : mg "_law_well" = some (.ref a_l_well)
  a_p_is_integer : Addr
  d_p_is_integer : FuncData
  F_p_is_integer : Fun K "is_integer" "is_integer" s_p_is_integer a_p_is_integer d_p_is_integer
  m_p_is_integer : mg "is_integer" = some (.ref a_p_is_integer)
  a_p_is_between : Addr
  d_p_is_between : FuncData
  F_p_is_between : Fun K "is_between" "is_between" s_p_is_between a_p_is_between d_p_is_between
  m_p_is_between : mg "is_between" = some (.ref a_p_is_between)
  a_p_is_place : Addr
  d_p_is_place : FuncData
  F_p_is_place : Fun K "is_place" "is_place" s_p_is_place a_p_is_place d_p_is_place
  m_p_is_place : mg "is_place" = some (.ref a_p_is_place)
  a_p_places_fault : Addr
  d_p_places_fault : FuncData
  F_p_places_fault : Fun K "places_fault" "places_fault" s_p_places_fault a_p_places_fault d_p_places_fault
  m_p_places_fault : mg "places_fault" = some (.ref a_p_places_fault)
  a_p_is_height : Addr
  d_p_is_height : FuncData
  F_p_is_height : Fun K "is_height" "is_height" s_p_is_height a_p_is_height d_p_is_height
  m_p_is_height : mg "is_height" = some (.ref a_p_is_height)
  a_p_heights_fault : Addr
  d_p_heights_fault : FuncData
  F_p_heights_fault : Fun K "heights_fault" "heights_fault" s_p_heights_fault a_p_heights_fault d_p_heights_fault
  m_p_heights_fault : mg "heights_fault" = some (.ref a_p_heights_fault)
  a_p_number_in : Addr
  d_p_number_in : FuncData
  F_p_number_in : Fun K "number_in" "number_in" s_p_number_in a_p_number_in d_p_number_in
  m_p_number_in : mg "number_in" = some (.ref a_p_number_in)
  a_p_knots_fault : Addr
  d_p_knots_fault : FuncData
  F_p_knots_fault : Fun K "knots_fault" "knots_fault" s_p_knots_fault a_p_knots_fault d_p_knots_fault
  m_p_knots_fault : mg "knots_fault" = some (.ref a_p_knots_fault)
  a_c_Frame___init__ : Addr
  d_c_Frame___init__ : FuncData
  F_c_Frame___init__ : Fun K "__init__" "Frame.__init__" s_c_Frame___init__ a_c_Frame___init__ d_c_Frame___init__
  a_c_Frame_read : Addr
  d_c_Frame_read : FuncData
  F_c_Frame_read : Fun K "read" "Frame.read" s_c_Frame_read a_c_Frame_read d_c_Frame_read
  a_p_frame_in : Addr
  d_p_frame_in : FuncData
  F_p_frame_in : Fun K "frame_in" "frame_in" s_p_frame_in a_p_frame_in d_p_frame_in
  m_p_frame_in : mg "frame_in" = some (.ref a_p_frame_in)
  a_p_is_count : Addr
  d_p_is_count : FuncData
  F_p_is_count : Fun K "is_count" "is_count" s_p_is_count a_p_is_count d_p_is_count
  m_p_is_count : mg "is_count" = some (.ref a_p_is_count)
  a_c_Frame_hills : Addr
  d_c_Frame_hills : FuncData
  F_c_Frame_hills : Fun K "hills" "Frame.hills" s_c_Frame_hills a_c_Frame_hills d_c_Frame_hills
  a_p_common : Addr
  d_p_common : FuncData
  F_p_common : Fun K "common" "common" s_p_common a_p_common d_p_common
  m_p_common : mg "common" = some (.ref a_p_common)
  a_p_ratio : Addr
  d_p_ratio : FuncData
  F_p_ratio : Fun K "ratio" "ratio" s_p_ratio a_p_ratio d_p_ratio
  m_p_ratio : mg "ratio" = some (.ref a_p_ratio)
  a_p_times : Addr
  d_p_times : FuncData
  F_p_times : Fun K "times" "times" s_p_times a_p_times d_p_times
  m_p_times : mg "times" = some (.ref a_p_times)
  a_p_plus : Addr
  d_p_plus : FuncData
  F_p_plus : Fun K "plus" "plus" s_p_plus a_p_plus d_p_plus
  m_p_plus : mg "plus" = some (.ref a_p_plus)
  a_p_total : Addr
  d_p_total : FuncData
  F_p_total : Fun K "total" "total" s_p_total a_p_total d_p_total
  m_p_total : mg "total" = some (.ref a_p_total)
  a_p_joined : Addr
  d_p_joined : FuncData
  F_p_joined : Fun K "joined" "joined" s_p_joined a_p_joined d_p_joined
  m_p_joined : mg "joined" = some (.ref a_p_joined)
  a_p_is_ratio : Addr
  d_p_is_ratio : FuncData
  F_p_is_ratio : Fun K "is_ratio" "is_ratio" s_p_is_ratio a_p_is_ratio d_p_is_ratio
  m_p_is_ratio : mg "is_ratio" = some (.ref a_p_is_ratio)
  a_p_are_fractions : Addr
  d_p_are_fractions : FuncData
  F_p_are_fractions : Fun K "are_fractions" "are_fractions" s_p_are_fractions a_p_are_fractions d_p_are_fractions
  m_p_are_fractions : mg "are_fractions" = some (.ref a_p_are_fractions)
  a_c_Frame_degree : Addr
  d_c_Frame_degree : FuncData
  F_c_Frame_degree : Fun K "degree" "Frame.degree" s_c_Frame_degree a_c_Frame_degree d_c_Frame_degree
  a_c_Frame_knots : Addr
  d_c_Frame_knots : FuncData
  F_c_Frame_knots : Fun K "knots" "Frame.knots" s_c_Frame_knots a_c_Frame_knots d_c_Frame_knots
  a_p_hill_at : Addr
  d_p_hill_at : FuncData
  F_p_hill_at : Fun K "hill_at" "hill_at" s_p_hill_at a_p_hill_at d_p_hill_at
  m_p_hill_at : mg "hill_at" = some (.ref a_p_hill_at)
  a_p_hills_at : Addr
  d_p_hills_at : FuncData
  F_p_hills_at : Fun K "hills_at" "hills_at" s_p_hills_at a_p_hills_at d_p_hills_at
  m_p_hills_at : mg "hills_at" = some (.ref a_p_hills_at)
  a_p_rows_at : Addr
  d_p_rows_at : FuncData
  F_p_rows_at : Fun K "rows_at" "rows_at" s_p_rows_at a_p_rows_at d_p_rows_at
  m_p_rows_at : mg "rows_at" = some (.ref a_p_rows_at)
  a_p_shows_through : Addr
  d_p_shows_through : FuncData
  F_p_shows_through : Fun K "shows_through" "shows_through" s_p_shows_through a_p_shows_through d_p_shows_through
  m_p_shows_through : mg "shows_through" = some (.ref a_p_shows_through)
  a_p_are_weights : Addr
  d_p_are_weights : FuncData
  F_p_are_weights : Fun K "are_weights" "are_weights" s_p_are_weights a_p_are_weights d_p_are_weights
  m_p_are_weights : mg "are_weights" = some (.ref a_p_are_weights)
  a_p_weighed : Addr
  d_p_weighed : FuncData
  F_p_weighed : Fun K "weighed" "weighed" s_p_weighed a_p_weighed d_p_weighed
  m_p_weighed : mg "weighed" = some (.ref a_p_weighed)
  a_p_are_silent : Addr
  d_p_are_silent : FuncData
  F_p_are_silent : Fun K "are_silent" "are_silent" s_p_are_silent a_p_are_silent d_p_are_silent
  m_p_are_silent : mg "are_silent" = some (.ref a_p_are_silent)
  a_p_shows_never : Addr
  d_p_shows_never : FuncData
  F_p_shows_never : Fun K "shows_never" "shows_never" s_p_shows_never a_p_shows_never d_p_shows_never
  m_p_shows_never : mg "shows_never" = some (.ref a_p_shows_never)
  a_p_is_pair : Addr
  d_p_is_pair : FuncData
  F_p_is_pair : Fun K "is_pair" "is_pair" s_p_is_pair a_p_is_pair d_p_is_pair
  m_p_is_pair : mg "is_pair" = some (.ref a_p_is_pair)
  a_p_shows_rank : Addr
  d_p_shows_rank : FuncData
  F_p_shows_rank : Fun K "shows_rank" "shows_rank" s_p_shows_rank a_p_shows_rank d_p_shows_rank
  m_p_shows_rank : mg "shows_rank" = some (.ref a_p_shows_rank)
  a_p_are_in_steps : Addr
  d_p_are_in_steps : FuncData
  F_p_are_in_steps : Fun K "are_in_steps" "are_in_steps" s_p_are_in_steps a_p_are_in_steps d_p_are_in_steps
  m_p_are_in_steps : mg "are_in_steps" = some (.ref a_p_are_in_steps)
  a_p_shows_below : Addr
  d_p_shows_below : FuncData
  F_p_shows_below : Fun K "shows_below" "shows_below" s_p_shows_below a_p_shows_below d_p_shows_below
  m_p_shows_below : mg "shows_below" = some (.ref a_p_shows_below)
  a_p_is_less : Addr
  d_p_is_less : FuncData
  F_p_is_less : Fun K "is_less" "is_less" s_p_is_less a_p_is_less d_p_is_less
  m_p_is_less : mg "is_less" = some (.ref a_p_is_less)
  a_p_are_ascending : Addr
  d_p_are_ascending : FuncData
  F_p_are_ascending : Fun K "are_ascending" "are_ascending" s_p_are_ascending a_p_are_ascending d_p_are_ascending
  m_p_are_ascending : mg "are_ascending" = some (.ref a_p_are_ascending)
  a_p_shows_turns : Addr
  d_p_shows_turns : FuncData
  F_p_shows_turns : Fun K "shows_turns" "shows_turns" s_p_shows_turns a_p_shows_turns d_p_shows_turns
  m_p_shows_turns : mg "shows_turns" = some (.ref a_p_shows_turns)
  a_p_accepts : Addr
  d_p_accepts : FuncData
  F_p_accepts : Fun K "accepts" "accepts" s_p_accepts a_p_accepts d_p_accepts
  m_p_accepts : mg "accepts" = some (.ref a_p_accepts)
  a_l_draw : Addr
  d_l_draw : FuncData
  F_l_draw : Fun K "_law_draw" "_law_draw" s_l_draw a_l_draw d_l_draw
  m_l_draw : mg "_law_draw" = some (.ref a_l_draw)
  a_l_one : Addr
  d_l_one : FuncData
  F_l_one : Fun K "_law_one" "_law_one" s_l_one a_l_one d_l_one
  m_l_one : mg "_law_one" = some (.ref a_l_one)
  a_l_bank : Addr
  d_l_bank : FuncData
  F_l_bank : Fun K "_law_bank" "_law_bank" s_l_bank a_l_bank d_l_bank
  m_l_bank : mg "_law_bank" = some (.ref a_l_bank)
  a_l_words : Addr
  d_l_words : FuncData
  F_l_words : Fun K "_law_words" "_law_words" s_l_words a_l_words d_l_words
  m_l_words : mg "_law_words" = some (.ref a_l_words)
  a_l_texts : Addr
  d_l_texts : FuncData
  F_l_texts : Fun K "_law_texts" "_law_texts" s_l_texts a_l_texts d_l_texts
  m_l_texts : mg "_law_texts" = some (.ref a_l_texts)
  a_l_thirds : Addr
  d_l_thirds : FuncData
  F_l_thirds : Fun K "_law_thirds" "_law_thirds" s_l_thirds a_l_thirds d_l_thirds
  m_l_thirds : mg "_law_thirds" = some (.ref a_l_thirds)
  a_l_fourths : Addr
  d_l_fourths : FuncData
  F_l_fourths : Fun K "_law_fourths" "_law_fourths" s_l_fourths a_l_fourths d_l_fourths
  m_l_fourths : mg "_law_fourths" = some (.ref a_l_fourths)
  a_l_none : Addr
  d_l_none : FuncData
  F_l_none : Fun K "_law_none" "_law_none" s_l_none a_l_none d_l_none
  m_l_none : mg "_law_none" = some (.ref a_l_none)
  a_l_right : Addr
  d_l_right : FuncData
  F_l_right : Fun K "_law_right" "_law_right" s_l_right a_l_right d_l_right
  m_l_right : mg "_law_right" = some (.ref a_l_right)
  a_p_law : Addr
  d_p_law : FuncData
  F_p_law : Fun K "law" "law" s_p_law a_p_law d_p_law
  m_p_law : mg "law" = some (.ref a_p_law)
  z_abs : mg "abs" = none
  z_all : mg "all" = none
  z_any : mg "any" = none
  z_bool : mg "bool" = none
  z_divmod : mg "divmod" = none
  z_enumerate : mg "enumerate" = none
  z_int : mg "int" = none
  z_isinstance : mg "isinstance" = none
  z_len : mg "len" = none
  z_list : mg "list" = none
  z_max : mg "max" = none
  z_min : mg "min" = none
  z_range : mg "range" = none
  z_repr : mg "repr" = none
  z_str : mg "str" = none
  z_sum : mg "sum" = none
  z_tuple : mg "tuple" = none
  z_zip : mg "zip" = none
  g_FIGURES : ∃ t, mg "FIGURES" = some (.str "0123456789" t)
  T_HEAD : Addr
  I_HEAD : Array Value
  n_HEAD : Nat
  S_HEAD : Array (Option Value)
  g_HEAD : mg "HEAD" = some (.ref T_HEAD)
  gl_HEAD : K.lookup T_HEAD = some ⟨.type "list", none, .seq I_HEAD n_HEAD, S_HEAD⟩
  gz_HEAD : I_HEAD.size ≤ sizeLine
  gv_HEAD : Vals ((["degree", "knots"] : List Str).map V.str) I_HEAD.toList
  g_MOST_DEGREE : ∃ t, mg "MOST_DEGREE" = some (.int 4 t)
  g_MOST_FIGURES : ∃ t, mg "MOST_FIGURES" = some (.int 60 t)
  g_MOST_HEIGHT : ∃ t, mg "MOST_HEIGHT" = some (.int 100000000000000000000 t)
  g_MOST_HILLS : ∃ t, mg "MOST_HILLS" = some (.int 10 t)
  g_MOST_KNOT : ∃ t, mg "MOST_KNOT" = some (.int 1000000 t)
  g_MOST_PLACES : ∃ t, mg "MOST_PLACES" = some (.int 12 t)
  T_NONE : Addr
  I_NONE : Array Value
  n_NONE : Nat
  S_NONE : Array (Option Value)
  g_NONE : mg "NONE" = some (.ref T_NONE)
  gl_NONE : K.lookup T_NONE = some ⟨.type "tuple", none, .seq I_NONE n_NONE, S_NONE⟩
  gz_NONE : I_NONE.size ≤ sizeLine
  gv_NONE : Vals (([0, 1] : List Int).map V.int) I_NONE.toList
  T_ONE : Addr
  I_ONE : Array Value
  n_ONE : Nat
  S_ONE : Array (Option Value)
  g_ONE : mg "ONE" = some (.ref T_ONE)
  gl_ONE : K.lookup T_ONE = some ⟨.type "tuple", none, .seq I_ONE n_ONE, S_ONE⟩
  gz_ONE : I_ONE.size ≤ sizeLine
  gv_ONE : Vals (([1, 1] : List Int).map V.int) I_ONE.toList
  C_InvalidText : Addr
  c_InvalidText : mg "InvalidText" = some (.ref C_InvalidText)
  C_InvalidDegree : Addr
  c_InvalidDegree : mg "InvalidDegree" = some (.ref C_InvalidDegree)
  C_InvalidKnots : Addr
  c_InvalidKnots : mg "InvalidKnots" = some (.ref C_InvalidKnots)
  C_Frame : Addr
  c_Frame : mg "Frame" = some (.ref C_Frame)
  cl_Frame : Cls K C_Frame
  ic_Frame : InsC K C_Frame
  kn_Frame : ∀ m ∈ tyNames, PySem.W.kitOne K (.type m) (.ref C_Frame) = some false
  mk_Frame : Mk K C_Frame a_c_Frame___init__
  nf_Frame_parts : NoAttr K C_Frame "parts"
  pc_c_Frame_read : Addr
  cm_c_Frame_read : ClX.CMet K C_Frame (.type "type") "read" pc_c_Frame_read a_c_Frame_read
  cr_c_Frame_read : ClX.CRead K C_Frame (.type "type")
  pq_c_Frame_degree : Addr
  pr_c_Frame_degree : PropOf K C_Frame "degree" pq_c_Frame_degree a_c_Frame_degree
  pq_c_Frame_hills : Addr
  pr_c_Frame_hills : PropOf K C_Frame "hills" pq_c_Frame_hills a_c_Frame_hills
  pq_c_Frame_knots : Addr
  pr_c_Frame_knots : PropOf K C_Frame "knots" pq_c_Frame_knots a_c_Frame_knots
  x_InvalidKnots : OexG K C_InvalidKnots
  e_InvalidKnots : L2.ExcC K C_InvalidKnots
  xf_InvalidKnots : XfC K C_InvalidKnots
  no_InvalidKnots : PySem.W.findIn K (.ref C_InvalidKnots) "index" = some none
  fi_InvalidKnots : Addr
  di_InvalidKnots : FuncData
  Fi_InvalidKnots : Fun K "__init__" "InvalidKnots.__init__" si_InvalidKnots fi_InvalidKnots di_InvalidKnots
  ii_InvalidKnots : PySem.W.findIn K (.ref C_InvalidKnots) "__init__" = some (some (.ref fi_InvalidKnots))
  ti_InvalidKnots : PySem.W.typeIn K (.ref fi_InvalidKnots) = some (.type "function")
  tk_InvalidKnots : PySem.W.takerIn K C_InvalidKnots "index" = some none
  x_InvalidDegree : OexG K C_InvalidDegree
  e_InvalidDegree : L2.ExcC K C_InvalidDegree
  xf_InvalidDegree : XfC K C_InvalidDegree
  no_InvalidDegree : PySem.W.findIn K (.ref C_InvalidDegree) "given" = some none
  fi_InvalidDegree : Addr
  di_InvalidDegree : FuncData
  Fi_InvalidDegree : Fun K "__init__" "InvalidDegree.__init__" si_InvalidDegree fi_InvalidDegree di_InvalidDegree
  ii_InvalidDegree : PySem.W.findIn K (.ref C_InvalidDegree) "__init__" = some (some (.ref fi_InvalidDegree))
  ti_InvalidDegree : PySem.W.typeIn K (.ref fi_InvalidDegree) = some (.type "function")
  tk_InvalidDegree : PySem.W.takerIn K C_InvalidDegree "given" = some none
  x_InvalidText : OexG K C_InvalidText
  e_InvalidText : L2.ExcC K C_InvalidText
  xf_InvalidText : XfC K C_InvalidText
  no_InvalidText : PySem.W.findIn K (.ref C_InvalidText) "given" = some none
  fi_InvalidText : Addr
  di_InvalidText : FuncData
  Fi_InvalidText : Fun K "__init__" "InvalidText.__init__" si_InvalidText fi_InvalidText di_InvalidText
  ii_InvalidText : PySem.W.findIn K (.ref C_InvalidText) "__init__" = some (some (.ref fi_InvalidText))
  ti_InvalidText : PySem.W.typeIn K (.ref fi_InvalidText) = some (.type "function")
  tk_InvalidText : PySem.W.takerIn K C_InvalidText "given" = some none
  oo_InvalidKnots_InvalidText : PySem.W.kitOne K (.ref C_InvalidKnots) (.ref C_InvalidText) = some false
  oo_InvalidKnots_InvalidDegree : PySem.W.kitOne K (.ref C_InvalidKnots) (.ref C_InvalidDegree) = some false
  oo_InvalidKnots_InvalidKnots : PySem.W.kitOne K (.ref C_InvalidKnots) (.ref C_InvalidKnots) = some true
  oo_InvalidDegree_InvalidText : PySem.W.kitOne K (.ref C_InvalidDegree) (.ref C_InvalidText) = some false
  oo_InvalidDegree_InvalidDegree : PySem.W.kitOne K (.ref C_InvalidDegree) (.ref C_InvalidDegree) = some true
  oo_InvalidDegree_InvalidKnots : PySem.W.kitOne K (.ref C_InvalidDegree) (.ref C_InvalidKnots) = some false
  oo_InvalidText_InvalidText : PySem.W.kitOne K (.ref C_InvalidText) (.ref C_InvalidText) = some true
  oo_InvalidText_InvalidDegree : PySem.W.kitOne K (.ref C_InvalidText) (.ref C_InvalidDegree) = some false
  oo_InvalidText_InvalidKnots : PySem.W.kitOne K (.ref C_InvalidText) (.ref C_InvalidKnots) = some false
  oo_Frame_Frame : PySem.W.kitOne K (.ref C_Frame) (.ref C_Frame) = some true
  ob_Frame_int : PySem.W.kitOne K (.ref C_Frame) (.type "int") = some false
  ob_Frame_bool : PySem.W.kitOne K (.ref C_Frame) (.type "bool") = some false
  ob_Frame_tuple : PySem.W.kitOne K (.ref C_Frame) (.type "tuple") = some false
  ob_Frame_str : PySem.W.kitOne K (.ref C_Frame) (.type "str") = some false
  ob_Frame_list : PySem.W.kitOne K (.ref C_Frame) (.type "list") = some false
  cc_InvalidKnots_InvalidText : PySem.W.exmOne K (.ref C_InvalidKnots) (.ref C_InvalidText) = some false
  cc_InvalidDegree_InvalidText : PySem.W.exmOne K (.ref C_InvalidDegree) (.ref C_InvalidText) = some false
  cc_InvalidText_InvalidText : PySem.W.exmOne K (.ref C_InvalidText) (.ref C_InvalidText) = some true
theorem tab_ok (L : Lf K mg) : TabOk K mg tabT := by
  refine ⟨fun c h C e => ?_, fun c h C e => ?_, isa_ok (fun c d b h => ?_) (fun c n b h => ?_) (fun c h m hm => ?_)⟩
  · simp only [tabT, List.mem_cons, List.not_mem_nil, or_false] at h
    subst h
    · rw [L.c_Frame] at e; cases e; exact L.ic_Frame
  · simp only [tabT, List.mem_cons, List.not_mem_nil, or_false] at h
    rcases h with h | h | h <;> subst h
    · rw [L.c_InvalidKnots] at e; cases e; exact L.e_InvalidKnots
    · rw [L.c_InvalidDegree] at e; cases e; exact L.e_InvalidDegree
    · rw [L.c_InvalidText] at e; cases e; exact L.e_InvalidText
  · simp only [ooT, List.mem_cons, Prod.mk.injEq, List.not_mem_nil, or_false] at h
    rcases h with ⟨rfl, rfl, rfl⟩ | ⟨rfl, rfl, rfl⟩ | ⟨rfl, rfl, rfl⟩ | ⟨rfl, rfl, rfl⟩ | ⟨rfl, rfl, rfl⟩ | ⟨rfl, rfl, rfl⟩ | ⟨rfl, rfl, rfl⟩ | ⟨rfl, rfl, rfl⟩ | ⟨rfl, rfl, rfl⟩ | ⟨rfl, rfl, rfl⟩
    · exact ⟨_, _, L.c_InvalidKnots, L.c_InvalidText, L.oo_InvalidKnots_InvalidText⟩
    · exact ⟨_, _, L.c_InvalidKnots, L.c_InvalidDegree, L.oo_InvalidKnots_InvalidDegree⟩
    · exact ⟨_, _, L.c_InvalidKnots, L.c_InvalidKnots, L.oo_InvalidKnots_InvalidKnots⟩
    · exact ⟨_, _, L.c_InvalidDegree, L.c_InvalidText, L.oo_InvalidDegree_InvalidText⟩
    · exact ⟨_, _, L.c_InvalidDegree, L.c_InvalidDegree, L.oo_InvalidDegree_InvalidDegree⟩
    · exact ⟨_, _, L.c_InvalidDegree, L.c_InvalidKnots, L.oo_InvalidDegree_InvalidKnots⟩
    · exact ⟨_, _, L.c_InvalidText, L.c_InvalidText, L.oo_InvalidText_InvalidText⟩
    · exact ⟨_, _, L.c_InvalidText, L.c_InvalidDegree, L.oo_InvalidText_InvalidDegree⟩
    · exact ⟨_, _, L.c_InvalidText, L.c_InvalidKnots, L.oo_InvalidText_InvalidKnots⟩
    · exact ⟨_, _, L.c_Frame, L.c_Frame, L.oo_Frame_Frame⟩
  · simp only [obT, List.mem_cons, Prod.mk.injEq, List.not_mem_nil, or_false] at h
    rcases h with ⟨rfl, rfl, rfl⟩ | ⟨rfl, rfl, rfl⟩ | ⟨rfl, rfl, rfl⟩ | ⟨rfl, rfl, rfl⟩ | ⟨rfl, rfl, rfl⟩
    · exact ⟨_, L.c_Frame, L.ob_Frame_int⟩
    · exact ⟨_, L.c_Frame, L.ob_Frame_bool⟩
    · exact ⟨_, L.c_Frame, L.ob_Frame_tuple⟩
    · exact ⟨_, L.c_Frame, L.ob_Frame_str⟩
    · exact ⟨_, L.c_Frame, L.ob_Frame_list⟩
  · simp only [List.mem_cons, List.not_mem_nil, or_false] at h
    subst h
    · exact ⟨_, L.c_Frame, L.kn_Frame m hm⟩
theorem fld_ok (L : Lf K mg) : FldOk K mg fldT := by
  intro c f h C e
  simp only [fldT, List.mem_cons, Prod.mk.injEq, List.not_mem_nil, or_false] at h
  rcases h with ⟨rfl, rfl⟩
  · rw [L.c_Frame] at e; cases e; exact ⟨L.cl_Frame, L.nf_Frame_parts⟩
theorem sub_ok' (L : Lf K mg) : SubOk K mg (subOf subT) := by
  refine sub_ok fun c d b h => ?_
  simp only [subT, List.mem_cons, Prod.mk.injEq, List.not_mem_nil, or_false] at h
  rcases h with ⟨rfl, rfl, rfl⟩ | ⟨rfl, rfl, rfl⟩ | ⟨rfl, rfl, rfl⟩
  · exact ⟨_, _, L.c_InvalidKnots, L.c_InvalidText, L.cc_InvalidKnots_InvalidText⟩
  · exact ⟨_, _, L.c_InvalidDegree, L.c_InvalidText, L.cc_InvalidDegree_InvalidText⟩
  · exact ⟨_, _, L.c_InvalidText, L.c_InvalidText, L.cc_InvalidText_InvalidText⟩
theorem sci_InvalidKnots : FnScope ["self", "index"] ["self", "index"] (defScope si_InvalidKnots) := ⟨rfl, rfl, rfl, by decide +kernel, rfl, by decide +kernel, by decide +kernel⟩
theorem Z_InvalidKnots (L : Lf K mg) : Rz P w K mg base "InvalidKnots" "index" := ⟨_, _, _, _, L.c_InvalidKnots, L.x_InvalidKnots, L.ii_InvalidKnots, L.ti_InvalidKnots, init1 L.Fi_InvalidKnots rfl sci_InvalidKnots L.x_InvalidKnots L.tk_InvalidKnots, L.Fi_InvalidKnots.binds fun _ _ _ _ _ _ us hl => match us, hl with | [_, _], _ => rfl⟩
theorem sci_InvalidDegree : FnScope ["self", "given"] ["self", "given"] (defScope si_InvalidDegree) := ⟨rfl, rfl, rfl, by decide +kernel, rfl, by decide +kernel, by decide +kernel⟩
theorem Z_InvalidDegree (L : Lf K mg) : Rz P w K mg base "InvalidDegree" "given" := ⟨_, _, _, _, L.c_InvalidDegree, L.x_InvalidDegree, L.ii_InvalidDegree, L.ti_InvalidDegree, init1 L.Fi_InvalidDegree rfl sci_InvalidDegree L.x_InvalidDegree L.tk_InvalidDegree, L.Fi_InvalidDegree.binds fun _ _ _ _ _ _ us hl => match us, hl with | [_, _], _ => rfl⟩
theorem sci_InvalidText : FnScope ["self", "given"] ["self", "given"] (defScope si_InvalidText) := ⟨rfl, rfl, rfl, by decide +kernel, rfl, by decide +kernel, by decide +kernel⟩
theorem Z_InvalidText (L : Lf K mg) : Rz P w K mg base "InvalidText" "given" := ⟨_, _, _, _, L.c_InvalidText, L.x_InvalidText, L.ii_InvalidText, L.ti_InvalidText, init1 L.Fi_InvalidText rfl sci_InvalidText L.x_InvalidText L.tk_InvalidText, L.Fi_InvalidText.binds fun _ _ _ _ _ _ us hl => match us, hl with | [_, _], _ => rfl⟩
theorem bk_p_accepts_0_paper_claim (L : Lf K mg) : BindsW K L.d_p_accepts ["claim", "paper"] 0 ["paper", "claim"] [1, 0] := L.F_p_accepts.bindsW fun _ _ _ _ _ _ us ws h1 h2 => match us, ws, h1, h2 with | [], [_, _], _, _ => rfl
theorem sc_l_well : FnScope ["_law_cells", "_law_turn", "_law_cell", "_law_mixed", "_law_each"] ["_law_cells", "_law_turn"] (defScope s_l_well) := ⟨rfl, rfl, rfl, by decide +kernel, rfl, by decide +kernel, by decide +kernel⟩
theorem b_l_well (L : Lf K mg) : Binds K L.d_l_well ["_law_cells", "_law_turn"] [] := L.F_l_well.binds fun _ _ _ _ _ _ us hl => match us, hl with | [_, _], _ => rfl
theorem G_l_well (L : Lf K mg) : FnG P w K mg base 1 L.a_l_well L.d_l_well ["_law_cells", "_law_turn"] (SpM K mg 2 f_l_well) := fnM L.F_l_well sc_l_well rfl fun cd A outer s H E rm =>
  (b_cons (s_set 2 (v_if (t_cmp op_lt ok_lt (v_var 1) (v_callB call_lenAll ok_len rfl L.z_len rfl (a_cons (v_var 0) a_nil)) rfl) (v_callTy call_int1 ok_toInt rfl L.z_int rfl (a_cons (v_ix ix_all ok_ix (v_var 0) (v_var 1) (fun _ _ => rfl)) a_nil)) (v_op op_mulAll ok_mul v_int (v_op op_addAll ok_add (v_var 1) v_int))) sc_l_well.nd)
  (b_cons (s_set 3 (v_op op_addAll ok_add v_int (v_op op_mulAll ok_mul v_int (v_var 1))) sc_l_well.nd)
  (b_cons (s_for po_def rfl (i_seq (v_op op_addAll ok_add (v_slice sl_all ok_slice (v_var 0) p_none (p_some v_int)) (v_fr (o_lst (a_cons (v_var 2) a_nil))))) (pp_nm 4 sc_l_well.nd) (b_one (s_set 3 (v_op op_mod ok_mod (v_callTy call_int1 ok_toInt rfl L.z_int rfl (a_cons (v_op op_addAll ok_add (v_op op_addAll ok_add (v_op op_mulAll ok_mul (v_var 3) v_int) (v_op op_mod ok_mod (v_callTy call_int1 ok_toInt rfl L.z_int rfl (a_cons (v_var 4) a_nil)) v_int)) v_int) a_nil)) v_int) sc_l_well.nd)))
  (b_one (s_ret (v_cell (o_lst (a_cons (v_if (t_w (w_or (t_cmp op_lt ok_lt (v_var 2) v_int rfl) (w_or1 (t_cmp op_ge ok_ge (v_var 2) (v_op op_pow ok_pow v_int v_int) rfl)))) (v_callB call_abs ok_abs rfl L.z_abs rfl (a_cons (v_var 2) a_nil)) v_int) (a_cons (v_var 3) a_nil)))))))))
theorem sc_p_is_integer : FnScope ["value"] ["value"] (defScope s_p_is_integer) := ⟨rfl, rfl, rfl, by decide +kernel, rfl, by decide +kernel, by decide +kernel⟩
theorem b_p_is_integer (L : Lf K mg) : Binds K L.d_p_is_integer ["value"] [] := L.F_p_is_integer.binds fun _ _ _ _ _ _ us hl => match us, hl with | [_], _ => rfl
theorem G_p_is_integer (L : Lf K mg) : FnG P w K mg base 1 L.a_p_is_integer L.d_p_is_integer ["value"] (SpM K mg 1 f_p_is_integer) := fnM L.F_p_is_integer sc_p_is_integer rfl fun cd A outer s H E rm =>
  (b_one (s_ret (v_and (v_callB call_isAll (ok_isA (tab_ok L)) rfl L.z_isinstance rfl (a_cons (v_var 0) (a_cons (v_bty L.z_int rfl) a_nil))) (v_and1 (v_not (v_callB call_isAll (ok_isA (tab_ok L)) rfl L.z_isinstance rfl (a_cons (v_var 0) (a_cons (v_bty L.z_bool rfl) a_nil))))))))
theorem sc_p_is_between : FnScope ["value", "least", "most"] ["value", "least", "most"] (defScope s_p_is_between) := ⟨rfl, rfl, rfl, by decide +kernel, rfl, by decide +kernel, by decide +kernel⟩
theorem b_p_is_between (L : Lf K mg) : Binds K L.d_p_is_between ["value", "least", "most"] [] := L.F_p_is_between.binds fun _ _ _ _ _ _ us hl => match us, hl with | [_, _, _], _ => rfl
theorem G_p_is_between (L : Lf K mg) : FnG P w K mg base 2 L.a_p_is_between L.d_p_is_between ["value", "least", "most"] (SpM K mg 3 f_p_is_between) := fnM L.F_p_is_between sc_p_is_between rfl fun cd A outer s H E rm =>
  (b_one (s_ret (v_and (v_call (G_p_is_integer L) (rm.less (by decide)) L.m_p_is_integer L.F_p_is_integer.kp (b_p_is_integer L) px_def (a_cons (v_var 0) a_nil)) (v_and1 (v_chain op_le ok_le op_le ok_le (v_var 1) (v_var 0) (v_var 2))))))
theorem sc_p_is_place : FnScope ["value"] ["value"] (defScope s_p_is_place) := ⟨rfl, rfl, rfl, by decide +kernel, rfl, by decide +kernel, by decide +kernel⟩
theorem b_p_is_place (L : Lf K mg) : Binds K L.d_p_is_place ["value"] [] := L.F_p_is_place.binds fun _ _ _ _ _ _ us hl => match us, hl with | [_], _ => rfl
theorem G_p_is_place (L : Lf K mg) : FnG P w K mg base 3 L.a_p_is_place L.d_p_is_place ["value"] (SpM K mg 1 f_p_is_place) := fnM L.F_p_is_place sc_p_is_place rfl fun cd A outer s H E rm =>
  (b_one (s_ret (v_call (G_p_is_between L) (rm.less (by decide)) L.m_p_is_between L.F_p_is_between.kp (b_p_is_between L) px_def (a_cons (v_var 0) (a_cons v_int (a_cons (v_gint L.g_MOST_KNOT) a_nil))))))
theorem sc_p_places_fault : FnScope ["value", "index", "place"] ["value"] (defScope s_p_places_fault) := ⟨rfl, rfl, rfl, by decide +kernel, rfl, by decide +kernel, by decide +kernel⟩
theorem b_p_places_fault (L : Lf K mg) : Binds K L.d_p_places_fault ["value"] [] := L.F_p_places_fault.binds fun _ _ _ _ _ _ us hl => match us, hl with | [_], _ => rfl
theorem G_p_places_fault (L : Lf K mg) : FnG P w K mg base 4 L.a_p_places_fault L.d_p_places_fault ["value"] (SpM K mg 1 f_p_places_fault) := fnM L.F_p_places_fault sc_p_places_fault rfl fun cd A outer s H E rm =>
  (b_cons (s_if (t_w (w_or (t_not (t_val (v_callB call_isAll (ok_isA (tab_ok L)) rfl L.z_isinstance rfl (a_cons (v_var 0) (a_cons (v_bty L.z_tuple rfl) a_nil))))) (w_or1 (t_cmp (op_eqAll rm.units) ok_eq (v_var 0) (v_tup a_nil) rfl)))) (b_one (s_ret v_non)) b_nil)
  (b_cons (s_for po_def rfl (i_enum L.z_enumerate (a_cons (v_var 0) a_nil)) (pp_tp rfl (pp_cons (pp_nm 1 sc_p_places_fault.nd) (pp_cons (pp_nm 2 sc_p_places_fault.nd) pp_nil))) (b_one (s_if (t_w (w_or (t_cmp (op_eqAll rm.units) ok_eq (v_var 1) (v_gint L.g_MOST_PLACES) rfl) (w_or (t_not (t_val (v_call (G_p_is_place L) (rm.less (by decide)) L.m_p_is_place L.F_p_is_place.kp (b_p_is_place L) px_def (a_cons (v_var 2) a_nil)))) (w_or1 (t_w (w_and (t_cmp op_gt ok_gt (v_var 1) v_int rfl) (w_and1 (t_cmp op_le ok_le (v_var 2) (v_ix ix_all ok_ix (v_var 0) (v_op op_sub ok_sub (v_var 1) v_int) (fun _ _ => rfl)) rfl)))))))) (b_one (s_ret (v_var 1))) b_nil)))
  (b_one (s_ret (v_un un_neg ok_neg v_int)))))
theorem sc_p_is_height : FnScope ["value"] ["value"] (defScope s_p_is_height) := ⟨rfl, rfl, rfl, by decide +kernel, rfl, by decide +kernel, by decide +kernel⟩
theorem b_p_is_height (L : Lf K mg) : Binds K L.d_p_is_height ["value"] [] := L.F_p_is_height.binds fun _ _ _ _ _ _ us hl => match us, hl with | [_], _ => rfl
theorem G_p_is_height (L : Lf K mg) : FnG P w K mg base 3 L.a_p_is_height L.d_p_is_height ["value"] (SpM K mg 1 f_p_is_height) := fnM L.F_p_is_height sc_p_is_height rfl fun cd A outer s H E rm =>
  (b_one (s_ret (v_call (G_p_is_between L) (rm.less (by decide)) L.m_p_is_between L.F_p_is_between.kp (b_p_is_between L) px_def (a_cons (v_var 0) (a_cons (v_un un_neg ok_neg (v_gint L.g_MOST_HEIGHT)) (a_cons (v_gint L.g_MOST_HEIGHT) a_nil))))))
theorem sc_p_heights_fault : FnScope ["value", "many", "wrong", "index", "height"] ["value", "many"] (defScope s_p_heights_fault) := ⟨rfl, rfl, rfl, by decide +kernel, rfl, by decide +kernel, by decide +kernel⟩
theorem b_p_heights_fault (L : Lf K mg) : Binds K L.d_p_heights_fault ["value", "many"] [] := L.F_p_heights_fault.binds fun _ _ _ _ _ _ us hl => match us, hl with | [_, _], _ => rfl
theorem G_p_heights_fault (L : Lf K mg) : FnG P w K mg base 4 L.a_p_heights_fault L.d_p_heights_fault ["value", "many"] (SpM K mg 2 f_p_heights_fault) := fnM L.F_p_heights_fault sc_p_heights_fault rfl fun cd A outer s H E rm =>
  (b_cons (s_if (t_w (w_or (t_not (t_val (v_callB call_isAll (ok_isA (tab_ok L)) rfl L.z_isinstance rfl (a_cons (v_var 0) (a_cons (v_bty L.z_tuple rfl) a_nil))))) (w_or1 (t_cmp (op_neAll rm.units) ok_ne (v_callB call_lenAll ok_len rfl L.z_len rfl (a_cons (v_var 0) a_nil)) (v_var 1) rfl)))) (b_one (s_ret v_non)) b_nil)
  (b_cons (s_setLc 2 (own := [("index", 3), ("height", 4)]) rfl sc_p_heights_fault.nd rfl (i_enum L.z_enumerate (a_cons (v_var 0) a_nil)) (blkOk_by (N := ["value", "many", "wrong", "index", "height"]) (sc := defScope s_p_heights_fault) (by decide +kernel)) (fun _ _ _ _ _ => (pp_tp rfl (pp_cons (pp_nm 3 sc_p_heights_fault.nd) (pp_cons (pp_nm 4 sc_p_heights_fault.nd) pp_nil)))) (fun _ _ _ _ _ => (ts_one (t_not (t_val (v_call (G_p_is_height L) (rm.less (by decide)) L.m_p_is_height L.F_p_is_height.kp (b_p_is_height L) px_0 (a_cons (v_var 4) a_nil)))))) (fun _ _ _ _ _ => (v_var 3)))
  (b_one (s_ret (v_if (t_cmp (op_neAll rm.units) ok_ne (v_var 2) (v_fr (o_lst a_nil)) rfl) (v_ix ix_all ok_ix (v_var 2) v_int (fun _ _ => rfl)) (v_un un_neg ok_neg v_int))))))
theorem sc_p_number_in : FnScope ["word", "most", "sign"] ["word", "most"] (defScope s_p_number_in) := ⟨rfl, rfl, rfl, by decide +kernel, rfl, by decide +kernel, by decide +kernel⟩
theorem b_p_number_in (L : Lf K mg) : Binds K L.d_p_number_in ["word", "most"] [] := L.F_p_number_in.binds fun _ _ _ _ _ _ us hl => match us, hl with | [_, _], _ => rfl
theorem G_p_number_in (L : Lf K mg) : FnG P w K mg base 1 L.a_p_number_in L.d_p_number_in ["word", "most"] (SpM K mg 2 f_p_number_in) := fnM L.F_p_number_in sc_p_number_in rfl fun cd A outer s H E rm =>
  (b_cons (s_if (t_w (w_or (t_not (t_chain op_le ok_le op_le ok_le v_int (v_callB call_lenAll ok_len rfl L.z_len rfl (a_cons (v_var 0) a_nil)) (v_gint L.g_MOST_FIGURES))) (w_or1 (t_not (t_val (v_callB (cr_all rfl) ok_all rfl L.z_all rfl (a_cons (v_fr (o_lc (own := [("sign", 2)]) rfl sc_p_number_in.nd rfl (i_signs (v_var 0)) (blkOk_by (N := ["word", "most", "sign"]) (sc := defScope s_p_number_in) (by decide +kernel)) (fun _ _ _ _ _ => (pp_nm 2 sc_p_number_in.nd)) (fun _ _ _ _ _ => ts_nil) (fun _ _ _ _ _ => (v_cmp op_in_sign ok_inS (v_var 2) (v_gstr L.g_FIGURES) rfl)))) a_nil))))))) (b_one (s_ret v_non)) b_nil)
  (b_cons (s_if (t_w (w_and (t_cmp (op_eqAll rm.units) ok_eq (v_ix ix_all ok_ix (v_var 0) v_int (fun _ _ => rfl)) v_str rfl) (w_and1 (t_cmp (op_neAll rm.units) ok_ne (v_var 0) v_str rfl)))) (b_one (s_ret v_non)) b_nil)
  (b_one (s_ret (v_if (t_cmp op_le ok_le (v_callTy call_int_str ok_toIntS rfl L.z_int rfl (a_cons (v_var 0) a_nil)) (v_var 1) rfl) (v_callTy call_int_str ok_toIntS rfl L.z_int rfl (a_cons (v_var 0) a_nil)) v_non)))))
theorem sc_p_knots_fault : FnScope ["degree", "value", "index", "knot"] ["degree", "value"] (defScope s_p_knots_fault) := ⟨rfl, rfl, rfl, by decide +kernel, rfl, by decide +kernel, by decide +kernel⟩
theorem b_p_knots_fault (L : Lf K mg) : Binds K L.d_p_knots_fault ["degree", "value"] [] := L.F_p_knots_fault.binds fun _ _ _ _ _ _ us hl => match us, hl with | [_, _], _ => rfl
theorem G_p_knots_fault (L : Lf K mg) : FnG P w K mg base 3 L.a_p_knots_fault L.d_p_knots_fault ["degree", "value"] (SpM K mg 2 f_p_knots_fault) := fnM L.F_p_knots_fault sc_p_knots_fault rfl fun cd A outer s H E rm =>
  (b_cons (s_if (t_w (w_or (t_not (t_val (v_callB call_isAll (ok_isA (tab_ok L)) rfl L.z_isinstance rfl (a_cons (v_var 1) (a_cons (v_bty L.z_tuple rfl) a_nil))))) (w_or1 (t_cmp op_lt ok_lt (v_callB call_lenAll ok_len rfl L.z_len rfl (a_cons (v_var 1) a_nil)) (v_op op_addAll ok_add (v_var 0) v_int) rfl)))) (b_one (s_ret v_non)) b_nil)
  (b_cons (s_for po_def rfl (i_enum L.z_enumerate (a_cons (v_var 1) a_nil)) (pp_tp rfl (pp_cons (pp_nm 2 sc_p_knots_fault.nd) (pp_cons (pp_nm 3 sc_p_knots_fault.nd) pp_nil))) (b_cons (s_if (t_w (w_or (t_cmp (op_eqAll rm.units) ok_eq (v_var 2) (v_op op_addAll ok_add (v_op op_addAll ok_add (v_var 0) v_int) (v_gint L.g_MOST_HILLS)) rfl) (w_or1 (t_not (t_val (v_call (G_p_is_between L) (rm.less (by decide)) L.m_p_is_between L.F_p_is_between.kp (b_p_is_between L) px_def (a_cons (v_var 3) (a_cons v_int (a_cons (v_gint L.g_MOST_KNOT) a_nil))))))))) (b_one (s_ret (v_var 2))) b_nil)
  (b_cons (s_if (t_w (w_and (t_cmp op_gt ok_gt (v_var 2) v_int rfl) (w_and1 (t_cmp op_lt ok_lt (v_var 3) (v_ix ix_all ok_ix (v_var 1) (v_op op_sub ok_sub (v_var 2) v_int) (fun _ _ => rfl)) rfl)))) (b_one (s_ret (v_var 2))) b_nil)
  (b_one (s_if (t_w (w_and (t_cmp op_gt ok_gt (v_var 2) (v_var 0) rfl) (w_and1 (t_cmp (op_eqAll rm.units) ok_eq (v_ix ix_all ok_ix (v_var 1) (v_op op_sub ok_sub (v_op op_sub ok_sub (v_var 2) (v_var 0)) v_int) (fun _ _ => rfl)) (v_var 3) rfl)))) (b_one (s_ret (v_var 2))) b_nil)))))
  (b_one (s_ret (v_un un_neg ok_neg v_int)))))
theorem sc_c_Frame___init__ : FnScope ["self", "degree", "knots"] ["self", "degree", "knots"] (defScope s_c_Frame___init__) := ⟨rfl, rfl, rfl, by decide +kernel, rfl, by decide +kernel, by decide +kernel⟩
theorem b_c_Frame___init__ (L : Lf K mg) : Binds K L.d_c_Frame___init__ ["self", "degree", "knots"] [] := L.F_c_Frame___init__.binds fun _ _ _ _ _ _ us hl => match us, hl with | [_, _, _], _ => rfl
theorem G_c_Frame___init__ (L : Lf K mg) : FnG P w K mg base 4 L.a_c_Frame___init__ L.d_c_Frame___init__ ["self", "degree", "knots"] (SpM K mg 3 f_c_Frame___init__) := fnM L.F_c_Frame___init__ sc_c_Frame___init__ rfl fun cd A outer s H E rm =>
  (b_cons (s_if (t_not (t_val (v_call (G_p_is_between L) (rm.less (by decide)) L.m_p_is_between L.F_p_is_between.kp (b_p_is_between L) px_def (a_cons (v_var 1) (a_cons v_int (a_cons (v_gint L.g_MOST_DEGREE) a_nil)))))) (b_one (s_raise1 (Z_InvalidDegree L) rfl (L2N.takes_of rfl rfl rfl rfl) (rm.less (by decide)) (v_var 1))) b_nil)
  (b_cons (s_if (t_cmp (op_neAll rm.units) ok_ne (v_call (G_p_knots_fault L) (rm.less (by decide)) L.m_p_knots_fault L.F_p_knots_fault.kp (b_p_knots_fault L) px_def (a_cons (v_var 1) (a_cons (v_var 2) a_nil))) (v_un un_neg ok_neg v_int) rfl) (b_one (s_raise1 (Z_InvalidKnots L) rfl (L2N.takes_of rfl rfl rfl rfl) (rm.less (by decide)) (v_call (G_p_knots_fault L) (rm.less (by decide)) L.m_p_knots_fault L.F_p_knots_fault.kp (b_p_knots_fault L) px_def (a_cons (v_var 1) (a_cons (v_var 2) a_nil))))) b_nil)
  (b_one (s_fld (fld_ok L) (v_tup (a_cons (v_var 1) (a_cons (v_var 2) a_nil))) (v_var 0)))))
theorem sc_c_Frame_read : FnScope ["cls", "text", "words", "numbers", "word"] ["cls", "text"] (defScope s_c_Frame_read) := ⟨rfl, rfl, rfl, by decide +kernel, rfl, by decide +kernel, by decide +kernel⟩
theorem b_c_Frame_read (L : Lf K mg) : Binds K L.d_c_Frame_read ["cls", "text"] [] := L.F_c_Frame_read.binds fun _ _ _ _ _ _ us hl => match us, hl with | [_, _], _ => rfl
theorem G_c_Frame_read (L : Lf K mg) : FnG P w K mg base 6 L.a_c_Frame_read L.d_c_Frame_read ["cls", "text"] (SpM K mg 2 f_c_Frame_read) := fnM L.F_c_Frame_read sc_c_Frame_read rfl fun cd A outer s H E rm =>
  (b_cons (s_set 2 (v_if (t_val (v_callB call_isAll (ok_isA (tab_ok L)) rfl L.z_isinstance rfl (a_cons (v_var 1) (a_cons (v_bty L.z_str rfl) a_nil)))) (v_split (v_var 1) v_str) (v_fr (o_lst a_nil))) sc_c_Frame_read.nd)
  (b_cons (s_if (t_w (w_or (t_cmp op_lt ok_lt (v_callB call_lenAll ok_len rfl L.z_len rfl (a_cons (v_var 2) a_nil)) v_int rfl) (w_or1 (t_cmp (op_neAll rm.units) ok_ne (v_fr (o_lst (a_cons (v_ix ix_all ok_ix (v_var 2) v_int (fun _ _ => rfl)) (a_cons (v_ix ix_all ok_ix (v_var 2) v_int (fun _ _ => rfl)) a_nil)))) (v_gro L.g_HEAD L.gl_HEAD rfl rfl rfl L.gz_HEAD L.gv_HEAD) rfl)))) (b_one (s_raise1 (Z_InvalidText L) rfl (L2N.takes_of rfl rfl rfl rfl) (rm.less (by decide)) (v_var 1))) b_nil)
  (b_cons (s_setLc 3 (own := [("word", 4)]) rfl sc_c_Frame_read.nd rfl (i_seq (v_fr (o_lst (a_cons (v_ix ix_all ok_ix (v_var 2) v_int (fun _ _ => rfl)) (a_star (v_slice sl_all ok_slice (v_var 2) (p_some v_int) p_none) a_nil))))) (blkOk_by (N := ["cls", "text", "words", "numbers", "word"]) (sc := defScope s_c_Frame_read) (by decide +kernel)) (fun _ _ _ _ _ => (pp_nm 4 sc_c_Frame_read.nd)) (fun _ _ _ _ _ => ts_nil) (fun _ _ _ _ _ => (v_call (G_p_number_in L) (rm.less (by decide)) L.m_p_number_in L.F_p_number_in.kp (b_p_number_in L) px_0 (a_cons (v_var 4) (a_cons (v_gint L.g_MOST_KNOT) a_nil)))))
  (b_cons (s_if (t_w (w_or (t_cmp op_in_seq ok_in v_non (v_var 3) rfl) (w_or (t_cmp op_gt ok_gt (v_ix ix_all ok_ix (v_var 3) v_int (fun _ _ => rfl)) (v_gint L.g_MOST_DEGREE) rfl) (w_or1 (t_cmp (op_neAll rm.units) ok_ne (v_call (G_p_knots_fault L) (rm.less (by decide)) L.m_p_knots_fault L.F_p_knots_fault.kp (b_p_knots_fault L) px_def (a_cons (v_ix ix_all ok_ix (v_var 3) v_int (fun _ _ => rfl)) (a_cons (v_callTy call_tupleB ok_tuple rfl L.z_tuple rfl (a_cons (v_slice sl_all ok_slice (v_var 3) (p_some v_int) p_none) a_nil)) a_nil))) (v_un un_neg ok_neg v_int) rfl))))) (b_one (s_raise1 (Z_InvalidText L) rfl (L2N.takes_of rfl rfl rfl rfl) (rm.less (by decide)) (v_var 1))) b_nil)
  (b_one (s_ret (v_makeV 0 (fz := true) L.mk_Frame (G_c_Frame___init__ L) (rm.less (by decide)) px_def L.c_Frame (b_c_Frame___init__ L) (a_cons (v_ix ix_all ok_ix (v_var 3) v_int (fun _ _ => rfl)) (a_cons (v_callTy call_tupleB ok_tuple rfl L.z_tuple rfl (a_cons (v_slice sl_all ok_slice (v_var 3) (p_some v_int) p_none) a_nil)) a_nil)))))))))
theorem sc_p_frame_in : FnScope ["text"] ["text"] (defScope s_p_frame_in) := ⟨rfl, rfl, rfl, by decide +kernel, rfl, by decide +kernel, by decide +kernel⟩
theorem b_p_frame_in (L : Lf K mg) : Binds K L.d_p_frame_in ["text"] [] := L.F_p_frame_in.binds fun _ _ _ _ _ _ us hl => match us, hl with | [_], _ => rfl
theorem G_p_frame_in (L : Lf K mg) : FnG P w K mg base 7 L.a_p_frame_in L.d_p_frame_in ["text"] (SpM K mg 1 f_p_frame_in) := fnM L.F_p_frame_in sc_p_frame_in rfl fun cd A outer s H E rm =>
  (b_one (s_try rfl rfl sc_p_frame_in.nd (L2N.takes_of rfl rfl rfl rfl) (sub_ok' L)
  (fun E1 pn xe tk po => (b_one (s_ret (v_cmeth (G_c_Frame_read L) (rm.less (by decide)) (px_of tk) L.c_Frame L.cr_c_Frame_read L.cm_c_Frame_read (b_c_Frame_read L) (a_cons (v_var 0) a_nil)))))
  (.plain tst1 (fun a pn oe hot => (b_one (s_ret v_non))) .nil)))
theorem sc_p_is_count : FnScope ["given"] ["given"] (defScope s_p_is_count) := ⟨rfl, rfl, rfl, by decide +kernel, rfl, by decide +kernel, by decide +kernel⟩
theorem b_p_is_count (L : Lf K mg) : Binds K L.d_p_is_count ["given"] [] := L.F_p_is_count.binds fun _ _ _ _ _ _ us hl => match us, hl with | [_], _ => rfl
theorem G_p_is_count (L : Lf K mg) : FnG P w K mg base 2 L.a_p_is_count L.d_p_is_count ["given"] (SpM K mg 1 f_p_is_count) := fnM L.F_p_is_count sc_p_is_count rfl fun cd A outer s H E rm =>
  (b_one (s_ret (v_and (v_call (G_p_is_integer L) (rm.less (by decide)) L.m_p_is_integer L.F_p_is_integer.kp (b_p_is_integer L) px_def (a_cons (v_var 0) a_nil)) (v_and1 (v_cmp op_ge ok_ge (v_var 0) v_int rfl)))))
theorem sc_c_Frame_hills : FnScope ["self"] ["self"] (defScope s_c_Frame_hills) := ⟨rfl, rfl, rfl, by decide +kernel, rfl, by decide +kernel, by decide +kernel⟩
theorem b_c_Frame_hills (L : Lf K mg) : Binds K L.d_c_Frame_hills ["self"] [] := L.F_c_Frame_hills.binds fun _ _ _ _ _ _ us hl => match us, hl with | [_], _ => rfl
theorem G_c_Frame_hills (L : Lf K mg) : FnG P w K mg base 1 L.a_c_Frame_hills L.d_c_Frame_hills ["self"] (SpM K mg 1 f_c_Frame_hills) := fnM L.F_c_Frame_hills sc_c_Frame_hills rfl fun cd A outer s H E rm =>
  (b_one (s_ret (v_op op_sub ok_sub (v_op op_sub ok_sub (v_callB call_lenAll ok_len rfl L.z_len rfl (a_cons (v_ix ix_all ok_ix (v_fld (fld_ok L) (v_var 0)) v_int (fun _ _ => rfl)) a_nil)) (v_ix ix_all ok_ix (v_fld (fld_ok L) (v_var 0)) v_int (fun _ _ => rfl))) v_int)))
theorem sc_p_common : FnScope ["high", "low"] ["high", "low"] (defScope s_p_common) := ⟨rfl, rfl, rfl, by decide +kernel, rfl, by decide +kernel, by decide +kernel⟩
theorem b_p_common (L : Lf K mg) : Binds K L.d_p_common ["high", "low"] [] := L.F_p_common.binds fun _ _ _ _ _ _ us hl => match us, hl with | [_, _], _ => rfl
theorem G_p_common (L : Lf K mg) : FnG P w K mg base 1 L.a_p_common L.d_p_common ["high", "low"] (SpM K mg 2 f_p_common) := fnM L.F_p_common sc_p_common rfl fun cd A outer s H E rm =>
  (b_cons (s_par 0 1 (a_cons (v_callB call_abs ok_abs rfl L.z_abs rfl (a_cons (v_var 0) a_nil)) (a_cons (v_callB call_abs ok_abs rfl L.z_abs rfl (a_cons (v_var 1) a_nil)) a_nil)) rfl sc_p_common.nd)
  (b_cons (s_while 100000 po_def (t_cmp op_gt ok_gt (v_var 1) v_int rfl) (b_one (s_par 0 1 (a_cons (v_var 1) (a_cons (v_op op_mod ok_mod (v_var 0) (v_var 1)) a_nil)) rfl sc_p_common.nd)))
  (b_one (s_ret (v_var 0)))))
theorem sc_p_ratio : FnScope ["top", "bottom", "same"] ["top", "bottom"] (defScope s_p_ratio) := ⟨rfl, rfl, rfl, by decide +kernel, rfl, by decide +kernel, by decide +kernel⟩
theorem b_p_ratio (L : Lf K mg) : Binds K L.d_p_ratio ["top", "bottom"] [] := L.F_p_ratio.binds fun _ _ _ _ _ _ us hl => match us, hl with | [_, _], _ => rfl
theorem G_p_ratio (L : Lf K mg) : FnG P w K mg base 2 L.a_p_ratio L.d_p_ratio ["top", "bottom"] (SpM K mg 2 f_p_ratio) := fnM L.F_p_ratio sc_p_ratio rfl fun cd A outer s H E rm =>
  (b_cons (s_if (t_cmp op_lt ok_lt (v_var 1) v_int rfl) (b_one (s_par 0 1 (a_cons (v_un un_neg ok_neg (v_var 0)) (a_cons (v_un un_neg ok_neg (v_var 1)) a_nil)) rfl sc_p_ratio.nd)) b_nil)
  (b_cons (s_set 2 (v_call (G_p_common L) (rm.less (by decide)) L.m_p_common L.F_p_common.kp (b_p_common L) px_def (a_cons (v_var 0) (a_cons (v_var 1) a_nil))) sc_p_ratio.nd)
  (b_one (s_ret (v_tup (a_cons (v_op op_fdivW ok_div (v_var 0) (v_var 2)) (a_cons (v_op op_fdivW ok_div (v_var 1) (v_var 2)) a_nil)))))))
theorem sc_p_times : FnScope ["one", "other"] ["one", "other"] (defScope s_p_times) := ⟨rfl, rfl, rfl, by decide +kernel, rfl, by decide +kernel, by decide +kernel⟩
theorem b_p_times (L : Lf K mg) : Binds K L.d_p_times ["one", "other"] [] := L.F_p_times.binds fun _ _ _ _ _ _ us hl => match us, hl with | [_, _], _ => rfl
theorem G_p_times (L : Lf K mg) : FnG P w K mg base 3 L.a_p_times L.d_p_times ["one", "other"] (SpM K mg 2 f_p_times) := fnM L.F_p_times sc_p_times rfl fun cd A outer s H E rm =>
  (b_one (s_ret (v_call (G_p_ratio L) (rm.less (by decide)) L.m_p_ratio L.F_p_ratio.kp (b_p_ratio L) px_def (a_cons (v_op op_mulAll ok_mul (v_ix ix_all ok_ix (v_var 0) v_int (fun _ _ => rfl)) (v_ix ix_all ok_ix (v_var 1) v_int (fun _ _ => rfl))) (a_cons (v_op op_mulAll ok_mul (v_ix ix_all ok_ix (v_var 0) v_int (fun _ _ => rfl)) (v_ix ix_all ok_ix (v_var 1) v_int (fun _ _ => rfl))) a_nil)))))
theorem sc_p_plus : FnScope ["one", "other"] ["one", "other"] (defScope s_p_plus) := ⟨rfl, rfl, rfl, by decide +kernel, rfl, by decide +kernel, by decide +kernel⟩
theorem b_p_plus (L : Lf K mg) : Binds K L.d_p_plus ["one", "other"] [] := L.F_p_plus.binds fun _ _ _ _ _ _ us hl => match us, hl with | [_, _], _ => rfl
theorem G_p_plus (L : Lf K mg) : FnG P w K mg base 3 L.a_p_plus L.d_p_plus ["one", "other"] (SpM K mg 2 f_p_plus) := fnM L.F_p_plus sc_p_plus rfl fun cd A outer s H E rm =>
  (b_one (s_ret (v_call (G_p_ratio L) (rm.less (by decide)) L.m_p_ratio L.F_p_ratio.kp (b_p_ratio L) px_def (a_cons (v_op op_addAll ok_add (v_op op_mulAll ok_mul (v_ix ix_all ok_ix (v_var 0) v_int (fun _ _ => rfl)) (v_ix ix_all ok_ix (v_var 1) v_int (fun _ _ => rfl))) (v_op op_mulAll ok_mul (v_ix ix_all ok_ix (v_var 1) v_int (fun _ _ => rfl)) (v_ix ix_all ok_ix (v_var 0) v_int (fun _ _ => rfl)))) (a_cons (v_op op_mulAll ok_mul (v_ix ix_all ok_ix (v_var 0) v_int (fun _ _ => rfl)) (v_ix ix_all ok_ix (v_var 1) v_int (fun _ _ => rfl))) a_nil)))))
theorem sc_p_total : FnScope ["rows", "found", "one"] ["rows"] (defScope s_p_total) := ⟨rfl, rfl, rfl, by decide +kernel, rfl, by decide +kernel, by decide +kernel⟩
theorem b_p_total (L : Lf K mg) : Binds K L.d_p_total ["rows"] [] := L.F_p_total.binds fun _ _ _ _ _ _ us hl => match us, hl with | [_], _ => rfl
theorem G_p_total (L : Lf K mg) : FnG P w K mg base 4 L.a_p_total L.d_p_total ["rows"] (SpM K mg 1 f_p_total) := fnM L.F_p_total sc_p_total rfl fun cd A outer s H E rm =>
  (b_cons (s_set 1 (v_gtup L.g_NONE L.gl_NONE rfl rfl L.gz_NONE L.gv_NONE) sc_p_total.nd)
  (b_cons (s_for po_def rfl (i_seq (v_var 0)) (pp_nm 2 sc_p_total.nd) (b_one (s_set 1 (v_call (G_p_plus L) (rm.less (by decide)) L.m_p_plus L.F_p_plus.kp (b_p_plus L) px_def (a_cons (v_var 1) (a_cons (v_var 2) a_nil))) sc_p_total.nd)))
  (b_one (s_ret (v_var 1)))))
theorem sc_p_joined : FnScope ["rows", "others", "one", "other"] ["rows", "others"] (defScope s_p_joined) := ⟨rfl, rfl, rfl, by decide +kernel, rfl, by decide +kernel, by decide +kernel⟩
theorem b_p_joined (L : Lf K mg) : Binds K L.d_p_joined ["rows", "others"] [] := L.F_p_joined.binds fun _ _ _ _ _ _ us hl => match us, hl with | [_, _], _ => rfl
theorem G_p_joined (L : Lf K mg) : FnG P w K mg base 5 L.a_p_joined L.d_p_joined ["rows", "others"] (SpM K mg 2 f_p_joined) := fnM L.F_p_joined sc_p_joined rfl fun cd A outer s H E rm =>
  (b_one (s_ret (v_call (G_p_total L) (rm.less (by decide)) L.m_p_total L.F_p_total.kp (b_p_total L) px_def (a_cons (v_fr (o_lc (own := [("one", 2), ("other", 3)]) rfl sc_p_joined.nd rfl (i_zip L.z_zip (a_cons (v_var 0) (a_cons (v_var 1) a_nil))) (blkOk_by (N := ["rows", "others", "one", "other"]) (sc := defScope s_p_joined) (by decide +kernel)) (fun _ _ _ _ _ => (pp_tp rfl (pp_cons (pp_nm 2 sc_p_joined.nd) (pp_cons (pp_nm 3 sc_p_joined.nd) pp_nil)))) (fun _ _ _ _ _ => ts_nil) (fun _ _ _ _ _ => (v_call (G_p_times L) (rm.less (by decide)) L.m_p_times L.F_p_times.kp (b_p_times L) px_0 (a_cons (v_var 2) (a_cons (v_var 3) a_nil)))))) a_nil))))
theorem sc_p_is_ratio : FnScope ["value"] ["value"] (defScope s_p_is_ratio) := ⟨rfl, rfl, rfl, by decide +kernel, rfl, by decide +kernel, by decide +kernel⟩
theorem b_p_is_ratio (L : Lf K mg) : Binds K L.d_p_is_ratio ["value"] [] := L.F_p_is_ratio.binds fun _ _ _ _ _ _ us hl => match us, hl with | [_], _ => rfl
theorem G_p_is_ratio (L : Lf K mg) : FnG P w K mg base 2 L.a_p_is_ratio L.d_p_is_ratio ["value"] (SpM K mg 1 f_p_is_ratio) := fnM L.F_p_is_ratio sc_p_is_ratio rfl fun cd A outer s H E rm =>
  (b_cons (s_if (t_w (w_or (t_not (t_val (v_callB call_isAll (ok_isA (tab_ok L)) rfl L.z_isinstance rfl (a_cons (v_var 0) (a_cons (v_bty L.z_tuple rfl) a_nil))))) (w_or (t_cmp (op_neAll rm.units) ok_ne (v_callB call_lenAll ok_len rfl L.z_len rfl (a_cons (v_var 0) a_nil)) v_int rfl) (w_or (t_not (t_val (v_call (G_p_is_integer L) (rm.less (by decide)) L.m_p_is_integer L.F_p_is_integer.kp (b_p_is_integer L) px_def (a_cons (v_ix ix_all ok_ix (v_var 0) v_int (fun _ _ => rfl)) a_nil)))) (w_or1 (t_not (t_val (v_call (G_p_is_integer L) (rm.less (by decide)) L.m_p_is_integer L.F_p_is_integer.kp (b_p_is_integer L) px_def (a_cons (v_ix ix_all ok_ix (v_var 0) v_int (fun _ _ => rfl)) a_nil))))))))) (b_one (s_ret v_bl)) b_nil)
  (b_one (s_ret (v_and (v_cmp op_gt ok_gt (v_ix ix_all ok_ix (v_var 0) v_int (fun _ _ => rfl)) v_int rfl) (v_and1 (v_cmp (op_eqAll rm.units) ok_eq (v_call (G_p_common L) (rm.less (by decide)) L.m_p_common L.F_p_common.kp (b_p_common L) px_def (a_cons (v_ix ix_all ok_ix (v_var 0) v_int (fun _ _ => rfl)) (a_cons (v_ix ix_all ok_ix (v_var 0) v_int (fun _ _ => rfl)) a_nil))) v_int rfl))))))
theorem sc_p_are_fractions : FnScope ["given", "many", "part"] ["given", "many"] (defScope s_p_are_fractions) := ⟨rfl, rfl, rfl, by decide +kernel, rfl, by decide +kernel, by decide +kernel⟩
theorem b_p_are_fractions (L : Lf K mg) : Binds K L.d_p_are_fractions ["given", "many"] [] := L.F_p_are_fractions.binds fun _ _ _ _ _ _ us hl => match us, hl with | [_, _], _ => rfl
theorem G_p_are_fractions (L : Lf K mg) : FnG P w K mg base 3 L.a_p_are_fractions L.d_p_are_fractions ["given", "many"] (SpM K mg 2 f_p_are_fractions) := fnM L.F_p_are_fractions sc_p_are_fractions rfl fun cd A outer s H E rm =>
  (b_one (s_ret (v_and (v_callB call_isAll (ok_isA (tab_ok L)) rfl L.z_isinstance rfl (a_cons (v_var 0) (a_cons (v_bty L.z_tuple rfl) a_nil))) (v_and (v_cmp (op_eqAll rm.units) ok_eq (v_callB call_lenAll ok_len rfl L.z_len rfl (a_cons (v_var 0) a_nil)) (v_var 1) rfl) (v_and1 (v_callB (cr_all rfl) ok_all rfl L.z_all rfl (a_cons (v_fr (o_lc (own := [("part", 2)]) rfl sc_p_are_fractions.nd rfl (i_seq (v_var 0)) (blkOk_by (N := ["given", "many", "part"]) (sc := defScope s_p_are_fractions) (by decide +kernel)) (fun _ _ _ _ _ => (pp_nm 2 sc_p_are_fractions.nd)) (fun _ _ _ _ _ => ts_nil) (fun _ _ _ _ _ => (v_call (G_p_is_ratio L) (rm.less (by decide)) L.m_p_is_ratio L.F_p_is_ratio.kp (b_p_is_ratio L) px_0 (a_cons (v_var 2) a_nil))))) a_nil)))))))
theorem sc_c_Frame_degree : FnScope ["self"] ["self"] (defScope s_c_Frame_degree) := ⟨rfl, rfl, rfl, by decide +kernel, rfl, by decide +kernel, by decide +kernel⟩
theorem b_c_Frame_degree (L : Lf K mg) : Binds K L.d_c_Frame_degree ["self"] [] := L.F_c_Frame_degree.binds fun _ _ _ _ _ _ us hl => match us, hl with | [_], _ => rfl
theorem G_c_Frame_degree (L : Lf K mg) : FnG P w K mg base 1 L.a_c_Frame_degree L.d_c_Frame_degree ["self"] (SpM K mg 1 f_c_Frame_degree) := fnM L.F_c_Frame_degree sc_c_Frame_degree rfl fun cd A outer s H E rm =>
  (b_one (s_ret (v_ix ix_all ok_ix (v_fld (fld_ok L) (v_var 0)) v_int (fun _ _ => rfl))))
theorem sc_c_Frame_knots : FnScope ["self"] ["self"] (defScope s_c_Frame_knots) := ⟨rfl, rfl, rfl, by decide +kernel, rfl, by decide +kernel, by decide +kernel⟩
theorem b_c_Frame_knots (L : Lf K mg) : Binds K L.d_c_Frame_knots ["self"] [] := L.F_c_Frame_knots.binds fun _ _ _ _ _ _ us hl => match us, hl with | [_], _ => rfl
theorem G_c_Frame_knots (L : Lf K mg) : FnG P w K mg base 1 L.a_c_Frame_knots L.d_c_Frame_knots ["self"] (SpM K mg 1 f_c_Frame_knots) := fnM L.F_c_Frame_knots sc_c_Frame_knots rfl fun cd A outer s H E rm =>
  (b_one (s_ret (v_ix ix_all ok_ix (v_fld (fld_ok L) (v_var 0)) v_int (fun _ _ => rfl))))
theorem sc_p_hill_at : FnScope ["knots", "index", "degree", "spot", "top", "bottom", "low", "high", "is_inside", "found", "rise", "part", "fall"] ["knots", "index", "degree", "spot"] (defScope s_p_hill_at) := ⟨rfl, rfl, rfl, by decide +kernel, rfl, by decide +kernel, by decide +kernel⟩
theorem b_p_hill_at (L : Lf K mg) : Binds K L.d_p_hill_at ["knots", "index", "degree", "spot"] [] := L.F_p_hill_at.binds fun _ _ _ _ _ _ us hl => match us, hl with | [_, _, _, _], _ => rfl
theorem G_p_hill_at (L : Lf K mg) : ∀ n : Nat, FnG P w K mg base (4 + n) L.a_p_hill_at L.d_p_hill_at ["knots", "index", "degree", "spot"] (SpM K mg 4 (f_p_hill_at n))
  | 0 => fnG_bad rfl
  | n + 1 => fnM L.F_p_hill_at sc_p_hill_at rfl fun cd A outer s H E rm =>
    have ih := G_p_hill_at L n
    have rm : Rm (4 + n) _ := rm
    (b_cons (s_unp (pt := (.tp [(.nm 4), (.nm 5)])) (v_var 3) (pp_tp rfl (pp_cons (pp_nm 4 sc_p_hill_at.nd) (pp_cons (pp_nm 5 sc_p_hill_at.nd) pp_nil))))
  (b_cons (s_if (t_cmp (op_eqAll rm.units) ok_eq (v_var 2) v_int rfl) (b_cons (s_par 6 7 (a_cons (v_op op_mulAll ok_mul (v_ix ix_all ok_ix (v_var 0) (v_var 1) (fun _ _ => rfl)) (v_var 5)) (a_cons (v_op op_mulAll ok_mul (v_ix ix_all ok_ix (v_var 0) (v_op op_addAll ok_add (v_var 1) v_int) (fun _ _ => rfl)) (v_var 5)) a_nil)) rfl sc_p_hill_at.nd)
  (b_cons (s_set 8 (v_if (t_cmp (op_eqAll rm.units) ok_eq (v_var 4) (v_op op_mulAll ok_mul (v_ix ix_all ok_ix (v_var 0) (v_un un_neg ok_neg v_int) (fun _ _ => rfl)) (v_var 5)) rfl) (v_chain op_lt ok_lt op_le ok_le (v_var 6) (v_var 4) (v_var 7)) (v_chain op_le ok_le op_lt ok_lt (v_var 6) (v_var 4) (v_var 7))) sc_p_hill_at.nd)
  (b_one (s_ret (v_if (t_val (v_var 8)) (v_gtup L.g_ONE L.gl_ONE rfl rfl L.gz_ONE L.gv_ONE) (v_gtup L.g_NONE L.gl_NONE rfl rfl L.gz_NONE L.gv_NONE)))))) b_nil)
  (b_cons (s_par 9 10 (a_cons (v_gtup L.g_NONE L.gl_NONE rfl rfl L.gz_NONE L.gv_NONE) (a_cons (v_op op_sub ok_sub (v_ix ix_all ok_ix (v_var 0) (v_op op_addAll ok_add (v_var 1) (v_var 2)) (fun _ _ => rfl)) (v_ix ix_all ok_ix (v_var 0) (v_var 1) (fun _ _ => rfl))) a_nil)) rfl sc_p_hill_at.nd)
  (b_cons (s_if (t_cmp op_gt ok_gt (v_var 10) v_int rfl) (b_cons (s_set 11 (v_call (G_p_ratio L) (rm.less (by omega)) L.m_p_ratio L.F_p_ratio.kp (b_p_ratio L) px_def (a_cons (v_op op_sub ok_sub (v_var 4) (v_op op_mulAll ok_mul (v_ix ix_all ok_ix (v_var 0) (v_var 1) (fun _ _ => rfl)) (v_var 5))) (a_cons (v_op op_mulAll ok_mul (v_var 10) (v_var 5)) a_nil))) sc_p_hill_at.nd)
  (b_one (s_set 9 (v_call (G_p_times L) (rm.less (by omega)) L.m_p_times L.F_p_times.kp (b_p_times L) px_def (a_cons (v_var 11) (a_cons (v_call (ih) (rm.less (by omega)) L.m_p_hill_at L.F_p_hill_at.kp (b_p_hill_at L) px_def (a_cons (v_var 0) (a_cons (v_var 1) (a_cons (v_op op_sub ok_sub (v_var 2) v_int) (a_cons (v_var 3) a_nil))))) a_nil))) sc_p_hill_at.nd))) b_nil)
  (b_cons (s_set 12 (v_op op_sub ok_sub (v_ix ix_all ok_ix (v_var 0) (v_op op_addAll ok_add (v_op op_addAll ok_add (v_var 1) (v_var 2)) v_int) (fun _ _ => rfl)) (v_ix ix_all ok_ix (v_var 0) (v_op op_addAll ok_add (v_var 1) v_int) (fun _ _ => rfl))) sc_p_hill_at.nd)
  (b_cons (s_if (t_cmp op_gt ok_gt (v_var 12) v_int rfl) (b_cons (s_set 11 (v_call (G_p_ratio L) (rm.less (by omega)) L.m_p_ratio L.F_p_ratio.kp (b_p_ratio L) px_def (a_cons (v_op op_sub ok_sub (v_op op_mulAll ok_mul (v_ix ix_all ok_ix (v_var 0) (v_op op_addAll ok_add (v_op op_addAll ok_add (v_var 1) (v_var 2)) v_int) (fun _ _ => rfl)) (v_var 5)) (v_var 4)) (a_cons (v_op op_mulAll ok_mul (v_var 12) (v_var 5)) a_nil))) sc_p_hill_at.nd)
  (b_one (s_set 9 (v_call (G_p_plus L) (rm.less (by omega)) L.m_p_plus L.F_p_plus.kp (b_p_plus L) px_def (a_cons (v_var 9) (a_cons (v_call (G_p_times L) (rm.less (by omega)) L.m_p_times L.F_p_times.kp (b_p_times L) px_def (a_cons (v_var 11) (a_cons (v_call (ih) (rm.less (by omega)) L.m_p_hill_at L.F_p_hill_at.kp (b_p_hill_at L) px_def (a_cons (v_var 0) (a_cons (v_op op_addAll ok_add (v_var 1) v_int) (a_cons (v_op op_sub ok_sub (v_var 2) v_int) (a_cons (v_var 3) a_nil))))) a_nil))) a_nil))) sc_p_hill_at.nd))) b_nil)
  (b_one (s_ret (v_var 9)))))))))
theorem sc_p_hills_at : FnScope ["frame", "spot", "hill"] ["frame", "spot"] (defScope s_p_hills_at) := ⟨rfl, rfl, rfl, by decide +kernel, rfl, by decide +kernel, by decide +kernel⟩
theorem b_p_hills_at (L : Lf K mg) : Binds K L.d_p_hills_at ["frame", "spot"] [] := L.F_p_hills_at.binds fun _ _ _ _ _ _ us hl => match us, hl with | [_, _], _ => rfl
theorem G_p_hills_at (L : Lf K mg) : FnG P w K mg base 13 L.a_p_hills_at L.d_p_hills_at ["frame", "spot"] (SpM K mg 2 f_p_hills_at) := fnM L.F_p_hills_at sc_p_hills_at rfl fun cd A outer s H E rm =>
  (b_one (s_ret (v_fr (o_lc (own := [("hill", 2)]) rfl sc_p_hills_at.nd rfl (i_range1 L.z_range (a_cons (v_prop (G_c_Frame_hills L) (rm.less (by decide)) L.c_Frame L.cl_Frame L.pr_c_Frame_hills (b_c_Frame_hills L) (v_var 0)) a_nil)) (blkOk_by (N := ["frame", "spot", "hill"]) (sc := defScope s_p_hills_at) (by decide +kernel)) (fun _ _ _ _ _ => (pp_nm 2 sc_p_hills_at.nd)) (fun _ _ _ _ _ => ts_nil) (fun _ _ _ _ _ => (v_call (G_p_hill_at L 8) (rm.less (by decide)) L.m_p_hill_at L.F_p_hill_at.kp (b_p_hill_at L) px_0 (a_cons (v_prop (G_c_Frame_knots L) (rm.less (by decide)) L.c_Frame L.cl_Frame L.pr_c_Frame_knots (b_c_Frame_knots L) (v_var 0)) (a_cons (v_var 2) (a_cons (v_prop (G_c_Frame_degree L) (rm.less (by decide)) L.c_Frame L.cl_Frame L.pr_c_Frame_degree (b_c_Frame_degree L) (v_var 0)) (a_cons (v_var 1) a_nil))))))))))
theorem sc_p_rows_at : FnScope ["frame", "places", "place"] ["frame", "places"] (defScope s_p_rows_at) := ⟨rfl, rfl, rfl, by decide +kernel, rfl, by decide +kernel, by decide +kernel⟩
theorem b_p_rows_at (L : Lf K mg) : Binds K L.d_p_rows_at ["frame", "places"] [] := L.F_p_rows_at.binds fun _ _ _ _ _ _ us hl => match us, hl with | [_, _], _ => rfl
theorem G_p_rows_at (L : Lf K mg) : FnG P w K mg base 14 L.a_p_rows_at L.d_p_rows_at ["frame", "places"] (SpM K mg 2 f_p_rows_at) := fnM L.F_p_rows_at sc_p_rows_at rfl fun cd A outer s H E rm =>
  (b_one (s_ret (v_fr (o_lc (own := [("place", 2)]) rfl sc_p_rows_at.nd rfl (i_seq (v_var 1)) (blkOk_by (N := ["frame", "places", "place"]) (sc := defScope s_p_rows_at) (by decide +kernel)) (fun _ _ _ _ _ => (pp_nm 2 sc_p_rows_at.nd)) (fun _ _ _ _ _ => ts_nil) (fun _ _ _ _ _ => (v_call (G_p_hills_at L) (rm.less (by decide)) L.m_p_hills_at L.F_p_hills_at.kp (b_p_hills_at L) px_0 (a_cons (v_var 0) (a_cons (v_call (G_p_ratio L) (rm.less (by decide)) L.m_p_ratio L.F_p_ratio.kp (b_p_ratio L) px_0 (a_cons (v_var 2) (a_cons v_int a_nil))) a_nil))))))))
theorem sc_p_shows_through : FnScope ["frame", "places", "heights", "paper", "rows", "row", "height"] ["frame", "places", "heights", "paper"] (defScope s_p_shows_through) := ⟨rfl, rfl, rfl, by decide +kernel, rfl, by decide +kernel, by decide +kernel⟩
theorem b_p_shows_through (L : Lf K mg) : Binds K L.d_p_shows_through ["frame", "places", "heights", "paper"] [] := L.F_p_shows_through.binds fun _ _ _ _ _ _ us hl => match us, hl with | [_, _, _, _], _ => rfl
theorem G_p_shows_through (L : Lf K mg) : FnG P w K mg base 15 L.a_p_shows_through L.d_p_shows_through ["frame", "places", "heights", "paper"] (SpM K mg 4 f_p_shows_through) := fnM L.F_p_shows_through sc_p_shows_through rfl fun cd A outer s H E rm =>
  (b_cons (s_if (t_not (t_val (v_call (G_p_are_fractions L) (rm.less (by decide)) L.m_p_are_fractions L.F_p_are_fractions.kp (b_p_are_fractions L) px_def (a_cons (v_var 3) (a_cons (v_prop (G_c_Frame_hills L) (rm.less (by decide)) L.c_Frame L.cl_Frame L.pr_c_Frame_hills (b_c_Frame_hills L) (v_var 0)) a_nil))))) (b_one (s_ret v_bl)) b_nil)
  (b_cons (s_set 4 (v_call (G_p_rows_at L) (rm.less (by decide)) L.m_p_rows_at L.F_p_rows_at.kp (b_p_rows_at L) px_def (a_cons (v_var 0) (a_cons (v_var 1) a_nil))) sc_p_shows_through.nd)
  (b_one (s_ret (v_callB (cr_all rfl) ok_all rfl L.z_all rfl (a_cons (v_fr (o_lc (own := [("row", 5), ("height", 6)]) rfl sc_p_shows_through.nd rfl (i_zip L.z_zip (a_cons (v_var 4) (a_cons (v_var 2) a_nil))) (blkOk_by (N := ["frame", "places", "heights", "paper", "rows", "row", "height"]) (sc := defScope s_p_shows_through) (by decide +kernel)) (fun _ _ _ _ _ => (pp_tp rfl (pp_cons (pp_nm 5 sc_p_shows_through.nd) (pp_cons (pp_nm 6 sc_p_shows_through.nd) pp_nil)))) (fun _ _ _ _ _ => ts_nil) (fun _ _ _ _ _ => (v_cmp (op_eqAll rm.units) ok_eq (v_call (G_p_joined L) (rm.less (by decide)) L.m_p_joined L.F_p_joined.kp (b_p_joined L) px_0 (a_cons (v_var 3) (a_cons (v_var 5) a_nil))) (v_call (G_p_ratio L) (rm.less (by decide)) L.m_p_ratio L.F_p_ratio.kp (b_p_ratio L) px_0 (a_cons (v_var 6) (a_cons v_int a_nil))) rfl)))) a_nil))))))
theorem sc_p_are_weights : FnScope ["given", "many", "part"] ["given", "many"] (defScope s_p_are_weights) := ⟨rfl, rfl, rfl, by decide +kernel, rfl, by decide +kernel, by decide +kernel⟩
theorem b_p_are_weights (L : Lf K mg) : Binds K L.d_p_are_weights ["given", "many"] [] := L.F_p_are_weights.binds fun _ _ _ _ _ _ us hl => match us, hl with | [_, _], _ => rfl
theorem G_p_are_weights (L : Lf K mg) : FnG P w K mg base 2 L.a_p_are_weights L.d_p_are_weights ["given", "many"] (SpM K mg 2 f_p_are_weights) := fnM L.F_p_are_weights sc_p_are_weights rfl fun cd A outer s H E rm =>
  (b_cons (s_if (t_w (w_or (t_not (t_val (v_callB call_isAll (ok_isA (tab_ok L)) rfl L.z_isinstance rfl (a_cons (v_var 0) (a_cons (v_bty L.z_tuple rfl) a_nil))))) (w_or (t_cmp (op_neAll rm.units) ok_ne (v_callB call_lenAll ok_len rfl L.z_len rfl (a_cons (v_var 0) a_nil)) (v_var 1) rfl) (w_or1 (t_not (t_val (v_callB (cr_all rfl) ok_all rfl L.z_all rfl (a_cons (v_fr (o_lc (own := [("part", 2)]) rfl sc_p_are_weights.nd rfl (i_seq (v_var 0)) (blkOk_by (N := ["given", "many", "part"]) (sc := defScope s_p_are_weights) (by decide +kernel)) (fun _ _ _ _ _ => (pp_nm 2 sc_p_are_weights.nd)) (fun _ _ _ _ _ => ts_nil) (fun _ _ _ _ _ => (v_call (G_p_is_integer L) (rm.less (by decide)) L.m_p_is_integer L.F_p_is_integer.kp (b_p_is_integer L) px_0 (a_cons (v_var 2) a_nil))))) a_nil)))))))) (b_one (s_ret v_bl)) b_nil)
  (b_one (s_ret (v_callB (cr_any rfl) ok_any rfl L.z_any rfl (a_cons (v_fr (o_lc (own := [("part", 2)]) rfl sc_p_are_weights.nd rfl (i_seq (v_var 0)) (blkOk_by (N := ["given", "many", "part"]) (sc := defScope s_p_are_weights) (by decide +kernel)) (fun _ _ _ _ _ => (pp_nm 2 sc_p_are_weights.nd)) (fun _ _ _ _ _ => ts_nil) (fun _ _ _ _ _ => (v_cmp (op_neAll rm.units) ok_ne (v_var 2) v_int rfl)))) a_nil)))))
theorem sc_p_weighed : FnScope ["weights", "parts", "weight"] ["weights", "parts"] (defScope s_p_weighed) := ⟨rfl, rfl, rfl, by decide +kernel, rfl, by decide +kernel, by decide +kernel⟩
theorem b_p_weighed (L : Lf K mg) : Binds K L.d_p_weighed ["weights", "parts"] [] := L.F_p_weighed.binds fun _ _ _ _ _ _ us hl => match us, hl with | [_, _], _ => rfl
theorem G_p_weighed (L : Lf K mg) : FnG P w K mg base 6 L.a_p_weighed L.d_p_weighed ["weights", "parts"] (SpM K mg 2 f_p_weighed) := fnM L.F_p_weighed sc_p_weighed rfl fun cd A outer s H E rm =>
  (b_one (s_ret (v_call (G_p_joined L) (rm.less (by decide)) L.m_p_joined L.F_p_joined.kp (b_p_joined L) px_def (a_cons (v_fr (o_lc (own := [("weight", 2)]) rfl sc_p_weighed.nd rfl (i_seq (v_var 0)) (blkOk_by (N := ["weights", "parts", "weight"]) (sc := defScope s_p_weighed) (by decide +kernel)) (fun _ _ _ _ _ => (pp_nm 2 sc_p_weighed.nd)) (fun _ _ _ _ _ => ts_nil) (fun _ _ _ _ _ => (v_call (G_p_ratio L) (rm.less (by decide)) L.m_p_ratio L.F_p_ratio.kp (b_p_ratio L) px_0 (a_cons (v_var 2) (a_cons v_int a_nil)))))) (a_cons (v_var 1) a_nil)))))
theorem sc_p_are_silent : FnScope ["weights", "rows", "hills", "hill", "row"] ["weights", "rows", "hills"] (defScope s_p_are_silent) := ⟨rfl, rfl, rfl, by decide +kernel, rfl, by decide +kernel, by decide +kernel⟩
theorem b_p_are_silent (L : Lf K mg) : Binds K L.d_p_are_silent ["weights", "rows", "hills"] [] := L.F_p_are_silent.binds fun _ _ _ _ _ _ us hl => match us, hl with | [_, _, _], _ => rfl
theorem G_p_are_silent (L : Lf K mg) : FnG P w K mg base 7 L.a_p_are_silent L.d_p_are_silent ["weights", "rows", "hills"] (SpM K mg 3 f_p_are_silent) := fnM L.F_p_are_silent sc_p_are_silent rfl fun cd A outer s H E rm =>
  (b_one (s_ret (v_callB (cr_all rfl) ok_all rfl L.z_all rfl (a_cons (v_fr (o_lc (own := [("hill", 3)]) rfl sc_p_are_silent.nd rfl (i_range1 L.z_range (a_cons (v_var 2) a_nil)) (blkOk_by (N := ["weights", "rows", "hills", "hill", "row"]) (sc := defScope s_p_are_silent) (by decide +kernel)) (fun _ _ _ _ _ => (pp_nm 3 sc_p_are_silent.nd)) (fun _ _ _ _ _ => ts_nil) (fun _ _ _ _ _ => (v_cmp (op_eqAll rm.units) ok_eq (v_call (G_p_weighed L) (rm.less (by decide)) L.m_p_weighed L.F_p_weighed.kp (b_p_weighed L) px_0 (a_cons (v_var 0) (a_cons (v_fr (o_lc (own := [("row", 4)]) rfl sc_p_are_silent.nd rfl (i_seq (v_var 1)) (blkOk_by (by kernel_rfl)) (fun _ _ _ _ _ => (pp_nm 4 sc_p_are_silent.nd)) (fun _ _ _ _ _ => ts_nil) (fun _ _ _ _ _ => (v_ix ix_all ok_ix (v_var 4) (v_var 3) (fun _ _ => rfl))))) a_nil))) (v_gtup L.g_NONE L.gl_NONE rfl rfl L.gz_NONE L.gv_NONE) rfl)))) a_nil))))
theorem sc_p_shows_never : FnScope ["frame", "places", "heights", "paper", "weight", "height"] ["frame", "places", "heights", "paper"] (defScope s_p_shows_never) := ⟨rfl, rfl, rfl, by decide +kernel, rfl, by decide +kernel, by decide +kernel⟩
theorem b_p_shows_never (L : Lf K mg) : Binds K L.d_p_shows_never ["frame", "places", "heights", "paper"] [] := L.F_p_shows_never.binds fun _ _ _ _ _ _ us hl => match us, hl with | [_, _, _, _], _ => rfl
theorem G_p_shows_never (L : Lf K mg) : FnG P w K mg base 15 L.a_p_shows_never L.d_p_shows_never ["frame", "places", "heights", "paper"] (SpM K mg 4 f_p_shows_never) := fnM L.F_p_shows_never sc_p_shows_never rfl fun cd A outer s H E rm =>
  (b_cons (s_if (t_w (w_or (t_not (t_val (v_call (G_p_are_weights L) (rm.less (by decide)) L.m_p_are_weights L.F_p_are_weights.kp (b_p_are_weights L) px_def (a_cons (v_var 3) (a_cons (v_callB call_lenAll ok_len rfl L.z_len rfl (a_cons (v_var 1) a_nil)) a_nil))))) (w_or1 (t_not (t_val (v_call (G_p_are_silent L) (rm.less (by decide)) L.m_p_are_silent L.F_p_are_silent.kp (b_p_are_silent L) px_def (a_cons (v_var 3) (a_cons (v_call (G_p_rows_at L) (rm.less (by decide)) L.m_p_rows_at L.F_p_rows_at.kp (b_p_rows_at L) px_def (a_cons (v_var 0) (a_cons (v_var 1) a_nil))) (a_cons (v_prop (G_c_Frame_hills L) (rm.less (by decide)) L.c_Frame L.cl_Frame L.pr_c_Frame_hills (b_c_Frame_hills L) (v_var 0)) a_nil))))))))) (b_one (s_ret v_bl)) b_nil)
  (b_one (s_ret (v_cmp (op_neAll rm.units) ok_ne (v_callB (cr_sumA rfl) ok_sumA rfl L.z_sum rfl (a_cons (v_fr (o_lc (own := [("weight", 4), ("height", 5)]) rfl sc_p_shows_never.nd rfl (i_zip L.z_zip (a_cons (v_var 3) (a_cons (v_var 2) a_nil))) (blkOk_by (N := ["frame", "places", "heights", "paper", "weight", "height"]) (sc := defScope s_p_shows_never) (by decide +kernel)) (fun _ _ _ _ _ => (pp_tp rfl (pp_cons (pp_nm 4 sc_p_shows_never.nd) (pp_cons (pp_nm 5 sc_p_shows_never.nd) pp_nil)))) (fun _ _ _ _ _ => ts_nil) (fun _ _ _ _ _ => (v_op op_mulAll ok_mul (v_var 4) (v_var 5))))) a_nil)) v_int rfl))))
theorem sc_p_is_pair : FnScope ["given", "hills", "many"] ["given", "hills", "many"] (defScope s_p_is_pair) := ⟨rfl, rfl, rfl, by decide +kernel, rfl, by decide +kernel, by decide +kernel⟩
theorem b_p_is_pair (L : Lf K mg) : Binds K L.d_p_is_pair ["given", "hills", "many"] [] := L.F_p_is_pair.binds fun _ _ _ _ _ _ us hl => match us, hl with | [_, _, _], _ => rfl
theorem G_p_is_pair (L : Lf K mg) : FnG P w K mg base 3 L.a_p_is_pair L.d_p_is_pair ["given", "hills", "many"] (SpM K mg 3 f_p_is_pair) := fnM L.F_p_is_pair sc_p_is_pair rfl fun cd A outer s H E rm =>
  (b_cons (s_if (t_w (w_or (t_not (t_val (v_callB call_isAll (ok_isA (tab_ok L)) rfl L.z_isinstance rfl (a_cons (v_var 0) (a_cons (v_bty L.z_tuple rfl) a_nil))))) (w_or1 (t_cmp (op_neAll rm.units) ok_ne (v_callB call_lenAll ok_len rfl L.z_len rfl (a_cons (v_var 0) a_nil)) v_int rfl)))) (b_one (s_ret v_bl)) b_nil)
  (b_one (s_ret (v_and (v_call (G_p_is_between L) (rm.less (by decide)) L.m_p_is_between L.F_p_is_between.kp (b_p_is_between L) px_def (a_cons (v_ix ix_all ok_ix (v_var 0) v_int (fun _ _ => rfl)) (a_cons v_int (a_cons (v_op op_sub ok_sub (v_var 1) v_int) a_nil)))) (v_and1 (v_call (G_p_is_between L) (rm.less (by decide)) L.m_p_is_between L.F_p_is_between.kp (b_p_is_between L) px_def (a_cons (v_ix ix_all ok_ix (v_var 0) v_int (fun _ _ => rfl)) (a_cons v_int (a_cons (v_op op_sub ok_sub (v_var 2) v_int) a_nil)))))))))
theorem sc_p_shows_rank : FnScope ["frame", "places", "number", "paper", "rows", "pair", "one", "other", "hill", "at"] ["frame", "places", "number", "paper"] (defScope s_p_shows_rank) := ⟨rfl, rfl, rfl, by decide +kernel, rfl, by decide +kernel, by decide +kernel⟩
theorem b_p_shows_rank (L : Lf K mg) : Binds K L.d_p_shows_rank ["frame", "places", "number", "paper"] [] := L.F_p_shows_rank.binds fun _ _ _ _ _ _ us hl => match us, hl with | [_, _, _, _], _ => rfl
theorem G_p_shows_rank (L : Lf K mg) : FnG P w K mg base 15 L.a_p_shows_rank L.d_p_shows_rank ["frame", "places", "number", "paper"] (SpM K mg 4 f_p_shows_rank) := fnM L.F_p_shows_rank sc_p_shows_rank rfl fun cd A outer s H E rm =>
  (b_cons (s_if (t_w (w_or (t_not (t_val (v_callB call_isAll (ok_isA (tab_ok L)) rfl L.z_isinstance rfl (a_cons (v_var 3) (a_cons (v_bty L.z_tuple rfl) a_nil))))) (w_or1 (t_cmp (op_neAll rm.units) ok_ne (v_callB call_lenAll ok_len rfl L.z_len rfl (a_cons (v_var 3) a_nil)) (v_var 2) rfl)))) (b_one (s_ret v_bl)) b_nil)
  (b_cons (s_if (t_not (t_val (v_callB (cr_all rfl) ok_all rfl L.z_all rfl (a_cons (v_fr (o_lc (own := [("pair", 5)]) rfl sc_p_shows_rank.nd rfl (i_seq (v_var 3)) (blkOk_by (N := ["frame", "places", "number", "paper", "rows", "pair", "one", "other", "hill", "at"]) (sc := defScope s_p_shows_rank) (by decide +kernel)) (fun _ _ _ _ _ => (pp_nm 5 sc_p_shows_rank.nd)) (fun _ _ _ _ _ => ts_nil) (fun _ _ _ _ _ => (v_call (G_p_is_pair L) (rm.less (by decide)) L.m_p_is_pair L.F_p_is_pair.kp (b_p_is_pair L) px_0 (a_cons (v_var 5) (a_cons (v_prop (G_c_Frame_hills L) (rm.less (by decide)) L.c_Frame L.cl_Frame L.pr_c_Frame_hills (b_c_Frame_hills L) (v_var 0)) (a_cons (v_callB call_lenAll ok_len rfl L.z_len rfl (a_cons (v_var 1) a_nil)) a_nil))))))) a_nil)))) (b_one (s_ret v_bl)) b_nil)
  (b_cons (s_if (t_not (t_val (v_callB (cr_all rfl) ok_all rfl L.z_all rfl (a_cons (v_fr (o_lc (own := [("one", 6), ("other", 7)]) rfl sc_p_shows_rank.nd rfl (i_zip L.z_zip (a_cons (v_var 3) (a_cons (v_slice sl_all ok_slice (v_var 3) (p_some v_int) p_none) a_nil))) (blkOk_by (N := ["frame", "places", "number", "paper", "rows", "pair", "one", "other", "hill", "at"]) (sc := defScope s_p_shows_rank) (by decide +kernel)) (fun _ _ _ _ _ => (pp_tp rfl (pp_cons (pp_nm 6 sc_p_shows_rank.nd) (pp_cons (pp_nm 7 sc_p_shows_rank.nd) pp_nil)))) (fun _ _ _ _ _ => ts_nil) (fun _ _ _ _ _ => (v_and (v_cmp op_lt ok_lt (v_ix ix_all ok_ix (v_var 6) v_int (fun _ _ => rfl)) (v_ix ix_all ok_ix (v_var 7) v_int (fun _ _ => rfl)) rfl) (v_and1 (v_cmp op_lt ok_lt (v_ix ix_all ok_ix (v_var 6) v_int (fun _ _ => rfl)) (v_ix ix_all ok_ix (v_var 7) v_int (fun _ _ => rfl)) rfl)))))) a_nil)))) (b_one (s_ret v_bl)) b_nil)
  (b_cons (s_set 4 (v_call (G_p_rows_at L) (rm.less (by decide)) L.m_p_rows_at L.F_p_rows_at.kp (b_p_rows_at L) px_def (a_cons (v_var 0) (a_cons (v_var 1) a_nil))) sc_p_shows_rank.nd)
  (b_one (s_ret (v_callB (cr_all rfl) ok_all rfl L.z_all rfl (a_cons (v_fr (o_lc (own := [("hill", 8), ("at", 9)]) rfl sc_p_shows_rank.nd rfl (i_seq (v_var 3)) (blkOk_by (N := ["frame", "places", "number", "paper", "rows", "pair", "one", "other", "hill", "at"]) (sc := defScope s_p_shows_rank) (by decide +kernel)) (fun _ _ _ _ _ => (pp_tp rfl (pp_cons (pp_nm 8 sc_p_shows_rank.nd) (pp_cons (pp_nm 9 sc_p_shows_rank.nd) pp_nil)))) (fun _ _ _ _ _ => ts_nil) (fun _ _ _ _ _ => (v_cmp (op_neAll rm.units) ok_ne (v_ix ix_all ok_ix (v_ix ix_all ok_ix (v_var 4) (v_var 9) (fun _ _ => rfl)) (v_var 8) (fun _ _ => rfl)) (v_gtup L.g_NONE L.gl_NONE rfl rfl L.gz_NONE L.gv_NONE) rfl)))) a_nil))))))))
theorem sc_p_are_in_steps : FnScope ["lots", "at", "lot", "later", "spot", "part", "other"] ["lots"] (defScope s_p_are_in_steps) := ⟨rfl, rfl, rfl, by decide +kernel, rfl, by decide +kernel, by decide +kernel⟩
theorem b_p_are_in_steps (L : Lf K mg) : Binds K L.d_p_are_in_steps ["lots"] [] := L.F_p_are_in_steps.binds fun _ _ _ _ _ _ us hl => match us, hl with | [_], _ => rfl
theorem G_p_are_in_steps (L : Lf K mg) : FnG P w K mg base 1 L.a_p_are_in_steps L.d_p_are_in_steps ["lots"] (SpM K mg 1 f_p_are_in_steps) := fnM L.F_p_are_in_steps sc_p_are_in_steps rfl fun cd A outer s H E rm =>
  (b_cons (s_for po_def rfl (i_enum L.z_enumerate (a_cons (v_var 0) a_nil)) (pp_tp rfl (pp_cons (pp_nm 1 sc_p_are_in_steps.nd) (pp_cons (pp_nm 2 sc_p_are_in_steps.nd) pp_nil))) (b_cons (s_set 3 (v_slice sl_all ok_slice (v_var 0) (p_some (v_op op_addAll ok_add (v_var 1) v_int)) p_none) sc_p_are_in_steps.nd)
  (b_one (s_if (t_not (t_val (v_callB (cr_any rfl) ok_any rfl L.z_any rfl (a_cons (v_fr (o_lc (own := [("spot", 4), ("part", 5)]) rfl sc_p_are_in_steps.nd rfl (i_enum L.z_enumerate (a_cons (v_var 2) a_nil)) (blkOk_by (N := ["lots", "at", "lot", "later", "spot", "part", "other"]) (sc := defScope s_p_are_in_steps) (by decide +kernel)) (fun _ _ _ _ _ => (pp_tp rfl (pp_cons (pp_nm 4 sc_p_are_in_steps.nd) (pp_cons (pp_nm 5 sc_p_are_in_steps.nd) pp_nil)))) (fun _ _ _ _ _ => ts_nil) (fun _ _ _ _ _ => (v_and (v_cmp (op_neAll rm.units) ok_ne (v_var 5) v_int rfl) (v_and1 (v_callB (cr_all rfl) ok_all rfl L.z_all rfl (a_cons (v_fr (o_lc (own := [("other", 6)]) rfl sc_p_are_in_steps.nd rfl (i_seq (v_var 3)) (blkOk_by (by kernel_rfl)) (fun _ _ _ _ _ => (pp_nm 6 sc_p_are_in_steps.nd)) (fun _ _ _ _ _ => ts_nil) (fun _ _ _ _ _ => (v_cmp (op_eqAll rm.units) ok_eq (v_ix ix_all ok_ix (v_var 6) (v_var 4) (fun _ _ => rfl)) v_int rfl)))) a_nil))))))) a_nil)))) (b_one (s_ret v_bl)) b_nil))))
  (b_one (s_ret v_bl)))
theorem sc_p_shows_below : FnScope ["frame", "places", "number", "paper", "rows", "weights"] ["frame", "places", "number", "paper"] (defScope s_p_shows_below) := ⟨rfl, rfl, rfl, by decide +kernel, rfl, by decide +kernel, by decide +kernel⟩
theorem b_p_shows_below (L : Lf K mg) : Binds K L.d_p_shows_below ["frame", "places", "number", "paper"] [] := L.F_p_shows_below.binds fun _ _ _ _ _ _ us hl => match us, hl with | [_, _, _, _], _ => rfl
theorem G_p_shows_below (L : Lf K mg) : FnG P w K mg base 15 L.a_p_shows_below L.d_p_shows_below ["frame", "places", "number", "paper"] (SpM K mg 4 f_p_shows_below) := fnM L.F_p_shows_below sc_p_shows_below rfl fun cd A outer s H E rm =>
  (b_cons (s_if (t_w (w_or (t_not (t_val (v_callB call_isAll (ok_isA (tab_ok L)) rfl L.z_isinstance rfl (a_cons (v_var 3) (a_cons (v_bty L.z_tuple rfl) a_nil))))) (w_or1 (t_cmp (op_neAll rm.units) ok_ne (v_callB call_lenAll ok_len rfl L.z_len rfl (a_cons (v_var 3) a_nil)) (v_callB (call_max2 rfl) ok_max rfl L.z_max rfl (a_cons v_int (a_cons (v_op op_sub ok_sub (v_callB call_lenAll ok_len rfl L.z_len rfl (a_cons (v_var 1) a_nil)) (v_var 2)) a_nil))) rfl)))) (b_one (s_ret v_bl)) b_nil)
  (b_cons (s_if (t_w (w_or (t_not (t_val (v_callB (cr_all rfl) ok_all rfl L.z_all rfl (a_cons (v_fr (o_lc (own := [("weights", 5)]) rfl sc_p_shows_below.nd rfl (i_seq (v_var 3)) (blkOk_by (N := ["frame", "places", "number", "paper", "rows", "weights"]) (sc := defScope s_p_shows_below) (by decide +kernel)) (fun _ _ _ _ _ => (pp_nm 5 sc_p_shows_below.nd)) (fun _ _ _ _ _ => ts_nil) (fun _ _ _ _ _ => (v_call (G_p_are_weights L) (rm.less (by decide)) L.m_p_are_weights L.F_p_are_weights.kp (b_p_are_weights L) px_0 (a_cons (v_var 5) (a_cons (v_callB call_lenAll ok_len rfl L.z_len rfl (a_cons (v_var 1) a_nil)) a_nil)))))) a_nil)))) (w_or1 (t_not (t_val (v_call (G_p_are_in_steps L) (rm.less (by decide)) L.m_p_are_in_steps L.F_p_are_in_steps.kp (b_p_are_in_steps L) px_def (a_cons (v_var 3) a_nil))))))) (b_one (s_ret v_bl)) b_nil)
  (b_cons (s_set 4 (v_call (G_p_rows_at L) (rm.less (by decide)) L.m_p_rows_at L.F_p_rows_at.kp (b_p_rows_at L) px_def (a_cons (v_var 0) (a_cons (v_var 1) a_nil))) sc_p_shows_below.nd)
  (b_one (s_ret (v_callB (cr_all rfl) ok_all rfl L.z_all rfl (a_cons (v_fr (o_lc (own := [("weights", 5)]) rfl sc_p_shows_below.nd rfl (i_seq (v_var 3)) (blkOk_by (N := ["frame", "places", "number", "paper", "rows", "weights"]) (sc := defScope s_p_shows_below) (by decide +kernel)) (fun _ _ _ _ _ => (pp_nm 5 sc_p_shows_below.nd)) (fun _ _ _ _ _ => ts_nil) (fun _ _ _ _ _ => (v_call (G_p_are_silent L) (rm.less (by decide)) L.m_p_are_silent L.F_p_are_silent.kp (b_p_are_silent L) px_0 (a_cons (v_var 5) (a_cons (v_var 4) (a_cons (v_prop (G_c_Frame_hills L) (rm.less (by decide)) L.c_Frame L.cl_Frame L.pr_c_Frame_hills (b_c_Frame_hills L) (v_var 0)) a_nil))))))) a_nil)))))))
theorem sc_p_is_less : FnScope ["one", "other"] ["one", "other"] (defScope s_p_is_less) := ⟨rfl, rfl, rfl, by decide +kernel, rfl, by decide +kernel, by decide +kernel⟩
theorem b_p_is_less (L : Lf K mg) : Binds K L.d_p_is_less ["one", "other"] [] := L.F_p_is_less.binds fun _ _ _ _ _ _ us hl => match us, hl with | [_, _], _ => rfl
theorem G_p_is_less (L : Lf K mg) : FnG P w K mg base 1 L.a_p_is_less L.d_p_is_less ["one", "other"] (SpM K mg 2 f_p_is_less) := fnM L.F_p_is_less sc_p_is_less rfl fun cd A outer s H E rm =>
  (b_one (s_ret (v_cmp op_lt ok_lt (v_op op_mulAll ok_mul (v_ix ix_all ok_ix (v_var 0) v_int (fun _ _ => rfl)) (v_ix ix_all ok_ix (v_var 1) v_int (fun _ _ => rfl))) (v_op op_mulAll ok_mul (v_ix ix_all ok_ix (v_var 1) v_int (fun _ _ => rfl)) (v_ix ix_all ok_ix (v_var 0) v_int (fun _ _ => rfl))) rfl)))
theorem sc_p_are_ascending : FnScope ["spots", "one", "other"] ["spots"] (defScope s_p_are_ascending) := ⟨rfl, rfl, rfl, by decide +kernel, rfl, by decide +kernel, by decide +kernel⟩
theorem b_p_are_ascending (L : Lf K mg) : Binds K L.d_p_are_ascending ["spots"] [] := L.F_p_are_ascending.binds fun _ _ _ _ _ _ us hl => match us, hl with | [_], _ => rfl
theorem G_p_are_ascending (L : Lf K mg) : FnG P w K mg base 2 L.a_p_are_ascending L.d_p_are_ascending ["spots"] (SpM K mg 1 f_p_are_ascending) := fnM L.F_p_are_ascending sc_p_are_ascending rfl fun cd A outer s H E rm =>
  (b_one (s_ret (v_callB (cr_all rfl) ok_all rfl L.z_all rfl (a_cons (v_fr (o_lc (own := [("one", 1), ("other", 2)]) rfl sc_p_are_ascending.nd rfl (i_zip L.z_zip (a_cons (v_var 0) (a_cons (v_slice sl_all ok_slice (v_var 0) (p_some v_int) p_none) a_nil))) (blkOk_by (N := ["spots", "one", "other"]) (sc := defScope s_p_are_ascending) (by decide +kernel)) (fun _ _ _ _ _ => (pp_tp rfl (pp_cons (pp_nm 1 sc_p_are_ascending.nd) (pp_cons (pp_nm 2 sc_p_are_ascending.nd) pp_nil)))) (fun _ _ _ _ _ => ts_nil) (fun _ _ _ _ _ => (v_call (G_p_is_less L) (rm.less (by decide)) L.m_p_is_less L.F_p_is_less.kp (b_p_is_less L) px_0 (a_cons (v_var 1) (a_cons (v_var 2) a_nil)))))) a_nil))))
theorem sc_p_shows_turns : FnScope ["frame", "amounts", "number", "paper", "heights", "spot", "height", "one", "other"] ["frame", "amounts", "number", "paper"] (defScope s_p_shows_turns) := ⟨rfl, rfl, rfl, by decide +kernel, rfl, by decide +kernel, by decide +kernel⟩
theorem b_p_shows_turns (L : Lf K mg) : Binds K L.d_p_shows_turns ["frame", "amounts", "number", "paper"] [] := L.F_p_shows_turns.binds fun _ _ _ _ _ _ us hl => match us, hl with | [_, _, _, _], _ => rfl
theorem G_p_shows_turns (L : Lf K mg) : FnG P w K mg base 14 L.a_p_shows_turns L.d_p_shows_turns ["frame", "amounts", "number", "paper"] (SpM K mg 4 f_p_shows_turns) := fnM L.F_p_shows_turns sc_p_shows_turns rfl fun cd A outer s H E rm =>
  (b_cons (s_if (t_w (w_or (t_not (t_val (v_call (G_p_are_fractions L) (rm.less (by decide)) L.m_p_are_fractions L.F_p_are_fractions.kp (b_p_are_fractions L) px_def (a_cons (v_var 1) (a_cons (v_prop (G_c_Frame_hills L) (rm.less (by decide)) L.c_Frame L.cl_Frame L.pr_c_Frame_hills (b_c_Frame_hills L) (v_var 0)) a_nil))))) (w_or (t_not (t_val (v_call (G_p_is_count L) (rm.less (by decide)) L.m_p_is_count L.F_p_is_count.kp (b_p_is_count L) px_def (a_cons (v_var 2) a_nil)))) (w_or1 (t_not (t_val (v_call (G_p_are_fractions L) (rm.less (by decide)) L.m_p_are_fractions L.F_p_are_fractions.kp (b_p_are_fractions L) px_def (a_cons (v_var 3) (a_cons (v_var 2) a_nil))))))))) (b_one (s_ret v_bl)) b_nil)
  (b_cons (s_setLc 4 (own := [("spot", 5)]) rfl sc_p_shows_turns.nd rfl (i_seq (v_var 3)) (blkOk_by (N := ["frame", "amounts", "number", "paper", "heights", "spot", "height", "one", "other"]) (sc := defScope s_p_shows_turns) (by decide +kernel)) (fun _ _ _ _ _ => (pp_nm 5 sc_p_shows_turns.nd)) (fun _ _ _ _ _ => ts_nil) (fun _ _ _ _ _ => (v_ix ix_all ok_ix (v_call (G_p_joined L) (rm.less (by decide)) L.m_p_joined L.F_p_joined.kp (b_p_joined L) px_0 (a_cons (v_var 1) (a_cons (v_call (G_p_hills_at L) (rm.less (by decide)) L.m_p_hills_at L.F_p_hills_at.kp (b_p_hills_at L) px_0 (a_cons (v_var 0) (a_cons (v_var 5) a_nil))) a_nil))) v_int (fun _ _ => rfl))))
  (b_cons (s_if (t_w (w_or (t_val (v_callB (cr_any rfl) ok_any rfl L.z_any rfl (a_cons (v_fr (o_lc (own := [("height", 6)]) rfl sc_p_shows_turns.nd rfl (i_seq (v_var 4)) (blkOk_by (N := ["frame", "amounts", "number", "paper", "heights", "spot", "height", "one", "other"]) (sc := defScope s_p_shows_turns) (by decide +kernel)) (fun _ _ _ _ _ => (pp_nm 6 sc_p_shows_turns.nd)) (fun _ _ _ _ _ => ts_nil) (fun _ _ _ _ _ => (v_cmp (op_eqAll rm.units) ok_eq (v_var 6) v_int rfl)))) a_nil))) (w_or1 (t_not (t_val (v_call (G_p_are_ascending L) (rm.less (by decide)) L.m_p_are_ascending L.F_p_are_ascending.kp (b_p_are_ascending L) px_def (a_cons (v_var 3) a_nil))))))) (b_one (s_ret v_bl)) b_nil)
  (b_one (s_ret (v_callB (cr_all rfl) ok_all rfl L.z_all rfl (a_cons (v_fr (o_lc (own := [("one", 7), ("other", 8)]) rfl sc_p_shows_turns.nd rfl (i_zip L.z_zip (a_cons (v_var 4) (a_cons (v_slice sl_all ok_slice (v_var 4) (p_some v_int) p_none) a_nil))) (blkOk_by (N := ["frame", "amounts", "number", "paper", "heights", "spot", "height", "one", "other"]) (sc := defScope s_p_shows_turns) (by decide +kernel)) (fun _ _ _ _ _ => (pp_tp rfl (pp_cons (pp_nm 7 sc_p_shows_turns.nd) (pp_cons (pp_nm 8 sc_p_shows_turns.nd) pp_nil)))) (fun _ _ _ _ _ => ts_nil) (fun _ _ _ _ _ => (v_cmp (op_neAll rm.units) ok_ne (v_cmp op_gt ok_gt (v_var 7) v_int rfl) (v_cmp op_gt ok_gt (v_var 8) v_int rfl) rfl)))) a_nil)))))))
theorem sc_p_accepts : FnScope ["claim", "paper", "word", "text", "given", "more", "frame"] ["claim", "paper"] (defScope s_p_accepts) := ⟨rfl, rfl, rfl, by decide +kernel, rfl, by decide +kernel, by decide +kernel⟩
theorem b_p_accepts (L : Lf K mg) : Binds K L.d_p_accepts ["claim", "paper"] [] := L.F_p_accepts.binds fun _ _ _ _ _ _ us hl => match us, hl with | [_, _], _ => rfl
theorem G_p_accepts (L : Lf K mg) : FnG P w K mg base 16 L.a_p_accepts L.d_p_accepts ["claim", "paper"] (SpM K mg 2 f_p_accepts) := fnM L.F_p_accepts sc_p_accepts rfl fun cd A outer s H E rm =>
  (b_cons (s_if (t_w (w_or (t_not (t_val (v_callB call_isAll (ok_isA (tab_ok L)) rfl L.z_isinstance rfl (a_cons (v_var 0) (a_cons (v_bty L.z_tuple rfl) a_nil))))) (w_or (t_cmp (op_neAll rm.units) ok_ne (v_callB call_lenAll ok_len rfl L.z_len rfl (a_cons (v_var 0) a_nil)) v_int rfl) (w_or1 (t_not (t_val (v_callB call_isAll (ok_isA (tab_ok L)) rfl L.z_isinstance rfl (a_cons (v_ix ix_all ok_ix (v_var 0) v_int (fun _ _ => rfl)) (a_cons (v_bty L.z_str rfl) a_nil))))))))) (b_one (s_ret v_bl)) b_nil)
  (b_cons (s_unp (pt := (.tp [(.nm 2), (.nm 3), (.nm 4), (.nm 5)])) (v_var 0) (pp_tp rfl (pp_cons (pp_nm 2 sc_p_accepts.nd) (pp_cons (pp_nm 3 sc_p_accepts.nd) (pp_cons (pp_nm 4 sc_p_accepts.nd) (pp_cons (pp_nm 5 sc_p_accepts.nd) pp_nil))))))
  (b_cons (s_set 6 (v_call (G_p_frame_in L) (rm.less (by decide)) L.m_p_frame_in L.F_p_frame_in.kp (b_p_frame_in L) px_def (a_cons (v_var 3) a_nil)) sc_p_accepts.nd)
  (b_cons (s_if (t_cmp op_isN ok_isN (v_var 6) v_non rfl) (b_one (s_ret v_bl)) b_nil)
  (b_cons (s_if (t_cmp (op_eqAll rm.units) ok_eq (v_var 2) v_str rfl) (b_one (s_ret (v_call (G_p_shows_turns L) (rm.less (by decide)) L.m_p_shows_turns L.F_p_shows_turns.kp (b_p_shows_turns L) px_def (a_cons (v_var 6) (a_cons (v_var 4) (a_cons (v_var 5) (a_cons (v_var 1) a_nil))))))) b_nil)
  (b_cons (s_if (t_cmp (op_neAll rm.units) ok_ne (v_call (G_p_places_fault L) (rm.less (by decide)) L.m_p_places_fault L.F_p_places_fault.kp (b_p_places_fault L) px_def (a_cons (v_var 4) a_nil)) (v_un un_neg ok_neg v_int) rfl) (b_one (s_ret v_bl)) b_nil)
  (b_cons (s_if (t_w (w_or (t_cmp (op_eqAll rm.units) ok_eq (v_var 2) v_str rfl) (w_or1 (t_cmp (op_eqAll rm.units) ok_eq (v_var 2) v_str rfl)))) (b_cons (s_if (t_not (t_val (v_call (G_p_is_count L) (rm.less (by decide)) L.m_p_is_count L.F_p_is_count.kp (b_p_is_count L) px_def (a_cons (v_var 5) a_nil)))) (b_one (s_ret v_bl)) b_nil)
  (b_one (s_ret (v_if (t_cmp (op_eqAll rm.units) ok_eq (v_var 2) v_str rfl) (v_call (G_p_shows_rank L) (rm.less (by decide)) L.m_p_shows_rank L.F_p_shows_rank.kp (b_p_shows_rank L) px_def (a_cons (v_var 6) (a_cons (v_var 4) (a_cons (v_var 5) (a_cons (v_var 1) a_nil))))) (v_call (G_p_shows_below L) (rm.less (by decide)) L.m_p_shows_below L.F_p_shows_below.kp (b_p_shows_below L) px_def (a_cons (v_var 6) (a_cons (v_var 4) (a_cons (v_var 5) (a_cons (v_var 1) a_nil))))))))) b_nil)
  (b_cons (s_if (t_w (w_or (t_cmp op_notIn_seq ok_notin (v_var 2) (v_tup (a_cons v_str (a_cons v_str a_nil))) rfl) (w_or1 (t_cmp (op_neAll rm.units) ok_ne (v_call (G_p_heights_fault L) (rm.less (by decide)) L.m_p_heights_fault L.F_p_heights_fault.kp (b_p_heights_fault L) px_def (a_cons (v_var 5) (a_cons (v_callB call_lenAll ok_len rfl L.z_len rfl (a_cons (v_var 4) a_nil)) a_nil))) (v_un un_neg ok_neg v_int) rfl)))) (b_one (s_ret v_bl)) b_nil)
  (b_one (s_ret (v_if (t_cmp (op_eqAll rm.units) ok_eq (v_var 2) v_str rfl) (v_call (G_p_shows_through L) (rm.less (by decide)) L.m_p_shows_through L.F_p_shows_through.kp (b_p_shows_through L) px_def (a_cons (v_var 6) (a_cons (v_var 4) (a_cons (v_var 5) (a_cons (v_var 1) a_nil))))) (v_call (G_p_shows_never L) (rm.less (by decide)) L.m_p_shows_never L.F_p_shows_never.kp (b_p_shows_never L) px_def (a_cons (v_var 6) (a_cons (v_var 4) (a_cons (v_var 5) (a_cons (v_var 1) a_nil))))))))))))))))
theorem sc_l_draw : FnScope ["_law_well_here", "_law_many", "_law_digit"] ["_law_well_here", "_law_many"] (defScope s_l_draw) := ⟨rfl, rfl, rfl, by decide +kernel, rfl, by decide +kernel, by decide +kernel⟩
theorem b_l_draw (L : Lf K mg) : Binds K L.d_l_draw ["_law_well_here", "_law_many"] [] := L.F_l_draw.binds fun _ _ _ _ _ _ us hl => match us, hl with | [_, _], _ => rfl
theorem G_l_draw (L : Lf K mg) : FnG P w K mg base 1 L.a_l_draw L.d_l_draw ["_law_well_here", "_law_many"] (SpM K mg 2 f_l_draw) := fnM L.F_l_draw sc_l_draw rfl fun cd A outer s H E rm =>
  (b_cons (s_if (t_cmp op_gt ok_gt (v_ix ix_all ok_ix (v_var 0) v_int (fun _ _ => rfl)) v_int rfl) (b_cons (s_asg (v_callB call_divmodB ok_divmod rfl L.z_divmod rfl (a_cons (v_ix ix_all ok_ix (v_var 0) v_int (fun _ _ => rfl)) (a_cons (v_var 1) a_nil))) (g_tup (n := 2) rfl (gs_cons (g_subC (v_var 0) v_int) (gs_cons (g_name 2 sc_l_draw.nd) gs_nil)) (lb_cons (ng_sub (nx_var 0) (nx_c _)) (lb_cons (ng_name 2) lb_nil))) (hno_of (ng_tup (ngs_cons (ng_sub (nx_var 0) (nx_c _)) (ngs_cons (ng_name 2) ngs_nil)))))
  (b_one (s_ret (v_var 2)))) b_nil)
  (b_cons (s_asg (v_op op_mod ok_mod (v_callTy call_int1 ok_toInt rfl L.z_int rfl (a_cons (v_op op_addAll ok_add (v_op op_mulAll ok_mul (v_ix ix_all ok_ix (v_var 0) v_int (fun _ _ => rfl)) v_int) v_int) a_nil)) v_int) (g_subC (v_var 0) v_int) (hno_of (ng_sub (nx_var 0) (nx_c _))))
  (b_one (s_ret (v_op op_mod ok_mod (v_callTy call_int1 ok_toInt rfl L.z_int rfl (a_cons (v_op op_fdivW ok_div (v_ix ix_all ok_ix (v_var 0) v_int (fun _ _ => rfl)) v_int) a_nil)) (v_var 1))))))
theorem sc_l_one : FnScope ["_law_well_here", "_law_things"] ["_law_well_here", "_law_things"] (defScope s_l_one) := ⟨rfl, rfl, rfl, by decide +kernel, rfl, by decide +kernel, by decide +kernel⟩
theorem b_l_one (L : Lf K mg) : Binds K L.d_l_one ["_law_well_here", "_law_things"] [] := L.F_l_one.binds fun _ _ _ _ _ _ us hl => match us, hl with | [_, _], _ => rfl
theorem G_l_one (L : Lf K mg) : FnG P w K mg base 2 L.a_l_one L.d_l_one ["_law_well_here", "_law_things"] (SpM K mg 2 f_l_one) := fnM L.F_l_one sc_l_one rfl fun cd A outer s H E rm =>
  (b_one (s_ret (v_ix ix_all ok_ix (v_var 1) (v_call (G_l_draw L) (rm.less (by decide)) L.m_l_draw L.F_l_draw.kp (b_l_draw L) px_def (a_cons (v_var 0) (a_cons (v_callB call_lenAll ok_len rfl L.z_len rfl (a_cons (v_var 1) a_nil)) a_nil))) (fun _ _ => rfl))))
theorem sc_l_bank : FnScope ["_law_tent", "_law_bowl", "_law_found"] [] (defScope s_l_bank) := ⟨rfl, rfl, rfl, by decide +kernel, rfl, by decide +kernel, by decide +kernel⟩
theorem b_l_bank (L : Lf K mg) : Binds K L.d_l_bank [] [] := L.F_l_bank.binds fun _ _ _ _ _ _ us hl => match us, hl with | [], _ => rfl
theorem G_l_bank (L : Lf K mg) : FnG P w K mg base 1 L.a_l_bank L.d_l_bank [] (SpM K mg 0 f_l_bank) := fnM L.F_l_bank sc_l_bank rfl fun cd A outer s H E rm =>
  (b_cons (s_unp (pt := (.tp [(.nm 0), (.nm 1)])) (v_tup (a_cons v_str (a_cons v_str a_nil))) (pp_tp rfl (pp_cons (pp_nm 0 sc_l_bank.nd) (pp_cons (pp_nm 1 sc_l_bank.nd) pp_nil))))
  (b_cons (s_setO 2 (o_lst (a_cons (v_fr (o_lst (a_cons (v_tup (a_cons v_str (a_cons (v_var 0) (a_cons (v_tup (a_cons v_int (a_cons v_int a_nil))) (a_cons (v_tup (a_cons v_int (a_cons v_int a_nil))) a_nil))))) (a_cons (v_tup (a_cons (v_tup (a_cons v_int (a_cons v_int a_nil))) (a_cons (v_tup (a_cons v_int (a_cons v_int a_nil))) a_nil))) a_nil)))) (a_cons (v_fr (o_lst (a_cons (v_tup (a_cons v_str (a_cons (v_var 0) (a_cons (v_tup (a_cons v_int (a_cons v_int a_nil))) (a_cons (v_tup (a_cons v_int (a_cons v_int a_nil))) a_nil))))) (a_cons (v_tup (a_cons v_int (a_cons (v_un un_neg ok_neg v_int) a_nil))) a_nil)))) a_nil))) sc_l_bank.nd)
  (b_cons (s_app 2 (v_fr (o_lst (a_cons (v_tup (a_cons v_str (a_cons (v_var 1) (a_cons (v_tup (a_cons v_int a_nil)) (a_cons (v_tup (a_cons v_int a_nil)) a_nil))))) (a_cons (v_tup (a_cons (v_tup (a_cons v_int (a_cons v_int a_nil))) (a_cons (v_tup (a_cons v_int (a_cons v_int a_nil))) (a_cons (v_tup (a_cons v_int (a_cons v_int a_nil))) a_nil)))) a_nil)))))
  (b_cons (s_app 2 (v_fr (o_lst (a_cons (v_tup (a_cons v_str (a_cons (v_var 0) (a_cons (v_tup (a_cons v_int (a_cons v_int a_nil))) (a_cons (v_tup (a_cons v_int (a_cons (v_un un_neg ok_neg v_int) a_nil))) a_nil))))) (a_cons (v_tup (a_cons v_int (a_cons v_int a_nil))) a_nil)))))
  (b_cons (s_fz 2 (s_setO 2 (o_cat (v_var 2) (v_fr (o_lst (a_cons (v_fr (o_lst (a_cons (v_tup (a_cons v_str (a_cons (v_var 0) (a_cons (v_tup (a_cons v_int (a_cons v_int a_nil))) (a_cons v_int a_nil))))) (a_cons (v_tup (a_cons (v_tup (a_cons v_int (a_cons v_int a_nil))) (a_cons (v_tup (a_cons v_int (a_cons v_int a_nil))) a_nil))) a_nil)))) (a_cons (v_fr (o_lst (a_cons (v_tup (a_cons v_str (a_cons (v_var 0) (a_cons (v_tup (a_cons v_int a_nil)) (a_cons v_int a_nil))))) (a_cons (v_tup a_nil) a_nil)))) a_nil))))) sc_l_bank.nd))
  (b_cons (s_app 2 (v_fr (o_lst (a_cons (v_tup (a_cons v_str (a_cons (v_var 1) (a_cons (v_tup (a_cons v_int (a_cons v_int (a_cons v_int a_nil)))) (a_cons v_int a_nil))))) (a_cons (v_tup (a_cons (v_tup (a_cons v_int (a_cons v_int a_nil))) (a_cons (v_tup (a_cons v_int (a_cons v_int a_nil))) (a_cons (v_tup (a_cons v_int (a_cons v_int a_nil))) a_nil)))) a_nil)))))
  (b_cons (s_fz 2 (s_setO 2 (o_cat (v_var 2) (v_fr (o_lst (a_cons (v_fr (o_lst (a_cons (v_tup (a_cons v_str (a_cons (v_var 0) (a_cons (v_tup (a_cons v_int (a_cons v_int a_nil))) (a_cons v_int a_nil))))) (a_cons (v_tup (a_cons (v_tup (a_cons v_int (a_cons (v_un un_neg ok_neg v_int) a_nil))) a_nil)) a_nil)))) (a_cons (v_fr (o_lst (a_cons (v_tup (a_cons v_str (a_cons (v_var 0) (a_cons (v_tup (a_cons v_int (a_cons v_int a_nil))) (a_cons v_int a_nil))))) (a_cons (v_tup a_nil) a_nil)))) a_nil))))) sc_l_bank.nd))
  (b_cons (s_app 2 (v_fr (o_lst (a_cons (v_tup (a_cons v_str (a_cons (v_var 0) (a_cons (v_tup (a_cons v_int (a_cons v_int a_nil))) (a_cons v_int a_nil))))) (a_cons (v_tup (a_cons (v_tup (a_cons v_int (a_cons v_int a_nil))) (a_cons (v_tup (a_cons v_int (a_cons v_int a_nil))) a_nil))) a_nil)))))
  (b_cons (s_app 2 (v_fr (o_lst (a_cons (v_tup (a_cons v_str (a_cons (v_var 1) (a_cons (v_tup (a_cons (v_tup (a_cons v_int (a_cons v_int a_nil))) (a_cons (v_tup (a_cons (v_un un_neg ok_neg v_int) (a_cons v_int a_nil))) (a_cons (v_tup (a_cons v_int (a_cons v_int a_nil))) a_nil)))) (a_cons v_int a_nil))))) (a_cons (v_tup (a_cons (v_tup (a_cons v_int (a_cons v_int a_nil))) (a_cons (v_tup (a_cons v_int (a_cons v_int a_nil))) (a_cons (v_tup (a_cons v_int (a_cons v_int a_nil))) a_nil)))) a_nil)))))
  (b_one (s_fz 2 (s_ret (v_op op_addAll ok_add (v_var 2) (v_fr (o_lst (a_cons (v_fr (o_lst (a_cons (v_tup (a_cons v_str (a_cons (v_var 0) (a_cons (v_tup (a_cons (v_tup (a_cons v_int (a_cons v_int a_nil))) (a_cons (v_tup (a_cons v_int (a_cons v_int a_nil))) a_nil))) (a_cons v_int a_nil))))) (a_cons (v_tup a_nil) a_nil)))) a_nil))))))))))))))))
theorem sc_l_words : FnScope [] [] (defScope s_l_words) := ⟨rfl, rfl, rfl, by decide +kernel, rfl, by decide +kernel, by decide +kernel⟩
theorem b_l_words (L : Lf K mg) : Binds K L.d_l_words [] [] := L.F_l_words.binds fun _ _ _ _ _ _ us hl => match us, hl with | [], _ => rfl
theorem G_l_words (L : Lf K mg) : FnG P w K mg base 1 L.a_l_words L.d_l_words [] (SpM K mg 0 f_l_words) := fnM L.F_l_words sc_l_words rfl fun cd A outer s H E rm =>
  (b_one (s_ret (v_fr (o_lst (a_cons v_str (a_cons v_str (a_cons v_str (a_cons v_str (a_cons v_str (a_cons v_non (a_cons v_int (a_cons (v_tup (a_cons v_str a_nil)) (a_cons (v_fr (o_lst (a_cons v_str a_nil))) (a_cons v_bl (a_cons v_str (a_cons v_str (a_cons v_str a_nil)))))))))))))))))
theorem sc_l_texts : FnScope ["_law_text", "_law_found"] ["_law_text"] (defScope s_l_texts) := ⟨rfl, rfl, rfl, by decide +kernel, rfl, by decide +kernel, by decide +kernel⟩
theorem b_l_texts (L : Lf K mg) : Binds K L.d_l_texts ["_law_text"] [] := L.F_l_texts.binds fun _ _ _ _ _ _ us hl => match us, hl with | [_], _ => rfl
theorem G_l_texts (L : Lf K mg) : FnG P w K mg base 7 L.a_l_texts L.d_l_texts ["_law_text"] (SpM K mg 1 f_l_texts) := fnM L.F_l_texts sc_l_texts rfl fun cd A outer s H E rm =>
  (b_cons (s_set 1 (v_fr (o_lst (a_consK (ek_op op_addAll ok_add (v_var 0) ek_str) (at_cons (et_of (v_op op_addAll ok_add v_str (v_var 0))) (at_cons (et_repl (v_var 0)) (at_cons (et_repl (v_var 0)) (at_of (a_cons (v_op op_addAll ok_add (v_var 0) v_str) (a_cons (v_op op_addAll ok_add (v_var 0) v_str) a_nil))))))))) sc_l_texts.nd)
  (b_cons (s_set 1 (v_op op_addAll ok_add (v_var 1) (v_fr (o_lst (a_cons v_str (a_cons v_str (a_cons v_str (a_cons v_str (a_cons v_str (a_cons v_non (a_cons v_int a_nil)))))))))) sc_l_texts.nd)
  (b_cons (s_set 1 (v_op op_addAll ok_add (v_var 1) (v_fr (o_lst (a_cons v_str (a_cons v_str (a_cons v_str (a_cons (v_op op_addAll ok_add (v_var 0) v_str) (a_cons v_dict0 a_nil)))))))) sc_l_texts.nd)
  (b_cons (s_set 1 (v_op op_addAll ok_add (v_var 1) (v_fr (o_lst (a_cons v_str (a_cons v_str (a_cons v_str (a_cons (v_fr (o_lst (a_cons (v_var 0) a_nil))) a_nil))))))) sc_l_texts.nd)
  (b_one (s_ret (v_op op_addAll ok_add (v_var 1) (v_fr (o_lst (a_cons (v_cmeth (G_c_Frame_read L) (rm.less (by decide)) px_def L.c_Frame L.cr_c_Frame_read L.cm_c_Frame_read (b_c_Frame_read L) (a_cons (v_var 0) a_nil)) (a_cons (v_tup (a_cons (v_var 0) a_nil)) (a_cons (v_op op_addAll ok_add v_str (v_op op_mulS ok_mulS v_str v_int)) (a_cons (v_op op_addAll ok_add (v_var 0) v_str) (a_cons v_bl (a_cons v_str a_nil)))))))))))))))
theorem sc_l_thirds : FnScope ["_law_word", "_law_third", "_law_found", "_law_part", "_law_each"] ["_law_word", "_law_third"] (defScope s_l_thirds) := ⟨rfl, rfl, rfl, by decide +kernel, rfl, by decide +kernel, by decide +kernel⟩
theorem b_l_thirds (L : Lf K mg) : Binds K L.d_l_thirds ["_law_word", "_law_third"] [] := L.F_l_thirds.binds fun _ _ _ _ _ _ us hl => match us, hl with | [_, _], _ => rfl
theorem G_l_thirds (L : Lf K mg) : FnG P w K mg base 1 L.a_l_thirds L.d_l_thirds ["_law_word", "_law_third"] (SpM K mg 2 f_l_thirds) := fnM L.F_l_thirds sc_l_thirds rfl fun cd A outer s H E rm =>
  (b_cons (s_if (t_cmp (op_eqAll rm.units) ok_eq (v_var 0) v_str rfl) (b_cons (s_set 2 (v_fr (o_lst (a_cons (v_slice sl_all ok_slice (v_var 1) (p_some v_int) p_none) (a_cons (v_op op_addAll ok_add (v_var 1) (v_tup (a_cons (v_tup (a_cons v_int (a_cons v_int a_nil))) a_nil))) (a_cons (v_callTy call_list_of ok_list rfl L.z_list rfl (a_cons (v_var 1) a_nil)) (a_cons v_non (a_cons (v_tup a_nil) (a_cons v_int (a_cons (v_callTy call_tupleB ok_tuple rfl L.z_tuple rfl (a_cons (v_fr (o_lc (own := [("_law_part", 3)]) rfl sc_l_thirds.nd rfl (i_seq (v_var 1)) (blkOk_by (N := ["_law_word", "_law_third", "_law_found", "_law_part", "_law_each"]) (sc := defScope s_l_thirds) (by decide +kernel)) (fun _ _ _ _ _ => (pp_nm 3 sc_l_thirds.nd)) (fun _ _ _ _ _ => ts_nil) (fun _ _ _ _ _ => v_int))) a_nil)) (a_cons (v_tup (a_cons (v_var 1) a_nil)) a_nil)))))))))) sc_l_thirds.nd)
  (b_one (s_ret (v_op op_addAll ok_add (v_var 2) (v_fr (o_lc (own := [("_law_each", 4)]) rfl sc_l_thirds.nd rfl (i_seq (v_fr (o_lst (a_cons (v_tup (a_cons v_int (a_cons v_int a_nil))) (a_cons (v_tup (a_cons v_int (a_cons v_int a_nil))) (a_cons (v_tup (a_cons v_int (a_cons (v_un un_neg ok_neg v_int) a_nil))) (a_cons (v_tup (a_cons v_int (a_cons v_int a_nil))) (a_cons (v_fr (o_lst (a_cons v_int (a_cons v_int a_nil)))) (a_cons (v_tup (a_cons v_bl (a_cons v_int a_nil))) (a_cons (v_tup (a_cons v_int a_nil)) (a_cons v_non a_nil))))))))))) (blkOk_by (N := ["_law_word", "_law_third", "_law_found", "_law_part", "_law_each"]) (sc := defScope s_l_thirds) (by decide +kernel)) (fun _ _ _ _ _ => (pp_nm 4 sc_l_thirds.nd)) (fun _ _ _ _ _ => ts_nil) (fun _ _ _ _ _ => (v_op op_addAll ok_add (v_slice sl_all ok_slice (v_var 1) (p_some v_int) p_none) (v_tup (a_cons (v_var 4) a_nil)))))))))) b_nil)
  (b_cons (s_set 2 (v_fr (o_lst (a_cons (v_tup a_nil) (a_cons (v_callTy call_list_of ok_list rfl L.z_list rfl (a_cons (v_var 1) a_nil)) (a_cons v_non (a_cons v_int (a_cons (v_op op_addAll ok_add (v_slice sl_all ok_slice (v_var 1) p_none (p_some (v_un un_neg ok_neg v_int))) (v_tup (a_cons (v_un un_neg ok_neg v_int) a_nil))) (a_cons (v_op op_addAll ok_add (v_slice sl_all ok_slice (v_var 1) p_none (p_some (v_un un_neg ok_neg v_int))) (v_tup (a_cons (v_op op_addAll ok_add (v_op op_pow ok_pow v_int v_int) v_int) a_nil))) (a_cons (v_op op_addAll ok_add (v_var 1) (v_slice sl_all ok_slice (v_var 1) (p_some (v_un un_neg ok_neg v_int)) p_none)) (a_cons v_dict0 (a_cons (v_tup (a_cons (v_var 1) a_nil)) a_nil))))))))))) sc_l_thirds.nd)
  (b_one (s_ret (v_op op_addAll ok_add (v_var 2) (v_fr (o_lst (a_cons (v_op op_addAll ok_add (v_tup (a_cons (v_op op_pow ok_pow v_int v_int) a_nil)) (v_var 1)) (a_cons (v_op op_addAll ok_add (v_var 1) (v_tup (a_cons v_bl a_nil))) (a_cons (v_op op_addAll ok_add (v_var 1) (v_tup (a_cons v_str a_nil))) (a_cons (v_op op_addAll ok_add (v_tup (a_cons v_non a_nil)) (v_var 1)) (a_cons (v_tupRg v_int L.z_tuple L.z_range rfl) (a_cons (v_tup (a_cons v_bl a_nil)) a_nil)))))))))))))
theorem sc_l_fourths : FnScope ["_law_word", "_law_fourth", "_law_found", "_law_each"] ["_law_word", "_law_fourth"] (defScope s_l_fourths) := ⟨rfl, rfl, rfl, by decide +kernel, rfl, by decide +kernel, by decide +kernel⟩
theorem b_l_fourths (L : Lf K mg) : Binds K L.d_l_fourths ["_law_word", "_law_fourth"] [] := L.F_l_fourths.binds fun _ _ _ _ _ _ us hl => match us, hl with | [_, _], _ => rfl
theorem G_l_fourths (L : Lf K mg) : FnG P w K mg base 1 L.a_l_fourths L.d_l_fourths ["_law_word", "_law_fourth"] (SpM K mg 2 f_l_fourths) := fnM L.F_l_fourths sc_l_fourths rfl fun cd A outer s H E rm =>
  (b_cons (s_if (t_cmp op_in_seq ok_in (v_var 0) (v_fr (o_lst (a_cons v_str (a_cons v_str (a_cons v_str a_nil))))) rfl) (b_one (s_ret (v_fr (o_lst (a_cons (v_un un_neg ok_neg v_int) (a_cons v_bl (a_cons v_bl (a_cons v_non (a_cons (v_callTy call_str_int ok_str rfl L.z_str rfl (a_cons (v_var 1) a_nil)) (a_cons (v_tup (a_cons (v_var 1) a_nil)) (a_cons (v_fr (o_lst (a_cons (v_var 1) a_nil))) (a_cons v_str (a_cons v_dict0 (a_cons (v_tup a_nil) a_nil)))))))))))))) b_nil)
  (b_cons (s_set 2 (v_fr (o_lst (a_cons (v_slice sl_all ok_slice (v_var 1) (p_some v_int) p_none) (a_cons (v_op op_addAll ok_add (v_var 1) (v_tup (a_cons v_int a_nil))) (a_cons (v_callTy call_list_of ok_list rfl L.z_list rfl (a_cons (v_var 1) a_nil)) (a_cons v_non (a_cons v_int (a_cons (v_op op_addAll ok_add (v_slice sl_all ok_slice (v_var 1) p_none (p_some (v_un un_neg ok_neg v_int))) (v_tup (a_cons (v_op op_addAll ok_add (v_op op_pow ok_pow v_int v_int) v_int) a_nil))) (a_cons (v_tup a_nil) (a_cons v_dict0 (a_cons (v_tup (a_cons (v_var 1) a_nil)) a_nil))))))))))) sc_l_fourths.nd)
  (b_one (s_ret (v_op op_addAll ok_add (v_var 2) (v_fr (o_lc (own := [("_law_each", 3)]) rfl sc_l_fourths.nd rfl (i_seq (v_fr (o_lst (a_cons (v_op op_sub ok_sub (v_un un_neg ok_neg (v_op op_pow ok_pow v_int v_int)) v_int) (a_cons v_bl (a_cons v_bl (a_cons v_non (a_cons v_str (a_cons (v_tup (a_cons v_int a_nil)) (a_cons (v_tup (a_cons v_int (a_cons v_int a_nil))) (a_cons (v_fr (o_lst (a_cons v_int a_nil))) a_nil))))))))))) (blkOk_by (N := ["_law_word", "_law_fourth", "_law_found", "_law_each"]) (sc := defScope s_l_fourths) (by decide +kernel)) (fun _ _ _ _ _ => (pp_nm 3 sc_l_fourths.nd)) (fun _ _ _ _ _ => ts_nil) (fun _ _ _ _ _ => (v_op op_addAll ok_add (v_slice sl_all ok_slice (v_var 1) p_none (p_some (v_un un_neg ok_neg v_int))) (v_tup (a_cons (v_var 3) a_nil)))))))))))
theorem sc_l_none : FnScope ["_law_well_here", "_law_said", "_law_way"] ["_law_well_here", "_law_said"] (defScope s_l_none) := ⟨rfl, rfl, rfl, by decide +kernel, rfl, by decide +kernel, by decide +kernel⟩
theorem b_l_none (L : Lf K mg) : Binds K L.d_l_none ["_law_well_here", "_law_said"] [] := L.F_l_none.binds fun _ _ _ _ _ _ us hl => match us, hl with | [_, _], _ => rfl
theorem G_l_none (L : Lf K mg) : FnG P w K mg base 8 L.a_l_none L.d_l_none ["_law_well_here", "_law_said"] (SpM K mg 2 f_l_none) := fnM L.F_l_none sc_l_none rfl fun cd A outer s H E rm =>
  (b_cons (s_set 2 (v_call (G_l_draw L) (rm.less (by decide)) L.m_l_draw L.F_l_draw.kp (b_l_draw L) px_def (a_cons (v_var 0) (a_cons v_int a_nil))) sc_l_none.nd)
  (b_cons (s_if (t_cmp (op_eqAll rm.units) ok_eq (v_var 2) v_int rfl) (b_one (s_ret (v_op op_addAll ok_add (v_tup (a_cons (v_call (G_l_one L) (rm.less (by decide)) L.m_l_one L.F_l_one.kp (b_l_one L) px_def (a_cons (v_var 0) (a_cons (v_call0 (G_l_words L) (rm.less (by decide)) L.m_l_words L.F_l_words.kp (b_l_words L) px_def) a_nil))) a_nil)) (v_slice sl_all ok_slice (v_var 1) (p_some v_int) p_none)))) b_nil)
  (b_cons (s_if (t_cmp (op_eqAll rm.units) ok_eq (v_var 2) v_int rfl) (b_one (s_ret (v_op op_addAll ok_add (v_op op_addAll ok_add (v_slice sl_all ok_slice (v_var 1) p_none (p_some v_int)) (v_tup (a_cons (v_call (G_l_one L) (rm.less (by decide)) L.m_l_one L.F_l_one.kp (b_l_one L) px_def (a_cons (v_var 0) (a_cons (v_call (G_l_texts L) (rm.less (by decide)) L.m_l_texts L.F_l_texts.kp (b_l_texts L) px_def (a_cons (v_ix ix_all ok_ix (v_var 1) v_int (fun _ _ => rfl)) a_nil)) a_nil))) a_nil))) (v_slice sl_all ok_slice (v_var 1) (p_some v_int) p_none)))) b_nil)
  (b_cons (s_if (t_cmp (op_eqAll rm.units) ok_eq (v_var 2) v_int rfl) (b_one (s_ret (v_op op_addAll ok_add (v_op op_addAll ok_add (v_slice sl_all ok_slice (v_var 1) p_none (p_some v_int)) (v_tup (a_cons (v_call (G_l_one L) (rm.less (by decide)) L.m_l_one L.F_l_one.kp (b_l_one L) px_def (a_cons (v_var 0) (a_cons (v_call (G_l_thirds L) (rm.less (by decide)) L.m_l_thirds L.F_l_thirds.kp (b_l_thirds L) px_def (a_cons (v_ix ix_all ok_ix (v_var 1) v_int (fun _ _ => rfl)) (a_cons (v_ix ix_all ok_ix (v_var 1) v_int (fun _ _ => rfl)) a_nil))) a_nil))) a_nil))) (v_slice sl_all ok_slice (v_var 1) (p_some v_int) p_none)))) b_nil)
  (b_cons (s_if (t_cmp (op_eqAll rm.units) ok_eq (v_var 2) v_int rfl) (b_one (s_ret (v_op op_addAll ok_add (v_slice sl_all ok_slice (v_var 1) p_none (p_some v_int)) (v_tup (a_cons (v_call (G_l_one L) (rm.less (by decide)) L.m_l_one L.F_l_one.kp (b_l_one L) px_def (a_cons (v_var 0) (a_cons (v_call (G_l_fourths L) (rm.less (by decide)) L.m_l_fourths L.F_l_fourths.kp (b_l_fourths L) px_def (a_cons (v_ix ix_all ok_ix (v_var 1) v_int (fun _ _ => rfl)) (a_cons (v_ix ix_all ok_ix (v_var 1) v_int (fun _ _ => rfl)) a_nil))) a_nil))) a_nil))))) b_nil)
  (b_one (s_ret (v_call (G_l_one L) (rm.less (by decide)) L.m_l_one L.F_l_one.kp (b_l_one L) px_def (a_cons (v_var 0) (a_cons (v_fr (o_lst (a_cons (v_slice sl_all ok_slice (v_var 1) p_none (p_some v_int)) (a_cons (v_op op_addAll ok_add (v_var 1) (v_tup (a_cons v_int a_nil))) (a_cons (v_callTy call_list_of ok_list rfl L.z_list rfl (a_cons (v_var 1) a_nil)) (a_cons (v_tup (a_cons (v_var 1) a_nil)) (a_cons (v_slice sl_all ok_slice (v_var 1) (p_some v_int) p_none) (a_cons v_non (a_cons (v_ix ix_all ok_ix (v_var 1) v_int (fun _ _ => rfl)) (a_cons v_int (a_cons v_dict0 (a_cons (v_op op_addAll ok_add (v_var 1) (v_tup (a_cons (v_tup a_nil) a_nil))) (a_cons (v_tup a_nil) a_nil))))))))))))) a_nil))))))))))
theorem sc_l_right : FnScope ["_law_well_here", "_law_bank_here", "_law_turn", "_law_said", "_law_proof", "_law_odd", "_law_told", "_law_pair"] ["_law_well_here"] (defScope s_l_right) := ⟨rfl, rfl, rfl, by decide +kernel, rfl, by decide +kernel, by decide +kernel⟩
theorem b_l_right (L : Lf K mg) : Binds K L.d_l_right ["_law_well_here"] [] := L.F_l_right.binds fun _ _ _ _ _ _ us hl => match us, hl with | [_], _ => rfl
theorem G_l_right (L : Lf K mg) : FnG P w K mg base 17 L.a_l_right L.d_l_right ["_law_well_here"] (SpM K mg 1 f_l_right) := fnM L.F_l_right sc_l_right rfl fun cd A outer s H E rm =>
  (b_cons (s_set 1 (v_call0 (G_l_bank L) (rm.less (by decide)) L.m_l_bank L.F_l_bank.kp (b_l_bank L) px_def) sc_l_right.nd)
  (b_cons (s_if (t_cmp (op_neL rm.units) ok_neL (v_fr (o_lc (own := [("_law_pair", 7)]) rfl sc_l_right.nd rfl (i_seq (v_var 1)) (blkOk_by (N := ["_law_well_here", "_law_bank_here", "_law_turn", "_law_said", "_law_proof", "_law_odd", "_law_told", "_law_pair"]) (sc := defScope s_l_right) (by decide +kernel)) (fun _ _ _ _ _ => (pp_nm 7 sc_l_right.nd)) (fun _ _ _ _ _ => (ts_one (t_cmp op_notBl ok_notT2 (v_call (G_p_accepts L) (rm.less (by decide)) L.m_p_accepts L.F_p_accepts.kp (b_p_accepts L) px_0 (a_cons (v_ix ix_all ok_ix (v_var 7) v_int (fun _ _ => rfl)) (a_cons (v_ix ix_all ok_ix (v_var 7) v_int (fun _ _ => rfl)) a_nil))) v_bl rfl))) (fun _ _ _ _ _ => (v_var 7)))) (v_fr (o_lst a_nil)) rfl) (b_one (s_ret v_bl)) b_nil)
  (b_cons (s_for po_def rfl (i_range1 L.z_range (a_cons v_int a_nil)) (pp_nm 2 sc_l_right.nd) (b_cons (s_unp (pt := (.tp [(.nm 3), (.nm 4)])) (v_call (G_l_one L) (rm.less (by decide)) L.m_l_one L.F_l_one.kp (b_l_one L) px_def (a_cons (v_var 0) (a_cons (v_var 1) a_nil))) (pp_tp rfl (pp_cons (pp_nm 3 sc_l_right.nd) (pp_cons (pp_nm 4 sc_l_right.nd) pp_nil))))
  (b_cons (s_set 5 (v_call (G_l_none L) (rm.less (by decide)) L.m_l_none L.F_l_none.kp (b_l_none L) px_def (a_cons (v_var 0) (a_cons (v_var 3) a_nil))) sc_l_right.nd)
  (b_cons (s_set 6 (v_fr (o_lst (a_cons (v_call (G_p_accepts L) (rm.less (by decide)) L.m_p_accepts L.F_p_accepts.kp (b_p_accepts L) px_def (a_cons (v_var 5) (a_cons (v_var 4) a_nil))) (a_cons (v_callK0 (G_p_accepts L) (rm.less (by decide)) L.m_p_accepts L.F_p_accepts.kp (bk_p_accepts_0_paper_claim L) px_def (k_cons (v_var 4) (k_cons (v_var 5) k_nil))) (a_cons (v_call (G_p_accepts L) (rm.less (by decide)) L.m_p_accepts L.F_p_accepts.kp (b_p_accepts L) px_def (a_cons (v_var 3) (a_cons (v_var 4) a_nil))) a_nil))))) sc_l_right.nd)
  (b_one (s_if (t_cmp (op_neAll rm.units) ok_ne (v_callB (call_repr rm) ok_repr rfl L.z_repr rfl (a_cons (v_var 6) a_nil)) (v_callB (call_repr rm) ok_repr rfl L.z_repr rfl (a_cons (v_fr (o_lst (a_cons v_bl (a_cons v_bl (a_cons v_bl a_nil))))) a_nil)) rfl) (b_one (s_ret v_bl)) b_nil))))))
  (b_one (s_ret v_bl)))))
theorem sc_p_law : FnScope ["_law_cells", "_law_turn"] ["_law_cells"] (defScope s_p_law) := ⟨rfl, rfl, rfl, by decide +kernel, rfl, by decide +kernel, by decide +kernel⟩
theorem G_p_law (L : Lf K mg) : FnG P w K mg base 18 L.a_p_law L.d_p_law ["_law_cells"] (SpM K mg 1 f_p_law) := fnM L.F_p_law sc_p_law rfl fun cd A outer s H E rm =>
  (b_one (s_ret (v_callB (cr_all rfl) ok_all rfl L.z_all rfl (a_cons (v_fr (o_lc (own := [("_law_turn", 1)]) rfl sc_p_law.nd rfl (i_range1 L.z_range (a_cons (v_callB (call_max2 rfl) ok_max rfl L.z_max rfl (a_cons v_int (a_cons (v_callB (call_min2 rfl) ok_min rfl L.z_min rfl (a_cons (v_callB call_lenAll ok_len rfl L.z_len rfl (a_cons (v_var 0) a_nil)) (a_cons v_int a_nil))) a_nil))) a_nil)) (blkOk_by (N := ["_law_cells", "_law_turn"]) (sc := defScope s_p_law) (by decide +kernel)) (fun _ _ _ _ _ => (pp_nm 1 sc_p_law.nd)) (fun _ _ _ _ _ => ts_nil) (fun _ _ _ _ _ => (v_call (G_l_right L) (rm.less (by decide)) L.m_l_right L.F_l_right.kp (b_l_right L) px_0 (a_cons (v_call (G_l_well L) (rm.less (by decide)) L.m_l_well L.F_l_well.kp (b_l_well L) px_0 (a_cons (v_var 0) (a_cons (v_var 1) a_nil))) a_nil))))) a_nil))))
end
end K78
namespace K78
open PySem PySem.Spec L2 DL
open PyProof.Rows hiding St
theorem all_mk {P : Program} {w : World} {K : PySem.W.Frag} {h : Heap} {mg : Str → Option Value} {fa : Addr} (X : K.In h) (G : h.Ns mainGlobals mg) (hfa : mg "law" = some (.ref fa)) (c : SaysQ chkQ fnQ K)
    : ∃ fd : FuncData, (∀ (s : Shared) (v : Value), BindsTo s fd ⟨[v], []⟩ [("_law_cells", v)]) ∧ ∀ base : Heap, K.In base → base.Ns mainGlobals mg → FnG P w K mg base 18 fa fd ["_law_cells"] (SpM K mg 1 f_p_law) := by
  have e0 := c.chk0
  obtain ⟨g0, e1⟩ := He.ba e0
  obtain ⟨a_l_well, a_p_is_integer, a_p_is_between, a_p_is_place, a_p_places_fault, a_p_is_height, a_p_heights_fault, a_p_number_in, a_p_knots_fault, b_Frame⟩ := of_decide_eq_true g0
  clear g0 e0
  obtain ⟨g1, e2⟩ := He.ba e1
  obtain ⟨a_c_Frame___init__, q1_c_Frame_read, q2_c_Frame_read, q3_c_Frame_read, q4_c_Frame_read, a_p_frame_in, a_p_is_count, q1_c_Frame_hills, q2_c_Frame_hills, q3_c_Frame_hills⟩ := of_decide_eq_true g1
  clear g1 e1
  obtain ⟨g2, e3⟩ := He.ba e2
  obtain ⟨a_c_Frame_hills, a_p_common, a_p_ratio, a_p_times, a_p_plus, a_p_total, a_p_joined, a_p_is_ratio, a_p_are_fractions, q1_c_Frame_degree⟩ := of_decide_eq_true g2
  clear g2 e2
  obtain ⟨g3, e4⟩ := He.ba e3
  obtain ⟨q2_c_Frame_degree, q3_c_Frame_degree, a_c_Frame_degree, q1_c_Frame_knots, q2_c_Frame_knots, q3_c_Frame_knots, a_c_Frame_knots, a_p_hill_at, a_p_hills_at, a_p_rows_at⟩ := of_decide_eq_true g3
  clear g3 e3
  obtain ⟨g4, e5⟩ := He.ba e4
  obtain ⟨a_p_shows_through, a_p_are_weights, a_p_weighed, a_p_are_silent, a_p_shows_never, a_p_is_pair, a_p_shows_rank, a_p_are_in_steps, a_p_shows_below, a_p_is_less⟩ := of_decide_eq_true g4
  clear g4 e4
  obtain ⟨g5, e6⟩ := He.ba e5
  obtain ⟨a_p_are_ascending, a_p_shows_turns, a_p_accepts, a_l_draw, a_l_one, a_l_bank, a_l_words, a_l_texts, a_l_thirds, a_l_fourths⟩ := of_decide_eq_true g5
  clear g5 e5
  obtain ⟨g6, e7⟩ := He.ba e6
  obtain ⟨a_l_none, a_l_right, a_p_law, z_abs, z_all, z_any, z_bool, z_divmod, z_enumerate, z_int⟩ := of_decide_eq_true g6
  clear g6 e6
  obtain ⟨g7, e8⟩ := He.ba e7
  obtain ⟨z_isinstance, z_len, z_list, z_max, z_min, z_range, z_repr, z_str, z_sum, z_tuple⟩ := of_decide_eq_true g7
  clear g7 e7
  obtain ⟨g8, e9⟩ := He.ba e8
  obtain ⟨z_zip, g_FIGURES, g_HEAD, tb_HEAD, g_MOST_DEGREE, g_MOST_FIGURES, g_MOST_HEIGHT, g_MOST_HILLS, g_MOST_KNOT, g_MOST_PLACES⟩ := of_decide_eq_true g8
  clear g8 e8
  obtain ⟨g9, e10⟩ := He.ba e9
  obtain ⟨g_NONE, tb_NONE, tq_NONE, g_ONE, tb_ONE, tq_ONE, b_InvalidText, b_InvalidDegree, b_InvalidKnots, w_sp⟩ := of_decide_eq_true g9
  clear g9 e9
  obtain ⟨g10, e11⟩ := He.ba e10
  obtain ⟨w_tk, d1_Frame, d2_Frame, d3_Frame, d4_Frame, d5_Frame, d6_Frame, kn_Frame, k1_Frame, k2_Frame⟩ := of_decide_eq_true g10
  clear g10 e10
  obtain ⟨g11, e12⟩ := He.ba e11
  obtain ⟨k3_Frame, nf_Frame_parts, x1_InvalidKnots, x2_InvalidKnots, x3_InvalidKnots, x4_InvalidKnots, x5_InvalidKnots, x6_InvalidKnots, x7_InvalidKnots, e1_InvalidKnots⟩ := of_decide_eq_true g11
  clear g11 e11
  obtain ⟨g12, e13⟩ := He.ba e12
  obtain ⟨e2_InvalidKnots, e5_InvalidKnots, e8_InvalidKnots, no_InvalidKnots, ii_InvalidKnots, it_InvalidKnots, ta_InvalidKnots, x1_InvalidDegree, x2_InvalidDegree, x3_InvalidDegree⟩ := of_decide_eq_true g12
  clear g12 e12
  obtain ⟨g13, e14⟩ := He.ba e13
  obtain ⟨x4_InvalidDegree, x5_InvalidDegree, x6_InvalidDegree, x7_InvalidDegree, e1_InvalidDegree, e2_InvalidDegree, e5_InvalidDegree, e8_InvalidDegree, no_InvalidDegree, ii_InvalidDegree⟩ := of_decide_eq_true g13
  clear g13 e13
  obtain ⟨g14, e15⟩ := He.ba e14
  obtain ⟨it_InvalidDegree, ta_InvalidDegree, x1_InvalidText, x2_InvalidText, x3_InvalidText, x4_InvalidText, x5_InvalidText, x6_InvalidText, x7_InvalidText, e1_InvalidText⟩ := of_decide_eq_true g14
  clear g14 e14
  obtain ⟨g15, e16⟩ := He.ba e15
  obtain ⟨e2_InvalidText, e5_InvalidText, e8_InvalidText, no_InvalidText, ii_InvalidText, it_InvalidText, ta_InvalidText, oo_InvalidKnots_InvalidText, oo_InvalidKnots_InvalidDegree, oo_InvalidKnots_InvalidKnots⟩ := of_decide_eq_true g15
  clear g15 e15
  obtain ⟨g16, e17⟩ := He.ba e16
  obtain ⟨oo_InvalidDegree_InvalidText, oo_InvalidDegree_InvalidDegree, oo_InvalidDegree_InvalidKnots, oo_InvalidText_InvalidText, oo_InvalidText_InvalidDegree, oo_InvalidText_InvalidKnots, oo_Frame_Frame, ob_Frame_int, ob_Frame_bool, ob_Frame_tuple⟩ := of_decide_eq_true g16
  clear g16 e16
  have g17 := e17
  obtain ⟨ob_Frame_str, ob_Frame_list, cc_InvalidKnots_InvalidText, cc_InvalidDegree_InvalidText, cc_InvalidText_InvalidText⟩ := of_decide_eq_true g17
  clear g17
  obtain ⟨d_l_well, F_l_well⟩ := c.fun_ 0 (at_ := ad_l_well) (x := "_law_well") (q := "_law_well") (st := s_l_well) rfl
  obtain ⟨d_p_is_integer, F_p_is_integer⟩ := c.fun_ 1 (at_ := ad_p_is_integer) (x := "is_integer") (q := "is_integer") (st := s_p_is_integer) rfl
  obtain ⟨d_p_is_between, F_p_is_between⟩ := c.fun_ 2 (at_ := ad_p_is_between) (x := "is_between") (q := "is_between") (st := s_p_is_between) rfl
  obtain ⟨d_p_is_place, F_p_is_place⟩ := c.fun_ 3 (at_ := ad_p_is_place) (x := "is_place") (q := "is_place") (st := s_p_is_place) rfl
  obtain ⟨d_p_places_fault, F_p_places_fault⟩ := c.fun_ 4 (at_ := ad_p_places_fault) (x := "places_fault") (q := "places_fault") (st := s_p_places_fault) rfl
  obtain ⟨d_p_is_height, F_p_is_height⟩ := c.fun_ 5 (at_ := ad_p_is_height) (x := "is_height") (q := "is_height") (st := s_p_is_height) rfl
  obtain ⟨d_p_heights_fault, F_p_heights_fault⟩ := c.fun_ 6 (at_ := ad_p_heights_fault) (x := "heights_fault") (q := "heights_fault") (st := s_p_heights_fault) rfl
  obtain ⟨d_p_number_in, F_p_number_in⟩ := c.fun_ 7 (at_ := ad_p_number_in) (x := "number_in") (q := "number_in") (st := s_p_number_in) rfl
  obtain ⟨d_p_knots_fault, F_p_knots_fault⟩ := c.fun_ 8 (at_ := ad_p_knots_fault) (x := "knots_fault") (q := "knots_fault") (st := s_p_knots_fault) rfl
  obtain ⟨d_c_Frame___init__, F_c_Frame___init__⟩ := c.fun_ 9 (at_ := ad_c_Frame___init__) (x := "__init__") (q := "Frame.__init__") (st := s_c_Frame___init__) rfl
  obtain ⟨d_c_Frame_read, F_c_Frame_read⟩ := c.fun_ 10 (at_ := ad_c_Frame_read) (x := "read") (q := "Frame.read") (st := s_c_Frame_read) rfl
  obtain ⟨d_p_frame_in, F_p_frame_in⟩ := c.fun_ 11 (at_ := ad_p_frame_in) (x := "frame_in") (q := "frame_in") (st := s_p_frame_in) rfl
  obtain ⟨d_p_is_count, F_p_is_count⟩ := c.fun_ 12 (at_ := ad_p_is_count) (x := "is_count") (q := "is_count") (st := s_p_is_count) rfl
  obtain ⟨d_c_Frame_hills, F_c_Frame_hills⟩ := c.fun_ 13 (at_ := ad_c_Frame_hills) (x := "hills") (q := "Frame.hills") (st := s_c_Frame_hills) rfl
  obtain ⟨d_p_common, F_p_common⟩ := c.fun_ 14 (at_ := ad_p_common) (x := "common") (q := "common") (st := s_p_common) rfl
  obtain ⟨d_p_ratio, F_p_ratio⟩ := c.fun_ 15 (at_ := ad_p_ratio) (x := "ratio") (q := "ratio") (st := s_p_ratio) rfl
  obtain ⟨d_p_times, F_p_times⟩ := c.fun_ 16 (at_ := ad_p_times) (x := "times") (q := "times") (st := s_p_times) rfl
  obtain ⟨d_p_plus, F_p_plus⟩ := c.fun_ 17 (at_ := ad_p_plus) (x := "plus") (q := "plus") (st := s_p_plus) rfl
  obtain ⟨d_p_total, F_p_total⟩ := c.fun_ 18 (at_ := ad_p_total) (x := "total") (q := "total") (st := s_p_total) rfl
  obtain ⟨d_p_joined, F_p_joined⟩ := c.fun_ 19 (at_ := ad_p_joined) (x := "joined") (q := "joined") (st := s_p_joined) rfl
  obtain ⟨d_p_is_ratio, F_p_is_ratio⟩ := c.fun_ 20 (at_ := ad_p_is_ratio) (x := "is_ratio") (q := "is_ratio") (st := s_p_is_ratio) rfl
  obtain ⟨d_p_are_fractions, F_p_are_fractions⟩ := c.fun_ 21 (at_ := ad_p_are_fractions) (x := "are_fractions") (q := "are_fractions") (st := s_p_are_fractions) rfl
  obtain ⟨d_c_Frame_degree, F_c_Frame_degree⟩ := c.fun_ 22 (at_ := ad_c_Frame_degree) (x := "degree") (q := "Frame.degree") (st := s_c_Frame_degree) rfl
  obtain ⟨d_c_Frame_knots, F_c_Frame_knots⟩ := c.fun_ 23 (at_ := ad_c_Frame_knots) (x := "knots") (q := "Frame.knots") (st := s_c_Frame_knots) rfl
  obtain ⟨d_p_hill_at, F_p_hill_at⟩ := c.fun_ 24 (at_ := ad_p_hill_at) (x := "hill_at") (q := "hill_at") (st := s_p_hill_at) rfl
  obtain ⟨d_p_hills_at, F_p_hills_at⟩ := c.fun_ 25 (at_ := ad_p_hills_at) (x := "hills_at") (q := "hills_at") (st := s_p_hills_at) rfl
  obtain ⟨d_p_rows_at, F_p_rows_at⟩ := c.fun_ 26 (at_ := ad_p_rows_at) (x := "rows_at") (q := "rows_at") (st := s_p_rows_at) rfl
  obtain ⟨d_p_shows_through, F_p_shows_through⟩ := c.fun_ 27 (at_ := ad_p_shows_through) (x := "shows_through") (q := "shows_through") (st := s_p_shows_through) rfl
  obtain ⟨d_p_are_weights, F_p_are_weights⟩ := c.fun_ 28 (at_ := ad_p_are_weights) (x := "are_weights") (q := "are_weights") (st := s_p_are_weights) rfl
  obtain ⟨d_p_weighed, F_p_weighed⟩ := c.fun_ 29 (at_ := ad_p_weighed) (x := "weighed") (q := "weighed") (st := s_p_weighed) rfl
  obtain ⟨d_p_are_silent, F_p_are_silent⟩ := c.fun_ 30 (at_ := ad_p_are_silent) (x := "are_silent") (q := "are_silent") (st := s_p_are_silent) rfl
  obtain ⟨d_p_shows_never, F_p_shows_never⟩ := c.fun_ 31 (at_ := ad_p_shows_never) (x := "shows_never") (q := "shows_never") (st := s_p_shows_never) rfl
  obtain ⟨d_p_is_pair, F_p_is_pair⟩ := c.fun_ 32 (at_ := ad_p_is_pair) (x := "is_pair") (q := "is_pair") (st := s_p_is_pair) rfl
  obtain ⟨d_p_shows_rank, F_p_shows_rank⟩ := c.fun_ 33 (at_ := ad_p_shows_rank) (x := "shows_rank") (q := "shows_rank") (st := s_p_shows_rank) rfl
  obtain ⟨d_p_are_in_steps, F_p_are_in_steps⟩ := c.fun_ 34 (at_ := ad_p_are_in_steps) (x := "are_in_steps") (q := "are_in_steps") (st := s_p_are_in_steps) rfl
  obtain ⟨d_p_shows_below, F_p_shows_below⟩ := c.fun_ 35 (at_ := ad_p_shows_below) (x := "shows_below") (q := "shows_below") (st := s_p_shows_below) rfl
  obtain ⟨d_p_is_less, F_p_is_less⟩ := c.fun_ 36 (at_ := ad_p_is_less) (x := "is_less") (q := "is_less") (st := s_p_is_less) rfl
  obtain ⟨d_p_are_ascending, F_p_are_ascending⟩ := c.fun_ 37 (at_ := ad_p_are_ascending) (x := "are_ascending") (q := "are_ascending") (st := s_p_are_ascending) rfl
  obtain ⟨d_p_shows_turns, F_p_shows_turns⟩ := c.fun_ 38 (at_ := ad_p_shows_turns) (x := "shows_turns") (q := "shows_turns") (st := s_p_shows_turns) rfl
  obtain ⟨d_p_accepts, F_p_accepts⟩ := c.fun_ 39 (at_ := ad_p_accepts) (x := "accepts") (q := "accepts") (st := s_p_accepts) rfl
  obtain ⟨d_l_draw, F_l_draw⟩ := c.fun_ 40 (at_ := ad_l_draw) (x := "_law_draw") (q := "_law_draw") (st := s_l_draw) rfl
  obtain ⟨d_l_one, F_l_one⟩ := c.fun_ 41 (at_ := ad_l_one) (x := "_law_one") (q := "_law_one") (st := s_l_one) rfl
  obtain ⟨d_l_bank, F_l_bank⟩ := c.fun_ 42 (at_ := ad_l_bank) (x := "_law_bank") (q := "_law_bank") (st := s_l_bank) rfl
  obtain ⟨d_l_words, F_l_words⟩ := c.fun_ 43 (at_ := ad_l_words) (x := "_law_words") (q := "_law_words") (st := s_l_words) rfl
  obtain ⟨d_l_texts, F_l_texts⟩ := c.fun_ 44 (at_ := ad_l_texts) (x := "_law_texts") (q := "_law_texts") (st := s_l_texts) rfl
  obtain ⟨d_l_thirds, F_l_thirds⟩ := c.fun_ 45 (at_ := ad_l_thirds) (x := "_law_thirds") (q := "_law_thirds") (st := s_l_thirds) rfl
  obtain ⟨d_l_fourths, F_l_fourths⟩ := c.fun_ 46 (at_ := ad_l_fourths) (x := "_law_fourths") (q := "_law_fourths") (st := s_l_fourths) rfl
  obtain ⟨d_l_none, F_l_none⟩ := c.fun_ 47 (at_ := ad_l_none) (x := "_law_none") (q := "_law_none") (st := s_l_none) rfl
  obtain ⟨d_l_right, F_l_right⟩ := c.fun_ 48 (at_ := ad_l_right) (x := "_law_right") (q := "_law_right") (st := s_l_right) rfl
  obtain ⟨d_p_law, F_p_law⟩ := c.fun_ 49 (at_ := ad_p_law) (x := "law") (q := "law") (st := s_p_law) rfl
  obtain ⟨d_i_InvalidKnots, F_i_InvalidKnots⟩ := c.fun_ 50 (at_ := fi_InvalidKnots) (x := "__init__") (q := "InvalidKnots.__init__") (st := si_InvalidKnots) rfl
  obtain ⟨d_i_InvalidDegree, F_i_InvalidDegree⟩ := c.fun_ 51 (at_ := fi_InvalidDegree) (x := "__init__") (q := "InvalidDegree.__init__") (st := si_InvalidDegree) rfl
  obtain ⟨d_i_InvalidText, F_i_InvalidText⟩ := c.fun_ 52 (at_ := fi_InvalidText) (x := "__init__") (q := "InvalidText.__init__") (st := si_InvalidText) rfl
  obtain ⟨I_HEAD, n_HEAD, S_HEAD, gl_HEAD, gz_HEAD, gv_HEAD⟩ := lst_ex (us := (["degree", "knots"] : List Str).map V.str) tb_HEAD rfl
  obtain ⟨I_NONE, n_NONE, S_NONE, gl_NONE, gz_NONE, gv_NONE⟩ := tup_exN (us := ([0, 1] : List Int).map V.int) tb_NONE tq_NONE rfl
  obtain ⟨I_ONE, n_ONE, S_ONE, gl_ONE, gz_ONE, gv_ONE⟩ := tup_exN (us := ([1, 1] : List Int).map V.int) tb_ONE tq_ONE rfl
  have hb : ∀ (s : Shared) (v : Value), BindsTo s d_p_law ⟨[v], []⟩ [("_law_cells", v)] := by
    obtain ⟨oc, od, kV, doc, pm, an, cdv, ct, osl, e, _⟩ := F_p_law.ex
    intro s v
    rw [e]
    exact .of_eq rfl
  have e := hfa.symm.trans (PySem.W.mg_of X G a_p_law)
  cases e
  let L : Lf K mg := {
    a_l_well := ad_l_well K, d_l_well := d_l_well, F_l_well := F_l_well,
    m_l_well := PySem.W.mg_of X G a_l_well,
    a_p_is_integer := ad_p_is_integer K, d_p_is_integer := d_p_is_integer, F_p_is_integer := F_p_is_integer,
    m_p_is_integer := PySem.W.mg_of X G a_p_is_integer,
    a_p_is_between := ad_p_is_between K, d_p_is_between := d_p_is_between, F_p_is_between := F_p_is_between,
    m_p_is_between := PySem.W.mg_of X G a_p_is_between,
    a_p_is_place := ad_p_is_place K, d_p_is_place := d_p_is_place, F_p_is_place := F_p_is_place,
    m_p_is_place := PySem.W.mg_of X G a_p_is_place,
    a_p_places_fault := ad_p_places_fault K, d_p_places_fault := d_p_places_fault, F_p_places_fault := F_p_places_fault,
    m_p_places_fault := PySem.W.mg_of X G a_p_places_fault,
    a_p_is_height := ad_p_is_height K, d_p_is_height := d_p_is_height, F_p_is_height := F_p_is_height,
    m_p_is_height := PySem.W.mg_of X G a_p_is_height,
    a_p_heights_fault := ad_p_heights_fault K, d_p_heights_fault := d_p_heights_fault, F_p_heights_fault := F_p_heights_fault,
    m_p_heights_fault := PySem.W.mg_of X G a_p_heights_fault,
    a_p_number_in := ad_p_number_in K, d_p_number_in := d_p_number_in, F_p_number_in := F_p_number_in,
    m_p_number_in := PySem.W.mg_of X G a_p_number_in,
    a_p_knots_fault := ad_p_knots_fault K, d_p_knots_fault := d_p_knots_fault, F_p_knots_fault := F_p_knots_fault,
    m_p_knots_fault := PySem.W.mg_of X G a_p_knots_fault,
    C_Frame := C_Frame K, c_Frame := PySem.W.mg_of X G b_Frame,
    a_c_Frame___init__ := ad_c_Frame___init__ K, d_c_Frame___init__ := d_c_Frame___init__, F_c_Frame___init__ := F_c_Frame___init__,
    pc_c_Frame_read := pc_c_Frame_read K, cm_c_Frame_read := He5.cmet_of q1_c_Frame_read q2_c_Frame_read, cr_c_Frame_read := ⟨q3_c_Frame_read, q4_c_Frame_read⟩,
    a_c_Frame_read := ad_c_Frame_read K, d_c_Frame_read := d_c_Frame_read, F_c_Frame_read := F_c_Frame_read,
    a_p_frame_in := ad_p_frame_in K, d_p_frame_in := d_p_frame_in, F_p_frame_in := F_p_frame_in,
    m_p_frame_in := PySem.W.mg_of X G a_p_frame_in,
    a_p_is_count := ad_p_is_count K, d_p_is_count := d_p_is_count, F_p_is_count := F_p_is_count,
    m_p_is_count := PySem.W.mg_of X G a_p_is_count,
    pq_c_Frame_hills := pq_c_Frame_hills K, pr_c_Frame_hills := ⟨q1_c_Frame_hills, q2_c_Frame_hills, q3_c_Frame_hills, recB_ok a_c_Frame_hills⟩,
    a_c_Frame_hills := ad_c_Frame_hills K, d_c_Frame_hills := d_c_Frame_hills, F_c_Frame_hills := F_c_Frame_hills,
    a_p_common := ad_p_common K, d_p_common := d_p_common, F_p_common := F_p_common,
    m_p_common := PySem.W.mg_of X G a_p_common,
    a_p_ratio := ad_p_ratio K, d_p_ratio := d_p_ratio, F_p_ratio := F_p_ratio,
    m_p_ratio := PySem.W.mg_of X G a_p_ratio,
    a_p_times := ad_p_times K, d_p_times := d_p_times, F_p_times := F_p_times,
    m_p_times := PySem.W.mg_of X G a_p_times,
    a_p_plus := ad_p_plus K, d_p_plus := d_p_plus, F_p_plus := F_p_plus,
    m_p_plus := PySem.W.mg_of X G a_p_plus,
    a_p_total := ad_p_total K, d_p_total := d_p_total, F_p_total := F_p_total,
    m_p_total := PySem.W.mg_of X G a_p_total,
    a_p_joined := ad_p_joined K, d_p_joined := d_p_joined, F_p_joined := F_p_joined,
    m_p_joined := PySem.W.mg_of X G a_p_joined,
    a_p_is_ratio := ad_p_is_ratio K, d_p_is_ratio := d_p_is_ratio, F_p_is_ratio := F_p_is_ratio,
    m_p_is_ratio := PySem.W.mg_of X G a_p_is_ratio,
    a_p_are_fractions := ad_p_are_fractions K, d_p_are_fractions := d_p_are_fractions, F_p_are_fractions := F_p_are_fractions,
    m_p_are_fractions := PySem.W.mg_of X G a_p_are_fractions,
    pq_c_Frame_degree := pq_c_Frame_degree K, pr_c_Frame_degree := ⟨q1_c_Frame_degree, q2_c_Frame_degree, q3_c_Frame_degree, recB_ok a_c_Frame_degree⟩,
    a_c_Frame_degree := ad_c_Frame_degree K, d_c_Frame_degree := d_c_Frame_degree, F_c_Frame_degree := F_c_Frame_degree,
    pq_c_Frame_knots := pq_c_Frame_knots K, pr_c_Frame_knots := ⟨q1_c_Frame_knots, q2_c_Frame_knots, q3_c_Frame_knots, recB_ok a_c_Frame_knots⟩,
    a_c_Frame_knots := ad_c_Frame_knots K, d_c_Frame_knots := d_c_Frame_knots, F_c_Frame_knots := F_c_Frame_knots,
    a_p_hill_at := ad_p_hill_at K, d_p_hill_at := d_p_hill_at, F_p_hill_at := F_p_hill_at,
    m_p_hill_at := PySem.W.mg_of X G a_p_hill_at,
    a_p_hills_at := ad_p_hills_at K, d_p_hills_at := d_p_hills_at, F_p_hills_at := F_p_hills_at,
    m_p_hills_at := PySem.W.mg_of X G a_p_hills_at,
    a_p_rows_at := ad_p_rows_at K, d_p_rows_at := d_p_rows_at, F_p_rows_at := F_p_rows_at,
    m_p_rows_at := PySem.W.mg_of X G a_p_rows_at,
    a_p_shows_through := ad_p_shows_through K, d_p_shows_through := d_p_shows_through, F_p_shows_through := F_p_shows_through,
    m_p_shows_through := PySem.W.mg_of X G a_p_shows_through,
    a_p_are_weights := ad_p_are_weights K, d_p_are_weights := d_p_are_weights, F_p_are_weights := F_p_are_weights,
    m_p_are_weights := PySem.W.mg_of X G a_p_are_weights,
    a_p_weighed := ad_p_weighed K, d_p_weighed := d_p_weighed, F_p_weighed := F_p_weighed,
    m_p_weighed := PySem.W.mg_of X G a_p_weighed,
    a_p_are_silent := ad_p_are_silent K, d_p_are_silent := d_p_are_silent, F_p_are_silent := F_p_are_silent,
    m_p_are_silent := PySem.W.mg_of X G a_p_are_silent,
    a_p_shows_never := ad_p_shows_never K, d_p_shows_never := d_p_shows_never, F_p_shows_never := F_p_shows_never,
    m_p_shows_never := PySem.W.mg_of X G a_p_shows_never,
    a_p_is_pair := ad_p_is_pair K, d_p_is_pair := d_p_is_pair, F_p_is_pair := F_p_is_pair,
    m_p_is_pair := PySem.W.mg_of X G a_p_is_pair,
    a_p_shows_rank := ad_p_shows_rank K, d_p_shows_rank := d_p_shows_rank, F_p_shows_rank := F_p_shows_rank,
    m_p_shows_rank := PySem.W.mg_of X G a_p_shows_rank,
    a_p_are_in_steps := ad_p_are_in_steps K, d_p_are_in_steps := d_p_are_in_steps, F_p_are_in_steps := F_p_are_in_steps,
    m_p_are_in_steps := PySem.W.mg_of X G a_p_are_in_steps,
    a_p_shows_below := ad_p_shows_below K, d_p_shows_below := d_p_shows_below, F_p_shows_below := F_p_shows_below,
    m_p_shows_below := PySem.W.mg_of X G a_p_shows_below,
    a_p_is_less := ad_p_is_less K, d_p_is_less := d_p_is_less, F_p_is_less := F_p_is_less,
    m_p_is_less := PySem.W.mg_of X G a_p_is_less,
    a_p_are_ascending := ad_p_are_ascending K, d_p_are_ascending := d_p_are_ascending, F_p_are_ascending := F_p_are_ascending,
    m_p_are_ascending := PySem.W.mg_of X G a_p_are_ascending,
    a_p_shows_turns := ad_p_shows_turns K, d_p_shows_turns := d_p_shows_turns, F_p_shows_turns := F_p_shows_turns,
    m_p_shows_turns := PySem.W.mg_of X G a_p_shows_turns,
    a_p_accepts := ad_p_accepts K, d_p_accepts := d_p_accepts, F_p_accepts := F_p_accepts,
    m_p_accepts := PySem.W.mg_of X G a_p_accepts,
    a_l_draw := ad_l_draw K, d_l_draw := d_l_draw, F_l_draw := F_l_draw,
    m_l_draw := PySem.W.mg_of X G a_l_draw,
    a_l_one := ad_l_one K, d_l_one := d_l_one, F_l_one := F_l_one,
    m_l_one := PySem.W.mg_of X G a_l_one,
    a_l_bank := ad_l_bank K, d_l_bank := d_l_bank, F_l_bank := F_l_bank,
    m_l_bank := PySem.W.mg_of X G a_l_bank,
    a_l_words := ad_l_words K, d_l_words := d_l_words, F_l_words := F_l_words,
    m_l_words := PySem.W.mg_of X G a_l_words,
    a_l_texts := ad_l_texts K, d_l_texts := d_l_texts, F_l_texts := F_l_texts,
    m_l_texts := PySem.W.mg_of X G a_l_texts,
    a_l_thirds := ad_l_thirds K, d_l_thirds := d_l_thirds, F_l_thirds := F_l_thirds,
    m_l_thirds := PySem.W.mg_of X G a_l_thirds,
    a_l_fourths := ad_l_fourths K, d_l_fourths := d_l_fourths, F_l_fourths := F_l_fourths,
    m_l_fourths := PySem.W.mg_of X G a_l_fourths,
    a_l_none := ad_l_none K, d_l_none := d_l_none, F_l_none := F_l_none,
    m_l_none := PySem.W.mg_of X G a_l_none,
    a_l_right := ad_l_right K, d_l_right := d_l_right, F_l_right := F_l_right,
    m_l_right := PySem.W.mg_of X G a_l_right,
    a_p_law := ad_p_law K, d_p_law := d_p_law, F_p_law := F_p_law,
    m_p_law := PySem.W.mg_of X G a_p_law,
    z_abs := PySem.W.mg_none_of X G z_abs,
    z_all := PySem.W.mg_none_of X G z_all,
    z_any := PySem.W.mg_none_of X G z_any,
    z_bool := PySem.W.mg_none_of X G z_bool,
    z_divmod := PySem.W.mg_none_of X G z_divmod,
    z_enumerate := PySem.W.mg_none_of X G z_enumerate,
    z_int := PySem.W.mg_none_of X G z_int,
    z_isinstance := PySem.W.mg_none_of X G z_isinstance,
    z_len := PySem.W.mg_none_of X G z_len,
    z_list := PySem.W.mg_none_of X G z_list,
    z_max := PySem.W.mg_none_of X G z_max,
    z_min := PySem.W.mg_none_of X G z_min,
    z_range := PySem.W.mg_none_of X G z_range,
    z_repr := PySem.W.mg_none_of X G z_repr,
    z_str := PySem.W.mg_none_of X G z_str,
    z_sum := PySem.W.mg_none_of X G z_sum,
    z_tuple := PySem.W.mg_none_of X G z_tuple,
    z_zip := PySem.W.mg_none_of X G z_zip,
    g_FIGURES := He.str_ok X G g_FIGURES,
    T_HEAD := T_HEAD K, I_HEAD := I_HEAD, n_HEAD := n_HEAD, S_HEAD := S_HEAD, g_HEAD := PySem.W.mg_of X G g_HEAD, gl_HEAD := gl_HEAD, gz_HEAD := gz_HEAD, gv_HEAD := gv_HEAD,
    g_MOST_DEGREE := He.int_ok X G g_MOST_DEGREE,
    g_MOST_FIGURES := He.int_ok X G g_MOST_FIGURES,
    g_MOST_HEIGHT := He.int_ok X G g_MOST_HEIGHT,
    g_MOST_HILLS := He.int_ok X G g_MOST_HILLS,
    g_MOST_KNOT := He.int_ok X G g_MOST_KNOT,
    g_MOST_PLACES := He.int_ok X G g_MOST_PLACES,
    T_NONE := T_NONE K, I_NONE := I_NONE, n_NONE := n_NONE, S_NONE := S_NONE, g_NONE := PySem.W.mg_of X G g_NONE, gl_NONE := gl_NONE, gz_NONE := gz_NONE, gv_NONE := gv_NONE,
    T_ONE := T_ONE K, I_ONE := I_ONE, n_ONE := n_ONE, S_ONE := S_ONE, g_ONE := PySem.W.mg_of X G g_ONE, gl_ONE := gl_ONE, gz_ONE := gz_ONE, gv_ONE := gv_ONE,
    C_InvalidText := C_InvalidText K, c_InvalidText := PySem.W.mg_of X G b_InvalidText,
    C_InvalidDegree := C_InvalidDegree K, c_InvalidDegree := PySem.W.mg_of X G b_InvalidDegree,
    C_InvalidKnots := C_InvalidKnots K, c_InvalidKnots := PySem.W.mg_of X G b_InvalidKnots,
    cl_Frame := ⟨d1_Frame, d2_Frame, d3_Frame, d4_Frame⟩, ic_Frame := ⟨⟨d1_Frame, d2_Frame, d3_Frame, d4_Frame⟩, d5_Frame, w_sp, w_tk, d6_Frame⟩, kn_Frame := kn_Frame,
    mk_Frame := ⟨k1_Frame, a_c_Frame___init__, k2_Frame, k3_Frame⟩,
    nf_Frame_parts := nf_Frame_parts,
    x_InvalidKnots := ⟨⟨_, _, _, _, PySem.F.excBase_ValueError, PySem.F.store_ValueError, x1_InvalidKnots, x2_InvalidKnots⟩, x3_InvalidKnots, x4_InvalidKnots, x5_InvalidKnots, x6_InvalidKnots, x7_InvalidKnots⟩,
    e_InvalidKnots := ⟨e1_InvalidKnots, e2_InvalidKnots, x5_InvalidKnots, x3_InvalidKnots, e5_InvalidKnots, w_sp, w_tk, e8_InvalidKnots⟩, xf_InvalidKnots := ⟨e1_InvalidKnots, e2_InvalidKnots, x5_InvalidKnots, x3_InvalidKnots⟩, no_InvalidKnots := no_InvalidKnots,
    fi_InvalidKnots := fi_InvalidKnots K, di_InvalidKnots := d_i_InvalidKnots, Fi_InvalidKnots := F_i_InvalidKnots, ii_InvalidKnots := ii_InvalidKnots, ti_InvalidKnots := it_InvalidKnots, tk_InvalidKnots := ta_InvalidKnots,
    x_InvalidDegree := ⟨⟨_, _, _, _, PySem.F.excBase_ValueError, PySem.F.store_ValueError, x1_InvalidDegree, x2_InvalidDegree⟩, x3_InvalidDegree, x4_InvalidDegree, x5_InvalidDegree, x6_InvalidDegree, x7_InvalidDegree⟩,
    e_InvalidDegree := ⟨e1_InvalidDegree, e2_InvalidDegree, x5_InvalidDegree, x3_InvalidDegree, e5_InvalidDegree, w_sp, w_tk, e8_InvalidDegree⟩, xf_InvalidDegree := ⟨e1_InvalidDegree, e2_InvalidDegree, x5_InvalidDegree, x3_InvalidDegree⟩, no_InvalidDegree := no_InvalidDegree,
    fi_InvalidDegree := fi_InvalidDegree K, di_InvalidDegree := d_i_InvalidDegree, Fi_InvalidDegree := F_i_InvalidDegree, ii_InvalidDegree := ii_InvalidDegree, ti_InvalidDegree := it_InvalidDegree, tk_InvalidDegree := ta_InvalidDegree,
    x_InvalidText := ⟨⟨_, _, _, _, PySem.F.excBase_ValueError, PySem.F.store_ValueError, x1_InvalidText, x2_InvalidText⟩, x3_InvalidText, x4_InvalidText, x5_InvalidText, x6_InvalidText, x7_InvalidText⟩,
    e_InvalidText := ⟨e1_InvalidText, e2_InvalidText, x5_InvalidText, x3_InvalidText, e5_InvalidText, w_sp, w_tk, e8_InvalidText⟩, xf_InvalidText := ⟨e1_InvalidText, e2_InvalidText, x5_InvalidText, x3_InvalidText⟩, no_InvalidText := no_InvalidText,
    fi_InvalidText := fi_InvalidText K, di_InvalidText := d_i_InvalidText, Fi_InvalidText := F_i_InvalidText, ii_InvalidText := ii_InvalidText, ti_InvalidText := it_InvalidText, tk_InvalidText := ta_InvalidText,
    oo_InvalidKnots_InvalidText := oo_InvalidKnots_InvalidText,
    oo_InvalidKnots_InvalidDegree := oo_InvalidKnots_InvalidDegree,
    oo_InvalidKnots_InvalidKnots := oo_InvalidKnots_InvalidKnots,
    oo_InvalidDegree_InvalidText := oo_InvalidDegree_InvalidText,
    oo_InvalidDegree_InvalidDegree := oo_InvalidDegree_InvalidDegree,
    oo_InvalidDegree_InvalidKnots := oo_InvalidDegree_InvalidKnots,
    oo_InvalidText_InvalidText := oo_InvalidText_InvalidText,
    oo_InvalidText_InvalidDegree := oo_InvalidText_InvalidDegree,
    oo_InvalidText_InvalidKnots := oo_InvalidText_InvalidKnots,
    oo_Frame_Frame := oo_Frame_Frame,
    ob_Frame_int := ob_Frame_int,
    ob_Frame_bool := ob_Frame_bool,
    ob_Frame_tuple := ob_Frame_tuple,
    ob_Frame_str := ob_Frame_str,
    ob_Frame_list := ob_Frame_list,
    cc_InvalidKnots_InvalidText := cc_InvalidKnots_InvalidText,
    cc_InvalidDegree_InvalidText := cc_InvalidDegree_InvalidText,
    cc_InvalidText_InvalidText := cc_InvalidText_InvalidText }
  exact ⟨L.d_p_law, hb, fun base _ _ => G_p_law L⟩
end K78
namespace K78
open PySem PySem.Spec L2 DL
open PyProof.Rows hiding St
def WellAt (S : List Cell) (n : Nat) : Prop := ∃ a b : Int, S[n]? = some (.lst [.int a, .int b]) ∧ 0 ≤ a ∧ 0 ≤ b ∧ b < 2147483423
theorem WellAt.keep {S S' : List Cell} {n m : Nat} (h : WellAt S n) (hk : Kp m S S') (hm : n ≠ m) : WellAt S' n := by
  obtain ⟨a, b, h1, h2⟩ := h
  exact ⟨a, b, by rw [hk.2 n hm (List.getElem?_eq_some_iff.mp h1).1]; exact h1, h2⟩
theorem WellAt.app {S T : List Cell} {n : Nat} (h : WellAt S n) : WellAt (S ++ T) n := by
  obtain ⟨a, b, h1, h2⟩ := h
  exact ⟨a, b, by rw [List.getElem?_append_left (List.getElem?_eq_some_iff.mp h1).1]; exact h1, h2⟩
theorem WellAt.lt {S : List Cell} {n : Nat} (h : WellAt S n) : n < S.length := by
  obtain ⟨a, b, h1, h2⟩ := h
  exact (List.getElem?_eq_some_iff.mp h1).1
theorem dmod {i j : Int} {S : List Cell} (h0 : 0 < j) (h : j < 1073741824) : divmodD [.int i, .int j] S = some (.tup [.int (i / j), .int (i % j)]) := if_pos ⟨h0, h⟩
theorem draw_ok {S : List Cell} {n : Nat} {top : Int} (w : WellAt S n) (h1 : 0 < top) (h2 : top < 1073741824) :
    (f_l_draw [.cell n, .int top] S).W (fun d S' => ∃ i : Int, d = .int i ∧ 0 ≤ i ∧ i < top ∧ WellAt S' n ∧ Kp n S S') XN := by
  obtain ⟨a, b, h, ha, hb, hb2⟩ := w
  obtain ⟨hl, h⟩ := List.getElem?_eq_some_iff.mp h
  have m1 : ∀ S, mulD (.int b) (.int 48889) S = some (.int (b * 48889)) := fun S => mul_ok 40 40 (by omega) (by decide)
  have dm : ∀ i S, divmodD [.int i, .int top] S = some (.tup [.int (i / top), .int (i % top)]) := fun i S => dmod h1 h2
  have d2 : ∀ i S, divD (.int i) (.int 1021) S = some (.int (i / 1021)) := fun i S => divD_int (by decide) (by decide)
  have e1 : ∀ i S, modD (.int i) (.int top) S = some (.int (i % top)) := fun i S => modD_int h1
  have e2 : ∀ i S, modD (.int i) (.int 2147483423) S = some (.int (i % 2147483423)) := fun i S => modD_int (by decide)
  by_cases hp : 0 < a
  · simp [f_l_draw, m_l_draw, h, hl, ixN, hp, dm]
    exact ⟨Int.emod_nonneg _ (by omega), Int.emod_lt_of_pos _ h1, ⟨a / top, b, by simp [hl], Int.ediv_nonneg ha (by omega), hb, hb2⟩, Kp.set⟩
  · simp [f_l_draw, m_l_draw, h, hl, ixN, hp, e1, e2, d2, m1]
    exact ⟨Int.emod_nonneg _ (by omega), Int.emod_lt_of_pos _ h1, ⟨a, _, by simp [hl]; rfl, ha, Int.emod_nonneg _ (by decide), Int.emod_lt_of_pos _ (by decide)⟩, Kp.set⟩
def seqD (b : Bool) (xs : List D) : D := if b then .tup xs else .lst xs
theorem one_ok {S : List Cell} {n : Nat} {xs : List D} (b : Bool) (w : WellAt S n) (h1 : 0 < xs.length) (h2 : xs.length < 1000000) :
    (f_l_one [.cell n, seqD b xs] S).W (fun d S' => d ∈ xs ∧ WellAt S' n ∧ Kp n S S') XN := by
  have ln : ∀ S, lenD [seqD b xs] S = some (.int (xs.length : Nat)) := fun S => by cases b <;> rfl
  have ix : ∀ i S, ixD (seqD b xs) (.int i) S = L2.atI xs i := fun i S => by cases b <;> rfl
  generalize seqD b xs = sd at *
  simp [f_l_one, m_l_one, ln]
  refine (draw_ok w (top := (xs.length : Nat)) (by omega) (by omega)).on ?_
  rintro _ S1 ⟨i, rfl, i0, i1, w1, k1⟩
  simp [ix, at_ok i0 i1]
  exact ⟨w1, k1⟩
theorem well_ok (ns : List Int) (S : List Cell) (t : Nat) (ht : t < 1000) :
    (f_l_well [scriptD ns, .int (t : Nat)] S).W (fun d S' => d = .cell S.length ∧ WellAt S' S.length ∧ S'.length = S.length + 1 ∧ Kp S.length S S') XN := by
  have hsl : sliceD (scriptD ns) none (some 5) = some (.lst ((ns.take 5).map D.int)) := by
    show some (D.lst (cutD _ _ _)) = _
    rw [cut_to (by decide), List.map_take]
    rfl
  have e18 : ∀ S, powD (.int 10) (.int 18) S = some (.int 1000000000000000000) := fun S => by rw [powD_int (by decide)]; rfl
  have e2 : ∀ i S, modD (.int i) (.int 2147483423) S = some (.int (i % 2147483423)) := fun i S => modD_int (by decide)
  have m1 : ∀ S, mulD (.int 71011) (.int ((t : Nat) + 2)) S = some (.int (71011 * ((t : Nat) + 2))) := fun S => mul_ok 20 20 (by decide) (by omega)
  have m2 : ∀ S, mulD (.int 7019) (.int (t : Nat)) S = some (.int (7019 * (t : Nat))) := fun S => mul_ok 20 20 (by decide) (by omega)
  have ln : lenD [scriptD ns] S = some (.int (ns.length : Nat)) := by
    show some (D.int ((ns.map D.int).length : Nat)) = _
    rw [List.length_map]
  have ix : ∀ h : t < ns.length, ixD (scriptD ns) (.int (t : Nat)) S = some (.int ns[t]) := fun h => by
    show L2.atI (ns.map D.int) (t : Nat) = _
    rw [at_map, at_nat h]
    rfl
  generalize scriptD ns = sc at *
  simp only [f_l_well, m_l_well, V_def, V_seq, V_set]
  refine Rs.W.on (Q := fun d S1 => ∃ c : Int, d = .int c ∧ S1 = S) ?_ ?_
  · by_cases ht2 : t < ns.length
    · simp [ln, ht2, ix ht2]
    · simp [ln, ht2, m1]
  rintro _ S1 ⟨c, rfl, rfl⟩
  have ad : ∀ S, addD (.lst ((ns.take 5).map D.int)) (.lst [.int c]) S = some (.lst ((ns.take 5 ++ [c]).map .int)) := fun S => by
    rw [add_lst (by simp; omega), List.map_append]
    rfl
  generalize hzs : ns.take 5 ++ [c] = zs at *
  generalize (ns.take 5).map D.int = z5 at *
  simp [hsl, m2, ad]
  refine for_at (fun _ e S' => S' = S1 ∧ ∃ (m : Int) (s4 : Sl), e = [.val sc, .val (.int (t : Nat)), .val (.int c), .val (.int m), s4] ∧ 0 ≤ m ∧ m < 2147483423) ?_ ?_ ?_
  · exact ⟨rfl, _, _, rfl, by omega, by omega⟩
  · rintro j d env S' hd ⟨rfl, m, s4, rfl, m0, m1⟩
    obtain ⟨x, hx, rfl⟩ : ∃ x : Int, x ∈ zs ∧ D.int x = d := List.mem_map.mp (List.mem_of_getElem? hd)
    have mm : ∀ S, mulD (.int m) (.int 40829) S = some (.int (m * 40829)) := fun S => mul_ok 60 40 (by omega) (by decide)
    simp [mm, e2]
    exact ⟨Int.emod_nonneg _ (by decide), Int.emod_lt_of_pos _ (by decide)⟩
  · rintro env S' ⟨rfl, m, s4, rfl, m0, m1⟩
    simp [e18]
    refine ⟨⟨_, m, by simp; rfl, ?_, m0, m1⟩, Kp.app⟩
    split <;> (try split) <;> omega
end K78
namespace K78
open PySem PySem.Spec L2 DL
open PyProof.Rows hiding St
def frameD (g : Nat) (ks : List Int) : D := .obj "Frame" ["parts"] [.tup [.int (g : Nat), .tup (ks.map .int)]]
structure Kn (d : D) : Prop where
  i : ∀ S, isAD tabT [d, .ty "int"] S = some (.bl (match d with | .int _ => true | .bl _ => true | _ => false))
  b : ∀ S, isAD tabT [d, .ty "bool"] S = some (.bl (match d with | .bl _ => true | _ => false))
  t : ∀ S, isAD tabT [d, .ty "tuple"] S = some (.bl (match d with | .tup _ => true | _ => false))
theorem kn_ty {d : D} {a : String} (h : tyName d = some a) : Kn d := by
  constructor <;> intro S <;> cases d <;> first | rfl | (cases h)
theorem kn_int (i : Int) : Kn (.int i) := kn_ty (a := "int") rfl
def isB (a b : Int) : D → Bool
  | .int i => decide (a ≤ i ∧ i ≤ b)
  | _ => false
theorem between_ok {d : D} (h : Kn d) (a b : Int) (S : List Cell) : f_p_is_between [d, .int a, .int b] S = .ok (.bl (isB a b d)) S := by
  refine Rs.W.eq ?_
  have h1 := h.i
  have h2 := h.b
  cases d with
  | int i => by_cases hh : a ≤ i <;> simp [f_p_is_between, m_p_is_between, f_p_is_integer, m_p_is_integer, h1, h2, isB, hh]
  | _ => simp [f_p_is_between, m_p_is_between, f_p_is_integer, m_p_is_integer, h1, h2, isB]
theorem between_int {i a b : Int} (h1 : a ≤ i) (h2 : i ≤ b) (S : List Cell) : f_p_is_between [.int i, .int a, .int b] S = .ok (.bl true) S := by
  rw [between_ok (kn_int i)]
  show Rs.ok (D.bl (decide (a ≤ i ∧ i ≤ b))) S = _
  rw [decide_eq_true ⟨h1, h2⟩]
theorem pairs_get {xs : List D} {j : Nat} {d : D} (h : (pairsI xs)[j]? = some d) : ∃ h : j < xs.length, d = .tup [.int (j : Nat), xs[j]] := by
  unfold pairsI at h
  rw [List.getElem?_mapIdx] at h
  obtain ⟨x, hx, rfl⟩ := Option.map_eq_some_iff.mp h
  obtain ⟨hj, rfl⟩ := List.getElem?_eq_some_iff.mp hx
  exact ⟨hj, rfl⟩
@[simp] theorem enum_tup (xs : List D) (S : List Cell) : enumD [.tup xs] S = .ok (pairsI xs) S := nr rfl
theorem fault_good {g : Nat} {ks : List Int} (f : Frm g ks) (S : List Cell) : f_p_knots_fault [.int (g : Nat), .tup (ks.map .int)] S = .ok (.int (-1)) S := by
  refine Rs.W.eq ?_
  have hg := f.hg
  have lo := f.lo
  have hi := f.hi
  have it : ∀ S, isAD tabT [.tup (ks.map D.int), .ty "tuple"] S = some (.bl true) := fun S => (kn_ty (a := "tuple") rfl).t S
  have c1 : ¬ ((ks.length : Nat) : Int) < (g : Int) + 2 := by omega
  generalize hks : ks.map D.int = xs at *
  have hxl : xs.length = ks.length := by rw [← hks, List.length_map]
  simp [f_p_knots_fault, m_p_knots_fault, it, hxl, c1]
  refine for_at (fun _ e S' => S' = S ∧ ∃ s2 s3, e = [.val (.int (g : Nat)), .val (.tup xs), s2, s3]) ⟨rfl, _, _, rfl⟩ ?_ ?_
  · rintro j d env S' hd ⟨rfl, s2, s3, rfl⟩
    obtain ⟨hj, rfl⟩ := pairs_get hd
    have hj' : j < ks.length := by omega
    have ex : xs[j] = .int (kt ks j) := by
      have : xs[j] = (ks.map D.int)[j]'(by rw [hks]; exact hj) := by congr 1; exact hks.symm
      rw [this, List.getElem_map, kt_get hj']
    rw [ex]
    have b := between_int (f.nn j hj') (f.ub j hj') S'
    have n1 : ¬ ((j : Int) = (g : Int) + 1 + 10) := by omega
    have ix : ∀ (i : Int) (k : Nat), i = (k : Nat) → k < ks.length → L2.atI xs i = some (.int (kt ks k)) := fun i k e h => by
      rw [← hks, at_map, kt_ix e h]; rfl
    by_cases j0 : 0 < j
    · have x1 := ix ((j : Int) - 1) (j - 1) (by omega) (by omega)
      have le := f.mono (j - 1) j (by omega) hj'
      have le' : ¬ kt ks j < kt ks (j - 1) := by omega
      by_cases jg : g < j
      · have x2 := ix ((j : Int) - (g : Int) - 1) (j - g - 1) (by omega) (by omega)
        have gp := f.gap (j - g - 1) (by omega)
        rw [show j - g - 1 + g + 1 = j by omega] at gp
        have gp' : ¬ kt ks (j - g - 1) = kt ks j := by omega
        simp [b, n1, j0, x1, le', jg, x2, gp']
      · simp [b, n1, j0, x1, le', jg]
    · have jg : ¬ g < j := by omega
      simp [b, n1, j0, jg]
  · rintro env S' ⟨rfl, s2, s3, rfl⟩
    simp
theorem init_ok {g : Nat} {ks : List Int} (f : Frm g ks) {S : List Cell} {n : Nat} (h : S[n]? = some (.ins "Frame" [] [])) : f_c_Frame___init__ [.cell n, .int (g : Nat), .tup (ks.map .int)] S = .ok .non (S.set n (.ins "Frame" ["parts"] [.tup [.int (g : Nat), .tup (ks.map .int)]])) := by
  refine Rs.W.eq ?_
  have hg := f.hg
  have b := between_int (i := (g : Nat)) (a := 0) (b := 4) (by omega) (by omega) S
  have ft := fault_good f S
  have pf : ∀ d, putFld fldT "parts" (.cell n) d S = some (S.set n (.ins "Frame" ["parts"] [d])) := fun d => put_fld h (by decide)
  generalize ks.map D.int = xs at *
  simp [f_c_Frame___init__, m_c_Frame___init__, b, ft, pf]
theorem made_ok {g : Nat} {ks : List Int} (f : Frm g ks) (S : List Cell) : madeR "Frame" true S.length (f_c_Frame___init__ [.cell S.length, .int (g : Nat), .tup (ks.map .int)] (S ++ [.ins "Frame" [] []])) = .ok (frameD g ks) (S ++ [.dead]) := by
  rw [init_ok f (by simp)]
  rw [made_fz (get_set (c := .ins "Frame" [] []) (by simp)), List.set_set, List.set_append_right _ _ (Nat.le_refl _)]
  simp
  rfl
theorem fld_parts (g : Nat) (ks : List Int) (S : List Cell) : fldD fldT "parts" (frameD g ks) S = some (.tup [.int (g : Nat), .tup (ks.map .int)]) := rfl
@[simp] theorem degree_ok (g : Nat) (ks : List Int) (S : List Cell) : f_c_Frame_degree [frameD g ks] S = .ok (.int (g : Nat)) S := by
  refine Rs.W.eq ?_
  simp [f_c_Frame_degree, m_c_Frame_degree, fld_parts]
@[simp] theorem knots_ok (g : Nat) (ks : List Int) (S : List Cell) : f_c_Frame_knots [frameD g ks] S = .ok (.tup (ks.map .int)) S := by
  refine Rs.W.eq ?_
  simp [f_c_Frame_knots, m_c_Frame_knots, fld_parts]
@[simp] theorem hills_ok (g : Nat) (ks : List Int) (S : List Cell) : f_c_Frame_hills [frameD g ks] S = .ok (.int ((ks.length : Nat) - (g : Nat) - 1)) S := by
  refine Rs.W.eq ?_
  simp [f_c_Frame_hills, m_c_Frame_hills, fld_parts]
@[simp] theorem insP_frame (g : Nat) (ks : List Int) (S : List Cell) : isInsP "Frame" (frameD g ks) S = true := nr rfl
@[simp] theorem isa_frame (g : Nat) (ks : List Int) (S : List Cell) : isAD tabT [frameD g ks, .cls "Frame"] S = some (.bl true) := nr rfl
end K78
namespace DL
def bsp (t : Nat → Int) (L : Int) : Nat → Nat → Rat → Rat
  | 0, i, x => if (if x = (L : Rat) then (t i : Rat) < x ∧ x ≤ (t (i + 1) : Rat) else (t i : Rat) ≤ x ∧ x < (t (i + 1) : Rat)) then 1 else 0
  | g + 1, i, x => (x - (t i : Rat)) / ((t (i + g + 1) : Rat) - (t i : Rat)) * bsp t L g i x + ((t (i + g + 2) : Rat) - x) / ((t (i + g + 2) : Rat) - (t (i + 1) : Rat)) * bsp t L g (i + 1) x
theorem div_zero' (a : Rat) : a / 0 = 0 := by rw [Rat.div_def, Rat.inv_zero, Rat.mul_zero]
def lw (t : Nat → Int) (g i : Nat) (x : Rat) : Rat := (x - (t i : Rat)) / ((t (i + g + 1) : Rat) - (t i : Rat))
def rw' (t : Nat → Int) (g i : Nat) (x : Rat) : Rat := ((t (i + g + 2) : Rat) - x) / ((t (i + g + 2) : Rat) - (t (i + 1) : Rat))
theorem bsp_succ (t : Nat → Int) (L : Int) (g i : Nat) (x : Rat) : bsp t L (g + 1) i x = lw t g i x * bsp t L g i x + rw' t g i x * bsp t L g (i + 1) x := rfl
theorem div_pos' {a b : Rat} (ha : 0 < a) (hb : 0 < b) : 0 < a / b := by
  rw [Rat.div_def]
  exact Rat.mul_pos ha (Rat.inv_pos.mpr hb)
theorem div_nonneg' {a b : Rat} (ha : 0 ≤ a) (hb : 0 ≤ b) : 0 ≤ a / b := by
  rcases Rat.le_iff_lt_or_eq.mp hb with h | h
  · rcases Rat.le_iff_lt_or_eq.mp ha with h' | h'
    · exact Rat.le_of_lt (div_pos' h' h)
    · rw [← h', Rat.div_def, Rat.zero_mul]; exact Rat.le_refl
  · rw [← h, div_zero']; exact Rat.le_refl
section
variable {t : Nat → Int} {L : Int} {n : Nat}
theorem bsp_out (hm : ∀ i j, i ≤ j → j < n → t i ≤ t j) (hL : ∀ i, i < n → t i ≤ L) : ∀ (g i : Nat) (x : Rat), i + g + 1 < n → (x < (t i : Rat) ∨ (t (i + g + 1) : Rat) < x ∨ (x = (t i : Rat) ∧ x = (L : Rat)) ∨ (x = (t (i + g + 1) : Rat) ∧ x ≠ (L : Rat))) → bsp t L g i x = 0
  | 0, i, x, hi, h => by
    unfold bsp
    rw [if_neg]
    intro hc
    split at hc <;> rename_i hx
    · rcases h with h | h | h | h <;> grind
    · rcases h with h | h | h | h <;> grind
  | g + 1, i, x, hi, h => by
    have m1 : (t i : Rat) ≤ (t (i + 1) : Rat) := Rat.intCast_le_intCast.mpr (hm i (i + 1) (by omega) (by omega))
    have m2 : (t (i + g + 1) : Rat) ≤ (t (i + g + 2) : Rat) := Rat.intCast_le_intCast.mpr (hm (i + g + 1) (i + g + 2) (by omega) (by omega))
    have m3 : (t i : Rat) ≤ (t (i + g + 1) : Rat) := Rat.intCast_le_intCast.mpr (hm i (i + g + 1) (by omega) (by omega))
    have m4 : (t (i + 1) : Rat) ≤ (t (i + g + 2) : Rat) := Rat.intCast_le_intCast.mpr (hm (i + 1) (i + g + 2) (by omega) (by omega))
    have mL : (t (i + 1) : Rat) ≤ (L : Rat) := Rat.intCast_le_intCast.mpr (hL (i + 1) (by omega))
    have mL2 : (t (i + g + 2) : Rat) ≤ (L : Rat) := Rat.intCast_le_intCast.mpr (hL (i + g + 2) (by omega))
    have e2 : i + 1 + g + 1 = i + g + 2 := by omega
    rw [bsp_succ]
    have a1 : lw t g i x * bsp t L g i x = 0 := by
      by_cases hz : x = (t i : Rat)
      · unfold lw
        rw [hz, Rat.sub_self, Rat.div_def, Rat.zero_mul, Rat.zero_mul]
      · rw [bsp_out hm hL g i x (by omega) ?_, Rat.mul_zero]
        rcases h with h | h | ⟨h, h'⟩ | ⟨h, h'⟩
        · exact .inl h
        · right; left; exact Std.lt_of_le_of_lt m2 h
        · exact absurd h hz
        · rcases Rat.le_iff_lt_or_eq.mp m2 with q | q
          · right; left; rw [h]; exact q
          · right; right; right; exact ⟨by rw [q]; exact h, h'⟩
    have a2 : rw' t g i x * bsp t L g (i + 1) x = 0 := by
      by_cases hz : x = (t (i + g + 2) : Rat)
      · unfold rw'
        rw [hz, Rat.sub_self, Rat.div_def, Rat.zero_mul, Rat.zero_mul]
      · rw [bsp_out hm hL g (i + 1) x (by omega) ?_, Rat.mul_zero]
        rw [e2]
        rcases h with h | h | ⟨h, h'⟩ | ⟨h, h'⟩
        · left; exact Std.lt_of_lt_of_le h m1
        · right; left; exact h
        · rcases Rat.le_iff_lt_or_eq.mp m1 with q | q
          · left; rw [h]; exact q
          · right; right; left; exact ⟨by rw [← q]; exact h, h'⟩
        · exact absurd h hz
    rw [a1, a2, Rat.add_zero]
theorem bsp_nonneg (hm : ∀ i j, i ≤ j → j < n → t i ≤ t j) (hL : ∀ i, i < n → t i ≤ L) : ∀ (g i : Nat) (x : Rat), i + g + 1 < n → 0 ≤ bsp t L g i x
  | 0, i, x, hi => by
    unfold bsp
    split <;> split <;> decide
  | g + 1, i, x, hi => by
    have m1 : (t i : Rat) ≤ (t (i + 1) : Rat) := Rat.intCast_le_intCast.mpr (hm i (i + 1) (by omega) (by omega))
    have m2 : (t (i + g + 1) : Rat) ≤ (t (i + g + 2) : Rat) := Rat.intCast_le_intCast.mpr (hm (i + g + 1) (i + g + 2) (by omega) (by omega))
    have m3 : (t i : Rat) ≤ (t (i + g + 1) : Rat) := Rat.intCast_le_intCast.mpr (hm i (i + g + 1) (by omega) (by omega))
    have m4 : (t (i + 1) : Rat) ≤ (t (i + g + 2) : Rat) := Rat.intCast_le_intCast.mpr (hm (i + 1) (i + g + 2) (by omega) (by omega))
    have e2 : i + 1 + g + 1 = i + g + 2 := by omega
    rw [bsp_succ]
    by_cases h1 : x < (t i : Rat)
    · rw [bsp_out hm hL g i x (by omega) (.inl h1), bsp_out hm hL g (i + 1) x (by omega) (.inl (Std.lt_of_lt_of_le h1 m1)), Rat.mul_zero, Rat.mul_zero, Rat.add_zero]
      exact Rat.le_refl
    · by_cases h2 : (t (i + g + 2) : Rat) < x
      · rw [bsp_out hm hL g i x (by omega) (.inr (.inl (Std.lt_of_le_of_lt m2 h2))), bsp_out hm hL g (i + 1) x (by omega) (.inr (.inl (by rw [e2]; exact h2))), Rat.mul_zero, Rat.mul_zero, Rat.add_zero]
        exact Rat.le_refl
      · have p1 : 0 ≤ lw t g i x := div_nonneg' (by grind) (by grind)
        have p2 : 0 ≤ rw' t g i x := div_nonneg' (by grind) (by grind)
        exact Rat.add_nonneg (Rat.mul_nonneg p1 (bsp_nonneg hm hL g i x (by omega))) (Rat.mul_nonneg p2 (bsp_nonneg hm hL g (i + 1) x (by omega)))
def Up (t : Nat → Int) (L : Int) (g i : Nat) (x : Rat) : Prop := ((t i : Rat) < x ∧ x < (t (i + g + 1) : Rat)) ∨ (x = (t i : Rat) ∧ x = (t (i + g) : Rat)) ∨ (x = (L : Rat) ∧ x = (t (i + 1) : Rat))
theorem icle {a b : Int} (h : a ≤ b) : (a : Rat) ≤ (b : Rat) := Rat.intCast_le_intCast.mpr h
theorem iclt {a b : Int} (h : a < b) : (a : Rat) < (b : Rat) := Rat.intCast_lt_intCast.mpr h
theorem bsp_left (hm : ∀ i j, i ≤ j → j < n → t i ≤ t j) (hL : ∀ i, i < n → t i ≤ L) : ∀ (g i : Nat) (x : Rat), i + g + 1 < n → x = (t i : Rat) → t i < t (i + g) → bsp t L g i x = 0
  | 0, i, x, hi, _, h => absurd h (Int.lt_irrefl _)
  | g + 1, i, x, hi, hx, h => by
    rw [bsp_succ]
    have a1 : lw t g i x = 0 := by unfold lw; rw [hx, Rat.sub_self, Rat.div_def, Rat.zero_mul]
    have a2 : bsp t L g (i + 1) x = 0 := by
      rcases Int.lt_or_eq_of_le (hm i (i + 1) (by omega) (by omega)) with q | q
      · exact bsp_out hm hL g (i + 1) x (by omega) (.inl (by rw [hx]; exact iclt q))
      · refine bsp_left hm hL g (i + 1) x (by omega) (by rw [← q]; exact hx) ?_
        rw [← q, show i + 1 + g = i + (g + 1) by omega]
        exact h
    rw [a1, a2, Rat.zero_mul, Rat.mul_zero, Rat.add_zero]
theorem bsp_right (hm : ∀ i j, i ≤ j → j < n → t i ≤ t j) (hL : ∀ i, i < n → t i ≤ L) : ∀ (g i : Nat) (x : Rat), i + g + 1 < n → x = (t (i + g + 1) : Rat) → t (i + g + 1) = L → t (i + 1) < L → bsp t L g i x = 0
  | 0, i, x, hi, hx, h1, h2 => absurd h2 (by rw [show i + 1 = i + 0 + 1 by omega, h1]; exact Int.lt_irrefl _)
  | g + 1, i, x, hi, hx, h1, h2 => by
    rw [bsp_succ]
    have e : i + (g + 1) + 1 = i + g + 2 := by omega
    rw [e] at hx h1
    have a1 : rw' t g i x = 0 := by unfold rw'; rw [hx, Rat.sub_self, Rat.div_def, Rat.zero_mul]
    have a2 : bsp t L g i x = 0 := by
      rcases Int.lt_or_eq_of_le (hm (i + g + 1) (i + g + 2) (by omega) (by omega)) with q | q
      · exact bsp_out hm hL g i x (by omega) (.inr (.inl (by rw [hx]; exact iclt q)))
      · exact bsp_right hm hL g i x (by omega) (by rw [q]; exact hx) (by rw [q]; exact h1) h2
    rw [a1, a2, Rat.mul_zero, Rat.zero_mul, Rat.add_zero]
theorem bsp_pos (hm : ∀ i j, i ≤ j → j < n → t i ≤ t j) (hL : ∀ i, i < n → t i ≤ L) : ∀ (g i : Nat) (x : Rat), i + g + 1 < n → t i < t (i + g + 1) → Up t L g i x → 0 < bsp t L g i x
  | 0, i, x, hi, hw, h => by
    have hL1 := icle (hL (i + 1) (by omega))
    have hw' := iclt hw
    unfold bsp
    rw [if_pos]
    · decide
    · unfold Up at h
      rcases h with h | h | h
      · rw [if_neg (by grind)]; grind
      · rw [if_neg (by grind)]; grind
      · rw [if_pos h.1]; grind
  | g + 1, i, x, hi, hw, h => by
    have e : i + (g + 1) + 1 = i + g + 2 := by omega
    have e2 : i + 1 + g + 1 = i + g + 2 := by omega
    rw [e] at hw
    rw [bsp_succ]
    have n1 := bsp_nonneg hm hL g i x (by omega)
    have n2 := bsp_nonneg hm hL g (i + 1) x (by omega)
    have m1 := icle (hm i (i + 1) (by omega) (by omega))
    have m2 := icle (hm (i + g + 1) (i + g + 2) (by omega) (by omega))
    have m3 := icle (hm i (i + g + 1) (by omega) (by omega))
    have m4 := icle (hm (i + 1) (i + g + 2) (by omega) (by omega))
    have m5 := icle (hm (i + 1) (i + g + 1) (by omega) (by omega))
    have mL := icle (hL (i + g + 1) (by omega))
    have mL2 := icle (hL (i + g + 2) (by omega))
    have hw' := iclt hw
    have left : t i < t (i + g + 1) → Up t L g i x → (t i : Rat) < x → x ≤ (t (i + g + 2) : Rat) → 0 < lw t g i x * bsp t L g i x + rw' t g i x * bsp t L g (i + 1) x := fun q u a b => by
      have p := bsp_pos hm hL g i x (by omega) q u
      have q' := iclt q
      have p1 : 0 < lw t g i x := div_pos' (by grind) (by grind)
      have p2 : 0 ≤ rw' t g i x := div_nonneg' (by grind) (by grind)
      have := Rat.mul_pos p1 p
      have := Rat.mul_nonneg p2 n2
      grind
    have right : t (i + 1) < t (i + g + 2) → Up t L g (i + 1) x → (t i : Rat) ≤ x → x < (t (i + g + 2) : Rat) → 0 < lw t g i x * bsp t L g i x + rw' t g i x * bsp t L g (i + 1) x := fun q u a b => by
      have p := bsp_pos hm hL g (i + 1) x (by omega) (by rw [e2]; exact q) u
      have q' := iclt q
      have p1 : 0 ≤ lw t g i x := div_nonneg' (by grind) (by grind)
      have p2 : 0 < rw' t g i x := div_pos' (by grind) (by grind)
      have := Rat.mul_pos p2 p
      have := Rat.mul_nonneg p1 n1
      grind
    rcases h with ⟨h1, h2⟩ | ⟨h1, h2⟩ | ⟨h1, h2⟩
    · rw [e] at h2
      by_cases hx : x < (t (i + g + 1) : Rat)
      · exact left (Rat.intCast_lt_intCast.mp (by grind)) (.inl ⟨h1, hx⟩) h1 (by grind)
      · refine right (Rat.intCast_lt_intCast.mp (by grind)) ?_ (by grind) h2
        by_cases hx2 : (t (i + 1) : Rat) < x
        · exact .inl ⟨hx2, by rw [e2]; exact h2⟩
        · refine .inr (.inl ⟨by grind, ?_⟩)
          rw [show i + 1 + g = i + g + 1 by omega]
          grind
    · rw [show i + (g + 1) = i + g + 1 by omega] at h2
      refine right (Rat.intCast_lt_intCast.mp (by grind)) (.inr (.inl ⟨by grind, ?_⟩)) (by grind) (by grind)
      rw [show i + 1 + g = i + g + 1 by omega]
      exact h2
    · have h3 : (t i : Rat) < x := by grind
      have h4 : (t (i + g + 1) : Rat) = x := by grind
      exact left (Rat.intCast_lt_intCast.mp (by grind)) (.inr (.inr ⟨h1, h2⟩)) h3 (by grind)
theorem bsp_iff (hm : ∀ i j, i ≤ j → j < n → t i ≤ t j) (hL : ∀ i, i < n → t i ≤ L) {g i : Nat} {x : Rat} (hi : i + g + 1 < n) (hw : t i < t (i + g + 1)) : 0 < bsp t L g i x ↔ Up t L g i x := by
  refine ⟨fun h => ?_, bsp_pos hm hL g i x hi hw⟩
  have m3 := icle (hm i (i + g) (by omega) (by omega))
  have m4 := icle (hm (i + 1) (i + g + 1) (by omega) (by omega))
  have mL := icle (hL (i + g + 1) hi)
  have mL1 := icle (hL (i + 1) (by omega))
  have mL2 := icle (hL (i + g) (by omega))
  have hw' := iclt hw
  have no : bsp t L g i x ≠ 0 := by grind
  have out := fun z => no (bsp_out hm hL g i x hi z)
  unfold Up
  by_cases h1 : (t i : Rat) < x ∧ x < (t (i + g + 1) : Rat)
  · exact .inl h1
  · by_cases h2 : x = (t i : Rat)
    · right; left
      refine ⟨h2, ?_⟩
      by_cases q : t i < t (i + g)
      · exact absurd (bsp_left hm hL g i x hi h2 q) no
      · have := hm i (i + g) (by omega) (by omega)
        rw [h2, show t i = t (i + g) by omega]
    · by_cases h3 : x = (t (i + g + 1) : Rat)
      · by_cases h4 : x = (L : Rat)
        · right; right
          refine ⟨h4, ?_⟩
          by_cases q : t (i + 1) < L
          · exact absurd (bsp_right hm hL g i x hi h3 (Rat.intCast_inj.mp (by rw [← h3]; exact h4)) q) no
          · have := hL (i + 1) (by omega)
            rw [h4, show t (i + 1) = L by omega]
        · exact absurd (out (.inr (.inr (.inr ⟨h3, h4⟩)))) id
      · exfalso
        by_cases q : x < (t i : Rat)
        · exact out (.inl q)
        · exact out (.inr (.inl (by grind)))
end
end DL
namespace DL
def sb (c : Nat) : Nat → Nat
  | 0 => 1
  | g + 1 => (c + sb c g) + (c + sb c g) + 1
end DL
namespace DL
end DL
namespace DL
end DL
namespace DL
section
variable {t : Nat → Int} {L : Int} {n : Nat}
def sm (t : Nat → Int) (L : Int) (g : Nat) (x : Rat) (a : Nat) : Nat → Rat
  | 0 => 0
  | l + 1 => sm t L g x a l + bsp t L g (a + l) x
theorem bsp_flat (hm : ∀ i j, i ≤ j → j < n → t i ≤ t j) (hL : ∀ i, i < n → t i ≤ L) {g i : Nat} (x : Rat) (hi : i + g + 1 < n) (h : t i = t (i + g + 1)) : bsp t L g i x = 0 := by
  refine bsp_out hm hL g i x hi ?_
  rw [← h]
  by_cases h1 : x < (t i : Rat)
  · exact .inl h1
  · by_cases h2 : (t i : Rat) < x
    · exact .inr (.inl h2)
    · have : x = (t i : Rat) := by grind
      by_cases h3 : x = (L : Rat)
      · exact .inr (.inr (.inl ⟨this, h3⟩))
      · exact .inr (.inr (.inr ⟨this, h3⟩))
end
end DL
namespace DL
def lap (c : Nat → Rat) (f : List Nat → Rat) : List Nat → Rat
  | [] => 0
  | i :: I => c i * f I - lap c (fun J => f (i :: J)) I
def dt : List (Nat → Rat) → List Nat → Rat
  | [], _ => 1
  | c :: cs, I => lap c (dt cs) I
theorem lap_lin (c : Nat → Rat) (a b : Rat) : ∀ (I : List Nat) (f g : List Nat → Rat), lap c (fun J => a * f J + b * g J) I = a * lap c f I + b * lap c g I
  | [], f, g => by unfold lap; grind
  | i :: I, f, g => by
    unfold lap
    rw [lap_lin c a b I (fun J => f (i :: J)) (fun J => g (i :: J))]
    grind
theorem lap_clin (c d : Nat → Rat) (a b : Rat) : ∀ (I : List Nat) (f : List Nat → Rat), lap (fun i => a * c i + b * d i) f I = a * lap c f I + b * lap d f I
  | [], f => by unfold lap; grind
  | i :: I, f => by
    unfold lap
    rw [lap_clin c d a b I (fun J => f (i :: J))]
    grind
theorem lap_anti (c d : Nat → Rat) : ∀ (I : List Nat) (f : List Nat → Rat), lap c (lap d f) I = - lap d (lap c f) I
  | [], f => by unfold lap; grind
  | i :: I, f => by
    have h1 : ∀ J, lap d f (i :: J) = d i * f J + (-1) * lap d (fun J => f (i :: J)) J := fun J => by rw [lap]; grind
    have h2 : ∀ J, lap c f (i :: J) = c i * f J + (-1) * lap c (fun J => f (i :: J)) J := fun J => by rw [lap]; grind
    have ih := lap_anti c d I (fun J => f (i :: J))
    rw [lap, lap]
    simp only [h1, h2]
    rw [lap_lin, lap_lin]
    grind
theorem lap_congr {c c' : Nat → Rat} : ∀ {I : List Nat} {f f' : List Nat → Rat}, (∀ i ∈ I, c i = c' i) → (∀ J, J.length + 1 = I.length → J.Sublist I → f J = f' J) → lap c f I = lap c' f' I
  | [], f, f', _, _ => rfl
  | i :: I, f, f', h1, h2 => by
    unfold lap
    rw [h1 i (by simp), h2 I (by simp) (List.sublist_cons_self i I), lap_congr (I := I) (f := fun J => f (i :: J)) (f' := fun J => f' (i :: J)) (fun j hj => h1 j (by simp [hj])) fun J hl hJ => h2 (i :: J) (by simp [hl]) (hJ.cons₂ i)]
theorem lap_zero {c : Nat → Rat} : ∀ {I : List Nat} {f : List Nat → Rat}, (∀ A y B, I = A ++ y :: B → c y = 0 ∨ f (A ++ B) = 0) → lap c f I = 0
  | [], f, _ => rfl
  | i :: I, f, h => by
    unfold lap
    rw [lap_zero (I := I) (f := fun J => f (i :: J)) fun A y B e => h (i :: A) y B (by rw [e]; rfl)]
    rcases h [] i I rfl with z | z
    · rw [z]; grind
    · rw [show [] ++ I = I from rfl] at z
      rw [z]; grind
theorem dt_congr : ∀ {cs cs' : List (Nat → Rat)} {I : List Nat}, cs.length = cs'.length → (∀ k i, i ∈ I → ∀ (h : k < cs.length) (h' : k < cs'.length), cs[k] i = cs'[k] i) → dt cs I = dt cs' I
  | [], [], I, _, _ => rfl
  | c :: cs, c' :: cs', I, hl, h => by
    unfold dt
    refine lap_congr (fun i hi => h 0 i hi (by simp) (by simp)) fun J _ hJ => dt_congr (by simpa using hl) fun k i hi h1 h2 => ?_
    have := h (k + 1) i (hJ.subset hi) (by simpa using h1) (by simpa using h2)
    simpa using this
theorem dt_pre {X Y : List (Nat → Rat)} {a : Rat} (h : ∀ I, dt X I = a * dt Y I) : ∀ (P : List (Nat → Rat)) (I : List Nat), dt (P ++ X) I = a * dt (P ++ Y) I
  | [], I => h I
  | p :: P, I => by
    have e : dt (P ++ X) = fun J => a * dt (P ++ Y) J + 0 * dt (P ++ Y) J := by
      funext J
      rw [dt_pre h P J]
      grind
    show lap p (dt (P ++ X)) I = a * lap p (dt (P ++ Y)) I
    rw [e, lap_lin]
    grind
theorem dt_lin (a b : Rat) (c d : Nat → Rat) (cs : List (Nat → Rat)) : ∀ (P : List (Nat → Rat)) (I : List Nat), dt (P ++ (fun i => a * c i + b * d i) :: cs) I = a * dt (P ++ c :: cs) I + b * dt (P ++ d :: cs) I
  | [], I => lap_clin c d a b I (dt cs)
  | p :: P, I => by
    have e : dt (P ++ (fun i => a * c i + b * d i) :: cs) = fun J => a * dt (P ++ c :: cs) J + b * dt (P ++ d :: cs) J := by
      funext J
      exact dt_lin a b c d cs P J
    show lap p (dt (P ++ (fun i => a * c i + b * d i) :: cs)) I = _
    rw [e, lap_lin]
    rfl
theorem dt_swap0 (c d : Nat → Rat) (cs : List (Nat → Rat)) (I : List Nat) : dt (c :: d :: cs) I = (-1) * dt (d :: c :: cs) I := by
  have := lap_anti c d I (dt cs)
  show lap c (lap d (dt cs)) I = (-1) * lap d (lap c (dt cs)) I
  grind
theorem dt_swap (P : List (Nat → Rat)) (c d : Nat → Rat) (cs : List (Nat → Rat)) (I : List Nat) : dt (P ++ c :: d :: cs) I = (-1) * dt (P ++ d :: c :: cs) I := dt_pre (fun I => dt_swap0 c d cs I) P I
theorem dt_twin (P : List (Nat → Rat)) (c : Nat → Rat) (cs : List (Nat → Rat)) (I : List Nat) : dt (P ++ c :: c :: cs) I = 0 := by
  have := dt_swap P c c cs I
  grind
def sgn : Nat → Rat
  | 0 => 1
  | n + 1 => -sgn n
theorem dt_front (c : Nat → Rat) : ∀ (A B : List (Nat → Rat)) (I : List Nat), dt (c :: (A ++ B)) I = sgn A.length * dt (A ++ c :: B) I
  | [], B, I => by show _ = (1 : Rat) * _; rw [Rat.one_mul]; rfl
  | a :: A, B, I => by
    show dt (c :: a :: (A ++ B)) I = _
    rw [dt_swap0]
    have e := dt_pre (X := c :: (A ++ B)) (Y := A ++ c :: B) (a := sgn A.length) (fun I => dt_front c A B I) [a] I
    have e : dt (a :: c :: (A ++ B)) I = sgn A.length * dt (a :: (A ++ c :: B)) I := e
    rw [e]
    show _ = (-sgn A.length) * dt (a :: (A ++ c :: B)) I
    grind
theorem dt_mem {c : Nat → Rat} {cs : List (Nat → Rat)} (h : c ∈ cs) (I : List Nat) : dt (c :: cs) I = 0 := by
  obtain ⟨A, B, rfl⟩ := List.append_of_mem h
  rw [dt_front c A (c :: B) I, dt_twin A c B I, Rat.mul_zero]
def cmb : List Rat → List (Nat → Rat) → Nat → Rat
  | a :: as, c :: cs => fun i => a * c i + cmb as cs i
  | _, _ => fun _ => 0
theorem cmb_nil (as : List Rat) (i : Nat) : cmb as [] i = 0 := by cases as <;> rfl
theorem dt_zrow : ∀ {cs : List (Nat → Rat)} {I : List Nat} {x : Nat}, cs.length = I.length → x ∈ I → (∀ c ∈ cs, c x = 0) → dt cs I = 0
  | [], I, x, hl, hx, _ => by
    have : I = [] := List.length_eq_zero_iff.mp hl.symm
    subst this
    simp at hx
  | c :: cs, I, x, hl, hx, h => by
    refine lap_zero fun A y B e => ?_
    subst e
    by_cases hy : y = x
    · left; rw [hy]; exact h c (by simp)
    · right
      refine dt_zrow (x := x) (by simp at hl ⊢; omega) ?_ fun d hd => h d (by simp [hd])
      simp only [List.mem_append, List.mem_cons] at hx ⊢
      rcases hx with q | q | q
      · exact .inl q
      · exact absurd q.symm hy
      · exact .inr q
def kprod (K : Nat → Nat) : List Nat → Nat
  | [] => 1
  | i :: I => K i * kprod K I
def IB (B : Nat) (x : Rat) : Prop := ∃ z : Int, x = (z : Rat) ∧ z.natAbs ≤ B
theorem IB.mul {a b : Rat} {A B : Nat} (ha : IB A a) (hb : IB B b) : IB (A * B) (a * b) := by
  obtain ⟨x, rfl, hx⟩ := ha
  obtain ⟨y, rfl, hy⟩ := hb
  exact ⟨x * y, by rw [Rat.intCast_mul], by rw [Int.natAbs_mul]; exact Nat.mul_le_mul hx hy⟩
theorem IB.sub {a b : Rat} {A B : Nat} (ha : IB A a) (hb : IB B b) : IB (A + B) (a - b) := by
  obtain ⟨x, rfl, hx⟩ := ha
  obtain ⟨y, rfl, hy⟩ := hb
  exact ⟨x - y, by rw [Rat.intCast_sub], by omega⟩
theorem IB.mono {a : Rat} {A B : Nat} (ha : IB A a) (h : A ≤ B) : IB B a := by
  obtain ⟨x, rfl, hx⟩ := ha
  exact ⟨x, rfl, by omega⟩
def fac : Nat → Nat
  | 0 => 1
  | n + 1 => (n + 1) * fac n
end DL
namespace DL
def ins (t : Nat → Int) (m : Nat) (z : Int) : Nat → Int := fun i => if i < m then t i else if i = m then z else t (i - 1)
theorem ins_lt {t : Nat → Int} {m : Nat} {z : Int} {i : Nat} (h : i < m) : ins t m z i = t i := if_pos h
theorem ins_eq {t : Nat → Int} {m : Nat} {z : Int} {i : Nat} (h : i = m) : ins t m z i = z := by unfold ins; rw [if_neg (by omega), if_pos h]
theorem ins_gt {t : Nat → Int} {m : Nat} {z : Int} {i j : Nat} (h : m ≤ j) (e : i = j + 1) : ins t m z i = t j := by unfold ins; rw [if_neg (by omega), if_neg (by omega), e]; rfl
structure Cut (t : Nat → Int) (n m : Nat) (z : Int) : Prop where
  mono : ∀ i j, i ≤ j → j < n → t i ≤ t j
  low : ∀ i, i < m → t i ≤ z
  high : ∀ i, m ≤ i → i < n → z < t i
  mn : m < n
theorem Cut.ins {t : Nat → Int} {n m : Nat} {z : Int} (c : Cut t n m z) : ∀ i j, i ≤ j → j < n + 1 → ins t m z i ≤ ins t m z j := by
  intro i j hij hj
  have h1 := c.mono
  have h2 := c.low
  have h3 := c.high
  unfold DL.ins
  by_cases a : i < m
  · rw [if_pos a]
    by_cases b : j < m
    · rw [if_pos b]; exact h1 i j hij (by have := c.mn; omega)
    · rw [if_neg b]
      by_cases d : j = m
      · rw [if_pos d]; exact h2 i a
      · rw [if_neg d]; exact h1 i (j - 1) (by omega) (by omega)
  · rw [if_neg a, if_neg (show ¬ j < m by omega)]
    by_cases b : i = m
    · rw [if_pos b]
      by_cases d : j = m
      · rw [if_pos d]; exact Int.le_refl _
      · rw [if_neg d]; exact Int.le_of_lt (h3 (j - 1) (by omega) (by omega))
    · rw [if_neg b, if_neg (show ¬ j = m by omega)]
      exact h1 (i - 1) (j - 1) (by omega) (by omega)
def al (t : Nat → Int) (m : Nat) (z : Int) (g j : Nat) : Rat := if j + g < m then 1 else if m ≤ j then 0 else ((z : Rat) - (t j : Rat)) / ((t (j + g) : Rat) - (t j : Rat))
theorem al_one {t : Nat → Int} {m : Nat} {z : Int} {g j : Nat} (h : j + g < m) : al t m z g j = 1 := if_pos h
theorem al_zero {t : Nat → Int} {m : Nat} {z : Int} {g j : Nat} (h : m ≤ j) : al t m z g j = 0 := by unfold al; rw [if_neg (by omega), if_pos h]
theorem al_mid {t : Nat → Int} {m : Nat} {z : Int} {g j : Nat} (h : ¬ j + g < m) (h2 : j < m) : al t m z g j = ((z : Rat) - (t j : Rat)) / ((t (j + g) : Rat) - (t j : Rat)) := by unfold al; rw [if_neg h, if_neg (by omega)]
theorem alg1 {a c z x : Rat} (h1 : c - a ≠ 0) (h2 : z - a ≠ 0) : (x - a) / (c - a) = (z - a) / (c - a) * ((x - a) / (z - a)) := by grind
theorem alg2 {a c d z x : Rat} (h1 : c - a ≠ 0) (h2 : d - a ≠ 0) : (x - a) / (d - a) * ((z - a) / (c - a)) = (z - a) / (d - a) * ((x - a) / (c - a)) := by grind
theorem alg3 {b d e z x : Rat} (h1 : d - b ≠ 0) (h2 : d - e ≠ 0) : (d - x) / (d - b) * (1 - (z - e) / (d - e)) = (1 - (z - b) / (d - b)) * ((d - x) / (d - e)) := by grind
theorem alg4 {b d z x : Rat} (h1 : d - b ≠ 0) (h2 : d - z ≠ 0) : (d - x) / (d - b) = (1 - (z - b) / (d - b)) * ((d - x) / (d - z)) := by grind
theorem alg5 {b d z x : Rat} (h1 : d - b ≠ 0) (h2 : z - b ≠ 0) : (d - x) / (d - b) = (z - x) / (z - b) + (1 - (z - b) / (d - b)) * ((x - b) / (z - b)) := by grind
theorem alg6 {a b c d z x : Rat} (h1 : c - a ≠ 0) (h2 : d - b ≠ 0) (h3 : c - b ≠ 0) : (x - a) / (c - a) * (1 - (z - b) / (c - b)) + (d - x) / (d - b) * ((z - b) / (c - b)) = (z - a) / (c - a) * ((c - x) / (c - b)) + (1 - (z - b) / (d - b)) * ((x - b) / (c - b)) := by grind
theorem alg7 {a c z x : Rat} (h1 : c - a ≠ 0) (h2 : c - z ≠ 0) : (x - a) / (c - a) = (z - a) / (c - a) * ((c - x) / (c - z)) + (x - z) / (c - z) := by grind
theorem sub_ne {a b : Int} (h : a < b) : (b : Rat) - (a : Rat) ≠ 0 := by
  have := iclt h
  grind
section
variable {t : Nat → Int} {n m : Nat} {z L : Int}
theorem bsp_ins (c : Cut t n m z) (hL : ∀ i, i < n → t i ≤ L) (hz : z < L) : ∀ (g j : Nat) (x : Rat), j + g + 1 < n →
    bsp t L g j x = al t m z g j * bsp (ins t m z) L g j x + (1 - al t m z g (j + 1)) * bsp (ins t m z) L g (j + 1) x
  | 0, j, x, hj => by
    have low := c.low
    have high := c.high
    have mn := c.mn
    by_cases h1 : j + 1 < m
    · rw [al_one (by omega), al_one (by omega)]
      unfold bsp
      rw [ins_lt (show j < m by omega), ins_lt h1]
      grind
    · by_cases h2 : m ≤ j
      · rw [al_zero (by omega), al_zero (by omega)]
        unfold bsp
        rw [ins_gt (i := j + 1) h2 rfl, ins_gt (i := j + 1 + 1) (j := j + 1) (by omega) rfl]
        grind
      · rw [al_one (show j + 0 < m by omega), al_zero (show m ≤ j + 1 by omega)]
        unfold bsp
        rw [ins_lt (show j < m by omega), ins_eq (show j + 1 = m by omega), ins_gt (i := j + 1 + 1) (j := j + 1) (by omega) rfl]
        have e1 := icle (low j (by omega))
        have e2 := iclt (high (j + 1) (by omega) (by omega))
        have e3 := iclt hz
        have e4 := icle (hL (j + 1) (by omega))
        by_cases hx : x = (L : Rat)
        · simp only [if_pos hx]
          by_cases q : (t j : Rat) < x ∧ x ≤ (t (j + 1) : Rat)
          · rw [if_pos q, if_neg (by grind), if_pos (by grind)]; grind
          · rw [if_neg q, if_neg (by grind), if_neg (by grind)]; grind
        · simp only [if_neg hx]
          by_cases q : (t j : Rat) ≤ x ∧ x < (t (j + 1) : Rat)
          · rw [if_pos q]
            by_cases r : x < (z : Rat)
            · rw [if_pos ⟨q.1, r⟩, if_neg (by grind)]; grind
            · rw [if_neg (by grind), if_pos ⟨by grind, q.2⟩]; grind
          · rw [if_neg q, if_neg (by grind), if_neg (by grind)]; grind
  | g + 1, j, x, hj => by
    have low := c.low
    have high := c.high
    have mn := c.mn
    have i1 := bsp_ins c hL hz g j x (by omega)
    have i2 := bsp_ins c hL hz g (j + 1) x (by omega)
    have mi := c.ins
    have hLi : ∀ i, i < n + 1 → ins t m z i ≤ L := fun i hi => by
      unfold ins
      split
      · exact hL i (by omega)
      · split
        · exact Int.le_of_lt hz
        · exact hL (i - 1) (by omega)
    have e2 : j + 1 + g + 1 = j + g + 2 := by omega
    have e3 : j + 1 + g + 2 = j + g + 3 := by omega
    -- the three parts
    have p1 : lw t g j x * al t m z g j * bsp (ins t m z) L g j x = al t m z (g + 1) j * lw (ins t m z) g j x * bsp (ins t m z) L g j x := by
      by_cases h1 : j + (g + 1) < m
      · rw [al_one (show j + g < m by omega), al_one h1]
        unfold lw
        rw [ins_lt (show j < m by omega), ins_lt (show j + g + 1 < m by omega)]
        grind
      · by_cases h2 : m ≤ j
        · rw [al_zero h2, al_zero h2]; grind
        · have ta := low j (by omega)
          have tc := high (j + g + 1) (by omega) (by omega)
          have n2 := sub_ne (show t j < t (j + g + 1) by omega)
          rw [al_mid h1 (show j < m by omega)]
          by_cases h3 : j + g + 1 = m
          · rw [al_one (show j + g < m by omega)]
            by_cases hw : t j = z
            · rw [bsp_flat mi hLi x (by omega) (by rw [ins_lt (show j < m by omega), ins_eq h3]; exact hw)]
              grind
            · have n1 := sub_ne (show t j < z by omega)
              unfold lw
              rw [ins_lt (show j < m by omega), ins_eq h3]
              have := alg1 (x := x) n2 n1
              rw [show j + (g + 1) = j + g + 1 from rfl]
              rw [Rat.mul_one, this]
          · rw [al_mid (show ¬ j + g < m by omega) (show j < m by omega)]
            have tb := high (j + g) (by omega) (by omega)
            have n1 := sub_ne (show t j < t (j + g) by omega)
            unfold lw
            rw [ins_lt (show j < m by omega), ins_gt (i := j + g + 1) (j := j + g) (by omega) rfl]
            have := alg2 (x := x) (z := (z : Rat)) n1 n2
            rw [show j + (g + 1) = j + g + 1 from rfl, this]
    have p3 : rw' t g j x * (1 - al t m z g (j + 1 + 1)) * bsp (ins t m z) L g (j + 1 + 1) x = (1 - al t m z (g + 1) (j + 1)) * rw' (ins t m z) g (j + 1) x * bsp (ins t m z) L g (j + 1 + 1) x := by
      by_cases h1 : j + 1 + 1 + g < m
      · rw [al_one h1, al_one (show j + 1 + (g + 1) < m by omega)]; grind
      · have td := high (j + g + 2) (by omega) (by omega)
        unfold rw'
        rw [ins_gt (i := j + 1 + g + 2) (j := j + g + 2) (by omega) (by omega)]
        by_cases h2 : j + 1 + 1 < m
        · have tb := low (j + 1) (by omega)
          have te := low (j + 1 + 1) (by omega)
          have n1 := sub_ne (show t (j + 1) < t (j + g + 2) by omega)
          have n2 := sub_ne (show t (j + 1 + 1) < t (j + g + 2) by omega)
          rw [ins_lt h2, al_mid h1 h2, al_mid (show ¬ j + 1 + (g + 1) < m by omega) (show j + 1 < m by omega)]
          have := alg3 (x := x) (z := (z : Rat)) n1 n2
          rw [show j + 1 + 1 + g = j + g + 2 by omega, show j + 1 + (g + 1) = j + g + 2 by omega, this]
        · by_cases h3 : j + 1 + 1 = m
          · have tb := low (j + 1) (by omega)
            have n1 := sub_ne (show t (j + 1) < t (j + g + 2) by omega)
            have n2 := sub_ne td
            rw [ins_eq h3, al_zero (show m ≤ j + 1 + 1 by omega), al_mid (show ¬ j + 1 + (g + 1) < m by omega) (show j + 1 < m by omega)]
            have := alg4 (x := x) n1 n2
            rw [show j + 1 + (g + 1) = j + g + 2 by omega, ← this]
            grind
          · rw [ins_gt (i := j + 1 + 1) (j := j + 1) (by omega) rfl, al_zero (show m ≤ j + 1 + 1 by omega), al_zero (show m ≤ j + 1 by omega)]
            grind
    have p2 : (lw t g j x * (1 - al t m z g (j + 1)) + rw' t g j x * al t m z g (j + 1)) * bsp (ins t m z) L g (j + 1) x = (al t m z (g + 1) j * rw' (ins t m z) g j x + (1 - al t m z (g + 1) (j + 1)) * lw (ins t m z) g (j + 1) x) * bsp (ins t m z) L g (j + 1) x := by
      unfold lw rw'
      rw [e2]
      by_cases h1 : j + g + 1 < m
      · rw [al_one (show j + 1 + g < m by omega), al_one (show j + (g + 1) < m by omega), ins_lt (show j + 1 < m by omega)]
        by_cases h2 : j + g + 2 < m
        · rw [ins_lt h2, al_one (show j + 1 + (g + 1) < m by omega)]; grind
        · rw [ins_eq (show j + g + 2 = m by omega)]
          by_cases hw : t (j + 1) = z
          · rw [bsp_flat mi hLi x (by omega) (by rw [ins_lt (show j + 1 < m by omega), ins_eq (show j + 1 + g + 1 = m by omega)]; exact hw)]
            grind
          · have tb := low (j + 1) (by omega)
            have td := high (j + g + 2) (by omega) (by omega)
            have n1 := sub_ne (show t (j + 1) < t (j + g + 2) by omega)
            have n2 := sub_ne (show t (j + 1) < z by omega)
            rw [al_mid (show ¬ j + 1 + (g + 1) < m by omega) (show j + 1 < m by omega)]
            have := alg5 (x := x) n1 n2
            rw [show j + 1 + (g + 1) = j + g + 2 by omega]
            congr 1
            grind
      · have tc := high (j + g + 1) (by omega) (by omega)
        have td := high (j + g + 2) (by omega) (by omega)
        rw [ins_gt (i := j + g + 2) (j := j + g + 1) (by omega) rfl]
        by_cases h2 : j + 1 < m
        · have ta := low j (by omega)
          have tb := low (j + 1) (by omega)
          have n1 := sub_ne (show t j < t (j + g + 1) by omega)
          have n2 := sub_ne (show t (j + 1) < t (j + g + 2) by omega)
          have n3 := sub_ne (show t (j + 1) < t (j + g + 1) by omega)
          rw [ins_lt h2, al_mid (show ¬ j + 1 + g < m by omega) h2, al_mid (show ¬ j + (g + 1) < m by omega) (show j < m by omega), al_mid (show ¬ j + 1 + (g + 1) < m by omega) h2]
          have := alg6 (x := x) (z := (z : Rat)) n1 n2 n3
          rw [show j + 1 + g = j + g + 1 by omega, show j + (g + 1) = j + g + 1 by omega, show j + 1 + (g + 1) = j + g + 2 by omega, this]
        · by_cases h3 : j + 1 = m
          · have ta := low j (by omega)
            have n1 := sub_ne (show t j < t (j + g + 1) by omega)
            have n2 := sub_ne tc
            rw [ins_eq h3, al_zero (show m ≤ j + 1 by omega), al_mid (show ¬ j + (g + 1) < m by omega) (show j < m by omega), al_zero (show m ≤ j + 1 by omega)]
            have := alg7 (x := x) (z := (z : Rat)) n1 n2
            rw [show j + (g + 1) = j + g + 1 by omega]
            congr 1
            grind
          · rw [ins_gt (i := j + 1) (j := j) (by omega) rfl, al_zero (show m ≤ j + 1 by omega), al_zero (show m ≤ j by omega), al_zero (show m ≤ j + 1 by omega)]
            grind
    rw [bsp_succ, bsp_succ, bsp_succ, i1, i2]
    grind
end
end DL
namespace DL
structure KV (t : Nat → Int) (n g : Nat) (L : Int) : Prop where
  mono : ∀ i j, i ≤ j → j < n → t i ≤ t j
  gap : ∀ i, i + g + 1 < n → t i < t (i + g + 1)
  many : g + 2 ≤ n
  last : t (n - 1) = L
theorem KV.le {t : Nat → Int} {n g : Nat} {L : Int} (k : KV t n g L) : ∀ i, i < n → t i ≤ L := fun i hi => by rw [← k.last]; exact k.mono i (n - 1) (by omega) (by omega)
def UpI (t : Nat → Int) (L : Int) (g j : Nat) (x : Int) : Prop := (t j < x ∧ x < t (j + g + 1)) ∨ (x = t j ∧ x = t (j + g)) ∨ (x = L ∧ x = t (j + 1))
theorem up_iff {t : Nat → Int} {n g : Nat} {L : Int} (k : KV t n g L) {j : Nat} {x : Int} (hj : j + g + 1 < n) : 0 < bsp t L g j (x : Rat) ↔ UpI t L g j x := by
  rw [bsp_iff k.mono k.le hj (k.gap j hj)]
  unfold Up UpI
  simp only [Rat.intCast_lt_intCast, Rat.intCast_inj]
def ble (t : Nat → Int) (z : Int) : Nat → Nat
  | 0 => 0
  | n + 1 => if t n ≤ z then n + 1 else ble t z n
def blt (t : Nat → Int) (z : Int) : Nat → Nat
  | 0 => 0
  | n + 1 => if t n < z then n + 1 else blt t z n
theorem ble_spec {t : Nat → Int} {z : Int} : ∀ {n : Nat}, (∀ i j, i ≤ j → j < n → t i ≤ t j) → (∀ i, i < ble t z n → t i ≤ z) ∧ (∀ i, ble t z n ≤ i → i < n → z < t i) ∧ ble t z n ≤ n
  | 0, _ => ⟨fun i h => absurd h (by simp [ble]), fun i _ h => absurd h (by omega), by simp [ble]⟩
  | n + 1, hm => by
    obtain ⟨h1, h2, h3⟩ := ble_spec (t := t) (z := z) (n := n) fun i j a b => hm i j a (by omega)
    unfold ble
    by_cases h : t n ≤ z
    · rw [if_pos h]
      exact ⟨fun i hi => Int.le_trans (hm i n (by omega) (by omega)) h, fun i a b => absurd a (by omega), Nat.le_refl _⟩
    · rw [if_neg h]
      refine ⟨h1, fun i a b => ?_, by omega⟩
      by_cases e : i = n
      · subst e; omega
      · exact h2 i a (by omega)
theorem blt_spec {t : Nat → Int} {z : Int} : ∀ {n : Nat}, (∀ i j, i ≤ j → j < n → t i ≤ t j) → (∀ i, i < blt t z n → t i < z) ∧ (∀ i, blt t z n ≤ i → i < n → z ≤ t i) ∧ blt t z n ≤ n
  | 0, _ => ⟨fun i h => absurd h (by simp [blt]), fun i _ h => absurd h (by omega), by simp [blt]⟩
  | n + 1, hm => by
    obtain ⟨h1, h2, h3⟩ := blt_spec (t := t) (z := z) (n := n) fun i j a b => hm i j a (by omega)
    unfold blt
    by_cases h : t n < z
    · rw [if_pos h]
      exact ⟨fun i hi => by have := hm i n (by omega) (by omega); omega, fun i a b => absurd a (by omega), Nat.le_refl _⟩
    · rw [if_neg h]
      refine ⟨h1, fun i a b => ?_, by omega⟩
      by_cases e : i = n
      · subst e; omega
      · exact h2 i a (by omega)
theorem ble_uniq {t : Nat → Int} {z : Int} {n m : Nat} (hm : ∀ i j, i ≤ j → j < n → t i ≤ t j) (h1 : ∀ i, i < m → t i ≤ z) (h2 : ∀ i, m ≤ i → i < n → z < t i) (h3 : m ≤ n) : ble t z n = m := by
  obtain ⟨a1, a2, a3⟩ := ble_spec (z := z) hm
  rcases Nat.lt_trichotomy (ble t z n) m with h | h | h
  · have := h1 _ h; have := a2 _ (Nat.le_refl _) (by omega); omega
  · exact h
  · have := a1 _ h; have := h2 _ (Nat.le_refl _) (by omega); omega
theorem blt_uniq {t : Nat → Int} {z : Int} {n m : Nat} (hm : ∀ i j, i ≤ j → j < n → t i ≤ t j) (h1 : ∀ i, i < m → t i < z) (h2 : ∀ i, m ≤ i → i < n → z ≤ t i) (h3 : m ≤ n) : blt t z n = m := by
  obtain ⟨a1, a2, a3⟩ := blt_spec (z := z) hm
  rcases Nat.lt_trichotomy (blt t z n) m with h | h | h
  · have := h1 _ h; have := a2 _ (Nat.le_refl _) (by omega); omega
  · exact h
  · have := a1 _ h; have := h2 _ (Nat.le_refl _) (by omega); omega
def mul (t : Nat → Int) (n : Nat) (z : Int) : Nat := ble t z n - blt t z n
section
variable {t : Nat → Int} {n g : Nat} {L z : Int}
abbrev put (t : Nat → Int) (n : Nat) (z : Int) : Nat → Int := ins t (ble t z n) z
theorem KV.cut (k : KV t n g L) (hz : z < L) : Cut t n (ble t z n) z := by
  obtain ⟨a1, a2, a3⟩ := ble_spec (z := z) k.mono
  refine ⟨k.mono, a1, a2, ?_⟩
  rcases Nat.lt_or_ge (ble t z n) n with h | h
  · exact h
  · have := a1 (n - 1) (by have := k.many; omega)
    rw [k.last] at this
    omega
theorem KV.put (k : KV t n g L) (hz : z < L) (hm : mul t n z < g) : KV (put t n z) (n + 1) g L := by
  have c := k.cut hz
  obtain ⟨b1, b2, b3⟩ := blt_spec (z := z) k.mono
  have low := c.low
  have high := c.high
  have mn := c.mn
  unfold mul at hm
  unfold DL.put
  generalize ble t z n = m at *
  generalize blt t z n = a at *
  refine ⟨c.ins, fun i hi => ?_, by have := k.many; omega, ?_⟩
  · by_cases h1 : i + g + 1 < m
    · rw [ins_lt h1, ins_lt (by omega)]; exact k.gap i (by omega)
    · by_cases h2 : i + g + 1 = m
      · rw [ins_eq h2, ins_lt (by omega)]; exact b1 i (by omega)
      · have hh := high (i + g) (by omega) (by omega)
        rw [ins_gt (i := i + g + 1) (j := i + g) (by omega) rfl]
        by_cases h3 : i < m
        · rw [ins_lt h3]; have := low i h3; omega
        · by_cases h4 : i = m
          · rw [ins_eq h4]; exact hh
          · rw [ins_gt (i := i) (j := i - 1) (by omega) (by omega)]
            have := k.gap (i - 1) (by omega)
            rw [show i - 1 + g + 1 = i + g by omega] at this
            exact this
  · rw [show n + 1 - 1 = n from rfl, ins_gt (i := n) (j := n - 1) (by omega) (by omega)]
    exact k.last
theorem mul_put_self (k : KV t n g L) (hz : z < L) : mul (put t n z) (n + 1) z = mul t n z + 1 := by
  have c := k.cut hz
  obtain ⟨b1, b2, b3⟩ := blt_spec (z := z) k.mono
  have low := c.low
  have high := c.high
  have mn := c.mn
  have ab : blt t z n ≤ ble t z n := by
    rcases Nat.lt_or_ge (ble t z n) (blt t z n) with h | h
    · have := b1 _ h; have := high _ (Nat.le_refl _) mn; omega
    · exact h
  unfold mul
  rw [ble_uniq (m := ble t z n + 1) c.ins ?_ ?_ (by omega), blt_uniq (m := blt t z n) c.ins ?_ ?_ (by omega)]
  · omega
  · intro i hi
    rw [ins_lt (by omega)]; exact b1 i hi
  · intro i h1 h2
    by_cases h3 : i < ble t z n
    · rw [ins_lt h3]; exact b2 i h1 (by omega)
    · by_cases h4 : i = ble t z n
      · rw [ins_eq h4]; exact Int.le_refl _
      · rw [ins_gt (i := i) (j := i - 1) (by omega) (by omega)]; exact b2 (i - 1) (by omega) (by omega)
  · intro i hi
    by_cases h3 : i < ble t z n
    · rw [ins_lt h3]; exact low i h3
    · rw [ins_eq (by omega)]; exact Int.le_refl _
  · intro i h1 h2
    rw [ins_gt (i := i) (j := i - 1) (by omega) (by omega)]; exact high (i - 1) (by omega) (by omega)
theorem mul_put_ne (k : KV t n g L) (hz : z < L) {y : Int} (hy : y ≠ z) : mul t n y ≤ mul (put t n z) (n + 1) y := by
  have c := k.cut hz
  have low := c.low
  have high := c.high
  have mn := c.mn
  obtain ⟨a1, a2, a3⟩ := ble_spec (z := y) k.mono
  obtain ⟨b1, b2, b3⟩ := blt_spec (z := y) k.mono
  unfold mul DL.put
  generalize hm : ble t z n = m at *
  rcases Int.lt_or_lt_of_ne hy with h | h
  · have e1 : ble (ins t m z) y (n + 1) = ble t y n := ble_uniq c.ins (fun i hi => by
        by_cases q : i < m
        · rw [ins_lt q]; exact a1 i hi
        · have := a1 i hi; have := high i (by omega) (by omega); omega) (fun i h1 h2 => by
        by_cases q : i < m
        · rw [ins_lt q]; exact a2 i h1 (by omega)
        · by_cases r : i = m
          · rw [ins_eq r]; exact h
          · rw [ins_gt (i := i) (j := i - 1) (by omega) (by omega)]; have := high (i - 1) (by omega) (by omega); omega) (by omega)
    have e2 : blt (ins t m z) y (n + 1) = blt t y n := blt_uniq c.ins (fun i hi => by
        by_cases q : i < m
        · rw [ins_lt q]; exact b1 i hi
        · have := b1 i hi; have := high i (by omega) (by omega); omega) (fun i h1 h2 => by
        by_cases q : i < m
        · rw [ins_lt q]; exact b2 i h1 (by omega)
        · by_cases r : i = m
          · rw [ins_eq r]; exact Int.le_of_lt h
          · rw [ins_gt (i := i) (j := i - 1) (by omega) (by omega)]; have := high (i - 1) (by omega) (by omega); omega) (by omega)
    rw [e1, e2]
    exact Nat.le_refl _
  · have f1 : m ≤ ble t y n := by
      rcases Nat.lt_or_ge (ble t y n) m with q | q
      · have := a2 _ (Nat.le_refl _) (by omega); have := low _ q; omega
      · exact q
    have f2 : m ≤ blt t y n := by
      rcases Nat.lt_or_ge (blt t y n) m with q | q
      · have := b2 _ (Nat.le_refl _) (by omega); have := low _ q; omega
      · exact q
    have e1 : ble (ins t m z) y (n + 1) = ble t y n + 1 := ble_uniq c.ins (fun i hi => by
        by_cases q : i < m
        · rw [ins_lt q]; have := low i q; omega
        · by_cases r : i = m
          · rw [ins_eq r]; omega
          · rw [ins_gt (i := i) (j := i - 1) (by omega) (by omega)]; exact a1 (i - 1) (by omega)) (fun i h1 h2 => by
        rw [ins_gt (i := i) (j := i - 1) (by omega) (by omega)]; exact a2 (i - 1) (by omega) (by omega)) (by omega)
    have e2 : blt (ins t m z) y (n + 1) = blt t y n + 1 := blt_uniq c.ins (fun i hi => by
        by_cases q : i < m
        · rw [ins_lt q]; have := low i q; omega
        · by_cases r : i = m
          · rw [ins_eq r]; omega
          · rw [ins_gt (i := i) (j := i - 1) (by omega) (by omega)]; exact b1 (i - 1) (by omega)) (fun i h1 h2 => by
        rw [ins_gt (i := i) (j := i - 1) (by omega) (by omega)]; exact b2 (i - 1) (by omega) (by omega)) (by omega)
    rw [e1, e2]
    omega
theorem up_put (k : KV t n g L) (h0 : t 0 < z) (hz : z < L) (hm : mul t n z < g) {j : Nat} {x : Int} (hj : j + g + 1 < n) (u : UpI t L g j x) :
    (0 < al t (ble t z n) z g j ∧ UpI (put t n z) L g j x ∧ x ≤ z) ∨ (0 < 1 - al t (ble t z n) z g (j + 1) ∧ UpI (put t n z) L g (j + 1) x ∧ z ≤ x) := by
  have c := k.cut hz
  obtain ⟨b1, b2, b3⟩ := blt_spec (z := z) k.mono
  have low := c.low
  have high := c.high
  have mn := c.mn
  unfold mul at hm
  unfold DL.put
  generalize ble t z n = m at *
  generalize blt t z n = a at *
  have idx : ∀ i, i < n → t i ≤ z → i < m := fun i hi h => by
    rcases Nat.lt_or_ge i m with q | q
    · exact q
    · have := high i q hi; omega
  have idy : ∀ i, i < n → z < t i → m ≤ i := fun i hi h => by
    rcases Nat.lt_or_ge i m with q | q
    · have := low i q; omega
    · exact q
  -- coefficients
  have ca : t j < z → 0 < al t m z g j := fun h => by
    have jm := idx j (by omega) (by omega)
    by_cases q : j + g < m
    · rw [al_one q]; decide
    · rw [al_mid q jm]
      have := iclt h
      have := iclt (high (j + g) (by omega) (by omega))
      exact div_pos' (by grind) (by grind)
  have cb : z < t (j + g + 1) → 0 < 1 - al t m z g (j + 1) := fun h => by
    have jm := idy (j + g + 1) (by omega) h
    by_cases q : m ≤ j + 1
    · rw [al_zero q]; grind
    · rw [al_mid (by omega) (by omega)]
      have e := low (j + 1) (by omega)
      have e1 := icle e
      have e2 := iclt h
      rw [show j + 1 + g = j + g + 1 by omega]
      have d : (t (j + g + 1) : Rat) - (t (j + 1) : Rat) ≠ 0 := sub_ne (by omega)
      have : 1 - ((z : Rat) - (t (j + 1) : Rat)) / ((t (j + g + 1) : Rat) - (t (j + 1) : Rat)) = ((t (j + g + 1) : Rat) - (z : Rat)) / ((t (j + g + 1) : Rat) - (t (j + 1) : Rat)) := by grind
      rw [this]
      exact div_pos' (by grind) (by grind)
  rcases Int.lt_trichotomy x z with hx | hx | hx
  · left
    rcases u with ⟨u1, u2⟩ | ⟨u1, u2⟩ | ⟨u1, u2⟩
    · refine ⟨ca (by omega), .inl ⟨by rw [ins_lt (idx j (by omega) (by omega))]; exact u1, ?_⟩, by omega⟩
      by_cases q : j + g + 1 < m
      · rw [ins_lt q]; exact u2
      · by_cases r : j + g + 1 = m
        · rw [ins_eq r]; exact hx
        · rw [ins_gt (i := j + g + 1) (j := j + g) (by omega) rfl]; have := high (j + g) (by omega) (by omega); omega
    · have q := idx (j + g) (by omega) (by omega)
      exact ⟨ca (by omega), .inr (.inl ⟨by rw [ins_lt (by omega)]; exact u1, by rw [ins_lt q]; exact u2⟩), by omega⟩
    · omega
  · subst hx
    rcases u with ⟨u1, u2⟩ | ⟨u1, u2⟩ | ⟨u1, u2⟩
    · have jm := idx j (by omega) (by omega)
      have jm2 := idy (j + g + 1) (by omega) u2
      by_cases q : m ≤ j + g
      · left
        refine ⟨ca u1, .inl ⟨by rw [ins_lt jm]; exact u1, ?_⟩, Int.le_refl _⟩
        rw [ins_gt (i := j + g + 1) (j := j + g) q rfl]; exact high (j + g) q (by omega)
      · right
        refine ⟨cb u2, .inl ⟨?_, ?_⟩, Int.le_refl _⟩
        · rw [ins_lt (by omega)]; exact b1 (j + 1) (by omega)
        · rw [ins_gt (i := j + 1 + g + 1) (j := j + g + 1) jm2 (by omega)]; exact u2
    · exfalso
      have q := idx (j + g) (by omega) (by omega)
      have : a ≤ j := by
        rcases Nat.lt_or_ge j a with r | r
        · have := b1 j r; omega
        · exact r
      omega
    · omega
  · right
    rcases u with ⟨u1, u2⟩ | ⟨u1, u2⟩ | ⟨u1, u2⟩
    · have jm2 := idy (j + g + 1) (by omega) (by omega)
      refine ⟨cb (by omega), .inl ⟨?_, by rw [ins_gt (i := j + 1 + g + 1) (j := j + g + 1) jm2 (by omega)]; exact u2⟩, by omega⟩
      by_cases q : j + 1 < m
      · rw [ins_lt q]; have := low _ q; omega
      · by_cases r : j + 1 = m
        · rw [ins_eq r]; exact hx
        · rw [ins_gt (i := j + 1) (j := j) (by omega) rfl]; exact u1
    · have jm := idy j (by omega) (by omega)
      have tg := k.gap j (by omega)
      exact ⟨cb (by omega), .inr (.inl ⟨by rw [ins_gt (i := j + 1) (j := j) jm rfl]; exact u1, by rw [ins_gt (i := j + 1 + g) (j := j + g) (by omega) (by omega)]; exact u2⟩), by omega⟩
    · have jm := idy (j + 1) (by omega) (by omega)
      have tg := k.mono (j + 1) (j + g + 1) (by omega) (by omega)
      exact ⟨cb (by omega), .inr (.inr ⟨u1, by rw [ins_gt (i := j + 1 + 1) (j := j + 1) jm rfl]; exact u2⟩), by omega⟩
end
end DL
namespace DL
def cl (t : Nat → Int) (L : Int) (g j : Nat) : Nat → Rat := fun x => bsp t L g j (((x : Nat) : Int) : Rat)
section
variable {t : Nat → Int} {n g : Nat} {L z : Int}
theorem cl_nn (k : KV t n g L) {j : Nat} (hj : j + g + 1 < n) (x : Nat) : 0 ≤ cl t L g j x := bsp_nonneg k.mono k.le g j _ hj
theorem cl_up (k : KV t n g L) {j : Nat} (hj : j + g + 1 < n) {x : Nat} : 0 < cl t L g j x ↔ UpI t L g j (x : Int) := up_iff k hj
theorem cl_ne (k : KV t n g L) {j : Nat} (hj : j + g + 1 < n) {x : Nat} (h : cl t L g j x ≠ 0) : UpI t L g j (x : Int) := by
  refine (cl_up k hj).mp ?_
  have := cl_nn k hj x
  rcases Rat.le_iff_lt_or_eq.mp this with q | q
  · exact q
  · exact absurd q.symm h
def Full (t : Nat → Int) (n g : Nat) (L x : Int) : Prop := x ≤ t 0 ∨ L ≤ x ∨ g ≤ mul t n x
theorem full_pos (k : KV t n g L) {x : Int} (f : Full t n g L x) {j : Nat} (hj : j + g + 1 < n) (u : UpI t L g j x) : (x < L ∧ j + g + 1 = ble t x n) ∨ (x = L ∧ j + g + 2 = n) := by
  obtain ⟨a1, a2, a3⟩ := ble_spec (z := x) k.mono
  obtain ⟨b1, b2, b3⟩ := blt_spec (z := x) k.mono
  have lj := k.le (j + g + 1) hj
  have m0 := k.mono 0 j (by omega) (by omega)
  rcases u with ⟨u1, u2⟩ | ⟨u1, u2⟩ | ⟨u1, u2⟩
  · left
    refine ⟨by omega, ?_⟩
    rcases f with f | f | f
    · omega
    · omega
    · unfold mul at f
      have c1 : j < blt t x n := by
        rcases Nat.lt_or_ge j (blt t x n) with q | q
        · exact q
        · have := b2 j q (by omega); omega
      have c2 : ble t x n ≤ j + g + 1 := by
        rcases Nat.lt_or_ge (j + g + 1) (ble t x n) with q | q
        · have := a1 _ q; omega
        · exact q
      have c3 : blt t x n ≤ ble t x n := by
        rcases Nat.lt_or_ge (ble t x n) (blt t x n) with q | q
        · have := b1 _ q; have := a2 _ (Nat.le_refl _) (by omega); omega
        · exact q
      omega
  · left
    have gp := k.gap j hj
    refine ⟨by omega, ?_⟩
    have c1 : j + g < ble t x n := by
      rcases Nat.lt_or_ge (j + g) (ble t x n) with q | q
      · exact q
      · have := a2 _ q (by omega); omega
    have c2 : ble t x n ≤ j + g + 1 := by
      rcases Nat.lt_or_ge (j + g + 1) (ble t x n) with q | q
      · have := a1 _ q; omega
      · exact q
    omega
  · right
    refine ⟨u1, ?_⟩
    rcases Nat.lt_or_ge (j + g + 2) n with q | q
    · have := k.gap (j + 1) (by omega)
      have := k.le (j + 1 + g + 1) (by omega)
      omega
    · omega
theorem ble_le (hm : ∀ i j, i ≤ j → j < n → t i ≤ t j) {x y : Int} (h : x ≤ y) : ble t x n ≤ ble t y n := by
  obtain ⟨a1, a2, a3⟩ := ble_spec (z := x) hm
  obtain ⟨b1, b2, b3⟩ := ble_spec (z := y) hm
  rcases Nat.lt_or_ge (ble t y n) (ble t x n) with q | q
  · have := a1 _ q; have := b2 _ (Nat.le_refl _) (by omega); omega
  · exact q
theorem full_mono (k : KV t n g L) {x y : Int} (fx : Full t n g L x) (fy : Full t n g L y) (h : x ≤ y) {i j : Nat} (hi : i + g + 1 < n) (hj : j + g + 1 < n) (u : UpI t L g i x) (v : UpI t L g j y) : i ≤ j := by
  have b := ble_le (n := n) k.mono h
  rcases full_pos k fx hi u with ⟨a1, a2⟩ | ⟨a1, a2⟩
  · rcases full_pos k fy hj v with ⟨c1, c2⟩ | ⟨c1, c2⟩
    · omega
    · omega
  · rcases full_pos k fy hj v with ⟨c1, c2⟩ | ⟨c1, c2⟩
    · omega
    · omega
def diag (t : Nat → Int) (L : Int) (g : Nat) : List Nat → List Nat → Rat
  | j :: J, x :: I => cl t L g j x * diag t L g J I
  | _, _ => 1
theorem dt_full (k : KV t n g L) : ∀ {J I : List Nat}, J.length = I.length → I.Pairwise (· < ·) → J.Pairwise (· < ·) → (∀ j ∈ J, j + g + 1 < n) → (∀ x ∈ I, Full t n g L (x : Int)) → dt (J.map (cl t L g)) I = diag t L g J I
  | [], [], _, _, _, _, _ => rfl
  | j :: J, x :: I, hl, hI, hJ, hj, hf => by
    have ih := dt_full k (J := J) (I := I) (by simpa using hl) (List.pairwise_cons.mp hI).2 (List.pairwise_cons.mp hJ).2 (fun a h => hj a (by simp [h])) fun a h => hf a (by simp [h])
    show lap (cl t L g j) (dt (J.map (cl t L g))) (x :: I) = cl t L g j x * diag t L g J I
    have z : lap (cl t L g j) (fun K => dt (J.map (cl t L g)) (x :: K)) I = 0 := by
      refine lap_zero fun A y B e => ?_
      by_cases q : cl t L g j y = 0
      · exact .inl q
      · right
        have yI : y ∈ I := by rw [e]; simp
        have uy := cl_ne k (hj j (by simp)) q
        have xy := (List.pairwise_cons.mp hI).1 y yI
        refine dt_zrow (x := x) ?_ (by simp) fun c hc => ?_
        · have := congrArg List.length e
          simp at hl this ⊢
          omega
        · obtain ⟨j', hj', rfl⟩ := List.mem_map.mp hc
          by_cases r : cl t L g j' x = 0
          · exact r
          · exfalso
            have ux := cl_ne k (hj j' (by simp [hj'])) r
            have := full_mono k (hf x (by simp)) (hf y (by simp [yI])) (by omega) (hj j' (by simp [hj'])) (hj j (by simp)) ux uy
            have := (List.pairwise_cons.mp hJ).1 j' hj'
            omega
    rw [lap, z, ih]
    grind
theorem diag_nn (k : KV t n g L) : ∀ {J I : List Nat}, (∀ j ∈ J, j + g + 1 < n) → 0 ≤ diag t L g J I
  | [], _, _ => by unfold diag; decide
  | j :: J, [], _ => by unfold diag; decide
  | j :: J, x :: I, h => Rat.mul_nonneg (cl_nn k (h j (by simp)) x) (diag_nn k fun a q => h a (by simp [q]))
theorem diag_pos (k : KV t n g L) : ∀ {J I : List Nat}, (∀ p ∈ J.zip I, 0 < cl t L g p.1 p.2) → 0 < diag t L g J I
  | [], _, _ => by unfold diag; decide
  | j :: J, [], _ => by unfold diag; decide
  | j :: J, x :: I, h => Rat.mul_pos (h (j, x) (by simp)) (diag_pos k fun p q => h p (by simp [q]))
structure TPos (t : Nat → Int) (n g : Nat) (L : Int) (I : List Nat) : Prop where
  nn : ∀ J : List Nat, J.length = I.length → J.Pairwise (· < ·) → (∀ j ∈ J, j + g + 1 < n) → 0 ≤ dt (J.map (cl t L g)) I
  pos : ∀ J : List Nat, J.length = I.length → J.Pairwise (· < ·) → (∀ j ∈ J, j + g + 1 < n) → (∀ p ∈ J.zip I, 0 < cl t L g p.1 p.2) → 0 < dt (J.map (cl t L g)) I
theorem dt_twins (A B C : List (Nat → Rat)) (c : Nat → Rat) (I : List Nat) : dt (A ++ c :: (B ++ c :: C)) I = 0 := by
  have := dt_pre (X := c :: (B ++ c :: C)) (Y := c :: (B ++ c :: C)) (a := 0) (fun I => by rw [dt_mem (by simp) I]; grind) A I
  rw [this]
  grind
theorem al_le (k : KV t n g L) (hz : z < L) {j : Nat} (hj : j + g < n) : 0 ≤ al t (ble t z n) z g j ∧ al t (ble t z n) z g j ≤ 1 := by
  have c := k.cut hz
  by_cases h1 : j + g < ble t z n
  · rw [al_one h1]; constructor <;> decide
  · by_cases h2 : ble t z n ≤ j
    · rw [al_zero h2]; constructor <;> decide
    · rw [al_mid h1 (by omega)]
      have e1 := c.low j (by omega)
      have e2 := c.high (j + g) (by omega) (by omega)
      have f1 := icle e1
      have f2 := iclt e2
      constructor
      · exact div_nonneg' (by grind) (by grind)
      · have d : (t (j + g) : Rat) - (t j : Rat) ≠ 0 := sub_ne (by omega)
        have e : 1 - ((z : Rat) - (t j : Rat)) / ((t (j + g) : Rat) - (t j : Rat)) = ((t (j + g) : Rat) - (z : Rat)) / ((t (j + g) : Rat) - (t j : Rat)) := by grind
        have := div_nonneg' (a := (t (j + g) : Rat) - (z : Rat)) (b := (t (j + g) : Rat) - (t j : Rat)) (by grind) (by grind)
        rw [← e] at this
        grind
theorem cl_put (k : KV t n g L) (hz : z < L) {j : Nat} (hj : j + g + 1 < n) : cl t L g j = fun x => al t (ble t z n) z g j * cl (put t n z) L g j x + (1 - al t (ble t z n) z g (j + 1)) * cl (put t n z) L g (j + 1) x := by
  funext x
  exact bsp_ins (k.cut hz) k.le hz g j _ hj
theorem step_nn {I : List Nat} (k : KV t n g L) (hz : z < L) (T : TPos (put t n z) (n + 1) g L I) : ∀ (J K : List Nat), K.length + J.length = I.length → K.Pairwise (· < ·) → J.Pairwise (· < ·) → (∀ a ∈ K, a + g + 1 < n + 1) → (∀ j ∈ J, j + g + 1 < n) → (∀ a ∈ K, ∀ j ∈ J, a ≤ j) →
    0 ≤ dt (K.map (cl (put t n z) L g) ++ J.map (cl t L g)) I
  | [], K, hl, hK, _, hk, _, _ => by
    simp only [List.map_nil, List.append_nil]
    exact T.nn K (by simpa using hl) hK hk
  | j :: J, K, hl, hK, hJ, hk, hj, hkj => by
    have jn := hj j (by simp)
    have ja := (List.pairwise_cons.mp hJ).1
    have jb := (List.pairwise_cons.mp hJ).2
    rw [List.map_cons, cl_put k hz jn, dt_lin]
    have a0 := (al_le k hz (j := j) (by omega)).1
    have b0 := (al_le k hz (j := j + 1) (by omega)).2
    have t0 : 0 ≤ dt (K.map (cl (put t n z) L g) ++ cl (put t n z) L g j :: J.map (cl t L g)) I := by
      by_cases q : j ∈ K
      · obtain ⟨A, B, rfl⟩ := List.append_of_mem q
        have := dt_twins (A.map (cl (put t n z) L g)) (B.map (cl (put t n z) L g)) (J.map (cl t L g)) (cl (put t n z) L g j) I
        rw [List.map_append, List.map_cons, List.append_assoc, List.cons_append, this]
        decide
      · have := step_nn k hz T J (K ++ [j]) (by simp at hl ⊢; omega) (by
          rw [List.pairwise_append]
          refine ⟨hK, by simp, fun a ha b hb => ?_⟩
          rw [List.mem_singleton] at hb
          subst hb
          have := hkj a ha b (by simp)
          rcases Nat.lt_or_eq_of_le this with r | r
          · exact r
          · exact absurd (r ▸ ha) q) jb (fun a ha => by
          rcases List.mem_append.mp ha with r | r
          · exact hk a r
          · rw [List.mem_singleton] at r; omega) (fun a ha => hj a (by simp [ha])) (fun a ha b hb => by
          rcases List.mem_append.mp ha with r | r
          · exact hkj a r b (by simp [hb])
          · rw [List.mem_singleton] at r; have := ja b hb; omega)
        rw [List.map_append, List.append_assoc] at this
        exact this
    have t1 : 0 ≤ dt (K.map (cl (put t n z) L g) ++ cl (put t n z) L g (j + 1) :: J.map (cl t L g)) I := by
      have := step_nn k hz T J (K ++ [j + 1]) (by simp at hl ⊢; omega) (by
        rw [List.pairwise_append]
        refine ⟨hK, by simp, fun a ha b hb => ?_⟩
        rw [List.mem_singleton] at hb
        subst hb
        have := hkj a ha j (by simp)
        omega) jb (fun a ha => by
        rcases List.mem_append.mp ha with r | r
        · exact hk a r
        · rw [List.mem_singleton] at r; omega) (fun a ha => hj a (by simp [ha])) (fun a ha b hb => by
        rcases List.mem_append.mp ha with r | r
        · exact hkj a r b (by simp [hb])
        · rw [List.mem_singleton] at r; have := ja b hb; omega)
      rw [List.map_append, List.append_assoc] at this
      exact this
    have m0 := Rat.mul_nonneg a0 t0
    have m1 := Rat.mul_nonneg (show 0 ≤ 1 - al t (ble t z n) z g (j + 1) by grind) t1
    grind
theorem step_pos {I : List Nat} (k : KV t n g L) (h0 : t 0 < z) (hz : z < L) (hm : mul t n z < g) (T : TPos (put t n z) (n + 1) g L I) : ∀ (J K I1 I2 : List Nat), I = I1 ++ I2 → K.length = I1.length → J.length = I2.length → I2.Pairwise (· < ·) → K.Pairwise (· < ·) → J.Pairwise (· < ·) → (∀ a ∈ K, a + g + 1 < n + 1) → (∀ j ∈ J, j + g + 1 < n) →
    (∀ a ∈ K, ∀ j ∈ J, a < j ∨ (a = j ∧ ∀ x ∈ I2, z < ((x : Nat) : Int))) → (∀ p ∈ K.zip I1, 0 < cl (put t n z) L g p.1 p.2) → (∀ p ∈ J.zip I2, 0 < cl t L g p.1 p.2) →
    0 < dt (K.map (cl (put t n z) L g) ++ J.map (cl t L g)) I
  | [], K, I1, I2, e, hl, hl2, _, hK, _, hk, _, _, up, _ => by
    have : I2 = [] := List.length_eq_zero_iff.mp hl2.symm
    subst this
    rw [List.append_nil] at e
    subst e
    simp only [List.map_nil, List.append_nil]
    exact T.pos K hl hK hk up
  | j :: J, K, I1, [], e, hl, hl2, _, _, _, _, _, _, _, _ => by simp at hl2
  | j :: J, K, I1, x :: I2, e, hl, hl2, hI, hK, hJ, hk, hj, hkj, up, vp => by
    have jn := hj j (by simp)
    have ja := (List.pairwise_cons.mp hJ).1
    have jb := (List.pairwise_cons.mp hJ).2
    have xa := (List.pairwise_cons.mp hI).1
    have kp := KV.put k hz hm
    rw [List.map_cons, cl_put k hz jn, dt_lin]
    have a0 := (al_le k hz (j := j) (by omega)).1
    have b0 := (al_le k hz (j := j + 1) (by omega)).2
    have len : K.length + (J.length + 1) = I.length := by rw [e]; simp at hl hl2 ⊢; omega
    have kle : ∀ a ∈ K, a ≤ j := fun a ha => by rcases hkj a ha j (by simp) with r | r <;> omega
    have t0 : 0 ≤ dt (K.map (cl (put t n z) L g) ++ cl (put t n z) L g j :: J.map (cl t L g)) I := by
      by_cases q : j ∈ K
      · obtain ⟨A, B, rfl⟩ := List.append_of_mem q
        have := dt_twins (A.map (cl (put t n z) L g)) (B.map (cl (put t n z) L g)) (J.map (cl t L g)) (cl (put t n z) L g j) I
        rw [List.map_append, List.map_cons, List.append_assoc, List.cons_append, this]
        decide
      · have := step_nn k hz T J (K ++ [j]) (by simp; omega) (by
          rw [List.pairwise_append]
          refine ⟨hK, by simp, fun a ha b hb => ?_⟩
          rw [List.mem_singleton] at hb
          subst hb
          rcases Nat.lt_or_eq_of_le (kle a ha) with r | r
          · exact r
          · exact absurd (r ▸ ha) q) jb (fun a ha => by
          rcases List.mem_append.mp ha with r | r
          · exact hk a r
          · rw [List.mem_singleton] at r; omega) (fun a ha => hj a (by simp [ha])) (fun a ha b hb => by
          rcases List.mem_append.mp ha with r | r
          · have := kle a r; have := ja b hb; omega
          · rw [List.mem_singleton] at r; have := ja b hb; omega)
        rw [List.map_append, List.append_assoc] at this
        exact this
    have t1 : 0 ≤ dt (K.map (cl (put t n z) L g) ++ cl (put t n z) L g (j + 1) :: J.map (cl t L g)) I := by
      have := step_nn k hz T J (K ++ [j + 1]) (by simp; omega) (by
        rw [List.pairwise_append]
        refine ⟨hK, by simp, fun a ha b hb => ?_⟩
        rw [List.mem_singleton] at hb
        subst hb
        have := kle a ha
        omega) jb (fun a ha => by
        rcases List.mem_append.mp ha with r | r
        · exact hk a r
        · rw [List.mem_singleton] at r; omega) (fun a ha => hj a (by simp [ha])) (fun a ha b hb => by
        rcases List.mem_append.mp ha with r | r
        · have := kle a r; have := ja b hb; omega
        · rw [List.mem_singleton] at r; have := ja b hb; omega)
      rw [List.map_append, List.append_assoc] at this
      exact this
    have ux := (cl_up k jn).mp (vp (j, x) (by simp))
    have zipe : ∀ {c : Nat} {p : Nat × Nat}, p ∈ (K ++ [c]).zip (I1 ++ [x]) → p ∈ K.zip I1 ∨ p = (c, x) := fun {c p} hp => by
      rw [List.zip_append hl] at hp
      simpa using hp
    rcases up_put k h0 hz hm jn ux with ⟨c1, c2, c3⟩ | ⟨c1, c2, c3⟩
    · have s : 0 < dt (K.map (cl (put t n z) L g) ++ cl (put t n z) L g j :: J.map (cl t L g)) I := by
        have := step_pos k h0 hz hm T J (K ++ [j]) (I1 ++ [x]) I2 (by rw [e]; simp) (by simp [hl]) (by simpa using hl2) (List.pairwise_cons.mp hI).2 (by
          rw [List.pairwise_append]
          refine ⟨hK, by simp, fun a ha b hb => ?_⟩
          rw [List.mem_singleton] at hb
          subst hb
          rcases hkj a ha b (by simp) with r | ⟨r, q⟩
          · exact r
          · have := q x (by simp); omega) jb (fun a ha => by
          rcases List.mem_append.mp ha with r | r
          · exact hk a r
          · rw [List.mem_singleton] at r; omega) (fun a ha => hj a (by simp [ha])) (fun a ha b hb => by
          left
          rcases List.mem_append.mp ha with r | r
          · have := kle a r; have := ja b hb; omega
          · rw [List.mem_singleton] at r; have := ja b hb; omega) (fun p hp => by
          rcases zipe hp with r | r
          · exact up p r
          · subst r; exact (cl_up kp (by omega)).mpr c2) (fun p hp => vp p (by simp [hp]))
        rw [List.map_append, List.append_assoc] at this
        exact this
      have m0 := Rat.mul_pos c1 s
      have m1 := Rat.mul_nonneg (show 0 ≤ 1 - al t (ble t z n) z g (j + 1) by grind) t1
      grind
    · have s : 0 < dt (K.map (cl (put t n z) L g) ++ cl (put t n z) L g (j + 1) :: J.map (cl t L g)) I := by
        have := step_pos k h0 hz hm T J (K ++ [j + 1]) (I1 ++ [x]) I2 (by rw [e]; simp) (by simp [hl]) (by simpa using hl2) (List.pairwise_cons.mp hI).2 (by
          rw [List.pairwise_append]
          refine ⟨hK, by simp, fun a ha b hb => ?_⟩
          rw [List.mem_singleton] at hb
          subst hb
          have := kle a ha
          omega) jb (fun a ha => by
          rcases List.mem_append.mp ha with r | r
          · exact hk a r
          · rw [List.mem_singleton] at r; omega) (fun a ha => hj a (by simp [ha])) (fun a ha b hb => by
          rcases List.mem_append.mp ha with r | r
          · left; have := kle a r; have := ja b hb; omega
          · rw [List.mem_singleton] at r
            have := ja b hb
            rcases Nat.lt_or_eq_of_le (show a ≤ b by omega) with q | q
            · exact .inl q
            · exact .inr ⟨q, fun y hy => by have := xa y hy; omega⟩) (fun p hp => by
          rcases zipe hp with r | r
          · exact up p r
          · subst r; exact (cl_up kp (by omega)).mpr c2) (fun p hp => vp p (by simp [hp]))
        rw [List.map_append, List.append_assoc] at this
        exact this
      have m0 := Rat.mul_nonneg a0 t0
      have m1 := Rat.mul_pos c1 s
      grind
def lack (t : Nat → Int) (n g : Nat) (L : Int) : List Nat → Nat
  | [] => 0
  | x :: I => (if t 0 < (x : Int) ∧ (x : Int) < L then g - mul t n (x : Int) else 0) + lack t n g L I
theorem lack_zero : ∀ {I : List Nat}, lack t n g L I = 0 → ∀ x ∈ I, Full t n g L (x : Int)
  | x :: I, h, y, hy => by
    unfold lack at h
    rcases List.mem_cons.mp hy with e | e
    · subst e
      unfold Full
      by_cases q : t 0 < (y : Int) ∧ (y : Int) < L
      · rw [if_pos q] at h; right; right; omega
      · omega
    · exact lack_zero (by omega) y e
theorem lack_one : ∀ {I : List Nat}, 0 < lack t n g L I → ∃ x ∈ I, t 0 < (x : Int) ∧ (x : Int) < L ∧ mul t n (x : Int) < g
  | x :: I, h => by
    unfold lack at h
    by_cases q : (t 0 < (x : Int) ∧ (x : Int) < L) ∧ mul t n (x : Int) < g
    · exact ⟨x, by simp, q.1.1, q.1.2, q.2⟩
    · have : 0 < lack t n g L I := by
        by_cases r : t 0 < (x : Int) ∧ (x : Int) < L
        · rw [if_pos r] at h
          have : ¬ mul t n (x : Int) < g := fun s => q ⟨r, s⟩
          omega
        · rw [if_neg r] at h; omega
      obtain ⟨y, h1, h2⟩ := lack_one this
      exact ⟨y, by simp [h1], h2⟩
theorem put_0 (k : KV t n g L) (h0 : t 0 < z) : put t n z 0 = t 0 := by
  unfold put
  refine ins_lt ?_
  obtain ⟨a1, a2, a3⟩ := ble_spec (z := z) k.mono
  rcases Nat.eq_zero_or_pos (ble t z n) with q | q
  · have := a2 0 (by omega) (by have := k.many; omega); omega
  · exact q
theorem lack_le (k : KV t n g L) (h0 : t 0 < z) (hz : z < L) : ∀ (I : List Nat), lack (put t n z) (n + 1) g L I ≤ lack t n g L I
  | [] => Nat.le_refl _
  | x :: I => by
    unfold lack
    have ih := lack_le k h0 hz I
    have p0 := put_0 k h0
    rw [p0]
    by_cases q : t 0 < (x : Int) ∧ (x : Int) < L
    · rw [if_pos q, if_pos q]
      by_cases r : (x : Int) = z
      · rw [r, mul_put_self k hz]; omega
      · have := mul_put_ne k hz r; omega
    · rw [if_neg q, if_neg q]; omega
theorem lack_lt (k : KV t n g L) (h0 : t 0 < z) (hz : z < L) (hm : mul t n z < g) : ∀ (I : List Nat), (∃ x ∈ I, ((x : Nat) : Int) = z) → lack (put t n z) (n + 1) g L I < lack t n g L I
  | x :: I, ⟨y, hy, e⟩ => by
    unfold lack
    have il := lack_le k h0 hz I
    have p0 := put_0 k h0
    rw [p0]
    by_cases r : (x : Int) = z
    · have q : t 0 < (x : Int) ∧ (x : Int) < L := by omega
      rw [if_pos q, if_pos q, r, mul_put_self k hz]; omega
    · have hy : y ∈ I := by
        rcases List.mem_cons.mp hy with s | s
        · subst s; exact absurd e r
        · exact s
      have ih := lack_lt k h0 hz hm I ⟨y, hy, e⟩
      by_cases q : t 0 < (x : Int) ∧ (x : Int) < L
      · rw [if_pos q, if_pos q]
        have := mul_put_ne k hz r
        omega
      · rw [if_neg q, if_neg q]; omega
end
theorem tpos : ∀ (N : Nat) {t : Nat → Int} {n g : Nat} {L : Int} {I : List Nat}, lack t n g L I ≤ N → KV t n g L → I.Pairwise (· < ·) → TPos t n g L I
  | N, t, n, g, L, I, hN, k, hI => by
    rcases Nat.eq_zero_or_pos (lack t n g L I) with q | q
    · have f := lack_zero q
      exact ⟨fun J h1 h2 h3 => by rw [dt_full k h1 hI h2 h3 f]; exact diag_nn k h3, fun J h1 h2 h3 h4 => by rw [dt_full k h1 hI h2 h3 f]; exact diag_pos k h4⟩
    · obtain ⟨x, xI, h0, hz, hm⟩ := lack_one q
      have lt := lack_lt k h0 hz hm I ⟨x, xI, rfl⟩
      match N, hN with
      | 0, hN => omega
      | N + 1, hN =>
        have T := tpos N (t := put t n (x : Int)) (n := n + 1) (by omega) (KV.put k hz hm) hI
        refine ⟨fun J h1 h2 h3 => ?_, fun J h1 h2 h3 h4 => ?_⟩
        · exact step_nn k hz T J [] (by simpa using h1) (by simp) h2 (by simp) h3 (by simp)
        · exact step_pos k h0 hz hm T J [] [] I rfl rfl h1 hI (by simp) h2 (by simp) h3 (by simp) (by simp) h4
end DL
namespace DL
open PySem PySem.Spec L2
open PyProof.Rows hiding St
theorem at_rng {α : Type} {f : Nat → α} {n k : Nat} (h : k < n) {i : Int} (e : i = (k : Nat)) : L2.atI ((List.range n).map f) i = some (f k) := by
  rw [e, at_nat (by simpa using h)]
  simp
def rowC (m : Nat) (f : Nat → Nat) : Cell := .lst ((List.range (m + 1)).map fun i => .int ((f i : Nat) : Int))
def cellsD (b n : Nat) : List D := (List.range n).map fun i => .cell (b + i)
structure TabIs (S0 S : List Cell) (b H m : Nat) (T : Nat → Nat → Nat) : Prop where
  len : S.length = b + (H + 1)
  old : ∀ k, k < b → S[k]? = S0[k]?
  row : ∀ k, k ≤ H → S[b + k]? = some (rowC m (T k))
theorem TabIs.read {S0 S : List Cell} {b H m : Nat} {T : Nat → Nat → Nat} (t : TabIs S0 S b H m T) {k i : Nat} (hk : k ≤ H) (hi : i ≤ m) {x : Int} (e : x = (i : Nat)) : ixD (.cell (b + k)) (.int x) S = some (.int ((T k i : Nat) : Int)) := by
  rw [ix_cell (t.row k hk)]
  exact at_rng (by omega) e
theorem TabIs.put {S0 S : List Cell} {b H m : Nat} {T : Nat → Nat → Nat} (t : TabIs S0 S b H m T) {k i : Nat} (hk : k ≤ H) (hi : i ≤ m) {x y : Int} (v : Nat) (e : x = (i : Nat)) (ey : y = (v : Nat)) : ∃ S', putC (.cell (b + k)) (.int x) (.int y) S = some S' ∧
    TabIs S0 S' b H m (fun k' i' => if k' = k ∧ i' = i then v else T k' i') := by
  subst e ey
  have r := t.row k hk
  have hl := (List.getElem?_eq_some_iff.mp r).1
  refine ⟨_, put_at (m := i) r (by unfold ixN; rw [if_pos (by omega), if_pos (by simp; omega)]; rfl), ⟨by simp [t.len], fun j hj => ?_, fun j hj => ?_⟩⟩
  · rw [List.getElem?_set_ne (by omega)]
    exact t.old j hj
  · by_cases e : j = k
    · subst e
      rw [List.getElem?_set_self hl]
      congr 1
      unfold rowC
      congr 1
      refine List.ext_getElem (by simp) fun i' h1 h2 => ?_
      rw [List.getElem_set]
      simp
      by_cases e : i = i'
      · simp [e]
      · have e' : ¬ i' = i := fun z => e z.symm
        simp [e, e']
    · rw [List.getElem?_set_ne (by omega), t.row j hj]
      congr 1
      unfold rowC
      congr 1
      refine List.map_congr_left fun i' _ => ?_
      simp [e]
theorem TabIs.eq {S0 S : List Cell} {b H m : Nat} {T T' : Nat → Nat → Nat} (t : TabIs S0 S b H m T) (h : ∀ k i, k ≤ H → i ≤ m → T k i = T' k i) : TabIs S0 S b H m T' :=
  ⟨t.len, t.old, fun k hk => by
    rw [t.row k hk]
    congr 1
    unfold rowC
    congr 1
    refine List.map_congr_left fun i hi => ?_
    have := List.mem_range.mp hi
    rw [h k i hk (by omega)]⟩
def lng (up : Nat → Nat → Bool) (H m k i : Nat) : Nat :=
  if h : k < H ∧ i < m then
    if up k i = true then max (max (lng up H m (k + 1) i) (lng up H m k (i + 1))) (lng up H m (k + 1) (i + 1) + 1)
    else max (lng up H m (k + 1) i) (lng up H m k (i + 1))
  else 0
termination_by (H - k) + (m - i)
theorem lng_out {up : Nat → Nat → Bool} {H m k i : Nat} (h : ¬ (k < H ∧ i < m)) : lng up H m k i = 0 := by
  rw [lng, dif_neg h]
theorem lng_yes {up : Nat → Nat → Bool} {H m k i : Nat} (h : k < H ∧ i < m) (hu : up k i = true) : lng up H m k i = max (lng up H m (k + 1) i) (max (lng up H m k (i + 1)) (lng up H m (k + 1) (i + 1) + 1)) := by
  rw [lng, dif_pos h, if_pos hu, Nat.max_assoc]
theorem lng_no {up : Nat → Nat → Bool} {H m k i : Nat} (h : k < H ∧ i < m) (hu : up k i = false) : lng up H m k i = max (lng up H m (k + 1) i) (lng up H m k (i + 1)) := by
  rw [lng, dif_pos h, if_neg (by rw [hu]; simp)]
theorem lng_mk {up : Nat → Nat → Bool} {H m k i : Nat} : lng up H m (k + 1) i ≤ lng up H m k i := by
  by_cases h : k < H ∧ i < m
  · cases hu : up k i with
    | true => rw [lng_yes h hu]; omega
    | false => rw [lng_no h hu]; omega
  · rw [lng_out (up := up) (H := H) (m := m) (k := k + 1) (i := i) (by omega)]; omega
theorem lng_mi {up : Nat → Nat → Bool} {H m k i : Nat} : lng up H m k (i + 1) ≤ lng up H m k i := by
  by_cases h : k < H ∧ i < m
  · cases hu : up k i with
    | true => rw [lng_yes h hu]; omega
    | false => rw [lng_no h hu]; omega
  · rw [lng_out (up := up) (H := H) (m := m) (k := k) (i := i + 1) (by omega)]; omega
def goods (up : Nat → Nat → Bool) (H m k i : Nat) : List Nat := ((List.range' i (m - i)).filter (up k)).filter fun s => decide (lng up H m (k + 1) (s + 1) + 1 = lng up H m k i)
def prs (up : Nat → Nat → Bool) (H m : Nat) : Nat → Nat → Nat → List (Nat × Nat)
  | 0, _, _ => []
  | n + 1, k, i => if lng up H m k i = 0 then [] else match goods up H m k i with
    | [] => prs up H m n (k + 1) i
    | s :: _ => (k, s) :: prs up H m n (k + 1) (s + 1)
def pairD (p : Nat × Nat) : D := .tup [.int (p.1 : Nat), .int (p.2 : Nat)]
end DL
namespace DL
theorem nodup_len : ∀ {r : Nat} {ks : List Nat}, ks.Nodup → (∀ k ∈ ks, k < r) → ks.length ≤ r
  | 0, ks, _, h => by
    cases ks with
    | nil => simp
    | cons a l => exact absurd (h a (by simp)) (by omega)
  | r + 1, ks, hn, h => by
    by_cases hr : r ∈ ks
    · have := nodup_len (r := r) (ks := ks.erase r) (hn.erase r) fun k hk => by
        have h1 := h k (List.mem_of_mem_erase hk)
        have h2 : k ≠ r := fun e => by
          rw [e] at hk
          exact hn.not_mem_erase hk
        omega
      rw [List.length_erase_of_mem hr] at this
      omega
    · have := nodup_len (r := r) hn fun k hk => by
        have := h k hk
        have : k ≠ r := fun e => hr (e ▸ hk)
        omega
      omega
theorem twice_of : ∀ {ks : List Nat}, ¬ ks.Nodup → ∃ A k B C, ks = A ++ k :: (B ++ k :: C)
  | [], h => absurd List.nodup_nil h
  | a :: l, h => by
    by_cases q : a ∈ l
    · obtain ⟨B, C, rfl⟩ := List.append_of_mem q
      exact ⟨[], a, B, C, rfl⟩
    · obtain ⟨A, k, B, C, rfl⟩ := twice_of (ks := l) fun s => h (List.nodup_cons.mpr ⟨q, s⟩)
      exact ⟨a :: A, k, B, C, rfl⟩
theorem dt_spanG {G : Nat → Nat → Rat} {r : Nat} {I : List Nat} : ∀ (cs : List (Nat → Rat)) (ks : List Nat), r < ks.length + cs.length → (∀ k ∈ ks, k < r) → (∀ c ∈ cs, ∃ as : List Rat, c = cmb as ((List.range r).map G)) → dt (ks.map G ++ cs) I = 0
  | [], ks, hl, hk, _ => by
    have : ¬ ks.Nodup := fun h => by have := nodup_len h hk; simp at hl; omega
    obtain ⟨A, k, B, C, rfl⟩ := twice_of this
    simp only [List.map_append, List.map_cons, List.append_nil]
    exact dt_twins _ _ _ _ I
  | c :: cs, ks, hl, hk, hc => by
    obtain ⟨as, rfl⟩ := hc c (by simp)
    have go : ∀ (as : List Rat) (ms : List Nat), (∀ m ∈ ms, m < r) → dt (ks.map G ++ cmb as (ms.map G) :: cs) I = 0 := by
      intro as
      induction as with
      | nil =>
        intro ms _
        have := dt_lin 0 0 (fun _ => 0) (fun _ => 0) cs (ks.map G) I
        have e : (fun i : Nat => (0 : Rat) * (fun _ => (0 : Rat)) i + 0 * (fun _ => (0 : Rat)) i) = cmb [] (ms.map G) := by funext i; show (0 : Rat) * 0 + 0 * 0 = 0; grind
        rw [e] at this
        rw [this]; grind
      | cons a as ih =>
        intro ms hms
        cases ms with
        | nil =>
          have := ih [] (by simp)
          have e : cmb as (([] : List Nat).map G) = cmb (a :: as) (([] : List Nat).map G) := by funext i; rw [List.map_nil, cmb_nil, cmb_nil]
          rw [e] at this
          exact this
        | cons m ms =>
          have e : cmb (a :: as) ((m :: ms).map G) = fun i => a * G m i + 1 * cmb as (ms.map G) i := by funext i; show a * G m i + cmb as (ms.map G) i = _; grind
          rw [e, dt_lin, ih ms fun x hx => hms x (by simp [hx])]
          have := dt_spanG (G := G) (r := r) (I := I) cs (ks ++ [m]) (by simp at hl ⊢; omega) (fun x hx => by
            rcases List.mem_append.mp hx with q | q
            · exact hk x q
            · rw [List.mem_singleton] at q; rw [q]; exact hms m (by simp)) fun d hd => hc d (by simp [hd])
          rw [List.map_append, List.append_assoc] at this
          have this : dt (ks.map G ++ G m :: cs) I = 0 := this
          rw [this]; grind
    exact go as (List.range r) fun m hm => List.mem_range.mp hm
theorem dt_span {G : Nat → Nat → Rat} {r : Nat} {I : List Nat} {cs : List (Nat → Rat)} (hl : r < cs.length) (h : ∀ c ∈ cs, ∃ as : List Rat, ∀ i ∈ I, c i = cmb as ((List.range r).map G) i) : dt cs I = 0 := by
  have : ∃ ds : List (Nat → Rat), ds.length = cs.length ∧ (∀ d ∈ ds, ∃ as : List Rat, d = cmb as ((List.range r).map G)) ∧ ∀ k i, i ∈ I → ∀ (h : k < cs.length) (h' : k < ds.length), cs[k] i = ds[k] i := by
    clear hl
    induction cs with
    | nil => exact ⟨[], rfl, by simp, fun k i _ h => absurd h (by simp)⟩
    | cons c cs ih =>
      obtain ⟨ds, h1, h2, h3⟩ := ih fun d hd => h d (by simp [hd])
      obtain ⟨as, ha⟩ := h c (by simp)
      refine ⟨cmb as ((List.range r).map G) :: ds, by simp [h1], fun d hd => ?_, fun k i hi p q => ?_⟩
      · rcases List.mem_cons.mp hd with e | e
        · exact ⟨as, e⟩
        · exact h2 d e
      · cases k with
        | zero => exact ha i hi
        | succ k => simpa using h3 k i hi (by simpa using p) (by simpa using q)
  obtain ⟨ds, h1, h2, h3⟩ := this
  rw [dt_congr h1.symm h3]
  have := dt_spanG (G := G) (r := r) (I := I) ds [] (by simp; omega) (by simp) h2
  simpa using this
theorem dt_block {P : Nat → Bool} : ∀ {cs : List ((Nat → Rat) × Bool)} {I : List Nat}, cs.length = I.length → (∀ c ∈ cs, c.2 = false → ∀ i ∈ I, P i = true → c.1 i = 0) → (cs.filter (·.2)).length < (I.filter P).length → dt (cs.map (·.1)) I = 0
  | [], I, hl, _, hc => by
    have : I = [] := List.length_eq_zero_iff.mp hl.symm
    subst this
    simp at hc
  | (c, b) :: cs, I, hl, h, hc => by
    show lap c (dt (cs.map (·.1))) I = 0
    refine lap_zero fun A y B e => ?_
    subst e
    have hl2 : cs.length = (A ++ B).length := by simp at hl ⊢; omega
    have sub : ∀ d ∈ cs, d.2 = false → ∀ i ∈ A ++ B, P i = true → d.1 i = 0 := fun d hd hf i hi hp => h d (by simp [hd]) hf i (by
      rcases List.mem_append.mp hi with q | q
      · simp [q]
      · simp [q]) hp
    have cnt : ((A ++ y :: B).filter P).length = ((A ++ B).filter P).length + (if P y = true then 1 else 0) := by
      rw [List.filter_append, List.filter_append, List.filter_cons]
      split <;> simp <;> omega
    rw [cnt] at hc
    cases b with
    | true =>
      right
      refine dt_block hl2 sub ?_
      rw [List.filter_cons_of_pos (by rfl), List.length_cons] at hc
      split at hc <;> omega
    | false =>
      by_cases hp : P y = true
      · left
        exact h (c, false) (by simp) rfl y (by simp) hp
      · right
        refine dt_block hl2 sub ?_
        rw [if_neg hp, List.filter_cons_of_neg (by simp)] at hc
        exact hc
theorem perm_sum {xs ys : List Rat} (h : xs.Perm ys) : xs.sum = ys.sum := by
  induction h with
  | nil => rfl
  | cons x _ ih => rw [List.sum_cons, List.sum_cons, ih]
  | swap x y l => simp only [List.sum_cons]; grind
  | trans _ _ a b => rw [a, b]
def brd (col : Nat → Nat → Rat) (J I : List Nat) (y j : Nat) : Rat := dt ((j :: J).map col) (y :: I)
theorem rows_free {col : Nat → Nat → Rat} {J I : List Nat} (hl : J.length = I.length) (hn : I.Nodup) (hd : dt (J.map col) I ≠ 0) {β : Nat → Rat} (hz : ∀ j ∈ J, (I.map fun i => β i * col j i).sum = 0) : ∀ i ∈ I, β i = 0 := by
  intro s hs
  by_cases q : β s = 0
  · exact q
  · exfalso
    refine hd ?_
    -- each column is a sum of fewer ones
    have hpos : 0 < I.length := List.length_pos_of_mem hs
    have len : (I.erase s).length = I.length - 1 := List.length_erase_of_mem hs
    refine dt_span (G := fun k i => if i = (I.erase s).getD k 0 then 1 else if i = s then - β ((I.erase s).getD k 0) / β s else 0) (r := I.length - 1) (by simp; omega) fun c hc => ?_
    obtain ⟨j, hj, rfl⟩ := List.mem_map.mp hc
    refine ⟨(I.erase s).map (col j), ?_⟩
    have hz := hz j hj
    -- a sum over the others
    have gen : ∀ (G : Nat → Nat → Rat) (xs : List Nat) (i : Nat), cmb (xs.map (col j)) ((List.range xs.length).map G) i = ((List.range xs.length).map fun k => col j (xs.getD k 0) * G k i).sum := by
      intro G xs
      induction xs generalizing G with
      | nil => intro i; rfl
      | cons x xs ih =>
        intro i
        rw [List.length_cons, List.range_succ_eq_map]
        simp only [List.map_cons, List.map_map, cmb, List.sum_cons]
        have := ih (fun k => G (k + 1)) i
        simp only [Function.comp_def]
        rw [show (fun x => G x.succ) = fun k => G (k + 1) from rfl] at *
        rw [this]
        simp
    intro i hi
    rw [← len, gen]
    have hne : (I.erase s).Nodup := hn.erase s
    have e1 : ∀ (xs : List Nat) (h : Nat → Nat → Rat), ((List.range xs.length).map fun k => col j (xs.getD k 0) * h (xs.getD k 0) i) = xs.map fun x => col j x * h x i := by
      intro xs h
      refine List.ext_getElem (by simp) fun k h1 h2 => ?_
      simp at h1
      simp [h1]
    rw [e1 (I.erase s) fun x i => if i = x then 1 else if i = s then - β x / β s else 0]
    by_cases es : i = s
    · subst es
      have ns : i ∉ I.erase i := fun h => hn.not_mem_erase h
      have m1 : ((I.erase i).map fun x => col j x * (if i = x then 1 else if i = i then - β x / β i else 0)) = (I.erase i).map fun x => (- 1 / β i) * (β x * col j x) := by
        refine List.map_congr_left fun x hx => ?_
        have : i ≠ x := fun e => ns (e ▸ hx)
        rw [if_neg this, if_pos rfl]
        grind
      have sm : ∀ xs : List Nat, (xs.map fun x => (- 1 / β i) * (β x * col j x)).sum = (- 1 / β i) * (xs.map fun x => β x * col j x).sum := by
        intro xs
        induction xs with
        | nil => simp
        | cons x xs ih => simp only [List.map_cons, List.sum_cons, ih]; grind
      rw [m1, sm]
      have pm := perm_sum ((List.perm_cons_erase hs).map fun x => β x * col j x)
      rw [List.map_cons, List.sum_cons, hz] at pm
      grind
    · have m1 : ((I.erase s).map fun x => col j x * (if i = x then 1 else if i = s then - β x / β s else 0)) = (I.erase s).map fun x => if i = x then col j i else 0 := by
        refine List.map_congr_left fun x hx => ?_
        by_cases e : i = x
        · subst e; rw [if_pos rfl, if_pos rfl]; grind
        · rw [if_neg e, if_neg es, if_neg e]; grind
      rw [m1]
      have mi : i ∈ I.erase s := (List.mem_erase_of_ne es).mpr hi
      have one : ∀ xs : List Nat, xs.Nodup → i ∈ xs → (xs.map fun x => if i = x then col j i else 0).sum = col j i := by
        intro xs
        induction xs with
        | nil => intro _ h; simp at h
        | cons x xs ih =>
          intro nd h
          rw [List.map_cons, List.sum_cons]
          obtain ⟨n1, n2⟩ := List.nodup_cons.mp nd
          by_cases e : i = x
          · rw [if_pos e]
            have : (xs.map fun x => if i = x then col j i else 0).sum = 0 := by
              have z : ∀ ys : List Nat, (∀ y ∈ ys, i ≠ y) → (ys.map fun x => if i = x then col j i else (0 : Rat)).sum = 0 := by
                intro ys
                induction ys with
                | nil => intro _; rfl
                | cons y ys ih => intro hy; rw [List.map_cons, List.sum_cons, if_neg (hy y (by simp)), ih fun z hz => hy z (by simp [hz])]; grind
              exact z xs fun y hy e2 => n1 (e ▸ e2 ▸ hy)
            rw [this]; grind
          · rw [if_neg e, ih n2 (by rcases List.mem_cons.mp h with q | q; exact absurd q e; exact q)]; grind
      rw [one _ hne mi]
end DL
namespace DL
theorem lap_w (f : List Nat → Rat) : ∀ {I : List Nat}, I.Nodup → ∀ (f : List Nat → Rat), ∃ w : Nat → Rat, ∀ c : Nat → Rat, lap c f I = (I.map fun i => w i * c i).sum
  | [], _, f => ⟨fun _ => 0, fun c => rfl⟩
  | i :: I, h, f => by
    obtain ⟨h1, h2⟩ := List.nodup_cons.mp h
    obtain ⟨w, hw⟩ := lap_w f h2 fun J => f (i :: J)
    refine ⟨fun x => if x = i then f I else - w x, fun c => ?_⟩
    rw [lap, hw c, List.map_cons, List.sum_cons]
    simp only [if_true]
    have neg : ∀ xs : List Nat, i ∉ xs → (xs.map fun x => (if x = i then f I else - w x) * c x).sum = - (xs.map fun x => w x * c x).sum := by
      intro xs
      induction xs with
      | nil => intro _; simp
      | cons x xs ih =>
        intro hx
        have n1 : ¬ x = i := fun e => hx (by simp [e])
        rw [List.map_cons, List.map_cons, List.sum_cons, List.sum_cons, if_neg n1, ih fun q => hx (by simp [q])]
        grind
    rw [neg I h1]
    grind
theorem sum_add (I : List Nat) (f g : Nat → Rat) : (I.map fun i => f i + g i).sum = (I.map f).sum + (I.map g).sum := by
  induction I with
  | nil => show (0 : Rat) = 0 + 0; grind
  | cons x xs ih => simp only [List.map_cons, List.sum_cons, ih]; grind
theorem sum_mulc (I : List Nat) (a : Rat) (f : Nat → Rat) : (I.map fun i => a * f i).sum = a * (I.map f).sum := by
  induction I with
  | nil => simp
  | cons x xs ih => simp only [List.map_cons, List.sum_cons, ih]; grind
section
variable {col : Nat → Nat → Rat} {J I : List Nat}
theorem brd_w (hn : I.Nodup) (y : Nat) : ∃ w : Nat → Rat, ∀ j, brd col J I y j = dt (J.map col) I * col j y - (I.map fun i => w i * col j i).sum := by
  obtain ⟨w, hw⟩ := lap_w (fun _ => 0) hn fun K => dt (J.map col) (y :: K)
  refine ⟨w, fun j => ?_⟩
  show lap (col j) (dt (J.map col)) (y :: I) = _
  rw [lap, hw (col j)]
  grind
theorem brd_in {y j : Nat} (hj : j ∈ J) : brd col J I y j = 0 := dt_mem (List.mem_map.mpr ⟨j, hj, rfl⟩) _
theorem brd_step (hl : J.length = I.length) (hn : I.Nodup) (hd : dt (J.map col) I ≠ 0) (c l y j : Nat) : dt (J.map col) I * brd col (c :: J) (l :: I) y j = brd col J I l c * brd col J I y j - brd col J I l j * brd col J I y c := by
  obtain ⟨w1, h1⟩ := brd_w (col := col) (J := J) hn y
  obtain ⟨w2, h2⟩ := brd_w (col := col) (J := J) hn l
  obtain ⟨w3, h3⟩ := lap_w (fun _ => 0) hn fun K => dt ((c :: J).map col) (y :: l :: K)
  have e3 : ∀ j, brd col (c :: J) (l :: I) y j = col j y * brd col J I l c - col j l * brd col J I y c + (I.map fun i => w3 i * col j i).sum := fun j => by
    show lap (col j) (dt ((c :: J).map col)) (y :: l :: I) = _
    rw [lap, lap, h3 (col j)]
    show col j y * dt ((c :: J).map col) (l :: I) - (col j l * dt ((c :: J).map col) (y :: I) - _) = col j y * dt ((c :: J).map col) (l :: I) - col j l * dt ((c :: J).map col) (y :: I) + _
    grind
  generalize hD : dt (J.map col) I = d at *
  generalize hb1 : brd col J I l c = b1 at *
  generalize hb2 : brd col J I y c = b2 at *
  have key : ∀ j, (I.map fun i => (d * w3 i + b1 * w1 i + (-b2) * w2 i) * col j i).sum = d * brd col (c :: J) (l :: I) y j - (b1 * brd col J I y j - brd col J I l j * b2) := fun j => by
    have s : (I.map fun i => (d * w3 i + b1 * w1 i + (-b2) * w2 i) * col j i) = I.map fun i => (d * (w3 i * col j i) + b1 * (w1 i * col j i)) + (-b2) * (w2 i * col j i) := List.map_congr_left fun i _ => by grind
    rw [s, sum_add, sum_add, sum_mulc, sum_mulc, sum_mulc, e3 j, h1 j, h2 j]
    grind
  have z := rows_free (β := fun i => d * w3 i + b1 * w1 i + (-b2) * w2 i) hl hn (by rw [hD]; exact hd) fun j hj => by
    rw [key j, brd_in hj, brd_in hj, brd_in (J := c :: J) (by simp [hj])]
    grind
  have k := key j
  have : (I.map fun i => (d * w3 i + b1 * w1 i + (-b2) * w2 i) * col j i).sum = 0 := by
    have : (I.map fun i => (d * w3 i + b1 * w1 i + (-b2) * w2 i) * col j i) = I.map fun i => (0 : Rat) * col j i := List.map_congr_left fun i hi => by rw [z i hi]
    rw [this, sum_mulc]; grind
  rw [this] at k
  grind
theorem cmb_rng (f : Nat → Rat) (h : Nat → Nat → Rat) (xs : List Nat) (i : Nat) : cmb (xs.map f) ((List.range xs.length).map fun k => h (xs.getD k 0)) i = (xs.map fun x => f x * h x i).sum := by
  have gen : ∀ (xs : List Nat) (G : Nat → Nat → Rat), cmb (xs.map f) ((List.range xs.length).map G) i = ((List.range xs.length).map fun k => f (xs.getD k 0) * G k i).sum := by
    intro xs
    induction xs with
    | nil => intro G; rfl
    | cons x xs ih =>
      intro G
      rw [List.length_cons, List.range_succ_eq_map]
      simp only [List.map_cons, List.map_map, cmb, List.sum_cons]
      have := ih fun k => G (k + 1)
      simp only [Function.comp_def]
      rw [show (fun x => G x.succ) = fun k => G (k + 1) from rfl] at *
      rw [this]
      simp
  rw [gen]
  congr 1
  refine List.ext_getElem (by simp) fun k h1 h2 => ?_
  simp at h1
  simp [h1]
theorem more_zero (hn : I.Nodup) (hd : dt (J.map col) I ≠ 0) {H : Nat} {I' J' : List Nat} (hz : ∀ y ∈ I', ∀ j, j < H → brd col J I y j = 0) (hJ : ∀ j ∈ J', j < H) (hl : I.length < J'.length) : dt (J'.map col) I' = 0 := by
  have w : ∃ w : Nat → Nat → Rat, ∀ y j, brd col J I y j = dt (J.map col) I * col j y - (I.map fun i => w y i * col j i).sum :=
    ⟨fun y => (brd_w (col := col) (J := J) hn y).choose, fun y => (brd_w (col := col) (J := J) hn y).choose_spec⟩
  obtain ⟨w, hw⟩ := w
  refine dt_span (r := I.length) (G := fun k y => w y (I.getD k 0) / dt (J.map col) I) (by simpa using hl) fun c hc => ?_
  obtain ⟨j, hj, rfl⟩ := List.mem_map.mp hc
  refine ⟨I.map (col j), fun y hy => ?_⟩
  have := cmb_rng (col j) (fun i y => w y i / dt (J.map col) I) I y
  rw [this]
  have z := hz y hy j (hJ j hj)
  rw [hw] at z
  have s : (I.map fun x => col j x * (w y x / dt (J.map col) I)) = I.map fun x => (1 / dt (J.map col) I) * (w y x * col j x) := List.map_congr_left fun x _ => by grind
  rw [s, sum_mulc]
  grind
theorem dt_perm {cs ds : List (Nat → Rat)} (h : cs.Perm ds) : ∃ s : Rat, s * s = 1 ∧ ∀ I, dt cs I = s * dt ds I := by
  induction h with
  | nil => exact ⟨1, by grind, fun I => by grind⟩
  | cons c _ ih =>
    obtain ⟨s, h1, h2⟩ := ih
    exact ⟨s, h1, fun I => dt_pre h2 [c] I⟩
  | swap c d l => exact ⟨-1, by grind, fun I => dt_swap0 d c l I⟩
  | trans _ _ a b =>
    obtain ⟨s, h1, h2⟩ := a
    obtain ⟨r, h3, h4⟩ := b
    exact ⟨s * r, by grind, fun I => by rw [h2, h4]; grind⟩
end
section
variable {t : Nat → Int} {n g : Nat} {L : Int}
theorem stair (k : KV t n g L) {j : Nat} (hj : j + g + 1 < n) {x : Int} (h : ¬ UpI t L g j x) : (∀ j' x', j' ≤ j → x ≤ x' → ¬ UpI t L g j' x') ∨ (∀ j' x', j ≤ j' → j' + g + 1 < n → x' ≤ x → ¬ UpI t L g j' x') := by
  have m := k.mono
  have le := k.le
  have gp := k.gap j hj
  have lj := le (j + g + 1) hj
  by_cases c : x < t j ∨ (x = t j ∧ t j < t (j + g))
  · right
    intro j' x' h1 h2 h3 u
    have a1 := m j j' h1 (by omega)
    have a2 := m (j + g) (j' + g) (by omega) (by omega)
    rcases u with ⟨u1, u2⟩ | ⟨u1, u2⟩ | ⟨u1, u2⟩
    · omega
    · omega
    · omega
  · left
    intro j' x' h1 h2 u
    have a0 : t j < x ∧ t (j + g + 1) ≤ x := by
      have b1 := m j (j + g) (by omega) (by omega)
      unfold UpI at h
      omega
    have a1 := m (j' + g + 1) (j + g + 1) (by omega) (by omega)
    have a2 := m j' j h1 (by omega)
    have a3 := m (j' + 1) (j + 1) (by omega) (by omega)
    have a4 := m (j + 1) (j + g + 1) (by omega) (by omega)
    have a5 := le (j + 1) (by omega)
    unfold UpI at h
    rcases u with ⟨u1, u2⟩ | ⟨u1, u2⟩ | ⟨u1, u2⟩
    · omega
    · omega
    · omega
theorem cl_out (k : KV t n g L) {j x : Nat} (hj : j + g + 1 < n) (h : ¬ UpI t L g j (x : Int)) : cl t L g j x = 0 := by
  by_cases q : cl t L g j x = 0
  · exact q
  · exact absurd (cl_ne k hj q) h
theorem all_up (k : KV t n g L) {J I : List Nat} (hl : J.length = I.length) (hI : I.Pairwise (· < ·)) (hJ : J.Pairwise (· < ·)) (hj : ∀ j ∈ J, j + g + 1 < n) (hd : dt (J.map (cl t L g)) I ≠ 0) : ∀ p ∈ J.zip I, UpI t L g p.1 ((p.2 : Nat) : Int) := by
  intro p hp
  obtain ⟨i, hi, e⟩ := List.getElem_of_mem hp
  rw [List.length_zip] at hi
  have h1 : i < J.length := by omega
  have h2 : i < I.length := by omega
  rw [List.getElem_zip] at e
  have eJ : J = J.take i ++ J[i] :: J.drop (i + 1) := by simp
  have eI : I = I.take i ++ I[i] :: I.drop (i + 1) := by simp
  generalize J[i] = j at *
  generalize I[i] = x at *
  subst e
  have tl : (J.take i).length = (I.take i).length := by simp; omega
  have dl : (J.drop (i + 1)).length = (I.drop (i + 1)).length := by simp; omega
  generalize J.take i = J1 at *
  generalize J.drop (i + 1) = J2 at *
  generalize I.take i = I1 at *
  generalize I.drop (i + 1) = I2 at *
  subst eJ eI
  by_cases u : UpI t L g j (x : Int)
  · exact u
  · exfalso
    obtain ⟨pj1, pj2, pj3⟩ := List.pairwise_append.mp hJ
    obtain ⟨pi1, pi2, pi3⟩ := List.pairwise_append.mp hI
    have a1 := (List.pairwise_cons.mp pj2).1
    have b1 := (List.pairwise_cons.mp pi2).1
    have hjj := hj j (by simp)
    -- columns with a mark
    have fin : ∀ (fl : Nat → Bool) (P : Nat → Bool), (∀ c ∈ J1 ++ j :: J2, fl c = false → ∀ y ∈ I1 ++ x :: I2, P y = true → ¬ UpI t L g c (y : Int)) → ((J1 ++ j :: J2).filter fl).length < ((I1 ++ x :: I2).filter P).length → False := fun fl P h1 h2 => by
      refine hd ?_
      have := dt_block (P := P) (cs := (J1 ++ j :: J2).map fun c => (cl t L g c, fl c)) (I := I1 ++ x :: I2) (by simpa using hl) (fun c hc hf y hy hp => by
        obtain ⟨c0, hc0, rfl⟩ := List.mem_map.mp hc
        exact cl_out k (hj c0 hc0) (h1 c0 hc0 hf y hy hp)) (by
        rw [List.filter_map, List.length_map]
        exact h2)
      rw [List.map_map] at this
      exact this
    rcases stair k hjj u with s | s
    · refine fin (fun c => decide (j < c)) (fun y => decide (x ≤ y)) (fun c hc hf y hy hp => s c y (by simpa using hf) (Int.ofNat_le.mpr (of_decide_eq_true hp))) ?_
      have e1 : J1.filter (fun c => decide (j < c)) = [] := List.filter_eq_nil_iff.mpr fun c hc => by
        have := pj3 c hc j (by simp)
        simp; omega
      have e2 : I2.filter (fun y => decide (x ≤ y)) = I2 := List.filter_eq_self.mpr fun y hy => by
        have := b1 y hy
        simp; omega
      rw [List.filter_append, e1, List.filter_cons_of_neg (by simp), List.filter_append, List.filter_cons_of_pos (by simp), e2]
      have := List.length_filter_le (fun c => decide (j < c)) J2
      simp
      omega
    · refine fin (fun c => decide (c < j)) (fun y => decide (y ≤ x)) (fun c hc hf y hy hp => s c y (by simpa using hf) (hj c hc) (Int.ofNat_le.mpr (of_decide_eq_true hp))) ?_
      have e1 : J2.filter (fun c => decide (c < j)) = [] := List.filter_eq_nil_iff.mpr fun c hc => by
        have := a1 c hc
        simp; omega
      have e2 : I1.filter (fun y => decide (y ≤ x)) = I1 := List.filter_eq_self.mpr fun y hy => by
        have := pi3 y hy x (by simp)
        simp; omega
      rw [List.filter_append, List.filter_cons_of_neg (by simp), e1, List.filter_append, e2, List.filter_cons_of_pos (by simp)]
      have := List.length_filter_le (fun c => decide (c < j)) J1
      simp
      omega
end
end DL
namespace DL
theorem lng_mono {up : Nat → Nat → Bool} {H m : Nat} : ∀ {a k b i : Nat}, k ≤ a → i ≤ b → lng up H m a b ≤ lng up H m k i := by
  have h1 : ∀ d k i, lng up H m (k + d) i ≤ lng up H m k i := by
    intro d
    induction d with
    | zero => intro k i; exact Nat.le_refl _
    | succ d ih => intro k i; exact Nat.le_trans (lng_mk (k := k + d)) (ih k i)
  have h2 : ∀ d k i, lng up H m k (i + d) ≤ lng up H m k i := by
    intro d
    induction d with
    | zero => intro k i; exact Nat.le_refl _
    | succ d ih => intro k i; exact Nat.le_trans (lng_mi (i := i + d)) (ih k i)
  intro a k b i ha hb
  obtain ⟨d, rfl⟩ := Nat.exists_eq_add_of_le ha
  obtain ⟨e, rfl⟩ := Nat.exists_eq_add_of_le hb
  exact Nat.le_trans (h1 d k (i + e)) (h2 e k i)
structure Asc (up : Nat → Nat → Bool) (H m k i : Nat) (P : List (Nat × Nat)) : Prop where
  asc : P.Pairwise fun p q => p.1 < q.1 ∧ p.2 < q.2
  inn : ∀ p ∈ P, k ≤ p.1 ∧ p.1 < H ∧ i ≤ p.2 ∧ p.2 < m ∧ up p.1 p.2 = true
theorem lng_ge {up : Nat → Nat → Bool} {H m : Nat} : ∀ {P : List (Nat × Nat)} {k i : Nat}, Asc up H m k i P → P.length ≤ lng up H m k i
  | [], _, _, _ => Nat.zero_le _
  | (a, b) :: P, k, i, h => by
    obtain ⟨h1, h2, h3, h4, h5⟩ := h.inn (a, b) (by simp)
    have ih := lng_ge (up := up) (P := P) (k := a + 1) (i := b + 1) ⟨(List.pairwise_cons.mp h.asc).2, fun p hp => by
      have q := (List.pairwise_cons.mp h.asc).1 p hp
      obtain ⟨_, r1, _, r2, r3⟩ := h.inn p (by simp [hp])
      exact ⟨q.1, r1, q.2, r2, r3⟩⟩
    have s := lng_yes (up := up) (H := H) (m := m) (k := a) (i := b) ⟨h2, h4⟩ h5
    have mm : lng up H m a b ≤ lng up H m k i := lng_mono h1 h3
    rw [List.length_cons]
    omega
theorem lng_ex {up : Nat → Nat → Bool} {H m : Nat} : ∀ (N k i : Nat), (H - k) + (m - i) ≤ N → ∃ P, Asc up H m k i P ∧ P.length = lng up H m k i
  | 0, k, i, hN => ⟨[], ⟨by simp, by simp⟩, by rw [lng_out (by omega)]; rfl⟩
  | N + 1, k, i, hN => by
    by_cases h : k < H ∧ i < m
    · have wk : ∀ {P k' i'}, k ≤ k' → i ≤ i' → Asc up H m k' i' P → Asc up H m k i P := fun a b s => ⟨s.asc, fun p hp => by obtain ⟨r1, r2, r3, r4, r5⟩ := s.inn p hp; exact ⟨by omega, r2, by omega, r4, r5⟩⟩
      obtain ⟨P1, a1, l1⟩ := lng_ex (up := up) (H := H) (m := m) N (k + 1) i (by omega)
      obtain ⟨P2, a2, l2⟩ := lng_ex (up := up) (H := H) (m := m) N k (i + 1) (by omega)
      obtain ⟨P3, a3, l3⟩ := lng_ex (up := up) (H := H) (m := m) N (k + 1) (i + 1) (by omega)
      have c1 : lng up H m k i = lng up H m (k + 1) i → ∃ P, Asc up H m k i P ∧ P.length = lng up H m k i := fun e => ⟨P1, wk (by omega) (by omega) a1, by omega⟩
      have c2 : lng up H m k i = lng up H m k (i + 1) → ∃ P, Asc up H m k i P ∧ P.length = lng up H m k i := fun e => ⟨P2, wk (by omega) (by omega) a2, by omega⟩
      cases hu : up k i with
      | false =>
        have s := lng_no h hu
        by_cases q : lng up H m k (i + 1) ≤ lng up H m (k + 1) i
        · exact c1 (by omega)
        · exact c2 (by omega)
      | true =>
        have s := lng_yes h hu
        by_cases r : lng up H m k i = lng up H m (k + 1) (i + 1) + 1
        · refine ⟨(k, i) :: P3, ⟨List.pairwise_cons.mpr ⟨fun p hp => ?_, a3.asc⟩, fun p hp => ?_⟩, by simp; omega⟩
          · obtain ⟨r1, r2, r3, r4, r5⟩ := a3.inn p hp
            exact ⟨by show k < p.1; omega, by show i < p.2; omega⟩
          · rcases List.mem_cons.mp hp with e | e
            · subst e; exact ⟨Nat.le_refl _, h.1, Nat.le_refl _, h.2, hu⟩
            · exact (wk (by omega) (by omega) a3).inn p e
        · by_cases q : lng up H m k (i + 1) ≤ lng up H m (k + 1) i
          · exact c1 (by omega)
          · exact c2 (by omega)
    · exact ⟨[], ⟨by simp, by simp⟩, by rw [lng_out h]; rfl⟩
instance upDec {t : Nat → Int} {L : Int} {g j : Nat} {x : Int} : Decidable (UpI t L g j x) := by unfold UpI; exact inferInstance
def upX (t : Nat → Int) (L : Int) (g : Nat) (X : List Nat) (k i : Nat) : Bool := decide (UpI t L g k ((X.getD i 0 : Nat) : Int))
theorem upX_iff {t : Nat → Int} {L : Int} {g : Nat} {X : List Nat} {k i : Nat} : upX t L g X k i = true ↔ UpI t L g k ((X.getD i 0 : Nat) : Int) := by
  unfold upX
  exact decide_eq_true_iff
theorem asc_get {X : List Nat} (h : X.Pairwise (· < ·)) {i j : Nat} (hi : i < X.length) (hj : j < X.length) : X[i] < X[j] ↔ i < j := by
  have f : ∀ {a b : Nat} (ha : a < X.length) (hb : b < X.length), a < b → X[a] < X[b] := fun ha hb hab => List.pairwise_iff_getElem.mp h _ _ ha hb hab
  constructor
  · intro q
    rcases Nat.lt_trichotomy i j with r | r | r
    · exact r
    · subst r; omega
    · have := f hj hi r; omega
  · exact f hi hj
theorem asc_idx {X : List Nat} (h : X.Pairwise (· < ·)) {x y : Nat} (hx : x ∈ X) (hy : y ∈ X) (hxy : x < y) : X.idxOf x < X.idxOf y := by
  have a := List.idxOf_lt_length_of_mem hx
  have b := List.idxOf_lt_length_of_mem hy
  have e1 := List.getElem_idxOf a
  have e2 := List.getElem_idxOf b
  exact (asc_get h a b).mp (by rw [e1, e2]; exact hxy)
section
variable {t : Nat → Int} {n g : Nat} {L : Int}
theorem rank_is_lng (k : KV t n g L) {X I J : List Nat} (hX : X.Pairwise (· < ·)) (hIp : I.Pairwise (· < ·)) (hIs : ∀ i ∈ I, i ∈ X) (hJn : J.Nodup) (hJ : ∀ j ∈ J, j + g + 1 < n) (hl : J.length = I.length) (hd : dt (J.map (cl t L g)) I ≠ 0)
    (hz : ∀ y ∈ X, ∀ j, j + g + 1 < n → brd (cl t L g) J I y j = 0) : I.length = lng (upX t L g X) (n - g - 1) X.length 0 0 := by
  have hIn : I.Nodup := hIp.imp fun h => Nat.ne_of_lt h
  apply Nat.le_antisymm
  · -- a row of pairs
    have pm := List.mergeSort_perm J (fun a b => decide (a ≤ b))
    have sr : (J.mergeSort (fun a b => decide (a ≤ b))).Pairwise (· < ·) := by
      have s1 := List.pairwise_mergeSort (le := fun a b : Nat => decide (a ≤ b)) (fun a b c h1 h2 => by simp at h1 h2 ⊢; omega) (fun a b => by simp; omega) J
      have s2 : (J.mergeSort (fun a b => decide (a ≤ b))).Nodup := pm.nodup_iff.mpr hJn
      have := List.pairwise_iff_getElem.mp s1
      have s2 := List.pairwise_iff_getElem.mp s2
      refine List.pairwise_iff_getElem.mpr fun i j hi hj hij => ?_
      have := this i j hi hj hij
      have := s2 i j hi hj hij
      simp at *
      omega
    generalize hJ' : J.mergeSort (fun a b => decide (a ≤ b)) = J' at *
    obtain ⟨s, hs, e⟩ := dt_perm (pm.map (cl t L g))
    have hd' : dt (J'.map (cl t L g)) I ≠ 0 := fun z => by
      have := e I
      rw [z] at this
      have h2 : s * (s * dt (J.map (cl t L g)) I) = 0 := by rw [← this]; grind
      have : dt (J.map (cl t L g)) I = 0 := by
        have : (s * s) * dt (J.map (cl t L g)) I = 0 := by rw [Rat.mul_assoc]; exact h2
        rw [hs] at this
        grind
      exact hd this
    have hl' : J'.length = I.length := pm.length_eq.trans hl
    have hj' : ∀ j ∈ J', j + g + 1 < n := fun j h => hJ j (pm.mem_iff.mp h)
    have up := all_up k hl' hIp sr hj' hd'
    have ge := lng_ge (up := upX t L g X) (H := n - g - 1) (m := X.length) (k := 0) (i := 0) (P := J'.zip (I.map fun x => X.idxOf x)) ⟨?_, ?_⟩
    · rw [List.length_zip, List.length_map, hl', Nat.min_self] at ge
      exact ge
    · refine List.pairwise_iff_getElem.mpr fun i j hi hj hij => ?_
      rw [List.length_zip, List.length_map] at hi hj
      rw [List.getElem_zip, List.getElem_zip]
      refine ⟨List.pairwise_iff_getElem.mp sr i j (by omega) (by omega) hij, ?_⟩
      dsimp only
      rw [List.getElem_map, List.getElem_map]
      exact asc_idx hX (hIs _ (List.getElem_mem _)) (hIs _ (List.getElem_mem _)) (List.pairwise_iff_getElem.mp hIp i j (by omega) (by omega) hij)
    · intro p hp
      obtain ⟨i, hi, rfl⟩ := List.getElem_of_mem hp
      rw [List.length_zip, List.length_map] at hi
      have u := up (J'[i], I[i]) (by
        refine List.mem_iff_getElem.mpr ⟨i, by rw [List.length_zip]; omega, ?_⟩
        rw [List.getElem_zip])
      have mI : I[i] ∈ X := hIs _ (List.getElem_mem _)
      have a := List.idxOf_lt_length_of_mem mI
      rw [List.getElem_zip, List.getElem_map]
      have hjj := hj' J'[i] (List.getElem_mem _)
      refine ⟨Nat.zero_le _, by show J'[i] < _; omega, Nat.zero_le _, a, upX_iff.mpr ?_⟩
      have eg : X.getD (X.idxOf I[i]) 0 = I[i] := by simp [a, List.getElem_idxOf]
      show UpI t L g J'[i] ((X.getD (X.idxOf I[i]) 0 : Nat) : Int)
      rw [eg]
      exact u
  · -- more rows would have a determinant
    obtain ⟨P, a, l⟩ := lng_ex (up := upX t L g X) (H := n - g - 1) (m := X.length) _ 0 0 (Nat.le_refl _)
    rcases Nat.lt_or_ge I.length (lng (upX t L g X) (n - g - 1) X.length 0 0) with q | q
    · exfalso
      have pI : (P.map fun p => X.getD p.2 0).Pairwise (· < ·) := by
        rw [List.pairwise_map]
        refine a.asc.imp_of_mem fun {p r} hp hr h => ?_
        obtain ⟨_, _, _, p4, _⟩ := a.inn p hp
        obtain ⟨_, _, _, r4, _⟩ := a.inn r hr
        have := (asc_get hX p4 r4).mpr h.2
        simpa [p4, r4] using this
      have pJ : (P.map (·.1)).Pairwise (· < ·) := by
        rw [List.pairwise_map]
        exact a.asc.imp fun h => h.1
      have T := tpos _ (Nat.le_refl _) k pI
      have hj' : ∀ j ∈ P.map (·.1), j + g + 1 < n := fun j hj => by
        obtain ⟨p, hp, rfl⟩ := List.mem_map.mp hj
        obtain ⟨_, p2, _⟩ := a.inn p hp
        omega
      have dpos := T.pos (P.map (·.1)) (by simp) pJ hj' fun z hz => by
        obtain ⟨i, hi, rfl⟩ := List.getElem_of_mem hz
        rw [List.length_zip, List.length_map, List.length_map, Nat.min_self] at hi
        rw [List.getElem_zip, List.getElem_map, List.getElem_map]
        obtain ⟨_, p2, _, _, p5⟩ := a.inn P[i] (List.getElem_mem _)
        exact (cl_up k (by omega)).mpr (upX_iff.mp p5)
      have z := more_zero (col := cl t L g) (J := J) (I := I) hIn hd (H := n - g - 1) (I' := P.map fun p => X.getD p.2 0) (J' := P.map (·.1)) (fun y hy j hj => by
        obtain ⟨p, hp, rfl⟩ := List.mem_map.mp hy
        obtain ⟨_, _, _, p4, _⟩ := a.inn p hp
        exact hz _ (by simp [p4]) j (by omega)) (fun j hj => by have := hj' j hj; omega) (by rw [List.length_map, l]; exact q)
      rw [z] at dpos
      exact absurd dpos (by decide)
    · exact q
end
end DL
namespace DL
theorem lap_neg (c : Nat → Rat) (f : List Nat → Rat) (I : List Nat) : lap c (fun K => - f K) I = - lap c f I := by
  have := lap_lin c (-1) 0 I f f
  have e : (fun J => (-1 : Rat) * f J + 0 * f J) = fun K => - f K := by funext K; grind
  rw [e] at this
  grind
theorem lap_swap (c : Nat → Rat) (i j : Nat) (B : List Nat) : ∀ (A : List Nat) (f : List Nat → Rat), (∀ A' B' : List Nat, A'.length + B'.length + 1 = A.length + B.length → f (A' ++ i :: j :: B') = - f (A' ++ j :: i :: B')) → lap c f (A ++ i :: j :: B) = - lap c f (A ++ j :: i :: B)
  | [], f, h => by
    have e : lap c (fun K => f (i :: j :: K)) B = - lap c (fun K => f (j :: i :: K)) B := by
      rw [← lap_neg]
      exact lap_congr (fun _ _ => rfl) fun K hK _ => h [] K (by simp; omega)
    show lap c f (i :: j :: B) = - lap c f (j :: i :: B)
    rw [lap, lap, lap, lap, e]
    grind
  | a :: A, f, h => by
    have h1 := h A B (by simp; omega)
    have h2 := lap_swap c i j B A (fun K => f (a :: K)) fun A' B' hl => h (a :: A') B' (by simp; omega)
    show lap c f (a :: (A ++ i :: j :: B)) = - lap c f (a :: (A ++ j :: i :: B))
    rw [lap, lap, h1, h2]
    grind
theorem dt_rswap (i j : Nat) : ∀ (cs : List (Nat → Rat)) (A B : List Nat), cs.length = A.length + B.length + 2 → dt cs (A ++ i :: j :: B) = - dt cs (A ++ j :: i :: B)
  | [], A, B, h => by simp at h
  | c :: cs, A, B, h => lap_swap c i j B A (dt cs) fun A' B' hl => dt_rswap i j cs A' B' (by simp at h; omega)
theorem dt_rperm {I I' : List Nat} (h : I.Perm I') : ∀ (A : List Nat) (cs : List (Nat → Rat)), cs.length = A.length + I.length → ∃ s : Rat, s * s = 1 ∧ dt cs (A ++ I) = s * dt cs (A ++ I') := by
  induction h with
  | nil => exact fun A cs _ => ⟨1, by grind, by grind⟩
  | cons x _ ih =>
    intro A cs hl
    obtain ⟨s, h1, h2⟩ := ih (A ++ [x]) cs (by simp at hl ⊢; omega)
    exact ⟨s, h1, by simpa using h2⟩
  | swap x y l => exact fun A cs hl => ⟨-1, by grind, by rw [dt_rswap y x cs A l (by simp at hl; omega)]; grind⟩
  | trans a _ p q =>
    intro A cs hl
    obtain ⟨s, h1, h2⟩ := p A cs hl
    obtain ⟨r, h3, h4⟩ := q A cs (by rw [← a.length_eq]; exact hl)
    exact ⟨s * r, by grind, by rw [h2, h4]; grind⟩
theorem brd_twin {col : Nat → Nat → Rat} {J I : List Nat} {y j : Nat} (hl : J.length = I.length) (hy : y ∈ I) : brd col J I y j = 0 := by
  obtain ⟨s, h1, h2⟩ := dt_rperm (List.perm_cons_erase hy) [y] ((j :: J).map col) (by simp; omega)
  have z := dt_rswap y y ((j :: J).map col) [] (I.erase y) (by rw [List.length_erase_of_mem hy]; have := List.length_pos_of_mem hy; simp; omega)
  have z : dt ((j :: J).map col) (y :: y :: I.erase y) = - dt ((j :: J).map col) (y :: y :: I.erase y) := z
  have h2 : dt ((j :: J).map col) (y :: I) = s * dt ((j :: J).map col) (y :: y :: I.erase y) := h2
  show dt ((j :: J).map col) (y :: I) = 0
  rw [h2]
  have : dt ((j :: J).map col) (y :: y :: I.erase y) = 0 := by grind
  rw [this]
  grind
section
variable {t : Nat → Int} {n g : Nat} {L : Int}
theorem rank_elim (k : KV t n g L) {X I J : List Nat} (hX : X.Pairwise (· < ·)) (hIn : I.Nodup) (hIs : ∀ i ∈ I, i ∈ X) (hJn : J.Nodup) (hJ : ∀ j ∈ J, j + g + 1 < n) (hl : J.length = I.length) (hd : dt (J.map (cl t L g)) I ≠ 0)
    (hz : ∀ y ∈ X, ∀ j, j + g + 1 < n → brd (cl t L g) J I y j = 0) : I.length = lng (upX t L g X) (n - g - 1) X.length 0 0 := by
  have pm := List.mergeSort_perm I (fun a b => decide (a ≤ b))
  have sr : (I.mergeSort (fun a b => decide (a ≤ b))).Pairwise (· < ·) := by
    have s1 := List.pairwise_mergeSort (le := fun a b : Nat => decide (a ≤ b)) (fun a b c h1 h2 => by simp at h1 h2 ⊢; omega) (fun a b => by simp; omega) I
    have s2 : (I.mergeSort (fun a b => decide (a ≤ b))).Nodup := pm.nodup_iff.mpr hIn
    have := List.pairwise_iff_getElem.mp s1
    have s2 := List.pairwise_iff_getElem.mp s2
    refine List.pairwise_iff_getElem.mpr fun i j hi hj hij => ?_
    have := this i j hi hj hij
    have := s2 i j hi hj hij
    simp at *
    omega
  generalize I.mergeSort (fun a b => decide (a ≤ b)) = I' at *
  rw [← pm.length_eq]
  refine rank_is_lng k hX sr (fun i h => hIs i (pm.mem_iff.mp h)) hJn hJ (by rw [pm.length_eq]; exact hl) (fun z => ?_) fun y hy j hj => ?_
  · obtain ⟨s, h1, h2⟩ := dt_rperm pm.symm [] (J.map (cl t L g)) (by simp; omega)
    have h2 : dt (J.map (cl t L g)) I = s * dt (J.map (cl t L g)) I' := h2
    rw [z] at h2
    exact hd (by rw [h2]; grind)
  · obtain ⟨s, h1, h2⟩ := dt_rperm pm [y] ((j :: J).map (cl t L g)) (by simp [pm.length_eq]; omega)
    have h2 : brd (cl t L g) J I' y j = s * brd (cl t L g) J I y j := h2
    rw [h2, hz y hy j hj]
    grind
end
structure Elm (col : Nat → Nat → Rat) (X : List Nat) (H : Nat) (I J Y : List Nat) (R : Nat → Nat → Int) : Prop where
  hl : J.length = I.length
  inI : I.Nodup
  isI : ∀ i ∈ I, i ∈ X
  inJ : J.Nodup
  isJ : ∀ j ∈ J, j < H
  hd : dt (J.map col) I ≠ 0
  out : ∀ y ∈ X, y ∈ Y ∨ ∀ j, j < H → brd col J I y j = 0
  ynd : Y.Nodup
  isY : ∀ y ∈ Y, y ∈ X ∧ y ∉ I
  rel : ∀ y ∈ Y, ∃ σ : Rat, σ ≠ 0 ∧ ∀ j, j < H → ((R y j : Int) : Rat) = σ * brd col J I y j
theorem Elm.start {col : Nat → Nat → Rat} {X : List Nat} {H : Nat} {R : Nat → Nat → Int} (hn : X.Nodup) (hr : ∀ y ∈ X, ∃ σ : Rat, σ ≠ 0 ∧ ∀ j, j < H → ((R y j : Int) : Rat) = σ * col j y) : Elm col X H [] [] X R where
  hl := rfl
  inI := List.nodup_nil
  isI := by simp
  inJ := List.nodup_nil
  isJ := by simp
  hd := by show (1 : Rat) ≠ 0; decide
  out := fun y hy => .inl hy
  ynd := hn
  isY := fun y hy => ⟨hy, by simp⟩
  rel := fun y hy => by
    obtain ⟨σ, h1, h2⟩ := hr y hy
    refine ⟨σ, h1, fun j hj => ?_⟩
    rw [h2 j hj]
    show σ * col j y = σ * lap (col j) (fun _ => 1) [y]
    have : lap (col j) (fun _ => 1) [y] = col j y := by unfold lap lap; grind
    rw [this]
theorem Elm.drop {col : Nat → Nat → Rat} {X : List Nat} {H : Nat} {I J Y : List Nat} {l : Nat} {R : Nat → Nat → Int} (e : Elm col X H I J (l :: Y) R) (hz : ∀ j, j < H → R l j = 0) : Elm col X H I J Y R where
  hl := e.hl
  inI := e.inI
  isI := e.isI
  inJ := e.inJ
  isJ := e.isJ
  hd := e.hd
  out := fun y hy => by
    rcases e.out y hy with h | h
    · rcases List.mem_cons.mp h with q | q
      · right
        intro j hj
        obtain ⟨σ, h1, h2⟩ := e.rel l (by simp)
        have := h2 j hj
        rw [hz j hj] at this
        have this : σ * brd col J I l j = 0 := by rw [← this]; rfl
        rw [q]
        rcases Rat.mul_eq_zero.mp this with r | r
        · exact absurd r h1
        · exact r
      · exact .inl q
    · exact .inr h
  ynd := (List.nodup_cons.mp e.ynd).2
  isY := fun y hy => e.isY y (by simp [hy])
  rel := fun y hy => e.rel y (by simp [hy])
theorem Elm.step {col : Nat → Nat → Rat} {X : List Nat} {H : Nat} {I J Y : List Nat} {l c : Nat} {R R' : Nat → Nat → Int} (e : Elm col X H I J (l :: Y) R) (hc : c < H) (hp : R l c ≠ 0)
    (hr : ∀ y ∈ Y, ∃ m : Rat, m ≠ 0 ∧ ∀ j, j < H → m * ((R' y j : Int) : Rat) = (((R y j * R l c - R l j * R y c : Int)) : Rat)) : Elm col X H (l :: I) (c :: J) Y R' := by
  obtain ⟨τ, t1, t2⟩ := e.rel l (by simp)
  have lI := (e.isY l (by simp)).2
  have lX := (e.isY l (by simp)).1
  have hb : brd col J I l c ≠ 0 := fun z => by
    have := t2 c hc
    rw [z] at this
    have : ((R l c : Int) : Rat) = 0 := by rw [this]; grind
    exact hp (Rat.intCast_inj.mp this)
  have cJ : c ∉ J := fun h => hb (brd_in h)
  have hdn : dt ((c :: J).map col) (l :: I) ≠ 0 := hb
  have stp := fun y j => brd_step (col := col) e.hl e.inI e.hd c l y j
  have hd := e.hd
  refine ⟨by simp [e.hl], List.nodup_cons.mpr ⟨lI, e.inI⟩, fun i hi => ?_, List.nodup_cons.mpr ⟨cJ, e.inJ⟩, fun j hj => ?_, hdn, fun y hy => ?_, (List.nodup_cons.mp e.ynd).2, fun y hy => ?_, fun y hy => ?_⟩
  · rcases List.mem_cons.mp hi with q | q
    · rw [q]; exact lX
    · exact e.isI i q
  · rcases List.mem_cons.mp hj with q | q
    · rw [q]; exact hc
    · exact e.isJ j q
  · have dead : (∀ j, j < H → brd col J I y j = 0) → ∀ j, j < H → brd col (c :: J) (l :: I) y j = 0 := fun h j hj => by
      have := stp y j
      rw [h j hj, h c hc] at this
      have : dt (J.map col) I * brd col (c :: J) (l :: I) y j = 0 := by rw [this]; grind
      rcases Rat.mul_eq_zero.mp this with r | r
      · exact absurd r hd
      · exact r
    rcases e.out y hy with h | h
    · rcases List.mem_cons.mp h with q | q
      · right
        intro j hj
        rw [q]
        exact brd_twin (by simp [e.hl]) (by simp)
      · exact .inl q
    · exact .inr (dead h)
  · obtain ⟨h1, h2⟩ := e.isY y (by simp [hy])
    refine ⟨h1, fun h => ?_⟩
    rcases List.mem_cons.mp h with q | q
    · exact (List.nodup_cons.mp e.ynd).1 (q ▸ hy)
    · exact h2 q
  · obtain ⟨σ, s1, s2⟩ := e.rel y (by simp [hy])
    obtain ⟨m, m1, m2⟩ := hr y hy
    refine ⟨σ * τ * dt (J.map col) I / m, ?_, fun j hj => ?_⟩
    · intro z
      have : σ * τ * dt (J.map col) I = 0 := by
        have h2 : σ * τ * dt (J.map col) I / m * m = 0 := by rw [z]; grind
        rw [Rat.div_mul_cancel m1] at h2
        exact h2
      rcases Rat.mul_eq_zero.mp this with r | r
      · rcases Rat.mul_eq_zero.mp r with q | q
        · exact s1 q
        · exact t1 q
      · exact hd r
    · have a := m2 j hj
      have b := stp y j
      rw [Rat.intCast_sub, Rat.intCast_mul, Rat.intCast_mul, s2 j hj, s2 c hc, t2 c hc, t2 j hj] at a
      have : m * ((R' y j : Int) : Rat) = σ * τ * (dt (J.map col) I * brd col (c :: J) (l :: I) y j) := by rw [a, b]; grind
      have k : ((R' y j : Int) : Rat) = (m * ((R' y j : Int) : Rat)) / m := by
        rw [Rat.mul_comm, Rat.mul_div_cancel m1]
      rw [k, this]
      grind
theorem Elm.done {t : Nat → Int} {n g : Nat} {L : Int} {X I J : List Nat} {R : Nat → Nat → Int} (k : KV t n g L) (hX : X.Pairwise (· < ·)) (e : Elm (cl t L g) X (n - g - 1) I J [] R) : I.length = lng (upX t L g X) (n - g - 1) X.length 0 0 := by
  refine rank_elim k hX e.inI e.isI e.inJ (fun j hj => by have := e.isJ j hj; omega) e.hl e.hd fun y hy j hj => ?_
  rcases e.out y hy with h | h
  · simp at h
  · exact h j (by omega)
end DL
namespace DL
def Den (K : Nat) (q : Rat) : Prop := ∃ z : Int, q * ((K : Int) : Rat) = (z : Rat)
theorem Den.add {K : Nat} {p q : Rat} (h : Den K p) (h' : Den K q) : Den K (p + q) := by
  obtain ⟨a, ha⟩ := h
  obtain ⟨b, hb⟩ := h'
  exact ⟨a + b, by rw [Rat.intCast_add, ← ha, ← hb]; grind⟩
theorem Den.mul {K M : Nat} {p q : Rat} (h : Den K p) (h' : Den M q) : Den (K * M) (p * q) := by
  obtain ⟨a, ha⟩ := h
  obtain ⟨b, hb⟩ := h'
  refine ⟨a * b, ?_⟩
  rw [Rat.intCast_mul, ← ha, ← hb, Int.natCast_mul, Rat.intCast_mul]
  grind
theorem Den.zero {K : Nat} : Den K 0 := ⟨0, by rw [Rat.zero_mul]; rfl⟩
theorem Den.int {K : Nat} (x : Int) : Den K (x : Rat) := ⟨x * K, by rw [Rat.intCast_mul]⟩
theorem Den.neg {K : Nat} {q : Rat} (h : Den K q) : Den K (-q) := by
  obtain ⟨a, ha⟩ := h
  exact ⟨-a, by rw [Rat.intCast_neg, ← ha]; grind⟩
theorem Den.eq {K : Nat} {q : Rat} (h : Den K q) (hK : 0 < K) : ∃ z : Int, q = Rat.divInt z K := by
  obtain ⟨z, hz⟩ := h
  refine ⟨z, ?_⟩
  have : (0 : Rat) < ((K : Int) : Rat) := Rat.intCast_pos.mpr (by omega)
  rw [Rat.divInt_eq_div, ← hz, Rat.mul_div_cancel (by grind)]
theorem Den.den {K : Nat} {q : Rat} (h : Den K q) (hK : 0 < K) : q.den ≤ K := by
  obtain ⟨z, rfl⟩ := h.eq hK
  rw [Rat.den_divInt, if_neg (by omega)]
  exact Nat.div_le_self _ _
theorem Den.own (q : Rat) : Den q.den q := ⟨q.num, by
  have h := Rat.num_divInt_den q
  have p : (0 : Rat) < (((q.den : Nat) : Int) : Rat) := Rat.intCast_pos.mpr (by have := q.den_pos; omega)
  have ne : (((q.den : Nat) : Int) : Rat) ≠ 0 := by grind
  rw [Rat.divInt_eq_div] at h
  exact (congrArg (· * (((q.den : Nat) : Int) : Rat)) h.symm).trans (Rat.div_mul_cancel ne)⟩
section
variable (t : Nat → Int) (n : Nat)
def wid (d i : Nat) : Nat := if i + d < n ∧ t i < t (i + d) then (t (i + d) - t i).toNat else 1
def PP (d : Nat) : Nat → Nat
  | 0 => 1
  | i + 1 => PP d i * wid t n d i
def DD : Nat → Nat
  | 0 => 1
  | g + 1 => DD g * PP t n (g + 1) n
end
section
variable {t : Nat → Int} {L : Int} {n : Nat}
def ex (n : Nat) : Nat → Nat
  | 0 => 0
  | g + 1 => ex n g + 20 * (n - (g + 1))
end
end DL
namespace DL
open PySem PySem.Spec L2
open PyProof.Rows hiding St
open TL
abbrev numS (n : Nat) : Str := Str.ofString (toString ((n : Nat) : Int))
def frameW (g : Nat) (ks : List Nat) : List Str := "degree" :: numS g :: "knots" :: ks.map numS
def frameT (g : Nat) (ks : List Nat) : Str := Txt.join " " (frameW g ks)
theorem num_free (n : Nat) : (32 : Nat) ∉ tl (numS n) := by
  rw [tl_num]
  exact numL_free (.inl (by decide))
theorem frame_split {g : Nat} {ks : List Nat} : Txt.split (frameT g ks) " " = frameW g ks := by
  unfold frameT
  refine split_join (y := " ") (s := 32) (S := []) rfl (by decide +kernel) (by unfold frameW; simp) fun p hp => ?_
  unfold frameW at hp
  simp only [List.mem_cons, List.mem_map] at hp
  rcases hp with rfl | rfl | rfl | ⟨k, _, rfl⟩
  · decide
  · exact num_free g
  · decide
  · exact num_free k
theorem num_cps (n : Nat) : (numS n).cps.toList = numL n := tl_num n
theorem num_len {n : Nat} (h : n < 10 ^ 10) : 1 ≤ (numS n).length ∧ (numS n).length ≤ 10 := by
  have e : (numS n).length = (numL n).length := by rw [← num_cps]; exact (Array.length_toList).symm
  rw [e]
  exact ⟨List.length_pos_iff.mpr (numL_ne n), numL_len (by decide) h⟩
theorem num_head : ∀ n : Nat, 0 < n → (numL n).head? ≠ some 48 := by
  intro n
  induction n using Nat.strongRecOn with
  | _ n ih =>
    intro hn
    by_cases h : n < 10
    · rw [numL_lt h]
      intro z
      simp at z
      omega
    · rw [numL_step (by omega)]
      have i := ih (n / 10) (by omega) (by omega)
      have ne := numL_ne (n / 10)
      cases hl : numL (n / 10) with
      | nil => exact absurd hl ne
      | cons c r => rw [hl] at i; simpa using i
theorem num_int {n : Nat} (h : n < 10 ^ 10) : intText? (numS n) = some (n : Int) := int_num (Nat.le_trans (numL_len (by decide) h) (by decide))
theorem num_sign {n c : Nat} (h : c ∈ numL n) : c ∈ ("0123456789" : Str).cps.toList := by
  have d := numL_digits n c h
  have : ∀ c : Nat, 48 ≤ c ∧ c ≤ 57 → c ∈ [48, 49, 50, 51, 52, 53, 54, 55, 56, 57] := fun c h => by
    simp only [List.mem_cons, List.not_mem_nil, or_false]
    omega
  exact this c d
theorem text_len {g : Nat} {ks : List Nat} (hg : g ≤ 10) (hk : ks.length ≤ 100) (hb : ∀ k ∈ ks, k < 10 ^ 10) : (frameT g ks).length ≤ 5000 := by
  have e : (frameT g ks).length = (tl (frameT g ks)).length := by rw [show tl (frameT g ks) = (frameT g ks).cps.toList from rfl]; exact (Array.length_toList).symm
  have gen : ∀ ps : List (List Nat), (∀ p ∈ ps, p.length ≤ 10) → (joinL (tl " ") ps).length ≤ 11 * ps.length := by
    intro ps
    induction ps with
    | nil => intro _; simp [joinL]
    | cons p r ih =>
      intro h
      have h0 := h p (by simp)
      cases r with
      | nil => simp [joinL]; omega
      | cons q r =>
        have := ih fun z hz => h z (by simp [hz])
        simp only [joinL, List.length_append, List.length_cons] at *
        have : (tl " ").length = 1 := rfl
        omega
  rw [e]
  unfold frameT
  rw [join_eq, tl_join]
  refine Nat.le_trans (gen _ fun p hp => ?_) ?_
  · obtain ⟨z, hz, rfl⟩ := List.mem_map.mp hp
    unfold frameW at hz
    simp only [List.mem_cons, List.mem_map] at hz
    rcases hz with rfl | rfl | rfl | ⟨k, hk', rfl⟩
    · decide
    · rw [tl_num]; exact numL_len (by decide) (by omega)
    · decide
    · rw [tl_num]; exact numL_len (by decide) (hb k hk')
  · unfold frameW
    simp
    omega
end DL
namespace K78
open PySem PySem.Spec L2 DL
open PyProof.Rows hiding St
open TL
def frT (g : Nat) (ks : List Int) : Str := frameT g (ks.map Int.toNat)
theorem one_ne {c : Nat} (h : c ≠ 48) : (⟨#[c]⟩ : Str) ≠ (("0" : String) : Str) := fun e => by
  have h1 : (⟨#[c]⟩ : Str).cps.toList = [48] := by rw [e]; rfl
  simp at h1
  exact h h1
theorem okl {n : Nat} (h : n ≤ 100000) : okLen n = true := decide_eq_true h
theorem number_in_ok {n : Nat} (h : n ≤ 1000000) (S : List Cell) : f_p_number_in [.str (numS n), .int 1000000] S = .ok (.int (n : Nat)) S := by
  refine Rs.W.eq ?_
  have ln := num_len (n := n) (by omega)
  have e1 : ∀ S, lenD [.str (numS n)] S = some (.int ((numS n).length : Nat)) := fun S => if_pos (okl (by omega))
  have e2 : ∀ S, toIntS [.str (numS n)] S = some (.int (n : Nat)) := fun S => by
    show (if (numS n).length ≤ 640 then (PySem.intText? (numS n)).map D.int else none) = _
    rw [if_pos (by omega), num_int (by omega)]
    rfl
  have cm : ∀ s2, compL [2] (.nm 2) mYes (mOp (inS false) (mVar 2) (mC (.str "0123456789"))) ((numS n).cps.toList.map fun c => D.str ⟨#[c]⟩) [.val (.str (numS n)), .val (.int 1000000), s2] S = .ok ((numS n).cps.toList.map fun _ => .bl true) S := fun s2 =>
    comp_gm (fun c : Nat => D.str ⟨#[c]⟩) _ _ fun c hc => by
      rw [num_cps] at hc
      have hs := num_sign hc
      have : ∀ S, inS false (.str ⟨#[c]⟩) (.str "0123456789") S = some (.bl true) := fun S => by
        show (if (#[c] : Array Nat).size = 1 then some (D.bl (decide ((#[c] : Array Nat).getD 0 0 ∈ _))) else none) = _
        exact (if_pos rfl).trans (congrArg (fun b => some (D.bl b)) (decide_eq_true hs))
      simp [this]
  have al : ∀ S, allD [.lst ((numS n).cps.toList.map fun _ => .bl true)] S = some (.bl true) := fun S => by
    show (boolsOf ((numS n).cps.toList.map fun _ => D.bl true)).map _ = _
    rw [show ((numS n).cps.toList.map fun _ => D.bl true) = ((numS n).cps.toList.map fun _ => true).map D.bl by rw [List.map_map]; rfl, boolsOf_map]
    simp
  have ix : ∃ c, (∀ S, ixD (.str (numS n)) (.int 0) S = some (.str ⟨#[c]⟩)) ∧ (0 < n → c ≠ 48) := by
    have nc := num_cps n
    have hd := num_head n
    cases hl : numL n with
    | nil => exact absurd hl (TL.numL_ne n)
    | cons c r =>
      rw [hl] at nc hd
      refine ⟨c, fun S => ?_, fun h e => hd h (by rw [e]; rfl)⟩
      show (if okLen (numS n).length then (L2.atI (numS n).cps.toList 0).map fun c => D.str ⟨#[c]⟩ else none) = _
      rw [if_pos (okl (by omega)), nc]
      show Option.map _ (L2.atI (c :: r) ((0 : Nat) : Int)) = _
      rw [at_nat (by simp)]
      rfl
  obtain ⟨c, ix, hc⟩ := ix
  have lsz : (numS n).cps.size ≤ 100000 := Nat.le_trans (show (numS n).cps.size ≤ 10 from ln.2) (by decide)
  have l1 : (1 : Int) ≤ ((numS n).length : Nat) := by omega
  have l2 : (((numS n).length : Nat) : Int) ≤ 60 := by omega
  have le : (n : Int) ≤ 1000000 := by omega
  by_cases hn : 0 < n
  · have q : ∀ S, eqD (.str ⟨#[c]⟩) (.str "0") S = some (.bl false) := fun S => by
      show (some (decide ((⟨#[c]⟩ : Str) = (("0" : String) : Str)))).map D.bl = _
      rw [decide_eq_false (one_ne (hc hn))]
      rfl
    generalize numS n = z at *
    simp [f_p_number_in, m_p_number_in, e1, e2, cm, al, ix, l1, l2, le, lsz, q]
  · have q : ∀ S, neD (.str (numS n)) (.str "0") S = some (.bl false) := fun S => by
      obtain rfl : n = 0 := by omega
      rfl
    have qq : ∃ b, ∀ S, eqD (.str ⟨#[c]⟩) (.str "0") S = some (.bl b) := ⟨_, fun S => rfl⟩
    obtain ⟨b, qq⟩ := qq
    generalize numS n = z at *
    cases b <;> simp [f_p_number_in, m_p_number_in, e1, e2, cm, al, ix, l1, l2, le, lsz, q, qq]
theorem frm_nat {g : Nat} {ks : List Int} (f : Frm g ks) : ks.map D.int = (ks.map Int.toNat).map (fun n : Nat => D.int (n : Int)) := by
  rw [List.map_map]
  refine List.map_congr_left fun k hk => ?_
  obtain ⟨i, hi, rfl⟩ := List.getElem_of_mem hk
  have := f.nn i hi
  rw [kt_get hi] at this
  show D.int _ = D.int (Int.toNat _ : Nat)
  rw [Int.toNat_of_nonneg this]
theorem frm_small {g : Nat} {ks : List Int} (f : Frm g ks) {n : Nat} (h : n ∈ ks.map Int.toNat) : n ≤ 1000000 := by
  obtain ⟨k, hk, rfl⟩ := List.mem_map.mp h
  obtain ⟨i, hi, rfl⟩ := List.getElem_of_mem hk
  have := f.ub i hi
  rw [kt_get hi] at this
  omega
theorem none_in (ns : List Nat) (S : List Cell) : inD false .non (.lst (ns.map fun n : Nat => D.int (n : Int))) S = some (.bl false) := by
  have h1 : (ns.map fun n : Nat => D.int (n : Int)).all flatD = true := by
    rw [List.all_eq_true]
    intro x hx
    obtain ⟨n, _, rfl⟩ := List.mem_map.mp hx
    rfl
  have h2 : inFl .non (ns.map fun n : Nat => D.int (n : Int)) = false := by
    unfold inFl
    rw [List.any_eq_false]
    intro x hx
    obtain ⟨n, _, rfl⟩ := List.mem_map.mp hx
    exact fun h => nomatch h
  show (if flatD .non && (ns.map fun n : Nat => D.int (n : Int)).all flatD then some (D.bl (if false then _ else inFl .non _)) else none) = _
  rw [h1, h2]
  rfl
theorem read_ok {g : Nat} {ks : List Int} (f : Frm g ks) (S : List Cell) : f_c_Frame_read [.cls "Frame", .str (frT g ks)] S = .ok (frameD g ks) (S ++ [.dead]) := by
  refine Rs.W.eq ?_
  have hg := f.hg
  have lo := f.lo
  have hi := f.hi
  have hs : ∀ n ∈ ks.map Int.toNat, n ≤ 1000000 := fun n h => frm_small f h
  have fg := fault_good f
  have md := made_ok f S
  rw [frm_nat f] at fg md
  have hl : (ks.map Int.toNat).length = ks.length := List.length_map ..
  have is : ∀ S, isAD tabT [.str (frT g ks), .ty "str"] S = some (.bl true) := fun S => rfl
  have sp : ∀ S, splitD (.str (frT g ks)) (.str " ") S = some (.lst ((frameW g (ks.map Int.toNat)).map .str)) := fun S => by
    have tl := text_len (g := g) (ks := ks.map Int.toNat) (by omega) (by omega) (fun k hk => by have := hs k hk; omega)
    refine (if_pos ⟨rfl, Nat.le_trans tl (by decide)⟩).trans ?_
    rw [show frT g ks = frameT g (ks.map Int.toNat) from rfl, frame_split]
  generalize frT g ks = T at *
  generalize ks.map Int.toNat = ns at *
  have ew : (frameW g ns).map D.str = .str "degree" :: .str (numS g) :: .str "knots" :: ns.map (fun n => D.str (numS n)) := by
    unfold frameW
    simp only [List.map_cons, List.map_map]
    rfl
  rw [ew] at sp
  have cs : sliceD (.lst (.str "degree" :: .str (numS g) :: .str "knots" :: ns.map (fun n => D.str (numS n)))) (some 3) none = some (.lst (ns.map (fun n => D.str (numS n)))) := by
    show some (D.lst (cutD _ _ _)) = _
    rw [cut_from (by decide)]
    rfl
  have cm : ∀ e, compL [4] (.nm 4) mYes (mFn 2 f_p_number_in (mCons (mVar 4) (mCons (mC (.int 1000000)) mNil))) (D.str (numS g) :: ns.map (fun n => D.str (numS n))) [.val (.cls "Frame"), .val (.str T), .val (.lst (.str "degree" :: .str (numS g) :: .str "knots" :: ns.map (fun n => D.str (numS n)))), .un, e] S = .ok ((g :: ns).map fun n : Nat => .int (n : Int)) S := fun e => by
    rw [show (D.str (numS g) :: ns.map (fun n => D.str (numS n))) = (g :: ns).map (fun n => D.str (numS n)) from rfl]
    refine comp_gm (fun n : Nat => D.str (numS n)) _ _ fun n hn => ?_
    have : n ≤ 1000000 := by
      rcases List.mem_cons.mp hn with rfl | h
      · omega
      · exact hs n h
    simp [number_in_ok this]
  have ni := none_in (g :: ns)
  have c2 : sliceD (.lst ((g :: ns).map fun n : Nat => D.int (n : Int))) (some 1) none = some (.lst (ns.map fun n : Nat => D.int (n : Int))) := by
    show some (D.lst (cutD _ _ _)) = _
    rw [cut_from (by decide)]
    rfl
  have n4 : ¬ ((ns.length : Nat) : Int) + 1 + 1 + 1 < 4 := by omega
  have g4 : ¬ (4 : Int) < (g : Nat) := by omega
  have x0 : ∀ S, ixD (.lst ((g :: ns).map fun n : Nat => D.int (n : Int))) (.int 0) S = some (.int (g : Nat)) := fun S => by
    show L2.atI ((g :: ns).map fun n : Nat => D.int (n : Int)) ((0 : Nat) : Int) = _
    rw [at_nat (by simp)]
    rfl
  have hd : ∀ S, neD (.lst [.str "degree", .str "knots"]) (.ro [.str "degree", .str "knots"]) S = some (.bl false) := fun S => by
    have e : eqA (.lst [.str "degree", .str "knots"]) (.ro [.str "degree", .str "knots"]) = some true := by decide +kernel
    show (eqA _ _).map _ = _
    rw [e]
    rfl
  generalize (g :: ns).map (fun n : Nat => D.int (n : Int)) = zs at *
  generalize ns.map (fun n : Nat => D.int (n : Int)) = zs' at *
  generalize hws : ns.map (fun n => D.str (numS n)) = ws at *
  have lw : ws.length = ns.length := by rw [← hws, List.length_map]
  have l9 : ns.length ≤ 99999 := by omega
  have l8 : ns.length ≤ 100000 := by omega
  simp [f_c_Frame_read, m_c_Frame_read, is, sp, lw, l8, l9, n4, hd, cs, cm, ni, x0, g4, c2, fg, md]
theorem frame_in_ok {g : Nat} {ks : List Int} (f : Frm g ks) (S : List Cell) : f_p_frame_in [.str (frT g ks)] S = .ok (frameD g ks) (S ++ [.dead]) := by
  refine Rs.W.eq ?_
  simp [f_p_frame_in, m_p_frame_in, read_ok f]
theorem str_ok {n : Nat} (h : n ≤ 1000000) (S : List Cell) : strD [.int (n : Nat)] S = some (.str (numS n)) := by
  refine if_pos ?_
  rw [Int.natAbs_natCast]
  exact log2_lt (Nat.lt_of_le_of_lt h (Nat.lt_of_lt_of_le (by decide : 1000000 < 2 ^ 20) (Nat.pow_le_pow_right (by decide) (by decide)))) (by decide)
end K78
namespace K78
open PySem PySem.Spec L2 DL
open PyProof.Rows hiding St
structure Bq where
  w : Str
  g' : Nat
  ks : List Int
  t : Str
  g : D
  m : D
  p : D
def tentT : Str := "degree 1 knots 0 2 4 6"
def bowlT : Str := "degree 2 knots 0 0 0 4 4 4"
def pr (a b : Int) : D := .tup [.int a, .int b]
def bankQ : List Bq := [
  ⟨"through", 1, [0, 2, 4, 6], tentT, pr 1 5, pr 3 1, .tup [pr 6 1, pr 2 1]⟩,
  ⟨"never", 1, [0, 2, 4, 6], tentT, pr 1 2, pr 1 1, pr 2 (-1)⟩,
  ⟨"through", 2, [0, 0, 0, 4, 4, 4], bowlT, .tup [.int 2], .tup [.int 0], .tup [pr 0 1, pr 0 1, pr 0 1]⟩,
  ⟨"never", 1, [0, 2, 4, 6], tentT, pr 6 7, pr 0 (-1), pr 5 1⟩,
  ⟨"rank", 1, [0, 2, 4, 6], tentT, pr 1 5, .int 2, .tup [pr 0 0, pr 1 1]⟩,
  ⟨"rank", 1, [0, 2, 4, 6], tentT, .tup [.int 3], .int 0, .tup []⟩,
  ⟨"rank", 2, [0, 0, 0, 4, 4, 4], bowlT, .tup [.int 0, .int 1, .int 4], .int 3, .tup [pr 0 0, pr 1 1, pr 2 2]⟩,
  ⟨"below", 1, [0, 2, 4, 6], tentT, pr 1 2, .int 1, .tup [pr 2 (-1)]⟩,
  ⟨"below", 1, [0, 2, 4, 6], tentT, pr 1 5, .int 2, .tup []⟩,
  ⟨"below", 1, [0, 2, 4, 6], tentT, pr 6 7, .int 0, .tup [pr 1 0, pr 0 1]⟩,
  ⟨"turns", 2, [0, 0, 0, 4, 4, 4], bowlT, .tup [pr 1 1, pr (-2) 1, pr 1 1], .int 3, .tup [pr 0 1, pr 2 1, pr 4 1]⟩,
  ⟨"turns", 1, [0, 2, 4, 6], tentT, .tup [pr 0 1, pr 0 1], .int 0, .tup []⟩]
def said (q : Bq) : D := .tup [.str q.w, .str q.t, q.g, q.m]
def fdQ (q : Bq) : D := frameD q.g' q.ks
def bankD : D := .lst (bankQ.map fun q => .lst [said q, q.p])
theorem bank_ok (S : List Cell) : f_l_bank [] S = .ok bankD S := by kernel_rfl
def listB (r : Rs D) : List D := match r with
  | .ok (.lst xs) _ => xs
  | _ => []
def thirdsQ (q : Bq) : List D := listB (f_l_thirds [.str q.w, q.g] [])
def fourthsQ (q : Bq) : List D := listB (f_l_fourths [.str q.w, q.m] [])
def wordsL : List D := listB (f_l_words [] [])
theorem words_ok (S : List Cell) : f_l_words [] S = .ok (.lst wordsL) S := by kernel_rfl
theorem thirds_all (S : List Cell) : (bankQ.map fun q => f_l_thirds [.str q.w, q.g] S) = bankQ.map fun q => .ok (.lst (thirdsQ q)) S := by kernel_rfl
theorem fourths_all (S : List Cell) : (bankQ.map fun q => f_l_fourths [.str q.w, q.m] S) = bankQ.map fun q => .ok (.lst (fourthsQ q)) S := by kernel_rfl
theorem thirds_ok {q : Bq} (hq : q ∈ bankQ) (S : List Cell) : f_l_thirds [.str q.w, q.g] S = .ok (.lst (thirdsQ q)) S := List.map_inj_left.mp (thirds_all S) q hq
theorem fourths_ok {q : Bq} (hq : q ∈ bankQ) (S : List Cell) : f_l_fourths [.str q.w, q.m] S = .ok (.lst (fourthsQ q)) S := List.map_inj_left.mp (fourths_all S) q hq
def repS50 : Str := "66666666666666666666666666666666666666666666666666"
def textsL (t : Str) (fd : D) : List D := [.str (t ++ " "), .str (" " ++ t), .str (Txt.replace t " " "  "), .str (Txt.replace t "degree" "Degree"), .str (t ++ " 1"), .str (t ++ " 06"),
  .str "", .str "degree", .str "degree 1 knots", .str "degree 1 knots 0 2", .str "degree 5 knots 0 1 2 3 4 5 6", .non, .int 0,
  .str "degree 1 knots 0 0 0", .str "degree 1 knots 0 1000001 1000002", .str "degree 0 knots -1 1", .str (t ++ "."), .dct [] [],
  .str "degree 0 knots 0 1 2 3 4 5 6 7 8 9 10 11", .str "degree 1, knots 0 2 4 6", .str "knots 0 2 4 6", .lst [.str t],
  fd, .tup [.str t], .str ("degree 1 knots 0 2 4 0" ++ repS50), .str (t ++ "\n"), .bl true, .str "degree 01 knots 0 1 2"]
def strB : D → Bool
  | .str _ => true
  | _ => false
def oddsA (q : Bq) : List D := ((wordsL.filter fun x => !strB x).map fun x => .tup [x, .str q.t, q.g, q.m]) ++ ((textsL q.t (fdQ q)).map fun x => .tup [.str q.w, x, q.g, q.m]) ++
  [.tup [.str q.w, .str q.t, q.g], .tup [.str q.w, .str q.t, q.g, q.m, .int 0], .lst [.str q.w, .str q.t, q.g, q.m], .tup [said q], .tup [.str q.t, q.g, q.m], .non, .str q.w, .int 0, .dct [] [], .tup [.str q.w, .str q.t, q.g, q.m, .tup []], .tup []]
def oddsB (q : Bq) : List (D × D × D) := ((wordsL.filter strB).map fun x => (x, q.g, q.m)) ++ ((thirdsQ q).map fun x => (.str q.w, x, q.m)) ++ ((fourthsQ q).map fun x => (.str q.w, q.g, x))
def tB (q : Bq) (c : D × D × D) : D := .tup [c.1, .str q.t, c.2.1, c.2.2]
def mRest : Sm := (mSeq (mIfS (mB (mOp (isN false) (mVar 6) (mC .non))) (mRet (mC (.bl false))) mSkip)
  (mSeq (mIfS (mB (mOp eqD (mVar 2) (mC (.str "turns")))) (mRet (mFn 4 f_p_shows_turns (mCons (mVar 6) (mCons (mVar 4) (mCons (mVar 5) (mCons (mVar 1) mNil)))))) mSkip)
  (mSeq (mIfS (mB (mOp neD (mFn 1 f_p_places_fault (mCons (mVar 4) mNil)) (mUn negD (mC (.int 1))))) (mRet (mC (.bl false))) mSkip)
  (mSeq (mIfS (mOr (mB (mOp eqD (mVar 2) (mC (.str "rank")))) (mB (mOp eqD (mVar 2) (mC (.str "below"))))) (mSeq (mIfS (mNot (mB (mFn 1 f_p_is_count (mCons (mVar 5) mNil)))) (mRet (mC (.bl false))) mSkip)
  (mRet (mIf (mB (mOp eqD (mVar 2) (mC (.str "rank")))) (mFn 4 f_p_shows_rank (mCons (mVar 6) (mCons (mVar 4) (mCons (mVar 5) (mCons (mVar 1) mNil))))) (mFn 4 f_p_shows_below (mCons (mVar 6) (mCons (mVar 4) (mCons (mVar 5) (mCons (mVar 1) mNil)))))))) mSkip)
  (mSeq (mIfS (mOr (mB (mOp (inD true) (mVar 2) (mTup (mCons (mC (.str "through")) (mCons (mC (.str "never")) mNil))))) (mB (mOp neD (mFn 2 f_p_heights_fault (mCons (mVar 5) (mCons (mCall lenD (mCons (mVar 4) mNil)) mNil))) (mUn negD (mC (.int 1)))))) (mRet (mC (.bl false))) mSkip)
  (mRet (mIf (mB (mOp eqD (mVar 2) (mC (.str "through")))) (mFn 4 f_p_shows_through (mCons (mVar 6) (mCons (mVar 4) (mCons (mVar 5) (mCons (mVar 1) mNil))))) (mFn 4 f_p_shows_never (mCons (mVar 6) (mCons (mVar 4) (mCons (mVar 5) (mCons (mVar 1) mNil))))))))))))
theorem accA_all (S : List Cell) : (bankQ.map fun q => (oddsA q).map fun d => f_p_accepts [d, q.p] S) = bankQ.map fun q => (oddsA q).map fun _ => .ok (.bl false) S := by kernel_rfl
theorem accB_all (S : List Cell) : (bankQ.map fun q => (oddsB q).map fun c => mRest [.val (tB q c), .val q.p, .val c.1, .val (.str q.t), .val c.2.1, .val c.2.2, .val (fdQ q)] S) = bankQ.map fun q => (oddsB q).map fun _ => .rt (.bl false) S := by kernel_rfl
theorem accT_all (S : List Cell) : (bankQ.map fun q => mRest [.val (said q), .val q.p, .val (.str q.w), .val (.str q.t), .val q.g, .val q.m, .val (fdQ q)] S) = bankQ.map fun q => .rt (.bl true) S := by kernel_rfl
end K78
namespace K78
open PySem PySem.Spec L2 DL
open PyProof.Rows hiding St
def Ka (S S' : List Cell) : Prop := S.length ≤ S'.length ∧ ∀ k, k < S.length → S'[k]? = S[k]?
theorem Ka.refl {S : List Cell} : Ka S S := ⟨Nat.le_refl _, fun _ _ => rfl⟩
theorem Ka.trans {S S1 S2 : List Cell} (a : Ka S S1) (b : Ka S1 S2) : Ka S S2 := ⟨Nat.le_trans a.1 b.1, fun k h => (b.2 k (Nat.lt_of_lt_of_le h a.1)).trans (a.2 k h)⟩
theorem Ka.app {S T : List Cell} : Ka S (S ++ T) := ⟨by simp, fun k h => List.getElem?_append_left h⟩
theorem Ka.kp {n : Nat} {S S' : List Cell} (a : Ka S S') : Kp n S S' := ⟨a.1, fun k _ h => a.2 k h⟩
def frB (g : Nat) (ks : List Int) : Bool := decide (g ≤ 4) && decide (g + 2 ≤ ks.length) && decide (ks.length ≤ g + 11) && ((List.range ks.length).all fun j => (List.range (j + 1)).all fun i => decide (kt ks i ≤ kt ks j)) &&
  ((List.range ks.length).all fun i => !decide (i + g + 1 < ks.length) || decide (kt ks i < kt ks (i + g + 1))) && ((List.range ks.length).all fun i => decide (0 ≤ kt ks i ∧ kt ks i ≤ 1000000))
theorem frm_dec {g : Nat} {ks : List Int} (h : frB g ks = true) : Frm g ks := by
  unfold frB at h
  simp only [Bool.and_eq_true, decide_eq_true_eq, List.all_eq_true, List.mem_range, Bool.or_eq_true, Bool.not_eq_true'] at h
  obtain ⟨⟨⟨⟨⟨h1, h2⟩, h3⟩, h4⟩, h5⟩, h6⟩ := h
  refine ⟨h1, h2, h3, fun i j hij hj => h4 j hj i (by omega), fun i hi => ?_, fun i hi => (h6 i hi).1, fun i hi => (h6 i hi).2⟩
  rcases h5 i (by omega) with h | h
  · exact ((decide_eq_false_iff_not.mp h) hi).elim
  · exact h
theorem q_all : ∀ q ∈ bankQ, frB q.g' q.ks = true ∧ q.t = frT q.g' q.ks ∧ q.t.length ≤ 100 := by
  have h : bankQ.all (fun q => frB q.g' q.ks && decide (q.t = frT q.g' q.ks) && decide (q.t.length ≤ 100)) = true := by decide +kernel
  intro q hq
  have := List.all_eq_true.mp h q hq
  simp only [Bool.and_eq_true, decide_eq_true_eq] at this
  exact ⟨this.1.1, this.1.2, this.2⟩
theorem rd_q {q : Bq} (hq : q ∈ bankQ) (S : List Cell) : f_c_Frame_read [.cls "Frame", .str q.t] S = .ok (fdQ q) (S ++ [.dead]) := by
  obtain ⟨h1, h2, -⟩ := q_all q hq
  rw [h2]
  exact read_ok (frm_dec h1) S
theorem fi_q {q : Bq} (hq : q ∈ bankQ) (S : List Cell) : f_p_frame_in [.str q.t] S = .ok (fdQ q) (S ++ [.dead]) := by
  obtain ⟨h1, h2, -⟩ := q_all q hq
  rw [h2]
  exact frame_in_ok (frm_dec h1) S
theorem add_str {a b : Str} (h : a.length + b.length ≤ 100000) (S : List Cell) : addD (.str a) (.str b) S = some (.str (a ++ b)) := if_pos (okl h)
theorem texts_ok {q : Bq} (hq : q ∈ bankQ) (S : List Cell) : f_l_texts [.str q.t] S = .ok (.lst (textsL q.t (fdQ q))) (S ++ [.dead]) := by
  have rd := fun S => rd_q hq S
  obtain ⟨-, -, l⟩ := q_all q hq
  generalize fdQ q = fd at *
  generalize q.t = t at *
  have a1 : ∀ x : Str, x.length ≤ 1000 → ∀ S, addD (.str t) (.str x) S = some (.str (t ++ x)) := fun x hx S => add_str (by omega) S
  have l1 : (" " : Str).length = 1 := by decide +kernel
  have a2 : ∀ S, addD (.str " ") (.str t) S = some (.str (" " ++ t)) := fun S => add_str (by omega) S
  have b1 := a1 " " (by decide +kernel)
  have b2 := a1 " 1" (by decide +kernel)
  have b3 := a1 " 06" (by decide +kernel)
  have b4 := a1 "." (by decide +kernel)
  have b5 := a1 "\n" (by decide +kernel)
  have l2 : ("  " : Str).length = 2 := by decide +kernel
  have l6 : ("Degree" : Str).length = 6 := by decide +kernel
  have c1 : t.length + (t.length + 1) * 2 ≤ 100000 := by omega
  have c2 : t.length + (t.length + 1) * 6 ≤ 100000 := by omega
  have m6 : ∀ S, mulS (.str "6") (.int 50) S = some (.str repS50) := fun S => by kernel_rfl
  have a6 : ∀ S, addD (.str "degree 1 knots 0 2 4 0") (.str repS50) S = some (.str ("degree 1 knots 0 2 4 0" ++ repS50)) := fun S => by kernel_rfl
  have al : ∀ (xs ys : List D), xs.length + ys.length ≤ 100000 → ∀ S, addD (.lst xs) (.lst ys) S = some (.lst (xs ++ ys)) := fun xs ys h S => if_pos (decide_eq_true h)
  unfold textsL
  refine Rs.W.eq ?_
  simp [f_l_texts, m_l_texts, al, a2, b1, b2, b3, b4, b5, l2, l6, c1, c2, m6, a6, rd]
theorem acc_run {a t : Str} {g m fd p : D} (hf : ∀ S, f_p_frame_in [.str t] S = .ok fd (S ++ [.dead])) {b : Bool} (hr : ∀ S, mRest [.val (.tup [.str a, .str t, g, m]), .val p, .val (.str a), .val (.str t), .val g, .val m, .val fd] S = .rt (.bl b) S) (S : List Cell) :
    f_p_accepts [.tup [.str a, .str t, g, m], p] S = .ok (.bl b) (S ++ [.dead]) := by
  refine Rs.W.eq ?_
  have hr : ∀ S, @Fl.V (mRest [.val (.tup [.str a, .str t, g, m]), .val p, .val (.str a), .val (.str t), .val g, .val m, .val fd] S) = @Fl.V (.rt (.bl b) S) := fun S => by rw [hr]
  have is1 : ∀ S, isAD tabT [.tup [.str a, .str t, g, m], .ty "tuple"] S = some (.bl true) := fun S => nr rfl
  have is2 : ∀ S, isAD tabT [.str a, .ty "str"] S = some (.bl true) := fun S => nr rfl
  unfold f_p_accepts
  generalize hT : mRest = tl at *
  have e : m_p_accepts = (mSeq (mIfS (mOr (mNot (mB (mCall (isAD tabT) (mCons (mVar 0) (mCons (mC (.ty "tuple")) mNil))))) (mOr (mB (mOp neD (mCall lenD (mCons (mVar 0) mNil)) (mC (.int 4)))) (mNot (mB (mCall (isAD tabT) (mCons (mOp ixD (mVar 0) (mC (.int 0))) (mCons (mC (.ty "str")) mNil))))))) (mRet (mC (.bl false))) mSkip)
    (mSeq (mUnp (.tp [(.nm 2), (.nm 3), (.nm 4), (.nm 5)]) (mVar 0))
    (mSeq (mSet 6 (mFn 1 f_p_frame_in (mCons (mVar 3) mNil))) tl))) := by rw [← hT]; rfl
  rw [e]
  simp [hf, hr, is1, is2]
theorem oddsB_str : ∀ q ∈ bankQ, ∀ c ∈ oddsB q, ∃ a, c.1 = .str a := by
  have h : bankQ.all (fun q => (oddsB q).all fun c => strB c.1) = true := by decide +kernel
  intro q hq c hc
  have := List.all_eq_true.mp (List.all_eq_true.mp h q hq) c hc
  cases e : c.1 <;> rw [e] at this <;> first | exact ⟨_, rfl⟩ | cases this
def Odd (q : Bq) (d : D) : Prop := d ∈ oddsA q ∨ ∃ c, c ∈ oddsB q ∧ d = tB q c
theorem acc_no {q : Bq} (hq : q ∈ bankQ) {d : D} (h : Odd q d) (S : List Cell) : ∃ S', f_p_accepts [d, q.p] S = .ok (.bl false) S' ∧ Ka S S' := by
  rcases h with h | ⟨c, hc, rfl⟩
  · exact ⟨S, List.map_inj_left.mp (List.map_inj_left.mp (accA_all S) q hq) d h, Ka.refl⟩
  · obtain ⟨a, ha⟩ := oddsB_str q hq c hc
    have hr := fun S => List.map_inj_left.mp (List.map_inj_left.mp (accB_all S) q hq) c hc
    unfold tB at hr ⊢
    rw [ha] at hr ⊢
    exact ⟨_, acc_run (fun S => fi_q hq S) hr S, Ka.app⟩
theorem acc_yes {q : Bq} (hq : q ∈ bankQ) (S : List Cell) : f_p_accepts [said q, q.p] S = .ok (.bl true) (S ++ [.dead]) :=
  acc_run (a := q.w) (fun S => fi_q hq S) (fun S => List.map_inj_left.mp (accT_all S) q hq) S
theorem lens_all : ∀ q ∈ bankQ, (0 < (thirdsQ q).length ∧ (thirdsQ q).length < 1000000) ∧ 0 < (fourthsQ q).length ∧ (fourthsQ q).length < 1000000 := by
  have h : bankQ.all (fun q => decide (0 < (thirdsQ q).length ∧ (thirdsQ q).length < 1000000) && decide (0 < (fourthsQ q).length ∧ (fourthsQ q).length < 1000000)) = true := by decide +kernel
  intro q hq
  have := List.all_eq_true.mp h q hq
  simp only [Bool.and_eq_true, decide_eq_true_eq] at this
  exact this
theorem one_l {S : List Cell} {n : Nat} {xs : List D} (w : WellAt S n) (h1 : 0 < xs.length) (h2 : xs.length < 1000000) : (f_l_one [.cell n, .lst xs] S).W (fun d S' => d ∈ xs ∧ WellAt S' n ∧ Kp n S S') XN := one_ok false w h1 h2
theorem none_ok {q : Bq} (hq : q ∈ bankQ) {S : List Cell} {n : Nat} (w : WellAt S n) : (f_l_none [.cell n, said q] S).W (fun d S' => Odd q d ∧ WellAt S' n ∧ Kp n S S') XN := by
  have wd := words_ok
  have tx := fun S => texts_ok hq S
  have th := fun S => thirds_ok hq S
  have fo := fun S => fourths_ok hq S
  obtain ⟨⟨t1, t2⟩, f1, f2⟩ := lens_all q hq
  have wl : 0 < wordsL.length ∧ wordsL.length < 1000000 := by decide +kernel
  have i0 : ∀ S, ixD (said q) (.int 0) S = some (.str q.w) := fun _ => rfl
  have i1 : ∀ S, ixD (said q) (.int 1) S = some (.str q.t) := fun _ => rfl
  have i2 : ∀ S, ixD (said q) (.int 2) S = some q.g := fun _ => rfl
  have i3 : ∀ S, ixD (said q) (.int 3) S = some q.m := fun _ => rfl
  have s1 : sliceD (said q) (some 1) none = some (.tup [.str q.t, q.g, q.m]) := rfl
  have s2 : sliceD (said q) none (some 1) = some (.tup [.str q.w]) := rfl
  have s3 : sliceD (said q) (some 2) none = some (.tup [q.g, q.m]) := rfl
  have s4 : sliceD (said q) none (some 2) = some (.tup [.str q.w, .str q.t]) := rfl
  have s5 : sliceD (said q) (some 3) none = some (.tup [q.m]) := rfl
  have s6 : sliceD (said q) none (some 3) = some (.tup [.str q.w, .str q.t, q.g]) := rfl
  have ad : ∀ (xs ys : List D), xs.length + ys.length ≤ 100000 → ∀ S, addD (.tup xs) (.tup ys) S = some (.tup (xs ++ ys)) := fun xs ys h S => if_pos (decide_eq_true h)
  have sd : ∀ S, addD (said q) (.tup [.int 0]) S = some (.tup [.str q.w, .str q.t, q.g, q.m, .int 0]) := fun _ => rfl
  have se : ∀ S, addD (said q) (.tup [.tup []]) S = some (.tup [.str q.w, .str q.t, q.g, q.m, .tup []]) := fun _ => rfl
  have sl : ∀ S, listD [said q] S = some (.lst [.str q.w, .str q.t, q.g, q.m]) := fun _ => rfl
  have A1 : ∀ x ∈ wordsL, Odd q (.tup [x, .str q.t, q.g, q.m]) := fun x hx => by
    by_cases hs : strB x = true
    · refine .inr ⟨(x, q.g, q.m), ?_, rfl⟩
      unfold oddsB
      exact List.mem_append_left _ (List.mem_append_left _ (List.mem_map.mpr ⟨x, List.mem_filter.mpr ⟨hx, hs⟩, rfl⟩))
    · refine .inl ?_
      unfold oddsA
      exact List.mem_append_left _ (List.mem_append_left _ (List.mem_map.mpr ⟨x, List.mem_filter.mpr ⟨hx, by simpa using hs⟩, rfl⟩))
  have A2 : ∀ x ∈ textsL q.t (fdQ q), Odd q (.tup [.str q.w, x, q.g, q.m]) := fun x hx => .inl (by
    unfold oddsA
    exact List.mem_append_left _ (List.mem_append_right _ (List.mem_map.mpr ⟨x, hx, rfl⟩)))
  have A3 : ∀ x ∈ thirdsQ q, Odd q (.tup [.str q.w, .str q.t, x, q.m]) := fun x hx => .inr ⟨(.str q.w, x, q.m), by
    unfold oddsB
    exact List.mem_append_left _ (List.mem_append_right _ (List.mem_map.mpr ⟨x, hx, rfl⟩)), rfl⟩
  have A4 : ∀ x ∈ fourthsQ q, Odd q (.tup [.str q.w, .str q.t, q.g, x]) := fun x hx => .inr ⟨(.str q.w, q.g, x), by
    unfold oddsB
    exact List.mem_append_right _ (List.mem_map.mpr ⟨x, hx, rfl⟩), rfl⟩
  have A5 : ∀ d ∈ ([.tup [.str q.w, .str q.t, q.g], .tup [.str q.w, .str q.t, q.g, q.m, .int 0], .lst [.str q.w, .str q.t, q.g, q.m], .tup [said q], .tup [.str q.t, q.g, q.m], .non, .str q.w, .int 0, .dct [] [], .tup [.str q.w, .str q.t, q.g, q.m, .tup []], .tup []] : List D), Odd q d := fun d hd => .inl (by
    unfold oddsA
    exact List.mem_append_right _ hd)
  have tl : 0 < (textsL q.t (fdQ q)).length ∧ (textsL q.t (fdQ q)).length < 1000000 := by unfold textsL; simp
  generalize textsL q.t (fdQ q) = TX at *
  generalize thirdsQ q = TH at *
  generalize fourthsQ q = FO at *
  generalize wordsL = WL at *
  generalize said q = sq at *
  simp [f_l_none, m_l_none]
  refine (draw_ok w (top := 5) (by decide) (by decide)).on ?_
  rintro _ S1 ⟨i, rfl, i00, i5, w1, k1⟩
  have hi : i = 0 ∨ i = 1 ∨ i = 2 ∨ i = 3 ∨ i = 4 := by omega
  rcases hi with rfl | rfl | rfl | rfl | rfl
  · simp [wd]
    refine (one_l w1 wl.1 wl.2).on ?_
    rintro x S2 ⟨hx, w2, k2⟩
    simp [s1, ad]
    exact ⟨A1 x hx, w2, k1.trans k2⟩
  · simp [i1, tx, s2, s3]
    refine (one_l (w1.app (T := [.dead])) tl.1 tl.2).on ?_
    rintro x S2 ⟨hx, w2, k2⟩
    simp [s2, s3, ad]
    exact ⟨A2 x hx, w2, k1.trans (Kp.trans (Ka.kp Ka.app) k2)⟩
  · simp [i0, i2, th, s4, s5]
    refine (one_l w1 t1 t2).on ?_
    rintro x S2 ⟨hx, w2, k2⟩
    simp [s4, s5, ad]
    exact ⟨A3 x hx, w2, k1.trans k2⟩
  · simp [i0, i3, fo, s6]
    refine (one_l w1 f1 f2).on ?_
    rintro x S2 ⟨hx, w2, k2⟩
    simp [s6, ad]
    exact ⟨A4 x hx, w2, k1.trans k2⟩
  · simp [s6, sd, sl, s1, i0, se]
    refine (one_l w1 (by simp) (by simp)).on ?_
    rintro x S2 ⟨hx, w2, k2⟩
    exact ⟨A5 x hx, w2, k1.trans k2⟩
end K78
namespace K78
open PySem PySem.Spec L2 DL
open PyProof.Rows hiding St
theorem told_shown : ∃ z, ∀ S, reprD [.lst [.bl false, .bl false, .bl true]] S = some (.str z) := ⟨(match reprD [.lst [.bl false, .bl false, .bl true]] [] with | some (.str z) => z | _ => ""), fun S => by kernel_rfl⟩
theorem into {i : Nat} {d : D} {env : List Sl} {f : List Sl → Fl} {P : PF} (h : @Fl.V (f (env.set i (.val d))) P) : @Fl.V (inF (.nm i) d env f) P := by
  rw [inF_nm]
  exact h
theorem bank_mem {d : D} (h : d ∈ bankQ.map fun q => D.lst [said q, q.p]) : ∃ q, q ∈ bankQ ∧ d = .lst [said q, q.p] := by
  obtain ⟨q, hq, rfl⟩ := List.mem_map.mp h
  exact ⟨q, hq, rfl⟩
theorem right_ok {S : List Cell} {n : Nat} (w : WellAt S n) : (f_l_right [.cell n] S).W (fun d _ => d = .bl true) XN := by
  have bk := bank_ok
  have r10 : ∀ S, range1D [.int 10] S = .ok ((List.range 10).map fun k : Nat => .int (k : Nat)) S := fun S => range1_int (by decide) (by decide) S
  have it : ∀ S, itemsOf bankD S = .ok (bankQ.map fun q => D.lst [said q, q.p]) S := fun S => rfl
  have bl : (bankQ.map fun q => D.lst [said q, q.p]).length ≤ 100000 := by rw [List.length_map]; decide
  have bl0 : 0 < (bankQ.map fun q => D.lst [said q, q.p]).length := by rw [List.length_map]; decide
  have bl1 : (bankQ.map fun q => D.lst [said q, q.p]).length < 1000000 := by rw [List.length_map]; decide
  have bm : ∀ d ∈ bankQ.map fun q => D.lst [said q, q.p], ∃ q, q ∈ bankQ ∧ d = .lst [said q, q.p] := fun d hd => bank_mem hd
  have on := fun {S : List Cell} (w : WellAt S n) => one_l w bl0 bl1
  rw [show D.lst (bankQ.map fun q => D.lst [said q, q.p]) = bankD from rfl] at on
  obtain ⟨z, hz⟩ := told_shown
  have z0 : ∀ S, neD (.str z) (.str z) S = some (.bl false) := fun S => by simp
  have nl0 : ∀ S, neL (.lst []) (.lst []) S = some (.bl false) := fun S => nr rfl
  generalize (bankQ.map fun q => D.lst [said q, q.p]) = bl' at *
  generalize bankD = bd at *
  simp [f_l_right, m_l_right, bk, it, bl]
  refine comp_at (fun j acc S' => acc = [] ∧ Ka S S') ⟨rfl, Ka.refl⟩ ?_ ?_
  · rintro j d acc S1 hd ⟨rfl, ka⟩
    obtain ⟨q, hq, rfl⟩ := bm d (List.mem_of_getElem? hd)
    have ay := acc_yes hq
    have i0 : ∀ S, ixD (.lst [said q, q.p]) (.int 0) S = some (said q) := fun S => rfl
    have i1 : ∀ S, ixD (.lst [said q, q.p]) (.int 1) S = some q.p := fun S => rfl
    generalize D.lst [said q, q.p] = dd at *
    generalize said q = sq at *
    generalize q.p = qp at *
    simp [i0, i1, ay]
    exact ka.trans Ka.app
  · rintro acc S1 ⟨rfl, ka⟩
    simp [nl0, r10]
    refine for_rng0 (fun j e S' => WellAt S' n ∧ ∃ s2 s3 s4 s5 s6 s7 : Sl, e = [.val (.cell n), .val bd, s2, s3, s4, s5, s6, s7]) ⟨(w.keep (m := n + 1) (Ka.kp ka) (by omega)), _, _, _, _, _, _, rfl⟩ ?_ ?_
    · rintro j env S2 hj ⟨w2, s2, s3, s4, s5, s6, s7, rfl⟩
      refine into ?_
      simp
      refine (on w2).on ?_
      rintro d S3 ⟨hd, w3, k3⟩
      obtain ⟨q, hq, rfl⟩ := bm d hd
      have no := fun {S : List Cell} (w : WellAt S n) => none_ok hq w
      have an := fun {d : D} (h : Odd q d) S => acc_no hq h S
      have ay := acc_yes hq
      generalize hO : Odd q = O at *
      generalize said q = sq at *
      generalize q.p = qp at *
      simp
      refine (no w3).on ?_
      rintro d S4 ⟨hd, w4, k4⟩
      obtain ⟨S5, e5, k5⟩ := an hd S4
      obtain ⟨S6, e6, k6⟩ := an hd S5
      have e7 := ay S6
      have w7 : WellAt (S6 ++ [.dead]) n := WellAt.app (WellAt.keep (WellAt.keep w4 (Ka.kp k5) (show n ≠ n + 1 by omega)) (Ka.kp k6) (show n ≠ n + 1 by omega))
      have pk : pickL [1, 0] [qp, d] = [d, qp] := rfl
      simp [e5, e6, e7, hz, z0, pk]
      exact w7
    · rintro env S2 ⟨w2, s2, s3, s4, s5, s6, s7, rfl⟩
      simp
theorem law_true (ns : List Int) (h : ns.length ≤ 63) : ∃ S', f_p_law [scriptD ns] [] = .ok (.bl true) S' := by
  obtain ⟨k, hk, kl⟩ : ∃ k : Nat, (if 2 < ((if (6 : Int) < (ns.length : Nat) then 6 else (ns.length : Nat)) : Int) then (if (6 : Int) < (ns.length : Nat) then 6 else (ns.length : Nat)) else 2 : Int) = (k : Nat) ∧ k ≤ 6 := by
    refine ⟨(if 2 < ((if (6 : Int) < (ns.length : Nat) then 6 else (ns.length : Nat)) : Int) then (if (6 : Int) < (ns.length : Nat) then 6 else (ns.length : Nat)) else 2 : Int).toNat, ?_, ?_⟩ <;> (repeat' split) <;> omega
  have ln : ∀ S, lenD [scriptD ns] S = some (.int (ns.length : Nat)) := fun S => by
    show some (D.int ((ns.map D.int).length : Nat)) = _
    rw [List.length_map]
  have wo := well_ok ns
  have rk : ∀ S, range1D [.int (k : Nat)] S = .ok ((List.range k).map fun k => .int (k : Nat)) S := fun S => range1_ok (by omega) S
  have k5 : k ≤ 100000 := by omega
  generalize scriptD ns = sc at *
  have main : (f_p_law [sc] []).W (fun d _ => d = .bl true) XN := by
    simp [f_p_law, m_p_law, ln]
    rw [hk]
    simp [rk, k5]
    refine turns_ok (fun _ => True) trivial (fun j S hj _ => ?_) fun S' _ => ?_
    · simp
      refine (wo S j (by omega)).on ?_
      rintro _ S1 ⟨rfl, w, -, -⟩
      simp
      refine (right_ok w).on ?_
      rintro _ S2 rfl
      simp
    · simp [all_true]
  obtain ⟨d, S', e, rfl⟩ := main.of
  exact ⟨S', e⟩
end K78
open PySem PySem.W PyProof.Rows
set_option maxHeartbeats 0 in
theorem PySem.Challenge.cw_bentthrough_k78_claims_that_are_none_holds : PySem.Challenge.rw_bentthrough_k78_claims_that_are_none.Holds := by
  w_on; o_law
  refine HandSHeadRun.head_any (r := PySem.W.OpenLaw.row PySem.Challenge.rw_bentthrough_k78_claims_that_are_none) (q := view (PySem.W.OpenLaw.row PySem.Challenge.rw_bentthrough_k78_claims_that_are_none).prog [66]) (H := K78.hkQ) (ob := K78.obK) (M := 20000) (loose := K78.looseQ) (d := HandSHeadRun.topDef (PySem.W.OpenLaw.row PySem.Challenge.rw_bentthrough_k78_claims_that_are_none).prog 66) (kwd := []) DL.obQ_eq
    (by kernel_rfl) (fun s => by kernel_rfl) K78.run (by kernel_rfl) (by kernel_rfl) (by kernel_rfl) (by rfl) (by first | assumption | decide +kernel) (by decide +kernel) ⟨rfl, rfl, rfl, rfl, rfl, by decide +kernel⟩ ?hw ?hc
  case hw => w_witness2
  case hc =>
    refine DL.walkQ (l := PySem.Challenge.rw_bentthrough_k78_claims_that_are_none) (n := 63) (k := 18) (x := "_law_cells") (m := K78.f_p_law) rfl (by decide) (by kernel_rfl) ⟨rfl, by decide, by decide⟩ ?F K78.law_true
    intro w mg fa h Y G hmg0
    obtain ⟨K, KX, c⟩ := Y
    have hmg : mg ("law" : PySem.Str) = some (.ref fa) := by
      have e : (HandSHeadRun.topDef (PySem.W.OpenLaw.row PySem.Challenge.rw_bentthrough_k78_claims_that_are_none).prog 66).name = ("law" : PySem.Str) := by kernel_rfl
      rw [← e]
      exact hmg0
    obtain ⟨fd, hb, hF⟩ := K78.all_mk (P := (PySem.Challenge.rw_bentthrough_k78_claims_that_are_none).prog) (w := w) KX G hmg c
    exact ⟨K, KX, fd, hb, hF⟩
