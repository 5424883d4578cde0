import PyProof.Rows.All
import HandS.ForMost
import HandS.ForExc
import HandS.Wide
import HandS.NoneIn
import HandS.TupAny
import HandS.TupMul
import HandS.TupLe
import HandS.Style
import HandS.Zip
import HandS.Conv
import HandS.Deep
import HandS.IsInst
import HandS.ExcCtx
import HandS.ExcInit
import HandS.HotCalls
import HandS.EndTab
import KE.GoesMore
import KE.GoesZip
import KE.GoesEnum
import HandS.SortInts
import HandS.Text
import KE.KExcInit
import KE.KTryMore
import KE.KExcIs
import HandS.ExcIs
import HandS.ExcField
import HandS.Defaults
import HandS.Head0
import HandS.Head1
import HandS.Head2
import HandS.HeadHook1
import HandS.HeadHook2
import HandS.HeadNt
import PySem.Challenge.RW_bentthrough_k01_limits_and_errors
import HandS.Property
import PyProof.FitsInt
import HandS.SetFor
import HandS.Strs
import HandS.Star
import PyProof.EqKinds
import KE.KTupSum
import HandS.OwnEq
import KE.KNestM
import HandS.ReCall
import PyProof.ReprRoads
import PyProof.NeKinds
import HandS.Iter
import HandS.FStr
import KE.KItemsList
import HandS.ClsMeth
import HandS.DictComp
import KE.DataMinMax
import KE.SortData
import KE.KCallOwn
import OpenK.KOps
import HandS.More
import HandS.SortRule
import HandS.HeadHook3
import PyProof.MaxThree
import PyProof.P3In
import HandS.RaiseMore
import PyProof.Rows.CountFlat
import PyProof.Rows.StrMul
import HandS.ReplaceLit
import KE.SortKeyHeap
import HandS.SortKw
import HandS.ExcValue
set_option Elab.async false
set_option linter.all false
set_option maxRecDepth 100000
set_option maxHeartbeats 4000000
set_option exponentiation.threshold 10000
namespace DL
open PySem PySem.Spec L2
open PyProof.Rows hiding St
structure Rm (k : Nat) (A : Around) : Prop where
  room : Room k A
  quiet : A.guards = some []
theorem Rm.less {i k : Nat} {A : Around} (r : Rm k A) (h : i ≤ k) : Rm i A := ⟨r.room.mono h, r.quiet⟩
theorem quiet_deeper {A : Around} (h : A.guards = some []) (env : Env) : (A.deeper env).guards = some [] := by
  simpa [Around.deeper] using h
theorem Rm.deeper {k : Nat} {A : Around} (r : Rm (k + 1) A) (env : Env) : Rm k (A.deeper env) := ⟨r.room.deeper env, quiet_deeper r.quiet env⟩
structure FnG (P : Program) (w : World) (K : PySem.W.Frag) (mg : Str → Option Value) (base : Heap) (k : Nat) (f : Addr)
    (fd : FuncData) (ps : List Str) (sp : Sp) : Prop where
  arity : ∀ vs H Q E, sp vs H Q E → vs.length = ps.length
  go : ∀ (A : Around) (outer : List Env) (s : Shared) (H : Hp) (args : Args) (us : List Value) (vs : List V) (Q : VK) (E : XK),
    Rm k A → Env0 P w K mg base A outer s H → BindsTo s fd args (ps.zip us) → Vals vs us → sp vs H Q E →
    codeAny (model P w) A (.call (.ref f) args) (CR (L2N.CX P w) outer P w H s Q E) s
section
variable {P : Program} {w : World} {K : PySem.W.Frag} {mg : Str → Option Value} {base : Heap}
theorem FnG.less {i k : Nat} {f : Addr} {fd : FuncData} {ps : List Str} {sp : Sp} (F : FnG P w K mg base i f fd ps sp) (h : i ≤ k) :
    FnG P w K mg base k f fd ps sp :=
  ⟨F.arity, fun A outer s H args us vs Q E r => F.go A outer s H args us vs Q E (r.less h)⟩
theorem fnG_of {k : Nat} {f : Addr} {name qual : Str} {pr : Arguments} {body : List Stmt} {sc : Scope} {v1 v2 v3 v4 v5 v6 v7 : Value} {a1 a2 : Option Addr}
    {sl : Array (Option Value)} {N ps : List Str} {sp : Sp}
    (hf : K.lookup f = some ⟨v7, a2, .func (PySem.W.fnOf name qual pr body sc v1 v2 v3 v4 a1 v5 v6), sl⟩)
    (hc : PySem.W.codeIn K v5 qual = true) (S : FnScope N ps sc) (ar : ∀ vs H Q E, sp vs H Q E → vs.length = ps.length)
    (hb : ∀ (A : Around) (outer : List Env) (s : Shared) (H : Hp) (vs : List V) (Q : VK) (E : XK),
      Rm k (A.deeper (envOfC qual sc s.heap.objs.size f v5)) → sp vs H Q E →
      ∃ t, PSs (cxOf (L2N.CX P w) P w K mg base N qual sc f v5 A outer s H E) body t ∧ t { nx := fun _ H' => Q .non H', rt := Q } (start N vs) H) :
    FnG P w K mg base (k + 1) f (PySem.W.fnOf name qual pr body sc v1 v2 v3 v4 a1 v5 v6) ps sp := by
  constructor
  · exact ar
  intro A outer s H args us vs Q E rm e0 hbd hv hsp
  have hn := ar _ _ _ _ hsp
  have old : ∀ b o, base.get? b = some o → s.heap.get? b = some o := fun b o e => (e0.bs b o e).1
  have kin : K.In s.heap := e0.mod.kin.keeps old
  have nol : s.heap.NoLimit := e0.mod.nolimit.keeps old
  have kinds : ∀ y ∈ ps.zip us, sc.names.lookup y.1 = some .local ∨
      (sc.names.lookup y.1 = some .cell ∧ ((cellsFrom (s.heap.objs.size + 1) sc.names []).lookup y.1).isSome = true) := by
    rintro ⟨n, v⟩ hy
    rcases S.par n (List.of_mem_zip hy).1 with h | h
    · exact Or.inl h
    · exact Or.inr ⟨h, PySem.W.cellsFrom_some _ _ _ (Or.inl h)⟩
  refine codeAny_call_function rm.room.depth (kin _ _ hf) rfl S.co S.gen rfl (PySem.W.codeRec_of kin hc) (hbd _ _ _ _ ?_)
  refine wpAny_newFunctionEnv_cells S.kind kinds fun env ee s1 ic => ?_
  cases ee
  refine ⟨nol.keeps ic.toInCall.keep, codeAny_func ?_⟩
  obtain ⟨t, ht, hq⟩ := hb A outer s H vs Q E (rm.deeper _) hsp
  have J := inv_start (CX := L2N.CX P w) (E := E) S rm.room.hd e0 hn hv ic
  refine wpAny_mono (ht.run [] s1 (start N vs) H _ J hq) ?_ (fun _ _ h => h)
  intro fl s2 h2
  have done : ∀ {σ2 : St} {H2 : Hp} {v : V} {u : Value}, Inv (cxOf (L2N.CX P w) P w K mg base N qual sc f v5 A outer s H E) [] σ2 H2 s2 →
      RelV v u → Q v H2 → CE outer P w H s Q u s2 := fun {σ2 H2 v u} J2 rv q => ⟨v, H2, J2.os, J2.bare, J2.base, J2.hok, rv, q⟩
  match fl, h2 with
  | .ret u, ⟨v, σ2, H2, J2, rv, q⟩ => exact done J2 rv q
  | .next, ⟨σ2, H2, J2, q⟩ => exact done (v := V.non) (u := Value.none) J2 rfl q
  | .brk, ⟨_, _, _, q⟩ => exact q.elim
  | .cont, ⟨_, _, _, q⟩ => exact q.elim
theorem fnG {x qual : Str} {st : Stmt} {f : Addr} {fd : FuncData} {N ps : List Str} {k : Nat} {sp : Sp} (F : Fun K x qual st f fd) (S : FnScope N ps (defScope st))
    (ar : ∀ vs H Q E, sp vs H Q E → vs.length = ps.length)
    (hb : ∀ (cd : Value) (A : Around) (outer : List Env) (s : Shared) (H : Hp) (vs : List V) (Q : VK) (E : XK),
      Rm k (A.deeper (envOfC qual (defScope st) s.heap.objs.size f cd)) → sp vs H Q E →
      ∃ t, PSs (cxOf (L2N.CX P w) P w K mg base N qual (defScope st) f cd A outer s H E) (defBody st) t ∧ t { nx := fun _ H' => Q .non H', rt := Q } (start N vs) H) :
    FnG P w K mg base (k + 1) f fd ps sp := by
  obtain ⟨oc, od, kV, doc, pm, an, cd, ct, osl, e, lk, hcd⟩ := F.ex
  cases e
  exact fnG_of lk hcd S ar fun A outer s H vs Q E => hb cd A outer s H vs Q E
end
abbrev EE := St → XK
def EX0 : EE := fun _ _ _ _ => False
def Px (X : Cx) (E : EE) : Prop := ∀ (pins : List (Addr × Obj)) (σ : St) (H : Hp) (s : Shared) (e : Value) (s' : Shared), Inv X pins σ H s → L2N.CX X.prog X.w X.stack H s (E σ) e s' → X.xe e s'
theorem px_of {X : Cx} {E : EE} (tk : L2N.Takes X fun cls d σ H => E σ cls d H) : Px X E := fun _ _ _ _ e s' I c => tk e s' (L2N.XE.of_call I (fun _ _ _ h => h) c)
theorem px_0 {X : Cx} : Px X EX0 := px_of fun _ _ ⟨_, _, _, _, _, _, _, _, _, _, _, _, _, _, _, _, w⟩ => w.elim
section
variable {X : Cx} {k : Nat} {f C : Addr} {fd : FuncData} {ps : List Str} {sp : Sp} {E : EE} {x m : Str} {p pos : Pos} {e o : Expr} {es : List Expr} {t : TA}
def tCallG (sp : Sp) (E : EE) (t : TA) : TE := fun σ H Q => t σ H fun vs H1 => sp vs H1 Q (E σ)
theorem runG {pins : List (Addr × Obj)} {σ : St} {H : Hp} {s : Shared} {Q : VK} {us : List Value} {vs : List V} {args : Args}
    (F : FnG X.prog X.w X.K X.mg X.base k f fd ps sp) (rm : Rm k X.A) (px : Px X E)
    (I : Inv X pins σ H s) (bd : BindsTo s fd args (ps.zip us)) (r : Vals vs us) (h : sp vs H Q (E σ)) :
    codeAny (model X.prog X.w) X.A (.call (.ref f) args) (fun r s' => match r with
      | .ok (.ret u) => EP X pins σ Q u s'
      | .ok _ => False
      | .error e => X.xe e s') s := by
  refine codeAny_mono (F.go X.A X.stack s H args us vs Q (E σ) rm I.env0 bd r h) ?_
  intro r s' hr
  match r, hr with
  | .error e, hr => exact px pins σ H s e s' I hr
  | .ok (.ret u), hr => exact I.after hr
theorem wpG {pins : List (Addr × Obj)} {σ : St} {H : Hp} {s : Shared} {Q : VK} {us : List Value} {vs : List V}
    (F : FnG X.prog X.w X.K X.mg X.base k f fd ps sp) (rm : Rm k X.A) (hb : Binds X.K fd ps []) (px : Px X E)
    (I : Inv X pins σ H s) (r : Vals vs us) (h : sp vs H Q (E σ)) : wpAny (model X.prog X.w) X.A (call (.ref f) us) (EP X pins σ Q) X.xe s := by
  have hl : us.length = ps.length := r.length.symm.trans (F.arity _ _ _ _ h)
  have bd := hb s us I.kIn (by rw [List.append_nil]; exact hl)
  rw [List.append_nil] at bd
  refine wpAny_call (codeAny_mono (runG F rm px I bd r h) ?_)
  intro r s' hr
  match r, hr with
  | .error e, hr => exact hr
  | .ok (.ret u), hr => exact hr
theorem pe_callG (F : FnG X.prog X.w X.K X.mg X.base k f fd ps sp) (rm : Rm k X.A) (hg : Gl X x) (hm : X.mg x = some (.ref f))
    (hk : PySem.W.keepIn X.K (.ref f) = true) (hb : Binds X.K fd ps []) (px : Px X E) (ha : PA X (e :: es) t)
    (hd : (x == ("__debug__" : Str)) = false := by decide)
    (h1 : starEach (e :: es) X.env = (false, eval e X.env) :: starEach es X.env := by rfl)
    (h2 : (backTo pos (starEach es X.env)).any (·.1) = false := by rfl) :
    PE X (.Call (.Name x p) (e :: es) [] pos) (tCallG sp E t) := by
  constructor
  intro pins s σ H Q I h
  refine wpAny_Call_Name_kw (ld_glob I hg hm ?_ hd)
  refine PySem.W.callWith_K (h₀ := X.base) I.ok.mod.kin hk (thn (ha.run pos pins s σ H _ I h) ?_) h1 h2
  rintro us s1 ⟨vs, H1, I1, r, q⟩
  exact ⟨I1.kIn, wpG F rm hb px I1 r q⟩
end
end DL
namespace DL
open PySem PySem.Spec L2
open PyProof.Rows hiding St
inductive D where
  | non | bl (b : Bool) | int (i : Int) | str (s : Str)
  | tup (xs : List D) | lst (xs : List D) | ro (xs : List D) | dct (ks : List Key) (xs : List D)
  | obj (c : Str) (ns : List Str) (xs : List D) | cell (n : Nat)
  | ty (n : String) | cls (c : Str)
  | exc (c : Str) (ns : List Str) (xs : List D)
abbrev Fz := Addr → Prop
def noH : Hp := fun _ => none
def BT (vs : List V) (o : HO) : Prop := ∃ ob : Obj, ob.dict = none ∧ o = .frz ob (.tup vs)
def SqM (K : PySem.W.Frag) (a : Addr) (vs : List V) : Prop := SqT K noH a vs ∧ ∃ ob, K.lookup a = some ob ∧ ob.dict = none
def TupAt (K : PySem.W.Frag) (F : Fz) (H : Hp) (a : Addr) (vs : List V) : Prop := (F a ∧ ∃ o, BT vs o ∧ H a = some o) ∨ SqM K a vs
def LstAt (_ : PySem.W.Frag) (F : Fz) (H : Hp) (a : Addr) (vs : List V) : Prop := F a ∧ H a = some (.lst vs)
def RoAt (K : PySem.W.Frag) (F : Fz) (H : Hp) (a : Addr) (vs : List V) : Prop := (F a ∧ Rd H a (.lst vs)) ∨ SqL K noH a vs
def Lk (H : Hp) (a : Addr) (u : HO) : Prop := ∃ o, H a = some (.frz o u)
theorem Lk.rd {H : Hp} {a : Addr} {u : HO} (h : Lk H a u) : Rd H a u := .inr h
def tLk (t : TE) : TE := fun σ H Q => t σ H fun v H1 => ∃ p u, v = .ref p ∧ H1 p = some u ∧ Mut (some u) ∧ ∀ od, Q v (upd H1 p (.frz od u))
mutual
def Rep (K : PySem.W.Frag) (mg : Str → Option Value) (F : Fz) (ι : List Addr) (H : Hp) : D → V → Prop
  | .non, v => v = .non
  | .bl b, v => v = .bl b
  | .int i, v => v = .int i
  | .str s, v => v = .str s
  | .tup xs, v => ∃ a vs, v = .ref a ∧ TupAt K F H a vs ∧ Reps K mg F ι H xs vs
  | .lst xs, v => ∃ a vs, v = .ref a ∧ LstAt K F H a vs ∧ Reps K mg F ι H xs vs
  | .ro xs, v => ∃ a vs, v = .ref a ∧ RoAt K F H a vs ∧ Reps K mg F ι H xs vs
  | .dct ks xs, v => ∃ a vs, v = .ref a ∧ F a ∧ Lk H a (.dK (ks.zip vs)) ∧ vs.length = ks.length ∧ Reps K mg F ι H xs vs
  | .obj c ns xs, v => ∃ a C dx vs, v = .ref a ∧ F a ∧ mg c = some (.ref C) ∧ H a = some (.ins C dx (ns.zip vs)) ∧ vs.length = ns.length ∧ Reps K mg F ι H xs vs
  | .cell n, v => ∃ a, v = .ref a ∧ ι[n]? = some a
  | .ty n, v => v = .ty n
  | .cls c, v => ∃ C, v = .ref C ∧ mg c = some (.ref C)
  | .exc c ns xs, v => ∃ a C oe u od vs, v = .ref a ∧ F a ∧ mg c = some (.ref C) ∧ H a = some (.frz oe u) ∧ L2N.Zn (.ref C) od oe ∧ (∃ fv, oe.data = .fields fv) ∧ vs.length = ns.length ∧
      ((ns = [] ∧ od = none) ∨ ∃ dd, od = some dd ∧ F dd ∧ H dd = some (.xd (ns.zip vs))) ∧ Reps K mg F ι H xs vs
def Reps (K : PySem.W.Frag) (mg : Str → Option Value) (F : Fz) (ι : List Addr) (H : Hp) : List D → List V → Prop
  | [], vs => vs = []
  | d :: ds, vs => ∃ v r, vs = v :: r ∧ Rep K mg F ι H d v ∧ Reps K mg F ι H ds r
end
structure Ext (H : Hp) (F : Fz) (ι : List Addr) (H' : Hp) (F' : Fz) (ι' : List Addr) : Prop where
  sub : ∀ a, F a → F' a
  new : ∀ a, F' a → F a ∨ H a = none
  keep : ∀ a o, H a = some o → (F a ∨ a ∉ ι) → H' a = some o
  mono : ∀ a, H' a = none → H a = none
  pre : ι <+: ι'
  cnew : ∀ a ∈ ι', a ∈ ι ∨ H a = none
theorem Ext.refl {H : Hp} {F : Fz} {ι : List Addr} : Ext H F ι H F ι :=
  ⟨fun _ h => h, fun _ h => .inl h, fun _ _ h _ => h, fun _ h => h, List.prefix_refl _, fun _ h => .inl h⟩
theorem Ext.trans {H H1 H2 : Hp} {F F1 F2 : Fz} {ι ι1 ι2 : List Addr} (a : Ext H F ι H1 F1 ι1) (b : Ext H1 F1 ι1 H2 F2 ι2) : Ext H F ι H2 F2 ι2 where
  sub := fun x h => b.sub x (a.sub x h)
  new := fun x h => (b.new x h).elim (a.new x) fun q => .inr (a.mono x q)
  keep := fun x o h n => b.keep x o (a.keep x o h n) (n.elim (fun f => .inl (a.sub x f)) fun n => .inr fun q => (a.cnew x q).elim n fun z => by rw [h] at z; cases z)
  mono := fun x h => a.mono x (b.mono x h)
  pre := a.pre.trans b.pre
  cnew := fun x h => (b.cnew x h).elim (a.cnew x) fun q => .inr (a.mono x q)
inductive Cell where
  | lst (xs : List D) | ins (c : Str) (ns : List Str) (xs : List D) | dead | tab (p : Addr) (q : Str)
def Cell.live : Cell → Bool
  | .dead => false
  | _ => true
def CellOk (K : PySem.W.Frag) (mg : Str → Option Value) (F : Fz) (ι : List Addr) (H : Hp) (a : Addr) : Cell → Prop
  | .lst xs => ∃ vs, H a = some (.lst vs) ∧ Reps K mg F ι H xs vs
  | .ins c ns xs => ∃ C dx vs, mg c = some (.ref C) ∧ H a = some (.ins C dx (ns.zip vs)) ∧ vs.length = ns.length ∧ Reps K mg F ι H xs vs
  | .dead => F a
  | .tab p q => a = p ∧ ∃ ps : Array Value, H a = some (.tbl ps) ∧ TriplesOk ps.toList ∧ ∀ (pos : Pos) (cv : Value), codeAmong pos ps.toList = some cv → ∃ c, cv = .ref c ∧ F c ∧ H c = some (LamX.CodeO c q)
structure Wd (K : PySem.W.Frag) (mg : Str → Option Value) (F : Fz) (ι : List Addr) (H : Hp) (S : List Cell) : Prop where
  fin : ∀ a, F a → H a ≠ none
  cnf : ∀ (n : Nat) c a, S[n]? = some c → ι[n]? = some a → c.live = true → ¬ F a
  cnd : ι.Nodup
  len : S.length = ι.length
  cells : ∀ (n : Nat) c a, S[n]? = some c → ι[n]? = some a → CellOk K mg F ι H a c
section
variable {K : PySem.W.Frag} {mg : Str → Option Value} {F F' : Fz} {ι ι' : List Addr} {H H' : Hp}
theorem BT.rd {a : Addr} {vs : List V} (h : ∃ o, BT vs o ∧ H a = some o) : Rd H a (.tup vs) := by
  obtain ⟨_, ⟨ob, _, rfl⟩, e⟩ := h
  exact .inr ⟨ob, e⟩
theorem TupAt.sq {a : Addr} {vs : List V} (h : TupAt K F H a vs) : SqT K H a vs := by
  rcases h with ⟨_, h⟩ | ⟨h | h, _⟩
  · exact .inl (BT.rd h)
  · rcases h with h | ⟨_, h⟩ <;> cases h
  · exact .inr h
theorem LstAt.sq {a : Addr} {vs : List V} (h : LstAt K F H a vs) : SqL K H a vs := .inl (.inl h.2)
theorem RoAt.sq {a : Addr} {vs : List V} (h : RoAt K F H a vs) : SqL K H a vs := by
  rcases h with ⟨_, h⟩ | (h | h)
  · exact .inl h
  · rcases h with h | ⟨_, h⟩ <;> cases h
  · exact .inr h
def Stay (F : Fz) (H H' : Hp) : Prop := ∀ a o, F a → H a = some o → H' a = some o
theorem Stay.rd {a : Addr} {o : HO} (s : Stay F H H') (hf : F a) (h : Rd H a o) : Rd H' a o := by
  rcases h with h | ⟨ob, h⟩
  · exact .inl (s _ _ hf h)
  · exact .inr ⟨ob, s _ _ hf h⟩
theorem Stay.lk {a : Addr} {o : HO} (s : Stay F H H') (hf : F a) (h : Lk H a o) : Lk H' a o := by
  obtain ⟨ob, h⟩ := h
  exact ⟨ob, s _ _ hf h⟩
theorem TupAt.mono {a : Addr} {vs : List V} (hs : ∀ a, F a → F' a) (s : Stay F H H') (h : TupAt K F H a vs) : TupAt K F' H' a vs := by
  rcases h with ⟨f, o, b, h⟩ | h
  · exact .inl ⟨hs _ f, o, b, s _ _ f h⟩
  · exact .inr h
theorem LstAt.mono {a : Addr} {vs : List V} (hs : ∀ a, F a → F' a) (s : Stay F H H') (h : LstAt K F H a vs) : LstAt K F' H' a vs := ⟨hs _ h.1, s _ _ h.1 h.2⟩
theorem RoAt.mono {a : Addr} {vs : List V} (hs : ∀ a, F a → F' a) (s : Stay F H H') (h : RoAt K F H a vs) : RoAt K F' H' a vs := by
  rcases h with ⟨f, h⟩ | h
  · exact .inl ⟨hs _ f, s.rd f h⟩
  · exact .inr h
theorem pre_get {n : Nat} {a : Addr} (p : ι <+: ι') (h : ι[n]? = some a) : ι'[n]? = some a := by
  obtain ⟨r, rfl⟩ := p
  rw [List.getElem?_append_left (by have := (List.getElem?_eq_some_iff.mp h).1; exact this)]
  exact h
mutual
theorem rep_mono (hs : ∀ a, F a → F' a) (s : Stay F H H') (p : ι <+: ι') : ∀ (d : D) (v : V), Rep K mg F ι H d v → Rep K mg F' ι' H' d v
  | .non, _, h => h
  | .bl _, _, h => h
  | .int _, _, h => h
  | .str _, _, h => h
  | .tup xs, v, h => by
    obtain ⟨a, vs, e, t, r⟩ := h
    exact ⟨a, vs, e, t.mono hs s, reps_mono hs s p xs vs r⟩
  | .lst xs, v, h => by
    obtain ⟨a, vs, e, t, r⟩ := h
    exact ⟨a, vs, e, t.mono hs s, reps_mono hs s p xs vs r⟩
  | .ro xs, v, h => by
    obtain ⟨a, vs, e, t, r⟩ := h
    exact ⟨a, vs, e, t.mono hs s, reps_mono hs s p xs vs r⟩
  | .dct ks xs, v, h => by
    obtain ⟨a, vs, e, f, t, l, r⟩ := h
    exact ⟨a, vs, e, hs _ f, s.lk f t, l, reps_mono hs s p xs vs r⟩
  | .obj c ns xs, v, h => by
    obtain ⟨a, C, dx, vs, e, f, hm, t, l, r⟩ := h
    exact ⟨a, C, dx, vs, e, hs _ f, hm, s _ _ f t, l, reps_mono hs s p xs vs r⟩
  | .cell n, v, h => by
    obtain ⟨a, e, q⟩ := h
    exact ⟨a, e, pre_get p q⟩
  | .ty _, _, h => h
  | .cls _, _, h => h
  | .exc c ns xs, v, h => by
    obtain ⟨a, C, oe, u, od, vs, e, f, hm, t, z, fv, l, dd, r⟩ := h
    refine ⟨a, C, oe, u, od, vs, e, hs _ f, hm, s _ _ f t, z, fv, l, ?_, reps_mono hs s p xs vs r⟩
    rcases dd with dd | ⟨dd, e1, f1, h1⟩
    · exact .inl dd
    · exact .inr ⟨dd, e1, hs _ f1, s _ _ f1 h1⟩
theorem reps_mono (hs : ∀ a, F a → F' a) (s : Stay F H H') (p : ι <+: ι') : ∀ (ds : List D) (vs : List V), Reps K mg F ι H ds vs → Reps K mg F' ι' H' ds vs
  | [], _, h => h
  | d :: ds, vs, h => by
    obtain ⟨v, r, e, h1, h2⟩ := h
    exact ⟨v, r, e, rep_mono hs s p d v h1, reps_mono hs s p ds r h2⟩
end
theorem cell_mono (hs : ∀ a, F a → F' a) (s : Stay F H H') (p : ι <+: ι') {a : Addr} (ha : ∀ o, H a = some o → H' a = some o) : ∀ (c : Cell), CellOk K mg F ι H a c → CellOk K mg F' ι' H' a c
  | .lst xs, ⟨vs, h, r⟩ => ⟨vs, ha _ h, reps_mono hs s p xs vs r⟩
  | .ins c ns xs, ⟨C, dx, vs, hm, h, l, r⟩ => ⟨C, dx, vs, hm, ha _ h, l, reps_mono hs s p xs vs r⟩
  | .dead, h => hs _ h
  | .tab p q, ⟨e, ps, h, ht, hc⟩ => ⟨e, ps, ha _ h, ht, fun pos cv z => by
    obtain ⟨c, e1, f1, h1⟩ := hc pos cv z
    exact ⟨c, e1, hs _ f1, s _ _ f1 h1⟩⟩
theorem Reps.len : ∀ {ds : List D} {vs : List V}, Reps K mg F ι H ds vs → vs.length = ds.length
  | [], _, h => by rw [h]; rfl
  | d :: ds, vs, h => by
    obtain ⟨v, r, rfl, _, h2⟩ := h
    rw [List.length_cons, List.length_cons, Reps.len h2]
theorem Reps.get : ∀ {ds : List D} {vs : List V} {i : Nat} {d : D}, Reps K mg F ι H ds vs → ds[i]? = some d → ∃ v, vs[i]? = some v ∧ Rep K mg F ι H d v
  | [], _, i, d, _, e => by simp at e
  | d :: ds, vs, 0, d', h, e => by
    obtain ⟨v, r, rfl, h1, h2⟩ := h
    simp at e
    subst e
    exact ⟨v, rfl, h1⟩
  | d :: ds, vs, i + 1, d', h, e => by
    obtain ⟨v, r, rfl, h1, h2⟩ := h
    obtain ⟨u, h3, h4⟩ := Reps.get h2 (by simpa using e)
    exact ⟨u, by simpa using h3, h4⟩
theorem Reps.back {ds : List D} {vs : List V} {i : Nat} {v : V} (h : Reps K mg F ι H ds vs) (e : vs[i]? = some v) : ∃ d, ds[i]? = some d ∧ Rep K mg F ι H d v := by
  have hl := h.len
  have hi : i < ds.length := by have := (List.getElem?_eq_some_iff.mp e).1; omega
  obtain ⟨u, h1, h2⟩ := h.get (List.getElem?_eq_getElem hi)
  rw [e] at h1
  cases h1
  exact ⟨_, List.getElem?_eq_getElem hi, h2⟩
theorem Reps.app : ∀ {ds es : List D} {vs us : List V}, Reps K mg F ι H ds vs → Reps K mg F ι H es us → Reps K mg F ι H (ds ++ es) (vs ++ us)
  | [], _, _, _, h, g => by rw [show _ = _ from h]; exact g
  | d :: ds, es, vs, us, h, g => by
    obtain ⟨v, r, rfl, h1, h2⟩ := h
    exact ⟨v, r ++ us, rfl, h1, h2.app g⟩
theorem Reps.one {d : D} {v : V} (h : Rep K mg F ι H d v) : Reps K mg F ι H [d] [v] := ⟨v, [], rfl, h, rfl⟩
theorem Reps.cons {d : D} {v : V} {ds : List D} {vs : List V} (h : Rep K mg F ι H d v) (g : Reps K mg F ι H ds vs) : Reps K mg F ι H (d :: ds) (v :: vs) := ⟨v, vs, rfl, h, g⟩
theorem Reps.drop : ∀ {ds : List D} {vs : List V} (n : Nat), Reps K mg F ι H ds vs → Reps K mg F ι H (ds.drop n) (vs.drop n)
  | _, _, 0, h => h
  | [], _, n + 1, h => by rw [show _ = _ from h]; rfl
  | d :: ds, vs, n + 1, h => by
    obtain ⟨v, r, rfl, h1, h2⟩ := h
    exact Reps.drop n h2
theorem Reps.take : ∀ {ds : List D} {vs : List V} (n : Nat), Reps K mg F ι H ds vs → Reps K mg F ι H (ds.take n) (vs.take n)
  | _, _, 0, h => rfl
  | [], _, n + 1, h => by rw [show _ = _ from h]; rfl
  | d :: ds, vs, n + 1, h => by
    obtain ⟨v, r, rfl, h1, h2⟩ := h
    exact ⟨v, _, rfl, h1, Reps.take n h2⟩
theorem Reps.set : ∀ {ds : List D} {vs : List V} (n : Nat) {d : D} {v : V}, Reps K mg F ι H ds vs → Rep K mg F ι H d v → Reps K mg F ι H (ds.set n d) (vs.set n v)
  | [], _, _, _, _, h, _ => by rw [show _ = _ from h]; rfl
  | x :: ds, vs, 0, d, v, h, g => by
    obtain ⟨u, r, rfl, h1, h2⟩ := h
    exact ⟨v, r, rfl, g, h2⟩
  | x :: ds, vs, n + 1, d, v, h, g => by
    obtain ⟨u, r, rfl, h1, h2⟩ := h
    exact ⟨u, _, rfl, h1, Reps.set n h2 g⟩
theorem Wd.stay {S : List Cell} (w : Wd K mg F ι H S) (e : Ext H F ι H' F' ι') : Stay F H H' := fun a o f h => e.keep a o h (.inl f)
theorem Wd.rep {S : List Cell} {d : D} {v : V} (w : Wd K mg F ι H S) (e : Ext H F ι H' F' ι') (h : Rep K mg F ι H d v) : Rep K mg F' ι' H' d v := rep_mono e.sub (w.stay e) e.pre d v h
theorem Wd.reps {S : List Cell} {ds : List D} {vs : List V} (w : Wd K mg F ι H S) (e : Ext H F ι H' F' ι') (h : Reps K mg F ι H ds vs) : Reps K mg F' ι' H' ds vs := reps_mono e.sub (w.stay e) e.pre ds vs h
end
inductive Sl where
  | un | val (d : D) | own (xs : List D) | ownd (ks : List Key) (xs : List D)
structure Snap where
  H0 : Hp
  F0 : Fz
  ι0 : List Addr
def OwnD (K : PySem.W.Frag) (mg : Str → Option Value) (g : Snap) (H : Hp) (F : Fz) (ι : List Addr) (a : Addr) (ks : List Key) (ds : List D) : Prop :=
  ∃ vs, H a = some (.dK (ks.zip vs)) ∧ vs.length = ks.length ∧ Reps K mg F ι H ds vs ∧ ¬ F a ∧ a ∉ ι ∧ g.H0 a = none
structure RS (K : PySem.W.Frag) (mg : Str → Option Value) (g : Snap) (σ : St) (H : Hp) (F : Fz) (ι : List Addr) (env : List Sl) (S : List Cell) : Prop where
  wd : Wd K mg F ι H S
  ext : Ext g.H0 g.F0 g.ι0 H F ι
  len : σ.length = env.length
  slot : ∀ (i : Nat) d, env[i]? = some (.val d) → ∃ v, σ[i]? = some (some v) ∧ Rep K mg F ι H d v
  own : ∀ (i : Nat) ds, env[i]? = some (.own ds) → ∃ a vs, σ[i]? = some (some (.ref a)) ∧ H a = some (.lst vs) ∧ Reps K mg F ι H ds vs ∧ ¬ F a ∧ a ∉ ι ∧ g.H0 a = none
  apart : ∀ (i j : Nat) a di dj, env[i]? = some (.own di) → env[j]? = some (.own dj) → σ[i]? = some (some (.ref a)) → σ[j]? = some (some (.ref a)) → i = j
  ownd : ∀ (i : Nat) ks ds, env[i]? = some (.ownd ks ds) → ∃ a, σ[i]? = some (some (.ref a)) ∧ OwnD K mg g H F ι a ks ds
  apartd : ∀ (i j : Nat) a ki di kj dj, env[i]? = some (.ownd ki di) → env[j]? = some (.ownd kj dj) → σ[i]? = some (some (.ref a)) → σ[j]? = some (some (.ref a)) → i = j
section
variable {K : PySem.W.Frag} {mg : Str → Option Value} {F F' : Fz} {ι ι' : List Addr} {H H' : Hp} {g : Snap} {σ : St} {env : List Sl} {S S' : List Cell}
theorem RS.step (r : RS K mg g σ H F ι env S) (e : Ext H F ι H' F' ι') (w : Wd K mg F' ι' H' S') : RS K mg g σ H' F' ι' env S' where
  wd := w
  ext := r.ext.trans e
  len := r.len
  slot := fun i d h => by
    obtain ⟨v, h1, h2⟩ := r.slot i d h
    exact ⟨v, h1, r.wd.rep e h2⟩
  own := fun i ds h => by
    obtain ⟨a, vs, h1, h2, h3, h4, h5, h6⟩ := r.own i ds h
    refine ⟨a, vs, h1, e.keep a _ h2 (.inr h5), r.wd.reps e h3, fun z => ?_, fun z => ?_, h6⟩
    · rcases e.new a z with z | z
      · exact h4 z
      · rw [h2] at z; cases z
    · rcases e.cnew a z with z | z
      · exact h5 z
      · rw [h2] at z; cases z
  apart := r.apart
  ownd := fun i ks ds h => by
    obtain ⟨a, h1, vs, h2, h2', h3, h4, h5, h6⟩ := r.ownd i ks ds h
    refine ⟨a, h1, vs, e.keep a _ h2 (.inr h5), h2', r.wd.reps e h3, fun z => ?_, fun z => ?_, h6⟩
    · rcases e.new a z with z | z
      · exact h4 z
      · rw [h2] at z; cases z
    · rcases e.cnew a z with z | z
      · exact h5 z
      · rw [h2] at z; cases z
  apartd := r.apartd
theorem Wd.lay {a : Addr} {o : HO} (w : Wd K mg F ι H S) (n : H a = none) : Ext H F ι (upd H a o) (fun b => F b ∨ b = a) ι ∧ Wd K mg (fun b => F b ∨ b = a) ι (upd H a o) S := by
  have e : Ext H F ι (upd H a o) (fun b => F b ∨ b = a) ι := by
    refine ⟨fun _ h => .inl h, fun b h => ?_, fun b u h _ => ?_, fun b h => ?_, List.prefix_refl _, fun _ h => .inl h⟩
    · rcases h with h | rfl
      · exact .inl h
      · exact .inr n
    · rw [upd_ne (ne_of_none h n)]
      exact h
    · by_cases hb : b = a
      · subst hb; exact n
      · rwa [upd_ne hb] at h
  refine ⟨e, ⟨fun b h => ?_, fun i c b h1 h2 hl h => ?_, w.cnd, w.len, fun i c b h1 h2 => ?_⟩⟩
  · rcases h with h | rfl
    · by_cases hb : b = a
      · subst hb; rw [upd_same]; simp
      · rw [upd_ne hb]; exact w.fin b h
    · rw [upd_same]; simp
  · rcases h with h | rfl
    · exact w.cnf i c b h1 h2 hl h
    · have q := w.cells i c b h1 h2
      cases c with
      | lst xs => obtain ⟨_, q, _⟩ := q; rw [n] at q; cases q
      | ins c ns xs => obtain ⟨_, _, _, _, q, _⟩ := q; rw [n] at q; cases q
      | dead => cases hl
      | tab p q => obtain ⟨_, _, q, _⟩ := q; rw [n] at q; cases q
  · refine cell_mono e.sub (w.stay e) e.pre (fun o ho => ?_) c (w.cells i c b h1 h2)
    rw [upd_ne (ne_of_none ho n)]
    exact ho
theorem Wd.layO {a : Addr} {o : HO} (w : Wd K mg F ι H S) (n : H a = none) : Ext H F ι (upd H a o) F ι ∧ Wd K mg F ι (upd H a o) S := by
  have e : Ext H F ι (upd H a o) F ι := by
    refine ⟨fun _ h => h, fun b h => .inl h, fun b u h _ => ?_, fun b h => ?_, List.prefix_refl _, fun _ h => .inl h⟩
    · rw [upd_ne (ne_of_none h n)]
      exact h
    · by_cases hb : b = a
      · subst hb; exact n
      · rwa [upd_ne hb] at h
  refine ⟨e, ⟨fun b h => ?_, w.cnf, w.cnd, w.len, fun i c b h1 h2 => ?_⟩⟩
  · by_cases hb : b = a
    · subst hb; rw [upd_same]; simp
    · rw [upd_ne hb]; exact w.fin b h
  · refine cell_mono e.sub (w.stay e) e.pre (fun o ho => ?_) c (w.cells i c b h1 h2)
    rw [upd_ne (ne_of_none ho n)]
    exact ho
theorem Wd.cell_some {n : Nat} {a : Addr} (w : Wd K mg F ι H S) (h : ι[n]? = some a) : ∃ c, S[n]? = some c ∧ CellOk K mg F ι H a c := by
  have hl : n < S.length := by rw [w.len]; exact (List.getElem?_eq_some_iff.mp h).1
  exact ⟨_, List.getElem?_eq_getElem hl, w.cells n _ a (List.getElem?_eq_getElem hl) h⟩
theorem CellOk.some {a : Addr} {c : Cell} (h : CellOk K mg F ι H a c) (fin : ∀ a, F a → H a ≠ none) : ∃ o, H a = some o := by
  cases c with
  | lst xs => obtain ⟨vs, h, _⟩ := h; exact ⟨_, h⟩
  | ins c ns xs => obtain ⟨C, dx, vs, _, h, _⟩ := h; exact ⟨_, h⟩
  | tab p q => obtain ⟨_, _, h, _⟩ := h; exact ⟨_, h⟩
  | dead =>
    cases z : H a with
    | none => exact absurd z (fin a h)
    | some o => exact ⟨o, rfl⟩
theorem Wd.cell_ne {a : Addr} (w : Wd K mg F ι H S) (h : a ∈ ι) : H a ≠ none := by
  obtain ⟨n, hn⟩ := List.getElem?_of_mem h
  obtain ⟨c, _, hc⟩ := w.cell_some hn
  obtain ⟨o, ho⟩ := hc.some w.fin
  rw [ho]; simp
theorem Wd.freeze {a : Addr} (w : Wd K mg F ι H S) (h : H a ≠ none) (hc : a ∉ ι) : Wd K mg (fun b => F b ∨ b = a) ι H S := by
  refine ⟨fun b hb => ?_, fun n c b h1 h2 hl z => ?_, w.cnd, w.len, fun n c b h1 h2 => cell_mono (fun _ h => .inl h) (fun _ _ _ h => h) (List.prefix_refl _) (fun _ h => h) c (w.cells n c b h1 h2)⟩
  · rcases hb with hb | rfl
    · exact w.fin b hb
    · exact h
  · rcases z with z | rfl
    · exact w.cnf n c b h1 h2 hl z
    · exact hc (List.mem_of_getElem? h2)
end
end DL
namespace DL
open PySem PySem.Spec L2
open PyProof.Rows hiding St
def LayT (H : Hp) (vs : List V) (Q : VK) : Prop := ∀ p o, BT vs o → H p = none → Q (.ref p) (upd H p o)
section
variable {X : Cx} {pins : List (Addr × Obj)} {σ : St} {H : Hp} {s : Shared} {Q : VK} {vs : List V} {its : List Value}
theorem bt_new {t' : Nat} (J : Inv X pins σ H s) (rv : Vals vs its) (z : vs.length ≤ sizeLine) (q : LayT H vs Q) :
    EP X pins σ Q (.ref s.heap.objs.size) { s with heap := s.heap.push { cls := .type "tuple", data := .seq its.toArray }, toks := t' } :=
  ⟨.ref s.heap.objs.size, upd H s.heap.objs.size (.frz _ (.tup vs)), J.laid (t' := t') (fun b ob hb => Heap.get?_push_of_some _ hb) (Nat.le_refl _) ⟨Heap.get?_push_size _ rfl, z, its, rv, IsTup.new _ _⟩, rfl, q _ _ ⟨_, rfl, rfl⟩ (J.hok.fresh (Nat.le_refl _))⟩
variable {es : List Expr} {ta : TA} {pos : Pos}
def tTupB (ta : TA) : TE := fun σ H Q => ta σ H fun zs H1 => zs.length ≤ sizeLine ∧ LayT H1 zs Q
theorem pe_tupB {x1} (ha : PA X es ta) : PE X (.Tuple es x1 pos) (tTupB ta) := ⟨fun pins s σ H Q J h =>
  wpAny_Tuple_spliced (thn (ha.run pos pins s σ H _ J h) fun us s1 ⟨zs, H1, J1, rv, hz, q⟩ => ⟨by rw [← rv.length]; exact hz, bt_new (t' := s1.toks) J1 rv hz q⟩)⟩
def rCatB (K : PySem.W.Frag) : R2 := fun x y H Q => ∃ a b xs ys, x = .ref a ∧ y = .ref b ∧ SqT K H a xs ∧ SqT K H b ys ∧ xs.length + ys.length ≤ sizeLine ∧
  (xs = [] → Q (.ref b) H) ∧ (xs ≠ [] → ys = [] → Q (.ref a) H) ∧ (xs ≠ [] → ys ≠ [] → LayT H (xs ++ ys) Q)
theorem op_catB : OpR X (binaryOp .Add) (rCatB X.K) := by
  intro pins s σ H x y v u Q J rx ry ⟨a, b, xs, ys, hx, hy, ha, hb, hz, q0, q1, q2⟩
  by_cases h : xs = [] ∨ ys = []
  · refine op_catA pins s σ H x y v u Q J rx ry ⟨a, b, xs, ys, hx, hy, ha, hb, hz, q0, q1, fun n1 n2 => ?_⟩
    rcases h with h | h
    · exact absurd h n1
    · exact absurd h n2
  · have n1 : xs ≠ [] := fun e => h (.inl e)
    have n2 : ys ≠ [] := fun e => h (.inr e)
    subst hx hy
    cases rx
    cases ry
    obtain ⟨us, ra, pa, _⟩ := J.tuple ha
    obtain ⟨ws, rb, pb, _⟩ := J.tuple hb
    refine HT.cat_tup pa pb (fun e => n1 (ra.nil_iff.mp e)) (fun e => absurd (rb.nil_iff.mp e) n2) (fun _ => ?_) (by rw [← ra.length, ← rb.length]; exact hz)
    exact bt_new (t' := s.toks) J (ra.append rb) (by rw [List.length_append]; exact hz) (q2 n1 n2)
def rSlB (K : PySem.W.Frag) : V → Option Int → Option Int → Hp → VK → Prop := fun x lo hi H Q => ∃ a xs, x = .ref a ∧ SqT K H a xs ∧
  (HT.sIx xs.length 0 lo = 0 ∧ HT.sIx xs.length xs.length hi = xs.length → Q (.ref a) H) ∧ (¬ (HT.sIx xs.length 0 lo = 0 ∧ HT.sIx xs.length xs.length hi = xs.length) → LayT H (cutV xs lo hi) Q)
theorem sl_tupB : SlR X (rSlB X.K) := by
  intro pins s σ H x v vl vu lo hi sl Q J rx hs pl pu ⟨a, xs, hx, hq, q1, q2⟩
  by_cases hw : HT.sIx xs.length 0 lo = 0 ∧ HT.sIx xs.length xs.length hi = xs.length
  · exact sl_tupA pins s σ H x v vl vu lo hi sl Q J rx hs pl pu ⟨a, xs, hx, hq, q1, fun n => absurd hw n⟩
  · subst hx
    cases rx
    obtain ⟨us, ra, pt, hz⟩ := J.tuple hq
    have sz : us.toArray.size = xs.length := (List.size_toArray ..).trans ra.length.symm
    refine ⟨"tuple", _, PyProof.Rows.slot_tuple_getitem.lookup, pt.typeIs, HT.getItem_tuple_cut pt hs pl pu (by rw [sz]; exact hw) ?_ (by rw [sz]; exact hz)⟩
    rw [sz]
    exact bt_new (t' := s.toks) J ((ra.drop (HT.sIx xs.length 0 lo)).take (HT.sIx xs.length xs.length hi - HT.sIx xs.length 0 lo)) (Nat.le_trans (cutV_length xs lo hi) hz) (q2 hw)
def rRepB (K : PySem.W.Frag) : R2 := fun x y H Q => ∃ l k xs, x = .ref l ∧ y = .int k ∧ SqT K H l xs ∧ xs ≠ [] ∧ 2 ≤ k ∧ k ≤ 1000 ∧ xs.length ≤ 1000 ∧ LayT H (List.replicate k.toNat xs).flatten Q
end
end DL
namespace DL
open PySem PySem.Spec L2
open PyProof.Rows hiding St
inductive Rs (α : Type) where
  | ok (a : α) (S : List Cell) | ex (c : Str) (ns : List Str) (ds : List D) (S : List Cell) | bad
abbrev Ex (α : Type) := List Sl → List Cell → Rs α
def Rs.andThen {α β : Type} (r : Rs α) (h : α → List Cell → Rs β) : Rs β := match r with
  | .ok a S => h a S
  | .ex c ns ds S => .ex c ns ds S
  | .bad => .bad
@[simp] theorem andThen_ok {α β : Type} (a : α) (S : List Cell) (h : α → List Cell → Rs β) : (Rs.ok a S).andThen h = h a S := rfl
@[simp] theorem andThen_ex {α β : Type} (c ns ds S) (h : α → List Cell → Rs β) : (Rs.ex c ns ds S).andThen h = .ex c ns ds S := rfl
@[simp] theorem andThen_bad {α β : Type} (h : α → List Cell → Rs β) : (Rs.bad).andThen h = .bad := rfl
inductive Fl where
  | nx (e : List Sl) (S : List Cell) | rt (d : D) (S : List Cell) | bk (e : List Sl) (S : List Cell) | ct (e : List Sl) (S : List Cell)
  | ex (c : Str) (ns : List Str) (ds : List D) (e : List Sl) (S : List Cell) | bad
abbrev Sm := List Sl → List Cell → Fl
def Rs.go {α : Type} (r : Rs α) (env : List Sl) (h : α → List Cell → Fl) : Fl := match r with
  | .ok a S => h a S
  | .ex c ns ds S => .ex c ns ds env S
  | .bad => .bad
@[simp] theorem go_ok {α : Type} (a : α) (S : List Cell) (env : List Sl) (h : α → List Cell → Fl) : (Rs.ok a S).go env h = h a S := rfl
@[simp] theorem go_ex {α : Type} (c ns ds S env) (h : α → List Cell → Fl) : (Rs.ex c ns ds S).go env h = .ex c ns ds env S := rfl
@[simp] theorem go_bad {α : Type} (env : List Sl) (h : α → List Cell → Fl) : (Rs.bad).go env h = .bad := rfl
structure Grow (H : Hp) (F : Fz) (ι : List Addr) (H' : Hp) (F' : Fz) (ι' : List Addr) : Prop where
  sub : ∀ a, F a → F' a
  stay : Stay F H H'
  pre : ι <+: ι'
theorem Grow.refl {H : Hp} {F : Fz} {ι : List Addr} : Grow H F ι H F ι := ⟨fun _ h => h, fun _ _ _ h => h, List.prefix_refl _⟩
theorem Grow.trans {H H1 H2 : Hp} {F F1 F2 : Fz} {ι ι1 ι2 : List Addr} (a : Grow H F ι H1 F1 ι1) (b : Grow H1 F1 ι1 H2 F2 ι2) : Grow H F ι H2 F2 ι2 :=
  ⟨fun x h => b.sub x (a.sub x h), fun x o f h => b.stay x o (a.sub x f) (a.stay x o f h), a.pre.trans b.pre⟩
theorem Wd.grow {K : PySem.W.Frag} {mg : Str → Option Value} {H H' : Hp} {F F' : Fz} {ι ι' : List Addr} {S : List Cell} (w : Wd K mg F ι H S) (e : Ext H F ι H' F' ι') : Grow H F ι H' F' ι' := ⟨e.sub, w.stay e, e.pre⟩
def DictAt (K : PySem.W.Frag) (mg : Str → Option Value) (F : Fz) (ι : List Addr) (H : Hp) (d : Option Addr) (ns : List Str) (ds : List D) : Prop :=
  ∃ vs, Reps K mg F ι H ds vs ∧ vs.length = ns.length ∧ ((ns = [] ∧ d = none) ∨ ∃ dd, d = some dd ∧ F dd ∧ H dd = some (.xd (ns.zip vs)))
def ExTo (K : PySem.W.Frag) (mg : Str → Option Value) (g : Snap) (E : EE) (R : Hp → Fz → List Addr → Prop) (c : Str) (ns : List Str) (ds : List D) (σ : St) (env : List Sl) (S : List Cell) : Prop :=
  ∀ C d H' F' ι', mg c = some (.ref C) → RS K mg g σ H' F' ι' env S → R H' F' ι' → DictAt K mg F' ι' H' d ns ds → E σ (.ref C) d H'
section
variable (K : PySem.W.Frag) (mg : Str → Option Value) (g : Snap) (E : EE)
def rdAt {α : Type} (σ : St) (H : Hp) (F : Fz) (ι : List Addr) (env : List Sl) (k : α → Hp → Fz → List Addr → List Cell → Prop) : Rs α → Prop
  | .ok a S' => ∀ H' F' ι', Ext H F ι H' F' ι' → RS K mg g σ H' F' ι' env S' → k a H' F' ι' S'
  | .ex c ns ds S' => ExTo K mg g E (Ext H F ι) c ns ds σ env S'
  | .bad => False
def tV (f : Ex D) : TE := fun σ H Q => ∃ F ι env S, RS K mg g σ H F ι env S ∧ rdAt K mg g E σ H F ι env (fun d H' F' ι' _ => ∀ v, Rep K mg F' ι' H' d v → Q v H') (f env S)
def tT (f : Ex Bool) : TT := fun σ H Q => ∃ F ι env S, RS K mg g σ H F ι env S ∧ rdAt K mg g E σ H F ι env (fun b H' _ _ _ => Q b H') (f env S)
def tAr (f : Ex (List D)) : TA := fun σ H Q => ∃ F ι env S, RS K mg g σ H F ι env S ∧ rdAt K mg g E σ H F ι env (fun ds H' F' ι' _ => ∀ vs, Reps K mg F' ι' H' ds vs → Q vs H') (f env S)
def tO (f : Ex (List D)) : TE := fun σ H Q => ∃ F ι env S, RS K mg g σ H F ι env S ∧
  rdAt K mg g E σ H F ι env (fun ds H' F' ι' _ => ∀ a vs, H' a = some (.lst vs) → Reps K mg F' ι' H' ds vs → ¬ F' a → a ∉ ι' → H a = none → Q (.ref a) H') (f env S)
def flAt (H : Hp) (F : Fz) (ι : List Addr) (D : Ends) : Fl → Prop
  | .nx env' S' => ∀ σ' H' F' ι', RS K mg g σ' H' F' ι' env' S' → Grow H F ι H' F' ι' → D.nx σ' H'
  | .bk env' S' => ∀ σ' H' F' ι', RS K mg g σ' H' F' ι' env' S' → Grow H F ι H' F' ι' → D.bk σ' H'
  | .ct env' S' => ∀ σ' H' F' ι', RS K mg g σ' H' F' ι' env' S' → Grow H F ι H' F' ι' → D.ct σ' H'
  | .rt d S' => ∀ v H' F' ι', Ext g.H0 g.F0 g.ι0 H' F' ι' → Wd K mg F' ι' H' S' → Rep K mg F' ι' H' d v → D.rt v H'
  | .ex c ns ds env' S' => ∀ σ', ExTo K mg g E (Grow H F ι) c ns ds σ' env' S'
  | .bad => False
def tS (m : Sm) : TS := fun D σ H => ∃ F ι env S, RS K mg g σ H F ι env S ∧ flAt K mg g E H F ι D (m env S)
end
def VE (X : Cx) (E : EE) (e : Expr) (f : Ex D) : Prop := ∀ g, PE X e (tV X.K X.mg g E f)
def VT (X : Cx) (E : EE) (e : Expr) (f : Ex Bool) : Prop := ∀ g, PT X e (tT X.K X.mg g E f)
def VA (X : Cx) (E : EE) (es : List Expr) (f : Ex (List D)) : Prop := ∀ g, PA X es (tAr X.K X.mg g E f)
def VO (X : Cx) (E : EE) (e : Expr) (f : Ex (List D)) : Prop := ∀ g, PE X e (tO X.K X.mg g E f)
def VS (X : Cx) (E : EE) (st : Stmt) (m : Sm) : Prop := ∀ g, PS X st (tS X.K X.mg g E m)
def VB (X : Cx) (E : EE) (sts : List Stmt) (m : Sm) : Prop := ∀ g, PSs X sts (tS X.K X.mg g E m)
theorem _root_.L2.PE.imp {X : Cx} {e : Expr} {t t' : TE} (p : PE X e t) (h : ∀ σ H Q, t' σ H Q → t σ H Q) : PE X e t' := ⟨fun pins s σ H Q I q => p.run pins s σ H Q I (h σ H Q q)⟩
theorem _root_.L2.PT.imp {X : Cx} {e : Expr} {t t' : TT} (p : PT X e t) (h : ∀ σ H Q, t' σ H Q → t σ H Q) : PT X e t' := ⟨fun pins s σ H Q I q => p.run pins s σ H Q I (h σ H Q q)⟩
theorem _root_.L2.PA.imp {X : Cx} {e : List Expr} {t t' : TA} (p : PA X e t) (h : ∀ σ H Q, t' σ H Q → t σ H Q) : PA X e t' := ⟨fun pos pins s σ H Q I q => p.run pos pins s σ H Q I (h σ H Q q)⟩
theorem _root_.L2.PS.imp {X : Cx} {e : Stmt} {t t' : TS} (p : PS X e t) (h : ∀ D σ H, t' D σ H → t D σ H) : PS X e t' := ⟨fun pins s σ H D I q => p.run pins s σ H D I (h D σ H q)⟩
theorem _root_.L2.PSs.imp {X : Cx} {e : List Stmt} {t t' : TS} (p : PSs X e t) (h : ∀ D σ H, t' D σ H → t D σ H) : PSs X e t' := ⟨fun pins s σ H D I q => p.run pins s σ H D I (h D σ H q)⟩
section
variable {K : PySem.W.Frag} {mg : Str → Option Value} {g : Snap} {E : EE} {σ : St} {H H' : Hp} {F F' : Fz} {ι ι' : List Addr} {env : List Sl} {S S' : List Cell}
theorem rd_then {α β : Type} {r : Rs α} {h : α → List Cell → Rs β} {k : β → Hp → Fz → List Addr → List Cell → Prop}
    (q : rdAt K mg g E σ H F ι env k (r.andThen h)) :
    rdAt K mg g E σ H F ι env (fun a H1 F1 ι1 S1 => Ext H F ι H1 F1 ι1 ∧ RS K mg g σ H1 F1 ι1 env S1 ∧
      rdAt K mg g E σ H1 F1 ι1 env (fun b H2 F2 ι2 S2 => Ext H1 F1 ι1 H2 F2 ι2 ∧ RS K mg g σ H2 F2 ι2 env S2 ∧ k b H2 F2 ι2 S2) (h a S1)) r := by
  cases r with
  | bad => exact q
  | ex c ns ds S1 => exact q
  | ok a S1 =>
    intro H1 F1 ι1 e1 r1
    refine ⟨e1, r1, ?_⟩
    show rdAt K mg g E σ H1 F1 ι1 env _ (h a S1)
    have q : rdAt K mg g E σ H F ι env k (h a S1) := q
    revert q
    cases h a S1 with
    | bad => exact id
    | ex c ns ds S2 => exact fun q C d H' F' ι' hc w' r' hd => q C d H' F' ι' hc w' (e1.trans r') hd
    | ok b S2 => exact fun q H2 F2 ι2 e2 r2 => ⟨e2, r2, q H2 F2 ι2 (e1.trans e2) r2⟩
theorem rd_mono {α : Type} {r : Rs α} {k k' : α → Hp → Fz → List Addr → List Cell → Prop} (q : rdAt K mg g E σ H F ι env k r)
    (h : ∀ a H1 F1 ι1 S1, r = .ok a S1 → Ext H F ι H1 F1 ι1 → RS K mg g σ H1 F1 ι1 env S1 → k a H1 F1 ι1 S1 → k' a H1 F1 ι1 S1) : rdAt K mg g E σ H F ι env k' r := by
  cases r with
  | bad => exact q
  | ex c ns ds S1 => exact q
  | ok a S1 => exact fun H1 F1 ι1 e1 r1 => h a H1 F1 ι1 S1 rfl e1 r1 (q H1 F1 ι1 e1 r1)
theorem fl_grow {D : Ends} (w : Grow H F ι H' F' ι') : ∀ {fl : Fl}, flAt K mg g E H F ι D fl → flAt K mg g E H' F' ι' D fl
  | .nx _ _, q => fun σ2 H2 F2 ι2 r e => q σ2 H2 F2 ι2 r (w.trans e)
  | .bk _ _, q => fun σ2 H2 F2 ι2 r e => q σ2 H2 F2 ι2 r (w.trans e)
  | .ct _ _, q => fun σ2 H2 F2 ι2 r e => q σ2 H2 F2 ι2 r (w.trans e)
  | .rt _ _, q => q
  | .ex _ _ _ _ _, q => fun σ' C d H' F' ι' hc w' r' hd => q σ' C d H' F' ι' hc w' (w.trans r') hd
  | .bad, q => q
theorem rd_go {α : Type} {r : Rs α} {h : α → List Cell → Fl} {D : Ends} (w : Wd K mg F ι H S) (q : flAt K mg g E H F ι D (r.go env h)) :
    rdAt K mg g E σ H F ι env (fun a H1 F1 ι1 S1 => Ext H F ι H1 F1 ι1 ∧ RS K mg g σ H1 F1 ι1 env S1 ∧ flAt K mg g E H1 F1 ι1 D (h a S1)) r := by
  cases r with
  | bad => exact q
  | ex c ns ds S1 => exact fun C d H' F' ι' hc w' r' hd => q σ C d H' F' ι' hc w' (w.grow r') hd
  | ok a S1 => exact fun H1 F1 ι1 e1 r1 => ⟨e1, r1, fl_grow (w.grow e1) q⟩
def Told (K : PySem.W.Frag) (mg : Str → Option Value) (H : Hp) (F : Fz) (ι : List Addr) (S : List Cell) (d : D) (Q : VK) : Prop :=
  ∀ v H' F' ι', Ext H F ι H' F' ι' → Wd K mg F' ι' H' S → Rep K mg F' ι' H' d v → Q v H'
def ToldO (K : PySem.W.Frag) (mg : Str → Option Value) (H : Hp) (F : Fz) (ι : List Addr) (S : List Cell) (ds : List D) (Q : VK) : Prop :=
  ∀ a vs H', Ext H F ι H' F ι → Wd K mg F ι H' S → H' a = some (.lst vs) → Reps K mg F ι H' ds vs → ¬ F a → a ∉ ι → H a = none → Q (.ref a) H'
theorem Told.here {d : D} {v : V} {Q : VK} (t : Told K mg H F ι S d Q) (w : Wd K mg F ι H S) (r : Rep K mg F ι H d v) : Q v H := t v H F ι Ext.refl w r
theorem Told.own {ds : List D} {Q : VK} (t : Told K mg H F ι S (.lst ds) Q) : ToldO K mg H F ι S ds Q := by
  intro a vs H' e w h r nf nc n
  refine t (.ref a) H' (fun b => F b ∨ b = a) ι ⟨fun b hb => .inl hb, fun b hb => ?_, e.keep, e.mono, List.prefix_refl _, fun b hb => .inl hb⟩ (w.freeze (by rw [h]; simp) nc) ?_
  · rcases hb with hb | rfl
    · exact .inl hb
    · exact .inr n
  · exact ⟨a, vs, rfl, ⟨.inr rfl, h⟩, reps_mono (fun _ h => .inl h) (fun _ _ _ h => h) (List.prefix_refl _) ds vs r⟩
theorem ToldO.lay {ds : List D} {vs : List V} {Q : VK} {p : Addr} (t : ToldO K mg H F ι S ds Q) (w : Wd K mg F ι H S) (r : Reps K mg F ι H ds vs) (n : H p = none) : Q (.ref p) (upd H p (.lst vs)) := by
  obtain ⟨e, w'⟩ := w.layO (o := .lst vs) n
  exact t p vs _ e w' upd_same (w.reps e r) (fun z => w.fin p z n) (fun z => w.cell_ne z n) n
theorem Told.layT {ds : List D} {vs : List V} {Q : VK} (t : Told K mg H F ι S (.tup ds) Q) (w : Wd K mg F ι H S) (r : Reps K mg F ι H ds vs) : LayT H vs Q := by
  intro p o b n
  obtain ⟨e, w'⟩ := w.lay (o := o) n
  exact t (.ref p) _ _ _ e w' ⟨p, vs, rfl, .inl ⟨.inr rfl, o, b, upd_same⟩, w.reps e r⟩
end
section
variable {X : Cx} {E : EE} {a b c e o : Expr} {es : List Expr} {f h k : Ex D} {p q : Ex Bool} {fa : Ex (List D)} {pos : Pos}
def mVar (i : Nat) : Ex D := fun env S => match env[i]? with
  | some (.val d) => .ok d S
  | _ => .bad
theorem v_of_pe {i : Nat} (h : PE X e (tVar i)) : VE X E e (mVar i) := fun g => h.imp fun σ H Q ⟨F, ι, env, S, r, q⟩ => by
  unfold mVar at q
  split at q
  · rename_i d hd
    obtain ⟨v, h1, h2⟩ := r.slot i d hd
    exact ⟨v, h1, q H F ι Ext.refl r v h2⟩
  · exact q.elim
theorem v_var (i : Nat) {x : Str} {pos : Pos} (hN : X.N[i]? = some x := by rfl) (hv : Vis X.env.scope x := by first | exact Or.inl rfl | exact Or.inr (Or.inl rfl) | exact Or.inr (Or.inr rfl))
    (hd : (x == ("__debug__" : Str)) = false := by decide) (hcd : (x == ("__classdict__" : Str)) = false := by decide) : VE X E (.Name x pos) (mVar i) := v_of_pe (pe_var hN hv hd hcd)
def mC (d : D) : Ex D := fun _ S => .ok d S
theorem v_const {d : D} {v : V} (h : PE X e (tC v)) (r : ∀ F ι H, Rep X.K X.mg F ι H d v) : VE X E e (mC d) := fun g => h.imp fun σ H Q ⟨F, ι, env, S, w, q⟩ => q H F ι Ext.refl w v (r F ι H)
theorem v_int {i j pos} : VE X E (.Constant (.int i) j pos) (mC (.int i)) := v_const pe_int fun _ _ _ => rfl
theorem v_bl {i j pos} : VE X E (.Constant (.bool i) j pos) (mC (.bl i)) := v_const pe_bl fun _ _ _ => rfl
theorem v_non {j pos} : VE X E (.Constant .none j pos) (mC .non) := v_const pe_non fun _ _ _ => rfl
theorem v_str {x j pos} : VE X E (.Constant (.str x) j pos) (mC (.str x)) := v_const pe_str fun _ _ _ => rfl
theorem v_glob {x : Str} {d : D} {v : V} {u : Value} (hg : Gl X x) (hm : X.mg x = some u) (r : RelV v u) (hr : ∀ F ι H, Rep X.K X.mg F ι H d v) (hd : (x == ("__debug__" : Str)) = false := by decide) :
    VE X E (.Name x pos) (mC d) := v_const (pe_glob hg hm r hd) hr
abbrev Op1 := D → List Cell → Option D
abbrev Op2 := D → D → List Cell → Option D
abbrev OpN := List D → List Cell → Option D
def ofO (o : Option D) (S : List Cell) : Rs D := match o with
  | some d => .ok d S
  | none => .bad
@[simp] theorem ofO_some (d : D) (S : List Cell) : ofO (some d) S = .ok d S := rfl
@[simp] theorem ofO_none (S : List Cell) : ofO none S = .bad := rfl
def Ok2 (K : PySem.W.Frag) (mg : Str → Option Value) (r : R2) (op : Op2) : Prop :=
  ∀ H F ι S x y d v u Q, Wd K mg F ι H S → Rep K mg F ι H x v → Rep K mg F ι H y u → op x y S = some d → Told K mg H F ι S d Q → r v u H Q
def Ok1 (K : PySem.W.Frag) (mg : Str → Option Value) (r : V → Hp → VK → Prop) (op : Op1) : Prop :=
  ∀ H F ι S x d v Q, Wd K mg F ι H S → Rep K mg F ι H x v → op x S = some d → Told K mg H F ι S d Q → r v H Q
def OkN (K : PySem.W.Frag) (mg : Str → Option Value) (r : List V → Hp → VK → Prop) (op : OpN) : Prop :=
  ∀ H F ι S xs d vs Q, Wd K mg F ι H S → Reps K mg F ι H xs vs → op xs S = some d → Told K mg H F ι S d Q → r vs H Q
def mOp (op : Op2) (f h : Ex D) : Ex D := fun env S => (f env S).andThen fun x S1 => (h env S1).andThen fun y S2 => ofO (op x y S2) S2
def mUn (op : Op1) (f : Ex D) : Ex D := fun env S => (f env S).andThen fun x S1 => ofO (op x S1) S1
theorem op2_imp {g : Snap} {r : R2} {op : Op2} (ok : Ok2 X.K X.mg r op) : ∀ σ H Q, tV X.K X.mg g E (mOp op f h) σ H Q → tOp r (tV X.K X.mg g E f) (tV X.K X.mg g E h) σ H Q := by
  rintro σ H Q ⟨F, ι, env, S, w, q⟩
  refine ⟨F, ι, env, S, w, rd_mono (rd_then q) ?_⟩
  rintro x H1 F1 ι1 S1 - e1 w1 ⟨_, _, q1⟩ v hv
  refine ⟨F1, ι1, env, S1, w1, rd_mono (rd_then q1) ?_⟩
  rintro y H2 F2 ι2 S2 - e2 w2 ⟨_, _, q2⟩ u hu
  cases ho : op x y S2 with
  | none => rw [ho] at q2; exact q2.elim
  | some d =>
    rw [ho] at q2
    refine ok H2 F2 ι2 S2 x y d v u Q w2.wd (w1.wd.rep e2 hv) hu ho fun v' H' F' ι' e' w' hv' => ?_
    exact (q2 H' F' ι' e' (w2.step e' w')).2.2.2.2 v' hv'
theorem v_op {o : Operator} {r : R2} {op : Op2} (ho : OpR X (binaryOp o) r) (ok : Ok2 X.K X.mg r op) (ha : VE X E a f) (hb : VE X E b h) : VE X E (.BinOp a o b pos) (mOp op f h) :=
  fun g => (pe_op ho (ha g) (hb g)).imp (op2_imp ok)
theorem v_cmp {o : CmpOp} {r : R2} {op : Op2} (ho : OpR X (compareOp o) r) (ok : Ok2 X.K X.mg r op) (ha : VE X E a f) (hb : VE X E b h) (hm : behindInMarks o b = false) :
    VE X E (.Compare a [o] [b] pos) (mOp op f h) := fun g => (pe_cmpR ho (ha g) (hb g) hm).imp (op2_imp ok)
theorem v_un {o : UnaryOp} {r : V → Hp → VK → Prop} {op : Op1} (ho : UnR X (unaryOp o) r) (ok : Ok1 X.K X.mg r op) (ha : VE X E a f) : VE X E (.UnaryOp o a pos) (mUn op f) := fun g =>
  (pe_un ho (ha g)).imp fun σ H Q ⟨F, ι, env, S, w, q⟩ => ⟨F, ι, env, S, w, rd_mono (rd_then q) fun x H1 F1 ι1 S1 _ e1 w1 ⟨_, _, q1⟩ v hv => by
    cases ho : op x S1 with
    | none => rw [ho] at q1; exact q1.elim
    | some d =>
      rw [ho] at q1
      exact ok H1 F1 ι1 S1 x d v Q w1.wd hv ho fun v' H' F' ι' e' w' hv' => (q1 H' F' ι' e' (w1.step e' w')).2.2 v' hv'⟩
theorem v_ix {r : R2} {op : Op2} (hi : IxR X r) (ok : Ok2 X.K X.mg r op) (ha : VE X E a f) (hb : VE X E b h) (hs : PlainIxT b) : VE X E (.Subscript a b pos) (mOp op f h) :=
  fun g => (pe_ix hi (ha g) (hb g) hs).imp (op2_imp ok)
def mNil : Ex (List D) := fun _ S => .ok [] S
def mCons (f : Ex D) (r : Ex (List D)) : Ex (List D) := fun env S => (f env S).andThen fun x S1 => (r env S1).andThen fun xs S2 => .ok (x :: xs) S2
theorem a_nil : VA X E [] mNil := fun g => pa_nil.imp fun σ H Q ⟨F, ι, env, S, w, q⟩ => q H F ι Ext.refl w [] rfl
theorem a_cons (he : VE X E e f) (hr : VA X E es fa) (hs : starEach (e :: es) X.env = (false, eval e X.env) :: starEach es X.env := by rfl) : VA X E (e :: es) (mCons f fa) := fun g =>
  (pa_cons (he g) (hr g) hs).imp fun σ H Q ⟨F, ι, env, S, w, q⟩ => ⟨F, ι, env, S, w, rd_mono (rd_then q) fun x H1 F1 ι1 S1 _ e1 w1 ⟨_, _, q1⟩ v hv =>
    ⟨F1, ι1, env, S1, w1, rd_mono (rd_then q1) fun xs H2 F2 ι2 S2 _ e2 w2 ⟨_, _, q2⟩ vs hvs => (q2 H2 F2 ι2 Ext.refl w2).2.2.2.2 (v :: vs) ⟨v, vs, rfl, w1.wd.rep e2 hv, hvs⟩⟩⟩
def mTup (f : Ex (List D)) : Ex D := fun env S => (f env S).andThen fun xs S1 => if xs.length ≤ 100000 then .ok (.tup xs) S1 else .bad
theorem v_tup {x1} (ha : VA X E es fa) : VE X E (.Tuple es x1 pos) (mTup fa) := fun g => (pe_tupB (ha g)).imp fun σ H Q ⟨F, ι, env, S, w, q⟩ =>
  ⟨F, ι, env, S, w, rd_mono (rd_then q) fun xs H1 F1 ι1 S1 _ e1 w1 ⟨_, _, q1⟩ vs hvs => by
    by_cases hl : xs.length ≤ 100000
    · rw [if_pos hl] at q1
      refine ⟨Nat.le_trans (by rw [hvs.len]; exact hl) (by decide), ?_⟩
      exact Told.layT (fun v' H' F' ι' e' w' hv' => (q1 H' F' ι' e' (w1.step e' w')).2.2 v' hv') w1.wd hvs
    · rw [if_neg hl] at q1
      exact q1.elim⟩
def mLst (f : Ex (List D)) : Ex (List D) := fun env S => (f env S).andThen fun xs S1 => if xs.length ≤ 100000 then .ok xs S1 else .bad
theorem o_lst (ha : VA X E es fa) : VO X E (.List es pos) (mLst fa) := fun g => (pe_lst (ha g)).imp fun σ H Q ⟨F, ι, env, S, w, q⟩ =>
  ⟨F, ι, env, S, w, rd_mono (rd_then q) fun xs H1 F1 ι1 S1 _ e1 w1 ⟨_, _, q1⟩ vs hvs => by
    by_cases hl : xs.length ≤ 100000
    · rw [if_pos hl] at q1
      refine ⟨Nat.le_trans (by rw [hvs.len]; exact hl) (by decide), fun p hp => ?_⟩
      obtain ⟨e', w'⟩ := w1.wd.layO (o := .lst vs) hp
      exact (q1 _ _ _ e' (w1.step e' w')).2.2 p vs upd_same (w1.wd.reps e' hvs) (fun z => w1.wd.fin p z hp) (fun z => w1.wd.cell_ne z hp) (e1.mono p hp)
    · rw [if_neg hl] at q1
      exact q1.elim⟩
def mFr (f : Ex (List D)) : Ex D := fun env S => (f env S).andThen fun xs S1 => .ok (.lst xs) S1
theorem v_fr (h : VO X E e fa) : VE X E e (mFr fa) := fun g => (h g).imp fun σ H Q ⟨F, ι, env, S, w, q⟩ => ⟨F, ι, env, S, w, by
  unfold mFr at q
  cases hf : fa env S with
  | bad => rw [hf] at q; exact q
  | ex c ns ds S1 => rw [hf] at q; exact q
  | ok xs S1 =>
    rw [hf] at q
    intro H1 F1 ι1 e1 w1 a vs h1 r nf nc n
    have w2 := w1.wd.freeze (a := a) (by rw [h1]; simp) nc
    have e2 : Ext H F ι H1 (fun b => F1 b ∨ b = a) ι1 := ⟨fun b hb => .inl (e1.sub b hb), fun b hb => by
      rcases hb with hb | rfl
      · exact e1.new b hb
      · exact .inr n, e1.keep, e1.mono, e1.pre, e1.cnew⟩
    exact q H1 (fun b => F1 b ∨ b = a) ι1 e2 (w.step e2 w2) (.ref a) ⟨a, vs, rfl, ⟨.inr rfl, h1⟩, reps_mono (fun _ h => .inl h) (fun _ _ _ h => h) (List.prefix_refl _) xs vs r⟩⟩
end
end DL
namespace DL
open PySem PySem.Spec L2
open PyProof.Rows hiding St
section
variable {X : Cx} {E : EE} {a b c e o : Expr} {es rest : List Expr} {f h k : Ex D} {p q : Ex Bool} {fa : Ex (List D)} {pos : Pos}
def asB : D → List Cell → Rs Bool
  | .bl b, S => .ok b S
  | _, _ => .bad
@[simp] theorem asB_bl (b : Bool) (S : List Cell) : asB (.bl b) S = .ok b S := rfl
def mB (f : Ex D) : Ex Bool := fun env S => (f env S).andThen asB
theorem tB_imp {g : Snap} : ∀ σ H Q, tT X.K X.mg g E (mB f) σ H Q → tV X.K X.mg g E f σ H fun x H1 => ∃ c, x = .bl c ∧ Q c H1 := by
  rintro σ H Q ⟨F, ι, env, S, w, q⟩
  refine ⟨F, ι, env, S, w, rd_mono (rd_then q) ?_⟩
  rintro d H1 F1 ι1 S1 - e1 w1 ⟨_, _, q1⟩ v hv
  cases d with
  | bl b => exact ⟨b, hv, (q1 H1 F1 ι1 Ext.refl w1).2.2⟩
  | _ => exact q1.elim
theorem t_cmp {o : CmpOp} {r : R2} {op : Op2} (ho : OpR X (compareOp o) r) (ok : Ok2 X.K X.mg r op) (ha : VE X E a f) (hb : VE X E b h) (hm : behindInMarks o b = false) :
    VT X E (.Compare a [o] [b] pos) (mB (mOp op f h)) := fun g => (pt_cmpR ho (ha g) (hb g) hm).imp fun σ H Q q => op2_imp ok σ H _ (tV_imp_of q) where
  tV_imp_of {g : Snap} {σ : St} {H : Hp} {Q : Bool → Hp → Prop} {f : Ex D} (q : tT X.K X.mg g E (mB f) σ H Q) : tV X.K X.mg g E f σ H fun x H1 => ∃ c, x = .bl c ∧ Q c H1 := tB_imp σ H Q q
def mNot (p : Ex Bool) : Ex Bool := fun env S => (p env S).andThen fun b S1 => .ok (!b) S1
def VW (X : Cx) (E : EE) (e : Expr) (p : Ex Bool) : Prop := ∀ g, PW X e (tT X.K X.mg g E p)
theorem _root_.L2.PW.imp {X : Cx} {e : Expr} {t t' : TT} (p : PW X e t) (h : ∀ σ H Q, t' σ H Q → t σ H Q) : PW X e t' := ⟨fun whole pins s σ H Q I q => p.run whole pins s σ H Q I (h σ H Q q)⟩
def mAnd (p q : Ex Bool) : Ex Bool := fun env S => (p env S).andThen fun b S1 => if b = true then q env S1 else .ok false S1
def mOr (p q : Ex Bool) : Ex Bool := fun env S => (p env S).andThen fun b S1 => if b = true then .ok true S1 else q env S1
def mBD (p : Ex Bool) : Ex D := fun env S => (p env S).andThen fun b S1 => .ok (.bl b) S1
def mAndV (f h : Ex D) : Ex D := fun env S => (mB f env S).andThen fun b S1 => if b = true then h env S1 else .ok (.bl false) S1
def mOrV (f h : Ex D) : Ex D := fun env S => (mB f env S).andThen fun b S1 => if b = true then .ok (.bl true) S1 else h env S1
def mNotV (f : Ex D) : Ex D := fun env S => (mB f env S).andThen fun b S1 => .ok (.bl (!b)) S1
theorem rd_B {g : Snap} {σ : St} {H : Hp} {F : Fz} {ι : List Addr} {env : List Sl} {k : Bool → Hp → Fz → List Addr → List Cell → Prop} {r : Rs D}
    (q : rdAt X.K X.mg g E σ H F ι env k (r.andThen asB)) : rdAt X.K X.mg g E σ H F ι env (fun d H1 F1 ι1 S1 => ∃ b, d = .bl b ∧ k b H1 F1 ι1 S1) r := by
  refine rd_mono (rd_then q) ?_
  rintro d H1 F1 ι1 S1 - e1 w1 ⟨_, _, q1⟩
  cases d with
  | bl b => exact ⟨b, rfl, (q1 H1 F1 ι1 Ext.refl w1).2.2⟩
  | _ => exact q1.elim
theorem v_and (ha : VE X E a f) (hb : VE X E (.BoolOp .And (b :: rest) pos) h) : VE X E (.BoolOp .And (a :: b :: rest) pos) (mAndV f h) := fun g => (pe_and (ha g) (hb g)).imp fun σ H Q ⟨F, ι, env, S, w, q⟩ =>
  ⟨F, ι, env, S, w, rd_mono (rd_B (rd_then q)) fun d H1 F1 ι1 S1 _ e1 w1 ⟨b, hd, _, _, q1⟩ v hv => by
    subst hd
    refine ⟨b, hv, ?_⟩
    cases b with
    | true => exact ⟨F1, ι1, env, S1, w1, rd_mono q1 fun _ _ _ _ _ _ _ _ z => z.2.2⟩
    | false => exact (q1 H1 F1 ι1 Ext.refl w1).2.2 _ rfl⟩
theorem v_and1 (ha : VE X E a f) : VE X E (.BoolOp .And [a] pos) f := fun g => pe_one (ha g)
def mIf (p : Ex Bool) (f h : Ex D) : Ex D := fun env S => (p env S).andThen fun b S1 => if b = true then f env S1 else h env S1
theorem v_if (hp : VT X E c p) (ha : VE X E a f) (hb : VE X E b h) : VE X E (.IfExp c a b pos) (mIf p f h) := fun g => (pe_ifExp (hp g) (ha g) (hb g)).imp fun σ H Q ⟨F, ι, env, S, w, q⟩ =>
  ⟨F, ι, env, S, w, rd_mono (rd_then q) fun b H1 F1 ι1 S1 _ e1 w1 ⟨_, _, q1⟩ => by
    cases b with
    | true => exact ⟨F1, ι1, env, S1, w1, rd_mono q1 fun _ _ _ _ _ _ _ _ z => z.2.2⟩
    | false => exact ⟨F1, ι1, env, S1, w1, rd_mono q1 fun _ _ _ _ _ _ _ _ z => z.2.2⟩⟩
def mChain (op op' : Op2) (f h k : Ex D) : Ex D := fun env S => (f env S).andThen fun x S1 => (h env S1).andThen fun y S2 => ((ofO (op x y S2) S2).andThen asB).andThen fun b S3 =>
  if b = true then (k env S3).andThen fun z S4 => ofO (op' y z S4) S4 else .ok (.bl false) S3
def mCall (op : OpN) (fa : Ex (List D)) : Ex D := fun env S => (fa env S).andThen fun xs S1 => ofO (op xs S1) S1
theorem cb_imp {g : Snap} {r : List V → Hp → VK → Prop} {op : OpN} (ok : OkN X.K X.mg r op) : ∀ σ H Q, tV X.K X.mg g E (mCall op fa) σ H Q → tCB r (tAr X.K X.mg g E fa) σ H Q := by
  rintro σ H Q ⟨F, ι, env, S, w, q⟩
  refine ⟨F, ι, env, S, w, rd_mono (rd_then q) ?_⟩
  rintro xs H1 F1 ι1 S1 - e1 w1 ⟨_, _, q1⟩ vs hvs
  cases ho : op xs S1 with
  | none => rw [ho] at q1; exact q1.elim
  | some d =>
    rw [ho] at q1
    exact ok H1 F1 ι1 S1 xs d vs Q w1.wd hvs ho fun v' H' F' ι' e' w' hv' => (q1 H' F' ι' e' (w1.step e' w')).2.2 v' hv'
theorem v_callB {x : Str} {p : Pos} {id : String} {r : List V → Hp → VK → Prop} {op : OpN} (hc : CallR X (.builtin id) r) (ok : OkN X.K X.mg r op) (hg : Gl X x) (hm : X.mg x = none) (hv : bootBuiltins x = some (.builtin id))
    (ha : VA X E (e :: es) fa) (hn : x ≠ "__name__" := by decide) (hd : (x == ("__debug__" : Str)) = false := by decide)
    (h1 : starEach (e :: es) X.env = (false, eval e X.env) :: starEach es X.env := by rfl) (h2 : (backTo pos (starEach es X.env)).any (·.1) = false := by rfl) :
    VE X E (.Call (.Name x p) (e :: es) [] pos) (mCall op fa) := fun g => (pe_callB hc hg hm hv (ha g) hn hd h1 h2).imp (cb_imp ok)
theorem v_callTy {x : Str} {p : Pos} {T : String} {r : List V → Hp → VK → Prop} {op : OpN} (hc : CallR X (.type T) r) (ok : OkN X.K X.mg r op) (hg : Gl X x) (hm : X.mg x = none) (hv : bootBuiltins x = some (.type T))
    (ha : VA X E (e :: es) fa) (hn : x ≠ "__name__" := by decide) (hd : (x == ("__debug__" : Str)) = false := by decide)
    (h1 : starEach (e :: es) X.env = (false, eval e X.env) :: starEach es X.env := by rfl) (h2 : (backTo pos (starEach es X.env)).any (·.1) = false := by rfl) :
    VE X E (.Call (.Name x p) (e :: es) [] pos) (mCall op fa) := fun g => (pe_callTy hc hg hm hv (ha g) hn hd h1 h2).imp (cb_imp ok)
abbrev Fn := List D → List Cell → Rs D
def SpM (K : PySem.W.Frag) (mg : Str → Option Value) (n : Nat) (m : Fn) : Sp := fun vs H Q E => vs.length = n ∧ ∃ F ι ds S, Wd K mg F ι H S ∧ Reps K mg F ι H ds vs ∧ match m ds S with
  | .ok d S' => ∀ v H' F' ι', Ext H F ι H' F' ι' → Wd K mg F' ι' H' S' → Rep K mg F' ι' H' d v → Q v H'
  | .ex c ns es S' => ∀ C d H' F' ι', mg c = some (.ref C) → Ext H F ι H' F' ι' → Wd K mg F' ι' H' S' → DictAt K mg F' ι' H' d ns es → E (.ref C) d H'
  | .bad => False
def mFn (n : Nat) (m : Fn) (fa : Ex (List D)) : Ex D := fun env S => (fa env S).andThen fun xs S1 => if xs.length = n then m xs S1 else .bad
theorem sp_of {g : Snap} {σ : St} {H1 : Hp} {F1 : Fz} {ι1 : List Addr} {env : List Sl} {S1 : List Cell} {xs : List D} {vs : List V} {n : Nat} {m : Fn} {k : D → Hp → Fz → List Addr → List Cell → Prop} {Q : VK}
    (w1 : RS X.K X.mg g σ H1 F1 ι1 env S1) (hvs : Reps X.K X.mg F1 ι1 H1 xs vs) (q1 : rdAt X.K X.mg g E σ H1 F1 ι1 env k (if xs.length = n then m xs S1 else .bad))
    (hk : ∀ d H' F' ι' S', k d H' F' ι' S' → ∀ v, Rep X.K X.mg F' ι' H' d v → Q v H') : SpM X.K X.mg n m vs H1 Q (E σ) := by
  by_cases hl : xs.length = n
  · rw [if_pos hl] at q1
    refine ⟨hvs.len.trans hl, F1, ι1, xs, S1, w1.wd, hvs, ?_⟩
    cases hm : m xs S1 with
    | bad => rw [hm] at q1; exact q1.elim
    | ex c ns ds S2 =>
      rw [hm] at q1
      exact fun C d H' F' ι' hc e w hd => q1 C d H' F' ι' hc (w1.step e w) e hd
    | ok d S2 =>
      rw [hm] at q1
      exact fun v H' F' ι' e w hv => hk _ _ _ _ _ (q1 H' F' ι' e (w1.step e w)) v hv
  · rw [if_neg hl] at q1
    exact q1.elim
theorem fn_imp {g : Snap} {n : Nat} {m : Fn} : ∀ σ H Q, tV X.K X.mg g E (mFn n m fa) σ H Q → tCallG (SpM X.K X.mg n m) E (tAr X.K X.mg g E fa) σ H Q := by
  rintro σ H Q ⟨F, ι, env, S, w, q⟩
  refine ⟨F, ι, env, S, w, rd_mono (rd_then q) ?_⟩
  rintro xs H1 F1 ι1 S1 - e1 w1 ⟨_, _, q1⟩ vs hvs
  exact sp_of w1 hvs q1 fun d H' F' ι' S' z v hv => z.2.2 v hv
theorem v_call {x : Str} {p : Pos} {i : Nat} {fx : Addr} {fd : FuncData} {ps : List Str} {n : Nat} {m : Fn} (G : FnG X.prog X.w X.K X.mg X.base i fx fd ps (SpM X.K X.mg n m)) (rm : Rm i X.A) (hm : X.mg x = some (.ref fx))
    (hk : PySem.W.keepIn X.K (.ref fx) = true) (hb : Binds X.K fd ps []) (px : Px X E) (ha : VA X E (e :: es) fa) (hg : Gl X x := by rfl)
    (hd : (x == ("__debug__" : Str)) = false := by decide)
    (h1 : starEach (e :: es) X.env = (false, eval e X.env) :: starEach es X.env := by rfl) (h2 : (backTo pos (starEach es X.env)).any (·.1) = false := by rfl) :
    VE X E (.Call (.Name x p) (e :: es) [] pos) (mFn n m fa) := fun g => (pe_callG G rm hg hm hk hb px (ha g) hd h1 h2).imp fn_imp
end
section
variable {K : PySem.W.Frag} {mg : Str → Option Value} {g : Snap} {σ : St} {H H' : Hp} {F F' : Fz} {ι ι' : List Addr} {env : List Sl} {S S' : List Cell}
theorem RS.put {d : D} {v : V} (r : RS K mg g σ H F ι env S) (i : Nat) (h : Rep K mg F ι H d v) : RS K mg g (σ.set i (some v)) H F ι (env.set i (.val d)) S where
  wd := r.wd
  ext := r.ext
  len := by simpa using r.len
  slot := fun j d' hj => by
    rw [List.getElem?_set] at hj ⊢
    have hl := r.len
    by_cases e : i = j
    · subst e
      rw [if_pos rfl] at hj ⊢
      by_cases hi : i < env.length
      · rw [if_pos hi] at hj
        cases hj
        exact ⟨v, by rw [if_pos (by omega)], h⟩
      · rw [if_neg hi] at hj; cases hj
    · rw [if_neg e] at hj ⊢
      exact r.slot j d' hj
  own := fun j ds hj => by
    rw [List.getElem?_set] at hj ⊢
    by_cases e : i = j
    · subst e
      rw [if_pos rfl] at hj
      split at hj <;> cases hj
    · rw [if_neg e] at hj ⊢
      exact r.own j ds hj
  apart := fun j k a di dj h1 h2 h3 h4 => by
    rw [List.getElem?_set] at h1 h2 h3 h4
    by_cases e : i = j
    · subst e
      rw [if_pos rfl] at h1
      split at h1 <;> cases h1
    · by_cases e2 : i = k
      · subst e2
        rw [if_pos rfl] at h2
        split at h2 <;> cases h2
      · rw [if_neg e] at h1 h3
        rw [if_neg e2] at h2 h4
        exact r.apart j k a di dj h1 h2 h3 h4
  ownd := fun j ks' ds hj => by
    rw [List.getElem?_set] at hj ⊢
    by_cases e : i = j
    · subst e
      rw [if_pos rfl] at hj
      split at hj <;> cases hj
    · rw [if_neg e] at hj ⊢
      exact r.ownd j ks' ds hj
  apartd := fun j k a ki di kj dj h1 h2 h3 h4 => by
    rw [List.getElem?_set] at h1 h2 h3 h4
    by_cases e : i = j
    · subst e
      rw [if_pos rfl] at h1
      split at h1 <;> cases h1
    · by_cases e2 : i = k
      · subst e2
        rw [if_pos rfl] at h2
        split at h2 <;> cases h2
      · rw [if_neg e] at h1 h3
        rw [if_neg e2] at h2 h4
        exact r.apartd j k a ki di kj dj h1 h2 h3 h4
theorem RS.putO {ds : List D} {vs : List V} {a : Addr} (r : RS K mg g σ H F ι env S) (i : Nat) (h1 : H a = some (.lst vs)) (h2 : Reps K mg F ι H ds vs) (h3 : ¬ F a) (h4 : a ∉ ι) (h5 : g.H0 a = none)
    (h6 : ∀ (j : Nat) dj, env[j]? = some (.own dj) → σ[j]? = some (some (.ref a)) → j = i) : RS K mg g (σ.set i (some (.ref a))) H F ι (env.set i (.own ds)) S where
  wd := r.wd
  ext := r.ext
  len := by simpa using r.len
  slot := fun j d' hj => by
    rw [List.getElem?_set] at hj ⊢
    by_cases e : i = j
    · subst e
      rw [if_pos rfl] at hj
      split at hj <;> cases hj
    · rw [if_neg e] at hj ⊢
      exact r.slot j d' hj
  own := fun j ds' hj => by
    rw [List.getElem?_set] at hj ⊢
    have hl := r.len
    by_cases e : i = j
    · subst e
      rw [if_pos rfl] at hj ⊢
      by_cases hi : i < env.length
      · rw [if_pos hi] at hj
        cases hj
        exact ⟨a, vs, by rw [if_pos (by omega)], h1, h2, h3, h4, h5⟩
      · rw [if_neg hi] at hj; cases hj
    · rw [if_neg e] at hj ⊢
      exact r.own j ds' hj
  apart := fun j k b di dj q1 q2 q3 q4 => by
    rw [List.getElem?_set] at q1 q2 q3 q4
    by_cases e : i = j
    · by_cases e2 : i = k
      · exact e.symm.trans e2
      · subst e
        rw [if_pos rfl] at q1 q3
        rw [if_neg e2] at q2 q4
        split at q3
        · cases q3
          exact (h6 k dj q2 q4).symm
        · cases q3
    · by_cases e2 : i = k
      · subst e2
        rw [if_pos rfl] at q2 q4
        rw [if_neg e] at q1 q3
        split at q4
        · cases q4
          exact h6 j di q1 q3
        · cases q4
      · rw [if_neg e] at q1 q3
        rw [if_neg e2] at q2 q4
        exact r.apart j k b di dj q1 q2 q3 q4
  ownd := fun j ks' ds hj => by
    rw [List.getElem?_set] at hj ⊢
    by_cases e : i = j
    · subst e
      rw [if_pos rfl] at hj
      split at hj <;> cases hj
    · rw [if_neg e] at hj ⊢
      exact r.ownd j ks' ds hj
  apartd := fun j k a ki di kj dj h1 h2 h3 h4 => by
    rw [List.getElem?_set] at h1 h2 h3 h4
    by_cases e : i = j
    · subst e
      rw [if_pos rfl] at h1
      split at h1 <;> cases h1
    · by_cases e2 : i = k
      · subst e2
        rw [if_pos rfl] at h2
        split at h2 <;> cases h2
      · rw [if_neg e] at h1 h3
        rw [if_neg e2] at h2 h4
        exact r.apartd j k a ki di kj dj h1 h2 h3 h4
theorem RS.forget (r : RS K mg g σ H F ι env S) (i : Nat) (x : Option V) : RS K mg g (σ.set i x) H F ι (env.set i .un) S where
  wd := r.wd
  ext := r.ext
  len := by simpa using r.len
  slot := fun j d' hj => by
    rw [List.getElem?_set] at hj ⊢
    by_cases e : i = j
    · subst e
      rw [if_pos rfl] at hj
      split at hj <;> cases hj
    · rw [if_neg e] at hj ⊢
      exact r.slot j d' hj
  own := fun j ds hj => by
    rw [List.getElem?_set] at hj ⊢
    by_cases e : i = j
    · subst e
      rw [if_pos rfl] at hj
      split at hj <;> cases hj
    · rw [if_neg e] at hj ⊢
      exact r.own j ds hj
  apart := fun j k a di dj h1 h2 h3 h4 => by
    rw [List.getElem?_set] at h1 h2 h3 h4
    by_cases e : i = j
    · subst e
      rw [if_pos rfl] at h1
      split at h1 <;> cases h1
    · by_cases e2 : i = k
      · subst e2
        rw [if_pos rfl] at h2
        split at h2 <;> cases h2
      · rw [if_neg e] at h1 h3
        rw [if_neg e2] at h2 h4
        exact r.apart j k a di dj h1 h2 h3 h4
  ownd := fun j ks' ds hj => by
    rw [List.getElem?_set] at hj ⊢
    by_cases e : i = j
    · subst e
      rw [if_pos rfl] at hj
      split at hj <;> cases hj
    · rw [if_neg e] at hj ⊢
      exact r.ownd j ks' ds hj
  apartd := fun j k a ki di kj dj h1 h2 h3 h4 => by
    rw [List.getElem?_set] at h1 h2 h3 h4
    by_cases e : i = j
    · subst e
      rw [if_pos rfl] at h1
      split at h1 <;> cases h1
    · by_cases e2 : i = k
      · subst e2
        rw [if_pos rfl] at h2
        split at h2 <;> cases h2
      · rw [if_neg e] at h1 h3
        rw [if_neg e2] at h2 h4
        exact r.apartd j k a ki di kj dj h1 h2 h3 h4
theorem RS.freeze {i : Nat} {ds : List D} (r : RS K mg g σ H F ι env S) (h : env[i]? = some (.own ds)) : ∃ F', RS K mg g σ H F' ι (env.set i (.val (.lst ds))) S ∧ Grow H F ι H F' ι := by
  obtain ⟨a, vs, h1, h2, h3, h4, h5, h6⟩ := r.own i ds h
  have hi : i < env.length := (List.getElem?_eq_some_iff.mp h).1
  have mono : ∀ d v, Rep K mg F ι H d v → Rep K mg (fun b => F b ∨ b = a) ι H d v := fun d v q => rep_mono (fun _ h => .inl h) (fun _ _ _ h => h) (List.prefix_refl _) d v q
  have monos : ∀ d v, Reps K mg F ι H d v → Reps K mg (fun b => F b ∨ b = a) ι H d v := fun d v q => reps_mono (fun _ h => .inl h) (fun _ _ _ h => h) (List.prefix_refl _) d v q
  refine ⟨fun b => F b ∨ b = a, ⟨r.wd.freeze (by rw [h2]; simp) h5, ⟨fun b hb => .inl (r.ext.sub b hb), fun b hb => ?_, r.ext.keep, r.ext.mono, r.ext.pre, r.ext.cnew⟩, by simpa using r.len, fun j d hj => ?_, fun j ds' hj => ?_, fun j k b di dj q1 q2 q3 q4 => ?_, fun j ks' ds' hj => ?_, fun j k b ki di kj dj q1 q2 q3 q4 => ?_⟩, ⟨fun _ h => .inl h, fun _ _ _ h => h, List.prefix_refl _⟩⟩
  · rcases hb with hb | rfl
    · exact r.ext.new b hb
    · exact .inr h6
  · rw [List.getElem?_set] at hj
    by_cases e : i = j
    · subst e
      rw [if_pos rfl, if_pos hi] at hj
      cases hj
      exact ⟨.ref a, h1, a, vs, rfl, ⟨.inr rfl, h2⟩, monos _ _ h3⟩
    · rw [if_neg e] at hj
      obtain ⟨v, q1, q2⟩ := r.slot j d hj
      exact ⟨v, q1, mono _ _ q2⟩
  · rw [List.getElem?_set] at hj
    by_cases e : i = j
    · subst e
      rw [if_pos rfl, if_pos hi] at hj
      cases hj
    · rw [if_neg e] at hj
      obtain ⟨b, us, q1, q2, q3, q4, q5, q6⟩ := r.own j ds' hj
      refine ⟨b, us, q1, q2, monos _ _ q3, fun z => ?_, q5, q6⟩
      rcases z with z | rfl
      · exact q4 z
      · exact e (r.apart i j b _ _ h hj h1 q1)
  · rw [List.getElem?_set] at q1 q2
    by_cases e : i = j
    · subst e
      rw [if_pos rfl, if_pos hi] at q1
      cases q1
    · by_cases e2 : i = k
      · subst e2
        rw [if_pos rfl, if_pos hi] at q2
        cases q2
      · rw [if_neg e] at q1
        rw [if_neg e2] at q2
        exact r.apart j k b di dj q1 q2 q3 q4
  · rw [List.getElem?_set] at hj
    by_cases e : i = j
    · subst e
      rw [if_pos rfl, if_pos hi] at hj
      cases hj
    · rw [if_neg e] at hj
      obtain ⟨b, q1, us, q2, q2', q3, q4, q5, q6⟩ := r.ownd j ks' ds' hj
      refine ⟨b, q1, us, q2, q2', monos _ _ q3, fun z => ?_, q5, q6⟩
      rcases z with z | rfl
      · exact q4 z
      · rw [h2] at q2; cases q2
  · rw [List.getElem?_set] at q1 q2
    by_cases e : i = j
    · subst e
      rw [if_pos rfl, if_pos hi] at q1
      cases q1
    · by_cases e2 : i = k
      · subst e2
        rw [if_pos rfl, if_pos hi] at q2
        cases q2
      · rw [if_neg e] at q1
        rw [if_neg e2] at q2
        exact r.apartd j k b ki di kj dj q1 q2 q3 q4
theorem ne_of_not {p : Addr → Prop} {a b : Addr} (h1 : p b) (h2 : ¬ p a) : b ≠ a := fun z => by
  subst z
  exact h2 h1
theorem ext_upd {a : Addr} {o : HO} {H0 : Hp} {F0 : Fz} {ι0 : List Addr} (e : Ext H0 F0 ι0 H F ι) (h : H0 a = none) (n : H a ≠ none) : Ext H0 F0 ι0 (upd H a o) F ι :=
  ⟨e.sub, e.new, fun b u hb nb => by rw [upd_ne (ne_of_none hb h)]; exact e.keep b u hb nb, fun b hb => by
    by_cases z : b = a
    · subst z; exact h
    · rw [upd_ne z] at hb; exact e.mono b hb, e.pre, e.cnew⟩
theorem stay_upd {a : Addr} {o : HO} (h : ¬ F a) : Stay F H (upd H a o) := fun b u f hb => by rw [upd_ne (ne_of_not f h)]; exact hb
theorem Wd.updO {a : Addr} {o : HO} (w : Wd K mg F ι H S) (h : ¬ F a) (hc : a ∉ ι) : Wd K mg F ι (upd H a o) S :=
  ⟨fun b hb => by rw [upd_ne (ne_of_not hb h)]; exact w.fin b hb, w.cnf, w.cnd, w.len, fun n c b h1 h2 => cell_mono (fun _ h => h) (stay_upd h) (List.prefix_refl _) (fun u hu => by
    rw [upd_ne (ne_of_not (p := (· ∈ ι)) (List.mem_of_getElem? h2) hc)]; exact hu) c (w.cells n c b h1 h2)⟩
theorem RS.mutO {i : Nat} {ds ds' : List D} {vs' : List V} {a : Addr} (r : RS K mg g σ H F ι env S) (h : env[i]? = some (.own ds)) (ha : σ[i]? = some (some (.ref a))) (q : Reps K mg F ι H ds' vs') :
    RS K mg g σ (upd H a (.lst vs')) F ι (env.set i (.own ds')) S ∧ Grow H F ι (upd H a (.lst vs')) F ι := by
  obtain ⟨a', vs, h1, h2, h3, h4, h5, h6⟩ := r.own i ds h
  obtain rfl : a' = a := by rw [ha] at h1; cases h1; rfl
  have hi : i < env.length := (List.getElem?_eq_some_iff.mp h).1
  have st : Stay F H (upd H a' (.lst vs')) := stay_upd h4
  refine ⟨⟨r.wd.updO h4 h5, ext_upd r.ext h6 (by rw [h2]; simp), by simpa using r.len, fun j d hj => ?_, fun j dj hj => ?_, fun j k b di dj q1 q2 q3 q4 => ?_, fun j kj dj hj => ?_, fun j k b ki di kj dj q1 q2 q3 q4 => ?_⟩, ⟨fun _ h => h, st, List.prefix_refl _⟩⟩
  · rw [List.getElem?_set] at hj
    by_cases e : i = j
    · subst e
      rw [if_pos rfl, if_pos hi] at hj
      cases hj
    · rw [if_neg e] at hj
      obtain ⟨v, q1, q2⟩ := r.slot j d hj
      exact ⟨v, q1, rep_mono (fun _ h => h) st (List.prefix_refl _) d v q2⟩
  · rw [List.getElem?_set] at hj
    by_cases e : i = j
    · subst e
      rw [if_pos rfl, if_pos hi] at hj
      cases hj
      exact ⟨a', vs', ha, upd_same, reps_mono (fun _ h => h) st (List.prefix_refl _) _ _ q, h4, h5, h6⟩
    · rw [if_neg e] at hj
      obtain ⟨b, us, q1, q2, q3, q4, q5, q6⟩ := r.own j dj hj
      refine ⟨b, us, q1, ?_, reps_mono (fun _ h => h) st (List.prefix_refl _) _ _ q3, q4, q5, q6⟩
      rw [upd_ne (fun z => e (r.apart i j b _ _ h hj (by rw [z]; exact ha) q1))]
      exact q2
  · have back : ∀ (j : Nat) dj, (env.set i (.own ds'))[j]? = some (.own dj) → ∃ dj', env[j]? = some (.own dj') := fun j dj hj => by
      rw [List.getElem?_set] at hj
      by_cases e : i = j
      · subst e; exact ⟨ds, h⟩
      · rw [if_neg e] at hj; exact ⟨dj, hj⟩
    obtain ⟨d1, z1⟩ := back j di q1
    obtain ⟨d2, z2⟩ := back k dj q2
    exact r.apart j k b d1 d2 z1 z2 q3 q4
  · rw [List.getElem?_set] at hj
    by_cases e : i = j
    · subst e
      rw [if_pos rfl, if_pos hi] at hj
      cases hj
    · rw [if_neg e] at hj
      obtain ⟨b, q1, us, q2, q2', q3, q4, q5, q6⟩ := r.ownd j kj dj hj
      refine ⟨b, q1, us, ?_, q2', reps_mono (fun _ h => h) st (List.prefix_refl _) _ _ q3, q4, q5, q6⟩
      rw [upd_ne (fun z => by rw [z, h2] at q2; cases q2)]
      exact q2
  · rw [List.getElem?_set] at q1 q2
    by_cases e : i = j
    · subst e
      rw [if_pos rfl, if_pos hi] at q1
      cases q1
    · by_cases e2 : i = k
      · subst e2
        rw [if_pos rfl, if_pos hi] at q2
        cases q2
      · rw [if_neg e] at q1
        rw [if_neg e2] at q2
        exact r.apartd j k b ki di kj dj q1 q2 q3 q4
theorem RS.cell {n : Nat} {a : Addr} {o : HO} {c' : Cell} (r : RS K mg g σ H F ι env S) (h : ι[n]? = some a) (live : ∃ c, S[n]? = some c ∧ c.live = true) (hl' : c'.live = true) (q : ∀ H', H' a = some o → Stay F H H' → CellOk K mg F ι H' a c') :
    RS K mg g σ (upd H a o) F ι env (S.set n c') ∧ Grow H F ι (upd H a o) F ι := by
  have hm : a ∈ ι := List.mem_of_getElem? h
  have nf : ¬ F a := by
    obtain ⟨c, h1, h2⟩ := live
    exact r.wd.cnf n c a h1 h h2
  have st : Stay F H (upd H a o) := stay_upd nf
  have wd : Wd K mg F ι (upd H a o) (S.set n c') := by
    refine ⟨fun b hb => by rw [upd_ne (ne_of_not hb nf)]; exact r.wd.fin b hb, fun i c b h1 h2 hl => ?_, r.wd.cnd, by rw [List.length_set]; exact r.wd.len, fun i c b h1 h2 => ?_⟩
    · rw [List.getElem?_set] at h1
      by_cases e : n = i
      · subst e
        rw [h] at h2
        cases h2
        exact nf
      · rw [if_neg e] at h1
        exact r.wd.cnf i c b h1 h2 hl
    rw [List.getElem?_set] at h1
    by_cases e : n = i
    · subst e
      have : b = a := by rw [h] at h2; cases h2; rfl
      subst this
      rw [if_pos rfl] at h1
      split at h1
      · cases h1
        exact q _ upd_same st
      · cases h1
    · rw [if_neg e] at h1
      have ne : b ≠ a := fun z => by
        subst z
        have l1 := (List.getElem?_eq_some_iff.mp h)
        have l2 := (List.getElem?_eq_some_iff.mp h2)
        obtain ⟨p1, e1⟩ := l1
        obtain ⟨p2, e2⟩ := l2
        exact e ((List.getElem_inj r.wd.cnd).mp (e1.trans e2.symm))
      exact cell_mono (fun _ h => h) st (List.prefix_refl _) (fun u hu => by rw [upd_ne ne]; exact hu) c (r.wd.cells i c b h1 h2)
  have ex : Ext g.H0 g.F0 g.ι0 (upd H a o) F ι := by
    refine ⟨r.ext.sub, r.ext.new, fun b u hb nb => ?_, fun b hb => ?_, r.ext.pre, r.ext.cnew⟩
    · have : b ≠ a := fun z => by
        subst z
        rcases nb with f | nb
        · exact nf (r.ext.sub b f)
        · rcases r.ext.cnew b hm with z | z
          · exact nb z
          · rw [hb] at z; cases z
      rw [upd_ne this]
      exact r.ext.keep b u hb nb
    · by_cases z : b = a
      · subst z; rw [upd_same] at hb; cases hb
      · rw [upd_ne z] at hb; exact r.ext.mono b hb
  refine ⟨⟨wd, ex, r.len, fun j d hj => ?_, fun j dj hj => ?_, r.apart, fun j kj dj hj => ?_, r.apartd⟩, ⟨fun _ h => h, st, List.prefix_refl _⟩⟩
  · obtain ⟨v, q1, q2⟩ := r.slot j d hj
    exact ⟨v, q1, rep_mono (fun _ h => h) st (List.prefix_refl _) d v q2⟩
  · obtain ⟨b, us, q1, q2, q3, q4, q5, q6⟩ := r.own j dj hj
    refine ⟨b, us, q1, ?_, reps_mono (fun _ h => h) st (List.prefix_refl _) _ _ q3, q4, q5, q6⟩
    rw [upd_ne (fun z => q5 (by rw [z]; exact hm))]
    exact q2
  · obtain ⟨b, q1, us, q2, q2', q3, q4, q5, q6⟩ := r.ownd j kj dj hj
    refine ⟨b, q1, us, ?_, q2', reps_mono (fun _ h => h) st (List.prefix_refl _) _ _ q3, q4, q5, q6⟩
    rw [upd_ne (fun z => q5 (by rw [z]; exact hm))]
    exact q2
end
end DL
namespace DL
open PySem PySem.Spec L2
open PyProof.Rows hiding St
section
variable {X : Cx} {E : EE} {a b c e o : Expr} {es : List Expr} {f h k : Ex D} {p q : Ex Bool} {fa : Ex (List D)} {pos : Pos} {st : Stmt} {sts : List Stmt} {m m1 m2 : Sm}
theorem _root_.L2.PG.imp {X : Cx} {e : Expr} {t t' : TG} (p : PG X e t) (h : ∀ v σ H Q, t' v σ H Q → t v σ H Q) : PG X e t' := ⟨fun pins s σ H v u Q I r q => p.run pins s σ H v u Q I r (h v σ H Q q)⟩
def mSkip : Sm := fun env S => .nx env S
def mSeq (m1 m2 : Sm) : Sm := fun env S => match m1 env S with
  | .nx e S' => m2 e S'
  | r => r
@[simp] theorem mSeq_nx {m1 m2 : Sm} {env : List Sl} {S : List Cell} {e : List Sl} {S' : List Cell} (h : m1 env S = .nx e S') : mSeq m1 m2 env S = m2 e S' := by unfold mSeq; rw [h]
theorem b_nil : VB X E [] mSkip := fun g => pss_nil.imp fun D σ H ⟨F, ι, env, S, w, q⟩ => q σ H F ι w Grow.refl
theorem b_one (h1 : VS X E st m) : VB X E [st] m := fun g => pss_one (h1 g)
theorem fl_nx {K : PySem.W.Frag} {mg : Str → Option Value} {g : Snap} {H : Hp} {F : Fz} {ι : List Addr} {D : Ends} {m2 : Sm} : ∀ {fl : Fl}, flAt K mg g E H F ι D (match (motive := Fl → Fl) fl with | .nx e S' => m2 e S' | r => r) →
    flAt K mg g E H F ι { D with nx := fun σ' H' => tS K mg g E m2 D σ' H' } fl
  | .nx e S', q => fun σ' H' F' ι' r gr => ⟨F', ι', e, S', r, fl_grow gr q⟩
  | .bk _ _, q => q
  | .ct _ _, q => q
  | .rt _ _, q => q
  | .ex _ _ _ _ _, q => q
  | .bad, q => q
theorem b_cons (h1 : VS X E st m1) (h2 : VB X E sts m2) : VB X E (st :: sts) (mSeq m1 m2) := fun g => (pss_cons (h1 g) (h2 g)).imp fun D σ H ⟨F, ι, env, S, w, q⟩ => by
  refine ⟨F, ι, env, S, w, ?_⟩
  unfold mSeq at q
  exact fl_nx q
def mIfS (p : Ex Bool) (m1 m2 : Sm) : Sm := fun env S => (p env S).go env fun b S1 => if b = true then m1 env S1 else m2 env S1
theorem s_if {A B : List Stmt} (hp : VT X E c p) (h1 : VB X E A m1) (h2 : VB X E B m2) : VS X E (.If c A B pos) (mIfS p m1 m2) := fun g => (ps_if (hp g) (h1 g) (h2 g)).imp fun D σ H ⟨F, ι, env, S, w, q⟩ =>
  ⟨F, ι, env, S, w, rd_mono (rd_go w.wd q) fun b H1 F1 ι1 S1 _ e1 w1 ⟨_, _, q1⟩ => by
    cases b with
    | true => exact ⟨F1, ι1, env, S1, w1, q1⟩
    | false => exact ⟨F1, ι1, env, S1, w1, q1⟩⟩
def mRet (f : Ex D) : Sm := fun env S => (f env S).go env fun d S1 => .rt d S1
theorem s_ret (he : VE X E e f) : VS X E (.Return (some e) pos) (mRet f) := fun g => (ps_ret (he g)).imp fun D σ H ⟨F, ι, env, S, w, q⟩ =>
  ⟨F, ι, env, S, w, rd_mono (rd_go w.wd q) fun d H1 F1 ι1 S1 _ e1 w1 ⟨_, _, q1⟩ v hv => q1 v H1 F1 ι1 w1.ext w1.wd hv⟩
def mRetN : Sm := fun _ S => .rt .non S
def mExpr (f : Ex D) : Sm := fun env S => (f env S).go env fun _ S1 => .nx env S1
def mBreak : Sm := fun env S => .bk env S
def mCont : Sm := fun env S => .ct env S
def mFz (i : Nat) (m : Sm) : Sm := fun env S => match env[i]? with
  | some (.own ds) => m (env.set i (.val (.lst ds))) S
  | some (.val _) => m env S
  | _ => .bad
theorem fz_imp {K : PySem.W.Frag} {mg : Str → Option Value} {g : Snap} {i : Nat} {D : Ends} {σ : St} {H : Hp} (h : tS K mg g E (mFz i m) D σ H) : tS K mg g E m D σ H := by
  obtain ⟨F, ι, env, S, w, q⟩ := h
  unfold mFz at q
  split at q
  · rename_i ds hd
    obtain ⟨F', w', gr⟩ := w.freeze hd
    exact ⟨F', ι, _, S, w', fl_grow gr q⟩
  · exact ⟨F, ι, env, S, w, q⟩
  · exact q.elim
theorem s_fz (i : Nat) (h : VS X E st m) : VS X E st (mFz i m) := fun g => (h g).imp fun D σ H q => fz_imp q
inductive Pat where
  | nm (i : Nat) | tp (ps : List Pat)
mutual
def bindP : Pat → D → List Sl → Option (List Sl)
  | .nm i, d, env => some (env.set i (.val d))
  | .tp ps, .tup ds, env => bindPs ps ds env
  | .tp ps, .lst ds, env => bindPs ps ds env
  | .tp _, _, _ => none
def bindPs : List Pat → List D → List Sl → Option (List Sl)
  | [], [], env => some env
  | p :: ps, d :: ds, env => match bindP p d env with
    | some env' => bindPs ps ds env'
    | none => none
  | _, _, _ => none
end
mutual
def gPat (K : PySem.W.Frag) : Pat → TG
  | .nm i => gName i
  | .tp ps => fun v σ H Q => gTup K ps.length (gPats K ps) v σ H Q ∨ gUnl K ps.length (gPats K ps) v σ H Q
def gPats (K : PySem.W.Frag) : List Pat → TGs
  | [] => gNil
  | p :: ps => gCons (gPat K p) (gPats K ps)
end
mutual
def patIn : Pat → List Nat → Bool
  | .nm i, vs => vs.contains i
  | .tp ps, vs => patsIn ps vs
def patsIn : List Pat → List Nat → Bool
  | [], _ => true
  | p :: ps, vs => patIn p vs && patsIn ps vs
end
def SameBut (vs : List Nat) (σ σ' : St) : Prop := σ.length = σ'.length ∧ ∀ i, i ∉ vs → σ'[i]? = σ[i]?
theorem SameBut.refl {vs : List Nat} {σ : St} : SameBut vs σ σ := ⟨rfl, fun _ _ => rfl⟩
theorem SameBut.trans {vs : List Nat} {σ σ1 σ2 : St} (a : SameBut vs σ σ1) (b : SameBut vs σ1 σ2) : SameBut vs σ σ2 := ⟨a.1.trans b.1, fun i h => (b.2 i h).trans (a.2 i h)⟩
section
variable {K : PySem.W.Frag} {mg : Str → Option Value} {g : Snap} {H : Hp} {F : Fz} {ι : List Addr} {S : List Cell} {vs : List Nat}
mutual
theorem pat_ok : ∀ (p : Pat) (d : D) (v : V) (σ : St) (env env' : List Sl) (Q : St → Hp → Prop), RS K mg g σ H F ι env S → Rep K mg F ι H d v → bindP p d env = some env' →
    (∀ σ', RS K mg g σ' H F ι env' S → (patIn p vs = true → SameBut vs σ σ') → Q σ' H) → gPat K p v σ H Q
  | .nm i, d, v, σ, env, env', Q, w, r, hb, q => by
    have e : env.set i (.val d) = env' := by simpa [bindP] using hb
    subst e
    refine q _ (w.put i r) fun hi => ⟨by simp, fun j hj => ?_⟩
    have hi' : i ∈ vs := by simpa [patIn] using hi
    rw [List.getElem?_set_ne (fun z => hj (by rw [← z]; exact hi'))]
  | .tp ps, .tup ds, v, σ, env, env', Q, w, r, hb, q => by
    obtain ⟨a, us, rfl, hs, hr⟩ := r
    have hb' : bindPs ps ds env = some env' := by simpa [bindP] using hb
    exact .inl ⟨a, us, rfl, hs.sq, hr.len.trans (bind_len ps ds env env' hb').symm, pats_ok ps ds us σ env env' Q w hr hb' fun σ' w' h => q σ' w' fun z => h (by simpa [patIn] using z)⟩
  | .tp ps, .lst ds, v, σ, env, env', Q, w, r, hb, q => by
    obtain ⟨a, us, rfl, hs, hr⟩ := r
    have hb' : bindPs ps ds env = some env' := by simpa [bindP] using hb
    exact .inr ⟨a, us, rfl, hs.sq, hr.len.trans (bind_len ps ds env env' hb').symm, pats_ok ps ds us σ env env' Q w hr hb' fun σ' w' h => q σ' w' fun z => h (by simpa [patIn] using z)⟩
  | .tp ps, .non, v, σ, env, env', Q, w, r, hb, q => by simp [bindP] at hb
  | .tp ps, .bl _, v, σ, env, env', Q, w, r, hb, q => by simp [bindP] at hb
  | .tp ps, .int _, v, σ, env, env', Q, w, r, hb, q => by simp [bindP] at hb
  | .tp ps, .str _, v, σ, env, env', Q, w, r, hb, q => by simp [bindP] at hb
  | .tp ps, .ro _, v, σ, env, env', Q, w, r, hb, q => by simp [bindP] at hb
  | .tp ps, .dct _ _, v, σ, env, env', Q, w, r, hb, q => by simp [bindP] at hb
  | .tp ps, .obj _ _ _, v, σ, env, env', Q, w, r, hb, q => by simp [bindP] at hb
  | .tp ps, .cell _, v, σ, env, env', Q, w, r, hb, q => by simp [bindP] at hb
  | .tp ps, .ty _, v, σ, env, env', Q, w, r, hb, q => by simp [bindP] at hb
  | .tp ps, .cls _, v, σ, env, env', Q, w, r, hb, q => by simp [bindP] at hb
  | .tp ps, .exc _ _ _, v, σ, env, env', Q, w, r, hb, q => by simp [bindP] at hb
theorem pats_ok : ∀ (ps : List Pat) (ds : List D) (us : List V) (σ : St) (env env' : List Sl) (Q : St → Hp → Prop), RS K mg g σ H F ι env S → Reps K mg F ι H ds us → bindPs ps ds env = some env' →
    (∀ σ', RS K mg g σ' H F ι env' S → (patsIn ps vs = true → SameBut vs σ σ') → Q σ' H) → gPats K ps us σ H Q
  | [], [], us, σ, env, env', Q, w, r, hb, q => by
    have e : env = env' := by simpa [bindPs] using hb
    subst e
    exact ⟨r, q σ w fun _ => SameBut.refl⟩
  | p :: ps, d :: ds, us, σ, env, env', Q, w, r, hb, q => by
    obtain ⟨v, us', rfl, r1, r2⟩ := r
    cases h1 : bindP p d env with
    | none => simp [bindPs, h1] at hb
    | some env1 =>
      have hb' : bindPs ps ds env1 = some env' := by simpa [bindPs, h1] using hb
      refine ⟨v, us', rfl, pat_ok p d v σ env env1 _ w r1 h1 fun σ1 w1 s1 => ?_⟩
      exact pats_ok ps ds us' σ1 env1 env' Q w1 r2 hb' fun σ' w' s' => q σ' w' fun z => by
        have z' : patIn p vs = true ∧ patsIn ps vs = true := by simpa [patsIn] using z
        exact (s1 z'.1).trans (s' z'.2)
  | [], d :: ds, us, σ, env, env', Q, w, r, hb, q => by simp [bindPs] at hb
  | p :: ps, [], us, σ, env, env', Q, w, r, hb, q => by simp [bindPs] at hb
theorem bind_len : ∀ (ps : List Pat) (ds : List D) (env env' : List Sl), bindPs ps ds env = some env' → ps.length = ds.length
  | [], [], _, _, _ => rfl
  | p :: ps, d :: ds, env, env', hb => by
    cases h1 : bindP p d env with
    | none => simp [bindPs, h1] at hb
    | some env1 => rw [List.length_cons, List.length_cons, bind_len ps ds env1 env' (by simpa [bindPs, h1] using hb)]
  | [], d :: ds, _, _, hb => by simp [bindPs] at hb
  | p :: ps, [], _, _, hb => by simp [bindPs] at hb
end
end
def mSet (i : Nat) (f : Ex D) : Sm := fun env S => (f env S).go env fun d S1 => .nx (env.set i (.val d)) S1
theorem set_imp {g : Snap} {i : Nat} : ∀ D σ H, tS X.K X.mg g E (mSet i f) D σ H → tAsg (tV X.K X.mg g E f) (gName i) D σ H := fun D σ H ⟨F, ι, env, S, w, q⟩ =>
  ⟨F, ι, env, S, w, rd_mono (rd_go w.wd q) fun d H1 F1 ι1 S1 _ e1 w1 ⟨_, _, q1⟩ v hv => q1 _ H1 F1 ι1 (w1.put i hv) Grow.refl⟩
theorem s_set (i : Nat) {x : Str} {px : Pos} (he : VE X E e f) (hN : X.N.Nodup) (hi : X.N[i]? = some x := by rfl) (hx : Loc X.env.scope x := by first | exact Or.inl rfl | exact Or.inr rfl)
    (hs : swapsWith e (some (.Name x px)) pos.line X.env = pure false := by rfl) (hf : X.fn x = true ∨ X.env.scope.names.lookup x = some .local := by first | exact .inl rfl | exact .inr rfl) :
    VS X E (.Assign [.Name x px] e pos) (mSet i f) := fun g => (ps_set hN hi hx (he g) hs hf).imp set_imp
def mSetO (i : Nat) (f : Ex (List D)) : Sm := fun env S => (f env S).go env fun ds S1 => .nx (env.set i (.own ds)) S1
theorem setO_imp {g : Snap} {i : Nat} : ∀ D σ H, tS X.K X.mg g E (mSetO i fa) D σ H → tAsg (tO X.K X.mg g E fa) (gName i) D σ H := fun D σ H ⟨F, ι, env, S, w, q⟩ =>
  ⟨F, ι, env, S, w, rd_mono (rd_go w.wd q) fun d H1 F1 ι1 S1 _ e1 w1 ⟨_, _, q1⟩ a vs h1 h2 h3 h4 h5 => q1 _ H1 F1 ι1 (w1.putO i h1 h2 h3 h4 (w.ext.mono a h5) fun j dj hj hσ => by
    obtain ⟨a', us, z1, z2, _⟩ := w.own j dj hj
    rw [hσ] at z1
    cases z1
    rw [h5] at z2
    cases z2) Grow.refl⟩
theorem s_setO (i : Nat) {x : Str} {px : Pos} (he : VO X E e fa) (hN : X.N.Nodup) (hi : X.N[i]? = some x := by rfl) (hx : Loc X.env.scope x := by first | exact Or.inl rfl | exact Or.inr rfl)
    (hs : swapsWith e (some (.Name x px)) pos.line X.env = pure false := by rfl) (hf : X.fn x = true ∨ X.env.scope.names.lookup x = some .local := by first | exact .inl rfl | exact .inr rfl) :
    VS X E (.Assign [.Name x px] e pos) (mSetO i fa) := fun g => (ps_set hN hi hx (he g) hs hf).imp setO_imp
def mUnp (p : Pat) (f : Ex D) : Sm := fun env S => (f env S).go env fun d S1 => match bindP p d env with
  | some env' => .nx env' S1
  | none => .bad
def mPar (i j : Nat) (f h : Ex D) : Sm := fun env S => (f env S).go env fun d S1 => (h env S1).go env fun d' S2 => .nx ((env.set i (.val d)).set j (.val d')) S2
def forL (p : Pat) (m : Sm) : List D → Sm
  | [], env, S => .nx env S
  | d :: ds, env, S => match bindP p d env with
    | none => .bad
    | some env1 => match m env1 S with
      | .nx e S' => forL p m ds e S'
      | .ct e S' => forL p m ds e S'
      | .bk e S' => .nx e S'
      | r => r
def mFor (it : Ex (List D)) (p : Pat) (m : Sm) : Sm := fun env S => (it env S).go env fun ds S1 => forL p m ds env S1
def WalkD (K : PySem.W.Frag) (mg : Str → Option Value) (F : Fz) (ι : List Addr) (H : Hp) (J : It) (ds : List D) : Prop :=
  ∀ F2 ι2 H2 S2, Wd K mg F2 ι2 H2 S2 → Grow H F ι H2 F2 ι2 → ∀ i, (ds.length = i → J.stop i H2) ∧ ∀ d, ds[i]? = some d → J.go i H2 ∧ ∀ x H3, J.yld i H2 x H3 →
    ∃ F3, Ext H2 F2 ι2 H3 F3 ι2 ∧ Wd K mg F3 ι2 H3 S2 ∧ Rep K mg F3 ι2 H3 d x
def tI (K : PySem.W.Frag) (mg : Str → Option Value) (g : Snap) (E : EE) (it : Ex (List D)) : TI := fun σ H R => ∃ F ι env S, RS K mg g σ H F ι env S ∧
  rdAt K mg g E σ H F ι env (fun ds H' F' ι' _ => ∀ J, WalkD K mg F' ι' H' J ds → R J H') (it env S)
def VI (X : Cx) (E : EE) (tg iter : Expr) (it : Ex (List D)) : Prop := ∀ g, PI X tg iter (tI X.K X.mg g E it)
theorem _root_.L2.PI.imp {X : Cx} {tg iter : Expr} {t t' : TI} (p : PI X tg iter t) (h : ∀ σ H R, t' σ H R → t σ H R) : PI X tg iter t' := ⟨fun pins s σ H R I q => p.run pins s σ H R I (h σ H R q)⟩
theorem s_for {tg iter : Expr} {body : List Stmt} {it : Ex (List D)} {pt : Pat} (hp : PassesOwn (model X.prog X.w) X.A X.env X.xe) (hc : X.calm = true) (hi : VI X E tg iter it) (hg : PG X tg (gPat X.K pt)) (hb : VB X E body m)
    (hs : ∀ x, foldedSetIterable iter X.env x = pure x := by intro _; rfl) : VS X E (.For tg iter body [] pos) (mFor it pt m) := fun g => (ps_for hp hc (hi g) hg (hb g) hs).imp fun D σ H ⟨F, ι, env, S, w, q⟩ =>
  ⟨F, ι, env, S, w, rd_mono (rd_go w.wd q) fun ds H1 F1 ι1 S1 _ e1 w1 ⟨_, _, q1⟩ J hJ => by
    refine ⟨fun i m' σ' H' => m' = ds.length - i ∧ i ≤ ds.length ∧ ∃ F' ι' env' S', RS X.K X.mg g σ' H' F' ι' env' S' ∧ Grow H1 F1 ι1 H' F' ι' ∧ flAt X.K X.mg g E H' F' ι' D (forL pt m (ds.drop i) env' S'),
      ⟨ds.length, rfl, Nat.zero_le _, F1, ι1, env, S1, w1, Grow.refl, q1⟩, ?_⟩
    rintro i m' σ2 H2 ⟨rfl, hi, F2, ι2, env2, S2, w2, gr, q2⟩
    obtain ⟨st, go⟩ := hJ F2 ι2 H2 S2 w2.wd gr i
    by_cases hl : i < ds.length
    · obtain ⟨hgo, hy⟩ := go _ (List.getElem?_eq_getElem hl)
      rw [List.drop_eq_getElem_cons hl] at q2
      refine .inr ⟨hgo, fun σ' H' => ∃ F' ι' env' S', RS X.K X.mg g σ' H' F' ι' env' S' ∧ Grow H1 F1 ι1 H' F' ι' ∧ flAt X.K X.mg g E H' F' ι' D (forL pt m (ds.drop (i + 1)) env' S'),
        fun σ' H' n => ⟨ds.length - (i + 1), by omega, rfl, hl, n⟩, fun x H3 y => ?_⟩
      obtain ⟨F3, e3, w3, r3⟩ := hy x H3 y
      have rs3 := w2.step e3 w3
      unfold forL at q2
      cases hb' : bindP pt ds[i] env2 with
      | none => rw [hb'] at q2; exact q2.elim
      | some env3 =>
        rw [hb'] at q2
        refine pat_ok (vs := []) pt ds[i] x σ2 env2 env3 _ rs3 r3 hb' fun σ4 w4 _ => ?_
        have q2 := fl_grow (w2.wd.grow e3) q2
        dsimp only at q2
        have gr3 := gr.trans (w2.wd.grow e3)
        refine ⟨F3, ι2, env3, S2, w4, ?_⟩
        cases hm : m env3 S2 with
        | nx e' S' => rw [hm] at q2; exact fun σ5 H5 F5 ι5 w5 g5 => ⟨F5, ι5, e', S', w5, gr3.trans g5, fl_grow g5 q2⟩
        | ct e' S' => rw [hm] at q2; exact fun σ5 H5 F5 ι5 w5 g5 => ⟨F5, ι5, e', S', w5, gr3.trans g5, fl_grow g5 q2⟩
        | bk e' S' => rw [hm] at q2; exact q2
        | rt d S' => rw [hm] at q2; exact q2
        | ex c' ns' ds' e' S' => rw [hm] at q2; exact q2
        | bad => rw [hm] at q2; exact q2
    · have : i = ds.length := by omega
      subst this
      rw [List.drop_length] at q2
      exact .inl ⟨st rfl, q2 σ2 H2 F2 ι2 w2 Grow.refl⟩⟩
def whileN (p : Ex Bool) (m : Sm) : Nat → Sm
  | 0, _, _ => .bad
  | n + 1, env, S => (p env S).go env fun b S1 => if b = true then match m env S1 with
      | .nx e S' => whileN p m n e S'
      | .ct e S' => whileN p m n e S'
      | .bk e S' => .nx e S'
      | r => r
    else .nx env S1
end
def startE (n : Nat) (ds : List D) : List Sl := ds.map .val ++ List.replicate (n - ds.length) .un
def mDef (n : Nat) (m : Sm) : Fn := fun ds S => match m (startE n ds) S with
  | .nx _ S' => .ok .non S'
  | .rt d S' => .ok d S'
  | .ex c ns es _ S' => .ex c ns es S'
  | _ => .bad
theorem start_rs {K : PySem.W.Frag} {mg : Str → Option Value} {F : Fz} {ι : List Addr} {H : Hp} {N : List Str} {ds : List D} {vs : List V} {S : List Cell} (w : Wd K mg F ι H S) (r : Reps K mg F ι H ds vs) :
    RS K mg ⟨H, F, ι⟩ (start N vs) H F ι (startE N.length ds) S := by
  have hl := r.len
  have noown : ∀ (i : Nat) xs, (startE N.length ds)[i]? ≠ some (.own xs) := fun i xs h => by
    unfold startE at h
    have hm := List.mem_of_getElem? h
    rcases List.mem_append.mp hm with z | z
    · obtain ⟨d, _, e⟩ := List.mem_map.mp z
      cases e
    · cases (List.mem_replicate.mp z).2
  have noownd : ∀ (i : Nat) ks xs, (startE N.length ds)[i]? ≠ some (.ownd ks xs) := fun i ks xs h => by
    unfold startE at h
    have hm := List.mem_of_getElem? h
    rcases List.mem_append.mp hm with z | z
    · obtain ⟨d, _, e⟩ := List.mem_map.mp z
      cases e
    · cases (List.mem_replicate.mp z).2
  refine ⟨w, Ext.refl, ?_, fun i d h => ?_, fun i xs h => absurd h (noown i xs), fun i j a di dj h _ _ _ => absurd h (noown i di), fun i ks xs h => absurd h (noownd i ks xs), fun i j a ki di kj dj h _ _ _ => absurd h (noownd i ki di)⟩
  · unfold L2.start startE
    simp [hl]
  · unfold startE at h
    unfold L2.start
    by_cases hi : i < ds.length
    · rw [List.getElem?_append_left (by simpa using hi), List.getElem?_map] at h
      rw [List.getElem?_append_left (by simpa [hl] using hi), List.getElem?_map]
      rw [List.getElem?_eq_getElem hi] at h
      have h' : ds[i] = d := by simpa using h
      obtain ⟨v, h1, h2⟩ := r.get (List.getElem?_eq_getElem hi)
      exact ⟨v, by rw [h1]; rfl, by rw [← h']; exact h2⟩
    · rw [List.getElem?_append_right (by simpa using hi)] at h
      have := List.mem_of_getElem? h
      cases (List.mem_replicate.mp this).2
section
variable {P : Program} {w : World} {K : PySem.W.Frag} {mg : Str → Option Value} {base : Heap}
theorem fnM {x qual : Str} {st : Stmt} {f : Addr} {fd : FuncData} {N ps : List Str} {k n : Nat} {m : Sm} (F : Fun K x qual st f fd) (S : FnScope N ps (defScope st)) (hn : ps.length = n)
    (hb : ∀ (cd : Value) (A : Around) (outer : List Env) (s : Shared) (H : Hp) (E : XK), Rm k (A.deeper (envOfC qual (defScope st) s.heap.objs.size f cd)) →
      VB (cxOf (L2N.CX P w) P w K mg base N qual (defScope st) f cd A outer s H E) (fun _ => E) (defBody st) m) :
    FnG P w K mg base (k + 1) f fd ps (SpM K mg n (mDef N.length m)) := by
  refine fnG F S (fun vs H Q E h => h.1.trans hn.symm) fun cd A outer s H vs Q E rm h => ?_
  obtain ⟨hl, F, ι, ds, S', wd, r, q⟩ := h
  refine ⟨_, hb cd A outer s H E rm ⟨H, F, ι⟩, F, ι, startE N.length ds, S', start_rs wd r, ?_⟩
  unfold mDef at q
  cases hm : m (startE N.length ds) S' with
  | nx e S1 => rw [hm] at q; exact fun σ' H' F' ι' w' _ => q .non H' F' ι' w'.ext w'.wd rfl
  | rt d S1 => rw [hm] at q; exact fun v H' F' ι' e w' hv => q v H' F' ι' e w' hv
  | ex c ns es e1 S1 => rw [hm] at q; exact fun σ' C d H' F' ι' hc w' _ hd => q C d H' F' ι' hc w'.ext w'.wd hd
  | bk e S1 => rw [hm] at q; exact q.elim
  | ct e S1 => rw [hm] at q; exact q.elim
  | bad => rw [hm] at q; exact q.elim
theorem px_def {N : List Str} {qual : Str} {sc : Scope} {f : Addr} {cd : Value} {A : Around} {outer : List Env} {s : Shared} {H : Hp} {E : XK} :
    Px (cxOf (L2N.CX P w) P w K mg base N qual sc f cd A outer s H E) (fun _ => E) := px_of (L2N.takes_of rfl rfl rfl rfl)
theorem po_def {N : List Str} {qual : Str} {sc : Scope} {f : Addr} {cd : Value} {A : Around} {outer : List Env} {s : Shared} {H : Hp} {E : XK} :
    PassesOwn (model P w) (cxOf (L2N.CX P w) P w K mg base N qual sc f cd A outer s H E).A (cxOf (L2N.CX P w) P w K mg base N qual sc f cd A outer s H E).env (cxOf (L2N.CX P w) P w K mg base N qual sc f cd A outer s H E).xe := passes_of rfl
end
end DL
namespace DL
open PySem PySem.Spec L2
open PyProof.Rows hiding St
def wipeE (env : List Sl) : List Nat → List Sl
  | [] => env
  | v :: vs => (wipeE env vs).set v .un
def noX {α : Type} : Rs α → Rs α
  | .ok a S => .ok a S
  | _ => .bad
@[simp] theorem noX_ok {α : Type} (a : α) (S : List Cell) : noX (.ok a S) = .ok a S := rfl
def compL (vs : List Nat) (p : Pat) (cond : Ex Bool) (elt : Ex D) : List D → Ex (List D)
  | [], _, S => .ok [] S
  | d :: ds, env, S => match bindP p d (wipeE env vs) with
    | none => .bad
    | some env1 => (noX (cond env1 S)).andThen fun b S1 => if b = true then (noX (elt env1 S1)).andThen fun x S2 => (compL vs p cond elt ds env S2).andThen fun xs S3 => .ok (x :: xs) S3
      else compL vs p cond elt ds env S1
def mComp (it : Ex (List D)) (vs : List Nat) (p : Pat) (cond : Ex Bool) (elt : Ex D) : Ex (List D) := fun env S => (it env S).andThen fun ds S1 => if ds.length ≤ 100000 then noX (compL vs p cond elt ds env S1) else .bad
def mYes : Ex Bool := fun _ S => .ok true S
section
variable {K : PySem.W.Frag} {mg : Str → Option Value} {g : Snap} {σ : St} {H H' : Hp} {F F' : Fz} {ι ι' : List Addr} {env : List Sl} {S S' : List Cell}
theorem RS.wiped (r : RS K mg g σ H F ι env S) : ∀ vs : List Nat, RS K mg g (wipe σ vs) H F ι (wipeE env vs) S
  | [] => r
  | v :: vs => (RS.wiped r vs).forget v none
theorem wipe_in {σ : St} {i : Nat} : ∀ {vs : List Nat}, i ∈ vs → (wipe σ vs)[i]? = (σ[i]?).map fun _ => none
  | v :: vs, h => by
    unfold wipe
    rw [List.getElem?_set]
    by_cases e : v = i
    · subst e
      rw [if_pos rfl, wipe_length]
      by_cases hl : v < σ.length
      · rw [if_pos hl, List.getElem?_eq_getElem hl]; rfl
      · rw [if_neg hl, List.getElem?_eq_none (by omega)]; rfl
    · rw [if_neg e]
      exact wipe_in ((List.mem_cons.mp h).resolve_left fun z => e z.symm)
theorem wipe_same {vs : List Nat} {σ σ' : St} (h : SameBut vs (wipe σ vs) σ') : wipe σ' vs = wipe σ vs := by
  refine List.ext_getElem? fun i => ?_
  by_cases hi : i ∈ vs
  · have hl : σ.length = σ'.length := by have := h.1; rw [wipe_length] at this; exact this
    rw [wipe_in hi, wipe_in hi]
    by_cases z : i < σ.length
    · rw [List.getElem?_eq_getElem z, List.getElem?_eq_getElem (by omega)]; rfl
    · rw [List.getElem?_eq_none (by omega), List.getElem?_eq_none (by omega)]
  · rw [wipe_out hi, h.2 i hi]
theorem lc_imp {E : EE} {it : Ex (List D)} {vs : List Nat} {p : Pat} {cond : Ex Bool} {elt : Ex D} (hp : patIn p vs = true) : ∀ σ H Q, tO K mg g E (mComp it vs p cond elt) σ H Q →
    tLc (tI K mg g E it) (gPat K p) (tT K mg g EX0 cond) (tV K mg g EX0 elt) vs σ H Q := by
  rintro σ H Q ⟨F, ι, env, S, w, q⟩
  refine ⟨F, ι, env, S, w, rd_mono (rd_then q) ?_⟩
  rintro ds H1 F1 ι1 S1 - e1 w1 ⟨_, _, q1⟩ J hJ L hL
  by_cases hlen : ds.length ≤ 100000
  case neg => rw [if_neg hlen] at q1; exact q1.elim
  rw [if_pos hlen] at q1
  cases hc : compL vs p cond elt ds env S1 with
  | bad => rw [hc] at q1; exact q1.elim
  | ex c ns es S2 => rw [hc] at q1; exact q1.elim
  | ok all Sf =>
    rw [hc] at q1
    refine ⟨fun i m H2 => m = ds.length - i ∧ i ≤ ds.length ∧ ∃ F2 ι2 S2 acc avs xs, Ext H1 F1 ι1 H2 F2 ι2 ∧ Wd K mg F2 ι2 H2 S2 ∧ H2 L = some (.lst avs) ∧ Reps K mg F2 ι2 H2 acc avs ∧ ¬ F2 L ∧ L ∉ ι2 ∧ acc.length ≤ i ∧
      compL vs p cond elt (ds.drop i) env S2 = .ok xs Sf ∧ acc ++ xs = all, ?_, ?_⟩
    · obtain ⟨e', w'⟩ := w1.wd.layO (o := .lst []) hL
      exact ⟨ds.length, rfl, Nat.zero_le _, F1, ι1, S1, [], [], all, e', w', upd_same, rfl, fun z => w1.wd.fin L z hL, fun z => w1.wd.cell_ne z hL, Nat.le_refl _, hc, rfl⟩
    rintro i m H2 ⟨rfl, hi, F2, ι2, S2, acc, avs, xs, e2, wd2, hL2, ra, nF, nι, hal, hcs, hx⟩
    have w2 := w1.step e2 wd2
    obtain ⟨st, go⟩ := hJ F2 ι2 H2 S2 wd2 (w1.wd.grow e2) i
    by_cases hlt : i < ds.length
    · obtain ⟨hgo, hy⟩ := go _ (List.getElem?_eq_getElem hlt)
      rw [List.drop_eq_getElem_cons hlt] at hcs
      unfold compL at hcs
      cases hb : bindP p ds[i] (wipeE env vs) with
      | none => rw [hb] at hcs; cases hcs
      | some env1 =>
        rw [hb] at hcs
        dsimp only at hcs
        refine .inr ⟨hgo, fun H' => ∃ F' ι' S' acc' avs' xs', Ext H1 F1 ι1 H' F' ι' ∧ Wd K mg F' ι' H' S' ∧ H' L = some (.lst avs') ∧ Reps K mg F' ι' H' acc' avs' ∧ ¬ F' L ∧ L ∉ ι' ∧ acc'.length ≤ i + 1 ∧
          compL vs p cond elt (ds.drop (i + 1)) env S' = .ok xs' Sf ∧ acc' ++ xs' = all, fun H' n => ⟨ds.length - (i + 1), by omega, rfl, hlt, n⟩, fun x H3 y => ?_⟩
        obtain ⟨F3, e3, wd3, r3⟩ := hy x H3 y
        have w3 := (w2.step e3 wd3).wiped vs
        refine pat_ok (vs := vs) p ds[i] x _ _ env1 _ w3 r3 hb fun σ4 w4 sm => ⟨wipe_same (sm hp), ?_⟩
        have keepL : ∀ {H' F' ι'}, Ext H3 F3 ι2 H' F' ι' → H' L = some (.lst avs) ∧ ¬ F' L ∧ L ∉ ι' := fun {H' F' ι'} e => by
          have h3 : H3 L = some (.lst avs) := e3.keep L _ hL2 (.inr nι)
          have nF3 : ¬ F3 L := fun z => (e3.new L z).elim nF fun z => by rw [hL2] at z; cases z
          refine ⟨e.keep L _ h3 (.inr nι), fun z => (e.new L z).elim nF3 fun z => ?_, fun z => (e.cnew L z).elim nι fun z => ?_⟩ <;> (rw [h3] at z; cases z)
        cases hcd : cond env1 S2 with
        | bad => rw [hcd] at hcs; cases hcs
        | ex c ns es S5 => rw [hcd] at hcs; cases hcs
        | ok b S4 =>
          rw [hcd] at hcs
          refine ⟨F3, ι2, env1, S2, w4, ?_⟩
          rw [hcd]
          intro H4 F4 ι4 e4 w5
          cases b with
          | false =>
            rw [if_neg Bool.false_ne_true]
            obtain ⟨h4, nF4, nι4⟩ := keepL e4
            exact ⟨F4, ι4, S4, acc, avs, xs, (e2.trans e3).trans e4, w5.wd, h4, w4.wd.reps e4 (w2.wd.reps e3 ra), nF4, nι4, by omega, by simpa using hcs, hx⟩
          | true =>
            rw [if_pos rfl]
            rw [noX_ok, andThen_ok, if_pos rfl] at hcs
            cases hel : elt env1 S4 with
            | bad => rw [hel] at hcs; cases hcs
            | ex c ns es S6 => rw [hel] at hcs; cases hcs
            | ok x' S5 =>
              rw [hel, noX_ok, andThen_ok] at hcs
              refine ⟨F4, ι4, env1, S4, w5, ?_⟩
              rw [hel]
              intro H5 F5 ι5 e5 w6 v hv
              obtain ⟨h5, nF5, nι5⟩ := keepL (e4.trans e5)
              cases hr : compL vs p cond elt (ds.drop (i + 1)) env S5 with
              | bad => rw [hr] at hcs; cases hcs
              | ex c ns es S6 => rw [hr] at hcs; cases hcs
              | ok xs' S6 =>
                rw [hr, andThen_ok] at hcs
                cases hcs
                have ra5 := w5.wd.reps e5 (w4.wd.reps e4 (w2.wd.reps e3 ra))
                refine ⟨avs, h5, ?_, F5, ι5, S5, acc ++ [x'], avs ++ [v], xs', ?_, w6.wd.updO nF5 nι5, upd_same, reps_mono (fun _ h => h) (stay_upd nF5) (List.prefix_refl _) _ _ (ra5.app (.one hv)), nF5, nι5, ?_, hr, ?_⟩
                · rw [ra.len]
                  exact Nat.lt_of_le_of_lt hal (Nat.lt_of_lt_of_le hlt (Nat.le_trans hlen (by decide)))
                · exact ext_upd (((e2.trans e3).trans e4).trans e5) hL (by rw [h5]; simp)
                · rw [List.length_append]; simpa using hal
                · rw [List.append_assoc]; exact hx
    · have : i = ds.length := by omega
      subst this
      rw [List.drop_length] at hcs
      cases hcs
      rw [List.append_nil] at hx
      subst hx
      exact .inl ⟨st rfl, (q1 H2 F2 ι2 e2 w2).2.2 L avs hL2 ra nF nι (e1.mono L hL)⟩
end
section
variable {X : Cx} {E : EE} {elt tg iter : Expr} {ifs : List Expr} {scope : Scope} {own : List (Str × Nat)} {pos spos : Pos} {it : Ex (List D)} {p : Pat} {cond : Ex Bool} {f : Ex D}
def VTs (X : Cx) (E : EE) (es : List Expr) (p : Ex Bool) : Prop := ∀ g, PTs X es (tT X.K X.mg g E p)
theorem ts_nil : VTs X E [] mYes := fun g => ⟨fun pins s σ H Q I ⟨F, ι, env, S, w, q⟩ => pts_nil.run pins s σ H Q I (q H F ι Ext.refl w)⟩
theorem o_lc (hc : X.calm = true) (hN : X.N.Nodup) (hp : patIn p (own.map (·.2)) = true) (hi : VI X E tg iter it) (ok : BlkOk X.N X.env.scope scope own)
    (hg : ∀ (s : Shared) (H : Hp) (C : Addr) (cl : List (Str × Addr)) (fp : List Addr), PG (X.blk s H scope (compEnvC scope cl C X.env) fp) tg (gPat X.K p))
    (ht : ∀ (s : Shared) (H : Hp) (C : Addr) (cl : List (Str × Addr)) (fp : List Addr), VTs (X.blk s H scope (compEnvC scope cl C X.env) fp) EX0 ifs cond)
    (he : ∀ (s : Shared) (H : Hp) (C : Addr) (cl : List (Str × Addr)) (fp : List Addr), VE (X.blk s H scope (compEnvC scope cl C X.env) fp) EX0 elt f)
    (hs : ∀ x, foldedSetIterable iter X.env x = pure x := by intro _; rfl) : VO X E (.ListComp elt [⟨tg, iter, ifs, 0⟩] scope pos) (mComp it (own.map (·.2)) p cond f) := fun g =>
  (pe_lc hc hN (hi g) ok hg (fun s H C cl fp => ht s H C cl fp g) (fun s H C cl fp => he s H C cl fp g) hs).imp (lc_imp hp)
variable {e a b : Expr} {h k : Ex D} {fa : Ex (List D)}
def itemsOf : D → List Cell → Rs (List D)
  | .lst xs, S => .ok xs S
  | .tup xs, S => .ok xs S
  | .ro xs, S => .ok xs S
  | _, _ => .bad
def mItems (f : Ex D) : Ex (List D) := fun env S => (f env S).andThen itemsOf
theorem walk_of_list {K : PySem.W.Frag} {mg : Str → Option Value} {F : Fz} {ι : List Addr} {H : Hp} {ds : List D} {a : Addr} {vs : List V} (h : ∀ {F2 : Fz} {H2 : Hp}, (∀ a, F a → F2 a) → Stay F H H2 → SqL K H2 a vs) (r : Reps K mg F ι H ds vs) : WalkD K mg F ι H (Itl K a) ds :=
  fun F2 ι2 H2 S2 wd gr i => by
    have h2 := h gr.sub gr.stay
    have r2 := reps_mono gr.sub gr.stay gr.pre ds vs r
    refine ⟨fun hi => ⟨vs, h2, Nat.le_of_eq (r.len.trans hi)⟩, fun d hd => ?_⟩
    obtain ⟨v, hv, rv⟩ := r2.get hd
    refine ⟨⟨vs, v, h2, hv⟩, fun x H3 y => ?_⟩
    obtain ⟨rfl, y⟩ := y
    have := y vs h2
    rw [hv] at this
    cases this
    exact ⟨F2, Ext.refl, wd, rv⟩
theorem walk_of_tup {K : PySem.W.Frag} {mg : Str → Option Value} {F : Fz} {ι : List Addr} {H : Hp} {ds : List D} {a : Addr} {vs : List V} (h : TupAt K F H a vs) (r : Reps K mg F ι H ds vs) : WalkD K mg F ι H (Itt K a) ds :=
  fun F2 ι2 H2 S2 wd gr i => by
    have h2 := (h.mono gr.sub gr.stay).sq
    have r2 := reps_mono gr.sub gr.stay gr.pre ds vs r
    refine ⟨fun hi => ⟨vs, h2, Nat.le_of_eq (r.len.trans hi)⟩, fun d hd => ?_⟩
    obtain ⟨v, hv, rv⟩ := r2.get hd
    refine ⟨⟨vs, v, h2, hv⟩, fun x H3 y => ?_⟩
    obtain ⟨rfl, y⟩ := y
    have := y vs h2
    rw [hv] at this
    cases this
    exact ⟨F2, Ext.refl, wd, rv⟩
theorem walk_of_range {K : PySem.W.Frag} {mg : Str → Option Value} {F : Fz} {ι : List Addr} {H : Hp} (lo : Int) (n : Nat) : WalkD K mg F ι H (Itr lo n) ((List.range n).map fun i => .int (lo + (i : Nat))) :=
  fun F2 ι2 H2 S2 wd gr i => by
    refine ⟨fun hi => Nat.le_of_eq (by simpa using hi : n = i), fun d hd => ?_⟩
    rw [List.getElem?_map] at hd
    by_cases hi : i < n
    · rw [List.getElem?_range hi] at hd
      cases hd
      exact ⟨hi, fun x H3 ⟨e1, e2⟩ => by subst e1; subst e2; exact ⟨F2, Ext.refl, wd, rfl⟩⟩
    · rw [List.getElem?_eq_none (by simpa using hi)] at hd; cases hd
theorem _root_.L2.PI.or {tg iter : Expr} {t t' : TI} (h1 : PI X tg iter t) (h2 : PI X tg iter t') : PI X tg iter (fun σ H R => t σ H R ∨ t' σ H R) :=
  ⟨fun pins s σ H R I q => q.elim (h1.run pins s σ H R I) (h2.run pins s σ H R I)⟩
theorem i_seq {l : Expr} {f : Ex D} (he : VE X E l f) : VI X E tg l (mItems f) := fun g => ((pi_list (he g)).or (pi_tup (he g))).imp fun σ H R ⟨F, ι, env, S, w, q⟩ => by
  unfold mItems at q
  cases hf : f env S with
  | bad => rw [hf] at q; exact q.elim
  | ex c ns es S1 => exact .inl ⟨F, ι, env, S, w, by rw [hf] at q ⊢; exact q⟩
  | ok d S1 =>
    rw [hf] at q
    cases d with
    | lst xs =>
      refine .inl ⟨F, ι, env, S, w, ?_⟩
      rw [hf]
      intro H1 F1 ι1 e1 w1 v hv
      obtain ⟨a, vs, rfl, hl, hr⟩ := hv
      exact ⟨a, rfl, ⟨vs, hl.sq⟩, q H1 F1 ι1 e1 w1 _ (walk_of_list (fun h1 h2 => (hl.mono h1 h2).sq) hr)⟩
    | ro xs =>
      refine .inl ⟨F, ι, env, S, w, ?_⟩
      rw [hf]
      intro H1 F1 ι1 e1 w1 v hv
      obtain ⟨a, vs, rfl, hl, hr⟩ := hv
      exact ⟨a, rfl, ⟨vs, hl.sq⟩, q H1 F1 ι1 e1 w1 _ (walk_of_list (fun h1 h2 => (hl.mono h1 h2).sq) hr)⟩
    | tup xs =>
      refine .inr ⟨F, ι, env, S, w, ?_⟩
      rw [hf]
      intro H1 F1 ι1 e1 w1 v hv
      obtain ⟨a, vs, rfl, hl, hr⟩ := hv
      exact ⟨a, rfl, ⟨vs, hl.sq⟩, q H1 F1 ι1 e1 w1 _ (walk_of_tup hl hr)⟩
    | _ => exact q.elim
def smallI (i : Int) : Bool := decide (-1000000000 ≤ i ∧ i ≤ 1000000000)
def range1D : List D → List Cell → Rs (List D)
  | [.int j], S => if smallI j then .ok ((List.range j.toNat).map fun i => .int (i : Nat)) S else .bad
  | _, _ => .bad
def range2D : List D → List Cell → Rs (List D)
  | [.int i, .int j], S => if smallI i && smallI j then .ok ((List.range (j - i).toNat).map fun k => .int (i + (k : Nat))) S else .bad
  | _, _ => .bad
def rangeBD : List D → List Cell → Rs (List D)
  | [.int i, .int j, .int c], S => if smallI i && smallI j && c == -1 then .ok ((List.range (i - j).toNat).map fun k => .int (i - (k : Nat))) S else .bad
  | _, _ => .bad
def mRange1 (fa : Ex (List D)) : Ex (List D) := fun env S => (fa env S).andThen range1D
def mRange2 (fa : Ex (List D)) : Ex (List D) := fun env S => (fa env S).andThen range2D
def mRangeB (fa : Ex (List D)) : Ex (List D) := fun env S => (fa env S).andThen rangeBD
theorem small_of {i : Int} (h : smallI i = true) : -(2 ^ 62) ≤ i ∧ i < 2 ^ 62 := by
  have := of_decide_eq_true h
  omega
theorem i_range1 {p : Pos} (hm : X.mg "range" = none) (ha : VA X E [a] fa) (hg : Gl X "range" := by rfl) (hs : starEach [a] X.env = [(false, eval a X.env)] := by rfl) : VI X E tg (.Call (.Name "range" p) [a] [] pos) (mRange1 fa) := fun g =>
  (pi_range1 hg hm (ha g) hs).imp fun σ H R ⟨F, ι, env, S, w, q⟩ => ⟨F, ι, env, S, w, rd_mono (rd_then q) fun xs H1 F1 ι1 S1 hx e1 w1 ⟨_, _, q1⟩ vs hvs => by
    unfold range1D at q1
    split at q1
    · obtain ⟨v, r, rfl, rfl, rfl⟩ := hvs
      split at q1
      · rename_i j S1 hj
        obtain ⟨h1, h2⟩ := small_of hj
        refine ⟨j, rfl, h1, h2, (q1 H1 F1 ι1 Ext.refl w1).2.2 _ ?_⟩
        have := walk_of_range (K := X.K) (mg := X.mg) (F := F1) (ι := ι1) (H := H1) 0 j.toNat
        simpa only [Int.zero_add] using this
      · exact q1.elim
    · exact q1.elim⟩
end
end DL
namespace DL
open PySem PySem.Spec L2
open PyProof.Rows hiding St
def SqX (b : Bool) (K : PySem.W.Frag) (H : Hp) (a : Addr) (xs : List V) : Prop := if b = true then SqT K H a xs else SqL K H a xs
def AtX (b : Bool) (h : Heap) (a : Addr) (its : Array Value) : Prop := if b = true then h.IsTuple a its else h.IsList a its
def ItX (b : Bool) (h : Heap) (it a : Addr) (i : Nat) : Prop := if b = true then h.IsTupleIter it a i else h.IsListIter it a i
def itO (b : Bool) (a : Addr) : Obj := if b = true then { cls := .type "tuple_iterator", data := .fields #[.ref a, .int 0 0] } else { cls := .type "list_iterator", data := .fields #[.ref a, .int 0 0] }
section
variable {b : Bool} {h h' : Heap} {a it : Addr} {its : Array Value} {i : Nat}
theorem AtX.obj (x : AtX b h a its) : ∃ o, h.get? a = some o ∧ o.cls = .type (if b = true then "tuple" else "list") := by
  cases b
  · obtain ⟨o, e, c, _⟩ := (show h.IsList a its from x); exact ⟨o, e, c⟩
  · obtain ⟨o, e, c, _⟩ := (show h.IsTuple a its from x); exact ⟨o, e, c⟩
theorem ItX.obj (x : ItX b h it a i) : ∃ o, h.get? it = some o ∧ o.cls = .type (if b = true then "tuple_iterator" else "list_iterator") ∧ ∃ vs, o.data = .fields vs := by
  cases b
  · obtain ⟨o, e, c, d⟩ := (show h.IsListIter it a i from x); exact ⟨o, e, c, _, d⟩
  · obtain ⟨o, e, c, d⟩ := (show h.IsTupleIter it a i from x); exact ⟨o, e, c, _, d⟩
theorem ItX.at (x : ItX b h it a i) (k : ∀ o, h.get? it = some o → h'.get? it = some o) : ItX b h' it a i := by
  cases b
  · exact (show h.IsListIter it a i from x).at k
  · exact (show h.IsTupleIter it a i from x).at k
theorem AtX.keeps (x : AtX b h a its) (k : ∀ b o, h.get? b = some o → h'.get? b = some o) : AtX b h' a its := by
  cases b
  · exact (show h.IsList a its from x).at fun o e => k a o e
  · exact (show h.IsTuple a its from x).at fun o e => k a o e
theorem ItX.apart {b' : Bool} {c : Addr} (x : ItX b h it a i) (y : AtX b' h c its) : c ≠ it := fun z => by
  obtain ⟨o, e, k, _⟩ := x.obj
  obtain ⟨o', e', k'⟩ := y.obj
  rw [z, e] at e'
  cases e'
  rw [k] at k'
  cases b <;> cases b' <;> simp at k'
end
def EnX (b : Bool) (K : PySem.W.Frag) (a : Addr) : It where
  go := fun i H => ∃ (xs : List V) (x : V), SqX b K H a xs ∧ xs[i]? = some x
  yld := fun i H v H' => ∃ T x o, v = .ref T ∧ H T = none ∧ BT [.int (i : Nat), x] o ∧ H' = upd H T o ∧ ∀ xs, SqX b K H a xs → xs[i]? = some x
  stop := fun i H => ∃ xs : List V, SqX b K H a xs ∧ xs.length = i
section
variable {X : Cx} {E : EE} {e e2 : Expr} {elts : List Expr} {kk : Nat} {pos tpos p : Pos} {fa : Ex (List D)} {ta : TA}
def ZpX (b1 b2 : Bool) (K : PySem.W.Frag) (a1 a2 : Addr) : It where
  go := fun i H => ∃ (xs ys : List V) (x y : V), SqX b1 K H a1 xs ∧ SqX b2 K H a2 ys ∧ xs[i]? = some x ∧ ys[i]? = some y
  yld := fun i H v H' => ∃ T x y o, v = .ref T ∧ H T = none ∧ BT [x, y] o ∧ H' = upd H T o ∧ (∀ xs, SqX b1 K H a1 xs → xs[i]? = some x) ∧ ∀ ys, SqX b2 K H a2 ys → ys[i]? = some y
  stop := fun i H => ∃ xs ys : List V, SqX b1 K H a1 xs ∧ SqX b2 K H a2 ys ∧ i ≤ xs.length ∧ i ≤ ys.length ∧ (i = xs.length ∨ i = ys.length)
structure Five (z TI TO i1 i2 : Addr) : Prop where
  nd : [z, TI, TO, i1, i2].Nodup
def seqOf : D → Option (Bool × List D)
  | .lst xs => some (false, xs)
  | .tup xs => some (true, xs)
  | .ro xs => some (false, xs)
  | _ => none
def pairsI (xs : List D) : List D := xs.mapIdx fun i d => .tup [.int (i : Nat), d]
def enumD : List D → List Cell → Rs (List D)
  | [d], S => match seqOf d with
    | some (_, xs) => .ok (pairsI xs) S
    | none => .bad
  | _, _ => .bad
def mEnum (fa : Ex (List D)) : Ex (List D) := fun env S => (fa env S).andThen enumD
def pairsZ (xs ys : List D) : List D := List.zipWith (fun x y => .tup [x, y]) xs ys
def zipD : List D → List Cell → Rs (List D)
  | [d, d'], S => match seqOf d, seqOf d' with
    | some (_, xs), some (_, ys) => .ok (pairsZ xs ys) S
    | _, _ => .bad
  | _, _ => .bad
def mZip (fa : Ex (List D)) : Ex (List D) := fun env S => (fa env S).andThen zipD
end
end DL
namespace DL
open PySem PySem.Spec L2
open PyProof.Rows hiding St
def okMul (i j : Int) : Bool := decide (i.natAbs.log2 + j.natAbs.log2 < 1000000)
def okDiv (j : Int) : Bool := decide (0 < j ∧ j.natAbs.log2 < 9000)
instance (i j : Int) : Decidable (CMulW i j) := inferInstanceAs (Decidable (_ < _))
instance (i j : Int) : Decidable (CDivW i j) := inferInstanceAs (Decidable (_ ∧ _))
instance (i j : Int) : Decidable (CPow i j) := inferInstanceAs (Decidable (_ ∧ _ ∧ _))
def okLen (n : Nat) : Bool := decide (n ≤ 100000)
theorem okLen_le {n : Nat} (h : okLen n = true) : n ≤ sizeLine := Nat.le_trans (of_decide_eq_true h) (by decide)
section
variable {X : Cx} {K : PySem.W.Frag} {mg : Str → Option Value}
def addD : Op2 := fun x y _ => match x, y with
  | .int i, .int j => some (.int (i + j))
  | .str a, .str b => if okLen (a.length + b.length) then some (.str (a ++ b)) else none
  | .lst a, .lst b => if okLen (a.length + b.length) then some (.lst (a ++ b)) else none
  | .tup a, .tup b => if okLen (a.length + b.length) then some (.tup (a ++ b)) else none
  | _, _ => none
def rAddAll (K : PySem.W.Frag) : R2 := fun x y H Q => ((((∃ i j, x = .int i ∧ y = .int j ∧ Q (.int (i + j)) H) ∨ ∃ i j, x = .str i ∧ y = .str j ∧ i.length + j.length ≤ sizeLine ∧ Q (.str (i ++ j)) H)) ∨ rCat x y H Q) ∨ rCatB K x y H Q
theorem op_addAll : OpR X (binaryOp .Add) (rAddAll X.K) := ((op_add.or op_add_str).or op_cat).or op_catB
theorem ok_add : Ok2 K mg (rAddAll K) addD := by
  intro H F ι S x y d v u Q w rx ry ho t
  unfold addD at ho
  split at ho
  · cases ho
    exact .inl (.inl (.inl ⟨_, _, rx, ry, t.here w rfl⟩))
  · split at ho
    · rename_i hl
      cases ho
      exact .inl (.inl (.inr ⟨_, _, rx, ry, okLen_le hl, t.here w rfl⟩))
    · cases ho
  · split at ho
    · rename_i hl
      cases ho
      obtain ⟨a, vs, rfl, h1, h2⟩ := rx
      obtain ⟨b, us, rfl, h3, h4⟩ := ry
      refine .inl (.inr ⟨a, b, vs, us, rfl, rfl, h1.2, h3.2, ?_, fun p n => t.own.lay w (h2.app h4) n⟩)
      rw [h2.len, h4.len]
      exact okLen_le hl
    · cases ho
  · split at ho
    · rename_i a b hl
      cases ho
      obtain ⟨p, vs, rfl, h1, h2⟩ := rx
      obtain ⟨q, us, rfl, h3, h4⟩ := ry
      refine .inr ⟨p, q, vs, us, rfl, rfl, h1.sq, h3.sq, by rw [h2.len, h4.len]; exact okLen_le hl, fun e => ?_, fun _ e => ?_, fun _ _ => t.layT w (h2.app h4)⟩
      · subst e
        have : a = [] := by have := h2.len; exact List.eq_nil_of_length_eq_zero this.symm
        subst this
        exact t.here w ⟨q, us, rfl, h3, h4⟩
      · subst e
        have : b = [] := by have := h4.len; exact List.eq_nil_of_length_eq_zero this.symm
        subst this
        rw [List.append_nil] at t
        exact t.here w ⟨p, vs, rfl, h1, h2⟩
    · cases ho
  · cases ho
def intD (c : Int → Int → Bool) (f : Int → Int → D) : Op2 := fun x y _ => match x, y with
  | .int i, .int j => if c i j then some (f i j) else none
  | _, _ => none
theorem ok_int {C : Int → Int → Prop} {c : Int → Int → Bool} {f : Int → Int → D} {h : Int → Int → V} (hc : ∀ i j, c i j = true → C i j) (hr : ∀ i j F ι H, Rep K mg F ι H (f i j) (h i j)) : Ok2 K mg (rI C h) (intD c f) := by
  intro H F ι S x y d v u Q w rx ry ho t
  unfold intD at ho
  split at ho
  · split at ho
    · rename_i i j hcc
      cases ho
      exact ⟨i, j, rx, ry, hc i j hcc, t.here w (hr i j F ι H)⟩
    · cases ho
  · cases ho
theorem ok_int0 {f : Int → Int → D} {h : Int → Int → V} (hr : ∀ i j F ι H, Rep K mg F ι H (f i j) (h i j)) : Ok2 K mg (rI0 h) (intD (fun _ _ => true) f) := by
  intro H F ι S x y d v u Q w rx ry ho t
  unfold intD at ho
  split at ho
  · rw [if_pos rfl] at ho
    cases ho
    exact ⟨_, _, rx, ry, t.here w (hr _ _ F ι H)⟩
  · cases ho
def subD : Op2 := intD (fun _ _ => true) fun i j => .int (i - j)
def divD : Op2 := intD (fun _ j => okDiv j) fun i j => .int (i / j)
def modD : Op2 := intD (fun _ j => decide (0 < j)) fun i j => .int (i % j)
def ltD : Op2 := intD (fun _ _ => true) fun i j => .bl (decide (i < j))
def leD : Op2 := intD (fun _ _ => true) fun i j => .bl (decide (i ≤ j))
def gtD : Op2 := intD (fun _ _ => true) fun i j => .bl (decide (j < i))
def geD : Op2 := intD (fun _ _ => true) fun i j => .bl (decide (j ≤ i))
theorem ok_sub : Ok2 K mg (rI0 fun i j => .int (i - j)) subD := ok_int0 fun _ _ _ _ _ => rfl
theorem ok_mod : Ok2 K mg (rI (fun _ j => 0 < j) fun i j => .int (i % j)) modD := ok_int (fun _ _ h => of_decide_eq_true h) fun _ _ _ _ _ => rfl
theorem ok_lt : Ok2 K mg (rI0 fun i j => .bl (decide (i < j))) ltD := ok_int0 fun _ _ _ _ _ => rfl
def powD : Op2 := intD (fun i j => decide (0 ≤ j ∧ j ≤ 1000000 ∧ i.natAbs < 2 ^ 64)) fun i j => .int (i ^ j.toNat)
theorem ok_pow : Ok2 K mg (rI CPow fun i j => .int (i ^ j.toNat)) powD := ok_int (fun _ _ h => of_decide_eq_true h) fun _ _ _ _ _ => rfl
def mulD : Op2 := fun x y _ => match x, y with
  | .int i, .int j => if okMul i j then some (.int (i * j)) else none
  | .lst a, .int k => if decide (-(2 ^ 63) ≤ k ∧ k < 2 ^ 63) && okLen (a.length * k.toNat) then some (.lst (List.replicate k.toNat a).flatten) else none
  | _, _ => none
theorem Reps.flat {F : Fz} {ι : List Addr} {H : Hp} {ds : List D} {vs : List V} (h : Reps K mg F ι H ds vs) : ∀ n : Nat, Reps K mg F ι H (List.replicate n ds).flatten (List.replicate n vs).flatten
  | 0 => rfl
  | n + 1 => by
    rw [List.replicate_succ, List.replicate_succ, List.flatten_cons, List.flatten_cons]
    exact h.app (Reps.flat h n)
def rMulAll : R2 := fun x y H Q => (rI CMulW (fun i j => .int (i * j)) x y H Q) ∨ rRep x y H Q
theorem op_mulAll : OpR X (binaryOp .Mult) rMulAll := op_mulW.or op_rep
theorem ok_mul : Ok2 K mg rMulAll mulD := by
  intro H F ι S x y d v u Q w rx ry ho t
  unfold mulD at ho
  split at ho
  · split at ho
    · rename_i i j hc
      cases ho
      exact .inl ⟨i, j, rx, ry, of_decide_eq_true hc, t.here w rfl⟩
    · cases ho
  · split at ho
    · rename_i a k hc
      cases ho
      rw [Bool.and_eq_true] at hc
      obtain ⟨h1, h2⟩ := of_decide_eq_true hc.1
      obtain ⟨l, vs, rfl, hl, hr⟩ := rx
      exact .inr ⟨l, k, vs, rfl, ry, hl.2, h1, h2, by rw [hr.len]; exact okLen_le hc.2, fun p n => t.own.lay w (hr.flat k.toNat) n⟩
    · cases ho
  · cases ho
def negD : Op1 := fun x _ => match x with
  | .int i => some (.int (-i))
  | _ => none
theorem ok_neg : Ok1 K mg (rU fun i => .int (-i)) negD := by
  intro H F ι S x d v Q w rx ho t
  unfold negD at ho
  split at ho
  · cases ho
    exact ⟨_, rx, t.here w rfl⟩
  · cases ho
def ixD : Op2 := fun x y S => match x, y with
  | .lst xs, .int i => atI xs i
  | .tup xs, .int i => atI xs i
  | .ro xs, .int i => atI xs i
  | .cell n, .int i => match S[n]? with
    | some (.lst xs) => atI xs i
    | _ => none
  | .str s, .int i => if okLen s.length then (atI s.cps.toList i).map fun c => .str ⟨#[c]⟩ else none
  | _, _ => none
theorem Reps.atI {F : Fz} {ι : List Addr} {H : Hp} {ds : List D} {vs : List V} {i : Int} {d : D} (h : Reps K mg F ι H ds vs) (e : L2.atI ds i = some d) : ∃ v, L2.atI vs i = some v ∧ Rep K mg F ι H d v := by
  unfold L2.atI at e ⊢
  rw [h.len]
  cases hj : ixN ds.length i with
  | none => rw [hj] at e; cases e
  | some j =>
    rw [hj] at e
    exact h.get e
def rIxAll (K : PySem.W.Frag) : R2 := fun x y H Q => (rIxL K x y H Q ∨ rIxT K x y H Q) ∨ rIxS x y H Q
theorem ix_all : IxR X (rIxAll X.K) := (ix_list.or ix_tup).or ix_str
theorem ok_ix : Ok2 K mg (rIxAll K) ixD := by
  intro H F ι S x y d v u Q w rx ry ho t
  unfold ixD at ho
  split at ho
  · obtain ⟨a, vs, rfl, hl, hr⟩ := rx
    obtain ⟨z, h1, h2⟩ := hr.atI ho
    exact .inl (.inl ⟨a, vs, _, z, rfl, ry, hl.sq, h1, t.here w h2⟩)
  · obtain ⟨a, vs, rfl, hl, hr⟩ := rx
    obtain ⟨z, h1, h2⟩ := hr.atI ho
    exact .inl (.inr ⟨a, vs, _, z, rfl, ry, hl.sq, h1, t.here w h2⟩)
  · obtain ⟨a, vs, rfl, hl, hr⟩ := rx
    obtain ⟨z, h1, h2⟩ := hr.atI ho
    exact .inl (.inl ⟨a, vs, _, z, rfl, ry, hl.sq, h1, t.here w h2⟩)
  · obtain ⟨a, rfl, ha⟩ := rx
    split at ho
    · rename_i xs hs
      obtain ⟨vs, h1, hr⟩ := w.cells _ _ a hs ha
      obtain ⟨z, h3, h4⟩ := hr.atI ho
      exact .inl (.inl ⟨a, vs, _, z, rfl, ry, .inl (.inl h1), h3, t.here w h4⟩)
    · cases ho
  · split at ho
    · rename_i s i hl
      cases hc : L2.atI s.cps.toList i with
      | none => rw [hc] at ho; cases ho
      | some c =>
        rw [hc] at ho
        cases ho
        exact .inr ⟨s, i, c, rx, ry, okLen_le hl, hc, t.here w rfl⟩
    · cases ho
  · cases ho
def SlD (K : PySem.W.Frag) (mg : Str → Option Value) (r : V → Option Int → Option Int → Hp → VK → Prop) (op : D → Option Int → Option Int → Option D) : Prop :=
  ∀ H F ι S x lo hi d v Q, Wd K mg F ι H S → Rep K mg F ι H x v → op x lo hi = some d → Told K mg H F ι S d Q → r v lo hi H Q
def cutD (xs : List D) (lo hi : Option Int) : List D := (xs.drop (HT.sIx xs.length 0 lo)).take (HT.sIx xs.length xs.length hi - HT.sIx xs.length 0 lo)
def sliceD : D → Option Int → Option Int → Option D := fun x lo hi => match x with
  | .lst xs => some (.lst (cutD xs lo hi))
  | .ro xs => some (.lst (cutD xs lo hi))
  | .tup xs => some (.tup (cutD xs lo hi))
  | .str s => if okLen s.length then some (.str (cutS s lo hi)) else none
  | _ => none
theorem Reps.cut {F : Fz} {ι : List Addr} {H : Hp} {ds : List D} {vs : List V} (h : Reps K mg F ι H ds vs) (lo hi : Option Int) : Reps K mg F ι H (cutD ds lo hi) (cutV vs lo hi) := by
  unfold cutD cutV
  rw [h.len]
  exact (h.drop _).take _
theorem SlR.or {r r' : V → Option Int → Option Int → Hp → VK → Prop} (h : SlR X r) (h' : SlR X r') : SlR X (fun x lo hi H Q => r x lo hi H Q ∨ r' x lo hi H Q) := by
  intro pins s σ H x v vl vu lo hi sl Q I rx hs pl pu q
  rcases q with q | q
  · exact h pins s σ H x v vl vu lo hi sl Q I rx hs pl pu q
  · exact h' pins s σ H x v vl vu lo hi sl Q I rx hs pl pu q
def rSlAll (K : PySem.W.Frag) : V → Option Int → Option Int → Hp → VK → Prop := fun x lo hi H Q => (rSlL K x lo hi H Q ∨ rSlB K x lo hi H Q) ∨ rSlS x lo hi H Q
theorem sl_all : SlR X (rSlAll X.K) := SlR.or (SlR.or sl_list sl_tupB) sl_str
theorem cut_whole {α : Type} {xs : List α} {lo hi : Option Int} (h : HT.sIx xs.length 0 lo = 0 ∧ HT.sIx xs.length xs.length hi = xs.length) : (xs.drop (HT.sIx xs.length 0 lo)).take (HT.sIx xs.length xs.length hi - HT.sIx xs.length 0 lo) = xs := by
  rw [h.1, h.2, List.drop_zero, Nat.sub_zero, List.take_length]
theorem ok_slice : SlD K mg (rSlAll K) sliceD := by
  intro H F ι S x lo hi d v Q w rx ho t
  unfold sliceD at ho
  split at ho
  · cases ho
    obtain ⟨a, vs, rfl, hl, hr⟩ := rx
    exact .inl (.inl ⟨a, vs, rfl, hl.sq, fun p n => t.own.lay w (hr.cut lo hi) n⟩)
  · cases ho
    obtain ⟨a, vs, rfl, hl, hr⟩ := rx
    exact .inl (.inl ⟨a, vs, rfl, hl.sq, fun p n => t.own.lay w (hr.cut lo hi) n⟩)
  · cases ho
    obtain ⟨a, vs, rfl, hl, hr⟩ := rx
    refine .inl (.inr ⟨a, vs, rfl, hl.sq, fun hw => ?_, fun _ => t.layT w (hr.cut lo hi)⟩)
    rw [hr.len] at hw
    unfold cutD at t
    rw [cut_whole hw] at t
    exact t.here w ⟨a, vs, rfl, hl, hr⟩
  · split at ho
    · rename_i hl
      cases ho
      exact .inr ⟨_, rx, okLen_le hl, t.here w rfl⟩
    · cases ho
  · cases ho
abbrev ExO := Ex (Option Int)
def mNoPart : ExO := fun _ S => .ok none S
def asI : D → List Cell → Rs (Option Int)
  | .int i, S => .ok (some i) S
  | _, _ => .bad
def mPart (f : Ex D) : ExO := fun env S => (f env S).andThen asI
def tPo (K : PySem.W.Frag) (mg : Str → Option Value) (g : Snap) (E : EE) (f : ExO) : TO := fun σ H Q => ∃ F ι env S, RS K mg g σ H F ι env S ∧ rdAt K mg g E σ H F ι env (fun o H' _ _ _ => Q o H') (f env S)
def VP (X : Cx) (E : EE) (e : Option Expr) (f : ExO) : Prop := ∀ g, PO X e (tPo X.K X.mg g E f)
theorem _root_.L2.PO.imp {X : Cx} {e : Option Expr} {t t' : TO} (p : PO X e t) (h : ∀ σ H Q, t' σ H Q → t σ H Q) : PO X e t' := ⟨fun pins s σ H Q I q => p.run pins s σ H Q I (h σ H Q q)⟩
variable {E : EE} {e : Expr} {f : Ex D} {lo hi : Option Expr} {fl fh : ExO} {pos p2 : Pos}
theorem p_none : VP X E none mNoPart := fun g => po_none.imp fun σ H Q ⟨F, ι, env, S, w, q⟩ => q H F ι Ext.refl w
theorem p_some (h : VE X E e f) : VP X E (some e) (mPart f) := fun g => (po_some (h g)).imp fun σ H Q ⟨F, ι, env, S, w, q⟩ =>
  ⟨F, ι, env, S, w, rd_mono (rd_then q) fun d H1 F1 ι1 S1 _ e1 w1 ⟨_, _, q1⟩ v hv => by
    cases d with
    | int i => exact ⟨i, hv, (q1 H1 F1 ι1 Ext.refl w1).2.2⟩
    | _ => exact q1.elim⟩
def mSlice (op : D → Option Int → Option Int → Option D) (f : Ex D) (fl fh : ExO) : Ex D := fun env S => (f env S).andThen fun x S1 => (fl env S1).andThen fun l S2 => (fh env S2).andThen fun h S3 => ofO (op x l h) S3
theorem v_slice {r : V → Option Int → Option Int → Hp → VK → Prop} {op : D → Option Int → Option Int → Option D} (hr : SlR X r) (ok : SlD X.K X.mg r op) (he : VE X E e f) (hl : VP X E lo fl) (hu : VP X E hi fh) :
    VE X E (.Subscript e (.Slice lo hi none p2) pos) (mSlice op f fl fh) := fun g => (pe_slice hr (he g) (hl g) (hu g)).imp fun σ H Q ⟨F, ι, env, S, w, q⟩ =>
  ⟨F, ι, env, S, w, rd_mono (rd_then q) fun x H1 F1 ι1 S1 _ e1 w1 ⟨_, _, q1⟩ v hv => ⟨F1, ι1, env, S1, w1, rd_mono (rd_then q1) fun l H2 F2 ι2 S2 _ e2 w2 ⟨_, _, q2⟩ =>
    ⟨F2, ι2, env, S2, w2, rd_mono (rd_then q2) fun u H3 F3 ι3 S3 _ e3 w3 ⟨_, _, q3⟩ => by
      cases ho : op x l u with
      | none => rw [ho] at q3; exact q3.elim
      | some d =>
        rw [ho] at q3
        refine ok H3 F3 ι3 S3 x l u d v Q w3.wd (w2.wd.rep e3 (w1.wd.rep e2 hv)) ho fun v' H' F' ι' e' w' hv' => ?_
        exact (q3 H' F' ι' e' (w3.step e' w')).2.2.2.2.2.2 v' hv'⟩⟩⟩
mutual
def toP : D → Option PyData
  | .non => some .none
  | .bl b => some (.bool b)
  | .int i => some (.int i)
  | .str s => some (.str s)
  | .tup xs => (toPs xs).map .tuple
  | .lst xs => (toPs xs).map .list
  | .ro xs => (toPs xs).map .list
  | _ => none
def toPs : List D → Option (List PyData)
  | [] => some []
  | d :: ds => match toP d, toPs ds with
    | some p, some ps => some (p :: ps)
    | _, _ => none
end
mutual
theorem toP_dp {F : Fz} {ι : List Addr} {H : Hp} : ∀ (d : D) (v : V) (p : PyData), Rep K mg F ι H d v → toP d = some p → Dp K H v p
  | .non, _, _, h, e => by cases e; rw [show _ = _ from h]; exact .non
  | .bl _, _, _, h, e => by cases e; rw [show _ = _ from h]; exact .bl _
  | .int _, _, _, h, e => by cases e; rw [show _ = _ from h]; exact .int _
  | .str _, _, _, h, e => by cases e; rw [show _ = _ from h]; exact .str _
  | .tup xs, _, p, h, e => by
    obtain ⟨a, vs, rfl, hl, hr⟩ := h
    unfold toP at e
    cases he : toPs xs with
    | none => rw [he] at e; cases e
    | some ps => rw [he] at e; cases e; exact .tup hl.sq (toPs_dp xs vs ps hr he)
  | .lst xs, _, p, h, e => by
    obtain ⟨a, vs, rfl, hl, hr⟩ := h
    unfold toP at e
    cases he : toPs xs with
    | none => rw [he] at e; cases e
    | some ps => rw [he] at e; cases e; exact .lst hl.sq (toPs_dp xs vs ps hr he)
  | .ro xs, _, p, h, e => by
    obtain ⟨a, vs, rfl, hl, hr⟩ := h
    unfold toP at e
    cases he : toPs xs with
    | none => rw [he] at e; cases e
    | some ps => rw [he] at e; cases e; exact .lst hl.sq (toPs_dp xs vs ps hr he)
  | .dct _ _, _, _, _, e => by cases e
  | .obj _ _ _, _, _, _, e => by cases e
  | .cell _, _, _, _, e => by cases e
  | .ty _, _, _, _, e => by cases e
  | .cls _, _, _, _, e => by cases e
  | .exc _ _ _, _, _, _, e => by cases e
theorem toPs_dp {F : Fz} {ι : List Addr} {H : Hp} : ∀ (ds : List D) (vs : List V) (ps : List PyData), Reps K mg F ι H ds vs → toPs ds = some ps → DpAll K H vs ps
  | [], _, _, h, e => by cases e; rw [show _ = _ from h]; exact .nil
  | d :: ds, vs, ps, h, e => by
    obtain ⟨v, r, rfl, h1, h2⟩ := h
    unfold toPs at e
    cases e1 : toP d with
    | none => rw [e1] at e; cases e
    | some p =>
      cases e2 : toPs ds with
      | none => rw [e1, e2] at e; cases e
      | some qs => rw [e1, e2] at e; cases e; exact .cons (toP_dp d v p h1 e1) (toPs_dp ds r qs h2 e2)
end
def eqP (x y : D) : Option Bool := match toP x, toP y with
  | some p, some q => if SeqAt.shaped p && SeqAt.shaped q then some (PyData.eqv p q) else none
  | _, _ => none
def eqA (x y : D) : Option Bool := match x, y with
  | .str a, .str b => some (decide (a = b))
  | _, _ => eqP x y
def eqD : Op2 := fun x y _ => (eqA x y).map .bl
def neD : Op2 := fun x y _ => (eqA x y).map fun b => .bl (!b)
def rEqA (K : PySem.W.Frag) : R2 := fun x y H Q => rEqD K x y H Q ∨ rEq x y H Q
def rNeA (K : PySem.W.Frag) : R2 := fun x y H Q => rNeD K x y H Q ∨ rNe x y H Q
theorem op_eqAll {X : Cx} (hu : X.A.units + 64 < cLine) : OpR X (compareOp .Eq) (rEqA X.K) := (op_eqD hu).or op_eq
theorem op_neAll {X : Cx} (hu : X.A.units + 64 < cLine) : OpR X (compareOp .NotEq) (rNeA X.K) := (op_neD hu).or op_ne
theorem eqA_cases {x y : D} {b : Bool} (h : eqA x y = some b) : eqP x y = some b ∨ ∃ a c, x = .str a ∧ y = .str c ∧ b = decide (a = c) := by
  unfold eqA at h
  split at h
  · cases h; exact .inr ⟨_, _, rfl, rfl, rfl⟩
  · exact .inl h
theorem eqP_dp {F : Fz} {ι : List Addr} {H : Hp} {x y : D} {v u : V} {b : Bool} (rx : Rep K mg F ι H x v) (ry : Rep K mg F ι H y u) (h : eqP x y = some b) :
    ∃ p q, Dp K H v p ∧ Dp K H u q ∧ SeqAt.shaped p = true ∧ SeqAt.shaped q = true ∧ PyData.eqv p q = b := by
  unfold eqP at h
  split at h
  · rename_i p q hp hq
    split at h
    · rename_i hs
      rw [Bool.and_eq_true] at hs
      exact ⟨p, q, toP_dp x v p rx hp, toP_dp y u q ry hq, hs.1, hs.2, by simpa using h⟩
    · cases h
  · cases h
theorem ok_eq : Ok2 K mg (rEqA K) eqD := by
  intro H F ι S x y d v u Q w rx ry ho t
  unfold eqD at ho
  cases hb : eqA x y with
  | none => rw [hb] at ho; cases ho
  | some b =>
    rw [hb] at ho
    cases ho
    rcases eqA_cases hb with hb | ⟨a, c, rfl, rfl, rfl⟩
    · obtain ⟨p, q, h1, h2, h3, h4, h5⟩ := eqP_dp rx ry hb
      exact .inl ⟨p, q, h1, h2, h3, h4, by rw [h5]; exact t.here w rfl⟩
    · rw [show v = _ from rx, show u = _ from ry]
      refine .inr ⟨rfl, ?_⟩
      have e : decide (V.str a = V.str c) = decide (a = c) := by simp
      rw [e]
      exact t.here w rfl
theorem ok_ne : Ok2 K mg (rNeA K) neD := by
  intro H F ι S x y d v u Q w rx ry ho t
  unfold neD at ho
  cases hb : eqA x y with
  | none => rw [hb] at ho; cases ho
  | some b =>
    rw [hb] at ho
    cases ho
    rcases eqA_cases hb with hb | ⟨a, c, rfl, rfl, rfl⟩
    · obtain ⟨p, q, h1, h2, h3, h4, h5⟩ := eqP_dp rx ry hb
      exact .inl ⟨p, q, h1, h2, h3, h4, by rw [h5]; exact t.here w rfl⟩
    · rw [show v = _ from rx, show u = _ from ry]
      refine .inr ⟨rfl, ?_⟩
      have e : decide (V.str a = V.str c) = decide (a = c) := by simp
      rw [e]
      exact t.here w rfl
def isND : Op2 := fun x y _ => match y, x with
  | .non, .non => some (.bl true)
  | .non, .cell _ => none
  | .non, _ => some (.bl false)
  | .bl b, .bl a => some (.bl (a == b))
  | _, _ => none
end
end DL
namespace DL
open PySem PySem.Spec L2
open PyProof.Rows hiding St
section
variable {X : Cx} {K : PySem.W.Frag} {mg : Str → Option Value}
def lenD : OpN := fun xs S => match xs with
  | [.lst a] => some (.int (a.length : Nat))
  | [.ro a] => some (.int (a.length : Nat))
  | [.tup a] => some (.int (a.length : Nat))
  | [.str s] => if okLen s.length then some (.int (s.length : Nat)) else none
  | [.cell n] => match S[n]? with
    | some (.lst a) => some (.int (a.length : Nat))
    | _ => none
  | _ => none
def rLenAll (K : PySem.W.Frag) : List V → Hp → VK → Prop := fun xs H Q => (∃ p ys, xs = [.ref p] ∧ (SqL K H p ys ∨ SqT K H p ys) ∧ Q (.int ys.length) H) ∨ ∃ x n, xs = [x] ∧ LenV K x H n ∧ Q (.int n) H
theorem CallR.or {f : Value} {r r' : List V → Hp → VK → Prop} (h : CallR X f r) (h' : CallR X f r') : CallR X f (fun xs H Q => r xs H Q ∨ r' xs H Q) := by
  intro pins s σ H xs us Q I rv q
  rcases q with q | q
  · exact h pins s σ H xs us Q I rv q
  · exact h' pins s σ H xs us Q I rv q
theorem call_lenAll : CallR X (.builtin "len") (rLenAll X.K) := CallR.or call_len_seq call_len
theorem one_of {F : Fz} {ι : List Addr} {H : Hp} {d : D} {vs : List V} (h : Reps K mg F ι H [d] vs) : ∃ v, vs = [v] ∧ Rep K mg F ι H d v := by
  obtain ⟨v, r, rfl, h1, rfl⟩ := h
  exact ⟨v, rfl, h1⟩
theorem two_of {F : Fz} {ι : List Addr} {H : Hp} {d d' : D} {vs : List V} (h : Reps K mg F ι H [d, d'] vs) : ∃ v u, vs = [v, u] ∧ Rep K mg F ι H d v ∧ Rep K mg F ι H d' u := by
  obtain ⟨v, r, rfl, h1, u, r2, rfl, h2, rfl⟩ := h
  exact ⟨v, u, rfl, h1, h2⟩
theorem ok_len : OkN K mg (rLenAll K) lenD := by
  intro H F ι S xs d vs Q w rx ho t
  unfold lenD at ho
  split at ho
  · cases ho
    obtain ⟨v, rfl, a, us, rfl, hl, hr⟩ := one_of rx
    exact .inl ⟨a, us, rfl, .inl hl.sq, by rw [hr.len]; exact t.here w rfl⟩
  · cases ho
    obtain ⟨v, rfl, a, us, rfl, hl, hr⟩ := one_of rx
    exact .inl ⟨a, us, rfl, .inl hl.sq, by rw [hr.len]; exact t.here w rfl⟩
  · cases ho
    obtain ⟨v, rfl, a, us, rfl, hl, hr⟩ := one_of rx
    exact .inl ⟨a, us, rfl, .inr hl.sq, by rw [hr.len]; exact t.here w rfl⟩
  · split at ho
    · rename_i hl
      cases ho
      obtain ⟨v, rfl, hv⟩ := one_of rx
      rw [show v = _ from hv]
      exact .inr ⟨_, _, rfl, ⟨okLen_le hl, rfl⟩, t.here w rfl⟩
    · cases ho
  · obtain ⟨v, rfl, a, rfl, ha⟩ := one_of rx
    split at ho
    · rename_i ys hs
      cases ho
      obtain ⟨us, h1, hr⟩ := w.cells _ _ a hs ha
      exact .inl ⟨a, us, rfl, .inl (.inl (.inl h1)), by rw [hr.len]; exact t.here w rfl⟩
    · cases ho
  · cases ho
def absD : OpN := fun xs _ => match xs with
  | [.int i] => some (.int (if i < 0 then -i else i))
  | _ => none
def toIntD : OpN := fun xs _ => match xs with
  | [.int i] => some (.int i)
  | [.bl b] => some (.int (if b = true then 1 else 0))
  | _ => none
theorem ok_toInt : OkN K mg (fun xs H Q => (∃ i, xs = [.int i] ∧ Q (.int i) H) ∨ ∃ k, xs = [.bl k] ∧ Q (.int (if k then 1 else 0)) H) toIntD := by
  intro H F ι S xs d vs Q w rx ho t
  unfold toIntD at ho
  split at ho
  · cases ho
    obtain ⟨v, rfl, hv⟩ := one_of rx
    rw [show v = _ from hv]
    exact .inl ⟨_, rfl, t.here w rfl⟩
  · cases ho
    obtain ⟨v, rfl, hv⟩ := one_of rx
    rw [show v = _ from hv]
    exact .inr ⟨_, rfl, t.here w rfl⟩
  · cases ho
def maxD : OpN := fun xs _ => match xs with
  | [.int i, .int j] => some (.int (if j > i then j else i))
  | _ => none
def minD : OpN := fun xs _ => match xs with
  | [.int i, .int j] => some (.int (if j < i then j else i))
  | _ => none
def tupleD : OpN := fun xs _ => match xs with
  | [.lst a] => some (.tup a)
  | [.ro a] => some (.tup a)
  | [.tup a] => some (.tup a)
  | _ => none
def listD : OpN := fun xs _ => match xs with
  | [.lst a] => some (.lst a)
  | [.ro a] => some (.lst a)
  | [.tup a] => some (.lst a)
  | _ => none
def boolsOf : List D → Option (List Bool)
  | [] => some []
  | .bl b :: r => (boolsOf r).map (b :: ·)
  | _ => none
def intsOf : List D → Option (List Int)
  | [] => some []
  | .int i :: r => (intsOf r).map (i :: ·)
  | _ => none
theorem bools_vals {F : Fz} {ι : List Addr} {H : Hp} : ∀ {ds : List D} {bs : List Bool} {vs : List V}, boolsOf ds = some bs → Reps K mg F ι H ds vs → vs = bs.map V.bl
  | [], bs, vs, e, h => by cases e; exact h
  | d :: ds, bs, vs, e, h => by
    obtain ⟨v, r, rfl, h1, h2⟩ := h
    cases d with
    | bl b =>
      unfold boolsOf at e
      cases e2 : boolsOf ds with
      | none => rw [e2] at e; cases e
      | some cs =>
        rw [e2] at e
        cases e
        rw [show v = _ from h1, bools_vals e2 h2]
        rfl
    | _ => cases e
theorem boolsOf_map : ∀ bs : List Bool, boolsOf (bs.map D.bl) = some bs
  | [] => rfl
  | b :: bs => by rw [List.map_cons]; unfold boolsOf; rw [boolsOf_map bs]; rfl
theorem intsOf_map : ∀ ns : List Int, intsOf (ns.map D.int) = some ns
  | [] => rfl
  | b :: bs => by rw [List.map_cons]; unfold intsOf; rw [intsOf_map bs]; rfl
theorem reps_ints {F : Fz} {ι : List Addr} {H : Hp} : ∀ ns : List Int, Reps K mg F ι H (ns.map D.int) (ns.map V.int)
  | [] => rfl
  | n :: ns => ⟨.int n, _, rfl, rfl, reps_ints ns⟩
def allD : OpN := fun xs _ => match xs with
  | [.lst a] => (boolsOf a).map fun bs => .bl (bs.all id)
  | _ => none
def anyD : OpN := fun xs _ => match xs with
  | [.lst a] => (boolsOf a).map fun bs => .bl (bs.any id)
  | _ => none
def sumD : OpN := fun xs _ => match xs with
  | [.lst a] => (intsOf a).map fun ns => .int ns.sum
  | _ => none
theorem ok_all : OkN K mg (rAll K) allD := by
  intro H F ι S xs d vs Q w rx ho t
  unfold allD at ho
  split at ho
  · rename_i a
    obtain ⟨v, rfl, p, us, rfl, hl, hr⟩ := one_of rx
    cases e : boolsOf a with
    | none => rw [e] at ho; cases ho
    | some bs =>
      rw [e] at ho
      cases ho
      have := bools_vals e hr
      subst this
      exact ⟨p, bs, rfl, hl.sq, t.here w rfl⟩
  · cases ho
def okShow (p : PyData) : Bool := p.showable && !p.hasDict && decide (p.depth ≤ 60) && decide (p.shown.length ≤ sizeLine)
def reprD : OpN := fun xs _ => match xs with
  | [d] => match toP d with
    | some p => if okShow p then some (.str p.shown) else none
    | none => none
  | _ => none
def rRepr (K : PySem.W.Frag) : List V → Hp → VK → Prop := fun xs H Q => ∃ x p, xs = [x] ∧ Dp K H x p ∧ okShow p = true ∧ Q (.str p.shown) H
theorem call_repr {k : Nat} (rm : Rm k X.A) : CallR X (.builtin "repr") (rRepr X.K) := by
  intro pins s σ H xs us Q I r h
  obtain ⟨x, p, rfl, hp, hk, q⟩ := h
  obtain ⟨u, rfl, ru⟩ := vals1 r
  obtain ⟨as, rd⟩ := Dp.reads I p x u hp ru
  simp only [okShow, Bool.and_eq_true, decide_eq_true_eq, Bool.not_eq_true'] at hk
  obtain ⟨⟨⟨h1, h2⟩, h3⟩, h4⟩ := hk
  have hu : X.A.units + (p.depth + 1) < cLine := by have := rm.room.units; omega
  cases hp with
  | non => cases ru; exact PySem.P.repr_of_none ⟨.str _, H, I.tok _, ⟨_, rfl⟩, q⟩
  | bl b => cases ru; exact PySem.P.repr_of_bool ⟨.str _, H, I.tok _, ⟨_, rfl⟩, q⟩
  | int i => obtain ⟨t, rfl⟩ := ru; exact PySem.P.repr_of_int (by simpa [PyData.showable] using h1) ⟨.str _, H, I.tok _, ⟨_, rfl⟩, q⟩
  | str z => obtain ⟨t, rfl⟩ := ru; exact PySem.P.repr_of_str ⟨.str _, H, I.tok _, ⟨_, rfl⟩, q⟩ h4
  | lst _ _ => cases ru; exact repr_of_reads' rd h1 (fun z => by rw [h2] at z; cases z) rm.quiet hu (fun _ _ e => e) (fun h' u' tk hk => ⟨.str _, H, I.kept hk, ⟨_, rfl⟩, q⟩) h4
  | tup _ _ => cases ru; exact repr_of_reads' rd h1 (fun z => by rw [h2] at z; cases z) rm.quiet hu (fun _ _ e => e) (fun h' u' tk hk => ⟨.str _, H, I.kept hk, ⟨_, rfl⟩, q⟩) h4
theorem ok_repr : OkN K mg (rRepr K) reprD := by
  intro H F ι S xs d vs Q w rx ho t
  unfold reprD at ho
  split at ho
  · rename_i x
    obtain ⟨v, rfl, hv⟩ := one_of rx
    split at ho
    · rename_i p hp
      split at ho
      · rename_i hk
        cases ho
        exact ⟨v, p, rfl, toP_dp x v p hv hp, hk, t.here w rfl⟩
      · cases ho
    · cases ho
  · cases ho
def tyName : D → Option String
  | .non => some "NoneType"
  | .bl _ => some "bool"
  | .int _ => some "int"
  | .str _ => some "str"
  | .tup _ => some "tuple"
  | .lst _ => some "list"
  | .ro _ => some "list"
  | .dct _ _ => some "dict"
  | _ => none
def tyNames : List String := ["NoneType", "bool", "int", "str", "tuple", "list", "dict"]
def isTB (a T : String) : Option Bool := if tyNames.contains a && tyNames.contains T then some (a == T || (a == "bool" && T == "int")) else none
theorem isTB_ok {a T : String} {b : Bool} (h : isTB a T = some b) : kitB a T = some b := by
  unfold isTB at h
  split at h
  · rename_i hc
    rw [Bool.and_eq_true] at hc
    have key : ∀ a ∈ tyNames, ∀ T ∈ tyNames, kitB a T = some (a == T || (a == "bool" && T == "int")) := by decide +kernel
    rw [key a (by simpa using hc.1) T (by simpa using hc.2)]
    exact h
  · cases h
theorem ty_at {F : Fz} {ι : List Addr} {H : Hp} {d : D} {v : V} {a : String} (h : Rep K mg F ι H d v) (e : tyName d = some a) : TyX K H v (.type a) := by
  cases d with
  | non => cases e; rw [show v = _ from h]; exact .base .non
  | bl b => cases e; rw [show v = _ from h]; exact .base (.bl b)
  | int i => cases e; rw [show v = _ from h]; exact .base (.int i)
  | str s => cases e; rw [show v = _ from h]; exact .base (.str s)
  | tup xs =>
    cases e
    obtain ⟨p, vs, rfl, hl, hr⟩ := h
    rcases hl.sq with (q | ⟨o, q⟩) | ⟨o, _, _, q, c, _⟩
    · exact .base (.tup q)
    · exact .fTuple q
    · exact .kTuple q c
  | lst xs =>
    cases e
    obtain ⟨p, vs, rfl, hl, hr⟩ := h
    exact .base (.lst hl.2)
  | ro xs =>
    cases e
    obtain ⟨p, vs, rfl, hl, hr⟩ := h
    rcases hl.sq with (q | ⟨o, q⟩) | ⟨o, _, _, q, c, _⟩
    · exact .base (.lst q)
    · exact .base (.frz q)
    · exact .kList q c
  | dct ks xs =>
    cases e
    obtain ⟨p, vs, rfl, hf, hl, _⟩ := h
    obtain ⟨o, q⟩ := hl
    exact .fDict q
  | _ => cases e
def isBD : OpN := fun xs _ => match xs with
  | [d, .ty T] => match tyName d with
    | some a => (isTB a T).map .bl
    | none => none
  | _ => none
end
theorem v_bty {X : Cx} {E : EE} {x : Str} {n : String} {pos : Pos} (hm : X.mg x = none) (hv : bootBuiltins x = some (.type n)) (hg : Gl X x := by rfl) (hn : x ≠ "__name__" := by decide) (hd : (x == ("__debug__" : Str)) = false := by decide) :
    VE X E (.Name x pos) (mC (.ty n)) := v_const (pe_bltn (v := .ty n) hg hm hv rfl hn hd) fun _ _ _ => rfl
section
variable {K : PySem.W.Frag} {mg : Str → Option Value} (g : Snap) (E : EE)
def gAt (K : PySem.W.Frag) (mg : Str → Option Value) (H : Hp) (F : Fz) (ι : List Addr) (Q : L2.St → Hp → Prop) : Fl → Prop
  | .nx env' S' => ∀ σ' H' F' ι', RS K mg g σ' H' F' ι' env' S' → Grow H F ι H' F' ι' → Q σ' H'
  | .ex c ns ds e' S' => ∀ σ', ExTo K mg g E (Grow H F ι) c ns ds σ' e' S'
  | _ => False
def tG (K : PySem.W.Frag) (mg : Str → Option Value) (t : D → Sm) : TG := fun v σ H Q => ∃ F ι env S d, RS K mg g σ H F ι env S ∧ Rep K mg F ι H d v ∧ gAt g E K mg H F ι Q (t d env S)
def tGs (K : PySem.W.Frag) (mg : Str → Option Value) (t : List D → Sm) : TGs := fun vs σ H Q => ∃ F ι env S ds, RS K mg g σ H F ι env S ∧ Reps K mg F ι H ds vs ∧ gAt g E K mg H F ι Q (t ds env S)
end
def VG (X : Cx) (E : EE) (tg : Expr) (t : D → Sm) : Prop := ∀ g, PG X tg (tG g E X.K X.mg t)
def VGs (X : Cx) (E : EE) (tgs : List Expr) (t : List D → Sm) : Prop := ∀ g, PGs X tgs (tGs g E X.K X.mg t)
theorem _root_.L2.PGs.imp {X : Cx} {e : List Expr} {t t' : TGs} (p : PGs X e t) (h : ∀ v σ H Q, t' v σ H Q → t v σ H Q) : PGs X e t' := ⟨fun pins s σ H vs us Q I r q => p.run pins s σ H vs us Q I r (h vs σ H Q q)⟩
section
variable {X : Cx} {E : EE} {e o i : Expr} {es : List Expr} {f h : Ex D} {pos : Pos} {t : D → Sm} {ts : List D → Sm}
def gName' (k : Nat) : D → Sm := fun d env S => .nx (env.set k (.val d)) S
def putC (o i d : D) (S : List Cell) : Option (List Cell) := match o, i with
  | .cell n, .int j => match S[n]? with
    | some (.lst xs) => (ixN xs.length j).map fun m => S.set n (.lst (xs.set m d))
    | _ => none
  | _, _ => none
def gSubC (f h : Ex D) : D → Sm := fun d env S => (f env S).go env fun x S1 => (h env S1).go env fun y S2 => match putC x y d S2 with
  | some S3 => .nx env S3
  | none => .bad
def gNil' : List D → Sm := fun ds env S => match ds with
  | [] => .nx env S
  | _ => .bad
def gCons' (t : D → Sm) (ts : List D → Sm) : List D → Sm := fun ds env S => match ds with
  | d :: r => match t d env S with
    | .nx e S' => ts r e S'
    | .ex c ns es e' S' => .ex c ns es e' S'
    | _ => .bad
  | [] => .bad
def gTup' (ts : List D → Sm) : D → Sm := fun d env S => match d with
  | .tup ds => ts ds env S
  | .lst ds => ts ds env S
  | _ => .bad
def mAsg (f : Ex D) (t : D → Sm) : Sm := fun env S => (f env S).go env fun d S1 => t d env S1
def mApp (k : Nat) (f : Ex D) : Sm := fun env S => match env[k]? with
  | some (.own ds) => (f env S).go env fun d S1 => if okLen (ds.length + 1) then .nx (env.set k (.own (ds ++ [d]))) S1 else .bad
  | _ => .bad
theorem s_app (k : Nat) {x : Str} {px apos cpos : Pos} (he : VE X E e f) (hN : X.N[k]? = some x := by rfl) (hv : Vis X.env.scope x := by first | exact Or.inl rfl | exact Or.inr (Or.inl rfl) | exact Or.inr (Or.inr rfl))
    (h1 : attributeBase (.Name x px) "append" X.env (eval (.Name x px) X.env) = eval (.Name x px) X.env := by rfl)
    (h2 : ((backTo cpos (starEach [e] X.env)).all (fun x => !x.1) && (backToKw cpos (keywordEach [] X.env)).all (fun x => x.1.isSome)
      && decide ([e].length + ([] : List Keyword).length + (if ([] : List Keyword).isEmpty then 0 else 1) < 30)) = true := by rfl)
    (h3 : (apos.endLine == cpos.line) = true := by rfl) (h4 : starEach [e] X.env = (false, eval e X.env) :: starEach [] X.env := by rfl) (h5 : (backTo cpos (starEach [] X.env)).any (·.1) = false := by rfl)
    (hs : swapsWith (.Call (.Attribute (.Name x px) "append" apos) [e] [] cpos) none pos.line X.env = pure false := by rfl) (hd : (x == ("__debug__" : Str)) = false := by decide) (hcd : (x == ("__classdict__" : Str)) = false := by decide) :
    VS X E (.Expr (.Call (.Attribute (.Name x px) "append" apos) [e] [] cpos) pos) (mApp k f) := fun g =>
  (ps_expr (pe_bm PySem.F.plainAttrs_list PySem.F.slot_list_append PySem.F.type_list_append mt_append (pe_var hN hv hd hcd) (pa_cons (he g) pa_nil h4) h1 h2 h3 h4 h5) hs).imp fun D σ H ⟨F, ι, env, S, w, q⟩ => by
    unfold mApp at q
    split at q
    · rename_i ds hd'
      obtain ⟨a, vs, h1, h2, h3, h4, h5, h6⟩ := w.own k ds hd'
      refine ⟨.ref a, h1, .inl ⟨rfl, vs, .inl (.inl h2)⟩, F, ι, env, S, w, rd_mono (rd_go w.wd q) ?_⟩
      rintro d H1 F1 ι1 S1 - e1 w1 ⟨_, _, q1⟩ v hv
      split at q1
      · rename_i hl
        have k2 := e1.keep a _ h2 (.inr h5)
        obtain ⟨w2, gr⟩ := w1.mutO (ds' := ds ++ [d]) (vs' := vs ++ [v]) hd' h1 ((w.wd.reps e1 h3).app (.one hv))
        refine ⟨a, vs, v, rfl, rfl, k2, ?_, q1 _ _ _ _ w2 gr⟩
        have := okLen_le hl
        rw [h3.len]
        omega
      · exact q1.elim
    · exact q.elim
end
end DL
namespace DL
open PySem PySem.Spec L2
open PyProof.Rows hiding St
open Builtin Builtin.ObjectAttr
theorem osaG {prog : Program} {w : World} {A : Around} {R : Result → Shared → Prop} {hp : Heap} {g : Array GenState} {d : Drawn} {t : Nat} {os : OsState} {K : PySem.W.Frag} {name : Str} {bmB : List Value} {tk : Tok} {v : Value} {x C : Addr} {fv : Array Value} {Bn : String}
    (SF : StoreFacts Bn bmB "object.__setattr__" "object") (kin : K.In hp) (hx : hp.get? x = some { cls := .ref C, data := .fields fv }) (ov : PySem.W.excOver K C bmB = true) (hh : PySem.W.hasDictIn K C = true) (ht : PySem.W.takerIn K C name = some none)
    (go : ∀ h1 t1 dx, (∀ b o, b ≠ x → hp.get? b = some o → h1.get? b = some o) → hp.objs.size ≤ dx → dx ≠ x → h1.get? x = some { cls := .ref C, dict := some dx, data := .fields fv } →
      h1.Ns1 dx (fun y => if y = name then some v else none) → R (.ok (.ret .none)) ⟨h1, g, d, t1, os⟩) :
    codeAny (model prog w) A (.call (.builtin "object.__setattr__") ⟨[.ref x, .str name tk, v], []⟩) R ⟨hp, g, d, t, os⟩ := by
  have at0 : PySem.W.InstAt hp x { cls := .ref C, data := .fields fv } C none := ⟨hx, rfl, rfl, trivial⟩
  obtain ⟨cd, hc, hdt⟩ := PySem.W.any_some hh
  have lc : PySem.W.Looks (model prog w) hp (classData C) cd := PySem.W.looks_clsIn kin hc
  have xn : x ≠ hp.objs.size := Nat.ne_of_lt (Heap.lt_size hx)
  refine PySem.W.osa_openX (s := ⟨hp, g, d, t, os⟩) SF kin at0 ov ht fun b => ?_
  obtain ⟨c1, c2, c3, c4, c5, c6, c7, c8, c9, c10, c11⟩ := cd
  dsimp only at hdt ⊢
  subst hdt
  unfold storeInOwnDict ownDictForStores
  repeat (first | with_reducible refine HandSPX.store_in_new ?_ ?_ | with_reducible refine wpAny_loadPart_at hx ?_ | with_reducible refine lc.at ?_ | wp_step)
  · exact ⟨_, #[], _, (Heap.get?_update_ne _ _ _ _ xn.symm).trans (Heap.get?_push_at rfl rfl), rfl, fun e he => absurd he (by simp), fun _ => rfl⟩
  · intro h1 t1 hn sb
    have x1 : (hp.push { cls := .type "dict", data := .dict #[] }).get? x = some { cls := .ref C, data := .fields fv } := Heap.get?_push_of_some _ hx
    refine go h1 t1 hp.objs.size (fun b o nb ob => ?_) (Nat.le_refl _) xn.symm ((sb.2 x xn).trans (Heap.get?_update_self _ x1 rfl)) hn
    exact (sb.2 b (Nat.ne_of_lt (Heap.lt_size ob))).trans ((Heap.get?_update_ne _ _ _ _ nb).trans (Heap.get?_push_of_some _ ob))
theorem _root_.L2.Inv.track {X : Cx} {pins : List (Addr × Obj)} {σ τ : L2.St} {H G : Hp} {s sJ : Shared} {dx : Addr} {o : HO} (I : Inv X pins σ H s) (J : Inv X pins τ G sJ) (nj : sJ.heap.get? dx = none) (hn : H dx = none)
    (new : ObjOk X.prog X.w (upd H dx o) s.heap dx o) : Inv X pins σ (upd H dx o) s := by
  have ne : ∀ {b u}, sJ.heap.get? b = some u → b ≠ dx := fun {b u} h z => by rw [z, nj] at h; cases h
  have nt : ∀ {b u}, H b = some u → b ≠ dx := fun {b u} h z => by rw [z, hn] at h; cases h
  refine ⟨I.ok, I.os, I.bare, ⟨I.base.keep, I.base.slot, fun b u hb h0 nx => ?_, I.base.there, fun b xs h => ?_, fun b ob u h => ?_, fun b ps h => ?_⟩, I.loc, I.cell, ?_, fun x c h => ?_, fun q hq => ?_, fun b u h => ?_, I.len⟩
  · obtain ⟨u', h'⟩ := J.base.there b u hb nx
    rw [upd_ne (ne h')]
    exact I.base.free b u hb h0 nx
  · have h2 := I.base.tups b xs h
    rw [upd_ne (nt h2)]; exact h2
  · have h2 := I.base.frzs b ob u h
    rw [upd_ne (nt h2)]; exact h2
  · obtain ⟨more, h2⟩ := I.base.tbls b ps h
    exact ⟨more, by rw [upd_ne (nt h2)]; exact h2⟩
  · obtain ⟨m, hns, _⟩ := J.loc
    obtain ⟨ol, _, _, hol, _⟩ := hns
    rw [upd_ne (ne hol)]; exact I.free
  · obtain ⟨v, hv⟩ := J.cell x c h
    obtain ⟨oc, hoc, _⟩ := hv
    rw [upd_ne (ne hoc)]; exact I.freeC x c h
  · obtain ⟨a1, a2, a3⟩ := I.pin q hq
    exact ⟨a1, by rw [upd_ne (ne (J.pin q hq).1)]; exact a2, a3⟩
  · by_cases z : b = dx
    · subst z
      rw [upd_same] at h
      cases h
      exact new
    · rw [upd_ne z] at h
      exact (I.hok b u h).stay (fun _ _ _ z => z) (fun c hc => by rw [upd_ne (nt hc)]; exact hc) fun c xs hc => by rw [upd_ne (nt hc)]; exact hc
structure OexG (K : PySem.W.Frag) (C : Addr) : Prop where
  base : ∃ (B newId initId : String) (bmB : List Value), ExcBaseFacts B newId initId bmB ∧ StoreFacts B bmB "object.__setattr__" "object" ∧ PySem.W.excInitIn K C bmB newId = true ∧ PySem.W.excOver K C bmB = true
  hd : PySem.W.hasDictIn K C = true
  sa : PySem.W.findIn K (.ref C) "__setattr__" = some (some (.builtin "object.__setattr__"))
  exC : PySem.W.subIn K (.ref C) (.type "BaseException") = some true
  tyC : PySem.W.typeIn K (.ref C) = some (.type "type")
  kC : PySem.W.keepIn K (.ref C) = true
section
variable {X : Cx} {pins : List (Addr × Obj)} {σ : L2.St} {H : Hp} {s : Shared} {a C dx : Addr} {f : Str} {y : V} {u : Value} {Q : Unit → Shared → Prop} {E : Value → Shared → Prop} {A : Around}
theorem ostG (T : OexG X.K C) (I : Inv X pins σ H s) (e : H a = some (exo a C none)) (ht : PySem.W.takerIn X.K C f = some none) (ry : RelV y u)
    (go : ∀ dx s', H dx = none → dx ≠ a → Inv X pins σ (upd (upd H a (exo a C (some dx))) dx (exd dx [(f, y)])) s' → Q () s') : wpAny (model X.prog X.w) A (setAttr (.ref a) f u) Q E s := by
  obtain ⟨B, _, _, bmB, _, SF, _, ov⟩ := T.base
  obtain ⟨t1, ho⟩ := exo_at I.hok e
  obtain ⟨hp, g, d, t, os⟩ := s
  refine PySem.W.set_plain I.kIn (ox := { cls := .ref C, dict := none, data := .fields #[.ref t1, .none, .none, .none, .bool false, .none] }) (od := none) ⟨ho, rfl, rfl, trivial⟩ T.sa ?_
  refine osaG SF I.kIn ho ov T.hd ht fun h1 t2 dx k dn dne hx hns => ?_
  have hnd : H dx = none := I.hok.fresh dn
  have J := I.write (t' := t2) (x := a) (e := a) (o := exo a C (some dx)) (by rw [e]; exact True.intro) (.inl rfl) k ⟨_, hx⟩ (exo_ok hx)
  have hg : hp.get? dx = none := Heap.get?_none_of_le dn
  refine go dx _ hnd dne (J.track I hg (by rw [upd_ne dne]; exact hnd) ?_)
  exact exd_ok hns (relO_put (fs := []) ry fun g => True.intro)
def tOstG (K : PySem.W.Frag) (f : Str) (to te : TE) : TS := fun D σ H => te σ H fun y H1 => to σ H1 fun x H2 => ∃ a C : Addr, x = .ref a ∧ OexG K C ∧ PySem.W.takerIn K C f = some none ∧
  H2 a = some (exo a C none) ∧ ∀ dx, H2 dx = none → dx ≠ a → D.nx σ (upd (upd H2 a (exo a C (some dx))) dx (exd dx [(f, y)]))
theorem ps_ostG {o e : Expr} {to te : TE} {p' pos : Pos} (ho : PE X o to) (he : PE X e te) (hs : swapsWith e (some (.Attribute o f p')) pos.line X.env = pure false := by rfl) : PS X (.Assign [.Attribute o f p'] e pos) (tOstG X.K f to te) := by
  constructor
  intro pins s σ H D I h
  refine plainObj_wpAny_Assign_Attribute (thn (he.run pins s σ H _ I h) fun v s1 q1 => ?_) hs
  obtain ⟨y, H1, I1, r1, q1⟩ := q1
  refine thn (ho.run pins s1 σ H1 _ I1 q1) fun u s2 q2 => ?_
  obtain ⟨x, H2, I2, r2, a, C, rfl, T, ht, ea, q⟩ := q2
  obtain rfl : u = Value.ref a := r2
  exact ostG T I2 ea ht r1 fun dx s' n ne J => ⟨σ, _, J, q dx n ne⟩
end
def tMkG (C : Addr) (sp : Sp) (ta : TA) : L2.St → Hp → XK → Prop := fun σ H Q => ta σ H fun vs H1 => vs.length ≤ 1000 ∧ ∀ a, H1 a = none → sp (.ref a :: vs) (upd H1 a (exo a C none))
  (fun v H2 => v = .non ∧ ∃ (d : Addr) (fs : List (Str × V)), H2 a = some (exo a C (some d)) ∧ H2 d = some (exd d fs) ∧ H1 d = none ∧ Q (.ref C) (some d) (upd (del H2 a) d (.xd fs))) (fun _ _ _ => False)
theorem pmkG {X : Cx} {CX : CXT} {x : Str} {C fI : Addr} {k : Nat} {fd : FuncData} {ps : List Str} {sp : Sp} {e : Expr} {es : List Expr} {ta : TA} {p pos : Pos} (T : OexG X.K C) (iC : PySem.W.findIn X.K (.ref C) "__init__" = some (some (.ref fI)))
    (tI : PySem.W.typeIn X.K (.ref fI) = some (.type "function")) (FI : FnOk X.prog X.w X.K X.mg X.base CX k fI fd ps sp) (rm : Room (k + 1) X.A) (hb : Binds X.K fd ps []) (px : Passes CX X (fun _ _ _ => False)) (hg : Gl X x) (hm : X.mg x = some (.ref C))
    (ha : PA X (e :: es) ta) (hdb : (x == ("__debug__" : Str)) = false := by decide) (he : starEach (e :: es) X.env = (false, eval e X.env) :: starEach es X.env := by rfl) (hpl : (backTo pos (starEach es X.env)).any (·.1) = false := by rfl) :
    L2N.PMk X (.Call (.Name x p) (e :: es) [] pos) (tMkG C sp ta) := by
  intro pins s σ H Q I h
  obtain ⟨B, newId, initId, bmB, BF, _, inI, _⟩ := T.base
  refine wpAny_Call_Name_kw (ld_glob I hg hm ?_ hdb)
  refine PySem.W.callWith_K (h₀ := X.base) I.ok.mod.kin T.kC (thn (ha.run pos pins s σ H _ I h) fun us s1 hv => ?_) he hpl
  obtain ⟨vs, H1, I1, r1, hz, q1⟩ := hv
  refine ⟨I1.kIn, ?_⟩
  show wpAny _ _ (call (.ref C) us) _ _ _
  obtain ⟨hp, g, dr, tk, os⟩ := s1
  obtain ⟨nm, N, qn, bs, bm, hdct, sn, sub, ab, col, dd, k0, k1, k2, k3, k5, hC, hbm⟩ := PySem.W.excInit_of I1.kIn inI
  have up1 : hp.objs.size ≤ hp.objs.size + 1 := Nat.le_succ _
  have hn : H1 (hp.objs.size + 1) = none := I1.hok.fresh up1
  have kk : ∀ b o, hp.get? b = some o → ((hp.push (PySem.W.kdv_tup us)).push (HandSPX.excO C hp.objs.size)).get? b = some o := fun b o z => Heap.get?_push_of_some _ (Heap.get?_push_of_some _ z)
  have at1 : ((hp.push (PySem.W.kdv_tup us)).push (HandSPX.excO C hp.objs.size)).get? (hp.objs.size + 1) = some (HandSPX.excO C hp.objs.size) := by heap_get
  have I2 := I1.laid (t' := tk) (a := hp.objs.size + 1) (o := exo (hp.objs.size + 1) C none) (h' := (hp.push (PySem.W.kdv_tup us)).push (HandSPX.excO C hp.objs.size)) kk up1 (exo_ok at1)
  have q := q1 _ hn
  have rr : Vals (V.ref (hp.objs.size + 1) :: vs) (Value.ref (hp.objs.size + 1) :: us) := .cons rfl r1
  have hl : (Value.ref (hp.objs.size + 1) :: us).length = ps.length := rr.length.symm.trans (FI.len _ _ _ _ q)
  have hus : us.length ≤ sizeLine := by rw [← Paired.length r1, sizeLine_eq]; omega
  have bd := hb ⟨(hp.push (PySem.W.kdv_tup us)).push (HandSPX.excO C hp.objs.size), g, dr, tk, os⟩ (Value.ref (hp.objs.size + 1) :: us) I2.kIn (by rw [List.append_nil]; exact hl)
  rw [List.append_nil] at bd
  refine wpAny_call (HandSPX.call_own BF hbm hC (PySem.W.looks_findIn I1.kIn iC) (fun self => PySem.W.bind_fn I1.kIn self tI) hus (codeAny_mono (FI.run _ X.stack _ _ ⟨Value.ref (hp.objs.size + 1) :: us, []⟩ _ _ _ (fun _ _ _ => False)
    (rm.make C us []) (I2.env0.make C us []) bd rr q) ?_))
  rintro r ⟨h2, g2, d2, t2, os2⟩ hr
  cases r with
  | error er => exact px pins σ _ _ er _ I2 hr
  | ok fl =>
    cases fl with
    | ret u =>
      obtain ⟨v, H2, o2, b2, un2, ok2, rv, ev, d, fs, ea, ed, hd1, q2⟩ := hr
      subst ev
      obtain ⟨t0, G, J, kG, ge, hoe, na⟩ := mk_end0 (d2 := d2) (t2 := t2) I1 up1 kk un2 ok2 o2 b2 ea ed hd1
      exact ⟨rv, _, _, _, ⟨G, g2, d2, t2, os2⟩, _, .ref C, some d, rfl, J, kG, ge, hoe, ⟨rfl, rfl, fun vs z => by cases z; rfl⟩, rfl, rfl, na, rfl, b2, raises_own T.exC T.tyC, q2⟩
    | _ => exact False.elim hr
end DL
namespace DL
open PySem PySem.Spec L2
open PyProof.Rows hiding St
def spI (C : Addr) (fld : Str) : Sp := fun vs H Q E => ∃ a y, vs = [.ref a, y] ∧ H a = some (exo a C none) ∧ ∀ dx, H dx = none → dx ≠ a → Q .non (upd (upd H a (exo a C (some dx))) dx (exd dx [(fld, y)]))
theorem init1 {P : Program} {w : World} {K : PySem.W.Frag} {mg : Str → Option Value} {base : Heap} {qual x1 fld : Str} {st : Stmt} {f C : Addr} {fd : FuncData} {p1 p2 p3 p4 : Pos} (F : Fun K "__init__" qual st f fd)
    (hb : defBody st = [.Assign [.Attribute (.Name "self" p1) fld p2] (.Name x1 p3) p4]) (S : FnScope ["self", x1] ["self", x1] (defScope st)) (T : OexG K C) (ht : PySem.W.takerIn K C fld = some none)
    (hd : (x1 == ("__debug__" : Str)) = false := by decide) (hcd : (x1 == ("__classdict__" : Str)) = false := by decide) :
    FnOk P w K mg base CX0 1 f fd ["self", x1] (spI C fld) := by
  have vis : ∀ x ∈ (["self", x1] : List Str), Vis (defScope st) x := fun x hx => (S.par x hx).elim .inl fun z => .inr (.inl z)
  refine F.ok S (fun vs H Q E ⟨a, y, e, _⟩ => by rw [e]; rfl) fun cd A outer s H vs Q E rm h => ?_
  obtain ⟨a, y, rfl, ha, q⟩ := h
  rw [hb]
  refine ⟨_, pss_one (ps_ostG (pe_var (i := 0) rfl (vis _ (by simp)) (by decide) (by decide)) (pe_var (i := 1) rfl (vis _ (by simp)) hd hcd) (by rfl)), ?_⟩
  exact ⟨y, rfl, .ref a, rfl, a, C, rfl, T, ht, ha, fun dx n ne => q dx n ne⟩
structure Rz (P : Program) (w : World) (K : PySem.W.Frag) (mg : Str → Option Value) (base : Heap) (x fld : Str) : Prop where
  at' : ∃ (C fI : Addr) (fd : FuncData) (ps : List Str), mg x = some (.ref C) ∧ OexG K C ∧ PySem.W.findIn K (.ref C) "__init__" = some (some (.ref fI)) ∧ PySem.W.typeIn K (.ref fI) = some (.type "function") ∧ FnOk P w K mg base CX0 1 fI fd ps (spI C fld) ∧ Binds K fd ps []
def mRaise (x fld : Str) (f : Ex D) : Sm := fun env S => (f env S).go env fun d S1 => .ex x [fld] [d] env S1
section
variable {X : Cx} {E : EE} {k : Nat} {x fld : Str} {e : Expr} {f : Ex D} {p pos pos' : Pos}
theorem s_raise1 (Z : Rz X.prog X.w X.K X.mg X.base x fld) (hc : X.calm = true) (tk : L2N.Takes X fun cls d σ H => E σ cls d H) (rm : Rm 2 X.A) (he : VE X E e f) (hg : Gl X x := by rfl) (hdb : (x == ("__debug__" : Str)) = false := by decide)
    (h1 : starEach [e] X.env = (false, eval e X.env) :: starEach [] X.env := by rfl) (h2 : (backTo pos (starEach [] X.env)).any (·.1) = false := by rfl) :
    VS X E (.Raise (some (.Call (.Name x p) [e] [] pos)) none pos') (mRaise x fld f) := fun g => by
  obtain ⟨C, fI, fd, ps, hm, T, iC, tI, FI, hb⟩ := Z.at'
  refine (L2N.ps_raise hc tk (pmkG T iC tI FI (rm.room.mono (by decide)) hb pass0 hg hm (pa_cons (he g) pa_nil h1) hdb h1 h2)).imp ?_
  rintro D σ H ⟨F, ι, env, S, w, q⟩
  refine ⟨F, ι, env, S, w, rd_mono (rd_go w.wd q) ?_⟩
  rintro d H1 F1 ι1 S1 - e1 w1 ⟨_, _, q1⟩ v hv
  refine ⟨Nat.le_of_ble_eq_true rfl, fun a ha => ⟨a, v, rfl, upd_same, fun dx hdx ne => ?_⟩⟩
  rw [upd_ne ne] at hdx
  refine ⟨rfl, dx, [(fld, v)], by rw [upd_ne (Ne.symm ne), upd_same], upd_same, hdx, ?_⟩
  have same : upd (del (upd (upd (upd H1 a (exo a C none)) a (exo a C (some dx))) dx (exd dx [(fld, v)])) a) dx (.xd [(fld, v)]) = upd H1 dx (.xd [(fld, v)]) := by
    funext b
    by_cases z : b = dx
    · subst z; rw [upd_same, upd_same]
    · rw [upd_ne z, upd_ne z]
      by_cases y : b = a
      · subst y; rw [del_same, ha]
      · rw [del_ne y, upd_ne z, upd_ne y, upd_ne y]
  rw [same]
  obtain ⟨e2, wd2⟩ := w1.wd.lay (o := .xd [(fld, v)]) hdx
  exact q1 σ C (some dx) _ _ _ hm (w1.step e2 wd2) (w1.wd.grow e2) ⟨[v], .one (w1.wd.rep e2 hv), rfl, .inr ⟨dx, rfl, .inr rfl, upd_same⟩⟩
end
end DL
namespace DL
open PySem PySem.Spec L2
open PyProof.Rows hiding St
theorem flying_kept {B h h' : Heap} {l : List Env} {a : Addr} {Z : Obj → Prop} (fl : HandSPX.FlyingZ B l a Z h) (k : ∀ b o, h.get? b = some o → h'.get? b = some o) : HandSPX.FlyingZ B l a Z h' := by
  obtain ⟨g1, g2, g3, ob, xs, T, oT, ts, ha, hz, hd, x1, nT, neT, hT, dT, x3⟩ := fl
  exact ⟨fun b o z => k b o (g1 b o z), g2, g3.of_keeps fun b o z _ => ⟨o, k b o z, rfl⟩, ob, xs, T, oT, ts, k _ _ ha, hz, hd, x1, nT, neT, k _ _ hT, dT, x3⟩
def catches (sub : Str → Str → Option Bool) (c : Str) : List Str → Option Bool
  | [] => some false
  | x :: r => match sub c x, catches sub c r with
    | some b, some d => some (b || d)
    | _, _ => none
def SubOk (K : PySem.W.Frag) (mg : Str → Option Value) (sub : Str → Str → Option Bool) : Prop :=
  ∀ c x b, sub c x = some b → ∀ C, mg c = some (.ref C) → ∃ D, mg x = some (.ref D) ∧ PySem.W.exmOne K (.ref C) (.ref D) = some b
theorem catches_ok {K : PySem.W.Frag} {mg : Str → Option Value} {sub : Str → Str → Option Bool} (ok : SubOk K mg sub) {c : Str} {C : Addr} (hm : mg c = some (.ref C)) : ∀ {cs : List Str} {b : Bool}, catches sub c cs = some b →
    ∃ cvs : List Value, cs.map mg = cvs.map some ∧ PySem.W.exmAny K (.ref C) cvs = some b
  | [], b, h => ⟨[], rfl, h⟩
  | x :: r, b, h => by
    unfold catches at h
    cases h1 : sub c x with
    | none => rw [h1] at h; cases h
    | some b1 =>
      cases h2 : catches sub c r with
      | none => rw [h1, h2] at h; cases h
      | some b2 =>
        rw [h1, h2] at h
        obtain ⟨D, e1, e2⟩ := ok c x b1 h1 C hm
        obtain ⟨cvs, e3, e4⟩ := catches_ok ok hm h2
        refine ⟨.ref D :: cvs, by rw [List.map_cons, List.map_cons, e1, e3], ?_⟩
        unfold PySem.W.exmAny
        rw [e2, e4]
        exact h
def TstX (X : Cx) (t : Expr) (cs : List Str) : Prop := ∀ (a : Addr) (pn pins : List (Addr × Obj)) (σ : L2.St) (H : Hp) (s : Shared) (cls : Value) (b : Bool) (cvs : List Value) (Q : Bool → Shared → Prop) (E : Value → Shared → Prop),
  Inv (X.suite a pn) pins σ H s → PySem.W.Looks (model X.prog X.w) s.heap (typeOf (.ref a)) cls → cs.map X.mg = cvs.map some → PySem.W.exmAny X.K cls cvs = some b →
  (∀ h', (∀ q o, s.heap.get? q = some o → h'.get? q = some o) → Q b { s with heap := h' }) →
  wpAny (model X.prog X.w) (X.A.mark (some (.ref a))) (eval t X.env) (fun c s1 => wpAny (model X.prog X.w) (X.A.mark (some (.ref a))) (excMatches (.ref a) c) Q E s1) E s
theorem tst1 {X : Cx} {x : Str} {np : Pos} (hg : Gl X x := by rfl) (hd : (x == ("__debug__" : Str)) = false := by decide) : TstX X (.Name x np) [x] := by
  intro a pn pins σ H s cls b cvs Q E I L hc hx go
  have hl : cvs.length = 1 := by simpa using (congrArg List.length hc).symm
  match cvs, hl, hc, hx with
  | [c], _, hc, hx =>
    have hm : X.mg x = some c := by simpa using hc
    obtain ⟨b1, d1, x1, y1, rfl⟩ := PySem.W.exmAny_cons hx
    cases y1
    rw [Bool.or_false] at go
    exact ld_glob (X := X.suite a pn) I hg hm ((PySem.W.exm_one (M := model X.prog X.w) I.kIn L x1).here (go s.heap fun _ _ z => z)) hd
abbrev sutO (oe : Obj) (a : Addr) : HO := .frz oe (.ext fun h => h.get? a = some oe)
abbrev _root_.L2.Cx.sut (X : Cx) (a : Addr) (pn : List (Addr × Obj)) (oe : Obj) : Cx := { X with A := X.A.mark (some (.ref a)), calm := false, pn := pn, xe := fun _ _ => False, H_0 := upd X.H_0 a (sutO oe a) }
section
variable {X : Cx} {pins : List (Addr × Obj)} {σ τ : L2.St} {H G : Hp} {s sI : Shared} {a : Addr} {oe : Obj} {vs : Array Value}
theorem sut_in (I : Inv X pins σ H s) (J : Inv X pins τ G sI) (na : sI.heap.get? a = none) (hn : H a = none) (he : s.heap.get? a = some oe) (nF : a ∉ X.fs) : Inv (X.sut a (X.pn ++ pins) oe) [] σ (upd H a (sutO oe a)) s := by
  have T := I.track (o := sutO oe a) J na hn ⟨he, he, ⟨oe, he⟩, fun h1 h2 z k => k _ z⟩
  have nb : ∀ b o, X.base.get? b = some o → b ≠ a := fun b o z y => by
    have := (J.bs b o z).1
    rw [y, na] at this
    cases this
  have ko : ∀ b, (upd X.H_0 a (sutO oe a)) b = none → b ≠ a ∧ X.H_0 b = none := fun b z => by
    by_cases y : b = a
    · subst y; rw [upd_same] at z; cases z
    · rw [upd_ne y] at z; exact ⟨y, z⟩
  have ok := I.ok
  refine ⟨⟨ok.mod, ok.kind, ok.glob, ok.blt, ok.above, ok.inj, ok.has, ok.cab, (fun z => absurd (show false = true from z) Bool.false_ne_true), ok.frames, ok.stk, ok.exf, fun b o z => ⟨(ok.bs b o z).1, ?_⟩, ok.bsz, ok.noex, ok.exfs, ok.funs, fun b z => ?_⟩,
    T.os, T.bare, ⟨fun b o hb h0 => T.base.keep b o hb (ko b h0).2, fun b o hb h0 => T.base.slot b o hb (ko b h0).2, fun b o hb h0 => T.base.free b o hb (ko b h0).2, T.base.there, fun b xs z => ?_, fun b o u z => ?_, fun b ps z => ?_⟩,
    T.loc, T.cell, T.free, T.freeC, fun p hp => T.pin p (by simpa using hp), T.hok, T.len⟩
  · show upd X.H_0 a (sutO oe a) b = none
    rw [upd_ne (nb b o z)]
    exact (ok.bs b o z).2
  · show upd X.H_0 a (sutO oe a) b = none
    rw [upd_ne (fun y => nF (by rw [← y]; exact z))]
    exact ok.frf b z
  · by_cases y : b = a
    · subst y
      have z : upd X.H_0 b (sutO oe b) b = _ := z
      rw [upd_same] at z
      cases z
    · have z : upd X.H_0 a (sutO oe a) b = _ := z
      rw [upd_ne y] at z
      exact T.base.tups b xs z
  · by_cases y : b = a
    · subst y
      have z : upd X.H_0 b (sutO oe b) b = _ := z
      rw [upd_same] at z
      rw [upd_same]
      exact z
    · have z : upd X.H_0 a (sutO oe a) b = _ := z
      rw [upd_ne y] at z
      exact T.base.frzs b o u z
  · by_cases y : b = a
    · subst y
      have z : upd X.H_0 b (sutO oe b) b = _ := z
      rw [upd_same] at z
      cases z
    · have z : upd X.H_0 a (sutO oe a) b = _ := z
      rw [upd_ne y] at z
      exact T.base.tbls b ps z
theorem sut_out {H' : Hp} {s' : Shared} {σ' : L2.St} (I : Inv (X.sut a (X.pn ++ pins) oe) [] σ' H' s') (J : Inv X pins τ G sI) (na : sI.heap.get? a = none) (ga : G a = none) : Inv X pins σ' H' s' := by
  have no : ∀ b u, X.s_0.heap.get? b = some u → b ∉ X.ex → b ≠ a := fun b u z nx y => by
    obtain ⟨o', h⟩ := J.base.there b u z nx
    rw [y, na] at h
    cases h
  have back : ∀ {b}, b ≠ a → X.H_0 b = none → (X.sut a (X.pn ++ pins) oe).H_0 b = none := fun {b} y z => by
    show upd X.H_0 a (sutO oe a) b = none
    rw [upd_ne y]
    exact z
  have same : ∀ {b u}, b ≠ a → X.H_0 b = some u → (X.sut a (X.pn ++ pins) oe).H_0 b = some u := fun {b u} y z => by
    show upd X.H_0 a (sutO oe a) b = some u
    rw [upd_ne y]
    exact z
  refine ⟨J.ok, I.os, I.bare, ⟨fun b o hb h0 hf nx => I.base.keep b o hb (back (no b o hb nx) h0) hf nx, fun b o hb h0 hf nx => I.base.slot b o hb (back (no b o hb nx) h0) hf nx, fun b o hb h0 nx => I.base.free b o hb (back (no b o hb nx) h0) nx, I.base.there,
    fun b xs z => I.base.tups b xs (same (fun y => ?_) z), fun b o u z => I.base.frzs b o u (same (fun y => ?_) z), fun b ps z => I.base.tbls b ps (same (fun y => ?_) z)⟩, I.loc, I.cell, I.free, I.freeC, fun p hp => I.pin p (by simpa using hp), I.hok, I.len⟩
  · have := J.base.tups b xs z
    rw [y, ga] at this; cases this
  · have := J.base.frzs b o u z
    rw [y, ga] at this; cases this
  · obtain ⟨more, this⟩ := J.base.tbls b ps z
    rw [y, ga] at this; cases this
end
end DL
namespace DL
open PySem PySem.Spec L2
open PyProof.Rows hiding St
abbrev Hd := List Str × Option Nat × Sm
def suiteOut (o : Option Nat) : Fl → Fl
  | .nx e S => .nx (match o with | some i => e.set i .un | none => e) S
  | .bk e S => .bk (match o with | some i => e.set i .un | none => e) S
  | .ct e S => .ct (match o with | some i => e.set i .un | none => e) S
  | .rt d S => .rt d S
  | _ => .bad
def runH (sub : Str → Str → Option Bool) (c : Str) (ns : List Str) (ds : List D) : List Hd → Sm
  | [], env, S => .ex c ns ds env S
  | (cs, o, m) :: r, env, S => match catches sub c cs with
    | none => .bad
    | some true => suiteOut o (m (match o with | some i => env.set i (.val (.exc c ns ds)) | none => env) S)
    | some false => runH sub c ns ds r env S
def mTry (sub : Str → Str → Option Bool) (m : Sm) (hs : List Hd) : Sm := fun env S => match m env S with
  | .ex c ns ds e S' => runH sub c ns ds hs e S'
  | r => r
def HotO (oe : Obj) : Prop := ∃ vs : Array Value, oe.data = .fields vs ∧ vs[2]? = some .none
inductive Hds (X : Cx) : List ExceptHandler → List Hd → Prop
  | nil : Hds X [] []
  | named {t : Expr} {n : Str} {i : Nat} {b0 : Stmt} {suite : List Stmt} {pos : Pos} {m : Sm} {cs : List Str} {r : List ExceptHandler} {hs : List Hd} (ht : TstX X t cs) (hi : X.N[i]? = some n) (hl : X.env.kindOf n = some .local)
      (hm : ∀ (a : Addr) (pn : List (Addr × Obj)) (oe : Obj), HotO oe → VB (X.sut a pn oe) EX0 (b0 :: suite) m) (hr : Hds X r hs) : Hds X (.ExceptHandler (some t) (some n) (b0 :: suite) pos :: r) ((cs, some i, m) :: hs)
  | plain {t : Expr} {b0 : Stmt} {suite : List Stmt} {pos : Pos} {m : Sm} {cs : List Str} {r : List ExceptHandler} {hs : List Hd} (ht : TstX X t cs)
      (hm : ∀ (a : Addr) (pn : List (Addr × Obj)) (oe : Obj), HotO oe → VB (X.sut a pn oe) EX0 (b0 :: suite) m) (hr : Hds X r hs) : Hds X (.ExceptHandler (some t) none (b0 :: suite) pos :: r) ((cs, none, m) :: hs)
section
variable {X : Cx} {E : EE} {body : List Stmt} {h₀ : ExceptHandler} {hds : List ExceptHandler} {hs : List Hd} {sub : Str → Str → Option Bool} {m : Sm} {pos : Pos}
theorem suite_end {g : Snap} {H : Hp} {F : Fz} {ι : List Addr} {D : Ends} {o : Option Nat} {J : L2.St → Hp → Prop} : ∀ {fl : Fl}, flAt X.K X.mg g E H F ι D (suiteOut o fl) →
    flAt X.K X.mg g EX0 H F ι { nx := fun σ' H' => D.nx (match o with | some i => σ'.set i none | none => σ') H', rt := D.rt, bk := fun σ' H' => D.bk (match o with | some i => σ'.set i none | none => σ') H', ct := fun σ' H' => D.ct (match o with | some i => σ'.set i none | none => σ') H' } fl
  | .nx e S, q => fun σ' H' F' ι' w gr => by
    cases o with
    | none => exact q σ' H' F' ι' w gr
    | some i => exact q _ H' F' ι' (w.forget i none) gr
  | .bk e S, q => fun σ' H' F' ι' w gr => by
    cases o with
    | none => exact q σ' H' F' ι' w gr
    | some i => exact q _ H' F' ι' (w.forget i none) gr
  | .ct e S, q => fun σ' H' F' ι' w gr => by
    cases o with
    | none => exact q σ' H' F' ι' w gr
    | some i => exact q _ H' F' ι' (w.forget i none) gr
  | .rt _ _, q => q
  | .ex _ _ _ _ _, q => q.elim
  | .bad, q => q.elim
theorem s_tryG {g : Snap} (hst : X.stack = X.env :: X.outer) (hf : X.env.frame = some X.env.locals) (hN : X.N.Nodup) (tk : L2N.Takes X fun cls d σ H => E σ cls d H) (ok : SubOk X.K X.mg sub)
    (hb : ∀ (E' : EE) (pn : List (Addr × Obj)) (xe : Value → Shared → Prop), L2N.Takes (X.tr pn xe) (fun cls d σ H => E' σ cls d H) → PassesOwn (model X.prog X.w) X.A X.env xe → PSs (X.tr pn xe) body (tS X.K X.mg g E' m))
    (hh : Hds X (h₀ :: hds) hs) : PS X (.Try body (h₀ :: hds) [] [] pos) (tS X.K X.mg g E (mTry sub m hs)) := by
  constructor
  rintro pins s σ H D I ⟨F, ι, env, S, w, q⟩
  have xok := I.ok
  have hfr : X.A.frames = some (X.env :: X.outer) := by rw [xok.frames, hst]
  let E' : EE := fun σ' cls d H' => ∃ C c ns ds F' ι' env' S', cls = .ref C ∧ X.mg c = some (.ref C) ∧ RS X.K X.mg g σ' H' F' ι' env' S' ∧ Grow H F ι H' F' ι' ∧ DictAt X.K X.mg F' ι' H' d ns ds ∧ flAt X.K X.mg g E H F ι D (runH sub c ns ds hs env' S')
  have q0 : flAt X.K X.mg g E' H F ι D (m env S) := by
    unfold mTry at q
    cases hm : m env S with
    | ex c ns ds e' S' => rw [hm] at q; exact fun σ' C d H' F' ι' hc w' gr hd => ⟨C, c, ns, ds, F', ι', e', S', rfl, hc, w', gr, hd, q⟩
    | nx _ _ => rw [hm] at q; exact q
    | bk _ _ => rw [hm] at q; exact q
    | ct _ _ => rw [hm] at q; exact q
    | rt _ _ => rw [hm] at q; exact q
    | bad => rw [hm] at q; exact q
  refine wpAny_Try_except ?_
  refine wpAny_mono ((hb E' (X.pn ++ pins) (fun e s1 => wpAny (model X.prog X.w) X.A (noteFrame e X.env) (fun _ s2 => wpAny (model X.prog X.w) X.A (setFlight e none) (fun _ s3 =>
    wpAny (model X.prog X.w) X.A (handleBy e X.env (h₀ :: hds)) (SP X pins D) X.xe s3) X.xe s2) X.xe s1) (fun u s' air => ?_) PassesOwn.looking).run [] s σ H D (I.toTry _) ⟨F, ι, env, S, w, q0⟩) (fun fl s1 hsp => ?_) fun e s1 z => z
  · obtain ⟨a, B, sI, pins', σ', H', cls, d, rfl, J', nb, up, sky, na, os, ag, we⟩ := air
    obtain ⟨C, c, ns, ds, F', ι', env', S', rfl, hmc, w', gr, hdd, hq⟩ := we
    have J : Inv X pins σ' H' sI := J'.ofTry xok
    have sky' : Sky B (X.env :: X.outer) a (L2N.Zn (.ref C) d) X.env.locals s'.heap := by rw [← hst]; exact sky
    show wpAny (model X.prog X.w) X.A (noteFrame (.ref a) X.env) _ _ _
    refine L2N.Sky.land L2N.Zn.steady hfr hf sky' fun h3 fl3 up3 => ?_
    -- a is none of the frames, and new
    have offF : ∀ {h : Heap}, HandSPX.FlyingZ B (X.env :: X.outer) a (L2N.Zn (.ref C) d) h → a ∉ frs (X.env :: X.outer) := fun {h} fl hm => by
      obtain ⟨ob, xs, hx, _, hdx⟩ := fl.there
      obtain ⟨_, o', e', nf⟩ := fl.2.2.1.mem hm
      rw [hx] at e'
      cases e'
      exact nf _ hdx
    have nfr := offF fl3
    have nF : a ∉ X.fs := fun hm => by
      obtain ⟨e, he, z⟩ := List.mem_filterMap.mp hm
      exact nfr (List.mem_filterMap.mpr ⟨e, List.mem_cons_of_mem _ he, z⟩)
    have newI : sI.heap.get? a = none := by
      cases z : sI.heap.get? a with
      | none => rfl
      | some o =>
        have z2 := nb a o z (by rw [hst]; exact nfr)
        rw [fl3.2.1] at z2
        cases z2
    have go : ∀ {hds' : List ExceptHandler} {hs' : List Hd}, Hds X hds' hs' → ∀ (h5 : Heap), HandSPX.FlyingZ B (X.env :: X.outer) a (L2N.Zn (.ref C) d) h5 → sI.heap.UpToSlots h5 → flAt X.K X.mg g E H F ι D (runH sub c ns ds hs' env' S') →
        wpAny (model X.prog X.w) X.A (handleBy (.ref a) X.env hds') (SP X pins D) X.xe { s' with heap := h5 } := by
      intro hds' hs' hk
      -- the test of a clause
      have test : ∀ {t : Expr} {cs : List Str} {b : Bool} {h5 : Heap} {Q : Bool → Shared → Prop} {E1 : Value → Shared → Prop}, TstX X t cs → catches sub c cs = some b → HandSPX.FlyingZ B (X.env :: X.outer) a (L2N.Zn (.ref C) d) h5 → sI.heap.UpToSlots h5 →
          (∀ h6, (∀ q o, h5.get? q = some o → h6.get? q = some o) → Q b { s' with heap := h6 }) →
          wpAny (model X.prog X.w) (X.A.mark (some (.ref a))) (eval t X.env) (fun c s1 => wpAny (model X.prog X.w) (X.A.mark (some (.ref a))) (excMatches (.ref a) c) Q E1 s1) E1 { s' with heap := h5 } := fun {t cs b h5 Q E1} ht hcb fl5 up5 k => by
        obtain ⟨cvs, e1, e2⟩ := catches_ok ok hmc hcb
        have J5 : Inv X pins σ' H' { s' with heap := h5 } := J.landed nb fl5.1 up5 os ag
        obtain ⟨ob, xs, hx, hz, hdx⟩ := fl5.there
        have nL : a ≠ X.env.locals := fun z => nfr (List.mem_filterMap.mpr ⟨X.env, List.mem_cons_self, by rw [hf, z]⟩)
        exact ht a _ [] σ' H' _ (.ref C) b cvs Q E1 (J5.suite hx hdx na nL nF) (fun A Q E s k q => wpAny_typeOf_ref (k _ _ hx) (by rw [hz.1]; exact q)) e1 e2 k
      induction hk with
      | nil =>
        intro h5 fl5 up5 q5
        refine wpAny_handleBy_nil ?_
        have fl5' := fl5
        obtain ⟨y1, y2, y3, ob, xs, T, oT, ts, hx, hz, hdx, x1, hrest⟩ := fl5'
        unfold PySem.passOn
        refine wpAny_bind (wpAny_field hx hdx x1 ?_)
        rw [if_neg (show ¬ ((Value.ref T == Value.none) = true) from by simp)]
        have out : wpAny (model X.prog X.w) X.A (setFlight (.ref a) X.env.frame) (fun _ s4 => wpAny (model X.prog X.w) X.A (throw (.ref a) : Sem Flow) (SP X pins D) X.xe s4) X.xe { s' with heap := h5 } := by
          rw [hf]
          refine HandSPX.setFlight_upZ fl5 fun h6 held up6 => wpAny_throw (tk _ _ ?_)
          exact ⟨a, B, sI, pins, σ', H', .ref C, d, rfl, J, nb, up5.trans up6, .inr (.inr (by rw [hst]; exact held)), na, os, ag, q5 σ' C d H' F' ι' hmc w' gr hdd⟩
        first
          | exact wpAny_bind (wpAny_pure (wpAny_bind out))
          | exact wpAny_bind out
      | @named t n i b0 suite pos' m cs r hs2 ht hi hl hm hr ih =>
        intro h5 fl5 up5 q5
        unfold runH at q5
        cases hcb : catches sub c cs with
        | none => rw [hcb] at q5; exact q5.elim
        | some b =>
          rw [hcb] at q5
          refine wpAny_handleBy_cons (codeAny_handlers_test (test ht hcb fl5 up5 fun h6 k6 => ?_)) (by intro z; cases z)
          have fl6 := flying_kept fl5 k6
          have up6 : sI.heap.UpToSlots h6 := up5.trans (Heap.UpToSlots.of_keeps k6)
          cases b with
          | false => exact ih h6 fl6 up6 q5
          | true =>
            refine codeAny_handlers_suite_as ?_
            refine HandSPX.lands_againZ fl6 fun h7 fl7 up7 => ?_
            have J7 : Inv X pins σ' H' { s' with heap := h7 } := J.landed nb fl7.1 (up6.trans up7) os ag
            obtain ⟨ob, xs, hx, hz, hdx⟩ := fl7.there
            have K7 := sut_in J7 J newI na hx nF
            refine store_ok (X := X.sut a (X.pn ++ pins) ob) (v := .ref a) K7 hN hi (.inl hl) rfl (fun s8 K8 => ?_) (.inr hl)
            have e8 : Ext H' F' ι' (upd H' a (sutO ob a)) (fun b => F' b ∨ b = a) ι' := (w'.wd.lay (o := sutO ob a) na).1
            have wd8 := (w'.wd.lay (o := sutO ob a) na).2
            have w8 := w'.step e8 wd8
            have rep8 : Rep X.K X.mg (fun b => F' b ∨ b = a) ι' (upd H' a (sutO ob a)) (.exc c ns ds) (.ref a) := by
              obtain ⟨vs, rv, lv, dd⟩ := hdd
              refine ⟨a, C, ob, _, d, vs, rfl, .inr rfl, hmc, upd_same, hz, ⟨xs, hdx⟩, lv, ?_, w'.wd.reps e8 rv⟩
              rcases dd with dd | ⟨dd, z1, z2, z3⟩
              · exact .inl dd
              · exact .inr ⟨dd, z1, .inl z2, e8.keep dd _ z3 (.inl z2)⟩
            have w9 := w8.put i rep8
            have q9 : flAt X.K X.mg g E (upd H' a (sutO ob a)) (fun b => F' b ∨ b = a) ι' D (suiteOut (some i) (m (env'.set i (.val (.exc c ns ds))) S')) := fl_grow (gr.trans (w'.wd.grow e8)) q5
            refine wpAny_mono ((hm a (X.pn ++ pins) ob ⟨xs, hdx, hz.2.2 xs hdx⟩ g).run [] s8 _ _ _ K8 ⟨_, ι', _, S', w9, suite_end (J := fun _ _ => True) q9⟩) (fun fl s9 hsp => ?_) (fun _ _ z => False.elim z)
            have fin : ∀ {σ6 : L2.St} {H6 : Hp} {Q : Shared → Prop}, Inv (X.sut a (X.pn ++ pins) ob) [] σ6 H6 s9 → (∀ s7, Inv X pins (σ6.set i none) H6 s7 → Q s7) →
                wpAny (model X.prog X.w) X.A (do bindName X.env n .none; unbindBehindTheSuite X.env n pos') (fun _ s7 => Q s7) X.xe s9 := fun {σ6 H6 Q} S6 hq => gone_ok (sut_out S6 J newI na) hN hi hl hq
            cases fl with
            | next =>
              obtain ⟨σ6, H6, S6, q6⟩ := hsp
              exact fin S6 fun s7 J7 => ⟨_, _, J7, q6⟩
            | brk =>
              obtain ⟨σ6, H6, S6, q6⟩ := hsp
              exact fin S6 fun s7 J7 => ⟨_, _, J7, q6⟩
            | cont =>
              obtain ⟨σ6, H6, S6, q6⟩ := hsp
              exact fin S6 fun s7 J7 => ⟨_, _, J7, q6⟩
            | ret u =>
              obtain ⟨v6, σ6, H6, S6, r6, q6⟩ := hsp
              exact fin S6 fun s7 J7 => ⟨_, _, _, J7, r6, q6⟩
      | @plain t b0 suite pos' m cs r hs2 ht hm hr ih =>
        intro h5 fl5 up5 q5
        unfold runH at q5
        cases hcb : catches sub c cs with
        | none => rw [hcb] at q5; exact q5.elim
        | some b =>
          rw [hcb] at q5
          refine wpAny_handleBy_cons (codeAny_handlers_test (test ht hcb fl5 up5 fun h6 k6 => ?_)) (by intro z; cases z)
          have fl6 := flying_kept fl5 k6
          have up6 : sI.heap.UpToSlots h6 := up5.trans (Heap.UpToSlots.of_keeps k6)
          cases b with
          | false => exact ih h6 fl6 up6 q5
          | true =>
            refine codeAny_handlers_suite ?_
            refine HandSPX.lands_againZ fl6 fun h7 fl7 up7 => ?_
            have J7 : Inv X pins σ' H' { s' with heap := h7 } := J.landed nb fl7.1 (up6.trans up7) os ag
            obtain ⟨ob, xs, hx, hz, hdx⟩ := fl7.there
            have K7 := sut_in J7 J newI na hx nF
            have e8 : Ext H' F' ι' (upd H' a (sutO ob a)) (fun b => F' b ∨ b = a) ι' := (w'.wd.lay (o := sutO ob a) na).1
            have wd8 := (w'.wd.lay (o := sutO ob a) na).2
            have w8 := w'.step e8 wd8
            have q9 : flAt X.K X.mg g E (upd H' a (sutO ob a)) (fun b => F' b ∨ b = a) ι' D (suiteOut none (m env' S')) := fl_grow (gr.trans (w'.wd.grow e8)) q5
            refine wpAny_mono ((hm a (X.pn ++ pins) ob ⟨xs, hdx, hz.2.2 xs hdx⟩ g).run [] _ _ _ _ K7 ⟨_, ι', _, S', w8, suite_end (J := fun _ _ => True) q9⟩) (fun fl s9 hsp => ?_) (fun _ _ z => False.elim z)
            cases fl with
            | next =>
              obtain ⟨σ6, H6, S6, q6⟩ := hsp
              exact ⟨_, _, sut_out S6 J newI na, q6⟩
            | brk =>
              obtain ⟨σ6, H6, S6, q6⟩ := hsp
              exact ⟨_, _, sut_out S6 J newI na, q6⟩
            | cont =>
              obtain ⟨σ6, H6, S6, q6⟩ := hsp
              exact ⟨_, _, sut_out S6 J newI na, q6⟩
            | ret u =>
              obtain ⟨v6, σ6, H6, S6, r6, q6⟩ := hsp
              exact ⟨_, _, _, sut_out S6 J newI na, r6, q6⟩
    exact go hh h3 fl3 (up.trans up3) hq
  · cases fl with
    | next =>
      obtain ⟨σ2, H2, J2, q2⟩ := hsp
      exact wpAny_execs_nil ⟨σ2, H2, J2.ofTry xok, q2⟩
    | brk =>
      obtain ⟨σ2, H2, J2, q2⟩ := hsp
      exact ⟨σ2, H2, J2.ofTry xok, q2⟩
    | cont =>
      obtain ⟨σ2, H2, J2, q2⟩ := hsp
      exact ⟨σ2, H2, J2.ofTry xok, q2⟩
    | ret u =>
      obtain ⟨v2, σ2, H2, J2, r2, q2⟩ := hsp
      exact ⟨v2, σ2, H2, J2.ofTry xok, r2, q2⟩
theorem s_try (hst : X.stack = X.env :: X.outer) (hf : X.env.frame = some X.env.locals) (hN : X.N.Nodup) (tk : L2N.Takes X fun cls d σ H => E σ cls d H) (ok : SubOk X.K X.mg sub)
    (hb : ∀ (E' : EE) (pn : List (Addr × Obj)) (xe : Value → Shared → Prop), L2N.Takes (X.tr pn xe) (fun cls d σ H => E' σ cls d H) → PassesOwn (model X.prog X.w) X.A X.env xe → VB (X.tr pn xe) E' body m)
    (hh : Hds X (h₀ :: hds) hs) : VS X E (.Try body (h₀ :: hds) [] [] pos) (mTry sub m hs) := fun g =>
  s_tryG hst hf hN tk ok (fun E' pn xe h1 h2 => hb E' pn xe h1 h2 g) hh
end
end DL
namespace DL
open PySem PySem.Spec L2
open PyProof.Rows hiding St
inductive TyE (K : PySem.W.Frag) (H : Hp) : V → Value → Prop where
  | x {v : V} {t : Value} (h : TyX K H v t) : TyE K H v t
  | exc {a C : Addr} {oe : Obj} {u : HO} {od : Option Addr} (e : H a = some (.frz oe u)) (c : L2.ExcC K C) (z : Zc (.ref C) od oe) (f : ∃ vs, oe.data = .fields vs) (d : ∀ dd, od = some dd → ∃ fs, H dd = some (.xd fs)) : TyE K H (.ref a) (.ref C)
section
variable {X : Cx} {pins : List (Addr × Obj)} {σ : L2.St} {H : Hp} {s : Shared}
theorem kit_ofE {v : V} {u t : Value} (I : Inv X pins σ H s) (rv : RelV v u) (ty : TyE X.K H v t) : ∃ P : Heap → Prop, PySem.W.KitX X.K u t P ∧ P s.heap ∧ u ≠ .builtin "__main__.__loader__#opaque" := by
  cases ty with
  | x h => exact kit_of I rv h
  | @exc a C oe q od e c z f d =>
    cases (show u = Value.ref a from rv)
    obtain ⟨ha, _⟩ := (show ObjOk X.prog X.w H s.heap a (.frz oe q) from I.hok a _ e)
    obtain ⟨vs, hv⟩ := f
    have hcl : (PySem.W.clsIn X.K C).isSome = true := by
      obtain ⟨cd, hc, _⟩ := PySem.W.any_some c.hd
      rw [hc]; rfl
    have no : PySem.W.notCls oe = true := by unfold PySem.W.notCls; rw [hv] <;> rfl
    cases hod : od with
    | none =>
      have J : PySem.W.InstAt s.heap a oe C none := ⟨ha, z.1, no, by rw [z.2, hod]; trivial⟩
      exact ⟨_, PySem.W.kitx_exc hcl c.hg c.hk c.hs c.ha c.hn c.ht c.hm, J, fun y => nomatch y⟩
    | some dd =>
      obtain ⟨fs, hdd⟩ := d dd hod
      obtain ⟨mA, hns, _⟩ := (show ObjOk X.prog X.w H s.heap dd (.xd fs) from I.hok dd _ hdd)
      obtain ⟨o1, _, _, ho, _⟩ := hns
      have J : PySem.W.InstAt s.heap a oe C (some o1) := ⟨ha, z.1, no, by rw [z.2, hod]; exact ho⟩
      exact ⟨_, PySem.W.kitx_exc hcl c.hg c.hk c.hs c.ha c.hn c.ht c.hm, J, fun y => nomatch y⟩
def rIsA (K : PySem.W.Frag) : List V → Hp → VK → Prop := fun xs H Q => ∃ (v c : V) (t u : Value) (b : Bool), xs = [v, c] ∧ ClsV c u ∧ TyE K H v t ∧ PySem.W.kitOne K t u = some b ∧ Q (.bl b) H
def rIsAT (K : PySem.W.Frag) : List V → Hp → VK → Prop := fun xs H Q => ∃ (v : V) (tp : Addr) (cs : List V) (t : Value) (us : List Value) (b : Bool), xs = [v, .ref tp] ∧ SqT K H tp cs ∧ Paired ClsV cs us ∧ TyE K H v t ∧ PySem.W.kitAny K t us = some b ∧ Q (.bl b) H
theorem call_isA : CallR X (.builtin "isinstance") (rIsA X.K) := by
  intro pins s σ H xs us Q I r h
  obtain ⟨v, c, t, u, b, rfl, k, ty, e, q⟩ := h
  obtain ⟨u1, u2, rfl, r1, r2⟩ := vals2 r
  obtain rfl := k.eq r2
  obtain ⟨P, Z, p, hx⟩ := kit_ofE I r1 ty
  exact PySem.W.kia_one Z I.kIn p e hx fun tk => ⟨.bl b, H, I.tok tk, rfl, q⟩
theorem call_isAT : CallR X (.builtin "isinstance") (rIsAT X.K) := by
  intro pins s σ H xs us Q I r h
  obtain ⟨v, tp, cs, t, ws, b, rfl, hT, k, ty, e, q⟩ := h
  obtain ⟨u1, u2, rfl, r1, r2⟩ := vals2 r
  cases (show u2 = Value.ref tp from r2)
  obtain ⟨P, Z, p, hx⟩ := kit_ofE I r1 ty
  obtain ⟨its, rv, ⟨o, h1, h2, n, h3⟩, _⟩ := I.tuple hT
  obtain rfl := ClsV.all k rv
  obtain ⟨oc, od, dt, sl⟩ := o
  simp only at h2 h3
  subst h2 h3
  exact PySem.W.kia_tup Z I.kIn p h1 e hx fun tk => ⟨.bl b, H, I.tok tk, rfl, q⟩
theorem call_isAll : CallR X (.builtin "isinstance") (fun xs H Q => rIsA X.K xs H Q ∨ rIsAT X.K xs H Q) := CallR.or call_isA call_isAT
end
inductive KT where
  | b (n : String) | o (c : Str)
  deriving DecidableEq
def ktv (mg : Str → Option Value) : KT → Value → Prop
  | .b n, v => v = .type n
  | .o c, v => ∃ C, v = .ref C ∧ mg c = some (.ref C)
structure Tab where
  os : List Str
  es : List Str
  isa : KT → KT → Option Bool
structure InsC (K : PySem.W.Frag) (C : Addr) : Prop where
  cl : Cls K C
  ha : PySem.W.findIn K (.ref C) "__class__" = some (some (.builtin "object.__class__"))
  hn : PySem.W.specialIn K (.builtin "object.__class__") "__get__" = some (some (.builtin "getset_descriptor.__get__"))
  ht : PySem.W.takesIn K (.builtin "object.__class__") = some true
  hm : PySem.W.mroIn K C (.type "object") = some true
structure TabOk (K : PySem.W.Frag) (mg : Str → Option Value) (T : Tab) : Prop where
  os : ∀ c ∈ T.os, ∀ C, mg c = some (.ref C) → InsC K C
  es : ∀ c ∈ T.es, ∀ C, mg c = some (.ref C) → L2.ExcC K C
  isa : ∀ a b r, T.isa a b = some r → ∀ u, ktv mg a u → ∃ w, ktv mg b w ∧ PySem.W.kitOne K u w = some r
def clsOf (T : Tab) (S : List Cell) (d : D) : Option KT := match tyName d with
  | some n => some (.b n)
  | none => match d with
    | .obj c _ _ => if T.os.contains c then some (.o c) else none
    | .exc c _ _ => if T.es.contains c then some (.o c) else none
    | .cell n => match S[n]? with
      | some (.ins c _ _) => if T.os.contains c then some (.o c) else none
      | some (.lst _) => some (.b "list")
      | _ => none
    | _ => none
def ktOf : D → Option KT
  | .ty n => some (.b n)
  | .cls c => some (.o c)
  | _ => none
def isAny (T : Tab) (a : KT) : List D → Option Bool
  | [] => some false
  | d :: r => match (ktOf d).bind (T.isa a) with
    | some true => if (r.all fun x => (ktOf x).isSome) then some true else none
    | some false => isAny T a r
    | none => none
def isAD (T : Tab) : OpN := fun xs S => match xs with
  | [d, c] => (clsOf T S d).bind fun a => match c with
    | .tup cs => (isAny T a cs).map .bl
    | _ => ((ktOf c).bind (T.isa a)).map .bl
  | _ => none
section
variable {K : PySem.W.Frag} {mg : Str → Option Value} {T : Tab} {F : Fz} {ι : List Addr} {H : Hp} {S : List Cell}
theorem cls_at (ok : TabOk K mg T) (w : Wd K mg F ι H S) {d : D} {v : V} {a : KT} (r : Rep K mg F ι H d v) (h : clsOf T S d = some a) : ∃ t, ktv mg a t ∧ TyE K H v t := by
  unfold clsOf at h
  split at h
  · rename_i n hn
    cases h
    exact ⟨_, rfl, .x (ty_at r hn)⟩
  · split at h
    · rename_i c ns xs hnn
      split at h
      · rename_i hc
        cases h
        obtain ⟨p, C, dx, vs, rfl, f, hm, e, _⟩ := r
        have k := ok.os c (by simpa using hc) C hm
        exact ⟨.ref C, ⟨C, rfl, hm⟩, .x (.base (.ins e k.cl k.ha k.hn k.ht k.hm))⟩
      · cases h
    · rename_i c ns xs hnn
      split at h
      · rename_i hc
        cases h
        obtain ⟨p, C, oe, u, od, vs, rfl, f, hm, e, z, fv, _, dd, _⟩ := r
        refine ⟨.ref C, ⟨C, rfl, hm⟩, .exc e (ok.es c (by simpa using hc) C hm) z.zc fv fun x hx => ?_⟩
        rcases dd with ⟨_, dd⟩ | ⟨y, e1, _, e2⟩
        · rw [hx] at dd; cases dd
        · rw [hx] at e1
          cases e1
          exact ⟨_, e2⟩
      · cases h
    · rename_i n hnn
      obtain ⟨p, rfl, hp⟩ := r
      split at h
      · rename_i c ns xs hs
        split at h
        · rename_i hc
          cases h
          obtain ⟨C, dx, vs, hm, e, _⟩ := w.cells _ _ p hs hp
          have k := ok.os c (by simpa using hc) C hm
          exact ⟨.ref C, ⟨C, rfl, hm⟩, .x (.base (.ins e k.cl k.ha k.hn k.ht k.hm))⟩
        · cases h
      · rename_i xs hs
        cases h
        obtain ⟨vs, e, _⟩ := w.cells _ _ p hs hp
        exact ⟨_, rfl, .x (.base (.lst e))⟩
      · cases h
    · cases h
theorem kt_at {d : D} {v : V} {a : KT} (r : Rep K mg F ι H d v) (h : ktOf d = some a) : ∃ u, ktv mg a u ∧ ClsV v u := by
  cases d with
  | ty n => cases h; rw [show v = _ from r]; exact ⟨_, rfl, .ty n⟩
  | cls c =>
    cases h
    obtain ⟨C, rfl, hm⟩ := r
    exact ⟨_, ⟨C, rfl, hm⟩, .own C⟩
  | _ => cases h
theorem ktv_one {a : KT} {u w : Value} (h1 : ktv mg a u) (h2 : ktv mg a w) : u = w := by
  cases a with
  | b n => exact (show u = _ from h1).trans (show w = _ from h2).symm
  | o c =>
    obtain ⟨C, rfl, e1⟩ := h1
    obtain ⟨C', rfl, e2⟩ := h2
    rw [e1] at e2
    cases e2
    rfl
theorem any_at (ok : TabOk K mg T) {a : KT} {t : Value} (ha : ktv mg a t) : ∀ {ds : List D} {vs : List V} {b : Bool}, Reps K mg F ι H ds vs → isAny T a ds = some b → ∃ us, Paired ClsV vs us ∧ PySem.W.kitAny K t us = some b
  | [], vs, b, r, h => by
    cases h
    rw [show vs = [] from r]
    exact ⟨[], .nil, rfl⟩
  | d :: ds, vs, b, r, h => by
    obtain ⟨v, vs', rfl, r1, r2⟩ := r
    unfold isAny at h
    cases hk : ktOf d with
    | none => rw [hk] at h; cases h
    | some k =>
      rw [hk] at h
      obtain ⟨u, hu, hc⟩ := kt_at r1 hk
      cases hi : T.isa a k with
      | none => rw [Option.bind_some, hi] at h; cases h
      | some c =>
        rw [Option.bind_some, hi] at h
        obtain ⟨w, hw, hkit⟩ := ok.isa a k c hi t ha
        obtain rfl := ktv_one hu hw
        cases c with
        | false =>
          obtain ⟨us, p, e⟩ := any_at ok ha r2 h
          exact ⟨u :: us, .cons hc p, by unfold PySem.W.kitAny; rw [hkit]; exact e⟩
        | true =>
          dsimp only at h
          split at h
          · rename_i hall
            cases h
            have all : ∀ {ds : List D} {vs : List V}, Reps K mg F ι H ds vs → (ds.all fun x => (ktOf x).isSome) = true → ∃ us, Paired ClsV vs us := by
              intro ds
              induction ds with
              | nil => intro vs r _; rw [show vs = [] from r]; exact ⟨[], .nil⟩
              | cons d ds ih =>
                intro vs r h
                obtain ⟨v, vs', rfl, r1, r2⟩ := r
                rw [List.all_cons, Bool.and_eq_true] at h
                obtain ⟨k, hk⟩ := Option.isSome_iff_exists.mp h.1
                obtain ⟨u, _, hc⟩ := kt_at r1 hk
                obtain ⟨us, p⟩ := ih r2 h.2
                exact ⟨u :: us, .cons hc p⟩
            obtain ⟨us, p⟩ := all r2 hall
            exact ⟨u :: us, .cons hc p, by unfold PySem.W.kitAny; rw [hkit]⟩
          · cases h
theorem ok_isA (ok : TabOk K mg T) : OkN K mg (fun xs H Q => rIsA K xs H Q ∨ rIsAT K xs H Q) (isAD T) := by
  intro H F ι S xs d vs Q w rx ho t
  unfold isAD at ho
  split at ho
  · rename_i x c
    obtain ⟨v, u, rfl, hv, hu⟩ := two_of rx
    cases ha : clsOf T S x with
    | none => rw [ha] at ho; cases ho
    | some a =>
      rw [ha, Option.bind_some] at ho
      obtain ⟨tt, h1, h2⟩ := cls_at ok w hv ha
      split at ho
      · rename_i cs
        cases hb : isAny T a cs with
        | none => rw [hb] at ho; cases ho
        | some b =>
          rw [hb] at ho
          cases ho
          obtain ⟨p, us, rfl, hl, hr⟩ := hu
          obtain ⟨ws, hp, hk⟩ := any_at ok h1 hr hb
          exact .inr ⟨v, p, us, tt, ws, b, rfl, hl.sq, hp, h2, hk, t.here w rfl⟩
      · cases hk : ktOf c with
        | none => rw [hk] at ho; cases ho
        | some k =>
          rw [hk, Option.bind_some] at ho
          cases hb : T.isa a k with
          | none => rw [hb] at ho; cases ho
          | some b =>
            rw [hb] at ho
            cases ho
            obtain ⟨w1, hw, hkit⟩ := ok.isa a k b hb tt h1
            obtain ⟨u1, hu1, hc⟩ := kt_at hu hk
            obtain rfl := ktv_one hu1 hw
            exact .inl ⟨v, u, tt, u1, b, rfl, hc, h2, hkit, t.here w rfl⟩
  · cases ho
end
def XfOk (K : PySem.W.Frag) (mg : Str → Option Value) (tb : List (Str × Str)) : Prop := ∀ c f, (c, f) ∈ tb → ∀ C, mg c = some (.ref C) → XfC K C ∧ PySem.W.findIn K (.ref C) f = some none
def fieldOf (n : Str) : List Str → List D → Option D
  | m :: ns, d :: ds => if m = n then some d else fieldOf n ns ds
  | _, _ => none
def xfD (tb : List (Str × Str)) (n : Str) : Op1 := fun d _ => match d with
  | .exc c ns xs => if tb.contains (c, n) then fieldOf n ns xs else none
  | _ => none
theorem field_rep {K : PySem.W.Frag} {mg : Str → Option Value} {F : Fz} {ι : List Addr} {H : Hp} {n : Str} : ∀ {ns : List Str} {ds : List D} {vs : List V} {d : D}, Reps K mg F ι H ds vs → fieldOf n ns ds = some d → ∃ v, (ns.zip vs).lookup n = some v ∧ Rep K mg F ι H d v
  | m :: ns, d :: ds, vs, x, r, h => by
    obtain ⟨v, vs', rfl, r1, r2⟩ := r
    unfold fieldOf at h
    rw [List.zip_cons_cons, lookup_put]
    by_cases e : m = n
    · rw [if_pos e] at h
      cases h
      exact ⟨v, by rw [if_pos e.symm], r1⟩
    · rw [if_neg e] at h
      obtain ⟨u, h1, h2⟩ := field_rep r2 h
      exact ⟨u, by rw [if_neg fun z => e z.symm]; exact h1, h2⟩
  | [], _, _, _, _, h => by cases h
  | _ :: _, [], _, _, _, h => by cases h
theorem v_xf {X : Cx} {E : EE} {tb : List (Str × Str)} {e : Expr} {f : Ex D} {n : Str} {pos : Pos} (ok : XfOk X.K X.mg tb) (he : VE X E e f) (hb : attributeBase e n X.env (eval e X.env) = eval e X.env := by rfl) :
    VE X E (.Attribute e n pos) (mUn (xfD tb n) f) := fun g => by
  constructor
  rintro pins s σ H Q I ⟨F, ι, env, S, w, q⟩
  refine attr_of hb (thn ((he g).run pins s σ H (fun v H1 => ∃ F1 ι1 S1 d d2, Ext H F ι H1 F1 ι1 ∧ RS X.K X.mg g σ H1 F1 ι1 env S1 ∧ Rep X.K X.mg F1 ι1 H1 d v ∧ xfD tb n d S1 = some d2 ∧ ∀ u, Rep X.K X.mg F1 ι1 H1 d2 u → Q u H1) I
    ⟨F, ι, env, S, w, rd_mono (rd_then q) fun d H1 F1 ι1 S1 _ e1 w1 ⟨_, _, q1⟩ v hv => ?_⟩) fun u s1 hh => ?_)
  · cases ho : xfD tb n d S1 with
    | none => rw [ho] at q1; exact q1.elim
    | some d2 =>
      rw [ho] at q1
      exact ⟨F1, ι1, S1, d, d2, e1, w1, hv, ho, fun u hu => (q1 H1 F1 ι1 Ext.refl w1).2.2 u hu⟩
  · obtain ⟨v, H1, I1, rv, F1, ι1, S1, d, d2, e1, w1, hv, ho, q1⟩ := hh
    unfold xfD at ho
    split at ho
    · rename_i c ns xs
      split at ho
      · rename_i hc
        obtain ⟨a, C, oe, ub, od, vs, rfl, fa, hm, ea, hz, fv, hl, dd, hr⟩ := hv
        obtain rfl : u = Value.ref a := rv
        obtain ⟨T, hno⟩ := ok c n (by simpa using hc) C hm
        obtain ⟨v2, hv2, r2⟩ := field_rep hr ho
        rcases dd with ⟨hns, _⟩ | ⟨dd, rfl, fd, hdd⟩
        · subst hns; cases ho
        · obtain ⟨mA, hns, rel⟩ := (show ObjOk X.prog X.w H1 s1.heap dd (.xd (ns.zip vs)) from I1.hok dd _ hdd)
          obtain ⟨od, ho2, hlk⟩ := lookIn_ns hns
          obtain ⟨u2, hu2, ru2⟩ := RelO.some_of (v := v2) (o := mA n) (by rw [← hv2]; exact rel n)
          obtain ⟨ha, _⟩ := (show ObjOk X.prog X.w H1 s1.heap a (.frz oe ub) from I1.hok a _ ea)
          obtain ⟨fs, hfs⟩ := fv
          have J : PySem.W.InstAt s1.heap a oe C (some od) := ⟨ha, hz.1, by unfold PySem.W.notCls; rw [hfs] <;> rfl, by rw [hz.2.1]; exact ho2⟩
          exact HandSPX.exc_get I1.kIn J T.ga T.gg T.exC (PySem.W.findObj_own T.hdC hno rfl (by rw [hlk, hu2])) (handed_of ru2) ⟨v2, H1, I1.tok _, ru2, q1 v2 r2⟩
      · cases ho
    · cases ho
end DL
namespace DL
open PySem PySem.Spec L2
open PyProof.Rows hiding St
def pickL {α : Type} (p : List Nat) (l : List α) : List α := p.filterMap fun i => l[i]?
theorem pick_vals {vs : List V} {us : List Value} (r : Vals vs us) : ∀ p : List Nat, Vals (pickL p vs) (pickL p us)
  | [] => .nil
  | i :: p => by
    unfold pickL
    rw [List.filterMap_cons, List.filterMap_cons]
    have hl := r.length
    cases h : vs[i]? with
    | none =>
      have : us[i]? = none := by
        rw [List.getElem?_eq_none_iff] at h ⊢
        omega
      rw [this]
      exact pick_vals r p
    | some v =>
      obtain ⟨u, hu, ru⟩ := r.get h
      rw [hu]
      exact .cons ru (pick_vals r p)
def BindsW (K : PySem.W.Frag) (fd : FuncData) (ps : List Str) (n : Nat) (ks : List Str) (p : List Nat) : Prop :=
  ∀ (s : Shared) (us ws : List Value), K.In s.heap → us.length = n → ws.length = ks.length → BindsTo s fd ⟨us, ks.zip ws⟩ (ps.zip (pickL p (us ++ ws)))
theorem _root_.L2.Fun.bindsW {K : PySem.W.Frag} {x qual : Str} {st : Stmt} {f : Addr} {fd : FuncData} {ps ks : List Str} {n : Nat} {p : List Nat} (F : Fun K x qual st f fd)
    (h : ∀ (kV doc pm : Value) (an : Option Addr) (cdv ct : Value) (us ws : List Value), us.length = n → ws.length = ks.length →
      bindArgs (PySem.W.fnOf x qual (defArgs st) (defBody st) (defScope st) .none kV doc pm an cdv ct) ⟨us, ks.zip ws⟩ = pure (ps.zip (pickL p (us ++ ws)))) : BindsW K fd ps n ks p := by
  obtain ⟨oc, od, kV, doc, pm, an, cdv, ct, osl, rfl, lk, hcd⟩ := F.ex
  intro s us ws _ h1 h2
  exact L2.BindsTo.of_looks fun M => .of_pure (h kV doc pm an cdv ct us ws h1 h2)
def mFnK (n np nk : Nat) (p : List Nat) (m : Fn) (fa fk : Ex (List D)) : Ex D := fun env S => (fa env S).andThen fun xs S1 => if xs.length = np then (fk env S1).andThen (fun zs S2 =>
  if zs.length = nk then (if (pickL p (xs ++ zs)).length = n then m (pickL p (xs ++ zs)) S2 else .bad) else .bad) else .bad
def VK' (X : Cx) (E : EE) (kws : List Keyword) (f : Ex (List D)) : Prop := ∀ g, PK X kws (tAr X.K X.mg g E f)
section
variable {X : Cx} {E : EE} {e : Expr} {es : List Expr} {kws : List Keyword} {f : Ex D} {fa fk : Ex (List D)} {nm : Option Str} {kpos pos p : Pos}
theorem _root_.L2.PK.imp {X : Cx} {e : List Keyword} {t t' : TA} (p : PK X e t) (h : ∀ σ H Q, t' σ H Q → t σ H Q) : PK X e t' := ⟨fun pos pins s σ H Q I q => p.run pos pins s σ H Q I (h σ H Q q)⟩
theorem k_nil : VK' X E [] mNil := fun g => pk_nil.imp fun σ H Q ⟨F, ι, env, S, w, q⟩ => q H F ι Ext.refl w [] rfl
theorem k_cons (he : VE X E e f) (hr : VK' X E kws fk) : VK' X E (⟨nm, e, kpos⟩ :: kws) (mCons f fk) := fun g =>
  (pk_cons (he g) (hr g)).imp fun σ H Q ⟨F, ι, env, S, w, q⟩ => ⟨F, ι, env, S, w, rd_mono (rd_then q) fun x H1 F1 ι1 S1 _ e1 w1 ⟨_, _, q1⟩ v hv =>
    ⟨F1, ι1, env, S1, w1, rd_mono (rd_then q1) fun xs H2 F2 ι2 S2 _ e2 w2 ⟨_, _, q2⟩ vs hvs => (q2 H2 F2 ι2 Ext.refl w2).2.2.2.2 (v :: vs) ⟨v, vs, rfl, w1.wd.rep e2 hv, hvs⟩⟩⟩
end
end DL
namespace DL
open PySem PySem.Spec L2
open PyProof.Rows hiding St
section
variable {K : PySem.W.Frag} {mg : Str → Option Value} {F : Fz} {ι : List Addr} {H : Hp} {S : List Cell}
end
section
variable {X : Cx} {E : EE} {e a b : Expr} {fa : Ex (List D)} {f : Ex D} {pos : Pos}
def mCell (f : Ex (List D)) : Ex D := fun env S => (f env S).andThen fun xs S1 => .ok (.cell S1.length) (S1 ++ [.lst xs])
def divmodD : OpN := fun xs _ => match xs with
  | [.int i, .int j] => if 0 < j ∧ j < 1073741824 then some (.tup [.int (i / j), .int (i % j)]) else none
  | _ => none
def isN (neg : Bool) : Op2 := fun x y _ => match y, x with
  | .non, .non => some (.bl (!neg))
  | .non, _ => some (.bl neg)
  | _, _ => none
def isNon : D → Bool
  | .non => true
  | _ => false
def mPar2 (i j : Nat) (fa : Ex (List D)) : Sm := fun env S => (fa env S).go env fun ds S1 => match ds with
  | [d, d'] => .nx ((env.set i (.val d)).set j (.val d')) S1
  | _ => .bad
theorem s_par (i j : Nat) {x y : Str} {px py pt : Pos} {kt k2 pt2} (ha : VA X E [a, b] fa) (hc : X.calm = true) (hN : X.N.Nodup) (hi : X.N[i]? = some x := by rfl) (hj : X.N[j]? = some y := by rfl) (hij : i ≠ j := by decide)
    (hx : X.env.scope.names.lookup x = some .local := by rfl) (hy : X.env.scope.names.lookup y = some .local := by rfl) (hw : swappedStores [.Tuple [.Name x px, .Name y py] kt pt] (.Tuple [a, b] k2 pt2) X.env = pure (some [x, y]) := by rfl)
    (hs : swapsWithSole [.Tuple [.Name x px, .Name y py] kt pt] (.Tuple [a, b] k2 pt2) pos.line X.env = pure false := by rfl) :
    VS X E (.Assign [.Tuple [.Name x px, .Name y py] kt pt] (.Tuple [a, b] k2 pt2) pos) (mPar2 i j fa) := fun g => (ps_par hc hN hi hj hij hx hy (ha g) hw hs).imp fun D σ H ⟨F, ι, env, S, w, q⟩ =>
  ⟨F, ι, env, S, w, rd_mono (rd_go w.wd q) fun ds H1 F1 ι1 S1 _ e1 w1 ⟨_, _, q1⟩ vs hvs => by
    match ds, q1 with
    | [d, d'], q1 =>
      obtain ⟨v, u, rfl, hv, hu⟩ := two_of hvs
      exact ⟨v, u, rfl, q1 _ H1 F1 ι1 ((w1.put i hv).put j hu) Grow.refl⟩⟩
end
end DL
namespace DL
open PySem PySem.Spec L2
open PyProof.Rows hiding St
theorem rm_caller {k : Nat} (h : Room k callerA) (hq : callerA.guards = some [] := by rfl) : Rm k callerA := ⟨h, hq⟩
def scriptD (ns : List Int) : D := .ro (ns.map .int)
theorem mean_of_law {P : Program} {w : World} {K : PySem.W.Frag} {mg mb : Str → Option Value} {k : Nat} {fa a : Addr} {fd : FuncData} {x : Str} {m : Fn} {s1 : Shared} {vs : List Value} {ns : List Int}
    (KX : K.In s1.heap) (nG : s1.heap.Ns mainGlobals mg) (nB : s1.heap.Ns builtinsNs mb) (bB : ∀ x : Str, x ≠ "__name__" → mb x = bootBuiltins x) (lim : s1.heap.NoLimit) (noG : s1.gens = #[])
    (at_ : s1.heap.get? a = some { cls := .type "list", data := .seq vs.toArray }) (hi : IntsAre vs ns) (hl : ns.length ≤ sizeLine) (rm : Rm k callerA)
    (G : ∀ base : Heap, K.In base → base.Ns mainGlobals mg → FnG P w K mg base k fa fd [x] (SpM K mg 1 m)) (bd : ∀ (s : Shared) (u : Value), BindsTo s fd ⟨[u], []⟩ [(x, u)])
    (hm : ∃ S', m [scriptD ns] [] = .ok (.bl true) S') :
    codeAny (model P w) callerA (.call (.ref fa) ⟨[.ref a], []⟩) (fun r s' => r = .ok (.ret (.bool true)) ∧ OldK s1.heap s'.heap ∧ s'.os = s1.os ∧ AllBare s'.gens) s1 := by
  have rv := vals_ints hi
  have lenV := hi.length
  let scr : HO := .frz { cls := .type "list", data := .seq vs.toArray } (.lst (ns.map V.int))
  have main : ∀ (H : Hp) (F0 : Fz), (∀ b u, H b = some u → b = a ∧ u = scr ∧ K.lookup a = none) → (∀ b, F0 b → H b ≠ none) → HOk P w H s1.heap → RoAt K F0 H a (ns.map V.int) →
      codeAny (model P w) callerA (.call (.ref fa) ⟨[.ref a], []⟩) (fun r s' => r = .ok (.ret (.bool true)) ∧ OldK s1.heap s'.heap ∧ s'.os = s1.os ∧ AllBare s'.gens) s1 := by
    intro H F0 only f0 hok ro
    have hid : ∀ {b : Addr} {o : Obj}, s1.heap.get? b = some o → H b = none → (hidT s1.heap H).get? b = some o := fun e n => hidT_get e n
    have free : ∀ {b : Addr} {o : Obj}, s1.heap.get? b = some o → (b = a → o = { cls := .type "list", data := .seq vs.toArray } → K.lookup a = none → False) → H b = none := fun {b o} e no => by
      cases q : H b with
      | none => rfl
      | some u =>
        obtain ⟨rfl, _, hK⟩ := only b u q
        rw [at_] at e
        exact (no rfl (by cases e; rfl) hK).elim
    have nsT : ∀ {b : Addr} {mm : Str → Option Value}, s1.heap.Ns b mm → (hidT s1.heap H).Ns b mm := fun {b mm} ⟨o, es, ep, e, d, r⟩ => ⟨o, es, ep, hid e (free e fun _ z _ => by
      rw [z] at d
      have d' : Data.seq vs.toArray _ = Data.dict es ep := d
      cases d'), d, r⟩
    have kin : K.In (hidT s1.heap H) := fun b o e => hid (KX b o e) (free (KX b o e) fun z _ hK => by
      rw [z, hK] at e
      cases e)
    have md : Mod K mg (hidT s1.heap H) := ⟨kin, nsT nG, ⟨mb, nsT nB, bB⟩, let ⟨mc, h1, h2⟩ := lim; ⟨mc, nsT h1, h2⟩⟩
    have e0 : Env0 P w K mg (hidT s1.heap H) callerA [] s1 H := ⟨rfl, md, fun b o e => of_hidT e, Nat.le_of_eq (hidT_size _ _), trivial, fun b hb => absurd (show b ∈ ([] : List Addr) from hb) (by simp), hok, .of_eq noG⟩
    have wd : Wd K mg F0 [] H [] := ⟨f0, fun n c b h _ => by simp at h, by simp, rfl, fun n c b h _ => by simp at h⟩
    have sp : SpM K mg 1 m [.ref a] H (fun v _ => v = .bl true) (fun _ _ _ => False) := by
      refine ⟨rfl, F0, [], [scriptD ns], [], wd, .one ⟨a, ns.map V.int, rfl, ro, reps_ints ns⟩, ?_⟩
      obtain ⟨S', hS⟩ := hm
      rw [hS]
      exact fun v H' F' ι' _ _ hv => hv
    refine codeAny_mono ((G _ kin (nsT nG)).go callerA [] s1 H ⟨[.ref a], []⟩ [.ref a] [.ref a] _ _ rm e0 (bd s1 (.ref a)) (.cons rfl .nil) sp) fun r s' h => ?_
    cases r with
    | error e =>
      obtain ⟨_, _, _, _, _, _, _, _, _, _, _, _, h⟩ := h
      exact h.elim
    | ok fl =>
      cases fl with
      | ret u =>
        obtain ⟨v, H', os, bare, un, hok', r', q⟩ := h
        obtain rfl : v = .bl true := q
        obtain rfl : u = Value.bool true := r'
        refine ⟨rfl, OldK.of_keep fun b o e => ?_, os, bare⟩
        cases q : H b with
        | none => exact un.keep b o e q (by intro z; exact absurd (show b ∈ ([] : List Addr) from z) (by simp)) (by simp)
        | some u =>
          obtain ⟨rfl, rfl, _⟩ := only b u q
          obtain ⟨e1, _⟩ := hok' b _ (un.frzs b _ _ q)
          rw [at_] at e
          cases e
          exact e1
      | _ => exact False.elim h
  cases hk : K.lookup a with
  | some o =>
    have e := KX a o hk
    rw [at_] at e
    cases e
    exact main noH (fun _ => False) (fun b u z => nomatch z) (fun _ z => z.elim) (fun b u z => nomatch z)
      (.inr (.inr ⟨_, vs.toArray, _, hk, rfl, rfl, rfl, by rw [List.size_toArray, lenV]; exact hl, by simpa using rv⟩))
  | none =>
    refine main (upd noH a scr) (fun b => b = a) (fun b u z => ?_) (fun b z => ?_) (fun b u z => ?_) (.inl ⟨rfl, .inr ⟨_, upd_same⟩⟩)
    · by_cases hb : b = a
      · subst hb
        rw [upd_same] at z
        cases z
        exact ⟨rfl, rfl, hk⟩
      · rw [upd_ne hb] at z
        exact nomatch z
    · rw [z, upd_same]; simp
    · by_cases hb : b = a
      · subst hb
        rw [upd_same] at z
        cases z
        exact ⟨at_, by rw [List.length_map]; exact hl, vs, _, rv, at_⟩
      · rw [upd_ne hb] at z
        exact nomatch z
end DL
namespace DL
open PySem PySem.Spec L2
open PyProof.Rows hiding St
def recF (K : PySem.W.Frag) (p : Addr) (T : String) : Addr := match PySem.W.recIn K p T with
  | some (.ref f :: _) => f
  | _ => 0
def recB (K : PySem.W.Frag) (p : Addr) (T : String) : Bool := match PySem.W.recIn K p T with
  | some (.ref _ :: _) => true
  | _ => false
def tupN (K : PySem.W.Frag) (x : Str) : Bool := match K.lookup (He.ga K x) with
  | some o => o.dict.isNone
  | none => false
def codeA (g : Addr → Option Obj) (a : Addr) : List Addr := a :: (match g a with
  | some ⟨_, _, .func fd, _⟩ => He.refV fd.code
  | _ => [])
def holdA (g : Addr → Option Obj) (a : Addr) : List Addr := match g a with
  | some ⟨_, _, .func fd, _⟩ => a :: He.refV fd.code
  | some o => a :: (He.refsO o).flatMap (codeA g)
  | none => []
def atN (g : Addr → Option Obj) (d : Addr) (x : Str) : List Addr := match g d with
  | some ⟨_, _, .dict es _, _⟩ => (match es.toList.find? fun e => e.key.isStr x with
    | some e => He.refV e.val
    | none => [])
  | _ => []
def clsA (g : Addr → Option Obj) (ms : List Str) (C : Addr) : List Addr := match g C with
  | some ⟨_, _, .cls cd, _⟩ => C :: cd.ns :: ms.flatMap fun m => (atN g cd.ns m).flatMap (holdA g)
  | _ => [C]
def asQ (fs : List Str) (cs : List (Str × List Str)) (g : Addr → Option Obj) : List Addr :=
  mainGlobals :: PySem.cStatics :: sysModules :: ((cs.flatMap fun c => (atN g mainGlobals c.1).flatMap (clsA g c.2)) ++ fs.flatMap fun f => (atN g mainGlobals f).flatMap (codeA g))
def obsQ (chk : PySem.W.Frag → Bool) (fn : List He5.DefA) (K : PySem.W.Frag) : He.AlD := (chk K && fn.all fun d => d.ok K, fn.map fun d => He5.fnA K (d.at_ K))
def SaysQ (chk : PySem.W.Frag → Bool) (fn : List He5.DefA) (K : PySem.W.Frag) : Prop := obsQ chk fn K = He5.valA fn
def hookQ (as : (Addr → Option Obj) → List Addr) (chk : PySem.W.Frag → Bool) (fn : List He5.DefA) : PySem.W.Hook where
  α := He.AlD
  obs := fun s => obsQ chk fn (He.frG s.heap.get? (as s.heap.get?))
  val := fun _ => He5.valA fn
  says := fun _ h => ∃ K : PySem.W.Frag, K.In h ∧ SaysQ chk fn K
  of := fun _ _ e => ⟨_, He.frG_in, e⟩
  keeps := fun _ _ _ ⟨K, hK, c⟩ k => ⟨K, PySem.W.Frag.In.keeps hK k, c⟩
def obQ (as : (Addr → Option Obj) → List Addr) (chk : PySem.W.Frag → Bool) (fn : List He5.DefA) (s : PySem.W.SharedT) : He.AlD := obsQ chk fn (He.frG (HandSHeadRun.getT s) (as (HandSHeadRun.getT s)))
theorem obQ_eq {as : (Addr → Option Obj) → List Addr} {chk : PySem.W.Frag → Bool} {fn : List He5.DefA} (s : PySem.W.SharedT) : obQ as chk fn s = (hookQ as chk fn).obs s.abs := by
  have e : HandSHeadRun.getT s = s.abs.heap.get? := funext (HandSHeadRun.getT_eq s)
  unfold obQ
  rw [e] <;> rfl
section
variable {chk : PySem.W.Frag → Bool} {fn : List He5.DefA} {K : PySem.W.Frag}
theorem SaysQ.chk0 (c : SaysQ chk fn K) : chk K = true := (He.ba (show (chk K && fn.all fun d => d.ok K) = true from congrArg (fun z : He.AlD => z.1) c)).1
theorem SaysQ.def_ (c : SaysQ chk fn K) (i : Nat) {d : He5.DefA} (h : fn[i]? = some d := by rfl) : ∃ fd, L2.FunD K d.name d.qual d.params d.body d.scope (d.dvs K) (d.kws K) (d.at_ K) fd := by
  have c2 := (He.ba (show (chk K && fn.all fun d => d.ok K) = true from congrArg (fun z : He.AlD => z.1) c)).2
  have e : fn.map (fun d => He5.fnA K (d.at_ K)) = fn.map He5.DefA.val := congrArg (fun z : He.AlD => z.2) c
  have e2 : (fn.map fun d => He5.fnA K (d.at_ K))[i]? = (fn.map He5.DefA.val)[i]? := by rw [e]
  rw [List.getElem?_map, List.getElem?_map, h] at e2
  exact He5.DefA.funD (Option.some.inj e2) (List.all_eq_true.mp c2 d (List.mem_of_getElem? h))
end
abbrev defQ (at_ : PySem.W.Frag → Addr) (x q : Str) (st : Stmt) : He5.DefA := ⟨at_, x, q, defArgs st, defBody st, defScope st, [], []⟩
theorem SaysQ.fun_ {chk : PySem.W.Frag → Bool} {fn : List He5.DefA} {K : PySem.W.Frag} (c : SaysQ chk fn K) (i : Nat) {at_ : PySem.W.Frag → Addr} {x q : Str} {st : Stmt} (h : fn[i]? = some (defQ at_ x q st)) : ∃ fd, L2.Fun K x q st (at_ K) fd := by
  obtain ⟨fd, F⟩ := c.def_ i h
  exact ⟨fd, He5.fun_of F⟩
theorem walkQ {l : PySem.W.OpenLaw} {n k : Nat} {q : Program} {loose : List Str} {XP : (Str → Option Value) → Heap → Prop} {YP : World → Heap → Prop} {d : DefRec} {x : Str} {m : Fn}
    (hn : l.most = some n) (hn2 : n ≤ sizeLine) (hdf : d.params.defaults = []) (hr : Room k callerA)
    (F : ∀ (w : World) (mg : Str → Option Value) (fa : Addr) (h : Heap), YP w h → h.Ns mainGlobals mg → mg d.name = some (.ref fa) →
      ∃ K : PySem.W.Frag, K.In h ∧ ∃ fd : FuncData, (∀ (s : Shared) (u : Value), BindsTo s fd ⟨[u], []⟩ [(x, u)]) ∧
        ∀ base : Heap, K.In base → base.Ns mainGlobals mg → FnG l.prog w K mg base k fa fd [x] (SpM K mg 1 m))
    (hm : ∀ ns : List Int, ns.length ≤ n → ∃ S', m [scriptD ns] [] = .ok (.bl true) S') :
    PySem.W.WalkO q loose XP YP l.row.toRowW d [] (fun f vs => PySem.call f vs) := by
  refine Att.attach_call hn hdf fun w s0 s1 mg mb fa o pm cd doc a vs ns G Y ho hd hcd hmg hobj hints hlen hg => ?_
  obtain ⟨K, KX, fd, hb, hF⟩ := F w mg fa _ Y G.T.g hmg
  exact mean_of_law KX G.T.g G.T.b G.T.builtins G.T.nolimit hg hobj hints (Nat.le_trans hlen hn2) (rm_caller hr) hF hb (hm ns hlen)
end DL
namespace K01
open PySem PySem.Spec L2 DL
open PyProof.Rows hiding St
def topS (i : Nat) : Stmt := PySem.Challenge.pw_bentthrough_k01_limits_and_errors.main.body.getD i (.Pass ⟨0, 0, 0, 0⟩)
abbrev si_Broken : Stmt := match topS 24 with
  | .ClassDef _ _ _ b _ _ _ _ _ _ _ => b.getD 0 (.Pass ⟨0, 0, 0, 0⟩)
  | _ => .Pass ⟨0, 0, 0, 0⟩
abbrev si_NotOne : Stmt := match topS 23 with
  | .ClassDef _ _ _ b _ _ _ _ _ _ _ => b.getD 0 (.Pass ⟨0, 0, 0, 0⟩)
  | _ => .Pass ⟨0, 0, 0, 0⟩
abbrev si_TooMany : Stmt := match topS 22 with
  | .ClassDef _ _ _ b _ _ _ _ _ _ _ => b.getD 0 (.Pass ⟨0, 0, 0, 0⟩)
  | _ => .Pass ⟨0, 0, 0, 0⟩
abbrev si_InUse : Stmt := match topS 19 with
  | .ClassDef _ _ _ b _ _ _ _ _ _ _ => b.getD 0 (.Pass ⟨0, 0, 0, 0⟩)
  | _ => .Pass ⟨0, 0, 0, 0⟩
abbrev si_UnknownName : Stmt := match topS 18 with
  | .ClassDef _ _ _ b _ _ _ _ _ _ _ => b.getD 0 (.Pass ⟨0, 0, 0, 0⟩)
  | _ => .Pass ⟨0, 0, 0, 0⟩
abbrev si_InvalidOffers : Stmt := match topS 16 with
  | .ClassDef _ _ _ b _ _ _ _ _ _ _ => b.getD 0 (.Pass ⟨0, 0, 0, 0⟩)
  | _ => .Pass ⟨0, 0, 0, 0⟩
abbrev si_InvalidHeights : Stmt := match topS 15 with
  | .ClassDef _ _ _ b _ _ _ _ _ _ _ => b.getD 0 (.Pass ⟨0, 0, 0, 0⟩)
  | _ => .Pass ⟨0, 0, 0, 0⟩
abbrev si_InvalidPlaces : Stmt := match topS 14 with
  | .ClassDef _ _ _ b _ _ _ _ _ _ _ => b.getD 0 (.Pass ⟨0, 0, 0, 0⟩)
  | _ => .Pass ⟨0, 0, 0, 0⟩
abbrev si_InvalidAmounts : Stmt := match topS 13 with
  | .ClassDef _ _ _ b _ _ _ _ _ _ _ => b.getD 0 (.Pass ⟨0, 0, 0, 0⟩)
  | _ => .Pass ⟨0, 0, 0, 0⟩
abbrev si_InvalidKnots : Stmt := match topS 12 with
  | .ClassDef _ _ _ b _ _ _ _ _ _ _ => b.getD 0 (.Pass ⟨0, 0, 0, 0⟩)
  | _ => .Pass ⟨0, 0, 0, 0⟩
abbrev si_NotACurve : Stmt := match topS 11 with
  | .ClassDef _ _ _ b _ _ _ _ _ _ _ => b.getD 0 (.Pass ⟨0, 0, 0, 0⟩)
  | _ => .Pass ⟨0, 0, 0, 0⟩
abbrev si_NotAFrame : Stmt := match topS 10 with
  | .ClassDef _ _ _ b _ _ _ _ _ _ _ => b.getD 0 (.Pass ⟨0, 0, 0, 0⟩)
  | _ => .Pass ⟨0, 0, 0, 0⟩
abbrev si_InvalidCommand : Stmt := match topS 9 with
  | .ClassDef _ _ _ b _ _ _ _ _ _ _ => b.getD 0 (.Pass ⟨0, 0, 0, 0⟩)
  | _ => .Pass ⟨0, 0, 0, 0⟩
abbrev si_InvalidClaim : Stmt := match topS 8 with
  | .ClassDef _ _ _ b _ _ _ _ _ _ _ => b.getD 0 (.Pass ⟨0, 0, 0, 0⟩)
  | _ => .Pass ⟨0, 0, 0, 0⟩
abbrev si_InvalidKnot : Stmt := match topS 7 with
  | .ClassDef _ _ _ b _ _ _ _ _ _ _ => b.getD 0 (.Pass ⟨0, 0, 0, 0⟩)
  | _ => .Pass ⟨0, 0, 0, 0⟩
abbrev si_InvalidDegree : Stmt := match topS 6 with
  | .ClassDef _ _ _ b _ _ _ _ _ _ _ => b.getD 0 (.Pass ⟨0, 0, 0, 0⟩)
  | _ => .Pass ⟨0, 0, 0, 0⟩
abbrev si_InvalidIndex : Stmt := match topS 5 with
  | .ClassDef _ _ _ b _ _ _ _ _ _ _ => b.getD 0 (.Pass ⟨0, 0, 0, 0⟩)
  | _ => .Pass ⟨0, 0, 0, 0⟩
abbrev si_InvalidName : Stmt := match topS 4 with
  | .ClassDef _ _ _ b _ _ _ _ _ _ _ => b.getD 0 (.Pass ⟨0, 0, 0, 0⟩)
  | _ => .Pass ⟨0, 0, 0, 0⟩
abbrev si_InvalidNumber : Stmt := match topS 3 with
  | .ClassDef _ _ _ b _ _ _ _ _ _ _ => b.getD 0 (.Pass ⟨0, 0, 0, 0⟩)
  | _ => .Pass ⟨0, 0, 0, 0⟩
abbrev si_InvalidText : Stmt := match topS 2 with
  | .ClassDef _ _ _ b _ _ _ _ _ _ _ => b.getD 0 (.Pass ⟨0, 0, 0, 0⟩)
  | _ => .Pass ⟨0, 0, 0, 0⟩
abbrev s_l_all : Stmt := topS 32
abbrev s_l_named : Stmt := topS 33
abbrev s_l_has : Stmt := topS 34
abbrev s_l_bases : Stmt := topS 35
abbrev s_l_caught : Stmt := topS 36
abbrev s_l_right : Stmt := topS 37
abbrev s_p_law : Stmt := topS 38
abbrev ad_l_all (K : PySem.W.Frag) : Addr := He.ga K "_law_all"
abbrev ad_l_named (K : PySem.W.Frag) : Addr := He.ga K "_law_named"
abbrev ad_l_has (K : PySem.W.Frag) : Addr := He.ga K "_law_has"
abbrev ad_l_bases (K : PySem.W.Frag) : Addr := He.ga K "_law_bases"
abbrev ad_l_caught (K : PySem.W.Frag) : Addr := He.ga K "_law_caught"
abbrev ad_l_right (K : PySem.W.Frag) : Addr := He.ga K "_law_right"
abbrev ad_p_law (K : PySem.W.Frag) : Addr := He.ga K "law"
abbrev C_NotRight (K : PySem.W.Frag) : Addr := He.ga K "NotRight"
abbrev C_InvalidText (K : PySem.W.Frag) : Addr := He.ga K "InvalidText"
abbrev C_InvalidNumber (K : PySem.W.Frag) : Addr := He.ga K "InvalidNumber"
abbrev C_InvalidName (K : PySem.W.Frag) : Addr := He.ga K "InvalidName"
abbrev C_InvalidIndex (K : PySem.W.Frag) : Addr := He.ga K "InvalidIndex"
abbrev C_InvalidDegree (K : PySem.W.Frag) : Addr := He.ga K "InvalidDegree"
abbrev C_InvalidKnot (K : PySem.W.Frag) : Addr := He.ga K "InvalidKnot"
abbrev C_InvalidClaim (K : PySem.W.Frag) : Addr := He.ga K "InvalidClaim"
abbrev C_InvalidCommand (K : PySem.W.Frag) : Addr := He.ga K "InvalidCommand"
abbrev C_NotAFrame (K : PySem.W.Frag) : Addr := He.ga K "NotAFrame"
abbrev C_NotACurve (K : PySem.W.Frag) : Addr := He.ga K "NotACurve"
abbrev C_InvalidKnots (K : PySem.W.Frag) : Addr := He.ga K "InvalidKnots"
abbrev C_InvalidAmounts (K : PySem.W.Frag) : Addr := He.ga K "InvalidAmounts"
abbrev C_InvalidPlaces (K : PySem.W.Frag) : Addr := He.ga K "InvalidPlaces"
abbrev C_InvalidHeights (K : PySem.W.Frag) : Addr := He.ga K "InvalidHeights"
abbrev C_InvalidOffers (K : PySem.W.Frag) : Addr := He.ga K "InvalidOffers"
abbrev C_NotKnown (K : PySem.W.Frag) : Addr := He.ga K "NotKnown"
abbrev C_UnknownName (K : PySem.W.Frag) : Addr := He.ga K "UnknownName"
abbrev C_InUse (K : PySem.W.Frag) : Addr := He.ga K "InUse"
abbrev C_NothingToUndo (K : PySem.W.Frag) : Addr := He.ga K "NothingToUndo"
abbrev C_NotPossible (K : PySem.W.Frag) : Addr := He.ga K "NotPossible"
abbrev C_TooMany (K : PySem.W.Frag) : Addr := He.ga K "TooMany"
abbrev C_NotOne (K : PySem.W.Frag) : Addr := He.ga K "NotOne"
abbrev C_Broken (K : PySem.W.Frag) : Addr := He.ga K "Broken"
abbrev fi_Broken (K : PySem.W.Frag) : Addr := He.ma K (C_Broken K) "__init__"
abbrev fi_NotOne (K : PySem.W.Frag) : Addr := He.ma K (C_NotOne K) "__init__"
abbrev fi_TooMany (K : PySem.W.Frag) : Addr := He.ma K (C_TooMany K) "__init__"
abbrev fi_InUse (K : PySem.W.Frag) : Addr := He.ma K (C_InUse K) "__init__"
abbrev fi_UnknownName (K : PySem.W.Frag) : Addr := He.ma K (C_UnknownName K) "__init__"
abbrev fi_InvalidOffers (K : PySem.W.Frag) : Addr := He.ma K (C_InvalidOffers K) "__init__"
abbrev fi_InvalidHeights (K : PySem.W.Frag) : Addr := He.ma K (C_InvalidHeights K) "__init__"
abbrev fi_InvalidPlaces (K : PySem.W.Frag) : Addr := He.ma K (C_InvalidPlaces K) "__init__"
abbrev fi_InvalidAmounts (K : PySem.W.Frag) : Addr := He.ma K (C_InvalidAmounts K) "__init__"
abbrev fi_InvalidKnots (K : PySem.W.Frag) : Addr := He.ma K (C_InvalidKnots K) "__init__"
abbrev fi_NotACurve (K : PySem.W.Frag) : Addr := He.ma K (C_NotACurve K) "__init__"
abbrev fi_NotAFrame (K : PySem.W.Frag) : Addr := He.ma K (C_NotAFrame K) "__init__"
abbrev fi_InvalidCommand (K : PySem.W.Frag) : Addr := He.ma K (C_InvalidCommand K) "__init__"
abbrev fi_InvalidClaim (K : PySem.W.Frag) : Addr := He.ma K (C_InvalidClaim K) "__init__"
abbrev fi_InvalidKnot (K : PySem.W.Frag) : Addr := He.ma K (C_InvalidKnot K) "__init__"
abbrev fi_InvalidDegree (K : PySem.W.Frag) : Addr := He.ma K (C_InvalidDegree K) "__init__"
abbrev fi_InvalidIndex (K : PySem.W.Frag) : Addr := He.ma K (C_InvalidIndex K) "__init__"
abbrev fi_InvalidName (K : PySem.W.Frag) : Addr := He.ma K (C_InvalidName K) "__init__"
abbrev fi_InvalidNumber (K : PySem.W.Frag) : Addr := He.ma K (C_InvalidNumber K) "__init__"
abbrev fi_InvalidText (K : PySem.W.Frag) : Addr := He.ma K (C_InvalidText K) "__init__"
abbrev FA0 (K : PySem.W.Frag) : Prop :=
  PySem.W.nsIn K mainGlobals "_law_all" = some (some (.ref (ad_l_all K))) ∧
  PySem.W.nsIn K mainGlobals "_law_named" = some (some (.ref (ad_l_named K))) ∧
  PySem.W.nsIn K mainGlobals "_law_has" = some (some (.ref (ad_l_has K))) ∧
  PySem.W.nsIn K mainGlobals "_law_bases" = some (some (.ref (ad_l_bases K))) ∧
  PySem.W.nsIn K mainGlobals "_law_caught" = some (some (.ref (ad_l_caught K))) ∧
  PySem.W.nsIn K mainGlobals "_law_right" = some (some (.ref (ad_l_right K))) ∧
  PySem.W.nsIn K mainGlobals "law" = some (some (.ref (ad_p_law K))) ∧
  PySem.W.nsIn K mainGlobals "ArithmeticError" = some none ∧
  PySem.W.nsIn K mainGlobals "LookupError" = some none ∧
  PySem.W.nsIn K mainGlobals "ValueError" = some none
abbrev FA1 (K : PySem.W.Frag) : Prop :=
  PySem.W.nsIn K mainGlobals "all" = some none ∧
  PySem.W.nsIn K mainGlobals "int" = some none ∧
  PySem.W.nsIn K mainGlobals "isinstance" = some none ∧
  PySem.W.nsIn K mainGlobals "len" = some none ∧
  PySem.W.nsIn K mainGlobals "range" = some none ∧
  PySem.W.nsIn K mainGlobals "repr" = some none ∧
  (He.Fa.int "MOST_DEGREE" (4)).ok K = true ∧
  (He.Fa.int "MOST_HEIGHT" (100000000000000000000)).ok K = true ∧
  (He.Fa.int "MOST_HILLS" (10)).ok K = true ∧
  (He.Fa.int "MOST_KNOT" (1000000)).ok K = true
abbrev FA2 (K : PySem.W.Frag) : Prop :=
  (He.Fa.int "MOST_OFFERS" (6)).ok K = true ∧
  (He.Fa.int "MOST_PLACES" (12)).ok K = true ∧
  PySem.W.nsIn K mainGlobals "NotRight" = some (some (.ref (C_NotRight K))) ∧
  PySem.W.nsIn K mainGlobals "InvalidText" = some (some (.ref (C_InvalidText K))) ∧
  PySem.W.nsIn K mainGlobals "InvalidNumber" = some (some (.ref (C_InvalidNumber K))) ∧
  PySem.W.nsIn K mainGlobals "InvalidName" = some (some (.ref (C_InvalidName K))) ∧
  PySem.W.nsIn K mainGlobals "InvalidIndex" = some (some (.ref (C_InvalidIndex K))) ∧
  PySem.W.nsIn K mainGlobals "InvalidDegree" = some (some (.ref (C_InvalidDegree K))) ∧
  PySem.W.nsIn K mainGlobals "InvalidKnot" = some (some (.ref (C_InvalidKnot K))) ∧
  PySem.W.nsIn K mainGlobals "InvalidClaim" = some (some (.ref (C_InvalidClaim K)))
abbrev FA3 (K : PySem.W.Frag) : Prop :=
  PySem.W.nsIn K mainGlobals "InvalidCommand" = some (some (.ref (C_InvalidCommand K))) ∧
  PySem.W.nsIn K mainGlobals "NotAFrame" = some (some (.ref (C_NotAFrame K))) ∧
  PySem.W.nsIn K mainGlobals "NotACurve" = some (some (.ref (C_NotACurve K))) ∧
  PySem.W.nsIn K mainGlobals "InvalidKnots" = some (some (.ref (C_InvalidKnots K))) ∧
  PySem.W.nsIn K mainGlobals "InvalidAmounts" = some (some (.ref (C_InvalidAmounts K))) ∧
  PySem.W.nsIn K mainGlobals "InvalidPlaces" = some (some (.ref (C_InvalidPlaces K))) ∧
  PySem.W.nsIn K mainGlobals "InvalidHeights" = some (some (.ref (C_InvalidHeights K))) ∧
  PySem.W.nsIn K mainGlobals "InvalidOffers" = some (some (.ref (C_InvalidOffers K))) ∧
  PySem.W.nsIn K mainGlobals "NotKnown" = some (some (.ref (C_NotKnown K))) ∧
  PySem.W.nsIn K mainGlobals "UnknownName" = some (some (.ref (C_UnknownName K)))
abbrev FA4 (K : PySem.W.Frag) : Prop :=
  PySem.W.nsIn K mainGlobals "InUse" = some (some (.ref (C_InUse K))) ∧
  PySem.W.nsIn K mainGlobals "NothingToUndo" = some (some (.ref (C_NothingToUndo K))) ∧
  PySem.W.nsIn K mainGlobals "NotPossible" = some (some (.ref (C_NotPossible K))) ∧
  PySem.W.nsIn K mainGlobals "TooMany" = some (some (.ref (C_TooMany K))) ∧
  PySem.W.nsIn K mainGlobals "NotOne" = some (some (.ref (C_NotOne K))) ∧
  PySem.W.nsIn K mainGlobals "Broken" = some (some (.ref (C_Broken K))) ∧
  PySem.W.specialIn K (.builtin "object.__class__") "__get__" = some (some (.builtin "getset_descriptor.__get__")) ∧
  PySem.W.takesIn K (.builtin "object.__class__") = some true ∧
  PySem.W.excInitIn K (C_Broken K) [.type "ArithmeticError", .type "Exception", .type "BaseException", .type "object"] "ArithmeticError.__new__" = true ∧
  PySem.W.excOver K (C_Broken K) [.type "ArithmeticError", .type "Exception", .type "BaseException", .type "object"] = true
abbrev FA5 (K : PySem.W.Frag) : Prop :=
  PySem.W.hasDictIn K (C_Broken K) = true ∧
  PySem.W.findIn K (.ref (C_Broken K)) "__setattr__" = some (some (.builtin "object.__setattr__")) ∧
  PySem.W.subIn K (.ref (C_Broken K)) (.type "BaseException") = some true ∧
  PySem.W.typeIn K (.ref (C_Broken K)) = some (.type "type") ∧
  PySem.W.keepIn K (.ref (C_Broken K)) = true ∧
  PySem.W.findIn K (.ref (C_Broken K)) "__getattribute__" = some (some (.builtin "BaseException.__getattribute__")) ∧
  PySem.W.findIn K (.ref (C_Broken K)) "__getattr__" = some none ∧
  PySem.W.findIn K (.ref (C_Broken K)) "__class__" = some (some (.builtin "object.__class__")) ∧
  PySem.W.mroIn K (C_Broken K) (.type "object") = some true ∧
  PySem.W.findIn K (.ref (C_Broken K)) "index" = some none
abbrev FA6 (K : PySem.W.Frag) : Prop :=
  PySem.W.findIn K (.ref (C_Broken K)) "__init__" = some (some (.ref (fi_Broken K))) ∧
  PySem.W.typeIn K (.ref (fi_Broken K)) = some (.type "function") ∧
  PySem.W.takerIn K (C_Broken K) "index" = some none ∧
  PySem.W.findIn K (.ref (C_Broken K)) "shown" = some none ∧
  PySem.W.takerIn K (C_Broken K) "shown" = some none ∧
  PySem.W.excInitIn K (C_NotOne K) [.type "ArithmeticError", .type "Exception", .type "BaseException", .type "object"] "ArithmeticError.__new__" = true ∧
  PySem.W.excOver K (C_NotOne K) [.type "ArithmeticError", .type "Exception", .type "BaseException", .type "object"] = true ∧
  PySem.W.hasDictIn K (C_NotOne K) = true ∧
  PySem.W.findIn K (.ref (C_NotOne K)) "__setattr__" = some (some (.builtin "object.__setattr__")) ∧
  PySem.W.subIn K (.ref (C_NotOne K)) (.type "BaseException") = some true
abbrev FA7 (K : PySem.W.Frag) : Prop :=
  PySem.W.typeIn K (.ref (C_NotOne K)) = some (.type "type") ∧
  PySem.W.keepIn K (.ref (C_NotOne K)) = true ∧
  PySem.W.findIn K (.ref (C_NotOne K)) "__getattribute__" = some (some (.builtin "BaseException.__getattribute__")) ∧
  PySem.W.findIn K (.ref (C_NotOne K)) "__getattr__" = some none ∧
  PySem.W.findIn K (.ref (C_NotOne K)) "__class__" = some (some (.builtin "object.__class__")) ∧
  PySem.W.mroIn K (C_NotOne K) (.type "object") = some true ∧
  PySem.W.findIn K (.ref (C_NotOne K)) "rank" = some none ∧
  PySem.W.findIn K (.ref (C_NotOne K)) "__init__" = some (some (.ref (fi_NotOne K))) ∧
  PySem.W.typeIn K (.ref (fi_NotOne K)) = some (.type "function") ∧
  PySem.W.takerIn K (C_NotOne K) "rank" = some none
abbrev FA8 (K : PySem.W.Frag) : Prop :=
  PySem.W.excInitIn K (C_TooMany K) [.type "ArithmeticError", .type "Exception", .type "BaseException", .type "object"] "ArithmeticError.__new__" = true ∧
  PySem.W.excOver K (C_TooMany K) [.type "ArithmeticError", .type "Exception", .type "BaseException", .type "object"] = true ∧
  PySem.W.hasDictIn K (C_TooMany K) = true ∧
  PySem.W.findIn K (.ref (C_TooMany K)) "__setattr__" = some (some (.builtin "object.__setattr__")) ∧
  PySem.W.subIn K (.ref (C_TooMany K)) (.type "BaseException") = some true ∧
  PySem.W.typeIn K (.ref (C_TooMany K)) = some (.type "type") ∧
  PySem.W.keepIn K (.ref (C_TooMany K)) = true ∧
  PySem.W.findIn K (.ref (C_TooMany K)) "__getattribute__" = some (some (.builtin "BaseException.__getattribute__")) ∧
  PySem.W.findIn K (.ref (C_TooMany K)) "__getattr__" = some none ∧
  PySem.W.findIn K (.ref (C_TooMany K)) "__class__" = some (some (.builtin "object.__class__"))
abbrev FA9 (K : PySem.W.Frag) : Prop :=
  PySem.W.mroIn K (C_TooMany K) (.type "object") = some true ∧
  PySem.W.findIn K (.ref (C_TooMany K)) "limit" = some none ∧
  PySem.W.findIn K (.ref (C_TooMany K)) "__init__" = some (some (.ref (fi_TooMany K))) ∧
  PySem.W.typeIn K (.ref (fi_TooMany K)) = some (.type "function") ∧
  PySem.W.takerIn K (C_TooMany K) "limit" = some none ∧
  PySem.W.excIn K (C_NothingToUndo K) [.type "LookupError", .type "Exception", .type "BaseException", .type "object"] "LookupError.__new__" = true ∧
  PySem.W.hasDictIn K (C_NothingToUndo K) = true ∧
  PySem.W.subIn K (.ref (C_NothingToUndo K)) (.type "BaseException") = some true ∧
  PySem.W.typeIn K (.ref (C_NothingToUndo K)) = some (.type "type") ∧
  PySem.W.keepIn K (.ref (C_NothingToUndo K)) = true
abbrev FA10 (K : PySem.W.Frag) : Prop :=
  PySem.W.findIn K (.ref (C_NothingToUndo K)) "__getattribute__" = some (some (.builtin "BaseException.__getattribute__")) ∧
  PySem.W.findIn K (.ref (C_NothingToUndo K)) "__getattr__" = some none ∧
  PySem.W.findIn K (.ref (C_NothingToUndo K)) "__class__" = some (some (.builtin "object.__class__")) ∧
  PySem.W.mroIn K (C_NothingToUndo K) (.type "object") = some true ∧
  PySem.W.excInitIn K (C_InUse K) [.type "LookupError", .type "Exception", .type "BaseException", .type "object"] "LookupError.__new__" = true ∧
  PySem.W.excOver K (C_InUse K) [.type "LookupError", .type "Exception", .type "BaseException", .type "object"] = true ∧
  PySem.W.hasDictIn K (C_InUse K) = true ∧
  PySem.W.findIn K (.ref (C_InUse K)) "__setattr__" = some (some (.builtin "object.__setattr__")) ∧
  PySem.W.subIn K (.ref (C_InUse K)) (.type "BaseException") = some true ∧
  PySem.W.typeIn K (.ref (C_InUse K)) = some (.type "type")
abbrev FA11 (K : PySem.W.Frag) : Prop :=
  PySem.W.keepIn K (.ref (C_InUse K)) = true ∧
  PySem.W.findIn K (.ref (C_InUse K)) "__getattribute__" = some (some (.builtin "BaseException.__getattribute__")) ∧
  PySem.W.findIn K (.ref (C_InUse K)) "__getattr__" = some none ∧
  PySem.W.findIn K (.ref (C_InUse K)) "__class__" = some (some (.builtin "object.__class__")) ∧
  PySem.W.mroIn K (C_InUse K) (.type "object") = some true ∧
  PySem.W.findIn K (.ref (C_InUse K)) "index" = some none ∧
  PySem.W.findIn K (.ref (C_InUse K)) "__init__" = some (some (.ref (fi_InUse K))) ∧
  PySem.W.typeIn K (.ref (fi_InUse K)) = some (.type "function") ∧
  PySem.W.takerIn K (C_InUse K) "index" = some none ∧
  PySem.W.excInitIn K (C_UnknownName K) [.type "LookupError", .type "Exception", .type "BaseException", .type "object"] "LookupError.__new__" = true
abbrev FA12 (K : PySem.W.Frag) : Prop :=
  PySem.W.excOver K (C_UnknownName K) [.type "LookupError", .type "Exception", .type "BaseException", .type "object"] = true ∧
  PySem.W.hasDictIn K (C_UnknownName K) = true ∧
  PySem.W.findIn K (.ref (C_UnknownName K)) "__setattr__" = some (some (.builtin "object.__setattr__")) ∧
  PySem.W.subIn K (.ref (C_UnknownName K)) (.type "BaseException") = some true ∧
  PySem.W.typeIn K (.ref (C_UnknownName K)) = some (.type "type") ∧
  PySem.W.keepIn K (.ref (C_UnknownName K)) = true ∧
  PySem.W.findIn K (.ref (C_UnknownName K)) "__getattribute__" = some (some (.builtin "BaseException.__getattribute__")) ∧
  PySem.W.findIn K (.ref (C_UnknownName K)) "__getattr__" = some none ∧
  PySem.W.findIn K (.ref (C_UnknownName K)) "__class__" = some (some (.builtin "object.__class__")) ∧
  PySem.W.mroIn K (C_UnknownName K) (.type "object") = some true
abbrev FA13 (K : PySem.W.Frag) : Prop :=
  PySem.W.findIn K (.ref (C_UnknownName K)) "given" = some none ∧
  PySem.W.findIn K (.ref (C_UnknownName K)) "__init__" = some (some (.ref (fi_UnknownName K))) ∧
  PySem.W.typeIn K (.ref (fi_UnknownName K)) = some (.type "function") ∧
  PySem.W.takerIn K (C_UnknownName K) "given" = some none ∧
  PySem.W.excInitIn K (C_InvalidOffers K) [.type "ValueError", .type "Exception", .type "BaseException", .type "object"] "ValueError.__new__" = true ∧
  PySem.W.excOver K (C_InvalidOffers K) [.type "ValueError", .type "Exception", .type "BaseException", .type "object"] = true ∧
  PySem.W.hasDictIn K (C_InvalidOffers K) = true ∧
  PySem.W.findIn K (.ref (C_InvalidOffers K)) "__setattr__" = some (some (.builtin "object.__setattr__")) ∧
  PySem.W.subIn K (.ref (C_InvalidOffers K)) (.type "BaseException") = some true ∧
  PySem.W.typeIn K (.ref (C_InvalidOffers K)) = some (.type "type")
abbrev FA14 (K : PySem.W.Frag) : Prop :=
  PySem.W.keepIn K (.ref (C_InvalidOffers K)) = true ∧
  PySem.W.findIn K (.ref (C_InvalidOffers K)) "__getattribute__" = some (some (.builtin "BaseException.__getattribute__")) ∧
  PySem.W.findIn K (.ref (C_InvalidOffers K)) "__getattr__" = some none ∧
  PySem.W.findIn K (.ref (C_InvalidOffers K)) "__class__" = some (some (.builtin "object.__class__")) ∧
  PySem.W.mroIn K (C_InvalidOffers K) (.type "object") = some true ∧
  PySem.W.findIn K (.ref (C_InvalidOffers K)) "index" = some none ∧
  PySem.W.findIn K (.ref (C_InvalidOffers K)) "__init__" = some (some (.ref (fi_InvalidOffers K))) ∧
  PySem.W.typeIn K (.ref (fi_InvalidOffers K)) = some (.type "function") ∧
  PySem.W.takerIn K (C_InvalidOffers K) "index" = some none ∧
  PySem.W.excInitIn K (C_InvalidHeights K) [.type "ValueError", .type "Exception", .type "BaseException", .type "object"] "ValueError.__new__" = true
abbrev FA15 (K : PySem.W.Frag) : Prop :=
  PySem.W.excOver K (C_InvalidHeights K) [.type "ValueError", .type "Exception", .type "BaseException", .type "object"] = true ∧
  PySem.W.hasDictIn K (C_InvalidHeights K) = true ∧
  PySem.W.findIn K (.ref (C_InvalidHeights K)) "__setattr__" = some (some (.builtin "object.__setattr__")) ∧
  PySem.W.subIn K (.ref (C_InvalidHeights K)) (.type "BaseException") = some true ∧
  PySem.W.typeIn K (.ref (C_InvalidHeights K)) = some (.type "type") ∧
  PySem.W.keepIn K (.ref (C_InvalidHeights K)) = true ∧
  PySem.W.findIn K (.ref (C_InvalidHeights K)) "__getattribute__" = some (some (.builtin "BaseException.__getattribute__")) ∧
  PySem.W.findIn K (.ref (C_InvalidHeights K)) "__getattr__" = some none ∧
  PySem.W.findIn K (.ref (C_InvalidHeights K)) "__class__" = some (some (.builtin "object.__class__")) ∧
  PySem.W.mroIn K (C_InvalidHeights K) (.type "object") = some true
abbrev FA16 (K : PySem.W.Frag) : Prop :=
  PySem.W.findIn K (.ref (C_InvalidHeights K)) "index" = some none ∧
  PySem.W.findIn K (.ref (C_InvalidHeights K)) "__init__" = some (some (.ref (fi_InvalidHeights K))) ∧
  PySem.W.typeIn K (.ref (fi_InvalidHeights K)) = some (.type "function") ∧
  PySem.W.takerIn K (C_InvalidHeights K) "index" = some none ∧
  PySem.W.excInitIn K (C_InvalidPlaces K) [.type "ValueError", .type "Exception", .type "BaseException", .type "object"] "ValueError.__new__" = true ∧
  PySem.W.excOver K (C_InvalidPlaces K) [.type "ValueError", .type "Exception", .type "BaseException", .type "object"] = true ∧
  PySem.W.hasDictIn K (C_InvalidPlaces K) = true ∧
  PySem.W.findIn K (.ref (C_InvalidPlaces K)) "__setattr__" = some (some (.builtin "object.__setattr__")) ∧
  PySem.W.subIn K (.ref (C_InvalidPlaces K)) (.type "BaseException") = some true ∧
  PySem.W.typeIn K (.ref (C_InvalidPlaces K)) = some (.type "type")
abbrev FA17 (K : PySem.W.Frag) : Prop :=
  PySem.W.keepIn K (.ref (C_InvalidPlaces K)) = true ∧
  PySem.W.findIn K (.ref (C_InvalidPlaces K)) "__getattribute__" = some (some (.builtin "BaseException.__getattribute__")) ∧
  PySem.W.findIn K (.ref (C_InvalidPlaces K)) "__getattr__" = some none ∧
  PySem.W.findIn K (.ref (C_InvalidPlaces K)) "__class__" = some (some (.builtin "object.__class__")) ∧
  PySem.W.mroIn K (C_InvalidPlaces K) (.type "object") = some true ∧
  PySem.W.findIn K (.ref (C_InvalidPlaces K)) "index" = some none ∧
  PySem.W.findIn K (.ref (C_InvalidPlaces K)) "__init__" = some (some (.ref (fi_InvalidPlaces K))) ∧
  PySem.W.typeIn K (.ref (fi_InvalidPlaces K)) = some (.type "function") ∧
  PySem.W.takerIn K (C_InvalidPlaces K) "index" = some none ∧
  PySem.W.excInitIn K (C_InvalidAmounts K) [.type "ValueError", .type "Exception", .type "BaseException", .type "object"] "ValueError.__new__" = true
abbrev FA18 (K : PySem.W.Frag) : Prop :=
  PySem.W.excOver K (C_InvalidAmounts K) [.type "ValueError", .type "Exception", .type "BaseException", .type "object"] = true ∧
  PySem.W.hasDictIn K (C_InvalidAmounts K) = true ∧
  PySem.W.findIn K (.ref (C_InvalidAmounts K)) "__setattr__" = some (some (.builtin "object.__setattr__")) ∧
  PySem.W.subIn K (.ref (C_InvalidAmounts K)) (.type "BaseException") = some true ∧
  PySem.W.typeIn K (.ref (C_InvalidAmounts K)) = some (.type "type") ∧
  PySem.W.keepIn K (.ref (C_InvalidAmounts K)) = true ∧
  PySem.W.findIn K (.ref (C_InvalidAmounts K)) "__getattribute__" = some (some (.builtin "BaseException.__getattribute__")) ∧
  PySem.W.findIn K (.ref (C_InvalidAmounts K)) "__getattr__" = some none ∧
  PySem.W.findIn K (.ref (C_InvalidAmounts K)) "__class__" = some (some (.builtin "object.__class__")) ∧
  PySem.W.mroIn K (C_InvalidAmounts K) (.type "object") = some true
abbrev FA19 (K : PySem.W.Frag) : Prop :=
  PySem.W.findIn K (.ref (C_InvalidAmounts K)) "index" = some none ∧
  PySem.W.findIn K (.ref (C_InvalidAmounts K)) "__init__" = some (some (.ref (fi_InvalidAmounts K))) ∧
  PySem.W.typeIn K (.ref (fi_InvalidAmounts K)) = some (.type "function") ∧
  PySem.W.takerIn K (C_InvalidAmounts K) "index" = some none ∧
  PySem.W.excInitIn K (C_InvalidKnots K) [.type "ValueError", .type "Exception", .type "BaseException", .type "object"] "ValueError.__new__" = true ∧
  PySem.W.excOver K (C_InvalidKnots K) [.type "ValueError", .type "Exception", .type "BaseException", .type "object"] = true ∧
  PySem.W.hasDictIn K (C_InvalidKnots K) = true ∧
  PySem.W.findIn K (.ref (C_InvalidKnots K)) "__setattr__" = some (some (.builtin "object.__setattr__")) ∧
  PySem.W.subIn K (.ref (C_InvalidKnots K)) (.type "BaseException") = some true ∧
  PySem.W.typeIn K (.ref (C_InvalidKnots K)) = some (.type "type")
abbrev FA20 (K : PySem.W.Frag) : Prop :=
  PySem.W.keepIn K (.ref (C_InvalidKnots K)) = true ∧
  PySem.W.findIn K (.ref (C_InvalidKnots K)) "__getattribute__" = some (some (.builtin "BaseException.__getattribute__")) ∧
  PySem.W.findIn K (.ref (C_InvalidKnots K)) "__getattr__" = some none ∧
  PySem.W.findIn K (.ref (C_InvalidKnots K)) "__class__" = some (some (.builtin "object.__class__")) ∧
  PySem.W.mroIn K (C_InvalidKnots K) (.type "object") = some true ∧
  PySem.W.findIn K (.ref (C_InvalidKnots K)) "index" = some none ∧
  PySem.W.findIn K (.ref (C_InvalidKnots K)) "__init__" = some (some (.ref (fi_InvalidKnots K))) ∧
  PySem.W.typeIn K (.ref (fi_InvalidKnots K)) = some (.type "function") ∧
  PySem.W.takerIn K (C_InvalidKnots K) "index" = some none ∧
  PySem.W.excInitIn K (C_NotACurve K) [.type "ValueError", .type "Exception", .type "BaseException", .type "object"] "ValueError.__new__" = true
abbrev FA21 (K : PySem.W.Frag) : Prop :=
  PySem.W.excOver K (C_NotACurve K) [.type "ValueError", .type "Exception", .type "BaseException", .type "object"] = true ∧
  PySem.W.hasDictIn K (C_NotACurve K) = true ∧
  PySem.W.findIn K (.ref (C_NotACurve K)) "__setattr__" = some (some (.builtin "object.__setattr__")) ∧
  PySem.W.subIn K (.ref (C_NotACurve K)) (.type "BaseException") = some true ∧
  PySem.W.typeIn K (.ref (C_NotACurve K)) = some (.type "type") ∧
  PySem.W.keepIn K (.ref (C_NotACurve K)) = true ∧
  PySem.W.findIn K (.ref (C_NotACurve K)) "__getattribute__" = some (some (.builtin "BaseException.__getattribute__")) ∧
  PySem.W.findIn K (.ref (C_NotACurve K)) "__getattr__" = some none ∧
  PySem.W.findIn K (.ref (C_NotACurve K)) "__class__" = some (some (.builtin "object.__class__")) ∧
  PySem.W.mroIn K (C_NotACurve K) (.type "object") = some true
abbrev FA22 (K : PySem.W.Frag) : Prop :=
  PySem.W.findIn K (.ref (C_NotACurve K)) "given" = some none ∧
  PySem.W.findIn K (.ref (C_NotACurve K)) "__init__" = some (some (.ref (fi_NotACurve K))) ∧
  PySem.W.typeIn K (.ref (fi_NotACurve K)) = some (.type "function") ∧
  PySem.W.takerIn K (C_NotACurve K) "given" = some none ∧
  PySem.W.excInitIn K (C_NotAFrame K) [.type "ValueError", .type "Exception", .type "BaseException", .type "object"] "ValueError.__new__" = true ∧
  PySem.W.excOver K (C_NotAFrame K) [.type "ValueError", .type "Exception", .type "BaseException", .type "object"] = true ∧
  PySem.W.hasDictIn K (C_NotAFrame K) = true ∧
  PySem.W.findIn K (.ref (C_NotAFrame K)) "__setattr__" = some (some (.builtin "object.__setattr__")) ∧
  PySem.W.subIn K (.ref (C_NotAFrame K)) (.type "BaseException") = some true ∧
  PySem.W.typeIn K (.ref (C_NotAFrame K)) = some (.type "type")
abbrev FA23 (K : PySem.W.Frag) : Prop :=
  PySem.W.keepIn K (.ref (C_NotAFrame K)) = true ∧
  PySem.W.findIn K (.ref (C_NotAFrame K)) "__getattribute__" = some (some (.builtin "BaseException.__getattribute__")) ∧
  PySem.W.findIn K (.ref (C_NotAFrame K)) "__getattr__" = some none ∧
  PySem.W.findIn K (.ref (C_NotAFrame K)) "__class__" = some (some (.builtin "object.__class__")) ∧
  PySem.W.mroIn K (C_NotAFrame K) (.type "object") = some true ∧
  PySem.W.findIn K (.ref (C_NotAFrame K)) "given" = some none ∧
  PySem.W.findIn K (.ref (C_NotAFrame K)) "__init__" = some (some (.ref (fi_NotAFrame K))) ∧
  PySem.W.typeIn K (.ref (fi_NotAFrame K)) = some (.type "function") ∧
  PySem.W.takerIn K (C_NotAFrame K) "given" = some none ∧
  PySem.W.excInitIn K (C_InvalidCommand K) [.type "ValueError", .type "Exception", .type "BaseException", .type "object"] "ValueError.__new__" = true
abbrev FA24 (K : PySem.W.Frag) : Prop :=
  PySem.W.excOver K (C_InvalidCommand K) [.type "ValueError", .type "Exception", .type "BaseException", .type "object"] = true ∧
  PySem.W.hasDictIn K (C_InvalidCommand K) = true ∧
  PySem.W.findIn K (.ref (C_InvalidCommand K)) "__setattr__" = some (some (.builtin "object.__setattr__")) ∧
  PySem.W.subIn K (.ref (C_InvalidCommand K)) (.type "BaseException") = some true ∧
  PySem.W.typeIn K (.ref (C_InvalidCommand K)) = some (.type "type") ∧
  PySem.W.keepIn K (.ref (C_InvalidCommand K)) = true ∧
  PySem.W.findIn K (.ref (C_InvalidCommand K)) "__getattribute__" = some (some (.builtin "BaseException.__getattribute__")) ∧
  PySem.W.findIn K (.ref (C_InvalidCommand K)) "__getattr__" = some none ∧
  PySem.W.findIn K (.ref (C_InvalidCommand K)) "__class__" = some (some (.builtin "object.__class__")) ∧
  PySem.W.mroIn K (C_InvalidCommand K) (.type "object") = some true
abbrev FA25 (K : PySem.W.Frag) : Prop :=
  PySem.W.findIn K (.ref (C_InvalidCommand K)) "given" = some none ∧
  PySem.W.findIn K (.ref (C_InvalidCommand K)) "__init__" = some (some (.ref (fi_InvalidCommand K))) ∧
  PySem.W.typeIn K (.ref (fi_InvalidCommand K)) = some (.type "function") ∧
  PySem.W.takerIn K (C_InvalidCommand K) "given" = some none ∧
  PySem.W.excInitIn K (C_InvalidClaim K) [.type "ValueError", .type "Exception", .type "BaseException", .type "object"] "ValueError.__new__" = true ∧
  PySem.W.excOver K (C_InvalidClaim K) [.type "ValueError", .type "Exception", .type "BaseException", .type "object"] = true ∧
  PySem.W.hasDictIn K (C_InvalidClaim K) = true ∧
  PySem.W.findIn K (.ref (C_InvalidClaim K)) "__setattr__" = some (some (.builtin "object.__setattr__")) ∧
  PySem.W.subIn K (.ref (C_InvalidClaim K)) (.type "BaseException") = some true ∧
  PySem.W.typeIn K (.ref (C_InvalidClaim K)) = some (.type "type")
abbrev FA26 (K : PySem.W.Frag) : Prop :=
  PySem.W.keepIn K (.ref (C_InvalidClaim K)) = true ∧
  PySem.W.findIn K (.ref (C_InvalidClaim K)) "__getattribute__" = some (some (.builtin "BaseException.__getattribute__")) ∧
  PySem.W.findIn K (.ref (C_InvalidClaim K)) "__getattr__" = some none ∧
  PySem.W.findIn K (.ref (C_InvalidClaim K)) "__class__" = some (some (.builtin "object.__class__")) ∧
  PySem.W.mroIn K (C_InvalidClaim K) (.type "object") = some true ∧
  PySem.W.findIn K (.ref (C_InvalidClaim K)) "given" = some none ∧
  PySem.W.findIn K (.ref (C_InvalidClaim K)) "__init__" = some (some (.ref (fi_InvalidClaim K))) ∧
  PySem.W.typeIn K (.ref (fi_InvalidClaim K)) = some (.type "function") ∧
  PySem.W.takerIn K (C_InvalidClaim K) "given" = some none ∧
  PySem.W.excInitIn K (C_InvalidKnot K) [.type "ValueError", .type "Exception", .type "BaseException", .type "object"] "ValueError.__new__" = true
abbrev FA27 (K : PySem.W.Frag) : Prop :=
  PySem.W.excOver K (C_InvalidKnot K) [.type "ValueError", .type "Exception", .type "BaseException", .type "object"] = true ∧
  PySem.W.hasDictIn K (C_InvalidKnot K) = true ∧
  PySem.W.findIn K (.ref (C_InvalidKnot K)) "__setattr__" = some (some (.builtin "object.__setattr__")) ∧
  PySem.W.subIn K (.ref (C_InvalidKnot K)) (.type "BaseException") = some true ∧
  PySem.W.typeIn K (.ref (C_InvalidKnot K)) = some (.type "type") ∧
  PySem.W.keepIn K (.ref (C_InvalidKnot K)) = true ∧
  PySem.W.findIn K (.ref (C_InvalidKnot K)) "__getattribute__" = some (some (.builtin "BaseException.__getattribute__")) ∧
  PySem.W.findIn K (.ref (C_InvalidKnot K)) "__getattr__" = some none ∧
  PySem.W.findIn K (.ref (C_InvalidKnot K)) "__class__" = some (some (.builtin "object.__class__")) ∧
  PySem.W.mroIn K (C_InvalidKnot K) (.type "object") = some true
abbrev FA28 (K : PySem.W.Frag) : Prop :=
  PySem.W.findIn K (.ref (C_InvalidKnot K)) "given" = some none ∧
  PySem.W.findIn K (.ref (C_InvalidKnot K)) "__init__" = some (some (.ref (fi_InvalidKnot K))) ∧
  PySem.W.typeIn K (.ref (fi_InvalidKnot K)) = some (.type "function") ∧
  PySem.W.takerIn K (C_InvalidKnot K) "given" = some none ∧
  PySem.W.excInitIn K (C_InvalidDegree K) [.type "ValueError", .type "Exception", .type "BaseException", .type "object"] "ValueError.__new__" = true ∧
  PySem.W.excOver K (C_InvalidDegree K) [.type "ValueError", .type "Exception", .type "BaseException", .type "object"] = true ∧
  PySem.W.hasDictIn K (C_InvalidDegree K) = true ∧
  PySem.W.findIn K (.ref (C_InvalidDegree K)) "__setattr__" = some (some (.builtin "object.__setattr__")) ∧
  PySem.W.subIn K (.ref (C_InvalidDegree K)) (.type "BaseException") = some true ∧
  PySem.W.typeIn K (.ref (C_InvalidDegree K)) = some (.type "type")
abbrev FA29 (K : PySem.W.Frag) : Prop :=
  PySem.W.keepIn K (.ref (C_InvalidDegree K)) = true ∧
  PySem.W.findIn K (.ref (C_InvalidDegree K)) "__getattribute__" = some (some (.builtin "BaseException.__getattribute__")) ∧
  PySem.W.findIn K (.ref (C_InvalidDegree K)) "__getattr__" = some none ∧
  PySem.W.findIn K (.ref (C_InvalidDegree K)) "__class__" = some (some (.builtin "object.__class__")) ∧
  PySem.W.mroIn K (C_InvalidDegree K) (.type "object") = some true ∧
  PySem.W.findIn K (.ref (C_InvalidDegree K)) "given" = some none ∧
  PySem.W.findIn K (.ref (C_InvalidDegree K)) "__init__" = some (some (.ref (fi_InvalidDegree K))) ∧
  PySem.W.typeIn K (.ref (fi_InvalidDegree K)) = some (.type "function") ∧
  PySem.W.takerIn K (C_InvalidDegree K) "given" = some none ∧
  PySem.W.excInitIn K (C_InvalidIndex K) [.type "ValueError", .type "Exception", .type "BaseException", .type "object"] "ValueError.__new__" = true
abbrev FA30 (K : PySem.W.Frag) : Prop :=
  PySem.W.excOver K (C_InvalidIndex K) [.type "ValueError", .type "Exception", .type "BaseException", .type "object"] = true ∧
  PySem.W.hasDictIn K (C_InvalidIndex K) = true ∧
  PySem.W.findIn K (.ref (C_InvalidIndex K)) "__setattr__" = some (some (.builtin "object.__setattr__")) ∧
  PySem.W.subIn K (.ref (C_InvalidIndex K)) (.type "BaseException") = some true ∧
  PySem.W.typeIn K (.ref (C_InvalidIndex K)) = some (.type "type") ∧
  PySem.W.keepIn K (.ref (C_InvalidIndex K)) = true ∧
  PySem.W.findIn K (.ref (C_InvalidIndex K)) "__getattribute__" = some (some (.builtin "BaseException.__getattribute__")) ∧
  PySem.W.findIn K (.ref (C_InvalidIndex K)) "__getattr__" = some none ∧
  PySem.W.findIn K (.ref (C_InvalidIndex K)) "__class__" = some (some (.builtin "object.__class__")) ∧
  PySem.W.mroIn K (C_InvalidIndex K) (.type "object") = some true
abbrev FA31 (K : PySem.W.Frag) : Prop :=
  PySem.W.findIn K (.ref (C_InvalidIndex K)) "given" = some none ∧
  PySem.W.findIn K (.ref (C_InvalidIndex K)) "__init__" = some (some (.ref (fi_InvalidIndex K))) ∧
  PySem.W.typeIn K (.ref (fi_InvalidIndex K)) = some (.type "function") ∧
  PySem.W.takerIn K (C_InvalidIndex K) "given" = some none ∧
  PySem.W.excInitIn K (C_InvalidName K) [.type "ValueError", .type "Exception", .type "BaseException", .type "object"] "ValueError.__new__" = true ∧
  PySem.W.excOver K (C_InvalidName K) [.type "ValueError", .type "Exception", .type "BaseException", .type "object"] = true ∧
  PySem.W.hasDictIn K (C_InvalidName K) = true ∧
  PySem.W.findIn K (.ref (C_InvalidName K)) "__setattr__" = some (some (.builtin "object.__setattr__")) ∧
  PySem.W.subIn K (.ref (C_InvalidName K)) (.type "BaseException") = some true ∧
  PySem.W.typeIn K (.ref (C_InvalidName K)) = some (.type "type")
abbrev FA32 (K : PySem.W.Frag) : Prop :=
  PySem.W.keepIn K (.ref (C_InvalidName K)) = true ∧
  PySem.W.findIn K (.ref (C_InvalidName K)) "__getattribute__" = some (some (.builtin "BaseException.__getattribute__")) ∧
  PySem.W.findIn K (.ref (C_InvalidName K)) "__getattr__" = some none ∧
  PySem.W.findIn K (.ref (C_InvalidName K)) "__class__" = some (some (.builtin "object.__class__")) ∧
  PySem.W.mroIn K (C_InvalidName K) (.type "object") = some true ∧
  PySem.W.findIn K (.ref (C_InvalidName K)) "given" = some none ∧
  PySem.W.findIn K (.ref (C_InvalidName K)) "__init__" = some (some (.ref (fi_InvalidName K))) ∧
  PySem.W.typeIn K (.ref (fi_InvalidName K)) = some (.type "function") ∧
  PySem.W.takerIn K (C_InvalidName K) "given" = some none ∧
  PySem.W.excInitIn K (C_InvalidNumber K) [.type "ValueError", .type "Exception", .type "BaseException", .type "object"] "ValueError.__new__" = true
abbrev FA33 (K : PySem.W.Frag) : Prop :=
  PySem.W.excOver K (C_InvalidNumber K) [.type "ValueError", .type "Exception", .type "BaseException", .type "object"] = true ∧
  PySem.W.hasDictIn K (C_InvalidNumber K) = true ∧
  PySem.W.findIn K (.ref (C_InvalidNumber K)) "__setattr__" = some (some (.builtin "object.__setattr__")) ∧
  PySem.W.subIn K (.ref (C_InvalidNumber K)) (.type "BaseException") = some true ∧
  PySem.W.typeIn K (.ref (C_InvalidNumber K)) = some (.type "type") ∧
  PySem.W.keepIn K (.ref (C_InvalidNumber K)) = true ∧
  PySem.W.findIn K (.ref (C_InvalidNumber K)) "__getattribute__" = some (some (.builtin "BaseException.__getattribute__")) ∧
  PySem.W.findIn K (.ref (C_InvalidNumber K)) "__getattr__" = some none ∧
  PySem.W.findIn K (.ref (C_InvalidNumber K)) "__class__" = some (some (.builtin "object.__class__")) ∧
  PySem.W.mroIn K (C_InvalidNumber K) (.type "object") = some true
abbrev FA34 (K : PySem.W.Frag) : Prop :=
  PySem.W.findIn K (.ref (C_InvalidNumber K)) "given" = some none ∧
  PySem.W.findIn K (.ref (C_InvalidNumber K)) "__init__" = some (some (.ref (fi_InvalidNumber K))) ∧
  PySem.W.typeIn K (.ref (fi_InvalidNumber K)) = some (.type "function") ∧
  PySem.W.takerIn K (C_InvalidNumber K) "given" = some none ∧
  PySem.W.excInitIn K (C_InvalidText K) [.type "ValueError", .type "Exception", .type "BaseException", .type "object"] "ValueError.__new__" = true ∧
  PySem.W.excOver K (C_InvalidText K) [.type "ValueError", .type "Exception", .type "BaseException", .type "object"] = true ∧
  PySem.W.hasDictIn K (C_InvalidText K) = true ∧
  PySem.W.findIn K (.ref (C_InvalidText K)) "__setattr__" = some (some (.builtin "object.__setattr__")) ∧
  PySem.W.subIn K (.ref (C_InvalidText K)) (.type "BaseException") = some true ∧
  PySem.W.typeIn K (.ref (C_InvalidText K)) = some (.type "type")
abbrev FA35 (K : PySem.W.Frag) : Prop :=
  PySem.W.keepIn K (.ref (C_InvalidText K)) = true ∧
  PySem.W.findIn K (.ref (C_InvalidText K)) "__getattribute__" = some (some (.builtin "BaseException.__getattribute__")) ∧
  PySem.W.findIn K (.ref (C_InvalidText K)) "__getattr__" = some none ∧
  PySem.W.findIn K (.ref (C_InvalidText K)) "__class__" = some (some (.builtin "object.__class__")) ∧
  PySem.W.mroIn K (C_InvalidText K) (.type "object") = some true ∧
  PySem.W.findIn K (.ref (C_InvalidText K)) "given" = some none ∧
  PySem.W.findIn K (.ref (C_InvalidText K)) "__init__" = some (some (.ref (fi_InvalidText K))) ∧
  PySem.W.typeIn K (.ref (fi_InvalidText K)) = some (.type "function") ∧
  PySem.W.takerIn K (C_InvalidText K) "given" = some none ∧
  PySem.W.kitOne K (.ref (C_Broken K)) (.ref (C_NotRight K)) = some false
abbrev FA36 (K : PySem.W.Frag) : Prop :=
  PySem.W.kitOne K (.ref (C_Broken K)) (.ref (C_InvalidText K)) = some false ∧
  PySem.W.kitOne K (.ref (C_Broken K)) (.ref (C_InvalidNumber K)) = some false ∧
  PySem.W.kitOne K (.ref (C_Broken K)) (.ref (C_InvalidName K)) = some false ∧
  PySem.W.kitOne K (.ref (C_Broken K)) (.ref (C_InvalidIndex K)) = some false ∧
  PySem.W.kitOne K (.ref (C_Broken K)) (.ref (C_InvalidDegree K)) = some false ∧
  PySem.W.kitOne K (.ref (C_Broken K)) (.ref (C_InvalidKnot K)) = some false ∧
  PySem.W.kitOne K (.ref (C_Broken K)) (.ref (C_InvalidClaim K)) = some false ∧
  PySem.W.kitOne K (.ref (C_Broken K)) (.ref (C_InvalidCommand K)) = some false ∧
  PySem.W.kitOne K (.ref (C_Broken K)) (.ref (C_NotAFrame K)) = some false ∧
  PySem.W.kitOne K (.ref (C_Broken K)) (.ref (C_NotACurve K)) = some false
abbrev FA37 (K : PySem.W.Frag) : Prop :=
  PySem.W.kitOne K (.ref (C_Broken K)) (.ref (C_InvalidKnots K)) = some false ∧
  PySem.W.kitOne K (.ref (C_Broken K)) (.ref (C_InvalidAmounts K)) = some false ∧
  PySem.W.kitOne K (.ref (C_Broken K)) (.ref (C_InvalidPlaces K)) = some false ∧
  PySem.W.kitOne K (.ref (C_Broken K)) (.ref (C_InvalidHeights K)) = some false ∧
  PySem.W.kitOne K (.ref (C_Broken K)) (.ref (C_InvalidOffers K)) = some false ∧
  PySem.W.kitOne K (.ref (C_Broken K)) (.ref (C_NotKnown K)) = some false ∧
  PySem.W.kitOne K (.ref (C_Broken K)) (.ref (C_UnknownName K)) = some false ∧
  PySem.W.kitOne K (.ref (C_Broken K)) (.ref (C_InUse K)) = some false ∧
  PySem.W.kitOne K (.ref (C_Broken K)) (.ref (C_NothingToUndo K)) = some false ∧
  PySem.W.kitOne K (.ref (C_Broken K)) (.ref (C_NotPossible K)) = some true
abbrev FA38 (K : PySem.W.Frag) : Prop :=
  PySem.W.kitOne K (.ref (C_Broken K)) (.ref (C_TooMany K)) = some false ∧
  PySem.W.kitOne K (.ref (C_Broken K)) (.ref (C_NotOne K)) = some false ∧
  PySem.W.kitOne K (.ref (C_Broken K)) (.ref (C_Broken K)) = some true ∧
  PySem.W.kitOne K (.ref (C_NotOne K)) (.ref (C_NotRight K)) = some false ∧
  PySem.W.kitOne K (.ref (C_NotOne K)) (.ref (C_InvalidText K)) = some false ∧
  PySem.W.kitOne K (.ref (C_NotOne K)) (.ref (C_InvalidNumber K)) = some false ∧
  PySem.W.kitOne K (.ref (C_NotOne K)) (.ref (C_InvalidName K)) = some false ∧
  PySem.W.kitOne K (.ref (C_NotOne K)) (.ref (C_InvalidIndex K)) = some false ∧
  PySem.W.kitOne K (.ref (C_NotOne K)) (.ref (C_InvalidDegree K)) = some false ∧
  PySem.W.kitOne K (.ref (C_NotOne K)) (.ref (C_InvalidKnot K)) = some false
abbrev FA39 (K : PySem.W.Frag) : Prop :=
  PySem.W.kitOne K (.ref (C_NotOne K)) (.ref (C_InvalidClaim K)) = some false ∧
  PySem.W.kitOne K (.ref (C_NotOne K)) (.ref (C_InvalidCommand K)) = some false ∧
  PySem.W.kitOne K (.ref (C_NotOne K)) (.ref (C_NotAFrame K)) = some false ∧
  PySem.W.kitOne K (.ref (C_NotOne K)) (.ref (C_NotACurve K)) = some false ∧
  PySem.W.kitOne K (.ref (C_NotOne K)) (.ref (C_InvalidKnots K)) = some false ∧
  PySem.W.kitOne K (.ref (C_NotOne K)) (.ref (C_InvalidAmounts K)) = some false ∧
  PySem.W.kitOne K (.ref (C_NotOne K)) (.ref (C_InvalidPlaces K)) = some false ∧
  PySem.W.kitOne K (.ref (C_NotOne K)) (.ref (C_InvalidHeights K)) = some false ∧
  PySem.W.kitOne K (.ref (C_NotOne K)) (.ref (C_InvalidOffers K)) = some false ∧
  PySem.W.kitOne K (.ref (C_NotOne K)) (.ref (C_NotKnown K)) = some false
abbrev FA40 (K : PySem.W.Frag) : Prop :=
  PySem.W.kitOne K (.ref (C_NotOne K)) (.ref (C_UnknownName K)) = some false ∧
  PySem.W.kitOne K (.ref (C_NotOne K)) (.ref (C_InUse K)) = some false ∧
  PySem.W.kitOne K (.ref (C_NotOne K)) (.ref (C_NothingToUndo K)) = some false ∧
  PySem.W.kitOne K (.ref (C_NotOne K)) (.ref (C_NotPossible K)) = some true ∧
  PySem.W.kitOne K (.ref (C_NotOne K)) (.ref (C_TooMany K)) = some false ∧
  PySem.W.kitOne K (.ref (C_NotOne K)) (.ref (C_NotOne K)) = some true ∧
  PySem.W.kitOne K (.ref (C_NotOne K)) (.ref (C_Broken K)) = some false ∧
  PySem.W.kitOne K (.ref (C_TooMany K)) (.ref (C_NotRight K)) = some false ∧
  PySem.W.kitOne K (.ref (C_TooMany K)) (.ref (C_InvalidText K)) = some false ∧
  PySem.W.kitOne K (.ref (C_TooMany K)) (.ref (C_InvalidNumber K)) = some false
abbrev FA41 (K : PySem.W.Frag) : Prop :=
  PySem.W.kitOne K (.ref (C_TooMany K)) (.ref (C_InvalidName K)) = some false ∧
  PySem.W.kitOne K (.ref (C_TooMany K)) (.ref (C_InvalidIndex K)) = some false ∧
  PySem.W.kitOne K (.ref (C_TooMany K)) (.ref (C_InvalidDegree K)) = some false ∧
  PySem.W.kitOne K (.ref (C_TooMany K)) (.ref (C_InvalidKnot K)) = some false ∧
  PySem.W.kitOne K (.ref (C_TooMany K)) (.ref (C_InvalidClaim K)) = some false ∧
  PySem.W.kitOne K (.ref (C_TooMany K)) (.ref (C_InvalidCommand K)) = some false ∧
  PySem.W.kitOne K (.ref (C_TooMany K)) (.ref (C_NotAFrame K)) = some false ∧
  PySem.W.kitOne K (.ref (C_TooMany K)) (.ref (C_NotACurve K)) = some false ∧
  PySem.W.kitOne K (.ref (C_TooMany K)) (.ref (C_InvalidKnots K)) = some false ∧
  PySem.W.kitOne K (.ref (C_TooMany K)) (.ref (C_InvalidAmounts K)) = some false
abbrev FA42 (K : PySem.W.Frag) : Prop :=
  PySem.W.kitOne K (.ref (C_TooMany K)) (.ref (C_InvalidPlaces K)) = some false ∧
  PySem.W.kitOne K (.ref (C_TooMany K)) (.ref (C_InvalidHeights K)) = some false ∧
  PySem.W.kitOne K (.ref (C_TooMany K)) (.ref (C_InvalidOffers K)) = some false ∧
  PySem.W.kitOne K (.ref (C_TooMany K)) (.ref (C_NotKnown K)) = some false ∧
  PySem.W.kitOne K (.ref (C_TooMany K)) (.ref (C_UnknownName K)) = some false ∧
  PySem.W.kitOne K (.ref (C_TooMany K)) (.ref (C_InUse K)) = some false ∧
  PySem.W.kitOne K (.ref (C_TooMany K)) (.ref (C_NothingToUndo K)) = some false ∧
  PySem.W.kitOne K (.ref (C_TooMany K)) (.ref (C_NotPossible K)) = some true ∧
  PySem.W.kitOne K (.ref (C_TooMany K)) (.ref (C_TooMany K)) = some true ∧
  PySem.W.kitOne K (.ref (C_TooMany K)) (.ref (C_NotOne K)) = some false
abbrev FA43 (K : PySem.W.Frag) : Prop :=
  PySem.W.kitOne K (.ref (C_TooMany K)) (.ref (C_Broken K)) = some false ∧
  PySem.W.kitOne K (.ref (C_NothingToUndo K)) (.ref (C_NotRight K)) = some false ∧
  PySem.W.kitOne K (.ref (C_NothingToUndo K)) (.ref (C_InvalidText K)) = some false ∧
  PySem.W.kitOne K (.ref (C_NothingToUndo K)) (.ref (C_InvalidNumber K)) = some false ∧
  PySem.W.kitOne K (.ref (C_NothingToUndo K)) (.ref (C_InvalidName K)) = some false ∧
  PySem.W.kitOne K (.ref (C_NothingToUndo K)) (.ref (C_InvalidIndex K)) = some false ∧
  PySem.W.kitOne K (.ref (C_NothingToUndo K)) (.ref (C_InvalidDegree K)) = some false ∧
  PySem.W.kitOne K (.ref (C_NothingToUndo K)) (.ref (C_InvalidKnot K)) = some false ∧
  PySem.W.kitOne K (.ref (C_NothingToUndo K)) (.ref (C_InvalidClaim K)) = some false ∧
  PySem.W.kitOne K (.ref (C_NothingToUndo K)) (.ref (C_InvalidCommand K)) = some false
abbrev FA44 (K : PySem.W.Frag) : Prop :=
  PySem.W.kitOne K (.ref (C_NothingToUndo K)) (.ref (C_NotAFrame K)) = some false ∧
  PySem.W.kitOne K (.ref (C_NothingToUndo K)) (.ref (C_NotACurve K)) = some false ∧
  PySem.W.kitOne K (.ref (C_NothingToUndo K)) (.ref (C_InvalidKnots K)) = some false ∧
  PySem.W.kitOne K (.ref (C_NothingToUndo K)) (.ref (C_InvalidAmounts K)) = some false ∧
  PySem.W.kitOne K (.ref (C_NothingToUndo K)) (.ref (C_InvalidPlaces K)) = some false ∧
  PySem.W.kitOne K (.ref (C_NothingToUndo K)) (.ref (C_InvalidHeights K)) = some false ∧
  PySem.W.kitOne K (.ref (C_NothingToUndo K)) (.ref (C_InvalidOffers K)) = some false ∧
  PySem.W.kitOne K (.ref (C_NothingToUndo K)) (.ref (C_NotKnown K)) = some true ∧
  PySem.W.kitOne K (.ref (C_NothingToUndo K)) (.ref (C_UnknownName K)) = some false ∧
  PySem.W.kitOne K (.ref (C_NothingToUndo K)) (.ref (C_InUse K)) = some false
abbrev FA45 (K : PySem.W.Frag) : Prop :=
  PySem.W.kitOne K (.ref (C_NothingToUndo K)) (.ref (C_NothingToUndo K)) = some true ∧
  PySem.W.kitOne K (.ref (C_NothingToUndo K)) (.ref (C_NotPossible K)) = some false ∧
  PySem.W.kitOne K (.ref (C_NothingToUndo K)) (.ref (C_TooMany K)) = some false ∧
  PySem.W.kitOne K (.ref (C_NothingToUndo K)) (.ref (C_NotOne K)) = some false ∧
  PySem.W.kitOne K (.ref (C_NothingToUndo K)) (.ref (C_Broken K)) = some false ∧
  PySem.W.kitOne K (.ref (C_InUse K)) (.ref (C_NotRight K)) = some false ∧
  PySem.W.kitOne K (.ref (C_InUse K)) (.ref (C_InvalidText K)) = some false ∧
  PySem.W.kitOne K (.ref (C_InUse K)) (.ref (C_InvalidNumber K)) = some false ∧
  PySem.W.kitOne K (.ref (C_InUse K)) (.ref (C_InvalidName K)) = some false ∧
  PySem.W.kitOne K (.ref (C_InUse K)) (.ref (C_InvalidIndex K)) = some false
abbrev FA46 (K : PySem.W.Frag) : Prop :=
  PySem.W.kitOne K (.ref (C_InUse K)) (.ref (C_InvalidDegree K)) = some false ∧
  PySem.W.kitOne K (.ref (C_InUse K)) (.ref (C_InvalidKnot K)) = some false ∧
  PySem.W.kitOne K (.ref (C_InUse K)) (.ref (C_InvalidClaim K)) = some false ∧
  PySem.W.kitOne K (.ref (C_InUse K)) (.ref (C_InvalidCommand K)) = some false ∧
  PySem.W.kitOne K (.ref (C_InUse K)) (.ref (C_NotAFrame K)) = some false ∧
  PySem.W.kitOne K (.ref (C_InUse K)) (.ref (C_NotACurve K)) = some false ∧
  PySem.W.kitOne K (.ref (C_InUse K)) (.ref (C_InvalidKnots K)) = some false ∧
  PySem.W.kitOne K (.ref (C_InUse K)) (.ref (C_InvalidAmounts K)) = some false ∧
  PySem.W.kitOne K (.ref (C_InUse K)) (.ref (C_InvalidPlaces K)) = some false ∧
  PySem.W.kitOne K (.ref (C_InUse K)) (.ref (C_InvalidHeights K)) = some false
abbrev FA47 (K : PySem.W.Frag) : Prop :=
  PySem.W.kitOne K (.ref (C_InUse K)) (.ref (C_InvalidOffers K)) = some false ∧
  PySem.W.kitOne K (.ref (C_InUse K)) (.ref (C_NotKnown K)) = some true ∧
  PySem.W.kitOne K (.ref (C_InUse K)) (.ref (C_UnknownName K)) = some false ∧
  PySem.W.kitOne K (.ref (C_InUse K)) (.ref (C_InUse K)) = some true ∧
  PySem.W.kitOne K (.ref (C_InUse K)) (.ref (C_NothingToUndo K)) = some false ∧
  PySem.W.kitOne K (.ref (C_InUse K)) (.ref (C_NotPossible K)) = some false ∧
  PySem.W.kitOne K (.ref (C_InUse K)) (.ref (C_TooMany K)) = some false ∧
  PySem.W.kitOne K (.ref (C_InUse K)) (.ref (C_NotOne K)) = some false ∧
  PySem.W.kitOne K (.ref (C_InUse K)) (.ref (C_Broken K)) = some false ∧
  PySem.W.kitOne K (.ref (C_UnknownName K)) (.ref (C_NotRight K)) = some false
abbrev FA48 (K : PySem.W.Frag) : Prop :=
  PySem.W.kitOne K (.ref (C_UnknownName K)) (.ref (C_InvalidText K)) = some false ∧
  PySem.W.kitOne K (.ref (C_UnknownName K)) (.ref (C_InvalidNumber K)) = some false ∧
  PySem.W.kitOne K (.ref (C_UnknownName K)) (.ref (C_InvalidName K)) = some false ∧
  PySem.W.kitOne K (.ref (C_UnknownName K)) (.ref (C_InvalidIndex K)) = some false ∧
  PySem.W.kitOne K (.ref (C_UnknownName K)) (.ref (C_InvalidDegree K)) = some false ∧
  PySem.W.kitOne K (.ref (C_UnknownName K)) (.ref (C_InvalidKnot K)) = some false ∧
  PySem.W.kitOne K (.ref (C_UnknownName K)) (.ref (C_InvalidClaim K)) = some false ∧
  PySem.W.kitOne K (.ref (C_UnknownName K)) (.ref (C_InvalidCommand K)) = some false ∧
  PySem.W.kitOne K (.ref (C_UnknownName K)) (.ref (C_NotAFrame K)) = some false ∧
  PySem.W.kitOne K (.ref (C_UnknownName K)) (.ref (C_NotACurve K)) = some false
abbrev FA49 (K : PySem.W.Frag) : Prop :=
  PySem.W.kitOne K (.ref (C_UnknownName K)) (.ref (C_InvalidKnots K)) = some false ∧
  PySem.W.kitOne K (.ref (C_UnknownName K)) (.ref (C_InvalidAmounts K)) = some false ∧
  PySem.W.kitOne K (.ref (C_UnknownName K)) (.ref (C_InvalidPlaces K)) = some false ∧
  PySem.W.kitOne K (.ref (C_UnknownName K)) (.ref (C_InvalidHeights K)) = some false ∧
  PySem.W.kitOne K (.ref (C_UnknownName K)) (.ref (C_InvalidOffers K)) = some false ∧
  PySem.W.kitOne K (.ref (C_UnknownName K)) (.ref (C_NotKnown K)) = some true ∧
  PySem.W.kitOne K (.ref (C_UnknownName K)) (.ref (C_UnknownName K)) = some true ∧
  PySem.W.kitOne K (.ref (C_UnknownName K)) (.ref (C_InUse K)) = some false ∧
  PySem.W.kitOne K (.ref (C_UnknownName K)) (.ref (C_NothingToUndo K)) = some false ∧
  PySem.W.kitOne K (.ref (C_UnknownName K)) (.ref (C_NotPossible K)) = some false
abbrev FA50 (K : PySem.W.Frag) : Prop :=
  PySem.W.kitOne K (.ref (C_UnknownName K)) (.ref (C_TooMany K)) = some false ∧
  PySem.W.kitOne K (.ref (C_UnknownName K)) (.ref (C_NotOne K)) = some false ∧
  PySem.W.kitOne K (.ref (C_UnknownName K)) (.ref (C_Broken K)) = some false ∧
  PySem.W.kitOne K (.ref (C_InvalidOffers K)) (.ref (C_NotRight K)) = some true ∧
  PySem.W.kitOne K (.ref (C_InvalidOffers K)) (.ref (C_InvalidText K)) = some false ∧
  PySem.W.kitOne K (.ref (C_InvalidOffers K)) (.ref (C_InvalidNumber K)) = some false ∧
  PySem.W.kitOne K (.ref (C_InvalidOffers K)) (.ref (C_InvalidName K)) = some false ∧
  PySem.W.kitOne K (.ref (C_InvalidOffers K)) (.ref (C_InvalidIndex K)) = some false ∧
  PySem.W.kitOne K (.ref (C_InvalidOffers K)) (.ref (C_InvalidDegree K)) = some false ∧
  PySem.W.kitOne K (.ref (C_InvalidOffers K)) (.ref (C_InvalidKnot K)) = some false
abbrev FA51 (K : PySem.W.Frag) : Prop :=
  PySem.W.kitOne K (.ref (C_InvalidOffers K)) (.ref (C_InvalidClaim K)) = some false ∧
  PySem.W.kitOne K (.ref (C_InvalidOffers K)) (.ref (C_InvalidCommand K)) = some false ∧
  PySem.W.kitOne K (.ref (C_InvalidOffers K)) (.ref (C_NotAFrame K)) = some false ∧
  PySem.W.kitOne K (.ref (C_InvalidOffers K)) (.ref (C_NotACurve K)) = some false ∧
  PySem.W.kitOne K (.ref (C_InvalidOffers K)) (.ref (C_InvalidKnots K)) = some false ∧
  PySem.W.kitOne K (.ref (C_InvalidOffers K)) (.ref (C_InvalidAmounts K)) = some false ∧
  PySem.W.kitOne K (.ref (C_InvalidOffers K)) (.ref (C_InvalidPlaces K)) = some false ∧
  PySem.W.kitOne K (.ref (C_InvalidOffers K)) (.ref (C_InvalidHeights K)) = some false ∧
  PySem.W.kitOne K (.ref (C_InvalidOffers K)) (.ref (C_InvalidOffers K)) = some true ∧
  PySem.W.kitOne K (.ref (C_InvalidOffers K)) (.ref (C_NotKnown K)) = some false
abbrev FA52 (K : PySem.W.Frag) : Prop :=
  PySem.W.kitOne K (.ref (C_InvalidOffers K)) (.ref (C_UnknownName K)) = some false ∧
  PySem.W.kitOne K (.ref (C_InvalidOffers K)) (.ref (C_InUse K)) = some false ∧
  PySem.W.kitOne K (.ref (C_InvalidOffers K)) (.ref (C_NothingToUndo K)) = some false ∧
  PySem.W.kitOne K (.ref (C_InvalidOffers K)) (.ref (C_NotPossible K)) = some false ∧
  PySem.W.kitOne K (.ref (C_InvalidOffers K)) (.ref (C_TooMany K)) = some false ∧
  PySem.W.kitOne K (.ref (C_InvalidOffers K)) (.ref (C_NotOne K)) = some false ∧
  PySem.W.kitOne K (.ref (C_InvalidOffers K)) (.ref (C_Broken K)) = some false ∧
  PySem.W.kitOne K (.ref (C_InvalidHeights K)) (.ref (C_NotRight K)) = some true ∧
  PySem.W.kitOne K (.ref (C_InvalidHeights K)) (.ref (C_InvalidText K)) = some false ∧
  PySem.W.kitOne K (.ref (C_InvalidHeights K)) (.ref (C_InvalidNumber K)) = some false
abbrev FA53 (K : PySem.W.Frag) : Prop :=
  PySem.W.kitOne K (.ref (C_InvalidHeights K)) (.ref (C_InvalidName K)) = some false ∧
  PySem.W.kitOne K (.ref (C_InvalidHeights K)) (.ref (C_InvalidIndex K)) = some false ∧
  PySem.W.kitOne K (.ref (C_InvalidHeights K)) (.ref (C_InvalidDegree K)) = some false ∧
  PySem.W.kitOne K (.ref (C_InvalidHeights K)) (.ref (C_InvalidKnot K)) = some false ∧
  PySem.W.kitOne K (.ref (C_InvalidHeights K)) (.ref (C_InvalidClaim K)) = some false ∧
  PySem.W.kitOne K (.ref (C_InvalidHeights K)) (.ref (C_InvalidCommand K)) = some false ∧
  PySem.W.kitOne K (.ref (C_InvalidHeights K)) (.ref (C_NotAFrame K)) = some false ∧
  PySem.W.kitOne K (.ref (C_InvalidHeights K)) (.ref (C_NotACurve K)) = some false ∧
  PySem.W.kitOne K (.ref (C_InvalidHeights K)) (.ref (C_InvalidKnots K)) = some false ∧
  PySem.W.kitOne K (.ref (C_InvalidHeights K)) (.ref (C_InvalidAmounts K)) = some false
abbrev FA54 (K : PySem.W.Frag) : Prop :=
  PySem.W.kitOne K (.ref (C_InvalidHeights K)) (.ref (C_InvalidPlaces K)) = some false ∧
  PySem.W.kitOne K (.ref (C_InvalidHeights K)) (.ref (C_InvalidHeights K)) = some true ∧
  PySem.W.kitOne K (.ref (C_InvalidHeights K)) (.ref (C_InvalidOffers K)) = some false ∧
  PySem.W.kitOne K (.ref (C_InvalidHeights K)) (.ref (C_NotKnown K)) = some false ∧
  PySem.W.kitOne K (.ref (C_InvalidHeights K)) (.ref (C_UnknownName K)) = some false ∧
  PySem.W.kitOne K (.ref (C_InvalidHeights K)) (.ref (C_InUse K)) = some false ∧
  PySem.W.kitOne K (.ref (C_InvalidHeights K)) (.ref (C_NothingToUndo K)) = some false ∧
  PySem.W.kitOne K (.ref (C_InvalidHeights K)) (.ref (C_NotPossible K)) = some false ∧
  PySem.W.kitOne K (.ref (C_InvalidHeights K)) (.ref (C_TooMany K)) = some false ∧
  PySem.W.kitOne K (.ref (C_InvalidHeights K)) (.ref (C_NotOne K)) = some false
abbrev FA55 (K : PySem.W.Frag) : Prop :=
  PySem.W.kitOne K (.ref (C_InvalidHeights K)) (.ref (C_Broken K)) = some false ∧
  PySem.W.kitOne K (.ref (C_InvalidPlaces K)) (.ref (C_NotRight K)) = some true ∧
  PySem.W.kitOne K (.ref (C_InvalidPlaces K)) (.ref (C_InvalidText K)) = some false ∧
  PySem.W.kitOne K (.ref (C_InvalidPlaces K)) (.ref (C_InvalidNumber K)) = some false ∧
  PySem.W.kitOne K (.ref (C_InvalidPlaces K)) (.ref (C_InvalidName K)) = some false ∧
  PySem.W.kitOne K (.ref (C_InvalidPlaces K)) (.ref (C_InvalidIndex K)) = some false ∧
  PySem.W.kitOne K (.ref (C_InvalidPlaces K)) (.ref (C_InvalidDegree K)) = some false ∧
  PySem.W.kitOne K (.ref (C_InvalidPlaces K)) (.ref (C_InvalidKnot K)) = some false ∧
  PySem.W.kitOne K (.ref (C_InvalidPlaces K)) (.ref (C_InvalidClaim K)) = some false ∧
  PySem.W.kitOne K (.ref (C_InvalidPlaces K)) (.ref (C_InvalidCommand K)) = some false
abbrev FA56 (K : PySem.W.Frag) : Prop :=
  PySem.W.kitOne K (.ref (C_InvalidPlaces K)) (.ref (C_NotAFrame K)) = some false ∧
  PySem.W.kitOne K (.ref (C_InvalidPlaces K)) (.ref (C_NotACurve K)) = some false ∧
  PySem.W.kitOne K (.ref (C_InvalidPlaces K)) (.ref (C_InvalidKnots K)) = some false ∧
  PySem.W.kitOne K (.ref (C_InvalidPlaces K)) (.ref (C_InvalidAmounts K)) = some false ∧
  PySem.W.kitOne K (.ref (C_InvalidPlaces K)) (.ref (C_InvalidPlaces K)) = some true ∧
  PySem.W.kitOne K (.ref (C_InvalidPlaces K)) (.ref (C_InvalidHeights K)) = some false ∧
  PySem.W.kitOne K (.ref (C_InvalidPlaces K)) (.ref (C_InvalidOffers K)) = some false ∧
  PySem.W.kitOne K (.ref (C_InvalidPlaces K)) (.ref (C_NotKnown K)) = some false ∧
  PySem.W.kitOne K (.ref (C_InvalidPlaces K)) (.ref (C_UnknownName K)) = some false ∧
  PySem.W.kitOne K (.ref (C_InvalidPlaces K)) (.ref (C_InUse K)) = some false
abbrev FA57 (K : PySem.W.Frag) : Prop :=
  PySem.W.kitOne K (.ref (C_InvalidPlaces K)) (.ref (C_NothingToUndo K)) = some false ∧
  PySem.W.kitOne K (.ref (C_InvalidPlaces K)) (.ref (C_NotPossible K)) = some false ∧
  PySem.W.kitOne K (.ref (C_InvalidPlaces K)) (.ref (C_TooMany K)) = some false ∧
  PySem.W.kitOne K (.ref (C_InvalidPlaces K)) (.ref (C_NotOne K)) = some false ∧
  PySem.W.kitOne K (.ref (C_InvalidPlaces K)) (.ref (C_Broken K)) = some false ∧
  PySem.W.kitOne K (.ref (C_InvalidAmounts K)) (.ref (C_NotRight K)) = some true ∧
  PySem.W.kitOne K (.ref (C_InvalidAmounts K)) (.ref (C_InvalidText K)) = some false ∧
  PySem.W.kitOne K (.ref (C_InvalidAmounts K)) (.ref (C_InvalidNumber K)) = some false ∧
  PySem.W.kitOne K (.ref (C_InvalidAmounts K)) (.ref (C_InvalidName K)) = some false ∧
  PySem.W.kitOne K (.ref (C_InvalidAmounts K)) (.ref (C_InvalidIndex K)) = some false
abbrev FA58 (K : PySem.W.Frag) : Prop :=
  PySem.W.kitOne K (.ref (C_InvalidAmounts K)) (.ref (C_InvalidDegree K)) = some false ∧
  PySem.W.kitOne K (.ref (C_InvalidAmounts K)) (.ref (C_InvalidKnot K)) = some false ∧
  PySem.W.kitOne K (.ref (C_InvalidAmounts K)) (.ref (C_InvalidClaim K)) = some false ∧
  PySem.W.kitOne K (.ref (C_InvalidAmounts K)) (.ref (C_InvalidCommand K)) = some false ∧
  PySem.W.kitOne K (.ref (C_InvalidAmounts K)) (.ref (C_NotAFrame K)) = some false ∧
  PySem.W.kitOne K (.ref (C_InvalidAmounts K)) (.ref (C_NotACurve K)) = some false ∧
  PySem.W.kitOne K (.ref (C_InvalidAmounts K)) (.ref (C_InvalidKnots K)) = some false ∧
  PySem.W.kitOne K (.ref (C_InvalidAmounts K)) (.ref (C_InvalidAmounts K)) = some true ∧
  PySem.W.kitOne K (.ref (C_InvalidAmounts K)) (.ref (C_InvalidPlaces K)) = some false ∧
  PySem.W.kitOne K (.ref (C_InvalidAmounts K)) (.ref (C_InvalidHeights K)) = some false
abbrev FA59 (K : PySem.W.Frag) : Prop :=
  PySem.W.kitOne K (.ref (C_InvalidAmounts K)) (.ref (C_InvalidOffers K)) = some false ∧
  PySem.W.kitOne K (.ref (C_InvalidAmounts K)) (.ref (C_NotKnown K)) = some false ∧
  PySem.W.kitOne K (.ref (C_InvalidAmounts K)) (.ref (C_UnknownName K)) = some false ∧
  PySem.W.kitOne K (.ref (C_InvalidAmounts K)) (.ref (C_InUse K)) = some false ∧
  PySem.W.kitOne K (.ref (C_InvalidAmounts K)) (.ref (C_NothingToUndo K)) = some false ∧
  PySem.W.kitOne K (.ref (C_InvalidAmounts K)) (.ref (C_NotPossible K)) = some false ∧
  PySem.W.kitOne K (.ref (C_InvalidAmounts K)) (.ref (C_TooMany K)) = some false ∧
  PySem.W.kitOne K (.ref (C_InvalidAmounts K)) (.ref (C_NotOne K)) = some false ∧
  PySem.W.kitOne K (.ref (C_InvalidAmounts K)) (.ref (C_Broken K)) = some false ∧
  PySem.W.kitOne K (.ref (C_InvalidKnots K)) (.ref (C_NotRight K)) = some true
abbrev FA60 (K : PySem.W.Frag) : Prop :=
  PySem.W.kitOne K (.ref (C_InvalidKnots K)) (.ref (C_InvalidText K)) = some false ∧
  PySem.W.kitOne K (.ref (C_InvalidKnots K)) (.ref (C_InvalidNumber K)) = some false ∧
  PySem.W.kitOne K (.ref (C_InvalidKnots K)) (.ref (C_InvalidName K)) = some false ∧
  PySem.W.kitOne K (.ref (C_InvalidKnots K)) (.ref (C_InvalidIndex K)) = some false ∧
  PySem.W.kitOne K (.ref (C_InvalidKnots K)) (.ref (C_InvalidDegree K)) = some false ∧
  PySem.W.kitOne K (.ref (C_InvalidKnots K)) (.ref (C_InvalidKnot K)) = some false ∧
  PySem.W.kitOne K (.ref (C_InvalidKnots K)) (.ref (C_InvalidClaim K)) = some false ∧
  PySem.W.kitOne K (.ref (C_InvalidKnots K)) (.ref (C_InvalidCommand K)) = some false ∧
  PySem.W.kitOne K (.ref (C_InvalidKnots K)) (.ref (C_NotAFrame K)) = some false ∧
  PySem.W.kitOne K (.ref (C_InvalidKnots K)) (.ref (C_NotACurve K)) = some false
abbrev FA61 (K : PySem.W.Frag) : Prop :=
  PySem.W.kitOne K (.ref (C_InvalidKnots K)) (.ref (C_InvalidKnots K)) = some true ∧
  PySem.W.kitOne K (.ref (C_InvalidKnots K)) (.ref (C_InvalidAmounts K)) = some false ∧
  PySem.W.kitOne K (.ref (C_InvalidKnots K)) (.ref (C_InvalidPlaces K)) = some false ∧
  PySem.W.kitOne K (.ref (C_InvalidKnots K)) (.ref (C_InvalidHeights K)) = some false ∧
  PySem.W.kitOne K (.ref (C_InvalidKnots K)) (.ref (C_InvalidOffers K)) = some false ∧
  PySem.W.kitOne K (.ref (C_InvalidKnots K)) (.ref (C_NotKnown K)) = some false ∧
  PySem.W.kitOne K (.ref (C_InvalidKnots K)) (.ref (C_UnknownName K)) = some false ∧
  PySem.W.kitOne K (.ref (C_InvalidKnots K)) (.ref (C_InUse K)) = some false ∧
  PySem.W.kitOne K (.ref (C_InvalidKnots K)) (.ref (C_NothingToUndo K)) = some false ∧
  PySem.W.kitOne K (.ref (C_InvalidKnots K)) (.ref (C_NotPossible K)) = some false
abbrev FA62 (K : PySem.W.Frag) : Prop :=
  PySem.W.kitOne K (.ref (C_InvalidKnots K)) (.ref (C_TooMany K)) = some false ∧
  PySem.W.kitOne K (.ref (C_InvalidKnots K)) (.ref (C_NotOne K)) = some false ∧
  PySem.W.kitOne K (.ref (C_InvalidKnots K)) (.ref (C_Broken K)) = some false ∧
  PySem.W.kitOne K (.ref (C_NotACurve K)) (.ref (C_NotRight K)) = some true ∧
  PySem.W.kitOne K (.ref (C_NotACurve K)) (.ref (C_InvalidText K)) = some false ∧
  PySem.W.kitOne K (.ref (C_NotACurve K)) (.ref (C_InvalidNumber K)) = some false ∧
  PySem.W.kitOne K (.ref (C_NotACurve K)) (.ref (C_InvalidName K)) = some false ∧
  PySem.W.kitOne K (.ref (C_NotACurve K)) (.ref (C_InvalidIndex K)) = some false ∧
  PySem.W.kitOne K (.ref (C_NotACurve K)) (.ref (C_InvalidDegree K)) = some false ∧
  PySem.W.kitOne K (.ref (C_NotACurve K)) (.ref (C_InvalidKnot K)) = some false
abbrev FA63 (K : PySem.W.Frag) : Prop :=
  PySem.W.kitOne K (.ref (C_NotACurve K)) (.ref (C_InvalidClaim K)) = some false ∧
  PySem.W.kitOne K (.ref (C_NotACurve K)) (.ref (C_InvalidCommand K)) = some false ∧
  PySem.W.kitOne K (.ref (C_NotACurve K)) (.ref (C_NotAFrame K)) = some false ∧
  PySem.W.kitOne K (.ref (C_NotACurve K)) (.ref (C_NotACurve K)) = some true ∧
  PySem.W.kitOne K (.ref (C_NotACurve K)) (.ref (C_InvalidKnots K)) = some false ∧
  PySem.W.kitOne K (.ref (C_NotACurve K)) (.ref (C_InvalidAmounts K)) = some false ∧
  PySem.W.kitOne K (.ref (C_NotACurve K)) (.ref (C_InvalidPlaces K)) = some false ∧
  PySem.W.kitOne K (.ref (C_NotACurve K)) (.ref (C_InvalidHeights K)) = some false ∧
  PySem.W.kitOne K (.ref (C_NotACurve K)) (.ref (C_InvalidOffers K)) = some false ∧
  PySem.W.kitOne K (.ref (C_NotACurve K)) (.ref (C_NotKnown K)) = some false
abbrev FA64 (K : PySem.W.Frag) : Prop :=
  PySem.W.kitOne K (.ref (C_NotACurve K)) (.ref (C_UnknownName K)) = some false ∧
  PySem.W.kitOne K (.ref (C_NotACurve K)) (.ref (C_InUse K)) = some false ∧
  PySem.W.kitOne K (.ref (C_NotACurve K)) (.ref (C_NothingToUndo K)) = some false ∧
  PySem.W.kitOne K (.ref (C_NotACurve K)) (.ref (C_NotPossible K)) = some false ∧
  PySem.W.kitOne K (.ref (C_NotACurve K)) (.ref (C_TooMany K)) = some false ∧
  PySem.W.kitOne K (.ref (C_NotACurve K)) (.ref (C_NotOne K)) = some false ∧
  PySem.W.kitOne K (.ref (C_NotACurve K)) (.ref (C_Broken K)) = some false ∧
  PySem.W.kitOne K (.ref (C_NotAFrame K)) (.ref (C_NotRight K)) = some true ∧
  PySem.W.kitOne K (.ref (C_NotAFrame K)) (.ref (C_InvalidText K)) = some false ∧
  PySem.W.kitOne K (.ref (C_NotAFrame K)) (.ref (C_InvalidNumber K)) = some false
abbrev FA65 (K : PySem.W.Frag) : Prop :=
  PySem.W.kitOne K (.ref (C_NotAFrame K)) (.ref (C_InvalidName K)) = some false ∧
  PySem.W.kitOne K (.ref (C_NotAFrame K)) (.ref (C_InvalidIndex K)) = some false ∧
  PySem.W.kitOne K (.ref (C_NotAFrame K)) (.ref (C_InvalidDegree K)) = some false ∧
  PySem.W.kitOne K (.ref (C_NotAFrame K)) (.ref (C_InvalidKnot K)) = some false ∧
  PySem.W.kitOne K (.ref (C_NotAFrame K)) (.ref (C_InvalidClaim K)) = some false ∧
  PySem.W.kitOne K (.ref (C_NotAFrame K)) (.ref (C_InvalidCommand K)) = some false ∧
  PySem.W.kitOne K (.ref (C_NotAFrame K)) (.ref (C_NotAFrame K)) = some true ∧
  PySem.W.kitOne K (.ref (C_NotAFrame K)) (.ref (C_NotACurve K)) = some false ∧
  PySem.W.kitOne K (.ref (C_NotAFrame K)) (.ref (C_InvalidKnots K)) = some false ∧
  PySem.W.kitOne K (.ref (C_NotAFrame K)) (.ref (C_InvalidAmounts K)) = some false
abbrev FA66 (K : PySem.W.Frag) : Prop :=
  PySem.W.kitOne K (.ref (C_NotAFrame K)) (.ref (C_InvalidPlaces K)) = some false ∧
  PySem.W.kitOne K (.ref (C_NotAFrame K)) (.ref (C_InvalidHeights K)) = some false ∧
  PySem.W.kitOne K (.ref (C_NotAFrame K)) (.ref (C_InvalidOffers K)) = some false ∧
  PySem.W.kitOne K (.ref (C_NotAFrame K)) (.ref (C_NotKnown K)) = some false ∧
  PySem.W.kitOne K (.ref (C_NotAFrame K)) (.ref (C_UnknownName K)) = some false ∧
  PySem.W.kitOne K (.ref (C_NotAFrame K)) (.ref (C_InUse K)) = some false ∧
  PySem.W.kitOne K (.ref (C_NotAFrame K)) (.ref (C_NothingToUndo K)) = some false ∧
  PySem.W.kitOne K (.ref (C_NotAFrame K)) (.ref (C_NotPossible K)) = some false ∧
  PySem.W.kitOne K (.ref (C_NotAFrame K)) (.ref (C_TooMany K)) = some false ∧
  PySem.W.kitOne K (.ref (C_NotAFrame K)) (.ref (C_NotOne K)) = some false
abbrev FA67 (K : PySem.W.Frag) : Prop :=
  PySem.W.kitOne K (.ref (C_NotAFrame K)) (.ref (C_Broken K)) = some false ∧
  PySem.W.kitOne K (.ref (C_InvalidCommand K)) (.ref (C_NotRight K)) = some true ∧
  PySem.W.kitOne K (.ref (C_InvalidCommand K)) (.ref (C_InvalidText K)) = some false ∧
  PySem.W.kitOne K (.ref (C_InvalidCommand K)) (.ref (C_InvalidNumber K)) = some false ∧
  PySem.W.kitOne K (.ref (C_InvalidCommand K)) (.ref (C_InvalidName K)) = some false ∧
  PySem.W.kitOne K (.ref (C_InvalidCommand K)) (.ref (C_InvalidIndex K)) = some false ∧
  PySem.W.kitOne K (.ref (C_InvalidCommand K)) (.ref (C_InvalidDegree K)) = some false ∧
  PySem.W.kitOne K (.ref (C_InvalidCommand K)) (.ref (C_InvalidKnot K)) = some false ∧
  PySem.W.kitOne K (.ref (C_InvalidCommand K)) (.ref (C_InvalidClaim K)) = some false ∧
  PySem.W.kitOne K (.ref (C_InvalidCommand K)) (.ref (C_InvalidCommand K)) = some true
abbrev FA68 (K : PySem.W.Frag) : Prop :=
  PySem.W.kitOne K (.ref (C_InvalidCommand K)) (.ref (C_NotAFrame K)) = some false ∧
  PySem.W.kitOne K (.ref (C_InvalidCommand K)) (.ref (C_NotACurve K)) = some false ∧
  PySem.W.kitOne K (.ref (C_InvalidCommand K)) (.ref (C_InvalidKnots K)) = some false ∧
  PySem.W.kitOne K (.ref (C_InvalidCommand K)) (.ref (C_InvalidAmounts K)) = some false ∧
  PySem.W.kitOne K (.ref (C_InvalidCommand K)) (.ref (C_InvalidPlaces K)) = some false ∧
  PySem.W.kitOne K (.ref (C_InvalidCommand K)) (.ref (C_InvalidHeights K)) = some false ∧
  PySem.W.kitOne K (.ref (C_InvalidCommand K)) (.ref (C_InvalidOffers K)) = some false ∧
  PySem.W.kitOne K (.ref (C_InvalidCommand K)) (.ref (C_NotKnown K)) = some false ∧
  PySem.W.kitOne K (.ref (C_InvalidCommand K)) (.ref (C_UnknownName K)) = some false ∧
  PySem.W.kitOne K (.ref (C_InvalidCommand K)) (.ref (C_InUse K)) = some false
abbrev FA69 (K : PySem.W.Frag) : Prop :=
  PySem.W.kitOne K (.ref (C_InvalidCommand K)) (.ref (C_NothingToUndo K)) = some false ∧
  PySem.W.kitOne K (.ref (C_InvalidCommand K)) (.ref (C_NotPossible K)) = some false ∧
  PySem.W.kitOne K (.ref (C_InvalidCommand K)) (.ref (C_TooMany K)) = some false ∧
  PySem.W.kitOne K (.ref (C_InvalidCommand K)) (.ref (C_NotOne K)) = some false ∧
  PySem.W.kitOne K (.ref (C_InvalidCommand K)) (.ref (C_Broken K)) = some false ∧
  PySem.W.kitOne K (.ref (C_InvalidClaim K)) (.ref (C_NotRight K)) = some true ∧
  PySem.W.kitOne K (.ref (C_InvalidClaim K)) (.ref (C_InvalidText K)) = some false ∧
  PySem.W.kitOne K (.ref (C_InvalidClaim K)) (.ref (C_InvalidNumber K)) = some false ∧
  PySem.W.kitOne K (.ref (C_InvalidClaim K)) (.ref (C_InvalidName K)) = some false ∧
  PySem.W.kitOne K (.ref (C_InvalidClaim K)) (.ref (C_InvalidIndex K)) = some false
abbrev FA70 (K : PySem.W.Frag) : Prop :=
  PySem.W.kitOne K (.ref (C_InvalidClaim K)) (.ref (C_InvalidDegree K)) = some false ∧
  PySem.W.kitOne K (.ref (C_InvalidClaim K)) (.ref (C_InvalidKnot K)) = some false ∧
  PySem.W.kitOne K (.ref (C_InvalidClaim K)) (.ref (C_InvalidClaim K)) = some true ∧
  PySem.W.kitOne K (.ref (C_InvalidClaim K)) (.ref (C_InvalidCommand K)) = some false ∧
  PySem.W.kitOne K (.ref (C_InvalidClaim K)) (.ref (C_NotAFrame K)) = some false ∧
  PySem.W.kitOne K (.ref (C_InvalidClaim K)) (.ref (C_NotACurve K)) = some false ∧
  PySem.W.kitOne K (.ref (C_InvalidClaim K)) (.ref (C_InvalidKnots K)) = some false ∧
  PySem.W.kitOne K (.ref (C_InvalidClaim K)) (.ref (C_InvalidAmounts K)) = some false ∧
  PySem.W.kitOne K (.ref (C_InvalidClaim K)) (.ref (C_InvalidPlaces K)) = some false ∧
  PySem.W.kitOne K (.ref (C_InvalidClaim K)) (.ref (C_InvalidHeights K)) = some false
abbrev FA71 (K : PySem.W.Frag) : Prop :=
  PySem.W.kitOne K (.ref (C_InvalidClaim K)) (.ref (C_InvalidOffers K)) = some false ∧
  PySem.W.kitOne K (.ref (C_InvalidClaim K)) (.ref (C_NotKnown K)) = some false ∧
  PySem.W.kitOne K (.ref (C_InvalidClaim K)) (.ref (C_UnknownName K)) = some false ∧
  PySem.W.kitOne K (.ref (C_InvalidClaim K)) (.ref (C_InUse K)) = some false ∧
  PySem.W.kitOne K (.ref (C_InvalidClaim K)) (.ref (C_NothingToUndo K)) = some false ∧
  PySem.W.kitOne K (.ref (C_InvalidClaim K)) (.ref (C_NotPossible K)) = some false ∧
  PySem.W.kitOne K (.ref (C_InvalidClaim K)) (.ref (C_TooMany K)) = some false ∧
  PySem.W.kitOne K (.ref (C_InvalidClaim K)) (.ref (C_NotOne K)) = some false ∧
  PySem.W.kitOne K (.ref (C_InvalidClaim K)) (.ref (C_Broken K)) = some false ∧
  PySem.W.kitOne K (.ref (C_InvalidKnot K)) (.ref (C_NotRight K)) = some true
abbrev FA72 (K : PySem.W.Frag) : Prop :=
  PySem.W.kitOne K (.ref (C_InvalidKnot K)) (.ref (C_InvalidText K)) = some false ∧
  PySem.W.kitOne K (.ref (C_InvalidKnot K)) (.ref (C_InvalidNumber K)) = some false ∧
  PySem.W.kitOne K (.ref (C_InvalidKnot K)) (.ref (C_InvalidName K)) = some false ∧
  PySem.W.kitOne K (.ref (C_InvalidKnot K)) (.ref (C_InvalidIndex K)) = some false ∧
  PySem.W.kitOne K (.ref (C_InvalidKnot K)) (.ref (C_InvalidDegree K)) = some false ∧
  PySem.W.kitOne K (.ref (C_InvalidKnot K)) (.ref (C_InvalidKnot K)) = some true ∧
  PySem.W.kitOne K (.ref (C_InvalidKnot K)) (.ref (C_InvalidClaim K)) = some false ∧
  PySem.W.kitOne K (.ref (C_InvalidKnot K)) (.ref (C_InvalidCommand K)) = some false ∧
  PySem.W.kitOne K (.ref (C_InvalidKnot K)) (.ref (C_NotAFrame K)) = some false ∧
  PySem.W.kitOne K (.ref (C_InvalidKnot K)) (.ref (C_NotACurve K)) = some false
abbrev FA73 (K : PySem.W.Frag) : Prop :=
  PySem.W.kitOne K (.ref (C_InvalidKnot K)) (.ref (C_InvalidKnots K)) = some false ∧
  PySem.W.kitOne K (.ref (C_InvalidKnot K)) (.ref (C_InvalidAmounts K)) = some false ∧
  PySem.W.kitOne K (.ref (C_InvalidKnot K)) (.ref (C_InvalidPlaces K)) = some false ∧
  PySem.W.kitOne K (.ref (C_InvalidKnot K)) (.ref (C_InvalidHeights K)) = some false ∧
  PySem.W.kitOne K (.ref (C_InvalidKnot K)) (.ref (C_InvalidOffers K)) = some false ∧
  PySem.W.kitOne K (.ref (C_InvalidKnot K)) (.ref (C_NotKnown K)) = some false ∧
  PySem.W.kitOne K (.ref (C_InvalidKnot K)) (.ref (C_UnknownName K)) = some false ∧
  PySem.W.kitOne K (.ref (C_InvalidKnot K)) (.ref (C_InUse K)) = some false ∧
  PySem.W.kitOne K (.ref (C_InvalidKnot K)) (.ref (C_NothingToUndo K)) = some false ∧
  PySem.W.kitOne K (.ref (C_InvalidKnot K)) (.ref (C_NotPossible K)) = some false
abbrev FA74 (K : PySem.W.Frag) : Prop :=
  PySem.W.kitOne K (.ref (C_InvalidKnot K)) (.ref (C_TooMany K)) = some false ∧
  PySem.W.kitOne K (.ref (C_InvalidKnot K)) (.ref (C_NotOne K)) = some false ∧
  PySem.W.kitOne K (.ref (C_InvalidKnot K)) (.ref (C_Broken K)) = some false ∧
  PySem.W.kitOne K (.ref (C_InvalidDegree K)) (.ref (C_NotRight K)) = some true ∧
  PySem.W.kitOne K (.ref (C_InvalidDegree K)) (.ref (C_InvalidText K)) = some false ∧
  PySem.W.kitOne K (.ref (C_InvalidDegree K)) (.ref (C_InvalidNumber K)) = some false ∧
  PySem.W.kitOne K (.ref (C_InvalidDegree K)) (.ref (C_InvalidName K)) = some false ∧
  PySem.W.kitOne K (.ref (C_InvalidDegree K)) (.ref (C_InvalidIndex K)) = some false ∧
  PySem.W.kitOne K (.ref (C_InvalidDegree K)) (.ref (C_InvalidDegree K)) = some true ∧
  PySem.W.kitOne K (.ref (C_InvalidDegree K)) (.ref (C_InvalidKnot K)) = some false
abbrev FA75 (K : PySem.W.Frag) : Prop :=
  PySem.W.kitOne K (.ref (C_InvalidDegree K)) (.ref (C_InvalidClaim K)) = some false ∧
  PySem.W.kitOne K (.ref (C_InvalidDegree K)) (.ref (C_InvalidCommand K)) = some false ∧
  PySem.W.kitOne K (.ref (C_InvalidDegree K)) (.ref (C_NotAFrame K)) = some false ∧
  PySem.W.kitOne K (.ref (C_InvalidDegree K)) (.ref (C_NotACurve K)) = some false ∧
  PySem.W.kitOne K (.ref (C_InvalidDegree K)) (.ref (C_InvalidKnots K)) = some false ∧
  PySem.W.kitOne K (.ref (C_InvalidDegree K)) (.ref (C_InvalidAmounts K)) = some false ∧
  PySem.W.kitOne K (.ref (C_InvalidDegree K)) (.ref (C_InvalidPlaces K)) = some false ∧
  PySem.W.kitOne K (.ref (C_InvalidDegree K)) (.ref (C_InvalidHeights K)) = some false ∧
  PySem.W.kitOne K (.ref (C_InvalidDegree K)) (.ref (C_InvalidOffers K)) = some false ∧
  PySem.W.kitOne K (.ref (C_InvalidDegree K)) (.ref (C_NotKnown K)) = some false
abbrev FA76 (K : PySem.W.Frag) : Prop :=
  PySem.W.kitOne K (.ref (C_InvalidDegree K)) (.ref (C_UnknownName K)) = some false ∧
  PySem.W.kitOne K (.ref (C_InvalidDegree K)) (.ref (C_InUse K)) = some false ∧
  PySem.W.kitOne K (.ref (C_InvalidDegree K)) (.ref (C_NothingToUndo K)) = some false ∧
  PySem.W.kitOne K (.ref (C_InvalidDegree K)) (.ref (C_NotPossible K)) = some false ∧
  PySem.W.kitOne K (.ref (C_InvalidDegree K)) (.ref (C_TooMany K)) = some false ∧
  PySem.W.kitOne K (.ref (C_InvalidDegree K)) (.ref (C_NotOne K)) = some false ∧
  PySem.W.kitOne K (.ref (C_InvalidDegree K)) (.ref (C_Broken K)) = some false ∧
  PySem.W.kitOne K (.ref (C_InvalidIndex K)) (.ref (C_NotRight K)) = some true ∧
  PySem.W.kitOne K (.ref (C_InvalidIndex K)) (.ref (C_InvalidText K)) = some false ∧
  PySem.W.kitOne K (.ref (C_InvalidIndex K)) (.ref (C_InvalidNumber K)) = some false
abbrev FA77 (K : PySem.W.Frag) : Prop :=
  PySem.W.kitOne K (.ref (C_InvalidIndex K)) (.ref (C_InvalidName K)) = some false ∧
  PySem.W.kitOne K (.ref (C_InvalidIndex K)) (.ref (C_InvalidIndex K)) = some true ∧
  PySem.W.kitOne K (.ref (C_InvalidIndex K)) (.ref (C_InvalidDegree K)) = some false ∧
  PySem.W.kitOne K (.ref (C_InvalidIndex K)) (.ref (C_InvalidKnot K)) = some false ∧
  PySem.W.kitOne K (.ref (C_InvalidIndex K)) (.ref (C_InvalidClaim K)) = some false ∧
  PySem.W.kitOne K (.ref (C_InvalidIndex K)) (.ref (C_InvalidCommand K)) = some false ∧
  PySem.W.kitOne K (.ref (C_InvalidIndex K)) (.ref (C_NotAFrame K)) = some false ∧
  PySem.W.kitOne K (.ref (C_InvalidIndex K)) (.ref (C_NotACurve K)) = some false ∧
  PySem.W.kitOne K (.ref (C_InvalidIndex K)) (.ref (C_InvalidKnots K)) = some false ∧
  PySem.W.kitOne K (.ref (C_InvalidIndex K)) (.ref (C_InvalidAmounts K)) = some false
abbrev FA78 (K : PySem.W.Frag) : Prop :=
  PySem.W.kitOne K (.ref (C_InvalidIndex K)) (.ref (C_InvalidPlaces K)) = some false ∧
  PySem.W.kitOne K (.ref (C_InvalidIndex K)) (.ref (C_InvalidHeights K)) = some false ∧
  PySem.W.kitOne K (.ref (C_InvalidIndex K)) (.ref (C_InvalidOffers K)) = some false ∧
  PySem.W.kitOne K (.ref (C_InvalidIndex K)) (.ref (C_NotKnown K)) = some false ∧
  PySem.W.kitOne K (.ref (C_InvalidIndex K)) (.ref (C_UnknownName K)) = some false ∧
  PySem.W.kitOne K (.ref (C_InvalidIndex K)) (.ref (C_InUse K)) = some false ∧
  PySem.W.kitOne K (.ref (C_InvalidIndex K)) (.ref (C_NothingToUndo K)) = some false ∧
  PySem.W.kitOne K (.ref (C_InvalidIndex K)) (.ref (C_NotPossible K)) = some false ∧
  PySem.W.kitOne K (.ref (C_InvalidIndex K)) (.ref (C_TooMany K)) = some false ∧
  PySem.W.kitOne K (.ref (C_InvalidIndex K)) (.ref (C_NotOne K)) = some false
abbrev FA79 (K : PySem.W.Frag) : Prop :=
  PySem.W.kitOne K (.ref (C_InvalidIndex K)) (.ref (C_Broken K)) = some false ∧
  PySem.W.kitOne K (.ref (C_InvalidName K)) (.ref (C_NotRight K)) = some true ∧
  PySem.W.kitOne K (.ref (C_InvalidName K)) (.ref (C_InvalidText K)) = some false ∧
  PySem.W.kitOne K (.ref (C_InvalidName K)) (.ref (C_InvalidNumber K)) = some false ∧
  PySem.W.kitOne K (.ref (C_InvalidName K)) (.ref (C_InvalidName K)) = some true ∧
  PySem.W.kitOne K (.ref (C_InvalidName K)) (.ref (C_InvalidIndex K)) = some false ∧
  PySem.W.kitOne K (.ref (C_InvalidName K)) (.ref (C_InvalidDegree K)) = some false ∧
  PySem.W.kitOne K (.ref (C_InvalidName K)) (.ref (C_InvalidKnot K)) = some false ∧
  PySem.W.kitOne K (.ref (C_InvalidName K)) (.ref (C_InvalidClaim K)) = some false ∧
  PySem.W.kitOne K (.ref (C_InvalidName K)) (.ref (C_InvalidCommand K)) = some false
abbrev FA80 (K : PySem.W.Frag) : Prop :=
  PySem.W.kitOne K (.ref (C_InvalidName K)) (.ref (C_NotAFrame K)) = some false ∧
  PySem.W.kitOne K (.ref (C_InvalidName K)) (.ref (C_NotACurve K)) = some false ∧
  PySem.W.kitOne K (.ref (C_InvalidName K)) (.ref (C_InvalidKnots K)) = some false ∧
  PySem.W.kitOne K (.ref (C_InvalidName K)) (.ref (C_InvalidAmounts K)) = some false ∧
  PySem.W.kitOne K (.ref (C_InvalidName K)) (.ref (C_InvalidPlaces K)) = some false ∧
  PySem.W.kitOne K (.ref (C_InvalidName K)) (.ref (C_InvalidHeights K)) = some false ∧
  PySem.W.kitOne K (.ref (C_InvalidName K)) (.ref (C_InvalidOffers K)) = some false ∧
  PySem.W.kitOne K (.ref (C_InvalidName K)) (.ref (C_NotKnown K)) = some false ∧
  PySem.W.kitOne K (.ref (C_InvalidName K)) (.ref (C_UnknownName K)) = some false ∧
  PySem.W.kitOne K (.ref (C_InvalidName K)) (.ref (C_InUse K)) = some false
abbrev FA81 (K : PySem.W.Frag) : Prop :=
  PySem.W.kitOne K (.ref (C_InvalidName K)) (.ref (C_NothingToUndo K)) = some false ∧
  PySem.W.kitOne K (.ref (C_InvalidName K)) (.ref (C_NotPossible K)) = some false ∧
  PySem.W.kitOne K (.ref (C_InvalidName K)) (.ref (C_TooMany K)) = some false ∧
  PySem.W.kitOne K (.ref (C_InvalidName K)) (.ref (C_NotOne K)) = some false ∧
  PySem.W.kitOne K (.ref (C_InvalidName K)) (.ref (C_Broken K)) = some false ∧
  PySem.W.kitOne K (.ref (C_InvalidNumber K)) (.ref (C_NotRight K)) = some true ∧
  PySem.W.kitOne K (.ref (C_InvalidNumber K)) (.ref (C_InvalidText K)) = some false ∧
  PySem.W.kitOne K (.ref (C_InvalidNumber K)) (.ref (C_InvalidNumber K)) = some true ∧
  PySem.W.kitOne K (.ref (C_InvalidNumber K)) (.ref (C_InvalidName K)) = some false ∧
  PySem.W.kitOne K (.ref (C_InvalidNumber K)) (.ref (C_InvalidIndex K)) = some false
abbrev FA82 (K : PySem.W.Frag) : Prop :=
  PySem.W.kitOne K (.ref (C_InvalidNumber K)) (.ref (C_InvalidDegree K)) = some false ∧
  PySem.W.kitOne K (.ref (C_InvalidNumber K)) (.ref (C_InvalidKnot K)) = some false ∧
  PySem.W.kitOne K (.ref (C_InvalidNumber K)) (.ref (C_InvalidClaim K)) = some false ∧
  PySem.W.kitOne K (.ref (C_InvalidNumber K)) (.ref (C_InvalidCommand K)) = some false ∧
  PySem.W.kitOne K (.ref (C_InvalidNumber K)) (.ref (C_NotAFrame K)) = some false ∧
  PySem.W.kitOne K (.ref (C_InvalidNumber K)) (.ref (C_NotACurve K)) = some false ∧
  PySem.W.kitOne K (.ref (C_InvalidNumber K)) (.ref (C_InvalidKnots K)) = some false ∧
  PySem.W.kitOne K (.ref (C_InvalidNumber K)) (.ref (C_InvalidAmounts K)) = some false ∧
  PySem.W.kitOne K (.ref (C_InvalidNumber K)) (.ref (C_InvalidPlaces K)) = some false ∧
  PySem.W.kitOne K (.ref (C_InvalidNumber K)) (.ref (C_InvalidHeights K)) = some false
abbrev FA83 (K : PySem.W.Frag) : Prop :=
  PySem.W.kitOne K (.ref (C_InvalidNumber K)) (.ref (C_InvalidOffers K)) = some false ∧
  PySem.W.kitOne K (.ref (C_InvalidNumber K)) (.ref (C_NotKnown K)) = some false ∧
  PySem.W.kitOne K (.ref (C_InvalidNumber K)) (.ref (C_UnknownName K)) = some false ∧
  PySem.W.kitOne K (.ref (C_InvalidNumber K)) (.ref (C_InUse K)) = some false ∧
  PySem.W.kitOne K (.ref (C_InvalidNumber K)) (.ref (C_NothingToUndo K)) = some false ∧
  PySem.W.kitOne K (.ref (C_InvalidNumber K)) (.ref (C_NotPossible K)) = some false ∧
  PySem.W.kitOne K (.ref (C_InvalidNumber K)) (.ref (C_TooMany K)) = some false ∧
  PySem.W.kitOne K (.ref (C_InvalidNumber K)) (.ref (C_NotOne K)) = some false ∧
  PySem.W.kitOne K (.ref (C_InvalidNumber K)) (.ref (C_Broken K)) = some false ∧
  PySem.W.kitOne K (.ref (C_InvalidText K)) (.ref (C_NotRight K)) = some true
abbrev FA84 (K : PySem.W.Frag) : Prop :=
  PySem.W.kitOne K (.ref (C_InvalidText K)) (.ref (C_InvalidText K)) = some true ∧
  PySem.W.kitOne K (.ref (C_InvalidText K)) (.ref (C_InvalidNumber K)) = some false ∧
  PySem.W.kitOne K (.ref (C_InvalidText K)) (.ref (C_InvalidName K)) = some false ∧
  PySem.W.kitOne K (.ref (C_InvalidText K)) (.ref (C_InvalidIndex K)) = some false ∧
  PySem.W.kitOne K (.ref (C_InvalidText K)) (.ref (C_InvalidDegree K)) = some false ∧
  PySem.W.kitOne K (.ref (C_InvalidText K)) (.ref (C_InvalidKnot K)) = some false ∧
  PySem.W.kitOne K (.ref (C_InvalidText K)) (.ref (C_InvalidClaim K)) = some false ∧
  PySem.W.kitOne K (.ref (C_InvalidText K)) (.ref (C_InvalidCommand K)) = some false ∧
  PySem.W.kitOne K (.ref (C_InvalidText K)) (.ref (C_NotAFrame K)) = some false ∧
  PySem.W.kitOne K (.ref (C_InvalidText K)) (.ref (C_NotACurve K)) = some false
abbrev FA85 (K : PySem.W.Frag) : Prop :=
  PySem.W.kitOne K (.ref (C_InvalidText K)) (.ref (C_InvalidKnots K)) = some false ∧
  PySem.W.kitOne K (.ref (C_InvalidText K)) (.ref (C_InvalidAmounts K)) = some false ∧
  PySem.W.kitOne K (.ref (C_InvalidText K)) (.ref (C_InvalidPlaces K)) = some false ∧
  PySem.W.kitOne K (.ref (C_InvalidText K)) (.ref (C_InvalidHeights K)) = some false ∧
  PySem.W.kitOne K (.ref (C_InvalidText K)) (.ref (C_InvalidOffers K)) = some false ∧
  PySem.W.kitOne K (.ref (C_InvalidText K)) (.ref (C_NotKnown K)) = some false ∧
  PySem.W.kitOne K (.ref (C_InvalidText K)) (.ref (C_UnknownName K)) = some false ∧
  PySem.W.kitOne K (.ref (C_InvalidText K)) (.ref (C_InUse K)) = some false ∧
  PySem.W.kitOne K (.ref (C_InvalidText K)) (.ref (C_NothingToUndo K)) = some false ∧
  PySem.W.kitOne K (.ref (C_InvalidText K)) (.ref (C_NotPossible K)) = some false
abbrev FA86 (K : PySem.W.Frag) : Prop :=
  PySem.W.kitOne K (.ref (C_InvalidText K)) (.ref (C_TooMany K)) = some false ∧
  PySem.W.kitOne K (.ref (C_InvalidText K)) (.ref (C_NotOne K)) = some false ∧
  PySem.W.kitOne K (.ref (C_InvalidText K)) (.ref (C_Broken K)) = some false ∧
  PySem.W.kitOne K (.ref (C_Broken K)) (.type "ValueError") = some false ∧
  PySem.W.kitOne K (.ref (C_Broken K)) (.type "LookupError") = some false ∧
  PySem.W.kitOne K (.ref (C_Broken K)) (.type "ArithmeticError") = some true ∧
  PySem.W.kitOne K (.ref (C_NotOne K)) (.type "ValueError") = some false ∧
  PySem.W.kitOne K (.ref (C_NotOne K)) (.type "LookupError") = some false ∧
  PySem.W.kitOne K (.ref (C_NotOne K)) (.type "ArithmeticError") = some true ∧
  PySem.W.kitOne K (.ref (C_TooMany K)) (.type "ValueError") = some false
abbrev FA87 (K : PySem.W.Frag) : Prop :=
  PySem.W.kitOne K (.ref (C_TooMany K)) (.type "LookupError") = some false ∧
  PySem.W.kitOne K (.ref (C_TooMany K)) (.type "ArithmeticError") = some true ∧
  PySem.W.kitOne K (.ref (C_NothingToUndo K)) (.type "ValueError") = some false ∧
  PySem.W.kitOne K (.ref (C_NothingToUndo K)) (.type "LookupError") = some true ∧
  PySem.W.kitOne K (.ref (C_NothingToUndo K)) (.type "ArithmeticError") = some false ∧
  PySem.W.kitOne K (.ref (C_InUse K)) (.type "ValueError") = some false ∧
  PySem.W.kitOne K (.ref (C_InUse K)) (.type "LookupError") = some true ∧
  PySem.W.kitOne K (.ref (C_InUse K)) (.type "ArithmeticError") = some false ∧
  PySem.W.kitOne K (.ref (C_UnknownName K)) (.type "ValueError") = some false ∧
  PySem.W.kitOne K (.ref (C_UnknownName K)) (.type "LookupError") = some true
abbrev FA88 (K : PySem.W.Frag) : Prop :=
  PySem.W.kitOne K (.ref (C_UnknownName K)) (.type "ArithmeticError") = some false ∧
  PySem.W.kitOne K (.ref (C_InvalidOffers K)) (.type "ValueError") = some true ∧
  PySem.W.kitOne K (.ref (C_InvalidOffers K)) (.type "LookupError") = some false ∧
  PySem.W.kitOne K (.ref (C_InvalidOffers K)) (.type "ArithmeticError") = some false ∧
  PySem.W.kitOne K (.ref (C_InvalidHeights K)) (.type "ValueError") = some true ∧
  PySem.W.kitOne K (.ref (C_InvalidHeights K)) (.type "LookupError") = some false ∧
  PySem.W.kitOne K (.ref (C_InvalidHeights K)) (.type "ArithmeticError") = some false ∧
  PySem.W.kitOne K (.ref (C_InvalidPlaces K)) (.type "ValueError") = some true ∧
  PySem.W.kitOne K (.ref (C_InvalidPlaces K)) (.type "LookupError") = some false ∧
  PySem.W.kitOne K (.ref (C_InvalidPlaces K)) (.type "ArithmeticError") = some false
abbrev FA89 (K : PySem.W.Frag) : Prop :=
  PySem.W.kitOne K (.ref (C_InvalidAmounts K)) (.type "ValueError") = some true ∧
  PySem.W.kitOne K (.ref (C_InvalidAmounts K)) (.type "LookupError") = some false ∧
  PySem.W.kitOne K (.ref (C_InvalidAmounts K)) (.type "ArithmeticError") = some false ∧
  PySem.W.kitOne K (.ref (C_InvalidKnots K)) (.type "ValueError") = some true ∧
  PySem.W.kitOne K (.ref (C_InvalidKnots K)) (.type "LookupError") = some false ∧
  PySem.W.kitOne K (.ref (C_InvalidKnots K)) (.type "ArithmeticError") = some false ∧
  PySem.W.kitOne K (.ref (C_NotACurve K)) (.type "ValueError") = some true ∧
  PySem.W.kitOne K (.ref (C_NotACurve K)) (.type "LookupError") = some false ∧
  PySem.W.kitOne K (.ref (C_NotACurve K)) (.type "ArithmeticError") = some false ∧
  PySem.W.kitOne K (.ref (C_NotAFrame K)) (.type "ValueError") = some true
abbrev FA90 (K : PySem.W.Frag) : Prop :=
  PySem.W.kitOne K (.ref (C_NotAFrame K)) (.type "LookupError") = some false ∧
  PySem.W.kitOne K (.ref (C_NotAFrame K)) (.type "ArithmeticError") = some false ∧
  PySem.W.kitOne K (.ref (C_InvalidCommand K)) (.type "ValueError") = some true ∧
  PySem.W.kitOne K (.ref (C_InvalidCommand K)) (.type "LookupError") = some false ∧
  PySem.W.kitOne K (.ref (C_InvalidCommand K)) (.type "ArithmeticError") = some false ∧
  PySem.W.kitOne K (.ref (C_InvalidClaim K)) (.type "ValueError") = some true ∧
  PySem.W.kitOne K (.ref (C_InvalidClaim K)) (.type "LookupError") = some false ∧
  PySem.W.kitOne K (.ref (C_InvalidClaim K)) (.type "ArithmeticError") = some false ∧
  PySem.W.kitOne K (.ref (C_InvalidKnot K)) (.type "ValueError") = some true ∧
  PySem.W.kitOne K (.ref (C_InvalidKnot K)) (.type "LookupError") = some false
abbrev FA91 (K : PySem.W.Frag) : Prop :=
  PySem.W.kitOne K (.ref (C_InvalidKnot K)) (.type "ArithmeticError") = some false ∧
  PySem.W.kitOne K (.ref (C_InvalidDegree K)) (.type "ValueError") = some true ∧
  PySem.W.kitOne K (.ref (C_InvalidDegree K)) (.type "LookupError") = some false ∧
  PySem.W.kitOne K (.ref (C_InvalidDegree K)) (.type "ArithmeticError") = some false ∧
  PySem.W.kitOne K (.ref (C_InvalidIndex K)) (.type "ValueError") = some true ∧
  PySem.W.kitOne K (.ref (C_InvalidIndex K)) (.type "LookupError") = some false ∧
  PySem.W.kitOne K (.ref (C_InvalidIndex K)) (.type "ArithmeticError") = some false ∧
  PySem.W.kitOne K (.ref (C_InvalidName K)) (.type "ValueError") = some true ∧
  PySem.W.kitOne K (.ref (C_InvalidName K)) (.type "LookupError") = some false ∧
  PySem.W.kitOne K (.ref (C_InvalidName K)) (.type "ArithmeticError") = some false
abbrev FA92 (K : PySem.W.Frag) : Prop :=
  PySem.W.kitOne K (.ref (C_InvalidNumber K)) (.type "ValueError") = some true ∧
  PySem.W.kitOne K (.ref (C_InvalidNumber K)) (.type "LookupError") = some false ∧
  PySem.W.kitOne K (.ref (C_InvalidNumber K)) (.type "ArithmeticError") = some false ∧
  PySem.W.kitOne K (.ref (C_InvalidText K)) (.type "ValueError") = some true ∧
  PySem.W.kitOne K (.ref (C_InvalidText K)) (.type "LookupError") = some false ∧
  PySem.W.kitOne K (.ref (C_InvalidText K)) (.type "ArithmeticError") = some false ∧
  PySem.W.exmOne K (.ref (C_Broken K)) (.ref (C_NotKnown K)) = some false ∧
  PySem.W.exmOne K (.ref (C_Broken K)) (.ref (C_NotPossible K)) = some true ∧
  PySem.W.exmOne K (.ref (C_Broken K)) (.ref (C_NotRight K)) = some false ∧
  PySem.W.exmOne K (.ref (C_NotOne K)) (.ref (C_NotKnown K)) = some false
abbrev FA93 (K : PySem.W.Frag) : Prop :=
  PySem.W.exmOne K (.ref (C_NotOne K)) (.ref (C_NotPossible K)) = some true ∧
  PySem.W.exmOne K (.ref (C_NotOne K)) (.ref (C_NotRight K)) = some false ∧
  PySem.W.exmOne K (.ref (C_TooMany K)) (.ref (C_NotKnown K)) = some false ∧
  PySem.W.exmOne K (.ref (C_TooMany K)) (.ref (C_NotPossible K)) = some true ∧
  PySem.W.exmOne K (.ref (C_TooMany K)) (.ref (C_NotRight K)) = some false ∧
  PySem.W.exmOne K (.ref (C_NothingToUndo K)) (.ref (C_NotKnown K)) = some true ∧
  PySem.W.exmOne K (.ref (C_NothingToUndo K)) (.ref (C_NotPossible K)) = some false ∧
  PySem.W.exmOne K (.ref (C_NothingToUndo K)) (.ref (C_NotRight K)) = some false ∧
  PySem.W.exmOne K (.ref (C_InUse K)) (.ref (C_NotKnown K)) = some true ∧
  PySem.W.exmOne K (.ref (C_InUse K)) (.ref (C_NotPossible K)) = some false
abbrev FA94 (K : PySem.W.Frag) : Prop :=
  PySem.W.exmOne K (.ref (C_InUse K)) (.ref (C_NotRight K)) = some false ∧
  PySem.W.exmOne K (.ref (C_UnknownName K)) (.ref (C_NotKnown K)) = some true ∧
  PySem.W.exmOne K (.ref (C_UnknownName K)) (.ref (C_NotPossible K)) = some false ∧
  PySem.W.exmOne K (.ref (C_UnknownName K)) (.ref (C_NotRight K)) = some false ∧
  PySem.W.exmOne K (.ref (C_InvalidOffers K)) (.ref (C_NotKnown K)) = some false ∧
  PySem.W.exmOne K (.ref (C_InvalidOffers K)) (.ref (C_NotPossible K)) = some false ∧
  PySem.W.exmOne K (.ref (C_InvalidOffers K)) (.ref (C_NotRight K)) = some true ∧
  PySem.W.exmOne K (.ref (C_InvalidHeights K)) (.ref (C_NotKnown K)) = some false ∧
  PySem.W.exmOne K (.ref (C_InvalidHeights K)) (.ref (C_NotPossible K)) = some false ∧
  PySem.W.exmOne K (.ref (C_InvalidHeights K)) (.ref (C_NotRight K)) = some true
abbrev FA95 (K : PySem.W.Frag) : Prop :=
  PySem.W.exmOne K (.ref (C_InvalidPlaces K)) (.ref (C_NotKnown K)) = some false ∧
  PySem.W.exmOne K (.ref (C_InvalidPlaces K)) (.ref (C_NotPossible K)) = some false ∧
  PySem.W.exmOne K (.ref (C_InvalidPlaces K)) (.ref (C_NotRight K)) = some true ∧
  PySem.W.exmOne K (.ref (C_InvalidAmounts K)) (.ref (C_NotKnown K)) = some false ∧
  PySem.W.exmOne K (.ref (C_InvalidAmounts K)) (.ref (C_NotPossible K)) = some false ∧
  PySem.W.exmOne K (.ref (C_InvalidAmounts K)) (.ref (C_NotRight K)) = some true ∧
  PySem.W.exmOne K (.ref (C_InvalidKnots K)) (.ref (C_NotKnown K)) = some false ∧
  PySem.W.exmOne K (.ref (C_InvalidKnots K)) (.ref (C_NotPossible K)) = some false ∧
  PySem.W.exmOne K (.ref (C_InvalidKnots K)) (.ref (C_NotRight K)) = some true ∧
  PySem.W.exmOne K (.ref (C_NotACurve K)) (.ref (C_NotKnown K)) = some false
abbrev FA96 (K : PySem.W.Frag) : Prop :=
  PySem.W.exmOne K (.ref (C_NotACurve K)) (.ref (C_NotPossible K)) = some false ∧
  PySem.W.exmOne K (.ref (C_NotACurve K)) (.ref (C_NotRight K)) = some true ∧
  PySem.W.exmOne K (.ref (C_NotAFrame K)) (.ref (C_NotKnown K)) = some false ∧
  PySem.W.exmOne K (.ref (C_NotAFrame K)) (.ref (C_NotPossible K)) = some false ∧
  PySem.W.exmOne K (.ref (C_NotAFrame K)) (.ref (C_NotRight K)) = some true ∧
  PySem.W.exmOne K (.ref (C_InvalidCommand K)) (.ref (C_NotKnown K)) = some false ∧
  PySem.W.exmOne K (.ref (C_InvalidCommand K)) (.ref (C_NotPossible K)) = some false ∧
  PySem.W.exmOne K (.ref (C_InvalidCommand K)) (.ref (C_NotRight K)) = some true ∧
  PySem.W.exmOne K (.ref (C_InvalidClaim K)) (.ref (C_NotKnown K)) = some false ∧
  PySem.W.exmOne K (.ref (C_InvalidClaim K)) (.ref (C_NotPossible K)) = some false
abbrev FA97 (K : PySem.W.Frag) : Prop :=
  PySem.W.exmOne K (.ref (C_InvalidClaim K)) (.ref (C_NotRight K)) = some true ∧
  PySem.W.exmOne K (.ref (C_InvalidKnot K)) (.ref (C_NotKnown K)) = some false ∧
  PySem.W.exmOne K (.ref (C_InvalidKnot K)) (.ref (C_NotPossible K)) = some false ∧
  PySem.W.exmOne K (.ref (C_InvalidKnot K)) (.ref (C_NotRight K)) = some true ∧
  PySem.W.exmOne K (.ref (C_InvalidDegree K)) (.ref (C_NotKnown K)) = some false ∧
  PySem.W.exmOne K (.ref (C_InvalidDegree K)) (.ref (C_NotPossible K)) = some false ∧
  PySem.W.exmOne K (.ref (C_InvalidDegree K)) (.ref (C_NotRight K)) = some true ∧
  PySem.W.exmOne K (.ref (C_InvalidIndex K)) (.ref (C_NotKnown K)) = some false ∧
  PySem.W.exmOne K (.ref (C_InvalidIndex K)) (.ref (C_NotPossible K)) = some false ∧
  PySem.W.exmOne K (.ref (C_InvalidIndex K)) (.ref (C_NotRight K)) = some true
abbrev FA98 (K : PySem.W.Frag) : Prop :=
  PySem.W.exmOne K (.ref (C_InvalidName K)) (.ref (C_NotKnown K)) = some false ∧
  PySem.W.exmOne K (.ref (C_InvalidName K)) (.ref (C_NotPossible K)) = some false ∧
  PySem.W.exmOne K (.ref (C_InvalidName K)) (.ref (C_NotRight K)) = some true ∧
  PySem.W.exmOne K (.ref (C_InvalidNumber K)) (.ref (C_NotKnown K)) = some false ∧
  PySem.W.exmOne K (.ref (C_InvalidNumber K)) (.ref (C_NotPossible K)) = some false ∧
  PySem.W.exmOne K (.ref (C_InvalidNumber K)) (.ref (C_NotRight K)) = some true ∧
  PySem.W.exmOne K (.ref (C_InvalidText K)) (.ref (C_NotKnown K)) = some false ∧
  PySem.W.exmOne K (.ref (C_InvalidText K)) (.ref (C_NotPossible K)) = some false ∧
  PySem.W.exmOne K (.ref (C_InvalidText K)) (.ref (C_NotRight K)) = some true
def chkQ (K : PySem.W.Frag) : Bool := decide (FA0 K) && (decide (FA1 K) && (decide (FA2 K) && (decide (FA3 K) && (decide (FA4 K) && (decide (FA5 K) && (decide (FA6 K) && (decide (FA7 K) && (decide (FA8 K) && (decide (FA9 K) && (decide (FA10 K) && (decide (FA11 K) && (decide (FA12 K) && (decide (FA13 K) && (decide (FA14 K) && (decide (FA15 K) && (decide (FA16 K) && (decide (FA17 K) && (decide (FA18 K) && (decide (FA19 K) && (decide (FA20 K) && (decide (FA21 K) && (decide (FA22 K) && (decide (FA23 K) && (decide (FA24 K) && (decide (FA25 K) && (decide (FA26 K) && (decide (FA27 K) && (decide (FA28 K) && (decide (FA29 K) && (decide (FA30 K) && (decide (FA31 K) && (decide (FA32 K) && (decide (FA33 K) && (decide (FA34 K) && (decide (FA35 K) && (decide (FA36 K) && (decide (FA37 K) && (decide (FA38 K) && (decide (FA39 K) && (decide (FA40 K) && (decide (FA41 K) && (decide (FA42 K) && (decide (FA43 K) && (decide (FA44 K) && (decide (FA45 K) && (decide (FA46 K) && (decide (FA47 K) && (decide (FA48 K) && (decide (FA49 K) && (decide (FA50 K) && (decide (FA51 K) && (decide (FA52 K) && (decide (FA53 K) && (decide (FA54 K) && (decide (FA55 K) && (decide (FA56 K) && (decide (FA57 K) && (decide (FA58 K) && (decide (FA59 K) && (decide (FA60 K) && (decide (FA61 K) && (decide (FA62 K) && (decide (FA63 K) && (decide (FA64 K) && (decide (FA65 K) && (decide (FA66 K) && (decide (FA67 K) && (decide (FA68 K) && (decide (FA69 K) && (decide (FA70 K) && (decide (FA71 K) && (decide (FA72 K) && (decide (FA73 K) && (decide (FA74 K) && (decide (FA75 K) && (decide (FA76 K) && (decide (FA77 K) && (decide (FA78 K) && (decide (FA79 K) && (decide (FA80 K) && (decide (FA81 K) && (decide (FA82 K) && (decide (FA83 K) && (decide (FA84 K) && (decide (FA85 K) && (decide (FA86 K) && (decide (FA87 K) && (decide (FA88 K) && (decide (FA89 K) && (decide (FA90 K) && (decide (FA91 K) && (decide (FA92 K) && (decide (FA93 K) && (decide (FA94 K) && (decide (FA95 K) && (decide (FA96 K) && (decide (FA97 K) && (decide (FA98 K)))))))))))))))))))))))))))))))))))))))))))))))))))))))))))))))))))))))))))))))))))))))))))))))))))
def fnQ : List He5.DefA := [defQ ad_l_all "_law_all" "_law_all" s_l_all,
  defQ ad_l_named "_law_named" "_law_named" s_l_named,
  defQ ad_l_has "_law_has" "_law_has" s_l_has,
  defQ ad_l_bases "_law_bases" "_law_bases" s_l_bases,
  defQ ad_l_caught "_law_caught" "_law_caught" s_l_caught,
  defQ ad_l_right "_law_right" "_law_right" s_l_right,
  defQ ad_p_law "law" "law" s_p_law,
  defQ fi_Broken "__init__" "Broken.__init__" si_Broken,
  defQ fi_NotOne "__init__" "NotOne.__init__" si_NotOne,
  defQ fi_TooMany "__init__" "TooMany.__init__" si_TooMany,
  defQ fi_InUse "__init__" "InUse.__init__" si_InUse,
  defQ fi_UnknownName "__init__" "UnknownName.__init__" si_UnknownName,
  defQ fi_InvalidOffers "__init__" "InvalidOffers.__init__" si_InvalidOffers,
  defQ fi_InvalidHeights "__init__" "InvalidHeights.__init__" si_InvalidHeights,
  defQ fi_InvalidPlaces "__init__" "InvalidPlaces.__init__" si_InvalidPlaces,
  defQ fi_InvalidAmounts "__init__" "InvalidAmounts.__init__" si_InvalidAmounts,
  defQ fi_InvalidKnots "__init__" "InvalidKnots.__init__" si_InvalidKnots,
  defQ fi_NotACurve "__init__" "NotACurve.__init__" si_NotACurve,
  defQ fi_NotAFrame "__init__" "NotAFrame.__init__" si_NotAFrame,
  defQ fi_InvalidCommand "__init__" "InvalidCommand.__init__" si_InvalidCommand,
  defQ fi_InvalidClaim "__init__" "InvalidClaim.__init__" si_InvalidClaim,
  defQ fi_InvalidKnot "__init__" "InvalidKnot.__init__" si_InvalidKnot,
  defQ fi_InvalidDegree "__init__" "InvalidDegree.__init__" si_InvalidDegree,
  defQ fi_InvalidIndex "__init__" "InvalidIndex.__init__" si_InvalidIndex,
  defQ fi_InvalidName "__init__" "InvalidName.__init__" si_InvalidName,
  defQ fi_InvalidNumber "__init__" "InvalidNumber.__init__" si_InvalidNumber,
  defQ fi_InvalidText "__init__" "InvalidText.__init__" si_InvalidText]
def fsQ : List Str := (["_law_all", "_law_named", "_law_has", "_law_bases", "_law_caught", "_law_right", "law"] : List PySem.Str)
def csQ : List (Str × List Str) := [("NotRight", []), ("InvalidText", ["__init__"]), ("InvalidNumber", ["__init__"]), ("InvalidName", ["__init__"]), ("InvalidIndex", ["__init__"]), ("InvalidDegree", ["__init__"]), ("InvalidKnot", ["__init__"]), ("InvalidClaim", ["__init__"]), ("InvalidCommand", ["__init__"]), ("NotAFrame", ["__init__"]), ("NotACurve", ["__init__"]), ("InvalidKnots", ["__init__"]), ("InvalidAmounts", ["__init__"]), ("InvalidPlaces", ["__init__"]), ("InvalidHeights", ["__init__"]), ("InvalidOffers", ["__init__"]), ("NotKnown", []), ("UnknownName", ["__init__"]), ("InUse", ["__init__"]), ("NothingToUndo", []), ("NotPossible", []), ("TooMany", ["__init__"]), ("NotOne", ["__init__"]), ("Broken", ["__init__"])]
abbrev RQ : PySem.W.OpenRow := PySem.W.OpenLaw.row PySem.Challenge.rw_bentthrough_k01_limits_and_errors
def looseQ : List PySem.Str := (["NotRight", "InvalidText", "InvalidNumber", "InvalidName", "InvalidIndex", "InvalidDegree", "InvalidKnot", "InvalidClaim", "InvalidCommand", "NotAFrame", "NotACurve", "InvalidKnots", "InvalidAmounts", "InvalidPlaces", "InvalidHeights", "InvalidOffers", "NotKnown", "UnknownName", "InUse", "NothingToUndo", "NotPossible", "TooMany", "NotOne", "Broken", "MOST_DEGREE", "MOST_KNOT", "MOST_HILLS", "MOST_PLACES", "MOST_HEIGHT", "MOST_OFFERS"] : List PySem.Str) ++ (["_law_all", "_law_named", "_law_has", "_law_bases", "_law_caught", "_law_right"] : List PySem.Str)
abbrev hkQ : PySem.W.Hook := DL.hookQ (DL.asQ fsQ csQ) chkQ fnQ
abbrev obK (s : PySem.W.SharedT) : hkQ.α := DL.obQ (DL.asQ fsQ csQ) chkQ fnQ s
set_option maxHeartbeats 0 in
theorem run (w : World) : HandSHeadRun.RunEq RQ (PySem.W.view RQ.prog [38]) (DL.hookQ (DL.asQ fsQ csQ) chkQ fnQ) (DL.obQ (DL.asQ fsQ csQ) chkQ fnQ) 20000 looseQ w := by
  intro os
  kernel_rfl
end K01
namespace DL
open PySem PySem.Spec L2
open PyProof.Rows hiding St
section
variable {X : Cx} {E : EE} {es : List Expr} {x : Str} {pos : Pos} {n : Int}
theorem pp_nm (i : Nat) (hN : X.N.Nodup) (hi : X.N[i]? = some x := by rfl) (hx : Loc X.env.scope x := by first | exact Or.inl rfl | exact Or.inr rfl) (hf : X.fn x = true ∨ X.env.scope.names.lookup x = some .local := by first | exact .inl rfl | exact .inr rfl) :
    PG X (.Name x pos) (gPat X.K (.nm i)) := pg_name hN hi hx hf
theorem v_gint (h : ∃ t, X.mg x = some (.int n t)) (hg : Gl X x := by rfl) (hd : (x == ("__debug__" : Str)) = false := by decide) : VE X E (.Name x pos) (mC (.int n)) := by
  obtain ⟨t, h⟩ := h
  exact v_glob (v := .int n) hg h ⟨t, rfl⟩ (fun _ _ _ => rfl) hd
theorem v_cls {C : Addr} (h : X.mg x = some (.ref C)) (hg : Gl X x := by rfl) (hd : (x == ("__debug__" : Str)) = false := by decide) : VE X E (.Name x pos) (mC (.cls x)) :=
  v_glob (v := .ref C) hg h rfl (fun _ _ _ => ⟨C, rfl, h⟩) hd
end
def isaOf (oo : List (Str × Str × Bool)) (ob : List (Str × String × Bool)) (own : List Str) : KT → KT → Option Bool
  | .b m, .b n => isTB m n
  | .b m, .o c => if own.contains c && tyNames.contains m then some false else none
  | .o c, .o d => (oo.find? fun r => r.1 == c && r.2.1 == d).map (·.2.2)
  | .o c, .b n => (ob.find? fun r => r.1 == c && r.2.1 == n).map (·.2.2)
theorem isa_ok {K : PySem.W.Frag} {mg : Str → Option Value} {oo : List (Str × Str × Bool)} {ob : List (Str × String × Bool)} {own : List Str}
    (h1 : ∀ c d b, (c, d, b) ∈ oo → ∃ C D, mg c = some (.ref C) ∧ mg d = some (.ref D) ∧ PySem.W.kitOne K (.ref C) (.ref D) = some b)
    (h2 : ∀ c n b, (c, n, b) ∈ ob → ∃ C, mg c = some (.ref C) ∧ PySem.W.kitOne K (.ref C) (.type n) = some b)
    (h3 : ∀ c ∈ own, ∀ m ∈ tyNames, ∃ C, mg c = some (.ref C) ∧ PySem.W.kitOne K (.type m) (.ref C) = some false) :
    ∀ a b r, isaOf oo ob own a b = some r → ∀ u, ktv mg a u → ∃ w, ktv mg b w ∧ PySem.W.kitOne K u w = some r := by
  intro a b r h u hu
  cases a with
  | b m =>
    cases b with
    | b n =>
      rw [show u = _ from hu]
      exact ⟨_, rfl, kit_ty (isTB_ok h)⟩
    | o c =>
      unfold isaOf at h
      dsimp only at h
      split at h
      · rename_i hc
        rw [Bool.and_eq_true] at hc
        cases h
        obtain ⟨C, e1, e2⟩ := h3 c (by simpa using hc.1) m (by simpa using hc.2)
        rw [show u = _ from hu]
        exact ⟨_, ⟨C, rfl, e1⟩, e2⟩
      · cases h
  | o c =>
    obtain ⟨C', rfl, e0⟩ := hu
    cases b with
    | b n =>
      obtain ⟨⟨c', n', b'⟩, hf, rfl⟩ := Option.map_eq_some_iff.mp h
      have hp := List.find?_some hf
      rw [Bool.and_eq_true, beq_iff_eq, beq_iff_eq] at hp
      obtain ⟨hp1, hp2⟩ := hp
      dsimp only at hp1 hp2
      subst hp1 hp2
      obtain ⟨C, e1, e2⟩ := h2 _ _ _ (List.mem_of_find?_eq_some hf)
      rw [e0] at e1
      cases e1
      exact ⟨_, rfl, e2⟩
    | o d =>
      obtain ⟨⟨c', n', b'⟩, hf, rfl⟩ := Option.map_eq_some_iff.mp h
      have hp := List.find?_some hf
      rw [Bool.and_eq_true, beq_iff_eq, beq_iff_eq] at hp
      obtain ⟨hp1, hp2⟩ := hp
      dsimp only at hp1 hp2
      subst hp1 hp2
      obtain ⟨C, D, e1, e3, e2⟩ := h1 _ _ _ (List.mem_of_find?_eq_some hf)
      rw [e0] at e1
      cases e1
      exact ⟨_, ⟨D, rfl, e3⟩, e2⟩
def subOf (oo : List (Str × Str × Bool)) (c d : Str) : Option Bool := (oo.find? fun r => r.1 == c && r.2.1 == d).map (·.2.2)
theorem sub_ok {K : PySem.W.Frag} {mg : Str → Option Value} {oo : List (Str × Str × Bool)} (h : ∀ c d b, (c, d, b) ∈ oo → ∃ C D, mg c = some (.ref C) ∧ mg d = some (.ref D) ∧ PySem.W.exmOne K (.ref C) (.ref D) = some b) : SubOk K mg (subOf oo) := by
  intro c x b hs C hC
  obtain ⟨⟨c', d', b'⟩, hf, rfl⟩ := Option.map_eq_some_iff.mp hs
  have hp := List.find?_some hf
  rw [Bool.and_eq_true, beq_iff_eq, beq_iff_eq] at hp
  obtain ⟨hp1, hp2⟩ := hp
  dsimp only at hp1 hp2
  subst hp1 hp2
  obtain ⟨C', D, e1, e3, e2⟩ := h _ _ _ (List.mem_of_find?_eq_some hf)
  rw [hC] at e1
  cases e1
  exact ⟨D, e3, e2⟩
theorem Rm.units {k : Nat} {A : Around} (r : Rm k A) : A.units + 64 < cLine := r.room.units
end DL
namespace DL
open PySem PySem.Spec L2
open PyProof.Rows hiding St
def NxE {α : Type} (f : Ex α) : Prop := ∀ env S, (∃ d S', f env S = .ok d S') ∨ f env S = .bad
def NxG (t : D → Sm) : Prop := ∀ d env S, (∃ e S', t d env S = .nx e S') ∨ t d env S = .bad
def LenB (n : Nat) (ts : List D → Sm) : Prop := ∀ ds env S, ds.length ≠ n → ts ds env S = .bad
def NxGs (ts : List D → Sm) : Prop := ∀ ds env S, (∃ e S', ts ds env S = .nx e S') ∨ ts ds env S = .bad
end DL
namespace DL
theorem nr {α : Sort _} {a b : α} (h : a = b) : a = b := by cases h; exact Eq.refl _
open PySem PySem.Spec L2
open PyProof.Rows hiding St
@[simp] theorem gTup_tup (ts : List D → Sm) (ds : List D) (env : List Sl) (S : List Cell) : gTup' ts (.tup ds) env S = ts ds env S := nr rfl
@[simp] theorem gTup_lst (ts : List D → Sm) (ds : List D) (env : List Sl) (S : List Cell) : gTup' ts (.lst ds) env S = ts ds env S := nr rfl
@[simp] theorem asI_int (i : Int) (S : List Cell) : asI (.int i) S = .ok (some i) S := nr rfl
@[simp] theorem items_lst (xs : List D) (S : List Cell) : itemsOf (.lst xs) S = .ok xs S := nr rfl
@[simp] theorem items_tup (xs : List D) (S : List Cell) : itemsOf (.tup xs) S = .ok xs S := nr rfl
@[simp] theorem items_ro (xs : List D) (S : List Cell) : itemsOf (.ro xs) S = .ok xs S := nr rfl
@[simp] theorem bindP_nm (i : Nat) (d : D) (env : List Sl) : bindP (.nm i) d env = some (env.set i (.val d)) := by unfold bindP; rfl
@[simp] theorem bindP_tup (ps : List Pat) (ds : List D) (env : List Sl) : bindP (.tp ps) (.tup ds) env = bindPs ps ds env := by unfold bindP; rfl
@[simp] theorem bindP_lst (ps : List Pat) (ds : List D) (env : List Sl) : bindP (.tp ps) (.lst ds) env = bindPs ps ds env := by unfold bindP; rfl
@[simp] theorem bindPs_nil (env : List Sl) : bindPs [] [] env = some env := by unfold bindPs; rfl
@[simp] theorem bindPs_cons (p : Pat) (ps : List Pat) (d : D) (ds : List D) (env : List Sl) : bindPs (p :: ps) (d :: ds) env = (match bindP p d env with | some env' => bindPs ps ds env' | none => none) := by first | (rw [bindPs]; done) | (rw [bindPs]; cases bindP p d env <;> rfl)
@[simp] theorem wipeE_nil (env : List Sl) : wipeE env [] = env := nr rfl
@[simp] theorem wipeE_cons (env : List Sl) (v : Nat) (vs : List Nat) : wipeE env (v :: vs) = (wipeE env vs).set v .un := nr rfl
theorem forL_cons (p : Pat) (m : Sm) (d : D) (ds : List D) (env : List Sl) (S : List Cell) : forL p m (d :: ds) env S = (match bindP p d env with
    | none => .bad
    | some env1 => match m env1 S with
      | .nx e S' => forL p m ds e S'
      | .ct e S' => forL p m ds e S'
      | .bk e S' => .nx e S'
      | r => r) := rfl
theorem compL_pure {vs : List Nat} {p : Pat} {cond : Ex Bool} {elt : Ex D} {env : List Sl} {S : List Cell} (c : D → Bool) (f : D → D) : ∀ (ds : List D),
    (∀ d ∈ ds, ∃ env1, bindP p d (wipeE env vs) = some env1 ∧ cond env1 S = .ok (c d) S ∧ (c d = true → elt env1 S = .ok (f d) S)) →
    compL vs p cond elt ds env S = .ok ((ds.filter c).map f) S
  | [], _ => rfl
  | d :: ds, h => by
    obtain ⟨env1, e1, e2, e3⟩ := h d (by simp)
    have ih := compL_pure c f ds fun x hx => h x (by simp [hx])
    unfold compL
    rw [e1]
    dsimp only
    rw [e2, noX_ok, andThen_ok]
    cases hc : c d with
    | true => rw [if_pos rfl, e3 hc, noX_ok, andThen_ok, ih, andThen_ok, List.filter_cons_of_pos hc, List.map_cons]
    | false => rw [if_neg (by simp), ih, List.filter_cons_of_neg (by simp [hc])]
@[simp] theorem intD_int (c : Int → Int → Bool) (f : Int → Int → D) (i j : Int) (S : List Cell) : intD c f (.int i) (.int j) S = if c i j then some (f i j) else none := nr rfl
@[simp] theorem subD_int (i j : Int) (S : List Cell) : subD (.int i) (.int j) S = some (.int (i - j)) := nr rfl
@[simp] theorem ltD_int (i j : Int) (S : List Cell) : ltD (.int i) (.int j) S = some (.bl (decide (i < j))) := nr rfl
@[simp] theorem leD_int (i j : Int) (S : List Cell) : leD (.int i) (.int j) S = some (.bl (decide (i ≤ j))) := nr rfl
@[simp] theorem gtD_int (i j : Int) (S : List Cell) : gtD (.int i) (.int j) S = some (.bl (decide (j < i))) := nr rfl
@[simp] theorem geD_int (i j : Int) (S : List Cell) : geD (.int i) (.int j) S = some (.bl (decide (j ≤ i))) := nr rfl
@[simp] theorem addD_int (i j : Int) (S : List Cell) : addD (.int i) (.int j) S = some (.int (i + j)) := nr rfl
@[simp] theorem negD_int (i : Int) (S : List Cell) : negD (.int i) S = some (.int (-i)) := nr rfl
theorem modD_int {i j : Int} {S : List Cell} (h : 0 < j) : modD (.int i) (.int j) S = some (.int (i % j)) := by
  show (if decide (0 < j) = true then _ else _) = _
  rw [if_pos (by simpa using h)]
theorem powD_int {i j : Int} {S : List Cell} (h : (decide (0 ≤ j ∧ j ≤ 1000000 ∧ i.natAbs < 2 ^ 64)) = true) : powD (.int i) (.int j) S = some (.int (i ^ j.toNat)) := by
  show (if _ = true then _ else _) = _
  rw [if_pos h]
theorem log2_lt {n k : Nat} (h : n < 2 ^ k) (hk : 0 < k) : n.log2 < k := by
  by_cases hn : n = 0
  · subst hn; simpa using hk
  · exact (Nat.log2_lt hn).mpr h
end DL
namespace DL
open PySem PySem.Spec L2
open PyProof.Rows hiding St
theorem quiet_make {A : Around} (h : A.guards = some []) (C : Addr) (us : List Value) (kw : List (Str × Value)) : (A.under (.builtin "type.__call__" ⟨.ref C :: us, kw⟩)).guards = some [] := by
  simp [Around.under, Code.weight, Code.isCreation, Code.isGuard, Code.isCaller, Code.frames, Code.isFrame, guardIds, h, pushGuards, Code.guards]
theorem Rm.make {k : Nat} {A : Around} (r : Rm (k + 1) A) (C : Addr) (us : List Value) (kw : List (Str × Value)) : Rm k (A.under (.builtin "type.__call__" ⟨.ref C :: us, kw⟩)) := ⟨r.room.make C us kw, quiet_make r.quiet C us kw⟩
section
variable {K : PySem.W.Frag} {mg : Str → Option Value} {F : Fz} {ι : List Addr} {H : Hp} {S : List Cell}
end
def madeR (c : Str) (fz : Bool) (n : Nat) : Rs D → Rs D
  | .ok .non S2 => match S2[n]? with
    | some (.ins c' ns ys) => if c' = c then (if fz = true then .ok (.obj c ns ys) (S2.set n .dead) else .ok (.cell n) S2) else .bad
    | _ => .bad
  | .ex c' ns es S2 => .ex c' ns es S2
  | _ => .bad
def mMake (c : Str) (fz : Bool) (n : Nat) (m : Fn) (fa : Ex (List D)) : Ex D := fun env S => (fa env S).andThen fun xs S1 => if xs.length + 1 = n then madeR c fz S1.length (m (.cell S1.length :: xs) (S1 ++ [.ins c [] []])) else .bad
def mMakeK (c : Str) (fz : Bool) (n np nk : Nat) (p : List Nat) (m : Fn) (fa fk : Ex (List D)) : Ex D := fun env S => (fa env S).andThen fun xs S1 => if xs.length = np then (fk env S1).andThen (fun zs S2 => if zs.length = nk then
  (if (pickL p (.cell S2.length :: (xs ++ zs))).length = n then madeR c fz S2.length (m (pickL p (.cell S2.length :: (xs ++ zs))) (S2 ++ [.ins c [] []])) else .bad) else .bad) else .bad
section
variable {X : Cx} {E : EE} {e : Expr} {es : List Expr} {kws : List Keyword} {f : Ex D} {fa fk : Ex (List D)} {pos p : Pos} {c : Str} {C fI : Addr} {i n : Nat} {fd : FuncData} {ps : List Str} {m : Fn} {fz : Bool}
def FldOk (K : PySem.W.Frag) (mg : Str → Option Value) (ft : List (Str × Str)) : Prop := ∀ c f, (c, f) ∈ ft → ∀ C, mg c = some (.ref C) → Cls K C ∧ NoAttr K C f
def fldD (ft : List (Str × Str)) (f : Str) : Op1 := fun d S => match d with
  | .obj c ns xs => if ft.contains (c, f) then fieldOf f ns xs else none
  | .cell n => match S[n]? with
    | some (.ins c ns xs) => if ft.contains (c, f) then fieldOf f ns xs else none
    | _ => none
  | _ => none
def putNs (f : Str) : List Str → List Str
  | [] => [f]
  | g :: r => if g = f then g :: r else g :: putNs f r
def putXs {α : Type} (f : Str) (v : α) : List Str → List α → List α
  | [], _ => [v]
  | g :: r, x :: xs => if g = f then v :: xs else x :: putXs f v r xs
  | _ :: _, [] => []
def putFld (ft : List (Str × Str)) (f : Str) (o d : D) (S : List Cell) : Option (List Cell) := match o with
  | .cell n => match S[n]? with
    | some (.ins c ns xs) => if ft.contains (c, f) && decide (ns.length < 900) && decide (xs.length = ns.length) then some (S.set n (.ins c (putNs f ns) (putXs f d ns xs))) else none
    | _ => none
  | _ => none
def mSetF (ft : List (Str × Str)) (f : Str) (fe fo : Ex D) : Sm := fun env S => (fe env S).go env fun d S1 => (fo env S1).go env fun o S2 => match putFld ft f o d S2 with
  | some S3 => .nx env S3
  | none => .bad
end
end DL
namespace DL
open PySem PySem.Spec L2
open PyProof.Rows hiding St
def isIns (c nm : Str) (d : D) (S : List Cell) : Bool := match d with
  | .obj c' ns _ => c' == c && !ns.contains nm
  | .cell k => match S[k]? with
    | some (.ins c' ns _) => c' == c && !ns.contains nm
    | _ => false
  | _ => false
def mMeth (c nm : Str) (n : Nat) (m : Fn) (fo : Ex D) (fa : Ex (List D)) : Ex D := fun env S => (fo env S).andThen fun o S1 => if isIns c nm o S1 = true then (fa env S1).andThen (fun xs S2 => if (o :: xs).length = n then m (o :: xs) S2 else .bad) else .bad
section
variable {X : Cx} {E : EE} {e o : Expr} {es : List Expr} {f fo h : Ex D} {fa : Ex (List D)} {pos p apos : Pos} {c nm : Str} {C gI : Addr} {i n : Nat} {fd : FuncData} {ps : List Str} {m : Fn}
def isInsP (c : Str) (d : D) (S : List Cell) : Bool := match d with
  | .obj c' _ _ => c' == c
  | .cell k => match S[k]? with
    | some (.ins c' _ _) => c' == c
    | _ => false
  | _ => false
def mProp (c : Str) (m : Fn) (fo : Ex D) : Ex D := fun env S => (fo env S).andThen fun o S1 => if isInsP c o S1 = true then noX (m [o] S1) else .bad
end
end DL
namespace DL
open PySem PySem.Spec L2
open PyProof.Rows hiding St
def fnBad : Fn := fun _ _ => .bad
def sortI (ns : List Int) : List Int := ns.mergeSort fun a b => decide (a ≤ b)
def sortedD : OpN := fun xs _ => match xs with
  | [.lst a] => (intsOf a).map fun ns => .lst ((sortI ns).map .int)
  | _ => none
def flatD : D → Bool
  | .non => true
  | .bl _ => true
  | .int _ => true
  | .str _ => true
  | _ => false
def eqFl : D → D → Bool
  | .non, .non => true
  | .bl a, .bl b => a == b
  | .bl a, .int b => (if a then 1 else 0) == b
  | .int a, .bl b => a == (if b then 1 else 0)
  | .int a, .int b => a == b
  | .str a, .str b => a == b
  | _, _ => false
def inFl (x : D) (xs : List D) : Bool := xs.any fun y => eqFl y x
def inD (neg : Bool) : Op2 := fun x y S => match y with
  | .lst xs => if flatD x && xs.all flatD then some (.bl (if neg then !inFl x xs else inFl x xs)) else none
  | .tup xs => if flatD x && xs.all flatD then some (.bl (if neg then !inFl x xs else inFl x xs)) else none
  | _ => none
section
variable {X : Cx} {E : EE} {a b c e : Expr} {f : Ex D} {fa : Ex (List D)} {pos : Pos}
def mPar3 (i j l : Nat) (fa : Ex (List D)) : Sm := fun env S => (fa env S).go env fun ds S1 => match ds with
  | [d, d', d''] => .nx (((env.set i (.val d)).set j (.val d')).set l (.val d'')) S1
  | _ => .bad
end
end DL
namespace DL
open PySem PySem.Spec L2
open PyProof.Rows hiding St
section
variable {X : Cx} {E : EE} {a b c e : Expr} {f h : Ex D} {fa fo : Ex (List D)} {pos p p' p2 : Pos}
def rgD (i j : Int) : List D := (List.range (j - i).toNat).map fun k => .int (i + (k : Nat))
def okRg (i j : Int) : Bool := smallI i && smallI j && decide ((j - i).toNat ≤ 100000)
def mRg1 (f : Ex D) : Ex (List D) := fun env S => (f env S).andThen fun x S1 => match x with
  | .int j => if okRg 0 j then .ok (rgD 0 j) S1 else .bad
  | _ => .bad
def mRg2 (f h : Ex D) : Ex (List D) := fun env S => (f env S).andThen fun x S1 => (h env S1).andThen fun y S2 => match x, y with
  | .int i, .int j => if okRg i j then .ok (rgD i j) S2 else .bad
  | _, _ => .bad
def mParO (i j : Nat) (f : Ex D) (fo : Ex (List D)) : Sm := fun env S => (f env S).go env fun d S1 => (fo env S1).go env fun ds S2 => .nx ((env.set i (.val d)).set j (.own ds)) S2
end
end DL
namespace DL
open PySem PySem.Spec L2
open PyProof.Rows hiding St
section
variable {X : Cx} {E : EE} {a b : Expr} {f : Ex D} {fo : Ex (List D)} {pos : Pos}
end
end DL
namespace DL
open PySem PySem.Spec L2
open PyProof.Rows hiding St
abbrev XQ := Str → List Str → List D → List Cell → Prop
abbrev XN : XQ := fun _ _ _ _ => False
abbrev XF := Str → List Str → List D → List Sl → List Cell → Prop
class PR (α : Type) where
  Q : α → List Cell → Prop
  X : XQ
class PF where
  N : List Sl → List Cell → Prop
  R : D → List Cell → Prop
  B : List Sl → List Cell → Prop
  C : List Sl → List Cell → Prop
  X : XF
def Rs.V {α : Type} (r : Rs α) [P : PR α] : Prop := match r with
  | .ok a S => P.Q a S
  | .ex c ns ds S => P.X c ns ds S
  | .bad => False
def Fl.V (r : Fl) [P : PF] : Prop := match r with
  | .nx e S => P.N e S
  | .rt d S => P.R d S
  | .bk e S => P.B e S
  | .ct e S => P.C e S
  | .ex c ns ds e S => P.X c ns ds e S
  | .bad => False
abbrev Rs.W {α : Type} (r : Rs α) (Q : α → List Cell → Prop) (X : XQ) : Prop := @Rs.V α r ⟨Q, X⟩
abbrev Fl.W (r : Fl) (N : List Sl → List Cell → Prop) (R : D → List Cell → Prop) (B C : List Sl → List Cell → Prop) (X : XF) : Prop := @Fl.V r ⟨N, R, B, C, X⟩
abbrev PF.nx (P : PF) (N : List Sl → List Cell → Prop) : PF := ⟨N, P.R, P.B, P.C, P.X⟩
abbrev PF.rd {α : Type} (P : PF) (env : List Sl) (Q : α → List Cell → Prop) : PR α := ⟨Q, fun c ns ds S => P.X c ns ds env S⟩
abbrev PR.rd {α β : Type} (P : PR α) (Q : β → List Cell → Prop) : PR β := ⟨Q, P.X⟩
@[simp] theorem nx_N (P : PF) (N) : @PF.N (P.nx N) = N := nr rfl
@[simp] theorem nx_R (P : PF) (N) : @PF.R (P.nx N) = P.R := nr rfl
@[simp] theorem nx_B (P : PF) (N) : @PF.B (P.nx N) = P.B := nr rfl
@[simp] theorem nx_C (P : PF) (N) : @PF.C (P.nx N) = P.C := nr rfl
@[simp] theorem nx_X (P : PF) (N) : @PF.X (P.nx N) = P.X := nr rfl
@[simp] theorem frd_Q {α : Type} (P : PF) (env : List Sl) (Q : α → List Cell → Prop) : @PR.Q α (P.rd env Q) = Q := nr rfl
@[simp] theorem frd_X {α : Type} (P : PF) (env : List Sl) (Q : α → List Cell → Prop) : @PR.X α (P.rd env Q) = fun c ns ds S => P.X c ns ds env S := nr rfl
@[simp] theorem rrd_Q {α β : Type} (P : PR α) (Q : β → List Cell → Prop) : @PR.Q β (P.rd Q) = Q := nr rfl
@[simp] theorem rrd_X {α β : Type} (P : PR α) (Q : β → List Cell → Prop) : @PR.X β (P.rd Q) = P.X := nr rfl
section
variable {α β : Type} {P : PR α} {F : PF}
@[simp] theorem V_ok (a : α) (S : List Cell) : @Rs.V α (Rs.ok a S) P = P.Q a S := nr rfl
@[simp] theorem V_ex (c ns ds S) : @Rs.V α (Rs.ex c ns ds S) P = P.X c ns ds S := nr rfl
@[simp] theorem V_bad : @Rs.V α Rs.bad P = False := nr rfl
@[simp] theorem V_nx (e S) : @Fl.V (Fl.nx e S) F = F.N e S := nr rfl
@[simp] theorem V_rt (d S) : @Fl.V (Fl.rt d S) F = F.R d S := nr rfl
@[simp] theorem V_bk (e S) : @Fl.V (Fl.bk e S) F = F.B e S := nr rfl
@[simp] theorem V_ct (e S) : @Fl.V (Fl.ct e S) F = F.C e S := nr rfl
@[simp] theorem V_fex (c ns ds e S) : @Fl.V (Fl.ex c ns ds e S) F = F.X c ns ds e S := nr rfl
@[simp] theorem V_fbad : @Fl.V Fl.bad F = False := nr rfl
@[simp ↓] theorem V_andThen (r : Rs β) (h : β → List Cell → Rs α) : @Rs.V α (r.andThen h) P = @Rs.V β r (P.rd fun b S => @Rs.V α (h b S) P) := by cases r <;> rfl
@[simp ↓] theorem V_go (r : Rs α) (env : List Sl) (h : α → List Cell → Fl) : @Fl.V (r.go env h) F = @Rs.V α r (F.rd env fun a S => @Fl.V (h a S) F) := by cases r <;> rfl
@[simp ↓] theorem V_noX (r : Rs α) : @Rs.V α (noX r) P = @Rs.V α r ⟨P.Q, XN⟩ := by cases r <;> rfl
@[simp] theorem andThen_assoc {γ : Type} (r : Rs α) (h : α → List Cell → Rs β) (k : β → List Cell → Rs γ) : (r.andThen h).andThen k = r.andThen fun a S => (h a S).andThen k := by cases r <;> rfl
@[simp] theorem ofO_some' (d : D) (S : List Cell) : ofO (some d) S = .ok d S := nr rfl
@[simp] theorem ofO_none' (S : List Cell) : ofO none S = .bad := nr rfl
theorem Rs.V.to {r : Rs α} {P' : PR α} (h : @Rs.V α r P) (k : ∀ a S, P.Q a S → P'.Q a S) (x : ∀ c ns ds S, P.X c ns ds S → P'.X c ns ds S) : @Rs.V α r P' := by
  cases r with
  | ok a S => exact k a S h
  | ex c ns ds S => exact x c ns ds S h
  | bad => exact h
theorem Rs.W.on {r : Rs α} {Q : α → List Cell → Prop} {P' : PR α} (h : r.W Q XN) (k : ∀ a S, Q a S → P'.Q a S) : @Rs.V α r P' := Rs.V.to h k fun _ _ _ _ h => h.elim
theorem Rs.W.of {r : Rs α} {Q : α → List Cell → Prop} (h : r.W Q XN) : ∃ a S, r = .ok a S ∧ Q a S := by
  cases r with
  | ok a S => exact ⟨a, S, rfl, h⟩
  | ex c ns ds S => exact h.elim
  | bad => exact h.elim
theorem Rs.W.eq {r : Rs α} {v : α} {S : List Cell} (h : r.W (fun d S' => d = v ∧ S' = S) XN) : r = .ok v S := by
  obtain ⟨a, S', rfl, rfl, rfl⟩ := h.of
  rfl
theorem Rs.W.of_eq {r : Rs α} {v : α} {S : List Cell} {P : PR α} (h : r = .ok v S) (k : P.Q v S) : @Rs.V α r P := by rw [h]; exact k
theorem Fl.V.to {r : Fl} {F' : PF} (h : @Fl.V r F) (n : ∀ e S, F.N e S → F'.N e S) (t : ∀ d S, F.R d S → F'.R d S) (b : ∀ e S, F.B e S → F'.B e S) (c : ∀ e S, F.C e S → F'.C e S)
    (y : ∀ c ns ds e S, F.X c ns ds e S → F'.X c ns ds e S) : @Fl.V r F' := by
  cases r with
  | nx e S => exact n e S h
  | rt d S => exact t d S h
  | bk e S => exact b e S h
  | ct e S => exact c e S h
  | ex c ns ds e S => exact y c ns ds e S h
  | bad => exact h
section
variable (env : List Sl) (S : List Cell)
@[simp ↓] theorem V_seq (a b : Sm) : @Fl.V (mSeq a b env S) F = @Fl.V (a env S) (F.nx fun e S' => @Fl.V (b e S') F) := by
  unfold mSeq; cases a env S <;> rfl
@[simp ↓] theorem V_skip  : @Fl.V (mSkip env S) F = F.N env S := nr rfl
@[simp ↓] theorem V_set (i : Nat) (f : Ex D) : @Fl.V (mSet i f env S) F = @Rs.V D (f env S) (F.rd env fun d S1 => F.N (env.set i (.val d)) S1) := by
  unfold mSet; rw [V_go]; rfl
@[simp ↓] theorem V_setO (i : Nat) (f : Ex (List D)) : @Fl.V (mSetO i f env S) F = @Rs.V (List D) (f env S) (F.rd env fun d S1 => F.N (env.set i (.own d)) S1) := by
  unfold mSetO; rw [V_go]; rfl
@[simp ↓] theorem V_ifS (p : Ex Bool) (a b : Sm) : @Fl.V (mIfS p a b env S) F = @Rs.V Bool (p env S) (F.rd env fun b' S1 => @Fl.V (if b' = true then a env S1 else b env S1) F) := by
  unfold mIfS; rw [V_go]
@[simp ↓] theorem V_ret (f : Ex D) : @Fl.V (mRet f env S) F = @Rs.V D (f env S) (F.rd env F.R) := by
  unfold mRet; rw [V_go]; rfl
@[simp ↓] theorem V_retN  : @Fl.V (mRetN env S) F = F.R .non S := nr rfl
@[simp ↓] theorem V_expr (f : Ex D) : @Fl.V (mExpr f env S) F = @Rs.V D (f env S) (F.rd env fun _ S1 => F.N env S1) := by
  unfold mExpr; rw [V_go]; rfl
@[simp ↓] theorem V_break  : @Fl.V (mBreak env S) F = F.B env S := nr rfl
@[simp ↓] theorem V_cont  : @Fl.V (mCont env S) F = F.C env S := nr rfl
@[simp ↓] theorem V_raise (x fld : Str) (f : Ex D) : @Fl.V (mRaise x fld f env S) F = @Rs.V D (f env S) (F.rd env fun d S1 => F.X x [fld] [d] env S1) := by
  unfold mRaise; rw [V_go]; rfl
@[simp ↓] theorem V_unp (p : Pat) (f : Ex D) : @Fl.V (mUnp p f env S) F = @Rs.V D (f env S) (F.rd env fun d S1 => @Fl.V (match bindP p d env with | some env' => Fl.nx env' S1 | none => .bad) F) := by
  unfold mUnp; rw [V_go]
@[simp ↓] theorem V_par2 (i j : Nat) (f : Ex (List D)) : @Fl.V (mPar2 i j f env S) F = @Rs.V (List D) (f env S) (F.rd env fun ds S1 => @Fl.V (match ds with | [d, d'] => Fl.nx ((env.set i (.val d)).set j (.val d')) S1 | _ => .bad) F) := by
  unfold mPar2; rw [V_go]
@[simp ↓] theorem V_par3 (i j l : Nat) (f : Ex (List D)) : @Fl.V (mPar3 i j l f env S) F = @Rs.V (List D) (f env S) (F.rd env fun ds S1 => @Fl.V (match ds with | [d, d', d''] => Fl.nx (((env.set i (.val d)).set j (.val d')).set l (.val d'')) S1 | _ => .bad) F) := by
  unfold mPar3; rw [V_go]
@[simp ↓] theorem V_parO (i j : Nat) (f : Ex D) (fo : Ex (List D)) : @Fl.V (mParO i j f fo env S) F = @Rs.V D (f env S) (F.rd env fun d S1 => @Rs.V (List D) (fo env S1) (F.rd env fun ds S2 => F.N ((env.set i (.val d)).set j (.own ds)) S2)) := by
  unfold mParO; cases f env S
  · rw [go_ok, V_go]; rfl
  · rfl
  · rfl
@[simp ↓] theorem V_for (it : Ex (List D)) (p : Pat) (m : Sm) : @Fl.V (mFor it p m env S) F = @Rs.V (List D) (it env S) (F.rd env fun ds S1 => @Fl.V (forL p m ds env S1) F) := by
  unfold mFor; rw [V_go]
@[simp ↓] theorem V_asg (f : Ex D) (t : D → Sm) : @Fl.V (mAsg f t env S) F = @Rs.V D (f env S) (F.rd env fun d S1 => @Fl.V (t d env S1) F) := by
  unfold mAsg; rw [V_go]
@[simp ↓] theorem V_gname (k : Nat) (d : D) : @Fl.V (gName' k d env S) F = F.N (env.set k (.val d)) S := nr rfl
@[simp ↓] theorem V_gsub (f h : Ex D) (d : D) : @Fl.V (gSubC f h d env S) F = @Rs.V D (f env S) (F.rd env fun x S1 => @Rs.V D (h env S1) (F.rd env fun y S2 => @Fl.V (match putC x y d S2 with | some S3 => Fl.nx env S3 | none => .bad) F)) := by
  unfold gSubC; cases f env S
  · rw [go_ok, V_go]; rfl
  · rfl
  · rfl
@[simp ↓] theorem V_gtup1 (ts : List D → Sm) (ds : List D) : @Fl.V (gTup' ts (.tup ds) env S) F = @Fl.V (ts ds env S) F := nr rfl
@[simp ↓] theorem V_gtup2 (ts : List D → Sm) (ds : List D) : @Fl.V (gTup' ts (.lst ds) env S) F = @Fl.V (ts ds env S) F := nr rfl
@[simp ↓] theorem V_gnil  : @Fl.V (gNil' [] env S) F = F.N env S := nr rfl
@[simp ↓] theorem V_gcons (t : D → Sm) (ts : List D → Sm) (d : D) (r : List D) : @Fl.V (gCons' t ts (d :: r) env S) F = @Fl.V (t d env S) ⟨fun e S' => @Fl.V (ts r e S') F, fun _ _ => False, fun _ _ => False, fun _ _ => False, F.X⟩ := by
  unfold gCons'; dsimp only; cases t d env S <;> rfl
@[simp ↓] theorem V_app (k : Nat) (f : Ex D) : @Fl.V (mApp k f env S) F = @Fl.V (match env[k]? with | some (.own ds) => (f env S).go env fun d S1 => if okLen (ds.length + 1) then .nx (env.set k (.own (ds ++ [d]))) S1 else .bad | _ => .bad : Fl) F := nr rfl
@[simp ↓] theorem V_fz (k : Nat) (m : Sm) : @Fl.V (mFz k m env S) F = @Fl.V (match env[k]? with | some (.own ds) => m (env.set k (.val (.lst ds))) S | some (.val _) => m env S | _ => .bad : Fl) F := by
  unfold mFz; first | rfl | (split <;> rfl)
@[simp ↓] theorem V_setF (ft : List (Str × Str)) (f : Str) (fe fo : Ex D) : @Fl.V (mSetF ft f fe fo env S) F = @Rs.V D (fe env S) (F.rd env fun d S1 => @Rs.V D (fo env S1) (F.rd env fun o S2 => @Fl.V (match putFld ft f o d S2 with | some S3 => Fl.nx env S3 | none => .bad) F)) := by
  unfold mSetF; cases fe env S
  · rw [go_ok, V_go]; rfl
  · rfl
  · rfl
@[simp ↓] theorem V_try (sub : Str → Str → Option Bool) (m : Sm) (hs : List Hd) : @Fl.V (mTry sub m hs env S) F = @Fl.V (m env S) ⟨F.N, F.R, F.B, F.C, fun c ns ds e S' => @Fl.V (runH sub c ns ds hs e S') F⟩ := by
  unfold mTry; cases m env S <;> rfl
@[simp ↓] theorem V_runH0 (sub : Str → Str → Option Bool) (c ns ds) : @Fl.V (runH sub c ns ds [] env S) F = F.X c ns ds env S := nr rfl
@[simp ↓] theorem V_suite1 (i : Nat) (f : Fl) : @Fl.V (suiteOut (some i) f) F = @Fl.V f ⟨fun e S => F.N (e.set i .un) S, F.R, fun e S => F.B (e.set i .un) S, fun e S => F.C (e.set i .un) S, fun _ _ _ _ _ => False⟩ := by cases f <;> rfl
@[simp ↓] theorem V_suite0 (f : Fl) : @Fl.V (suiteOut none f) F = @Fl.V f ⟨F.N, F.R, F.B, F.C, fun _ _ _ _ _ => False⟩ := by cases f <;> rfl
@[simp ↓] theorem V_def (n : Nat) (m : Sm) (ds : List D) {P : PR D} : @Rs.V D (mDef n m ds S) P = @Fl.V (m (startE n ds) S) ⟨fun _ S' => P.Q .non S', P.Q, fun _ _ => False, fun _ _ => False, fun c ns es _ S' => P.X c ns es S'⟩ := by
  unfold mDef; cases m (startE n ds) S <;> rfl
end
section
variable (env : List Sl) (S : List Cell)
@[simp] theorem r_var (i : Nat) : mVar i env S = (match env[i]? with | some (.val d) => .ok d S | _ => .bad) := nr rfl
@[simp] theorem r_c (d : D) : mC d env S = .ok d S := nr rfl
@[simp ↓] theorem V_rc (d : D) {P : PR D} : @Rs.V D (mC d env S) P = P.Q d S := nr rfl
@[simp] theorem r_op (o : Op2) (f h : Ex D) : mOp o f h env S = (f env S).andThen fun x S1 => (h env S1).andThen fun y S2 => ofO (o x y S2) S2 := nr rfl
@[simp ↓] theorem V_rop (o : Op2) (f h : Ex D) {P : PR D} : @Rs.V D (mOp o f h env S) P = @Rs.V D ((f env S).andThen fun x S1 => (h env S1).andThen fun y S2 => ofO (o x y S2) S2) P := by rw [r_op]
@[simp] theorem r_un (o : Op1) (f : Ex D) : mUn o f env S = (f env S).andThen fun x S1 => ofO (o x S1) S1 := nr rfl
@[simp ↓] theorem V_run (o : Op1) (f : Ex D) {P : PR D} : @Rs.V D (mUn o f env S) P = @Rs.V D ((f env S).andThen fun x S1 => ofO (o x S1) S1) P := by rw [r_un]
@[simp] theorem r_B (f : Ex D) : mB f env S = (f env S).andThen asB := nr rfl
@[simp ↓] theorem V_rB (f : Ex D) {P : PR Bool} : @Rs.V Bool (mB f env S) P = @Rs.V Bool ((f env S).andThen asB) P := by rw [r_B]
@[simp] theorem r_not (p : Ex Bool) : mNot p env S = (p env S).andThen fun b S1 => .ok (!b) S1 := nr rfl
@[simp ↓] theorem V_rnot (p : Ex Bool) {P : PR Bool} : @Rs.V Bool (mNot p env S) P = @Rs.V Bool ((p env S).andThen fun b S1 => .ok (!b) S1) P := by rw [r_not]
@[simp] theorem r_and (p q : Ex Bool) : mAnd p q env S = (p env S).andThen fun b S1 => if b = true then q env S1 else .ok false S1 := nr rfl
@[simp ↓] theorem V_rand (p q : Ex Bool) {P : PR Bool} : @Rs.V Bool (mAnd p q env S) P = @Rs.V Bool ((p env S).andThen fun b S1 => if b = true then q env S1 else .ok false S1) P := by rw [r_and]
@[simp] theorem r_or (p q : Ex Bool) : mOr p q env S = (p env S).andThen fun b S1 => if b = true then .ok true S1 else q env S1 := nr rfl
@[simp ↓] theorem V_ror (p q : Ex Bool) {P : PR Bool} : @Rs.V Bool (mOr p q env S) P = @Rs.V Bool ((p env S).andThen fun b S1 => if b = true then .ok true S1 else q env S1) P := by rw [r_or]
@[simp] theorem r_andV (f h : Ex D) : mAndV f h env S = (mB f env S).andThen fun b S1 => if b = true then h env S1 else .ok (.bl false) S1 := nr rfl
@[simp ↓] theorem V_randV (f h : Ex D) {P : PR D} : @Rs.V D (mAndV f h env S) P = @Rs.V D ((mB f env S).andThen fun b S1 => if b = true then h env S1 else .ok (.bl false) S1) P := by rw [r_andV]
@[simp] theorem r_orV (f h : Ex D) : mOrV f h env S = (mB f env S).andThen fun b S1 => if b = true then .ok (.bl true) S1 else h env S1 := nr rfl
@[simp ↓] theorem V_rorV (f h : Ex D) {P : PR D} : @Rs.V D (mOrV f h env S) P = @Rs.V D ((mB f env S).andThen fun b S1 => if b = true then .ok (.bl true) S1 else h env S1) P := by rw [r_orV]
@[simp] theorem r_notV (f : Ex D) : mNotV f env S = (mB f env S).andThen fun b S1 => .ok (.bl (!b)) S1 := nr rfl
@[simp ↓] theorem V_rnotV (f : Ex D) {P : PR D} : @Rs.V D (mNotV f env S) P = @Rs.V D ((mB f env S).andThen fun b S1 => .ok (.bl (!b)) S1) P := by rw [r_notV]
@[simp] theorem r_if (p : Ex Bool) (f h : Ex D) : mIf p f h env S = (p env S).andThen fun b S1 => if b = true then f env S1 else h env S1 := nr rfl
@[simp ↓] theorem V_rif (p : Ex Bool) (f h : Ex D) {P : PR D} : @Rs.V D (mIf p f h env S) P = @Rs.V D ((p env S).andThen fun b S1 => if b = true then f env S1 else h env S1) P := by rw [r_if]
@[simp] theorem r_chain (o o' : Op2) (f h k : Ex D) : mChain o o' f h k env S = (f env S).andThen fun x S1 => (h env S1).andThen fun y S2 => ((ofO (o x y S2) S2).andThen asB).andThen fun b S3 =>
  if b = true then (k env S3).andThen fun z S4 => ofO (o' y z S4) S4 else .ok (.bl false) S3 := nr rfl
@[simp ↓] theorem V_rchain (o o' : Op2) (f h k : Ex D) {P : PR D} : @Rs.V D (mChain o o' f h k env S) P = @Rs.V D ((f env S).andThen fun x S1 => (h env S1).andThen fun y S2 => ((ofO (o x y S2) S2).andThen asB).andThen fun b S3 =>
  if b = true then (k env S3).andThen fun z S4 => ofO (o' y z S4) S4 else .ok (.bl false) S3) P := by rw [r_chain]
@[simp] theorem r_call (o : OpN) (fa : Ex (List D)) : mCall o fa env S = (fa env S).andThen fun xs S1 => ofO (o xs S1) S1 := nr rfl
@[simp ↓] theorem V_rcall (o : OpN) (fa : Ex (List D)) {P : PR D} : @Rs.V D (mCall o fa env S) P = @Rs.V D ((fa env S).andThen fun xs S1 => ofO (o xs S1) S1) P := by rw [r_call]
@[simp] theorem r_fn (n : Nat) (m : Fn) (fa : Ex (List D)) : mFn n m fa env S = (fa env S).andThen fun xs S1 => if xs.length = n then m xs S1 else .bad := nr rfl
@[simp ↓] theorem V_rfn (n : Nat) (m : Fn) (fa : Ex (List D)) {P : PR D} : @Rs.V D (mFn n m fa env S) P = @Rs.V D ((fa env S).andThen fun xs S1 => if xs.length = n then m xs S1 else .bad) P := by rw [r_fn]
@[simp] theorem r_fnK (n np nk : Nat) (p : List Nat) (m : Fn) (fa fk : Ex (List D)) : mFnK n np nk p m fa fk env S = (fa env S).andThen fun xs S1 => if xs.length = np then (fk env S1).andThen (fun zs S2 =>
  if zs.length = nk then (if (pickL p (xs ++ zs)).length = n then m (pickL p (xs ++ zs)) S2 else .bad) else .bad) else .bad := nr rfl
@[simp ↓] theorem V_rfnK (n np nk : Nat) (p : List Nat) (m : Fn) (fa fk : Ex (List D)) {P : PR D} : @Rs.V D (mFnK n np nk p m fa fk env S) P = @Rs.V D ((fa env S).andThen fun xs S1 => if xs.length = np then (fk env S1).andThen (fun zs S2 =>
  if zs.length = nk then (if (pickL p (xs ++ zs)).length = n then m (pickL p (xs ++ zs)) S2 else .bad) else .bad) else .bad) P := by rw [r_fnK]
@[simp] theorem r_cons (f : Ex D) (r : Ex (List D)) : mCons f r env S = (f env S).andThen fun x S1 => (r env S1).andThen fun xs S2 => .ok (x :: xs) S2 := nr rfl
@[simp ↓] theorem V_rcons (f : Ex D) (r : Ex (List D)) {P : PR (List D)} : @Rs.V (List D) (mCons f r env S) P = @Rs.V (List D) ((f env S).andThen fun x S1 => (r env S1).andThen fun xs S2 => .ok (x :: xs) S2) P := by rw [r_cons]
@[simp] theorem r_nil  : mNil env S = .ok [] S := nr rfl
@[simp ↓] theorem V_rnil  {P : PR (List D)} : @Rs.V (List D) (mNil env S) P = P.Q [] S := nr rfl
@[simp] theorem r_tup (f : Ex (List D)) : mTup f env S = (f env S).andThen fun xs S1 => if xs.length ≤ 100000 then .ok (.tup xs) S1 else .bad := nr rfl
@[simp ↓] theorem V_rtup (f : Ex (List D)) {P : PR D} : @Rs.V D (mTup f env S) P = @Rs.V D ((f env S).andThen fun xs S1 => if xs.length ≤ 100000 then .ok (.tup xs) S1 else .bad) P := by rw [r_tup]
@[simp] theorem r_lst (f : Ex (List D)) : mLst f env S = (f env S).andThen fun xs S1 => if xs.length ≤ 100000 then .ok xs S1 else .bad := nr rfl
@[simp ↓] theorem V_rlst (f : Ex (List D)) {P : PR (List D)} : @Rs.V (List D) (mLst f env S) P = @Rs.V (List D) ((f env S).andThen fun xs S1 => if xs.length ≤ 100000 then .ok xs S1 else .bad) P := by rw [r_lst]
@[simp] theorem r_fr (f : Ex (List D)) : mFr f env S = (f env S).andThen fun xs S1 => .ok (.lst xs) S1 := nr rfl
@[simp ↓] theorem V_rfr (f : Ex (List D)) {P : PR D} : @Rs.V D (mFr f env S) P = @Rs.V D ((f env S).andThen fun xs S1 => .ok (.lst xs) S1) P := by rw [r_fr]
@[simp] theorem r_cell (f : Ex (List D)) : mCell f env S = (f env S).andThen fun xs S1 => .ok (.cell S1.length) (S1 ++ [.lst xs]) := by
  unfold mCell; cases f env S <;> rfl
@[simp ↓] theorem V_rcell (f : Ex (List D)) {P : PR D} : @Rs.V D (mCell f env S) P = @Rs.V D ((f env S).andThen fun xs S1 => .ok (.cell S1.length) (S1 ++ [.lst xs])) P := by rw [r_cell]
@[simp] theorem r_slice (o : D → Option Int → Option Int → Option D) (f : Ex D) (l h : ExO) : mSlice o f l h env S = (f env S).andThen fun x S1 => (l env S1).andThen fun a S2 => (h env S2).andThen fun b S3 => ofO (o x a b) S3 := nr rfl
@[simp ↓] theorem V_rslice (o : D → Option Int → Option Int → Option D) (f : Ex D) (l h : ExO) {P : PR D} : @Rs.V D (mSlice o f l h env S) P = @Rs.V D ((f env S).andThen fun x S1 => (l env S1).andThen fun a S2 => (h env S2).andThen fun b S3 => ofO (o x a b) S3) P := by rw [r_slice]
@[simp] theorem r_noPart  : mNoPart env S = .ok none S := nr rfl
@[simp ↓] theorem V_rnoPart  {P : PR (Option Int)} : @Rs.V (Option Int) (mNoPart env S) P = P.Q none S := nr rfl
@[simp] theorem r_part (f : Ex D) : mPart f env S = (f env S).andThen asI := nr rfl
@[simp ↓] theorem V_rpart (f : Ex D) {P : PR (Option Int)} : @Rs.V (Option Int) (mPart f env S) P = @Rs.V (Option Int) ((f env S).andThen asI) P := by rw [r_part]
@[simp] theorem r_range1 (f : Ex (List D)) : mRange1 f env S = (f env S).andThen range1D := nr rfl
@[simp ↓] theorem V_rrange1 (f : Ex (List D)) {P : PR (List D)} : @Rs.V (List D) (mRange1 f env S) P = @Rs.V (List D) ((f env S).andThen range1D) P := by rw [r_range1]
@[simp] theorem r_range2 (f : Ex (List D)) : mRange2 f env S = (f env S).andThen range2D := nr rfl
@[simp ↓] theorem V_rrange2 (f : Ex (List D)) {P : PR (List D)} : @Rs.V (List D) (mRange2 f env S) P = @Rs.V (List D) ((f env S).andThen range2D) P := by rw [r_range2]
@[simp] theorem r_rangeB (f : Ex (List D)) : mRangeB f env S = (f env S).andThen rangeBD := nr rfl
@[simp ↓] theorem V_rrangeB (f : Ex (List D)) {P : PR (List D)} : @Rs.V (List D) (mRangeB f env S) P = @Rs.V (List D) ((f env S).andThen rangeBD) P := by rw [r_rangeB]
@[simp] theorem r_items (f : Ex D) : mItems f env S = (f env S).andThen itemsOf := nr rfl
@[simp ↓] theorem V_ritems (f : Ex D) {P : PR (List D)} : @Rs.V (List D) (mItems f env S) P = @Rs.V (List D) ((f env S).andThen itemsOf) P := by rw [r_items]
@[simp] theorem r_enum (f : Ex (List D)) : mEnum f env S = (f env S).andThen enumD := nr rfl
@[simp ↓] theorem V_renum (f : Ex (List D)) {P : PR (List D)} : @Rs.V (List D) (mEnum f env S) P = @Rs.V (List D) ((f env S).andThen enumD) P := by rw [r_enum]
@[simp] theorem r_zip (f : Ex (List D)) : mZip f env S = (f env S).andThen zipD := nr rfl
@[simp ↓] theorem V_rzip (f : Ex (List D)) {P : PR (List D)} : @Rs.V (List D) (mZip f env S) P = @Rs.V (List D) ((f env S).andThen zipD) P := by rw [r_zip]
@[simp] theorem r_yes  : mYes env S = .ok true S := nr rfl
@[simp ↓] theorem V_ryes  {P : PR Bool} : @Rs.V Bool (mYes env S) P = P.Q true S := nr rfl
@[simp] theorem r_comp (it : Ex (List D)) (vs : List Nat) (p : Pat) (c : Ex Bool) (e : Ex D) : mComp it vs p c e env S = (it env S).andThen fun ds S1 => if ds.length ≤ 100000 then noX (compL vs p c e ds env S1) else .bad := nr rfl
@[simp ↓] theorem V_rcomp (it : Ex (List D)) (vs : List Nat) (p : Pat) (c : Ex Bool) (e : Ex D) {P : PR (List D)} : @Rs.V (List D) (mComp it vs p c e env S) P = @Rs.V (List D) ((it env S).andThen fun ds S1 => if ds.length ≤ 100000 then noX (compL vs p c e ds env S1) else .bad) P := by rw [r_comp]
@[simp] theorem r_make (c : Str) (fz : Bool) (n : Nat) (m : Fn) (fa : Ex (List D)) : mMake c fz n m fa env S = (fa env S).andThen fun xs S1 => if xs.length + 1 = n then madeR c fz S1.length (m (.cell S1.length :: xs) (S1 ++ [.ins c [] []])) else .bad := nr rfl
@[simp ↓] theorem V_rmake (c : Str) (fz : Bool) (n : Nat) (m : Fn) (fa : Ex (List D)) {P : PR D} : @Rs.V D (mMake c fz n m fa env S) P = @Rs.V D ((fa env S).andThen fun xs S1 => if xs.length + 1 = n then madeR c fz S1.length (m (.cell S1.length :: xs) (S1 ++ [.ins c [] []])) else .bad) P := by rw [r_make]
@[simp] theorem r_makeK (c : Str) (fz : Bool) (n np nk : Nat) (p : List Nat) (m : Fn) (fa fk : Ex (List D)) : mMakeK c fz n np nk p m fa fk env S = (fa env S).andThen fun xs S1 => if xs.length = np then (fk env S1).andThen (fun zs S2 => if zs.length = nk then
  (if (pickL p (.cell S2.length :: (xs ++ zs))).length = n then madeR c fz S2.length (m (pickL p (.cell S2.length :: (xs ++ zs))) (S2 ++ [.ins c [] []])) else .bad) else .bad) else .bad := nr rfl
@[simp ↓] theorem V_rmakeK (c : Str) (fz : Bool) (n np nk : Nat) (p : List Nat) (m : Fn) (fa fk : Ex (List D)) {P : PR D} : @Rs.V D (mMakeK c fz n np nk p m fa fk env S) P = @Rs.V D ((fa env S).andThen fun xs S1 => if xs.length = np then (fk env S1).andThen (fun zs S2 => if zs.length = nk then
  (if (pickL p (.cell S2.length :: (xs ++ zs))).length = n then madeR c fz S2.length (m (pickL p (.cell S2.length :: (xs ++ zs))) (S2 ++ [.ins c [] []])) else .bad) else .bad) else .bad) P := by rw [r_makeK]
@[simp] theorem r_prop (c : Str) (m : Fn) (f : Ex D) : mProp c m f env S = (f env S).andThen fun o S1 => if isInsP c o S1 = true then noX (m [o] S1) else .bad := nr rfl
@[simp ↓] theorem V_rprop (c : Str) (m : Fn) (f : Ex D) {P : PR D} : @Rs.V D (mProp c m f env S) P = @Rs.V D ((f env S).andThen fun o S1 => if isInsP c o S1 = true then noX (m [o] S1) else .bad) P := by rw [r_prop]
@[simp] theorem r_meth (c nm : Str) (n : Nat) (m : Fn) (fo : Ex D) (fa : Ex (List D)) : mMeth c nm n m fo fa env S = (fo env S).andThen fun o S1 => if isIns c nm o S1 = true then (fa env S1).andThen (fun xs S2 => if (o :: xs).length = n then m (o :: xs) S2 else .bad) else .bad := nr rfl
@[simp ↓] theorem V_rmeth (c nm : Str) (n : Nat) (m : Fn) (fo : Ex D) (fa : Ex (List D)) {P : PR D} : @Rs.V D (mMeth c nm n m fo fa env S) P = @Rs.V D ((fo env S).andThen fun o S1 => if isIns c nm o S1 = true then (fa env S1).andThen (fun xs S2 => if (o :: xs).length = n then m (o :: xs) S2 else .bad) else .bad) P := by rw [r_meth]
@[simp] theorem r_rg1 (f : Ex D) : mRg1 f env S = (f env S).andThen fun x S1 => match x with
  | .int j => if okRg 0 j then .ok (rgD 0 j) S1 else .bad
  | _ => .bad := nr rfl
@[simp ↓] theorem V_rrg1 (f : Ex D) {P : PR (List D)} : @Rs.V (List D) (mRg1 f env S) P = @Rs.V (List D) ((f env S).andThen fun x S1 => match x with
  | .int j => if okRg 0 j then .ok (rgD 0 j) S1 else .bad
  | _ => .bad) P := by rw [r_rg1]
@[simp] theorem r_rg2 (f h : Ex D) : mRg2 f h env S = (f env S).andThen fun x S1 => (h env S1).andThen fun y S2 => match x, y with
  | .int i, .int j => if okRg i j then .ok (rgD i j) S2 else .bad
  | _, _ => .bad := nr rfl
@[simp ↓] theorem V_rrg2 (f h : Ex D) {P : PR (List D)} : @Rs.V (List D) (mRg2 f h env S) P = @Rs.V (List D) ((f env S).andThen fun x S1 => (h env S1).andThen fun y S2 => match x, y with
  | .int i, .int j => if okRg i j then .ok (rgD i j) S2 else .bad
  | _, _ => .bad) P := by rw [r_rg2]
@[simp] theorem r_noX_ok {α : Type} (a : α) (S : List Cell) : noX (.ok a S) = .ok a S := nr rfl
@[simp] theorem ite_ok {α : Type} {c : Prop} [Decidable c] (a b : α) (S : List Cell) : (if c then Rs.ok a S else Rs.ok b S) = .ok (if c then a else b) S := by split <;> rfl
@[simp] theorem ite_int {c : Prop} [Decidable c] (a b : Int) : (if c then D.int a else D.int b) = .int (if c then a else b) := by split <;> rfl
@[simp] theorem ite_bl {c : Prop} [Decidable c] (a b : Bool) : (if c then D.bl a else D.bl b) = .bl (if c then a else b) := by split <;> rfl
@[simp] theorem start_ap (n : Nat) (ds : List D) : startE n ds = ds.map .val ++ List.replicate (n - ds.length) .un := nr rfl
end
end
def inF (p : Pat) (d : D) (env : List Sl) (f : List Sl → Fl) : Fl := match bindP p d env with
  | some e => f e
  | none => .bad
def inR {α : Type} (p : Pat) (d : D) (env : List Sl) (f : List Sl → Rs α) : Rs α := match bindP p d env with
  | some e => f e
  | none => .bad
@[simp ↓] theorem inF_nm (i : Nat) (d : D) (env : List Sl) (f : List Sl → Fl) {P : PF} : @Fl.V (inF (.nm i) d env f) P = @Fl.V (f (env.set i (.val d))) P := by
  unfold inF; rw [bindP_nm]
@[simp ↓] theorem inF_tp (ps : List Pat) (d : D) (env : List Sl) (f : List Sl → Fl) {P : PF} : @Fl.V (inF (.tp ps) d env f) P = @Fl.V (match bindP (.tp ps) d env with | some e => f e | none => .bad) P := nr rfl
@[simp ↓] theorem inR_nm {α : Type} (i : Nat) (d : D) (env : List Sl) (f : List Sl → Rs α) {P : PR α} : @Rs.V α (inR (.nm i) d env f) P = @Rs.V α (f (env.set i (.val d))) P := by
  unfold inR; rw [bindP_nm]
@[simp ↓] theorem inR_tp {α : Type} (ps : List Pat) (d : D) (env : List Sl) (f : List Sl → Rs α) {P : PR α} : @Rs.V α (inR (.tp ps) d env f) P = @Rs.V α (match bindP (.tp ps) d env with | some e => f e | none => .bad) P := nr rfl
theorem inF_of {p : Pat} {d : D} {env : List Sl} {f : List Sl → Fl} {P : PF} (h : @Fl.V (inF p d env f) P) : ∃ e, bindP p d env = some e ∧ @Fl.V (f e) P := by
  unfold inF at h
  cases hb : bindP p d env with
  | none => rw [hb] at h; exact h.elim
  | some e => rw [hb] at h; exact ⟨e, rfl, h⟩
theorem inR_of {α : Type} {p : Pat} {d : D} {env : List Sl} {f : List Sl → Rs α} {P : PR α} (h : @Rs.V α (inR p d env f) P) : ∃ e, bindP p d env = some e ∧ @Rs.V α (f e) P := by
  unfold inR at h
  cases hb : bindP p d env with
  | none => rw [hb] at h; exact h.elim
  | some e => rw [hb] at h; exact ⟨e, rfl, h⟩
section
variable {N B C : List Sl → List Cell → Prop} {R : D → List Cell → Prop} {Y : Str → List Str → List D → List Sl → List Cell → Prop}
theorem for_W {p : Pat} {m : Sm} (I : Nat → List Sl → List Cell → Prop) : ∀ (ds : List D) (i : Nat) (env : List Sl) (S : List Cell), I i env S →
    (∀ (j : Nat) (d : D) (env : List Sl) (S : List Cell), ds[j]? = some d → I (i + j) env S → ∃ env1, bindP p d env = some env1 ∧ (m env1 S).W (I (i + j + 1)) R N (I (i + j + 1)) Y) →
    (∀ env S, I (i + ds.length) env S → N env S) → (forL p m ds env S).W N R B C Y
  | [], i, env, S, h, _, k => k env S h
  | d :: ds, i, env, S, h, st, k => by
    obtain ⟨env1, e1, w⟩ := st 0 d env S rfl h
    have go : ∀ e S', I (i + 0 + 1) e S' → (forL p m ds e S').W N R B C Y := fun e S' h' => for_W I ds (i + 1) e S' h' (fun j x en S hx hI => by
      have := st (j + 1) x en S (by simpa using hx) (by rw [show i + (j + 1) = i + 1 + j by omega]; exact hI)
      rw [show i + (j + 1) = i + 1 + j by omega] at this
      exact this) fun en S hI => k en S (by rw [List.length_cons, show i + (ds.length + 1) = i + 1 + ds.length by omega]; exact hI)
    rw [forL_cons, e1]
    dsimp only
    cases hm : m env1 S with
    | nx e S' => rw [hm] at w; exact go e S' w
    | ct e S' => rw [hm] at w; exact go e S' w
    | bk e S' => rw [hm] at w; exact w
    | rt d S' => rw [hm] at w; exact w
    | ex c ns es e S' => rw [hm] at w; exact w
    | bad => rw [hm] at w; exact w
theorem for_at {p : Pat} {m : Sm} {ds : List D} {env : List Sl} {S : List Cell} (I : Nat → List Sl → List Cell → Prop) (h0 : I 0 env S)
    (st : ∀ (j : Nat) (d : D) (env : List Sl) (S : List Cell), ds[j]? = some d → I j env S → (inF p d env fun e => m e S).W (I (j + 1)) R N (I (j + 1)) Y)
    (k : ∀ env S, I ds.length env S → N env S) : (forL p m ds env S).W N R B C Y :=
  for_W I ds 0 env S h0 (fun j d env S hd hI => by rw [Nat.zero_add] at hI ⊢; exact inF_of (st j d env S hd hI)) fun env S hI => k env S (by rw [Nat.zero_add] at hI; exact hI)
theorem for_rng0 {p : Pat} {m : Sm} {n : Nat} {env : List Sl} {S : List Cell} (I : Nat → List Sl → List Cell → Prop) (h0 : I 0 env S)
    (st : ∀ (j : Nat) (env : List Sl) (S : List Cell), j < n → I j env S → (inF p (.int (j : Nat)) env fun e => m e S).W (I (j + 1)) R N (I (j + 1)) Y)
    (k : ∀ env S, I n env S → N env S) : (forL p m ((List.range n).map fun k => .int (k : Nat)) env S).W N R B C Y :=
  for_at I h0 (fun j d env S hd hI => by
    rw [List.getElem?_map] at hd
    by_cases hj : j < n
    · rw [List.getElem?_range hj] at hd
      cases hd
      exact st j env S hj hI
    · rw [List.getElem?_eq_none (by simpa using hj)] at hd
      cases hd) fun env S hI => k env S (by simpa using hI)
theorem comp_W {vs : List Nat} {p : Pat} {cond : Ex Bool} {elt : Ex D} {env : List Sl} (I : Nat → List D → List Cell → Prop) : ∀ (ds : List D) (i : Nat) (acc : List D) (S : List Cell) (Q : List D → List Cell → Prop) (X : XQ), I i acc S →
    (∀ (j : Nat) (d : D) (acc : List D) (S : List Cell), ds[j]? = some d → I (i + j) acc S → ∃ env1, bindP p d (wipeE env vs) = some env1 ∧ (cond env1 S).W (fun b S1 => (b = false → I (i + j + 1) acc S1) ∧ (b = true → (elt env1 S1).W (fun x S2 => I (i + j + 1) (acc ++ [x]) S2) XN)) XN) →
    (∀ acc' S', I (i + ds.length) (acc ++ acc') S' → Q acc' S') → (compL vs p cond elt ds env S).W Q X
  | [], i, acc, S, Q, X, h, _, k => k [] S (by rw [List.append_nil]; exact h)
  | d :: ds, i, acc, S, Q, X, h, st, k => by
    obtain ⟨env1, e1, w⟩ := st 0 d acc S rfl h
    have go : ∀ acc2 S' (Q' : List D → List Cell → Prop), I (i + 0 + 1) acc2 S' → (∀ acc' S'', I (i + (ds.length + 1)) (acc2 ++ acc') S'' → Q' acc' S'') → (compL vs p cond elt ds env S').W Q' X := fun acc2 S' Q' h' k' =>
      comp_W I ds (i + 1) acc2 S' Q' X h' (fun j x a S hx hI => by
        have := st (j + 1) x a S (by simpa using hx) (by rw [show i + (j + 1) = i + 1 + j by omega]; exact hI)
        rw [show i + (j + 1) = i + 1 + j by omega] at this
        exact this) fun a S hI => k' a S (by rw [show i + (ds.length + 1) = i + 1 + ds.length by omega]; exact hI)
    unfold compL
    rw [e1]
    dsimp only
    show @Rs.V _ _ ⟨Q, X⟩
    rw [V_andThen, V_noX]
    refine Rs.W.on w fun b S1 ⟨h1, h2⟩ => ?_
    change Rs.W (if _ = true then _ else _) Q X
    cases b with
    | false =>
      rw [if_neg (by simp)]
      exact go acc S1 Q (h1 rfl) fun a S hI => k a S hI
    | true =>
      rw [if_pos rfl]
      change @Rs.V _ _ ⟨Q, X⟩
      rw [V_andThen, V_noX]
      refine Rs.W.on (h2 rfl) fun x S2 h3 => ?_
      change @Rs.V _ ((compL vs p cond elt ds env S2).andThen fun xs S3 => Rs.ok (x :: xs) S3) ⟨Q, X⟩
      rw [V_andThen]
      exact go (acc ++ [x]) S2 _ h3 fun a S hI => k (x :: a) S (by simpa using hI)
theorem comp_at {vs : List Nat} {p : Pat} {cond : Ex Bool} {elt : Ex D} {env : List Sl} {ds : List D} {S : List Cell} {Q : List D → List Cell → Prop} {X : XQ} (I : Nat → List D → List Cell → Prop) (h0 : I 0 [] S)
    (st : ∀ (j : Nat) (d : D) (acc : List D) (S : List Cell), ds[j]? = some d → I j acc S → (inR p d (wipeE env vs) fun e => (cond e S).andThen fun b S1 => if b = true then (elt e S1).andThen fun x S2 => .ok [x] S2 else .ok [] S1).W (fun xs S2 => I (j + 1) (acc ++ xs) S2) XN)
    (k : ∀ acc' S', I ds.length acc' S' → Q acc' S') : (compL vs p cond elt ds env S).W Q X :=
  comp_W I ds 0 [] S Q X h0 (fun j d a S hd hI => by
    rw [Nat.zero_add] at hI ⊢
    obtain ⟨e, e1, h⟩ := inR_of (st j d a S hd hI)
    rw [V_andThen] at h
    refine ⟨e, e1, Rs.V.to h (fun b S1 h => ⟨fun hb => ?_, fun hb => ?_⟩) fun _ _ _ _ h => h⟩
    · subst hb
      have h : I (j + 1) (a ++ []) S1 := h
      rw [List.append_nil] at h
      exact h
    · subst hb
      have h : @Rs.V _ ((elt e S1).andThen fun x S2 => .ok [x] S2) ⟨fun xs S2 => I (j + 1) (a ++ xs) S2, XN⟩ := h
      rw [V_andThen] at h
      exact h) fun a S hI => k a S (by rw [Nat.zero_add, List.nil_append] at hI; exact hI)
theorem comp_map {vs : List Nat} {p : Pat} {elt : Ex D} {env : List Sl} {S : List Cell} (f : D → D) (ds : List D) (h : ∀ d ∈ ds, (inR p d (wipeE env vs) fun e => elt e S).W (fun x S' => x = f d ∧ S' = S) XN) : compL vs p mYes elt ds env S = .ok (ds.map f) S := by
  rw [compL_pure (fun _ => true) f ds fun d hd => by obtain ⟨e, h1, h2⟩ := inR_of (h d hd); exact ⟨e, h1, rfl, fun _ => Rs.W.eq h2⟩]
  rw [List.filter_eq_self.mpr fun _ _ => rfl]
theorem comp_fm {vs : List Nat} {p : Pat} {cond : Ex Bool} {elt : Ex D} {env : List Sl} {S : List Cell} {α : Type} (g : α → D) (c : α → Bool) (f : α → D) (as : List α) (h : ∀ a ∈ as, (inR p (g a) (wipeE env vs) fun e => (cond e S).andThen fun b S1 => if b = true then (elt e S1).andThen fun x S2 => .ok [x] S2 else .ok [] S1).W (fun xs S2 => xs = (if c a = true then [f a] else []) ∧ S2 = S) XN) :
    compL vs p cond elt (as.map g) env S = .ok ((as.filter c).map f) S := by
  induction as with
  | nil => rfl
  | cons a r ih =>
    obtain ⟨env1, e1, e2⟩ := inR_of (h a (by simp))
    have ih := ih fun x hx => h x (by simp [hx])
    rw [List.map_cons]
    unfold compL
    rw [e1]
    dsimp only
    cases hcd : cond env1 S with
    | bad => rw [hcd] at e2; exact e2.elim
    | ex c ns ds S1 => rw [hcd] at e2; exact e2.elim
    | ok b S1 =>
      rw [hcd] at e2
      rw [noX_ok, andThen_ok]
      rw [andThen_ok] at e2
      cases b with
      | false =>
        obtain ⟨h1, h2⟩ : [] = (if c a = true then [f a] else []) ∧ S1 = S := e2
        subst h2
        have hc : ¬ c a = true := fun z => by rw [if_pos z] at h1; cases h1
        rw [if_neg (by simp), ih, List.filter_cons_of_neg hc]
      | true =>
        rw [if_pos rfl] at e2 ⊢
        cases hel : elt env1 S1 with
        | bad => rw [hel] at e2; exact e2.elim
        | ex c ns ds S1 => rw [hel] at e2; exact e2.elim
        | ok x S2 =>
          rw [hel] at e2
          obtain ⟨h1, h2⟩ : [x] = (if c a = true then [f a] else []) ∧ S2 = S := e2
          subst h2
          have hc : c a = true := by
            by_cases z : c a = true
            · exact z
            · rw [if_neg z] at h1; cases h1
          rw [if_pos hc] at h1
          cases h1
          rw [noX_ok, andThen_ok, ih, andThen_ok, List.filter_cons_of_pos hc, List.map_cons]
theorem comp_gm {vs : List Nat} {p : Pat} {elt : Ex D} {env : List Sl} {S : List Cell} {α : Type} (g : α → D) (f : α → D) (as : List α) (h : ∀ a ∈ as, (inR p (g a) (wipeE env vs) fun e => elt e S).W (fun x S' => x = f a ∧ S' = S) XN) :
    compL vs p mYes elt (as.map g) env S = .ok (as.map f) S := by
  have := comp_fm (vs := vs) (p := p) (cond := mYes) (elt := elt) (env := env) (S := S) g (fun _ => true) f as fun a ha => by
    obtain ⟨e, e1, h1⟩ := inR_of (h a ha)
    unfold inR
    rw [e1]
    dsimp only
    have h2 : elt e S = .ok (f a) S := Rs.W.eq h1
    simp [h2]
  rw [this, List.filter_eq_self.mpr fun _ _ => rfl]
end
end DL
namespace DL
open PySem PySem.Spec L2
open PyProof.Rows hiding St
@[simp] theorem ix_tup (xs : List D) (i : Int) (S : List Cell) : ixD (.tup xs) (.int i) S = L2.atI xs i := nr rfl
@[simp] theorem ix_lst (xs : List D) (i : Int) (S : List Cell) : ixD (.lst xs) (.int i) S = L2.atI xs i := nr rfl
@[simp] theorem ix_ro (xs : List D) (i : Int) (S : List Cell) : ixD (.ro xs) (.int i) S = L2.atI xs i := nr rfl
@[simp] theorem ix_cellD (n : Nat) (i : Int) (S : List Cell) : ixD (.cell n) (.int i) S = (match S[n]? with | some (.lst xs) => L2.atI xs i | _ => none) := nr rfl
@[simp] theorem put_cellD (n : Nat) (j : Int) (d : D) (S : List Cell) : putC (.cell n) (.int j) d S = (match S[n]? with | some (.lst xs) => (ixN xs.length j).map fun m => S.set n (.lst (xs.set m d)) | _ => none) := nr rfl
@[simp] theorem len_cellD (n : Nat) (S : List Cell) : lenD [.cell n] S = (match S[n]? with | some (.lst xs) => some (.int (xs.length : Nat)) | _ => none) := nr rfl
@[simp] theorem at_0 {α : Type} (x : α) (r : List α) : L2.atI (x :: r) 0 = some x := by
  unfold L2.atI ixN
  rw [if_pos (Int.le_refl 0), if_pos (by simp)]
  rfl
@[simp] theorem at_1 {α : Type} (x y : α) (r : List α) : L2.atI (x :: y :: r) 1 = some y := by
  unfold L2.atI ixN
  rw [if_pos (by decide), if_pos (by simp only [List.length_cons]; omega)]
  rfl
@[simp] theorem at_2 {α : Type} (x y z : α) (r : List α) : L2.atI (x :: y :: z :: r) 2 = some z := by
  unfold L2.atI ixN
  rw [if_pos (by decide), if_pos (by simp only [List.length_cons]; omega)]
  rfl
@[simp] theorem at_3 {α : Type} (x y z u : α) (r : List α) : L2.atI (x :: y :: z :: u :: r) 3 = some u := by
  unfold L2.atI ixN
  rw [if_pos (by decide), if_pos (by simp only [List.length_cons]; omega)]
  rfl
theorem at_ok {α : Type} {xs : List α} {i : Int} (h0 : 0 ≤ i) (h1 : i < (xs.length : Nat)) : L2.atI xs i = some (xs[i.toNat]'(by omega)) := by
  unfold L2.atI ixN
  rw [if_pos h0, if_pos (by omega), Option.bind_some, List.getElem?_eq_getElem]
theorem at_nat {α : Type} {xs : List α} {k : Nat} (h : k < xs.length) : L2.atI xs (k : Int) = some xs[k] := by
  rw [at_ok (by omega) (by omega)]
  rfl
theorem at_last {α : Type} {xs : List α} (h : xs ≠ []) : L2.atI xs (-1) = some (xs.getLast h) := by
  have hl : 0 < xs.length := List.length_pos_iff.mpr h
  unfold L2.atI ixN
  rw [if_neg (by decide), if_pos (by omega), Option.bind_some, List.getLast_eq_getElem]
  rw [show ((-1 : Int) + (xs.length : Nat)).toNat = xs.length - 1 by omega, List.getElem?_eq_getElem]
def kt (ks : List Int) (k : Nat) : Int := ks.getD k 0
@[simp] theorem eq_int (i j : Int) (S : List Cell) : eqD (.int i) (.int j) S = some (.bl (decide (i = j))) := nr rfl
@[simp] theorem ne_int (i j : Int) (S : List Cell) : neD (.int i) (.int j) S = some (.bl (!decide (i = j))) := nr rfl
@[simp] theorem eq_bl (i j : Bool) (S : List Cell) : eqD (.bl i) (.bl j) S = some (.bl (decide (i = j))) := by cases i <;> cases j <;> rfl
@[simp] theorem ne_bl (i j : Bool) (S : List Cell) : neD (.bl i) (.bl j) S = some (.bl (!decide (i = j))) := by cases i <;> cases j <;> rfl
@[simp] theorem eq_str (a b : Str) (S : List Cell) : eqD (.str a) (.str b) S = some (.bl (decide (a = b))) := nr rfl
@[simp] theorem ne_str (a b : Str) (S : List Cell) : neD (.str a) (.str b) S = some (.bl (!decide (a = b))) := nr rfl
@[simp] theorem toInt_int (i : Int) (S : List Cell) : toIntD [.int i] S = some (.int i) := nr rfl
@[simp] theorem toInt_bl (b : Bool) (S : List Cell) : toIntD [.bl b] S = some (.int (if b = true then 1 else 0)) := nr rfl
@[simp] theorem abs_int (i : Int) (S : List Cell) : absD [.int i] S = some (.int (if i < 0 then -i else i)) := nr rfl
@[simp] theorem max_int (i j : Int) (S : List Cell) : maxD [.int i, .int j] S = some (.int (if j > i then j else i)) := nr rfl
@[simp] theorem min_int (i j : Int) (S : List Cell) : minD [.int i, .int j] S = some (.int (if j < i then j else i)) := nr rfl
@[simp] theorem len_lst (xs : List D) (S : List Cell) : lenD [.lst xs] S = some (.int (xs.length : Nat)) := nr rfl
@[simp] theorem len_tup (xs : List D) (S : List Cell) : lenD [.tup xs] S = some (.int (xs.length : Nat)) := nr rfl
@[simp] theorem len_ro (xs : List D) (S : List Cell) : lenD [.ro xs] S = some (.int (xs.length : Nat)) := nr rfl
@[simp] theorem tuple_lst (xs : List D) (S : List Cell) : tupleD [.lst xs] S = some (.tup xs) := nr rfl
@[simp] theorem list_tup (xs : List D) (S : List Cell) : listD [.tup xs] S = some (.lst xs) := nr rfl
theorem range1_ok {n : Nat} (h : n ≤ 1000000000) (S : List Cell) : range1D [.int (n : Nat)] S = .ok ((List.range n).map fun k => .int (k : Nat)) S := by
  show (if smallI (n : Nat) then Rs.ok ((List.range ((n : Nat) : Int).toNat).map fun i => D.int (i : Nat)) S else .bad) = _
  rw [if_pos (by unfold smallI; exact decide_eq_true (by omega)), Int.toNat_natCast]
theorem range1_int {i : Int} {n : Nat} (e : i = (n : Nat)) (h : n ≤ 1000000000) (S : List Cell) : range1D [.int i] S = .ok ((List.range n).map fun k => .int (k : Nat)) S := by rw [e, range1_ok h]
theorem mul_lst {xs : List D} {j : Int} {S : List Cell} (h0 : -1000000000 ≤ j ∧ j ≤ 1000000000) (h : okLen (xs.length * j.toNat) = true) : mulD (.lst xs) (.int j) S = some (.lst (List.replicate j.toNat xs).flatten) := by
  show (if _ = true then some (D.lst (List.replicate j.toNat xs).flatten) else none) = _
  rw [if_pos (by rw [h, Bool.and_true]; exact decide_eq_true (by omega))]
theorem add_lst {xs ys : List D} {S : List Cell} (h : xs.length + ys.length ≤ 100000) : addD (.lst xs) (.lst ys) S = some (.lst (xs ++ ys)) := by
  show (if _ = true then _ else _) = _
  rw [if_pos (by unfold okLen; exact decide_eq_true h)]
theorem cut_to {xs : List D} {k : Int} (h : 0 ≤ k) : cutD xs none (some k) = xs.take k.toNat := by
  obtain ⟨m, rfl⟩ := Int.eq_ofNat_of_zero_le h
  unfold cutD
  rw [HT.sIx_none, HT.sIx_nat, List.drop_zero, Nat.sub_zero, Int.toNat_natCast]
  rw [List.take_eq_take_iff]
  omega
@[simp] theorem sl_tup (xs : List D) (a b : Option Int) : sliceD (.tup xs) a b = some (.tup (cutD xs a b)) := nr rfl
@[simp] theorem sl_lst (xs : List D) (a b : Option Int) : sliceD (.lst xs) a b = some (.lst (cutD xs a b)) := nr rfl
@[simp] theorem sl_ro (xs : List D) (a b : Option Int) : sliceD (.ro xs) a b = some (.lst (cutD xs a b)) := nr rfl
def frD (q : Rat) : D := .tup [.int q.num, .int (q.den : Nat)]
def Sz (n : Nat) (q : Rat) : Prop := q.num.natAbs < 2 ^ n ∧ q.den < 2 ^ n
theorem Sz.mono {n m : Nat} {q : Rat} (h : Sz n q) (hm : n ≤ m) : Sz m q :=
  ⟨Nat.lt_of_lt_of_le h.1 (Nat.pow_le_pow_right (by decide) hm), Nat.lt_of_lt_of_le h.2 (Nat.pow_le_pow_right (by decide) hm)⟩
theorem Sz.neg {a : Rat} {n : Nat} (h : Sz n a) : Sz n (-a) := ⟨by rw [Rat.neg_num, Int.natAbs_neg]; exact h.1, h.2⟩
theorem Sz.zero : Sz 1 0 := by constructor <;> decide
theorem Sz.one : Sz 1 1 := by constructor <;> decide
def Kp (n : Nat) (S S' : List Cell) : Prop := S.length ≤ S'.length ∧ ∀ m, m ≠ n → m < S.length → S'[m]? = S[m]?
theorem Kp.refl {n : Nat} {S : List Cell} : Kp n S S := ⟨Nat.le_refl _, fun _ _ _ => rfl⟩
theorem Kp.trans {n : Nat} {S S1 S2 : List Cell} (a : Kp n S S1) (b : Kp n S1 S2) : Kp n S S2 := ⟨Nat.le_trans a.1 b.1, fun m h h' => (b.2 m h (Nat.lt_of_lt_of_le h' a.1)).trans (a.2 m h h')⟩
theorem Kp.set {n : Nat} {S : List Cell} {c : Cell} : Kp n S (S.set n c) := ⟨by simp, fun m h _ => by rw [List.getElem?_set_ne (Ne.symm h)]⟩
theorem Kp.app {n : Nat} {S T : List Cell} : Kp n S (S ++ T) := ⟨by simp, fun m _ h => List.getElem?_append_left h⟩
@[simp] theorem made_ex {c : Str} {fz : Bool} {n : Nat} (c' : Str) (ns : List Str) (es : List D) (S : List Cell) : madeR c fz n (.ex c' ns es S) = .ex c' ns es S := nr rfl
end DL
namespace DL
open PySem PySem.Spec L2
open PyProof.Rows hiding St
def Pl (b : Nat) : Nat → D → Prop
  | _, .non => True
  | _, .bl _ => True
  | _, .int i => i.natAbs.log2 < b
  | _, .str s => PyData.strOk s = true
  | n + 1, .tup xs => ∀ x ∈ xs, Pl b n x
  | n + 1, .lst xs => ∀ x ∈ xs, Pl b n x
  | n + 1, .ro xs => ∀ x ∈ xs, Pl b n x
  | _, _ => False
def Pq : Nat → D → Prop
  | _, .non => True
  | _, .bl _ => True
  | _, .int i => True
  | _, .str s => PyData.strOk s = true
  | n + 1, .tup xs => ∀ x ∈ xs, Pq n x
  | n + 1, .lst xs => ∀ x ∈ xs, Pq n x
  | n + 1, .ro xs => ∀ x ∈ xs, Pq n x
  | _, _ => False
@[simp] theorem Pl_non (b n : Nat) : Pl b n .non = True := by cases n <;> rfl
@[simp] theorem Pl_bl (b n : Nat) (v : Bool) : Pl b n (.bl v) = True := by cases n <;> rfl
@[simp] theorem Pl_int (b n : Nat) (i : Int) : Pl b n (.int i) = (i.natAbs.log2 < b) := by cases n <;> rfl
@[simp] theorem Pl_str (b n : Nat) (s : Str) : Pl b n (.str s) = (PyData.strOk s = true) := by cases n <;> rfl
@[simp] theorem Pl_tup (b n : Nat) (xs : List D) : Pl b (n + 1) (.tup xs) = ∀ x ∈ xs, Pl b n x := rfl
@[simp] theorem Pl_lst (b n : Nat) (xs : List D) : Pl b (n + 1) (.lst xs) = ∀ x ∈ xs, Pl b n x := rfl
@[simp] theorem Pq_non (n : Nat) : Pq n .non = True := by cases n <;> rfl
@[simp] theorem Pq_bl (n : Nat) (b : Bool) : Pq n (.bl b) = True := by cases n <;> rfl
@[simp] theorem Pq_int (n : Nat) (i : Int) : Pq n (.int i) = True := by cases n <;> rfl
@[simp] theorem Pq_str (n : Nat) (s : Str) : Pq n (.str s) = (PyData.strOk s = true) := by cases n <;> rfl
@[simp] theorem Pq_tup (n : Nat) (xs : List D) : Pq (n + 1) (.tup xs) = ∀ x ∈ xs, Pq n x := rfl
@[simp] theorem Pq_lst (n : Nat) (xs : List D) : Pq (n + 1) (.lst xs) = ∀ x ∈ xs, Pq n x := rfl
theorem log2_small {i : Int} (n : Nat) {b : Nat} (h : i.natAbs < 2 ^ n) (hn : 0 < n := by decide) (h2 : n ≤ b := by decide) : i.natAbs.log2 < b := Nat.lt_of_lt_of_le (log2_lt h hn) h2
mutual
def wt : D → Nat
  | .int i => if i == 0 then 0 else i.natAbs.log2 + 1
  | .str s => s.cps.size
  | .tup xs => wts xs
  | .lst xs => wts xs
  | .ro xs => wts xs
  | _ => 0
def wts : List D → Nat
  | [] => 0
  | x :: xs => wt x + 1 + wts xs
end
@[simp] theorem wts_nil : wts [] = 0 := rfl
@[simp] theorem wts_cons (x : D) (xs : List D) : wts (x :: xs) = wt x + 1 + wts xs := rfl
@[simp] theorem wt_tup (xs : List D) : wt (.tup xs) = wts xs := rfl
@[simp] theorem wt_lst (xs : List D) : wt (.lst xs) = wts xs := rfl
@[simp] theorem wt_non : wt .non = 0 := rfl
@[simp] theorem wt_bl (b : Bool) : wt (.bl b) = 0 := rfl
@[simp] theorem wt_str (s : Str) : wt (.str s) = s.cps.size := rfl
theorem wts_le {xs : List D} {b : Nat} (h : ∀ x ∈ xs, wt x ≤ b) : wts xs ≤ xs.length * (b + 1) := by
  induction xs with
  | nil => simp
  | cons x r ih =>
    have h1 := h x (by simp)
    have h2 := ih fun y hy => h y (by simp [hy])
    rw [wts_cons, List.length_cons, Nat.succ_mul]
    omega
theorem wt_int_le {i : Int} {n : Nat} (h : i.natAbs < 2 ^ n) (hn : 0 < n := by decide) : wt (.int i) ≤ n := by
  show (if (i == 0) = true then 0 else i.natAbs.log2 + 1) ≤ n
  have := log2_lt h hn
  split <;> omega
theorem Pl.pq {b : Nat} : ∀ (n : Nat) (d : D), Pl b n d → Pq n d := by
  intro n
  induction n with
  | zero => intro d h; cases d <;> first | exact h | exact True.intro
  | succ n ih =>
    intro d h
    cases d with
    | tup xs => exact fun x hx => ih x (h x hx)
    | lst xs => exact fun x hx => ih x (h x hx)
    | ro xs => exact fun x hx => ih x (h x hx)
    | int i => exact True.intro
    | _ => exact h
theorem pq_toP {b : Nat} (hb : 7 ≤ b ∧ b ≤ 1900) : ∀ (n : Nat) (d : D), Pq n d → ∃ p, toP d = some p ∧ p.canLay0 = true ∧ p.depth ≤ n ∧ p.hasDict = false ∧ p.weight = wt d ∧ PyData.eqv p p = true ∧ (Pl b n d → p.showable = true ∧ p.leavesShort (b + 1) = true) := by
  have lists : ∀ (n : Nat), (∀ (d : D), Pq n d → ∃ p, toP d = some p ∧ p.canLay0 = true ∧ p.depth ≤ n ∧ p.hasDict = false ∧ p.weight = wt d ∧ PyData.eqv p p = true ∧ (Pl b n d → p.showable = true ∧ p.leavesShort (b + 1) = true)) →
      ∀ (xs : List D), (∀ x ∈ xs, Pq n x) → ∃ ps, toPs xs = some ps ∧ PyData.canLayAll0 ps = true ∧ PyData.depthAll ps ≤ n ∧ PyData.hasDictAll ps = false ∧ PyData.weightAll ps = wts xs ∧ PyData.eqvAll ps ps = true ∧ ((∀ x ∈ xs, Pl b n x) → PyData.showableAll ps = true ∧ PyData.leavesShortAll (b + 1) ps = true) := by
    intro n ih xs
    induction xs with
    | nil => intro _; exact ⟨[], rfl, rfl, Nat.zero_le _, rfl, rfl, rfl, fun _ => ⟨rfl, rfl⟩⟩
    | cons x r ihr =>
      intro h
      obtain ⟨p, a1, a2, a3, a4, a5, a6, a7⟩ := ih x (h x (by simp))
      obtain ⟨ps, b1, b2, b3, b4, b5, b6, b7⟩ := ihr fun y hy => h y (by simp [hy])
      refine ⟨p :: ps, ?_, ?_, ?_, ?_, ?_, ?_, fun hp => ?_⟩
      · unfold toPs; rw [a1, b1]
      · unfold PyData.canLayAll0; rw [a2, b2]; rfl
      · unfold PyData.depthAll; omega
      · unfold PyData.hasDictAll; rw [a4, b4]; rfl
      · unfold PyData.weightAll; rw [a5, b5]; rfl
      · unfold PyData.eqvAll; rw [a6, b6]; rfl
      · obtain ⟨c1, c2⟩ := a7 (hp x (by simp))
        obtain ⟨c3, c4⟩ := b7 fun y hy => hp y (by simp [hy])
        unfold PyData.showableAll PyData.leavesShortAll
        rw [c1, c2, c3, c4]
        exact ⟨rfl, rfl⟩
  have leaf : ∀ (n : Nat) (d : D), (∀ xs, d ≠ .tup xs) → (∀ xs, d ≠ .lst xs) → (∀ xs, d ≠ .ro xs) → Pq n d → ∃ p, toP d = some p ∧ p.canLay0 = true ∧ p.depth ≤ n ∧ p.hasDict = false ∧ p.weight = wt d ∧ PyData.eqv p p = true ∧ (Pl b n d → p.showable = true ∧ p.leavesShort (b + 1) = true) := by
    intro n d h1 h2 h3 h
    cases d with
    | non => exact ⟨.none, rfl, rfl, Nat.zero_le _, rfl, rfl, rfl, fun _ => ⟨rfl, rfl⟩⟩
    | bl v => exact ⟨.bool v, rfl, rfl, Nat.zero_le _, rfl, rfl, by cases v <;> rfl, fun _ => ⟨rfl, rfl⟩⟩
    | int i =>
      refine ⟨.int i, rfl, rfl, Nat.zero_le _, rfl, rfl, by show (i == i) = true; simp, fun hp => ?_⟩
      have hp : i.natAbs.log2 < b := by simpa using hp
      refine ⟨decide_eq_true (by omega), ?_⟩
      have := int_text_length_le (a := i) (k := b) (by omega) hp
      rw [← PySem.ofString_length] at this
      exact decide_eq_true this
    | str s =>
      have hs : PyData.strOk s = true := by simpa using h
      refine ⟨.str s, rfl, hs, Nat.zero_le _, rfl, rfl, by show (s == s) = true; simp, fun hp => ⟨rfl, ?_⟩⟩
      have := PyData.leavesShort_of_canLay0 (b + 1) (.str s) hs rfl
      exact this
    | tup xs => exact absurd rfl (h1 xs)
    | lst xs => exact absurd rfl (h2 xs)
    | ro xs => exact absurd rfl (h3 xs)
    | _ => cases n <;> exact h.elim
  intro n
  induction n with
  | zero =>
    intro d h
    refine leaf 0 d (fun xs e => ?_) (fun xs e => ?_) (fun xs e => ?_) h <;> subst e <;> exact h.elim
  | succ n ih =>
    intro d h
    cases d with
    | tup xs =>
      obtain ⟨ps, b1, b2, b3, b4, b5, b6, b7⟩ := lists n ih xs h
      exact ⟨.tuple ps, by unfold toP; rw [b1]; rfl, b2, by show PyData.depthAll ps + 1 ≤ n + 1; omega, b4, b5, b6, fun hp => b7 hp⟩
    | lst xs =>
      obtain ⟨ps, b1, b2, b3, b4, b5, b6, b7⟩ := lists n ih xs h
      exact ⟨.list ps, by unfold toP; rw [b1]; rfl, b2, by show PyData.depthAll ps + 1 ≤ n + 1; omega, b4, b5, b6, fun hp => b7 hp⟩
    | ro xs =>
      obtain ⟨ps, b1, b2, b3, b4, b5, b6, b7⟩ := lists n ih xs h
      exact ⟨.list ps, by unfold toP; rw [b1]; rfl, b2, by show PyData.depthAll ps + 1 ≤ n + 1; omega, b4, b5, b6, fun hp => b7 hp⟩
    | _ => exact leaf (n + 1) _ (fun _ e => by cases e) (fun _ e => by cases e) (fun _ e => by cases e) h
theorem repr_ok {b : Nat} {d : D} (h : Pl b 50 d) (hw : (b + 3) * wt d ≤ 16000000) (hb : 7 ≤ b ∧ b ≤ 1900 := by decide) : ∃ s, ∀ S, reprD [d] S = some (.str s) := by
  obtain ⟨p, a1, a2, a3, a4, a5, a6, a7⟩ := pq_toP hb 50 d (Pl.pq _ _ h)
  obtain ⟨c1, c2⟩ := a7 h
  refine ⟨p.shown, fun S => ?_⟩
  show (match toP d with | some p => if okShow p then some (D.str p.shown) else none | none => none) = _
  rw [a1]
  dsimp only
  rw [if_pos]
  unfold okShow
  have hl := PyData.shown_le (b + 1) (by omega) p c2
  rw [a5, show b + 1 + 2 = b + 3 by omega] at hl
  rw [c1, a4]
  simp only [Bool.not_false, Bool.and_true, Bool.and_eq_true, decide_eq_true_eq]
  exact ⟨⟨trivial, by omega⟩, Nat.le_trans (show _ ≤ 16777216 by omega) (Nat.le_of_eq rfl)⟩
def eqv2 (x y : D) : Option Bool := match toP x, toP y with
  | some p, some q => some (PyData.eqv p q)
  | _, _ => none
theorem eqA_of {n : Nat} {x y : D} (hx : Pq n x) (hy : Pq n y) (hn : n ≤ 60) : eqA x y = eqv2 x y := by
  obtain ⟨p, a1, a2, a3, _⟩ := pq_toP (b := 7) (by decide) n x hx
  obtain ⟨q, b1, b2, b3, _⟩ := pq_toP (b := 7) (by decide) n y hy
  have key : eqP x y = eqv2 x y := by
    unfold eqP eqv2
    rw [a1, b1]
    dsimp only
    rw [if_pos]
    unfold SeqAt.shaped
    rw [a2, b2]
    simp
    omega
  cases x with
  | str a =>
    cases y with
    | str c =>
      show some (decide (a = c)) = some (a == c)
      by_cases h : a = c <;> simp [h]
    | _ => exact key
  | _ => exact key
theorem eq_refl {n : Nat} {x : D} (S : List Cell) (hx : Pq n x) (hn : n ≤ 60 := by decide) : eqD x x S = some (.bl true) := by
  show (eqA x x).map D.bl = _
  rw [eqA_of hx hx hn]
  obtain ⟨p, a1, _, _, _, _, a6, _⟩ := pq_toP (b := 7) (by decide) n x hx
  unfold eqv2
  rw [a1]
  dsimp only
  rw [a6]
  rfl
theorem ne_refl {n : Nat} {x : D} (S : List Cell) (hx : Pq n x) (hn : n ≤ 60 := by decide) : neD x x S = some (.bl false) := by
  have := eq_refl S hx hn
  show (eqA x x).map (fun b => D.bl (!b)) = _
  have h : (eqA x x).map D.bl = some (.bl true) := this
  cases he : eqA x x with
  | none => rw [he] at h; cases h
  | some b => rw [he] at h; cases h; rfl
end DL
namespace DL
open PySem PySem.Spec L2
open PyProof.Rows hiding St
@[simp] theorem ix_fr0 (q : Rat) (S : List Cell) : ixD (frD q) (.int 0) S = some (.int q.num) := by unfold frD; rw [ix_tup, at_0]
@[simp] theorem ix_fr1 (q : Rat) (S : List Cell) : ixD (frD q) (.int 1) S = some (.int (q.den : Nat)) := by unfold frD; rw [ix_tup, at_1]
end DL
namespace DL
@[simp] theorem ne_ll0 (S : List Cell) : neD (.lst []) (.lst []) S = some (.bl false) := nr rfl
@[simp] theorem eq_ll0 (S : List Cell) : eqD (.lst []) (.lst []) S = some (.bl true) := nr rfl
end DL
namespace DL
open PySem PySem.Spec L2
open PyProof.Rows hiding St
structure Frm (g : Nat) (ks : List Int) : Prop where
  hg : g ≤ 4
  lo : g + 2 ≤ ks.length
  hi : ks.length ≤ g + 11
  mono : ∀ i j, i ≤ j → j < ks.length → kt ks i ≤ kt ks j
  gap : ∀ i, i + g + 1 < ks.length → kt ks i < kt ks (i + g + 1)
  nn : ∀ i, i < ks.length → 0 ≤ kt ks i
  ub : ∀ i, i < ks.length → kt ks i ≤ 1000000
def Mono (ks : List Int) : Prop := ∀ i j, i ≤ j → j < ks.length → kt ks i ≤ kt ks j
def fixAt (ks : List Int) (p : Nat) : List Int := ks.take p ++ (ks.drop p).map (· + 1)
end DL
namespace DL
open PySem PySem.Spec L2
open PyProof.Rows hiding St
theorem all_true (k : Nat) (S : List Cell) : allD [.lst (List.replicate k (.bl true))] S = some (.bl true) := by
  have : List.replicate k (D.bl true) = (List.replicate k true).map D.bl := by rw [List.map_replicate]
  show (boolsOf (List.replicate k (D.bl true))).map _ = _
  rw [this, boolsOf_map]
  simp
theorem turns_ok {vs : List Nat} {p : Pat} {elt : Ex D} {env : List Sl} {n : Nat} {S : List Cell} {P : PR (List D)} (I : List Cell → Prop) (h0 : I S)
    (st : ∀ (j : Nat) (S : List Cell), j < n → I S → (inR p (.int (j : Nat)) (wipeE env vs) fun e => elt e S).W (fun d S' => d = .bl true ∧ I S') XN)
    (k : ∀ S', I S' → P.Q (List.replicate n (.bl true)) S') : @Rs.V _ (compL vs p mYes elt ((List.range n).map fun k => .int (k : Nat)) env S) P := by
  have := comp_at (vs := vs) (p := p) (cond := mYes) (elt := elt) (env := env) (ds := (List.range n).map fun k => D.int (k : Nat)) (S := S) (Q := P.Q) (X := P.X) (fun j acc S => acc = List.replicate j (.bl true) ∧ I S) ⟨rfl, h0⟩ (fun j d acc S hd ⟨e, hI⟩ => by
    have hj : j < n := by have := (List.getElem?_eq_some_iff.mp hd).1; simpa using this
    obtain ⟨_, hd⟩ := List.getElem?_eq_some_iff.mp hd
    rw [List.getElem_map, List.getElem_range] at hd
    subst hd e
    obtain ⟨e1, h1, h2⟩ := inR_of (st j S hj hI)
    unfold inR
    rw [h1]
    dsimp only
    obtain ⟨x, S', e2, rfl, h3⟩ := Rs.W.of h2
    have y : mYes e1 S = .ok true S := rfl
    rw [y, andThen_ok, if_pos rfl, e2, andThen_ok]
    exact ⟨by rw [List.replicate_succ', ], h3⟩) fun acc S' ⟨e, hI⟩ => by
      rw [e, List.length_map, List.length_range]
      exact k S' hI
  exact this
end DL
namespace DL
end DL
namespace DL
open PySem PySem.Spec L2
open PyProof.Rows hiding St
end DL
namespace DL
open PySem PySem.Spec PySem.Calls L2
open PyProof.Rows hiding St
abbrev emptySet (w : World) : Obj := { cls := .type "set", dict := none, data := .set #[] 0 (.fresh 0 0 (!w.params.followText "set-order")) }
section
variable {P : Program} {w : World} {A : Around} {E : Value → Shared → Prop} {s : Shared}
def Made (w : World) (s : Shared) (ns : List Int) (s2 : Shared) : Prop := ∃ h' tk c, s2 = { s with heap := h', toks := tk } ∧ SetR w h' s.heap.objs.size (fun j => decide (j ∈ ns)) c ∧ c ≤ ns.length ∧ ∀ b o, s.heap.get? b = some o → h'.get? b = some o
end
def ddI : List Int → List Int
  | [] => []
  | x :: r => if x ∈ ddI r then ddI r else x :: ddI r
def uniI (ns : List Int) : List Int := sortI (ddI ns)
def rSetL (K : PySem.W.Frag) (w : World) : List V → Hp → VK → Prop := fun xs H Q => ∃ (l : Addr) (ns : List Int), xs = [.ref l] ∧ SqL K H l (ns.map V.int) ∧ ns.length ≤ 60 ∧
  ∀ (c : Nat) (p : Addr), c ≤ ns.length → H p = none → Q (.ref p) (upd H p (SetO w p (fun j => decide (j ∈ ns)) c))
def mUni (f : Ex D) : Ex (List D) := fun env S => (f env S).andThen fun x S1 => match x with
  | .lst xs => match intsOf xs with
    | some ns => if ns.length ≤ 60 then .ok ((uniI ns).map .int) S1 else .bad
    | none => .bad
  | _ => .bad
section
variable {X : Cx} {E : EE} {e : Expr} {f : Ex D} {pos p p2 q : Pos}
@[simp] theorem r_uni (f : Ex D) (env : List Sl) (S : List Cell) : mUni f env S = (f env S).andThen fun x S1 => match x with
  | .lst xs => match intsOf xs with
    | some ns => if ns.length ≤ 60 then .ok ((uniI ns).map .int) S1 else .bad
    | none => .bad
  | _ => .bad := nr rfl
@[simp ↓] theorem V_runi (f : Ex D) (env : List Sl) (S : List Cell) {P : PR (List D)} : @Rs.V _ (mUni f env S) P = @Rs.V _ ((f env S).andThen fun x S1 => match x with
  | .lst xs => match intsOf xs with
    | some ns => if ns.length ≤ 60 then .ok ((uniI ns).map .int) S1 else .bad
    | none => .bad
  | _ => .bad) P := by rw [r_uni]
end
end DL
namespace DL
open PySem PySem.Spec L2
open PyProof.Rows hiding St
def HotD (X : Cx) : Prop := ∃ a oe u, X.A.handled = some (.ref a) ∧ HotO oe ∧ X.H_0 a = some (.frz oe u)
theorem HotD.here {X : Cx} {pins : List (Addr × Obj)} {σ : L2.St} {H : Hp} {s : Shared} (hot : HotD X) (I : Inv X pins σ H s) : ∃ a oe u, X.A.handled = some (.ref a) ∧ HotO oe ∧ H a = some (.frz oe u) ∧ s.heap.get? a = some oe := by
  obtain ⟨a, oe, u, e1, e2, e3⟩ := hot
  have e4 := I.base.frzs a oe u e3
  obtain ⟨e5, _⟩ := I.hok a _ e4
  exact ⟨a, oe, u, e1, e2, e4, e5⟩
theorem HotD.at {X : Cx} {pins : List (Addr × Obj)} {σ : L2.St} {H : Hp} {s : Shared} (hot : HotD X) (I : Inv X pins σ H s) : ∃ a, HotX.HotAt X.A a s.heap := by
  obtain ⟨a, oe, u, e1, ⟨vs, e2, e3⟩, _, e4⟩ := hot.here I
  exact ⟨a, e1, oe, vs, e4, e2, e3⟩
section
variable {prog : Program} {w : World} {A : Around} {E : Value → Shared → Prop} {s : Shared}
end
theorem HotD.blk {X : Cx} {pins : List (Addr × Obj)} {σ : L2.St} {H : Hp} {s : Shared} (hot : HotD X) (I : Inv X pins σ H s) (scope : Scope) (ce : Env) (fp : List Addr) : HotD (X.blk s H scope ce fp) := by
  obtain ⟨a, oe, u, e1, e2, e3, _⟩ := hot.here I
  exact ⟨a, oe, u, e1, e2, e3⟩
def tLcL (K : PySem.W.Frag) (ti : TE) (g : TG) (tt : TT) (te : TE) (vs : List Nat) : TE := fun σ H Q => ti σ H fun x H1 => ∃ a xs, x = .ref a ∧ SqL K H1 a xs ∧ ∀ L, H1 L = none → ∃ W : Nat → Nat → Hp → Prop,
  (∃ m, W 0 m (upd H1 L (.lst []))) ∧ ∀ i m H2, W i m H2 → SqL K H2 a xs ∧ ((xs.length ≤ i ∧ Q (.ref L) H2) ∨ ∃ x, xs[i]? = some x ∧ ∃ Nx : Hp → Prop, (∀ H3, Nx H3 → ∃ m1, m1 < m ∧ W (i + 1) m1 H3) ∧
    g x (wipe σ vs) H2 fun σ3 H3 => wipe σ3 vs = wipe σ vs ∧ tt σ3 H3 fun b H4 => if b = true then te σ3 H4 fun y H5 => ∃ acc, H5 L = some (.lst acc) ∧ acc.length < sizeLine ∧ Nx (upd H5 L (.lst (acc ++ [y]))) else Nx H4)
section
variable {X : Cx} {pins : List (Addr × Obj)} {σ : L2.St} {H : Hp} {s : Shared} {elt tg iter : Expr} {ifs : List Expr} {scope : Scope} {own : List (Str × Nat)} {ti : TE} {g : TG} {tt : TT} {te : TE}
end
end DL
namespace DL
open PySem PySem.Spec L2
open PyProof.Rows hiding St
structure RmH (k : Nat) (A : Around) : Prop where
  room : L2H.RoomH k A
  quiet : A.guards = some []
theorem RmH.less {i k : Nat} {A : Around} (r : RmH k A) (h : i ≤ k) : RmH i A := ⟨r.room.mono h, r.quiet⟩
theorem RmH.deeper {k : Nat} {A : Around} (r : RmH (k + 1) A) (env : Env) : RmH k (A.deeper env) := ⟨r.room.deeper env, quiet_deeper r.quiet env⟩
theorem RmH.units {k : Nat} {A : Around} (r : RmH k A) : A.units + 64 < cLine := by have := r.room.un; omega
theorem Rm.mark {k : Nat} {A : Around} (r : Rm k A) (v : Option Value) : RmH k (A.mark v) := by
  refine ⟨⟨?_, ?_⟩, ?_⟩
  · exact r.room.dp
  · exact r.room.un
  · exact r.quiet
abbrev cxD (P : Program) (w : World) (K : PySem.W.Frag) (mg : Str → Option Value) (base : Heap) (N : List Str) (qual : Str) (scope : Scope) (f : Addr) (cd : Value) (A : Around) (outer : List Env) (s : Shared) (H : Hp) (E : XK) (p : Addr × Obj) : Cx :=
  L2H.cxH (L2N.CX P w) P w K mg base N qual scope f cd A outer s H E p
structure FnGH (P : Program) (w : World) (K : PySem.W.Frag) (mg : Str → Option Value) (base : Heap) (k : Nat) (f : Addr) (fd : FuncData) (ps : List Str) (sp : Sp) : Prop where
  arity : ∀ vs H Q E, sp vs H Q E → vs.length = ps.length
  go : ∀ (A : Around) (outer : List Env) (s : Shared) (H : Hp) (args : Args) (us : List Value) (vs : List V) (Q : VK) (E : XK) (a : Addr) (oe : Obj) (u : HO),
    RmH k A → A.handled = some (.ref a) → HotO oe → H a = some (.frz oe u) → Env0 P w K mg base A outer s H → BindsTo s fd args (ps.zip us) → Vals vs us → sp vs H Q E →
    codeAny (model P w) A (.call (.ref f) args) (CR (L2N.CX P w) outer P w H s Q E) s
section
variable {P : Program} {w : World} {K : PySem.W.Frag} {mg : Str → Option Value} {base : Heap}
end
section
variable {X : Cx} {k : Nat} {f : Addr} {fd : FuncData} {ps : List Str} {sp : Sp} {E : EE} {x : Str} {p pos : Pos} {e : Expr} {es : List Expr} {t : TA}
end
end DL
namespace DL
open PySem PySem.Spec L2
open PyProof.Rows hiding St
abbrev LamO (o : Obj) (f : Addr) : HO := .ext fun h => h.get? f = some o
section
variable {K : PySem.W.Frag} {mg : Str → Option Value} {F : Fz} {ι : List Addr} {H : Hp} {S : List Cell}
theorem Wd.push {f : Addr} (w : Wd K mg F ι H S) (nf : f ∉ ι) (hf : F f) : Wd K mg F (ι ++ [f]) H (S ++ [.dead]) := by
  have side : ∀ {n : Nat} {c : Cell} {a : Addr}, (S ++ [Cell.dead])[n]? = some c → (ι ++ [f])[n]? = some a → (S[n]? = some c ∧ ι[n]? = some a) ∨ (c = .dead ∧ a = f) := fun {n c a} h1 h2 => by
    have hl := w.len
    by_cases hn : n < S.length
    · rw [List.getElem?_append_left hn] at h1
      rw [List.getElem?_append_left (by omega)] at h2
      exact .inl ⟨h1, h2⟩
    · rw [List.getElem?_append_right (by omega)] at h1 h2
      rw [hl] at h1
      cases z : n - ι.length with
      | zero => rw [z] at h1 h2; exact .inr ⟨by simpa using h1.symm, by simpa using h2.symm⟩
      | succ k => rw [z] at h1; simp at h1
  refine ⟨w.fin, fun n c a h1 h2 hl => ?_, ?_, by simp [w.len], fun n c a h1 h2 => ?_⟩
  · rcases side h1 h2 with ⟨e1, e2⟩ | ⟨e1, e2⟩
    · exact w.cnf n c a e1 e2 hl
    · rw [e1] at hl; cases hl
  · rw [List.nodup_append]
    refine ⟨w.cnd, by simp, fun a ha b hb => ?_⟩
    obtain rfl : b = f := by simpa using hb
    exact fun z => nf (z ▸ ha)
  · rcases side h1 h2 with ⟨e1, e2⟩ | ⟨e1, e2⟩
    · exact cell_mono (fun _ h => h) (fun _ _ _ h => h) (List.prefix_append _ _) (fun _ h => h) c (w.cells n c a e1 e2)
    · rw [e1, e2]; exact hf
theorem Wd.code {P c : Addr} {q : Str} {n : Nat} {ps more : Array Value} (w : Wd K mg F ι H S) (hn : S[n]? = some (.tab P q)) (hP : H P = some (.tbl ps)) (nc : H c = none) (ht : TriplesOk (ps ++ more).toList)
    (old : ∀ pos cv, codeAmong pos ps.toList = some cv → ∃ d, cv = .ref d ∧ F d ∧ H d = some (LamX.CodeO d q)) (ha : ∀ pos cv, codeAmong pos (ps ++ more).toList = some cv → codeAmong pos ps.toList = some cv ∨ cv = .ref c) :
    Ext H F ι (upd (upd H P (.tbl (ps ++ more))) c (LamX.CodeO c q)) (fun b => F b ∨ b = c) ι ∧ Wd K mg (fun b => F b ∨ b = c) ι (upd (upd H P (.tbl (ps ++ more))) c (LamX.CodeO c q)) S := by
  have hl : n < ι.length := by rw [← w.len]; exact (List.getElem?_eq_some_iff.mp hn).1
  have hi := List.getElem?_eq_getElem hl
  obtain ⟨e0, _⟩ := w.cells n _ _ hn hi
  have iP : P ∈ ι := by rw [← e0]; exact List.getElem_mem hl
  have nF : ¬ F P := by have := w.cnf n _ _ hn hi rfl; rwa [e0] at this
  have ci : c ∉ ι := fun z => w.cell_ne z nc
  have nPc : P ≠ c := ne_of_none hP nc
  have same : ∀ {b o}, H b = some o → b ≠ P → upd (upd H P (.tbl (ps ++ more))) c (LamX.CodeO c q) b = some o := fun {b o} h1 h2 => by rw [upd_ne (ne_of_none h1 nc), upd_ne h2]; exact h1
  have e : Ext H F ι (upd (upd H P (.tbl (ps ++ more))) c (LamX.CodeO c q)) (fun b => F b ∨ b = c) ι := by
    refine ⟨fun _ h => .inl h, fun b h => ?_, fun b o h hw => same h fun z => ?_, fun b h => ?_, List.prefix_refl _, fun _ h => .inl h⟩
    · rcases h with h | rfl
      · exact .inl h
      · exact .inr nc
    · subst z
      exact hw.elim nF fun y => y iP
    · cases z : H b with
      | none => rfl
      | some o =>
        by_cases hb : b = P
        · subst hb; rw [upd_ne nPc, upd_same] at h; cases h
        · rw [same z hb] at h; cases h
  refine ⟨e, ⟨fun b h z => ?_, fun k cl a h1 h2 hv h => ?_, w.cnd, w.len, fun k cl a h1 h2 => ?_⟩⟩
  · rcases h with h | rfl
    · exact w.fin b h (e.mono b z)
    · rw [upd_same] at z; cases z
  · rcases h with h | rfl
    · exact w.cnf k cl a h1 h2 hv h
    · exact ci (List.mem_of_getElem? h2)
  · by_cases hb : a = P
    · have kn : k = n := by
        have hk : k < ι.length := (List.getElem?_eq_some_iff.mp h2).1
        refine (List.getElem_inj (h₀ := hk) (h₁ := hl) w.cnd).mp ?_
        rw [(List.getElem?_eq_some_iff.mp h2).2, e0, hb]
      subst kn
      rw [hn] at h1
      cases h1
      refine ⟨hb, _, by rw [hb, upd_ne nPc, upd_same], ht, fun pos cv z => ?_⟩
      rcases ha pos cv z with z | rfl
      · obtain ⟨d, e1, f1, h1⟩ := old pos cv z
        refine ⟨d, e1, .inl f1, same h1 fun y => ?_⟩
        rw [y] at f1
        exact nF f1
      · exact ⟨c, rfl, .inr rfl, upd_same⟩
    · exact cell_mono e.sub (w.stay e) e.pre (fun o ho => same ho hb) cl (w.cells k cl a h1 h2)
end
section
variable {X : Cx} {pins : List (Addr × Obj)} {σ : L2.St} {H : Hp} {s : Shared}
end
end DL
namespace GQB
open PySem PySem.SeqAt
open AutoSeq1 (wpAny_loadPart')
open MeetsSeq MeetsSeq2 MeetsSeq3 SeqRoads2
open GQ
section
variable {prog : Program} {w : World} {A : Around} {R : Result → Shared → Prop}
end
end GQB
namespace DL
open PySem PySem.Spec L2
open PyProof.Rows hiding St
structure EqC (K : PySem.W.Frag) (C f : Addr) : Prop where
  eq : PySem.W.findIn K (.ref C) "__eq__" = some (some (.ref f))
  fn : PySem.W.isFn K (.ref f) = true
  ne : PySem.W.findIn K (.ref C) "__ne__" = some (some (.builtin "object.__ne__"))
  ob : PySem.W.subIn K (.ref C) (.type "object") = some true
  tt : PySem.W.subIn K (.type "tuple") (.ref C) = some false
  ts : PySem.W.subIn K (.type "str") (.ref C) = some false
section
variable {prog : Program} {w : World} {A : Around} {E : Value → Shared → Prop} {s : Shared} {K : PySem.W.Frag} {x C f L : Addr} {ox : Obj} {od : Option Obj} {b tb : Value} {h₀ : Heap} {m : Str → Option Value}
end
end DL
namespace DL
open PySem PySem.Spec L2
open PyProof.Rows hiding St RelV
def elO (e : Str → D → D → Option Bool) (x y : D) : Option Bool := match x with
  | .obj c _ _ => e c x y
  | _ => eqA x y
def allO (e : Str → D → D → Option Bool) : List D → List D → Option Bool
  | [], [] => some true
  | x :: xs, y :: ys => match elO e x y, allO e xs ys with
    | some a, some b => some (a && b)
    | _, _ => none
  | _, _ => none
def eqOA (e : Str → D → D → Option Bool) (x y : D) : Option Bool := match eqA x y with
  | some b => some b
  | none => match x, y with
    | .obj c _ _, _ => e c x y
    | .tup xs, .tup ys => allO e xs ys
    | _, _ => none
def neOA (e : Str → D → D → Option Bool) (x y : D) : Option Bool := match eqA x y with
  | some b => some (!b)
  | none => match x with
    | .obj c _ _ => (e c x y).map (!·)
    | _ => none
def eqO (e : Str → D → D → Option Bool) : Op2 := fun x y _ => (eqOA e x y).map .bl
def neO (e : Str → D → D → Option Bool) : Op2 := fun x y _ => (neOA e x y).map .bl
def BackO (X : Cx) (pins : List (Addr × Obj)) (σ : L2.St) (H : Hp) (F : Fz) (ι : List Addr) (S : List Cell) (s' : Shared) : Prop := ∃ H' F' ι', Inv X pins σ H' s' ∧ Ext H F ι H' F' ι' ∧ Wd X.K X.mg F' ι' H' S
structure EOk (X : Cx) (n : Nat) (e : Str → D → D → Option Bool) : Prop where
  same : ∀ (pins : List (Addr × Obj)) (s : Shared) (σ : L2.St) (H : Hp) (F : Fz) (ι : List Addr) (c : Str) (ns : List Str) (xs : List D) (y : D) (a : Addr) (r : Bool), Inv X pins σ H s → Rep X.K X.mg F ι H (.obj c ns xs) (.ref a) → Rep X.K X.mg F ι H y (.ref a) → e c (.obj c ns xs) y = some r → r = true
  ref : ∀ (c : Str) (ns : List Str) (xs : List D) (y : D) (r : Bool), e c (.obj c ns xs) y = some r → (∃ c' ns' ys, y = .obj c' ns' ys) ∨ r = false
  run : ∀ (A : Around) (pins : List (Addr × Obj)) (s : Shared) (σ : L2.St) (H : Hp) (F : Fz) (ι : List Addr) (S : List Cell) (c : Str) (ns : List Str) (xs : List D) (y : D) (vx vy : V) (u v : Value) (r : Bool), L2.Sub X n A → A.guards = some [] → Inv X pins σ H s → Wd X.K X.mg F ι H S →
    Rep X.K X.mg F ι H (.obj c ns xs) vx → Rep X.K X.mg F ι H y vy → RelV vx u → RelV vy v → e c (.obj c ns xs) y = some r →
    wpAny (model X.prog X.w) A (richCompare .Eq u v) (fun w s' => w = .bool r ∧ BackO X pins σ H F ι S s') X.xe s ∧ wpAny (model X.prog X.w) A (richCompare .NotEq u v) (fun w s' => w = .bool (!r) ∧ BackO X pins σ H F ι S s') X.xe s
section
variable {X : Cx} {pins : List (Addr × Obj)} {σ : L2.St} {H : Hp} {s : Shared} {F : Fz} {ι : List Addr} {S : List Cell}
end
section
variable {X : Cx} {pins : List (Addr × Obj)} {σ : L2.St} {H : Hp} {s : Shared} {F : Fz} {ι : List Addr} {S : List Cell} {n : Nat} {e : Str → D → D → Option Bool}
theorem BackO.here (I : Inv X pins σ H s) (w : Wd X.K X.mg F ι H S) : BackO X pins σ H F ι S s := ⟨H, F, ι, I, Ext.refl, w⟩
theorem BackO.next {H1 : Hp} {F1 : Fz} {ι1 : List Addr} {s' : Shared} (e : Ext H F ι H1 F1 ι1) (b : BackO X pins σ H1 F1 ι1 S s') : BackO X pins σ H F ι S s' := by
  obtain ⟨H', F', ι', I, e', w⟩ := b
  exact ⟨H', F', ι', I, e.trans e', w⟩
def rEqO (X : Cx) (f : D → D → Option Bool) : R2 := fun x y H Q => ∃ F ι S dx dy r, Wd X.K X.mg F ι H S ∧ Rep X.K X.mg F ι H dx x ∧ Rep X.K X.mg F ι H dy y ∧ eqA dx dy = none ∧ f dx dy = some r ∧ Told X.K X.mg H F ι S (.bl r) Q
end
def eqStd (c0 : Str) (e : Str → D → D → Option Bool) (x y : D) : Option Bool := match x, y with
  | .obj c ["parts"] [p], .obj c' ["parts"] [q] => if c = c0 ∧ c' = c0 then eqOA e p q else none
  | .obj c ["parts"] [_], .tup _ => if c = c0 then some false else none
  | .obj c ["parts"] [_], .str _ => if c = c0 then some false else none
  | _, _ => none
section
variable {X : Cx} {n n' i : Nat} {e : Str → D → D → Option Bool} {c0 : Str} {C f : Addr} {fd : FuncData} {ps : List Str} {m : Fn}
end
end DL
namespace DL
open PySem PySem.Spec L2
open PyProof.Rows hiding St
section
variable {X : Cx} {E : EE} {o e a : Expr} {f h : Ex D} {pos apos cpos : Pos}
def mNinO (k : Nat) (f : Ex D) : Ex D := fun env S => match env[k]? with
  | some (.own ds) => (f env S).andThen fun d S1 => if flatD d && ds.all flatD then .ok (.bl (!inFl d ds)) S1 else .bad
  | _ => .bad
def mRem (k : Nat) (f : Ex D) : Sm := fun env S => match env[k]? with
  | some (.own ds) => (f env S).go env fun d S1 => match d, intsOf ds with
    | .int i, some ns => if i ∈ ns then .nx (env.set k (.own ((ns.eraseIdx (ns.idxOf i)).map .int))) S1 else .bad
    | _, _ => .bad
  | _ => .bad
def itsOf2 : D → List Cell → Rs (List D)
  | .tup xs, S => .ok xs S
  | .lst xs, S => .ok xs S
  | _, _ => .bad
def mLsO (f : Ex D) : Ex (List D) := fun env S => (f env S).andThen itsOf2
end
end DL
namespace DL
open PySem PySem.Spec L2
open PyProof.Rows hiding St
section
variable {K : PySem.W.Frag} {mg : Str → Option Value}
def strD : OpN := fun xs _ => match xs with
  | [.int i] => if i.natAbs.log2 < 1920 then some (.str (toString i)) else none
  | _ => none
def toIntS : OpN := fun xs _ => match xs with
  | [.str a] => if a.length ≤ 640 then (PySem.intText? a).map .int else none
  | _ => none
def strsOf : List D → Option (List Str)
  | [] => some []
  | .str s :: r => (strsOf r).map (s :: ·)
  | _ :: _ => none
def joinD : Op2 := fun x y _ => match x, y with
  | .str a, .lst xs => match strsOf xs with
    | some ys => if (ys.map (·.length)).sum + ys.length * a.length ≤ 100000 then some (.str (Txt.join a ys)) else none
    | none => none
  | _, _ => none
def splitD : Op2 := fun x y _ => match x, y with
  | .str a, .str b => if (b.length == 0) = false ∧ a.length ≤ 100000 then some (.lst ((Txt.split a b).map .str)) else none
  | _, _ => none
end
def inS (neg : Bool) : Op2 := fun x y _ => match x, y with
  | .str a, .str z => if a.cps.size = 1 then some (.bl (if neg then !decide (a.cps.getD 0 0 ∈ z.cps.toList) else decide (a.cps.getD 0 0 ∈ z.cps.toList))) else none
  | _, _ => none
def mTxt (op : Op2) (f h : Ex D) : Ex D := fun env S => (f env S).andThen fun x S1 => match x with
  | .str a => (h env S1).andThen fun y S2 => ofO (op (.str a) y S2) S2
  | _ => .bad
section
variable {X : Cx} {E : EE} {o e l : Expr} {f h : Ex D} {apos pos : Pos}
def mSigns (f : Ex D) : Ex (List D) := fun env S => (f env S).andThen fun x S1 => match x with
  | .str a => .ok (a.cps.toList.map fun c => .str ⟨#[c]⟩) S1
  | _ => .bad
end
end DL
namespace DL
open PySem PySem.Spec L2
open PyProof.Rows hiding St
section
variable {X : Cx} {E : EE} {o e l tg : Expr} {es : List Expr} {f h : Ex D} {fa : Ex (List D)} {apos pos cpos p : Pos}
def mCnt (k : Nat) (f : Ex D) : Ex D := fun env S => match env[k]? with
  | some (.own ds) => (f env S).andThen fun d S1 => match d, intsOf ds with
    | .int i, some ns => .ok (.int (ns.count i : Nat)) S1
    | _, _ => .bad
  | _ => .bad
def mCMeth (c : Str) (n : Nat) (m : Fn) (fa : Ex (List D)) : Ex D := fun env S => (mC (.cls c) env S).andThen fun x S0 => (fa env S0).andThen fun xs S1 => if (x :: xs).length = n then m (x :: xs) S1 else .bad
variable {c nm : Str} {C pr gI : Addr} {mc : Value} {i n : Nat} {fd : FuncData} {ps : List Str} {m : Fn}
def mMakeV (k : Nat) (c : Str) (fz : Bool) (n : Nat) (m : Fn) (fa : Ex (List D)) : Ex D := fun env S => match env[k]? with
  | some (.val (.cls c')) => if c' = c then mMake c fz n m fa env S else .bad
  | _ => .bad
end
end DL
namespace DL
open PySem PySem.Spec L2
open PyProof.Rows hiding St
section
variable {X : Cx} {E : EE} {a b : Expr} {f h : Ex D} {fo : Ex (List D)} {pos : Pos}
def mRep (f h : Ex D) : Ex (List D) := fun env S => (f env S).andThen fun x S1 => (h env S1).andThen fun y S2 => match x, y with
  | .lst xs, .int k => if decide (-(2 ^ 63) ≤ k ∧ k < 2 ^ 63) && okLen (xs.length * k.toNat) then .ok (List.replicate k.toNat xs).flatten S2 else .bad
  | _, _ => .bad
def mCatO (f h : Ex D) : Ex (List D) := fun env S => (f env S).andThen fun x S1 => (h env S1).andThen fun y S2 => match x, y with
  | .lst xs, .lst ys => if okLen (xs.length + ys.length) then .ok (xs ++ ys) S2 else .bad
  | _, _ => .bad
def mParP (i j : Nat) (fo : Ex (List D)) (f : Ex D) : Sm := fun env S => (fo env S).go env fun ds S1 => (f env S1).go env fun d S2 => .nx ((env.set i (.own ds)).set j (.val d)) S2
end
end DL
namespace DL
open PySem PySem.Spec L2
open PyProof.Rows hiding St
section
variable {X : Cx} {ta tb tc td : TE} {a b c d : Expr} {pos : Pos}
def tChain3 (r r' r'' : R2) (ta tb tc td : TE) : TE := fun σ H Q => ta σ H fun x H1 => tb σ H1 fun y H2 => r x y H2 fun z H3 => ∃ k, z = .bl k ∧
  (if k = true then tc σ H3 fun w H4 => r' y w H4 fun z' H5 => ∃ k', z' = .bl k' ∧ (if k' = true then td σ H5 fun u H6 => r'' w u H6 Q else Q (.bl false) H5) else Q (.bl false) H3)
end
section
variable {X : Cx} {E : EE} {a b c d : Expr} {f h k l : Ex D} {pos : Pos}
def mChain3 (op op' op'' : Op2) (f h k l : Ex D) : Ex D := fun env S => (f env S).andThen fun x S1 => (h env S1).andThen fun y S2 => ((ofO (op x y S2) S2).andThen asB).andThen fun b S3 =>
  if b = true then (k env S3).andThen fun z S4 => ((ofO (op' y z S4) S4).andThen asB).andThen fun b' S5 =>
    if b' = true then (l env S5).andThen fun u S6 => ofO (op'' z u S6) S6 else .ok (.bl false) S5 else .ok (.bl false) S3
end
section
variable (env : List Sl) (S : List Cell)
@[simp] theorem r_chain3 (o o' o'' : Op2) (f h k l : Ex D) : mChain3 o o' o'' f h k l env S = (f env S).andThen fun x S1 => (h env S1).andThen fun y S2 => ((ofO (o x y S2) S2).andThen asB).andThen fun b S3 =>
  if b = true then (k env S3).andThen fun z S4 => ((ofO (o' y z S4) S4).andThen asB).andThen fun b' S5 =>
    if b' = true then (l env S5).andThen fun u S6 => ofO (o'' z u S6) S6 else .ok (.bl false) S5 else .ok (.bl false) S3 := nr rfl
end
end DL
namespace DL
open PySem PySem.Spec L2
section
variable (env : List Sl) (S : List Cell)
@[simp] theorem r_signs (f : Ex D) : mSigns f env S = (f env S).andThen fun x S1 => match x with | .str a => .ok (a.cps.toList.map fun c => .str ⟨#[c]⟩) S1 | _ => .bad := nr rfl
@[simp ↓] theorem V_rsigns (f : Ex D) {P : PR (List D)} : @Rs.V (List D) (mSigns f env S) P = @Rs.V (List D) ((f env S).andThen fun x S1 => match x with | .str a => .ok (a.cps.toList.map fun c => .str ⟨#[c]⟩) S1 | _ => .bad) P := by rw [r_signs]
@[simp] theorem r_txt (op : Op2) (f h : Ex D) : mTxt op f h env S = (f env S).andThen fun x S1 => match x with | .str a => (h env S1).andThen fun y S2 => ofO (op (.str a) y S2) S2 | _ => .bad := nr rfl
@[simp ↓] theorem V_rtxt (op : Op2) (f h : Ex D) {P : PR D} : @Rs.V D (mTxt op f h env S) P = @Rs.V D ((f env S).andThen fun x S1 => match x with | .str a => (h env S1).andThen fun y S2 => ofO (op (.str a) y S2) S2 | _ => .bad) P := by rw [r_txt]
@[simp] theorem r_cmeth (c : Str) (n : Nat) (m : Fn) (fa : Ex (List D)) : mCMeth c n m fa env S = (mC (.cls c) env S).andThen fun x S0 => (fa env S0).andThen fun xs S1 => if (x :: xs).length = n then m (x :: xs) S1 else .bad := nr rfl
@[simp ↓] theorem V_rcmeth (c : Str) (n : Nat) (m : Fn) (fa : Ex (List D)) {P : PR D} : @Rs.V D (mCMeth c n m fa env S) P = @Rs.V D ((mC (.cls c) env S).andThen fun x S0 => (fa env S0).andThen fun xs S1 => if (x :: xs).length = n then m (x :: xs) S1 else .bad) P := by rw [r_cmeth]
@[simp] theorem r_makeV (k : Nat) (c : Str) (fz : Bool) (n : Nat) (m : Fn) (fa : Ex (List D)) : mMakeV k c fz n m fa env S = match env[k]? with | some (.val (.cls c')) => if c' = c then mMake c fz n m fa env S else .bad | _ => .bad := nr rfl
@[simp ↓] theorem V_rmakeV (k : Nat) (c : Str) (fz : Bool) (n : Nat) (m : Fn) (fa : Ex (List D)) {P : PR D} : @Rs.V D (mMakeV k c fz n m fa env S) P = @Rs.V D (match env[k]? with | some (.val (.cls c')) => if c' = c then mMake c fz n m fa env S else .bad | _ => .bad) P := by rw [r_makeV]
@[simp] theorem r_rep (f h : Ex D) : mRep f h env S = (f env S).andThen fun x S1 => (h env S1).andThen fun y S2 => match x, y with
  | .lst xs, .int k => if decide (-(2 ^ 63) ≤ k ∧ k < 2 ^ 63) && okLen (xs.length * k.toNat) then .ok (List.replicate k.toNat xs).flatten S2 else .bad
  | _, _ => .bad := nr rfl
@[simp ↓] theorem V_rrep (f h : Ex D) {P : PR (List D)} : @Rs.V (List D) (mRep f h env S) P = @Rs.V (List D) ((f env S).andThen fun x S1 => (h env S1).andThen fun y S2 => match x, y with
  | .lst xs, .int k => if decide (-(2 ^ 63) ≤ k ∧ k < 2 ^ 63) && okLen (xs.length * k.toNat) then .ok (List.replicate k.toNat xs).flatten S2 else .bad
  | _, _ => .bad) P := by rw [r_rep]
@[simp] theorem r_catO (f h : Ex D) : mCatO f h env S = (f env S).andThen fun x S1 => (h env S1).andThen fun y S2 => match x, y with
  | .lst xs, .lst ys => if okLen (xs.length + ys.length) then .ok (xs ++ ys) S2 else .bad
  | _, _ => .bad := nr rfl
@[simp ↓] theorem V_rcatO (f h : Ex D) {P : PR (List D)} : @Rs.V (List D) (mCatO f h env S) P = @Rs.V (List D) ((f env S).andThen fun x S1 => (h env S1).andThen fun y S2 => match x, y with
  | .lst xs, .lst ys => if okLen (xs.length + ys.length) then .ok (xs ++ ys) S2 else .bad
  | _, _ => .bad) P := by rw [r_catO]
@[simp ↓] theorem V_parP (i j : Nat) (fo : Ex (List D)) (f : Ex D) {F : PF} : @Fl.V (mParP i j fo f env S) F = @Fl.V ((fo env S).go env fun ds S1 => (f env S1).go env fun d S2 => .nx ((env.set i (.own ds)).set j (.val d)) S2) F := nr rfl
@[simp ↓] theorem V_rchain3 (o o' o'' : Op2) (f h k l : Ex D) {P : PR D} : @Rs.V D (mChain3 o o' o'' f h k l env S) P = @Rs.V D ((f env S).andThen fun x S1 => (h env S1).andThen fun y S2 => ((ofO (o x y S2) S2).andThen asB).andThen fun b S3 =>
  if b = true then (k env S3).andThen fun z S4 => ((ofO (o' y z S4) S4).andThen asB).andThen fun b' S5 =>
    if b' = true then (l env S5).andThen fun u S6 => ofO (o'' z u S6) S6 else .ok (.bl false) S5 else .ok (.bl false) S3) P := by rw [r_chain3]
end
end DL
namespace DL
open PySem PySem.Spec L2
open PyProof.Rows hiding St
def mKeysE (it : Ex (List D)) (vs : List Nat) (p : Pat) (elt : Ex D) : Ex (List D) := fun env S => (it env S).andThen fun ds S1 => if ds.length ≤ 100000 then (noX (compL vs p mYes elt ds env S1)).andThen fun es S2 => match intsOf es with
    | some ns => .ok ((uniI ns).map .int) S2
    | none => .bad
  else .bad
section
variable {K : PySem.W.Frag} {mg : Str → Option Value} {g : Snap}
def tKeys (E : EE) (f : Ex (List D)) : TE := fun σ H Q => ∃ F ι env S, RS K mg g σ H F ι env S ∧
  rdAt K mg g E σ H F ι env (fun es H' F' ι' _ => ∀ (a : Addr) (kvs : List (Key × V)) (ks : List Int), H' a = some (.dK kvs) → kvs.map (·.1) = ks.map Sum.inl → ks.Nodup → (∀ i : Int, i ∈ ks ↔ D.int i ∈ es) → ¬ F' a → a ∉ ι' → H a = none → Q (.ref a) H') (f env S)
end
section
variable {X : Cx} {E : EE} {kx vx tg iter : Expr} {scope : Scope} {own : List (Str × Nat)} {pos cpos pp : Pos} {it : Ex (List D)} {p : Pat} {f : Ex D}
end
section
variable {env : List Sl} {S : List Cell}
@[simp] theorem r_keysE (it : Ex (List D)) (vs : List Nat) (p : Pat) (e : Ex D) : mKeysE it vs p e env S = (it env S).andThen fun ds S1 => if ds.length ≤ 100000 then (noX (compL vs p mYes e ds env S1)).andThen (fun es S2 => match intsOf es with
    | some ns => .ok ((uniI ns).map .int) S2
    | none => .bad)
  else .bad := nr rfl
@[simp ↓] theorem V_rkeysE (it : Ex (List D)) (vs : List Nat) (p : Pat) (e : Ex D) {P : PR (List D)} : @Rs.V (List D) (mKeysE it vs p e env S) P = @Rs.V (List D) ((it env S).andThen fun ds S1 => if ds.length ≤ 100000 then (noX (compL vs p mYes e ds env S1)).andThen (fun es S2 => match intsOf es with
    | some ns => .ok ((uniI ns).map .int) S2
    | none => .bad)
  else .bad) P := by rw [r_keysE]
end
end DL
namespace DL
open PySem PySem.Spec L2
open PyProof.Rows hiding St
section
variable {X : Cx} {o : Expr} {f : Str} {pos : Pos} {to : TE}
def gFldT (K : PySem.W.Frag) (to : TE) (f : Str) : TG := fun v σ H Q => to σ H fun x H1 => ∃ (a C dx : Addr) (fs : List (Str × V)), x = .ref a ∧ H1 a = some (.ins C dx fs) ∧ Cls K C ∧ NoAttr K C f ∧ fs.length < 1000 ∧ Q σ (upd H1 a (.ins C dx (putF f v fs)))
end
def gFld (ft : List (Str × Str)) (f : Str) (fo : Ex D) : D → Sm := fun d env S => (fo env S).go env fun o S1 => match putFld ft f o d S1 with
  | some S2 => .nx env S2
  | none => .bad
section
variable {X : Cx} {E : EE} {o : Expr} {f : Str} {pos : Pos} {fo : Ex D}
end
section
variable {env : List Sl} {S : List Cell} {F : PF}
@[simp ↓] theorem V_gfld (ft : List (Str × Str)) (f : Str) (fo : Ex D) (d : D) : @Fl.V (gFld ft f fo d env S) F = @Rs.V D (fo env S) (F.rd env fun o S1 => @Fl.V (match putFld ft f o d S1 with | some S2 => .nx env S2 | none => .bad) F) := by
  unfold gFld; cases fo env S <;> rfl
end
structure Oex0 (K : PySem.W.Frag) (C : Addr) : Prop where
  base : ∃ (B newId initId : String) (bmB : List Value), ExcBaseFacts B newId initId bmB ∧ PySem.W.excIn K C bmB newId = true
  exC : PySem.W.subIn K (.ref C) (.type "BaseException") = some true
  tyC : PySem.W.typeIn K (.ref C) = some (.type "type")
  kC : PySem.W.keepIn K (.ref C) = true
structure Rz0 (K : PySem.W.Frag) (mg : Str → Option Value) (x : Str) : Prop where
  at' : ∃ C : Addr, mg x = some (.ref C) ∧ Oex0 K C
theorem pmk_own0 {X : Cx} {C : Addr} {bmB : List Value} {B newId initId : String} {x : Str} {p pos : Pos} (F : ExcBaseFacts B newId initId bmB) (q : PySem.W.excIn X.K C bmB newId = true) (gC : X.mg x = some (.ref C)) (kC : PySem.W.keepIn X.K (.ref C) = true) (r : Raises X (.ref C)) (hg : Gl X x)
    (hdb : (x == ("__debug__" : Str)) = false := by decide) : L2N.PMk X (.Call (.Name x p) [] [] pos) (fun _ H Q => Q (.ref C) none H) := by
  intro pins s σ H Q I h
  refine wpAny_Call_Name_kw (ld_glob I hg gC ?_ hdb)
  refine PySem.W.callWith_K0 I.kIn kC ?_
  show wpAny _ _ (call (.ref C) []) _ _ _
  obtain ⟨bm, N, nm, qn, bs, hdct, sn, sub, ab, col, dd, k0, k1, k2, k3, k5, mN, hC, hN, hni, T⟩ := exc_obj I.kIn q
  refine wpAny_call_exc_subT F T hC hN hni (fun h' e hm => ?_) (Nat.zero_le _)
  exact L2N.mk_of I hm r h (I.hok.gone hm.new)
def mRaise0 (x : Str) : Sm := fun env S => .ex x [] [] env S
section
variable {X : Cx} {E : EE} {x : Str} {p pos pos' : Pos}
end
section
variable {env : List Sl} {S : List Cell} {F : PF}
@[simp] theorem V_raise0 (x : Str) : @Fl.V (mRaise0 x env S) F = F.X x [] [] env S := nr rfl
end
end DL
namespace DL
open PySem PySem.Spec L2
open PyProof.Rows hiding St
theorem TupAt.bare {K : PySem.W.Frag} {F : Fz} {H : Hp} {a : Addr} {vs : List V} (h : TupAt K F H a vs) : (∃ o, BT vs o ∧ H a = some o) ∨ SqM K a vs := h.imp (fun h => h.2) fun h => h
abbrev BareAt (K : PySem.W.Frag) (H : Hp) (a : Addr) (vs : List V) : Prop := (∃ o, BT vs o ∧ H a = some o) ∨ SqM K a vs
section
variable {X : Cx} {pins : List (Addr × Obj)} {σ : St} {H : Hp} {s : Shared}
variable {o e : Expr} {es : List Expr} {to : TE} {ta : TA} {name : Str} {apos cpos : Pos} {id : String} {r : V → List V → Hp → VK → Prop}
def tTM (K : PySem.W.Frag) (r : V → List V → Hp → VK → Prop) (to : TE) (ta : TA) : TE := fun σ H Q => to σ H fun x H1 => (∃ p vs, x = .ref p ∧ BareAt K H1 p vs) ∧ ta σ H1 fun zs H2 => r x zs H2 Q
def rCntT (K : PySem.W.Frag) : V → List V → Hp → VK → Prop := fun x xs H Q => ∃ (p : Addr) (ns : List Int) (k : Int), x = .ref p ∧ xs = [.int k] ∧ SqT K H p (ns.map V.int) ∧ Q (.int (ns.count k : Nat)) H
def rIdxT (K : PySem.W.Frag) : V → List V → Hp → VK → Prop := fun x xs H Q => ∃ (p : Addr) (ns : List Int) (k : Int), x = .ref p ∧ xs = [.int k] ∧ SqT K H p (ns.map V.int) ∧ k ∈ ns ∧ Q (.int (ns.idxOf k : Nat)) H
end
def cntT (ds : List D) : D → List Cell → Rs D
  | .int i, S => match intsOf ds with
    | some ns => .ok (.int (ns.count i : Nat)) S
    | none => .bad
  | _, _ => .bad
def idxT (ds : List D) : D → List Cell → Rs D
  | .int i, S => match intsOf ds with
    | some ns => if i ∈ ns then .ok (.int (ns.idxOf i : Nat)) S else .bad
    | none => .bad
  | _, _ => .bad
def onTup (k : List D → D → List Cell → Rs D) (h : Ex D) (env : List Sl) : D → List Cell → Rs D
  | .tup ds, S => (h env S).andThen (k ds)
  | _, _ => .bad
def mCntT (f h : Ex D) : Ex D := fun env S => (f env S).andThen (onTup cntT h env)
def mIdxT (f h : Ex D) : Ex D := fun env S => (f env S).andThen (onTup idxT h env)
@[simp] theorem cntT_ints (ns : List Int) (i : Int) (S : List Cell) : cntT (ns.map .int) (.int i) S = .ok (.int (ns.count i : Nat)) S := by
  unfold cntT
  rw [intsOf_map]
@[simp] theorem onTup_tup (k : List D → D → List Cell → Rs D) (h : Ex D) (env : List Sl) (ds : List D) (S : List Cell) : onTup k h env (.tup ds) S = (h env S).andThen (k ds) := nr rfl
@[simp] theorem r_cntT (f h : Ex D) (env : List Sl) (S : List Cell) : mCntT f h env S = (f env S).andThen (onTup cntT h env) := nr rfl
@[simp] theorem r_idxT (f h : Ex D) (env : List Sl) (S : List Cell) : mIdxT f h env S = (f env S).andThen (onTup idxT h env) := nr rfl
@[simp ↓] theorem V_cntT (f h : Ex D) (env : List Sl) (S : List Cell) {P : PR D} : @Rs.V D (mCntT f h env S) P = @Rs.V D ((f env S).andThen (onTup cntT h env)) P := by rw [r_cntT]
@[simp ↓] theorem V_idxT (f h : Ex D) (env : List Sl) (S : List Cell) {P : PR D} : @Rs.V D (mIdxT f h env S) P = @Rs.V D ((f env S).andThen (onTup idxT h env)) P := by rw [r_idxT]
section
variable {X : Cx} {E : EE} {o e : Expr} {f h : Ex D} {apos cpos : Pos}
end
end DL
namespace DL
open PySem PySem.Spec L2
open PyProof.Rows hiding St
open Builtin Builtin.ObjectAttr
theorem osaG_old {prog : Program} {w : World} {A : Around} {R : Result → Shared → Prop} {hp : Heap} {g : Array GenState} {d : Drawn} {t : Nat} {os : OsState} {K : PySem.W.Frag} {name : Str} {bmB : List Value} {tk : Tok} {v : Value} {x C dx : Addr} {fv : Array Value} {Bn : String} {m0 : Str → Option Value} {nl : List Str}
    (SF : StoreFacts Bn bmB "object.__setattr__" "object") (kin : K.In hp) (hx : hp.get? x = some { cls := .ref C, dict := some dx, data := .fields fv }) (hns : hp.Ns1 dx m0) (hw : Within m0 nl) (hz : nl.length ≤ 1000) (ov : PySem.W.excOver K C bmB = true) (hh : PySem.W.hasDictIn K C = true) (ht : PySem.W.takerIn K C name = some none)
    (go : ∀ h' tk', (∀ b o, b ≠ dx → hp.get? b = some o → h'.get? b = some o) → h'.Ns1 dx (fun y => if y = name then some v else m0 y) → R (.ok (.ret .none)) ⟨h', g, d, tk', os⟩) :
    codeAny (model prog w) A (.call (.builtin "object.__setattr__") ⟨[.ref x, .str name tk, v], []⟩) R ⟨hp, g, d, t, os⟩ := by
  obtain ⟨oD, esD, epD, hoD, hdD, _⟩ := hns.count hw
  have at0 : PySem.W.InstAt hp x { cls := .ref C, dict := some dx, data := .fields fv } C (some oD) := ⟨hx, rfl, rfl, hoD⟩
  obtain ⟨cd, hc, hdt⟩ := PySem.W.any_some hh
  have lc : PySem.W.Looks (model prog w) hp (classData C) cd := PySem.W.looks_clsIn kin hc
  refine PySem.W.osa_openX (s := ⟨hp, g, d, t, os⟩) SF kin at0 ov ht fun b => ?_
  obtain ⟨c1, c2, c3, c4, c5, c6, c7, c8, c9, c10, c11⟩ := cd
  dsimp only at hdt ⊢
  subst hdt
  unfold storeInOwnDict ownDictForStores
  repeat (first | with_reducible refine PySem.OEX.store_in_old hns hw hz ?_ | with_reducible refine wpAny_loadPart_at hx ?_ | with_reducible refine lc.at ?_ | wp_step)
  intro h' tk' hn' hs
  exact go h' tk' (fun b o hb ho => (hs.2 b hb).trans ho) hn'
section
variable {X : Cx} {pins : List (Addr × Obj)} {σ : L2.St} {H : Hp} {s : Shared} {a C dx : Addr} {f : Str} {y : V} {u : Value} {fs : List (Str × V)} {Q : Unit → Shared → Prop} {E : Value → Shared → Prop} {A : Around}
theorem ostG_old (T : OexG X.K C) (I : Inv X pins σ H s) (e : H a = some (exo a C (some dx))) (ed : H dx = some (exd dx fs)) (hl : fs.length ≤ 900) (ht : PySem.W.takerIn X.K C f = some none) (ry : RelV y u)
    (h : ∀ s', Inv X pins σ (upd H dx (exd dx ((f, y) :: fs))) s' → Q () s') : wpAny (model X.prog X.w) A (setAttr (.ref a) f u) Q E s := by
  obtain ⟨B, _, _, bmB, _, SF, _, ov⟩ := T.base
  obtain ⟨t1, ho⟩ := exo_at I.hok e
  obtain ⟨mA, hns, rel⟩ := exd_at I.hok ed
  have hw := within_of rel
  obtain ⟨hp, g, d, t, os⟩ := s
  obtain ⟨oD, _, _, hoD, _, _⟩ := hns.count hw
  refine PySem.W.set_plain I.kIn (ox := { cls := .ref C, dict := some dx, data := .fields #[.ref t1, .none, .none, .none, .bool false, .none] }) (od := some oD) ⟨ho, rfl, rfl, hoD⟩ T.sa ?_
  refine osaG_old SF I.kIn ho hns hw (by rw [List.length_map]; omega) ov T.hd ht fun h' tk' k hn => ?_
  have hd : ∃ o, h'.get? dx = some o := by
    obtain ⟨o, _, _, e', _⟩ := hn
    exact ⟨o, e'⟩
  exact h _ (I.write (t' := tk') (x := dx) (e := dx) (o := exd dx ((f, y) :: fs)) (by rw [ed]; exact True.intro) (.inl rfl) k hd (exd_ok hn (relO_put ry rel)))
def tOstG2 (K : PySem.W.Frag) (f : Str) (to te : TE) : TS := fun D σ H => te σ H fun y H1 => to σ H1 fun x H2 => ∃ (a C dx : Addr) (fs : List (Str × V)), x = .ref a ∧ OexG K C ∧ PySem.W.takerIn K C f = some none ∧
  H2 a = some (exo a C (some dx)) ∧ H2 dx = some (exd dx fs) ∧ fs.length ≤ 900 ∧ D.nx σ (upd H2 dx (exd dx ((f, y) :: fs)))
theorem ps_ostG2 {o e : Expr} {to te : TE} {p' pos : Pos} (ho : PE X o to) (he : PE X e te) (hs : swapsWith e (some (.Attribute o f p')) pos.line X.env = pure false := by rfl) : PS X (.Assign [.Attribute o f p'] e pos) (tOstG2 X.K f to te) := by
  constructor
  intro pins s σ H D I h
  refine plainObj_wpAny_Assign_Attribute (thn (he.run pins s σ H _ I h) fun v s1 q1 => ?_) hs
  obtain ⟨y, H1, I1, r1, q1⟩ := q1
  refine thn (ho.run pins s1 σ H1 _ I1 q1) fun u s2 q2 => ?_
  obtain ⟨x, H2, I2, r2, a, C, dx, fs, rfl, T, ht, ea, ed, hl, q⟩ := q2
  obtain rfl : u = Value.ref a := r2
  exact ostG_old T I2 ea ed hl ht r1 fun s' J => ⟨σ, _, J, q⟩
end
def spI2 (C : Addr) (f1 f2 : Str) : Sp := fun vs H Q E => ∃ a y z, vs = [.ref a, y, z] ∧ H a = some (exo a C none) ∧ ∀ dx, H dx = none → dx ≠ a → Q .non (upd (upd (upd H a (exo a C (some dx))) dx (exd dx [(f1, y)])) dx (exd dx [(f2, z), (f1, y)]))
theorem init2 {P : Program} {w : World} {K : PySem.W.Frag} {mg : Str → Option Value} {base : Heap} {qual x1 x2 f1 f2 : Str} {st : Stmt} {f C : Addr} {fd : FuncData} {p1 p2 p3 p4 p5 p6 p7 p8 : Pos} (F : Fun K "__init__" qual st f fd)
    (hb : defBody st = [.Assign [.Attribute (.Name "self" p1) f1 p2] (.Name x1 p3) p4, .Assign [.Attribute (.Name "self" p5) f2 p6] (.Name x2 p7) p8]) (S : FnScope ["self", x1, x2] ["self", x1, x2] (defScope st)) (T : OexG K C) (ht : PySem.W.takerIn K C f1 = some none) (ht2 : PySem.W.takerIn K C f2 = some none)
    (hd : (x1 == ("__debug__" : Str)) = false := by decide) (hcd : (x1 == ("__classdict__" : Str)) = false := by decide) (hd2 : (x2 == ("__debug__" : Str)) = false := by decide) (hcd2 : (x2 == ("__classdict__" : Str)) = false := by decide) :
    FnOk P w K mg base CX0 1 f fd ["self", x1, x2] (spI2 C f1 f2) := by
  have vis : ∀ x ∈ (["self", x1, x2] : List Str), Vis (defScope st) x := fun x hx => (S.par x hx).elim .inl fun z => .inr (.inl z)
  refine F.ok S (fun vs H Q E ⟨a, y, z, e, _⟩ => by rw [e]; rfl) fun cd A outer s H vs Q E rm h => ?_
  obtain ⟨a, y, z, rfl, ha, q⟩ := h
  rw [hb]
  refine ⟨_, pss_cons (ps_ostG (pe_var (i := 0) rfl (vis _ (by simp)) (by decide) (by decide)) (pe_var (i := 1) rfl (vis _ (by simp)) hd hcd) (by rfl)) (pss_one (ps_ostG2 (pe_var (i := 0) rfl (vis _ (by simp)) (by decide) (by decide)) (pe_var (i := 2) rfl (vis _ (by simp)) hd2 hcd2) (by rfl))), ?_⟩
  refine ⟨y, rfl, .ref a, rfl, a, C, rfl, T, ht, ha, fun dx n ne => ?_⟩
  refine ⟨z, rfl, .ref a, rfl, a, C, dx, [(f1, y)], rfl, T, ht2, by rw [upd_ne (Ne.symm ne), upd_same], upd_same, by simp, q dx n ne⟩
structure Rz2 (P : Program) (w : World) (K : PySem.W.Frag) (mg : Str → Option Value) (base : Heap) (x f1 f2 : Str) : Prop where
  at' : ∃ (C fI : Addr) (fd : FuncData) (ps : List Str), mg x = some (.ref C) ∧ OexG K C ∧ PySem.W.findIn K (.ref C) "__init__" = some (some (.ref fI)) ∧ PySem.W.typeIn K (.ref fI) = some (.type "function") ∧ FnOk P w K mg base CX0 1 fI fd ps (spI2 C f1 f2) ∧ Binds K fd ps []
def mRaise2 (x f1 f2 : Str) (fa : Ex (List D)) : Sm := fun env S => (fa env S).go env fun ds S1 => match ds with
  | [a, b] => .ex x [f2, f1] [b, a] env S1
  | _ => .bad
section
variable {X : Cx} {E : EE} {k : Nat} {x f1 f2 : Str} {e e2 : Expr} {fa : Ex (List D)} {p pos pos' : Pos}
end
end DL
namespace DL
open PySem PySem.Spec L2
open PyProof.Rows hiding St
def mCMethK (c : Str) (n nk : Nat) (p : List Nat) (m : Fn) (fk : Ex (List D)) : Ex D := fun env S => (mC (.cls c) env S).andThen fun x S0 => (fk env S0).andThen fun zs S2 => if zs.length = nk then (if (pickL p (x :: zs)).length = n then m (pickL p (x :: zs)) S2 else .bad) else .bad
section
variable {X : Cx} {E : EE} {kws : List Keyword} {fk : Ex (List D)} {pos pn apos : Pos} {c nm : Str} {C pr gI : Addr} {mc : Value} {i n nk : Nat} {fd : FuncData} {ps ks : List Str} {m : Fn} {pk : List Nat}
end
section
variable {env : List Sl} {S : List Cell} {c : Str} {n nk : Nat} {pk : List Nat} {m : Fn} {fk : Ex (List D)}
@[simp] theorem r_cmethK : mCMethK c n nk pk m fk env S = (mC (.cls c) env S).andThen fun x S0 => (fk env S0).andThen fun zs S2 => if zs.length = nk then (if (pickL pk (x :: zs)).length = n then m (pickL pk (x :: zs)) S2 else .bad) else .bad := nr rfl
@[simp ↓] theorem V_rcmethK {P : PR D} : @Rs.V D (mCMethK c n nk pk m fk env S) P = @Rs.V D ((mC (.cls c) env S).andThen fun x S0 => (fk env S0).andThen fun zs S2 => if zs.length = nk then (if (pickL pk (x :: zs)).length = n then m (pickL pk (x :: zs)) S2 else .bad) else .bad) P := by rw [r_cmethK]
end
end DL
namespace DL
open PySem PySem.Spec PySem.Calls L2
open PyProof.Rows hiding St
def PEK (X : Cx) (e : Expr) (t : TE) : Prop := ∀ (pins : List (Addr × Obj)) (s : Shared) (σ : St) (H : Hp) (Q : VK), Inv X pins σ H s → t σ H Q → wpAny (model X.prog X.w) X.A (eval e X.env) (fun v s1 => 1 ≤ s1.toks ∧ EP X pins σ Q v s1) X.xe s
theorem PEK.imp {X : Cx} {e : Expr} {t t' : TE} (p : PEK X e t) (h : ∀ σ H Q, t' σ H Q → t σ H Q) : PEK X e t' := fun pins s σ H Q I q => p pins s σ H Q I (h σ H Q q)
def VEK (X : Cx) (E : EE) (e : Expr) (f : Ex D) : Prop := ∀ g, PEK X e (tV X.K X.mg g E f)
def VET (X : Cx) (E : EE) (e : Expr) (f : Ex D) : Prop := ∀ g, PET X e (tV X.K X.mg g E f)
def VAT (X : Cx) (E : EE) (es : List Expr) (f : Ex (List D)) : Prop := ∀ g, PAT X es (tAr X.K X.mg g E f)
def mRepl (y z : Str) (f : Ex D) : Ex D := fun env S => (f env S).andThen fun x S1 => match x with
  | .str a => if a.length + (a.length + 1) * z.length ≤ 100000 then .ok (.str (Txt.replace a y z)) S1 else .bad
  | _ => .bad
section
variable {X : Cx} {E : EE} {e a b o : Expr} {es : List Expr} {f h : Ex D} {fa : Ex (List D)} {pos apos : Pos}
end
section
variable {env : List Sl} {S : List Cell}
@[simp] theorem r_repl (y z : Str) (f : Ex D) : mRepl y z f env S = (f env S).andThen fun x S1 => match x with
  | .str a => if a.length + (a.length + 1) * z.length ≤ 100000 then .ok (.str (Txt.replace a y z)) S1 else .bad
  | _ => .bad := nr rfl
@[simp ↓] theorem V_repl (y z : Str) (f : Ex D) {R : PR D} : @Rs.V D (mRepl y z f env S) R = @Rs.V D ((f env S).andThen fun x S1 => match x with
  | .str a => if a.length + (a.length + 1) * z.length ≤ 100000 then .ok (.str (Txt.replace a y z)) S1 else .bad
  | _ => .bad) R := by rw [r_repl]
end
end DL
namespace DL
open PySem PySem.Spec PySem.Calls L2
open PyProof.Rows hiding St
structure FnR (P : Program) (w : World) (K : PySem.W.Frag) (mg : Str → Option Value) (base : Heap) (k : Nat) (f : Addr)
    (fd : FuncData) (ps : List Str) (sp : Sp) : Prop where
  arity : ∀ vs H Q E, sp vs H Q E → vs.length = ps.length
  go : ∀ (A : Around) (outer : List Env) (s : Shared) (H : Hp) (args : Args) (us : List Value) (vs : List V) (Q : VK) (E : XK),
    Room k A → Env0 P w K mg base A outer s H → BindsTo s fd args (ps.zip us) → Vals vs us → sp vs H Q E →
    codeAny (model P w) A (.call (.ref f) args) (CR (L2N.CX P w) outer P w H s Q E) s
section
variable {P : Program} {w : World} {K : PySem.W.Frag} {mg : Str → Option Value} {base : Heap}
theorem FnR.less {i k : Nat} {f : Addr} {fd : FuncData} {ps : List Str} {sp : Sp} (F : FnR P w K mg base i f fd ps sp) (h : i ≤ k) :
    FnR P w K mg base k f fd ps sp :=
  ⟨F.arity, fun A outer s H args us vs Q E r => F.go A outer s H args us vs Q E (r.mono h)⟩
end
section
variable {P : Program} {w : World} {K : PySem.W.Frag} {mg : Str → Option Value} {base : Heap}
end
section
variable {X : Cx} {E : EE} {e o : Expr} {es : List Expr} {f fo h : Ex D} {fa : Ex (List D)} {pos p apos : Pos} {c nm : Str} {C gI : Addr} {i n : Nat} {fd : FuncData} {ps : List Str} {m : Fn}
end
section
variable {X : Cx} {i : Nat} {f C : Addr} {fd : FuncData} {ps : List Str} {m : List D → List Cell → Rs D}
end
end DL
namespace DL
open PySem PySem.Spec L2
open PyProof.Rows hiding St
open Builtin Builtin.ObjectAttr
section
variable {M : Model} {A : Around} {E : Value → Shared → Prop} {hp : Heap} {gs : Array GenState} {dr : Drawn} {tk : Nat} {os : OsState} {prog : Program} {w : World}
variable {nm q : Str} {C N : Addr} {bs bm bmB : List Value} {hdct : Bool} {sn : List Str} {sub : List Value} {ab : Bool} {col : Option Bool} {dd : Option Addr} {k0 k1 k2 k3 k5 : Option Value} {B newId initId : String}
abbrev clsO (nm q : Str) (C N : Addr) (bs bm : List Value) (hdct : Bool) (sn : List Str) (sub : List Value) (ab : Bool) (col : Option Bool) (dd : Option Addr) (k0 k1 k2 k3 k5 : Option Value) (newId : String) : Obj := excClassObj nm q C N bs bm hdct sn sub ab col dd k0 k1 k2 k3 k5 newId
theorem kwnew_check (F : ExcBaseFacts B newId initId bmB) (same : ∀ T : String, bm.contains (.type T) = bmB.contains (.type T)) {us : List Value} {kw : List (Str × Value)} {Q : Unit → Shared → Prop}
    (at_ : hp.get? C = some (clsO nm q C N bs bm hdct sn sub ab col dd k0 k1 k2 k3 k5 newId)) (go : Q () ⟨hp, gs, dr, tk, os⟩) : wpAny M A (checkBuiltinCall newId ⟨.ref C :: us, kw⟩) Q E ⟨hp, gs, dr, tk, os⟩ := by
  have isB : (Value.ref C :: bm).contains (.type B) = true := by rw [List.contains_cons, same, F.hasB, Bool.or_true]
  have st := F.noStar
  simp only [checkBuiltinCall, F.newSplit, F.newKind, F.newRow]
  repeat (first | refine wpAny_madeBy_exc at_ ?_ | refine wpAny_staticBase_exc at_ ?_ | (refine wpAny_isSubtype_exc at_ ?_; rw [isB]) | refine wpAny_loadPart_at at_ ?_ | simp only [Bool.false_eq_true, bne_self_eq_false, if_false] | wp_step)
  exact go
theorem kwnew_made (F : ExcBaseFacts B newId initId bmB) (same : ∀ T : String, bm.contains (.type T) = bmB.contains (.type T)) {us : List Value} {kw : List (Str × Value)} {R : Result → Shared → Prop}
    (at_ : hp.get? C = some (clsO nm q C N bs bm hdct sn sub ab col dd k0 k1 k2 k3 k5 newId))
    (go : R (.ok (.ret (.ref (hp.objs.size + 1)))) ⟨(hp.push (PySem.W.kdv_tup us)).push (HandSPX.excO C hp.objs.size), gs, dr, tk, os⟩) (small : us.length ≤ sizeLine) :
    codeAny (model prog w) A (.builtin newId ⟨.ref C :: us, kw⟩) R ⟨hp, gs, dr, tk, os⟩ := by
  have en := F.ends
  have isB : (Value.ref C :: bm).contains (.type B) = true := by rw [List.contains_cons, same, F.hasB, Bool.or_true]
  have noN : (Value.ref C :: bm).contains (.type "NameError") = false := by rw [List.contains_cons, same, F.noName]; rfl
  have noA : (Value.ref C :: bm).contains (.type "AttributeError") = false := by rw [List.contains_cons, same, F.noAttr]; rfl
  refine codeAny_builtinAt F.entry ?_
  unfold Builtin.«BaseException.__new__»
  refine PySem.wpAt_bind ?_
  show PySem.wpAt _ _ _ (stack >>= _) _ _ _
  refine PySem.wpAt_bind (PySem.wpAt_stack fun fr under => PySem.wpAt_of_wpAny ?_)
  wp_walk
  refine PySem.wpAt_of_wpAny ?_
  rw [F.owner]
  repeat (first | with_reducible refine wpAny_loadPart_at at_ ?_ | with_reducible refine wpAny_madeHere_exc F.canon at_ ?_ | (with_reducible refine wpAny_isSubtype_exc at_ ?_; first | rw [isB] | rw [noN] | rw [noA]) | wp_step)
  show R _ _
  rw [Heap.size_push]
  exact go
theorem kwtype_call (F : ExcBaseFacts B newId initId bmB) (same : ∀ T : String, bm.contains (.type T) = bmB.contains (.type T)) {us : List Value} {kw : List (Str × Value)} {fI : Addr} {Q : Fin → Shared → Prop}
    (at_ : hp.get? C = some (clsO nm q C N bs bm hdct sn sub ab col dd k0 k1 k2 k3 k5 newId))
    (li : PySem.W.Looks (model prog w) hp (typeLookup (.ref C) "__init__") (some (.ref fI))) (lb : ∀ self, PySem.W.Looks (model prog w) hp (bindSpecial (.ref fI) self) (.ref fI, [self])) (small : us.length ≤ sizeLine)
    (go : codeAny (model prog w) A (.call (.ref fI) ⟨.ref (hp.objs.size + 1) :: us, kw⟩)
      (fun r s' => match r with | .error e => E e s' | .ok (.ret v) => v = .none ∧ Q (.done (.ret (.ref (hp.objs.size + 1)))) s' | .ok _ => False)
      ⟨(hp.push (PySem.W.kdv_tup us)).push (HandSPX.excO C hp.objs.size), gs, dr, tk, os⟩) :
    wpAny (model prog w) A (Builtin.«type.__call__» ⟨.ref C :: us, kw⟩) Q E ⟨hp, gs, dr, tk, os⟩ := by
  repeat (first | with_reducible refine wpAny_madeBy_exc at_ ?_ | with_reducible refine wpAny_loadPart_at at_ ?_ | wp_step)
  refine codeAny_call_builtin_code (Code.quiet_builtin _ F.quiet) (kwnew_check F same at_ ?_)
  refine kwnew_made F same at_ ?_ small
  show wpAny _ _ _ _ _ _
  have kp : ∀ b o, hp.get? b = some o → ((hp.push (PySem.W.kdv_tup us)).push (HandSPX.excO C hp.objs.size)).get? b = some o := fun _ _ z => Heap.get?_push_of_some _ (Heap.get?_push_of_some _ z)
  have at1 := kp _ _ at_
  have new1 : ((hp.push (PySem.W.kdv_tup us)).push (HandSPX.excO C hp.objs.size)).get? (hp.objs.size + 1) = some (HandSPX.excO C hp.objs.size) := by heap_get
  have isC : (Value.ref C :: bm).contains (.ref C) = true := by simp
  have l1 := li.keeps kp
  have l2 := (lb (.ref (hp.objs.size + 1))).keeps kp
  unfold isInstance
  repeat (first | (with_reducible refine wpAny_isSubtype_exc at1 ?_; rw [isC]) | with_reducible refine wpAny_loadPart_at new1 ?_ | wp_step)
  show wpAny _ _ (typeLookup (.ref C) _) _ _ _
  refine l1.at ?_
  refine wpAny_holding (wpAny_bind (l2.at ?_))
  refine wpAny_bind (wpAny_call (codeAny_mono go fun r s' z => ?_))
  rcases r with e | (v | _ | _ | _) <;> first | exact z.elim | exact z | skip
  obtain ⟨rfl, z⟩ := z
  first
    | (wp_walk; exact z)
    | exact wpAny_pure (wpAny_pure z)
theorem kwcall_own (F : ExcBaseFacts B newId initId bmB) (same : ∀ T : String, bm.contains (.type T) = bmB.contains (.type T)) {us : List Value} {kw : List (Str × Value)} {fI : Addr} {R : Result → Shared → Prop}
    (at_ : hp.get? C = some (clsO nm q C N bs bm hdct sn sub ab col dd k0 k1 k2 k3 k5 newId))
    (li : PySem.W.Looks (model prog w) hp (typeLookup (.ref C) "__init__") (some (.ref fI))) (lb : ∀ self, PySem.W.Looks (model prog w) hp (bindSpecial (.ref fI) self) (.ref fI, [self])) (small : us.length ≤ sizeLine)
    (go : codeAny (model prog w) (A.under (.builtin "type.__call__" ⟨.ref C :: us, kw⟩)) (.call (.ref fI) ⟨.ref (hp.objs.size + 1) :: us, kw⟩) (PySem.W.InitBack (hp.objs.size + 1) R)
      ⟨(hp.push (PySem.W.kdv_tup us)).push (HandSPX.excO C hp.objs.size), gs, dr, tk, os⟩) :
    codeAny (model prog w) A (.call (.ref C) ⟨us, kw⟩) R ⟨hp, gs, dr, tk, os⟩ := by
  have t1 := tc_lookup
  have t2 := tc_bind (.ref C)
  have ty : (⟨hp, gs, dr, tk, os⟩ : Shared).TypeIs (.ref C) "type" := ⟨_, at_, rfl⟩
  refine codeAny_of_tree ?_
  show wpAny _ _ (callAny (.ref C) _) _ _ _
  repeat (any_goals (first | with_reducible refine wpAny_loadPart_at at_ ?_ | assumption | wp_step))
  refine ⟨rfl, ?_⟩
  refine codeAny_call_builtin_at (Code.quiet_builtin _ (by decide +kernel)) entry_typeCall (wpAny_check_type_call_sub at_ (kwtype_call F same at_ li lb small ?_))
  refine codeAny_mono go fun r s' z => ?_
  rcases r with e | (v | _ | _ | _) <;> exact z
end
def tMkK (C : Addr) (sp : Sp) (ks : List Str) (pk : List Nat) (ta : TA) : L2.St → Hp → XK → Prop := fun σ H Q => ta σ H fun zs H1 => zs.length = ks.length ∧ ∀ a, H1 a = none → sp (pickL pk (.ref a :: zs)) (upd H1 a (exo a C none))
  (fun v H2 => v = .non ∧ ∃ (d : Addr) (fs : List (Str × V)), H2 a = some (exo a C (some d)) ∧ H2 d = some (exd d fs) ∧ H1 d = none ∧ Q (.ref C) (some d) (upd (del H2 a) d (.xd fs))) (fun _ _ _ => False)
theorem pmkK {X : Cx} {CX : CXT} {x : Str} {C fI : Addr} {k : Nat} {fd : FuncData} {ps ks : List Str} {pk : List Nat} {sp : Sp} {kws : List Keyword} {ta : TA} {p pos : Pos} (T : OexG X.K C) (iC : PySem.W.findIn X.K (.ref C) "__init__" = some (some (.ref fI)))
    (tI : PySem.W.typeIn X.K (.ref fI) = some (.type "function")) (FI : FnOk X.prog X.w X.K X.mg X.base CX k fI fd ps sp) (rm : Room (k + 1) X.A) (hb : BindsW X.K fd ps 1 ks pk) (px : Passes CX X (fun _ _ _ => False)) (hg : Gl X x) (hm : X.mg x = some (.ref C))
    (ha : PK X kws ta) (hdb : (x == ("__debug__" : Str)) = false := by decide) (hall : (backToKw pos (keywordEach kws X.env)).all (·.1.isSome) = true := by rfl) (hks : (backToKw pos (keywordEach kws X.env)).filterMap (·.1) = ks := by rfl)
    (hpl : ((backTo pos (starEach [] X.env)).any (·.1) || (backToKw pos (keywordEach kws X.env)).any (·.1.isNone)) = false := by rfl) :
    L2N.PMk X (.Call (.Name x p) [] kws pos) (tMkK C sp ks pk ta) := by
  intro pins s σ H Q I h
  obtain ⟨B, newId, initId, bmB, BF, _, inI, _⟩ := T.base
  refine wpAny_Call_Name_kw (ld_glob I hg hm ?_ hdb)
  refine PySem.W.callWith_KW0 (h₀ := X.base) I.ok.mod.kin T.kC hall (thn (ha.run pos pins s σ H _ I h) fun ws s1 hv => ?_) hpl
  obtain ⟨zs, H1, I1, r1, hz, q1⟩ := hv
  refine ⟨I1.kIn, ?_⟩
  rw [hks]
  show wpAny _ _ (call (.ref C) [] (ks.zip ws)) _ _ _
  obtain ⟨hp, g, dr, tk, os⟩ := s1
  obtain ⟨nm, N, qn, bs, bm, hdct, sn, sub, ab, col, dd, k0, k1, k2, k3, k5, hC, hbm⟩ := PySem.W.excInit_of I1.kIn inI
  have up1 : hp.objs.size ≤ hp.objs.size + 1 := Nat.le_succ _
  have hn : H1 (hp.objs.size + 1) = none := I1.hok.fresh up1
  have kk : ∀ b o, hp.get? b = some o → ((hp.push (PySem.W.kdv_tup [])).push (HandSPX.excO C hp.objs.size)).get? b = some o := fun b o z => Heap.get?_push_of_some _ (Heap.get?_push_of_some _ z)
  have at1 : ((hp.push (PySem.W.kdv_tup [])).push (HandSPX.excO C hp.objs.size)).get? (hp.objs.size + 1) = some (HandSPX.excO C hp.objs.size) := by heap_get
  have I2 := I1.laid (t' := tk) (a := hp.objs.size + 1) (o := exo (hp.objs.size + 1) C none) (h' := (hp.push (PySem.W.kdv_tup [])).push (HandSPX.excO C hp.objs.size)) kk up1 (exo_ok at1)
  have q := q1 _ hn
  have rr := pick_vals (vs := V.ref (hp.objs.size + 1) :: zs) (us := Value.ref (hp.objs.size + 1) :: ws) (.cons rfl r1) pk
  have bd := hb ⟨(hp.push (PySem.W.kdv_tup [])).push (HandSPX.excO C hp.objs.size), g, dr, tk, os⟩ [Value.ref (hp.objs.size + 1)] ws I2.kIn rfl (r1.length.symm.trans hz)
  refine wpAny_call (kwcall_own BF hbm hC (PySem.W.looks_findIn I1.kIn iC) (fun self => PySem.W.bind_fn I1.kIn self tI) (Nat.zero_le _) (codeAny_mono (FI.run _ X.stack _ _ ⟨Value.ref (hp.objs.size + 1) :: [], ks.zip ws⟩ _ _ _ (fun _ _ _ => False)
    (rm.make C [] (ks.zip ws)) (I2.env0.make C [] (ks.zip ws)) bd rr q) ?_))
  rintro r ⟨h2, g2, d2, t2, os2⟩ hr
  cases r with
  | error er => exact px pins σ _ _ er _ I2 hr
  | ok fl =>
    cases fl with
    | ret u =>
      obtain ⟨v, H2, o2, b2, un2, ok2, rv, ev, d, fs, ea, ed, hd1, q2⟩ := hr
      subst ev
      obtain ⟨t0, G, J, kG, ge, hoe, na⟩ := mk_end0 (d2 := d2) (t2 := t2) I1 up1 kk un2 ok2 o2 b2 ea ed hd1
      exact ⟨rv, _, _, _, ⟨G, g2, d2, t2, os2⟩, _, .ref C, some d, rfl, J, kG, ge, hoe, ⟨rfl, rfl, fun vs z => by cases z; rfl⟩, rfl, rfl, na, rfl, b2, raises_own T.exC T.tyC, q2⟩
    | _ => exact False.elim hr
def tXV (t : L2.St → Hp → XK → Prop) : TE := fun σ H Q => t σ H fun cls d H2 => ∀ (a : Addr) (oe : Obj), H2 a = none → L2N.Zn cls d oe → (∃ fv, oe.data = .fields fv) → Q (.ref a) (upd H2 a (sutO oe a))
theorem pe_xv {X : Cx} {e : Expr} {t : L2.St → Hp → XK → Prop} (he : L2N.PMk X e t) : PE X e (tXV t) := by
  refine ⟨fun pins s σ H Q I h => thn (he pins s σ H _ I h) fun u s1 hu => ?_⟩
  obtain ⟨a, oe, vs, sI, H', cls, d, rfl, J, k, hne, ha, hz, hd, h1, na, os, ag, r, q⟩ := hu
  have new : ObjOk X.prog X.w (upd H' a (sutO oe a)) s1.heap a (sutO oe a) := ⟨ha, ha, ⟨oe, ha⟩, fun h1 h2 z k => k _ z⟩
  exact ⟨.ref a, upd H' a (sutO oe a), J.call' (ch := []) os (Un.laidN k hne na) (J.hok.laidN k na new) ag (fun b hb => by cases hb), rfl, q a oe na hz ⟨vs, hd⟩⟩
def mExc (x : Str) (ns : List Str) (pk : List Nat) (fa : Ex (List D)) : Ex D := fun env S => (fa env S).andThen fun zs S1 => if zs.length = ns.length then .ok (.exc x ns (pickL pk zs)) S1 else .bad
structure RzK (P : Program) (w : World) (K : PySem.W.Frag) (mg : Str → Option Value) (base : Heap) (x fld k : Str) : Prop where
  at' : ∃ (C fI : Addr) (fd : FuncData) (ps : List Str), mg x = some (.ref C) ∧ OexG K C ∧ PySem.W.findIn K (.ref C) "__init__" = some (some (.ref fI)) ∧ PySem.W.typeIn K (.ref fI) = some (.type "function") ∧ FnOk P w K mg base CX0 1 fI fd ps (spI C fld) ∧ BindsW K fd ps 1 [k] [0, 1]
structure Rz2K (P : Program) (w : World) (K : PySem.W.Frag) (mg : Str → Option Value) (base : Heap) (x f1 f2 k1 k2 : Str) : Prop where
  at' : ∃ (C fI : Addr) (fd : FuncData) (ps : List Str), mg x = some (.ref C) ∧ OexG K C ∧ PySem.W.findIn K (.ref C) "__init__" = some (some (.ref fI)) ∧ PySem.W.typeIn K (.ref fI) = some (.type "function") ∧ FnOk P w K mg base CX0 1 fI fd ps (spI2 C f1 f2) ∧ BindsW K fd ps 1 [k1, k2] [0, 2, 1]
section
variable {X : Cx} {E : EE} {x fld f1 f2 kn k1 k2 : Str} {e e2 : Expr} {kws : List Keyword} {fa : Ex (List D)} {p pos : Pos}
theorem one_same {H1 : Hp} {a C dx : Addr} {fs : List (Str × V)} {o1 o2 o3 : HO} (ha : H1 a = none) (ne : dx ≠ a) : upd (del (upd (upd (upd H1 a o1) a o2) dx o3) a) dx (.xd fs) = upd H1 dx (.xd fs) := by
  funext b
  by_cases z : b = dx
  · subst z; rw [upd_same, upd_same]
  · rw [upd_ne z, upd_ne z]
    by_cases y : b = a
    · subst y; rw [del_same, ha]
    · rw [del_ne y, upd_ne z, upd_ne y, upd_ne y]
theorem two_same {H1 : Hp} {a C dx : Addr} {fs : List (Str × V)} {o1 o2 o3 o4 : HO} (ha : H1 a = none) (ne : dx ≠ a) : upd (del (upd (upd (upd (upd H1 a o1) a o2) dx o3) dx o4) a) dx (.xd fs) = upd H1 dx (.xd fs) := by
  funext b
  by_cases z : b = dx
  · subst z; rw [upd_same, upd_same]
  · rw [upd_ne z, upd_ne z]
    by_cases y : b = a
    · subst y; rw [del_same, ha]
    · rw [del_ne y, upd_ne z, upd_ne z, upd_ne y, upd_ne y]
theorem xv_end {g : Snap} {σ : L2.St} {H1 : Hp} {F1 : Fz} {ι1 : List Addr} {env : List Sl} {S1 : List Cell} {Q : VK} {C dx : Addr} {ns : List Str} {ds : List D} {vs : List V} (hm : X.mg x = some (.ref C)) (w1 : RS X.K X.mg g σ H1 F1 ι1 env S1) (hdx : H1 dx = none) (hl : vs.length = ns.length) (hr : Reps X.K X.mg F1 ι1 H1 ds vs)
    (q : ∀ H' F' ι', Ext H1 F1 ι1 H' F' ι' → RS X.K X.mg g σ H' F' ι' env S1 → ∀ v, Rep X.K X.mg F' ι' H' (.exc x ns ds) v → Q v H') :
    ∀ (a : Addr) (oe : Obj), upd H1 dx (.xd (ns.zip vs)) a = none → L2N.Zn (.ref C) (some dx) oe → (∃ fv, oe.data = .fields fv) → Q (.ref a) (upd (upd H1 dx (.xd (ns.zip vs))) a (sutO oe a)) := by
  intro a oe hn hz hf
  obtain ⟨e2, wd2⟩ := w1.wd.lay (o := .xd (ns.zip vs)) hdx
  obtain ⟨e3, wd3⟩ := wd2.lay (o := sutO oe a) hn
  have ne : dx ≠ a := fun z => by subst z; rw [upd_same] at hn; cases hn
  exact q _ _ _ (e2.trans e3) (w1.step (e2.trans e3) wd3) (.ref a) ⟨a, C, oe, _, some dx, vs, rfl, .inr rfl, hm, upd_same, hz, hf, hl, .inr ⟨dx, rfl, .inl (.inr rfl), by rw [upd_ne ne, upd_same]⟩, w1.wd.reps (e2.trans e3) hr⟩
theorem v_exc1 (Z : Rz X.prog X.w X.K X.mg X.base x fld) (rm : Rm 2 X.A) (ha : VA X E [e] fa) (hg : Gl X x := by rfl) (hdb : (x == ("__debug__" : Str)) = false := by decide)
    (h1 : starEach [e] X.env = (false, eval e X.env) :: starEach [] X.env := by rfl) (h2 : (backTo pos (starEach [] X.env)).any (·.1) = false := by rfl) :
    VE X E (.Call (.Name x p) [e] [] pos) (mExc x [fld] [0] fa) := fun g => by
  obtain ⟨C, fI, fd, ps, hm, T, iC, tI, FI, hb⟩ := Z.at'
  refine (pe_xv (pmkG T iC tI FI (rm.room.mono (by decide)) hb pass0 hg hm (ha g) hdb h1 h2)).imp ?_
  rintro σ H Q ⟨F, ι, env, S, w, q⟩
  refine ⟨F, ι, env, S, w, rd_mono (rd_then q) ?_⟩
  rintro ds H1 F1 ι1 S1 - e1 w1 ⟨_, _, q1⟩ vs hvs
  match ds, q1 with
  | [d], q1 =>
    obtain ⟨v, r, rfl, hv, rfl⟩ := hvs
    refine ⟨by simp, fun a ha => ⟨a, v, rfl, upd_same, fun dx hdx ne => ?_⟩⟩
    rw [upd_ne ne] at hdx
    refine ⟨rfl, dx, [(fld, v)], by rw [upd_ne (Ne.symm ne), upd_same], upd_same, hdx, ?_⟩
    rw [one_same (C := C) ha ne]
    exact xv_end (vs := [v]) (ns := [fld]) hm w1 hdx rfl (.one hv) fun H' F' ι' e' w' u hu => (q1 H' F' ι' e' w').2.2 u hu
theorem v_exc2 (Z : Rz2 X.prog X.w X.K X.mg X.base x f1 f2) (rm : Rm 2 X.A) (ha : VA X E [e, e2] fa) (hg : Gl X x := by rfl) (hdb : (x == ("__debug__" : Str)) = false := by decide)
    (h1 : starEach [e, e2] X.env = (false, eval e X.env) :: starEach [e2] X.env := by rfl) (h2 : (backTo pos (starEach [e2] X.env)).any (·.1) = false := by rfl) :
    VE X E (.Call (.Name x p) [e, e2] [] pos) (mExc x [f2, f1] [1, 0] fa) := fun g => by
  obtain ⟨C, fI, fd, ps, hm, T, iC, tI, FI, hb⟩ := Z.at'
  refine (pe_xv (pmkG T iC tI FI (rm.room.mono (by decide)) hb pass0 hg hm (ha g) hdb h1 h2)).imp ?_
  rintro σ H Q ⟨F, ι, env, S, w, q⟩
  refine ⟨F, ι, env, S, w, rd_mono (rd_then q) ?_⟩
  rintro ds H1 F1 ι1 S1 - e1 w1 ⟨_, _, q1⟩ vs hvs
  match ds, q1 with
  | [d, d2], q1 =>
    obtain ⟨v, v2, rfl, hv, hv2⟩ := two_of hvs
    refine ⟨by simp, fun a ha => ⟨a, v, v2, rfl, upd_same, fun dx hdx ne => ?_⟩⟩
    rw [upd_ne ne] at hdx
    refine ⟨rfl, dx, [(f2, v2), (f1, v)], by rw [upd_ne (Ne.symm ne), upd_ne (Ne.symm ne), upd_same], upd_same, hdx, ?_⟩
    rw [two_same (C := C) ha ne]
    exact xv_end (vs := [v2, v]) (ns := [f2, f1]) hm w1 hdx rfl (.cons hv2 (.one hv)) fun H' F' ι' e' w' u hu => (q1 H' F' ι' e' w').2.2 u hu
theorem v_exc1K (Z : RzK X.prog X.w X.K X.mg X.base x fld kn) (rm : Rm 2 X.A) (ha : VK' X E kws fa) (hg : Gl X x := by rfl) (hdb : (x == ("__debug__" : Str)) = false := by decide)
    (hall : (backToKw pos (keywordEach kws X.env)).all (·.1.isSome) = true := by rfl) (hks : (backToKw pos (keywordEach kws X.env)).filterMap (·.1) = [kn] := by rfl)
    (hpl : ((backTo pos (starEach [] X.env)).any (·.1) || (backToKw pos (keywordEach kws X.env)).any (·.1.isNone)) = false := by rfl) :
    VE X E (.Call (.Name x p) [] kws pos) (mExc x [fld] [0] fa) := fun g => by
  obtain ⟨C, fI, fd, ps, hm, T, iC, tI, FI, hb⟩ := Z.at'
  refine (pe_xv (pmkK T iC tI FI (rm.room.mono (by decide)) hb pass0 hg hm (ha g) hdb hall hks hpl)).imp ?_
  rintro σ H Q ⟨F, ι, env, S, w, q⟩
  refine ⟨F, ι, env, S, w, rd_mono (rd_then q) ?_⟩
  rintro ds H1 F1 ι1 S1 - e1 w1 ⟨_, _, q1⟩ vs hvs
  match ds, q1 with
  | [d], q1 =>
    obtain ⟨v, r, rfl, hv, rfl⟩ := hvs
    refine ⟨rfl, fun a ha => ⟨a, v, rfl, upd_same, fun dx hdx ne => ?_⟩⟩
    rw [upd_ne ne] at hdx
    refine ⟨rfl, dx, [(fld, v)], by rw [upd_ne (Ne.symm ne), upd_same], upd_same, hdx, ?_⟩
    rw [one_same (C := C) ha ne]
    exact xv_end (vs := [v]) (ns := [fld]) hm w1 hdx rfl (.one hv) fun H' F' ι' e' w' u hu => (q1 H' F' ι' e' w').2.2 u hu
theorem v_exc2K (Z : Rz2K X.prog X.w X.K X.mg X.base x f1 f2 k2 k1) (rm : Rm 2 X.A) (ha : VK' X E kws fa) (hg : Gl X x := by rfl) (hdb : (x == ("__debug__" : Str)) = false := by decide)
    (hall : (backToKw pos (keywordEach kws X.env)).all (·.1.isSome) = true := by rfl) (hks : (backToKw pos (keywordEach kws X.env)).filterMap (·.1) = [k2, k1] := by rfl)
    (hpl : ((backTo pos (starEach [] X.env)).any (·.1) || (backToKw pos (keywordEach kws X.env)).any (·.1.isNone)) = false := by rfl) :
    VE X E (.Call (.Name x p) [] kws pos) (mExc x [f2, f1] [0, 1] fa) := fun g => by
  obtain ⟨C, fI, fd, ps, hm, T, iC, tI, FI, hb⟩ := Z.at'
  refine (pe_xv (pmkK T iC tI FI (rm.room.mono (by decide)) hb pass0 hg hm (ha g) hdb hall hks hpl)).imp ?_
  rintro σ H Q ⟨F, ι, env, S, w, q⟩
  refine ⟨F, ι, env, S, w, rd_mono (rd_then q) ?_⟩
  rintro ds H1 F1 ι1 S1 - e1 w1 ⟨_, _, q1⟩ vs hvs
  match ds, q1 with
  | [d2, d], q1 =>
    obtain ⟨v2, v, rfl, hv2, hv⟩ := two_of hvs
    refine ⟨rfl, fun a ha => ⟨a, v, v2, rfl, upd_same, fun dx hdx ne => ?_⟩⟩
    rw [upd_ne ne] at hdx
    refine ⟨rfl, dx, [(f2, v2), (f1, v)], by rw [upd_ne (Ne.symm ne), upd_ne (Ne.symm ne), upd_same], upd_same, hdx, ?_⟩
    rw [two_same (C := C) ha ne]
    exact xv_end (vs := [v2, v]) (ns := [f2, f1]) hm w1 hdx rfl (.cons hv2 (.one hv)) fun H' F' ι' e' w' u hu => (q1 H' F' ι' e' w').2.2 u hu
theorem v_exc0 (Z : Rz0 X.K X.mg x) (hg : Gl X x := by rfl) (hdb : (x == ("__debug__" : Str)) = false := by decide) : VE X E (.Call (.Name x p) [] [] pos) (mC (.exc x [] [])) := fun g => by
  obtain ⟨C, hm, T⟩ := Z.at'
  obtain ⟨B, n1, n2, bmB, BF, qe⟩ := T.base
  refine (pe_xv (pmk_own0 BF qe hm T.kC (raises_own T.exC T.tyC) hg hdb)).imp ?_
  rintro σ H Q ⟨F, ι, env, S, w, q⟩
  intro a oe hn hz hf
  obtain ⟨e3, wd3⟩ := w.wd.lay (o := sutO oe a) hn
  exact q _ _ _ e3 (w.step e3 wd3) (.ref a) ⟨a, C, oe, _, none, [], rfl, .inr rfl, hm, upd_same, hz, hf, rfl, .inl ⟨rfl, rfl⟩, rfl⟩
end
section
variable {env : List Sl} {S : List Cell}
@[simp] theorem r_exc (x : Str) (ns : List Str) (pk : List Nat) (fa : Ex (List D)) : mExc x ns pk fa env S = (fa env S).andThen fun zs S1 => if zs.length = ns.length then .ok (.exc x ns (pickL pk zs)) S1 else .bad := nr rfl
@[simp ↓] theorem V_rexc (x : Str) (ns : List Str) (pk : List Nat) (fa : Ex (List D)) {P : PR D} : @Rs.V D (mExc x ns pk fa env S) P = @Rs.V D ((fa env S).andThen fun zs S1 => if zs.length = ns.length then .ok (.exc x ns (pickL pk zs)) S1 else .bad) P := by rw [r_exc]
end
end DL
namespace K01
open PySem PySem.Spec L2 DL
open PyProof.Rows hiding St
def ooT : List (Str × Str × Bool) := [(("Broken", "NotRight", false) : Str × Str × Bool), (("Broken", "InvalidText", false) : Str × Str × Bool), (("Broken", "InvalidNumber", false) : Str × Str × Bool), (("Broken", "InvalidName", false) : Str × Str × Bool), (("Broken", "InvalidIndex", false) : Str × Str × Bool), (("Broken", "InvalidDegree", false) : Str × Str × Bool), (("Broken", "InvalidKnot", false) : Str × Str × Bool), (("Broken", "InvalidClaim", false) : Str × Str × Bool), (("Broken", "InvalidCommand", false) : Str × Str × Bool), (("Broken", "NotAFrame", false) : Str × Str × Bool), (("Broken", "NotACurve", false) : Str × Str × Bool), (("Broken", "InvalidKnots", false) : Str × Str × Bool), (("Broken", "InvalidAmounts", false) : Str × Str × Bool), (("Broken", "InvalidPlaces", false) : Str × Str × Bool), (("Broken", "InvalidHeights", false) : Str × Str × Bool), (("Broken", "InvalidOffers", false) : Str × Str × Bool), (("Broken", "NotKnown", false) : Str × Str × Bool), (("Broken", "UnknownName", false) : Str × Str × Bool), (("Broken", "InUse", false) : Str × Str × Bool), (("Broken", "NothingToUndo", false) : Str × Str × Bool), (("Broken", "NotPossible", true) : Str × Str × Bool), (("Broken", "TooMany", false) : Str × Str × Bool), (("Broken", "NotOne", false) : Str × Str × Bool), (("Broken", "Broken", true) : Str × Str × Bool), (("NotOne", "NotRight", false) : Str × Str × Bool), (("NotOne", "InvalidText", false) : Str × Str × Bool), (("NotOne", "InvalidNumber", false) : Str × Str × Bool), (("NotOne", "InvalidName", false) : Str × Str × Bool), (("NotOne", "InvalidIndex", false) : Str × Str × Bool), (("NotOne", "InvalidDegree", false) : Str × Str × Bool), (("NotOne", "InvalidKnot", false) : Str × Str × Bool), (("NotOne", "InvalidClaim", false) : Str × Str × Bool), (("NotOne", "InvalidCommand", false) : Str × Str × Bool), (("NotOne", "NotAFrame", false) : Str × Str × Bool), (("NotOne", "NotACurve", false) : Str × Str × Bool), (("NotOne", "InvalidKnots", false) : Str × Str × Bool), (("NotOne", "InvalidAmounts", false) : Str × Str × Bool), (("NotOne", "InvalidPlaces", false) : Str × Str × Bool), (("NotOne", "InvalidHeights", false) : Str × Str × Bool), (("NotOne", "InvalidOffers", false) : Str × Str × Bool), (("NotOne", "NotKnown", false) : Str × Str × Bool), (("NotOne", "UnknownName", false) : Str × Str × Bool), (("NotOne", "InUse", false) : Str × Str × Bool), (("NotOne", "NothingToUndo", false) : Str × Str × Bool), (("NotOne", "NotPossible", true) : Str × Str × Bool), (("NotOne", "TooMany", false) : Str × Str × Bool), (("NotOne", "NotOne", true) : Str × Str × Bool), (("NotOne", "Broken", false) : Str × Str × Bool), (("TooMany", "NotRight", false) : Str × Str × Bool), (("TooMany", "InvalidText", false) : Str × Str × Bool), (("TooMany", "InvalidNumber", false) : Str × Str × Bool), (("TooMany", "InvalidName", false) : Str × Str × Bool), (("TooMany", "InvalidIndex", false) : Str × Str × Bool), (("TooMany", "InvalidDegree", false) : Str × Str × Bool), (("TooMany", "InvalidKnot", false) : Str × Str × Bool), (("TooMany", "InvalidClaim", false) : Str × Str × Bool), (("TooMany", "InvalidCommand", false) : Str × Str × Bool), (("TooMany", "NotAFrame", false) : Str × Str × Bool), (("TooMany", "NotACurve", false) : Str × Str × Bool), (("TooMany", "InvalidKnots", false) : Str × Str × Bool), (("TooMany", "InvalidAmounts", false) : Str × Str × Bool), (("TooMany", "InvalidPlaces", false) : Str × Str × Bool), (("TooMany", "InvalidHeights", false) : Str × Str × Bool), (("TooMany", "InvalidOffers", false) : Str × Str × Bool), (("TooMany", "NotKnown", false) : Str × Str × Bool), (("TooMany", "UnknownName", false) : Str × Str × Bool), (("TooMany", "InUse", false) : Str × Str × Bool), (("TooMany", "NothingToUndo", false) : Str × Str × Bool), (("TooMany", "NotPossible", true) : Str × Str × Bool), (("TooMany", "TooMany", true) : Str × Str × Bool), (("TooMany", "NotOne", false) : Str × Str × Bool), (("TooMany", "Broken", false) : Str × Str × Bool), (("NothingToUndo", "NotRight", false) : Str × Str × Bool), (("NothingToUndo", "InvalidText", false) : Str × Str × Bool), (("NothingToUndo", "InvalidNumber", false) : Str × Str × Bool), (("NothingToUndo", "InvalidName", false) : Str × Str × Bool), (("NothingToUndo", "InvalidIndex", false) : Str × Str × Bool), (("NothingToUndo", "InvalidDegree", false) : Str × Str × Bool), (("NothingToUndo", "InvalidKnot", false) : Str × Str × Bool), (("NothingToUndo", "InvalidClaim", false) : Str × Str × Bool), (("NothingToUndo", "InvalidCommand", false) : Str × Str × Bool), (("NothingToUndo", "NotAFrame", false) : Str × Str × Bool), (("NothingToUndo", "NotACurve", false) : Str × Str × Bool), (("NothingToUndo", "InvalidKnots", false) : Str × Str × Bool), (("NothingToUndo", "InvalidAmounts", false) : Str × Str × Bool), (("NothingToUndo", "InvalidPlaces", false) : Str × Str × Bool), (("NothingToUndo", "InvalidHeights", false) : Str × Str × Bool), (("NothingToUndo", "InvalidOffers", false) : Str × Str × Bool), (("NothingToUndo", "NotKnown", true) : Str × Str × Bool), (("NothingToUndo", "UnknownName", false) : Str × Str × Bool), (("NothingToUndo", "InUse", false) : Str × Str × Bool), (("NothingToUndo", "NothingToUndo", true) : Str × Str × Bool), (("NothingToUndo", "NotPossible", false) : Str × Str × Bool), (("NothingToUndo", "TooMany", false) : Str × Str × Bool), (("NothingToUndo", "NotOne", false) : Str × Str × Bool), (("NothingToUndo", "Broken", false) : Str × Str × Bool), (("InUse", "NotRight", false) : Str × Str × Bool), (("InUse", "InvalidText", false) : Str × Str × Bool), (("InUse", "InvalidNumber", false) : Str × Str × Bool), (("InUse", "InvalidName", false) : Str × Str × Bool), (("InUse", "InvalidIndex", false) : Str × Str × Bool), (("InUse", "InvalidDegree", false) : Str × Str × Bool), (("InUse", "InvalidKnot", false) : Str × Str × Bool), (("InUse", "InvalidClaim", false) : Str × Str × Bool), (("InUse", "InvalidCommand", false) : Str × Str × Bool), (("InUse", "NotAFrame", false) : Str × Str × Bool), (("InUse", "NotACurve", false) : Str × Str × Bool), (("InUse", "InvalidKnots", false) : Str × Str × Bool), (("InUse", "InvalidAmounts", false) : Str × Str × Bool), (("InUse", "InvalidPlaces", false) : Str × Str × Bool), (("InUse", "InvalidHeights", false) : Str × Str × Bool), (("InUse", "InvalidOffers", false) : Str × Str × Bool), (("InUse", "NotKnown", true) : Str × Str × Bool), (("InUse", "UnknownName", false) : Str × Str × Bool), (("InUse", "InUse", true) : Str × Str × Bool), (("InUse", "NothingToUndo", false) : Str × Str × Bool), (("InUse", "NotPossible", false) : Str × Str × Bool), (("InUse", "TooMany", false) : Str × Str × Bool), (("InUse", "NotOne", false) : Str × Str × Bool), (("InUse", "Broken", false) : Str × Str × Bool), (("UnknownName", "NotRight", false) : Str × Str × Bool), (("UnknownName", "InvalidText", false) : Str × Str × Bool), (("UnknownName", "InvalidNumber", false) : Str × Str × Bool), (("UnknownName", "InvalidName", false) : Str × Str × Bool), (("UnknownName", "InvalidIndex", false) : Str × Str × Bool), (("UnknownName", "InvalidDegree", false) : Str × Str × Bool), (("UnknownName", "InvalidKnot", false) : Str × Str × Bool), (("UnknownName", "InvalidClaim", false) : Str × Str × Bool), (("UnknownName", "InvalidCommand", false) : Str × Str × Bool), (("UnknownName", "NotAFrame", false) : Str × Str × Bool), (("UnknownName", "NotACurve", false) : Str × Str × Bool), (("UnknownName", "InvalidKnots", false) : Str × Str × Bool), (("UnknownName", "InvalidAmounts", false) : Str × Str × Bool), (("UnknownName", "InvalidPlaces", false) : Str × Str × Bool), (("UnknownName", "InvalidHeights", false) : Str × Str × Bool), (("UnknownName", "InvalidOffers", false) : Str × Str × Bool), (("UnknownName", "NotKnown", true) : Str × Str × Bool), (("UnknownName", "UnknownName", true) : Str × Str × Bool), (("UnknownName", "InUse", false) : Str × Str × Bool), (("UnknownName", "NothingToUndo", false) : Str × Str × Bool), (("UnknownName", "NotPossible", false) : Str × Str × Bool), (("UnknownName", "TooMany", false) : Str × Str × Bool), (("UnknownName", "NotOne", false) : Str × Str × Bool), (("UnknownName", "Broken", false) : Str × Str × Bool), (("InvalidOffers", "NotRight", true) : Str × Str × Bool), (("InvalidOffers", "InvalidText", false) : Str × Str × Bool), (("InvalidOffers", "InvalidNumber", false) : Str × Str × Bool), (("InvalidOffers", "InvalidName", false) : Str × Str × Bool), (("InvalidOffers", "InvalidIndex", false) : Str × Str × Bool), (("InvalidOffers", "InvalidDegree", false) : Str × Str × Bool), (("InvalidOffers", "InvalidKnot", false) : Str × Str × Bool), (("InvalidOffers", "InvalidClaim", false) : Str × Str × Bool), (("InvalidOffers", "InvalidCommand", false) : Str × Str × Bool), (("InvalidOffers", "NotAFrame", false) : Str × Str × Bool), (("InvalidOffers", "NotACurve", false) : Str × Str × Bool), (("InvalidOffers", "InvalidKnots", false) : Str × Str × Bool), (("InvalidOffers", "InvalidAmounts", false) : Str × Str × Bool), (("InvalidOffers", "InvalidPlaces", false) : Str × Str × Bool), (("InvalidOffers", "InvalidHeights", false) : Str × Str × Bool), (("InvalidOffers", "InvalidOffers", true) : Str × Str × Bool), (("InvalidOffers", "NotKnown", false) : Str × Str × Bool), (("InvalidOffers", "UnknownName", false) : Str × Str × Bool), (("InvalidOffers", "InUse", false) : Str × Str × Bool), (("InvalidOffers", "NothingToUndo", false) : Str × Str × Bool), (("InvalidOffers", "NotPossible", false) : Str × Str × Bool), (("InvalidOffers", "TooMany", false) : Str × Str × Bool), (("InvalidOffers", "NotOne", false) : Str × Str × Bool), (("InvalidOffers", "Broken", false) : Str × Str × Bool), (("InvalidHeights", "NotRight", true) : Str × Str × Bool), (("InvalidHeights", "InvalidText", false) : Str × Str × Bool), (("InvalidHeights", "InvalidNumber", false) : Str × Str × Bool), (("InvalidHeights", "InvalidName", false) : Str × Str × Bool), (("InvalidHeights", "InvalidIndex", false) : Str × Str × Bool), (("InvalidHeights", "InvalidDegree", false) : Str × Str × Bool), (("InvalidHeights", "InvalidKnot", false) : Str × Str × Bool), (("InvalidHeights", "InvalidClaim", false) : Str × Str × Bool), (("InvalidHeights", "InvalidCommand", false) : Str × Str × Bool), (("InvalidHeights", "NotAFrame", false) : Str × Str × Bool), (("InvalidHeights", "NotACurve", false) : Str × Str × Bool), (("InvalidHeights", "InvalidKnots", false) : Str × Str × Bool), (("InvalidHeights", "InvalidAmounts", false) : Str × Str × Bool), (("InvalidHeights", "InvalidPlaces", false) : Str × Str × Bool), (("InvalidHeights", "InvalidHeights", true) : Str × Str × Bool), (("InvalidHeights", "InvalidOffers", false) : Str × Str × Bool), (("InvalidHeights", "NotKnown", false) : Str × Str × Bool), (("InvalidHeights", "UnknownName", false) : Str × Str × Bool), (("InvalidHeights", "InUse", false) : Str × Str × Bool), (("InvalidHeights", "NothingToUndo", false) : Str × Str × Bool), (("InvalidHeights", "NotPossible", false) : Str × Str × Bool), (("InvalidHeights", "TooMany", false) : Str × Str × Bool), (("InvalidHeights", "NotOne", false) : Str × Str × Bool), (("InvalidHeights", "Broken", false) : Str × Str × Bool), (("InvalidPlaces", "NotRight", true) : Str × Str × Bool), (("InvalidPlaces", "InvalidText", false) : Str × Str × Bool), (("InvalidPlaces", "InvalidNumber", false) : Str × Str × Bool), (("InvalidPlaces", "InvalidName", false) : Str × Str × Bool), (("InvalidPlaces", "InvalidIndex", false) : Str × Str × Bool), (("InvalidPlaces", "InvalidDegree", false) : Str × Str × Bool), (("InvalidPlaces", "InvalidKnot", false) : Str × Str × Bool), (("InvalidPlaces", "InvalidClaim", false) : Str × Str × Bool), (("InvalidPlaces", "InvalidCommand", false) : Str × Str × Bool), (("InvalidPlaces", "NotAFrame", false) : Str × Str × Bool), (("InvalidPlaces", "NotACurve", false) : Str × Str × Bool), (("InvalidPlaces", "InvalidKnots", false) : Str × Str × Bool), (("InvalidPlaces", "InvalidAmounts", false) : Str × Str × Bool), (("InvalidPlaces", "InvalidPlaces", true) : Str × Str × Bool), (("InvalidPlaces", "InvalidHeights", false) : Str × Str × Bool), (("InvalidPlaces", "InvalidOffers", false) : Str × Str × Bool), (("InvalidPlaces", "NotKnown", false) : Str × Str × Bool), (("InvalidPlaces", "UnknownName", false) : Str × Str × Bool), (("InvalidPlaces", "InUse", false) : Str × Str × Bool), (("InvalidPlaces", "NothingToUndo", false) : Str × Str × Bool), (("InvalidPlaces", "NotPossible", false) : Str × Str × Bool), (("InvalidPlaces", "TooMany", false) : Str × Str × Bool), (("InvalidPlaces", "NotOne", false) : Str × Str × Bool), (("InvalidPlaces", "Broken", false) : Str × Str × Bool), (("InvalidAmounts", "NotRight", true) : Str × Str × Bool), (("InvalidAmounts", "InvalidText", false) : Str × Str × Bool), (("InvalidAmounts", "InvalidNumber", false) : Str × Str × Bool), (("InvalidAmounts", "InvalidName", false) : Str × Str × Bool), (("InvalidAmounts", "InvalidIndex", false) : Str × Str × Bool), (("InvalidAmounts", "InvalidDegree", false) : Str × Str × Bool), (("InvalidAmounts", "InvalidKnot", false) : Str × Str × Bool), (("InvalidAmounts", "InvalidClaim", false) : Str × Str × Bool), (("InvalidAmounts", "InvalidCommand", false) : Str × Str × Bool), (("InvalidAmounts", "NotAFrame", false) : Str × Str × Bool), (("InvalidAmounts", "NotACurve", false) : Str × Str × Bool), (("InvalidAmounts", "InvalidKnots", false) : Str × Str × Bool), (("InvalidAmounts", "InvalidAmounts", true) : Str × Str × Bool), (("InvalidAmounts", "InvalidPlaces", false) : Str × Str × Bool), (("InvalidAmounts", "InvalidHeights", false) : Str × Str × Bool), (("InvalidAmounts", "InvalidOffers", false) : Str × Str × Bool), (("InvalidAmounts", "NotKnown", false) : Str × Str × Bool), (("InvalidAmounts", "UnknownName", false) : Str × Str × Bool), (("InvalidAmounts", "InUse", false) : Str × Str × Bool), (("InvalidAmounts", "NothingToUndo", false) : Str × Str × Bool), (("InvalidAmounts", "NotPossible", false) : Str × Str × Bool), (("InvalidAmounts", "TooMany", false) : Str × Str × Bool), (("InvalidAmounts", "NotOne", false) : Str × Str × Bool), (("InvalidAmounts", "Broken", false) : Str × Str × Bool), (("InvalidKnots", "NotRight", true) : Str × Str × Bool), (("InvalidKnots", "InvalidText", false) : Str × Str × Bool), (("InvalidKnots", "InvalidNumber", false) : Str × Str × Bool), (("InvalidKnots", "InvalidName", false) : Str × Str × Bool), (("InvalidKnots", "InvalidIndex", false) : Str × Str × Bool), (("InvalidKnots", "InvalidDegree", false) : Str × Str × Bool), (("InvalidKnots", "InvalidKnot", false) : Str × Str × Bool), (("InvalidKnots", "InvalidClaim", false) : Str × Str × Bool), (("InvalidKnots", "InvalidCommand", false) : Str × Str × Bool), (("InvalidKnots", "NotAFrame", false) : Str × Str × Bool), (("InvalidKnots", "NotACurve", false) : Str × Str × Bool), (("InvalidKnots", "InvalidKnots", true) : Str × Str × Bool), (("InvalidKnots", "InvalidAmounts", false) : Str × Str × Bool), (("InvalidKnots", "InvalidPlaces", false) : Str × Str × Bool), (("InvalidKnots", "InvalidHeights", false) : Str × Str × Bool), (("InvalidKnots", "InvalidOffers", false) : Str × Str × Bool), (("InvalidKnots", "NotKnown", false) : Str × Str × Bool), (("InvalidKnots", "UnknownName", false) : Str × Str × Bool), (("InvalidKnots", "InUse", false) : Str × Str × Bool), (("InvalidKnots", "NothingToUndo", false) : Str × Str × Bool), (("InvalidKnots", "NotPossible", false) : Str × Str × Bool), (("InvalidKnots", "TooMany", false) : Str × Str × Bool), (("InvalidKnots", "NotOne", false) : Str × Str × Bool), (("InvalidKnots", "Broken", false) : Str × Str × Bool), (("NotACurve", "NotRight", true) : Str × Str × Bool), (("NotACurve", "InvalidText", false) : Str × Str × Bool), (("NotACurve", "InvalidNumber", false) : Str × Str × Bool), (("NotACurve", "InvalidName", false) : Str × Str × Bool), (("NotACurve", "InvalidIndex", false) : Str × Str × Bool), (("NotACurve", "InvalidDegree", false) : Str × Str × Bool), (("NotACurve", "InvalidKnot", false) : Str × Str × Bool), (("NotACurve", "InvalidClaim", false) : Str × Str × Bool), (("NotACurve", "InvalidCommand", false) : Str × Str × Bool), (("NotACurve", "NotAFrame", false) : Str × Str × Bool), (("NotACurve", "NotACurve", true) : Str × Str × Bool), (("NotACurve", "InvalidKnots", false) : Str × Str × Bool), (("NotACurve", "InvalidAmounts", false) : Str × Str × Bool), (("NotACurve", "InvalidPlaces", false) : Str × Str × Bool), (("NotACurve", "InvalidHeights", false) : Str × Str × Bool), (("NotACurve", "InvalidOffers", false) : Str × Str × Bool), (("NotACurve", "NotKnown", false) : Str × Str × Bool), (("NotACurve", "UnknownName", false) : Str × Str × Bool), (("NotACurve", "InUse", false) : Str × Str × Bool), (("NotACurve", "NothingToUndo", false) : Str × Str × Bool), (("NotACurve", "NotPossible", false) : Str × Str × Bool), (("NotACurve", "TooMany", false) : Str × Str × Bool), (("NotACurve", "NotOne", false) : Str × Str × Bool), (("NotACurve", "Broken", false) : Str × Str × Bool), (("NotAFrame", "NotRight", true) : Str × Str × Bool), (("NotAFrame", "InvalidText", false) : Str × Str × Bool), (("NotAFrame", "InvalidNumber", false) : Str × Str × Bool), (("NotAFrame", "InvalidName", false) : Str × Str × Bool), (("NotAFrame", "InvalidIndex", false) : Str × Str × Bool), (("NotAFrame", "InvalidDegree", false) : Str × Str × Bool), (("NotAFrame", "InvalidKnot", false) : Str × Str × Bool), (("NotAFrame", "InvalidClaim", false) : Str × Str × Bool), (("NotAFrame", "InvalidCommand", false) : Str × Str × Bool), (("NotAFrame", "NotAFrame", true) : Str × Str × Bool), (("NotAFrame", "NotACurve", false) : Str × Str × Bool), (("NotAFrame", "InvalidKnots", false) : Str × Str × Bool), (("NotAFrame", "InvalidAmounts", false) : Str × Str × Bool), (("NotAFrame", "InvalidPlaces", false) : Str × Str × Bool), (("NotAFrame", "InvalidHeights", false) : Str × Str × Bool), (("NotAFrame", "InvalidOffers", false) : Str × Str × Bool), (("NotAFrame", "NotKnown", false) : Str × Str × Bool), (("NotAFrame", "UnknownName", false) : Str × Str × Bool), (("NotAFrame", "InUse", false) : Str × Str × Bool), (("NotAFrame", "NothingToUndo", false) : Str × Str × Bool), (("NotAFrame", "NotPossible", false) : Str × Str × Bool), (("NotAFrame", "TooMany", false) : Str × Str × Bool), (("NotAFrame", "NotOne", false) : Str × Str × Bool), (("NotAFrame", "Broken", false) : Str × Str × Bool), (("InvalidCommand", "NotRight", true) : Str × Str × Bool), (("InvalidCommand", "InvalidText", false) : Str × Str × Bool), (("InvalidCommand", "InvalidNumber", false) : Str × Str × Bool), (("InvalidCommand", "InvalidName", false) : Str × Str × Bool), (("InvalidCommand", "InvalidIndex", false) : Str × Str × Bool), (("InvalidCommand", "InvalidDegree", false) : Str × Str × Bool), (("InvalidCommand", "InvalidKnot", false) : Str × Str × Bool), (("InvalidCommand", "InvalidClaim", false) : Str × Str × Bool), (("InvalidCommand", "InvalidCommand", true) : Str × Str × Bool), (("InvalidCommand", "NotAFrame", false) : Str × Str × Bool), (("InvalidCommand", "NotACurve", false) : Str × Str × Bool), (("InvalidCommand", "InvalidKnots", false) : Str × Str × Bool), (("InvalidCommand", "InvalidAmounts", false) : Str × Str × Bool), (("InvalidCommand", "InvalidPlaces", false) : Str × Str × Bool), (("InvalidCommand", "InvalidHeights", false) : Str × Str × Bool), (("InvalidCommand", "InvalidOffers", false) : Str × Str × Bool), (("InvalidCommand", "NotKnown", false) : Str × Str × Bool), (("InvalidCommand", "UnknownName", false) : Str × Str × Bool), (("InvalidCommand", "InUse", false) : Str × Str × Bool), (("InvalidCommand", "NothingToUndo", false) : Str × Str × Bool), (("InvalidCommand", "NotPossible", false) : Str × Str × Bool), (("InvalidCommand", "TooMany", false) : Str × Str × Bool), (("InvalidCommand", "NotOne", false) : Str × Str × Bool), (("InvalidCommand", "Broken", false) : Str × Str × Bool), (("InvalidClaim", "NotRight", true) : Str × Str × Bool), (("InvalidClaim", "InvalidText", false) : Str × Str × Bool), (("InvalidClaim", "InvalidNumber", false) : Str × Str × Bool), (("InvalidClaim", "InvalidName", false) : Str × Str × Bool), (("InvalidClaim", "InvalidIndex", false) : Str × Str × Bool), (("InvalidClaim", "InvalidDegree", false) : Str × Str × Bool), (("InvalidClaim", "InvalidKnot", false) : Str × Str × Bool), (("InvalidClaim", "InvalidClaim", true) : Str × Str × Bool), (("InvalidClaim", "InvalidCommand", false) : Str × Str × Bool), (("InvalidClaim", "NotAFrame", false) : Str × Str × Bool), (("InvalidClaim", "NotACurve", false) : Str × Str × Bool), (("InvalidClaim", "InvalidKnots", false) : Str × Str × Bool), (("InvalidClaim", "InvalidAmounts", false) : Str × Str × Bool), (("InvalidClaim", "InvalidPlaces", false) : Str × Str × Bool), (("InvalidClaim", "InvalidHeights", false) : Str × Str × Bool), (("InvalidClaim", "InvalidOffers", false) : Str × Str × Bool), (("InvalidClaim", "NotKnown", false) : Str × Str × Bool), (("InvalidClaim", "UnknownName", false) : Str × Str × Bool), (("InvalidClaim", "InUse", false) : Str × Str × Bool), (("InvalidClaim", "NothingToUndo", false) : Str × Str × Bool), (("InvalidClaim", "NotPossible", false) : Str × Str × Bool), (("InvalidClaim", "TooMany", false) : Str × Str × Bool), (("InvalidClaim", "NotOne", false) : Str × Str × Bool), (("InvalidClaim", "Broken", false) : Str × Str × Bool), (("InvalidKnot", "NotRight", true) : Str × Str × Bool), (("InvalidKnot", "InvalidText", false) : Str × Str × Bool), (("InvalidKnot", "InvalidNumber", false) : Str × Str × Bool), (("InvalidKnot", "InvalidName", false) : Str × Str × Bool), (("InvalidKnot", "InvalidIndex", false) : Str × Str × Bool), (("InvalidKnot", "InvalidDegree", false) : Str × Str × Bool), (("InvalidKnot", "InvalidKnot", true) : Str × Str × Bool), (("InvalidKnot", "InvalidClaim", false) : Str × Str × Bool), (("InvalidKnot", "InvalidCommand", false) : Str × Str × Bool), (("InvalidKnot", "NotAFrame", false) : Str × Str × Bool), (("InvalidKnot", "NotACurve", false) : Str × Str × Bool), (("InvalidKnot", "InvalidKnots", false) : Str × Str × Bool), (("InvalidKnot", "InvalidAmounts", false) : Str × Str × Bool), (("InvalidKnot", "InvalidPlaces", false) : Str × Str × Bool), (("InvalidKnot", "InvalidHeights", false) : Str × Str × Bool), (("InvalidKnot", "InvalidOffers", false) : Str × Str × Bool), (("InvalidKnot", "NotKnown", false) : Str × Str × Bool), (("InvalidKnot", "UnknownName", false) : Str × Str × Bool), (("InvalidKnot", "InUse", false) : Str × Str × Bool), (("InvalidKnot", "NothingToUndo", false) : Str × Str × Bool), (("InvalidKnot", "NotPossible", false) : Str × Str × Bool), (("InvalidKnot", "TooMany", false) : Str × Str × Bool), (("InvalidKnot", "NotOne", false) : Str × Str × Bool), (("InvalidKnot", "Broken", false) : Str × Str × Bool), (("InvalidDegree", "NotRight", true) : Str × Str × Bool), (("InvalidDegree", "InvalidText", false) : Str × Str × Bool), (("InvalidDegree", "InvalidNumber", false) : Str × Str × Bool), (("InvalidDegree", "InvalidName", false) : Str × Str × Bool), (("InvalidDegree", "InvalidIndex", false) : Str × Str × Bool), (("InvalidDegree", "InvalidDegree", true) : Str × Str × Bool), (("InvalidDegree", "InvalidKnot", false) : Str × Str × Bool), (("InvalidDegree", "InvalidClaim", false) : Str × Str × Bool), (("InvalidDegree", "InvalidCommand", false) : Str × Str × Bool), (("InvalidDegree", "NotAFrame", false) : Str × Str × Bool), (("InvalidDegree", "NotACurve", false) : Str × Str × Bool), (("InvalidDegree", "InvalidKnots", false) : Str × Str × Bool), (("InvalidDegree", "InvalidAmounts", false) : Str × Str × Bool), (("InvalidDegree", "InvalidPlaces", false) : Str × Str × Bool), (("InvalidDegree", "InvalidHeights", false) : Str × Str × Bool), (("InvalidDegree", "InvalidOffers", false) : Str × Str × Bool), (("InvalidDegree", "NotKnown", false) : Str × Str × Bool), (("InvalidDegree", "UnknownName", false) : Str × Str × Bool), (("InvalidDegree", "InUse", false) : Str × Str × Bool), (("InvalidDegree", "NothingToUndo", false) : Str × Str × Bool), (("InvalidDegree", "NotPossible", false) : Str × Str × Bool), (("InvalidDegree", "TooMany", false) : Str × Str × Bool), (("InvalidDegree", "NotOne", false) : Str × Str × Bool), (("InvalidDegree", "Broken", false) : Str × Str × Bool), (("InvalidIndex", "NotRight", true) : Str × Str × Bool), (("InvalidIndex", "InvalidText", false) : Str × Str × Bool), (("InvalidIndex", "InvalidNumber", false) : Str × Str × Bool), (("InvalidIndex", "InvalidName", false) : Str × Str × Bool), (("InvalidIndex", "InvalidIndex", true) : Str × Str × Bool), (("InvalidIndex", "InvalidDegree", false) : Str × Str × Bool), (("InvalidIndex", "InvalidKnot", false) : Str × Str × Bool), (("InvalidIndex", "InvalidClaim", false) : Str × Str × Bool), (("InvalidIndex", "InvalidCommand", false) : Str × Str × Bool), (("InvalidIndex", "NotAFrame", false) : Str × Str × Bool), (("InvalidIndex", "NotACurve", false) : Str × Str × Bool), (("InvalidIndex", "InvalidKnots", false) : Str × Str × Bool), (("InvalidIndex", "InvalidAmounts", false) : Str × Str × Bool), (("InvalidIndex", "InvalidPlaces", false) : Str × Str × Bool), (("InvalidIndex", "InvalidHeights", false) : Str × Str × Bool), (("InvalidIndex", "InvalidOffers", false) : Str × Str × Bool), (("InvalidIndex", "NotKnown", false) : Str × Str × Bool), (("InvalidIndex", "UnknownName", false) : Str × Str × Bool), (("InvalidIndex", "InUse", false) : Str × Str × Bool), (("InvalidIndex", "NothingToUndo", false) : Str × Str × Bool), (("InvalidIndex", "NotPossible", false) : Str × Str × Bool), (("InvalidIndex", "TooMany", false) : Str × Str × Bool), (("InvalidIndex", "NotOne", false) : Str × Str × Bool), (("InvalidIndex", "Broken", false) : Str × Str × Bool), (("InvalidName", "NotRight", true) : Str × Str × Bool), (("InvalidName", "InvalidText", false) : Str × Str × Bool), (("InvalidName", "InvalidNumber", false) : Str × Str × Bool), (("InvalidName", "InvalidName", true) : Str × Str × Bool), (("InvalidName", "InvalidIndex", false) : Str × Str × Bool), (("InvalidName", "InvalidDegree", false) : Str × Str × Bool), (("InvalidName", "InvalidKnot", false) : Str × Str × Bool), (("InvalidName", "InvalidClaim", false) : Str × Str × Bool), (("InvalidName", "InvalidCommand", false) : Str × Str × Bool), (("InvalidName", "NotAFrame", false) : Str × Str × Bool), (("InvalidName", "NotACurve", false) : Str × Str × Bool), (("InvalidName", "InvalidKnots", false) : Str × Str × Bool), (("InvalidName", "InvalidAmounts", false) : Str × Str × Bool), (("InvalidName", "InvalidPlaces", false) : Str × Str × Bool), (("InvalidName", "InvalidHeights", false) : Str × Str × Bool), (("InvalidName", "InvalidOffers", false) : Str × Str × Bool), (("InvalidName", "NotKnown", false) : Str × Str × Bool), (("InvalidName", "UnknownName", false) : Str × Str × Bool), (("InvalidName", "InUse", false) : Str × Str × Bool), (("InvalidName", "NothingToUndo", false) : Str × Str × Bool), (("InvalidName", "NotPossible", false) : Str × Str × Bool), (("InvalidName", "TooMany", false) : Str × Str × Bool), (("InvalidName", "NotOne", false) : Str × Str × Bool), (("InvalidName", "Broken", false) : Str × Str × Bool), (("InvalidNumber", "NotRight", true) : Str × Str × Bool), (("InvalidNumber", "InvalidText", false) : Str × Str × Bool), (("InvalidNumber", "InvalidNumber", true) : Str × Str × Bool), (("InvalidNumber", "InvalidName", false) : Str × Str × Bool), (("InvalidNumber", "InvalidIndex", false) : Str × Str × Bool), (("InvalidNumber", "InvalidDegree", false) : Str × Str × Bool), (("InvalidNumber", "InvalidKnot", false) : Str × Str × Bool), (("InvalidNumber", "InvalidClaim", false) : Str × Str × Bool), (("InvalidNumber", "InvalidCommand", false) : Str × Str × Bool), (("InvalidNumber", "NotAFrame", false) : Str × Str × Bool), (("InvalidNumber", "NotACurve", false) : Str × Str × Bool), (("InvalidNumber", "InvalidKnots", false) : Str × Str × Bool), (("InvalidNumber", "InvalidAmounts", false) : Str × Str × Bool), (("InvalidNumber", "InvalidPlaces", false) : Str × Str × Bool), (("InvalidNumber", "InvalidHeights", false) : Str × Str × Bool), (("InvalidNumber", "InvalidOffers", false) : Str × Str × Bool), (("InvalidNumber", "NotKnown", false) : Str × Str × Bool), (("InvalidNumber", "UnknownName", false) : Str × Str × Bool), (("InvalidNumber", "InUse", false) : Str × Str × Bool), (("InvalidNumber", "NothingToUndo", false) : Str × Str × Bool), (("InvalidNumber", "NotPossible", false) : Str × Str × Bool), (("InvalidNumber", "TooMany", false) : Str × Str × Bool), (("InvalidNumber", "NotOne", false) : Str × Str × Bool), (("InvalidNumber", "Broken", false) : Str × Str × Bool), (("InvalidText", "NotRight", true) : Str × Str × Bool), (("InvalidText", "InvalidText", true) : Str × Str × Bool), (("InvalidText", "InvalidNumber", false) : Str × Str × Bool), (("InvalidText", "InvalidName", false) : Str × Str × Bool), (("InvalidText", "InvalidIndex", false) : Str × Str × Bool), (("InvalidText", "InvalidDegree", false) : Str × Str × Bool), (("InvalidText", "InvalidKnot", false) : Str × Str × Bool), (("InvalidText", "InvalidClaim", false) : Str × Str × Bool), (("InvalidText", "InvalidCommand", false) : Str × Str × Bool), (("InvalidText", "NotAFrame", false) : Str × Str × Bool), (("InvalidText", "NotACurve", false) : Str × Str × Bool), (("InvalidText", "InvalidKnots", false) : Str × Str × Bool), (("InvalidText", "InvalidAmounts", false) : Str × Str × Bool), (("InvalidText", "InvalidPlaces", false) : Str × Str × Bool), (("InvalidText", "InvalidHeights", false) : Str × Str × Bool), (("InvalidText", "InvalidOffers", false) : Str × Str × Bool), (("InvalidText", "NotKnown", false) : Str × Str × Bool), (("InvalidText", "UnknownName", false) : Str × Str × Bool), (("InvalidText", "InUse", false) : Str × Str × Bool), (("InvalidText", "NothingToUndo", false) : Str × Str × Bool), (("InvalidText", "NotPossible", false) : Str × Str × Bool), (("InvalidText", "TooMany", false) : Str × Str × Bool), (("InvalidText", "NotOne", false) : Str × Str × Bool), (("InvalidText", "Broken", false) : Str × Str × Bool)]
def obT : List (Str × String × Bool) := [(("Broken", "ValueError", false) : Str × String × Bool), (("Broken", "LookupError", false) : Str × String × Bool), (("Broken", "ArithmeticError", true) : Str × String × Bool), (("NotOne", "ValueError", false) : Str × String × Bool), (("NotOne", "LookupError", false) : Str × String × Bool), (("NotOne", "ArithmeticError", true) : Str × String × Bool), (("TooMany", "ValueError", false) : Str × String × Bool), (("TooMany", "LookupError", false) : Str × String × Bool), (("TooMany", "ArithmeticError", true) : Str × String × Bool), (("NothingToUndo", "ValueError", false) : Str × String × Bool), (("NothingToUndo", "LookupError", true) : Str × String × Bool), (("NothingToUndo", "ArithmeticError", false) : Str × String × Bool), (("InUse", "ValueError", false) : Str × String × Bool), (("InUse", "LookupError", true) : Str × String × Bool), (("InUse", "ArithmeticError", false) : Str × String × Bool), (("UnknownName", "ValueError", false) : Str × String × Bool), (("UnknownName", "LookupError", true) : Str × String × Bool), (("UnknownName", "ArithmeticError", false) : Str × String × Bool), (("InvalidOffers", "ValueError", true) : Str × String × Bool), (("InvalidOffers", "LookupError", false) : Str × String × Bool), (("InvalidOffers", "ArithmeticError", false) : Str × String × Bool), (("InvalidHeights", "ValueError", true) : Str × String × Bool), (("InvalidHeights", "LookupError", false) : Str × String × Bool), (("InvalidHeights", "ArithmeticError", false) : Str × String × Bool), (("InvalidPlaces", "ValueError", true) : Str × String × Bool), (("InvalidPlaces", "LookupError", false) : Str × String × Bool), (("InvalidPlaces", "ArithmeticError", false) : Str × String × Bool), (("InvalidAmounts", "ValueError", true) : Str × String × Bool), (("InvalidAmounts", "LookupError", false) : Str × String × Bool), (("InvalidAmounts", "ArithmeticError", false) : Str × String × Bool), (("InvalidKnots", "ValueError", true) : Str × String × Bool), (("InvalidKnots", "LookupError", false) : Str × String × Bool), (("InvalidKnots", "ArithmeticError", false) : Str × String × Bool), (("NotACurve", "ValueError", true) : Str × String × Bool), (("NotACurve", "LookupError", false) : Str × String × Bool), (("NotACurve", "ArithmeticError", false) : Str × String × Bool), (("NotAFrame", "ValueError", true) : Str × String × Bool), (("NotAFrame", "LookupError", false) : Str × String × Bool), (("NotAFrame", "ArithmeticError", false) : Str × String × Bool), (("InvalidCommand", "ValueError", true) : Str × String × Bool), (("InvalidCommand", "LookupError", false) : Str × String × Bool), (("InvalidCommand", "ArithmeticError", false) : Str × String × Bool), (("InvalidClaim", "ValueError", true) : Str × String × Bool), (("InvalidClaim", "LookupError", false) : Str × String × Bool), (("InvalidClaim", "ArithmeticError", false) : Str × String × Bool), (("InvalidKnot", "ValueError", true) : Str × String × Bool), (("InvalidKnot", "LookupError", false) : Str × String × Bool), (("InvalidKnot", "ArithmeticError", false) : Str × String × Bool), (("InvalidDegree", "ValueError", true) : Str × String × Bool), (("InvalidDegree", "LookupError", false) : Str × String × Bool), (("InvalidDegree", "ArithmeticError", false) : Str × String × Bool), (("InvalidIndex", "ValueError", true) : Str × String × Bool), (("InvalidIndex", "LookupError", false) : Str × String × Bool), (("InvalidIndex", "ArithmeticError", false) : Str × String × Bool), (("InvalidName", "ValueError", true) : Str × String × Bool), (("InvalidName", "LookupError", false) : Str × String × Bool), (("InvalidName", "ArithmeticError", false) : Str × String × Bool), (("InvalidNumber", "ValueError", true) : Str × String × Bool), (("InvalidNumber", "LookupError", false) : Str × String × Bool), (("InvalidNumber", "ArithmeticError", false) : Str × String × Bool), (("InvalidText", "ValueError", true) : Str × String × Bool), (("InvalidText", "LookupError", false) : Str × String × Bool), (("InvalidText", "ArithmeticError", false) : Str × String × Bool)]
def subT : List (Str × Str × Bool) := [(("Broken", "NotKnown", false) : Str × Str × Bool), (("Broken", "NotPossible", true) : Str × Str × Bool), (("Broken", "NotRight", false) : Str × Str × Bool), (("NotOne", "NotKnown", false) : Str × Str × Bool), (("NotOne", "NotPossible", true) : Str × Str × Bool), (("NotOne", "NotRight", false) : Str × Str × Bool), (("TooMany", "NotKnown", false) : Str × Str × Bool), (("TooMany", "NotPossible", true) : Str × Str × Bool), (("TooMany", "NotRight", false) : Str × Str × Bool), (("NothingToUndo", "NotKnown", true) : Str × Str × Bool), (("NothingToUndo", "NotPossible", false) : Str × Str × Bool), (("NothingToUndo", "NotRight", false) : Str × Str × Bool), (("InUse", "NotKnown", true) : Str × Str × Bool), (("InUse", "NotPossible", false) : Str × Str × Bool), (("InUse", "NotRight", false) : Str × Str × Bool), (("UnknownName", "NotKnown", true) : Str × Str × Bool), (("UnknownName", "NotPossible", false) : Str × Str × Bool), (("UnknownName", "NotRight", false) : Str × Str × Bool), (("InvalidOffers", "NotKnown", false) : Str × Str × Bool), (("InvalidOffers", "NotPossible", false) : Str × Str × Bool), (("InvalidOffers", "NotRight", true) : Str × Str × Bool), (("InvalidHeights", "NotKnown", false) : Str × Str × Bool), (("InvalidHeights", "NotPossible", false) : Str × Str × Bool), (("InvalidHeights", "NotRight", true) : Str × Str × Bool), (("InvalidPlaces", "NotKnown", false) : Str × Str × Bool), (("InvalidPlaces", "NotPossible", false) : Str × Str × Bool), (("InvalidPlaces", "NotRight", true) : Str × Str × Bool), (("InvalidAmounts", "NotKnown", false) : Str × Str × Bool), (("InvalidAmounts", "NotPossible", false) : Str × Str × Bool), (("InvalidAmounts", "NotRight", true) : Str × Str × Bool), (("InvalidKnots", "NotKnown", false) : Str × Str × Bool), (("InvalidKnots", "NotPossible", false) : Str × Str × Bool), (("InvalidKnots", "NotRight", true) : Str × Str × Bool), (("NotACurve", "NotKnown", false) : Str × Str × Bool), (("NotACurve", "NotPossible", false) : Str × Str × Bool), (("NotACurve", "NotRight", true) : Str × Str × Bool), (("NotAFrame", "NotKnown", false) : Str × Str × Bool), (("NotAFrame", "NotPossible", false) : Str × Str × Bool), (("NotAFrame", "NotRight", true) : Str × Str × Bool), (("InvalidCommand", "NotKnown", false) : Str × Str × Bool), (("InvalidCommand", "NotPossible", false) : Str × Str × Bool), (("InvalidCommand", "NotRight", true) : Str × Str × Bool), (("InvalidClaim", "NotKnown", false) : Str × Str × Bool), (("InvalidClaim", "NotPossible", false) : Str × Str × Bool), (("InvalidClaim", "NotRight", true) : Str × Str × Bool), (("InvalidKnot", "NotKnown", false) : Str × Str × Bool), (("InvalidKnot", "NotPossible", false) : Str × Str × Bool), (("InvalidKnot", "NotRight", true) : Str × Str × Bool), (("InvalidDegree", "NotKnown", false) : Str × Str × Bool), (("InvalidDegree", "NotPossible", false) : Str × Str × Bool), (("InvalidDegree", "NotRight", true) : Str × Str × Bool), (("InvalidIndex", "NotKnown", false) : Str × Str × Bool), (("InvalidIndex", "NotPossible", false) : Str × Str × Bool), (("InvalidIndex", "NotRight", true) : Str × Str × Bool), (("InvalidName", "NotKnown", false) : Str × Str × Bool), (("InvalidName", "NotPossible", false) : Str × Str × Bool), (("InvalidName", "NotRight", true) : Str × Str × Bool), (("InvalidNumber", "NotKnown", false) : Str × Str × Bool), (("InvalidNumber", "NotPossible", false) : Str × Str × Bool), (("InvalidNumber", "NotRight", true) : Str × Str × Bool), (("InvalidText", "NotKnown", false) : Str × Str × Bool), (("InvalidText", "NotPossible", false) : Str × Str × Bool), (("InvalidText", "NotRight", true) : Str × Str × Bool)]
def tabT : Tab := ⟨[], ["Broken", "NotOne", "TooMany", "NothingToUndo", "InUse", "UnknownName", "InvalidOffers", "InvalidHeights", "InvalidPlaces", "InvalidAmounts", "InvalidKnots", "NotACurve", "NotAFrame", "InvalidCommand", "InvalidClaim", "InvalidKnot", "InvalidDegree", "InvalidIndex", "InvalidName", "InvalidNumber", "InvalidText"], isaOf ooT obT []⟩
def fldT : List (Str × Str) := []
def xfT : List (Str × Str) := [("Broken", "index"), ("Broken", "shown"), ("NotOne", "rank"), ("TooMany", "limit"), ("InUse", "index"), ("UnknownName", "given"), ("InvalidOffers", "index"), ("InvalidHeights", "index"), ("InvalidPlaces", "index"), ("InvalidAmounts", "index"), ("InvalidKnots", "index"), ("NotACurve", "given"), ("NotAFrame", "given"), ("InvalidCommand", "given"), ("InvalidClaim", "given"), ("InvalidKnot", "given"), ("InvalidDegree", "given"), ("InvalidIndex", "given"), ("InvalidName", "given"), ("InvalidNumber", "given"), ("InvalidText", "given")]
section
variable {P : Program} {w : World} {K : PySem.W.Frag} {mg : Str → Option Value} {base : Heap}
def m_l_all : Sm := (mSeq (mSet 2 (mFr (mLst (mCons (mFr (mLst (mCons (mExc "InvalidText" ["given"] [0] (mCons (mVar 0) mNil)) (mCons (mC (.str "given")) mNil)))) (mCons (mFr (mLst (mCons (mExc "InvalidNumber" ["given"] [0] (mCons (mVar 0) mNil)) (mCons (mC (.str "given")) mNil)))) (mCons (mFr (mLst (mCons (mExc "InvalidName" ["given"] [0] (mCons (mVar 0) mNil)) (mCons (mC (.str "given")) mNil)))) mNil))))))
  (mSeq (mSet 2 (mOp addD (mVar 2) (mFr (mLst (mCons (mFr (mLst (mCons (mExc "InvalidIndex" ["given"] [0] (mCons (mVar 0) mNil)) (mCons (mC (.str "given")) mNil)))) (mCons (mFr (mLst (mCons (mExc "InvalidDegree" ["given"] [0] (mCons (mVar 0) mNil)) (mCons (mC (.str "given")) mNil)))) (mCons (mFr (mLst (mCons (mExc "InvalidKnot" ["given"] [0] (mCons (mVar 0) mNil)) (mCons (mC (.str "given")) mNil)))) mNil)))))))
  (mSeq (mSet 2 (mOp addD (mVar 2) (mFr (mLst (mCons (mFr (mLst (mCons (mExc "InvalidClaim" ["given"] [0] (mCons (mVar 0) mNil)) (mCons (mC (.str "given")) mNil)))) (mCons (mFr (mLst (mCons (mExc "InvalidCommand" ["given"] [0] (mCons (mVar 0) mNil)) (mCons (mC (.str "given")) mNil)))) (mCons (mFr (mLst (mCons (mExc "NotAFrame" ["given"] [0] (mCons (mVar 0) mNil)) (mCons (mC (.str "given")) mNil)))) mNil)))))))
  (mSeq (mSet 2 (mOp addD (mVar 2) (mFr (mLst (mCons (mFr (mLst (mCons (mExc "NotACurve" ["given"] [0] (mCons (mVar 0) mNil)) (mCons (mC (.str "given")) mNil)))) (mCons (mFr (mLst (mCons (mExc "InvalidKnots" ["index"] [0] (mCons (mVar 0) mNil)) (mCons (mC (.str "index")) mNil)))) (mCons (mFr (mLst (mCons (mExc "InvalidAmounts" ["index"] [0] (mCons (mVar 0) mNil)) (mCons (mC (.str "index")) mNil)))) mNil)))))))
  (mSeq (mSet 2 (mOp addD (mVar 2) (mFr (mLst (mCons (mFr (mLst (mCons (mExc "InvalidPlaces" ["index"] [0] (mCons (mVar 0) mNil)) (mCons (mC (.str "index")) mNil)))) (mCons (mFr (mLst (mCons (mExc "InvalidHeights" ["index"] [0] (mCons (mVar 0) mNil)) (mCons (mC (.str "index")) mNil)))) (mCons (mFr (mLst (mCons (mExc "InvalidOffers" ["index"] [0] (mCons (mVar 0) mNil)) (mCons (mC (.str "index")) mNil)))) mNil)))))))
  (mSeq (mSet 2 (mOp addD (mVar 2) (mFr (mLst (mCons (mFr (mLst (mCons (mExc "UnknownName" ["given"] [0] (mCons (mVar 0) mNil)) (mCons (mC (.str "given")) mNil)))) (mCons (mFr (mLst (mCons (mExc "InUse" ["index"] [0] (mCons (mVar 0) mNil)) (mCons (mC (.str "index")) mNil)))) (mCons (mFr (mLst (mCons (mC (.exc "NothingToUndo" [] [])) (mCons (mC (.str "")) mNil)))) mNil)))))))
  (mRet (mOp addD (mVar 2) (mFr (mLst (mCons (mFr (mLst (mCons (mExc "TooMany" ["limit"] [0] (mCons (mVar 0) mNil)) (mCons (mC (.str "limit")) mNil)))) (mCons (mFr (mLst (mCons (mExc "NotOne" ["rank"] [0] (mCons (mVar 0) mNil)) (mCons (mC (.str "rank")) mNil)))) (mCons (mFr (mLst (mCons (mExc "Broken" ["shown", "index"] [1, 0] (mCons (mVar 0) (mCons (mVar 1) mNil))) (mCons (mC (.str "index")) mNil)))) mNil)))))))))))))
def f_l_all : Fn := mDef 3 m_l_all
def m_l_named : Sm := (mSeq (mSet 2 (mFr (mLst (mCons (mExc "InvalidText" ["given"] [0] (mCons (mVar 0) mNil)) (mCons (mExc "InvalidNumber" ["given"] [0] (mCons (mVar 0) mNil)) (mCons (mExc "InvalidName" ["given"] [0] (mCons (mVar 0) mNil)) (mCons (mExc "InvalidIndex" ["given"] [0] (mCons (mVar 0) mNil)) mNil)))))))
  (mSeq (mSet 2 (mOp addD (mVar 2) (mFr (mLst (mCons (mExc "InvalidDegree" ["given"] [0] (mCons (mVar 0) mNil)) (mCons (mExc "InvalidKnot" ["given"] [0] (mCons (mVar 0) mNil)) (mCons (mExc "InvalidClaim" ["given"] [0] (mCons (mVar 0) mNil)) mNil)))))))
  (mSeq (mSet 2 (mOp addD (mVar 2) (mFr (mLst (mCons (mExc "InvalidCommand" ["given"] [0] (mCons (mVar 0) mNil)) (mCons (mExc "NotAFrame" ["given"] [0] (mCons (mVar 0) mNil)) (mCons (mExc "NotACurve" ["given"] [0] (mCons (mVar 0) mNil)) mNil)))))))
  (mSeq (mSet 2 (mOp addD (mVar 2) (mFr (mLst (mCons (mExc "InvalidKnots" ["index"] [0] (mCons (mVar 0) mNil)) (mCons (mExc "InvalidAmounts" ["index"] [0] (mCons (mVar 0) mNil)) (mCons (mExc "InvalidPlaces" ["index"] [0] (mCons (mVar 0) mNil)) mNil)))))))
  (mSeq (mSet 2 (mOp addD (mVar 2) (mFr (mLst (mCons (mExc "InvalidHeights" ["index"] [0] (mCons (mVar 0) mNil)) (mCons (mExc "InvalidOffers" ["index"] [0] (mCons (mVar 0) mNil)) (mCons (mExc "UnknownName" ["given"] [0] (mCons (mVar 0) mNil)) mNil)))))))
  (mSeq (mSet 2 (mOp addD (mVar 2) (mFr (mLst (mCons (mExc "InUse" ["index"] [0] (mCons (mVar 0) mNil)) (mCons (mC (.exc "NothingToUndo" [] [])) (mCons (mExc "TooMany" ["limit"] [0] (mCons (mVar 0) mNil)) (mCons (mExc "NotOne" ["rank"] [0] (mCons (mVar 0) mNil)) mNil))))))))
  (mRet (mOp addD (mVar 2) (mFr (mLst (mCons (mExc "Broken" ["shown", "index"] [0, 1] (mCons (mVar 1) (mCons (mVar 0) mNil))) mNil)))))))))))
def f_l_named : Fn := mDef 3 m_l_named
def m_l_has : Sm := (mSeq (mIfS (mB (mOp eqD (mVar 1) (mC (.str "")))) (mRet (mC (.str "nothing"))) mSkip)
  (mSeq (mIfS (mB (mOp eqD (mVar 1) (mC (.str "given")))) (mRet (mUn (xfD xfT "given") (mVar 0))) mSkip)
  (mSeq (mIfS (mB (mOp eqD (mVar 1) (mC (.str "rank")))) (mRet (mUn (xfD xfT "rank") (mVar 0))) mSkip)
  (mRet (mIf (mB (mOp eqD (mVar 1) (mC (.str "index")))) (mUn (xfD xfT "index") (mVar 0)) (mUn (xfD xfT "limit") (mVar 0)))))))
def f_l_has : Fn := mDef 2 m_l_has
def m_l_bases : Sm := (mSeq (mSet 1 (mFr (mLst (mCons (mCall (isAD tabT) (mCons (mVar 0) (mCons (mC (.cls "NotRight")) mNil))) (mCons (mCall (isAD tabT) (mCons (mVar 0) (mCons (mC (.cls "NotKnown")) mNil))) (mCons (mCall (isAD tabT) (mCons (mVar 0) (mCons (mC (.cls "NotPossible")) mNil))) mNil))))))
  (mRet (mOp addD (mVar 1) (mFr (mLst (mCons (mCall (isAD tabT) (mCons (mVar 0) (mCons (mC (.ty "ValueError")) mNil))) (mCons (mCall (isAD tabT) (mCons (mVar 0) (mCons (mC (.ty "LookupError")) mNil))) (mCons (mCall (isAD tabT) (mCons (mVar 0) (mCons (mC (.ty "ArithmeticError")) mNil))) mNil))))))))
def f_l_bases : Fn := mDef 2 m_l_bases
def m_l_caught : Sm := (mSeq (mSetO 1 (mLst mNil))
  (mSeq (mTry (subOf subT) (mRaise "InvalidKnots" "index" (mVar 0))
  [(["NotRight"], some 2, (mApp 1 (mUn (xfD xfT "index") (mVar 2))))])
  (mSeq (mTry (subOf subT) (mRaise "UnknownName" "given" (mVar 0))
  [(["NotKnown"], some 2, (mApp 1 (mUn (xfD xfT "given") (mVar 2))))])
  (mSeq (mTry (subOf subT) (mRaise "NotOne" "rank" (mVar 0))
  [(["NotPossible"], some 2, (mApp 1 (mUn (xfD xfT "rank") (mVar 2))))])
  (mFz 1 (mRet (mVar 1)))))))
def f_l_caught : Fn := mDef 3 m_l_caught
def m_l_right : Sm := (mSeq (mPar2 2 3 (mCons (mFn 2 f_l_all (mCons (mVar 0) (mCons (mVar 1) mNil))) (mCons (mFn 2 f_l_named (mCons (mVar 0) (mCons (mVar 1) mNil))) mNil)))
  (mSeq (mFor (mRange1 (mCons (mCall lenD (mCons (mVar 2) mNil)) mNil)) (.nm 4) (mSeq (mSet 5 (mIf (mB (mOp ltD (mVar 4) (mC (.int 15)))) (mC (.int 0)) (mIf (mB (mOp ltD (mVar 4) (mC (.int 18)))) (mC (.int 1)) (mC (.int 2)))))
  (mSeq (mSet 6 (mOp mulD (mFr (mLst (mCons (mOp eqD (mVar 5) (mC (.int 0))) (mCons (mOp eqD (mVar 5) (mC (.int 1))) (mCons (mOp eqD (mVar 5) (mC (.int 2))) mNil))))) (mC (.int 2))))
  (mFor (mItems (mFr (mLst (mCons (mOp ixD (mOp ixD (mVar 2) (mVar 4)) (mC (.int 0))) (mCons (mOp ixD (mVar 3) (mVar 4)) mNil))))) (.nm 7) (mSeq (mIfS (mB (mOp neD (mFn 1 f_l_bases (mCons (mVar 7) mNil)) (mVar 6))) (mRet (mC (.bl false))) mSkip)
  (mIfS (mB (mOp neD (mCall reprD (mCons (mFn 2 f_l_has (mCons (mVar 7) (mCons (mOp ixD (mOp ixD (mVar 2) (mVar 4)) (mC (.int 1))) mNil))) mNil)) (mCall reprD (mCons (mIf (mB (mOp neD (mOp ixD (mOp ixD (mVar 2) (mVar 4)) (mC (.int 1))) (mC (.str "")))) (mVar 0) (mC (.str "nothing"))) mNil)))) (mRet (mC (.bl false))) mSkip))))))
  (mSeq (mSet 8 (mFr (mLst (mCons (mOp ixD (mOp ixD (mVar 2) (mC (.int 20))) (mC (.int 0))) (mCons (mOp ixD (mVar 3) (mC (.int 20))) mNil)))))
  (mRet (mAndV (mOp eqD (mCall reprD (mCons (mFr (mComp (mItems (mVar 8)) [7] (.nm 7) mYes (mUn (xfD xfT "shown") (mVar 7)))) mNil)) (mCall reprD (mCons (mOp mulD (mFr (mLst (mCons (mVar 1) mNil))) (mC (.int 2))) mNil))) (mOp eqD (mCall reprD (mCons (mFn 1 f_l_caught (mCons (mVar 0) mNil)) mNil)) (mCall reprD (mCons (mOp mulD (mFr (mLst (mCons (mVar 0) mNil))) (mC (.int 3))) mNil))))))))
def f_l_right : Fn := mDef 9 m_l_right
def m_p_law : Sm := (mSeq (mSet 1 (mFr (mLst (mCons (mC (.int 4)) (mCons (mC (.int 1000000)) (mCons (mC (.int 10)) (mCons (mC (.int 12)) (mCons (mC (.int 100000000000000000000)) (mCons (mC (.int 6)) mNil)))))))))
  (mSeq (mIfS (mB (mOp neD (mVar 1) (mFr (mLst (mCons (mC (.int 4)) (mCons (mOp powD (mC (.int 10)) (mC (.int 6))) (mCons (mC (.int 10)) (mCons (mC (.int 12)) (mCons (mOp powD (mC (.int 10)) (mC (.int 20))) (mCons (mC (.int 6)) mNil)))))))))) (mRet (mC (.bl false))) mSkip)
  (mSeq (mSet 2 (mOp addD (mFr (mLst (mCons (mC .non) (mCons (mC (.str "a")) (mCons (mTup (mCons (mC (.int 1)) (mCons (mC (.str "x")) mNil))) (mCons (mC (.bl true)) (mCons (mUn negD (mC (.int 3))) mNil))))))) (mFr (mComp (mItems (mSlice sliceD (mVar 0) mNoPart (mPart (mC (.int 3))))) [3] (.nm 3) mYes (mOp modD (mCall toIntD (mCons (mVar 3) mNil)) (mOp powD (mC (.int 10)) (mC (.int 12))))))))
  (mRet (mCall allD (mCons (mFr (mComp (mRange1 (mCons (mCall lenD (mCons (mVar 2) mNil)) mNil)) [4] (.nm 4) mYes (mFn 2 f_l_right (mCons (mOp ixD (mVar 2) (mVar 4)) (mCons (mOp ixD (mVar 2) (mOp subD (mVar 4) (mC (.int 1)))) mNil))))) mNil))))))
def f_p_law : Fn := mDef 5 m_p_law
structure Lf (K : PySem.W.Frag) (mg : Str → Option Value) where
  a_l_all : Addr
  d_l_all : FuncData
  F_l_all : Fun K "_law_all" "_law_all" s_l_all a_l_all d_l_all
  m_l_all : mg "_law_all" = some (.ref a_l_all)
  a_l_named : Addr
  d_l_named : FuncData
  F_l_named : Fun K "_law_named" "_law_named" s_l_named a_l_named d_l_named
  m_l_named : mg "_law_named" = some (.ref a_l_named)
  a_l_has : Addr
  d_l_has : FuncData
  F_l_has : Fun K "_law_has" "_law_has" s_l_has a_l_has d_l_has
  m_l_has : mg "_law_has" = some (.ref a_l_has)
  a_l_bases : Addr
  d_l_bases : FuncData
  F_l_bases : Fun K "_law_bases" "_law_bases" s_l_bases a_l_bases d_l_bases
  m_l_bases : mg "_law_bases" = some (.ref a_l_bases)
  a_l_caught : Addr
  d_l_caught : FuncData
  F_l_caught : Fun K "_law_caught" "_law_caught" s_l_caught a_l_caught d_l_caught
  m_l_caught : mg "_law_caught" = some (.ref a_l_caught)
  a_l_right : Addr
  d_l_right : FuncData
  F_l_right : Fun K "_law_right" "_law_right" s_l_right a_l_right d_l_right
  m_l_right : mg "_law_right" = some (.ref a_l_right)
  a_p_law : Addr
  d_p_law : FuncData
  F_p_law : Fun K "law" "law" s_p_law a_p_law d_p_law
  m_p_law : mg "law" = some (.ref a_p_law)
  z_ArithmeticError : mg "ArithmeticError" = none
  z_LookupError : mg "LookupError" = none
  z_ValueError : mg "ValueError" = none
  z_all : mg "all" = none
  z_int : mg "int" = none
  z_isinstance : mg "isinstance" = none
  z_len : mg "len" = none
  z_range : mg "range" = none
  z_repr : mg "repr" = none
  g_MOST_DEGREE : ∃ t, mg "MOST_DEGREE" = some (.int 4 t)
  g_MOST_HEIGHT : ∃ t, mg "MOST_HEIGHT" = some (.int 100000000000000000000 t)
  g_MOST_HILLS : ∃ t, mg "MOST_HILLS" = some (.int 10 t)
  g_MOST_KNOT : ∃ t, mg "MOST_KNOT" = some (.int 1000000 t)
  g_MOST_OFFERS : ∃ t, mg "MOST_OFFERS" = some (.int 6 t)
  g_MOST_PLACES : ∃ t, mg "MOST_PLACES" = some (.int 12 t)
  C_NotRight : Addr
  c_NotRight : mg "NotRight" = some (.ref C_NotRight)
  C_InvalidText : Addr
  c_InvalidText : mg "InvalidText" = some (.ref C_InvalidText)
  C_InvalidNumber : Addr
  c_InvalidNumber : mg "InvalidNumber" = some (.ref C_InvalidNumber)
  C_InvalidName : Addr
  c_InvalidName : mg "InvalidName" = some (.ref C_InvalidName)
  C_InvalidIndex : Addr
  c_InvalidIndex : mg "InvalidIndex" = some (.ref C_InvalidIndex)
  C_InvalidDegree : Addr
  c_InvalidDegree : mg "InvalidDegree" = some (.ref C_InvalidDegree)
  C_InvalidKnot : Addr
  c_InvalidKnot : mg "InvalidKnot" = some (.ref C_InvalidKnot)
  C_InvalidClaim : Addr
  c_InvalidClaim : mg "InvalidClaim" = some (.ref C_InvalidClaim)
  C_InvalidCommand : Addr
  c_InvalidCommand : mg "InvalidCommand" = some (.ref C_InvalidCommand)
  C_NotAFrame : Addr
  c_NotAFrame : mg "NotAFrame" = some (.ref C_NotAFrame)
  C_NotACurve : Addr
  c_NotACurve : mg "NotACurve" = some (.ref C_NotACurve)
  C_InvalidKnots : Addr
  c_InvalidKnots : mg "InvalidKnots" = some (.ref C_InvalidKnots)
  C_InvalidAmounts : Addr
  c_InvalidAmounts : mg "InvalidAmounts" = some (.ref C_InvalidAmounts)
  C_InvalidPlaces : Addr
  c_InvalidPlaces : mg "InvalidPlaces" = some (.ref C_InvalidPlaces)
  C_InvalidHeights : Addr
  c_InvalidHeights : mg "InvalidHeights" = some (.ref C_InvalidHeights)
  C_InvalidOffers : Addr
  c_InvalidOffers : mg "InvalidOffers" = some (.ref C_InvalidOffers)
  C_NotKnown : Addr
  c_NotKnown : mg "NotKnown" = some (.ref C_NotKnown)
  C_UnknownName : Addr
  c_UnknownName : mg "UnknownName" = some (.ref C_UnknownName)
  C_InUse : Addr
  c_InUse : mg "InUse" = some (.ref C_InUse)
  C_NothingToUndo : Addr
  c_NothingToUndo : mg "NothingToUndo" = some (.ref C_NothingToUndo)
  C_NotPossible : Addr
  c_NotPossible : mg "NotPossible" = some (.ref C_NotPossible)
  C_TooMany : Addr
  c_TooMany : mg "TooMany" = some (.ref C_TooMany)
  C_NotOne : Addr
  c_NotOne : mg "NotOne" = some (.ref C_NotOne)
  C_Broken : Addr
  c_Broken : mg "Broken" = some (.ref C_Broken)
  x_Broken : OexG K C_Broken
  e_Broken : L2.ExcC K C_Broken
  xf_Broken : XfC K C_Broken
  no_Broken : PySem.W.findIn K (.ref C_Broken) "index" = some none
  fi_Broken : Addr
  di_Broken : FuncData
  Fi_Broken : Fun K "__init__" "Broken.__init__" si_Broken fi_Broken di_Broken
  ii_Broken : PySem.W.findIn K (.ref C_Broken) "__init__" = some (some (.ref fi_Broken))
  ti_Broken : PySem.W.typeIn K (.ref fi_Broken) = some (.type "function")
  tk_Broken : PySem.W.takerIn K C_Broken "index" = some none
  no2_Broken : PySem.W.findIn K (.ref C_Broken) "shown" = some none
  tk2_Broken : PySem.W.takerIn K C_Broken "shown" = some none
  x_NotOne : OexG K C_NotOne
  e_NotOne : L2.ExcC K C_NotOne
  xf_NotOne : XfC K C_NotOne
  no_NotOne : PySem.W.findIn K (.ref C_NotOne) "rank" = some none
  fi_NotOne : Addr
  di_NotOne : FuncData
  Fi_NotOne : Fun K "__init__" "NotOne.__init__" si_NotOne fi_NotOne di_NotOne
  ii_NotOne : PySem.W.findIn K (.ref C_NotOne) "__init__" = some (some (.ref fi_NotOne))
  ti_NotOne : PySem.W.typeIn K (.ref fi_NotOne) = some (.type "function")
  tk_NotOne : PySem.W.takerIn K C_NotOne "rank" = some none
  x_TooMany : OexG K C_TooMany
  e_TooMany : L2.ExcC K C_TooMany
  xf_TooMany : XfC K C_TooMany
  no_TooMany : PySem.W.findIn K (.ref C_TooMany) "limit" = some none
  fi_TooMany : Addr
  di_TooMany : FuncData
  Fi_TooMany : Fun K "__init__" "TooMany.__init__" si_TooMany fi_TooMany di_TooMany
  ii_TooMany : PySem.W.findIn K (.ref C_TooMany) "__init__" = some (some (.ref fi_TooMany))
  ti_TooMany : PySem.W.typeIn K (.ref fi_TooMany) = some (.type "function")
  tk_TooMany : PySem.W.takerIn K C_TooMany "limit" = some none
  x_NothingToUndo : Oex0 K C_NothingToUndo
  e_NothingToUndo : L2.ExcC K C_NothingToUndo
  x_InUse : OexG K C_InUse
  e_InUse : L2.ExcC K C_InUse
  xf_InUse : XfC K C_InUse
  no_InUse : PySem.W.findIn K (.ref C_InUse) "index" = some none
  fi_InUse : Addr
  di_InUse : FuncData
  Fi_InUse : Fun K "__init__" "InUse.__init__" si_InUse fi_InUse di_InUse
  ii_InUse : PySem.W.findIn K (.ref C_InUse) "__init__" = some (some (.ref fi_InUse))
  ti_InUse : PySem.W.typeIn K (.ref fi_InUse) = some (.type "function")
  tk_InUse : PySem.W.takerIn K C_InUse "index" = some none
  x_UnknownName : OexG K C_UnknownName
  e_UnknownName : L2.ExcC K C_UnknownName
  xf_UnknownName : XfC K C_UnknownName
  no_UnknownName : PySem.W.findIn K (.ref C_UnknownName) "given" = some none
  fi_UnknownName : Addr
  di_UnknownName : FuncData
  Fi_UnknownName : Fun K "__init__" "UnknownName.__init__" si_UnknownName fi_UnknownName di_UnknownName
  ii_UnknownName : PySem.W.findIn K (.ref C_UnknownName) "__init__" = some (some (.ref fi_UnknownName))
  ti_UnknownName : PySem.W.typeIn K (.ref fi_UnknownName) = some (.type "function")
  tk_UnknownName : PySem.W.takerIn K C_UnknownName "given" = some none
  x_InvalidOffers : OexG K C_InvalidOffers
  e_InvalidOffers : L2.ExcC K C_InvalidOffers
  xf_InvalidOffers : XfC K C_InvalidOffers
  no_InvalidOffers : PySem.W.findIn K (.ref C_InvalidOffers) "index" = some none
  fi_InvalidOffers : Addr
  di_InvalidOffers : FuncData
  Fi_InvalidOffers : Fun K "__init__" "InvalidOffers.__init__" si_InvalidOffers fi_InvalidOffers di_InvalidOffers
  ii_InvalidOffers : PySem.W.findIn K (.ref C_InvalidOffers) "__init__" = some (some (.ref fi_InvalidOffers))
  ti_InvalidOffers : PySem.W.typeIn K (.ref fi_InvalidOffers) = some (.type "function")
  tk_InvalidOffers : PySem.W.takerIn K C_InvalidOffers "index" = some none
  x_InvalidHeights : OexG K C_InvalidHeights
  e_InvalidHeights : L2.ExcC K C_InvalidHeights
  xf_InvalidHeights : XfC K C_InvalidHeights
  no_InvalidHeights : PySem.W.findIn K (.ref C_InvalidHeights) "index" = some none
  fi_InvalidHeights : Addr
  di_InvalidHeights : FuncData
  Fi_InvalidHeights : Fun K "__init__" "InvalidHeights.__init__" si_InvalidHeights fi_InvalidHeights di_InvalidHeights
  ii_InvalidHeights : PySem.W.findIn K (.ref C_InvalidHeights) "__init__" = some (some (.ref fi_InvalidHeights))
  ti_InvalidHeights : PySem.W.typeIn K (.ref fi_InvalidHeights) = some (.type "function")
  tk_InvalidHeights : PySem.W.takerIn K C_InvalidHeights "index" = some none
  x_InvalidPlaces : OexG K C_InvalidPlaces
  e_InvalidPlaces : L2.ExcC K C_InvalidPlaces
  xf_InvalidPlaces : XfC K C_InvalidPlaces
  no_InvalidPlaces : PySem.W.findIn K (.ref C_InvalidPlaces) "index" = some none
  fi_InvalidPlaces : Addr
  di_InvalidPlaces : FuncData
  Fi_InvalidPlaces : Fun K "__init__" "InvalidPlaces.__init__" si_InvalidPlaces fi_InvalidPlaces di_InvalidPlaces
  ii_InvalidPlaces : PySem.W.findIn K (.ref C_InvalidPlaces) "__init__" = some (some (.ref fi_InvalidPlaces))
  ti_InvalidPlaces : PySem.W.typeIn K (.ref fi_InvalidPlaces) = some (.type "function")
  tk_InvalidPlaces : PySem.W.takerIn K C_InvalidPlaces "index" = some none
  x_InvalidAmounts : OexG K C_InvalidAmounts
  e_InvalidAmounts : L2.ExcC K C_InvalidAmounts
  xf_InvalidAmounts : XfC K C_InvalidAmounts
  no_InvalidAmounts : PySem.W.findIn K (.ref C_InvalidAmounts) "index" = some none
  fi_InvalidAmounts : Addr
  di_InvalidAmounts : FuncData
  Fi_InvalidAmounts : Fun K "__init__" "InvalidAmounts.__init__" si_InvalidAmounts fi_InvalidAmounts di_InvalidAmounts
  ii_InvalidAmounts : PySem.W.findIn K (.ref C_InvalidAmounts) "__init__" = some (some (.ref fi_InvalidAmounts))
  ti_InvalidAmounts : PySem.W.typeIn K (.ref fi_InvalidAmounts) = some (.type "function")
  tk_InvalidAmounts : PySem.W.takerIn K C_InvalidAmounts "index" = some none
  x_InvalidKnots : OexG K C_InvalidKnots
  e_InvalidKnots : L2.ExcC K C_InvalidKnots
  xf_InvalidKnots : XfC K C_InvalidKnots
  no_InvalidKnots : PySem.W.findIn K (.ref C_InvalidKnots) "index" = some none
  fi_InvalidKnots : Addr
  di_InvalidKnots : FuncData
  Fi_InvalidKnots : Fun K "__init__" "InvalidKnots.__init__" si_InvalidKnots fi_InvalidKnots di_InvalidKnots
  ii_InvalidKnots : PySem.W.findIn K (.ref C_InvalidKnots) "__init__" = some (some (.ref fi_InvalidKnots))
  ti_InvalidKnots : PySem.W.typeIn K (.ref fi_InvalidKnots) = some (.type "function")
  tk_InvalidKnots : PySem.W.takerIn K C_InvalidKnots "index" = some none
  x_NotACurve : OexG K C_NotACurve
  e_NotACurve : L2.ExcC K C_NotACurve
  xf_NotACurve : XfC K C_NotACurve
  no_NotACurve : PySem.W.findIn K (.ref C_NotACurve) "given" = some none
  fi_NotACurve : Addr
  di_NotACurve : FuncData
  Fi_NotACurve : Fun K "__init__" "NotACurve.__init__" si_NotACurve fi_NotACurve di_NotACurve
  ii_NotACurve : PySem.W.findIn K (.ref C_NotACurve) "__init__" = some (some (.ref fi_NotACurve))
  ti_NotACurve : PySem.W.typeIn K (.ref fi_NotACurve) = some (.type "function")
  tk_NotACurve : PySem.W.takerIn K C_NotACurve "given" = some none
  x_NotAFrame : OexG K C_NotAFrame
  e_NotAFrame : L2.ExcC K C_NotAFrame
  xf_NotAFrame : XfC K C_NotAFrame
  no_NotAFrame : PySem.W.findIn K (.ref C_NotAFrame) "given" = some none
  fi_NotAFrame : Addr
  di_NotAFrame : FuncData
  Fi_NotAFrame : Fun K "__init__" "NotAFrame.__init__" si_NotAFrame fi_NotAFrame di_NotAFrame
  ii_NotAFrame : PySem.W.findIn K (.ref C_NotAFrame) "__init__" = some (some (.ref fi_NotAFrame))
  ti_NotAFrame : PySem.W.typeIn K (.ref fi_NotAFrame) = some (.type "function")
  tk_NotAFrame : PySem.W.takerIn K C_NotAFrame "given" = some none
  x_InvalidCommand : OexG K C_InvalidCommand
  e_InvalidCommand : L2.ExcC K C_InvalidCommand
  xf_InvalidCommand : XfC K C_InvalidCommand
  no_InvalidCommand : PySem.W.findIn K (.ref C_InvalidCommand) "given" = some none
  fi_InvalidCommand : Addr
  di_InvalidCommand : FuncData
  Fi_InvalidCommand : Fun K "__init__" "InvalidCommand.__init__" si_InvalidCommand fi_InvalidCommand di_InvalidCommand
  ii_InvalidCommand : PySem.W.findIn K (.ref C_InvalidCommand) "__init__" = some (some (.ref fi_InvalidCommand))
  ti_InvalidCommand : PySem.W.typeIn K (.ref fi_InvalidCommand) = some (.type "function")
  tk_InvalidCommand : PySem.W.takerIn K C_InvalidCommand "given" = some none
  x_InvalidClaim : OexG K C_InvalidClaim
  e_InvalidClaim : L2.ExcC K C_InvalidClaim
  xf_InvalidClaim : XfC K C_InvalidClaim
  no_InvalidClaim : PySem.W.findIn K (.ref C_InvalidClaim) "given" = some none
  fi_InvalidClaim : Addr
  di_InvalidClaim : FuncData
  Fi_InvalidClaim : Fun K "__init__" "InvalidClaim.__init__" si_InvalidClaim fi_InvalidClaim di_InvalidClaim
  ii_InvalidClaim : PySem.W.findIn K (.ref C_InvalidClaim) "__init__" = some (some (.ref fi_InvalidClaim))
  ti_InvalidClaim : PySem.W.typeIn K (.ref fi_InvalidClaim) = some (.type "function")
  tk_InvalidClaim : PySem.W.takerIn K C_InvalidClaim "given" = some none
  x_InvalidKnot : OexG K C_InvalidKnot
  e_InvalidKnot : L2.ExcC K C_InvalidKnot
  xf_InvalidKnot : XfC K C_InvalidKnot
  no_InvalidKnot : PySem.W.findIn K (.ref C_InvalidKnot) "given" = some none
  fi_InvalidKnot : Addr
  di_InvalidKnot : FuncData
  Fi_InvalidKnot : Fun K "__init__" "InvalidKnot.__init__" si_InvalidKnot fi_InvalidKnot di_InvalidKnot
  ii_InvalidKnot : PySem.W.findIn K (.ref C_InvalidKnot) "__init__" = some (some (.ref fi_InvalidKnot))
  ti_InvalidKnot : PySem.W.typeIn K (.ref fi_InvalidKnot) = some (.type "function")
  tk_InvalidKnot : PySem.W.takerIn K C_InvalidKnot "given" = some none
  x_InvalidDegree : OexG K C_InvalidDegree
  e_InvalidDegree : L2.ExcC K C_InvalidDegree
  xf_InvalidDegree : XfC K C_InvalidDegree
  no_InvalidDegree : PySem.W.findIn K (.ref C_InvalidDegree) "given" = some none
  fi_InvalidDegree : Addr
  di_InvalidDegree : FuncData
  Fi_InvalidDegree : Fun K "__init__" "InvalidDegree.__init__" si_InvalidDegree fi_InvalidDegree di_InvalidDegree
  ii_InvalidDegree : PySem.W.findIn K (.ref C_InvalidDegree) "__init__" = some (some (.ref fi_InvalidDegree))
  ti_InvalidDegree : PySem.W.typeIn K (.ref fi_InvalidDegree) = some (.type "function")
  tk_InvalidDegree : PySem.W.takerIn K C_InvalidDegree "given" = some none
  x_InvalidIndex : OexG K C_InvalidIndex
  e_InvalidIndex : L2.ExcC K C_InvalidIndex
  xf_InvalidIndex : XfC K C_InvalidIndex
  no_InvalidIndex : PySem.W.findIn K (.ref C_InvalidIndex) "given" = some none
  fi_InvalidIndex : Addr
  di_InvalidIndex : FuncData
  Fi_InvalidIndex : Fun K "__init__" "InvalidIndex.__init__" si_InvalidIndex fi_InvalidIndex di_InvalidIndex
  ii_InvalidIndex : PySem.W.findIn K (.ref C_InvalidIndex) "__init__" = some (some (.ref fi_InvalidIndex))
  ti_InvalidIndex : PySem.W.typeIn K (.ref fi_InvalidIndex) = some (.type "function")
  tk_InvalidIndex : PySem.W.takerIn K C_InvalidIndex "given" = some none
  x_InvalidName : OexG K C_InvalidName
  e_InvalidName : L2.ExcC K C_InvalidName
  xf_InvalidName : XfC K C_InvalidName
  no_InvalidName : PySem.W.findIn K (.ref C_InvalidName) "given" = some none
  fi_InvalidName : Addr
  di_InvalidName : FuncData
  Fi_InvalidName : Fun K "__init__" "InvalidName.__init__" si_InvalidName fi_InvalidName di_InvalidName
  ii_InvalidName : PySem.W.findIn K (.ref C_InvalidName) "__init__" = some (some (.ref fi_InvalidName))
  ti_InvalidName : PySem.W.typeIn K (.ref fi_InvalidName) = some (.type "function")
  tk_InvalidName : PySem.W.takerIn K C_InvalidName "given" = some none
  x_InvalidNumber : OexG K C_InvalidNumber
  e_InvalidNumber : L2.ExcC K C_InvalidNumber
  xf_InvalidNumber : XfC K C_InvalidNumber
  no_InvalidNumber : PySem.W.findIn K (.ref C_InvalidNumber) "given" = some none
  fi_InvalidNumber : Addr
  di_InvalidNumber : FuncData
  Fi_InvalidNumber : Fun K "__init__" "InvalidNumber.__init__" si_InvalidNumber fi_InvalidNumber di_InvalidNumber
  ii_InvalidNumber : PySem.W.findIn K (.ref C_InvalidNumber) "__init__" = some (some (.ref fi_InvalidNumber))
  ti_InvalidNumber : PySem.W.typeIn K (.ref fi_InvalidNumber) = some (.type "function")
  tk_InvalidNumber : PySem.W.takerIn K C_InvalidNumber "given" = some none
  x_InvalidText : OexG K C_InvalidText
  e_InvalidText : L2.ExcC K C_InvalidText
  xf_InvalidText : XfC K C_InvalidText
  no_InvalidText : PySem.W.findIn K (.ref C_InvalidText) "given" = some none
  fi_InvalidText : Addr
  di_InvalidText : FuncData
  Fi_InvalidText : Fun K "__init__" "InvalidText.__init__" si_InvalidText fi_InvalidText di_InvalidText
  ii_InvalidText : PySem.W.findIn K (.ref C_InvalidText) "__init__" = some (some (.ref fi_InvalidText))
  ti_InvalidText : PySem.W.typeIn K (.ref fi_InvalidText) = some (.type "function")
  tk_InvalidText : PySem.W.takerIn K C_InvalidText "given" = some none
  oo_Broken_NotRight : PySem.W.kitOne K (.ref C_Broken) (.ref C_NotRight) = some false
  oo_Broken_InvalidText : PySem.W.kitOne K (.ref C_Broken) (.ref C_InvalidText) = some false
  oo_Broken_InvalidNumber : PySem.W.kitOne K (.ref C_Broken) (.ref C_InvalidNumber) = some false
  oo_Broken_InvalidName : PySem.W.kitOne K (.ref C_Broken) (.ref C_InvalidName) = some false
  oo_Broken_InvalidIndex : PySem.W.kitOne K (.ref C_Broken) (.ref C_InvalidIndex) = some false
  oo_Broken_InvalidDegree : PySem.W.kitOne K (.ref C_Broken) (.ref C_InvalidDegree) = some false
  oo_Broken_InvalidKnot : PySem.W.kitOne K (.ref C_Broken) (.ref C_InvalidKnot) = some false
  oo_Broken_InvalidClaim : PySem.W.kitOne K (.ref C_Broken) (.ref C_InvalidClaim) = some false
  oo_Broken_InvalidCommand : PySem.W.kitOne K (.ref C_Broken) (.ref C_InvalidCommand) = some false
  oo_Broken_NotAFrame : PySem.W.kitOne K (.ref C_Broken) (.ref C_NotAFrame) = some false
  oo_Broken_NotACurve : PySem.W.kitOne K (.ref C_Broken) (.ref C_NotACurve) = some false
  oo_Broken_InvalidKnots : PySem.W.kitOne K (.ref C_Broken) (.ref C_InvalidKnots) = some false
  oo_Broken_InvalidAmounts : PySem.W.kitOne K (.ref C_Broken) (.ref C_InvalidAmounts) = some false
  oo_Broken_InvalidPlaces : PySem.W.kitOne K (.ref C_Broken) (.ref C_InvalidPlaces) = some false
  oo_Broken_InvalidHeights : PySem.W.kitOne K (.ref C_Broken) (.ref C_InvalidHeights) = some false
  oo_Broken_InvalidOffers : PySem.W.kitOne K (.ref C_Broken) (.ref C_InvalidOffers) = some false
  oo_Broken_NotKnown : PySem.W.kitOne K (.ref C_Broken) (.ref C_NotKnown) = some false
  oo_Broken_UnknownName : PySem.W.kitOne K (.ref C_Broken) (.ref C_UnknownName) = some false
  oo_Broken_InUse : PySem.W.kitOne K (.ref C_Broken) (.ref C_InUse) = some false
  oo_Broken_NothingToUndo : PySem.W.kitOne K (.ref C_Broken) (.ref C_NothingToUndo) = some false
  oo_Broken_NotPossible : PySem.W.kitOne K (.ref C_Broken) (.ref C_NotPossible) = some true
  oo_Broken_TooMany : PySem.W.kitOne K (.ref C_Broken) (.ref C_TooMany) = some false
  oo_Broken_NotOne : PySem.W.kitOne K (.ref C_Broken) (.ref C_NotOne) = some false
  oo_Broken_Broken : PySem.W.kitOne K (.ref C_Broken) (.ref C_Broken) = some true
  oo_NotOne_NotRight : PySem.W.kitOne K (.ref C_NotOne) (.ref C_NotRight) = some false
  oo_NotOne_InvalidText : PySem.W.kitOne K (.ref C_NotOne) (.ref C_InvalidText) = some false
  oo_NotOne_InvalidNumber : PySem.W.kitOne K (.ref C_NotOne) (.ref C_InvalidNumber) = some false
  oo_NotOne_InvalidName : PySem.W.kitOne K (.ref C_NotOne) (.ref C_InvalidName) = some false
  oo_NotOne_InvalidIndex : PySem.W.kitOne K (.ref C_NotOne) (.ref C_InvalidIndex) = some false
  oo_NotOne_InvalidDegree : PySem.W.kitOne K (.ref C_NotOne) (.ref C_InvalidDegree) = some false
  oo_NotOne_InvalidKnot : PySem.W.kitOne K (.ref C_NotOne) (.ref C_InvalidKnot) = some false
  oo_NotOne_InvalidClaim : PySem.W.kitOne K (.ref C_NotOne) (.ref C_InvalidClaim) = some false
  oo_NotOne_InvalidCommand : PySem.W.kitOne K (.ref C_NotOne) (.ref C_InvalidCommand) = some false
  oo_NotOne_NotAFrame : PySem.W.kitOne K (.ref C_NotOne) (.ref C_NotAFrame) = some false
  oo_NotOne_NotACurve : PySem.W.kitOne K (.ref C_NotOne) (.ref C_NotACurve) = some false
  oo_NotOne_InvalidKnots : PySem.W.kitOne K (.ref C_NotOne) (.ref C_InvalidKnots) = some false
  oo_NotOne_InvalidAmounts : PySem.W.kitOne K (.ref C_NotOne) (.ref C_InvalidAmounts) = some false
  oo_NotOne_InvalidPlaces : PySem.W.kitOne K (.ref C_NotOne) (.ref C_InvalidPlaces) = some false
  oo_NotOne_InvalidHeights : PySem.W.kitOne K (.ref C_NotOne) (.ref C_InvalidHeights) = some false
  oo_NotOne_InvalidOffers : PySem.W.kitOne K (.ref C_NotOne) (.ref C_InvalidOffers) = some false
  oo_NotOne_NotKnown : PySem.W.kitOne K (.ref C_NotOne) (.ref C_NotKnown) = some false
  oo_NotOne_UnknownName : PySem.W.kitOne K (.ref C_NotOne) (.ref C_UnknownName) = some false
  oo_NotOne_InUse : PySem.W.kitOne K (.ref C_NotOne) (.ref C_InUse) = some false
  oo_NotOne_NothingToUndo : PySem.W.kitOne K (.ref C_NotOne) (.ref C_NothingToUndo) = some false
  oo_NotOne_NotPossible : PySem.W.kitOne K (.ref C_NotOne) (.ref C_NotPossible) = some true
  oo_NotOne_TooMany : PySem.W.kitOne K (.ref C_NotOne) (.ref C_TooMany) = some false
  oo_NotOne_NotOne : PySem.W.kitOne K (.ref C_NotOne) (.ref C_NotOne) = some true
  oo_NotOne_Broken : PySem.W.kitOne K (.ref C_NotOne) (.ref C_Broken) = some false
  oo_TooMany_NotRight : PySem.W.kitOne K (.ref C_TooMany) (.ref C_NotRight) = some false
  oo_TooMany_InvalidText : PySem.W.kitOne K (.ref C_TooMany) (.ref C_InvalidText) = some false
  oo_TooMany_InvalidNumber : PySem.W.kitOne K (.ref C_TooMany) (.ref C_InvalidNumber) = some false
  oo_TooMany_InvalidName : PySem.W.kitOne K (.ref C_TooMany) (.ref C_InvalidName) = some false
  oo_TooMany_InvalidIndex : PySem.W.kitOne K (.ref C_TooMany) (.ref C_InvalidIndex) = some false
  oo_TooMany_InvalidDegree : PySem.W.kitOne K (.ref C_TooMany) (.ref C_InvalidDegree) = some false
  oo_TooMany_InvalidKnot : PySem.W.kitOne K (.ref C_TooMany) (.ref C_InvalidKnot) = some false
  oo_TooMany_InvalidClaim : PySem.W.kitOne K (.ref C_TooMany) (.ref C_InvalidClaim) = some false
  oo_TooMany_InvalidCommand : PySem.W.kitOne K (.ref C_TooMany) (.ref C_InvalidCommand) = some false
  oo_TooMany_NotAFrame : PySem.W.kitOne K (.ref C_TooMany) (.ref C_NotAFrame) = some false
  oo_TooMany_NotACurve : PySem.W.kitOne K (.ref C_TooMany) (.ref C_NotACurve) = some false
  oo_TooMany_InvalidKnots : PySem.W.kitOne K (.ref C_TooMany) (.ref C_InvalidKnots) = some false
  oo_TooMany_InvalidAmounts : PySem.W.kitOne K (.ref C_TooMany) (.ref C_InvalidAmounts) = some false
  oo_TooMany_InvalidPlaces : PySem.W.kitOne K (.ref C_TooMany) (.ref C_InvalidPlaces) = some false
  oo_TooMany_InvalidHeights : PySem.W.kitOne K (.ref C_TooMany) (.ref C_InvalidHeights) = some false
  oo_TooMany_InvalidOffers : PySem.W.kitOne K (.ref C_TooMany) (.ref C_InvalidOffers) = some false
  oo_TooMany_NotKnown : PySem.W.kitOne K (.ref C_TooMany) (.ref C_NotKnown) = some false
  oo_TooMany_UnknownName : PySem.W.kitOne K (.ref C_TooMany) (.ref C_UnknownName) = some false
  oo_TooMany_InUse : PySem.W.kitOne K (.ref C_TooMany) (.ref C_InUse) = some false
  oo_TooMany_NothingToUndo : PySem.W.kitOne K (.ref C_TooMany) (.ref C_NothingToUndo) = some false
  oo_TooMany_NotPossible : PySem.W.kitOne K (.ref C_TooMany) (.ref C_NotPossible) = some true
  oo_TooMany_TooMany : PySem.W.kitOne K (.ref C_TooMany) (.ref C_TooMany) = some true
  oo_TooMany_NotOne : PySem.W.kitOne K (.ref C_TooMany) (.ref C_NotOne) = some false
  oo_TooMany_Broken : PySem.W.kitOne K (.ref C_TooMany) (.ref C_Broken) = some false
  oo_NothingToUndo_NotRight : PySem.W.kitOne K (.ref C_NothingToUndo) (.ref C_NotRight) = some false
  oo_NothingToUndo_InvalidText : PySem.W.kitOne K (.ref C_NothingToUndo) (.ref C_InvalidText) = some false
  oo_NothingToUndo_InvalidNumber : PySem.W.kitOne K (.ref C_NothingToUndo) (.ref C_InvalidNumber) = some false
  oo_NothingToUndo_InvalidName : PySem.W.kitOne K (.ref C_NothingToUndo) (.ref C_InvalidName) = some false
  oo_NothingToUndo_InvalidIndex : PySem.W.kitOne K (.ref C_NothingToUndo) (.ref C_InvalidIndex) = some false
  oo_NothingToUndo_InvalidDegree : PySem.W.kitOne K (.ref C_NothingToUndo) (.ref C_InvalidDegree) = some false
  oo_NothingToUndo_InvalidKnot : PySem.W.kitOne K (.ref C_NothingToUndo) (.ref C_InvalidKnot) = some false
  oo_NothingToUndo_InvalidClaim : PySem.W.kitOne K (.ref C_NothingToUndo) (.ref C_InvalidClaim) = some false
  oo_NothingToUndo_InvalidCommand : PySem.W.kitOne K (.ref C_NothingToUndo) (.ref C_InvalidCommand) = some false
  oo_NothingToUndo_NotAFrame : PySem.W.kitOne K (.ref C_NothingToUndo) (.ref C_NotAFrame) = some false
  oo_NothingToUndo_NotACurve : PySem.W.kitOne K (.ref C_NothingToUndo) (.ref C_NotACurve) = some false
  oo_NothingToUndo_InvalidKnots : PySem.W.kitOne K (.ref C_NothingToUndo) (.ref C_InvalidKnots) = some false
  oo_NothingToUndo_InvalidAmounts : PySem.W.kitOne K (.ref C_NothingToUndo) (.ref C_InvalidAmounts) = some false
  oo_NothingToUndo_InvalidPlaces : PySem.W.kitOne K (.ref C_NothingToUndo) (.ref C_InvalidPlaces) = some false
  oo_NothingToUndo_InvalidHeights : PySem.W.kitOne K (.ref C_NothingToUndo) (.ref C_InvalidHeights) = some false
  oo_NothingToUndo_InvalidOffers : PySem.W.kitOne K (.ref C_NothingToUndo) (.ref C_InvalidOffers) = some false
  oo_NothingToUndo_NotKnown : PySem.W.kitOne K (.ref C_NothingToUndo) (.ref C_NotKnown) = some true
  oo_NothingToUndo_UnknownName : PySem.W.kitOne K (.ref C_NothingToUndo) (.ref C_UnknownName) = some false
  oo_NothingToUndo_InUse : PySem.W.kitOne K (.ref C_NothingToUndo) (.ref C_InUse) = some false
  oo_NothingToUndo_NothingToUndo : PySem.W.kitOne K (.ref C_NothingToUndo) (.ref C_NothingToUndo) = some true
  oo_NothingToUndo_NotPossible : PySem.W.kitOne K (.ref C_NothingToUndo) (.ref C_NotPossible) = some false
  oo_NothingToUndo_TooMany : PySem.W.kitOne K (.ref C_NothingToUndo) (.ref C_TooMany) = some false
  oo_NothingToUndo_NotOne : PySem.W.kitOne K (.ref C_NothingToUndo) (.ref C_NotOne) = some false
  oo_NothingToUndo_Broken : PySem.W.kitOne K (.ref C_NothingToUndo) (.ref C_Broken) = some false
  oo_InUse_NotRight : PySem.W.kitOne K (.ref C_InUse) (.ref C_NotRight) = some false
  oo_InUse_InvalidText : PySem.W.kitOne K (.ref C_InUse) (.ref C_InvalidText) = some false
  oo_InUse_InvalidNumber : PySem.W.kitOne K (.ref C_InUse) (.ref C_InvalidNumber) = some false
  oo_InUse_InvalidName : PySem.W.kitOne K (.ref C_InUse) (.ref C_InvalidName) = some false
  oo_InUse_InvalidIndex : PySem.W.kitOne K (.ref C_InUse) (.ref C_InvalidIndex) = some false
  oo_InUse_InvalidDegree : PySem.W.kitOne K (.ref C_InUse) (.ref C_InvalidDegree) = some false
  oo_InUse_InvalidKnot : PySem.W.kitOne K (.ref C_InUse) (.ref C_InvalidKnot) = some false
  oo_InUse_InvalidClaim : PySem.W.kitOne K (.ref C_InUse) (.ref C_InvalidClaim) = some false
  oo_InUse_InvalidCommand : PySem.W.kitOne K (.ref C_InUse) (.ref C_InvalidCommand) = some false
  oo_InUse_NotAFrame : PySem.W.kitOne K (.ref C_InUse) (.ref C_NotAFrame) = some false
  oo_InUse_NotACurve : PySem.W.kitOne K (.ref C_InUse) (.ref C_NotACurve) = some false
  oo_InUse_InvalidKnots : PySem.W.kitOne K (.ref C_InUse) (.ref C_InvalidKnots) = some false
  oo_InUse_InvalidAmounts : PySem.W.kitOne K (.ref C_InUse) (.ref C_InvalidAmounts) = some false
  oo_InUse_InvalidPlaces : PySem.W.kitOne K (.ref C_InUse) (.ref C_InvalidPlaces) = some false
  oo_InUse_InvalidHeights : PySem.W.kitOne K (.ref C_InUse) (.ref C_InvalidHeights) = some false
  oo_InUse_InvalidOffers : PySem.W.kitOne K (.ref C_InUse) (.ref C_InvalidOffers) = some false
  oo_InUse_NotKnown : PySem.W.kitOne K (.ref C_InUse) (.ref C_NotKnown) = some true
  oo_InUse_UnknownName : PySem.W.kitOne K (.ref C_InUse) (.ref C_UnknownName) = some false
  oo_InUse_InUse : PySem.W.kitOne K (.ref C_InUse) (.ref C_InUse) = some true
  oo_InUse_NothingToUndo : PySem.W.kitOne K (.ref C_InUse) (.ref C_NothingToUndo) = some false
  oo_InUse_NotPossible : PySem.W.kitOne K (.ref C_InUse) (.ref C_NotPossible) = some false
  oo_InUse_TooMany : PySem.W.kitOne K (.ref C_InUse) (.ref C_TooMany) = some false
  oo_InUse_NotOne : PySem.W.kitOne K (.ref C_InUse) (.ref C_NotOne) = some false
  oo_InUse_Broken : PySem.W.kitOne K (.ref C_InUse) (.ref C_Broken) = some false
  oo_UnknownName_NotRight : PySem.W.kitOne K (.ref C_UnknownName) (.ref C_NotRight) = some false
  oo_UnknownName_InvalidText : PySem.W.kitOne K (.ref C_UnknownName) (.ref C_InvalidText) = some false
  oo_UnknownName_InvalidNumber : PySem.W.kitOne K (.ref C_UnknownName) (.ref C_InvalidNumber) = some false
  oo_UnknownName_InvalidName : PySem.W.kitOne K (.ref C_UnknownName) (.ref C_InvalidName) = some false
  oo_UnknownName_InvalidIndex : PySem.W.kitOne K (.ref C_UnknownName) (.ref C_InvalidIndex) = some false
  oo_UnknownName_InvalidDegree : PySem.W.kitOne K (.ref C_UnknownName) (.ref C_InvalidDegree) = some false
  oo_UnknownName_InvalidKnot : PySem.W.kitOne K (.ref C_UnknownName) (.ref C_InvalidKnot) = some false
  oo_UnknownName_InvalidClaim : PySem.W.kitOne K (.ref C_UnknownName) (.ref C_InvalidClaim) = some false
  oo_UnknownName_InvalidCommand : PySem.W.kitOne K (.ref C_UnknownName) (.ref C_InvalidCommand) = some false
  oo_UnknownName_NotAFrame : PySem.W.kitOne K (.ref C_UnknownName) (.ref C_NotAFrame) = some false
  oo_UnknownName_NotACurve : PySem.W.kitOne K (.ref C_UnknownName) (.ref C_NotACurve) = some false
  oo_UnknownName_InvalidKnots : PySem.W.kitOne K (.ref C_UnknownName) (.ref C_InvalidKnots) = some false
  oo_UnknownName_InvalidAmounts : PySem.W.kitOne K (.ref C_UnknownName) (.ref C_InvalidAmounts) = some false
  oo_UnknownName_InvalidPlaces : PySem.W.kitOne K (.ref C_UnknownName) (.ref C_InvalidPlaces) = some false
  oo_UnknownName_InvalidHeights : PySem.W.kitOne K (.ref C_UnknownName) (.ref C_InvalidHeights) = some false
  oo_UnknownName_InvalidOffers : PySem.W.kitOne K (.ref C_UnknownName) (.ref C_InvalidOffers) = some false
  oo_UnknownName_NotKnown : PySem.W.kitOne K (.ref C_UnknownName) (.ref C_NotKnown) = some true
  oo_UnknownName_UnknownName : PySem.W.kitOne K (.ref C_UnknownName) (.ref C_UnknownName) = some true
  oo_UnknownName_InUse : PySem.W.kitOne K (.ref C_UnknownName) (.ref C_InUse) = some false
  oo_UnknownName_NothingToUndo : PySem.W.kitOne K (.ref C_UnknownName) (.ref C_NothingToUndo) = some false
  oo_UnknownName_NotPossible : PySem.W.kitOne K (.ref C_UnknownName) (.ref C_NotPossible) = some false
  oo_UnknownName_TooMany : PySem.W.kitOne K (.ref C_UnknownName) (.ref C_TooMany) = some false
  oo_UnknownName_NotOne : PySem.W.kitOne K (.ref C_UnknownName) (.ref C_NotOne) = some false
  oo_UnknownName_Broken : PySem.W.kitOne K (.ref C_UnknownName) (.ref C_Broken) = some false
  oo_InvalidOffers_NotRight : PySem.W.kitOne K (.ref C_InvalidOffers) (.ref C_NotRight) = some true
  oo_InvalidOffers_InvalidText : PySem.W.kitOne K (.ref C_InvalidOffers) (.ref C_InvalidText) = some false
  oo_InvalidOffers_InvalidNumber : PySem.W.kitOne K (.ref C_InvalidOffers) (.ref C_InvalidNumber) = some false
  oo_InvalidOffers_InvalidName : PySem.W.kitOne K (.ref C_InvalidOffers) (.ref C_InvalidName) = some false
  oo_InvalidOffers_InvalidIndex : PySem.W.kitOne K (.ref C_InvalidOffers) (.ref C_InvalidIndex) = some false
  oo_InvalidOffers_InvalidDegree : PySem.W.kitOne K (.ref C_InvalidOffers) (.ref C_InvalidDegree) = some false
  oo_InvalidOffers_InvalidKnot : PySem.W.kitOne K (.ref C_InvalidOffers) (.ref C_InvalidKnot) = some false
  oo_InvalidOffers_InvalidClaim : PySem.W.kitOne K (.ref C_InvalidOffers) (.ref C_InvalidClaim) = some false
  oo_InvalidOffers_InvalidCommand : PySem.W.kitOne K (.ref C_InvalidOffers) (.ref C_InvalidCommand) = some false
  oo_InvalidOffers_NotAFrame : PySem.W.kitOne K (.ref C_InvalidOffers) (.ref C_NotAFrame) = some false
  oo_InvalidOffers_NotACurve : PySem.W.kitOne K (.ref C_InvalidOffers) (.ref C_NotACurve) = some false
  oo_InvalidOffers_InvalidKnots : PySem.W.kitOne K (.ref C_InvalidOffers) (.ref C_InvalidKnots) = some false
  oo_InvalidOffers_InvalidAmounts : PySem.W.kitOne K (.ref C_InvalidOffers) (.ref C_InvalidAmounts) = some false
  oo_InvalidOffers_InvalidPlaces : PySem.W.kitOne K (.ref C_InvalidOffers) (.ref C_InvalidPlaces) = some false
  oo_InvalidOffers_InvalidHeights : PySem.W.kitOne K (.ref C_InvalidOffers) (.ref C_InvalidHeights) = some false
  oo_InvalidOffers_InvalidOffers : PySem.W.kitOne K (.ref C_InvalidOffers) (.ref C_InvalidOffers) = some true
  oo_InvalidOffers_NotKnown : PySem.W.kitOne K (.ref C_InvalidOffers) (.ref C_NotKnown) = some false
  oo_InvalidOffers_UnknownName : PySem.W.kitOne K (.ref C_InvalidOffers) (.ref C_UnknownName) = some false
  oo_InvalidOffers_InUse : PySem.W.kitOne K (.ref C_InvalidOffers) (.ref C_InUse) = some false
  oo_InvalidOffers_NothingToUndo : PySem.W.kitOne K (.ref C_InvalidOffers) (.ref C_NothingToUndo) = some false
  oo_InvalidOffers_NotPossible : PySem.W.kitOne K (.ref C_InvalidOffers) (.ref C_NotPossible) = some false
  oo_InvalidOffers_TooMany : PySem.W.kitOne K (.ref C_InvalidOffers) (.ref C_TooMany) = some false
  oo_InvalidOffers_NotOne : PySem.W.kitOne K (.ref C_InvalidOffers) (.ref C_NotOne) = some false
  oo_InvalidOffers_Broken : PySem.W.kitOne K (.ref C_InvalidOffers) (.ref C_Broken) = some false
  oo_InvalidHeights_NotRight : PySem.W.kitOne K (.ref C_InvalidHeights) (.ref C_NotRight) = some true
  oo_InvalidHeights_InvalidText : PySem.W.kitOne K (.ref C_InvalidHeights) (.ref C_InvalidText) = some false
  oo_InvalidHeights_InvalidNumber : PySem.W.kitOne K (.ref C_InvalidHeights) (.ref C_InvalidNumber) = some false
  oo_InvalidHeights_InvalidName : PySem.W.kitOne K (.ref C_InvalidHeights) (.ref C_InvalidName) = some false
  oo_InvalidHeights_InvalidIndex : PySem.W.kitOne K (.ref C_InvalidHeights) (.ref C_InvalidIndex) = some false
  oo_InvalidHeights_InvalidDegree : PySem.W.kitOne K (.ref C_InvalidHeights) (.ref C_InvalidDegree) = some false
  oo_InvalidHeights_InvalidKnot : PySem.W.kitOne K (.ref C_InvalidHeights) (.ref C_InvalidKnot) = some false
  oo_InvalidHeights_InvalidClaim : PySem.W.kitOne K (.ref C_InvalidHeights) (.ref C_InvalidClaim) = some false
  oo_InvalidHeights_InvalidCommand : PySem.W.kitOne K (.ref C_InvalidHeights) (.ref C_InvalidCommand) = some false
  oo_InvalidHeights_NotAFrame : PySem.W.kitOne K (.ref C_InvalidHeights) (.ref C_NotAFrame) = some false
  oo_InvalidHeights_NotACurve : PySem.W.kitOne K (.ref C_InvalidHeights) (.ref C_NotACurve) = some false
  oo_InvalidHeights_InvalidKnots : PySem.W.kitOne K (.ref C_InvalidHeights) (.ref C_InvalidKnots) = some false
  oo_InvalidHeights_InvalidAmounts : PySem.W.kitOne K (.ref C_InvalidHeights) (.ref C_InvalidAmounts) = some false
  oo_InvalidHeights_InvalidPlaces : PySem.W.kitOne K (.ref C_InvalidHeights) (.ref C_InvalidPlaces) = some false
  oo_InvalidHeights_InvalidHeights : PySem.W.kitOne K (.ref C_InvalidHeights) (.ref C_InvalidHeights) = some true
  oo_InvalidHeights_InvalidOffers : PySem.W.kitOne K (.ref C_InvalidHeights) (.ref C_InvalidOffers) = some false
  oo_InvalidHeights_NotKnown : PySem.W.kitOne K (.ref C_InvalidHeights) (.ref C_NotKnown) = some false
  oo_InvalidHeights_UnknownName : PySem.W.kitOne K (.ref C_InvalidHeights) (.ref C_UnknownName) = some false
  oo_InvalidHeights_InUse : PySem.W.kitOne K (.ref C_InvalidHeights) (.ref C_InUse) = some false
  oo_InvalidHeights_NothingToUndo : PySem.W.kitOne K (.ref C_InvalidHeights) (.ref C_NothingToUndo) = some false
  oo_InvalidHeights_NotPossible : PySem.W.kitOne K (.ref C_InvalidHeights) (.ref C_NotPossible) = some false
  oo_InvalidHeights_TooMany : PySem.W.kitOne K (.ref C_InvalidHeights) (.ref C_TooMany) = some false
  oo_InvalidHeights_NotOne : PySem.W.kitOne K (.ref C_InvalidHeights) (.ref C_NotOne) = some false
  oo_InvalidHeights_Broken : PySem.W.kitOne K (.ref C_InvalidHeights) (.ref C_Broken) = some false
  oo_InvalidPlaces_NotRight : PySem.W.kitOne K (.ref C_InvalidPlaces) (.ref C_NotRight) = some true
  oo_InvalidPlaces_InvalidText : PySem.W.kitOne K (.ref C_InvalidPlaces) (.ref C_InvalidText) = some false
  oo_InvalidPlaces_InvalidNumber : PySem.W.kitOne K (.ref C_InvalidPlaces) (.ref C_InvalidNumber) = some false
  oo_InvalidPlaces_InvalidName : PySem.W.kitOne K (.ref C_InvalidPlaces) (.ref C_InvalidName) = some false
  oo_InvalidPlaces_InvalidIndex : PySem.W.kitOne K (.ref C_InvalidPlaces) (.ref C_InvalidIndex) = some false
  oo_InvalidPlaces_InvalidDegree : PySem.W.kitOne K (.ref C_InvalidPlaces) (.ref C_InvalidDegree) = some false
  oo_InvalidPlaces_InvalidKnot : PySem.W.kitOne K (.ref C_InvalidPlaces) (.ref C_InvalidKnot) = some false
  oo_InvalidPlaces_InvalidClaim : PySem.W.kitOne K (.ref C_InvalidPlaces) (.ref C_InvalidClaim) = some false
  oo_InvalidPlaces_InvalidCommand : PySem.W.kitOne K (.ref C_InvalidPlaces) (.ref C_InvalidCommand) = some false
  oo_InvalidPlaces_NotAFrame : PySem.W.kitOne K (.ref C_InvalidPlaces) (.ref C_NotAFrame) = some false
  oo_InvalidPlaces_NotACurve : PySem.W.kitOne K (.ref C_InvalidPlaces) (.ref C_NotACurve) = some false
  oo_InvalidPlaces_InvalidKnots : PySem.W.kitOne K (.ref C_InvalidPlaces) (.ref C_InvalidKnots) = some false
  oo_InvalidPlaces_InvalidAmounts : PySem.W.kitOne K (.ref C_InvalidPlaces) (.ref C_InvalidAmounts) = some false
  oo_InvalidPlaces_InvalidPlaces : PySem.W.kitOne K (.ref C_InvalidPlaces) (.ref C_InvalidPlaces) = some true
  oo_InvalidPlaces_InvalidHeights : PySem.W.kitOne K (.ref C_InvalidPlaces) (.ref C_InvalidHeights) = some false
  oo_InvalidPlaces_InvalidOffers : PySem.W.kitOne K (.ref C_InvalidPlaces) (.ref C_InvalidOffers) = some false
  oo_InvalidPlaces_NotKnown : PySem.W.kitOne K (.ref C_InvalidPlaces) (.ref C_NotKnown) = some false
  oo_InvalidPlaces_UnknownName : PySem.W.kitOne K (.ref C_InvalidPlaces) (.ref C_UnknownName) = some false
  oo_InvalidPlaces_InUse : PySem.W.kitOne K (.ref C_InvalidPlaces) (.ref C_InUse) = some false
  oo_InvalidPlaces_NothingToUndo : PySem.W.kitOne K (.ref C_InvalidPlaces) (.ref C_NothingToUndo) = some false
  oo_InvalidPlaces_NotPossible : PySem.W.kitOne K (.ref C_InvalidPlaces) (.ref C_NotPossible) = some false
  oo_InvalidPlaces_TooMany : PySem.W.kitOne K (.ref C_InvalidPlaces) (.ref C_TooMany) = some false
  oo_InvalidPlaces_NotOne : PySem.W.kitOne K (.ref C_InvalidPlaces) (.ref C_NotOne) = some false
  oo_InvalidPlaces_Broken : PySem.W.kitOne K (.ref C_InvalidPlaces) (.ref C_Broken) = some false
  oo_InvalidAmounts_NotRight : PySem.W.kitOne K (.ref C_InvalidAmounts) (.ref C_NotRight) = some true
  oo_InvalidAmounts_InvalidText : PySem.W.kitOne K (.ref C_InvalidAmounts) (.ref C_InvalidText) = some false
  oo_InvalidAmounts_InvalidNumber : PySem.W.kitOne K (.ref C_InvalidAmounts) (.ref C_InvalidNumber) = some false
  oo_InvalidAmounts_InvalidName : PySem.W.kitOne K (.ref C_InvalidAmounts) (.ref C_InvalidName) = some false
  oo_InvalidAmounts_InvalidIndex : PySem.W.kitOne K (.ref C_InvalidAmounts) (.ref C_InvalidIndex) = some false
  oo_InvalidAmounts_InvalidDegree : PySem.W.kitOne K (.ref C_InvalidAmounts) (.ref C_InvalidDegree) = some false
  oo_InvalidAmounts_InvalidKnot : PySem.W.kitOne K (.ref C_InvalidAmounts) (.ref C_InvalidKnot) = some false
  oo_InvalidAmounts_InvalidClaim : PySem.W.kitOne K (.ref C_InvalidAmounts) (.ref C_InvalidClaim) = some false
  oo_InvalidAmounts_InvalidCommand : PySem.W.kitOne K (.ref C_InvalidAmounts) (.ref C_InvalidCommand) = some false
  oo_InvalidAmounts_NotAFrame : PySem.W.kitOne K (.ref C_InvalidAmounts) (.ref C_NotAFrame) = some false
  oo_InvalidAmounts_NotACurve : PySem.W.kitOne K (.ref C_InvalidAmounts) (.ref C_NotACurve) = some false
  oo_InvalidAmounts_InvalidKnots : PySem.W.kitOne K (.ref C_InvalidAmounts) (.ref C_InvalidKnots) = some false
  oo_InvalidAmounts_InvalidAmounts : PySem.W.kitOne K (.ref C_InvalidAmounts) (.ref C_InvalidAmounts) = some true
  oo_InvalidAmounts_InvalidPlaces : PySem.W.kitOne K (.ref C_InvalidAmounts) (.ref C_InvalidPlaces) = some false
  oo_InvalidAmounts_InvalidHeights : PySem.W.kitOne K (.ref C_InvalidAmounts) (.ref C_InvalidHeights) = some false
  oo_InvalidAmounts_InvalidOffers : PySem.W.kitOne K (.ref C_InvalidAmounts) (.ref C_InvalidOffers) = some false
  oo_InvalidAmounts_NotKnown : PySem.W.kitOne K (.ref C_InvalidAmounts) (.ref C_NotKnown) = some false
  oo_InvalidAmounts_UnknownName : PySem.W.kitOne K (.ref C_InvalidAmounts) (.ref C_UnknownName) = some false
  oo_InvalidAmounts_InUse : PySem.W.kitOne K (.ref C_InvalidAmounts) (.ref C_InUse) = some false
  oo_InvalidAmounts_NothingToUndo : PySem.W.kitOne K (.ref C_InvalidAmounts) (.ref C_NothingToUndo) = some false
  oo_InvalidAmounts_NotPossible : PySem.W.kitOne K (.ref C_InvalidAmounts) (.ref C_NotPossible) = some false
  oo_InvalidAmounts_TooMany : PySem.W.kitOne K (.ref C_InvalidAmounts) (.ref C_TooMany) = some false
  oo_InvalidAmounts_NotOne : PySem.W.kitOne K (.ref C_InvalidAmounts) (.ref C_NotOne) = some false
  oo_InvalidAmounts_Broken : PySem.W.kitOne K (.ref C_InvalidAmounts) (.ref C_Broken) = some false
  oo_InvalidKnots_NotRight : PySem.W.kitOne K (.ref C_InvalidKnots) (.ref C_NotRight) = some true
  oo_InvalidKnots_InvalidText : PySem.W.kitOne K (.ref C_InvalidKnots) (.ref C_InvalidText) = some false
  oo_InvalidKnots_InvalidNumber : PySem.W.kitOne K (.ref C_InvalidKnots) (.ref C_InvalidNumber) = some false
  oo_InvalidKnots_InvalidName : PySem.W.kitOne K (.ref C_InvalidKnots) (.ref C_InvalidName) = some false
  oo_InvalidKnots_InvalidIndex : PySem.W.kitOne K (.ref C_InvalidKnots) (.ref C_InvalidIndex) = some false
  oo_InvalidKnots_InvalidDegree : PySem.W.kitOne K (.ref C_InvalidKnots) (.ref C_InvalidDegree) = some false
  oo_InvalidKnots_InvalidKnot : PySem.W.kitOne K (.ref C_InvalidKnots) (.ref C_InvalidKnot) = some false
  oo_InvalidKnots_InvalidClaim : PySem.W.kitOne K (.ref C_InvalidKnots) (.ref C_InvalidClaim) = some false
  oo_InvalidKnots_InvalidCommand : PySem.W.kitOne K (.ref C_InvalidKnots) (.ref C_InvalidCommand) = some false
  oo_InvalidKnots_NotAFrame : PySem.W.kitOne K (.ref C_InvalidKnots) (.ref C_NotAFrame) = some false
  oo_InvalidKnots_NotACurve : PySem.W.kitOne K (.ref C_InvalidKnots) (.ref C_NotACurve) = some false
  oo_InvalidKnots_InvalidKnots : PySem.W.kitOne K (.ref C_InvalidKnots) (.ref C_InvalidKnots) = some true
  oo_InvalidKnots_InvalidAmounts : PySem.W.kitOne K (.ref C_InvalidKnots) (.ref C_InvalidAmounts) = some false
  oo_InvalidKnots_InvalidPlaces : PySem.W.kitOne K (.ref C_InvalidKnots) (.ref C_InvalidPlaces) = some false
  oo_InvalidKnots_InvalidHeights : PySem.W.kitOne K (.ref C_InvalidKnots) (.ref C_InvalidHeights) = some false
  oo_InvalidKnots_InvalidOffers : PySem.W.kitOne K (.ref C_InvalidKnots) (.ref C_InvalidOffers) = some false
  oo_InvalidKnots_NotKnown : PySem.W.kitOne K (.ref C_InvalidKnots) (.ref C_NotKnown) = some false
  oo_InvalidKnots_UnknownName : PySem.W.kitOne K (.ref C_InvalidKnots) (.ref C_UnknownName) = some false
  oo_InvalidKnots_InUse : PySem.W.kitOne K (.ref C_InvalidKnots) (.ref C_InUse) = some false
  oo_InvalidKnots_NothingToUndo : PySem.W.kitOne K (.ref C_InvalidKnots) (.ref C_NothingToUndo) = some false
  oo_InvalidKnots_NotPossible : PySem.W.kitOne K (.ref C_InvalidKnots) (.ref C_NotPossible) = some false
  oo_InvalidKnots_TooMany : PySem.W.kitOne K (.ref C_InvalidKnots) (.ref C_TooMany) = some false
  oo_InvalidKnots_NotOne : PySem.W.kitOne K (.ref C_InvalidKnots) (.ref C_NotOne) = some false
  oo_InvalidKnots_Broken : PySem.W.kitOne K (.ref C_InvalidKnots) (.ref C_Broken) = some false
  oo_NotACurve_NotRight : PySem.W.kitOne K (.ref C_NotACurve) (.ref C_NotRight) = some true
  oo_NotACurve_InvalidText : PySem.W.kitOne K (.ref C_NotACurve) (.ref C_InvalidText) = some false
  oo_NotACurve_InvalidNumber : PySem.W.kitOne K (.ref C_NotACurve) (.ref C_InvalidNumber) = some false
  oo_NotACurve_InvalidName : PySem.W.kitOne K (.ref C_NotACurve) (.ref C_InvalidName) = some false
  oo_NotACurve_InvalidIndex : PySem.W.kitOne K (.ref C_NotACurve) (.ref C_InvalidIndex) = some false
  oo_NotACurve_InvalidDegree : PySem.W.kitOne K (.ref C_NotACurve) (.ref C_InvalidDegree) = some false
  oo_NotACurve_InvalidKnot : PySem.W.kitOne K (.ref C_NotACurve) (.ref C_InvalidKnot) = some false
  oo_NotACurve_InvalidClaim : PySem.W.kitOne K (.ref C_NotACurve) (.ref C_InvalidClaim) = some false
  oo_NotACurve_InvalidCommand : PySem.W.kitOne K (.ref C_NotACurve) (.ref C_InvalidCommand) = some false
  oo_NotACurve_NotAFrame : PySem.W.kitOne K (.ref C_NotACurve) (.ref C_NotAFrame) = some false
  oo_NotACurve_NotACurve : PySem.W.kitOne K (.ref C_NotACurve) (.ref C_NotACurve) = some true
  oo_NotACurve_InvalidKnots : PySem.W.kitOne K (.ref C_NotACurve) (.ref C_InvalidKnots) = some false
  oo_NotACurve_InvalidAmounts : PySem.W.kitOne K (.ref C_NotACurve) (.ref C_InvalidAmounts) = some false
  oo_NotACurve_InvalidPlaces : PySem.W.kitOne K (.ref C_NotACurve) (.ref C_InvalidPlaces) = some false
  oo_NotACurve_InvalidHeights : PySem.W.kitOne K (.ref C_NotACurve) (.ref C_InvalidHeights) = some false
  oo_NotACurve_InvalidOffers : PySem.W.kitOne K (.ref C_NotACurve) (.ref C_InvalidOffers) = some false
  oo_NotACurve_NotKnown : PySem.W.kitOne K (.ref C_NotACurve) (.ref C_NotKnown) = some false
  oo_NotACurve_UnknownName : PySem.W.kitOne K (.ref C_NotACurve) (.ref C_UnknownName) = some false
  oo_NotACurve_InUse : PySem.W.kitOne K (.ref C_NotACurve) (.ref C_InUse) = some false
  oo_NotACurve_NothingToUndo : PySem.W.kitOne K (.ref C_NotACurve) (.ref C_NothingToUndo) = some false
  oo_NotACurve_NotPossible : PySem.W.kitOne K (.ref C_NotACurve) (.ref C_NotPossible) = some false
  oo_NotACurve_TooMany : PySem.W.kitOne K (.ref C_NotACurve) (.ref C_TooMany) = some false
  oo_NotACurve_NotOne : PySem.W.kitOne K (.ref C_NotACurve) (.ref C_NotOne) = some false
  oo_NotACurve_Broken : PySem.W.kitOne K (.ref C_NotACurve) (.ref C_Broken) = some false
  oo_NotAFrame_NotRight : PySem.W.kitOne K (.ref C_NotAFrame) (.ref C_NotRight) = some true
  oo_NotAFrame_InvalidText : PySem.W.kitOne K (.ref C_NotAFrame) (.ref C_InvalidText) = some false
  oo_NotAFrame_InvalidNumber : PySem.W.kitOne K (.ref C_NotAFrame) (.ref C_InvalidNumber) = some false
  oo_NotAFrame_InvalidName : PySem.W.kitOne K (.ref C_NotAFrame) (.ref C_InvalidName) = some false
  oo_NotAFrame_InvalidIndex : PySem.W.kitOne K (.ref C_NotAFrame) (.ref C_InvalidIndex) = some false
  oo_NotAFrame_InvalidDegree : PySem.W.kitOne K (.ref C_NotAFrame) (.ref C_InvalidDegree) = some false
  oo_NotAFrame_InvalidKnot : PySem.W.kitOne K (.ref C_NotAFrame) (.ref C_InvalidKnot) = some false
  oo_NotAFrame_InvalidClaim : PySem.W.kitOne K (.ref C_NotAFrame) (.ref C_InvalidClaim) = some false
  oo_NotAFrame_InvalidCommand : PySem.W.kitOne K (.ref C_NotAFrame) (.ref C_InvalidCommand) = some false
  oo_NotAFrame_NotAFrame : PySem.W.kitOne K (.ref C_NotAFrame) (.ref C_NotAFrame) = some true
  oo_NotAFrame_NotACurve : PySem.W.kitOne K (.ref C_NotAFrame) (.ref C_NotACurve) = some false
  oo_NotAFrame_InvalidKnots : PySem.W.kitOne K (.ref C_NotAFrame) (.ref C_InvalidKnots) = some false
  oo_NotAFrame_InvalidAmounts : PySem.W.kitOne K (.ref C_NotAFrame) (.ref C_InvalidAmounts) = some false
  oo_NotAFrame_InvalidPlaces : PySem.W.kitOne K (.ref C_NotAFrame) (.ref C_InvalidPlaces) = some false
  oo_NotAFrame_InvalidHeights : PySem.W.kitOne K (.ref C_NotAFrame) (.ref C_InvalidHeights) = some false
  oo_NotAFrame_InvalidOffers : PySem.W.kitOne K (.ref C_NotAFrame) (.ref C_InvalidOffers) = some false
  oo_NotAFrame_NotKnown : PySem.W.kitOne K (.ref C_NotAFrame) (.ref C_NotKnown) = some false
  oo_NotAFrame_UnknownName : PySem.W.kitOne K (.ref C_NotAFrame) (.ref C_UnknownName) = some false
  oo_NotAFrame_InUse : PySem.W.kitOne K (.ref C_NotAFrame) (.ref C_InUse) = some false
  oo_NotAFrame_NothingToUndo : PySem.W.kitOne K (.ref C_NotAFrame) (.ref C_NothingToUndo) = some false
  oo_NotAFrame_NotPossible : PySem.W.kitOne K (.ref C_NotAFrame) (.ref C_NotPossible) = some false
  oo_NotAFrame_TooMany : PySem.W.kitOne K (.ref C_NotAFrame) (.ref C_TooMany) = some false
  oo_NotAFrame_NotOne : PySem.W.kitOne K (.ref C_NotAFrame) (.ref C_NotOne) = some false
  oo_NotAFrame_Broken : PySem.W.kitOne K (.ref C_NotAFrame) (.ref C_Broken) = some false
  oo_InvalidCommand_NotRight : PySem.W.kitOne K (.ref C_InvalidCommand) (.ref C_NotRight) = some true
  oo_InvalidCommand_InvalidText : PySem.W.kitOne K (.ref C_InvalidCommand) (.ref C_InvalidText) = some false
  oo_InvalidCommand_InvalidNumber : PySem.W.kitOne K (.ref C_InvalidCommand) (.ref C_InvalidNumber) = some false
  oo_InvalidCommand_InvalidName : PySem.W.kitOne K (.ref C_InvalidCommand) (.ref C_InvalidName) = some false
  oo_InvalidCommand_InvalidIndex : PySem.W.kitOne K (.ref C_InvalidCommand) (.ref C_InvalidIndex) = some false
  oo_InvalidCommand_InvalidDegree : PySem.W.kitOne K (.ref C_InvalidCommand) (.ref C_InvalidDegree) = some false
  oo_InvalidCommand_InvalidKnot : PySem.W.kitOne K (.ref C_InvalidCommand) (.ref C_InvalidKnot) = some false
  oo_InvalidCommand_InvalidClaim : PySem.W.kitOne K (.ref C_InvalidCommand) (.ref C_InvalidClaim) = some false
  oo_InvalidCommand_InvalidCommand : PySem.W.kitOne K (.ref C_InvalidCommand) (.ref C_InvalidCommand) = some true
  oo_InvalidCommand_NotAFrame : PySem.W.kitOne K (.ref C_InvalidCommand) (.ref C_NotAFrame) = some false
  oo_InvalidCommand_NotACurve : PySem.W.kitOne K (.ref C_InvalidCommand) (.ref C_NotACurve) = some false
  oo_InvalidCommand_InvalidKnots : PySem.W.kitOne K (.ref C_InvalidCommand) (.ref C_InvalidKnots) = some false
  oo_InvalidCommand_InvalidAmounts : PySem.W.kitOne K (.ref C_InvalidCommand) (.ref C_InvalidAmounts) = some false
  oo_InvalidCommand_InvalidPlaces : PySem.W.kitOne K (.ref C_InvalidCommand) (.ref C_InvalidPlaces) = some false
  oo_InvalidCommand_InvalidHeights : PySem.W.kitOne K (.ref C_InvalidCommand) (.ref C_InvalidHeights) = some false
  oo_InvalidCommand_InvalidOffers : PySem.W.kitOne K (.ref C_InvalidCommand) (.ref C_InvalidOffers) = some false
  oo_InvalidCommand_NotKnown : PySem.W.kitOne K (.ref C_InvalidCommand) (.ref C_NotKnown) = some false
  oo_InvalidCommand_UnknownName : PySem.W.kitOne K (.ref C_InvalidCommand) (.ref C_UnknownName) = some false
  oo_InvalidCommand_InUse : PySem.W.kitOne K (.ref C_InvalidCommand) (.ref C_InUse) = some false
  oo_InvalidCommand_NothingToUndo : PySem.W.kitOne K (.ref C_InvalidCommand) (.ref C_NothingToUndo) = some false
  oo_InvalidCommand_NotPossible : PySem.W.kitOne K (.ref C_InvalidCommand) (.ref C_NotPossible) = some false
  oo_InvalidCommand_TooMany : PySem.W.kitOne K (.ref C_InvalidCommand) (.ref C_TooMany) = some false
  oo_InvalidCommand_NotOne : PySem.W.kitOne K (.ref C_InvalidCommand) (.ref C_NotOne) = some false
  oo_InvalidCommand_Broken : PySem.W.kitOne K (.ref C_InvalidCommand) (.ref C_Broken) = some false
  oo_InvalidClaim_NotRight : PySem.W.kitOne K (.ref C_InvalidClaim) (.ref C_NotRight) = some true
  oo_InvalidClaim_InvalidText : PySem.W.kitOne K (.ref C_InvalidClaim) (.ref C_InvalidText) = some false
  oo_InvalidClaim_InvalidNumber : PySem.W.kitOne K (.ref C_InvalidClaim) (.ref C_InvalidNumber) = some false
  oo_InvalidClaim_InvalidName : PySem.W.kitOne K (.ref C_InvalidClaim) (.ref C_InvalidName) = some false
  oo_InvalidClaim_InvalidIndex : PySem.W.kitOne K (.ref C_InvalidClaim) (.ref C_InvalidIndex) = some false
  oo_InvalidClaim_InvalidDegree : PySem.W.kitOne K (.ref C_InvalidClaim) (.ref C_InvalidDegree) = some false
  oo_InvalidClaim_InvalidKnot : PySem.W.kitOne K (.ref C_InvalidClaim) (.ref C_InvalidKnot) = some false
  oo_InvalidClaim_InvalidClaim : PySem.W.kitOne K (.ref C_InvalidClaim) (.ref C_InvalidClaim) = some true
  oo_InvalidClaim_InvalidCommand : PySem.W.kitOne K (.ref C_InvalidClaim) (.ref C_InvalidCommand) = some false
  oo_InvalidClaim_NotAFrame : PySem.W.kitOne K (.ref C_InvalidClaim) (.ref C_NotAFrame) = some false
  oo_InvalidClaim_NotACurve : PySem.W.kitOne K (.ref C_InvalidClaim) (.ref C_NotACurve) = some false
  oo_InvalidClaim_InvalidKnots : PySem.W.kitOne K (.ref C_InvalidClaim) (.ref C_InvalidKnots) = some false
  oo_InvalidClaim_InvalidAmounts : PySem.W.kitOne K (.ref C_InvalidClaim) (.ref C_InvalidAmounts) = some false
  oo_InvalidClaim_InvalidPlaces : PySem.W.kitOne K (.ref C_InvalidClaim) (.ref C_InvalidPlaces) = some false
  oo_InvalidClaim_InvalidHeights : PySem.W.kitOne K (.ref C_InvalidClaim) (.ref C_InvalidHeights) = some false
  oo_InvalidClaim_InvalidOffers : PySem.W.kitOne K (.ref C_InvalidClaim) (.ref C_InvalidOffers) = some false
  oo_InvalidClaim_NotKnown : PySem.W.kitOne K (.ref C_InvalidClaim) (.ref C_NotKnown) = some false
  oo_InvalidClaim_UnknownName : PySem.W.kitOne K (.ref C_InvalidClaim) (.ref C_UnknownName) = some false
  oo_InvalidClaim_InUse : PySem.W.kitOne K (.ref C_InvalidClaim) (.ref C_InUse) = some false
  oo_InvalidClaim_NothingToUndo : PySem.W.kitOne K (.ref C_InvalidClaim) (.ref C_NothingToUndo) = some false
  oo_InvalidClaim_NotPossible : PySem.W.kitOne K (.ref C_InvalidClaim) (.ref C_NotPossible) = some false
  oo_InvalidClaim_TooMany : PySem.W.kitOne K (.ref C_InvalidClaim) (.ref C_TooMany) = some false
  oo_InvalidClaim_NotOne : PySem.W.kitOne K (.ref C_InvalidClaim) (.ref C_NotOne) = some false
  oo_InvalidClaim_Broken : PySem.W.kitOne K (.ref C_InvalidClaim) (.ref C_Broken) = some false
  oo_InvalidKnot_NotRight : PySem.W.kitOne K (.ref C_InvalidKnot) (.ref C_NotRight) = some true
  oo_InvalidKnot_InvalidText : PySem.W.kitOne K (.ref C_InvalidKnot) (.ref C_InvalidText) = some false
  oo_InvalidKnot_InvalidNumber : PySem.W.kitOne K (.ref C_InvalidKnot) (.ref C_InvalidNumber) = some false
  oo_InvalidKnot_InvalidName : PySem.W.kitOne K (.ref C_InvalidKnot) (.ref C_InvalidName) = some false
  oo_InvalidKnot_InvalidIndex : PySem.W.kitOne K (.ref C_InvalidKnot) (.ref C_InvalidIndex) = some false
  oo_InvalidKnot_InvalidDegree : PySem.W.kitOne K (.ref C_InvalidKnot) (.ref C_InvalidDegree) = some false
  oo_InvalidKnot_InvalidKnot : PySem.W.kitOne K (.ref C_InvalidKnot) (.ref C_InvalidKnot) = some true
  oo_InvalidKnot_InvalidClaim : PySem.W.kitOne K (.ref C_InvalidKnot) (.ref C_InvalidClaim) = some false
  oo_InvalidKnot_InvalidCommand : PySem.W.kitOne K (.ref C_InvalidKnot) (.ref C_InvalidCommand) = some false
  oo_InvalidKnot_NotAFrame : PySem.W.kitOne K (.ref C_InvalidKnot) (.ref C_NotAFrame) = some false
  oo_InvalidKnot_NotACurve : PySem.W.kitOne K (.ref C_InvalidKnot) (.ref C_NotACurve) = some false
  oo_InvalidKnot_InvalidKnots : PySem.W.kitOne K (.ref C_InvalidKnot) (.ref C_InvalidKnots) = some false
  oo_InvalidKnot_InvalidAmounts : PySem.W.kitOne K (.ref C_InvalidKnot) (.ref C_InvalidAmounts) = some false
  oo_InvalidKnot_InvalidPlaces : PySem.W.kitOne K (.ref C_InvalidKnot) (.ref C_InvalidPlaces) = some false
  oo_InvalidKnot_InvalidHeights : PySem.W.kitOne K (.ref C_InvalidKnot) (.ref C_InvalidHeights) = some false
  oo_InvalidKnot_InvalidOffers : PySem.W.kitOne K (.ref C_InvalidKnot) (.ref C_InvalidOffers) = some false
  oo_InvalidKnot_NotKnown : PySem.W.kitOne K (.ref C_InvalidKnot) (.ref C_NotKnown) = some false
  oo_InvalidKnot_UnknownName : PySem.W.kitOne K (.ref C_InvalidKnot) (.ref C_UnknownName) = some false
  oo_InvalidKnot_InUse : PySem.W.kitOne K (.ref C_InvalidKnot) (.ref C_InUse) = some false
  oo_InvalidKnot_NothingToUndo : PySem.W.kitOne K (.ref C_InvalidKnot) (.ref C_NothingToUndo) = some false
  oo_InvalidKnot_NotPossible : PySem.W.kitOne K (.ref C_InvalidKnot) (.ref C_NotPossible) = some false
  oo_InvalidKnot_TooMany : PySem.W.kitOne K (.ref C_InvalidKnot) (.ref C_TooMany) = some false
  oo_InvalidKnot_NotOne : PySem.W.kitOne K (.ref C_InvalidKnot) (.ref C_NotOne) = some false
  oo_InvalidKnot_Broken : PySem.W.kitOne K (.ref C_InvalidKnot) (.ref C_Broken) = some false
  oo_InvalidDegree_NotRight : PySem.W.kitOne K (.ref C_InvalidDegree) (.ref C_NotRight) = some true
  oo_InvalidDegree_InvalidText : PySem.W.kitOne K (.ref C_InvalidDegree) (.ref C_InvalidText) = some false
  oo_InvalidDegree_InvalidNumber : PySem.W.kitOne K (.ref C_InvalidDegree) (.ref C_InvalidNumber) = some false
  oo_InvalidDegree_InvalidName : PySem.W.kitOne K (.ref C_InvalidDegree) (.ref C_InvalidName) = some false
  oo_InvalidDegree_InvalidIndex : PySem.W.kitOne K (.ref C_InvalidDegree) (.ref C_InvalidIndex) = some false
  oo_InvalidDegree_InvalidDegree : PySem.W.kitOne K (.ref C_InvalidDegree) (.ref C_InvalidDegree) = some true
  oo_InvalidDegree_InvalidKnot : PySem.W.kitOne K (.ref C_InvalidDegree) (.ref C_InvalidKnot) = some false
  oo_InvalidDegree_InvalidClaim : PySem.W.kitOne K (.ref C_InvalidDegree) (.ref C_InvalidClaim) = some false
  oo_InvalidDegree_InvalidCommand : PySem.W.kitOne K (.ref C_InvalidDegree) (.ref C_InvalidCommand) = some false
  oo_InvalidDegree_NotAFrame : PySem.W.kitOne K (.ref C_InvalidDegree) (.ref C_NotAFrame) = some false
  oo_InvalidDegree_NotACurve : PySem.W.kitOne K (.ref C_InvalidDegree) (.ref C_NotACurve) = some false
  oo_InvalidDegree_InvalidKnots : PySem.W.kitOne K (.ref C_InvalidDegree) (.ref C_InvalidKnots) = some false
  oo_InvalidDegree_InvalidAmounts : PySem.W.kitOne K (.ref C_InvalidDegree) (.ref C_InvalidAmounts) = some false
  oo_InvalidDegree_InvalidPlaces : PySem.W.kitOne K (.ref C_InvalidDegree) (.ref C_InvalidPlaces) = some false
  oo_InvalidDegree_InvalidHeights : PySem.W.kitOne K (.ref C_InvalidDegree) (.ref C_InvalidHeights) = some false
  oo_InvalidDegree_InvalidOffers : PySem.W.kitOne K (.ref C_InvalidDegree) (.ref C_InvalidOffers) = some false
  oo_InvalidDegree_NotKnown : PySem.W.kitOne K (.ref C_InvalidDegree) (.ref C_NotKnown) = some false
  oo_InvalidDegree_UnknownName : PySem.W.kitOne K (.ref C_InvalidDegree) (.ref C_UnknownName) = some false
  oo_InvalidDegree_InUse : PySem.W.kitOne K (.ref C_InvalidDegree) (.ref C_InUse) = some false
  oo_InvalidDegree_NothingToUndo : PySem.W.kitOne K (.ref C_InvalidDegree) (.ref C_NothingToUndo) = some false
  oo_InvalidDegree_NotPossible : PySem.W.kitOne K (.ref C_InvalidDegree) (.ref C_NotPossible) = some false
  oo_InvalidDegree_TooMany : PySem.W.kitOne K (.ref C_InvalidDegree) (.ref C_TooMany) = some false
  oo_InvalidDegree_NotOne : PySem.W.kitOne K (.ref C_InvalidDegree) (.ref C_NotOne) = some false
  oo_InvalidDegree_Broken : PySem.W.kitOne K (.ref C_InvalidDegree) (.ref C_Broken) = some false
  oo_InvalidIndex_NotRight : PySem.W.kitOne K (.ref C_InvalidIndex) (.ref C_NotRight) = some true
  oo_InvalidIndex_InvalidText : PySem.W.kitOne K (.ref C_InvalidIndex) (.ref C_InvalidText) = some false
  oo_InvalidIndex_InvalidNumber : PySem.W.kitOne K (.ref C_InvalidIndex) (.ref C_InvalidNumber) = some false
  oo_InvalidIndex_InvalidName : PySem.W.kitOne K (.ref C_InvalidIndex) (.ref C_InvalidName) = some false
  oo_InvalidIndex_InvalidIndex : PySem.W.kitOne K (.ref C_InvalidIndex) (.ref C_InvalidIndex) = some true
  oo_InvalidIndex_InvalidDegree : PySem.W.kitOne K (.ref C_InvalidIndex) (.ref C_InvalidDegree) = some false
  oo_InvalidIndex_InvalidKnot : PySem.W.kitOne K (.ref C_InvalidIndex) (.ref C_InvalidKnot) = some false
  oo_InvalidIndex_InvalidClaim : PySem.W.kitOne K (.ref C_InvalidIndex) (.ref C_InvalidClaim) = some false
  oo_InvalidIndex_InvalidCommand : PySem.W.kitOne K (.ref C_InvalidIndex) (.ref C_InvalidCommand) = some false
  oo_InvalidIndex_NotAFrame : PySem.W.kitOne K (.ref C_InvalidIndex) (.ref C_NotAFrame) = some false
  oo_InvalidIndex_NotACurve : PySem.W.kitOne K (.ref C_InvalidIndex) (.ref C_NotACurve) = some false
  oo_InvalidIndex_InvalidKnots : PySem.W.kitOne K (.ref C_InvalidIndex) (.ref C_InvalidKnots) = some false
  oo_InvalidIndex_InvalidAmounts : PySem.W.kitOne K (.ref C_InvalidIndex) (.ref C_InvalidAmounts) = some false
  oo_InvalidIndex_InvalidPlaces : PySem.W.kitOne K (.ref C_InvalidIndex) (.ref C_InvalidPlaces) = some false
  oo_InvalidIndex_InvalidHeights : PySem.W.kitOne K (.ref C_InvalidIndex) (.ref C_InvalidHeights) = some false
  oo_InvalidIndex_InvalidOffers : PySem.W.kitOne K (.ref C_InvalidIndex) (.ref C_InvalidOffers) = some false
  oo_InvalidIndex_NotKnown : PySem.W.kitOne K (.ref C_InvalidIndex) (.ref C_NotKnown) = some false
  oo_InvalidIndex_UnknownName : PySem.W.kitOne K (.ref C_InvalidIndex) (.ref C_UnknownName) = some false
  oo_InvalidIndex_InUse : PySem.W.kitOne K (.ref C_InvalidIndex) (.ref C_InUse) = some false
  oo_InvalidIndex_NothingToUndo : PySem.W.kitOne K (.ref C_InvalidIndex) (.ref C_NothingToUndo) = some false
  oo_InvalidIndex_NotPossible : PySem.W.kitOne K (.ref C_InvalidIndex) (.ref C_NotPossible) = some false
  oo_InvalidIndex_TooMany : PySem.W.kitOne K (.ref C_InvalidIndex) (.ref C_TooMany) = some false
  oo_InvalidIndex_NotOne : PySem.W.kitOne K (.ref C_InvalidIndex) (.ref C_NotOne) = some false
  oo_InvalidIndex_Broken : PySem.W.kitOne K (.ref C_InvalidIndex) (.ref C_Broken) = some false
  oo_InvalidName_NotRight : PySem.W.kitOne K (.ref C_InvalidName) (.ref C_NotRight) = some true
  oo_InvalidName_InvalidText : PySem.W.kitOne K (.ref C_InvalidName) (.ref C_InvalidText) = some false
  oo_InvalidName_InvalidNumber : PySem.W.kitOne K (.ref C_InvalidName) (.ref C_InvalidNumber) = some false
  oo_InvalidName_InvalidName : PySem.W.kitOne K (.ref C_InvalidName) (.ref C_InvalidName) = some true
  oo_InvalidName_InvalidIndex : PySem.W.kitOne K (.ref C_InvalidName) (.ref C_InvalidIndex) = some false
  oo_InvalidName_InvalidDegree : PySem.W.kitOne K (.ref C_InvalidName) (.ref C_InvalidDegree) = some false
  oo_InvalidName_InvalidKnot : PySem.W.kitOne K (.ref C_InvalidName) (.ref C_InvalidKnot) = some false
  oo_InvalidName_InvalidClaim : PySem.W.kitOne K (.ref C_InvalidName) (.ref C_InvalidClaim) = some false
  oo_InvalidName_InvalidCommand : PySem.W.kitOne K (.ref C_InvalidName) (.ref C_InvalidCommand) = some false
  oo_InvalidName_NotAFrame : PySem.W.kitOne K (.ref C_InvalidName) (.ref C_NotAFrame) = some false
  oo_InvalidName_NotACurve : PySem.W.kitOne K (.ref C_InvalidName) (.ref C_NotACurve) = some false
  oo_InvalidName_InvalidKnots : PySem.W.kitOne K (.ref C_InvalidName) (.ref C_InvalidKnots) = some false
  oo_InvalidName_InvalidAmounts : PySem.W.kitOne K (.ref C_InvalidName) (.ref C_InvalidAmounts) = some false
  oo_InvalidName_InvalidPlaces : PySem.W.kitOne K (.ref C_InvalidName) (.ref C_InvalidPlaces) = some false
  oo_InvalidName_InvalidHeights : PySem.W.kitOne K (.ref C_InvalidName) (.ref C_InvalidHeights) = some false
  oo_InvalidName_InvalidOffers : PySem.W.kitOne K (.ref C_InvalidName) (.ref C_InvalidOffers) = some false
  oo_InvalidName_NotKnown : PySem.W.kitOne K (.ref C_InvalidName) (.ref C_NotKnown) = some false
  oo_InvalidName_UnknownName : PySem.W.kitOne K (.ref C_InvalidName) (.ref C_UnknownName) = some false
  oo_InvalidName_InUse : PySem.W.kitOne K (.ref C_InvalidName) (.ref C_InUse) = some false
  oo_InvalidName_NothingToUndo : PySem.W.kitOne K (.ref C_InvalidName) (.ref C_NothingToUndo) = some false
  oo_InvalidName_NotPossible : PySem.W.kitOne K (.ref C_InvalidName) (.ref C_NotPossible) = some false
  oo_InvalidName_TooMany : PySem.W.kitOne K (.ref C_InvalidName) (.ref C_TooMany) = some false
  oo_InvalidName_NotOne : PySem.W.kitOne K (.ref C_InvalidName) (.ref C_NotOne) = some false
  oo_InvalidName_Broken : PySem.W.kitOne K (.ref C_InvalidName) (.ref C_Broken) = some false
  oo_InvalidNumber_NotRight : PySem.W.kitOne K (.ref C_InvalidNumber) (.ref C_NotRight) = some true
  oo_InvalidNumber_InvalidText : PySem.W.kitOne K (.ref C_InvalidNumber) (.ref C_InvalidText) = some false
  oo_InvalidNumber_InvalidNumber : PySem.W.kitOne K (.ref C_InvalidNumber) (.ref C_InvalidNumber) = some true
  oo_InvalidNumber_InvalidName : PySem.W.kitOne K (.ref C_InvalidNumber) (.ref C_InvalidName) = some false
  oo_InvalidNumber_InvalidIndex : PySem.W.kitOne K (.ref C_InvalidNumber) (.ref C_InvalidIndex) = some false
  oo_InvalidNumber_InvalidDegree : PySem.W.kitOne K (.ref C_InvalidNumber) (.ref C_InvalidDegree) = some false
  oo_InvalidNumber_InvalidKnot : PySem.W.kitOne K (.ref C_InvalidNumber) (.ref C_InvalidKnot) = some false
  oo_InvalidNumber_InvalidClaim : PySem.W.kitOne K (.ref C_InvalidNumber) (.ref C_InvalidClaim) = some false
  oo_InvalidNumber_InvalidCommand : PySem.W.kitOne K (.ref C_InvalidNumber) (.ref C_InvalidCommand) = some false
  oo_InvalidNumber_NotAFrame : PySem.W.kitOne K (.ref C_InvalidNumber) (.ref C_NotAFrame) = some false
  oo_InvalidNumber_NotACurve : PySem.W.kitOne K (.ref C_InvalidNumber) (.ref C_NotACurve) = some false
  oo_InvalidNumber_InvalidKnots : PySem.W.kitOne K (.ref C_InvalidNumber) (.ref C_InvalidKnots) = some false
  oo_InvalidNumber_InvalidAmounts : PySem.W.kitOne K (.ref C_InvalidNumber) (.ref C_InvalidAmounts) = some false
  oo_InvalidNumber_InvalidPlaces : PySem.W.kitOne K (.ref C_InvalidNumber) (.ref C_InvalidPlaces) = some false
  oo_InvalidNumber_InvalidHeights : PySem.W.kitOne K (.ref C_InvalidNumber) (.ref C_InvalidHeights) = some false
  oo_InvalidNumber_InvalidOffers : PySem.W.kitOne K (.ref C_InvalidNumber) (.ref C_InvalidOffers) = some false
  oo_InvalidNumber_NotKnown : PySem.W.kitOne K (.ref C_InvalidNumber) (.ref C_NotKnown) = some false
  oo_InvalidNumber_UnknownName : PySem.W.kitOne K (.ref C_InvalidNumber) (.ref C_UnknownName) = some false
  oo_InvalidNumber_InUse : PySem.W.kitOne K (.ref C_InvalidNumber) (.ref C_InUse) = some false
  oo_InvalidNumber_NothingToUndo : PySem.W.kitOne K (.ref C_InvalidNumber) (.ref C_NothingToUndo) = some false
  oo_InvalidNumber_NotPossible : PySem.W.kitOne K (.ref C_InvalidNumber) (.ref C_NotPossible) = some false
  oo_InvalidNumber_TooMany : PySem.W.kitOne K (.ref C_InvalidNumber) (.ref C_TooMany) = some false
  oo_InvalidNumber_NotOne : PySem.W.kitOne K (.ref C_InvalidNumber) (.ref C_NotOne) = some false
  oo_InvalidNumber_Broken : PySem.W.kitOne K (.ref C_InvalidNumber) (.ref C_Broken) = some false
  oo_InvalidText_NotRight : PySem.W.kitOne K (.ref C_InvalidText) (.ref C_NotRight) = some true
  oo_InvalidText_InvalidText : PySem.W.kitOne K (.ref C_InvalidText) (.ref C_InvalidText) = some true
  oo_InvalidText_InvalidNumber : PySem.W.kitOne K (.ref C_InvalidText) (.ref C_InvalidNumber) = some false
  oo_InvalidText_InvalidName : PySem.W.kitOne K (.ref C_InvalidText) (.ref C_InvalidName) = some false
  oo_InvalidText_InvalidIndex : PySem.W.kitOne K (.ref C_InvalidText) (.ref C_InvalidIndex) = some false
  oo_InvalidText_InvalidDegree : PySem.W.kitOne K (.ref C_InvalidText) (.ref C_InvalidDegree) = some false
  oo_InvalidText_InvalidKnot : PySem.W.kitOne K (.ref C_InvalidText) (.ref C_InvalidKnot) = some false
  oo_InvalidText_InvalidClaim : PySem.W.kitOne K (.ref C_InvalidText) (.ref C_InvalidClaim) = some false
  oo_InvalidText_InvalidCommand : PySem.W.kitOne K (.ref C_InvalidText) (.ref C_InvalidCommand) = some false
  oo_InvalidText_NotAFrame : PySem.W.kitOne K (.ref C_InvalidText) (.ref C_NotAFrame) = some false
  oo_InvalidText_NotACurve : PySem.W.kitOne K (.ref C_InvalidText) (.ref C_NotACurve) = some false
  oo_InvalidText_InvalidKnots : PySem.W.kitOne K (.ref C_InvalidText) (.ref C_InvalidKnots) = some false
  oo_InvalidText_InvalidAmounts : PySem.W.kitOne K (.ref C_InvalidText) (.ref C_InvalidAmounts) = some false
  oo_InvalidText_InvalidPlaces : PySem.W.kitOne K (.ref C_InvalidText) (.ref C_InvalidPlaces) = some false
  oo_InvalidText_InvalidHeights : PySem.W.kitOne K (.ref C_InvalidText) (.ref C_InvalidHeights) = some false
  oo_InvalidText_InvalidOffers : PySem.W.kitOne K (.ref C_InvalidText) (.ref C_InvalidOffers) = some false
  oo_InvalidText_NotKnown : PySem.W.kitOne K (.ref C_InvalidText) (.ref C_NotKnown) = some false
  oo_InvalidText_UnknownName : PySem.W.kitOne K (.ref C_InvalidText) (.ref C_UnknownName) = some false
  oo_InvalidText_InUse : PySem.W.kitOne K (.ref C_InvalidText) (.ref C_InUse) = some false
  oo_InvalidText_NothingToUndo : PySem.W.kitOne K (.ref C_InvalidText) (.ref C_NothingToUndo) = some false
  oo_InvalidText_NotPossible : PySem.W.kitOne K (.ref C_InvalidText) (.ref C_NotPossible) = some false
  oo_InvalidText_TooMany : PySem.W.kitOne K (.ref C_InvalidText) (.ref C_TooMany) = some false
  oo_InvalidText_NotOne : PySem.W.kitOne K (.ref C_InvalidText) (.ref C_NotOne) = some false
  oo_InvalidText_Broken : PySem.W.kitOne K (.ref C_InvalidText) (.ref C_Broken) = some false
  ob_Broken_ValueError : PySem.W.kitOne K (.ref C_Broken) (.type "ValueError") = some false
  ob_Broken_LookupError : PySem.W.kitOne K (.ref C_Broken) (.type "LookupError") = some false
  ob_Broken_ArithmeticError : PySem.W.kitOne K (.ref C_Broken) (.type "ArithmeticError") = some true
  ob_NotOne_ValueError : PySem.W.kitOne K (.ref C_NotOne) (.type "ValueError") = some false
  ob_NotOne_LookupError : PySem.W.kitOne K (.ref C_NotOne) (.type "LookupError") = some false
  ob_NotOne_ArithmeticError : PySem.W.kitOne K (.ref C_NotOne) (.type "ArithmeticError") = some true
  ob_TooMany_ValueError : PySem.W.kitOne K (.ref C_TooMany) (.type "ValueError") = some false
  ob_TooMany_LookupError : PySem.W.kitOne K (.ref C_TooMany) (.type "LookupError") = some false
  ob_TooMany_ArithmeticError : PySem.W.kitOne K (.ref C_TooMany) (.type "ArithmeticError") = some true
  ob_NothingToUndo_ValueError : PySem.W.kitOne K (.ref C_NothingToUndo) (.type "ValueError") = some false
  ob_NothingToUndo_LookupError : PySem.W.kitOne K (.ref C_NothingToUndo) (.type "LookupError") = some true
  ob_NothingToUndo_ArithmeticError : PySem.W.kitOne K (.ref C_NothingToUndo) (.type "ArithmeticError") = some false
  ob_InUse_ValueError : PySem.W.kitOne K (.ref C_InUse) (.type "ValueError") = some false
  ob_InUse_LookupError : PySem.W.kitOne K (.ref C_InUse) (.type "LookupError") = some true
  ob_InUse_ArithmeticError : PySem.W.kitOne K (.ref C_InUse) (.type "ArithmeticError") = some false
  ob_UnknownName_ValueError : PySem.W.kitOne K (.ref C_UnknownName) (.type "ValueError") = some false
  ob_UnknownName_LookupError : PySem.W.kitOne K (.ref C_UnknownName) (.type "LookupError") = some true
  ob_UnknownName_ArithmeticError : PySem.W.kitOne K (.ref C_UnknownName) (.type "ArithmeticError") = some false
  ob_InvalidOffers_ValueError : PySem.W.kitOne K (.ref C_InvalidOffers) (.type "ValueError") = some true
  ob_InvalidOffers_LookupError : PySem.W.kitOne K (.ref C_InvalidOffers) (.type "LookupError") = some false
  ob_InvalidOffers_ArithmeticError : PySem.W.kitOne K (.ref C_InvalidOffers) (.type "ArithmeticError") = some false
  ob_InvalidHeights_ValueError : PySem.W.kitOne K (.ref C_InvalidHeights) (.type "ValueError") = some true
  ob_InvalidHeights_LookupError : PySem.W.kitOne K (.ref C_InvalidHeights) (.type "LookupError") = some false
  ob_InvalidHeights_ArithmeticError : PySem.W.kitOne K (.ref C_InvalidHeights) (.type "ArithmeticError") = some false
  ob_InvalidPlaces_ValueError : PySem.W.kitOne K (.ref C_InvalidPlaces) (.type "ValueError") = some true
  ob_InvalidPlaces_LookupError : PySem.W.kitOne K (.ref C_InvalidPlaces) (.type "LookupError") = some false
  ob_InvalidPlaces_ArithmeticError : PySem.W.kitOne K (.ref C_InvalidPlaces) (.type "ArithmeticError") = some false
  ob_InvalidAmounts_ValueError : PySem.W.kitOne K (.ref C_InvalidAmounts) (.type "ValueError") = some true
  ob_InvalidAmounts_LookupError : PySem.W.kitOne K (.ref C_InvalidAmounts) (.type "LookupError") = some false
  ob_InvalidAmounts_ArithmeticError : PySem.W.kitOne K (.ref C_InvalidAmounts) (.type "ArithmeticError") = some false
  ob_InvalidKnots_ValueError : PySem.W.kitOne K (.ref C_InvalidKnots) (.type "ValueError") = some true
  ob_InvalidKnots_LookupError : PySem.W.kitOne K (.ref C_InvalidKnots) (.type "LookupError") = some false
  ob_InvalidKnots_ArithmeticError : PySem.W.kitOne K (.ref C_InvalidKnots) (.type "ArithmeticError") = some false
  ob_NotACurve_ValueError : PySem.W.kitOne K (.ref C_NotACurve) (.type "ValueError") = some true
  ob_NotACurve_LookupError : PySem.W.kitOne K (.ref C_NotACurve) (.type "LookupError") = some false
  ob_NotACurve_ArithmeticError : PySem.W.kitOne K (.ref C_NotACurve) (.type "ArithmeticError") = some false
  ob_NotAFrame_ValueError : PySem.W.kitOne K (.ref C_NotAFrame) (.type "ValueError") = some true
  ob_NotAFrame_LookupError : PySem.W.kitOne K (.ref C_NotAFrame) (.type "LookupError") = some false
  ob_NotAFrame_ArithmeticError : PySem.W.kitOne K (.ref C_NotAFrame) (.type "ArithmeticError") = some false
  ob_InvalidCommand_ValueError : PySem.W.kitOne K (.ref C_InvalidCommand) (.type "ValueError") = some true
  ob_InvalidCommand_LookupError : PySem.W.kitOne K (.ref C_InvalidCommand) (.type "LookupError") = some false
  ob_InvalidCommand_ArithmeticError : PySem.W.kitOne K (.ref C_InvalidCommand) (.type "ArithmeticError") = some false
  ob_InvalidClaim_ValueError : PySem.W.kitOne K (.ref C_InvalidClaim) (.type "ValueError") = some true
  ob_InvalidClaim_LookupError : PySem.W.kitOne K (.ref C_InvalidClaim) (.type "LookupError") = some false
  ob_InvalidClaim_ArithmeticError : PySem.W.kitOne K (.ref C_InvalidClaim) (.type "ArithmeticError") = some false
  ob_InvalidKnot_ValueError : PySem.W.kitOne K (.ref C_InvalidKnot) (.type "ValueError") = some true
  ob_InvalidKnot_LookupError : PySem.W.kitOne K (.ref C_InvalidKnot) (.type "LookupError") = some false
  ob_InvalidKnot_ArithmeticError : PySem.W.kitOne K (.ref C_InvalidKnot) (.type "ArithmeticError") = some false
  ob_InvalidDegree_ValueError : PySem.W.kitOne K (.ref C_InvalidDegree) (.type "ValueError") = some true
  ob_InvalidDegree_LookupError : PySem.W.kitOne K (.ref C_InvalidDegree) (.type "LookupError") = some false
  ob_InvalidDegree_ArithmeticError : PySem.W.kitOne K (.ref C_InvalidDegree) (.type "ArithmeticError") = some false
  ob_InvalidIndex_ValueError : PySem.W.kitOne K (.ref C_InvalidIndex) (.type "ValueError") = some true
  ob_InvalidIndex_LookupError : PySem.W.kitOne K (.ref C_InvalidIndex) (.type "LookupError") = some false
  ob_InvalidIndex_ArithmeticError : PySem.W.kitOne K (.ref C_InvalidIndex) (.type "ArithmeticError") = some false
  ob_InvalidName_ValueError : PySem.W.kitOne K (.ref C_InvalidName) (.type "ValueError") = some true
  ob_InvalidName_LookupError : PySem.W.kitOne K (.ref C_InvalidName) (.type "LookupError") = some false
  ob_InvalidName_ArithmeticError : PySem.W.kitOne K (.ref C_InvalidName) (.type "ArithmeticError") = some false
  ob_InvalidNumber_ValueError : PySem.W.kitOne K (.ref C_InvalidNumber) (.type "ValueError") = some true
  ob_InvalidNumber_LookupError : PySem.W.kitOne K (.ref C_InvalidNumber) (.type "LookupError") = some false
  ob_InvalidNumber_ArithmeticError : PySem.W.kitOne K (.ref C_InvalidNumber) (.type "ArithmeticError") = some false
  ob_InvalidText_ValueError : PySem.W.kitOne K (.ref C_InvalidText) (.type "ValueError") = some true
  ob_InvalidText_LookupError : PySem.W.kitOne K (.ref C_InvalidText) (.type "LookupError") = some false
  ob_InvalidText_ArithmeticError : PySem.W.kitOne K (.ref C_InvalidText) (.type "ArithmeticError") = some false
  cc_Broken_NotKnown : PySem.W.exmOne K (.ref C_Broken) (.ref C_NotKnown) = some false
  cc_Broken_NotPossible : PySem.W.exmOne K (.ref C_Broken) (.ref C_NotPossible) = some true
  cc_Broken_NotRight : PySem.W.exmOne K (.ref C_Broken) (.ref C_NotRight) = some false
  cc_NotOne_NotKnown : PySem.W.exmOne K (.ref C_NotOne) (.ref C_NotKnown) = some false
  cc_NotOne_NotPossible : PySem.W.exmOne K (.ref C_NotOne) (.ref C_NotPossible) = some true
  cc_NotOne_NotRight : PySem.W.exmOne K (.ref C_NotOne) (.ref C_NotRight) = some false
  cc_TooMany_NotKnown : PySem.W.exmOne K (.ref C_TooMany) (.ref C_NotKnown) = some false
  cc_TooMany_NotPossible : PySem.W.exmOne K (.ref C_TooMany) (.ref C_NotPossible) = some true
  cc_TooMany_NotRight : PySem.W.exmOne K (.ref C_TooMany) (.ref C_NotRight) = some false
  cc_NothingToUndo_NotKnown : PySem.W.exmOne K (.ref C_NothingToUndo) (.ref C_NotKnown) = some true
  cc_NothingToUndo_NotPossible : PySem.W.exmOne K (.ref C_NothingToUndo) (.ref C_NotPossible) = some false
  cc_NothingToUndo_NotRight : PySem.W.exmOne K (.ref C_NothingToUndo) (.ref C_NotRight) = some false
  cc_InUse_NotKnown : PySem.W.exmOne K (.ref C_InUse) (.ref C_NotKnown) = some true
  cc_InUse_NotPossible : PySem.W.exmOne K (.ref C_InUse) (.ref C_NotPossible) = some false
  cc_InUse_NotRight : PySem.W.exmOne K (.ref C_InUse) (.ref C_NotRight) = some false
  cc_UnknownName_NotKnown : PySem.W.exmOne K (.ref C_UnknownName) (.ref C_NotKnown) = some true
  cc_UnknownName_NotPossible : PySem.W.exmOne K (.ref C_UnknownName) (.ref C_NotPossible) = some false
  cc_UnknownName_NotRight : PySem.W.exmOne K (.ref C_UnknownName) (.ref C_NotRight) = some false
  cc_InvalidOffers_NotKnown : PySem.W.exmOne K (.ref C_InvalidOffers) (.ref C_NotKnown) = some false
  cc_InvalidOffers_NotPossible : PySem.W.exmOne K (.ref C_InvalidOffers) (.ref C_NotPossible) = some false
  cc_InvalidOffers_NotRight : PySem.W.exmOne K (.ref C_InvalidOffers) (.ref C_NotRight) = some true
  cc_InvalidHeights_NotKnown : PySem.W.exmOne K (.ref C_InvalidHeights) (.ref C_NotKnown) = some false
  cc_InvalidHeights_NotPossible : PySem.W.exmOne K (.ref C_InvalidHeights) (.ref C_NotPossible) = some false
  cc_InvalidHeights_NotRight : PySem.W.exmOne K (.ref C_InvalidHeights) (.ref C_NotRight) = some true
  cc_InvalidPlaces_NotKnown : PySem.W.exmOne K (.ref C_InvalidPlaces) (.ref C_NotKnown) = some false
  cc_InvalidPlaces_NotPossible : PySem.W.exmOne K (.ref C_InvalidPlaces) (.ref C_NotPossible) = some false
  cc_InvalidPlaces_NotRight : PySem.W.exmOne K (.ref C_InvalidPlaces) (.ref C_NotRight) = some true
  cc_InvalidAmounts_NotKnown : PySem.W.exmOne K (.ref C_InvalidAmounts) (.ref C_NotKnown) = some false
  cc_InvalidAmounts_NotPossible : PySem.W.exmOne K (.ref C_InvalidAmounts) (.ref C_NotPossible) = some false
  cc_InvalidAmounts_NotRight : PySem.W.exmOne K (.ref C_InvalidAmounts) (.ref C_NotRight) = some true
  cc_InvalidKnots_NotKnown : PySem.W.exmOne K (.ref C_InvalidKnots) (.ref C_NotKnown) = some false
  cc_InvalidKnots_NotPossible : PySem.W.exmOne K (.ref C_InvalidKnots) (.ref C_NotPossible) = some false
  cc_InvalidKnots_NotRight : PySem.W.exmOne K (.ref C_InvalidKnots) (.ref C_NotRight) = some true
  cc_NotACurve_NotKnown : PySem.W.exmOne K (.ref C_NotACurve) (.ref C_NotKnown) = some false
  cc_NotACurve_NotPossible : PySem.W.exmOne K (.ref C_NotACurve) (.ref C_NotPossible) = some false
  cc_NotACurve_NotRight : PySem.W.exmOne K (.ref C_NotACurve) (.ref C_NotRight) = some true
  cc_NotAFrame_NotKnown : PySem.W.exmOne K (.ref C_NotAFrame) (.ref C_NotKnown) = some false
  cc_NotAFrame_NotPossible : PySem.W.exmOne K (.ref C_NotAFrame) (.ref C_NotPossible) = some false
  cc_NotAFrame_NotRight : PySem.W.exmOne K (.ref C_NotAFrame) (.ref C_NotRight) = some true
  cc_InvalidCommand_NotKnown : PySem.W.exmOne K (.ref C_InvalidCommand) (.ref C_NotKnown) = some false
  cc_InvalidCommand_NotPossible : PySem.W.exmOne K (.ref C_InvalidCommand) (.ref C_NotPossible) = some false
  cc_InvalidCommand_NotRight : PySem.W.exmOne K (.ref C_InvalidCommand) (.ref C_NotRight) = some true
  cc_InvalidClaim_NotKnown : PySem.W.exmOne K (.ref C_InvalidClaim) (.ref C_NotKnown) = some false
  cc_InvalidClaim_NotPossible : PySem.W.exmOne K (.ref C_InvalidClaim) (.ref C_NotPossible) = some false
  cc_InvalidClaim_NotRight : PySem.W.exmOne K (.ref C_InvalidClaim) (.ref C_NotRight) = some true
  cc_InvalidKnot_NotKnown : PySem.W.exmOne K (.ref C_InvalidKnot) (.ref C_NotKnown) = some false
  cc_InvalidKnot_NotPossible : PySem.W.exmOne K (.ref C_InvalidKnot) (.ref C_NotPossible) = some false
  cc_InvalidKnot_NotRight : PySem.W.exmOne K (.ref C_InvalidKnot) (.ref C_NotRight) = some true
  cc_InvalidDegree_NotKnown : PySem.W.exmOne K (.ref C_InvalidDegree) (.ref C_NotKnown) = some false
  cc_InvalidDegree_NotPossible : PySem.W.exmOne K (.ref C_InvalidDegree) (.ref C_NotPossible) = some false
  cc_InvalidDegree_NotRight : PySem.W.exmOne K (.ref C_InvalidDegree) (.ref C_NotRight) = some true
  cc_InvalidIndex_NotKnown : PySem.W.exmOne K (.ref C_InvalidIndex) (.ref C_NotKnown) = some false
  cc_InvalidIndex_NotPossible : PySem.W.exmOne K (.ref C_InvalidIndex) (.ref C_NotPossible) = some false
  cc_InvalidIndex_NotRight : PySem.W.exmOne K (.ref C_InvalidIndex) (.ref C_NotRight) = some true
  cc_InvalidName_NotKnown : PySem.W.exmOne K (.ref C_InvalidName) (.ref C_NotKnown) = some false
  cc_InvalidName_NotPossible : PySem.W.exmOne K (.ref C_InvalidName) (.ref C_NotPossible) = some false
  cc_InvalidName_NotRight : PySem.W.exmOne K (.ref C_InvalidName) (.ref C_NotRight) = some true
  cc_InvalidNumber_NotKnown : PySem.W.exmOne K (.ref C_InvalidNumber) (.ref C_NotKnown) = some false
  cc_InvalidNumber_NotPossible : PySem.W.exmOne K (.ref C_InvalidNumber) (.ref C_NotPossible) = some false
  cc_InvalidNumber_NotRight : PySem.W.exmOne K (.ref C_InvalidNumber) (.ref C_NotRight) = some true
  cc_InvalidText_NotKnown : PySem.W.exmOne K (.ref C_InvalidText) (.ref C_NotKnown) = some false
  cc_InvalidText_NotPossible : PySem.W.exmOne K (.ref C_InvalidText) (.ref C_NotPossible) = some false
  cc_InvalidText_NotRight : PySem.W.exmOne K (.ref C_InvalidText) (.ref C_NotRight) = some true
theorem allC {α : Type} {P : α → Prop} {a : α} {l : List α} (h : P a) (t : ∀ x ∈ l, P x) : ∀ x ∈ a :: l, P x := fun x hx => by
  cases hx with
  | head => exact h
  | tail _ hx => exact t x hx
theorem allN {α : Type} {P : α → Prop} : ∀ x ∈ ([] : List α), P x := fun _ h => nomatch h
abbrev OOp (K : PySem.W.Frag) (mg : Str → Option Value) (x : Str × Str × Bool) : Prop := ∃ C D, mg x.1 = some (.ref C) ∧ mg x.2.1 = some (.ref D) ∧ PySem.W.kitOne K (.ref C) (.ref D) = some x.2.2
theorem oo_all (L : Lf K mg) : ∀ x ∈ ooT, OOp K mg x :=
  allC (P := OOp K mg) (⟨_, _, L.c_Broken, L.c_NotRight, L.oo_Broken_NotRight⟩) (
  allC (P := OOp K mg) (⟨_, _, L.c_Broken, L.c_InvalidText, L.oo_Broken_InvalidText⟩) (
  allC (P := OOp K mg) (⟨_, _, L.c_Broken, L.c_InvalidNumber, L.oo_Broken_InvalidNumber⟩) (
  allC (P := OOp K mg) (⟨_, _, L.c_Broken, L.c_InvalidName, L.oo_Broken_InvalidName⟩) (
  allC (P := OOp K mg) (⟨_, _, L.c_Broken, L.c_InvalidIndex, L.oo_Broken_InvalidIndex⟩) (
  allC (P := OOp K mg) (⟨_, _, L.c_Broken, L.c_InvalidDegree, L.oo_Broken_InvalidDegree⟩) (
  allC (P := OOp K mg) (⟨_, _, L.c_Broken, L.c_InvalidKnot, L.oo_Broken_InvalidKnot⟩) (
  allC (P := OOp K mg) (⟨_, _, L.c_Broken, L.c_InvalidClaim, L.oo_Broken_InvalidClaim⟩) (
  allC (P := OOp K mg) (⟨_, _, L.c_Broken, L.c_InvalidCommand, L.oo_Broken_InvalidCommand⟩) (
  allC (P := OOp K mg) (⟨_, _, L.c_Broken, L.c_NotAFrame, L.oo_Broken_NotAFrame⟩) (
  allC (P := OOp K mg) (⟨_, _, L.c_Broken, L.c_NotACurve, L.oo_Broken_NotACurve⟩) (
  allC (P := OOp K mg) (⟨_, _, L.c_Broken, L.c_InvalidKnots, L.oo_Broken_InvalidKnots⟩) (
  allC (P := OOp K mg) (⟨_, _, L.c_Broken, L.c_InvalidAmounts, L.oo_Broken_InvalidAmounts⟩) (
  allC (P := OOp K mg) (⟨_, _, L.c_Broken, L.c_InvalidPlaces, L.oo_Broken_InvalidPlaces⟩) (
  allC (P := OOp K mg) (⟨_, _, L.c_Broken, L.c_InvalidHeights, L.oo_Broken_InvalidHeights⟩) (
  allC (P := OOp K mg) (⟨_, _, L.c_Broken, L.c_InvalidOffers, L.oo_Broken_InvalidOffers⟩) (
  allC (P := OOp K mg) (⟨_, _, L.c_Broken, L.c_NotKnown, L.oo_Broken_NotKnown⟩) (
  allC (P := OOp K mg) (⟨_, _, L.c_Broken, L.c_UnknownName, L.oo_Broken_UnknownName⟩) (
  allC (P := OOp K mg) (⟨_, _, L.c_Broken, L.c_InUse, L.oo_Broken_InUse⟩) (
  allC (P := OOp K mg) (⟨_, _, L.c_Broken, L.c_NothingToUndo, L.oo_Broken_NothingToUndo⟩) (
  allC (P := OOp K mg) (⟨_, _, L.c_Broken, L.c_NotPossible, L.oo_Broken_NotPossible⟩) (
  allC (P := OOp K mg) (⟨_, _, L.c_Broken, L.c_TooMany, L.oo_Broken_TooMany⟩) (
  allC (P := OOp K mg) (⟨_, _, L.c_Broken, L.c_NotOne, L.oo_Broken_NotOne⟩) (
  allC (P := OOp K mg) (⟨_, _, L.c_Broken, L.c_Broken, L.oo_Broken_Broken⟩) (
  allC (P := OOp K mg) (⟨_, _, L.c_NotOne, L.c_NotRight, L.oo_NotOne_NotRight⟩) (
  allC (P := OOp K mg) (⟨_, _, L.c_NotOne, L.c_InvalidText, L.oo_NotOne_InvalidText⟩) (
  allC (P := OOp K mg) (⟨_, _, L.c_NotOne, L.c_InvalidNumber, L.oo_NotOne_InvalidNumber⟩) (
  allC (P := OOp K mg) (⟨_, _, L.c_NotOne, L.c_InvalidName, L.oo_NotOne_InvalidName⟩) (
  allC (P := OOp K mg) (⟨_, _, L.c_NotOne, L.c_InvalidIndex, L.oo_NotOne_InvalidIndex⟩) (
  allC (P := OOp K mg) (⟨_, _, L.c_NotOne, L.c_InvalidDegree, L.oo_NotOne_InvalidDegree⟩) (
  allC (P := OOp K mg) (⟨_, _, L.c_NotOne, L.c_InvalidKnot, L.oo_NotOne_InvalidKnot⟩) (
  allC (P := OOp K mg) (⟨_, _, L.c_NotOne, L.c_InvalidClaim, L.oo_NotOne_InvalidClaim⟩) (
  allC (P := OOp K mg) (⟨_, _, L.c_NotOne, L.c_InvalidCommand, L.oo_NotOne_InvalidCommand⟩) (
  allC (P := OOp K mg) (⟨_, _, L.c_NotOne, L.c_NotAFrame, L.oo_NotOne_NotAFrame⟩) (
  allC (P := OOp K mg) (⟨_, _, L.c_NotOne, L.c_NotACurve, L.oo_NotOne_NotACurve⟩) (
  allC (P := OOp K mg) (⟨_, _, L.c_NotOne, L.c_InvalidKnots, L.oo_NotOne_InvalidKnots⟩) (
  allC (P := OOp K mg) (⟨_, _, L.c_NotOne, L.c_InvalidAmounts, L.oo_NotOne_InvalidAmounts⟩) (
  allC (P := OOp K mg) (⟨_, _, L.c_NotOne, L.c_InvalidPlaces, L.oo_NotOne_InvalidPlaces⟩) (
  allC (P := OOp K mg) (⟨_, _, L.c_NotOne, L.c_InvalidHeights, L.oo_NotOne_InvalidHeights⟩) (
  allC (P := OOp K mg) (⟨_, _, L.c_NotOne, L.c_InvalidOffers, L.oo_NotOne_InvalidOffers⟩) (
  allC (P := OOp K mg) (⟨_, _, L.c_NotOne, L.c_NotKnown, L.oo_NotOne_NotKnown⟩) (
  allC (P := OOp K mg) (⟨_, _, L.c_NotOne, L.c_UnknownName, L.oo_NotOne_UnknownName⟩) (
  allC (P := OOp K mg) (⟨_, _, L.c_NotOne, L.c_InUse, L.oo_NotOne_InUse⟩) (
  allC (P := OOp K mg) (⟨_, _, L.c_NotOne, L.c_NothingToUndo, L.oo_NotOne_NothingToUndo⟩) (
  allC (P := OOp K mg) (⟨_, _, L.c_NotOne, L.c_NotPossible, L.oo_NotOne_NotPossible⟩) (
  allC (P := OOp K mg) (⟨_, _, L.c_NotOne, L.c_TooMany, L.oo_NotOne_TooMany⟩) (
  allC (P := OOp K mg) (⟨_, _, L.c_NotOne, L.c_NotOne, L.oo_NotOne_NotOne⟩) (
  allC (P := OOp K mg) (⟨_, _, L.c_NotOne, L.c_Broken, L.oo_NotOne_Broken⟩) (
  allC (P := OOp K mg) (⟨_, _, L.c_TooMany, L.c_NotRight, L.oo_TooMany_NotRight⟩) (
  allC (P := OOp K mg) (⟨_, _, L.c_TooMany, L.c_InvalidText, L.oo_TooMany_InvalidText⟩) (
  allC (P := OOp K mg) (⟨_, _, L.c_TooMany, L.c_InvalidNumber, L.oo_TooMany_InvalidNumber⟩) (
  allC (P := OOp K mg) (⟨_, _, L.c_TooMany, L.c_InvalidName, L.oo_TooMany_InvalidName⟩) (
  allC (P := OOp K mg) (⟨_, _, L.c_TooMany, L.c_InvalidIndex, L.oo_TooMany_InvalidIndex⟩) (
  allC (P := OOp K mg) (⟨_, _, L.c_TooMany, L.c_InvalidDegree, L.oo_TooMany_InvalidDegree⟩) (
  allC (P := OOp K mg) (⟨_, _, L.c_TooMany, L.c_InvalidKnot, L.oo_TooMany_InvalidKnot⟩) (
  allC (P := OOp K mg) (⟨_, _, L.c_TooMany, L.c_InvalidClaim, L.oo_TooMany_InvalidClaim⟩) (
  allC (P := OOp K mg) (⟨_, _, L.c_TooMany, L.c_InvalidCommand, L.oo_TooMany_InvalidCommand⟩) (
  allC (P := OOp K mg) (⟨_, _, L.c_TooMany, L.c_NotAFrame, L.oo_TooMany_NotAFrame⟩) (
  allC (P := OOp K mg) (⟨_, _, L.c_TooMany, L.c_NotACurve, L.oo_TooMany_NotACurve⟩) (
  allC (P := OOp K mg) (⟨_, _, L.c_TooMany, L.c_InvalidKnots, L.oo_TooMany_InvalidKnots⟩) (
  allC (P := OOp K mg) (⟨_, _, L.c_TooMany, L.c_InvalidAmounts, L.oo_TooMany_InvalidAmounts⟩) (
  allC (P := OOp K mg) (⟨_, _, L.c_TooMany, L.c_InvalidPlaces, L.oo_TooMany_InvalidPlaces⟩) (
  allC (P := OOp K mg) (⟨_, _, L.c_TooMany, L.c_InvalidHeights, L.oo_TooMany_InvalidHeights⟩) (
  allC (P := OOp K mg) (⟨_, _, L.c_TooMany, L.c_InvalidOffers, L.oo_TooMany_InvalidOffers⟩) (
  allC (P := OOp K mg) (⟨_, _, L.c_TooMany, L.c_NotKnown, L.oo_TooMany_NotKnown⟩) (
  allC (P := OOp K mg) (⟨_, _, L.c_TooMany, L.c_UnknownName, L.oo_TooMany_UnknownName⟩) (
  allC (P := OOp K mg) (⟨_, _, L.c_TooMany, L.c_InUse, L.oo_TooMany_InUse⟩) (
  allC (P := OOp K mg) (⟨_, _, L.c_TooMany, L.c_NothingToUndo, L.oo_TooMany_NothingToUndo⟩) (
  allC (P := OOp K mg) (⟨_, _, L.c_TooMany, L.c_NotPossible, L.oo_TooMany_NotPossible⟩) (
  allC (P := OOp K mg) (⟨_, _, L.c_TooMany, L.c_TooMany, L.oo_TooMany_TooMany⟩) (
  allC (P := OOp K mg) (⟨_, _, L.c_TooMany, L.c_NotOne, L.oo_TooMany_NotOne⟩) (
  allC (P := OOp K mg) (⟨_, _, L.c_TooMany, L.c_Broken, L.oo_TooMany_Broken⟩) (
  allC (P := OOp K mg) (⟨_, _, L.c_NothingToUndo, L.c_NotRight, L.oo_NothingToUndo_NotRight⟩) (
  allC (P := OOp K mg) (⟨_, _, L.c_NothingToUndo, L.c_InvalidText, L.oo_NothingToUndo_InvalidText⟩) (
  allC (P := OOp K mg) (⟨_, _, L.c_NothingToUndo, L.c_InvalidNumber, L.oo_NothingToUndo_InvalidNumber⟩) (
  allC (P := OOp K mg) (⟨_, _, L.c_NothingToUndo, L.c_InvalidName, L.oo_NothingToUndo_InvalidName⟩) (
  allC (P := OOp K mg) (⟨_, _, L.c_NothingToUndo, L.c_InvalidIndex, L.oo_NothingToUndo_InvalidIndex⟩) (
  allC (P := OOp K mg) (⟨_, _, L.c_NothingToUndo, L.c_InvalidDegree, L.oo_NothingToUndo_InvalidDegree⟩) (
  allC (P := OOp K mg) (⟨_, _, L.c_NothingToUndo, L.c_InvalidKnot, L.oo_NothingToUndo_InvalidKnot⟩) (
  allC (P := OOp K mg) (⟨_, _, L.c_NothingToUndo, L.c_InvalidClaim, L.oo_NothingToUndo_InvalidClaim⟩) (
  allC (P := OOp K mg) (⟨_, _, L.c_NothingToUndo, L.c_InvalidCommand, L.oo_NothingToUndo_InvalidCommand⟩) (
  allC (P := OOp K mg) (⟨_, _, L.c_NothingToUndo, L.c_NotAFrame, L.oo_NothingToUndo_NotAFrame⟩) (
  allC (P := OOp K mg) (⟨_, _, L.c_NothingToUndo, L.c_NotACurve, L.oo_NothingToUndo_NotACurve⟩) (
  allC (P := OOp K mg) (⟨_, _, L.c_NothingToUndo, L.c_InvalidKnots, L.oo_NothingToUndo_InvalidKnots⟩) (
  allC (P := OOp K mg) (⟨_, _, L.c_NothingToUndo, L.c_InvalidAmounts, L.oo_NothingToUndo_InvalidAmounts⟩) (
  allC (P := OOp K mg) (⟨_, _, L.c_NothingToUndo, L.c_InvalidPlaces, L.oo_NothingToUndo_InvalidPlaces⟩) (
  allC (P := OOp K mg) (⟨_, _, L.c_NothingToUndo, L.c_InvalidHeights, L.oo_NothingToUndo_InvalidHeights⟩) (
  allC (P := OOp K mg) (⟨_, _, L.c_NothingToUndo, L.c_InvalidOffers, L.oo_NothingToUndo_InvalidOffers⟩) (
  allC (P := OOp K mg) (⟨_, _, L.c_NothingToUndo, L.c_NotKnown, L.oo_NothingToUndo_NotKnown⟩) (
  allC (P := OOp K mg) (⟨_, _, L.c_NothingToUndo, L.c_UnknownName, L.oo_NothingToUndo_UnknownName⟩) (
  allC (P := OOp K mg) (⟨_, _, L.c_NothingToUndo, L.c_InUse, L.oo_NothingToUndo_InUse⟩) (
  allC (P := OOp K mg) (⟨_, _, L.c_NothingToUndo, L.c_NothingToUndo, L.oo_NothingToUndo_NothingToUndo⟩) (
  allC (P := OOp K mg) (⟨_, _, L.c_NothingToUndo, L.c_NotPossible, L.oo_NothingToUndo_NotPossible⟩) (
  allC (P := OOp K mg) (⟨_, _, L.c_NothingToUndo, L.c_TooMany, L.oo_NothingToUndo_TooMany⟩) (
  allC (P := OOp K mg) (⟨_, _, L.c_NothingToUndo, L.c_NotOne, L.oo_NothingToUndo_NotOne⟩) (
  allC (P := OOp K mg) (⟨_, _, L.c_NothingToUndo, L.c_Broken, L.oo_NothingToUndo_Broken⟩) (
  allC (P := OOp K mg) (⟨_, _, L.c_InUse, L.c_NotRight, L.oo_InUse_NotRight⟩) (
  allC (P := OOp K mg) (⟨_, _, L.c_InUse, L.c_InvalidText, L.oo_InUse_InvalidText⟩) (
  allC (P := OOp K mg) (⟨_, _, L.c_InUse, L.c_InvalidNumber, L.oo_InUse_InvalidNumber⟩) (
  allC (P := OOp K mg) (⟨_, _, L.c_InUse, L.c_InvalidName, L.oo_InUse_InvalidName⟩) (
  allC (P := OOp K mg) (⟨_, _, L.c_InUse, L.c_InvalidIndex, L.oo_InUse_InvalidIndex⟩) (
  allC (P := OOp K mg) (⟨_, _, L.c_InUse, L.c_InvalidDegree, L.oo_InUse_InvalidDegree⟩) (
  allC (P := OOp K mg) (⟨_, _, L.c_InUse, L.c_InvalidKnot, L.oo_InUse_InvalidKnot⟩) (
  allC (P := OOp K mg) (⟨_, _, L.c_InUse, L.c_InvalidClaim, L.oo_InUse_InvalidClaim⟩) (
  allC (P := OOp K mg) (⟨_, _, L.c_InUse, L.c_InvalidCommand, L.oo_InUse_InvalidCommand⟩) (
  allC (P := OOp K mg) (⟨_, _, L.c_InUse, L.c_NotAFrame, L.oo_InUse_NotAFrame⟩) (
  allC (P := OOp K mg) (⟨_, _, L.c_InUse, L.c_NotACurve, L.oo_InUse_NotACurve⟩) (
  allC (P := OOp K mg) (⟨_, _, L.c_InUse, L.c_InvalidKnots, L.oo_InUse_InvalidKnots⟩) (
  allC (P := OOp K mg) (⟨_, _, L.c_InUse, L.c_InvalidAmounts, L.oo_InUse_InvalidAmounts⟩) (
  allC (P := OOp K mg) (⟨_, _, L.c_InUse, L.c_InvalidPlaces, L.oo_InUse_InvalidPlaces⟩) (
  allC (P := OOp K mg) (⟨_, _, L.c_InUse, L.c_InvalidHeights, L.oo_InUse_InvalidHeights⟩) (
  allC (P := OOp K mg) (⟨_, _, L.c_InUse, L.c_InvalidOffers, L.oo_InUse_InvalidOffers⟩) (
  allC (P := OOp K mg) (⟨_, _, L.c_InUse, L.c_NotKnown, L.oo_InUse_NotKnown⟩) (
  allC (P := OOp K mg) (⟨_, _, L.c_InUse, L.c_UnknownName, L.oo_InUse_UnknownName⟩) (
  allC (P := OOp K mg) (⟨_, _, L.c_InUse, L.c_InUse, L.oo_InUse_InUse⟩) (
  allC (P := OOp K mg) (⟨_, _, L.c_InUse, L.c_NothingToUndo, L.oo_InUse_NothingToUndo⟩) (
  allC (P := OOp K mg) (⟨_, _, L.c_InUse, L.c_NotPossible, L.oo_InUse_NotPossible⟩) (
  allC (P := OOp K mg) (⟨_, _, L.c_InUse, L.c_TooMany, L.oo_InUse_TooMany⟩) (
  allC (P := OOp K mg) (⟨_, _, L.c_InUse, L.c_NotOne, L.oo_InUse_NotOne⟩) (
  allC (P := OOp K mg) (⟨_, _, L.c_InUse, L.c_Broken, L.oo_InUse_Broken⟩) (
  allC (P := OOp K mg) (⟨_, _, L.c_UnknownName, L.c_NotRight, L.oo_UnknownName_NotRight⟩) (
  allC (P := OOp K mg) (⟨_, _, L.c_UnknownName, L.c_InvalidText, L.oo_UnknownName_InvalidText⟩) (
  allC (P := OOp K mg) (⟨_, _, L.c_UnknownName, L.c_InvalidNumber, L.oo_UnknownName_InvalidNumber⟩) (
  allC (P := OOp K mg) (⟨_, _, L.c_UnknownName, L.c_InvalidName, L.oo_UnknownName_InvalidName⟩) (
  allC (P := OOp K mg) (⟨_, _, L.c_UnknownName, L.c_InvalidIndex, L.oo_UnknownName_InvalidIndex⟩) (
  allC (P := OOp K mg) (⟨_, _, L.c_UnknownName, L.c_InvalidDegree, L.oo_UnknownName_InvalidDegree⟩) (
  allC (P := OOp K mg) (⟨_, _, L.c_UnknownName, L.c_InvalidKnot, L.oo_UnknownName_InvalidKnot⟩) (
  allC (P := OOp K mg) (⟨_, _, L.c_UnknownName, L.c_InvalidClaim, L.oo_UnknownName_InvalidClaim⟩) (
  allC (P := OOp K mg) (⟨_, _, L.c_UnknownName, L.c_InvalidCommand, L.oo_UnknownName_InvalidCommand⟩) (
  allC (P := OOp K mg) (⟨_, _, L.c_UnknownName, L.c_NotAFrame, L.oo_UnknownName_NotAFrame⟩) (
  allC (P := OOp K mg) (⟨_, _, L.c_UnknownName, L.c_NotACurve, L.oo_UnknownName_NotACurve⟩) (
  allC (P := OOp K mg) (⟨_, _, L.c_UnknownName, L.c_InvalidKnots, L.oo_UnknownName_InvalidKnots⟩) (
  allC (P := OOp K mg) (⟨_, _, L.c_UnknownName, L.c_InvalidAmounts, L.oo_UnknownName_InvalidAmounts⟩) (
  allC (P := OOp K mg) (⟨_, _, L.c_UnknownName, L.c_InvalidPlaces, L.oo_UnknownName_InvalidPlaces⟩) (
  allC (P := OOp K mg) (⟨_, _, L.c_UnknownName, L.c_InvalidHeights, L.oo_UnknownName_InvalidHeights⟩) (
  allC (P := OOp K mg) (⟨_, _, L.c_UnknownName, L.c_InvalidOffers, L.oo_UnknownName_InvalidOffers⟩) (
  allC (P := OOp K mg) (⟨_, _, L.c_UnknownName, L.c_NotKnown, L.oo_UnknownName_NotKnown⟩) (
  allC (P := OOp K mg) (⟨_, _, L.c_UnknownName, L.c_UnknownName, L.oo_UnknownName_UnknownName⟩) (
  allC (P := OOp K mg) (⟨_, _, L.c_UnknownName, L.c_InUse, L.oo_UnknownName_InUse⟩) (
  allC (P := OOp K mg) (⟨_, _, L.c_UnknownName, L.c_NothingToUndo, L.oo_UnknownName_NothingToUndo⟩) (
  allC (P := OOp K mg) (⟨_, _, L.c_UnknownName, L.c_NotPossible, L.oo_UnknownName_NotPossible⟩) (
  allC (P := OOp K mg) (⟨_, _, L.c_UnknownName, L.c_TooMany, L.oo_UnknownName_TooMany⟩) (
  allC (P := OOp K mg) (⟨_, _, L.c_UnknownName, L.c_NotOne, L.oo_UnknownName_NotOne⟩) (
  allC (P := OOp K mg) (⟨_, _, L.c_UnknownName, L.c_Broken, L.oo_UnknownName_Broken⟩) (
  allC (P := OOp K mg) (⟨_, _, L.c_InvalidOffers, L.c_NotRight, L.oo_InvalidOffers_NotRight⟩) (
  allC (P := OOp K mg) (⟨_, _, L.c_InvalidOffers, L.c_InvalidText, L.oo_InvalidOffers_InvalidText⟩) (
  allC (P := OOp K mg) (⟨_, _, L.c_InvalidOffers, L.c_InvalidNumber, L.oo_InvalidOffers_InvalidNumber⟩) (
  allC (P := OOp K mg) (⟨_, _, L.c_InvalidOffers, L.c_InvalidName, L.oo_InvalidOffers_InvalidName⟩) (
  allC (P := OOp K mg) (⟨_, _, L.c_InvalidOffers, L.c_InvalidIndex, L.oo_InvalidOffers_InvalidIndex⟩) (
  allC (P := OOp K mg) (⟨_, _, L.c_InvalidOffers, L.c_InvalidDegree, L.oo_InvalidOffers_InvalidDegree⟩) (
  allC (P := OOp K mg) (⟨_, _, L.c_InvalidOffers, L.c_InvalidKnot, L.oo_InvalidOffers_InvalidKnot⟩) (
  allC (P := OOp K mg) (⟨_, _, L.c_InvalidOffers, L.c_InvalidClaim, L.oo_InvalidOffers_InvalidClaim⟩) (
  allC (P := OOp K mg) (⟨_, _, L.c_InvalidOffers, L.c_InvalidCommand, L.oo_InvalidOffers_InvalidCommand⟩) (
  allC (P := OOp K mg) (⟨_, _, L.c_InvalidOffers, L.c_NotAFrame, L.oo_InvalidOffers_NotAFrame⟩) (
  allC (P := OOp K mg) (⟨_, _, L.c_InvalidOffers, L.c_NotACurve, L.oo_InvalidOffers_NotACurve⟩) (
  allC (P := OOp K mg) (⟨_, _, L.c_InvalidOffers, L.c_InvalidKnots, L.oo_InvalidOffers_InvalidKnots⟩) (
  allC (P := OOp K mg) (⟨_, _, L.c_InvalidOffers, L.c_InvalidAmounts, L.oo_InvalidOffers_InvalidAmounts⟩) (
  allC (P := OOp K mg) (⟨_, _, L.c_InvalidOffers, L.c_InvalidPlaces, L.oo_InvalidOffers_InvalidPlaces⟩) (
  allC (P := OOp K mg) (⟨_, _, L.c_InvalidOffers, L.c_InvalidHeights, L.oo_InvalidOffers_InvalidHeights⟩) (
  allC (P := OOp K mg) (⟨_, _, L.c_InvalidOffers, L.c_InvalidOffers, L.oo_InvalidOffers_InvalidOffers⟩) (
  allC (P := OOp K mg) (⟨_, _, L.c_InvalidOffers, L.c_NotKnown, L.oo_InvalidOffers_NotKnown⟩) (
  allC (P := OOp K mg) (⟨_, _, L.c_InvalidOffers, L.c_UnknownName, L.oo_InvalidOffers_UnknownName⟩) (
  allC (P := OOp K mg) (⟨_, _, L.c_InvalidOffers, L.c_InUse, L.oo_InvalidOffers_InUse⟩) (
  allC (P := OOp K mg) (⟨_, _, L.c_InvalidOffers, L.c_NothingToUndo, L.oo_InvalidOffers_NothingToUndo⟩) (
  allC (P := OOp K mg) (⟨_, _, L.c_InvalidOffers, L.c_NotPossible, L.oo_InvalidOffers_NotPossible⟩) (
  allC (P := OOp K mg) (⟨_, _, L.c_InvalidOffers, L.c_TooMany, L.oo_InvalidOffers_TooMany⟩) (
  allC (P := OOp K mg) (⟨_, _, L.c_InvalidOffers, L.c_NotOne, L.oo_InvalidOffers_NotOne⟩) (
  allC (P := OOp K mg) (⟨_, _, L.c_InvalidOffers, L.c_Broken, L.oo_InvalidOffers_Broken⟩) (
  allC (P := OOp K mg) (⟨_, _, L.c_InvalidHeights, L.c_NotRight, L.oo_InvalidHeights_NotRight⟩) (
  allC (P := OOp K mg) (⟨_, _, L.c_InvalidHeights, L.c_InvalidText, L.oo_InvalidHeights_InvalidText⟩) (
  allC (P := OOp K mg) (⟨_, _, L.c_InvalidHeights, L.c_InvalidNumber, L.oo_InvalidHeights_InvalidNumber⟩) (
  allC (P := OOp K mg) (⟨_, _, L.c_InvalidHeights, L.c_InvalidName, L.oo_InvalidHeights_InvalidName⟩) (
  allC (P := OOp K mg) (⟨_, _, L.c_InvalidHeights, L.c_InvalidIndex, L.oo_InvalidHeights_InvalidIndex⟩) (
  allC (P := OOp K mg) (⟨_, _, L.c_InvalidHeights, L.c_InvalidDegree, L.oo_InvalidHeights_InvalidDegree⟩) (
  allC (P := OOp K mg) (⟨_, _, L.c_InvalidHeights, L.c_InvalidKnot, L.oo_InvalidHeights_InvalidKnot⟩) (
  allC (P := OOp K mg) (⟨_, _, L.c_InvalidHeights, L.c_InvalidClaim, L.oo_InvalidHeights_InvalidClaim⟩) (
  allC (P := OOp K mg) (⟨_, _, L.c_InvalidHeights, L.c_InvalidCommand, L.oo_InvalidHeights_InvalidCommand⟩) (
  allC (P := OOp K mg) (⟨_, _, L.c_InvalidHeights, L.c_NotAFrame, L.oo_InvalidHeights_NotAFrame⟩) (
  allC (P := OOp K mg) (⟨_, _, L.c_InvalidHeights, L.c_NotACurve, L.oo_InvalidHeights_NotACurve⟩) (
  allC (P := OOp K mg) (⟨_, _, L.c_InvalidHeights, L.c_InvalidKnots, L.oo_InvalidHeights_InvalidKnots⟩) (
  allC (P := OOp K mg) (⟨_, _, L.c_InvalidHeights, L.c_InvalidAmounts, L.oo_InvalidHeights_InvalidAmounts⟩) (
  allC (P := OOp K mg) (⟨_, _, L.c_InvalidHeights, L.c_InvalidPlaces, L.oo_InvalidHeights_InvalidPlaces⟩) (
  allC (P := OOp K mg) (⟨_, _, L.c_InvalidHeights, L.c_InvalidHeights, L.oo_InvalidHeights_InvalidHeights⟩) (
  allC (P := OOp K mg) (⟨_, _, L.c_InvalidHeights, L.c_InvalidOffers, L.oo_InvalidHeights_InvalidOffers⟩) (
  allC (P := OOp K mg) (⟨_, _, L.c_InvalidHeights, L.c_NotKnown, L.oo_InvalidHeights_NotKnown⟩) (
  allC (P := OOp K mg) (⟨_, _, L.c_InvalidHeights, L.c_UnknownName, L.oo_InvalidHeights_UnknownName⟩) (
  allC (P := OOp K mg) (⟨_, _, L.c_InvalidHeights, L.c_InUse, L.oo_InvalidHeights_InUse⟩) (
  allC (P := OOp K mg) (⟨_, _, L.c_InvalidHeights, L.c_NothingToUndo, L.oo_InvalidHeights_NothingToUndo⟩) (
  allC (P := OOp K mg) (⟨_, _, L.c_InvalidHeights, L.c_NotPossible, L.oo_InvalidHeights_NotPossible⟩) (
  allC (P := OOp K mg) (⟨_, _, L.c_InvalidHeights, L.c_TooMany, L.oo_InvalidHeights_TooMany⟩) (
  allC (P := OOp K mg) (⟨_, _, L.c_InvalidHeights, L.c_NotOne, L.oo_InvalidHeights_NotOne⟩) (
  allC (P := OOp K mg) (⟨_, _, L.c_InvalidHeights, L.c_Broken, L.oo_InvalidHeights_Broken⟩) (
  allC (P := OOp K mg) (⟨_, _, L.c_InvalidPlaces, L.c_NotRight, L.oo_InvalidPlaces_NotRight⟩) (
  allC (P := OOp K mg) (⟨_, _, L.c_InvalidPlaces, L.c_InvalidText, L.oo_InvalidPlaces_InvalidText⟩) (
  allC (P := OOp K mg) (⟨_, _, L.c_InvalidPlaces, L.c_InvalidNumber, L.oo_InvalidPlaces_InvalidNumber⟩) (
  allC (P := OOp K mg) (⟨_, _, L.c_InvalidPlaces, L.c_InvalidName, L.oo_InvalidPlaces_InvalidName⟩) (
  allC (P := OOp K mg) (⟨_, _, L.c_InvalidPlaces, L.c_InvalidIndex, L.oo_InvalidPlaces_InvalidIndex⟩) (
  allC (P := OOp K mg) (⟨_, _, L.c_InvalidPlaces, L.c_InvalidDegree, L.oo_InvalidPlaces_InvalidDegree⟩) (
  allC (P := OOp K mg) (⟨_, _, L.c_InvalidPlaces, L.c_InvalidKnot, L.oo_InvalidPlaces_InvalidKnot⟩) (
  allC (P := OOp K mg) (⟨_, _, L.c_InvalidPlaces, L.c_InvalidClaim, L.oo_InvalidPlaces_InvalidClaim⟩) (
  allC (P := OOp K mg) (⟨_, _, L.c_InvalidPlaces, L.c_InvalidCommand, L.oo_InvalidPlaces_InvalidCommand⟩) (
  allC (P := OOp K mg) (⟨_, _, L.c_InvalidPlaces, L.c_NotAFrame, L.oo_InvalidPlaces_NotAFrame⟩) (
  allC (P := OOp K mg) (⟨_, _, L.c_InvalidPlaces, L.c_NotACurve, L.oo_InvalidPlaces_NotACurve⟩) (
  allC (P := OOp K mg) (⟨_, _, L.c_InvalidPlaces, L.c_InvalidKnots, L.oo_InvalidPlaces_InvalidKnots⟩) (
  allC (P := OOp K mg) (⟨_, _, L.c_InvalidPlaces, L.c_InvalidAmounts, L.oo_InvalidPlaces_InvalidAmounts⟩) (
  allC (P := OOp K mg) (⟨_, _, L.c_InvalidPlaces, L.c_InvalidPlaces, L.oo_InvalidPlaces_InvalidPlaces⟩) (
  allC (P := OOp K mg) (⟨_, _, L.c_InvalidPlaces, L.c_InvalidHeights, L.oo_InvalidPlaces_InvalidHeights⟩) (
  allC (P := OOp K mg) (⟨_, _, L.c_InvalidPlaces, L.c_InvalidOffers, L.oo_InvalidPlaces_InvalidOffers⟩) (
  allC (P := OOp K mg) (⟨_, _, L.c_InvalidPlaces, L.c_NotKnown, L.oo_InvalidPlaces_NotKnown⟩) (
  allC (P := OOp K mg) (⟨_, _, L.c_InvalidPlaces, L.c_UnknownName, L.oo_InvalidPlaces_UnknownName⟩) (
  allC (P := OOp K mg) (⟨_, _, L.c_InvalidPlaces, L.c_InUse, L.oo_InvalidPlaces_InUse⟩) (
  allC (P := OOp K mg) (⟨_, _, L.c_InvalidPlaces, L.c_NothingToUndo, L.oo_InvalidPlaces_NothingToUndo⟩) (
  allC (P := OOp K mg) (⟨_, _, L.c_InvalidPlaces, L.c_NotPossible, L.oo_InvalidPlaces_NotPossible⟩) (
  allC (P := OOp K mg) (⟨_, _, L.c_InvalidPlaces, L.c_TooMany, L.oo_InvalidPlaces_TooMany⟩) (
  allC (P := OOp K mg) (⟨_, _, L.c_InvalidPlaces, L.c_NotOne, L.oo_InvalidPlaces_NotOne⟩) (
  allC (P := OOp K mg) (⟨_, _, L.c_InvalidPlaces, L.c_Broken, L.oo_InvalidPlaces_Broken⟩) (
  allC (P := OOp K mg) (⟨_, _, L.c_InvalidAmounts, L.c_NotRight, L.oo_InvalidAmounts_NotRight⟩) (
  allC (P := OOp K mg) (⟨_, _, L.c_InvalidAmounts, L.c_InvalidText, L.oo_InvalidAmounts_InvalidText⟩) (
  allC (P := OOp K mg) (⟨_, _, L.c_InvalidAmounts, L.c_InvalidNumber, L.oo_InvalidAmounts_InvalidNumber⟩) (
  allC (P := OOp K mg) (⟨_, _, L.c_InvalidAmounts, L.c_InvalidName, L.oo_InvalidAmounts_InvalidName⟩) (
  allC (P := OOp K mg) (⟨_, _, L.c_InvalidAmounts, L.c_InvalidIndex, L.oo_InvalidAmounts_InvalidIndex⟩) (
  allC (P := OOp K mg) (⟨_, _, L.c_InvalidAmounts, L.c_InvalidDegree, L.oo_InvalidAmounts_InvalidDegree⟩) (
  allC (P := OOp K mg) (⟨_, _, L.c_InvalidAmounts, L.c_InvalidKnot, L.oo_InvalidAmounts_InvalidKnot⟩) (
  allC (P := OOp K mg) (⟨_, _, L.c_InvalidAmounts, L.c_InvalidClaim, L.oo_InvalidAmounts_InvalidClaim⟩) (
  allC (P := OOp K mg) (⟨_, _, L.c_InvalidAmounts, L.c_InvalidCommand, L.oo_InvalidAmounts_InvalidCommand⟩) (
  allC (P := OOp K mg) (⟨_, _, L.c_InvalidAmounts, L.c_NotAFrame, L.oo_InvalidAmounts_NotAFrame⟩) (
  allC (P := OOp K mg) (⟨_, _, L.c_InvalidAmounts, L.c_NotACurve, L.oo_InvalidAmounts_NotACurve⟩) (
  allC (P := OOp K mg) (⟨_, _, L.c_InvalidAmounts, L.c_InvalidKnots, L.oo_InvalidAmounts_InvalidKnots⟩) (
  allC (P := OOp K mg) (⟨_, _, L.c_InvalidAmounts, L.c_InvalidAmounts, L.oo_InvalidAmounts_InvalidAmounts⟩) (
  allC (P := OOp K mg) (⟨_, _, L.c_InvalidAmounts, L.c_InvalidPlaces, L.oo_InvalidAmounts_InvalidPlaces⟩) (
  allC (P := OOp K mg) (⟨_, _, L.c_InvalidAmounts, L.c_InvalidHeights, L.oo_InvalidAmounts_InvalidHeights⟩) (
  allC (P := OOp K mg) (⟨_, _, L.c_InvalidAmounts, L.c_InvalidOffers, L.oo_InvalidAmounts_InvalidOffers⟩) (
  allC (P := OOp K mg) (⟨_, _, L.c_InvalidAmounts, L.c_NotKnown, L.oo_InvalidAmounts_NotKnown⟩) (
  allC (P := OOp K mg) (⟨_, _, L.c_InvalidAmounts, L.c_UnknownName, L.oo_InvalidAmounts_UnknownName⟩) (
  allC (P := OOp K mg) (⟨_, _, L.c_InvalidAmounts, L.c_InUse, L.oo_InvalidAmounts_InUse⟩) (
  allC (P := OOp K mg) (⟨_, _, L.c_InvalidAmounts, L.c_NothingToUndo, L.oo_InvalidAmounts_NothingToUndo⟩) (
  allC (P := OOp K mg) (⟨_, _, L.c_InvalidAmounts, L.c_NotPossible, L.oo_InvalidAmounts_NotPossible⟩) (
  allC (P := OOp K mg) (⟨_, _, L.c_InvalidAmounts, L.c_TooMany, L.oo_InvalidAmounts_TooMany⟩) (
  allC (P := OOp K mg) (⟨_, _, L.c_InvalidAmounts, L.c_NotOne, L.oo_InvalidAmounts_NotOne⟩) (
  allC (P := OOp K mg) (⟨_, _, L.c_InvalidAmounts, L.c_Broken, L.oo_InvalidAmounts_Broken⟩) (
  allC (P := OOp K mg) (⟨_, _, L.c_InvalidKnots, L.c_NotRight, L.oo_InvalidKnots_NotRight⟩) (
  allC (P := OOp K mg) (⟨_, _, L.c_InvalidKnots, L.c_InvalidText, L.oo_InvalidKnots_InvalidText⟩) (
  allC (P := OOp K mg) (⟨_, _, L.c_InvalidKnots, L.c_InvalidNumber, L.oo_InvalidKnots_InvalidNumber⟩) (
  allC (P := OOp K mg) (⟨_, _, L.c_InvalidKnots, L.c_InvalidName, L.oo_InvalidKnots_InvalidName⟩) (
  allC (P := OOp K mg) (⟨_, _, L.c_InvalidKnots, L.c_InvalidIndex, L.oo_InvalidKnots_InvalidIndex⟩) (
  allC (P := OOp K mg) (⟨_, _, L.c_InvalidKnots, L.c_InvalidDegree, L.oo_InvalidKnots_InvalidDegree⟩) (
  allC (P := OOp K mg) (⟨_, _, L.c_InvalidKnots, L.c_InvalidKnot, L.oo_InvalidKnots_InvalidKnot⟩) (
  allC (P := OOp K mg) (⟨_, _, L.c_InvalidKnots, L.c_InvalidClaim, L.oo_InvalidKnots_InvalidClaim⟩) (
  allC (P := OOp K mg) (⟨_, _, L.c_InvalidKnots, L.c_InvalidCommand, L.oo_InvalidKnots_InvalidCommand⟩) (
  allC (P := OOp K mg) (⟨_, _, L.c_InvalidKnots, L.c_NotAFrame, L.oo_InvalidKnots_NotAFrame⟩) (
  allC (P := OOp K mg) (⟨_, _, L.c_InvalidKnots, L.c_NotACurve, L.oo_InvalidKnots_NotACurve⟩) (
  allC (P := OOp K mg) (⟨_, _, L.c_InvalidKnots, L.c_InvalidKnots, L.oo_InvalidKnots_InvalidKnots⟩) (
  allC (P := OOp K mg) (⟨_, _, L.c_InvalidKnots, L.c_InvalidAmounts, L.oo_InvalidKnots_InvalidAmounts⟩) (
  allC (P := OOp K mg) (⟨_, _, L.c_InvalidKnots, L.c_InvalidPlaces, L.oo_InvalidKnots_InvalidPlaces⟩) (
  allC (P := OOp K mg) (⟨_, _, L.c_InvalidKnots, L.c_InvalidHeights, L.oo_InvalidKnots_InvalidHeights⟩) (
  allC (P := OOp K mg) (⟨_, _, L.c_InvalidKnots, L.c_InvalidOffers, L.oo_InvalidKnots_InvalidOffers⟩) (
  allC (P := OOp K mg) (⟨_, _, L.c_InvalidKnots, L.c_NotKnown, L.oo_InvalidKnots_NotKnown⟩) (
  allC (P := OOp K mg) (⟨_, _, L.c_InvalidKnots, L.c_UnknownName, L.oo_InvalidKnots_UnknownName⟩) (
  allC (P := OOp K mg) (⟨_, _, L.c_InvalidKnots, L.c_InUse, L.oo_InvalidKnots_InUse⟩) (
  allC (P := OOp K mg) (⟨_, _, L.c_InvalidKnots, L.c_NothingToUndo, L.oo_InvalidKnots_NothingToUndo⟩) (
  allC (P := OOp K mg) (⟨_, _, L.c_InvalidKnots, L.c_NotPossible, L.oo_InvalidKnots_NotPossible⟩) (
  allC (P := OOp K mg) (⟨_, _, L.c_InvalidKnots, L.c_TooMany, L.oo_InvalidKnots_TooMany⟩) (
  allC (P := OOp K mg) (⟨_, _, L.c_InvalidKnots, L.c_NotOne, L.oo_InvalidKnots_NotOne⟩) (
  allC (P := OOp K mg) (⟨_, _, L.c_InvalidKnots, L.c_Broken, L.oo_InvalidKnots_Broken⟩) (
  allC (P := OOp K mg) (⟨_, _, L.c_NotACurve, L.c_NotRight, L.oo_NotACurve_NotRight⟩) (
  allC (P := OOp K mg) (⟨_, _, L.c_NotACurve, L.c_InvalidText, L.oo_NotACurve_InvalidText⟩) (
  allC (P := OOp K mg) (⟨_, _, L.c_NotACurve, L.c_InvalidNumber, L.oo_NotACurve_InvalidNumber⟩) (
  allC (P := OOp K mg) (⟨_, _, L.c_NotACurve, L.c_InvalidName, L.oo_NotACurve_InvalidName⟩) (
  allC (P := OOp K mg) (⟨_, _, L.c_NotACurve, L.c_InvalidIndex, L.oo_NotACurve_InvalidIndex⟩) (
  allC (P := OOp K mg) (⟨_, _, L.c_NotACurve, L.c_InvalidDegree, L.oo_NotACurve_InvalidDegree⟩) (
  allC (P := OOp K mg) (⟨_, _, L.c_NotACurve, L.c_InvalidKnot, L.oo_NotACurve_InvalidKnot⟩) (
  allC (P := OOp K mg) (⟨_, _, L.c_NotACurve, L.c_InvalidClaim, L.oo_NotACurve_InvalidClaim⟩) (
  allC (P := OOp K mg) (⟨_, _, L.c_NotACurve, L.c_InvalidCommand, L.oo_NotACurve_InvalidCommand⟩) (
  allC (P := OOp K mg) (⟨_, _, L.c_NotACurve, L.c_NotAFrame, L.oo_NotACurve_NotAFrame⟩) (
  allC (P := OOp K mg) (⟨_, _, L.c_NotACurve, L.c_NotACurve, L.oo_NotACurve_NotACurve⟩) (
  allC (P := OOp K mg) (⟨_, _, L.c_NotACurve, L.c_InvalidKnots, L.oo_NotACurve_InvalidKnots⟩) (
  allC (P := OOp K mg) (⟨_, _, L.c_NotACurve, L.c_InvalidAmounts, L.oo_NotACurve_InvalidAmounts⟩) (
  allC (P := OOp K mg) (⟨_, _, L.c_NotACurve, L.c_InvalidPlaces, L.oo_NotACurve_InvalidPlaces⟩) (
  allC (P := OOp K mg) (⟨_, _, L.c_NotACurve, L.c_InvalidHeights, L.oo_NotACurve_InvalidHeights⟩) (
  allC (P := OOp K mg) (⟨_, _, L.c_NotACurve, L.c_InvalidOffers, L.oo_NotACurve_InvalidOffers⟩) (
  allC (P := OOp K mg) (⟨_, _, L.c_NotACurve, L.c_NotKnown, L.oo_NotACurve_NotKnown⟩) (
  allC (P := OOp K mg) (⟨_, _, L.c_NotACurve, L.c_UnknownName, L.oo_NotACurve_UnknownName⟩) (
  allC (P := OOp K mg) (⟨_, _, L.c_NotACurve, L.c_InUse, L.oo_NotACurve_InUse⟩) (
  allC (P := OOp K mg) (⟨_, _, L.c_NotACurve, L.c_NothingToUndo, L.oo_NotACurve_NothingToUndo⟩) (
  allC (P := OOp K mg) (⟨_, _, L.c_NotACurve, L.c_NotPossible, L.oo_NotACurve_NotPossible⟩) (
  allC (P := OOp K mg) (⟨_, _, L.c_NotACurve, L.c_TooMany, L.oo_NotACurve_TooMany⟩) (
  allC (P := OOp K mg) (⟨_, _, L.c_NotACurve, L.c_NotOne, L.oo_NotACurve_NotOne⟩) (
  allC (P := OOp K mg) (⟨_, _, L.c_NotACurve, L.c_Broken, L.oo_NotACurve_Broken⟩) (
  allC (P := OOp K mg) (⟨_, _, L.c_NotAFrame, L.c_NotRight, L.oo_NotAFrame_NotRight⟩) (
  allC (P := OOp K mg) (⟨_, _, L.c_NotAFrame, L.c_InvalidText, L.oo_NotAFrame_InvalidText⟩) (
  allC (P := OOp K mg) (⟨_, _, L.c_NotAFrame, L.c_InvalidNumber, L.oo_NotAFrame_InvalidNumber⟩) (
  allC (P := OOp K mg) (⟨_, _, L.c_NotAFrame, L.c_InvalidName, L.oo_NotAFrame_InvalidName⟩) (
  allC (P := OOp K mg) (⟨_, _, L.c_NotAFrame, L.c_InvalidIndex, L.oo_NotAFrame_InvalidIndex⟩) (
  allC (P := OOp K mg) (⟨_, _, L.c_NotAFrame, L.c_InvalidDegree, L.oo_NotAFrame_InvalidDegree⟩) (
  allC (P := OOp K mg) (⟨_, _, L.c_NotAFrame, L.c_InvalidKnot, L.oo_NotAFrame_InvalidKnot⟩) (
  allC (P := OOp K mg) (⟨_, _, L.c_NotAFrame, L.c_InvalidClaim, L.oo_NotAFrame_InvalidClaim⟩) (
  allC (P := OOp K mg) (⟨_, _, L.c_NotAFrame, L.c_InvalidCommand, L.oo_NotAFrame_InvalidCommand⟩) (
  allC (P := OOp K mg) (⟨_, _, L.c_NotAFrame, L.c_NotAFrame, L.oo_NotAFrame_NotAFrame⟩) (
  allC (P := OOp K mg) (⟨_, _, L.c_NotAFrame, L.c_NotACurve, L.oo_NotAFrame_NotACurve⟩) (
  allC (P := OOp K mg) (⟨_, _, L.c_NotAFrame, L.c_InvalidKnots, L.oo_NotAFrame_InvalidKnots⟩) (
  allC (P := OOp K mg) (⟨_, _, L.c_NotAFrame, L.c_InvalidAmounts, L.oo_NotAFrame_InvalidAmounts⟩) (
  allC (P := OOp K mg) (⟨_, _, L.c_NotAFrame, L.c_InvalidPlaces, L.oo_NotAFrame_InvalidPlaces⟩) (
  allC (P := OOp K mg) (⟨_, _, L.c_NotAFrame, L.c_InvalidHeights, L.oo_NotAFrame_InvalidHeights⟩) (
  allC (P := OOp K mg) (⟨_, _, L.c_NotAFrame, L.c_InvalidOffers, L.oo_NotAFrame_InvalidOffers⟩) (
  allC (P := OOp K mg) (⟨_, _, L.c_NotAFrame, L.c_NotKnown, L.oo_NotAFrame_NotKnown⟩) (
  allC (P := OOp K mg) (⟨_, _, L.c_NotAFrame, L.c_UnknownName, L.oo_NotAFrame_UnknownName⟩) (
  allC (P := OOp K mg) (⟨_, _, L.c_NotAFrame, L.c_InUse, L.oo_NotAFrame_InUse⟩) (
  allC (P := OOp K mg) (⟨_, _, L.c_NotAFrame, L.c_NothingToUndo, L.oo_NotAFrame_NothingToUndo⟩) (
  allC (P := OOp K mg) (⟨_, _, L.c_NotAFrame, L.c_NotPossible, L.oo_NotAFrame_NotPossible⟩) (
  allC (P := OOp K mg) (⟨_, _, L.c_NotAFrame, L.c_TooMany, L.oo_NotAFrame_TooMany⟩) (
  allC (P := OOp K mg) (⟨_, _, L.c_NotAFrame, L.c_NotOne, L.oo_NotAFrame_NotOne⟩) (
  allC (P := OOp K mg) (⟨_, _, L.c_NotAFrame, L.c_Broken, L.oo_NotAFrame_Broken⟩) (
  allC (P := OOp K mg) (⟨_, _, L.c_InvalidCommand, L.c_NotRight, L.oo_InvalidCommand_NotRight⟩) (
  allC (P := OOp K mg) (⟨_, _, L.c_InvalidCommand, L.c_InvalidText, L.oo_InvalidCommand_InvalidText⟩) (
  allC (P := OOp K mg) (⟨_, _, L.c_InvalidCommand, L.c_InvalidNumber, L.oo_InvalidCommand_InvalidNumber⟩) (
  allC (P := OOp K mg) (⟨_, _, L.c_InvalidCommand, L.c_InvalidName, L.oo_InvalidCommand_InvalidName⟩) (
  allC (P := OOp K mg) (⟨_, _, L.c_InvalidCommand, L.c_InvalidIndex, L.oo_InvalidCommand_InvalidIndex⟩) (
  allC (P := OOp K mg) (⟨_, _, L.c_InvalidCommand, L.c_InvalidDegree, L.oo_InvalidCommand_InvalidDegree⟩) (
  allC (P := OOp K mg) (⟨_, _, L.c_InvalidCommand, L.c_InvalidKnot, L.oo_InvalidCommand_InvalidKnot⟩) (
  allC (P := OOp K mg) (⟨_, _, L.c_InvalidCommand, L.c_InvalidClaim, L.oo_InvalidCommand_InvalidClaim⟩) (
  allC (P := OOp K mg) (⟨_, _, L.c_InvalidCommand, L.c_InvalidCommand, L.oo_InvalidCommand_InvalidCommand⟩) (
  allC (P := OOp K mg) (⟨_, _, L.c_InvalidCommand, L.c_NotAFrame, L.oo_InvalidCommand_NotAFrame⟩) (
  allC (P := OOp K mg) (⟨_, _, L.c_InvalidCommand, L.c_NotACurve, L.oo_InvalidCommand_NotACurve⟩) (
  allC (P := OOp K mg) (⟨_, _, L.c_InvalidCommand, L.c_InvalidKnots, L.oo_InvalidCommand_InvalidKnots⟩) (
  allC (P := OOp K mg) (⟨_, _, L.c_InvalidCommand, L.c_InvalidAmounts, L.oo_InvalidCommand_InvalidAmounts⟩) (
  allC (P := OOp K mg) (⟨_, _, L.c_InvalidCommand, L.c_InvalidPlaces, L.oo_InvalidCommand_InvalidPlaces⟩) (
  allC (P := OOp K mg) (⟨_, _, L.c_InvalidCommand, L.c_InvalidHeights, L.oo_InvalidCommand_InvalidHeights⟩) (
  allC (P := OOp K mg) (⟨_, _, L.c_InvalidCommand, L.c_InvalidOffers, L.oo_InvalidCommand_InvalidOffers⟩) (
  allC (P := OOp K mg) (⟨_, _, L.c_InvalidCommand, L.c_NotKnown, L.oo_InvalidCommand_NotKnown⟩) (
  allC (P := OOp K mg) (⟨_, _, L.c_InvalidCommand, L.c_UnknownName, L.oo_InvalidCommand_UnknownName⟩) (
  allC (P := OOp K mg) (⟨_, _, L.c_InvalidCommand, L.c_InUse, L.oo_InvalidCommand_InUse⟩) (
  allC (P := OOp K mg) (⟨_, _, L.c_InvalidCommand, L.c_NothingToUndo, L.oo_InvalidCommand_NothingToUndo⟩) (
  allC (P := OOp K mg) (⟨_, _, L.c_InvalidCommand, L.c_NotPossible, L.oo_InvalidCommand_NotPossible⟩) (
  allC (P := OOp K mg) (⟨_, _, L.c_InvalidCommand, L.c_TooMany, L.oo_InvalidCommand_TooMany⟩) (
  allC (P := OOp K mg) (⟨_, _, L.c_InvalidCommand, L.c_NotOne, L.oo_InvalidCommand_NotOne⟩) (
  allC (P := OOp K mg) (⟨_, _, L.c_InvalidCommand, L.c_Broken, L.oo_InvalidCommand_Broken⟩) (
  allC (P := OOp K mg) (⟨_, _, L.c_InvalidClaim, L.c_NotRight, L.oo_InvalidClaim_NotRight⟩) (
  allC (P := OOp K mg) (⟨_, _, L.c_InvalidClaim, L.c_InvalidText, L.oo_InvalidClaim_InvalidText⟩) (
  allC (P := OOp K mg) (⟨_, _, L.c_InvalidClaim, L.c_InvalidNumber, L.oo_InvalidClaim_InvalidNumber⟩) (
  allC (P := OOp K mg) (⟨_, _, L.c_InvalidClaim, L.c_InvalidName, L.oo_InvalidClaim_InvalidName⟩) (
  allC (P := OOp K mg) (⟨_, _, L.c_InvalidClaim, L.c_InvalidIndex, L.oo_InvalidClaim_InvalidIndex⟩) (
  allC (P := OOp K mg) (⟨_, _, L.c_InvalidClaim, L.c_InvalidDegree, L.oo_InvalidClaim_InvalidDegree⟩) (
  allC (P := OOp K mg) (⟨_, _, L.c_InvalidClaim, L.c_InvalidKnot, L.oo_InvalidClaim_InvalidKnot⟩) (
  allC (P := OOp K mg) (⟨_, _, L.c_InvalidClaim, L.c_InvalidClaim, L.oo_InvalidClaim_InvalidClaim⟩) (
  allC (P := OOp K mg) (⟨_, _, L.c_InvalidClaim, L.c_InvalidCommand, L.oo_InvalidClaim_InvalidCommand⟩) (
  allC (P := OOp K mg) (⟨_, _, L.c_InvalidClaim, L.c_NotAFrame, L.oo_InvalidClaim_NotAFrame⟩) (
  allC (P := OOp K mg) (⟨_, _, L.c_InvalidClaim, L.c_NotACurve, L.oo_InvalidClaim_NotACurve⟩) (
  allC (P := OOp K mg) (⟨_, _, L.c_InvalidClaim, L.c_InvalidKnots, L.oo_InvalidClaim_InvalidKnots⟩) (
  allC (P := OOp K mg) (⟨_, _, L.c_InvalidClaim, L.c_InvalidAmounts, L.oo_InvalidClaim_InvalidAmounts⟩) (
  allC (P := OOp K mg) (⟨_, _, L.c_InvalidClaim, L.c_InvalidPlaces, L.oo_InvalidClaim_InvalidPlaces⟩) (
  allC (P := OOp K mg) (⟨_, _, L.c_InvalidClaim, L.c_InvalidHeights, L.oo_InvalidClaim_InvalidHeights⟩) (
  allC (P := OOp K mg) (⟨_, _, L.c_InvalidClaim, L.c_InvalidOffers, L.oo_InvalidClaim_InvalidOffers⟩) (
  allC (P := OOp K mg) (⟨_, _, L.c_InvalidClaim, L.c_NotKnown, L.oo_InvalidClaim_NotKnown⟩) (
  allC (P := OOp K mg) (⟨_, _, L.c_InvalidClaim, L.c_UnknownName, L.oo_InvalidClaim_UnknownName⟩) (
  allC (P := OOp K mg) (⟨_, _, L.c_InvalidClaim, L.c_InUse, L.oo_InvalidClaim_InUse⟩) (
  allC (P := OOp K mg) (⟨_, _, L.c_InvalidClaim, L.c_NothingToUndo, L.oo_InvalidClaim_NothingToUndo⟩) (
  allC (P := OOp K mg) (⟨_, _, L.c_InvalidClaim, L.c_NotPossible, L.oo_InvalidClaim_NotPossible⟩) (
  allC (P := OOp K mg) (⟨_, _, L.c_InvalidClaim, L.c_TooMany, L.oo_InvalidClaim_TooMany⟩) (
  allC (P := OOp K mg) (⟨_, _, L.c_InvalidClaim, L.c_NotOne, L.oo_InvalidClaim_NotOne⟩) (
  allC (P := OOp K mg) (⟨_, _, L.c_InvalidClaim, L.c_Broken, L.oo_InvalidClaim_Broken⟩) (
  allC (P := OOp K mg) (⟨_, _, L.c_InvalidKnot, L.c_NotRight, L.oo_InvalidKnot_NotRight⟩) (
  allC (P := OOp K mg) (⟨_, _, L.c_InvalidKnot, L.c_InvalidText, L.oo_InvalidKnot_InvalidText⟩) (
  allC (P := OOp K mg) (⟨_, _, L.c_InvalidKnot, L.c_InvalidNumber, L.oo_InvalidKnot_InvalidNumber⟩) (
  allC (P := OOp K mg) (⟨_, _, L.c_InvalidKnot, L.c_InvalidName, L.oo_InvalidKnot_InvalidName⟩) (
  allC (P := OOp K mg) (⟨_, _, L.c_InvalidKnot, L.c_InvalidIndex, L.oo_InvalidKnot_InvalidIndex⟩) (
  allC (P := OOp K mg) (⟨_, _, L.c_InvalidKnot, L.c_InvalidDegree, L.oo_InvalidKnot_InvalidDegree⟩) (
  allC (P := OOp K mg) (⟨_, _, L.c_InvalidKnot, L.c_InvalidKnot, L.oo_InvalidKnot_InvalidKnot⟩) (
  allC (P := OOp K mg) (⟨_, _, L.c_InvalidKnot, L.c_InvalidClaim, L.oo_InvalidKnot_InvalidClaim⟩) (
  allC (P := OOp K mg) (⟨_, _, L.c_InvalidKnot, L.c_InvalidCommand, L.oo_InvalidKnot_InvalidCommand⟩) (
  allC (P := OOp K mg) (⟨_, _, L.c_InvalidKnot, L.c_NotAFrame, L.oo_InvalidKnot_NotAFrame⟩) (
  allC (P := OOp K mg) (⟨_, _, L.c_InvalidKnot, L.c_NotACurve, L.oo_InvalidKnot_NotACurve⟩) (
  allC (P := OOp K mg) (⟨_, _, L.c_InvalidKnot, L.c_InvalidKnots, L.oo_InvalidKnot_InvalidKnots⟩) (
  allC (P := OOp K mg) (⟨_, _, L.c_InvalidKnot, L.c_InvalidAmounts, L.oo_InvalidKnot_InvalidAmounts⟩) (
  allC (P := OOp K mg) (⟨_, _, L.c_InvalidKnot, L.c_InvalidPlaces, L.oo_InvalidKnot_InvalidPlaces⟩) (
  allC (P := OOp K mg) (⟨_, _, L.c_InvalidKnot, L.c_InvalidHeights, L.oo_InvalidKnot_InvalidHeights⟩) (
  allC (P := OOp K mg) (⟨_, _, L.c_InvalidKnot, L.c_InvalidOffers, L.oo_InvalidKnot_InvalidOffers⟩) (
  allC (P := OOp K mg) (⟨_, _, L.c_InvalidKnot, L.c_NotKnown, L.oo_InvalidKnot_NotKnown⟩) (
  allC (P := OOp K mg) (⟨_, _, L.c_InvalidKnot, L.c_UnknownName, L.oo_InvalidKnot_UnknownName⟩) (
  allC (P := OOp K mg) (⟨_, _, L.c_InvalidKnot, L.c_InUse, L.oo_InvalidKnot_InUse⟩) (
  allC (P := OOp K mg) (⟨_, _, L.c_InvalidKnot, L.c_NothingToUndo, L.oo_InvalidKnot_NothingToUndo⟩) (
  allC (P := OOp K mg) (⟨_, _, L.c_InvalidKnot, L.c_NotPossible, L.oo_InvalidKnot_NotPossible⟩) (
  allC (P := OOp K mg) (⟨_, _, L.c_InvalidKnot, L.c_TooMany, L.oo_InvalidKnot_TooMany⟩) (
  allC (P := OOp K mg) (⟨_, _, L.c_InvalidKnot, L.c_NotOne, L.oo_InvalidKnot_NotOne⟩) (
  allC (P := OOp K mg) (⟨_, _, L.c_InvalidKnot, L.c_Broken, L.oo_InvalidKnot_Broken⟩) (
  allC (P := OOp K mg) (⟨_, _, L.c_InvalidDegree, L.c_NotRight, L.oo_InvalidDegree_NotRight⟩) (
  allC (P := OOp K mg) (⟨_, _, L.c_InvalidDegree, L.c_InvalidText, L.oo_InvalidDegree_InvalidText⟩) (
  allC (P := OOp K mg) (⟨_, _, L.c_InvalidDegree, L.c_InvalidNumber, L.oo_InvalidDegree_InvalidNumber⟩) (
  allC (P := OOp K mg) (⟨_, _, L.c_InvalidDegree, L.c_InvalidName, L.oo_InvalidDegree_InvalidName⟩) (
  allC (P := OOp K mg) (⟨_, _, L.c_InvalidDegree, L.c_InvalidIndex, L.oo_InvalidDegree_InvalidIndex⟩) (
  allC (P := OOp K mg) (⟨_, _, L.c_InvalidDegree, L.c_InvalidDegree, L.oo_InvalidDegree_InvalidDegree⟩) (
  allC (P := OOp K mg) (⟨_, _, L.c_InvalidDegree, L.c_InvalidKnot, L.oo_InvalidDegree_InvalidKnot⟩) (
  allC (P := OOp K mg) (⟨_, _, L.c_InvalidDegree, L.c_InvalidClaim, L.oo_InvalidDegree_InvalidClaim⟩) (
  allC (P := OOp K mg) (⟨_, _, L.c_InvalidDegree, L.c_InvalidCommand, L.oo_InvalidDegree_InvalidCommand⟩) (
  allC (P := OOp K mg) (⟨_, _, L.c_InvalidDegree, L.c_NotAFrame, L.oo_InvalidDegree_NotAFrame⟩) (
  allC (P := OOp K mg) (⟨_, _, L.c_InvalidDegree, L.c_NotACurve, L.oo_InvalidDegree_NotACurve⟩) (
  allC (P := OOp K mg) (⟨_, _, L.c_InvalidDegree, L.c_InvalidKnots, L.oo_InvalidDegree_InvalidKnots⟩) (
  allC (P := OOp K mg) (⟨_, _, L.c_InvalidDegree, L.c_InvalidAmounts, L.oo_InvalidDegree_InvalidAmounts⟩) (
  allC (P := OOp K mg) (⟨_, _, L.c_InvalidDegree, L.c_InvalidPlaces, L.oo_InvalidDegree_InvalidPlaces⟩) (
  allC (P := OOp K mg) (⟨_, _, L.c_InvalidDegree, L.c_InvalidHeights, L.oo_InvalidDegree_InvalidHeights⟩) (
  allC (P := OOp K mg) (⟨_, _, L.c_InvalidDegree, L.c_InvalidOffers, L.oo_InvalidDegree_InvalidOffers⟩) (
  allC (P := OOp K mg) (⟨_, _, L.c_InvalidDegree, L.c_NotKnown, L.oo_InvalidDegree_NotKnown⟩) (
  allC (P := OOp K mg) (⟨_, _, L.c_InvalidDegree, L.c_UnknownName, L.oo_InvalidDegree_UnknownName⟩) (
  allC (P := OOp K mg) (⟨_, _, L.c_InvalidDegree, L.c_InUse, L.oo_InvalidDegree_InUse⟩) (
  allC (P := OOp K mg) (⟨_, _, L.c_InvalidDegree, L.c_NothingToUndo, L.oo_InvalidDegree_NothingToUndo⟩) (
  allC (P := OOp K mg) (⟨_, _, L.c_InvalidDegree, L.c_NotPossible, L.oo_InvalidDegree_NotPossible⟩) (
  allC (P := OOp K mg) (⟨_, _, L.c_InvalidDegree, L.c_TooMany, L.oo_InvalidDegree_TooMany⟩) (
  allC (P := OOp K mg) (⟨_, _, L.c_InvalidDegree, L.c_NotOne, L.oo_InvalidDegree_NotOne⟩) (
  allC (P := OOp K mg) (⟨_, _, L.c_InvalidDegree, L.c_Broken, L.oo_InvalidDegree_Broken⟩) (
  allC (P := OOp K mg) (⟨_, _, L.c_InvalidIndex, L.c_NotRight, L.oo_InvalidIndex_NotRight⟩) (
  allC (P := OOp K mg) (⟨_, _, L.c_InvalidIndex, L.c_InvalidText, L.oo_InvalidIndex_InvalidText⟩) (
  allC (P := OOp K mg) (⟨_, _, L.c_InvalidIndex, L.c_InvalidNumber, L.oo_InvalidIndex_InvalidNumber⟩) (
  allC (P := OOp K mg) (⟨_, _, L.c_InvalidIndex, L.c_InvalidName, L.oo_InvalidIndex_InvalidName⟩) (
  allC (P := OOp K mg) (⟨_, _, L.c_InvalidIndex, L.c_InvalidIndex, L.oo_InvalidIndex_InvalidIndex⟩) (
  allC (P := OOp K mg) (⟨_, _, L.c_InvalidIndex, L.c_InvalidDegree, L.oo_InvalidIndex_InvalidDegree⟩) (
  allC (P := OOp K mg) (⟨_, _, L.c_InvalidIndex, L.c_InvalidKnot, L.oo_InvalidIndex_InvalidKnot⟩) (
  allC (P := OOp K mg) (⟨_, _, L.c_InvalidIndex, L.c_InvalidClaim, L.oo_InvalidIndex_InvalidClaim⟩) (
  allC (P := OOp K mg) (⟨_, _, L.c_InvalidIndex, L.c_InvalidCommand, L.oo_InvalidIndex_InvalidCommand⟩) (
  allC (P := OOp K mg) (⟨_, _, L.c_InvalidIndex, L.c_NotAFrame, L.oo_InvalidIndex_NotAFrame⟩) (
  allC (P := OOp K mg) (⟨_, _, L.c_InvalidIndex, L.c_NotACurve, L.oo_InvalidIndex_NotACurve⟩) (
  allC (P := OOp K mg) (⟨_, _, L.c_InvalidIndex, L.c_InvalidKnots, L.oo_InvalidIndex_InvalidKnots⟩) (
  allC (P := OOp K mg) (⟨_, _, L.c_InvalidIndex, L.c_InvalidAmounts, L.oo_InvalidIndex_InvalidAmounts⟩) (
  allC (P := OOp K mg) (⟨_, _, L.c_InvalidIndex, L.c_InvalidPlaces, L.oo_InvalidIndex_InvalidPlaces⟩) (
  allC (P := OOp K mg) (⟨_, _, L.c_InvalidIndex, L.c_InvalidHeights, L.oo_InvalidIndex_InvalidHeights⟩) (
  allC (P := OOp K mg) (⟨_, _, L.c_InvalidIndex, L.c_InvalidOffers, L.oo_InvalidIndex_InvalidOffers⟩) (
  allC (P := OOp K mg) (⟨_, _, L.c_InvalidIndex, L.c_NotKnown, L.oo_InvalidIndex_NotKnown⟩) (
  allC (P := OOp K mg) (⟨_, _, L.c_InvalidIndex, L.c_UnknownName, L.oo_InvalidIndex_UnknownName⟩) (
  allC (P := OOp K mg) (⟨_, _, L.c_InvalidIndex, L.c_InUse, L.oo_InvalidIndex_InUse⟩) (
  allC (P := OOp K mg) (⟨_, _, L.c_InvalidIndex, L.c_NothingToUndo, L.oo_InvalidIndex_NothingToUndo⟩) (
  allC (P := OOp K mg) (⟨_, _, L.c_InvalidIndex, L.c_NotPossible, L.oo_InvalidIndex_NotPossible⟩) (
  allC (P := OOp K mg) (⟨_, _, L.c_InvalidIndex, L.c_TooMany, L.oo_InvalidIndex_TooMany⟩) (
  allC (P := OOp K mg) (⟨_, _, L.c_InvalidIndex, L.c_NotOne, L.oo_InvalidIndex_NotOne⟩) (
  allC (P := OOp K mg) (⟨_, _, L.c_InvalidIndex, L.c_Broken, L.oo_InvalidIndex_Broken⟩) (
  allC (P := OOp K mg) (⟨_, _, L.c_InvalidName, L.c_NotRight, L.oo_InvalidName_NotRight⟩) (
  allC (P := OOp K mg) (⟨_, _, L.c_InvalidName, L.c_InvalidText, L.oo_InvalidName_InvalidText⟩) (
  allC (P := OOp K mg) (⟨_, _, L.c_InvalidName, L.c_InvalidNumber, L.oo_InvalidName_InvalidNumber⟩) (
  allC (P := OOp K mg) (⟨_, _, L.c_InvalidName, L.c_InvalidName, L.oo_InvalidName_InvalidName⟩) (
  allC (P := OOp K mg) (⟨_, _, L.c_InvalidName, L.c_InvalidIndex, L.oo_InvalidName_InvalidIndex⟩) (
  allC (P := OOp K mg) (⟨_, _, L.c_InvalidName, L.c_InvalidDegree, L.oo_InvalidName_InvalidDegree⟩) (
  allC (P := OOp K mg) (⟨_, _, L.c_InvalidName, L.c_InvalidKnot, L.oo_InvalidName_InvalidKnot⟩) (
  allC (P := OOp K mg) (⟨_, _, L.c_InvalidName, L.c_InvalidClaim, L.oo_InvalidName_InvalidClaim⟩) (
  allC (P := OOp K mg) (⟨_, _, L.c_InvalidName, L.c_InvalidCommand, L.oo_InvalidName_InvalidCommand⟩) (
  allC (P := OOp K mg) (⟨_, _, L.c_InvalidName, L.c_NotAFrame, L.oo_InvalidName_NotAFrame⟩) (
  allC (P := OOp K mg) (⟨_, _, L.c_InvalidName, L.c_NotACurve, L.oo_InvalidName_NotACurve⟩) (
  allC (P := OOp K mg) (⟨_, _, L.c_InvalidName, L.c_InvalidKnots, L.oo_InvalidName_InvalidKnots⟩) (
  allC (P := OOp K mg) (⟨_, _, L.c_InvalidName, L.c_InvalidAmounts, L.oo_InvalidName_InvalidAmounts⟩) (
  allC (P := OOp K mg) (⟨_, _, L.c_InvalidName, L.c_InvalidPlaces, L.oo_InvalidName_InvalidPlaces⟩) (
  allC (P := OOp K mg) (⟨_, _, L.c_InvalidName, L.c_InvalidHeights, L.oo_InvalidName_InvalidHeights⟩) (
  allC (P := OOp K mg) (⟨_, _, L.c_InvalidName, L.c_InvalidOffers, L.oo_InvalidName_InvalidOffers⟩) (
  allC (P := OOp K mg) (⟨_, _, L.c_InvalidName, L.c_NotKnown, L.oo_InvalidName_NotKnown⟩) (
  allC (P := OOp K mg) (⟨_, _, L.c_InvalidName, L.c_UnknownName, L.oo_InvalidName_UnknownName⟩) (
  allC (P := OOp K mg) (⟨_, _, L.c_InvalidName, L.c_InUse, L.oo_InvalidName_InUse⟩) (
  allC (P := OOp K mg) (⟨_, _, L.c_InvalidName, L.c_NothingToUndo, L.oo_InvalidName_NothingToUndo⟩) (
  allC (P := OOp K mg) (⟨_, _, L.c_InvalidName, L.c_NotPossible, L.oo_InvalidName_NotPossible⟩) (
  allC (P := OOp K mg) (⟨_, _, L.c_InvalidName, L.c_TooMany, L.oo_InvalidName_TooMany⟩) (
  allC (P := OOp K mg) (⟨_, _, L.c_InvalidName, L.c_NotOne, L.oo_InvalidName_NotOne⟩) (
  allC (P := OOp K mg) (⟨_, _, L.c_InvalidName, L.c_Broken, L.oo_InvalidName_Broken⟩) (
  allC (P := OOp K mg) (⟨_, _, L.c_InvalidNumber, L.c_NotRight, L.oo_InvalidNumber_NotRight⟩) (
  allC (P := OOp K mg) (⟨_, _, L.c_InvalidNumber, L.c_InvalidText, L.oo_InvalidNumber_InvalidText⟩) (
  allC (P := OOp K mg) (⟨_, _, L.c_InvalidNumber, L.c_InvalidNumber, L.oo_InvalidNumber_InvalidNumber⟩) (
  allC (P := OOp K mg) (⟨_, _, L.c_InvalidNumber, L.c_InvalidName, L.oo_InvalidNumber_InvalidName⟩) (
  allC (P := OOp K mg) (⟨_, _, L.c_InvalidNumber, L.c_InvalidIndex, L.oo_InvalidNumber_InvalidIndex⟩) (
  allC (P := OOp K mg) (⟨_, _, L.c_InvalidNumber, L.c_InvalidDegree, L.oo_InvalidNumber_InvalidDegree⟩) (
  allC (P := OOp K mg) (⟨_, _, L.c_InvalidNumber, L.c_InvalidKnot, L.oo_InvalidNumber_InvalidKnot⟩) (
  allC (P := OOp K mg) (⟨_, _, L.c_InvalidNumber, L.c_InvalidClaim, L.oo_InvalidNumber_InvalidClaim⟩) (
  allC (P := OOp K mg) (⟨_, _, L.c_InvalidNumber, L.c_InvalidCommand, L.oo_InvalidNumber_InvalidCommand⟩) (
  allC (P := OOp K mg) (⟨_, _, L.c_InvalidNumber, L.c_NotAFrame, L.oo_InvalidNumber_NotAFrame⟩) (
  allC (P := OOp K mg) (⟨_, _, L.c_InvalidNumber, L.c_NotACurve, L.oo_InvalidNumber_NotACurve⟩) (
  allC (P := OOp K mg) (⟨_, _, L.c_InvalidNumber, L.c_InvalidKnots, L.oo_InvalidNumber_InvalidKnots⟩) (
  allC (P := OOp K mg) (⟨_, _, L.c_InvalidNumber, L.c_InvalidAmounts, L.oo_InvalidNumber_InvalidAmounts⟩) (
  allC (P := OOp K mg) (⟨_, _, L.c_InvalidNumber, L.c_InvalidPlaces, L.oo_InvalidNumber_InvalidPlaces⟩) (
  allC (P := OOp K mg) (⟨_, _, L.c_InvalidNumber, L.c_InvalidHeights, L.oo_InvalidNumber_InvalidHeights⟩) (
  allC (P := OOp K mg) (⟨_, _, L.c_InvalidNumber, L.c_InvalidOffers, L.oo_InvalidNumber_InvalidOffers⟩) (
  allC (P := OOp K mg) (⟨_, _, L.c_InvalidNumber, L.c_NotKnown, L.oo_InvalidNumber_NotKnown⟩) (
  allC (P := OOp K mg) (⟨_, _, L.c_InvalidNumber, L.c_UnknownName, L.oo_InvalidNumber_UnknownName⟩) (
  allC (P := OOp K mg) (⟨_, _, L.c_InvalidNumber, L.c_InUse, L.oo_InvalidNumber_InUse⟩) (
  allC (P := OOp K mg) (⟨_, _, L.c_InvalidNumber, L.c_NothingToUndo, L.oo_InvalidNumber_NothingToUndo⟩) (
  allC (P := OOp K mg) (⟨_, _, L.c_InvalidNumber, L.c_NotPossible, L.oo_InvalidNumber_NotPossible⟩) (
  allC (P := OOp K mg) (⟨_, _, L.c_InvalidNumber, L.c_TooMany, L.oo_InvalidNumber_TooMany⟩) (
  allC (P := OOp K mg) (⟨_, _, L.c_InvalidNumber, L.c_NotOne, L.oo_InvalidNumber_NotOne⟩) (
  allC (P := OOp K mg) (⟨_, _, L.c_InvalidNumber, L.c_Broken, L.oo_InvalidNumber_Broken⟩) (
  allC (P := OOp K mg) (⟨_, _, L.c_InvalidText, L.c_NotRight, L.oo_InvalidText_NotRight⟩) (
  allC (P := OOp K mg) (⟨_, _, L.c_InvalidText, L.c_InvalidText, L.oo_InvalidText_InvalidText⟩) (
  allC (P := OOp K mg) (⟨_, _, L.c_InvalidText, L.c_InvalidNumber, L.oo_InvalidText_InvalidNumber⟩) (
  allC (P := OOp K mg) (⟨_, _, L.c_InvalidText, L.c_InvalidName, L.oo_InvalidText_InvalidName⟩) (
  allC (P := OOp K mg) (⟨_, _, L.c_InvalidText, L.c_InvalidIndex, L.oo_InvalidText_InvalidIndex⟩) (
  allC (P := OOp K mg) (⟨_, _, L.c_InvalidText, L.c_InvalidDegree, L.oo_InvalidText_InvalidDegree⟩) (
  allC (P := OOp K mg) (⟨_, _, L.c_InvalidText, L.c_InvalidKnot, L.oo_InvalidText_InvalidKnot⟩) (
  allC (P := OOp K mg) (⟨_, _, L.c_InvalidText, L.c_InvalidClaim, L.oo_InvalidText_InvalidClaim⟩) (
  allC (P := OOp K mg) (⟨_, _, L.c_InvalidText, L.c_InvalidCommand, L.oo_InvalidText_InvalidCommand⟩) (
  allC (P := OOp K mg) (⟨_, _, L.c_InvalidText, L.c_NotAFrame, L.oo_InvalidText_NotAFrame⟩) (
  allC (P := OOp K mg) (⟨_, _, L.c_InvalidText, L.c_NotACurve, L.oo_InvalidText_NotACurve⟩) (
  allC (P := OOp K mg) (⟨_, _, L.c_InvalidText, L.c_InvalidKnots, L.oo_InvalidText_InvalidKnots⟩) (
  allC (P := OOp K mg) (⟨_, _, L.c_InvalidText, L.c_InvalidAmounts, L.oo_InvalidText_InvalidAmounts⟩) (
  allC (P := OOp K mg) (⟨_, _, L.c_InvalidText, L.c_InvalidPlaces, L.oo_InvalidText_InvalidPlaces⟩) (
  allC (P := OOp K mg) (⟨_, _, L.c_InvalidText, L.c_InvalidHeights, L.oo_InvalidText_InvalidHeights⟩) (
  allC (P := OOp K mg) (⟨_, _, L.c_InvalidText, L.c_InvalidOffers, L.oo_InvalidText_InvalidOffers⟩) (
  allC (P := OOp K mg) (⟨_, _, L.c_InvalidText, L.c_NotKnown, L.oo_InvalidText_NotKnown⟩) (
  allC (P := OOp K mg) (⟨_, _, L.c_InvalidText, L.c_UnknownName, L.oo_InvalidText_UnknownName⟩) (
  allC (P := OOp K mg) (⟨_, _, L.c_InvalidText, L.c_InUse, L.oo_InvalidText_InUse⟩) (
  allC (P := OOp K mg) (⟨_, _, L.c_InvalidText, L.c_NothingToUndo, L.oo_InvalidText_NothingToUndo⟩) (
  allC (P := OOp K mg) (⟨_, _, L.c_InvalidText, L.c_NotPossible, L.oo_InvalidText_NotPossible⟩) (
  allC (P := OOp K mg) (⟨_, _, L.c_InvalidText, L.c_TooMany, L.oo_InvalidText_TooMany⟩) (
  allC (P := OOp K mg) (⟨_, _, L.c_InvalidText, L.c_NotOne, L.oo_InvalidText_NotOne⟩) (
  allC (P := OOp K mg) (⟨_, _, L.c_InvalidText, L.c_Broken, L.oo_InvalidText_Broken⟩) (
  allN))))))))))))))))))))))))))))))))))))))))))))))))))))))))))))))))))))))))))))))))))))))))))))))))))))))))))))))))))))))))))))))))))))))))))))))))))))))))))))))))))))))))))))))))))))))))))))))))))))))))))))))))))))))))))))))))))))))))))))))))))))))))))))))))))))))))))))))))))))))))))))))))))))))))))))))))))))))))))))))))))))))))))))))))))))))))))))))))))))))))))))))))))))))))))))))))))))))))))))))))))))))))))))))))))))))))))))))))))))))))))))))))))))))))))))))))))))))))))))))))))))))))))))))))))))))))
abbrev OBp (K : PySem.W.Frag) (mg : Str → Option Value) (x : Str × String × Bool) : Prop := ∃ C, mg x.1 = some (.ref C) ∧ PySem.W.kitOne K (.ref C) (.type x.2.1) = some x.2.2
theorem ob_all (L : Lf K mg) : ∀ x ∈ obT, OBp K mg x :=
  allC (P := OBp K mg) (⟨_, L.c_Broken, L.ob_Broken_ValueError⟩) (
  allC (P := OBp K mg) (⟨_, L.c_Broken, L.ob_Broken_LookupError⟩) (
  allC (P := OBp K mg) (⟨_, L.c_Broken, L.ob_Broken_ArithmeticError⟩) (
  allC (P := OBp K mg) (⟨_, L.c_NotOne, L.ob_NotOne_ValueError⟩) (
  allC (P := OBp K mg) (⟨_, L.c_NotOne, L.ob_NotOne_LookupError⟩) (
  allC (P := OBp K mg) (⟨_, L.c_NotOne, L.ob_NotOne_ArithmeticError⟩) (
  allC (P := OBp K mg) (⟨_, L.c_TooMany, L.ob_TooMany_ValueError⟩) (
  allC (P := OBp K mg) (⟨_, L.c_TooMany, L.ob_TooMany_LookupError⟩) (
  allC (P := OBp K mg) (⟨_, L.c_TooMany, L.ob_TooMany_ArithmeticError⟩) (
  allC (P := OBp K mg) (⟨_, L.c_NothingToUndo, L.ob_NothingToUndo_ValueError⟩) (
  allC (P := OBp K mg) (⟨_, L.c_NothingToUndo, L.ob_NothingToUndo_LookupError⟩) (
  allC (P := OBp K mg) (⟨_, L.c_NothingToUndo, L.ob_NothingToUndo_ArithmeticError⟩) (
  allC (P := OBp K mg) (⟨_, L.c_InUse, L.ob_InUse_ValueError⟩) (
  allC (P := OBp K mg) (⟨_, L.c_InUse, L.ob_InUse_LookupError⟩) (
  allC (P := OBp K mg) (⟨_, L.c_InUse, L.ob_InUse_ArithmeticError⟩) (
  allC (P := OBp K mg) (⟨_, L.c_UnknownName, L.ob_UnknownName_ValueError⟩) (
  allC (P := OBp K mg) (⟨_, L.c_UnknownName, L.ob_UnknownName_LookupError⟩) (
  allC (P := OBp K mg) (⟨_, L.c_UnknownName, L.ob_UnknownName_ArithmeticError⟩) (
  allC (P := OBp K mg) (⟨_, L.c_InvalidOffers, L.ob_InvalidOffers_ValueError⟩) (
  allC (P := OBp K mg) (⟨_, L.c_InvalidOffers, L.ob_InvalidOffers_LookupError⟩) (
  allC (P := OBp K mg) (⟨_, L.c_InvalidOffers, L.ob_InvalidOffers_ArithmeticError⟩) (
  allC (P := OBp K mg) (⟨_, L.c_InvalidHeights, L.ob_InvalidHeights_ValueError⟩) (
  allC (P := OBp K mg) (⟨_, L.c_InvalidHeights, L.ob_InvalidHeights_LookupError⟩) (
  allC (P := OBp K mg) (⟨_, L.c_InvalidHeights, L.ob_InvalidHeights_ArithmeticError⟩) (
  allC (P := OBp K mg) (⟨_, L.c_InvalidPlaces, L.ob_InvalidPlaces_ValueError⟩) (
  allC (P := OBp K mg) (⟨_, L.c_InvalidPlaces, L.ob_InvalidPlaces_LookupError⟩) (
  allC (P := OBp K mg) (⟨_, L.c_InvalidPlaces, L.ob_InvalidPlaces_ArithmeticError⟩) (
  allC (P := OBp K mg) (⟨_, L.c_InvalidAmounts, L.ob_InvalidAmounts_ValueError⟩) (
  allC (P := OBp K mg) (⟨_, L.c_InvalidAmounts, L.ob_InvalidAmounts_LookupError⟩) (
  allC (P := OBp K mg) (⟨_, L.c_InvalidAmounts, L.ob_InvalidAmounts_ArithmeticError⟩) (
  allC (P := OBp K mg) (⟨_, L.c_InvalidKnots, L.ob_InvalidKnots_ValueError⟩) (
  allC (P := OBp K mg) (⟨_, L.c_InvalidKnots, L.ob_InvalidKnots_LookupError⟩) (
  allC (P := OBp K mg) (⟨_, L.c_InvalidKnots, L.ob_InvalidKnots_ArithmeticError⟩) (
  allC (P := OBp K mg) (⟨_, L.c_NotACurve, L.ob_NotACurve_ValueError⟩) (
  allC (P := OBp K mg) (⟨_, L.c_NotACurve, L.ob_NotACurve_LookupError⟩) (
  allC (P := OBp K mg) (⟨_, L.c_NotACurve, L.ob_NotACurve_ArithmeticError⟩) (
  allC (P := OBp K mg) (⟨_, L.c_NotAFrame, L.ob_NotAFrame_ValueError⟩) (
  allC (P := OBp K mg) (⟨_, L.c_NotAFrame, L.ob_NotAFrame_LookupError⟩) (
  allC (P := OBp K mg) (⟨_, L.c_NotAFrame, L.ob_NotAFrame_ArithmeticError⟩) (
  allC (P := OBp K mg) (⟨_, L.c_InvalidCommand, L.ob_InvalidCommand_ValueError⟩) (
  allC (P := OBp K mg) (⟨_, L.c_InvalidCommand, L.ob_InvalidCommand_LookupError⟩) (
  allC (P := OBp K mg) (⟨_, L.c_InvalidCommand, L.ob_InvalidCommand_ArithmeticError⟩) (
  allC (P := OBp K mg) (⟨_, L.c_InvalidClaim, L.ob_InvalidClaim_ValueError⟩) (
  allC (P := OBp K mg) (⟨_, L.c_InvalidClaim, L.ob_InvalidClaim_LookupError⟩) (
  allC (P := OBp K mg) (⟨_, L.c_InvalidClaim, L.ob_InvalidClaim_ArithmeticError⟩) (
  allC (P := OBp K mg) (⟨_, L.c_InvalidKnot, L.ob_InvalidKnot_ValueError⟩) (
  allC (P := OBp K mg) (⟨_, L.c_InvalidKnot, L.ob_InvalidKnot_LookupError⟩) (
  allC (P := OBp K mg) (⟨_, L.c_InvalidKnot, L.ob_InvalidKnot_ArithmeticError⟩) (
  allC (P := OBp K mg) (⟨_, L.c_InvalidDegree, L.ob_InvalidDegree_ValueError⟩) (
  allC (P := OBp K mg) (⟨_, L.c_InvalidDegree, L.ob_InvalidDegree_LookupError⟩) (
  allC (P := OBp K mg) (⟨_, L.c_InvalidDegree, L.ob_InvalidDegree_ArithmeticError⟩) (
  allC (P := OBp K mg) (⟨_, L.c_InvalidIndex, L.ob_InvalidIndex_ValueError⟩) (
  allC (P := OBp K mg) (⟨_, L.c_InvalidIndex, L.ob_InvalidIndex_LookupError⟩) (
  allC (P := OBp K mg) (⟨_, L.c_InvalidIndex, L.ob_InvalidIndex_ArithmeticError⟩) (
  allC (P := OBp K mg) (⟨_, L.c_InvalidName, L.ob_InvalidName_ValueError⟩) (
  allC (P := OBp K mg) (⟨_, L.c_InvalidName, L.ob_InvalidName_LookupError⟩) (
  allC (P := OBp K mg) (⟨_, L.c_InvalidName, L.ob_InvalidName_ArithmeticError⟩) (
  allC (P := OBp K mg) (⟨_, L.c_InvalidNumber, L.ob_InvalidNumber_ValueError⟩) (
  allC (P := OBp K mg) (⟨_, L.c_InvalidNumber, L.ob_InvalidNumber_LookupError⟩) (
  allC (P := OBp K mg) (⟨_, L.c_InvalidNumber, L.ob_InvalidNumber_ArithmeticError⟩) (
  allC (P := OBp K mg) (⟨_, L.c_InvalidText, L.ob_InvalidText_ValueError⟩) (
  allC (P := OBp K mg) (⟨_, L.c_InvalidText, L.ob_InvalidText_LookupError⟩) (
  allC (P := OBp K mg) (⟨_, L.c_InvalidText, L.ob_InvalidText_ArithmeticError⟩) (
  allN)))))))))))))))))))))))))))))))))))))))))))))))))))))))))))))))
abbrev CCp (K : PySem.W.Frag) (mg : Str → Option Value) (x : Str × Str × Bool) : Prop := ∃ C D, mg x.1 = some (.ref C) ∧ mg x.2.1 = some (.ref D) ∧ PySem.W.exmOne K (.ref C) (.ref D) = some x.2.2
theorem cc_all (L : Lf K mg) : ∀ x ∈ subT, CCp K mg x :=
  allC (P := CCp K mg) (⟨_, _, L.c_Broken, L.c_NotKnown, L.cc_Broken_NotKnown⟩) (
  allC (P := CCp K mg) (⟨_, _, L.c_Broken, L.c_NotPossible, L.cc_Broken_NotPossible⟩) (
  allC (P := CCp K mg) (⟨_, _, L.c_Broken, L.c_NotRight, L.cc_Broken_NotRight⟩) (
  allC (P := CCp K mg) (⟨_, _, L.c_NotOne, L.c_NotKnown, L.cc_NotOne_NotKnown⟩) (
  allC (P := CCp K mg) (⟨_, _, L.c_NotOne, L.c_NotPossible, L.cc_NotOne_NotPossible⟩) (
  allC (P := CCp K mg) (⟨_, _, L.c_NotOne, L.c_NotRight, L.cc_NotOne_NotRight⟩) (
  allC (P := CCp K mg) (⟨_, _, L.c_TooMany, L.c_NotKnown, L.cc_TooMany_NotKnown⟩) (
  allC (P := CCp K mg) (⟨_, _, L.c_TooMany, L.c_NotPossible, L.cc_TooMany_NotPossible⟩) (
  allC (P := CCp K mg) (⟨_, _, L.c_TooMany, L.c_NotRight, L.cc_TooMany_NotRight⟩) (
  allC (P := CCp K mg) (⟨_, _, L.c_NothingToUndo, L.c_NotKnown, L.cc_NothingToUndo_NotKnown⟩) (
  allC (P := CCp K mg) (⟨_, _, L.c_NothingToUndo, L.c_NotPossible, L.cc_NothingToUndo_NotPossible⟩) (
  allC (P := CCp K mg) (⟨_, _, L.c_NothingToUndo, L.c_NotRight, L.cc_NothingToUndo_NotRight⟩) (
  allC (P := CCp K mg) (⟨_, _, L.c_InUse, L.c_NotKnown, L.cc_InUse_NotKnown⟩) (
  allC (P := CCp K mg) (⟨_, _, L.c_InUse, L.c_NotPossible, L.cc_InUse_NotPossible⟩) (
  allC (P := CCp K mg) (⟨_, _, L.c_InUse, L.c_NotRight, L.cc_InUse_NotRight⟩) (
  allC (P := CCp K mg) (⟨_, _, L.c_UnknownName, L.c_NotKnown, L.cc_UnknownName_NotKnown⟩) (
  allC (P := CCp K mg) (⟨_, _, L.c_UnknownName, L.c_NotPossible, L.cc_UnknownName_NotPossible⟩) (
  allC (P := CCp K mg) (⟨_, _, L.c_UnknownName, L.c_NotRight, L.cc_UnknownName_NotRight⟩) (
  allC (P := CCp K mg) (⟨_, _, L.c_InvalidOffers, L.c_NotKnown, L.cc_InvalidOffers_NotKnown⟩) (
  allC (P := CCp K mg) (⟨_, _, L.c_InvalidOffers, L.c_NotPossible, L.cc_InvalidOffers_NotPossible⟩) (
  allC (P := CCp K mg) (⟨_, _, L.c_InvalidOffers, L.c_NotRight, L.cc_InvalidOffers_NotRight⟩) (
  allC (P := CCp K mg) (⟨_, _, L.c_InvalidHeights, L.c_NotKnown, L.cc_InvalidHeights_NotKnown⟩) (
  allC (P := CCp K mg) (⟨_, _, L.c_InvalidHeights, L.c_NotPossible, L.cc_InvalidHeights_NotPossible⟩) (
  allC (P := CCp K mg) (⟨_, _, L.c_InvalidHeights, L.c_NotRight, L.cc_InvalidHeights_NotRight⟩) (
  allC (P := CCp K mg) (⟨_, _, L.c_InvalidPlaces, L.c_NotKnown, L.cc_InvalidPlaces_NotKnown⟩) (
  allC (P := CCp K mg) (⟨_, _, L.c_InvalidPlaces, L.c_NotPossible, L.cc_InvalidPlaces_NotPossible⟩) (
  allC (P := CCp K mg) (⟨_, _, L.c_InvalidPlaces, L.c_NotRight, L.cc_InvalidPlaces_NotRight⟩) (
  allC (P := CCp K mg) (⟨_, _, L.c_InvalidAmounts, L.c_NotKnown, L.cc_InvalidAmounts_NotKnown⟩) (
  allC (P := CCp K mg) (⟨_, _, L.c_InvalidAmounts, L.c_NotPossible, L.cc_InvalidAmounts_NotPossible⟩) (
  allC (P := CCp K mg) (⟨_, _, L.c_InvalidAmounts, L.c_NotRight, L.cc_InvalidAmounts_NotRight⟩) (
  allC (P := CCp K mg) (⟨_, _, L.c_InvalidKnots, L.c_NotKnown, L.cc_InvalidKnots_NotKnown⟩) (
  allC (P := CCp K mg) (⟨_, _, L.c_InvalidKnots, L.c_NotPossible, L.cc_InvalidKnots_NotPossible⟩) (
  allC (P := CCp K mg) (⟨_, _, L.c_InvalidKnots, L.c_NotRight, L.cc_InvalidKnots_NotRight⟩) (
  allC (P := CCp K mg) (⟨_, _, L.c_NotACurve, L.c_NotKnown, L.cc_NotACurve_NotKnown⟩) (
  allC (P := CCp K mg) (⟨_, _, L.c_NotACurve, L.c_NotPossible, L.cc_NotACurve_NotPossible⟩) (
  allC (P := CCp K mg) (⟨_, _, L.c_NotACurve, L.c_NotRight, L.cc_NotACurve_NotRight⟩) (
  allC (P := CCp K mg) (⟨_, _, L.c_NotAFrame, L.c_NotKnown, L.cc_NotAFrame_NotKnown⟩) (
  allC (P := CCp K mg) (⟨_, _, L.c_NotAFrame, L.c_NotPossible, L.cc_NotAFrame_NotPossible⟩) (
  allC (P := CCp K mg) (⟨_, _, L.c_NotAFrame, L.c_NotRight, L.cc_NotAFrame_NotRight⟩) (
  allC (P := CCp K mg) (⟨_, _, L.c_InvalidCommand, L.c_NotKnown, L.cc_InvalidCommand_NotKnown⟩) (
  allC (P := CCp K mg) (⟨_, _, L.c_InvalidCommand, L.c_NotPossible, L.cc_InvalidCommand_NotPossible⟩) (
  allC (P := CCp K mg) (⟨_, _, L.c_InvalidCommand, L.c_NotRight, L.cc_InvalidCommand_NotRight⟩) (
  allC (P := CCp K mg) (⟨_, _, L.c_InvalidClaim, L.c_NotKnown, L.cc_InvalidClaim_NotKnown⟩) (
  allC (P := CCp K mg) (⟨_, _, L.c_InvalidClaim, L.c_NotPossible, L.cc_InvalidClaim_NotPossible⟩) (
  allC (P := CCp K mg) (⟨_, _, L.c_InvalidClaim, L.c_NotRight, L.cc_InvalidClaim_NotRight⟩) (
  allC (P := CCp K mg) (⟨_, _, L.c_InvalidKnot, L.c_NotKnown, L.cc_InvalidKnot_NotKnown⟩) (
  allC (P := CCp K mg) (⟨_, _, L.c_InvalidKnot, L.c_NotPossible, L.cc_InvalidKnot_NotPossible⟩) (
  allC (P := CCp K mg) (⟨_, _, L.c_InvalidKnot, L.c_NotRight, L.cc_InvalidKnot_NotRight⟩) (
  allC (P := CCp K mg) (⟨_, _, L.c_InvalidDegree, L.c_NotKnown, L.cc_InvalidDegree_NotKnown⟩) (
  allC (P := CCp K mg) (⟨_, _, L.c_InvalidDegree, L.c_NotPossible, L.cc_InvalidDegree_NotPossible⟩) (
  allC (P := CCp K mg) (⟨_, _, L.c_InvalidDegree, L.c_NotRight, L.cc_InvalidDegree_NotRight⟩) (
  allC (P := CCp K mg) (⟨_, _, L.c_InvalidIndex, L.c_NotKnown, L.cc_InvalidIndex_NotKnown⟩) (
  allC (P := CCp K mg) (⟨_, _, L.c_InvalidIndex, L.c_NotPossible, L.cc_InvalidIndex_NotPossible⟩) (
  allC (P := CCp K mg) (⟨_, _, L.c_InvalidIndex, L.c_NotRight, L.cc_InvalidIndex_NotRight⟩) (
  allC (P := CCp K mg) (⟨_, _, L.c_InvalidName, L.c_NotKnown, L.cc_InvalidName_NotKnown⟩) (
  allC (P := CCp K mg) (⟨_, _, L.c_InvalidName, L.c_NotPossible, L.cc_InvalidName_NotPossible⟩) (
  allC (P := CCp K mg) (⟨_, _, L.c_InvalidName, L.c_NotRight, L.cc_InvalidName_NotRight⟩) (
  allC (P := CCp K mg) (⟨_, _, L.c_InvalidNumber, L.c_NotKnown, L.cc_InvalidNumber_NotKnown⟩) (
  allC (P := CCp K mg) (⟨_, _, L.c_InvalidNumber, L.c_NotPossible, L.cc_InvalidNumber_NotPossible⟩) (
  allC (P := CCp K mg) (⟨_, _, L.c_InvalidNumber, L.c_NotRight, L.cc_InvalidNumber_NotRight⟩) (
  allC (P := CCp K mg) (⟨_, _, L.c_InvalidText, L.c_NotKnown, L.cc_InvalidText_NotKnown⟩) (
  allC (P := CCp K mg) (⟨_, _, L.c_InvalidText, L.c_NotPossible, L.cc_InvalidText_NotPossible⟩) (
  allC (P := CCp K mg) (⟨_, _, L.c_InvalidText, L.c_NotRight, L.cc_InvalidText_NotRight⟩) (
  allN)))))))))))))))))))))))))))))))))))))))))))))))))))))))))))))))
theorem tab_ok (L : Lf K mg) : TabOk K mg tabT := by
  refine ⟨fun c h C e => ?_, fun c h C e => ?_, isa_ok (fun c d b h => ?_) (fun c n b h => ?_) (fun c h m hm => ?_)⟩
  · simp only [tabT, List.mem_cons, List.not_mem_nil, or_false] at h
  · simp only [tabT, List.mem_cons, List.not_mem_nil, or_false] at h
    rcases h with h | h | h | h | h | h | h | h | h | h | h | h | h | h | h | h | h | h | h | h | h <;> subst h
    · rw [L.c_Broken] at e; cases e; exact L.e_Broken
    · rw [L.c_NotOne] at e; cases e; exact L.e_NotOne
    · rw [L.c_TooMany] at e; cases e; exact L.e_TooMany
    · rw [L.c_NothingToUndo] at e; cases e; exact L.e_NothingToUndo
    · rw [L.c_InUse] at e; cases e; exact L.e_InUse
    · rw [L.c_UnknownName] at e; cases e; exact L.e_UnknownName
    · rw [L.c_InvalidOffers] at e; cases e; exact L.e_InvalidOffers
    · rw [L.c_InvalidHeights] at e; cases e; exact L.e_InvalidHeights
    · rw [L.c_InvalidPlaces] at e; cases e; exact L.e_InvalidPlaces
    · rw [L.c_InvalidAmounts] at e; cases e; exact L.e_InvalidAmounts
    · rw [L.c_InvalidKnots] at e; cases e; exact L.e_InvalidKnots
    · rw [L.c_NotACurve] at e; cases e; exact L.e_NotACurve
    · rw [L.c_NotAFrame] at e; cases e; exact L.e_NotAFrame
    · rw [L.c_InvalidCommand] at e; cases e; exact L.e_InvalidCommand
    · rw [L.c_InvalidClaim] at e; cases e; exact L.e_InvalidClaim
    · rw [L.c_InvalidKnot] at e; cases e; exact L.e_InvalidKnot
    · rw [L.c_InvalidDegree] at e; cases e; exact L.e_InvalidDegree
    · rw [L.c_InvalidIndex] at e; cases e; exact L.e_InvalidIndex
    · rw [L.c_InvalidName] at e; cases e; exact L.e_InvalidName
    · rw [L.c_InvalidNumber] at e; cases e; exact L.e_InvalidNumber
    · rw [L.c_InvalidText] at e; cases e; exact L.e_InvalidText
  · exact oo_all L _ h
  · exact ob_all L _ h
  · simp only [List.mem_cons, List.not_mem_nil, or_false] at h
theorem sub_ok' (L : Lf K mg) : SubOk K mg (subOf subT) := sub_ok fun _ _ _ h => cc_all L _ h
theorem xf_ok (L : Lf K mg) : XfOk K mg xfT := by
  intro c f h C e
  simp only [xfT, List.mem_cons, Prod.mk.injEq, List.not_mem_nil, or_false] at h
  rcases h with ⟨rfl, rfl⟩ | ⟨rfl, rfl⟩ | ⟨rfl, rfl⟩ | ⟨rfl, rfl⟩ | ⟨rfl, rfl⟩ | ⟨rfl, rfl⟩ | ⟨rfl, rfl⟩ | ⟨rfl, rfl⟩ | ⟨rfl, rfl⟩ | ⟨rfl, rfl⟩ | ⟨rfl, rfl⟩ | ⟨rfl, rfl⟩ | ⟨rfl, rfl⟩ | ⟨rfl, rfl⟩ | ⟨rfl, rfl⟩ | ⟨rfl, rfl⟩ | ⟨rfl, rfl⟩ | ⟨rfl, rfl⟩ | ⟨rfl, rfl⟩ | ⟨rfl, rfl⟩ | ⟨rfl, rfl⟩
  · rw [L.c_Broken] at e; cases e; exact ⟨L.xf_Broken, L.no_Broken⟩
  · rw [L.c_Broken] at e; cases e; exact ⟨L.xf_Broken, L.no2_Broken⟩
  · rw [L.c_NotOne] at e; cases e; exact ⟨L.xf_NotOne, L.no_NotOne⟩
  · rw [L.c_TooMany] at e; cases e; exact ⟨L.xf_TooMany, L.no_TooMany⟩
  · rw [L.c_InUse] at e; cases e; exact ⟨L.xf_InUse, L.no_InUse⟩
  · rw [L.c_UnknownName] at e; cases e; exact ⟨L.xf_UnknownName, L.no_UnknownName⟩
  · rw [L.c_InvalidOffers] at e; cases e; exact ⟨L.xf_InvalidOffers, L.no_InvalidOffers⟩
  · rw [L.c_InvalidHeights] at e; cases e; exact ⟨L.xf_InvalidHeights, L.no_InvalidHeights⟩
  · rw [L.c_InvalidPlaces] at e; cases e; exact ⟨L.xf_InvalidPlaces, L.no_InvalidPlaces⟩
  · rw [L.c_InvalidAmounts] at e; cases e; exact ⟨L.xf_InvalidAmounts, L.no_InvalidAmounts⟩
  · rw [L.c_InvalidKnots] at e; cases e; exact ⟨L.xf_InvalidKnots, L.no_InvalidKnots⟩
  · rw [L.c_NotACurve] at e; cases e; exact ⟨L.xf_NotACurve, L.no_NotACurve⟩
  · rw [L.c_NotAFrame] at e; cases e; exact ⟨L.xf_NotAFrame, L.no_NotAFrame⟩
  · rw [L.c_InvalidCommand] at e; cases e; exact ⟨L.xf_InvalidCommand, L.no_InvalidCommand⟩
  · rw [L.c_InvalidClaim] at e; cases e; exact ⟨L.xf_InvalidClaim, L.no_InvalidClaim⟩
  · rw [L.c_InvalidKnot] at e; cases e; exact ⟨L.xf_InvalidKnot, L.no_InvalidKnot⟩
  · rw [L.c_InvalidDegree] at e; cases e; exact ⟨L.xf_InvalidDegree, L.no_InvalidDegree⟩
  · rw [L.c_InvalidIndex] at e; cases e; exact ⟨L.xf_InvalidIndex, L.no_InvalidIndex⟩
  · rw [L.c_InvalidName] at e; cases e; exact ⟨L.xf_InvalidName, L.no_InvalidName⟩
  · rw [L.c_InvalidNumber] at e; cases e; exact ⟨L.xf_InvalidNumber, L.no_InvalidNumber⟩
  · rw [L.c_InvalidText] at e; cases e; exact ⟨L.xf_InvalidText, L.no_InvalidText⟩
theorem sci_Broken : FnScope ["self", "index", "shown"] ["self", "index", "shown"] (defScope si_Broken) := ⟨rfl, rfl, rfl, by decide +kernel, rfl, by decide +kernel, by decide +kernel⟩
theorem Z_Broken (L : Lf K mg) : Rz2 P w K mg base "Broken" "index" "shown" := ⟨_, _, _, _, L.c_Broken, L.x_Broken, L.ii_Broken, L.ti_Broken, init2 L.Fi_Broken rfl sci_Broken L.x_Broken L.tk_Broken L.tk2_Broken, L.Fi_Broken.binds fun _ _ _ _ _ _ us hl => match us, hl with | [_, _, _], _ => rfl⟩
theorem sci_NotOne : FnScope ["self", "rank"] ["self", "rank"] (defScope si_NotOne) := ⟨rfl, rfl, rfl, by decide +kernel, rfl, by decide +kernel, by decide +kernel⟩
theorem Z_NotOne (L : Lf K mg) : Rz P w K mg base "NotOne" "rank" := ⟨_, _, _, _, L.c_NotOne, L.x_NotOne, L.ii_NotOne, L.ti_NotOne, init1 L.Fi_NotOne rfl sci_NotOne L.x_NotOne L.tk_NotOne, L.Fi_NotOne.binds fun _ _ _ _ _ _ us hl => match us, hl with | [_, _], _ => rfl⟩
theorem sci_TooMany : FnScope ["self", "limit"] ["self", "limit"] (defScope si_TooMany) := ⟨rfl, rfl, rfl, by decide +kernel, rfl, by decide +kernel, by decide +kernel⟩
theorem Z_TooMany (L : Lf K mg) : Rz P w K mg base "TooMany" "limit" := ⟨_, _, _, _, L.c_TooMany, L.x_TooMany, L.ii_TooMany, L.ti_TooMany, init1 L.Fi_TooMany rfl sci_TooMany L.x_TooMany L.tk_TooMany, L.Fi_TooMany.binds fun _ _ _ _ _ _ us hl => match us, hl with | [_, _], _ => rfl⟩
theorem Z_NothingToUndo (L : Lf K mg) : Rz0 K mg "NothingToUndo" := ⟨_, L.c_NothingToUndo, L.x_NothingToUndo⟩
theorem sci_InUse : FnScope ["self", "index"] ["self", "index"] (defScope si_InUse) := ⟨rfl, rfl, rfl, by decide +kernel, rfl, by decide +kernel, by decide +kernel⟩
theorem Z_InUse (L : Lf K mg) : Rz P w K mg base "InUse" "index" := ⟨_, _, _, _, L.c_InUse, L.x_InUse, L.ii_InUse, L.ti_InUse, init1 L.Fi_InUse rfl sci_InUse L.x_InUse L.tk_InUse, L.Fi_InUse.binds fun _ _ _ _ _ _ us hl => match us, hl with | [_, _], _ => rfl⟩
theorem sci_UnknownName : FnScope ["self", "given"] ["self", "given"] (defScope si_UnknownName) := ⟨rfl, rfl, rfl, by decide +kernel, rfl, by decide +kernel, by decide +kernel⟩
theorem Z_UnknownName (L : Lf K mg) : Rz P w K mg base "UnknownName" "given" := ⟨_, _, _, _, L.c_UnknownName, L.x_UnknownName, L.ii_UnknownName, L.ti_UnknownName, init1 L.Fi_UnknownName rfl sci_UnknownName L.x_UnknownName L.tk_UnknownName, L.Fi_UnknownName.binds fun _ _ _ _ _ _ us hl => match us, hl with | [_, _], _ => rfl⟩
theorem sci_InvalidOffers : FnScope ["self", "index"] ["self", "index"] (defScope si_InvalidOffers) := ⟨rfl, rfl, rfl, by decide +kernel, rfl, by decide +kernel, by decide +kernel⟩
theorem Z_InvalidOffers (L : Lf K mg) : Rz P w K mg base "InvalidOffers" "index" := ⟨_, _, _, _, L.c_InvalidOffers, L.x_InvalidOffers, L.ii_InvalidOffers, L.ti_InvalidOffers, init1 L.Fi_InvalidOffers rfl sci_InvalidOffers L.x_InvalidOffers L.tk_InvalidOffers, L.Fi_InvalidOffers.binds fun _ _ _ _ _ _ us hl => match us, hl with | [_, _], _ => rfl⟩
theorem sci_InvalidHeights : FnScope ["self", "index"] ["self", "index"] (defScope si_InvalidHeights) := ⟨rfl, rfl, rfl, by decide +kernel, rfl, by decide +kernel, by decide +kernel⟩
theorem Z_InvalidHeights (L : Lf K mg) : Rz P w K mg base "InvalidHeights" "index" := ⟨_, _, _, _, L.c_InvalidHeights, L.x_InvalidHeights, L.ii_InvalidHeights, L.ti_InvalidHeights, init1 L.Fi_InvalidHeights rfl sci_InvalidHeights L.x_InvalidHeights L.tk_InvalidHeights, L.Fi_InvalidHeights.binds fun _ _ _ _ _ _ us hl => match us, hl with | [_, _], _ => rfl⟩
theorem sci_InvalidPlaces : FnScope ["self", "index"] ["self", "index"] (defScope si_InvalidPlaces) := ⟨rfl, rfl, rfl, by decide +kernel, rfl, by decide +kernel, by decide +kernel⟩
theorem Z_InvalidPlaces (L : Lf K mg) : Rz P w K mg base "InvalidPlaces" "index" := ⟨_, _, _, _, L.c_InvalidPlaces, L.x_InvalidPlaces, L.ii_InvalidPlaces, L.ti_InvalidPlaces, init1 L.Fi_InvalidPlaces rfl sci_InvalidPlaces L.x_InvalidPlaces L.tk_InvalidPlaces, L.Fi_InvalidPlaces.binds fun _ _ _ _ _ _ us hl => match us, hl with | [_, _], _ => rfl⟩
theorem sci_InvalidAmounts : FnScope ["self", "index"] ["self", "index"] (defScope si_InvalidAmounts) := ⟨rfl, rfl, rfl, by decide +kernel, rfl, by decide +kernel, by decide +kernel⟩
theorem Z_InvalidAmounts (L : Lf K mg) : Rz P w K mg base "InvalidAmounts" "index" := ⟨_, _, _, _, L.c_InvalidAmounts, L.x_InvalidAmounts, L.ii_InvalidAmounts, L.ti_InvalidAmounts, init1 L.Fi_InvalidAmounts rfl sci_InvalidAmounts L.x_InvalidAmounts L.tk_InvalidAmounts, L.Fi_InvalidAmounts.binds fun _ _ _ _ _ _ us hl => match us, hl with | [_, _], _ => rfl⟩
theorem sci_InvalidKnots : FnScope ["self", "index"] ["self", "index"] (defScope si_InvalidKnots) := ⟨rfl, rfl, rfl, by decide +kernel, rfl, by decide +kernel, by decide +kernel⟩
theorem Z_InvalidKnots (L : Lf K mg) : Rz P w K mg base "InvalidKnots" "index" := ⟨_, _, _, _, L.c_InvalidKnots, L.x_InvalidKnots, L.ii_InvalidKnots, L.ti_InvalidKnots, init1 L.Fi_InvalidKnots rfl sci_InvalidKnots L.x_InvalidKnots L.tk_InvalidKnots, L.Fi_InvalidKnots.binds fun _ _ _ _ _ _ us hl => match us, hl with | [_, _], _ => rfl⟩
theorem sci_NotACurve : FnScope ["self", "given"] ["self", "given"] (defScope si_NotACurve) := ⟨rfl, rfl, rfl, by decide +kernel, rfl, by decide +kernel, by decide +kernel⟩
theorem Z_NotACurve (L : Lf K mg) : Rz P w K mg base "NotACurve" "given" := ⟨_, _, _, _, L.c_NotACurve, L.x_NotACurve, L.ii_NotACurve, L.ti_NotACurve, init1 L.Fi_NotACurve rfl sci_NotACurve L.x_NotACurve L.tk_NotACurve, L.Fi_NotACurve.binds fun _ _ _ _ _ _ us hl => match us, hl with | [_, _], _ => rfl⟩
theorem sci_NotAFrame : FnScope ["self", "given"] ["self", "given"] (defScope si_NotAFrame) := ⟨rfl, rfl, rfl, by decide +kernel, rfl, by decide +kernel, by decide +kernel⟩
theorem Z_NotAFrame (L : Lf K mg) : Rz P w K mg base "NotAFrame" "given" := ⟨_, _, _, _, L.c_NotAFrame, L.x_NotAFrame, L.ii_NotAFrame, L.ti_NotAFrame, init1 L.Fi_NotAFrame rfl sci_NotAFrame L.x_NotAFrame L.tk_NotAFrame, L.Fi_NotAFrame.binds fun _ _ _ _ _ _ us hl => match us, hl with | [_, _], _ => rfl⟩
theorem sci_InvalidCommand : FnScope ["self", "given"] ["self", "given"] (defScope si_InvalidCommand) := ⟨rfl, rfl, rfl, by decide +kernel, rfl, by decide +kernel, by decide +kernel⟩
theorem Z_InvalidCommand (L : Lf K mg) : Rz P w K mg base "InvalidCommand" "given" := ⟨_, _, _, _, L.c_InvalidCommand, L.x_InvalidCommand, L.ii_InvalidCommand, L.ti_InvalidCommand, init1 L.Fi_InvalidCommand rfl sci_InvalidCommand L.x_InvalidCommand L.tk_InvalidCommand, L.Fi_InvalidCommand.binds fun _ _ _ _ _ _ us hl => match us, hl with | [_, _], _ => rfl⟩
theorem sci_InvalidClaim : FnScope ["self", "given"] ["self", "given"] (defScope si_InvalidClaim) := ⟨rfl, rfl, rfl, by decide +kernel, rfl, by decide +kernel, by decide +kernel⟩
theorem Z_InvalidClaim (L : Lf K mg) : Rz P w K mg base "InvalidClaim" "given" := ⟨_, _, _, _, L.c_InvalidClaim, L.x_InvalidClaim, L.ii_InvalidClaim, L.ti_InvalidClaim, init1 L.Fi_InvalidClaim rfl sci_InvalidClaim L.x_InvalidClaim L.tk_InvalidClaim, L.Fi_InvalidClaim.binds fun _ _ _ _ _ _ us hl => match us, hl with | [_, _], _ => rfl⟩
theorem sci_InvalidKnot : FnScope ["self", "given"] ["self", "given"] (defScope si_InvalidKnot) := ⟨rfl, rfl, rfl, by decide +kernel, rfl, by decide +kernel, by decide +kernel⟩
theorem Z_InvalidKnot (L : Lf K mg) : Rz P w K mg base "InvalidKnot" "given" := ⟨_, _, _, _, L.c_InvalidKnot, L.x_InvalidKnot, L.ii_InvalidKnot, L.ti_InvalidKnot, init1 L.Fi_InvalidKnot rfl sci_InvalidKnot L.x_InvalidKnot L.tk_InvalidKnot, L.Fi_InvalidKnot.binds fun _ _ _ _ _ _ us hl => match us, hl with | [_, _], _ => rfl⟩
theorem sci_InvalidDegree : FnScope ["self", "given"] ["self", "given"] (defScope si_InvalidDegree) := ⟨rfl, rfl, rfl, by decide +kernel, rfl, by decide +kernel, by decide +kernel⟩
theorem Z_InvalidDegree (L : Lf K mg) : Rz P w K mg base "InvalidDegree" "given" := ⟨_, _, _, _, L.c_InvalidDegree, L.x_InvalidDegree, L.ii_InvalidDegree, L.ti_InvalidDegree, init1 L.Fi_InvalidDegree rfl sci_InvalidDegree L.x_InvalidDegree L.tk_InvalidDegree, L.Fi_InvalidDegree.binds fun _ _ _ _ _ _ us hl => match us, hl with | [_, _], _ => rfl⟩
theorem sci_InvalidIndex : FnScope ["self", "given"] ["self", "given"] (defScope si_InvalidIndex) := ⟨rfl, rfl, rfl, by decide +kernel, rfl, by decide +kernel, by decide +kernel⟩
theorem Z_InvalidIndex (L : Lf K mg) : Rz P w K mg base "InvalidIndex" "given" := ⟨_, _, _, _, L.c_InvalidIndex, L.x_InvalidIndex, L.ii_InvalidIndex, L.ti_InvalidIndex, init1 L.Fi_InvalidIndex rfl sci_InvalidIndex L.x_InvalidIndex L.tk_InvalidIndex, L.Fi_InvalidIndex.binds fun _ _ _ _ _ _ us hl => match us, hl with | [_, _], _ => rfl⟩
theorem sci_InvalidName : FnScope ["self", "given"] ["self", "given"] (defScope si_InvalidName) := ⟨rfl, rfl, rfl, by decide +kernel, rfl, by decide +kernel, by decide +kernel⟩
theorem Z_InvalidName (L : Lf K mg) : Rz P w K mg base "InvalidName" "given" := ⟨_, _, _, _, L.c_InvalidName, L.x_InvalidName, L.ii_InvalidName, L.ti_InvalidName, init1 L.Fi_InvalidName rfl sci_InvalidName L.x_InvalidName L.tk_InvalidName, L.Fi_InvalidName.binds fun _ _ _ _ _ _ us hl => match us, hl with | [_, _], _ => rfl⟩
theorem sci_InvalidNumber : FnScope ["self", "given"] ["self", "given"] (defScope si_InvalidNumber) := ⟨rfl, rfl, rfl, by decide +kernel, rfl, by decide +kernel, by decide +kernel⟩
theorem Z_InvalidNumber (L : Lf K mg) : Rz P w K mg base "InvalidNumber" "given" := ⟨_, _, _, _, L.c_InvalidNumber, L.x_InvalidNumber, L.ii_InvalidNumber, L.ti_InvalidNumber, init1 L.Fi_InvalidNumber rfl sci_InvalidNumber L.x_InvalidNumber L.tk_InvalidNumber, L.Fi_InvalidNumber.binds fun _ _ _ _ _ _ us hl => match us, hl with | [_, _], _ => rfl⟩
theorem sci_InvalidText : FnScope ["self", "given"] ["self", "given"] (defScope si_InvalidText) := ⟨rfl, rfl, rfl, by decide +kernel, rfl, by decide +kernel, by decide +kernel⟩
theorem Z_InvalidText (L : Lf K mg) : Rz P w K mg base "InvalidText" "given" := ⟨_, _, _, _, L.c_InvalidText, L.x_InvalidText, L.ii_InvalidText, L.ti_InvalidText, init1 L.Fi_InvalidText rfl sci_InvalidText L.x_InvalidText L.tk_InvalidText, L.Fi_InvalidText.binds fun _ _ _ _ _ _ us hl => match us, hl with | [_, _], _ => rfl⟩
theorem ZK_Broken (L : Lf K mg) : Rz2K P w K mg base "Broken" "index" "shown" "shown" "index" := ⟨_, _, _, _, L.c_Broken, L.x_Broken, L.ii_Broken, L.ti_Broken, init2 L.Fi_Broken rfl sci_Broken L.x_Broken L.tk_Broken L.tk2_Broken, L.Fi_Broken.bindsW fun _ _ _ _ _ _ us ws h1 h2 => match us, ws, h1, h2 with | [_], [_, _], _, _ => rfl⟩
theorem ZK_NotOne (L : Lf K mg) : RzK P w K mg base "NotOne" "rank" "rank" := ⟨_, _, _, _, L.c_NotOne, L.x_NotOne, L.ii_NotOne, L.ti_NotOne, init1 L.Fi_NotOne rfl sci_NotOne L.x_NotOne L.tk_NotOne, L.Fi_NotOne.bindsW fun _ _ _ _ _ _ us ws h1 h2 => match us, ws, h1, h2 with | [_], [_], _, _ => rfl⟩
theorem ZK_TooMany (L : Lf K mg) : RzK P w K mg base "TooMany" "limit" "limit" := ⟨_, _, _, _, L.c_TooMany, L.x_TooMany, L.ii_TooMany, L.ti_TooMany, init1 L.Fi_TooMany rfl sci_TooMany L.x_TooMany L.tk_TooMany, L.Fi_TooMany.bindsW fun _ _ _ _ _ _ us ws h1 h2 => match us, ws, h1, h2 with | [_], [_], _, _ => rfl⟩
theorem ZK_InUse (L : Lf K mg) : RzK P w K mg base "InUse" "index" "index" := ⟨_, _, _, _, L.c_InUse, L.x_InUse, L.ii_InUse, L.ti_InUse, init1 L.Fi_InUse rfl sci_InUse L.x_InUse L.tk_InUse, L.Fi_InUse.bindsW fun _ _ _ _ _ _ us ws h1 h2 => match us, ws, h1, h2 with | [_], [_], _, _ => rfl⟩
theorem ZK_UnknownName (L : Lf K mg) : RzK P w K mg base "UnknownName" "given" "given" := ⟨_, _, _, _, L.c_UnknownName, L.x_UnknownName, L.ii_UnknownName, L.ti_UnknownName, init1 L.Fi_UnknownName rfl sci_UnknownName L.x_UnknownName L.tk_UnknownName, L.Fi_UnknownName.bindsW fun _ _ _ _ _ _ us ws h1 h2 => match us, ws, h1, h2 with | [_], [_], _, _ => rfl⟩
theorem ZK_InvalidOffers (L : Lf K mg) : RzK P w K mg base "InvalidOffers" "index" "index" := ⟨_, _, _, _, L.c_InvalidOffers, L.x_InvalidOffers, L.ii_InvalidOffers, L.ti_InvalidOffers, init1 L.Fi_InvalidOffers rfl sci_InvalidOffers L.x_InvalidOffers L.tk_InvalidOffers, L.Fi_InvalidOffers.bindsW fun _ _ _ _ _ _ us ws h1 h2 => match us, ws, h1, h2 with | [_], [_], _, _ => rfl⟩
theorem ZK_InvalidHeights (L : Lf K mg) : RzK P w K mg base "InvalidHeights" "index" "index" := ⟨_, _, _, _, L.c_InvalidHeights, L.x_InvalidHeights, L.ii_InvalidHeights, L.ti_InvalidHeights, init1 L.Fi_InvalidHeights rfl sci_InvalidHeights L.x_InvalidHeights L.tk_InvalidHeights, L.Fi_InvalidHeights.bindsW fun _ _ _ _ _ _ us ws h1 h2 => match us, ws, h1, h2 with | [_], [_], _, _ => rfl⟩
theorem ZK_InvalidPlaces (L : Lf K mg) : RzK P w K mg base "InvalidPlaces" "index" "index" := ⟨_, _, _, _, L.c_InvalidPlaces, L.x_InvalidPlaces, L.ii_InvalidPlaces, L.ti_InvalidPlaces, init1 L.Fi_InvalidPlaces rfl sci_InvalidPlaces L.x_InvalidPlaces L.tk_InvalidPlaces, L.Fi_InvalidPlaces.bindsW fun _ _ _ _ _ _ us ws h1 h2 => match us, ws, h1, h2 with | [_], [_], _, _ => rfl⟩
theorem ZK_InvalidAmounts (L : Lf K mg) : RzK P w K mg base "InvalidAmounts" "index" "index" := ⟨_, _, _, _, L.c_InvalidAmounts, L.x_InvalidAmounts, L.ii_InvalidAmounts, L.ti_InvalidAmounts, init1 L.Fi_InvalidAmounts rfl sci_InvalidAmounts L.x_InvalidAmounts L.tk_InvalidAmounts, L.Fi_InvalidAmounts.bindsW fun _ _ _ _ _ _ us ws h1 h2 => match us, ws, h1, h2 with | [_], [_], _, _ => rfl⟩
theorem ZK_InvalidKnots (L : Lf K mg) : RzK P w K mg base "InvalidKnots" "index" "index" := ⟨_, _, _, _, L.c_InvalidKnots, L.x_InvalidKnots, L.ii_InvalidKnots, L.ti_InvalidKnots, init1 L.Fi_InvalidKnots rfl sci_InvalidKnots L.x_InvalidKnots L.tk_InvalidKnots, L.Fi_InvalidKnots.bindsW fun _ _ _ _ _ _ us ws h1 h2 => match us, ws, h1, h2 with | [_], [_], _, _ => rfl⟩
theorem ZK_NotACurve (L : Lf K mg) : RzK P w K mg base "NotACurve" "given" "given" := ⟨_, _, _, _, L.c_NotACurve, L.x_NotACurve, L.ii_NotACurve, L.ti_NotACurve, init1 L.Fi_NotACurve rfl sci_NotACurve L.x_NotACurve L.tk_NotACurve, L.Fi_NotACurve.bindsW fun _ _ _ _ _ _ us ws h1 h2 => match us, ws, h1, h2 with | [_], [_], _, _ => rfl⟩
theorem ZK_NotAFrame (L : Lf K mg) : RzK P w K mg base "NotAFrame" "given" "given" := ⟨_, _, _, _, L.c_NotAFrame, L.x_NotAFrame, L.ii_NotAFrame, L.ti_NotAFrame, init1 L.Fi_NotAFrame rfl sci_NotAFrame L.x_NotAFrame L.tk_NotAFrame, L.Fi_NotAFrame.bindsW fun _ _ _ _ _ _ us ws h1 h2 => match us, ws, h1, h2 with | [_], [_], _, _ => rfl⟩
theorem ZK_InvalidCommand (L : Lf K mg) : RzK P w K mg base "InvalidCommand" "given" "given" := ⟨_, _, _, _, L.c_InvalidCommand, L.x_InvalidCommand, L.ii_InvalidCommand, L.ti_InvalidCommand, init1 L.Fi_InvalidCommand rfl sci_InvalidCommand L.x_InvalidCommand L.tk_InvalidCommand, L.Fi_InvalidCommand.bindsW fun _ _ _ _ _ _ us ws h1 h2 => match us, ws, h1, h2 with | [_], [_], _, _ => rfl⟩
theorem ZK_InvalidClaim (L : Lf K mg) : RzK P w K mg base "InvalidClaim" "given" "given" := ⟨_, _, _, _, L.c_InvalidClaim, L.x_InvalidClaim, L.ii_InvalidClaim, L.ti_InvalidClaim, init1 L.Fi_InvalidClaim rfl sci_InvalidClaim L.x_InvalidClaim L.tk_InvalidClaim, L.Fi_InvalidClaim.bindsW fun _ _ _ _ _ _ us ws h1 h2 => match us, ws, h1, h2 with | [_], [_], _, _ => rfl⟩
theorem ZK_InvalidKnot (L : Lf K mg) : RzK P w K mg base "InvalidKnot" "given" "given" := ⟨_, _, _, _, L.c_InvalidKnot, L.x_InvalidKnot, L.ii_InvalidKnot, L.ti_InvalidKnot, init1 L.Fi_InvalidKnot rfl sci_InvalidKnot L.x_InvalidKnot L.tk_InvalidKnot, L.Fi_InvalidKnot.bindsW fun _ _ _ _ _ _ us ws h1 h2 => match us, ws, h1, h2 with | [_], [_], _, _ => rfl⟩
theorem ZK_InvalidDegree (L : Lf K mg) : RzK P w K mg base "InvalidDegree" "given" "given" := ⟨_, _, _, _, L.c_InvalidDegree, L.x_InvalidDegree, L.ii_InvalidDegree, L.ti_InvalidDegree, init1 L.Fi_InvalidDegree rfl sci_InvalidDegree L.x_InvalidDegree L.tk_InvalidDegree, L.Fi_InvalidDegree.bindsW fun _ _ _ _ _ _ us ws h1 h2 => match us, ws, h1, h2 with | [_], [_], _, _ => rfl⟩
theorem ZK_InvalidIndex (L : Lf K mg) : RzK P w K mg base "InvalidIndex" "given" "given" := ⟨_, _, _, _, L.c_InvalidIndex, L.x_InvalidIndex, L.ii_InvalidIndex, L.ti_InvalidIndex, init1 L.Fi_InvalidIndex rfl sci_InvalidIndex L.x_InvalidIndex L.tk_InvalidIndex, L.Fi_InvalidIndex.bindsW fun _ _ _ _ _ _ us ws h1 h2 => match us, ws, h1, h2 with | [_], [_], _, _ => rfl⟩
theorem ZK_InvalidName (L : Lf K mg) : RzK P w K mg base "InvalidName" "given" "given" := ⟨_, _, _, _, L.c_InvalidName, L.x_InvalidName, L.ii_InvalidName, L.ti_InvalidName, init1 L.Fi_InvalidName rfl sci_InvalidName L.x_InvalidName L.tk_InvalidName, L.Fi_InvalidName.bindsW fun _ _ _ _ _ _ us ws h1 h2 => match us, ws, h1, h2 with | [_], [_], _, _ => rfl⟩
theorem ZK_InvalidNumber (L : Lf K mg) : RzK P w K mg base "InvalidNumber" "given" "given" := ⟨_, _, _, _, L.c_InvalidNumber, L.x_InvalidNumber, L.ii_InvalidNumber, L.ti_InvalidNumber, init1 L.Fi_InvalidNumber rfl sci_InvalidNumber L.x_InvalidNumber L.tk_InvalidNumber, L.Fi_InvalidNumber.bindsW fun _ _ _ _ _ _ us ws h1 h2 => match us, ws, h1, h2 with | [_], [_], _, _ => rfl⟩
theorem ZK_InvalidText (L : Lf K mg) : RzK P w K mg base "InvalidText" "given" "given" := ⟨_, _, _, _, L.c_InvalidText, L.x_InvalidText, L.ii_InvalidText, L.ti_InvalidText, init1 L.Fi_InvalidText rfl sci_InvalidText L.x_InvalidText L.tk_InvalidText, L.Fi_InvalidText.bindsW fun _ _ _ _ _ _ us ws h1 h2 => match us, ws, h1, h2 with | [_], [_], _, _ => rfl⟩
theorem sc_l_all : FnScope ["_law_thing", "_law_other_thing", "_law_found"] ["_law_thing", "_law_other_thing"] (defScope s_l_all) := ⟨rfl, rfl, rfl, by decide +kernel, rfl, by decide +kernel, by decide +kernel⟩
theorem b_l_all (L : Lf K mg) : Binds K L.d_l_all ["_law_thing", "_law_other_thing"] [] := L.F_l_all.binds fun _ _ _ _ _ _ us hl => match us, hl with | [_, _], _ => rfl
theorem G_l_all (L : Lf K mg) : FnG P w K mg base 3 L.a_l_all L.d_l_all ["_law_thing", "_law_other_thing"] (SpM K mg 2 f_l_all) := fnM L.F_l_all sc_l_all rfl fun cd A outer s H E rm =>
  (b_cons (s_set 2 (v_fr (o_lst (a_cons (v_fr (o_lst (a_cons (v_exc1 (Z_InvalidText L) (rm.less (by decide)) (a_cons (v_var 0) a_nil)) (a_cons v_str a_nil)))) (a_cons (v_fr (o_lst (a_cons (v_exc1 (Z_InvalidNumber L) (rm.less (by decide)) (a_cons (v_var 0) a_nil)) (a_cons v_str a_nil)))) (a_cons (v_fr (o_lst (a_cons (v_exc1 (Z_InvalidName L) (rm.less (by decide)) (a_cons (v_var 0) a_nil)) (a_cons v_str a_nil)))) a_nil))))) sc_l_all.nd)
  (b_cons (s_set 2 (v_op op_addAll ok_add (v_var 2) (v_fr (o_lst (a_cons (v_fr (o_lst (a_cons (v_exc1 (Z_InvalidIndex L) (rm.less (by decide)) (a_cons (v_var 0) a_nil)) (a_cons v_str a_nil)))) (a_cons (v_fr (o_lst (a_cons (v_exc1 (Z_InvalidDegree L) (rm.less (by decide)) (a_cons (v_var 0) a_nil)) (a_cons v_str a_nil)))) (a_cons (v_fr (o_lst (a_cons (v_exc1 (Z_InvalidKnot L) (rm.less (by decide)) (a_cons (v_var 0) a_nil)) (a_cons v_str a_nil)))) a_nil)))))) sc_l_all.nd)
  (b_cons (s_set 2 (v_op op_addAll ok_add (v_var 2) (v_fr (o_lst (a_cons (v_fr (o_lst (a_cons (v_exc1 (Z_InvalidClaim L) (rm.less (by decide)) (a_cons (v_var 0) a_nil)) (a_cons v_str a_nil)))) (a_cons (v_fr (o_lst (a_cons (v_exc1 (Z_InvalidCommand L) (rm.less (by decide)) (a_cons (v_var 0) a_nil)) (a_cons v_str a_nil)))) (a_cons (v_fr (o_lst (a_cons (v_exc1 (Z_NotAFrame L) (rm.less (by decide)) (a_cons (v_var 0) a_nil)) (a_cons v_str a_nil)))) a_nil)))))) sc_l_all.nd)
  (b_cons (s_set 2 (v_op op_addAll ok_add (v_var 2) (v_fr (o_lst (a_cons (v_fr (o_lst (a_cons (v_exc1 (Z_NotACurve L) (rm.less (by decide)) (a_cons (v_var 0) a_nil)) (a_cons v_str a_nil)))) (a_cons (v_fr (o_lst (a_cons (v_exc1 (Z_InvalidKnots L) (rm.less (by decide)) (a_cons (v_var 0) a_nil)) (a_cons v_str a_nil)))) (a_cons (v_fr (o_lst (a_cons (v_exc1 (Z_InvalidAmounts L) (rm.less (by decide)) (a_cons (v_var 0) a_nil)) (a_cons v_str a_nil)))) a_nil)))))) sc_l_all.nd)
  (b_cons (s_set 2 (v_op op_addAll ok_add (v_var 2) (v_fr (o_lst (a_cons (v_fr (o_lst (a_cons (v_exc1 (Z_InvalidPlaces L) (rm.less (by decide)) (a_cons (v_var 0) a_nil)) (a_cons v_str a_nil)))) (a_cons (v_fr (o_lst (a_cons (v_exc1 (Z_InvalidHeights L) (rm.less (by decide)) (a_cons (v_var 0) a_nil)) (a_cons v_str a_nil)))) (a_cons (v_fr (o_lst (a_cons (v_exc1 (Z_InvalidOffers L) (rm.less (by decide)) (a_cons (v_var 0) a_nil)) (a_cons v_str a_nil)))) a_nil)))))) sc_l_all.nd)
  (b_cons (s_set 2 (v_op op_addAll ok_add (v_var 2) (v_fr (o_lst (a_cons (v_fr (o_lst (a_cons (v_exc1 (Z_UnknownName L) (rm.less (by decide)) (a_cons (v_var 0) a_nil)) (a_cons v_str a_nil)))) (a_cons (v_fr (o_lst (a_cons (v_exc1 (Z_InUse L) (rm.less (by decide)) (a_cons (v_var 0) a_nil)) (a_cons v_str a_nil)))) (a_cons (v_fr (o_lst (a_cons (v_exc0 (Z_NothingToUndo L)) (a_cons v_str a_nil)))) a_nil)))))) sc_l_all.nd)
  (b_one (s_ret (v_op op_addAll ok_add (v_var 2) (v_fr (o_lst (a_cons (v_fr (o_lst (a_cons (v_exc1 (Z_TooMany L) (rm.less (by decide)) (a_cons (v_var 0) a_nil)) (a_cons v_str a_nil)))) (a_cons (v_fr (o_lst (a_cons (v_exc1 (Z_NotOne L) (rm.less (by decide)) (a_cons (v_var 0) a_nil)) (a_cons v_str a_nil)))) (a_cons (v_fr (o_lst (a_cons (v_exc2 (Z_Broken L) (rm.less (by decide)) (a_cons (v_var 0) (a_cons (v_var 1) a_nil))) (a_cons v_str a_nil)))) a_nil))))))))))))))
theorem sc_l_named : FnScope ["_law_thing", "_law_other_thing", "_law_found"] ["_law_thing", "_law_other_thing"] (defScope s_l_named) := ⟨rfl, rfl, rfl, by decide +kernel, rfl, by decide +kernel, by decide +kernel⟩
theorem b_l_named (L : Lf K mg) : Binds K L.d_l_named ["_law_thing", "_law_other_thing"] [] := L.F_l_named.binds fun _ _ _ _ _ _ us hl => match us, hl with | [_, _], _ => rfl
theorem G_l_named (L : Lf K mg) : FnG P w K mg base 3 L.a_l_named L.d_l_named ["_law_thing", "_law_other_thing"] (SpM K mg 2 f_l_named) := fnM L.F_l_named sc_l_named rfl fun cd A outer s H E rm =>
  (b_cons (s_set 2 (v_fr (o_lst (a_cons (v_exc1K (ZK_InvalidText L) (rm.less (by decide)) (k_cons (v_var 0) k_nil)) (a_cons (v_exc1K (ZK_InvalidNumber L) (rm.less (by decide)) (k_cons (v_var 0) k_nil)) (a_cons (v_exc1K (ZK_InvalidName L) (rm.less (by decide)) (k_cons (v_var 0) k_nil)) (a_cons (v_exc1K (ZK_InvalidIndex L) (rm.less (by decide)) (k_cons (v_var 0) k_nil)) a_nil)))))) sc_l_named.nd)
  (b_cons (s_set 2 (v_op op_addAll ok_add (v_var 2) (v_fr (o_lst (a_cons (v_exc1K (ZK_InvalidDegree L) (rm.less (by decide)) (k_cons (v_var 0) k_nil)) (a_cons (v_exc1K (ZK_InvalidKnot L) (rm.less (by decide)) (k_cons (v_var 0) k_nil)) (a_cons (v_exc1K (ZK_InvalidClaim L) (rm.less (by decide)) (k_cons (v_var 0) k_nil)) a_nil)))))) sc_l_named.nd)
  (b_cons (s_set 2 (v_op op_addAll ok_add (v_var 2) (v_fr (o_lst (a_cons (v_exc1K (ZK_InvalidCommand L) (rm.less (by decide)) (k_cons (v_var 0) k_nil)) (a_cons (v_exc1K (ZK_NotAFrame L) (rm.less (by decide)) (k_cons (v_var 0) k_nil)) (a_cons (v_exc1K (ZK_NotACurve L) (rm.less (by decide)) (k_cons (v_var 0) k_nil)) a_nil)))))) sc_l_named.nd)
  (b_cons (s_set 2 (v_op op_addAll ok_add (v_var 2) (v_fr (o_lst (a_cons (v_exc1K (ZK_InvalidKnots L) (rm.less (by decide)) (k_cons (v_var 0) k_nil)) (a_cons (v_exc1K (ZK_InvalidAmounts L) (rm.less (by decide)) (k_cons (v_var 0) k_nil)) (a_cons (v_exc1K (ZK_InvalidPlaces L) (rm.less (by decide)) (k_cons (v_var 0) k_nil)) a_nil)))))) sc_l_named.nd)
  (b_cons (s_set 2 (v_op op_addAll ok_add (v_var 2) (v_fr (o_lst (a_cons (v_exc1K (ZK_InvalidHeights L) (rm.less (by decide)) (k_cons (v_var 0) k_nil)) (a_cons (v_exc1K (ZK_InvalidOffers L) (rm.less (by decide)) (k_cons (v_var 0) k_nil)) (a_cons (v_exc1K (ZK_UnknownName L) (rm.less (by decide)) (k_cons (v_var 0) k_nil)) a_nil)))))) sc_l_named.nd)
  (b_cons (s_set 2 (v_op op_addAll ok_add (v_var 2) (v_fr (o_lst (a_cons (v_exc1K (ZK_InUse L) (rm.less (by decide)) (k_cons (v_var 0) k_nil)) (a_cons (v_exc0 (Z_NothingToUndo L)) (a_cons (v_exc1K (ZK_TooMany L) (rm.less (by decide)) (k_cons (v_var 0) k_nil)) (a_cons (v_exc1K (ZK_NotOne L) (rm.less (by decide)) (k_cons (v_var 0) k_nil)) a_nil))))))) sc_l_named.nd)
  (b_one (s_ret (v_op op_addAll ok_add (v_var 2) (v_fr (o_lst (a_cons (v_exc2K (ZK_Broken L) (rm.less (by decide)) (k_cons (v_var 1) (k_cons (v_var 0) k_nil))) a_nil))))))))))))
theorem sc_l_has : FnScope ["_law_e", "_law_field"] ["_law_e", "_law_field"] (defScope s_l_has) := ⟨rfl, rfl, rfl, by decide +kernel, rfl, by decide +kernel, by decide +kernel⟩
theorem b_l_has (L : Lf K mg) : Binds K L.d_l_has ["_law_e", "_law_field"] [] := L.F_l_has.binds fun _ _ _ _ _ _ us hl => match us, hl with | [_, _], _ => rfl
theorem G_l_has (L : Lf K mg) : FnG P w K mg base 1 L.a_l_has L.d_l_has ["_law_e", "_law_field"] (SpM K mg 2 f_l_has) := fnM L.F_l_has sc_l_has rfl fun cd A outer s H E rm =>
  (b_cons (s_if (t_cmp (op_eqAll rm.units) ok_eq (v_var 1) v_str rfl) (b_one (s_ret v_str)) b_nil)
  (b_cons (s_if (t_cmp (op_eqAll rm.units) ok_eq (v_var 1) v_str rfl) (b_one (s_ret (v_xf (xf_ok L) (v_var 0)))) b_nil)
  (b_cons (s_if (t_cmp (op_eqAll rm.units) ok_eq (v_var 1) v_str rfl) (b_one (s_ret (v_xf (xf_ok L) (v_var 0)))) b_nil)
  (b_one (s_ret (v_if (t_cmp (op_eqAll rm.units) ok_eq (v_var 1) v_str rfl) (v_xf (xf_ok L) (v_var 0)) (v_xf (xf_ok L) (v_var 0))))))))
theorem sc_l_bases : FnScope ["_law_e", "_law_own"] ["_law_e"] (defScope s_l_bases) := ⟨rfl, rfl, rfl, by decide +kernel, rfl, by decide +kernel, by decide +kernel⟩
theorem b_l_bases (L : Lf K mg) : Binds K L.d_l_bases ["_law_e"] [] := L.F_l_bases.binds fun _ _ _ _ _ _ us hl => match us, hl with | [_], _ => rfl
theorem G_l_bases (L : Lf K mg) : FnG P w K mg base 1 L.a_l_bases L.d_l_bases ["_law_e"] (SpM K mg 1 f_l_bases) := fnM L.F_l_bases sc_l_bases rfl fun cd A outer s H E rm =>
  (b_cons (s_set 1 (v_fr (o_lst (a_cons (v_callB call_isAll (ok_isA (tab_ok L)) rfl L.z_isinstance rfl (a_cons (v_var 0) (a_cons (v_cls L.c_NotRight) a_nil))) (a_cons (v_callB call_isAll (ok_isA (tab_ok L)) rfl L.z_isinstance rfl (a_cons (v_var 0) (a_cons (v_cls L.c_NotKnown) a_nil))) (a_cons (v_callB call_isAll (ok_isA (tab_ok L)) rfl L.z_isinstance rfl (a_cons (v_var 0) (a_cons (v_cls L.c_NotPossible) a_nil))) a_nil))))) sc_l_bases.nd)
  (b_one (s_ret (v_op op_addAll ok_add (v_var 1) (v_fr (o_lst (a_cons (v_callB call_isAll (ok_isA (tab_ok L)) rfl L.z_isinstance rfl (a_cons (v_var 0) (a_cons (v_bty L.z_ValueError rfl) a_nil))) (a_cons (v_callB call_isAll (ok_isA (tab_ok L)) rfl L.z_isinstance rfl (a_cons (v_var 0) (a_cons (v_bty L.z_LookupError rfl) a_nil))) (a_cons (v_callB call_isAll (ok_isA (tab_ok L)) rfl L.z_isinstance rfl (a_cons (v_var 0) (a_cons (v_bty L.z_ArithmeticError rfl) a_nil))) a_nil)))))))))
theorem sc_l_caught : FnScope ["_law_thing", "_law_found", "_law_e"] ["_law_thing"] (defScope s_l_caught) := ⟨rfl, rfl, rfl, by decide +kernel, rfl, by decide +kernel, by decide +kernel⟩
theorem b_l_caught (L : Lf K mg) : Binds K L.d_l_caught ["_law_thing"] [] := L.F_l_caught.binds fun _ _ _ _ _ _ us hl => match us, hl with | [_], _ => rfl
theorem G_l_caught (L : Lf K mg) : FnG P w K mg base 3 L.a_l_caught L.d_l_caught ["_law_thing"] (SpM K mg 1 f_l_caught) := fnM L.F_l_caught sc_l_caught rfl fun cd A outer s H E rm =>
  (b_cons (s_setO 1 (o_lst a_nil) sc_l_caught.nd)
  (b_cons (s_try rfl rfl sc_l_caught.nd (L2N.takes_of rfl rfl rfl rfl) (sub_ok' L)
  (fun E1 pn xe tk po => (b_one (s_raise1 (Z_InvalidKnots L) rfl tk (rm.less (by decide)) (v_var 0))))
  (.named tst1 rfl rfl (fun a pn oe hot => (b_one (s_app 1 (v_xf (xf_ok L) (v_var 2))))) .nil))
  (b_cons (s_try rfl rfl sc_l_caught.nd (L2N.takes_of rfl rfl rfl rfl) (sub_ok' L)
  (fun E1 pn xe tk po => (b_one (s_raise1 (Z_UnknownName L) rfl tk (rm.less (by decide)) (v_var 0))))
  (.named tst1 rfl rfl (fun a pn oe hot => (b_one (s_app 1 (v_xf (xf_ok L) (v_var 2))))) .nil))
  (b_cons (s_try rfl rfl sc_l_caught.nd (L2N.takes_of rfl rfl rfl rfl) (sub_ok' L)
  (fun E1 pn xe tk po => (b_one (s_raise1 (Z_NotOne L) rfl tk (rm.less (by decide)) (v_var 0))))
  (.named tst1 rfl rfl (fun a pn oe hot => (b_one (s_app 1 (v_xf (xf_ok L) (v_var 2))))) .nil))
  (b_one (s_fz 1 (s_ret (v_var 1))))))))
theorem sc_l_right : FnScope ["_law_thing", "_law_other_thing", "_law_some", "_law_others", "_law_k", "_law_base", "_law_due", "_law_e", "_law_last"] ["_law_thing", "_law_other_thing"] (defScope s_l_right) := ⟨rfl, rfl, rfl, by decide +kernel, rfl, by decide +kernel, by decide +kernel⟩
theorem b_l_right (L : Lf K mg) : Binds K L.d_l_right ["_law_thing", "_law_other_thing"] [] := L.F_l_right.binds fun _ _ _ _ _ _ us hl => match us, hl with | [_, _], _ => rfl
theorem G_l_right (L : Lf K mg) : FnG P w K mg base 4 L.a_l_right L.d_l_right ["_law_thing", "_law_other_thing"] (SpM K mg 2 f_l_right) := fnM L.F_l_right sc_l_right rfl fun cd A outer s H E rm =>
  (b_cons (s_par 2 3 (a_cons (v_call (G_l_all L) (rm.less (by decide)) L.m_l_all L.F_l_all.kp (b_l_all L) px_def (a_cons (v_var 0) (a_cons (v_var 1) a_nil))) (a_cons (v_call (G_l_named L) (rm.less (by decide)) L.m_l_named L.F_l_named.kp (b_l_named L) px_def (a_cons (v_var 0) (a_cons (v_var 1) a_nil))) a_nil)) rfl sc_l_right.nd)
  (b_cons (s_for po_def rfl (i_range1 L.z_range (a_cons (v_callB call_lenAll ok_len rfl L.z_len rfl (a_cons (v_var 2) a_nil)) a_nil)) (pp_nm 4 sc_l_right.nd) (b_cons (s_set 5 (v_if (t_cmp op_lt ok_lt (v_var 4) v_int rfl) v_int (v_if (t_cmp op_lt ok_lt (v_var 4) v_int rfl) v_int v_int)) sc_l_right.nd)
  (b_cons (s_set 6 (v_op op_mulAll ok_mul (v_fr (o_lst (a_cons (v_cmp (op_eqAll rm.units) ok_eq (v_var 5) v_int rfl) (a_cons (v_cmp (op_eqAll rm.units) ok_eq (v_var 5) v_int rfl) (a_cons (v_cmp (op_eqAll rm.units) ok_eq (v_var 5) v_int rfl) a_nil))))) v_int) sc_l_right.nd)
  (b_one (s_for po_def rfl (i_seq (v_fr (o_lst (a_cons (v_ix ix_all ok_ix (v_ix ix_all ok_ix (v_var 2) (v_var 4) (fun _ _ => rfl)) v_int (fun _ _ => rfl)) (a_cons (v_ix ix_all ok_ix (v_var 3) (v_var 4) (fun _ _ => rfl)) a_nil))))) (pp_nm 7 sc_l_right.nd) (b_cons (s_if (t_cmp (op_neAll rm.units) ok_ne (v_call (G_l_bases L) (rm.less (by decide)) L.m_l_bases L.F_l_bases.kp (b_l_bases L) px_def (a_cons (v_var 7) a_nil)) (v_var 6) rfl) (b_one (s_ret v_bl)) b_nil)
  (b_one (s_if (t_cmp (op_neAll rm.units) ok_ne (v_callB (call_repr rm) ok_repr rfl L.z_repr rfl (a_cons (v_call (G_l_has L) (rm.less (by decide)) L.m_l_has L.F_l_has.kp (b_l_has L) px_def (a_cons (v_var 7) (a_cons (v_ix ix_all ok_ix (v_ix ix_all ok_ix (v_var 2) (v_var 4) (fun _ _ => rfl)) v_int (fun _ _ => rfl)) a_nil))) a_nil)) (v_callB (call_repr rm) ok_repr rfl L.z_repr rfl (a_cons (v_if (t_cmp (op_neAll rm.units) ok_ne (v_ix ix_all ok_ix (v_ix ix_all ok_ix (v_var 2) (v_var 4) (fun _ _ => rfl)) v_int (fun _ _ => rfl)) v_str rfl) (v_var 0) v_str) a_nil)) rfl) (b_one (s_ret v_bl)) b_nil))))))))
  (b_cons (s_set 8 (v_fr (o_lst (a_cons (v_ix ix_all ok_ix (v_ix ix_all ok_ix (v_var 2) v_int (fun _ _ => rfl)) v_int (fun _ _ => rfl)) (a_cons (v_ix ix_all ok_ix (v_var 3) v_int (fun _ _ => rfl)) a_nil)))) sc_l_right.nd)
  (b_one (s_ret (v_and (v_cmp (op_eqAll rm.units) ok_eq (v_callB (call_repr rm) ok_repr rfl L.z_repr rfl (a_cons (v_fr (o_lc (own := [("_law_e", 7)]) rfl sc_l_right.nd rfl (i_seq (v_var 8)) (blkOk_by (N := ["_law_thing", "_law_other_thing", "_law_some", "_law_others", "_law_k", "_law_base", "_law_due", "_law_e", "_law_last"]) (sc := defScope s_l_right) (by decide +kernel)) (fun _ _ _ _ _ => (pp_nm 7 sc_l_right.nd)) (fun _ _ _ _ _ => ts_nil) (fun _ _ _ _ _ => (v_xf (xf_ok L) (v_var 7))))) a_nil)) (v_callB (call_repr rm) ok_repr rfl L.z_repr rfl (a_cons (v_op op_mulAll ok_mul (v_fr (o_lst (a_cons (v_var 1) a_nil))) v_int) a_nil)) rfl) (v_and1 (v_cmp (op_eqAll rm.units) ok_eq (v_callB (call_repr rm) ok_repr rfl L.z_repr rfl (a_cons (v_call (G_l_caught L) (rm.less (by decide)) L.m_l_caught L.F_l_caught.kp (b_l_caught L) px_def (a_cons (v_var 0) a_nil)) a_nil)) (v_callB (call_repr rm) ok_repr rfl L.z_repr rfl (a_cons (v_op op_mulAll ok_mul (v_fr (o_lst (a_cons (v_var 0) a_nil))) v_int) a_nil)) rfl))))))))
theorem sc_p_law : FnScope ["_law_script", "_law_limits_here", "_law_things", "_law_each", "_law_k"] ["_law_script"] (defScope s_p_law) := ⟨rfl, rfl, rfl, by decide +kernel, rfl, by decide +kernel, by decide +kernel⟩
theorem G_p_law (L : Lf K mg) : FnG P w K mg base 5 L.a_p_law L.d_p_law ["_law_script"] (SpM K mg 1 f_p_law) := fnM L.F_p_law sc_p_law rfl fun cd A outer s H E rm =>
  (b_cons (s_set 1 (v_fr (o_lst (a_cons (v_gint L.g_MOST_DEGREE) (a_cons (v_gint L.g_MOST_KNOT) (a_cons (v_gint L.g_MOST_HILLS) (a_cons (v_gint L.g_MOST_PLACES) (a_cons (v_gint L.g_MOST_HEIGHT) (a_cons (v_gint L.g_MOST_OFFERS) a_nil)))))))) sc_p_law.nd)
  (b_cons (s_if (t_cmp (op_neAll rm.units) ok_ne (v_var 1) (v_fr (o_lst (a_cons v_int (a_cons (v_op op_pow ok_pow v_int v_int) (a_cons v_int (a_cons v_int (a_cons (v_op op_pow ok_pow v_int v_int) (a_cons v_int a_nil)))))))) rfl) (b_one (s_ret v_bl)) b_nil)
  (b_cons (s_set 2 (v_op op_addAll ok_add (v_fr (o_lst (a_cons v_non (a_cons v_str (a_cons (v_tup (a_cons v_int (a_cons v_str a_nil))) (a_cons v_bl (a_cons (v_un un_neg ok_neg v_int) a_nil))))))) (v_fr (o_lc (own := [("_law_each", 3)]) rfl sc_p_law.nd rfl (i_seq (v_slice sl_all ok_slice (v_var 0) p_none (p_some v_int))) (blkOk_by (N := ["_law_script", "_law_limits_here", "_law_things", "_law_each", "_law_k"]) (sc := defScope s_p_law) (by decide +kernel)) (fun _ _ _ _ _ => (pp_nm 3 sc_p_law.nd)) (fun _ _ _ _ _ => ts_nil) (fun _ _ _ _ _ => (v_op op_mod ok_mod (v_callTy call_int1 ok_toInt rfl L.z_int rfl (a_cons (v_var 3) a_nil)) (v_op op_pow ok_pow v_int v_int)))))) sc_p_law.nd)
  (b_one (s_ret (v_callB (cr_all rfl) ok_all rfl L.z_all rfl (a_cons (v_fr (o_lc (own := [("_law_k", 4)]) rfl sc_p_law.nd rfl (i_range1 L.z_range (a_cons (v_callB call_lenAll ok_len rfl L.z_len rfl (a_cons (v_var 2) a_nil)) a_nil)) (blkOk_by (N := ["_law_script", "_law_limits_here", "_law_things", "_law_each", "_law_k"]) (sc := defScope s_p_law) (by decide +kernel)) (fun _ _ _ _ _ => (pp_nm 4 sc_p_law.nd)) (fun _ _ _ _ _ => ts_nil) (fun _ _ _ _ _ => (v_call (G_l_right L) (rm.less (by decide)) L.m_l_right L.F_l_right.kp (b_l_right L) px_0 (a_cons (v_ix ix_all ok_ix (v_var 2) (v_var 4) (fun _ _ => rfl)) (a_cons (v_ix ix_all ok_ix (v_var 2) (v_op op_sub ok_sub (v_var 4) v_int) (fun _ _ => rfl)) a_nil)))))) a_nil)))))))
end
end K01
namespace K01
open PySem PySem.Spec L2 DL
open PyProof.Rows hiding St
theorem all_mk {P : Program} {w : World} {K : PySem.W.Frag} {h : Heap} {mg : Str → Option Value} {fa : Addr} (X : K.In h) (G : h.Ns mainGlobals mg) (hfa : mg "law" = some (.ref fa)) (c : SaysQ chkQ fnQ K)
    : ∃ fd : FuncData, (∀ (s : Shared) (v : Value), BindsTo s fd ⟨[v], []⟩ [("_law_script", v)]) ∧ ∀ base : Heap, K.In base → base.Ns mainGlobals mg → FnG P w K mg base 5 fa fd ["_law_script"] (SpM K mg 1 f_p_law) := by
  have e0 := c.chk0
  obtain ⟨g0, e1⟩ := He.ba e0
  obtain ⟨a_l_all, a_l_named, a_l_has, a_l_bases, a_l_caught, a_l_right, a_p_law, z_ArithmeticError, z_LookupError, z_ValueError⟩ := of_decide_eq_true g0
  clear g0 e0
  obtain ⟨g1, e2⟩ := He.ba e1
  obtain ⟨z_all, z_int, z_isinstance, z_len, z_range, z_repr, g_MOST_DEGREE, g_MOST_HEIGHT, g_MOST_HILLS, g_MOST_KNOT⟩ := of_decide_eq_true g1
  clear g1 e1
  obtain ⟨g2, e3⟩ := He.ba e2
  obtain ⟨g_MOST_OFFERS, g_MOST_PLACES, b_NotRight, b_InvalidText, b_InvalidNumber, b_InvalidName, b_InvalidIndex, b_InvalidDegree, b_InvalidKnot, b_InvalidClaim⟩ := of_decide_eq_true g2
  clear g2 e2
  obtain ⟨g3, e4⟩ := He.ba e3
  obtain ⟨b_InvalidCommand, b_NotAFrame, b_NotACurve, b_InvalidKnots, b_InvalidAmounts, b_InvalidPlaces, b_InvalidHeights, b_InvalidOffers, b_NotKnown, b_UnknownName⟩ := of_decide_eq_true g3
  clear g3 e3
  obtain ⟨g4, e5⟩ := He.ba e4
  obtain ⟨b_InUse, b_NothingToUndo, b_NotPossible, b_TooMany, b_NotOne, b_Broken, w_sp, w_tk, x1_Broken, x2_Broken⟩ := of_decide_eq_true g4
  clear g4 e4
  obtain ⟨g5, e6⟩ := He.ba e5
  obtain ⟨x3_Broken, x4_Broken, x5_Broken, x6_Broken, x7_Broken, e1_Broken, e2_Broken, e5_Broken, e8_Broken, no_Broken⟩ := of_decide_eq_true g5
  clear g5 e5
  obtain ⟨g6, e7⟩ := He.ba e6
  obtain ⟨ii_Broken, it_Broken, ta_Broken, no2_Broken, ta2_Broken, x1_NotOne, x2_NotOne, x3_NotOne, x4_NotOne, x5_NotOne⟩ := of_decide_eq_true g6
  clear g6 e6
  obtain ⟨g7, e8⟩ := He.ba e7
  obtain ⟨x6_NotOne, x7_NotOne, e1_NotOne, e2_NotOne, e5_NotOne, e8_NotOne, no_NotOne, ii_NotOne, it_NotOne, ta_NotOne⟩ := of_decide_eq_true g7
  clear g7 e7
  obtain ⟨g8, e9⟩ := He.ba e8
  obtain ⟨x1_TooMany, x2_TooMany, x3_TooMany, x4_TooMany, x5_TooMany, x6_TooMany, x7_TooMany, e1_TooMany, e2_TooMany, e5_TooMany⟩ := of_decide_eq_true g8
  clear g8 e8
  obtain ⟨g9, e10⟩ := He.ba e9
  obtain ⟨e8_TooMany, no_TooMany, ii_TooMany, it_TooMany, ta_TooMany, x1_NothingToUndo, x3_NothingToUndo, x5_NothingToUndo, x6_NothingToUndo, x7_NothingToUndo⟩ := of_decide_eq_true g9
  clear g9 e9
  obtain ⟨g10, e11⟩ := He.ba e10
  obtain ⟨e1_NothingToUndo, e2_NothingToUndo, e5_NothingToUndo, e8_NothingToUndo, x1_InUse, x2_InUse, x3_InUse, x4_InUse, x5_InUse, x6_InUse⟩ := of_decide_eq_true g10
  clear g10 e10
  obtain ⟨g11, e12⟩ := He.ba e11
  obtain ⟨x7_InUse, e1_InUse, e2_InUse, e5_InUse, e8_InUse, no_InUse, ii_InUse, it_InUse, ta_InUse, x1_UnknownName⟩ := of_decide_eq_true g11
  clear g11 e11
  obtain ⟨g12, e13⟩ := He.ba e12
  obtain ⟨x2_UnknownName, x3_UnknownName, x4_UnknownName, x5_UnknownName, x6_UnknownName, x7_UnknownName, e1_UnknownName, e2_UnknownName, e5_UnknownName, e8_UnknownName⟩ := of_decide_eq_true g12
  clear g12 e12
  obtain ⟨g13, e14⟩ := He.ba e13
  obtain ⟨no_UnknownName, ii_UnknownName, it_UnknownName, ta_UnknownName, x1_InvalidOffers, x2_InvalidOffers, x3_InvalidOffers, x4_InvalidOffers, x5_InvalidOffers, x6_InvalidOffers⟩ := of_decide_eq_true g13
  clear g13 e13
  obtain ⟨g14, e15⟩ := He.ba e14
  obtain ⟨x7_InvalidOffers, e1_InvalidOffers, e2_InvalidOffers, e5_InvalidOffers, e8_InvalidOffers, no_InvalidOffers, ii_InvalidOffers, it_InvalidOffers, ta_InvalidOffers, x1_InvalidHeights⟩ := of_decide_eq_true g14
  clear g14 e14
  obtain ⟨g15, e16⟩ := He.ba e15
  obtain ⟨x2_InvalidHeights, x3_InvalidHeights, x4_InvalidHeights, x5_InvalidHeights, x6_InvalidHeights, x7_InvalidHeights, e1_InvalidHeights, e2_InvalidHeights, e5_InvalidHeights, e8_InvalidHeights⟩ := of_decide_eq_true g15
  clear g15 e15
  obtain ⟨g16, e17⟩ := He.ba e16
  obtain ⟨no_InvalidHeights, ii_InvalidHeights, it_InvalidHeights, ta_InvalidHeights, x1_InvalidPlaces, x2_InvalidPlaces, x3_InvalidPlaces, x4_InvalidPlaces, x5_InvalidPlaces, x6_InvalidPlaces⟩ := of_decide_eq_true g16
  clear g16 e16
  obtain ⟨g17, e18⟩ := He.ba e17
  obtain ⟨x7_InvalidPlaces, e1_InvalidPlaces, e2_InvalidPlaces, e5_InvalidPlaces, e8_InvalidPlaces, no_InvalidPlaces, ii_InvalidPlaces, it_InvalidPlaces, ta_InvalidPlaces, x1_InvalidAmounts⟩ := of_decide_eq_true g17
  clear g17 e17
  obtain ⟨g18, e19⟩ := He.ba e18
  obtain ⟨x2_InvalidAmounts, x3_InvalidAmounts, x4_InvalidAmounts, x5_InvalidAmounts, x6_InvalidAmounts, x7_InvalidAmounts, e1_InvalidAmounts, e2_InvalidAmounts, e5_InvalidAmounts, e8_InvalidAmounts⟩ := of_decide_eq_true g18
  clear g18 e18
  obtain ⟨g19, e20⟩ := He.ba e19
  obtain ⟨no_InvalidAmounts, ii_InvalidAmounts, it_InvalidAmounts, ta_InvalidAmounts, x1_InvalidKnots, x2_InvalidKnots, x3_InvalidKnots, x4_InvalidKnots, x5_InvalidKnots, x6_InvalidKnots⟩ := of_decide_eq_true g19
  clear g19 e19
  obtain ⟨g20, e21⟩ := He.ba e20
  obtain ⟨x7_InvalidKnots, e1_InvalidKnots, e2_InvalidKnots, e5_InvalidKnots, e8_InvalidKnots, no_InvalidKnots, ii_InvalidKnots, it_InvalidKnots, ta_InvalidKnots, x1_NotACurve⟩ := of_decide_eq_true g20
  clear g20 e20
  obtain ⟨g21, e22⟩ := He.ba e21
  obtain ⟨x2_NotACurve, x3_NotACurve, x4_NotACurve, x5_NotACurve, x6_NotACurve, x7_NotACurve, e1_NotACurve, e2_NotACurve, e5_NotACurve, e8_NotACurve⟩ := of_decide_eq_true g21
  clear g21 e21
  obtain ⟨g22, e23⟩ := He.ba e22
  obtain ⟨no_NotACurve, ii_NotACurve, it_NotACurve, ta_NotACurve, x1_NotAFrame, x2_NotAFrame, x3_NotAFrame, x4_NotAFrame, x5_NotAFrame, x6_NotAFrame⟩ := of_decide_eq_true g22
  clear g22 e22
  obtain ⟨g23, e24⟩ := He.ba e23
  obtain ⟨x7_NotAFrame, e1_NotAFrame, e2_NotAFrame, e5_NotAFrame, e8_NotAFrame, no_NotAFrame, ii_NotAFrame, it_NotAFrame, ta_NotAFrame, x1_InvalidCommand⟩ := of_decide_eq_true g23
  clear g23 e23
  obtain ⟨g24, e25⟩ := He.ba e24
  obtain ⟨x2_InvalidCommand, x3_InvalidCommand, x4_InvalidCommand, x5_InvalidCommand, x6_InvalidCommand, x7_InvalidCommand, e1_InvalidCommand, e2_InvalidCommand, e5_InvalidCommand, e8_InvalidCommand⟩ := of_decide_eq_true g24
  clear g24 e24
  obtain ⟨g25, e26⟩ := He.ba e25
  obtain ⟨no_InvalidCommand, ii_InvalidCommand, it_InvalidCommand, ta_InvalidCommand, x1_InvalidClaim, x2_InvalidClaim, x3_InvalidClaim, x4_InvalidClaim, x5_InvalidClaim, x6_InvalidClaim⟩ := of_decide_eq_true g25
  clear g25 e25
  obtain ⟨g26, e27⟩ := He.ba e26
  obtain ⟨x7_InvalidClaim, e1_InvalidClaim, e2_InvalidClaim, e5_InvalidClaim, e8_InvalidClaim, no_InvalidClaim, ii_InvalidClaim, it_InvalidClaim, ta_InvalidClaim, x1_InvalidKnot⟩ := of_decide_eq_true g26
  clear g26 e26
  obtain ⟨g27, e28⟩ := He.ba e27
  obtain ⟨x2_InvalidKnot, x3_InvalidKnot, x4_InvalidKnot, x5_InvalidKnot, x6_InvalidKnot, x7_InvalidKnot, e1_InvalidKnot, e2_InvalidKnot, e5_InvalidKnot, e8_InvalidKnot⟩ := of_decide_eq_true g27
  clear g27 e27
  obtain ⟨g28, e29⟩ := He.ba e28
  obtain ⟨no_InvalidKnot, ii_InvalidKnot, it_InvalidKnot, ta_InvalidKnot, x1_InvalidDegree, x2_InvalidDegree, x3_InvalidDegree, x4_InvalidDegree, x5_InvalidDegree, x6_InvalidDegree⟩ := of_decide_eq_true g28
  clear g28 e28
  obtain ⟨g29, e30⟩ := He.ba e29
  obtain ⟨x7_InvalidDegree, e1_InvalidDegree, e2_InvalidDegree, e5_InvalidDegree, e8_InvalidDegree, no_InvalidDegree, ii_InvalidDegree, it_InvalidDegree, ta_InvalidDegree, x1_InvalidIndex⟩ := of_decide_eq_true g29
  clear g29 e29
  obtain ⟨g30, e31⟩ := He.ba e30
  obtain ⟨x2_InvalidIndex, x3_InvalidIndex, x4_InvalidIndex, x5_InvalidIndex, x6_InvalidIndex, x7_InvalidIndex, e1_InvalidIndex, e2_InvalidIndex, e5_InvalidIndex, e8_InvalidIndex⟩ := of_decide_eq_true g30
  clear g30 e30
  obtain ⟨g31, e32⟩ := He.ba e31
  obtain ⟨no_InvalidIndex, ii_InvalidIndex, it_InvalidIndex, ta_InvalidIndex, x1_InvalidName, x2_InvalidName, x3_InvalidName, x4_InvalidName, x5_InvalidName, x6_InvalidName⟩ := of_decide_eq_true g31
  clear g31 e31
  obtain ⟨g32, e33⟩ := He.ba e32
  obtain ⟨x7_InvalidName, e1_InvalidName, e2_InvalidName, e5_InvalidName, e8_InvalidName, no_InvalidName, ii_InvalidName, it_InvalidName, ta_InvalidName, x1_InvalidNumber⟩ := of_decide_eq_true g32
  clear g32 e32
  obtain ⟨g33, e34⟩ := He.ba e33
  obtain ⟨x2_InvalidNumber, x3_InvalidNumber, x4_InvalidNumber, x5_InvalidNumber, x6_InvalidNumber, x7_InvalidNumber, e1_InvalidNumber, e2_InvalidNumber, e5_InvalidNumber, e8_InvalidNumber⟩ := of_decide_eq_true g33
  clear g33 e33
  obtain ⟨g34, e35⟩ := He.ba e34
  obtain ⟨no_InvalidNumber, ii_InvalidNumber, it_InvalidNumber, ta_InvalidNumber, x1_InvalidText, x2_InvalidText, x3_InvalidText, x4_InvalidText, x5_InvalidText, x6_InvalidText⟩ := of_decide_eq_true g34
  clear g34 e34
  obtain ⟨g35, e36⟩ := He.ba e35
  obtain ⟨x7_InvalidText, e1_InvalidText, e2_InvalidText, e5_InvalidText, e8_InvalidText, no_InvalidText, ii_InvalidText, it_InvalidText, ta_InvalidText, oo_Broken_NotRight⟩ := of_decide_eq_true g35
  clear g35 e35
  obtain ⟨g36, e37⟩ := He.ba e36
  obtain ⟨oo_Broken_InvalidText, oo_Broken_InvalidNumber, oo_Broken_InvalidName, oo_Broken_InvalidIndex, oo_Broken_InvalidDegree, oo_Broken_InvalidKnot, oo_Broken_InvalidClaim, oo_Broken_InvalidCommand, oo_Broken_NotAFrame, oo_Broken_NotACurve⟩ := of_decide_eq_true g36
  clear g36 e36
  obtain ⟨g37, e38⟩ := He.ba e37
  obtain ⟨oo_Broken_InvalidKnots, oo_Broken_InvalidAmounts, oo_Broken_InvalidPlaces, oo_Broken_InvalidHeights, oo_Broken_InvalidOffers, oo_Broken_NotKnown, oo_Broken_UnknownName, oo_Broken_InUse, oo_Broken_NothingToUndo, oo_Broken_NotPossible⟩ := of_decide_eq_true g37
  clear g37 e37
  obtain ⟨g38, e39⟩ := He.ba e38
  obtain ⟨oo_Broken_TooMany, oo_Broken_NotOne, oo_Broken_Broken, oo_NotOne_NotRight, oo_NotOne_InvalidText, oo_NotOne_InvalidNumber, oo_NotOne_InvalidName, oo_NotOne_InvalidIndex, oo_NotOne_InvalidDegree, oo_NotOne_InvalidKnot⟩ := of_decide_eq_true g38
  clear g38 e38
  obtain ⟨g39, e40⟩ := He.ba e39
  obtain ⟨oo_NotOne_InvalidClaim, oo_NotOne_InvalidCommand, oo_NotOne_NotAFrame, oo_NotOne_NotACurve, oo_NotOne_InvalidKnots, oo_NotOne_InvalidAmounts, oo_NotOne_InvalidPlaces, oo_NotOne_InvalidHeights, oo_NotOne_InvalidOffers, oo_NotOne_NotKnown⟩ := of_decide_eq_true g39
  clear g39 e39
  obtain ⟨g40, e41⟩ := He.ba e40
  obtain ⟨oo_NotOne_UnknownName, oo_NotOne_InUse, oo_NotOne_NothingToUndo, oo_NotOne_NotPossible, oo_NotOne_TooMany, oo_NotOne_NotOne, oo_NotOne_Broken, oo_TooMany_NotRight, oo_TooMany_InvalidText, oo_TooMany_InvalidNumber⟩ := of_decide_eq_true g40
  clear g40 e40
  obtain ⟨g41, e42⟩ := He.ba e41
  obtain ⟨oo_TooMany_InvalidName, oo_TooMany_InvalidIndex, oo_TooMany_InvalidDegree, oo_TooMany_InvalidKnot, oo_TooMany_InvalidClaim, oo_TooMany_InvalidCommand, oo_TooMany_NotAFrame, oo_TooMany_NotACurve, oo_TooMany_InvalidKnots, oo_TooMany_InvalidAmounts⟩ := of_decide_eq_true g41
  clear g41 e41
  obtain ⟨g42, e43⟩ := He.ba e42
  obtain ⟨oo_TooMany_InvalidPlaces, oo_TooMany_InvalidHeights, oo_TooMany_InvalidOffers, oo_TooMany_NotKnown, oo_TooMany_UnknownName, oo_TooMany_InUse, oo_TooMany_NothingToUndo, oo_TooMany_NotPossible, oo_TooMany_TooMany, oo_TooMany_NotOne⟩ := of_decide_eq_true g42
  clear g42 e42
  obtain ⟨g43, e44⟩ := He.ba e43
  obtain ⟨oo_TooMany_Broken, oo_NothingToUndo_NotRight, oo_NothingToUndo_InvalidText, oo_NothingToUndo_InvalidNumber, oo_NothingToUndo_InvalidName, oo_NothingToUndo_InvalidIndex, oo_NothingToUndo_InvalidDegree, oo_NothingToUndo_InvalidKnot, oo_NothingToUndo_InvalidClaim, oo_NothingToUndo_InvalidCommand⟩ := of_decide_eq_true g43
  clear g43 e43
  obtain ⟨g44, e45⟩ := He.ba e44
  obtain ⟨oo_NothingToUndo_NotAFrame, oo_NothingToUndo_NotACurve, oo_NothingToUndo_InvalidKnots, oo_NothingToUndo_InvalidAmounts, oo_NothingToUndo_InvalidPlaces, oo_NothingToUndo_InvalidHeights, oo_NothingToUndo_InvalidOffers, oo_NothingToUndo_NotKnown, oo_NothingToUndo_UnknownName, oo_NothingToUndo_InUse⟩ := of_decide_eq_true g44
  clear g44 e44
  obtain ⟨g45, e46⟩ := He.ba e45
  obtain ⟨oo_NothingToUndo_NothingToUndo, oo_NothingToUndo_NotPossible, oo_NothingToUndo_TooMany, oo_NothingToUndo_NotOne, oo_NothingToUndo_Broken, oo_InUse_NotRight, oo_InUse_InvalidText, oo_InUse_InvalidNumber, oo_InUse_InvalidName, oo_InUse_InvalidIndex⟩ := of_decide_eq_true g45
  clear g45 e45
  obtain ⟨g46, e47⟩ := He.ba e46
  obtain ⟨oo_InUse_InvalidDegree, oo_InUse_InvalidKnot, oo_InUse_InvalidClaim, oo_InUse_InvalidCommand, oo_InUse_NotAFrame, oo_InUse_NotACurve, oo_InUse_InvalidKnots, oo_InUse_InvalidAmounts, oo_InUse_InvalidPlaces, oo_InUse_InvalidHeights⟩ := of_decide_eq_true g46
  clear g46 e46
  obtain ⟨g47, e48⟩ := He.ba e47
  obtain ⟨oo_InUse_InvalidOffers, oo_InUse_NotKnown, oo_InUse_UnknownName, oo_InUse_InUse, oo_InUse_NothingToUndo, oo_InUse_NotPossible, oo_InUse_TooMany, oo_InUse_NotOne, oo_InUse_Broken, oo_UnknownName_NotRight⟩ := of_decide_eq_true g47
  clear g47 e47
  obtain ⟨g48, e49⟩ := He.ba e48
  obtain ⟨oo_UnknownName_InvalidText, oo_UnknownName_InvalidNumber, oo_UnknownName_InvalidName, oo_UnknownName_InvalidIndex, oo_UnknownName_InvalidDegree, oo_UnknownName_InvalidKnot, oo_UnknownName_InvalidClaim, oo_UnknownName_InvalidCommand, oo_UnknownName_NotAFrame, oo_UnknownName_NotACurve⟩ := of_decide_eq_true g48
  clear g48 e48
  obtain ⟨g49, e50⟩ := He.ba e49
  obtain ⟨oo_UnknownName_InvalidKnots, oo_UnknownName_InvalidAmounts, oo_UnknownName_InvalidPlaces, oo_UnknownName_InvalidHeights, oo_UnknownName_InvalidOffers, oo_UnknownName_NotKnown, oo_UnknownName_UnknownName, oo_UnknownName_InUse, oo_UnknownName_NothingToUndo, oo_UnknownName_NotPossible⟩ := of_decide_eq_true g49
  clear g49 e49
  obtain ⟨g50, e51⟩ := He.ba e50
  obtain ⟨oo_UnknownName_TooMany, oo_UnknownName_NotOne, oo_UnknownName_Broken, oo_InvalidOffers_NotRight, oo_InvalidOffers_InvalidText, oo_InvalidOffers_InvalidNumber, oo_InvalidOffers_InvalidName, oo_InvalidOffers_InvalidIndex, oo_InvalidOffers_InvalidDegree, oo_InvalidOffers_InvalidKnot⟩ := of_decide_eq_true g50
  clear g50 e50
  obtain ⟨g51, e52⟩ := He.ba e51
  obtain ⟨oo_InvalidOffers_InvalidClaim, oo_InvalidOffers_InvalidCommand, oo_InvalidOffers_NotAFrame, oo_InvalidOffers_NotACurve, oo_InvalidOffers_InvalidKnots, oo_InvalidOffers_InvalidAmounts, oo_InvalidOffers_InvalidPlaces, oo_InvalidOffers_InvalidHeights, oo_InvalidOffers_InvalidOffers, oo_InvalidOffers_NotKnown⟩ := of_decide_eq_true g51
  clear g51 e51
  obtain ⟨g52, e53⟩ := He.ba e52
  obtain ⟨oo_InvalidOffers_UnknownName, oo_InvalidOffers_InUse, oo_InvalidOffers_NothingToUndo, oo_InvalidOffers_NotPossible, oo_InvalidOffers_TooMany, oo_InvalidOffers_NotOne, oo_InvalidOffers_Broken, oo_InvalidHeights_NotRight, oo_InvalidHeights_InvalidText, oo_InvalidHeights_InvalidNumber⟩ := of_decide_eq_true g52
  clear g52 e52
  obtain ⟨g53, e54⟩ := He.ba e53
  obtain ⟨oo_InvalidHeights_InvalidName, oo_InvalidHeights_InvalidIndex, oo_InvalidHeights_InvalidDegree, oo_InvalidHeights_InvalidKnot, oo_InvalidHeights_InvalidClaim, oo_InvalidHeights_InvalidCommand, oo_InvalidHeights_NotAFrame, oo_InvalidHeights_NotACurve, oo_InvalidHeights_InvalidKnots, oo_InvalidHeights_InvalidAmounts⟩ := of_decide_eq_true g53
  clear g53 e53
  obtain ⟨g54, e55⟩ := He.ba e54
  obtain ⟨oo_InvalidHeights_InvalidPlaces, oo_InvalidHeights_InvalidHeights, oo_InvalidHeights_InvalidOffers, oo_InvalidHeights_NotKnown, oo_InvalidHeights_UnknownName, oo_InvalidHeights_InUse, oo_InvalidHeights_NothingToUndo, oo_InvalidHeights_NotPossible, oo_InvalidHeights_TooMany, oo_InvalidHeights_NotOne⟩ := of_decide_eq_true g54
  clear g54 e54
  obtain ⟨g55, e56⟩ := He.ba e55
  obtain ⟨oo_InvalidHeights_Broken, oo_InvalidPlaces_NotRight, oo_InvalidPlaces_InvalidText, oo_InvalidPlaces_InvalidNumber, oo_InvalidPlaces_InvalidName, oo_InvalidPlaces_InvalidIndex, oo_InvalidPlaces_InvalidDegree, oo_InvalidPlaces_InvalidKnot, oo_InvalidPlaces_InvalidClaim, oo_InvalidPlaces_InvalidCommand⟩ := of_decide_eq_true g55
  clear g55 e55
  obtain ⟨g56, e57⟩ := He.ba e56
  obtain ⟨oo_InvalidPlaces_NotAFrame, oo_InvalidPlaces_NotACurve, oo_InvalidPlaces_InvalidKnots, oo_InvalidPlaces_InvalidAmounts, oo_InvalidPlaces_InvalidPlaces, oo_InvalidPlaces_InvalidHeights, oo_InvalidPlaces_InvalidOffers, oo_InvalidPlaces_NotKnown, oo_InvalidPlaces_UnknownName, oo_InvalidPlaces_InUse⟩ := of_decide_eq_true g56
  clear g56 e56
  obtain ⟨g57, e58⟩ := He.ba e57
  obtain ⟨oo_InvalidPlaces_NothingToUndo, oo_InvalidPlaces_NotPossible, oo_InvalidPlaces_TooMany, oo_InvalidPlaces_NotOne, oo_InvalidPlaces_Broken, oo_InvalidAmounts_NotRight, oo_InvalidAmounts_InvalidText, oo_InvalidAmounts_InvalidNumber, oo_InvalidAmounts_InvalidName, oo_InvalidAmounts_InvalidIndex⟩ := of_decide_eq_true g57
  clear g57 e57
  obtain ⟨g58, e59⟩ := He.ba e58
  obtain ⟨oo_InvalidAmounts_InvalidDegree, oo_InvalidAmounts_InvalidKnot, oo_InvalidAmounts_InvalidClaim, oo_InvalidAmounts_InvalidCommand, oo_InvalidAmounts_NotAFrame, oo_InvalidAmounts_NotACurve, oo_InvalidAmounts_InvalidKnots, oo_InvalidAmounts_InvalidAmounts, oo_InvalidAmounts_InvalidPlaces, oo_InvalidAmounts_InvalidHeights⟩ := of_decide_eq_true g58
  clear g58 e58
  obtain ⟨g59, e60⟩ := He.ba e59
  obtain ⟨oo_InvalidAmounts_InvalidOffers, oo_InvalidAmounts_NotKnown, oo_InvalidAmounts_UnknownName, oo_InvalidAmounts_InUse, oo_InvalidAmounts_NothingToUndo, oo_InvalidAmounts_NotPossible, oo_InvalidAmounts_TooMany, oo_InvalidAmounts_NotOne, oo_InvalidAmounts_Broken, oo_InvalidKnots_NotRight⟩ := of_decide_eq_true g59
  clear g59 e59
  obtain ⟨g60, e61⟩ := He.ba e60
  obtain ⟨oo_InvalidKnots_InvalidText, oo_InvalidKnots_InvalidNumber, oo_InvalidKnots_InvalidName, oo_InvalidKnots_InvalidIndex, oo_InvalidKnots_InvalidDegree, oo_InvalidKnots_InvalidKnot, oo_InvalidKnots_InvalidClaim, oo_InvalidKnots_InvalidCommand, oo_InvalidKnots_NotAFrame, oo_InvalidKnots_NotACurve⟩ := of_decide_eq_true g60
  clear g60 e60
  obtain ⟨g61, e62⟩ := He.ba e61
  obtain ⟨oo_InvalidKnots_InvalidKnots, oo_InvalidKnots_InvalidAmounts, oo_InvalidKnots_InvalidPlaces, oo_InvalidKnots_InvalidHeights, oo_InvalidKnots_InvalidOffers, oo_InvalidKnots_NotKnown, oo_InvalidKnots_UnknownName, oo_InvalidKnots_InUse, oo_InvalidKnots_NothingToUndo, oo_InvalidKnots_NotPossible⟩ := of_decide_eq_true g61
  clear g61 e61
  obtain ⟨g62, e63⟩ := He.ba e62
  obtain ⟨oo_InvalidKnots_TooMany, oo_InvalidKnots_NotOne, oo_InvalidKnots_Broken, oo_NotACurve_NotRight, oo_NotACurve_InvalidText, oo_NotACurve_InvalidNumber, oo_NotACurve_InvalidName, oo_NotACurve_InvalidIndex, oo_NotACurve_InvalidDegree, oo_NotACurve_InvalidKnot⟩ := of_decide_eq_true g62
  clear g62 e62
  obtain ⟨g63, e64⟩ := He.ba e63
  obtain ⟨oo_NotACurve_InvalidClaim, oo_NotACurve_InvalidCommand, oo_NotACurve_NotAFrame, oo_NotACurve_NotACurve, oo_NotACurve_InvalidKnots, oo_NotACurve_InvalidAmounts, oo_NotACurve_InvalidPlaces, oo_NotACurve_InvalidHeights, oo_NotACurve_InvalidOffers, oo_NotACurve_NotKnown⟩ := of_decide_eq_true g63
  clear g63 e63
  obtain ⟨g64, e65⟩ := He.ba e64
  obtain ⟨oo_NotACurve_UnknownName, oo_NotACurve_InUse, oo_NotACurve_NothingToUndo, oo_NotACurve_NotPossible, oo_NotACurve_TooMany, oo_NotACurve_NotOne, oo_NotACurve_Broken, oo_NotAFrame_NotRight, oo_NotAFrame_InvalidText, oo_NotAFrame_InvalidNumber⟩ := of_decide_eq_true g64
  clear g64 e64
  obtain ⟨g65, e66⟩ := He.ba e65
  obtain ⟨oo_NotAFrame_InvalidName, oo_NotAFrame_InvalidIndex, oo_NotAFrame_InvalidDegree, oo_NotAFrame_InvalidKnot, oo_NotAFrame_InvalidClaim, oo_NotAFrame_InvalidCommand, oo_NotAFrame_NotAFrame, oo_NotAFrame_NotACurve, oo_NotAFrame_InvalidKnots, oo_NotAFrame_InvalidAmounts⟩ := of_decide_eq_true g65
  clear g65 e65
  obtain ⟨g66, e67⟩ := He.ba e66
  obtain ⟨oo_NotAFrame_InvalidPlaces, oo_NotAFrame_InvalidHeights, oo_NotAFrame_InvalidOffers, oo_NotAFrame_NotKnown, oo_NotAFrame_UnknownName, oo_NotAFrame_InUse, oo_NotAFrame_NothingToUndo, oo_NotAFrame_NotPossible, oo_NotAFrame_TooMany, oo_NotAFrame_NotOne⟩ := of_decide_eq_true g66
  clear g66 e66
  obtain ⟨g67, e68⟩ := He.ba e67
  obtain ⟨oo_NotAFrame_Broken, oo_InvalidCommand_NotRight, oo_InvalidCommand_InvalidText, oo_InvalidCommand_InvalidNumber, oo_InvalidCommand_InvalidName, oo_InvalidCommand_InvalidIndex, oo_InvalidCommand_InvalidDegree, oo_InvalidCommand_InvalidKnot, oo_InvalidCommand_InvalidClaim, oo_InvalidCommand_InvalidCommand⟩ := of_decide_eq_true g67
  clear g67 e67
  obtain ⟨g68, e69⟩ := He.ba e68
  obtain ⟨oo_InvalidCommand_NotAFrame, oo_InvalidCommand_NotACurve, oo_InvalidCommand_InvalidKnots, oo_InvalidCommand_InvalidAmounts, oo_InvalidCommand_InvalidPlaces, oo_InvalidCommand_InvalidHeights, oo_InvalidCommand_InvalidOffers, oo_InvalidCommand_NotKnown, oo_InvalidCommand_UnknownName, oo_InvalidCommand_InUse⟩ := of_decide_eq_true g68
  clear g68 e68
  obtain ⟨g69, e70⟩ := He.ba e69
  obtain ⟨oo_InvalidCommand_NothingToUndo, oo_InvalidCommand_NotPossible, oo_InvalidCommand_TooMany, oo_InvalidCommand_NotOne, oo_InvalidCommand_Broken, oo_InvalidClaim_NotRight, oo_InvalidClaim_InvalidText, oo_InvalidClaim_InvalidNumber, oo_InvalidClaim_InvalidName, oo_InvalidClaim_InvalidIndex⟩ := of_decide_eq_true g69
  clear g69 e69
  obtain ⟨g70, e71⟩ := He.ba e70
  obtain ⟨oo_InvalidClaim_InvalidDegree, oo_InvalidClaim_InvalidKnot, oo_InvalidClaim_InvalidClaim, oo_InvalidClaim_InvalidCommand, oo_InvalidClaim_NotAFrame, oo_InvalidClaim_NotACurve, oo_InvalidClaim_InvalidKnots, oo_InvalidClaim_InvalidAmounts, oo_InvalidClaim_InvalidPlaces, oo_InvalidClaim_InvalidHeights⟩ := of_decide_eq_true g70
  clear g70 e70
  obtain ⟨g71, e72⟩ := He.ba e71
  obtain ⟨oo_InvalidClaim_InvalidOffers, oo_InvalidClaim_NotKnown, oo_InvalidClaim_UnknownName, oo_InvalidClaim_InUse, oo_InvalidClaim_NothingToUndo, oo_InvalidClaim_NotPossible, oo_InvalidClaim_TooMany, oo_InvalidClaim_NotOne, oo_InvalidClaim_Broken, oo_InvalidKnot_NotRight⟩ := of_decide_eq_true g71
  clear g71 e71
  obtain ⟨g72, e73⟩ := He.ba e72
  obtain ⟨oo_InvalidKnot_InvalidText, oo_InvalidKnot_InvalidNumber, oo_InvalidKnot_InvalidName, oo_InvalidKnot_InvalidIndex, oo_InvalidKnot_InvalidDegree, oo_InvalidKnot_InvalidKnot, oo_InvalidKnot_InvalidClaim, oo_InvalidKnot_InvalidCommand, oo_InvalidKnot_NotAFrame, oo_InvalidKnot_NotACurve⟩ := of_decide_eq_true g72
  clear g72 e72
  obtain ⟨g73, e74⟩ := He.ba e73
  obtain ⟨oo_InvalidKnot_InvalidKnots, oo_InvalidKnot_InvalidAmounts, oo_InvalidKnot_InvalidPlaces, oo_InvalidKnot_InvalidHeights, oo_InvalidKnot_InvalidOffers, oo_InvalidKnot_NotKnown, oo_InvalidKnot_UnknownName, oo_InvalidKnot_InUse, oo_InvalidKnot_NothingToUndo, oo_InvalidKnot_NotPossible⟩ := of_decide_eq_true g73
  clear g73 e73
  obtain ⟨g74, e75⟩ := He.ba e74
  obtain ⟨oo_InvalidKnot_TooMany, oo_InvalidKnot_NotOne, oo_InvalidKnot_Broken, oo_InvalidDegree_NotRight, oo_InvalidDegree_InvalidText, oo_InvalidDegree_InvalidNumber, oo_InvalidDegree_InvalidName, oo_InvalidDegree_InvalidIndex, oo_InvalidDegree_InvalidDegree, oo_InvalidDegree_InvalidKnot⟩ := of_decide_eq_true g74
  clear g74 e74
  obtain ⟨g75, e76⟩ := He.ba e75
  obtain ⟨oo_InvalidDegree_InvalidClaim, oo_InvalidDegree_InvalidCommand, oo_InvalidDegree_NotAFrame, oo_InvalidDegree_NotACurve, oo_InvalidDegree_InvalidKnots, oo_InvalidDegree_InvalidAmounts, oo_InvalidDegree_InvalidPlaces, oo_InvalidDegree_InvalidHeights, oo_InvalidDegree_InvalidOffers, oo_InvalidDegree_NotKnown⟩ := of_decide_eq_true g75
  clear g75 e75
  obtain ⟨g76, e77⟩ := He.ba e76
  obtain ⟨oo_InvalidDegree_UnknownName, oo_InvalidDegree_InUse, oo_InvalidDegree_NothingToUndo, oo_InvalidDegree_NotPossible, oo_InvalidDegree_TooMany, oo_InvalidDegree_NotOne, oo_InvalidDegree_Broken, oo_InvalidIndex_NotRight, oo_InvalidIndex_InvalidText, oo_InvalidIndex_InvalidNumber⟩ := of_decide_eq_true g76
  clear g76 e76
  obtain ⟨g77, e78⟩ := He.ba e77
  obtain ⟨oo_InvalidIndex_InvalidName, oo_InvalidIndex_InvalidIndex, oo_InvalidIndex_InvalidDegree, oo_InvalidIndex_InvalidKnot, oo_InvalidIndex_InvalidClaim, oo_InvalidIndex_InvalidCommand, oo_InvalidIndex_NotAFrame, oo_InvalidIndex_NotACurve, oo_InvalidIndex_InvalidKnots, oo_InvalidIndex_InvalidAmounts⟩ := of_decide_eq_true g77
  clear g77 e77
  obtain ⟨g78, e79⟩ := He.ba e78
  obtain ⟨oo_InvalidIndex_InvalidPlaces, oo_InvalidIndex_InvalidHeights, oo_InvalidIndex_InvalidOffers, oo_InvalidIndex_NotKnown, oo_InvalidIndex_UnknownName, oo_InvalidIndex_InUse, oo_InvalidIndex_NothingToUndo, oo_InvalidIndex_NotPossible, oo_InvalidIndex_TooMany, oo_InvalidIndex_NotOne⟩ := of_decide_eq_true g78
  clear g78 e78
  obtain ⟨g79, e80⟩ := He.ba e79
  obtain ⟨oo_InvalidIndex_Broken, oo_InvalidName_NotRight, oo_InvalidName_InvalidText, oo_InvalidName_InvalidNumber, oo_InvalidName_InvalidName, oo_InvalidName_InvalidIndex, oo_InvalidName_InvalidDegree, oo_InvalidName_InvalidKnot, oo_InvalidName_InvalidClaim, oo_InvalidName_InvalidCommand⟩ := of_decide_eq_true g79
  clear g79 e79
  obtain ⟨g80, e81⟩ := He.ba e80
  obtain ⟨oo_InvalidName_NotAFrame, oo_InvalidName_NotACurve, oo_InvalidName_InvalidKnots, oo_InvalidName_InvalidAmounts, oo_InvalidName_InvalidPlaces, oo_InvalidName_InvalidHeights, oo_InvalidName_InvalidOffers, oo_InvalidName_NotKnown, oo_InvalidName_UnknownName, oo_InvalidName_InUse⟩ := of_decide_eq_true g80
  clear g80 e80
  obtain ⟨g81, e82⟩ := He.ba e81
  obtain ⟨oo_InvalidName_NothingToUndo, oo_InvalidName_NotPossible, oo_InvalidName_TooMany, oo_InvalidName_NotOne, oo_InvalidName_Broken, oo_InvalidNumber_NotRight, oo_InvalidNumber_InvalidText, oo_InvalidNumber_InvalidNumber, oo_InvalidNumber_InvalidName, oo_InvalidNumber_InvalidIndex⟩ := of_decide_eq_true g81
  clear g81 e81
  obtain ⟨g82, e83⟩ := He.ba e82
  obtain ⟨oo_InvalidNumber_InvalidDegree, oo_InvalidNumber_InvalidKnot, oo_InvalidNumber_InvalidClaim, oo_InvalidNumber_InvalidCommand, oo_InvalidNumber_NotAFrame, oo_InvalidNumber_NotACurve, oo_InvalidNumber_InvalidKnots, oo_InvalidNumber_InvalidAmounts, oo_InvalidNumber_InvalidPlaces, oo_InvalidNumber_InvalidHeights⟩ := of_decide_eq_true g82
  clear g82 e82
  obtain ⟨g83, e84⟩ := He.ba e83
  obtain ⟨oo_InvalidNumber_InvalidOffers, oo_InvalidNumber_NotKnown, oo_InvalidNumber_UnknownName, oo_InvalidNumber_InUse, oo_InvalidNumber_NothingToUndo, oo_InvalidNumber_NotPossible, oo_InvalidNumber_TooMany, oo_InvalidNumber_NotOne, oo_InvalidNumber_Broken, oo_InvalidText_NotRight⟩ := of_decide_eq_true g83
  clear g83 e83
  obtain ⟨g84, e85⟩ := He.ba e84
  obtain ⟨oo_InvalidText_InvalidText, oo_InvalidText_InvalidNumber, oo_InvalidText_InvalidName, oo_InvalidText_InvalidIndex, oo_InvalidText_InvalidDegree, oo_InvalidText_InvalidKnot, oo_InvalidText_InvalidClaim, oo_InvalidText_InvalidCommand, oo_InvalidText_NotAFrame, oo_InvalidText_NotACurve⟩ := of_decide_eq_true g84
  clear g84 e84
  obtain ⟨g85, e86⟩ := He.ba e85
  obtain ⟨oo_InvalidText_InvalidKnots, oo_InvalidText_InvalidAmounts, oo_InvalidText_InvalidPlaces, oo_InvalidText_InvalidHeights, oo_InvalidText_InvalidOffers, oo_InvalidText_NotKnown, oo_InvalidText_UnknownName, oo_InvalidText_InUse, oo_InvalidText_NothingToUndo, oo_InvalidText_NotPossible⟩ := of_decide_eq_true g85
  clear g85 e85
  obtain ⟨g86, e87⟩ := He.ba e86
  obtain ⟨oo_InvalidText_TooMany, oo_InvalidText_NotOne, oo_InvalidText_Broken, ob_Broken_ValueError, ob_Broken_LookupError, ob_Broken_ArithmeticError, ob_NotOne_ValueError, ob_NotOne_LookupError, ob_NotOne_ArithmeticError, ob_TooMany_ValueError⟩ := of_decide_eq_true g86
  clear g86 e86
  obtain ⟨g87, e88⟩ := He.ba e87
  obtain ⟨ob_TooMany_LookupError, ob_TooMany_ArithmeticError, ob_NothingToUndo_ValueError, ob_NothingToUndo_LookupError, ob_NothingToUndo_ArithmeticError, ob_InUse_ValueError, ob_InUse_LookupError, ob_InUse_ArithmeticError, ob_UnknownName_ValueError, ob_UnknownName_LookupError⟩ := of_decide_eq_true g87
  clear g87 e87
  obtain ⟨g88, e89⟩ := He.ba e88
  obtain ⟨ob_UnknownName_ArithmeticError, ob_InvalidOffers_ValueError, ob_InvalidOffers_LookupError, ob_InvalidOffers_ArithmeticError, ob_InvalidHeights_ValueError, ob_InvalidHeights_LookupError, ob_InvalidHeights_ArithmeticError, ob_InvalidPlaces_ValueError, ob_InvalidPlaces_LookupError, ob_InvalidPlaces_ArithmeticError⟩ := of_decide_eq_true g88
  clear g88 e88
  obtain ⟨g89, e90⟩ := He.ba e89
  obtain ⟨ob_InvalidAmounts_ValueError, ob_InvalidAmounts_LookupError, ob_InvalidAmounts_ArithmeticError, ob_InvalidKnots_ValueError, ob_InvalidKnots_LookupError, ob_InvalidKnots_ArithmeticError, ob_NotACurve_ValueError, ob_NotACurve_LookupError, ob_NotACurve_ArithmeticError, ob_NotAFrame_ValueError⟩ := of_decide_eq_true g89
  clear g89 e89
  obtain ⟨g90, e91⟩ := He.ba e90
  obtain ⟨ob_NotAFrame_LookupError, ob_NotAFrame_ArithmeticError, ob_InvalidCommand_ValueError, ob_InvalidCommand_LookupError, ob_InvalidCommand_ArithmeticError, ob_InvalidClaim_ValueError, ob_InvalidClaim_LookupError, ob_InvalidClaim_ArithmeticError, ob_InvalidKnot_ValueError, ob_InvalidKnot_LookupError⟩ := of_decide_eq_true g90
  clear g90 e90
  obtain ⟨g91, e92⟩ := He.ba e91
  obtain ⟨ob_InvalidKnot_ArithmeticError, ob_InvalidDegree_ValueError, ob_InvalidDegree_LookupError, ob_InvalidDegree_ArithmeticError, ob_InvalidIndex_ValueError, ob_InvalidIndex_LookupError, ob_InvalidIndex_ArithmeticError, ob_InvalidName_ValueError, ob_InvalidName_LookupError, ob_InvalidName_ArithmeticError⟩ := of_decide_eq_true g91
  clear g91 e91
  obtain ⟨g92, e93⟩ := He.ba e92
  obtain ⟨ob_InvalidNumber_ValueError, ob_InvalidNumber_LookupError, ob_InvalidNumber_ArithmeticError, ob_InvalidText_ValueError, ob_InvalidText_LookupError, ob_InvalidText_ArithmeticError, cc_Broken_NotKnown, cc_Broken_NotPossible, cc_Broken_NotRight, cc_NotOne_NotKnown⟩ := of_decide_eq_true g92
  clear g92 e92
  obtain ⟨g93, e94⟩ := He.ba e93
  obtain ⟨cc_NotOne_NotPossible, cc_NotOne_NotRight, cc_TooMany_NotKnown, cc_TooMany_NotPossible, cc_TooMany_NotRight, cc_NothingToUndo_NotKnown, cc_NothingToUndo_NotPossible, cc_NothingToUndo_NotRight, cc_InUse_NotKnown, cc_InUse_NotPossible⟩ := of_decide_eq_true g93
  clear g93 e93
  obtain ⟨g94, e95⟩ := He.ba e94
  obtain ⟨cc_InUse_NotRight, cc_UnknownName_NotKnown, cc_UnknownName_NotPossible, cc_UnknownName_NotRight, cc_InvalidOffers_NotKnown, cc_InvalidOffers_NotPossible, cc_InvalidOffers_NotRight, cc_InvalidHeights_NotKnown, cc_InvalidHeights_NotPossible, cc_InvalidHeights_NotRight⟩ := of_decide_eq_true g94
  clear g94 e94
  obtain ⟨g95, e96⟩ := He.ba e95
  obtain ⟨cc_InvalidPlaces_NotKnown, cc_InvalidPlaces_NotPossible, cc_InvalidPlaces_NotRight, cc_InvalidAmounts_NotKnown, cc_InvalidAmounts_NotPossible, cc_InvalidAmounts_NotRight, cc_InvalidKnots_NotKnown, cc_InvalidKnots_NotPossible, cc_InvalidKnots_NotRight, cc_NotACurve_NotKnown⟩ := of_decide_eq_true g95
  clear g95 e95
  obtain ⟨g96, e97⟩ := He.ba e96
  obtain ⟨cc_NotACurve_NotPossible, cc_NotACurve_NotRight, cc_NotAFrame_NotKnown, cc_NotAFrame_NotPossible, cc_NotAFrame_NotRight, cc_InvalidCommand_NotKnown, cc_InvalidCommand_NotPossible, cc_InvalidCommand_NotRight, cc_InvalidClaim_NotKnown, cc_InvalidClaim_NotPossible⟩ := of_decide_eq_true g96
  clear g96 e96
  obtain ⟨g97, e98⟩ := He.ba e97
  obtain ⟨cc_InvalidClaim_NotRight, cc_InvalidKnot_NotKnown, cc_InvalidKnot_NotPossible, cc_InvalidKnot_NotRight, cc_InvalidDegree_NotKnown, cc_InvalidDegree_NotPossible, cc_InvalidDegree_NotRight, cc_InvalidIndex_NotKnown, cc_InvalidIndex_NotPossible, cc_InvalidIndex_NotRight⟩ := of_decide_eq_true g97
  clear g97 e97
  have g98 := e98
  obtain ⟨cc_InvalidName_NotKnown, cc_InvalidName_NotPossible, cc_InvalidName_NotRight, cc_InvalidNumber_NotKnown, cc_InvalidNumber_NotPossible, cc_InvalidNumber_NotRight, cc_InvalidText_NotKnown, cc_InvalidText_NotPossible, cc_InvalidText_NotRight⟩ := of_decide_eq_true g98
  clear g98
  obtain ⟨d_l_all, F_l_all⟩ := c.fun_ 0 (at_ := ad_l_all) (x := "_law_all") (q := "_law_all") (st := s_l_all) rfl
  obtain ⟨d_l_named, F_l_named⟩ := c.fun_ 1 (at_ := ad_l_named) (x := "_law_named") (q := "_law_named") (st := s_l_named) rfl
  obtain ⟨d_l_has, F_l_has⟩ := c.fun_ 2 (at_ := ad_l_has) (x := "_law_has") (q := "_law_has") (st := s_l_has) rfl
  obtain ⟨d_l_bases, F_l_bases⟩ := c.fun_ 3 (at_ := ad_l_bases) (x := "_law_bases") (q := "_law_bases") (st := s_l_bases) rfl
  obtain ⟨d_l_caught, F_l_caught⟩ := c.fun_ 4 (at_ := ad_l_caught) (x := "_law_caught") (q := "_law_caught") (st := s_l_caught) rfl
  obtain ⟨d_l_right, F_l_right⟩ := c.fun_ 5 (at_ := ad_l_right) (x := "_law_right") (q := "_law_right") (st := s_l_right) rfl
  obtain ⟨d_p_law, F_p_law⟩ := c.fun_ 6 (at_ := ad_p_law) (x := "law") (q := "law") (st := s_p_law) rfl
  obtain ⟨d_i_Broken, F_i_Broken⟩ := c.fun_ 7 (at_ := fi_Broken) (x := "__init__") (q := "Broken.__init__") (st := si_Broken) rfl
  obtain ⟨d_i_NotOne, F_i_NotOne⟩ := c.fun_ 8 (at_ := fi_NotOne) (x := "__init__") (q := "NotOne.__init__") (st := si_NotOne) rfl
  obtain ⟨d_i_TooMany, F_i_TooMany⟩ := c.fun_ 9 (at_ := fi_TooMany) (x := "__init__") (q := "TooMany.__init__") (st := si_TooMany) rfl
  obtain ⟨d_i_InUse, F_i_InUse⟩ := c.fun_ 10 (at_ := fi_InUse) (x := "__init__") (q := "InUse.__init__") (st := si_InUse) rfl
  obtain ⟨d_i_UnknownName, F_i_UnknownName⟩ := c.fun_ 11 (at_ := fi_UnknownName) (x := "__init__") (q := "UnknownName.__init__") (st := si_UnknownName) rfl
  obtain ⟨d_i_InvalidOffers, F_i_InvalidOffers⟩ := c.fun_ 12 (at_ := fi_InvalidOffers) (x := "__init__") (q := "InvalidOffers.__init__") (st := si_InvalidOffers) rfl
  obtain ⟨d_i_InvalidHeights, F_i_InvalidHeights⟩ := c.fun_ 13 (at_ := fi_InvalidHeights) (x := "__init__") (q := "InvalidHeights.__init__") (st := si_InvalidHeights) rfl
  obtain ⟨d_i_InvalidPlaces, F_i_InvalidPlaces⟩ := c.fun_ 14 (at_ := fi_InvalidPlaces) (x := "__init__") (q := "InvalidPlaces.__init__") (st := si_InvalidPlaces) rfl
  obtain ⟨d_i_InvalidAmounts, F_i_InvalidAmounts⟩ := c.fun_ 15 (at_ := fi_InvalidAmounts) (x := "__init__") (q := "InvalidAmounts.__init__") (st := si_InvalidAmounts) rfl
  obtain ⟨d_i_InvalidKnots, F_i_InvalidKnots⟩ := c.fun_ 16 (at_ := fi_InvalidKnots) (x := "__init__") (q := "InvalidKnots.__init__") (st := si_InvalidKnots) rfl
  obtain ⟨d_i_NotACurve, F_i_NotACurve⟩ := c.fun_ 17 (at_ := fi_NotACurve) (x := "__init__") (q := "NotACurve.__init__") (st := si_NotACurve) rfl
  obtain ⟨d_i_NotAFrame, F_i_NotAFrame⟩ := c.fun_ 18 (at_ := fi_NotAFrame) (x := "__init__") (q := "NotAFrame.__init__") (st := si_NotAFrame) rfl
  obtain ⟨d_i_InvalidCommand, F_i_InvalidCommand⟩ := c.fun_ 19 (at_ := fi_InvalidCommand) (x := "__init__") (q := "InvalidCommand.__init__") (st := si_InvalidCommand) rfl
  obtain ⟨d_i_InvalidClaim, F_i_InvalidClaim⟩ := c.fun_ 20 (at_ := fi_InvalidClaim) (x := "__init__") (q := "InvalidClaim.__init__") (st := si_InvalidClaim) rfl
  obtain ⟨d_i_InvalidKnot, F_i_InvalidKnot⟩ := c.fun_ 21 (at_ := fi_InvalidKnot) (x := "__init__") (q := "InvalidKnot.__init__") (st := si_InvalidKnot) rfl
  obtain ⟨d_i_InvalidDegree, F_i_InvalidDegree⟩ := c.fun_ 22 (at_ := fi_InvalidDegree) (x := "__init__") (q := "InvalidDegree.__init__") (st := si_InvalidDegree) rfl
  obtain ⟨d_i_InvalidIndex, F_i_InvalidIndex⟩ := c.fun_ 23 (at_ := fi_InvalidIndex) (x := "__init__") (q := "InvalidIndex.__init__") (st := si_InvalidIndex) rfl
  obtain ⟨d_i_InvalidName, F_i_InvalidName⟩ := c.fun_ 24 (at_ := fi_InvalidName) (x := "__init__") (q := "InvalidName.__init__") (st := si_InvalidName) rfl
  obtain ⟨d_i_InvalidNumber, F_i_InvalidNumber⟩ := c.fun_ 25 (at_ := fi_InvalidNumber) (x := "__init__") (q := "InvalidNumber.__init__") (st := si_InvalidNumber) rfl
  obtain ⟨d_i_InvalidText, F_i_InvalidText⟩ := c.fun_ 26 (at_ := fi_InvalidText) (x := "__init__") (q := "InvalidText.__init__") (st := si_InvalidText) rfl
  have hb : ∀ (s : Shared) (v : Value), BindsTo s d_p_law ⟨[v], []⟩ [("_law_script", v)] := by
    obtain ⟨oc, od, kV, doc, pm, an, cdv, ct, osl, e, _⟩ := F_p_law.ex
    intro s v
    rw [e]
    exact .of_eq rfl
  have e := hfa.symm.trans (PySem.W.mg_of X G a_p_law)
  cases e
  let L : Lf K mg := {
    a_l_all := ad_l_all K, d_l_all := d_l_all, F_l_all := F_l_all,
    m_l_all := PySem.W.mg_of X G a_l_all,
    a_l_named := ad_l_named K, d_l_named := d_l_named, F_l_named := F_l_named,
    m_l_named := PySem.W.mg_of X G a_l_named,
    a_l_has := ad_l_has K, d_l_has := d_l_has, F_l_has := F_l_has,
    m_l_has := PySem.W.mg_of X G a_l_has,
    a_l_bases := ad_l_bases K, d_l_bases := d_l_bases, F_l_bases := F_l_bases,
    m_l_bases := PySem.W.mg_of X G a_l_bases,
    a_l_caught := ad_l_caught K, d_l_caught := d_l_caught, F_l_caught := F_l_caught,
    m_l_caught := PySem.W.mg_of X G a_l_caught,
    a_l_right := ad_l_right K, d_l_right := d_l_right, F_l_right := F_l_right,
    m_l_right := PySem.W.mg_of X G a_l_right,
    a_p_law := ad_p_law K, d_p_law := d_p_law, F_p_law := F_p_law,
    m_p_law := PySem.W.mg_of X G a_p_law,
    z_ArithmeticError := PySem.W.mg_none_of X G z_ArithmeticError,
    z_LookupError := PySem.W.mg_none_of X G z_LookupError,
    z_ValueError := PySem.W.mg_none_of X G z_ValueError,
    z_all := PySem.W.mg_none_of X G z_all,
    z_int := PySem.W.mg_none_of X G z_int,
    z_isinstance := PySem.W.mg_none_of X G z_isinstance,
    z_len := PySem.W.mg_none_of X G z_len,
    z_range := PySem.W.mg_none_of X G z_range,
    z_repr := PySem.W.mg_none_of X G z_repr,
    g_MOST_DEGREE := He.int_ok X G g_MOST_DEGREE,
    g_MOST_HEIGHT := He.int_ok X G g_MOST_HEIGHT,
    g_MOST_HILLS := He.int_ok X G g_MOST_HILLS,
    g_MOST_KNOT := He.int_ok X G g_MOST_KNOT,
    g_MOST_OFFERS := He.int_ok X G g_MOST_OFFERS,
    g_MOST_PLACES := He.int_ok X G g_MOST_PLACES,
    C_NotRight := C_NotRight K, c_NotRight := PySem.W.mg_of X G b_NotRight,
    C_InvalidText := C_InvalidText K, c_InvalidText := PySem.W.mg_of X G b_InvalidText,
    C_InvalidNumber := C_InvalidNumber K, c_InvalidNumber := PySem.W.mg_of X G b_InvalidNumber,
    C_InvalidName := C_InvalidName K, c_InvalidName := PySem.W.mg_of X G b_InvalidName,
    C_InvalidIndex := C_InvalidIndex K, c_InvalidIndex := PySem.W.mg_of X G b_InvalidIndex,
    C_InvalidDegree := C_InvalidDegree K, c_InvalidDegree := PySem.W.mg_of X G b_InvalidDegree,
    C_InvalidKnot := C_InvalidKnot K, c_InvalidKnot := PySem.W.mg_of X G b_InvalidKnot,
    C_InvalidClaim := C_InvalidClaim K, c_InvalidClaim := PySem.W.mg_of X G b_InvalidClaim,
    C_InvalidCommand := C_InvalidCommand K, c_InvalidCommand := PySem.W.mg_of X G b_InvalidCommand,
    C_NotAFrame := C_NotAFrame K, c_NotAFrame := PySem.W.mg_of X G b_NotAFrame,
    C_NotACurve := C_NotACurve K, c_NotACurve := PySem.W.mg_of X G b_NotACurve,
    C_InvalidKnots := C_InvalidKnots K, c_InvalidKnots := PySem.W.mg_of X G b_InvalidKnots,
    C_InvalidAmounts := C_InvalidAmounts K, c_InvalidAmounts := PySem.W.mg_of X G b_InvalidAmounts,
    C_InvalidPlaces := C_InvalidPlaces K, c_InvalidPlaces := PySem.W.mg_of X G b_InvalidPlaces,
    C_InvalidHeights := C_InvalidHeights K, c_InvalidHeights := PySem.W.mg_of X G b_InvalidHeights,
    C_InvalidOffers := C_InvalidOffers K, c_InvalidOffers := PySem.W.mg_of X G b_InvalidOffers,
    C_NotKnown := C_NotKnown K, c_NotKnown := PySem.W.mg_of X G b_NotKnown,
    C_UnknownName := C_UnknownName K, c_UnknownName := PySem.W.mg_of X G b_UnknownName,
    C_InUse := C_InUse K, c_InUse := PySem.W.mg_of X G b_InUse,
    C_NothingToUndo := C_NothingToUndo K, c_NothingToUndo := PySem.W.mg_of X G b_NothingToUndo,
    C_NotPossible := C_NotPossible K, c_NotPossible := PySem.W.mg_of X G b_NotPossible,
    C_TooMany := C_TooMany K, c_TooMany := PySem.W.mg_of X G b_TooMany,
    C_NotOne := C_NotOne K, c_NotOne := PySem.W.mg_of X G b_NotOne,
    C_Broken := C_Broken K, c_Broken := PySem.W.mg_of X G b_Broken,
    x_Broken := ⟨⟨_, _, _, _, PySem.F.excBase_ArithmeticError, PySem.F.store_ArithmeticError, x1_Broken, x2_Broken⟩, x3_Broken, x4_Broken, x5_Broken, x6_Broken, x7_Broken⟩,
    e_Broken := ⟨e1_Broken, e2_Broken, x5_Broken, x3_Broken, e5_Broken, w_sp, w_tk, e8_Broken⟩, xf_Broken := ⟨e1_Broken, e2_Broken, x5_Broken, x3_Broken⟩, no_Broken := no_Broken,
    fi_Broken := fi_Broken K, di_Broken := d_i_Broken, Fi_Broken := F_i_Broken, ii_Broken := ii_Broken, ti_Broken := it_Broken, tk_Broken := ta_Broken,
    no2_Broken := no2_Broken, tk2_Broken := ta2_Broken,
    x_NotOne := ⟨⟨_, _, _, _, PySem.F.excBase_ArithmeticError, PySem.F.store_ArithmeticError, x1_NotOne, x2_NotOne⟩, x3_NotOne, x4_NotOne, x5_NotOne, x6_NotOne, x7_NotOne⟩,
    e_NotOne := ⟨e1_NotOne, e2_NotOne, x5_NotOne, x3_NotOne, e5_NotOne, w_sp, w_tk, e8_NotOne⟩, xf_NotOne := ⟨e1_NotOne, e2_NotOne, x5_NotOne, x3_NotOne⟩, no_NotOne := no_NotOne,
    fi_NotOne := fi_NotOne K, di_NotOne := d_i_NotOne, Fi_NotOne := F_i_NotOne, ii_NotOne := ii_NotOne, ti_NotOne := it_NotOne, tk_NotOne := ta_NotOne,
    x_TooMany := ⟨⟨_, _, _, _, PySem.F.excBase_ArithmeticError, PySem.F.store_ArithmeticError, x1_TooMany, x2_TooMany⟩, x3_TooMany, x4_TooMany, x5_TooMany, x6_TooMany, x7_TooMany⟩,
    e_TooMany := ⟨e1_TooMany, e2_TooMany, x5_TooMany, x3_TooMany, e5_TooMany, w_sp, w_tk, e8_TooMany⟩, xf_TooMany := ⟨e1_TooMany, e2_TooMany, x5_TooMany, x3_TooMany⟩, no_TooMany := no_TooMany,
    fi_TooMany := fi_TooMany K, di_TooMany := d_i_TooMany, Fi_TooMany := F_i_TooMany, ii_TooMany := ii_TooMany, ti_TooMany := it_TooMany, tk_TooMany := ta_TooMany,
    x_NothingToUndo := ⟨⟨_, _, _, _, PySem.F.excBase_LookupError, x1_NothingToUndo⟩, x5_NothingToUndo, x6_NothingToUndo, x7_NothingToUndo⟩,
    e_NothingToUndo := ⟨e1_NothingToUndo, e2_NothingToUndo, x5_NothingToUndo, x3_NothingToUndo, e5_NothingToUndo, w_sp, w_tk, e8_NothingToUndo⟩,
    x_InUse := ⟨⟨_, _, _, _, PySem.F.excBase_LookupError, PySem.F.store_LookupError, x1_InUse, x2_InUse⟩, x3_InUse, x4_InUse, x5_InUse, x6_InUse, x7_InUse⟩,
    e_InUse := ⟨e1_InUse, e2_InUse, x5_InUse, x3_InUse, e5_InUse, w_sp, w_tk, e8_InUse⟩, xf_InUse := ⟨e1_InUse, e2_InUse, x5_InUse, x3_InUse⟩, no_InUse := no_InUse,
    fi_InUse := fi_InUse K, di_InUse := d_i_InUse, Fi_InUse := F_i_InUse, ii_InUse := ii_InUse, ti_InUse := it_InUse, tk_InUse := ta_InUse,
    x_UnknownName := ⟨⟨_, _, _, _, PySem.F.excBase_LookupError, PySem.F.store_LookupError, x1_UnknownName, x2_UnknownName⟩, x3_UnknownName, x4_UnknownName, x5_UnknownName, x6_UnknownName, x7_UnknownName⟩,
    e_UnknownName := ⟨e1_UnknownName, e2_UnknownName, x5_UnknownName, x3_UnknownName, e5_UnknownName, w_sp, w_tk, e8_UnknownName⟩, xf_UnknownName := ⟨e1_UnknownName, e2_UnknownName, x5_UnknownName, x3_UnknownName⟩, no_UnknownName := no_UnknownName,
    fi_UnknownName := fi_UnknownName K, di_UnknownName := d_i_UnknownName, Fi_UnknownName := F_i_UnknownName, ii_UnknownName := ii_UnknownName, ti_UnknownName := it_UnknownName, tk_UnknownName := ta_UnknownName,
    x_InvalidOffers := ⟨⟨_, _, _, _, PySem.F.excBase_ValueError, PySem.F.store_ValueError, x1_InvalidOffers, x2_InvalidOffers⟩, x3_InvalidOffers, x4_InvalidOffers, x5_InvalidOffers, x6_InvalidOffers, x7_InvalidOffers⟩,
    e_InvalidOffers := ⟨e1_InvalidOffers, e2_InvalidOffers, x5_InvalidOffers, x3_InvalidOffers, e5_InvalidOffers, w_sp, w_tk, e8_InvalidOffers⟩, xf_InvalidOffers := ⟨e1_InvalidOffers, e2_InvalidOffers, x5_InvalidOffers, x3_InvalidOffers⟩, no_InvalidOffers := no_InvalidOffers,
    fi_InvalidOffers := fi_InvalidOffers K, di_InvalidOffers := d_i_InvalidOffers, Fi_InvalidOffers := F_i_InvalidOffers, ii_InvalidOffers := ii_InvalidOffers, ti_InvalidOffers := it_InvalidOffers, tk_InvalidOffers := ta_InvalidOffers,
    x_InvalidHeights := ⟨⟨_, _, _, _, PySem.F.excBase_ValueError, PySem.F.store_ValueError, x1_InvalidHeights, x2_InvalidHeights⟩, x3_InvalidHeights, x4_InvalidHeights, x5_InvalidHeights, x6_InvalidHeights, x7_InvalidHeights⟩,
    e_InvalidHeights := ⟨e1_InvalidHeights, e2_InvalidHeights, x5_InvalidHeights, x3_InvalidHeights, e5_InvalidHeights, w_sp, w_tk, e8_InvalidHeights⟩, xf_InvalidHeights := ⟨e1_InvalidHeights, e2_InvalidHeights, x5_InvalidHeights, x3_InvalidHeights⟩, no_InvalidHeights := no_InvalidHeights,
    fi_InvalidHeights := fi_InvalidHeights K, di_InvalidHeights := d_i_InvalidHeights, Fi_InvalidHeights := F_i_InvalidHeights, ii_InvalidHeights := ii_InvalidHeights, ti_InvalidHeights := it_InvalidHeights, tk_InvalidHeights := ta_InvalidHeights,
    x_InvalidPlaces := ⟨⟨_, _, _, _, PySem.F.excBase_ValueError, PySem.F.store_ValueError, x1_InvalidPlaces, x2_InvalidPlaces⟩, x3_InvalidPlaces, x4_InvalidPlaces, x5_InvalidPlaces, x6_InvalidPlaces, x7_InvalidPlaces⟩,
    e_InvalidPlaces := ⟨e1_InvalidPlaces, e2_InvalidPlaces, x5_InvalidPlaces, x3_InvalidPlaces, e5_InvalidPlaces, w_sp, w_tk, e8_InvalidPlaces⟩, xf_InvalidPlaces := ⟨e1_InvalidPlaces, e2_InvalidPlaces, x5_InvalidPlaces, x3_InvalidPlaces⟩, no_InvalidPlaces := no_InvalidPlaces,
    fi_InvalidPlaces := fi_InvalidPlaces K, di_InvalidPlaces := d_i_InvalidPlaces, Fi_InvalidPlaces := F_i_InvalidPlaces, ii_InvalidPlaces := ii_InvalidPlaces, ti_InvalidPlaces := it_InvalidPlaces, tk_InvalidPlaces := ta_InvalidPlaces,
    x_InvalidAmounts := ⟨⟨_, _, _, _, PySem.F.excBase_ValueError, PySem.F.store_ValueError, x1_InvalidAmounts, x2_InvalidAmounts⟩, x3_InvalidAmounts, x4_InvalidAmounts, x5_InvalidAmounts, x6_InvalidAmounts, x7_InvalidAmounts⟩,
    e_InvalidAmounts := ⟨e1_InvalidAmounts, e2_InvalidAmounts, x5_InvalidAmounts, x3_InvalidAmounts, e5_InvalidAmounts, w_sp, w_tk, e8_InvalidAmounts⟩, xf_InvalidAmounts := ⟨e1_InvalidAmounts, e2_InvalidAmounts, x5_InvalidAmounts, x3_InvalidAmounts⟩, no_InvalidAmounts := no_InvalidAmounts,
    fi_InvalidAmounts := fi_InvalidAmounts K, di_InvalidAmounts := d_i_InvalidAmounts, Fi_InvalidAmounts := F_i_InvalidAmounts, ii_InvalidAmounts := ii_InvalidAmounts, ti_InvalidAmounts := it_InvalidAmounts, tk_InvalidAmounts := ta_InvalidAmounts,
    x_InvalidKnots := ⟨⟨_, _, _, _, PySem.F.excBase_ValueError, PySem.F.store_ValueError, x1_InvalidKnots, x2_InvalidKnots⟩, x3_InvalidKnots, x4_InvalidKnots, x5_InvalidKnots, x6_InvalidKnots, x7_InvalidKnots⟩,
    e_InvalidKnots := ⟨e1_InvalidKnots, e2_InvalidKnots, x5_InvalidKnots, x3_InvalidKnots, e5_InvalidKnots, w_sp, w_tk, e8_InvalidKnots⟩, xf_InvalidKnots := ⟨e1_InvalidKnots, e2_InvalidKnots, x5_InvalidKnots, x3_InvalidKnots⟩, no_InvalidKnots := no_InvalidKnots,
    fi_InvalidKnots := fi_InvalidKnots K, di_InvalidKnots := d_i_InvalidKnots, Fi_InvalidKnots := F_i_InvalidKnots, ii_InvalidKnots := ii_InvalidKnots, ti_InvalidKnots := it_InvalidKnots, tk_InvalidKnots := ta_InvalidKnots,
    x_NotACurve := ⟨⟨_, _, _, _, PySem.F.excBase_ValueError, PySem.F.store_ValueError, x1_NotACurve, x2_NotACurve⟩, x3_NotACurve, x4_NotACurve, x5_NotACurve, x6_NotACurve, x7_NotACurve⟩,
    e_NotACurve := ⟨e1_NotACurve, e2_NotACurve, x5_NotACurve, x3_NotACurve, e5_NotACurve, w_sp, w_tk, e8_NotACurve⟩, xf_NotACurve := ⟨e1_NotACurve, e2_NotACurve, x5_NotACurve, x3_NotACurve⟩, no_NotACurve := no_NotACurve,
    fi_NotACurve := fi_NotACurve K, di_NotACurve := d_i_NotACurve, Fi_NotACurve := F_i_NotACurve, ii_NotACurve := ii_NotACurve, ti_NotACurve := it_NotACurve, tk_NotACurve := ta_NotACurve,
    x_NotAFrame := ⟨⟨_, _, _, _, PySem.F.excBase_ValueError, PySem.F.store_ValueError, x1_NotAFrame, x2_NotAFrame⟩, x3_NotAFrame, x4_NotAFrame, x5_NotAFrame, x6_NotAFrame, x7_NotAFrame⟩,
    e_NotAFrame := ⟨e1_NotAFrame, e2_NotAFrame, x5_NotAFrame, x3_NotAFrame, e5_NotAFrame, w_sp, w_tk, e8_NotAFrame⟩, xf_NotAFrame := ⟨e1_NotAFrame, e2_NotAFrame, x5_NotAFrame, x3_NotAFrame⟩, no_NotAFrame := no_NotAFrame,
    fi_NotAFrame := fi_NotAFrame K, di_NotAFrame := d_i_NotAFrame, Fi_NotAFrame := F_i_NotAFrame, ii_NotAFrame := ii_NotAFrame, ti_NotAFrame := it_NotAFrame, tk_NotAFrame := ta_NotAFrame,
    x_InvalidCommand := ⟨⟨_, _, _, _, PySem.F.excBase_ValueError, PySem.F.store_ValueError, x1_InvalidCommand, x2_InvalidCommand⟩, x3_InvalidCommand, x4_InvalidCommand, x5_InvalidCommand, x6_InvalidCommand, x7_InvalidCommand⟩,
    e_InvalidCommand := ⟨e1_InvalidCommand, e2_InvalidCommand, x5_InvalidCommand, x3_InvalidCommand, e5_InvalidCommand, w_sp, w_tk, e8_InvalidCommand⟩, xf_InvalidCommand := ⟨e1_InvalidCommand, e2_InvalidCommand, x5_InvalidCommand, x3_InvalidCommand⟩, no_InvalidCommand := no_InvalidCommand,
    fi_InvalidCommand := fi_InvalidCommand K, di_InvalidCommand := d_i_InvalidCommand, Fi_InvalidCommand := F_i_InvalidCommand, ii_InvalidCommand := ii_InvalidCommand, ti_InvalidCommand := it_InvalidCommand, tk_InvalidCommand := ta_InvalidCommand,
    x_InvalidClaim := ⟨⟨_, _, _, _, PySem.F.excBase_ValueError, PySem.F.store_ValueError, x1_InvalidClaim, x2_InvalidClaim⟩, x3_InvalidClaim, x4_InvalidClaim, x5_InvalidClaim, x6_InvalidClaim, x7_InvalidClaim⟩,
    e_InvalidClaim := ⟨e1_InvalidClaim, e2_InvalidClaim, x5_InvalidClaim, x3_InvalidClaim, e5_InvalidClaim, w_sp, w_tk, e8_InvalidClaim⟩, xf_InvalidClaim := ⟨e1_InvalidClaim, e2_InvalidClaim, x5_InvalidClaim, x3_InvalidClaim⟩, no_InvalidClaim := no_InvalidClaim,
    fi_InvalidClaim := fi_InvalidClaim K, di_InvalidClaim := d_i_InvalidClaim, Fi_InvalidClaim := F_i_InvalidClaim, ii_InvalidClaim := ii_InvalidClaim, ti_InvalidClaim := it_InvalidClaim, tk_InvalidClaim := ta_InvalidClaim,
    x_InvalidKnot := ⟨⟨_, _, _, _, PySem.F.excBase_ValueError, PySem.F.store_ValueError, x1_InvalidKnot, x2_InvalidKnot⟩, x3_InvalidKnot, x4_InvalidKnot, x5_InvalidKnot, x6_InvalidKnot, x7_InvalidKnot⟩,
    e_InvalidKnot := ⟨e1_InvalidKnot, e2_InvalidKnot, x5_InvalidKnot, x3_InvalidKnot, e5_InvalidKnot, w_sp, w_tk, e8_InvalidKnot⟩, xf_InvalidKnot := ⟨e1_InvalidKnot, e2_InvalidKnot, x5_InvalidKnot, x3_InvalidKnot⟩, no_InvalidKnot := no_InvalidKnot,
    fi_InvalidKnot := fi_InvalidKnot K, di_InvalidKnot := d_i_InvalidKnot, Fi_InvalidKnot := F_i_InvalidKnot, ii_InvalidKnot := ii_InvalidKnot, ti_InvalidKnot := it_InvalidKnot, tk_InvalidKnot := ta_InvalidKnot,
    x_InvalidDegree := ⟨⟨_, _, _, _, PySem.F.excBase_ValueError, PySem.F.store_ValueError, x1_InvalidDegree, x2_InvalidDegree⟩, x3_InvalidDegree, x4_InvalidDegree, x5_InvalidDegree, x6_InvalidDegree, x7_InvalidDegree⟩,
    e_InvalidDegree := ⟨e1_InvalidDegree, e2_InvalidDegree, x5_InvalidDegree, x3_InvalidDegree, e5_InvalidDegree, w_sp, w_tk, e8_InvalidDegree⟩, xf_InvalidDegree := ⟨e1_InvalidDegree, e2_InvalidDegree, x5_InvalidDegree, x3_InvalidDegree⟩, no_InvalidDegree := no_InvalidDegree,
    fi_InvalidDegree := fi_InvalidDegree K, di_InvalidDegree := d_i_InvalidDegree, Fi_InvalidDegree := F_i_InvalidDegree, ii_InvalidDegree := ii_InvalidDegree, ti_InvalidDegree := it_InvalidDegree, tk_InvalidDegree := ta_InvalidDegree,
    x_InvalidIndex := ⟨⟨_, _, _, _, PySem.F.excBase_ValueError, PySem.F.store_ValueError, x1_InvalidIndex, x2_InvalidIndex⟩, x3_InvalidIndex, x4_InvalidIndex, x5_InvalidIndex, x6_InvalidIndex, x7_InvalidIndex⟩,
    e_InvalidIndex := ⟨e1_InvalidIndex, e2_InvalidIndex, x5_InvalidIndex, x3_InvalidIndex, e5_InvalidIndex, w_sp, w_tk, e8_InvalidIndex⟩, xf_InvalidIndex := ⟨e1_InvalidIndex, e2_InvalidIndex, x5_InvalidIndex, x3_InvalidIndex⟩, no_InvalidIndex := no_InvalidIndex,
    fi_InvalidIndex := fi_InvalidIndex K, di_InvalidIndex := d_i_InvalidIndex, Fi_InvalidIndex := F_i_InvalidIndex, ii_InvalidIndex := ii_InvalidIndex, ti_InvalidIndex := it_InvalidIndex, tk_InvalidIndex := ta_InvalidIndex,
    x_InvalidName := ⟨⟨_, _, _, _, PySem.F.excBase_ValueError, PySem.F.store_ValueError, x1_InvalidName, x2_InvalidName⟩, x3_InvalidName, x4_InvalidName, x5_InvalidName, x6_InvalidName, x7_InvalidName⟩,
    e_InvalidName := ⟨e1_InvalidName, e2_InvalidName, x5_InvalidName, x3_InvalidName, e5_InvalidName, w_sp, w_tk, e8_InvalidName⟩, xf_InvalidName := ⟨e1_InvalidName, e2_InvalidName, x5_InvalidName, x3_InvalidName⟩, no_InvalidName := no_InvalidName,
    fi_InvalidName := fi_InvalidName K, di_InvalidName := d_i_InvalidName, Fi_InvalidName := F_i_InvalidName, ii_InvalidName := ii_InvalidName, ti_InvalidName := it_InvalidName, tk_InvalidName := ta_InvalidName,
    x_InvalidNumber := ⟨⟨_, _, _, _, PySem.F.excBase_ValueError, PySem.F.store_ValueError, x1_InvalidNumber, x2_InvalidNumber⟩, x3_InvalidNumber, x4_InvalidNumber, x5_InvalidNumber, x6_InvalidNumber, x7_InvalidNumber⟩,
    e_InvalidNumber := ⟨e1_InvalidNumber, e2_InvalidNumber, x5_InvalidNumber, x3_InvalidNumber, e5_InvalidNumber, w_sp, w_tk, e8_InvalidNumber⟩, xf_InvalidNumber := ⟨e1_InvalidNumber, e2_InvalidNumber, x5_InvalidNumber, x3_InvalidNumber⟩, no_InvalidNumber := no_InvalidNumber,
    fi_InvalidNumber := fi_InvalidNumber K, di_InvalidNumber := d_i_InvalidNumber, Fi_InvalidNumber := F_i_InvalidNumber, ii_InvalidNumber := ii_InvalidNumber, ti_InvalidNumber := it_InvalidNumber, tk_InvalidNumber := ta_InvalidNumber,
    x_InvalidText := ⟨⟨_, _, _, _, PySem.F.excBase_ValueError, PySem.F.store_ValueError, x1_InvalidText, x2_InvalidText⟩, x3_InvalidText, x4_InvalidText, x5_InvalidText, x6_InvalidText, x7_InvalidText⟩,
    e_InvalidText := ⟨e1_InvalidText, e2_InvalidText, x5_InvalidText, x3_InvalidText, e5_InvalidText, w_sp, w_tk, e8_InvalidText⟩, xf_InvalidText := ⟨e1_InvalidText, e2_InvalidText, x5_InvalidText, x3_InvalidText⟩, no_InvalidText := no_InvalidText,
    fi_InvalidText := fi_InvalidText K, di_InvalidText := d_i_InvalidText, Fi_InvalidText := F_i_InvalidText, ii_InvalidText := ii_InvalidText, ti_InvalidText := it_InvalidText, tk_InvalidText := ta_InvalidText,
    oo_Broken_NotRight := oo_Broken_NotRight,
    oo_Broken_InvalidText := oo_Broken_InvalidText,
    oo_Broken_InvalidNumber := oo_Broken_InvalidNumber,
    oo_Broken_InvalidName := oo_Broken_InvalidName,
    oo_Broken_InvalidIndex := oo_Broken_InvalidIndex,
    oo_Broken_InvalidDegree := oo_Broken_InvalidDegree,
    oo_Broken_InvalidKnot := oo_Broken_InvalidKnot,
    oo_Broken_InvalidClaim := oo_Broken_InvalidClaim,
    oo_Broken_InvalidCommand := oo_Broken_InvalidCommand,
    oo_Broken_NotAFrame := oo_Broken_NotAFrame,
    oo_Broken_NotACurve := oo_Broken_NotACurve,
    oo_Broken_InvalidKnots := oo_Broken_InvalidKnots,
    oo_Broken_InvalidAmounts := oo_Broken_InvalidAmounts,
    oo_Broken_InvalidPlaces := oo_Broken_InvalidPlaces,
    oo_Broken_InvalidHeights := oo_Broken_InvalidHeights,
    oo_Broken_InvalidOffers := oo_Broken_InvalidOffers,
    oo_Broken_NotKnown := oo_Broken_NotKnown,
    oo_Broken_UnknownName := oo_Broken_UnknownName,
    oo_Broken_InUse := oo_Broken_InUse,
    oo_Broken_NothingToUndo := oo_Broken_NothingToUndo,
    oo_Broken_NotPossible := oo_Broken_NotPossible,
    oo_Broken_TooMany := oo_Broken_TooMany,
    oo_Broken_NotOne := oo_Broken_NotOne,
    oo_Broken_Broken := oo_Broken_Broken,
    oo_NotOne_NotRight := oo_NotOne_NotRight,
    oo_NotOne_InvalidText := oo_NotOne_InvalidText,
    oo_NotOne_InvalidNumber := oo_NotOne_InvalidNumber,
    oo_NotOne_InvalidName := oo_NotOne_InvalidName,
    oo_NotOne_InvalidIndex := oo_NotOne_InvalidIndex,
    oo_NotOne_InvalidDegree := oo_NotOne_InvalidDegree,
    oo_NotOne_InvalidKnot := oo_NotOne_InvalidKnot,
    oo_NotOne_InvalidClaim := oo_NotOne_InvalidClaim,
    oo_NotOne_InvalidCommand := oo_NotOne_InvalidCommand,
    oo_NotOne_NotAFrame := oo_NotOne_NotAFrame,
    oo_NotOne_NotACurve := oo_NotOne_NotACurve,
    oo_NotOne_InvalidKnots := oo_NotOne_InvalidKnots,
    oo_NotOne_InvalidAmounts := oo_NotOne_InvalidAmounts,
    oo_NotOne_InvalidPlaces := oo_NotOne_InvalidPlaces,
    oo_NotOne_InvalidHeights := oo_NotOne_InvalidHeights,
    oo_NotOne_InvalidOffers := oo_NotOne_InvalidOffers,
    oo_NotOne_NotKnown := oo_NotOne_NotKnown,
    oo_NotOne_UnknownName := oo_NotOne_UnknownName,
    oo_NotOne_InUse := oo_NotOne_InUse,
    oo_NotOne_NothingToUndo := oo_NotOne_NothingToUndo,
    oo_NotOne_NotPossible := oo_NotOne_NotPossible,
    oo_NotOne_TooMany := oo_NotOne_TooMany,
    oo_NotOne_NotOne := oo_NotOne_NotOne,
    oo_NotOne_Broken := oo_NotOne_Broken,
    oo_TooMany_NotRight := oo_TooMany_NotRight,
    oo_TooMany_InvalidText := oo_TooMany_InvalidText,
    oo_TooMany_InvalidNumber := oo_TooMany_InvalidNumber,
    oo_TooMany_InvalidName := oo_TooMany_InvalidName,
    oo_TooMany_InvalidIndex := oo_TooMany_InvalidIndex,
    oo_TooMany_InvalidDegree := oo_TooMany_InvalidDegree,
    oo_TooMany_InvalidKnot := oo_TooMany_InvalidKnot,
    oo_TooMany_InvalidClaim := oo_TooMany_InvalidClaim,
    oo_TooMany_InvalidCommand := oo_TooMany_InvalidCommand,
    oo_TooMany_NotAFrame := oo_TooMany_NotAFrame,
    oo_TooMany_NotACurve := oo_TooMany_NotACurve,
    oo_TooMany_InvalidKnots := oo_TooMany_InvalidKnots,
    oo_TooMany_InvalidAmounts := oo_TooMany_InvalidAmounts,
    oo_TooMany_InvalidPlaces := oo_TooMany_InvalidPlaces,
    oo_TooMany_InvalidHeights := oo_TooMany_InvalidHeights,
    oo_TooMany_InvalidOffers := oo_TooMany_InvalidOffers,
    oo_TooMany_NotKnown := oo_TooMany_NotKnown,
    oo_TooMany_UnknownName := oo_TooMany_UnknownName,
    oo_TooMany_InUse := oo_TooMany_InUse,
    oo_TooMany_NothingToUndo := oo_TooMany_NothingToUndo,
    oo_TooMany_NotPossible := oo_TooMany_NotPossible,
    oo_TooMany_TooMany := oo_TooMany_TooMany,
    oo_TooMany_NotOne := oo_TooMany_NotOne,
    oo_TooMany_Broken := oo_TooMany_Broken,
    oo_NothingToUndo_NotRight := oo_NothingToUndo_NotRight,
    oo_NothingToUndo_InvalidText := oo_NothingToUndo_InvalidText,
    oo_NothingToUndo_InvalidNumber := oo_NothingToUndo_InvalidNumber,
    oo_NothingToUndo_InvalidName := oo_NothingToUndo_InvalidName,
    oo_NothingToUndo_InvalidIndex := oo_NothingToUndo_InvalidIndex,
    oo_NothingToUndo_InvalidDegree := oo_NothingToUndo_InvalidDegree,
    oo_NothingToUndo_InvalidKnot := oo_NothingToUndo_InvalidKnot,
    oo_NothingToUndo_InvalidClaim := oo_NothingToUndo_InvalidClaim,
    oo_NothingToUndo_InvalidCommand := oo_NothingToUndo_InvalidCommand,
    oo_NothingToUndo_NotAFrame := oo_NothingToUndo_NotAFrame,
    oo_NothingToUndo_NotACurve := oo_NothingToUndo_NotACurve,
    oo_NothingToUndo_InvalidKnots := oo_NothingToUndo_InvalidKnots,
    oo_NothingToUndo_InvalidAmounts := oo_NothingToUndo_InvalidAmounts,
    oo_NothingToUndo_InvalidPlaces := oo_NothingToUndo_InvalidPlaces,
    oo_NothingToUndo_InvalidHeights := oo_NothingToUndo_InvalidHeights,
    oo_NothingToUndo_InvalidOffers := oo_NothingToUndo_InvalidOffers,
    oo_NothingToUndo_NotKnown := oo_NothingToUndo_NotKnown,
    oo_NothingToUndo_UnknownName := oo_NothingToUndo_UnknownName,
    oo_NothingToUndo_InUse := oo_NothingToUndo_InUse,
    oo_NothingToUndo_NothingToUndo := oo_NothingToUndo_NothingToUndo,
    oo_NothingToUndo_NotPossible := oo_NothingToUndo_NotPossible,
    oo_NothingToUndo_TooMany := oo_NothingToUndo_TooMany,
    oo_NothingToUndo_NotOne := oo_NothingToUndo_NotOne,
    oo_NothingToUndo_Broken := oo_NothingToUndo_Broken,
    oo_InUse_NotRight := oo_InUse_NotRight,
    oo_InUse_InvalidText := oo_InUse_InvalidText,
    oo_InUse_InvalidNumber := oo_InUse_InvalidNumber,
    oo_InUse_InvalidName := oo_InUse_InvalidName,
    oo_InUse_InvalidIndex := oo_InUse_InvalidIndex,
    oo_InUse_InvalidDegree := oo_InUse_InvalidDegree,
    oo_InUse_InvalidKnot := oo_InUse_InvalidKnot,
    oo_InUse_InvalidClaim := oo_InUse_InvalidClaim,
    oo_InUse_InvalidCommand := oo_InUse_InvalidCommand,
    oo_InUse_NotAFrame := oo_InUse_NotAFrame,
    oo_InUse_NotACurve := oo_InUse_NotACurve,
    oo_InUse_InvalidKnots := oo_InUse_InvalidKnots,
    oo_InUse_InvalidAmounts := oo_InUse_InvalidAmounts,
    oo_InUse_InvalidPlaces := oo_InUse_InvalidPlaces,
    oo_InUse_InvalidHeights := oo_InUse_InvalidHeights,
    oo_InUse_InvalidOffers := oo_InUse_InvalidOffers,
    oo_InUse_NotKnown := oo_InUse_NotKnown,
    oo_InUse_UnknownName := oo_InUse_UnknownName,
    oo_InUse_InUse := oo_InUse_InUse,
    oo_InUse_NothingToUndo := oo_InUse_NothingToUndo,
    oo_InUse_NotPossible := oo_InUse_NotPossible,
    oo_InUse_TooMany := oo_InUse_TooMany,
    oo_InUse_NotOne := oo_InUse_NotOne,
    oo_InUse_Broken := oo_InUse_Broken,
    oo_UnknownName_NotRight := oo_UnknownName_NotRight,
    oo_UnknownName_InvalidText := oo_UnknownName_InvalidText,
    oo_UnknownName_InvalidNumber := oo_UnknownName_InvalidNumber,
    oo_UnknownName_InvalidName := oo_UnknownName_InvalidName,
    oo_UnknownName_InvalidIndex := oo_UnknownName_InvalidIndex,
    oo_UnknownName_InvalidDegree := oo_UnknownName_InvalidDegree,
    oo_UnknownName_InvalidKnot := oo_UnknownName_InvalidKnot,
    oo_UnknownName_InvalidClaim := oo_UnknownName_InvalidClaim,
    oo_UnknownName_InvalidCommand := oo_UnknownName_InvalidCommand,
    oo_UnknownName_NotAFrame := oo_UnknownName_NotAFrame,
    oo_UnknownName_NotACurve := oo_UnknownName_NotACurve,
    oo_UnknownName_InvalidKnots := oo_UnknownName_InvalidKnots,
    oo_UnknownName_InvalidAmounts := oo_UnknownName_InvalidAmounts,
    oo_UnknownName_InvalidPlaces := oo_UnknownName_InvalidPlaces,
    oo_UnknownName_InvalidHeights := oo_UnknownName_InvalidHeights,
    oo_UnknownName_InvalidOffers := oo_UnknownName_InvalidOffers,
    oo_UnknownName_NotKnown := oo_UnknownName_NotKnown,
    oo_UnknownName_UnknownName := oo_UnknownName_UnknownName,
    oo_UnknownName_InUse := oo_UnknownName_InUse,
    oo_UnknownName_NothingToUndo := oo_UnknownName_NothingToUndo,
    oo_UnknownName_NotPossible := oo_UnknownName_NotPossible,
    oo_UnknownName_TooMany := oo_UnknownName_TooMany,
    oo_UnknownName_NotOne := oo_UnknownName_NotOne,
    oo_UnknownName_Broken := oo_UnknownName_Broken,
    oo_InvalidOffers_NotRight := oo_InvalidOffers_NotRight,
    oo_InvalidOffers_InvalidText := oo_InvalidOffers_InvalidText,
    oo_InvalidOffers_InvalidNumber := oo_InvalidOffers_InvalidNumber,
    oo_InvalidOffers_InvalidName := oo_InvalidOffers_InvalidName,
    oo_InvalidOffers_InvalidIndex := oo_InvalidOffers_InvalidIndex,
    oo_InvalidOffers_InvalidDegree := oo_InvalidOffers_InvalidDegree,
    oo_InvalidOffers_InvalidKnot := oo_InvalidOffers_InvalidKnot,
    oo_InvalidOffers_InvalidClaim := oo_InvalidOffers_InvalidClaim,
    oo_InvalidOffers_InvalidCommand := oo_InvalidOffers_InvalidCommand,
    oo_InvalidOffers_NotAFrame := oo_InvalidOffers_NotAFrame,
    oo_InvalidOffers_NotACurve := oo_InvalidOffers_NotACurve,
    oo_InvalidOffers_InvalidKnots := oo_InvalidOffers_InvalidKnots,
    oo_InvalidOffers_InvalidAmounts := oo_InvalidOffers_InvalidAmounts,
    oo_InvalidOffers_InvalidPlaces := oo_InvalidOffers_InvalidPlaces,
    oo_InvalidOffers_InvalidHeights := oo_InvalidOffers_InvalidHeights,
    oo_InvalidOffers_InvalidOffers := oo_InvalidOffers_InvalidOffers,
    oo_InvalidOffers_NotKnown := oo_InvalidOffers_NotKnown,
    oo_InvalidOffers_UnknownName := oo_InvalidOffers_UnknownName,
    oo_InvalidOffers_InUse := oo_InvalidOffers_InUse,
    oo_InvalidOffers_NothingToUndo := oo_InvalidOffers_NothingToUndo,
    oo_InvalidOffers_NotPossible := oo_InvalidOffers_NotPossible,
    oo_InvalidOffers_TooMany := oo_InvalidOffers_TooMany,
    oo_InvalidOffers_NotOne := oo_InvalidOffers_NotOne,
    oo_InvalidOffers_Broken := oo_InvalidOffers_Broken,
    oo_InvalidHeights_NotRight := oo_InvalidHeights_NotRight,
    oo_InvalidHeights_InvalidText := oo_InvalidHeights_InvalidText,
    oo_InvalidHeights_InvalidNumber := oo_InvalidHeights_InvalidNumber,
    oo_InvalidHeights_InvalidName := oo_InvalidHeights_InvalidName,
    oo_InvalidHeights_InvalidIndex := oo_InvalidHeights_InvalidIndex,
    oo_InvalidHeights_InvalidDegree := oo_InvalidHeights_InvalidDegree,
    oo_InvalidHeights_InvalidKnot := oo_InvalidHeights_InvalidKnot,
    oo_InvalidHeights_InvalidClaim := oo_InvalidHeights_InvalidClaim,
    oo_InvalidHeights_InvalidCommand := oo_InvalidHeights_InvalidCommand,
    oo_InvalidHeights_NotAFrame := oo_InvalidHeights_NotAFrame,
    oo_InvalidHeights_NotACurve := oo_InvalidHeights_NotACurve,
    oo_InvalidHeights_InvalidKnots := oo_InvalidHeights_InvalidKnots,
    oo_InvalidHeights_InvalidAmounts := oo_InvalidHeights_InvalidAmounts,
    oo_InvalidHeights_InvalidPlaces := oo_InvalidHeights_InvalidPlaces,
    oo_InvalidHeights_InvalidHeights := oo_InvalidHeights_InvalidHeights,
    oo_InvalidHeights_InvalidOffers := oo_InvalidHeights_InvalidOffers,
    oo_InvalidHeights_NotKnown := oo_InvalidHeights_NotKnown,
    oo_InvalidHeights_UnknownName := oo_InvalidHeights_UnknownName,
    oo_InvalidHeights_InUse := oo_InvalidHeights_InUse,
    oo_InvalidHeights_NothingToUndo := oo_InvalidHeights_NothingToUndo,
    oo_InvalidHeights_NotPossible := oo_InvalidHeights_NotPossible,
    oo_InvalidHeights_TooMany := oo_InvalidHeights_TooMany,
    oo_InvalidHeights_NotOne := oo_InvalidHeights_NotOne,
    oo_InvalidHeights_Broken := oo_InvalidHeights_Broken,
    oo_InvalidPlaces_NotRight := oo_InvalidPlaces_NotRight,
    oo_InvalidPlaces_InvalidText := oo_InvalidPlaces_InvalidText,
    oo_InvalidPlaces_InvalidNumber := oo_InvalidPlaces_InvalidNumber,
    oo_InvalidPlaces_InvalidName := oo_InvalidPlaces_InvalidName,
    oo_InvalidPlaces_InvalidIndex := oo_InvalidPlaces_InvalidIndex,
    oo_InvalidPlaces_InvalidDegree := oo_InvalidPlaces_InvalidDegree,
    oo_InvalidPlaces_InvalidKnot := oo_InvalidPlaces_InvalidKnot,
    oo_InvalidPlaces_InvalidClaim := oo_InvalidPlaces_InvalidClaim,
    oo_InvalidPlaces_InvalidCommand := oo_InvalidPlaces_InvalidCommand,
    oo_InvalidPlaces_NotAFrame := oo_InvalidPlaces_NotAFrame,
    oo_InvalidPlaces_NotACurve := oo_InvalidPlaces_NotACurve,
    oo_InvalidPlaces_InvalidKnots := oo_InvalidPlaces_InvalidKnots,
    oo_InvalidPlaces_InvalidAmounts := oo_InvalidPlaces_InvalidAmounts,
    oo_InvalidPlaces_InvalidPlaces := oo_InvalidPlaces_InvalidPlaces,
    oo_InvalidPlaces_InvalidHeights := oo_InvalidPlaces_InvalidHeights,
    oo_InvalidPlaces_InvalidOffers := oo_InvalidPlaces_InvalidOffers,
    oo_InvalidPlaces_NotKnown := oo_InvalidPlaces_NotKnown,
    oo_InvalidPlaces_UnknownName := oo_InvalidPlaces_UnknownName,
    oo_InvalidPlaces_InUse := oo_InvalidPlaces_InUse,
    oo_InvalidPlaces_NothingToUndo := oo_InvalidPlaces_NothingToUndo,
    oo_InvalidPlaces_NotPossible := oo_InvalidPlaces_NotPossible,
    oo_InvalidPlaces_TooMany := oo_InvalidPlaces_TooMany,
    oo_InvalidPlaces_NotOne := oo_InvalidPlaces_NotOne,
    oo_InvalidPlaces_Broken := oo_InvalidPlaces_Broken,
    oo_InvalidAmounts_NotRight := oo_InvalidAmounts_NotRight,
    oo_InvalidAmounts_InvalidText := oo_InvalidAmounts_InvalidText,
    oo_InvalidAmounts_InvalidNumber := oo_InvalidAmounts_InvalidNumber,
    oo_InvalidAmounts_InvalidName := oo_InvalidAmounts_InvalidName,
    oo_InvalidAmounts_InvalidIndex := oo_InvalidAmounts_InvalidIndex,
    oo_InvalidAmounts_InvalidDegree := oo_InvalidAmounts_InvalidDegree,
    oo_InvalidAmounts_InvalidKnot := oo_InvalidAmounts_InvalidKnot,
    oo_InvalidAmounts_InvalidClaim := oo_InvalidAmounts_InvalidClaim,
    oo_InvalidAmounts_InvalidCommand := oo_InvalidAmounts_InvalidCommand,
    oo_InvalidAmounts_NotAFrame := oo_InvalidAmounts_NotAFrame,
    oo_InvalidAmounts_NotACurve := oo_InvalidAmounts_NotACurve,
    oo_InvalidAmounts_InvalidKnots := oo_InvalidAmounts_InvalidKnots,
    oo_InvalidAmounts_InvalidAmounts := oo_InvalidAmounts_InvalidAmounts,
    oo_InvalidAmounts_InvalidPlaces := oo_InvalidAmounts_InvalidPlaces,
    oo_InvalidAmounts_InvalidHeights := oo_InvalidAmounts_InvalidHeights,
    oo_InvalidAmounts_InvalidOffers := oo_InvalidAmounts_InvalidOffers,
    oo_InvalidAmounts_NotKnown := oo_InvalidAmounts_NotKnown,
    oo_InvalidAmounts_UnknownName := oo_InvalidAmounts_UnknownName,
    oo_InvalidAmounts_InUse := oo_InvalidAmounts_InUse,
    oo_InvalidAmounts_NothingToUndo := oo_InvalidAmounts_NothingToUndo,
    oo_InvalidAmounts_NotPossible := oo_InvalidAmounts_NotPossible,
    oo_InvalidAmounts_TooMany := oo_InvalidAmounts_TooMany,
    oo_InvalidAmounts_NotOne := oo_InvalidAmounts_NotOne,
    oo_InvalidAmounts_Broken := oo_InvalidAmounts_Broken,
    oo_InvalidKnots_NotRight := oo_InvalidKnots_NotRight,
    oo_InvalidKnots_InvalidText := oo_InvalidKnots_InvalidText,
    oo_InvalidKnots_InvalidNumber := oo_InvalidKnots_InvalidNumber,
    oo_InvalidKnots_InvalidName := oo_InvalidKnots_InvalidName,
    oo_InvalidKnots_InvalidIndex := oo_InvalidKnots_InvalidIndex,
    oo_InvalidKnots_InvalidDegree := oo_InvalidKnots_InvalidDegree,
    oo_InvalidKnots_InvalidKnot := oo_InvalidKnots_InvalidKnot,
    oo_InvalidKnots_InvalidClaim := oo_InvalidKnots_InvalidClaim,
    oo_InvalidKnots_InvalidCommand := oo_InvalidKnots_InvalidCommand,
    oo_InvalidKnots_NotAFrame := oo_InvalidKnots_NotAFrame,
    oo_InvalidKnots_NotACurve := oo_InvalidKnots_NotACurve,
    oo_InvalidKnots_InvalidKnots := oo_InvalidKnots_InvalidKnots,
    oo_InvalidKnots_InvalidAmounts := oo_InvalidKnots_InvalidAmounts,
    oo_InvalidKnots_InvalidPlaces := oo_InvalidKnots_InvalidPlaces,
    oo_InvalidKnots_InvalidHeights := oo_InvalidKnots_InvalidHeights,
    oo_InvalidKnots_InvalidOffers := oo_InvalidKnots_InvalidOffers,
    oo_InvalidKnots_NotKnown := oo_InvalidKnots_NotKnown,
    oo_InvalidKnots_UnknownName := oo_InvalidKnots_UnknownName,
    oo_InvalidKnots_InUse := oo_InvalidKnots_InUse,
    oo_InvalidKnots_NothingToUndo := oo_InvalidKnots_NothingToUndo,
    oo_InvalidKnots_NotPossible := oo_InvalidKnots_NotPossible,
    oo_InvalidKnots_TooMany := oo_InvalidKnots_TooMany,
    oo_InvalidKnots_NotOne := oo_InvalidKnots_NotOne,
    oo_InvalidKnots_Broken := oo_InvalidKnots_Broken,
    oo_NotACurve_NotRight := oo_NotACurve_NotRight,
    oo_NotACurve_InvalidText := oo_NotACurve_InvalidText,
    oo_NotACurve_InvalidNumber := oo_NotACurve_InvalidNumber,
    oo_NotACurve_InvalidName := oo_NotACurve_InvalidName,
    oo_NotACurve_InvalidIndex := oo_NotACurve_InvalidIndex,
    oo_NotACurve_InvalidDegree := oo_NotACurve_InvalidDegree,
    oo_NotACurve_InvalidKnot := oo_NotACurve_InvalidKnot,
    oo_NotACurve_InvalidClaim := oo_NotACurve_InvalidClaim,
    oo_NotACurve_InvalidCommand := oo_NotACurve_InvalidCommand,
    oo_NotACurve_NotAFrame := oo_NotACurve_NotAFrame,
    oo_NotACurve_NotACurve := oo_NotACurve_NotACurve,
    oo_NotACurve_InvalidKnots := oo_NotACurve_InvalidKnots,
    oo_NotACurve_InvalidAmounts := oo_NotACurve_InvalidAmounts,
    oo_NotACurve_InvalidPlaces := oo_NotACurve_InvalidPlaces,
    oo_NotACurve_InvalidHeights := oo_NotACurve_InvalidHeights,
    oo_NotACurve_InvalidOffers := oo_NotACurve_InvalidOffers,
    oo_NotACurve_NotKnown := oo_NotACurve_NotKnown,
    oo_NotACurve_UnknownName := oo_NotACurve_UnknownName,
    oo_NotACurve_InUse := oo_NotACurve_InUse,
    oo_NotACurve_NothingToUndo := oo_NotACurve_NothingToUndo,
    oo_NotACurve_NotPossible := oo_NotACurve_NotPossible,
    oo_NotACurve_TooMany := oo_NotACurve_TooMany,
    oo_NotACurve_NotOne := oo_NotACurve_NotOne,
    oo_NotACurve_Broken := oo_NotACurve_Broken,
    oo_NotAFrame_NotRight := oo_NotAFrame_NotRight,
    oo_NotAFrame_InvalidText := oo_NotAFrame_InvalidText,
    oo_NotAFrame_InvalidNumber := oo_NotAFrame_InvalidNumber,
    oo_NotAFrame_InvalidName := oo_NotAFrame_InvalidName,
    oo_NotAFrame_InvalidIndex := oo_NotAFrame_InvalidIndex,
    oo_NotAFrame_InvalidDegree := oo_NotAFrame_InvalidDegree,
    oo_NotAFrame_InvalidKnot := oo_NotAFrame_InvalidKnot,
    oo_NotAFrame_InvalidClaim := oo_NotAFrame_InvalidClaim,
    oo_NotAFrame_InvalidCommand := oo_NotAFrame_InvalidCommand,
    oo_NotAFrame_NotAFrame := oo_NotAFrame_NotAFrame,
    oo_NotAFrame_NotACurve := oo_NotAFrame_NotACurve,
    oo_NotAFrame_InvalidKnots := oo_NotAFrame_InvalidKnots,
    oo_NotAFrame_InvalidAmounts := oo_NotAFrame_InvalidAmounts,
    oo_NotAFrame_InvalidPlaces := oo_NotAFrame_InvalidPlaces,
    oo_NotAFrame_InvalidHeights := oo_NotAFrame_InvalidHeights,
    oo_NotAFrame_InvalidOffers := oo_NotAFrame_InvalidOffers,
    oo_NotAFrame_NotKnown := oo_NotAFrame_NotKnown,
    oo_NotAFrame_UnknownName := oo_NotAFrame_UnknownName,
    oo_NotAFrame_InUse := oo_NotAFrame_InUse,
    oo_NotAFrame_NothingToUndo := oo_NotAFrame_NothingToUndo,
    oo_NotAFrame_NotPossible := oo_NotAFrame_NotPossible,
    oo_NotAFrame_TooMany := oo_NotAFrame_TooMany,
    oo_NotAFrame_NotOne := oo_NotAFrame_NotOne,
    oo_NotAFrame_Broken := oo_NotAFrame_Broken,
    oo_InvalidCommand_NotRight := oo_InvalidCommand_NotRight,
    oo_InvalidCommand_InvalidText := oo_InvalidCommand_InvalidText,
    oo_InvalidCommand_InvalidNumber := oo_InvalidCommand_InvalidNumber,
    oo_InvalidCommand_InvalidName := oo_InvalidCommand_InvalidName,
    oo_InvalidCommand_InvalidIndex := oo_InvalidCommand_InvalidIndex,
    oo_InvalidCommand_InvalidDegree := oo_InvalidCommand_InvalidDegree,
    oo_InvalidCommand_InvalidKnot := oo_InvalidCommand_InvalidKnot,
    oo_InvalidCommand_InvalidClaim := oo_InvalidCommand_InvalidClaim,
    oo_InvalidCommand_InvalidCommand := oo_InvalidCommand_InvalidCommand,
    oo_InvalidCommand_NotAFrame := oo_InvalidCommand_NotAFrame,
    oo_InvalidCommand_NotACurve := oo_InvalidCommand_NotACurve,
    oo_InvalidCommand_InvalidKnots := oo_InvalidCommand_InvalidKnots,
    oo_InvalidCommand_InvalidAmounts := oo_InvalidCommand_InvalidAmounts,
    oo_InvalidCommand_InvalidPlaces := oo_InvalidCommand_InvalidPlaces,
    oo_InvalidCommand_InvalidHeights := oo_InvalidCommand_InvalidHeights,
    oo_InvalidCommand_InvalidOffers := oo_InvalidCommand_InvalidOffers,
    oo_InvalidCommand_NotKnown := oo_InvalidCommand_NotKnown,
    oo_InvalidCommand_UnknownName := oo_InvalidCommand_UnknownName,
    oo_InvalidCommand_InUse := oo_InvalidCommand_InUse,
    oo_InvalidCommand_NothingToUndo := oo_InvalidCommand_NothingToUndo,
    oo_InvalidCommand_NotPossible := oo_InvalidCommand_NotPossible,
    oo_InvalidCommand_TooMany := oo_InvalidCommand_TooMany,
    oo_InvalidCommand_NotOne := oo_InvalidCommand_NotOne,
    oo_InvalidCommand_Broken := oo_InvalidCommand_Broken,
    oo_InvalidClaim_NotRight := oo_InvalidClaim_NotRight,
    oo_InvalidClaim_InvalidText := oo_InvalidClaim_InvalidText,
    oo_InvalidClaim_InvalidNumber := oo_InvalidClaim_InvalidNumber,
    oo_InvalidClaim_InvalidName := oo_InvalidClaim_InvalidName,
    oo_InvalidClaim_InvalidIndex := oo_InvalidClaim_InvalidIndex,
    oo_InvalidClaim_InvalidDegree := oo_InvalidClaim_InvalidDegree,
    oo_InvalidClaim_InvalidKnot := oo_InvalidClaim_InvalidKnot,
    oo_InvalidClaim_InvalidClaim := oo_InvalidClaim_InvalidClaim,
    oo_InvalidClaim_InvalidCommand := oo_InvalidClaim_InvalidCommand,
    oo_InvalidClaim_NotAFrame := oo_InvalidClaim_NotAFrame,
    oo_InvalidClaim_NotACurve := oo_InvalidClaim_NotACurve,
    oo_InvalidClaim_InvalidKnots := oo_InvalidClaim_InvalidKnots,
    oo_InvalidClaim_InvalidAmounts := oo_InvalidClaim_InvalidAmounts,
    oo_InvalidClaim_InvalidPlaces := oo_InvalidClaim_InvalidPlaces,
    oo_InvalidClaim_InvalidHeights := oo_InvalidClaim_InvalidHeights,
    oo_InvalidClaim_InvalidOffers := oo_InvalidClaim_InvalidOffers,
    oo_InvalidClaim_NotKnown := oo_InvalidClaim_NotKnown,
    oo_InvalidClaim_UnknownName := oo_InvalidClaim_UnknownName,
    oo_InvalidClaim_InUse := oo_InvalidClaim_InUse,
    oo_InvalidClaim_NothingToUndo := oo_InvalidClaim_NothingToUndo,
    oo_InvalidClaim_NotPossible := oo_InvalidClaim_NotPossible,
    oo_InvalidClaim_TooMany := oo_InvalidClaim_TooMany,
    oo_InvalidClaim_NotOne := oo_InvalidClaim_NotOne,
    oo_InvalidClaim_Broken := oo_InvalidClaim_Broken,
    oo_InvalidKnot_NotRight := oo_InvalidKnot_NotRight,
    oo_InvalidKnot_InvalidText := oo_InvalidKnot_InvalidText,
    oo_InvalidKnot_InvalidNumber := oo_InvalidKnot_InvalidNumber,
    oo_InvalidKnot_InvalidName := oo_InvalidKnot_InvalidName,
    oo_InvalidKnot_InvalidIndex := oo_InvalidKnot_InvalidIndex,
    oo_InvalidKnot_InvalidDegree := oo_InvalidKnot_InvalidDegree,
    oo_InvalidKnot_InvalidKnot := oo_InvalidKnot_InvalidKnot,
    oo_InvalidKnot_InvalidClaim := oo_InvalidKnot_InvalidClaim,
    oo_InvalidKnot_InvalidCommand := oo_InvalidKnot_InvalidCommand,
    oo_InvalidKnot_NotAFrame := oo_InvalidKnot_NotAFrame,
    oo_InvalidKnot_NotACurve := oo_InvalidKnot_NotACurve,
    oo_InvalidKnot_InvalidKnots := oo_InvalidKnot_InvalidKnots,
    oo_InvalidKnot_InvalidAmounts := oo_InvalidKnot_InvalidAmounts,
    oo_InvalidKnot_InvalidPlaces := oo_InvalidKnot_InvalidPlaces,
    oo_InvalidKnot_InvalidHeights := oo_InvalidKnot_InvalidHeights,
    oo_InvalidKnot_InvalidOffers := oo_InvalidKnot_InvalidOffers,
    oo_InvalidKnot_NotKnown := oo_InvalidKnot_NotKnown,
    oo_InvalidKnot_UnknownName := oo_InvalidKnot_UnknownName,
    oo_InvalidKnot_InUse := oo_InvalidKnot_InUse,
    oo_InvalidKnot_NothingToUndo := oo_InvalidKnot_NothingToUndo,
    oo_InvalidKnot_NotPossible := oo_InvalidKnot_NotPossible,
    oo_InvalidKnot_TooMany := oo_InvalidKnot_TooMany,
    oo_InvalidKnot_NotOne := oo_InvalidKnot_NotOne,
    oo_InvalidKnot_Broken := oo_InvalidKnot_Broken,
    oo_InvalidDegree_NotRight := oo_InvalidDegree_NotRight,
    oo_InvalidDegree_InvalidText := oo_InvalidDegree_InvalidText,
    oo_InvalidDegree_InvalidNumber := oo_InvalidDegree_InvalidNumber,
    oo_InvalidDegree_InvalidName := oo_InvalidDegree_InvalidName,
    oo_InvalidDegree_InvalidIndex := oo_InvalidDegree_InvalidIndex,
    oo_InvalidDegree_InvalidDegree := oo_InvalidDegree_InvalidDegree,
    oo_InvalidDegree_InvalidKnot := oo_InvalidDegree_InvalidKnot,
    oo_InvalidDegree_InvalidClaim := oo_InvalidDegree_InvalidClaim,
    oo_InvalidDegree_InvalidCommand := oo_InvalidDegree_InvalidCommand,
    oo_InvalidDegree_NotAFrame := oo_InvalidDegree_NotAFrame,
    oo_InvalidDegree_NotACurve := oo_InvalidDegree_NotACurve,
    oo_InvalidDegree_InvalidKnots := oo_InvalidDegree_InvalidKnots,
    oo_InvalidDegree_InvalidAmounts := oo_InvalidDegree_InvalidAmounts,
    oo_InvalidDegree_InvalidPlaces := oo_InvalidDegree_InvalidPlaces,
    oo_InvalidDegree_InvalidHeights := oo_InvalidDegree_InvalidHeights,
    oo_InvalidDegree_InvalidOffers := oo_InvalidDegree_InvalidOffers,
    oo_InvalidDegree_NotKnown := oo_InvalidDegree_NotKnown,
    oo_InvalidDegree_UnknownName := oo_InvalidDegree_UnknownName,
    oo_InvalidDegree_InUse := oo_InvalidDegree_InUse,
    oo_InvalidDegree_NothingToUndo := oo_InvalidDegree_NothingToUndo,
    oo_InvalidDegree_NotPossible := oo_InvalidDegree_NotPossible,
    oo_InvalidDegree_TooMany := oo_InvalidDegree_TooMany,
    oo_InvalidDegree_NotOne := oo_InvalidDegree_NotOne,
    oo_InvalidDegree_Broken := oo_InvalidDegree_Broken,
    oo_InvalidIndex_NotRight := oo_InvalidIndex_NotRight,
    oo_InvalidIndex_InvalidText := oo_InvalidIndex_InvalidText,
    oo_InvalidIndex_InvalidNumber := oo_InvalidIndex_InvalidNumber,
    oo_InvalidIndex_InvalidName := oo_InvalidIndex_InvalidName,
    oo_InvalidIndex_InvalidIndex := oo_InvalidIndex_InvalidIndex,
    oo_InvalidIndex_InvalidDegree := oo_InvalidIndex_InvalidDegree,
    oo_InvalidIndex_InvalidKnot := oo_InvalidIndex_InvalidKnot,
    oo_InvalidIndex_InvalidClaim := oo_InvalidIndex_InvalidClaim,
    oo_InvalidIndex_InvalidCommand := oo_InvalidIndex_InvalidCommand,
    oo_InvalidIndex_NotAFrame := oo_InvalidIndex_NotAFrame,
    oo_InvalidIndex_NotACurve := oo_InvalidIndex_NotACurve,
    oo_InvalidIndex_InvalidKnots := oo_InvalidIndex_InvalidKnots,
    oo_InvalidIndex_InvalidAmounts := oo_InvalidIndex_InvalidAmounts,
    oo_InvalidIndex_InvalidPlaces := oo_InvalidIndex_InvalidPlaces,
    oo_InvalidIndex_InvalidHeights := oo_InvalidIndex_InvalidHeights,
    oo_InvalidIndex_InvalidOffers := oo_InvalidIndex_InvalidOffers,
    oo_InvalidIndex_NotKnown := oo_InvalidIndex_NotKnown,
    oo_InvalidIndex_UnknownName := oo_InvalidIndex_UnknownName,
    oo_InvalidIndex_InUse := oo_InvalidIndex_InUse,
    oo_InvalidIndex_NothingToUndo := oo_InvalidIndex_NothingToUndo,
    oo_InvalidIndex_NotPossible := oo_InvalidIndex_NotPossible,
    oo_InvalidIndex_TooMany := oo_InvalidIndex_TooMany,
    oo_InvalidIndex_NotOne := oo_InvalidIndex_NotOne,
    oo_InvalidIndex_Broken := oo_InvalidIndex_Broken,
    oo_InvalidName_NotRight := oo_InvalidName_NotRight,
    oo_InvalidName_InvalidText := oo_InvalidName_InvalidText,
    oo_InvalidName_InvalidNumber := oo_InvalidName_InvalidNumber,
    oo_InvalidName_InvalidName := oo_InvalidName_InvalidName,
    oo_InvalidName_InvalidIndex := oo_InvalidName_InvalidIndex,
    oo_InvalidName_InvalidDegree := oo_InvalidName_InvalidDegree,
    oo_InvalidName_InvalidKnot := oo_InvalidName_InvalidKnot,
    oo_InvalidName_InvalidClaim := oo_InvalidName_InvalidClaim,
    oo_InvalidName_InvalidCommand := oo_InvalidName_InvalidCommand,
    oo_InvalidName_NotAFrame := oo_InvalidName_NotAFrame,
    oo_InvalidName_NotACurve := oo_InvalidName_NotACurve,
    oo_InvalidName_InvalidKnots := oo_InvalidName_InvalidKnots,
    oo_InvalidName_InvalidAmounts := oo_InvalidName_InvalidAmounts,
    oo_InvalidName_InvalidPlaces := oo_InvalidName_InvalidPlaces,
    oo_InvalidName_InvalidHeights := oo_InvalidName_InvalidHeights,
    oo_InvalidName_InvalidOffers := oo_InvalidName_InvalidOffers,
    oo_InvalidName_NotKnown := oo_InvalidName_NotKnown,
    oo_InvalidName_UnknownName := oo_InvalidName_UnknownName,
    oo_InvalidName_InUse := oo_InvalidName_InUse,
    oo_InvalidName_NothingToUndo := oo_InvalidName_NothingToUndo,
    oo_InvalidName_NotPossible := oo_InvalidName_NotPossible,
    oo_InvalidName_TooMany := oo_InvalidName_TooMany,
    oo_InvalidName_NotOne := oo_InvalidName_NotOne,
    oo_InvalidName_Broken := oo_InvalidName_Broken,
    oo_InvalidNumber_NotRight := oo_InvalidNumber_NotRight,
    oo_InvalidNumber_InvalidText := oo_InvalidNumber_InvalidText,
    oo_InvalidNumber_InvalidNumber := oo_InvalidNumber_InvalidNumber,
    oo_InvalidNumber_InvalidName := oo_InvalidNumber_InvalidName,
    oo_InvalidNumber_InvalidIndex := oo_InvalidNumber_InvalidIndex,
    oo_InvalidNumber_InvalidDegree := oo_InvalidNumber_InvalidDegree,
    oo_InvalidNumber_InvalidKnot := oo_InvalidNumber_InvalidKnot,
    oo_InvalidNumber_InvalidClaim := oo_InvalidNumber_InvalidClaim,
    oo_InvalidNumber_InvalidCommand := oo_InvalidNumber_InvalidCommand,
    oo_InvalidNumber_NotAFrame := oo_InvalidNumber_NotAFrame,
    oo_InvalidNumber_NotACurve := oo_InvalidNumber_NotACurve,
    oo_InvalidNumber_InvalidKnots := oo_InvalidNumber_InvalidKnots,
    oo_InvalidNumber_InvalidAmounts := oo_InvalidNumber_InvalidAmounts,
    oo_InvalidNumber_InvalidPlaces := oo_InvalidNumber_InvalidPlaces,
    oo_InvalidNumber_InvalidHeights := oo_InvalidNumber_InvalidHeights,
    oo_InvalidNumber_InvalidOffers := oo_InvalidNumber_InvalidOffers,
    oo_InvalidNumber_NotKnown := oo_InvalidNumber_NotKnown,
    oo_InvalidNumber_UnknownName := oo_InvalidNumber_UnknownName,
    oo_InvalidNumber_InUse := oo_InvalidNumber_InUse,
    oo_InvalidNumber_NothingToUndo := oo_InvalidNumber_NothingToUndo,
    oo_InvalidNumber_NotPossible := oo_InvalidNumber_NotPossible,
    oo_InvalidNumber_TooMany := oo_InvalidNumber_TooMany,
    oo_InvalidNumber_NotOne := oo_InvalidNumber_NotOne,
    oo_InvalidNumber_Broken := oo_InvalidNumber_Broken,
    oo_InvalidText_NotRight := oo_InvalidText_NotRight,
    oo_InvalidText_InvalidText := oo_InvalidText_InvalidText,
    oo_InvalidText_InvalidNumber := oo_InvalidText_InvalidNumber,
    oo_InvalidText_InvalidName := oo_InvalidText_InvalidName,
    oo_InvalidText_InvalidIndex := oo_InvalidText_InvalidIndex,
    oo_InvalidText_InvalidDegree := oo_InvalidText_InvalidDegree,
    oo_InvalidText_InvalidKnot := oo_InvalidText_InvalidKnot,
    oo_InvalidText_InvalidClaim := oo_InvalidText_InvalidClaim,
    oo_InvalidText_InvalidCommand := oo_InvalidText_InvalidCommand,
    oo_InvalidText_NotAFrame := oo_InvalidText_NotAFrame,
    oo_InvalidText_NotACurve := oo_InvalidText_NotACurve,
    oo_InvalidText_InvalidKnots := oo_InvalidText_InvalidKnots,
    oo_InvalidText_InvalidAmounts := oo_InvalidText_InvalidAmounts,
    oo_InvalidText_InvalidPlaces := oo_InvalidText_InvalidPlaces,
    oo_InvalidText_InvalidHeights := oo_InvalidText_InvalidHeights,
    oo_InvalidText_InvalidOffers := oo_InvalidText_InvalidOffers,
    oo_InvalidText_NotKnown := oo_InvalidText_NotKnown,
    oo_InvalidText_UnknownName := oo_InvalidText_UnknownName,
    oo_InvalidText_InUse := oo_InvalidText_InUse,
    oo_InvalidText_NothingToUndo := oo_InvalidText_NothingToUndo,
    oo_InvalidText_NotPossible := oo_InvalidText_NotPossible,
    oo_InvalidText_TooMany := oo_InvalidText_TooMany,
    oo_InvalidText_NotOne := oo_InvalidText_NotOne,
    oo_InvalidText_Broken := oo_InvalidText_Broken,
    ob_Broken_ValueError := ob_Broken_ValueError,
    ob_Broken_LookupError := ob_Broken_LookupError,
    ob_Broken_ArithmeticError := ob_Broken_ArithmeticError,
    ob_NotOne_ValueError := ob_NotOne_ValueError,
    ob_NotOne_LookupError := ob_NotOne_LookupError,
    ob_NotOne_ArithmeticError := ob_NotOne_ArithmeticError,
    ob_TooMany_ValueError := ob_TooMany_ValueError,
    ob_TooMany_LookupError := ob_TooMany_LookupError,
    ob_TooMany_ArithmeticError := ob_TooMany_ArithmeticError,
    ob_NothingToUndo_ValueError := ob_NothingToUndo_ValueError,
    ob_NothingToUndo_LookupError := ob_NothingToUndo_LookupError,
    ob_NothingToUndo_ArithmeticError := ob_NothingToUndo_ArithmeticError,
    ob_InUse_ValueError := ob_InUse_ValueError,
    ob_InUse_LookupError := ob_InUse_LookupError,
    ob_InUse_ArithmeticError := ob_InUse_ArithmeticError,
    ob_UnknownName_ValueError := ob_UnknownName_ValueError,
    ob_UnknownName_LookupError := ob_UnknownName_LookupError,
    ob_UnknownName_ArithmeticError := ob_UnknownName_ArithmeticError,
    ob_InvalidOffers_ValueError := ob_InvalidOffers_ValueError,
    ob_InvalidOffers_LookupError := ob_InvalidOffers_LookupError,
    ob_InvalidOffers_ArithmeticError := ob_InvalidOffers_ArithmeticError,
    ob_InvalidHeights_ValueError := ob_InvalidHeights_ValueError,
    ob_InvalidHeights_LookupError := ob_InvalidHeights_LookupError,
    ob_InvalidHeights_ArithmeticError := ob_InvalidHeights_ArithmeticError,
    ob_InvalidPlaces_ValueError := ob_InvalidPlaces_ValueError,
    ob_InvalidPlaces_LookupError := ob_InvalidPlaces_LookupError,
    ob_InvalidPlaces_ArithmeticError := ob_InvalidPlaces_ArithmeticError,
    ob_InvalidAmounts_ValueError := ob_InvalidAmounts_ValueError,
    ob_InvalidAmounts_LookupError := ob_InvalidAmounts_LookupError,
    ob_InvalidAmounts_ArithmeticError := ob_InvalidAmounts_ArithmeticError,
    ob_InvalidKnots_ValueError := ob_InvalidKnots_ValueError,
    ob_InvalidKnots_LookupError := ob_InvalidKnots_LookupError,
    ob_InvalidKnots_ArithmeticError := ob_InvalidKnots_ArithmeticError,
    ob_NotACurve_ValueError := ob_NotACurve_ValueError,
    ob_NotACurve_LookupError := ob_NotACurve_LookupError,
    ob_NotACurve_ArithmeticError := ob_NotACurve_ArithmeticError,
    ob_NotAFrame_ValueError := ob_NotAFrame_ValueError,
    ob_NotAFrame_LookupError := ob_NotAFrame_LookupError,
    ob_NotAFrame_ArithmeticError := ob_NotAFrame_ArithmeticError,
    ob_InvalidCommand_ValueError := ob_InvalidCommand_ValueError,
    ob_InvalidCommand_LookupError := ob_InvalidCommand_LookupError,
    ob_InvalidCommand_ArithmeticError := ob_InvalidCommand_ArithmeticError,
    ob_InvalidClaim_ValueError := ob_InvalidClaim_ValueError,
    ob_InvalidClaim_LookupError := ob_InvalidClaim_LookupError,
    ob_InvalidClaim_ArithmeticError := ob_InvalidClaim_ArithmeticError,
    ob_InvalidKnot_ValueError := ob_InvalidKnot_ValueError,
    ob_InvalidKnot_LookupError := ob_InvalidKnot_LookupError,
    ob_InvalidKnot_ArithmeticError := ob_InvalidKnot_ArithmeticError,
    ob_InvalidDegree_ValueError := ob_InvalidDegree_ValueError,
    ob_InvalidDegree_LookupError := ob_InvalidDegree_LookupError,
    ob_InvalidDegree_ArithmeticError := ob_InvalidDegree_ArithmeticError,
    ob_InvalidIndex_ValueError := ob_InvalidIndex_ValueError,
    ob_InvalidIndex_LookupError := ob_InvalidIndex_LookupError,
    ob_InvalidIndex_ArithmeticError := ob_InvalidIndex_ArithmeticError,
    ob_InvalidName_ValueError := ob_InvalidName_ValueError,
    ob_InvalidName_LookupError := ob_InvalidName_LookupError,
    ob_InvalidName_ArithmeticError := ob_InvalidName_ArithmeticError,
    ob_InvalidNumber_ValueError := ob_InvalidNumber_ValueError,
    ob_InvalidNumber_LookupError := ob_InvalidNumber_LookupError,
    ob_InvalidNumber_ArithmeticError := ob_InvalidNumber_ArithmeticError,
    ob_InvalidText_ValueError := ob_InvalidText_ValueError,
    ob_InvalidText_LookupError := ob_InvalidText_LookupError,
    ob_InvalidText_ArithmeticError := ob_InvalidText_ArithmeticError,
    cc_Broken_NotKnown := cc_Broken_NotKnown,
    cc_Broken_NotPossible := cc_Broken_NotPossible,
    cc_Broken_NotRight := cc_Broken_NotRight,
    cc_NotOne_NotKnown := cc_NotOne_NotKnown,
    cc_NotOne_NotPossible := cc_NotOne_NotPossible,
    cc_NotOne_NotRight := cc_NotOne_NotRight,
    cc_TooMany_NotKnown := cc_TooMany_NotKnown,
    cc_TooMany_NotPossible := cc_TooMany_NotPossible,
    cc_TooMany_NotRight := cc_TooMany_NotRight,
    cc_NothingToUndo_NotKnown := cc_NothingToUndo_NotKnown,
    cc_NothingToUndo_NotPossible := cc_NothingToUndo_NotPossible,
    cc_NothingToUndo_NotRight := cc_NothingToUndo_NotRight,
    cc_InUse_NotKnown := cc_InUse_NotKnown,
    cc_InUse_NotPossible := cc_InUse_NotPossible,
    cc_InUse_NotRight := cc_InUse_NotRight,
    cc_UnknownName_NotKnown := cc_UnknownName_NotKnown,
    cc_UnknownName_NotPossible := cc_UnknownName_NotPossible,
    cc_UnknownName_NotRight := cc_UnknownName_NotRight,
    cc_InvalidOffers_NotKnown := cc_InvalidOffers_NotKnown,
    cc_InvalidOffers_NotPossible := cc_InvalidOffers_NotPossible,
    cc_InvalidOffers_NotRight := cc_InvalidOffers_NotRight,
    cc_InvalidHeights_NotKnown := cc_InvalidHeights_NotKnown,
    cc_InvalidHeights_NotPossible := cc_InvalidHeights_NotPossible,
    cc_InvalidHeights_NotRight := cc_InvalidHeights_NotRight,
    cc_InvalidPlaces_NotKnown := cc_InvalidPlaces_NotKnown,
    cc_InvalidPlaces_NotPossible := cc_InvalidPlaces_NotPossible,
    cc_InvalidPlaces_NotRight := cc_InvalidPlaces_NotRight,
    cc_InvalidAmounts_NotKnown := cc_InvalidAmounts_NotKnown,
    cc_InvalidAmounts_NotPossible := cc_InvalidAmounts_NotPossible,
    cc_InvalidAmounts_NotRight := cc_InvalidAmounts_NotRight,
    cc_InvalidKnots_NotKnown := cc_InvalidKnots_NotKnown,
    cc_InvalidKnots_NotPossible := cc_InvalidKnots_NotPossible,
    cc_InvalidKnots_NotRight := cc_InvalidKnots_NotRight,
    cc_NotACurve_NotKnown := cc_NotACurve_NotKnown,
    cc_NotACurve_NotPossible := cc_NotACurve_NotPossible,
    cc_NotACurve_NotRight := cc_NotACurve_NotRight,
    cc_NotAFrame_NotKnown := cc_NotAFrame_NotKnown,
    cc_NotAFrame_NotPossible := cc_NotAFrame_NotPossible,
    cc_NotAFrame_NotRight := cc_NotAFrame_NotRight,
    cc_InvalidCommand_NotKnown := cc_InvalidCommand_NotKnown,
    cc_InvalidCommand_NotPossible := cc_InvalidCommand_NotPossible,
    cc_InvalidCommand_NotRight := cc_InvalidCommand_NotRight,
    cc_InvalidClaim_NotKnown := cc_InvalidClaim_NotKnown,
    cc_InvalidClaim_NotPossible := cc_InvalidClaim_NotPossible,
    cc_InvalidClaim_NotRight := cc_InvalidClaim_NotRight,
    cc_InvalidKnot_NotKnown := cc_InvalidKnot_NotKnown,
    cc_InvalidKnot_NotPossible := cc_InvalidKnot_NotPossible,
    cc_InvalidKnot_NotRight := cc_InvalidKnot_NotRight,
    cc_InvalidDegree_NotKnown := cc_InvalidDegree_NotKnown,
    cc_InvalidDegree_NotPossible := cc_InvalidDegree_NotPossible,
    cc_InvalidDegree_NotRight := cc_InvalidDegree_NotRight,
    cc_InvalidIndex_NotKnown := cc_InvalidIndex_NotKnown,
    cc_InvalidIndex_NotPossible := cc_InvalidIndex_NotPossible,
    cc_InvalidIndex_NotRight := cc_InvalidIndex_NotRight,
    cc_InvalidName_NotKnown := cc_InvalidName_NotKnown,
    cc_InvalidName_NotPossible := cc_InvalidName_NotPossible,
    cc_InvalidName_NotRight := cc_InvalidName_NotRight,
    cc_InvalidNumber_NotKnown := cc_InvalidNumber_NotKnown,
    cc_InvalidNumber_NotPossible := cc_InvalidNumber_NotPossible,
    cc_InvalidNumber_NotRight := cc_InvalidNumber_NotRight,
    cc_InvalidText_NotKnown := cc_InvalidText_NotKnown,
    cc_InvalidText_NotPossible := cc_InvalidText_NotPossible,
    cc_InvalidText_NotRight := cc_InvalidText_NotRight }
  exact ⟨L.d_p_law, hb, fun base _ _ => G_p_law L⟩
end K01
namespace K01
open PySem PySem.Spec L2 DL
open PyProof.Rows hiding St
def g1 (c : Str) (x : D) : D := .exc c ["given"] [x]
def i1 (c : Str) (x : D) : D := .exc c ["index"] [x]
def allL (x y : D) : List D := [.lst [g1 "InvalidText" x, .str "given"], .lst [g1 "InvalidNumber" x, .str "given"], .lst [g1 "InvalidName" x, .str "given"], .lst [g1 "InvalidIndex" x, .str "given"], .lst [g1 "InvalidDegree" x, .str "given"], .lst [g1 "InvalidKnot" x, .str "given"],
  .lst [g1 "InvalidClaim" x, .str "given"], .lst [g1 "InvalidCommand" x, .str "given"], .lst [g1 "NotAFrame" x, .str "given"], .lst [g1 "NotACurve" x, .str "given"], .lst [i1 "InvalidKnots" x, .str "index"], .lst [i1 "InvalidAmounts" x, .str "index"], .lst [i1 "InvalidPlaces" x, .str "index"], .lst [i1 "InvalidHeights" x, .str "index"], .lst [i1 "InvalidOffers" x, .str "index"],
  .lst [g1 "UnknownName" x, .str "given"], .lst [i1 "InUse" x, .str "index"], .lst [.exc "NothingToUndo" [] [], .str ""], .lst [.exc "TooMany" ["limit"] [x], .str "limit"], .lst [.exc "NotOne" ["rank"] [x], .str "rank"], .lst [.exc "Broken" ["shown", "index"] [y, x], .str "index"]]
def namedL (x y : D) : List D := [g1 "InvalidText" x, g1 "InvalidNumber" x, g1 "InvalidName" x, g1 "InvalidIndex" x, g1 "InvalidDegree" x, g1 "InvalidKnot" x, g1 "InvalidClaim" x, g1 "InvalidCommand" x, g1 "NotAFrame" x, g1 "NotACurve" x, i1 "InvalidKnots" x, i1 "InvalidAmounts" x, i1 "InvalidPlaces" x, i1 "InvalidHeights" x, i1 "InvalidOffers" x,
  g1 "UnknownName" x, i1 "InUse" x, .exc "NothingToUndo" [] [], .exc "TooMany" ["limit"] [x], .exc "NotOne" ["rank"] [x], .exc "Broken" ["shown", "index"] [y, x]]
theorem all_ok (x y : D) (S : List Cell) : f_l_all [x, y] S = .ok (.lst (allL x y)) S := by kernel_rfl
theorem named_ok (x y : D) (S : List Cell) : f_l_named [x, y] S = .ok (.lst (namedL x y)) S := by kernel_rfl
theorem caught_ok (x : D) (S : List Cell) : f_l_caught [x] S = .ok (.lst [x, x, x]) S := by kernel_rfl
def dueL (b : Nat) : List D := [.bl (b == 0), .bl (b == 1), .bl (b == 2), .bl (b == 0), .bl (b == 1), .bl (b == 2)]
structure Row (x : D) (b : Nat) (e f : D) (w : Str) (v : D) : Prop where
  be : ∀ S, f_l_bases [e] S = .ok (.lst (dueL b)) S
  bf : ∀ S, f_l_bases [f] S = .ok (.lst (dueL b)) S
  he : ∀ S, f_l_has [e, .str w] S = .ok v S
  hf : ∀ S, f_l_has [f, .str w] S = .ok v S
  vw : (w = "" ∧ v = .str "nothing") ∨ (w ≠ "" ∧ v = x)
def baseN (j : Nat) : Nat := if j < 15 then 0 else if j < 18 then 1 else 2
theorem row_ok (x y : D) {j : Nat} (hj : j < 21) : ∃ e f w v, (allL x y)[j]? = some (.lst [e, .str w]) ∧ (namedL x y)[j]? = some f ∧ Row x (baseN j) e f w v := by
  have ne : ("given" : Str) ≠ "" := by decide +kernel
  have ne2 : ("index" : Str) ≠ "" := by decide +kernel
  have ne3 : ("limit" : Str) ≠ "" := by decide +kernel
  have ne4 : ("rank" : Str) ≠ "" := by decide +kernel
  match j, hj with
  | 0, _ => exact ⟨_, _, _, x, rfl, rfl, fun S => by kernel_rfl, fun S => by kernel_rfl, fun S => by kernel_rfl, fun S => by kernel_rfl, .inr ⟨ne, rfl⟩⟩
  | 1, _ => exact ⟨_, _, _, x, rfl, rfl, fun S => by kernel_rfl, fun S => by kernel_rfl, fun S => by kernel_rfl, fun S => by kernel_rfl, .inr ⟨ne, rfl⟩⟩
  | 2, _ => exact ⟨_, _, _, x, rfl, rfl, fun S => by kernel_rfl, fun S => by kernel_rfl, fun S => by kernel_rfl, fun S => by kernel_rfl, .inr ⟨ne, rfl⟩⟩
  | 3, _ => exact ⟨_, _, _, x, rfl, rfl, fun S => by kernel_rfl, fun S => by kernel_rfl, fun S => by kernel_rfl, fun S => by kernel_rfl, .inr ⟨ne, rfl⟩⟩
  | 4, _ => exact ⟨_, _, _, x, rfl, rfl, fun S => by kernel_rfl, fun S => by kernel_rfl, fun S => by kernel_rfl, fun S => by kernel_rfl, .inr ⟨ne, rfl⟩⟩
  | 5, _ => exact ⟨_, _, _, x, rfl, rfl, fun S => by kernel_rfl, fun S => by kernel_rfl, fun S => by kernel_rfl, fun S => by kernel_rfl, .inr ⟨ne, rfl⟩⟩
  | 6, _ => exact ⟨_, _, _, x, rfl, rfl, fun S => by kernel_rfl, fun S => by kernel_rfl, fun S => by kernel_rfl, fun S => by kernel_rfl, .inr ⟨ne, rfl⟩⟩
  | 7, _ => exact ⟨_, _, _, x, rfl, rfl, fun S => by kernel_rfl, fun S => by kernel_rfl, fun S => by kernel_rfl, fun S => by kernel_rfl, .inr ⟨ne, rfl⟩⟩
  | 8, _ => exact ⟨_, _, _, x, rfl, rfl, fun S => by kernel_rfl, fun S => by kernel_rfl, fun S => by kernel_rfl, fun S => by kernel_rfl, .inr ⟨ne, rfl⟩⟩
  | 9, _ => exact ⟨_, _, _, x, rfl, rfl, fun S => by kernel_rfl, fun S => by kernel_rfl, fun S => by kernel_rfl, fun S => by kernel_rfl, .inr ⟨ne, rfl⟩⟩
  | 10, _ => exact ⟨_, _, _, x, rfl, rfl, fun S => by kernel_rfl, fun S => by kernel_rfl, fun S => by kernel_rfl, fun S => by kernel_rfl, .inr ⟨ne2, rfl⟩⟩
  | 11, _ => exact ⟨_, _, _, x, rfl, rfl, fun S => by kernel_rfl, fun S => by kernel_rfl, fun S => by kernel_rfl, fun S => by kernel_rfl, .inr ⟨ne2, rfl⟩⟩
  | 12, _ => exact ⟨_, _, _, x, rfl, rfl, fun S => by kernel_rfl, fun S => by kernel_rfl, fun S => by kernel_rfl, fun S => by kernel_rfl, .inr ⟨ne2, rfl⟩⟩
  | 13, _ => exact ⟨_, _, _, x, rfl, rfl, fun S => by kernel_rfl, fun S => by kernel_rfl, fun S => by kernel_rfl, fun S => by kernel_rfl, .inr ⟨ne2, rfl⟩⟩
  | 14, _ => exact ⟨_, _, _, x, rfl, rfl, fun S => by kernel_rfl, fun S => by kernel_rfl, fun S => by kernel_rfl, fun S => by kernel_rfl, .inr ⟨ne2, rfl⟩⟩
  | 15, _ => exact ⟨_, _, _, x, rfl, rfl, fun S => by kernel_rfl, fun S => by kernel_rfl, fun S => by kernel_rfl, fun S => by kernel_rfl, .inr ⟨ne, rfl⟩⟩
  | 16, _ => exact ⟨_, _, _, x, rfl, rfl, fun S => by kernel_rfl, fun S => by kernel_rfl, fun S => by kernel_rfl, fun S => by kernel_rfl, .inr ⟨ne2, rfl⟩⟩
  | 17, _ => exact ⟨_, _, _, .str "nothing", rfl, rfl, fun S => by kernel_rfl, fun S => by kernel_rfl, fun S => by kernel_rfl, fun S => by kernel_rfl, .inl ⟨rfl, rfl⟩⟩
  | 18, _ => exact ⟨_, _, _, x, rfl, rfl, fun S => by kernel_rfl, fun S => by kernel_rfl, fun S => by kernel_rfl, fun S => by kernel_rfl, .inr ⟨ne3, rfl⟩⟩
  | 19, _ => exact ⟨_, _, _, x, rfl, rfl, fun S => by kernel_rfl, fun S => by kernel_rfl, fun S => by kernel_rfl, fun S => by kernel_rfl, .inr ⟨ne4, rfl⟩⟩
  | 20, _ => exact ⟨_, _, _, x, rfl, rfl, fun S => by kernel_rfl, fun S => by kernel_rfl, fun S => by kernel_rfl, fun S => by kernel_rfl, .inr ⟨ne2, rfl⟩⟩
  | n + 21, h => exact absurd h (by omega)
def Th (x : D) : Prop := Pl 1000 50 x ∧ Pl 1000 49 x ∧ wt x ≤ 100
theorem th_shown {x : D} (h : Th x) : ∃ s, ∀ S, reprD [x] S = some (.str s) := repr_ok (b := 1000) h.1 (by have := h.2.2; omega)
theorem th_many {x : D} (h : Th x) (n : Nat) (hn : n ≤ 3) : ∃ s, ∀ S, reprD [.lst (List.replicate n x)] S = some (.str s) := repr_ok (b := 1000) (by
  rw [Pl_lst]
  intro z hz
  rw [List.eq_of_mem_replicate hz]
  exact h.2.1) (by
  have w := wts_le (xs := List.replicate n x) (b := 100) fun z hz => by rw [List.eq_of_mem_replicate hz]; exact h.2.2
  rw [List.length_replicate] at w
  rw [wt_lst]
  have : n * (100 + 1) ≤ 3 * 101 := Nat.mul_le_mul_right _ hn
  omega)
theorem fl_on {r : Fl} {P : List Sl → List Cell → Prop} {F' : PF} (h : r.W P (fun _ _ => False) (fun _ _ => False) (fun _ _ => False) (fun _ _ _ _ _ => False)) (k : ∀ e S, P e S → F'.N e S) : @Fl.V r F' :=
  Fl.V.to h k (fun _ _ h => h.elim) (fun _ _ h => h.elim) (fun _ _ h => h.elim) (fun _ _ _ _ _ h => h.elim)
theorem right_ok {x y : D} (hx : Th x) (hy : Th y) (S : List Cell) : (f_l_right [x, y] S).W (fun d S' => d = .bl true ∧ S' = S) XN := by
  generalize hfr : f_l_right = fr
  refine (th_shown hx).elim fun sx rx => ?_
  refine (th_many hx 3 (by decide)).elim fun s3 r3 => ?_
  refine (th_many hy 2 (by decide)).elim fun s2 r2 => ?_
  have r3 : ∀ S, reprD [.lst [x, x, x]] S = some (.str s3) := r3
  have r2 : ∀ S, reprD [.lst [y, y]] S = some (.str s2) := r2
  refine (show ∃ s, ∀ S, reprD [.str "nothing"] S = some (.str s) from ⟨_, fun S => if_pos (by decide +kernel)⟩).elim fun sn rn => ?_
  have al := all_ok x y
  have nm := named_ok x y
  have ca := caught_ok x
  have row := fun {j : Nat} (hj : j < 21) => row_ok x y hj
  have la : ∀ S, lenD [.lst (allL x y)] S = some (.int (21 : Nat)) := fun S => nr rfl
  have r21 : ∀ S, range1D [.int 21] S = .ok ((List.range 21).map fun k => .int (k : Nat)) S := fun S => range1_int (n := 21) rfl (by decide) S
  have mb : ∀ a b c S, mulD (.lst [.bl a, .bl b, .bl c]) (.int 2) S = some (.lst [.bl a, .bl b, .bl c, .bl a, .bl b, .bl c]) := fun a b c S => mul_lst (xs := [.bl a, .bl b, .bl c]) (j := 2) (by decide) (show okLen 6 = true by decide +kernel)
  have my : ∀ S, mulD (.lst [y]) (.int 2) S = some (.lst [y, y]) := fun S => mul_lst (xs := [y]) (j := 2) (by decide) (show okLen 2 = true by decide +kernel)
  have mx : ∀ S, mulD (.lst [x]) (.int 3) S = some (.lst [x, x, x]) := fun S => mul_lst (xs := [x]) (j := 3) (by decide) (show okLen 3 = true by decide +kernel)
  have nd : ∀ b S, neD (.lst (dueL b)) (.lst (dueL b)) S = some (.bl false) := fun b S => ne_refl (n := 2) S (by
    rw [Pq_lst]
    intro z hz
    simp only [dueL, List.mem_cons, List.not_mem_nil, or_false] at hz
    rcases hz with h | h | h | h | h | h <;> subst h <;> simp)
  have dl : ∀ b, dueL b = [.bl (b == 0), .bl (b == 1), .bl (b == 2), .bl (b == 0), .bl (b == 1), .bl (b == 2)] := fun b => rfl
  have a20 : L2.atI (allL x y) 20 = some (.lst [.exc "Broken" ["shown", "index"] [y, x], .str "index"]) := rfl
  have b20 : L2.atI (namedL x y) 20 = some (.exc "Broken" ["shown", "index"] [y, x]) := rfl
  have sh : ∀ S, xfD xfT "shown" (.exc "Broken" ["shown", "index"] [y, x]) S = some y := fun S => by kernel_rfl
  have lenA : (allL x y).length = 21 := rfl
  have lenB : (namedL x y).length = 21 := rfl
  generalize allL x y = A at *
  generalize namedL x y = B at *
  generalize D.exc "Broken" ["shown", "index"] [y, x] = eB at *
  have cm : ∀ (env : List Sl), env.length = 9 → compL [7] (.nm 7) mYes (mUn (xfD xfT "shown") (mVar 7)) [eB, eB] env S = .ok [y, y] S := fun env he => by
    refine comp_map (fun _ => y) [eB, eB] fun d hd => ?_
    have : d = eB := by simpa using hd
    subst this
    have h7 : 7 < env.length := by omega
    simp [h7, sh]
  subst hfr
  simp [f_l_right, m_l_right, al, nm, la, r21]
  refine for_rng0 (fun j e S' => S' = S ∧ ∃ s4 s5 s6 s7 s8, e = [.val x, .val y, .val (.lst A), .val (.lst B), s4, s5, s6, s7, s8]) ⟨rfl, _, _, _, _, _, rfl⟩ ?_ ?_
  · rintro j env S' hj ⟨rfl, s4, s5, s6, s7, s8, rfl⟩
    obtain ⟨e, f, w, v, ea, ef, R⟩ := row hj
    have ia : L2.atI A (j : Int) = some (.lst [e, .str w]) := by
      rw [at_nat (by omega)]
      exact ((List.getElem?_eq_some_iff.mp ea).2) ▸ rfl
    have ib : L2.atI B (j : Int) = some f := by
      rw [at_nat (by omega)]
      exact ((List.getElem?_eq_some_iff.mp ef).2) ▸ rfl
    have inner : ∀ (b : Nat) (bs : List D), baseN j = b → dueL b = bs → ∀ s5 s7, (forL (.nm 7) (mSeq (mIfS (mB (mOp neD (mFn 1 f_l_bases (mCons (mVar 7) mNil)) (mVar 6))) (mRet (mC (.bl false))) mSkip)
        (mIfS (mB (mOp neD (mCall reprD (mCons (mFn 2 f_l_has (mCons (mVar 7) (mCons (mOp ixD (mOp ixD (mVar 2) (mVar 4)) (mC (.int 1))) mNil))) mNil)) (mCall reprD (mCons (mIf (mB (mOp neD (mOp ixD (mOp ixD (mVar 2) (mVar 4)) (mC (.int 1))) (mC (.str "")))) (mVar 0) (mC (.str "nothing"))) mNil)))) (mRet (mC (.bl false))) mSkip)) [e, f]
        [.val x, .val y, .val (.lst A), .val (.lst B), .val (.int (j : Nat)), s5, .val (.lst bs), s7, s8] S').W (fun e S1 => S1 = S' ∧ ∃ s4 s5 s6 s7 s8, e = [.val x, .val y, .val (.lst A), .val (.lst B), s4, s5, s6, s7, s8]) (fun _ _ => False) (fun _ _ => False) (fun _ _ => False) (fun _ _ _ _ _ => False) := by
      intro b bs hb hbs s5 s7
      refine for_at (fun i e S1 => S1 = S' ∧ ∃ s7, e = [.val x, .val y, .val (.lst A), .val (.lst B), .val (.int (j : Nat)), s5, .val (.lst bs), s7, s8]) ⟨rfl, _, rfl⟩ ?_ ?_
      · rintro i d env S1 hd ⟨rfl, s7, rfl⟩
        have both : (∀ S, f_l_bases [d] S = .ok (.lst bs) S) ∧ ∀ S, f_l_has [d, .str w] S = .ok v S := by
          have hm := List.mem_of_getElem? hd
          simp only [List.mem_cons, List.not_mem_nil, or_false] at hm
          have be := R.be
          have bf := R.bf
          rw [hb, hbs] at be bf
          rcases hm with rfl | rfl
          · exact ⟨be, R.he⟩
          · exact ⟨bf, R.hf⟩
        obtain ⟨hbases, hhas⟩ := both
        have ndb := nd b
        rw [hbs] at ndb
        rcases R.vw with ⟨rfl, rfl⟩ | ⟨hw, rfl⟩
        · simp [hbases, ndb, ia, hhas, rn]
        · simp [hbases, ndb, ia, hhas, rx, hw]
      · rintro env S1 ⟨rfl, s7, rfl⟩
        exact ⟨rfl, _, _, _, _, _, rfl⟩
    by_cases h15 : (j : Int) < 15
    · have hb : baseN j = 0 := if_pos (by omega)
      have go := inner 0 _ hb rfl (.val (.int 0)) s7
      simp [h15, ia, ib, mb]
      exact fl_on go fun e S1 h => h
    · by_cases h18 : (j : Int) < 18
      · have hb : baseN j = 1 := (if_neg (by omega)).trans (if_pos (by omega))
        have go := inner 1 _ hb rfl (.val (.int 1)) s7
        simp [h15, h18, ia, ib, mb]
        exact fl_on go fun e S1 h => h
      · have hb : baseN j = 2 := (if_neg (by omega)).trans (if_neg (by omega))
        have go := inner 2 _ hb rfl (.val (.int 2)) s7
        simp [h15, h18, ia, ib, mb]
        exact fl_on go fun e S1 h => h
  · rintro env S' ⟨rfl, s4, s5, s6, s7, s8, rfl⟩
    simp [a20, b20, cm, r2, my, ca, r3, mx]
theorem law_true (ns : List Int) (h : ns.length ≤ 63) : ∃ S', f_p_law [scriptD ns] [] = .ok (.bl true) S' := by
  have p6 : ∀ S, powD (.int 10) (.int 6) S = some (.int 1000000) := fun S => by rw [powD_int (by decide)]; rfl
  have p12 : ∀ S, powD (.int 10) (.int 12) S = some (.int 1000000000000) := fun S => by rw [powD_int (by decide)]; rfl
  have p20 : ∀ S, powD (.int 10) (.int 20) S = some (.int 100000000000000000000) := fun S => by rw [powD_int (by decide)]; rfl
  have md : ∀ i S, modD (.int i) (.int 1000000000000) S = some (.int (i % 1000000000000)) := fun i S => modD_int (by decide)
  have sl : sliceD (scriptD ns) none (some 3) = some (.lst ((ns.take 3).map D.int)) := by
    show some (D.lst (cutD _ _ _)) = _
    rw [cut_to (by decide), List.map_take]
    rfl
  obtain ⟨L, hL⟩ : ∃ L : List D, L = [.non, .str "a", .tup [.int 1, .str "x"], .bl true, .int (-3)] ++ (ns.take 3).map (fun i => D.int (i % 1000000000000)) := ⟨_, rfl⟩
  have cm : ∀ (env : List Sl), env.length = 5 → ∀ S, compL [3] (.nm 3) mYes (mOp modD (mCall toIntD (mCons (mVar 3) mNil)) (mOp powD (mC (.int 10)) (mC (.int 12)))) ((ns.take 3).map D.int) env S = .ok ((ns.take 3).map fun i => D.int (i % 1000000000000)) S := fun env he S =>
    comp_gm D.int (fun i => D.int (i % 1000000000000)) (ns.take 3) fun i hi => by
      have h3 : 3 < env.length := by omega
      simp [h3, p12, md]
  have l3 : ((ns.take 3).map D.int).length ≤ 100000 := by rw [List.length_map, List.length_take]; omega
  have l3' : ((ns.take 3).map fun i => D.int (i % 1000000000000)).length ≤ 3 := by rw [List.length_map, List.length_take]; omega
  have ad : ∀ S, addD (.lst [.non, .str "a", .tup [.int 1, .str "x"], .bl true, .int (-3)]) (.lst ((ns.take 3).map fun i => D.int (i % 1000000000000))) S = some (.lst L) := fun S => by rw [hL]; exact add_lst (by simp only [List.length_cons, List.length_nil]; omega)
  have th : ∀ x ∈ L, Th x := fun x hx => by
    rw [hL] at hx
    rcases List.mem_append.mp hx with hx | hx
    · have o1 : PyData.strOk ("a" : Str) = true := by decide +kernel
      have o2 : PyData.strOk ("x" : Str) = true := by decide +kernel
      have e1 : (1 : Int).natAbs.log2 < 1000 := by decide +kernel
      have e3 : (-3 : Int).natAbs.log2 < 1000 := by decide +kernel
      simp only [List.mem_cons, List.not_mem_nil, or_false] at hx
      have tp : ∀ n, Pl 1000 (n + 1) (.tup [.int 1, .str "x"]) := fun n => by
        rw [Pl_tup]
        intro z hz
        simp only [List.mem_cons, List.not_mem_nil, or_false] at hz
        rcases hz with rfl | rfl
        · rw [Pl_int]; exact e1
        · rw [Pl_str]; exact o2
      rcases hx with rfl | rfl | rfl | rfl | rfl
      · exact ⟨by simp, by simp, by simp⟩
      · exact ⟨by rw [Pl_str]; exact o1, by rw [Pl_str]; exact o1, by decide +kernel⟩
      · exact ⟨tp 49, tp 48, by decide +kernel⟩
      · exact ⟨by simp, by simp, by simp⟩
      · exact ⟨by rw [Pl_int]; exact e3, by rw [Pl_int]; exact e3, by decide +kernel⟩
    · obtain ⟨i, _, rfl⟩ := List.mem_map.mp hx
      have b0 := Int.emod_nonneg i (show (1000000000000 : Int) ≠ 0 by decide)
      have b1 := Int.emod_lt_of_pos i (show (0 : Int) < 1000000000000 by decide)
      have nb : (i % 1000000000000).natAbs < 2 ^ 40 := by omega
      have lg := log2_small 40 nb (by decide) (show 40 ≤ 1000 by decide)
      exact ⟨by rw [Pl_int]; exact lg, by rw [Pl_int]; exact lg, Nat.le_trans (wt_int_le nb (by decide)) (by decide)⟩
  have ll : L.length ≤ 8 := by rw [hL, List.length_append]; simp only [List.length_cons, List.length_nil]; omega
  have l0 : 0 < L.length := by rw [hL, List.length_append]; simp only [List.length_cons, List.length_nil]; omega
  have rk : ∀ S, range1D [.int (L.length : Nat)] S = .ok ((List.range L.length).map fun k => .int (k : Nat)) S := fun S => range1_ok (by omega) S
  have at1 : ∀ j, j < L.length → ∃ y ∈ L, L2.atI L ((j : Int) - 1) = some y := fun j hj => by
    by_cases h0 : j = 0
    · subst h0
      have hne : L ≠ [] := fun z => by rw [z] at l0; cases l0
      exact ⟨_, List.getLast_mem hne, at_last hne⟩
    · have hj1 : j - 1 < L.length := by omega
      refine ⟨L[j - 1], List.getElem_mem hj1, ?_⟩
      rw [show (j : Int) - 1 = ((j - 1 : Nat) : Int) by omega]
      exact at_nat hj1
  have nl : ∀ S, neD (.lst [.int 4, .int 1000000, .int 10, .int 12, .int 100000000000000000000, .int 6]) (.lst [.int 4, .int 1000000, .int 10, .int 12, .int 100000000000000000000, .int 6]) S = some (.bl false) := fun S => ne_refl (n := 2) S (by
    rw [Pq_lst]
    intro z hz
    simp only [List.mem_cons, List.not_mem_nil, or_false] at hz
    rcases hz with h | h | h | h | h | h <;> subst h <;> simp)
  have neg3 : ∀ S, negD (.int 3) S = some (.int (-3)) := fun S => nr rfl
  clear hL
  generalize hcs : (ns.take 3).map D.int = cs at *
  generalize (ns.take 3).map (fun i => D.int (i % 1000000000000)) = ms at *
  generalize scriptD ns = sc at *
  have R := @right_ok
  have main : (f_p_law [sc] []).W (fun d _ => d = .bl true) XN := by
    simp [f_p_law, m_p_law, p6, p20, nl, sl, l3, cm, ad, rk, show L.length ≤ 100000 by omega]
    generalize f_l_right = fr at *
    refine turns_ok (fun _ => True) trivial (fun j S hj _ => ?_) fun S' _ => ?_
    · obtain ⟨y, hy, ey⟩ := at1 j hj
      have ex : L2.atI L (j : Int) = some L[j] := at_nat hj
      have t1 := th _ (List.getElem_mem hj)
      have t2 := th _ hy
      generalize L[j] = x at *
      simp [ex, ey]
      refine (R t1 t2 S).on ?_
      rintro _ S2 ⟨rfl, rfl⟩
      simp
    · simp [all_true]
  obtain ⟨d, S', e, rfl⟩ := main.of
  exact ⟨S', e⟩
end K01
open PySem PySem.W PyProof.Rows
set_option maxHeartbeats 0 in
theorem PySem.Challenge.cw_bentthrough_k01_limits_and_errors_holds : PySem.Challenge.rw_bentthrough_k01_limits_and_errors.Holds := by
  w_on; o_law
  refine HandSHeadRun.head_any (r := PySem.W.OpenLaw.row PySem.Challenge.rw_bentthrough_k01_limits_and_errors) (q := view (PySem.W.OpenLaw.row PySem.Challenge.rw_bentthrough_k01_limits_and_errors).prog [38]) (H := K01.hkQ) (ob := K01.obK) (M := 20000) (loose := K01.looseQ) (d := HandSHeadRun.topDef (PySem.W.OpenLaw.row PySem.Challenge.rw_bentthrough_k01_limits_and_errors).prog 38) (kwd := []) DL.obQ_eq
    (by kernel_rfl) (fun s => by kernel_rfl) K01.run (by kernel_rfl) (by kernel_rfl) (by kernel_rfl) (by rfl) (by first | assumption | decide +kernel) (by decide +kernel) ⟨rfl, rfl, rfl, rfl, rfl, by decide +kernel⟩ ?hw ?hc
  case hw => w_witness2
  case hc =>
    refine DL.walkQ (l := PySem.Challenge.rw_bentthrough_k01_limits_and_errors) (n := 63) (k := 5) (x := "_law_script") (m := K01.f_p_law) rfl (by decide) (by kernel_rfl) ⟨rfl, by decide, by decide⟩ ?F K01.law_true
    intro w mg fa h Y G hmg0
    obtain ⟨K, KX, c⟩ := Y
    have hmg : mg ("law" : PySem.Str) = some (.ref fa) := by
      have e : (HandSHeadRun.topDef (PySem.W.OpenLaw.row PySem.Challenge.rw_bentthrough_k01_limits_and_errors).prog 38).name = ("law" : PySem.Str) := by kernel_rfl
      rw [← e]
      exact hmg0
    obtain ⟨fd, hb, hF⟩ := K01.all_mk (P := (PySem.Challenge.rw_bentthrough_k01_limits_and_errors).prog) (w := w) KX G hmg c
    exact ⟨K, KX, fd, hb, hF⟩
