import PyProof.Rows.All
import HandS.ForMost
import HandS.ForExc
import HandS.Wide
import HandS.NoneIn
import HandS.TupAny
import HandS.TupMul
import HandS.TupLe
import HandS.Style
import HandS.Zip
import HandS.Conv
import HandS.Deep
import HandS.IsInst
import HandS.ExcCtx
import HandS.ExcInit
import HandS.HotCalls
import HandS.EndTab
import KE.GoesMore
import KE.GoesZip
import KE.GoesEnum
import HandS.SortInts
import HandS.Text
import KE.KExcInit
import KE.KTryMore
import KE.KExcIs
import HandS.ExcIs
import HandS.ExcField
import HandS.Defaults
import HandS.Property
import PyProof.FitsInt
import HandS.SetFor
import HandS.Strs
import HandS.Star
import PyProof.EqKinds
import KE.KTupSum
import HandS.OwnEq
import KE.KNestM
import HandS.ReCall
import PyProof.ReprRoads
import PyProof.NeKinds
import HandS.Iter
import PySem.Challenge.RW_bentthrough_k14_matches_refused
set_option Elab.async false
set_option linter.all false
set_option maxRecDepth 100000
set_option maxHeartbeats 4000000
set_option exponentiation.threshold 1000
/-! DLa: defs whose callers run no repr (so that repr may be asked of), their calls, the law's end. -/
namespace DL
open PySem PySem.Spec L2
open PyProof.Rows hiding St

/-- room for k calls, and no repr under way -/
structure Rm (k : Nat) (A : Around) : Prop where
  room : Room k A
  quiet : A.guards = some []
theorem Rm.less {i k : Nat} {A : Around} (r : Rm k A) (h : i ≤ k) : Rm i A := ⟨r.room.mono h, r.quiet⟩
theorem quiet_deeper {A : Around} (h : A.guards = some []) (env : Env) : (A.deeper env).guards = some [] := by
  simpa [Around.deeper] using h
theorem Rm.deeper {k : Nat} {A : Around} (r : Rm (k + 1) A) (env : Env) : Rm k (A.deeper env) := ⟨r.room.deeper env, quiet_deeper r.quiet env⟩

/-- a def that keeps its promise where no repr is under way; what it raises comes by L2N.CX -/
structure FnG (P : Program) (w : World) (K : PySem.W.Frag) (mg : Str → Option Value) (base : Heap) (k : Nat) (f : Addr)
    (fd : FuncData) (ps : List Str) (sp : Sp) : Prop where
  arity : ∀ vs H Q E, sp vs H Q E → vs.length = ps.length
  go : ∀ (A : Around) (outer : List Env) (s : Shared) (H : Hp) (args : Args) (us : List Value) (vs : List V) (Q : VK) (E : XK),
    Rm k A → Env0 P w K mg base A outer s H → BindsTo s fd args (ps.zip us) → Vals vs us → sp vs H Q E →
    codeAny (model P w) A (.call (.ref f) args) (CR (L2N.CX P w) outer P w H s Q E) s

section
variable {P : Program} {w : World} {K : PySem.W.Frag} {mg : Str → Option Value} {base : Heap}
theorem FnG.less {i k : Nat} {f : Addr} {fd : FuncData} {ps : List Str} {sp : Sp} (F : FnG P w K mg base i f fd ps sp) (h : i ≤ k) :
    FnG P w K mg base k f fd ps sp :=
  ⟨F.arity, fun A outer s H args us vs Q E r => F.go A outer s H args us vs Q E (r.less h)⟩

theorem fnG_of {k : Nat} {f : Addr} {name qual : Str} {pr : Arguments} {body : List Stmt} {sc : Scope} {v1 v2 v3 v4 v5 v6 v7 : Value} {a1 a2 : Option Addr}
    {sl : Array (Option Value)} {N ps : List Str} {sp : Sp}
    (hf : K.lookup f = some ⟨v7, a2, .func (PySem.W.fnOf name qual pr body sc v1 v2 v3 v4 a1 v5 v6), sl⟩)
    (hc : PySem.W.codeIn K v5 qual = true) (S : FnScope N ps sc) (ar : ∀ vs H Q E, sp vs H Q E → vs.length = ps.length)
    (hb : ∀ (A : Around) (outer : List Env) (s : Shared) (H : Hp) (vs : List V) (Q : VK) (E : XK),
      Rm k (A.deeper (envOfC qual sc s.heap.objs.size f v5)) → sp vs H Q E →
      ∃ t, PSs (cxOf (L2N.CX P w) P w K mg base N qual sc f v5 A outer s H E) body t ∧ t { nx := fun _ H' => Q .non H', rt := Q } (start N vs) H) :
    FnG P w K mg base (k + 1) f (PySem.W.fnOf name qual pr body sc v1 v2 v3 v4 a1 v5 v6) ps sp := by
  constructor
  · exact ar
  intro A outer s H args us vs Q E rm e0 hbd hv hsp
  have hn := ar _ _ _ _ hsp
  have old : ∀ b o, base.get? b = some o → s.heap.get? b = some o := fun b o e => (e0.bs b o e).1
  have kin : K.In s.heap := e0.mod.kin.keeps old
  have nol : s.heap.NoLimit := e0.mod.nolimit.keeps old
  have kinds : ∀ y ∈ ps.zip us, sc.names.lookup y.1 = some .local ∨
      (sc.names.lookup y.1 = some .cell ∧ ((cellsFrom (s.heap.objs.size + 1) sc.names []).lookup y.1).isSome = true) := by
    rintro ⟨n, v⟩ hy
    rcases S.par n (List.of_mem_zip hy).1 with h | h
    · exact Or.inl h
    · exact Or.inr ⟨h, PySem.W.cellsFrom_some _ _ _ (Or.inl h)⟩
  refine codeAny_call_function rm.room.depth (kin _ _ hf) rfl S.co S.gen rfl (PySem.W.codeRec_of kin hc) (hbd _ _ _ _ ?_)
  refine wpAny_newFunctionEnv_cells S.kind kinds fun env ee s1 ic => ?_
  cases ee
  refine ⟨nol.keeps ic.toInCall.keep, codeAny_func ?_⟩
  obtain ⟨t, ht, hq⟩ := hb A outer s H vs Q E (rm.deeper _) hsp
  have J := inv_start (CX := L2N.CX P w) (E := E) S rm.room.hd e0 hn hv ic
  refine wpAny_mono (ht.run [] s1 (start N vs) H _ J hq) ?_ (fun _ _ h => h)
  intro fl s2 h2
  have done : ∀ {σ2 : St} {H2 : Hp} {v : V} {u : Value}, Inv (cxOf (L2N.CX P w) P w K mg base N qual sc f v5 A outer s H E) [] σ2 H2 s2 →
      RelV v u → Q v H2 → CE outer P w H s Q u s2 := fun {σ2 H2 v u} J2 rv q => ⟨v, H2, J2.os, J2.bare, J2.base, J2.hok, rv, q⟩
  match fl, h2 with
  | .ret u, ⟨v, σ2, H2, J2, rv, q⟩ => exact done J2 rv q
  | .next, ⟨σ2, H2, J2, q⟩ => exact done (v := V.non) (u := Value.none) J2 rfl q
  | .brk, ⟨_, _, _, q⟩ => exact q.elim
  | .cont, ⟨_, _, _, q⟩ => exact q.elim

/-- a def of the text, by its body -/
theorem fnG {x qual : Str} {st : Stmt} {f : Addr} {fd : FuncData} {N ps : List Str} {k : Nat} {sp : Sp} (F : Fun K x qual st f fd) (S : FnScope N ps (defScope st))
    (ar : ∀ vs H Q E, sp vs H Q E → vs.length = ps.length)
    (hb : ∀ (cd : Value) (A : Around) (outer : List Env) (s : Shared) (H : Hp) (vs : List V) (Q : VK) (E : XK),
      Rm k (A.deeper (envOfC qual (defScope st) s.heap.objs.size f cd)) → sp vs H Q E →
      ∃ t, PSs (cxOf (L2N.CX P w) P w K mg base N qual (defScope st) f cd A outer s H E) (defBody st) t ∧ t { nx := fun _ H' => Q .non H', rt := Q } (start N vs) H) :
    FnG P w K mg base (k + 1) f fd ps sp := by
  obtain ⟨oc, od, kV, doc, pm, an, cd, ct, osl, e, lk, hcd⟩ := F.ex
  cases e
  exact fnG_of lk hcd S ar fun A outer s H vs Q E => hb cd A outer s H vs Q E
end
/-- what is wanted of an exception, told by the slots -/
abbrev EE := St → XK
def EX0 : EE := fun _ _ _ _ => False
/-- what callees let out is taken -/
def Px (X : Cx) (E : EE) : Prop := ∀ (pins : List (Addr × Obj)) (σ : St) (H : Hp) (s : Shared) (e : Value) (s' : Shared), Inv X pins σ H s → L2N.CX X.prog X.w X.stack H s (E σ) e s' → X.xe e s'
theorem px_of {X : Cx} {E : EE} (tk : L2N.Takes X fun cls d σ H => E σ cls d H) : Px X E := fun _ _ _ _ e s' I c => tk e s' (L2N.XE.of_call I (fun _ _ _ h => h) c)
theorem px_0 {X : Cx} : Px X EX0 := px_of fun _ _ ⟨_, _, _, _, _, _, _, _, _, _, _, _, _, _, _, _, w⟩ => w.elim

section
variable {X : Cx} {k : Nat} {f C : Addr} {fd : FuncData} {ps : List Str} {sp : Sp} {E : EE} {x m : Str} {p pos : Pos} {e o : Expr} {es : List Expr} {t : TA}
def tCallG (sp : Sp) (E : EE) (t : TA) : TE := fun σ H Q => t σ H fun vs H1 => sp vs H1 Q (E σ)
/-- the callee runs from within X -/
theorem runG {pins : List (Addr × Obj)} {σ : St} {H : Hp} {s : Shared} {Q : VK} {us : List Value} {vs : List V} {args : Args}
    (F : FnG X.prog X.w X.K X.mg X.base k f fd ps sp) (rm : Rm k X.A) (px : Px X E)
    (I : Inv X pins σ H s) (bd : BindsTo s fd args (ps.zip us)) (r : Vals vs us) (h : sp vs H Q (E σ)) :
    codeAny (model X.prog X.w) X.A (.call (.ref f) args) (fun r s' => match r with
      | .ok (.ret u) => EP X pins σ Q u s'
      | .ok _ => False
      | .error e => X.xe e s') s := by
  refine codeAny_mono (F.go X.A X.stack s H args us vs Q (E σ) rm I.env0 bd r h) ?_
  intro r s' hr
  match r, hr with
  | .error e, hr => exact px pins σ H s e s' I hr
  | .ok (.ret u), hr => exact I.after hr
theorem wpG {pins : List (Addr × Obj)} {σ : St} {H : Hp} {s : Shared} {Q : VK} {us : List Value} {vs : List V}
    (F : FnG X.prog X.w X.K X.mg X.base k f fd ps sp) (rm : Rm k X.A) (hb : Binds X.K fd ps []) (px : Px X E)
    (I : Inv X pins σ H s) (r : Vals vs us) (h : sp vs H Q (E σ)) : wpAny (model X.prog X.w) X.A (call (.ref f) us) (EP X pins σ Q) X.xe s := by
  have hl : us.length = ps.length := r.length.symm.trans (F.arity _ _ _ _ h)
  have bd := hb s us I.kIn (by rw [List.append_nil]; exact hl)
  rw [List.append_nil] at bd
  refine wpAny_call (codeAny_mono (runG F rm px I bd r h) ?_)
  intro r s' hr
  match r, hr with
  | .error e, hr => exact hr
  | .ok (.ret u), hr => exact hr
/-- f(e, ..) -/
theorem pe_callG (F : FnG X.prog X.w X.K X.mg X.base k f fd ps sp) (rm : Rm k X.A) (hg : Gl X x) (hm : X.mg x = some (.ref f))
    (hk : PySem.W.keepIn X.K (.ref f) = true) (hb : Binds X.K fd ps []) (px : Px X E) (ha : PA X (e :: es) t)
    (hd : (x == ("__debug__" : Str)) = false := by decide)
    (h1 : starEach (e :: es) X.env = (false, eval e X.env) :: starEach es X.env := by rfl)
    (h2 : (backTo pos (starEach es X.env)).any (·.1) = false := by rfl) :
    PE X (.Call (.Name x p) (e :: es) [] pos) (tCallG sp E t) := by
  constructor
  intro pins s σ H Q I h
  refine wpAny_Call_Name_kw (ld_glob I hg hm ?_ hd)
  refine PySem.W.callWith_K (h₀ := X.base) I.ok.mod.kin hk (thn (ha.run pos pins s σ H _ I h) ?_) h1 h2
  rintro us s1 ⟨vs, H1, I1, r, q⟩
  exact ⟨I1.kIn, wpG F rm hb px I1 r q⟩
theorem pe_callG0 (F : FnG X.prog X.w X.K X.mg X.base k f fd ps sp) (rm : Rm k X.A) (hg : Gl X x) (hm : X.mg x = some (.ref f))
    (hk : PySem.W.keepIn X.K (.ref f) = true) (hb : Binds X.K fd ps []) (px : Px X E)
    (hd : (x == ("__debug__" : Str)) = false := by decide) : PE X (.Call (.Name x p) [] [] pos) (tCallG sp E tNil) := by
  constructor
  intro pins s σ H Q I h
  refine wpAny_Call_Name_kw (ld_glob I hg hm ?_ hd)
  exact PySem.W.callWith_K0 I.kIn hk (wpG (us := []) F rm hb px I .nil h)
end
end DL

/-! DLb: data D, how the heap bears it, the state between a def's slots and an environment of data, readings by mirrors. -/
namespace DL
open PySem PySem.Spec L2
open PyProof.Rows hiding St

/-- data: what a value is, whatever its address; cell: an object that changes, by its number -/
inductive D where
  | non | bl (b : Bool) | int (i : Int) | str (s : Str)
  | tup (xs : List D) | lst (xs : List D) | ro (xs : List D) | dct (ks : List Key) (xs : List D)
  | obj (c : Str) (ns : List Str) (xs : List D) | cell (n : Nat)
  | ty (n : String) | cls (c : Str)
  | exc (c : Str) (ns : List Str) (xs : List D)

abbrev Fz := Addr → Prop
def noH : Hp := fun _ => none
def TupAt (K : PySem.W.Frag) (F : Fz) (H : Hp) (a : Addr) (vs : List V) : Prop := (F a ∧ Rd H a (.tup vs)) ∨ SqT K noH a vs
def LstAt (_ : PySem.W.Frag) (F : Fz) (H : Hp) (a : Addr) (vs : List V) : Prop := F a ∧ H a = some (.lst vs)
/-- a list that is only read: the script, a list of the module -/
def RoAt (K : PySem.W.Frag) (F : Fz) (H : Hp) (a : Addr) (vs : List V) : Prop := (F a ∧ Rd H a (.lst vs)) ∨ SqL K noH a vs

mutual
def Rep (K : PySem.W.Frag) (mg : Str → Option Value) (F : Fz) (ι : List Addr) (H : Hp) : D → V → Prop
  | .non, v => v = .non
  | .bl b, v => v = .bl b
  | .int i, v => v = .int i
  | .str s, v => v = .str s
  | .tup xs, v => ∃ a vs, v = .ref a ∧ TupAt K F H a vs ∧ Reps K mg F ι H xs vs
  | .lst xs, v => ∃ a vs, v = .ref a ∧ LstAt K F H a vs ∧ Reps K mg F ι H xs vs
  | .ro xs, v => ∃ a vs, v = .ref a ∧ RoAt K F H a vs ∧ Reps K mg F ι H xs vs
  | .dct ks xs, v => ∃ a vs, v = .ref a ∧ F a ∧ Rd H a (.dK (ks.zip vs)) ∧ vs.length = ks.length ∧ Reps K mg F ι H xs vs
  | .obj c ns xs, v => ∃ a C dx vs, v = .ref a ∧ F a ∧ mg c = some (.ref C) ∧ H a = some (.ins C dx (ns.zip vs)) ∧ vs.length = ns.length ∧ Reps K mg F ι H xs vs
  | .cell n, v => ∃ a, v = .ref a ∧ ι[n]? = some a
  | .ty n, v => v = .ty n
  | .cls c, v => ∃ C, v = .ref C ∧ mg c = some (.ref C)
  | .exc c ns xs, v => ∃ a C oe u od vs, v = .ref a ∧ F a ∧ mg c = some (.ref C) ∧ H a = some (.frz oe u) ∧ L2N.Zn (.ref C) od oe ∧ (∃ fv, oe.data = .fields fv) ∧ vs.length = ns.length ∧
      ((ns = [] ∧ od = none) ∨ ∃ dd, od = some dd ∧ F dd ∧ H dd = some (.xd (ns.zip vs))) ∧ Reps K mg F ι H xs vs
def Reps (K : PySem.W.Frag) (mg : Str → Option Value) (F : Fz) (ι : List Addr) (H : Hp) : List D → List V → Prop
  | [], vs => vs = []
  | d :: ds, vs => ∃ v r, vs = v :: r ∧ Rep K mg F ι H d v ∧ Reps K mg F ι H ds r
end

/-- the heap goes on: what is frozen stays, what was tracked stays but for the cells -/
structure Ext (H : Hp) (F : Fz) (ι : List Addr) (H' : Hp) (F' : Fz) (ι' : List Addr) : Prop where
  sub : ∀ a, F a → F' a
  new : ∀ a, F' a → F a ∨ H a = none
  keep : ∀ a o, H a = some o → (F a ∨ a ∉ ι) → H' a = some o
  mono : ∀ a, H' a = none → H a = none
  pre : ι <+: ι'
  cnew : ∀ a ∈ ι', a ∈ ι ∨ H a = none
theorem Ext.refl {H : Hp} {F : Fz} {ι : List Addr} : Ext H F ι H F ι :=
  ⟨fun _ h => h, fun _ h => .inl h, fun _ _ h _ => h, fun _ h => h, List.prefix_refl _, fun _ h => .inl h⟩
theorem Ext.trans {H H1 H2 : Hp} {F F1 F2 : Fz} {ι ι1 ι2 : List Addr} (a : Ext H F ι H1 F1 ι1) (b : Ext H1 F1 ι1 H2 F2 ι2) : Ext H F ι H2 F2 ι2 where
  sub := fun x h => b.sub x (a.sub x h)
  new := fun x h => (b.new x h).elim (a.new x) fun q => .inr (a.mono x q)
  keep := fun x o h n => b.keep x o (a.keep x o h n) (n.elim (fun f => .inl (a.sub x f)) fun n => .inr fun q => (a.cnew x q).elim n fun z => by rw [h] at z; cases z)
  mono := fun x h => a.mono x (b.mono x h)
  pre := a.pre.trans b.pre
  cnew := fun x h => (b.cnew x h).elim (a.cnew x) fun q => .inr (a.mono x q)

inductive Cell where
  | lst (xs : List D) | ins (c : Str) (ns : List Str) (xs : List D) | dead | tab (p : Addr) (q : Str)
def Cell.live : Cell → Bool
  | .dead => false
  | _ => true
def CellOk (K : PySem.W.Frag) (mg : Str → Option Value) (F : Fz) (ι : List Addr) (H : Hp) (a : Addr) : Cell → Prop
  | .lst xs => ∃ vs, H a = some (.lst vs) ∧ Reps K mg F ι H xs vs
  | .ins c ns xs => ∃ C dx vs, mg c = some (.ref C) ∧ H a = some (.ins C dx (ns.zip vs)) ∧ vs.length = ns.length ∧ Reps K mg F ι H xs vs
  | .dead => F a
  | .tab p q => a = p ∧ ∃ ps : Array Value, H a = some (.tbl ps) ∧ TriplesOk ps.toList ∧ ∀ (pos : Pos) (cv : Value), codeAmong pos ps.toList = some cv → ∃ c, cv = .ref c ∧ F c ∧ H c = some (LamX.CodeO c q)
/-- the world: frozen things are tracked, cells are others, one by one, and hold what the store says -/
structure Wd (K : PySem.W.Frag) (mg : Str → Option Value) (F : Fz) (ι : List Addr) (H : Hp) (S : List Cell) : Prop where
  fin : ∀ a, F a → H a ≠ none
  cnf : ∀ (n : Nat) c a, S[n]? = some c → ι[n]? = some a → c.live = true → ¬ F a
  cnd : ι.Nodup
  len : S.length = ι.length
  cells : ∀ (n : Nat) c a, S[n]? = some c → ι[n]? = some a → CellOk K mg F ι H a c

section
variable {K : PySem.W.Frag} {mg : Str → Option Value} {F F' : Fz} {ι ι' : List Addr} {H H' : Hp}
theorem TupAt.sq {a : Addr} {vs : List V} (h : TupAt K F H a vs) : SqT K H a vs := by
  rcases h with ⟨_, h⟩ | (h | h)
  · exact .inl h
  · rcases h with h | ⟨_, h⟩ <;> cases h
  · exact .inr h
theorem LstAt.sq {a : Addr} {vs : List V} (h : LstAt K F H a vs) : SqL K H a vs := .inl (.inl h.2)
theorem RoAt.sq {a : Addr} {vs : List V} (h : RoAt K F H a vs) : SqL K H a vs := by
  rcases h with ⟨_, h⟩ | (h | h)
  · exact .inl h
  · rcases h with h | ⟨_, h⟩ <;> cases h
  · exact .inr h
/-- what stays: frozen objects -/
def Stay (F : Fz) (H H' : Hp) : Prop := ∀ a o, F a → H a = some o → H' a = some o
theorem Stay.rd {a : Addr} {o : HO} (s : Stay F H H') (hf : F a) (h : Rd H a o) : Rd H' a o := by
  rcases h with h | ⟨ob, h⟩
  · exact .inl (s _ _ hf h)
  · exact .inr ⟨ob, s _ _ hf h⟩
theorem TupAt.mono {a : Addr} {vs : List V} (hs : ∀ a, F a → F' a) (s : Stay F H H') (h : TupAt K F H a vs) : TupAt K F' H' a vs := by
  rcases h with ⟨f, h⟩ | h
  · exact .inl ⟨hs _ f, s.rd f h⟩
  · exact .inr h
theorem LstAt.mono {a : Addr} {vs : List V} (hs : ∀ a, F a → F' a) (s : Stay F H H') (h : LstAt K F H a vs) : LstAt K F' H' a vs := ⟨hs _ h.1, s _ _ h.1 h.2⟩
theorem RoAt.mono {a : Addr} {vs : List V} (hs : ∀ a, F a → F' a) (s : Stay F H H') (h : RoAt K F H a vs) : RoAt K F' H' a vs := by
  rcases h with ⟨f, h⟩ | h
  · exact .inl ⟨hs _ f, s.rd f h⟩
  · exact .inr h
theorem pre_get {n : Nat} {a : Addr} (p : ι <+: ι') (h : ι[n]? = some a) : ι'[n]? = some a := by
  obtain ⟨r, rfl⟩ := p
  rw [List.getElem?_append_left (by have := (List.getElem?_eq_some_iff.mp h).1; exact this)]
  exact h
mutual
theorem rep_mono (hs : ∀ a, F a → F' a) (s : Stay F H H') (p : ι <+: ι') : ∀ (d : D) (v : V), Rep K mg F ι H d v → Rep K mg F' ι' H' d v
  | .non, _, h => h
  | .bl _, _, h => h
  | .int _, _, h => h
  | .str _, _, h => h
  | .tup xs, v, h => by
    obtain ⟨a, vs, e, t, r⟩ := h
    exact ⟨a, vs, e, t.mono hs s, reps_mono hs s p xs vs r⟩
  | .lst xs, v, h => by
    obtain ⟨a, vs, e, t, r⟩ := h
    exact ⟨a, vs, e, t.mono hs s, reps_mono hs s p xs vs r⟩
  | .ro xs, v, h => by
    obtain ⟨a, vs, e, t, r⟩ := h
    exact ⟨a, vs, e, t.mono hs s, reps_mono hs s p xs vs r⟩
  | .dct ks xs, v, h => by
    obtain ⟨a, vs, e, f, t, l, r⟩ := h
    exact ⟨a, vs, e, hs _ f, s.rd f t, l, reps_mono hs s p xs vs r⟩
  | .obj c ns xs, v, h => by
    obtain ⟨a, C, dx, vs, e, f, hm, t, l, r⟩ := h
    exact ⟨a, C, dx, vs, e, hs _ f, hm, s _ _ f t, l, reps_mono hs s p xs vs r⟩
  | .cell n, v, h => by
    obtain ⟨a, e, q⟩ := h
    exact ⟨a, e, pre_get p q⟩
  | .ty _, _, h => h
  | .cls _, _, h => h
  | .exc c ns xs, v, h => by
    obtain ⟨a, C, oe, u, od, vs, e, f, hm, t, z, fv, l, dd, r⟩ := h
    refine ⟨a, C, oe, u, od, vs, e, hs _ f, hm, s _ _ f t, z, fv, l, ?_, reps_mono hs s p xs vs r⟩
    rcases dd with dd | ⟨dd, e1, f1, h1⟩
    · exact .inl dd
    · exact .inr ⟨dd, e1, hs _ f1, s _ _ f1 h1⟩
theorem reps_mono (hs : ∀ a, F a → F' a) (s : Stay F H H') (p : ι <+: ι') : ∀ (ds : List D) (vs : List V), Reps K mg F ι H ds vs → Reps K mg F' ι' H' ds vs
  | [], _, h => h
  | d :: ds, vs, h => by
    obtain ⟨v, r, e, h1, h2⟩ := h
    exact ⟨v, r, e, rep_mono hs s p d v h1, reps_mono hs s p ds r h2⟩
end
theorem cell_mono (hs : ∀ a, F a → F' a) (s : Stay F H H') (p : ι <+: ι') {a : Addr} (ha : ∀ o, H a = some o → H' a = some o) : ∀ (c : Cell), CellOk K mg F ι H a c → CellOk K mg F' ι' H' a c
  | .lst xs, ⟨vs, h, r⟩ => ⟨vs, ha _ h, reps_mono hs s p xs vs r⟩
  | .ins c ns xs, ⟨C, dx, vs, hm, h, l, r⟩ => ⟨C, dx, vs, hm, ha _ h, l, reps_mono hs s p xs vs r⟩
  | .dead, h => hs _ h
  | .tab p q, ⟨e, ps, h, ht, hc⟩ => ⟨e, ps, ha _ h, ht, fun pos cv z => by
    obtain ⟨c, e1, f1, h1⟩ := hc pos cv z
    exact ⟨c, e1, hs _ f1, s _ _ f1 h1⟩⟩
theorem Reps.len : ∀ {ds : List D} {vs : List V}, Reps K mg F ι H ds vs → vs.length = ds.length
  | [], _, h => by rw [h]; rfl
  | d :: ds, vs, h => by
    obtain ⟨v, r, rfl, _, h2⟩ := h
    rw [List.length_cons, List.length_cons, Reps.len h2]
theorem Reps.get : ∀ {ds : List D} {vs : List V} {i : Nat} {d : D}, Reps K mg F ι H ds vs → ds[i]? = some d → ∃ v, vs[i]? = some v ∧ Rep K mg F ι H d v
  | [], _, i, d, _, e => by simp at e
  | d :: ds, vs, 0, d', h, e => by
    obtain ⟨v, r, rfl, h1, h2⟩ := h
    simp at e
    subst e
    exact ⟨v, rfl, h1⟩
  | d :: ds, vs, i + 1, d', h, e => by
    obtain ⟨v, r, rfl, h1, h2⟩ := h
    obtain ⟨u, h3, h4⟩ := Reps.get h2 (by simpa using e)
    exact ⟨u, by simpa using h3, h4⟩
theorem Reps.back {ds : List D} {vs : List V} {i : Nat} {v : V} (h : Reps K mg F ι H ds vs) (e : vs[i]? = some v) : ∃ d, ds[i]? = some d ∧ Rep K mg F ι H d v := by
  have hl := h.len
  have hi : i < ds.length := by have := (List.getElem?_eq_some_iff.mp e).1; omega
  obtain ⟨u, h1, h2⟩ := h.get (List.getElem?_eq_getElem hi)
  rw [e] at h1
  cases h1
  exact ⟨_, List.getElem?_eq_getElem hi, h2⟩
theorem Reps.app : ∀ {ds es : List D} {vs us : List V}, Reps K mg F ι H ds vs → Reps K mg F ι H es us → Reps K mg F ι H (ds ++ es) (vs ++ us)
  | [], _, _, _, h, g => by rw [show _ = _ from h]; exact g
  | d :: ds, es, vs, us, h, g => by
    obtain ⟨v, r, rfl, h1, h2⟩ := h
    exact ⟨v, r ++ us, rfl, h1, h2.app g⟩
theorem Reps.one {d : D} {v : V} (h : Rep K mg F ι H d v) : Reps K mg F ι H [d] [v] := ⟨v, [], rfl, h, rfl⟩
theorem Reps.cons {d : D} {v : V} {ds : List D} {vs : List V} (h : Rep K mg F ι H d v) (g : Reps K mg F ι H ds vs) : Reps K mg F ι H (d :: ds) (v :: vs) := ⟨v, vs, rfl, h, g⟩
theorem Reps.drop : ∀ {ds : List D} {vs : List V} (n : Nat), Reps K mg F ι H ds vs → Reps K mg F ι H (ds.drop n) (vs.drop n)
  | _, _, 0, h => h
  | [], _, n + 1, h => by rw [show _ = _ from h]; rfl
  | d :: ds, vs, n + 1, h => by
    obtain ⟨v, r, rfl, h1, h2⟩ := h
    exact Reps.drop n h2
theorem Reps.take : ∀ {ds : List D} {vs : List V} (n : Nat), Reps K mg F ι H ds vs → Reps K mg F ι H (ds.take n) (vs.take n)
  | _, _, 0, h => rfl
  | [], _, n + 1, h => by rw [show _ = _ from h]; rfl
  | d :: ds, vs, n + 1, h => by
    obtain ⟨v, r, rfl, h1, h2⟩ := h
    exact ⟨v, _, rfl, h1, Reps.take n h2⟩
theorem Reps.set : ∀ {ds : List D} {vs : List V} (n : Nat) {d : D} {v : V}, Reps K mg F ι H ds vs → Rep K mg F ι H d v → Reps K mg F ι H (ds.set n d) (vs.set n v)
  | [], _, _, _, _, h, _ => by rw [show _ = _ from h]; rfl
  | x :: ds, vs, 0, d, v, h, g => by
    obtain ⟨u, r, rfl, h1, h2⟩ := h
    exact ⟨v, r, rfl, g, h2⟩
  | x :: ds, vs, n + 1, d, v, h, g => by
    obtain ⟨u, r, rfl, h1, h2⟩ := h
    exact ⟨u, _, rfl, h1, Reps.set n h2 g⟩
theorem Wd.stay {S : List Cell} (w : Wd K mg F ι H S) (e : Ext H F ι H' F' ι') : Stay F H H' := fun a o f h => e.keep a o h (.inl f)
theorem Wd.rep {S : List Cell} {d : D} {v : V} (w : Wd K mg F ι H S) (e : Ext H F ι H' F' ι') (h : Rep K mg F ι H d v) : Rep K mg F' ι' H' d v := rep_mono e.sub (w.stay e) e.pre d v h
theorem Wd.reps {S : List Cell} {ds : List D} {vs : List V} (w : Wd K mg F ι H S) (e : Ext H F ι H' F' ι') (h : Reps K mg F ι H ds vs) : Reps K mg F' ι' H' ds vs := reps_mono e.sub (w.stay e) e.pre ds vs h
end

/-- a slot: nothing, a value, a list of one's own that no one else holds -/
inductive Sl where
  | un | val (d : D) | own (xs : List D)
/-- the entry of a def -/
structure Snap where
  H0 : Hp
  F0 : Fz
  ι0 : List Addr

structure RS (K : PySem.W.Frag) (mg : Str → Option Value) (g : Snap) (σ : St) (H : Hp) (F : Fz) (ι : List Addr) (env : List Sl) (S : List Cell) : Prop where
  wd : Wd K mg F ι H S
  ext : Ext g.H0 g.F0 g.ι0 H F ι
  len : σ.length = env.length
  slot : ∀ (i : Nat) d, env[i]? = some (.val d) → ∃ v, σ[i]? = some (some v) ∧ Rep K mg F ι H d v
  own : ∀ (i : Nat) ds, env[i]? = some (.own ds) → ∃ a vs, σ[i]? = some (some (.ref a)) ∧ H a = some (.lst vs) ∧ Reps K mg F ι H ds vs ∧ ¬ F a ∧ a ∉ ι ∧ g.H0 a = none
  apart : ∀ (i j : Nat) a di dj, env[i]? = some (.own di) → env[j]? = some (.own dj) → σ[i]? = some (some (.ref a)) → σ[j]? = some (some (.ref a)) → i = j

section
variable {K : PySem.W.Frag} {mg : Str → Option Value} {F F' : Fz} {ι ι' : List Addr} {H H' : Hp} {g : Snap} {σ : St} {env : List Sl} {S S' : List Cell}
/-- behind an expression or a call -/
theorem RS.step (r : RS K mg g σ H F ι env S) (e : Ext H F ι H' F' ι') (w : Wd K mg F' ι' H' S') : RS K mg g σ H' F' ι' env S' where
  wd := w
  ext := r.ext.trans e
  len := r.len
  slot := fun i d h => by
    obtain ⟨v, h1, h2⟩ := r.slot i d h
    exact ⟨v, h1, r.wd.rep e h2⟩
  own := fun i ds h => by
    obtain ⟨a, vs, h1, h2, h3, h4, h5, h6⟩ := r.own i ds h
    refine ⟨a, vs, h1, e.keep a _ h2 (.inr h5), r.wd.reps e h3, fun z => ?_, fun z => ?_, h6⟩
    · rcases e.new a z with z | z
      · exact h4 z
      · rw [h2] at z; cases z
    · rcases e.cnew a z with z | z
      · exact h5 z
      · rw [h2] at z; cases z
  apart := r.apart
/-- a new object, frozen -/
theorem Wd.lay {a : Addr} {o : HO} (w : Wd K mg F ι H S) (n : H a = none) : Ext H F ι (upd H a o) (fun b => F b ∨ b = a) ι ∧ Wd K mg (fun b => F b ∨ b = a) ι (upd H a o) S := by
  have e : Ext H F ι (upd H a o) (fun b => F b ∨ b = a) ι := by
    refine ⟨fun _ h => .inl h, fun b h => ?_, fun b u h _ => ?_, fun b h => ?_, List.prefix_refl _, fun _ h => .inl h⟩
    · rcases h with h | rfl
      · exact .inl h
      · exact .inr n
    · rw [upd_ne (ne_of_none h n)]
      exact h
    · by_cases hb : b = a
      · subst hb; exact n
      · rwa [upd_ne hb] at h
  refine ⟨e, ⟨fun b h => ?_, fun i c b h1 h2 hl h => ?_, w.cnd, w.len, fun i c b h1 h2 => ?_⟩⟩
  · rcases h with h | rfl
    · by_cases hb : b = a
      · subst hb; rw [upd_same]; simp
      · rw [upd_ne hb]; exact w.fin b h
    · rw [upd_same]; simp
  · rcases h with h | rfl
    · exact w.cnf i c b h1 h2 hl h
    · have q := w.cells i c b h1 h2
      cases c with
      | lst xs => obtain ⟨_, q, _⟩ := q; rw [n] at q; cases q
      | ins c ns xs => obtain ⟨_, _, _, _, q, _⟩ := q; rw [n] at q; cases q
      | dead => cases hl
      | tab p q => obtain ⟨_, _, q, _⟩ := q; rw [n] at q; cases q
  · refine cell_mono e.sub (w.stay e) e.pre (fun o ho => ?_) c (w.cells i c b h1 h2)
    rw [upd_ne (ne_of_none ho n)]
    exact ho
/-- a new object, not frozen (a list of one's own, a cell to be) -/
theorem Wd.layO {a : Addr} {o : HO} (w : Wd K mg F ι H S) (n : H a = none) : Ext H F ι (upd H a o) F ι ∧ Wd K mg F ι (upd H a o) S := by
  have e : Ext H F ι (upd H a o) F ι := by
    refine ⟨fun _ h => h, fun b h => .inl h, fun b u h _ => ?_, fun b h => ?_, List.prefix_refl _, fun _ h => .inl h⟩
    · rw [upd_ne (ne_of_none h n)]
      exact h
    · by_cases hb : b = a
      · subst hb; exact n
      · rwa [upd_ne hb] at h
  refine ⟨e, ⟨fun b h => ?_, w.cnf, w.cnd, w.len, fun i c b h1 h2 => ?_⟩⟩
  · by_cases hb : b = a
    · subst hb; rw [upd_same]; simp
    · rw [upd_ne hb]; exact w.fin b h
  · refine cell_mono e.sub (w.stay e) e.pre (fun o ho => ?_) c (w.cells i c b h1 h2)
    rw [upd_ne (ne_of_none ho n)]
    exact ho
theorem Wd.cell_some {n : Nat} {a : Addr} (w : Wd K mg F ι H S) (h : ι[n]? = some a) : ∃ c, S[n]? = some c ∧ CellOk K mg F ι H a c := by
  have hl : n < S.length := by rw [w.len]; exact (List.getElem?_eq_some_iff.mp h).1
  exact ⟨_, List.getElem?_eq_getElem hl, w.cells n _ a (List.getElem?_eq_getElem hl) h⟩
theorem CellOk.some {a : Addr} {c : Cell} (h : CellOk K mg F ι H a c) (fin : ∀ a, F a → H a ≠ none) : ∃ o, H a = some o := by
  cases c with
  | lst xs => obtain ⟨vs, h, _⟩ := h; exact ⟨_, h⟩
  | ins c ns xs => obtain ⟨C, dx, vs, _, h, _⟩ := h; exact ⟨_, h⟩
  | tab p q => obtain ⟨_, _, h, _⟩ := h; exact ⟨_, h⟩
  | dead =>
    cases z : H a with
    | none => exact absurd z (fin a h)
    | some o => exact ⟨o, rfl⟩
theorem Wd.cell_ne {a : Addr} (w : Wd K mg F ι H S) (h : a ∈ ι) : H a ≠ none := by
  obtain ⟨n, hn⟩ := List.getElem?_of_mem h
  obtain ⟨c, _, hc⟩ := w.cell_some hn
  obtain ⟨o, ho⟩ := hc.some w.fin
  rw [ho]; simp
/-- a list of one's own (unfrozen, no cell) is frozen -/
theorem Wd.freeze {a : Addr} (w : Wd K mg F ι H S) (h : H a ≠ none) (hc : a ∉ ι) : Wd K mg (fun b => F b ∨ b = a) ι H S := by
  refine ⟨fun b hb => ?_, fun n c b h1 h2 hl z => ?_, w.cnd, w.len, fun n c b h1 h2 => cell_mono (fun _ h => .inl h) (fun _ _ _ h => h) (List.prefix_refl _) (fun _ h => h) c (w.cells n c b h1 h2)⟩
  · rcases hb with hb | rfl
    · exact w.fin b hb
    · exact h
  · rcases z with z | rfl
    · exact w.cnf n c b h1 h2 hl z
    · exact hc (List.mem_of_getElem? h2)
end
end DL

/-! DLc: readings by mirrors: expressions, tests, arguments, statements. -/
namespace DL
open PySem PySem.Spec L2
open PyProof.Rows hiding St

/-- what a mirror gives: a value and the store, an exception (its class's name, its fields), or nothing is told -/
inductive Rs (α : Type) where
  | ok (a : α) (S : List Cell) | ex (c : Str) (ns : List Str) (ds : List D) (S : List Cell) | bad
abbrev Ex (α : Type) := List Sl → List Cell → Rs α
def Rs.andThen {α β : Type} (r : Rs α) (h : α → List Cell → Rs β) : Rs β := match r with
  | .ok a S => h a S
  | .ex c ns ds S => .ex c ns ds S
  | .bad => .bad
@[simp] theorem andThen_ok {α β : Type} (a : α) (S : List Cell) (h : α → List Cell → Rs β) : (Rs.ok a S).andThen h = h a S := rfl
@[simp] theorem andThen_ex {α β : Type} (c ns ds S) (h : α → List Cell → Rs β) : (Rs.ex c ns ds S).andThen h = .ex c ns ds S := rfl
@[simp] theorem andThen_bad {α β : Type} (h : α → List Cell → Rs β) : (Rs.bad).andThen h = .bad := rfl
/-- a statement's way out -/
inductive Fl where
  | nx (e : List Sl) (S : List Cell) | rt (d : D) (S : List Cell) | bk (e : List Sl) (S : List Cell) | ct (e : List Sl) (S : List Cell)
  | ex (c : Str) (ns : List Str) (ds : List D) (e : List Sl) (S : List Cell) | bad
abbrev Sm := List Sl → List Cell → Fl
def Rs.go {α : Type} (r : Rs α) (env : List Sl) (h : α → List Cell → Fl) : Fl := match r with
  | .ok a S => h a S
  | .ex c ns ds S => .ex c ns ds env S
  | .bad => .bad
@[simp] theorem go_ok {α : Type} (a : α) (S : List Cell) (env : List Sl) (h : α → List Cell → Fl) : (Rs.ok a S).go env h = h a S := rfl
@[simp] theorem go_ex {α : Type} (c ns ds S env) (h : α → List Cell → Fl) : (Rs.ex c ns ds S).go env h = .ex c ns ds env S := rfl
@[simp] theorem go_bad {α : Type} (env : List Sl) (h : α → List Cell → Fl) : (Rs.bad).go env h = .bad := rfl

/-- what goes on through statements: frozen things stay, cells come -/
structure Grow (H : Hp) (F : Fz) (ι : List Addr) (H' : Hp) (F' : Fz) (ι' : List Addr) : Prop where
  sub : ∀ a, F a → F' a
  stay : Stay F H H'
  pre : ι <+: ι'
theorem Grow.refl {H : Hp} {F : Fz} {ι : List Addr} : Grow H F ι H F ι := ⟨fun _ h => h, fun _ _ _ h => h, List.prefix_refl _⟩
theorem Grow.trans {H H1 H2 : Hp} {F F1 F2 : Fz} {ι ι1 ι2 : List Addr} (a : Grow H F ι H1 F1 ι1) (b : Grow H1 F1 ι1 H2 F2 ι2) : Grow H F ι H2 F2 ι2 :=
  ⟨fun x h => b.sub x (a.sub x h), fun x o f h => b.stay x o (a.sub x f) (a.stay x o f h), a.pre.trans b.pre⟩
theorem Wd.grow {K : PySem.W.Frag} {mg : Str → Option Value} {H H' : Hp} {F F' : Fz} {ι ι' : List Addr} {S : List Cell} (w : Wd K mg F ι H S) (e : Ext H F ι H' F' ι') : Grow H F ι H' F' ι' := ⟨e.sub, w.stay e, e.pre⟩
def DictAt (K : PySem.W.Frag) (mg : Str → Option Value) (F : Fz) (ι : List Addr) (H : Hp) (d : Option Addr) (ns : List Str) (ds : List D) : Prop :=
  ∃ vs, Reps K mg F ι H ds vs ∧ vs.length = ns.length ∧ ((ns = [] ∧ d = none) ∨ ∃ dd, d = some dd ∧ F dd ∧ H dd = some (.xd (ns.zip vs)))
/-- what is wanted of an exception -/
def ExTo (K : PySem.W.Frag) (mg : Str → Option Value) (g : Snap) (E : EE) (R : Hp → Fz → List Addr → Prop) (c : Str) (ns : List Str) (ds : List D) (σ : St) (env : List Sl) (S : List Cell) : Prop :=
  ∀ C d H' F' ι', mg c = some (.ref C) → RS K mg g σ H' F' ι' env S → R H' F' ι' → DictAt K mg F' ι' H' d ns ds → E σ (.ref C) d H'

section
variable (K : PySem.W.Frag) (mg : Str → Option Value) (g : Snap) (E : EE)
def rdAt {α : Type} (σ : St) (H : Hp) (F : Fz) (ι : List Addr) (env : List Sl) (k : α → Hp → Fz → List Addr → List Cell → Prop) : Rs α → Prop
  | .ok a S' => ∀ H' F' ι', Ext H F ι H' F' ι' → RS K mg g σ H' F' ι' env S' → k a H' F' ι' S'
  | .ex c ns ds S' => ExTo K mg g E (Ext H F ι) c ns ds σ env S'
  | .bad => False
def tV (f : Ex D) : TE := fun σ H Q => ∃ F ι env S, RS K mg g σ H F ι env S ∧ rdAt K mg g E σ H F ι env (fun d H' F' ι' _ => ∀ v, Rep K mg F' ι' H' d v → Q v H') (f env S)
def tT (f : Ex Bool) : TT := fun σ H Q => ∃ F ι env S, RS K mg g σ H F ι env S ∧ rdAt K mg g E σ H F ι env (fun b H' _ _ _ => Q b H') (f env S)
def tAr (f : Ex (List D)) : TA := fun σ H Q => ∃ F ι env S, RS K mg g σ H F ι env S ∧ rdAt K mg g E σ H F ι env (fun ds H' F' ι' _ => ∀ vs, Reps K mg F' ι' H' ds vs → Q vs H') (f env S)
/-- a new list that no one else holds -/
def tO (f : Ex (List D)) : TE := fun σ H Q => ∃ F ι env S, RS K mg g σ H F ι env S ∧
  rdAt K mg g E σ H F ι env (fun ds H' F' ι' _ => ∀ a vs, H' a = some (.lst vs) → Reps K mg F' ι' H' ds vs → ¬ F' a → a ∉ ι' → H a = none → Q (.ref a) H') (f env S)
def flAt (H : Hp) (F : Fz) (ι : List Addr) (D : Ends) : Fl → Prop
  | .nx env' S' => ∀ σ' H' F' ι', RS K mg g σ' H' F' ι' env' S' → Grow H F ι H' F' ι' → D.nx σ' H'
  | .bk env' S' => ∀ σ' H' F' ι', RS K mg g σ' H' F' ι' env' S' → Grow H F ι H' F' ι' → D.bk σ' H'
  | .ct env' S' => ∀ σ' H' F' ι', RS K mg g σ' H' F' ι' env' S' → Grow H F ι H' F' ι' → D.ct σ' H'
  | .rt d S' => ∀ v H' F' ι', Ext g.H0 g.F0 g.ι0 H' F' ι' → Wd K mg F' ι' H' S' → Rep K mg F' ι' H' d v → D.rt v H'
  | .ex c ns ds env' S' => ∀ σ', ExTo K mg g E (Grow H F ι) c ns ds σ' env' S'
  | .bad => False
def tS (m : Sm) : TS := fun D σ H => ∃ F ι env S, RS K mg g σ H F ι env S ∧ flAt K mg g E H F ι D (m env S)
end

/-- an expression whose mirror is f -/
def VE (X : Cx) (E : EE) (e : Expr) (f : Ex D) : Prop := ∀ g, PE X e (tV X.K X.mg g E f)
def VT (X : Cx) (E : EE) (e : Expr) (f : Ex Bool) : Prop := ∀ g, PT X e (tT X.K X.mg g E f)
def VA (X : Cx) (E : EE) (es : List Expr) (f : Ex (List D)) : Prop := ∀ g, PA X es (tAr X.K X.mg g E f)
def VO (X : Cx) (E : EE) (e : Expr) (f : Ex (List D)) : Prop := ∀ g, PE X e (tO X.K X.mg g E f)
def VS (X : Cx) (E : EE) (st : Stmt) (m : Sm) : Prop := ∀ g, PS X st (tS X.K X.mg g E m)
def VB (X : Cx) (E : EE) (sts : List Stmt) (m : Sm) : Prop := ∀ g, PSs X sts (tS X.K X.mg g E m)

theorem _root_.L2.PE.imp {X : Cx} {e : Expr} {t t' : TE} (p : PE X e t) (h : ∀ σ H Q, t' σ H Q → t σ H Q) : PE X e t' := ⟨fun pins s σ H Q I q => p.run pins s σ H Q I (h σ H Q q)⟩
theorem _root_.L2.PT.imp {X : Cx} {e : Expr} {t t' : TT} (p : PT X e t) (h : ∀ σ H Q, t' σ H Q → t σ H Q) : PT X e t' := ⟨fun pins s σ H Q I q => p.run pins s σ H Q I (h σ H Q q)⟩
theorem _root_.L2.PA.imp {X : Cx} {e : List Expr} {t t' : TA} (p : PA X e t) (h : ∀ σ H Q, t' σ H Q → t σ H Q) : PA X e t' := ⟨fun pos pins s σ H Q I q => p.run pos pins s σ H Q I (h σ H Q q)⟩
theorem _root_.L2.PS.imp {X : Cx} {e : Stmt} {t t' : TS} (p : PS X e t) (h : ∀ D σ H, t' D σ H → t D σ H) : PS X e t' := ⟨fun pins s σ H D I q => p.run pins s σ H D I (h D σ H q)⟩
theorem _root_.L2.PSs.imp {X : Cx} {e : List Stmt} {t t' : TS} (p : PSs X e t) (h : ∀ D σ H, t' D σ H → t D σ H) : PSs X e t' := ⟨fun pins s σ H D I q => p.run pins s σ H D I (h D σ H q)⟩

section
variable {K : PySem.W.Frag} {mg : Str → Option Value} {g : Snap} {E : EE} {σ : St} {H H' : Hp} {F F' : Fz} {ι ι' : List Addr} {env : List Sl} {S S' : List Cell}
/-- one reading ahead of another one -/
theorem rd_then {α β : Type} {r : Rs α} {h : α → List Cell → Rs β} {k : β → Hp → Fz → List Addr → List Cell → Prop}
    (q : rdAt K mg g E σ H F ι env k (r.andThen h)) :
    rdAt K mg g E σ H F ι env (fun a H1 F1 ι1 S1 => Ext H F ι H1 F1 ι1 ∧ RS K mg g σ H1 F1 ι1 env S1 ∧
      rdAt K mg g E σ H1 F1 ι1 env (fun b H2 F2 ι2 S2 => Ext H1 F1 ι1 H2 F2 ι2 ∧ RS K mg g σ H2 F2 ι2 env S2 ∧ k b H2 F2 ι2 S2) (h a S1)) r := by
  cases r with
  | bad => exact q
  | ex c ns ds S1 => exact q
  | ok a S1 =>
    intro H1 F1 ι1 e1 r1
    refine ⟨e1, r1, ?_⟩
    show rdAt K mg g E σ H1 F1 ι1 env _ (h a S1)
    have q : rdAt K mg g E σ H F ι env k (h a S1) := q
    revert q
    cases h a S1 with
    | bad => exact id
    | ex c ns ds S2 => exact fun q C d H' F' ι' hc w' r' hd => q C d H' F' ι' hc w' (e1.trans r') hd
    | ok b S2 => exact fun q H2 F2 ι2 e2 r2 => ⟨e2, r2, q H2 F2 ι2 (e1.trans e2) r2⟩
theorem rd_mono {α : Type} {r : Rs α} {k k' : α → Hp → Fz → List Addr → List Cell → Prop} (q : rdAt K mg g E σ H F ι env k r)
    (h : ∀ a H1 F1 ι1 S1, r = .ok a S1 → Ext H F ι H1 F1 ι1 → RS K mg g σ H1 F1 ι1 env S1 → k a H1 F1 ι1 S1 → k' a H1 F1 ι1 S1) : rdAt K mg g E σ H F ι env k' r := by
  cases r with
  | bad => exact q
  | ex c ns ds S1 => exact q
  | ok a S1 => exact fun H1 F1 ι1 e1 r1 => h a H1 F1 ι1 S1 rfl e1 r1 (q H1 F1 ι1 e1 r1)
/-- a reading ahead of a statement's end -/
theorem fl_grow {D : Ends} (w : Grow H F ι H' F' ι') : ∀ {fl : Fl}, flAt K mg g E H F ι D fl → flAt K mg g E H' F' ι' D fl
  | .nx _ _, q => fun σ2 H2 F2 ι2 r e => q σ2 H2 F2 ι2 r (w.trans e)
  | .bk _ _, q => fun σ2 H2 F2 ι2 r e => q σ2 H2 F2 ι2 r (w.trans e)
  | .ct _ _, q => fun σ2 H2 F2 ι2 r e => q σ2 H2 F2 ι2 r (w.trans e)
  | .rt _ _, q => q
  | .ex _ _ _ _ _, q => fun σ' C d H' F' ι' hc w' r' hd => q σ' C d H' F' ι' hc w' (w.trans r') hd
  | .bad, q => q
theorem rd_go {α : Type} {r : Rs α} {h : α → List Cell → Fl} {D : Ends} (w : Wd K mg F ι H S) (q : flAt K mg g E H F ι D (r.go env h)) :
    rdAt K mg g E σ H F ι env (fun a H1 F1 ι1 S1 => Ext H F ι H1 F1 ι1 ∧ RS K mg g σ H1 F1 ι1 env S1 ∧ flAt K mg g E H1 F1 ι1 D (h a S1)) r := by
  cases r with
  | bad => exact q
  | ex c ns ds S1 => exact fun C d H' F' ι' hc w' r' hd => q σ C d H' F' ι' hc w' (w.grow r') hd
  | ok a S1 => exact fun H1 F1 ι1 e1 r1 => ⟨e1, r1, fl_grow (w.grow e1) q⟩
/-- the end of an operation that leaves a value, the store as it was -/
def Told (K : PySem.W.Frag) (mg : Str → Option Value) (H : Hp) (F : Fz) (ι : List Addr) (S : List Cell) (d : D) (Q : VK) : Prop :=
  ∀ v H' F' ι', Ext H F ι H' F' ι' → Wd K mg F' ι' H' S → Rep K mg F' ι' H' d v → Q v H'
/-- .. that leaves a new list of one's own -/
def ToldO (K : PySem.W.Frag) (mg : Str → Option Value) (H : Hp) (F : Fz) (ι : List Addr) (S : List Cell) (ds : List D) (Q : VK) : Prop :=
  ∀ a vs H', Ext H F ι H' F ι → Wd K mg F ι H' S → H' a = some (.lst vs) → Reps K mg F ι H' ds vs → ¬ F a → a ∉ ι → H a = none → Q (.ref a) H'
theorem Told.here {d : D} {v : V} {Q : VK} (t : Told K mg H F ι S d Q) (w : Wd K mg F ι H S) (r : Rep K mg F ι H d v) : Q v H := t v H F ι Ext.refl w r
theorem fz_of_new {a : Addr} {H : Hp} {F : Fz} {ι : List Addr} (e : Ext H F ι H' F' ι') (h : ¬ F' a) : ¬ F a := fun z => h (e.sub a z)
theorem Told.own {ds : List D} {Q : VK} (t : Told K mg H F ι S (.lst ds) Q) : ToldO K mg H F ι S ds Q := by
  intro a vs H' e w h r nf nc n
  refine t (.ref a) H' (fun b => F b ∨ b = a) ι ⟨fun b hb => .inl hb, fun b hb => ?_, e.keep, e.mono, List.prefix_refl _, fun b hb => .inl hb⟩ (w.freeze (by rw [h]; simp) nc) ?_
  · rcases hb with hb | rfl
    · exact .inl hb
    · exact .inr n
  · exact ⟨a, vs, rfl, ⟨.inr rfl, h⟩, reps_mono (fun _ h => .inl h) (fun _ _ _ h => h) (List.prefix_refl _) ds vs r⟩
/-- a new list -/
theorem ToldO.lay {ds : List D} {vs : List V} {Q : VK} {p : Addr} (t : ToldO K mg H F ι S ds Q) (w : Wd K mg F ι H S) (r : Reps K mg F ι H ds vs) (n : H p = none) : Q (.ref p) (upd H p (.lst vs)) := by
  obtain ⟨e, w'⟩ := w.layO (o := .lst vs) n
  exact t p vs _ e w' upd_same (w.reps e r) (fun z => w.fin p z n) (fun z => w.cell_ne z n) n
/-- a new tuple -/
theorem Told.layT {ds : List D} {vs : List V} {Q : VK} {p : Addr} (t : Told K mg H F ι S (.tup ds) Q) (w : Wd K mg F ι H S) (r : Reps K mg F ι H ds vs) (n : H p = none) : Q (.ref p) (upd H p (.tup vs)) := by
  obtain ⟨e, w'⟩ := w.lay (o := .tup vs) n
  exact t (.ref p) _ _ _ e w' ⟨p, vs, rfl, .inl ⟨.inr rfl, .inl upd_same⟩, w.reps e r⟩
end

section
variable {X : Cx} {E : EE} {a b c e o : Expr} {es : List Expr} {f h k : Ex D} {p q : Ex Bool} {fa : Ex (List D)} {pos : Pos}
/-! ### names and constants -/
def mVar (i : Nat) : Ex D := fun env S => match env[i]? with
  | some (.val d) => .ok d S
  | _ => .bad
theorem v_of_pe {i : Nat} (h : PE X e (tVar i)) : VE X E e (mVar i) := fun g => h.imp fun σ H Q ⟨F, ι, env, S, r, q⟩ => by
  unfold mVar at q
  split at q
  · rename_i d hd
    obtain ⟨v, h1, h2⟩ := r.slot i d hd
    exact ⟨v, h1, q H F ι Ext.refl r v h2⟩
  · exact q.elim
theorem v_var (i : Nat) {x : Str} {pos : Pos} (hN : X.N[i]? = some x := by rfl) (hv : Vis X.env.scope x := by first | exact Or.inl rfl | exact Or.inr (Or.inl rfl) | exact Or.inr (Or.inr rfl))
    (hd : (x == ("__debug__" : Str)) = false := by decide) (hcd : (x == ("__classdict__" : Str)) = false := by decide) : VE X E (.Name x pos) (mVar i) := v_of_pe (pe_var hN hv hd hcd)
def mC (d : D) : Ex D := fun _ S => .ok d S
theorem v_const {d : D} {v : V} (h : PE X e (tC v)) (r : ∀ F ι H, Rep X.K X.mg F ι H d v) : VE X E e (mC d) := fun g => h.imp fun σ H Q ⟨F, ι, env, S, w, q⟩ => q H F ι Ext.refl w v (r F ι H)
theorem v_int {i j pos} : VE X E (.Constant (.int i) j pos) (mC (.int i)) := v_const pe_int fun _ _ _ => rfl
theorem v_bl {i j pos} : VE X E (.Constant (.bool i) j pos) (mC (.bl i)) := v_const pe_bl fun _ _ _ => rfl
theorem v_non {j pos} : VE X E (.Constant .none j pos) (mC .non) := v_const pe_non fun _ _ _ => rfl
theorem v_str {x j pos} : VE X E (.Constant (.str x) j pos) (mC (.str x)) := v_const pe_str fun _ _ _ => rfl
/-- a module's constant -/
theorem v_glob {x : Str} {d : D} {v : V} {u : Value} (hg : Gl X x) (hm : X.mg x = some u) (r : RelV v u) (hr : ∀ F ι H, Rep X.K X.mg F ι H d v) (hd : (x == ("__debug__" : Str)) = false := by decide) :
    VE X E (.Name x pos) (mC d) := v_const (pe_glob hg hm r hd) hr

/-! ### operators on values -/
abbrev Op1 := D → List Cell → Option D
abbrev Op2 := D → D → List Cell → Option D
abbrev OpN := List D → List Cell → Option D
def ofO (o : Option D) (S : List Cell) : Rs D := match o with
  | some d => .ok d S
  | none => .bad
@[simp] theorem ofO_some (d : D) (S : List Cell) : ofO (some d) S = .ok d S := rfl
@[simp] theorem ofO_none (S : List Cell) : ofO none S = .bad := rfl
def Ok2 (K : PySem.W.Frag) (mg : Str → Option Value) (r : R2) (op : Op2) : Prop :=
  ∀ H F ι S x y d v u Q, Wd K mg F ι H S → Rep K mg F ι H x v → Rep K mg F ι H y u → op x y S = some d → Told K mg H F ι S d Q → r v u H Q
def Ok1 (K : PySem.W.Frag) (mg : Str → Option Value) (r : V → Hp → VK → Prop) (op : Op1) : Prop :=
  ∀ H F ι S x d v Q, Wd K mg F ι H S → Rep K mg F ι H x v → op x S = some d → Told K mg H F ι S d Q → r v H Q
def OkN (K : PySem.W.Frag) (mg : Str → Option Value) (r : List V → Hp → VK → Prop) (op : OpN) : Prop :=
  ∀ H F ι S xs d vs Q, Wd K mg F ι H S → Reps K mg F ι H xs vs → op xs S = some d → Told K mg H F ι S d Q → r vs H Q
def mOp (op : Op2) (f h : Ex D) : Ex D := fun env S => (f env S).andThen fun x S1 => (h env S1).andThen fun y S2 => ofO (op x y S2) S2
def mUn (op : Op1) (f : Ex D) : Ex D := fun env S => (f env S).andThen fun x S1 => ofO (op x S1) S1
theorem told_of {g : Snap} {σ : St} {H : Hp} {F : Fz} {ι : List Addr} {env : List Sl} {S : List Cell} {d : D} {Q : VK} (r : RS X.K X.mg g σ H F ι env S)
    (q : rdAt X.K X.mg g E σ H F ι env (fun d H' F' ι' _ => ∀ v, Rep X.K X.mg F' ι' H' d v → Q v H') (.ok d S)) : Told X.K X.mg H F ι S d Q :=
  fun v H' F' ι' e w hv => q H' F' ι' e (r.step e w) v hv
theorem op2_imp {g : Snap} {r : R2} {op : Op2} (ok : Ok2 X.K X.mg r op) : ∀ σ H Q, tV X.K X.mg g E (mOp op f h) σ H Q → tOp r (tV X.K X.mg g E f) (tV X.K X.mg g E h) σ H Q := by
  rintro σ H Q ⟨F, ι, env, S, w, q⟩
  refine ⟨F, ι, env, S, w, rd_mono (rd_then q) ?_⟩
  rintro x H1 F1 ι1 S1 - e1 w1 ⟨_, _, q1⟩ v hv
  refine ⟨F1, ι1, env, S1, w1, rd_mono (rd_then q1) ?_⟩
  rintro y H2 F2 ι2 S2 - e2 w2 ⟨_, _, q2⟩ u hu
  cases ho : op x y S2 with
  | none => rw [ho] at q2; exact q2.elim
  | some d =>
    rw [ho] at q2
    refine ok H2 F2 ι2 S2 x y d v u Q w2.wd (w1.wd.rep e2 hv) hu ho fun v' H' F' ι' e' w' hv' => ?_
    exact (q2 H' F' ι' e' (w2.step e' w')).2.2.2.2 v' hv'
theorem v_op {o : Operator} {r : R2} {op : Op2} (ho : OpR X (binaryOp o) r) (ok : Ok2 X.K X.mg r op) (ha : VE X E a f) (hb : VE X E b h) : VE X E (.BinOp a o b pos) (mOp op f h) :=
  fun g => (pe_op ho (ha g) (hb g)).imp (op2_imp ok)
theorem v_cmp {o : CmpOp} {r : R2} {op : Op2} (ho : OpR X (compareOp o) r) (ok : Ok2 X.K X.mg r op) (ha : VE X E a f) (hb : VE X E b h) (hm : behindInMarks o b = false) :
    VE X E (.Compare a [o] [b] pos) (mOp op f h) := fun g => (pe_cmpR ho (ha g) (hb g) hm).imp (op2_imp ok)
theorem v_un {o : UnaryOp} {r : V → Hp → VK → Prop} {op : Op1} (ho : UnR X (unaryOp o) r) (ok : Ok1 X.K X.mg r op) (ha : VE X E a f) : VE X E (.UnaryOp o a pos) (mUn op f) := fun g =>
  (pe_un ho (ha g)).imp fun σ H Q ⟨F, ι, env, S, w, q⟩ => ⟨F, ι, env, S, w, rd_mono (rd_then q) fun x H1 F1 ι1 S1 _ e1 w1 ⟨_, _, q1⟩ v hv => by
    cases ho : op x S1 with
    | none => rw [ho] at q1; exact q1.elim
    | some d =>
      rw [ho] at q1
      exact ok H1 F1 ι1 S1 x d v Q w1.wd hv ho fun v' H' F' ι' e' w' hv' => (q1 H' F' ι' e' (w1.step e' w')).2.2 v' hv'⟩
/-- a subscript -/
theorem v_ix {r : R2} {op : Op2} (hi : IxR X r) (ok : Ok2 X.K X.mg r op) (ha : VE X E a f) (hb : VE X E b h) (hs : PlainIxT b) : VE X E (.Subscript a b pos) (mOp op f h) :=
  fun g => (pe_ix hi (ha g) (hb g) hs).imp (op2_imp ok)

/-! ### arguments, displays, calls of built-ins -/
def mNil : Ex (List D) := fun _ S => .ok [] S
def mCons (f : Ex D) (r : Ex (List D)) : Ex (List D) := fun env S => (f env S).andThen fun x S1 => (r env S1).andThen fun xs S2 => .ok (x :: xs) S2
theorem a_nil : VA X E [] mNil := fun g => pa_nil.imp fun σ H Q ⟨F, ι, env, S, w, q⟩ => q H F ι Ext.refl w [] rfl
theorem a_cons (he : VE X E e f) (hr : VA X E es fa) (hs : starEach (e :: es) X.env = (false, eval e X.env) :: starEach es X.env := by rfl) : VA X E (e :: es) (mCons f fa) := fun g =>
  (pa_cons (he g) (hr g) hs).imp fun σ H Q ⟨F, ι, env, S, w, q⟩ => ⟨F, ι, env, S, w, rd_mono (rd_then q) fun x H1 F1 ι1 S1 _ e1 w1 ⟨_, _, q1⟩ v hv =>
    ⟨F1, ι1, env, S1, w1, rd_mono (rd_then q1) fun xs H2 F2 ι2 S2 _ e2 w2 ⟨_, _, q2⟩ vs hvs => (q2 H2 F2 ι2 Ext.refl w2).2.2.2.2 (v :: vs) ⟨v, vs, rfl, w1.wd.rep e2 hv, hvs⟩⟩⟩
def mTup (f : Ex (List D)) : Ex D := fun env S => (f env S).andThen fun xs S1 => if xs.length ≤ 100000 then .ok (.tup xs) S1 else .bad
theorem v_tup {x1} (ha : VA X E es fa) : VE X E (.Tuple es x1 pos) (mTup fa) := fun g => (pe_tup (ha g)).imp fun σ H Q ⟨F, ι, env, S, w, q⟩ =>
  ⟨F, ι, env, S, w, rd_mono (rd_then q) fun xs H1 F1 ι1 S1 _ e1 w1 ⟨_, _, q1⟩ vs hvs => by
    by_cases hl : xs.length ≤ 100000
    · rw [if_pos hl] at q1
      refine ⟨Nat.le_trans (by rw [hvs.len]; exact hl) (by decide), fun p hp => ?_⟩
      exact Told.layT (fun v' H' F' ι' e' w' hv' => (q1 H' F' ι' e' (w1.step e' w')).2.2 v' hv') w1.wd hvs hp
    · rw [if_neg hl] at q1
      exact q1.elim⟩
def mLst (f : Ex (List D)) : Ex (List D) := fun env S => (f env S).andThen fun xs S1 => if xs.length ≤ 100000 then .ok xs S1 else .bad
theorem o_lst (ha : VA X E es fa) : VO X E (.List es pos) (mLst fa) := fun g => (pe_lst (ha g)).imp fun σ H Q ⟨F, ι, env, S, w, q⟩ =>
  ⟨F, ι, env, S, w, rd_mono (rd_then q) fun xs H1 F1 ι1 S1 _ e1 w1 ⟨_, _, q1⟩ vs hvs => by
    by_cases hl : xs.length ≤ 100000
    · rw [if_pos hl] at q1
      refine ⟨Nat.le_trans (by rw [hvs.len]; exact hl) (by decide), fun p hp => ?_⟩
      obtain ⟨e', w'⟩ := w1.wd.layO (o := .lst vs) hp
      exact (q1 _ _ _ e' (w1.step e' w')).2.2 p vs upd_same (w1.wd.reps e' hvs) (fun z => w1.wd.fin p z hp) (fun z => w1.wd.cell_ne z hp) (e1.mono p hp)
    · rw [if_neg hl] at q1
      exact q1.elim⟩
/-- a new list as a value -/
def mFr (f : Ex (List D)) : Ex D := fun env S => (f env S).andThen fun xs S1 => .ok (.lst xs) S1
theorem v_fr (h : VO X E e fa) : VE X E e (mFr fa) := fun g => (h g).imp fun σ H Q ⟨F, ι, env, S, w, q⟩ => ⟨F, ι, env, S, w, by
  unfold mFr at q
  cases hf : fa env S with
  | bad => rw [hf] at q; exact q
  | ex c ns ds S1 => rw [hf] at q; exact q
  | ok xs S1 =>
    rw [hf] at q
    intro H1 F1 ι1 e1 w1 a vs h1 r nf nc n
    have w2 := w1.wd.freeze (a := a) (by rw [h1]; simp) nc
    have e2 : Ext H F ι H1 (fun b => F1 b ∨ b = a) ι1 := ⟨fun b hb => .inl (e1.sub b hb), fun b hb => by
      rcases hb with hb | rfl
      · exact e1.new b hb
      · exact .inr n, e1.keep, e1.mono, e1.pre, e1.cnew⟩
    exact q H1 (fun b => F1 b ∨ b = a) ι1 e2 (w.step e2 w2) (.ref a) ⟨a, vs, rfl, ⟨.inr rfl, h1⟩, reps_mono (fun _ h => .inl h) (fun _ _ _ h => h) (List.prefix_refl _) xs vs r⟩⟩
end
end DL

/-! DLd: tests, calls, statements, loops, comprehensions, a def's promise by its mirror. -/
namespace DL
open PySem PySem.Spec L2
open PyProof.Rows hiding St

section
variable {X : Cx} {E : EE} {a b c e o : Expr} {es rest : List Expr} {f h k : Ex D} {p q : Ex Bool} {fa : Ex (List D)} {pos : Pos}
/-! ### tests -/
def asB : D → List Cell → Rs Bool
  | .bl b, S => .ok b S
  | _, _ => .bad
@[simp] theorem asB_bl (b : Bool) (S : List Cell) : asB (.bl b) S = .ok b S := rfl
def mB (f : Ex D) : Ex Bool := fun env S => (f env S).andThen asB
theorem tB_imp {g : Snap} : ∀ σ H Q, tT X.K X.mg g E (mB f) σ H Q → tV X.K X.mg g E f σ H fun x H1 => ∃ c, x = .bl c ∧ Q c H1 := by
  rintro σ H Q ⟨F, ι, env, S, w, q⟩
  refine ⟨F, ι, env, S, w, rd_mono (rd_then q) ?_⟩
  rintro d H1 F1 ι1 S1 - e1 w1 ⟨_, _, q1⟩ v hv
  cases d with
  | bl b => exact ⟨b, hv, (q1 H1 F1 ι1 Ext.refl w1).2.2⟩
  | _ => exact q1.elim
theorem t_val (he : VE X E e f) (h1 : ∀ whole, isTrue e X.env whole = (do let v ← whole; standAt e.pos; holding [v] (truthy v)) := by intro _; rfl) : VT X E e (mB f) :=
  fun g => (pt_val (he g) h1).imp tB_imp
theorem t_cmp {o : CmpOp} {r : R2} {op : Op2} (ho : OpR X (compareOp o) r) (ok : Ok2 X.K X.mg r op) (ha : VE X E a f) (hb : VE X E b h) (hm : behindInMarks o b = false) :
    VT X E (.Compare a [o] [b] pos) (mB (mOp op f h)) := fun g => (pt_cmpR ho (ha g) (hb g) hm).imp fun σ H Q q => op2_imp ok σ H _ (tV_imp_of q) where
  tV_imp_of {g : Snap} {σ : St} {H : Hp} {Q : Bool → Hp → Prop} {f : Ex D} (q : tT X.K X.mg g E (mB f) σ H Q) : tV X.K X.mg g E f σ H fun x H1 => ∃ c, x = .bl c ∧ Q c H1 := tB_imp σ H Q q
def mNot (p : Ex Bool) : Ex Bool := fun env S => (p env S).andThen fun b S1 => .ok (!b) S1
theorem t_not (hp : VT X E a p) : VT X E (.UnaryOp .Not a pos) (mNot p) := fun g => (pt_not (hp g)).imp fun σ H Q ⟨F, ι, env, S, w, q⟩ =>
  ⟨F, ι, env, S, w, rd_mono (rd_then q) fun b H1 F1 ι1 S1 _ e1 w1 ⟨_, _, q1⟩ => (q1 H1 F1 ι1 Ext.refl w1).2.2⟩
def VW (X : Cx) (E : EE) (e : Expr) (p : Ex Bool) : Prop := ∀ g, PW X e (tT X.K X.mg g E p)
theorem _root_.L2.PW.imp {X : Cx} {e : Expr} {t t' : TT} (p : PW X e t) (h : ∀ σ H Q, t' σ H Q → t σ H Q) : PW X e t' := ⟨fun whole pins s σ H Q I q => p.run whole pins s σ H Q I (h σ H Q q)⟩
def mAnd (p q : Ex Bool) : Ex Bool := fun env S => (p env S).andThen fun b S1 => if b = true then q env S1 else .ok false S1
def mOr (p q : Ex Bool) : Ex Bool := fun env S => (p env S).andThen fun b S1 => if b = true then .ok true S1 else q env S1
theorem w_and1 (hp : VT X E a p) : VW X E (.BoolOp .And [a] pos) p := fun g => pw_and1 (hp g)
theorem w_or1 (hp : VT X E a p) : VW X E (.BoolOp .Or [a] pos) p := fun g => pw_or1 (hp g)
theorem w_and (hp : VT X E a p) (hq : VW X E (.BoolOp .And (b :: rest) pos) q) : VW X E (.BoolOp .And (a :: b :: rest) pos) (mAnd p q) := fun g => (pw_and (hp g) (hq g)).imp fun σ H Q ⟨F, ι, env, S, w, q⟩ =>
  ⟨F, ι, env, S, w, rd_mono (rd_then q) fun b H1 F1 ι1 S1 _ e1 w1 ⟨_, _, q1⟩ => by
    cases b with
    | true => exact ⟨F1, ι1, env, S1, w1, rd_mono q1 fun _ _ _ _ _ _ _ _ z => z.2.2⟩
    | false => exact (q1 H1 F1 ι1 Ext.refl w1).2.2⟩
theorem w_or (hp : VT X E a p) (hq : VW X E (.BoolOp .Or (b :: rest) pos) q) : VW X E (.BoolOp .Or (a :: b :: rest) pos) (mOr p q) := fun g => (pw_or (hp g) (hq g)).imp fun σ H Q ⟨F, ι, env, S, w, q⟩ =>
  ⟨F, ι, env, S, w, rd_mono (rd_then q) fun b H1 F1 ι1 S1 _ e1 w1 ⟨_, _, q1⟩ => by
    cases b with
    | false => exact ⟨F1, ι1, env, S1, w1, rd_mono q1 fun _ _ _ _ _ _ _ _ z => z.2.2⟩
    | true => exact (q1 H1 F1 ι1 Ext.refl w1).2.2⟩
theorem t_w (hp : VW X E e p) : VT X E e p := fun g => (hp g).pt
/-! the same as values -/
def mBD (p : Ex Bool) : Ex D := fun env S => (p env S).andThen fun b S1 => .ok (.bl b) S1
def mAndV (f h : Ex D) : Ex D := fun env S => (mB f env S).andThen fun b S1 => if b = true then h env S1 else .ok (.bl false) S1
def mOrV (f h : Ex D) : Ex D := fun env S => (mB f env S).andThen fun b S1 => if b = true then .ok (.bl true) S1 else h env S1
def mNotV (f : Ex D) : Ex D := fun env S => (mB f env S).andThen fun b S1 => .ok (.bl (!b)) S1
theorem rd_B {g : Snap} {σ : St} {H : Hp} {F : Fz} {ι : List Addr} {env : List Sl} {k : Bool → Hp → Fz → List Addr → List Cell → Prop} {r : Rs D}
    (q : rdAt X.K X.mg g E σ H F ι env k (r.andThen asB)) : rdAt X.K X.mg g E σ H F ι env (fun d H1 F1 ι1 S1 => ∃ b, d = .bl b ∧ k b H1 F1 ι1 S1) r := by
  refine rd_mono (rd_then q) ?_
  rintro d H1 F1 ι1 S1 - e1 w1 ⟨_, _, q1⟩
  cases d with
  | bl b => exact ⟨b, rfl, (q1 H1 F1 ι1 Ext.refl w1).2.2⟩
  | _ => exact q1.elim
theorem v_one (ha : VE X E a f) (hp : ∀ t, PE X a t → PE X e t) : VE X E e f := fun g => hp _ (ha g)
theorem v_and (ha : VE X E a f) (hb : VE X E (.BoolOp .And (b :: rest) pos) h) : VE X E (.BoolOp .And (a :: b :: rest) pos) (mAndV f h) := fun g => (pe_and (ha g) (hb g)).imp fun σ H Q ⟨F, ι, env, S, w, q⟩ =>
  ⟨F, ι, env, S, w, rd_mono (rd_B (rd_then q)) fun d H1 F1 ι1 S1 _ e1 w1 ⟨b, hd, _, _, q1⟩ v hv => by
    subst hd
    refine ⟨b, hv, ?_⟩
    cases b with
    | true => exact ⟨F1, ι1, env, S1, w1, rd_mono q1 fun _ _ _ _ _ _ _ _ z => z.2.2⟩
    | false => exact (q1 H1 F1 ι1 Ext.refl w1).2.2 _ rfl⟩
theorem v_or (ha : VE X E a f) (hb : VE X E (.BoolOp .Or (b :: rest) pos) h) : VE X E (.BoolOp .Or (a :: b :: rest) pos) (mOrV f h) := fun g => (pe_or (ha g) (hb g)).imp fun σ H Q ⟨F, ι, env, S, w, q⟩ =>
  ⟨F, ι, env, S, w, rd_mono (rd_B (rd_then q)) fun d H1 F1 ι1 S1 _ e1 w1 ⟨b, hd, _, _, q1⟩ v hv => by
    subst hd
    refine ⟨b, hv, ?_⟩
    cases b with
    | false => exact ⟨F1, ι1, env, S1, w1, rd_mono q1 fun _ _ _ _ _ _ _ _ z => z.2.2⟩
    | true => exact (q1 H1 F1 ι1 Ext.refl w1).2.2 _ rfl⟩
theorem v_and1 (ha : VE X E a f) : VE X E (.BoolOp .And [a] pos) f := fun g => pe_one (ha g)
theorem v_or1 (ha : VE X E a f) : VE X E (.BoolOp .Or [a] pos) f := fun g => pe_one (ha g)
theorem v_not (ha : VE X E a f) : VE X E (.UnaryOp .Not a pos) (mNotV f) := fun g => (pe_not (ha g)).imp fun σ H Q ⟨F, ι, env, S, w, q⟩ =>
  ⟨F, ι, env, S, w, rd_mono (rd_B (rd_then q)) fun d H1 F1 ι1 S1 _ e1 w1 ⟨b, hd, _, _, q1⟩ v hv => by
    subst hd
    exact ⟨b, hv, (q1 H1 F1 ι1 Ext.refl w1).2.2 _ rfl⟩⟩
def mIf (p : Ex Bool) (f h : Ex D) : Ex D := fun env S => (p env S).andThen fun b S1 => if b = true then f env S1 else h env S1
theorem v_if (hp : VT X E c p) (ha : VE X E a f) (hb : VE X E b h) : VE X E (.IfExp c a b pos) (mIf p f h) := fun g => (pe_ifExp (hp g) (ha g) (hb g)).imp fun σ H Q ⟨F, ι, env, S, w, q⟩ =>
  ⟨F, ι, env, S, w, rd_mono (rd_then q) fun b H1 F1 ι1 S1 _ e1 w1 ⟨_, _, q1⟩ => by
    cases b with
    | true => exact ⟨F1, ι1, env, S1, w1, rd_mono q1 fun _ _ _ _ _ _ _ _ z => z.2.2⟩
    | false => exact ⟨F1, ι1, env, S1, w1, rd_mono q1 fun _ _ _ _ _ _ _ _ z => z.2.2⟩⟩
/-- a op b op' c -/
def mChain (op op' : Op2) (f h k : Ex D) : Ex D := fun env S => (f env S).andThen fun x S1 => (h env S1).andThen fun y S2 => ((ofO (op x y S2) S2).andThen asB).andThen fun b S3 =>
  if b = true then (k env S3).andThen fun z S4 => ofO (op' y z S4) S4 else .ok (.bl false) S3
theorem chain_imp {g : Snap} {r r' : R2} {op op' : Op2} (ok : Ok2 X.K X.mg r op) (ok' : Ok2 X.K X.mg r' op') :
    ∀ σ H Q, tV X.K X.mg g E (mChain op op' f h k) σ H Q → tChain r r' (tV X.K X.mg g E f) (tV X.K X.mg g E h) (tV X.K X.mg g E k) σ H Q := by
  rintro σ H Q ⟨F, ι, env, S, w, q⟩
  refine ⟨F, ι, env, S, w, rd_mono (rd_then q) ?_⟩
  rintro x H1 F1 ι1 S1 - e1 w1 ⟨_, _, q1⟩ v hv
  refine ⟨F1, ι1, env, S1, w1, rd_mono (rd_then q1) ?_⟩
  rintro y H2 F2 ι2 S2 - e2 w2 ⟨_, _, q2⟩ u hu
  cases ho : op x y S2 with
  | none => rw [ho] at q2; exact q2.elim
  | some d =>
    rw [ho] at q2
    refine ok H2 F2 ι2 S2 x y d v u _ w2.wd (w1.wd.rep e2 hv) hu ho fun v' H3 F3 ι3 e3 w3 hv' => ?_
    have w3' := w2.step e3 w3
    have q3 := rd_B (rd_then q2) H3 F3 ι3 e3 w3'
    obtain ⟨b, rfl, _, _, q3⟩ := q3
    refine ⟨b, hv', ?_⟩
    cases b with
    | false => exact (q3 H3 F3 ι3 Ext.refl w3').2.2.2.2.2.2 _ rfl
    | true =>
      have q3 : rdAt X.K X.mg g E σ H3 F3 ι3 env _ ((k env S2).andThen fun z S4 => ofO (op' y z S4) S4) := q3
      refine ⟨F3, ι3, env, S2, w3', rd_mono (rd_then q3) ?_⟩
      rintro z H4 F4 ι4 S4 - e4 w4 ⟨_, _, q4⟩ t ht
      cases ho' : op' y z S4 with
      | none => rw [ho'] at q4; exact q4.elim
      | some d' =>
        rw [ho'] at q4
        refine ok' H4 F4 ι4 S4 y z d' u t Q w4.wd (w3'.wd.rep e4 (w2.wd.rep e3 hu)) ht ho' fun v'' H5 F5 ι5 e5 w5 hv'' => ?_
        exact (q4 H5 F5 ι5 e5 (w4.step e5 w5)).2.2.2.2.2.2.2.2 v'' hv''
theorem v_chain {o1 o2 : CmpOp} {r r' : R2} {op op' : Op2} (h1 : OpR X (compareOp o1) r) (ok : Ok2 X.K X.mg r op) (h2 : OpR X (compareOp o2) r') (ok' : Ok2 X.K X.mg r' op')
    (ha : VE X E a f) (hb : VE X E b h) (hc : VE X E c k) (hm : lastMarks [o1, o2] [b, c] = false := by with_unfolding_all rfl) : VE X E (.Compare a [o1, o2] [b, c] pos) (mChain op op' f h k) :=
  fun g => (pe_chain h1 h2 (ha g) (hb g) (hc g) hm).imp (chain_imp ok ok')
theorem t_chain {o1 o2 : CmpOp} {r r' : R2} {op op' : Op2} (h1 : OpR X (compareOp o1) r) (ok : Ok2 X.K X.mg r op) (h2 : OpR X (compareOp o2) r') (ok' : Ok2 X.K X.mg r' op')
    (ha : VE X E a f) (hb : VE X E b h) (hc : VE X E c k) (hm : lastMarks [o1, o2] [b, c] = false := by with_unfolding_all rfl) : VT X E (.Compare a [o1, o2] [b, c] pos) (mB (mChain op op' f h k)) :=
  fun g => (pt_chain h1 h2 (ha g) (hb g) (hc g) hm).imp fun σ H Q q => chain_imp ok ok' σ H _ (tB_imp σ H Q q)

/-! ### calls -/
def mCall (op : OpN) (fa : Ex (List D)) : Ex D := fun env S => (fa env S).andThen fun xs S1 => ofO (op xs S1) S1
theorem cb_imp {g : Snap} {r : List V → Hp → VK → Prop} {op : OpN} (ok : OkN X.K X.mg r op) : ∀ σ H Q, tV X.K X.mg g E (mCall op fa) σ H Q → tCB r (tAr X.K X.mg g E fa) σ H Q := by
  rintro σ H Q ⟨F, ι, env, S, w, q⟩
  refine ⟨F, ι, env, S, w, rd_mono (rd_then q) ?_⟩
  rintro xs H1 F1 ι1 S1 - e1 w1 ⟨_, _, q1⟩ vs hvs
  cases ho : op xs S1 with
  | none => rw [ho] at q1; exact q1.elim
  | some d =>
    rw [ho] at q1
    exact ok H1 F1 ι1 S1 xs d vs Q w1.wd hvs ho fun v' H' F' ι' e' w' hv' => (q1 H' F' ι' e' (w1.step e' w')).2.2 v' hv'
theorem v_callB {x : Str} {p : Pos} {id : String} {r : List V → Hp → VK → Prop} {op : OpN} (hc : CallR X (.builtin id) r) (ok : OkN X.K X.mg r op) (hg : Gl X x) (hm : X.mg x = none) (hv : bootBuiltins x = some (.builtin id))
    (ha : VA X E (e :: es) fa) (hn : x ≠ "__name__" := by decide) (hd : (x == ("__debug__" : Str)) = false := by decide)
    (h1 : starEach (e :: es) X.env = (false, eval e X.env) :: starEach es X.env := by rfl) (h2 : (backTo pos (starEach es X.env)).any (·.1) = false := by rfl) :
    VE X E (.Call (.Name x p) (e :: es) [] pos) (mCall op fa) := fun g => (pe_callB hc hg hm hv (ha g) hn hd h1 h2).imp (cb_imp ok)
theorem v_callTy {x : Str} {p : Pos} {T : String} {r : List V → Hp → VK → Prop} {op : OpN} (hc : CallR X (.type T) r) (ok : OkN X.K X.mg r op) (hg : Gl X x) (hm : X.mg x = none) (hv : bootBuiltins x = some (.type T))
    (ha : VA X E (e :: es) fa) (hn : x ≠ "__name__" := by decide) (hd : (x == ("__debug__" : Str)) = false := by decide)
    (h1 : starEach (e :: es) X.env = (false, eval e X.env) :: starEach es X.env := by rfl) (h2 : (backTo pos (starEach es X.env)).any (·.1) = false := by rfl) :
    VE X E (.Call (.Name x p) (e :: es) [] pos) (mCall op fa) := fun g => (pe_callTy hc hg hm hv (ha g) hn hd h1 h2).imp (cb_imp ok)
/-- a def's mirror -/
abbrev Fn := List D → List Cell → Rs D
/-- the promise that a mirror makes, n arguments -/
def SpM (K : PySem.W.Frag) (mg : Str → Option Value) (n : Nat) (m : Fn) : Sp := fun vs H Q E => vs.length = n ∧ ∃ F ι ds S, Wd K mg F ι H S ∧ Reps K mg F ι H ds vs ∧ match m ds S with
  | .ok d S' => ∀ v H' F' ι', Ext H F ι H' F' ι' → Wd K mg F' ι' H' S' → Rep K mg F' ι' H' d v → Q v H'
  | .ex c ns es S' => ∀ C d H' F' ι', mg c = some (.ref C) → Ext H F ι H' F' ι' → Wd K mg F' ι' H' S' → DictAt K mg F' ι' H' d ns es → E (.ref C) d H'
  | .bad => False
def mFn (n : Nat) (m : Fn) (fa : Ex (List D)) : Ex D := fun env S => (fa env S).andThen fun xs S1 => if xs.length = n then m xs S1 else .bad
theorem sp_of {g : Snap} {σ : St} {H1 : Hp} {F1 : Fz} {ι1 : List Addr} {env : List Sl} {S1 : List Cell} {xs : List D} {vs : List V} {n : Nat} {m : Fn} {k : D → Hp → Fz → List Addr → List Cell → Prop} {Q : VK}
    (w1 : RS X.K X.mg g σ H1 F1 ι1 env S1) (hvs : Reps X.K X.mg F1 ι1 H1 xs vs) (q1 : rdAt X.K X.mg g E σ H1 F1 ι1 env k (if xs.length = n then m xs S1 else .bad))
    (hk : ∀ d H' F' ι' S', k d H' F' ι' S' → ∀ v, Rep X.K X.mg F' ι' H' d v → Q v H') : SpM X.K X.mg n m vs H1 Q (E σ) := by
  by_cases hl : xs.length = n
  · rw [if_pos hl] at q1
    refine ⟨hvs.len.trans hl, F1, ι1, xs, S1, w1.wd, hvs, ?_⟩
    cases hm : m xs S1 with
    | bad => rw [hm] at q1; exact q1.elim
    | ex c ns ds S2 =>
      rw [hm] at q1
      exact fun C d H' F' ι' hc e w hd => q1 C d H' F' ι' hc (w1.step e w) e hd
    | ok d S2 =>
      rw [hm] at q1
      exact fun v H' F' ι' e w hv => hk _ _ _ _ _ (q1 H' F' ι' e (w1.step e w)) v hv
  · rw [if_neg hl] at q1
    exact q1.elim
theorem fn_imp {g : Snap} {n : Nat} {m : Fn} : ∀ σ H Q, tV X.K X.mg g E (mFn n m fa) σ H Q → tCallG (SpM X.K X.mg n m) E (tAr X.K X.mg g E fa) σ H Q := by
  rintro σ H Q ⟨F, ι, env, S, w, q⟩
  refine ⟨F, ι, env, S, w, rd_mono (rd_then q) ?_⟩
  rintro xs H1 F1 ι1 S1 - e1 w1 ⟨_, _, q1⟩ vs hvs
  exact sp_of w1 hvs q1 fun d H' F' ι' S' z v hv => z.2.2 v hv
theorem v_call {x : Str} {p : Pos} {i : Nat} {fx : Addr} {fd : FuncData} {ps : List Str} {n : Nat} {m : Fn} (G : FnG X.prog X.w X.K X.mg X.base i fx fd ps (SpM X.K X.mg n m)) (rm : Rm i X.A) (hm : X.mg x = some (.ref fx))
    (hk : PySem.W.keepIn X.K (.ref fx) = true) (hb : Binds X.K fd ps []) (px : Px X E) (ha : VA X E (e :: es) fa) (hg : Gl X x := by rfl)
    (hd : (x == ("__debug__" : Str)) = false := by decide)
    (h1 : starEach (e :: es) X.env = (false, eval e X.env) :: starEach es X.env := by rfl) (h2 : (backTo pos (starEach es X.env)).any (·.1) = false := by rfl) :
    VE X E (.Call (.Name x p) (e :: es) [] pos) (mFn n m fa) := fun g => (pe_callG G rm hg hm hk hb px (ha g) hd h1 h2).imp fn_imp
theorem v_call0 {x : Str} {p : Pos} {i : Nat} {fx : Addr} {fd : FuncData} {ps : List Str} {n : Nat} {m : Fn} (G : FnG X.prog X.w X.K X.mg X.base i fx fd ps (SpM X.K X.mg n m)) (rm : Rm i X.A) (hm : X.mg x = some (.ref fx))
    (hk : PySem.W.keepIn X.K (.ref fx) = true) (hb : Binds X.K fd ps []) (px : Px X E) (hg : Gl X x := by rfl) (hd : (x == ("__debug__" : Str)) = false := by decide) :
    VE X E (.Call (.Name x p) [] [] pos) (mFn n m mNil) := fun g => (pe_callG0 G rm hg hm hk hb px hd).imp fun σ H Q q => by
  obtain ⟨F, ι, env, S, w, q⟩ := fn_imp σ H Q q
  exact q H F ι Ext.refl w [] rfl
end

/-! ### slots set -/
section
variable {K : PySem.W.Frag} {mg : Str → Option Value} {g : Snap} {σ : St} {H H' : Hp} {F F' : Fz} {ι ι' : List Addr} {env : List Sl} {S S' : List Cell}
theorem RS.put {d : D} {v : V} (r : RS K mg g σ H F ι env S) (i : Nat) (h : Rep K mg F ι H d v) : RS K mg g (σ.set i (some v)) H F ι (env.set i (.val d)) S where
  wd := r.wd
  ext := r.ext
  len := by simpa using r.len
  slot := fun j d' hj => by
    rw [List.getElem?_set] at hj ⊢
    have hl := r.len
    by_cases e : i = j
    · subst e
      rw [if_pos rfl] at hj ⊢
      by_cases hi : i < env.length
      · rw [if_pos hi] at hj
        cases hj
        exact ⟨v, by rw [if_pos (by omega)], h⟩
      · rw [if_neg hi] at hj; cases hj
    · rw [if_neg e] at hj ⊢
      exact r.slot j d' hj
  own := fun j ds hj => by
    rw [List.getElem?_set] at hj ⊢
    by_cases e : i = j
    · subst e
      rw [if_pos rfl] at hj
      split at hj <;> cases hj
    · rw [if_neg e] at hj ⊢
      exact r.own j ds hj
  apart := fun j k a di dj h1 h2 h3 h4 => by
    rw [List.getElem?_set] at h1 h2 h3 h4
    by_cases e : i = j
    · subst e
      rw [if_pos rfl] at h1
      split at h1 <;> cases h1
    · by_cases e2 : i = k
      · subst e2
        rw [if_pos rfl] at h2
        split at h2 <;> cases h2
      · rw [if_neg e] at h1 h3
        rw [if_neg e2] at h2 h4
        exact r.apart j k a di dj h1 h2 h3 h4
/-- a slot gets a list of one's own -/
theorem RS.putO {ds : List D} {vs : List V} {a : Addr} (r : RS K mg g σ H F ι env S) (i : Nat) (h1 : H a = some (.lst vs)) (h2 : Reps K mg F ι H ds vs) (h3 : ¬ F a) (h4 : a ∉ ι) (h5 : g.H0 a = none)
    (h6 : ∀ (j : Nat) dj, env[j]? = some (.own dj) → σ[j]? = some (some (.ref a)) → j = i) : RS K mg g (σ.set i (some (.ref a))) H F ι (env.set i (.own ds)) S where
  wd := r.wd
  ext := r.ext
  len := by simpa using r.len
  slot := fun j d' hj => by
    rw [List.getElem?_set] at hj ⊢
    by_cases e : i = j
    · subst e
      rw [if_pos rfl] at hj
      split at hj <;> cases hj
    · rw [if_neg e] at hj ⊢
      exact r.slot j d' hj
  own := fun j ds' hj => by
    rw [List.getElem?_set] at hj ⊢
    have hl := r.len
    by_cases e : i = j
    · subst e
      rw [if_pos rfl] at hj ⊢
      by_cases hi : i < env.length
      · rw [if_pos hi] at hj
        cases hj
        exact ⟨a, vs, by rw [if_pos (by omega)], h1, h2, h3, h4, h5⟩
      · rw [if_neg hi] at hj; cases hj
    · rw [if_neg e] at hj ⊢
      exact r.own j ds' hj
  apart := fun j k b di dj q1 q2 q3 q4 => by
    rw [List.getElem?_set] at q1 q2 q3 q4
    by_cases e : i = j
    · by_cases e2 : i = k
      · exact e.symm.trans e2
      · subst e
        rw [if_pos rfl] at q1 q3
        rw [if_neg e2] at q2 q4
        split at q3
        · cases q3
          exact (h6 k dj q2 q4).symm
        · cases q3
    · by_cases e2 : i = k
      · subst e2
        rw [if_pos rfl] at q2 q4
        rw [if_neg e] at q1 q3
        split at q4
        · cases q4
          exact h6 j di q1 q3
        · cases q4
      · rw [if_neg e] at q1 q3
        rw [if_neg e2] at q2 q4
        exact r.apart j k b di dj q1 q2 q3 q4
/-- a slot is forgotten -/
theorem RS.forget (r : RS K mg g σ H F ι env S) (i : Nat) (x : Option V) : RS K mg g (σ.set i x) H F ι (env.set i .un) S where
  wd := r.wd
  ext := r.ext
  len := by simpa using r.len
  slot := fun j d' hj => by
    rw [List.getElem?_set] at hj ⊢
    by_cases e : i = j
    · subst e
      rw [if_pos rfl] at hj
      split at hj <;> cases hj
    · rw [if_neg e] at hj ⊢
      exact r.slot j d' hj
  own := fun j ds hj => by
    rw [List.getElem?_set] at hj ⊢
    by_cases e : i = j
    · subst e
      rw [if_pos rfl] at hj
      split at hj <;> cases hj
    · rw [if_neg e] at hj ⊢
      exact r.own j ds hj
  apart := fun j k a di dj h1 h2 h3 h4 => by
    rw [List.getElem?_set] at h1 h2 h3 h4
    by_cases e : i = j
    · subst e
      rw [if_pos rfl] at h1
      split at h1 <;> cases h1
    · by_cases e2 : i = k
      · subst e2
        rw [if_pos rfl] at h2
        split at h2 <;> cases h2
      · rw [if_neg e] at h1 h3
        rw [if_neg e2] at h2 h4
        exact r.apart j k a di dj h1 h2 h3 h4
/-- a slot's own list becomes a value -/
theorem RS.freeze {i : Nat} {ds : List D} (r : RS K mg g σ H F ι env S) (h : env[i]? = some (.own ds)) : ∃ F', RS K mg g σ H F' ι (env.set i (.val (.lst ds))) S ∧ Grow H F ι H F' ι := by
  obtain ⟨a, vs, h1, h2, h3, h4, h5, h6⟩ := r.own i ds h
  have hi : i < env.length := (List.getElem?_eq_some_iff.mp h).1
  have mono : ∀ d v, Rep K mg F ι H d v → Rep K mg (fun b => F b ∨ b = a) ι H d v := fun d v q => rep_mono (fun _ h => .inl h) (fun _ _ _ h => h) (List.prefix_refl _) d v q
  have monos : ∀ d v, Reps K mg F ι H d v → Reps K mg (fun b => F b ∨ b = a) ι H d v := fun d v q => reps_mono (fun _ h => .inl h) (fun _ _ _ h => h) (List.prefix_refl _) d v q
  refine ⟨fun b => F b ∨ b = a, ⟨r.wd.freeze (by rw [h2]; simp) h5, ⟨fun b hb => .inl (r.ext.sub b hb), fun b hb => ?_, r.ext.keep, r.ext.mono, r.ext.pre, r.ext.cnew⟩, by simpa using r.len, fun j d hj => ?_, fun j ds' hj => ?_, fun j k b di dj q1 q2 q3 q4 => ?_⟩, ⟨fun _ h => .inl h, fun _ _ _ h => h, List.prefix_refl _⟩⟩
  · rcases hb with hb | rfl
    · exact r.ext.new b hb
    · exact .inr h6
  · rw [List.getElem?_set] at hj
    by_cases e : i = j
    · subst e
      rw [if_pos rfl, if_pos hi] at hj
      cases hj
      exact ⟨.ref a, h1, a, vs, rfl, ⟨.inr rfl, h2⟩, monos _ _ h3⟩
    · rw [if_neg e] at hj
      obtain ⟨v, q1, q2⟩ := r.slot j d hj
      exact ⟨v, q1, mono _ _ q2⟩
  · rw [List.getElem?_set] at hj
    by_cases e : i = j
    · subst e
      rw [if_pos rfl, if_pos hi] at hj
      cases hj
    · rw [if_neg e] at hj
      obtain ⟨b, us, q1, q2, q3, q4, q5, q6⟩ := r.own j ds' hj
      refine ⟨b, us, q1, q2, monos _ _ q3, fun z => ?_, q5, q6⟩
      rcases z with z | rfl
      · exact q4 z
      · exact e (r.apart i j b _ _ h hj h1 q1)
  · rw [List.getElem?_set] at q1 q2
    by_cases e : i = j
    · subst e
      rw [if_pos rfl, if_pos hi] at q1
      cases q1
    · by_cases e2 : i = k
      · subst e2
        rw [if_pos rfl, if_pos hi] at q2
        cases q2
      · rw [if_neg e] at q1
        rw [if_neg e2] at q2
        exact r.apart j k b di dj q1 q2 q3 q4
theorem ne_of_not {p : Addr → Prop} {a b : Addr} (h1 : p b) (h2 : ¬ p a) : b ≠ a := fun z => by
  subst z
  exact h2 h1
/-- an object that is not frozen, no cell and new since the entry changes -/
theorem ext_upd {a : Addr} {o : HO} {H0 : Hp} {F0 : Fz} {ι0 : List Addr} (e : Ext H0 F0 ι0 H F ι) (h : H0 a = none) (n : H a ≠ none) : Ext H0 F0 ι0 (upd H a o) F ι :=
  ⟨e.sub, e.new, fun b u hb nb => by rw [upd_ne (ne_of_none hb h)]; exact e.keep b u hb nb, fun b hb => by
    by_cases z : b = a
    · subst z; exact h
    · rw [upd_ne z] at hb; exact e.mono b hb, e.pre, e.cnew⟩
theorem stay_upd {a : Addr} {o : HO} (h : ¬ F a) : Stay F H (upd H a o) := fun b u f hb => by rw [upd_ne (ne_of_not f h)]; exact hb
theorem Wd.updO {a : Addr} {o : HO} (w : Wd K mg F ι H S) (h : ¬ F a) (hc : a ∉ ι) : Wd K mg F ι (upd H a o) S :=
  ⟨fun b hb => by rw [upd_ne (ne_of_not hb h)]; exact w.fin b hb, w.cnf, w.cnd, w.len, fun n c b h1 h2 => cell_mono (fun _ h => h) (stay_upd h) (List.prefix_refl _) (fun u hu => by
    rw [upd_ne (ne_of_not (p := (· ∈ ι)) (List.mem_of_getElem? h2) hc)]; exact hu) c (w.cells n c b h1 h2)⟩
/-- the own list of slot i changes -/
theorem RS.mutO {i : Nat} {ds ds' : List D} {vs' : List V} {a : Addr} (r : RS K mg g σ H F ι env S) (h : env[i]? = some (.own ds)) (ha : σ[i]? = some (some (.ref a))) (q : Reps K mg F ι H ds' vs') :
    RS K mg g σ (upd H a (.lst vs')) F ι (env.set i (.own ds')) S ∧ Grow H F ι (upd H a (.lst vs')) F ι := by
  obtain ⟨a', vs, h1, h2, h3, h4, h5, h6⟩ := r.own i ds h
  obtain rfl : a' = a := by rw [ha] at h1; cases h1; rfl
  have hi : i < env.length := (List.getElem?_eq_some_iff.mp h).1
  have st : Stay F H (upd H a' (.lst vs')) := stay_upd h4
  refine ⟨⟨r.wd.updO h4 h5, ext_upd r.ext h6 (by rw [h2]; simp), by simpa using r.len, fun j d hj => ?_, fun j dj hj => ?_, fun j k b di dj q1 q2 q3 q4 => ?_⟩, ⟨fun _ h => h, st, List.prefix_refl _⟩⟩
  · rw [List.getElem?_set] at hj
    by_cases e : i = j
    · subst e
      rw [if_pos rfl, if_pos hi] at hj
      cases hj
    · rw [if_neg e] at hj
      obtain ⟨v, q1, q2⟩ := r.slot j d hj
      exact ⟨v, q1, rep_mono (fun _ h => h) st (List.prefix_refl _) d v q2⟩
  · rw [List.getElem?_set] at hj
    by_cases e : i = j
    · subst e
      rw [if_pos rfl, if_pos hi] at hj
      cases hj
      exact ⟨a', vs', ha, upd_same, reps_mono (fun _ h => h) st (List.prefix_refl _) _ _ q, h4, h5, h6⟩
    · rw [if_neg e] at hj
      obtain ⟨b, us, q1, q2, q3, q4, q5, q6⟩ := r.own j dj hj
      refine ⟨b, us, q1, ?_, reps_mono (fun _ h => h) st (List.prefix_refl _) _ _ q3, q4, q5, q6⟩
      rw [upd_ne (fun z => e (r.apart i j b _ _ h hj (by rw [z]; exact ha) q1))]
      exact q2
  · have back : ∀ (j : Nat) dj, (env.set i (.own ds'))[j]? = some (.own dj) → ∃ dj', env[j]? = some (.own dj') := fun j dj hj => by
      rw [List.getElem?_set] at hj
      by_cases e : i = j
      · subst e; exact ⟨ds, h⟩
      · rw [if_neg e] at hj; exact ⟨dj, hj⟩
    obtain ⟨d1, z1⟩ := back j di q1
    obtain ⟨d2, z2⟩ := back k dj q2
    exact r.apart j k b d1 d2 z1 z2 q3 q4
/-- a cell changes -/
theorem RS.cell {n : Nat} {a : Addr} {o : HO} {c' : Cell} (r : RS K mg g σ H F ι env S) (h : ι[n]? = some a) (live : ∃ c, S[n]? = some c ∧ c.live = true) (hl' : c'.live = true) (q : ∀ H', H' a = some o → Stay F H H' → CellOk K mg F ι H' a c') :
    RS K mg g σ (upd H a o) F ι env (S.set n c') ∧ Grow H F ι (upd H a o) F ι := by
  have hm : a ∈ ι := List.mem_of_getElem? h
  have nf : ¬ F a := by
    obtain ⟨c, h1, h2⟩ := live
    exact r.wd.cnf n c a h1 h h2
  have st : Stay F H (upd H a o) := stay_upd nf
  have wd : Wd K mg F ι (upd H a o) (S.set n c') := by
    refine ⟨fun b hb => by rw [upd_ne (ne_of_not hb nf)]; exact r.wd.fin b hb, fun i c b h1 h2 hl => ?_, r.wd.cnd, by rw [List.length_set]; exact r.wd.len, fun i c b h1 h2 => ?_⟩
    · rw [List.getElem?_set] at h1
      by_cases e : n = i
      · subst e
        rw [h] at h2
        cases h2
        exact nf
      · rw [if_neg e] at h1
        exact r.wd.cnf i c b h1 h2 hl
    rw [List.getElem?_set] at h1
    by_cases e : n = i
    · subst e
      have : b = a := by rw [h] at h2; cases h2; rfl
      subst this
      rw [if_pos rfl] at h1
      split at h1
      · cases h1
        exact q _ upd_same st
      · cases h1
    · rw [if_neg e] at h1
      have ne : b ≠ a := fun z => by
        subst z
        have l1 := (List.getElem?_eq_some_iff.mp h)
        have l2 := (List.getElem?_eq_some_iff.mp h2)
        obtain ⟨p1, e1⟩ := l1
        obtain ⟨p2, e2⟩ := l2
        exact e ((List.getElem_inj r.wd.cnd).mp (e1.trans e2.symm))
      exact cell_mono (fun _ h => h) st (List.prefix_refl _) (fun u hu => by rw [upd_ne ne]; exact hu) c (r.wd.cells i c b h1 h2)
  have ex : Ext g.H0 g.F0 g.ι0 (upd H a o) F ι := by
    refine ⟨r.ext.sub, r.ext.new, fun b u hb nb => ?_, fun b hb => ?_, r.ext.pre, r.ext.cnew⟩
    · have : b ≠ a := fun z => by
        subst z
        rcases nb with f | nb
        · exact nf (r.ext.sub b f)
        · rcases r.ext.cnew b hm with z | z
          · exact nb z
          · rw [hb] at z; cases z
      rw [upd_ne this]
      exact r.ext.keep b u hb nb
    · by_cases z : b = a
      · subst z; rw [upd_same] at hb; cases hb
      · rw [upd_ne z] at hb; exact r.ext.mono b hb
  refine ⟨⟨wd, ex, r.len, fun j d hj => ?_, fun j dj hj => ?_, r.apart⟩, ⟨fun _ h => h, st, List.prefix_refl _⟩⟩
  · obtain ⟨v, q1, q2⟩ := r.slot j d hj
    exact ⟨v, q1, rep_mono (fun _ h => h) st (List.prefix_refl _) d v q2⟩
  · obtain ⟨b, us, q1, q2, q3, q4, q5, q6⟩ := r.own j dj hj
    refine ⟨b, us, q1, ?_, reps_mono (fun _ h => h) st (List.prefix_refl _) _ _ q3, q4, q5, q6⟩
    rw [upd_ne (fun z => q5 (by rw [z]; exact hm))]
    exact q2
end
end DL

/-! DLe: statements, loops, comprehensions, a def by its mirror. -/
namespace DL
open PySem PySem.Spec L2
open PyProof.Rows hiding St

section
variable {X : Cx} {E : EE} {a b c e o : Expr} {es : List Expr} {f h k : Ex D} {p q : Ex Bool} {fa : Ex (List D)} {pos : Pos} {st : Stmt} {sts : List Stmt} {m m1 m2 : Sm}
theorem _root_.L2.PG.imp {X : Cx} {e : Expr} {t t' : TG} (p : PG X e t) (h : ∀ v σ H Q, t' v σ H Q → t v σ H Q) : PG X e t' := ⟨fun pins s σ H v u Q I r q => p.run pins s σ H v u Q I r (h v σ H Q q)⟩
/-! ### blocks -/
def mSkip : Sm := fun env S => .nx env S
def mSeq (m1 m2 : Sm) : Sm := fun env S => match m1 env S with
  | .nx e S' => m2 e S'
  | r => r
@[simp] theorem mSeq_nx {m1 m2 : Sm} {env : List Sl} {S : List Cell} {e : List Sl} {S' : List Cell} (h : m1 env S = .nx e S') : mSeq m1 m2 env S = m2 e S' := by unfold mSeq; rw [h]
theorem b_nil : VB X E [] mSkip := fun g => pss_nil.imp fun D σ H ⟨F, ι, env, S, w, q⟩ => q σ H F ι w Grow.refl
theorem b_one (h1 : VS X E st m) : VB X E [st] m := fun g => pss_one (h1 g)
theorem fl_nx {K : PySem.W.Frag} {mg : Str → Option Value} {g : Snap} {H : Hp} {F : Fz} {ι : List Addr} {D : Ends} {m2 : Sm} : ∀ {fl : Fl}, flAt K mg g E H F ι D (match (motive := Fl → Fl) fl with | .nx e S' => m2 e S' | r => r) →
    flAt K mg g E H F ι { D with nx := fun σ' H' => tS K mg g E m2 D σ' H' } fl
  | .nx e S', q => fun σ' H' F' ι' r gr => ⟨F', ι', e, S', r, fl_grow gr q⟩
  | .bk _ _, q => q
  | .ct _ _, q => q
  | .rt _ _, q => q
  | .ex _ _ _ _ _, q => q
  | .bad, q => q
theorem b_cons (h1 : VS X E st m1) (h2 : VB X E sts m2) : VB X E (st :: sts) (mSeq m1 m2) := fun g => (pss_cons (h1 g) (h2 g)).imp fun D σ H ⟨F, ι, env, S, w, q⟩ => by
  refine ⟨F, ι, env, S, w, ?_⟩
  unfold mSeq at q
  exact fl_nx q
def mIfS (p : Ex Bool) (m1 m2 : Sm) : Sm := fun env S => (p env S).go env fun b S1 => if b = true then m1 env S1 else m2 env S1
theorem s_if {A B : List Stmt} (hp : VT X E c p) (h1 : VB X E A m1) (h2 : VB X E B m2) : VS X E (.If c A B pos) (mIfS p m1 m2) := fun g => (ps_if (hp g) (h1 g) (h2 g)).imp fun D σ H ⟨F, ι, env, S, w, q⟩ =>
  ⟨F, ι, env, S, w, rd_mono (rd_go w.wd q) fun b H1 F1 ι1 S1 _ e1 w1 ⟨_, _, q1⟩ => by
    cases b with
    | true => exact ⟨F1, ι1, env, S1, w1, q1⟩
    | false => exact ⟨F1, ι1, env, S1, w1, q1⟩⟩
def mRet (f : Ex D) : Sm := fun env S => (f env S).go env fun d S1 => .rt d S1
theorem s_ret (he : VE X E e f) : VS X E (.Return (some e) pos) (mRet f) := fun g => (ps_ret (he g)).imp fun D σ H ⟨F, ι, env, S, w, q⟩ =>
  ⟨F, ι, env, S, w, rd_mono (rd_go w.wd q) fun d H1 F1 ι1 S1 _ e1 w1 ⟨_, _, q1⟩ v hv => q1 v H1 F1 ι1 w1.ext w1.wd hv⟩
def mRetN : Sm := fun _ S => .rt .non S
theorem s_retN : VS X E (.Return none pos) mRetN := fun g => ps_retN.imp fun D σ H ⟨F, ι, env, S, w, q⟩ => q .non H F ι w.ext w.wd rfl
def mExpr (f : Ex D) : Sm := fun env S => (f env S).go env fun _ S1 => .nx env S1
theorem s_expr (he : VE X E e f) (hs : swapsWith e none pos.line X.env = pure false := by rfl) : VS X E (.Expr e pos) (mExpr f) := fun g => (ps_expr (he g) hs).imp fun D σ H ⟨F, ι, env, S, w, q⟩ =>
  ⟨F, ι, env, S, w, rd_mono (rd_go w.wd q) fun d H1 F1 ι1 S1 _ e1 w1 ⟨_, _, q1⟩ v hv => q1 σ H1 F1 ι1 w1 Grow.refl⟩
theorem s_pass : VS X E (.Pass pos) mSkip := fun g => ps_pass.imp fun D σ H ⟨F, ι, env, S, w, q⟩ => q σ H F ι w Grow.refl
def mBreak : Sm := fun env S => .bk env S
def mCont : Sm := fun env S => .ct env S
theorem s_break : VS X E (.Break pos) mBreak := fun g => ps_break.imp fun D σ H ⟨F, ι, env, S, w, q⟩ => q σ H F ι w Grow.refl
theorem s_cont : VS X E (.Continue pos) mCont := fun g => ps_continue.imp fun D σ H ⟨F, ι, env, S, w, q⟩ => q σ H F ι w Grow.refl
/-- slots' own lists become values ahead of a statement -/
def mFz (i : Nat) (m : Sm) : Sm := fun env S => match env[i]? with
  | some (.own ds) => m (env.set i (.val (.lst ds))) S
  | some (.val _) => m env S
  | _ => .bad
theorem fz_imp {K : PySem.W.Frag} {mg : Str → Option Value} {g : Snap} {i : Nat} {D : Ends} {σ : St} {H : Hp} (h : tS K mg g E (mFz i m) D σ H) : tS K mg g E m D σ H := by
  obtain ⟨F, ι, env, S, w, q⟩ := h
  unfold mFz at q
  split at q
  · rename_i ds hd
    obtain ⟨F', w', gr⟩ := w.freeze hd
    exact ⟨F', ι, _, S, w', fl_grow gr q⟩
  · exact ⟨F, ι, env, S, w, q⟩
  · exact q.elim
theorem s_fz (i : Nat) (h : VS X E st m) : VS X E st (mFz i m) := fun g => (h g).imp fun D σ H q => fz_imp q
theorem b_fz (i : Nat) (h : VB X E sts m) : VB X E sts (mFz i m) := fun g => (h g).imp fun D σ H q => fz_imp q

/-! ### targets -/
inductive Pat where
  | nm (i : Nat) | tp (ps : List Pat)
mutual
def bindP : Pat → D → List Sl → Option (List Sl)
  | .nm i, d, env => some (env.set i (.val d))
  | .tp ps, .tup ds, env => bindPs ps ds env
  | .tp ps, .lst ds, env => bindPs ps ds env
  | .tp _, _, _ => none
def bindPs : List Pat → List D → List Sl → Option (List Sl)
  | [], [], env => some env
  | p :: ps, d :: ds, env => match bindP p d env with
    | some env' => bindPs ps ds env'
    | none => none
  | _, _, _ => none
end
mutual
def gPat (K : PySem.W.Frag) : Pat → TG
  | .nm i => gName i
  | .tp ps => fun v σ H Q => gTup K ps.length (gPats K ps) v σ H Q ∨ gUnl K ps.length (gPats K ps) v σ H Q
def gPats (K : PySem.W.Frag) : List Pat → TGs
  | [] => gNil
  | p :: ps => gCons (gPat K p) (gPats K ps)
end
mutual
def patIn : Pat → List Nat → Bool
  | .nm i, vs => vs.contains i
  | .tp ps, vs => patsIn ps vs
def patsIn : List Pat → List Nat → Bool
  | [], _ => true
  | p :: ps, vs => patIn p vs && patsIn ps vs
end
/-- slots outside vs are the same -/
def SameBut (vs : List Nat) (σ σ' : St) : Prop := σ.length = σ'.length ∧ ∀ i, i ∉ vs → σ'[i]? = σ[i]?
theorem SameBut.refl {vs : List Nat} {σ : St} : SameBut vs σ σ := ⟨rfl, fun _ _ => rfl⟩
theorem SameBut.trans {vs : List Nat} {σ σ1 σ2 : St} (a : SameBut vs σ σ1) (b : SameBut vs σ1 σ2) : SameBut vs σ σ2 := ⟨a.1.trans b.1, fun i h => (b.2 i h).trans (a.2 i h)⟩
theorem TGs_unl (K : PySem.W.Frag) : True := trivial
section
variable {K : PySem.W.Frag} {mg : Str → Option Value} {g : Snap} {H : Hp} {F : Fz} {ι : List Addr} {S : List Cell} {vs : List Nat}
mutual
theorem pat_ok : ∀ (p : Pat) (d : D) (v : V) (σ : St) (env env' : List Sl) (Q : St → Hp → Prop), RS K mg g σ H F ι env S → Rep K mg F ι H d v → bindP p d env = some env' →
    (∀ σ', RS K mg g σ' H F ι env' S → (patIn p vs = true → SameBut vs σ σ') → Q σ' H) → gPat K p v σ H Q
  | .nm i, d, v, σ, env, env', Q, w, r, hb, q => by
    have e : env.set i (.val d) = env' := by simpa [bindP] using hb
    subst e
    refine q _ (w.put i r) fun hi => ⟨by simp, fun j hj => ?_⟩
    have hi' : i ∈ vs := by simpa [patIn] using hi
    rw [List.getElem?_set_ne (fun z => hj (by rw [← z]; exact hi'))]
  | .tp ps, .tup ds, v, σ, env, env', Q, w, r, hb, q => by
    obtain ⟨a, us, rfl, hs, hr⟩ := r
    have hb' : bindPs ps ds env = some env' := by simpa [bindP] using hb
    exact .inl ⟨a, us, rfl, hs.sq, hr.len.trans (bind_len ps ds env env' hb').symm, pats_ok ps ds us σ env env' Q w hr hb' fun σ' w' h => q σ' w' fun z => h (by simpa [patIn] using z)⟩
  | .tp ps, .lst ds, v, σ, env, env', Q, w, r, hb, q => by
    obtain ⟨a, us, rfl, hs, hr⟩ := r
    have hb' : bindPs ps ds env = some env' := by simpa [bindP] using hb
    exact .inr ⟨a, us, rfl, hs.sq, hr.len.trans (bind_len ps ds env env' hb').symm, pats_ok ps ds us σ env env' Q w hr hb' fun σ' w' h => q σ' w' fun z => h (by simpa [patIn] using z)⟩
  | .tp ps, .non, v, σ, env, env', Q, w, r, hb, q => by simp [bindP] at hb
  | .tp ps, .bl _, v, σ, env, env', Q, w, r, hb, q => by simp [bindP] at hb
  | .tp ps, .int _, v, σ, env, env', Q, w, r, hb, q => by simp [bindP] at hb
  | .tp ps, .str _, v, σ, env, env', Q, w, r, hb, q => by simp [bindP] at hb
  | .tp ps, .ro _, v, σ, env, env', Q, w, r, hb, q => by simp [bindP] at hb
  | .tp ps, .dct _ _, v, σ, env, env', Q, w, r, hb, q => by simp [bindP] at hb
  | .tp ps, .obj _ _ _, v, σ, env, env', Q, w, r, hb, q => by simp [bindP] at hb
  | .tp ps, .cell _, v, σ, env, env', Q, w, r, hb, q => by simp [bindP] at hb
  | .tp ps, .ty _, v, σ, env, env', Q, w, r, hb, q => by simp [bindP] at hb
  | .tp ps, .cls _, v, σ, env, env', Q, w, r, hb, q => by simp [bindP] at hb
  | .tp ps, .exc _ _ _, v, σ, env, env', Q, w, r, hb, q => by simp [bindP] at hb
theorem pats_ok : ∀ (ps : List Pat) (ds : List D) (us : List V) (σ : St) (env env' : List Sl) (Q : St → Hp → Prop), RS K mg g σ H F ι env S → Reps K mg F ι H ds us → bindPs ps ds env = some env' →
    (∀ σ', RS K mg g σ' H F ι env' S → (patsIn ps vs = true → SameBut vs σ σ') → Q σ' H) → gPats K ps us σ H Q
  | [], [], us, σ, env, env', Q, w, r, hb, q => by
    have e : env = env' := by simpa [bindPs] using hb
    subst e
    exact ⟨r, q σ w fun _ => SameBut.refl⟩
  | p :: ps, d :: ds, us, σ, env, env', Q, w, r, hb, q => by
    obtain ⟨v, us', rfl, r1, r2⟩ := r
    cases h1 : bindP p d env with
    | none => simp [bindPs, h1] at hb
    | some env1 =>
      have hb' : bindPs ps ds env1 = some env' := by simpa [bindPs, h1] using hb
      refine ⟨v, us', rfl, pat_ok p d v σ env env1 _ w r1 h1 fun σ1 w1 s1 => ?_⟩
      exact pats_ok ps ds us' σ1 env1 env' Q w1 r2 hb' fun σ' w' s' => q σ' w' fun z => by
        have z' : patIn p vs = true ∧ patsIn ps vs = true := by simpa [patsIn] using z
        exact (s1 z'.1).trans (s' z'.2)
  | [], d :: ds, us, σ, env, env', Q, w, r, hb, q => by simp [bindPs] at hb
  | p :: ps, [], us, σ, env, env', Q, w, r, hb, q => by simp [bindPs] at hb
theorem bind_len : ∀ (ps : List Pat) (ds : List D) (env env' : List Sl), bindPs ps ds env = some env' → ps.length = ds.length
  | [], [], _, _, _ => rfl
  | p :: ps, d :: ds, env, env', hb => by
    cases h1 : bindP p d env with
    | none => simp [bindPs, h1] at hb
    | some env1 => rw [List.length_cons, List.length_cons, bind_len ps ds env1 env' (by simpa [bindPs, h1] using hb)]
  | [], d :: ds, _, _, hb => by simp [bindPs] at hb
  | p :: ps, [], _, _, hb => by simp [bindPs] at hb
end
end
theorem pg_or {t t' : TG} (h1 : PG X e t) (h2 : PG X e t') : PG X e (fun v σ H Q => t v σ H Q ∨ t' v σ H Q) :=
  ⟨fun pins s σ H v u Q I r q => q.elim (h1.run pins s σ H v u Q I r) (h2.run pins s σ H v u Q I r)⟩
/-- x = e -/
def mSet (i : Nat) (f : Ex D) : Sm := fun env S => (f env S).go env fun d S1 => .nx (env.set i (.val d)) S1
theorem set_imp {g : Snap} {i : Nat} : ∀ D σ H, tS X.K X.mg g E (mSet i f) D σ H → tAsg (tV X.K X.mg g E f) (gName i) D σ H := fun D σ H ⟨F, ι, env, S, w, q⟩ =>
  ⟨F, ι, env, S, w, rd_mono (rd_go w.wd q) fun d H1 F1 ι1 S1 _ e1 w1 ⟨_, _, q1⟩ v hv => q1 _ H1 F1 ι1 (w1.put i hv) Grow.refl⟩
theorem s_set (i : Nat) {x : Str} {px : Pos} (he : VE X E e f) (hN : X.N.Nodup) (hi : X.N[i]? = some x := by rfl) (hx : Loc X.env.scope x := by first | exact Or.inl rfl | exact Or.inr rfl)
    (hs : swapsWith e (some (.Name x px)) pos.line X.env = pure false := by rfl) (hf : X.fn x = true ∨ X.env.scope.names.lookup x = some .local := by first | exact .inl rfl | exact .inr rfl) :
    VS X E (.Assign [.Name x px] e pos) (mSet i f) := fun g => (ps_set hN hi hx (he g) hs hf).imp set_imp
/-- x = e, e a new list that x alone holds -/
def mSetO (i : Nat) (f : Ex (List D)) : Sm := fun env S => (f env S).go env fun ds S1 => .nx (env.set i (.own ds)) S1
theorem setO_imp {g : Snap} {i : Nat} : ∀ D σ H, tS X.K X.mg g E (mSetO i fa) D σ H → tAsg (tO X.K X.mg g E fa) (gName i) D σ H := fun D σ H ⟨F, ι, env, S, w, q⟩ =>
  ⟨F, ι, env, S, w, rd_mono (rd_go w.wd q) fun d H1 F1 ι1 S1 _ e1 w1 ⟨_, _, q1⟩ a vs h1 h2 h3 h4 h5 => q1 _ H1 F1 ι1 (w1.putO i h1 h2 h3 h4 (w.ext.mono a h5) fun j dj hj hσ => by
    obtain ⟨a', us, z1, z2, _⟩ := w.own j dj hj
    rw [hσ] at z1
    cases z1
    rw [h5] at z2
    cases z2) Grow.refl⟩
theorem s_setO (i : Nat) {x : Str} {px : Pos} (he : VO X E e fa) (hN : X.N.Nodup) (hi : X.N[i]? = some x := by rfl) (hx : Loc X.env.scope x := by first | exact Or.inl rfl | exact Or.inr rfl)
    (hs : swapsWith e (some (.Name x px)) pos.line X.env = pure false := by rfl) (hf : X.fn x = true ∨ X.env.scope.names.lookup x = some .local := by first | exact .inl rfl | exact .inr rfl) :
    VS X E (.Assign [.Name x px] e pos) (mSetO i fa) := fun g => (ps_set hN hi hx (he g) hs hf).imp setO_imp
/-- a, b = e -/
def mUnp (p : Pat) (f : Ex D) : Sm := fun env S => (f env S).go env fun d S1 => match bindP p d env with
  | some env' => .nx env' S1
  | none => .bad
theorem s_unp {tg : Expr} {pt : Pat} (he : VE X E e f) (hg : PG X tg (gPat X.K pt)) (hs : swapsWithSole [tg] e pos.line X.env = pure false := by rfl) (hw : swappedStores [tg] e X.env = pure none := by rfl) (h1 : (assignEach [tg] X.env).map (·.2) = [assign tg X.env] := by rfl) :
    VS X E (.Assign [tg] e pos) (mUnp pt f) := fun g => (ps_asg (he g) hg hs hw h1).imp fun D σ H ⟨F, ι, env, S, w, q⟩ =>
  ⟨F, ι, env, S, w, rd_mono (rd_go w.wd q) fun d H1 F1 ι1 S1 _ e1 w1 ⟨_, _, q1⟩ v hv => by
    cases hb : bindP pt d env with
    | none => rw [hb] at q1; exact q1.elim
    | some env' =>
      rw [hb] at q1
      exact pat_ok (vs := []) pt d v σ env env' _ w1 hv hb fun σ' w' _ => q1 σ' H1 F1 ι1 w' Grow.refl⟩
/-- a, b = x, y : two plain locals -/
def mPar (i j : Nat) (f h : Ex D) : Sm := fun env S => (f env S).go env fun d S1 => (h env S1).go env fun d' S2 => .nx ((env.set i (.val d)).set j (.val d')) S2

/-! ### loops -/
def forL (p : Pat) (m : Sm) : List D → Sm
  | [], env, S => .nx env S
  | d :: ds, env, S => match bindP p d env with
    | none => .bad
    | some env1 => match m env1 S with
      | .nx e S' => forL p m ds e S'
      | .ct e S' => forL p m ds e S'
      | .bk e S' => .nx e S'
      | r => r
def mFor (it : Ex (List D)) (p : Pat) (m : Sm) : Sm := fun env S => (it env S).go env fun ds S1 => forL p m ds env S1
/-- the walk J gives these data -/
def WalkD (K : PySem.W.Frag) (mg : Str → Option Value) (F : Fz) (ι : List Addr) (H : Hp) (J : It) (ds : List D) : Prop :=
  ∀ F2 ι2 H2 S2, Wd K mg F2 ι2 H2 S2 → Grow H F ι H2 F2 ι2 → ∀ i, (ds.length = i → J.stop i H2) ∧ ∀ d, ds[i]? = some d → J.go i H2 ∧ ∀ x H3, J.yld i H2 x H3 →
    ∃ F3, Ext H2 F2 ι2 H3 F3 ι2 ∧ Wd K mg F3 ι2 H3 S2 ∧ Rep K mg F3 ι2 H3 d x
def tI (K : PySem.W.Frag) (mg : Str → Option Value) (g : Snap) (E : EE) (it : Ex (List D)) : TI := fun σ H R => ∃ F ι env S, RS K mg g σ H F ι env S ∧
  rdAt K mg g E σ H F ι env (fun ds H' F' ι' _ => ∀ J, WalkD K mg F' ι' H' J ds → R J H') (it env S)
def VI (X : Cx) (E : EE) (tg iter : Expr) (it : Ex (List D)) : Prop := ∀ g, PI X tg iter (tI X.K X.mg g E it)
theorem _root_.L2.PI.imp {X : Cx} {tg iter : Expr} {t t' : TI} (p : PI X tg iter t) (h : ∀ σ H R, t' σ H R → t σ H R) : PI X tg iter t' := ⟨fun pins s σ H R I q => p.run pins s σ H R I (h σ H R q)⟩
theorem s_for {tg iter : Expr} {body : List Stmt} {it : Ex (List D)} {pt : Pat} (hp : PassesOwn (model X.prog X.w) X.A X.env X.xe) (hc : X.calm = true) (hi : VI X E tg iter it) (hg : PG X tg (gPat X.K pt)) (hb : VB X E body m)
    (hs : ∀ x, foldedSetIterable iter X.env x = pure x := by intro _; rfl) : VS X E (.For tg iter body [] pos) (mFor it pt m) := fun g => (ps_for hp hc (hi g) hg (hb g) hs).imp fun D σ H ⟨F, ι, env, S, w, q⟩ =>
  ⟨F, ι, env, S, w, rd_mono (rd_go w.wd q) fun ds H1 F1 ι1 S1 _ e1 w1 ⟨_, _, q1⟩ J hJ => by
    refine ⟨fun i m' σ' H' => m' = ds.length - i ∧ i ≤ ds.length ∧ ∃ F' ι' env' S', RS X.K X.mg g σ' H' F' ι' env' S' ∧ Grow H1 F1 ι1 H' F' ι' ∧ flAt X.K X.mg g E H' F' ι' D (forL pt m (ds.drop i) env' S'),
      ⟨ds.length, rfl, Nat.zero_le _, F1, ι1, env, S1, w1, Grow.refl, q1⟩, ?_⟩
    rintro i m' σ2 H2 ⟨rfl, hi, F2, ι2, env2, S2, w2, gr, q2⟩
    obtain ⟨st, go⟩ := hJ F2 ι2 H2 S2 w2.wd gr i
    by_cases hl : i < ds.length
    · obtain ⟨hgo, hy⟩ := go _ (List.getElem?_eq_getElem hl)
      rw [List.drop_eq_getElem_cons hl] at q2
      refine .inr ⟨hgo, fun σ' H' => ∃ F' ι' env' S', RS X.K X.mg g σ' H' F' ι' env' S' ∧ Grow H1 F1 ι1 H' F' ι' ∧ flAt X.K X.mg g E H' F' ι' D (forL pt m (ds.drop (i + 1)) env' S'),
        fun σ' H' n => ⟨ds.length - (i + 1), by omega, rfl, hl, n⟩, fun x H3 y => ?_⟩
      obtain ⟨F3, e3, w3, r3⟩ := hy x H3 y
      have rs3 := w2.step e3 w3
      unfold forL at q2
      cases hb' : bindP pt ds[i] env2 with
      | none => rw [hb'] at q2; exact q2.elim
      | some env3 =>
        rw [hb'] at q2
        refine pat_ok (vs := []) pt ds[i] x σ2 env2 env3 _ rs3 r3 hb' fun σ4 w4 _ => ?_
        have q2 := fl_grow (w2.wd.grow e3) q2
        dsimp only at q2
        have gr3 := gr.trans (w2.wd.grow e3)
        refine ⟨F3, ι2, env3, S2, w4, ?_⟩
        cases hm : m env3 S2 with
        | nx e' S' => rw [hm] at q2; exact fun σ5 H5 F5 ι5 w5 g5 => ⟨F5, ι5, e', S', w5, gr3.trans g5, fl_grow g5 q2⟩
        | ct e' S' => rw [hm] at q2; exact fun σ5 H5 F5 ι5 w5 g5 => ⟨F5, ι5, e', S', w5, gr3.trans g5, fl_grow g5 q2⟩
        | bk e' S' => rw [hm] at q2; exact q2
        | rt d S' => rw [hm] at q2; exact q2
        | ex c' ns' ds' e' S' => rw [hm] at q2; exact q2
        | bad => rw [hm] at q2; exact q2
    · have : i = ds.length := by omega
      subst this
      rw [List.drop_length] at q2
      exact .inl ⟨st rfl, q2 σ2 H2 F2 ι2 w2 Grow.refl⟩⟩
def whileN (p : Ex Bool) (m : Sm) : Nat → Sm
  | 0, _, _ => .bad
  | n + 1, env, S => (p env S).go env fun b S1 => if b = true then match m env S1 with
      | .nx e S' => whileN p m n e S'
      | .ct e S' => whileN p m n e S'
      | .bk e S' => .nx e S'
      | r => r
    else .nx env S1
theorem s_while (n : Nat) {body : List Stmt} (hp : PassesOwn (model X.prog X.w) X.A X.env X.xe) (hc : VT X E c p) (hb : VB X E body m) : VS X E (.While c body [] pos) (whileN p m n) := fun g => (ps_while hp (hc g) (hb g)).imp fun D σ H ⟨F, ι, env, S, w, q⟩ => by
  refine ⟨fun k σ' H' => ∃ F' ι' env' S', RS X.K X.mg g σ' H' F' ι' env' S' ∧ flAt X.K X.mg g E H' F' ι' D (whileN p m k env' S'), ⟨n, F, ι, env, S, w, q⟩, ?_⟩
  rintro k σ2 H2 ⟨F2, ι2, env2, S2, w2, q2⟩
  cases k with
  | zero => exact q2.elim
  | succ k =>
    unfold whileN at q2
    refine ⟨F2, ι2, env2, S2, w2, rd_mono (rd_go w2.wd q2) ?_⟩
    rintro b H3 F3 ι3 S3 - e3 w3 ⟨_, _, q3⟩
    cases b with
    | false => exact q3 σ2 H3 F3 ι3 w3 Grow.refl
    | true =>
      refine ⟨fun σ' H' => ∃ F' ι' env' S', RS X.K X.mg g σ' H' F' ι' env' S' ∧ flAt X.K X.mg g E H' F' ι' D (whileN p m k env' S'), fun σ' H' z => ⟨k, Nat.lt_succ_self k, z⟩, F3, ι3, env2, S3, w3, ?_⟩
      rw [if_pos rfl] at q3
      cases hm : m env2 S3 with
      | nx e' S' => rw [hm] at q3; exact fun σ5 H5 F5 ι5 w5 g5 => ⟨F5, ι5, e', S', w5, fl_grow g5 q3⟩
      | ct e' S' => rw [hm] at q3; exact fun σ5 H5 F5 ι5 w5 g5 => ⟨F5, ι5, e', S', w5, fl_grow g5 q3⟩
      | bk e' S' => rw [hm] at q3; exact q3
      | rt d S' => rw [hm] at q3; exact q3
      | ex c' ns' ds' e' S' => rw [hm] at q3; exact q3
      | bad => rw [hm] at q3; exact q3
end

/-! ### a def by its mirror -/
def startE (n : Nat) (ds : List D) : List Sl := ds.map .val ++ List.replicate (n - ds.length) .un
/-- n slots -/
def mDef (n : Nat) (m : Sm) : Fn := fun ds S => match m (startE n ds) S with
  | .nx _ S' => .ok .non S'
  | .rt d S' => .ok d S'
  | .ex c ns es _ S' => .ex c ns es S'
  | _ => .bad
theorem start_rs {K : PySem.W.Frag} {mg : Str → Option Value} {F : Fz} {ι : List Addr} {H : Hp} {N : List Str} {ds : List D} {vs : List V} {S : List Cell} (w : Wd K mg F ι H S) (r : Reps K mg F ι H ds vs) :
    RS K mg ⟨H, F, ι⟩ (start N vs) H F ι (startE N.length ds) S := by
  have hl := r.len
  have noown : ∀ (i : Nat) xs, (startE N.length ds)[i]? ≠ some (.own xs) := fun i xs h => by
    unfold startE at h
    have hm := List.mem_of_getElem? h
    rcases List.mem_append.mp hm with z | z
    · obtain ⟨d, _, e⟩ := List.mem_map.mp z
      cases e
    · cases (List.mem_replicate.mp z).2
  refine ⟨w, Ext.refl, ?_, fun i d h => ?_, fun i xs h => absurd h (noown i xs), fun i j a di dj h _ _ _ => absurd h (noown i di)⟩
  · unfold L2.start startE
    simp [hl]
  · unfold startE at h
    unfold L2.start
    by_cases hi : i < ds.length
    · rw [List.getElem?_append_left (by simpa using hi), List.getElem?_map] at h
      rw [List.getElem?_append_left (by simpa [hl] using hi), List.getElem?_map]
      rw [List.getElem?_eq_getElem hi] at h
      have h' : ds[i] = d := by simpa using h
      obtain ⟨v, h1, h2⟩ := r.get (List.getElem?_eq_getElem hi)
      exact ⟨v, by rw [h1]; rfl, by rw [← h']; exact h2⟩
    · rw [List.getElem?_append_right (by simpa using hi)] at h
      have := List.mem_of_getElem? h
      cases (List.mem_replicate.mp this).2
section
variable {P : Program} {w : World} {K : PySem.W.Frag} {mg : Str → Option Value} {base : Heap}
/-- a def's body by its mirror: the def keeps the mirror's promise -/
theorem fnM {x qual : Str} {st : Stmt} {f : Addr} {fd : FuncData} {N ps : List Str} {k n : Nat} {m : Sm} (F : Fun K x qual st f fd) (S : FnScope N ps (defScope st)) (hn : ps.length = n)
    (hb : ∀ (cd : Value) (A : Around) (outer : List Env) (s : Shared) (H : Hp) (E : XK), Rm k (A.deeper (envOfC qual (defScope st) s.heap.objs.size f cd)) →
      VB (cxOf (L2N.CX P w) P w K mg base N qual (defScope st) f cd A outer s H E) (fun _ => E) (defBody st) m) :
    FnG P w K mg base (k + 1) f fd ps (SpM K mg n (mDef N.length m)) := by
  refine fnG F S (fun vs H Q E h => h.1.trans hn.symm) fun cd A outer s H vs Q E rm h => ?_
  obtain ⟨hl, F, ι, ds, S', wd, r, q⟩ := h
  refine ⟨_, hb cd A outer s H E rm ⟨H, F, ι⟩, F, ι, startE N.length ds, S', start_rs wd r, ?_⟩
  unfold mDef at q
  cases hm : m (startE N.length ds) S' with
  | nx e S1 => rw [hm] at q; exact fun σ' H' F' ι' w' _ => q .non H' F' ι' w'.ext w'.wd rfl
  | rt d S1 => rw [hm] at q; exact fun v H' F' ι' e w' hv => q v H' F' ι' e w' hv
  | ex c ns es e1 S1 => rw [hm] at q; exact fun σ' C d H' F' ι' hc w' _ hd => q C d H' F' ι' hc w'.ext w'.wd hd
  | bk e S1 => rw [hm] at q; exact q.elim
  | ct e S1 => rw [hm] at q; exact q.elim
  | bad => rw [hm] at q; exact q.elim
/-- within a def's body: what callees let out is taken -/
theorem px_def {N : List Str} {qual : Str} {sc : Scope} {f : Addr} {cd : Value} {A : Around} {outer : List Env} {s : Shared} {H : Hp} {E : XK} :
    Px (cxOf (L2N.CX P w) P w K mg base N qual sc f cd A outer s H E) (fun _ => E) := px_of (L2N.takes_of rfl rfl rfl rfl)
theorem po_def {N : List Str} {qual : Str} {sc : Scope} {f : Addr} {cd : Value} {A : Around} {outer : List Env} {s : Shared} {H : Hp} {E : XK} :
    PassesOwn (model P w) (cxOf (L2N.CX P w) P w K mg base N qual sc f cd A outer s H E).A (cxOf (L2N.CX P w) P w K mg base N qual sc f cd A outer s H E).env (cxOf (L2N.CX P w) P w K mg base N qual sc f cd A outer s H E).xe := passes_of rfl
end
end DL

/-! DLf: comprehensions; what is walked. -/
namespace DL
open PySem PySem.Spec L2
open PyProof.Rows hiding St

def wipeE (env : List Sl) : List Nat → List Sl
  | [] => env
  | v :: vs => (wipeE env vs).set v .un
def noX {α : Type} : Rs α → Rs α
  | .ok a S => .ok a S
  | _ => .bad
@[simp] theorem noX_ok {α : Type} (a : α) (S : List Cell) : noX (.ok a S) = .ok a S := rfl
def compL (vs : List Nat) (p : Pat) (cond : Ex Bool) (elt : Ex D) : List D → Ex (List D)
  | [], _, S => .ok [] S
  | d :: ds, env, S => match bindP p d (wipeE env vs) with
    | none => .bad
    | some env1 => (noX (cond env1 S)).andThen fun b S1 => if b = true then (noX (elt env1 S1)).andThen fun x S2 => (compL vs p cond elt ds env S2).andThen fun xs S3 => .ok (x :: xs) S3
      else compL vs p cond elt ds env S1
def mComp (it : Ex (List D)) (vs : List Nat) (p : Pat) (cond : Ex Bool) (elt : Ex D) : Ex (List D) := fun env S => (it env S).andThen fun ds S1 => if ds.length ≤ 100000 then noX (compL vs p cond elt ds env S1) else .bad
def mYes : Ex Bool := fun _ S => .ok true S

section
variable {K : PySem.W.Frag} {mg : Str → Option Value} {g : Snap} {σ : St} {H H' : Hp} {F F' : Fz} {ι ι' : List Addr} {env : List Sl} {S S' : List Cell}
theorem RS.wiped (r : RS K mg g σ H F ι env S) : ∀ vs : List Nat, RS K mg g (wipe σ vs) H F ι (wipeE env vs) S
  | [] => r
  | v :: vs => (RS.wiped r vs).forget v none
theorem wipe_in {σ : St} {i : Nat} : ∀ {vs : List Nat}, i ∈ vs → (wipe σ vs)[i]? = (σ[i]?).map fun _ => none
  | v :: vs, h => by
    unfold wipe
    rw [List.getElem?_set]
    by_cases e : v = i
    · subst e
      rw [if_pos rfl, wipe_length]
      by_cases hl : v < σ.length
      · rw [if_pos hl, List.getElem?_eq_getElem hl]; rfl
      · rw [if_neg hl, List.getElem?_eq_none (by omega)]; rfl
    · rw [if_neg e]
      exact wipe_in ((List.mem_cons.mp h).resolve_left fun z => e z.symm)
theorem wipe_same {vs : List Nat} {σ σ' : St} (h : SameBut vs (wipe σ vs) σ') : wipe σ' vs = wipe σ vs := by
  refine List.ext_getElem? fun i => ?_
  by_cases hi : i ∈ vs
  · have hl : σ.length = σ'.length := by have := h.1; rw [wipe_length] at this; exact this
    rw [wipe_in hi, wipe_in hi]
    by_cases z : i < σ.length
    · rw [List.getElem?_eq_getElem z, List.getElem?_eq_getElem (by omega)]; rfl
    · rw [List.getElem?_eq_none (by omega), List.getElem?_eq_none (by omega)]
  · rw [wipe_out hi, h.2 i hi]
theorem lc_imp {E : EE} {it : Ex (List D)} {vs : List Nat} {p : Pat} {cond : Ex Bool} {elt : Ex D} (hp : patIn p vs = true) : ∀ σ H Q, tO K mg g E (mComp it vs p cond elt) σ H Q →
    tLc (tI K mg g E it) (gPat K p) (tT K mg g EX0 cond) (tV K mg g EX0 elt) vs σ H Q := by
  rintro σ H Q ⟨F, ι, env, S, w, q⟩
  refine ⟨F, ι, env, S, w, rd_mono (rd_then q) ?_⟩
  rintro ds H1 F1 ι1 S1 - e1 w1 ⟨_, _, q1⟩ J hJ L hL
  by_cases hlen : ds.length ≤ 100000
  case neg => rw [if_neg hlen] at q1; exact q1.elim
  rw [if_pos hlen] at q1
  cases hc : compL vs p cond elt ds env S1 with
  | bad => rw [hc] at q1; exact q1.elim
  | ex c ns es S2 => rw [hc] at q1; exact q1.elim
  | ok all Sf =>
    rw [hc] at q1
    refine ⟨fun i m H2 => m = ds.length - i ∧ i ≤ ds.length ∧ ∃ F2 ι2 S2 acc avs xs, Ext H1 F1 ι1 H2 F2 ι2 ∧ Wd K mg F2 ι2 H2 S2 ∧ H2 L = some (.lst avs) ∧ Reps K mg F2 ι2 H2 acc avs ∧ ¬ F2 L ∧ L ∉ ι2 ∧ acc.length ≤ i ∧
      compL vs p cond elt (ds.drop i) env S2 = .ok xs Sf ∧ acc ++ xs = all, ?_, ?_⟩
    · obtain ⟨e', w'⟩ := w1.wd.layO (o := .lst []) hL
      exact ⟨ds.length, rfl, Nat.zero_le _, F1, ι1, S1, [], [], all, e', w', upd_same, rfl, fun z => w1.wd.fin L z hL, fun z => w1.wd.cell_ne z hL, Nat.le_refl _, hc, rfl⟩
    rintro i m H2 ⟨rfl, hi, F2, ι2, S2, acc, avs, xs, e2, wd2, hL2, ra, nF, nι, hal, hcs, hx⟩
    have w2 := w1.step e2 wd2
    obtain ⟨st, go⟩ := hJ F2 ι2 H2 S2 wd2 (w1.wd.grow e2) i
    by_cases hlt : i < ds.length
    · obtain ⟨hgo, hy⟩ := go _ (List.getElem?_eq_getElem hlt)
      rw [List.drop_eq_getElem_cons hlt] at hcs
      unfold compL at hcs
      cases hb : bindP p ds[i] (wipeE env vs) with
      | none => rw [hb] at hcs; cases hcs
      | some env1 =>
        rw [hb] at hcs
        dsimp only at hcs
        refine .inr ⟨hgo, fun H' => ∃ F' ι' S' acc' avs' xs', Ext H1 F1 ι1 H' F' ι' ∧ Wd K mg F' ι' H' S' ∧ H' L = some (.lst avs') ∧ Reps K mg F' ι' H' acc' avs' ∧ ¬ F' L ∧ L ∉ ι' ∧ acc'.length ≤ i + 1 ∧
          compL vs p cond elt (ds.drop (i + 1)) env S' = .ok xs' Sf ∧ acc' ++ xs' = all, fun H' n => ⟨ds.length - (i + 1), by omega, rfl, hlt, n⟩, fun x H3 y => ?_⟩
        obtain ⟨F3, e3, wd3, r3⟩ := hy x H3 y
        have w3 := (w2.step e3 wd3).wiped vs
        refine pat_ok (vs := vs) p ds[i] x _ _ env1 _ w3 r3 hb fun σ4 w4 sm => ⟨wipe_same (sm hp), ?_⟩
        have keepL : ∀ {H' F' ι'}, Ext H3 F3 ι2 H' F' ι' → H' L = some (.lst avs) ∧ ¬ F' L ∧ L ∉ ι' := fun {H' F' ι'} e => by
          have h3 : H3 L = some (.lst avs) := e3.keep L _ hL2 (.inr nι)
          have nF3 : ¬ F3 L := fun z => (e3.new L z).elim nF fun z => by rw [hL2] at z; cases z
          refine ⟨e.keep L _ h3 (.inr nι), fun z => (e.new L z).elim nF3 fun z => ?_, fun z => (e.cnew L z).elim nι fun z => ?_⟩ <;> (rw [h3] at z; cases z)
        cases hcd : cond env1 S2 with
        | bad => rw [hcd] at hcs; cases hcs
        | ex c ns es S5 => rw [hcd] at hcs; cases hcs
        | ok b S4 =>
          rw [hcd] at hcs
          refine ⟨F3, ι2, env1, S2, w4, ?_⟩
          rw [hcd]
          intro H4 F4 ι4 e4 w5
          cases b with
          | false =>
            rw [if_neg Bool.false_ne_true]
            obtain ⟨h4, nF4, nι4⟩ := keepL e4
            exact ⟨F4, ι4, S4, acc, avs, xs, (e2.trans e3).trans e4, w5.wd, h4, w4.wd.reps e4 (w2.wd.reps e3 ra), nF4, nι4, by omega, by simpa using hcs, hx⟩
          | true =>
            rw [if_pos rfl]
            rw [noX_ok, andThen_ok, if_pos rfl] at hcs
            cases hel : elt env1 S4 with
            | bad => rw [hel] at hcs; cases hcs
            | ex c ns es S6 => rw [hel] at hcs; cases hcs
            | ok x' S5 =>
              rw [hel, noX_ok, andThen_ok] at hcs
              refine ⟨F4, ι4, env1, S4, w5, ?_⟩
              rw [hel]
              intro H5 F5 ι5 e5 w6 v hv
              obtain ⟨h5, nF5, nι5⟩ := keepL (e4.trans e5)
              cases hr : compL vs p cond elt (ds.drop (i + 1)) env S5 with
              | bad => rw [hr] at hcs; cases hcs
              | ex c ns es S6 => rw [hr] at hcs; cases hcs
              | ok xs' S6 =>
                rw [hr, andThen_ok] at hcs
                cases hcs
                have ra5 := w5.wd.reps e5 (w4.wd.reps e4 (w2.wd.reps e3 ra))
                refine ⟨avs, h5, ?_, F5, ι5, S5, acc ++ [x'], avs ++ [v], xs', ?_, w6.wd.updO nF5 nι5, upd_same, reps_mono (fun _ h => h) (stay_upd nF5) (List.prefix_refl _) _ _ (ra5.app (.one hv)), nF5, nι5, ?_, hr, ?_⟩
                · rw [ra.len]
                  exact Nat.lt_of_le_of_lt hal (Nat.lt_of_lt_of_le hlt (Nat.le_trans hlen (by decide)))
                · exact ext_upd (((e2.trans e3).trans e4).trans e5) hL (by rw [h5]; simp)
                · rw [List.length_append]; simpa using hal
                · rw [List.append_assoc]; exact hx
    · have : i = ds.length := by omega
      subst this
      rw [List.drop_length] at hcs
      cases hcs
      rw [List.append_nil] at hx
      subst hx
      exact .inl ⟨st rfl, (q1 H2 F2 ι2 e2 w2).2.2 L avs hL2 ra nF nι (e1.mono L hL)⟩
end

section
variable {X : Cx} {E : EE} {elt tg iter : Expr} {ifs : List Expr} {scope : Scope} {own : List (Str × Nat)} {pos spos : Pos} {it : Ex (List D)} {p : Pat} {cond : Ex Bool} {f : Ex D}
def VTs (X : Cx) (E : EE) (es : List Expr) (p : Ex Bool) : Prop := ∀ g, PTs X es (tT X.K X.mg g E p)
theorem ts_nil : VTs X E [] mYes := fun g => ⟨fun pins s σ H Q I ⟨F, ι, env, S, w, q⟩ => pts_nil.run pins s σ H Q I (q H F ι Ext.refl w)⟩
theorem ts_one {c : Expr} {q : Ex Bool} (h : VT X E c q) : VTs X E [c] q := fun g => pts_one (h g)
theorem o_lc (hc : X.calm = true) (hN : X.N.Nodup) (hp : patIn p (own.map (·.2)) = true) (hi : VI X E tg iter it) (ok : BlkOk X.N X.env.scope scope own)
    (hg : ∀ (s : Shared) (H : Hp) (C : Addr) (cl : List (Str × Addr)) (fp : List Addr), PG (X.blk s H scope (compEnvC scope cl C X.env) fp) tg (gPat X.K p))
    (ht : ∀ (s : Shared) (H : Hp) (C : Addr) (cl : List (Str × Addr)) (fp : List Addr), VTs (X.blk s H scope (compEnvC scope cl C X.env) fp) EX0 ifs cond)
    (he : ∀ (s : Shared) (H : Hp) (C : Addr) (cl : List (Str × Addr)) (fp : List Addr), VE (X.blk s H scope (compEnvC scope cl C X.env) fp) EX0 elt f)
    (hs : ∀ x, foldedSetIterable iter X.env x = pure x := by intro _; rfl) : VO X E (.ListComp elt [⟨tg, iter, ifs, 0⟩] scope pos) (mComp it (own.map (·.2)) p cond f) := fun g =>
  (pe_lc hc hN (hi g) ok hg (fun s H C cl fp => ht s H C cl fp g) (fun s H C cl fp => he s H C cl fp g) hs).imp (lc_imp hp)
/-- x = [..]: as a value, as a list of one's own -/
theorem s_setLcO (i : Nat) {y : Str} {py : Pos} (hc : X.calm = true) (hN : X.N.Nodup) (hp : patIn p (own.map (·.2)) = true) (hi : VI X E tg iter it) (ok : BlkOk X.N X.env.scope scope own)
    (hg : ∀ (s : Shared) (H : Hp) (C : Addr) (cl : List (Str × Addr)) (fp : List Addr), PG (X.blk s H scope (compEnvC scope cl C X.env) fp) tg (gPat X.K p))
    (ht : ∀ (s : Shared) (H : Hp) (C : Addr) (cl : List (Str × Addr)) (fp : List Addr), VTs (X.blk s H scope (compEnvC scope cl C X.env) fp) EX0 ifs cond)
    (he : ∀ (s : Shared) (H : Hp) (C : Addr) (cl : List (Str × Addr)) (fp : List Addr), VE (X.blk s H scope (compEnvC scope cl C X.env) fp) EX0 elt f)
    (hy : X.N[i]? = some y := by rfl) (hyl : X.env.scope.names.lookup y = some .local := by rfl)
    (hsw : swapsWith (.ListComp elt [⟨tg, iter, ifs, 0⟩] scope pos) (some (.Name y py)) spos.line X.env = pure true := by exact sw_true rfl rfl rfl (by decide +kernel))
    (hs : ∀ x, foldedSetIterable iter X.env x = pure x := by intro _; rfl) : VS X E (.Assign [.Name y py] (.ListComp elt [⟨tg, iter, ifs, 0⟩] scope pos) spos) (mSetO i (mComp it (own.map (·.2)) p cond f)) := fun g =>
  (ps_setLc hc hN hy hyl hsw (hi g) ok hg (fun s H C cl fp => ht s H C cl fp g) (fun s H C cl fp => he s H C cl fp g) hs).imp fun D σ H q => lc_imp hp σ H _ (setO_imp D σ H q)
theorem s_setLc (i : Nat) {y : Str} {py : Pos} (hc : X.calm = true) (hN : X.N.Nodup) (hp : patIn p (own.map (·.2)) = true) (hi : VI X E tg iter it) (ok : BlkOk X.N X.env.scope scope own)
    (hg : ∀ (s : Shared) (H : Hp) (C : Addr) (cl : List (Str × Addr)) (fp : List Addr), PG (X.blk s H scope (compEnvC scope cl C X.env) fp) tg (gPat X.K p))
    (ht : ∀ (s : Shared) (H : Hp) (C : Addr) (cl : List (Str × Addr)) (fp : List Addr), VTs (X.blk s H scope (compEnvC scope cl C X.env) fp) EX0 ifs cond)
    (he : ∀ (s : Shared) (H : Hp) (C : Addr) (cl : List (Str × Addr)) (fp : List Addr), VE (X.blk s H scope (compEnvC scope cl C X.env) fp) EX0 elt f)
    (hy : X.N[i]? = some y := by rfl) (hyl : X.env.scope.names.lookup y = some .local := by rfl)
    (hsw : swapsWith (.ListComp elt [⟨tg, iter, ifs, 0⟩] scope pos) (some (.Name y py)) spos.line X.env = pure true := by exact sw_true rfl rfl rfl (by decide +kernel))
    (hs : ∀ x, foldedSetIterable iter X.env x = pure x := by intro _; rfl) : VS X E (.Assign [.Name y py] (.ListComp elt [⟨tg, iter, ifs, 0⟩] scope pos) spos) (mSet i (mFr (mComp it (own.map (·.2)) p cond f))) := fun g =>
  (s_setLcO i hc hN hp hi ok hg ht he hy hyl hsw hs g).imp fun D σ H ⟨F, ι, env, S, w, q⟩ => by
    refine ⟨F, ι, env, S, w, ?_⟩
    unfold mSet mFr at q
    unfold mSetO
    cases hm : mComp it (own.map (·.2)) p cond f env S with
    | bad => rw [hm] at q; exact q
    | ex c ns es S1 => rw [hm] at q; exact q
    | ok xs S1 =>
      rw [hm] at q
      intro σ' H' F' ι' w' gr
      by_cases hi' : i < env.length
      · obtain ⟨F2, w2, g2⟩ := w'.freeze (i := i) (ds := xs) (by simp [hi'])
        rw [List.set_set] at w2
        exact q σ' H' F2 ι' w2 (gr.trans g2)
      · have e1 : ∀ x : Sl, env.set i x = env := fun x => List.set_eq_of_length_le (by omega)
        rw [e1] at w'
        exact q σ' H' F' ι' (by rw [e1]; exact w') gr
/-! ### what is walked -/
variable {e a b : Expr} {h k : Ex D} {fa : Ex (List D)}
/-- a list's or a tuple's items -/
def itemsOf : D → List Cell → Rs (List D)
  | .lst xs, S => .ok xs S
  | .tup xs, S => .ok xs S
  | .ro xs, S => .ok xs S
  | _, _ => .bad
def mItems (f : Ex D) : Ex (List D) := fun env S => (f env S).andThen itemsOf
theorem walk_of_list {K : PySem.W.Frag} {mg : Str → Option Value} {F : Fz} {ι : List Addr} {H : Hp} {ds : List D} {a : Addr} {vs : List V} (h : ∀ {F2 : Fz} {H2 : Hp}, (∀ a, F a → F2 a) → Stay F H H2 → SqL K H2 a vs) (r : Reps K mg F ι H ds vs) : WalkD K mg F ι H (Itl K a) ds :=
  fun F2 ι2 H2 S2 wd gr i => by
    have h2 := h gr.sub gr.stay
    have r2 := reps_mono gr.sub gr.stay gr.pre ds vs r
    refine ⟨fun hi => ⟨vs, h2, Nat.le_of_eq (r.len.trans hi)⟩, fun d hd => ?_⟩
    obtain ⟨v, hv, rv⟩ := r2.get hd
    refine ⟨⟨vs, v, h2, hv⟩, fun x H3 y => ?_⟩
    obtain ⟨rfl, y⟩ := y
    have := y vs h2
    rw [hv] at this
    cases this
    exact ⟨F2, Ext.refl, wd, rv⟩
theorem walk_of_tup {K : PySem.W.Frag} {mg : Str → Option Value} {F : Fz} {ι : List Addr} {H : Hp} {ds : List D} {a : Addr} {vs : List V} (h : TupAt K F H a vs) (r : Reps K mg F ι H ds vs) : WalkD K mg F ι H (Itt K a) ds :=
  fun F2 ι2 H2 S2 wd gr i => by
    have h2 := (h.mono gr.sub gr.stay).sq
    have r2 := reps_mono gr.sub gr.stay gr.pre ds vs r
    refine ⟨fun hi => ⟨vs, h2, Nat.le_of_eq (r.len.trans hi)⟩, fun d hd => ?_⟩
    obtain ⟨v, hv, rv⟩ := r2.get hd
    refine ⟨⟨vs, v, h2, hv⟩, fun x H3 y => ?_⟩
    obtain ⟨rfl, y⟩ := y
    have := y vs h2
    rw [hv] at this
    cases this
    exact ⟨F2, Ext.refl, wd, rv⟩
theorem walk_of_range {K : PySem.W.Frag} {mg : Str → Option Value} {F : Fz} {ι : List Addr} {H : Hp} (lo : Int) (n : Nat) : WalkD K mg F ι H (Itr lo n) ((List.range n).map fun i => .int (lo + (i : Nat))) :=
  fun F2 ι2 H2 S2 wd gr i => by
    refine ⟨fun hi => Nat.le_of_eq (by simpa using hi : n = i), fun d hd => ?_⟩
    rw [List.getElem?_map] at hd
    by_cases hi : i < n
    · rw [List.getElem?_range hi] at hd
      cases hd
      exact ⟨hi, fun x H3 ⟨e1, e2⟩ => by subst e1; subst e2; exact ⟨F2, Ext.refl, wd, rfl⟩⟩
    · rw [List.getElem?_eq_none (by simpa using hi)] at hd; cases hd
theorem _root_.L2.PI.or {tg iter : Expr} {t t' : TI} (h1 : PI X tg iter t) (h2 : PI X tg iter t') : PI X tg iter (fun σ H R => t σ H R ∨ t' σ H R) :=
  ⟨fun pins s σ H R I q => q.elim (h1.run pins s σ H R I) (h2.run pins s σ H R I)⟩
theorem i_seq {l : Expr} {f : Ex D} (he : VE X E l f) : VI X E tg l (mItems f) := fun g => ((pi_list (he g)).or (pi_tup (he g))).imp fun σ H R ⟨F, ι, env, S, w, q⟩ => by
  unfold mItems at q
  cases hf : f env S with
  | bad => rw [hf] at q; exact q.elim
  | ex c ns es S1 => exact .inl ⟨F, ι, env, S, w, by rw [hf] at q ⊢; exact q⟩
  | ok d S1 =>
    rw [hf] at q
    cases d with
    | lst xs =>
      refine .inl ⟨F, ι, env, S, w, ?_⟩
      rw [hf]
      intro H1 F1 ι1 e1 w1 v hv
      obtain ⟨a, vs, rfl, hl, hr⟩ := hv
      exact ⟨a, rfl, ⟨vs, hl.sq⟩, q H1 F1 ι1 e1 w1 _ (walk_of_list (fun h1 h2 => (hl.mono h1 h2).sq) hr)⟩
    | ro xs =>
      refine .inl ⟨F, ι, env, S, w, ?_⟩
      rw [hf]
      intro H1 F1 ι1 e1 w1 v hv
      obtain ⟨a, vs, rfl, hl, hr⟩ := hv
      exact ⟨a, rfl, ⟨vs, hl.sq⟩, q H1 F1 ι1 e1 w1 _ (walk_of_list (fun h1 h2 => (hl.mono h1 h2).sq) hr)⟩
    | tup xs =>
      refine .inr ⟨F, ι, env, S, w, ?_⟩
      rw [hf]
      intro H1 F1 ι1 e1 w1 v hv
      obtain ⟨a, vs, rfl, hl, hr⟩ := hv
      exact ⟨a, rfl, ⟨vs, hl.sq⟩, q H1 F1 ι1 e1 w1 _ (walk_of_tup hl hr)⟩
    | _ => exact q.elim
/-- range -/
def smallI (i : Int) : Bool := decide (-1000000000 ≤ i ∧ i ≤ 1000000000)
def range1D : List D → List Cell → Rs (List D)
  | [.int j], S => if smallI j then .ok ((List.range j.toNat).map fun i => .int (i : Nat)) S else .bad
  | _, _ => .bad
def range2D : List D → List Cell → Rs (List D)
  | [.int i, .int j], S => if smallI i && smallI j then .ok ((List.range (j - i).toNat).map fun k => .int (i + (k : Nat))) S else .bad
  | _, _ => .bad
/-- range(i, j, -1) -/
def rangeBD : List D → List Cell → Rs (List D)
  | [.int i, .int j, .int c], S => if smallI i && smallI j && c == -1 then .ok ((List.range (i - j).toNat).map fun k => .int (i - (k : Nat))) S else .bad
  | _, _ => .bad
def mRange1 (fa : Ex (List D)) : Ex (List D) := fun env S => (fa env S).andThen range1D
def mRange2 (fa : Ex (List D)) : Ex (List D) := fun env S => (fa env S).andThen range2D
def mRangeB (fa : Ex (List D)) : Ex (List D) := fun env S => (fa env S).andThen rangeBD
theorem small_of {i : Int} (h : smallI i = true) : -(2 ^ 62) ≤ i ∧ i < 2 ^ 62 := by
  have := of_decide_eq_true h
  omega
theorem i_range1 {p : Pos} (hm : X.mg "range" = none) (ha : VA X E [a] fa) (hg : Gl X "range" := by rfl) (hs : starEach [a] X.env = [(false, eval a X.env)] := by rfl) : VI X E tg (.Call (.Name "range" p) [a] [] pos) (mRange1 fa) := fun g =>
  (pi_range1 hg hm (ha g) hs).imp fun σ H R ⟨F, ι, env, S, w, q⟩ => ⟨F, ι, env, S, w, rd_mono (rd_then q) fun xs H1 F1 ι1 S1 hx e1 w1 ⟨_, _, q1⟩ vs hvs => by
    unfold range1D at q1
    split at q1
    · obtain ⟨v, r, rfl, rfl, rfl⟩ := hvs
      split at q1
      · rename_i j S1 hj
        obtain ⟨h1, h2⟩ := small_of hj
        refine ⟨j, rfl, h1, h2, (q1 H1 F1 ι1 Ext.refl w1).2.2 _ ?_⟩
        have := walk_of_range (K := X.K) (mg := X.mg) (F := F1) (ι := ι1) (H := H1) 0 j.toNat
        simpa only [Int.zero_add] using this
      · exact q1.elim
    · exact q1.elim⟩
theorem i_range2 {p : Pos} (hm : X.mg "range" = none) (ha : VA X E [a, b] fa) (hg : Gl X "range" := by rfl) (hs : starEach [a, b] X.env = [(false, eval a X.env), (false, eval b X.env)] := by rfl)
    (hs2 : starEach [b] X.env = [(false, eval b X.env)] := by rfl) : VI X E tg (.Call (.Name "range" p) [a, b] [] pos) (mRange2 fa) := fun g =>
  (pi_range2 hg hm (ha g) hs hs2).imp fun σ H R ⟨F, ι, env, S, w, q⟩ => ⟨F, ι, env, S, w, rd_mono (rd_then q) fun xs H1 F1 ι1 S1 hx e1 w1 ⟨_, _, q1⟩ vs hvs => by
    unfold range2D at q1
    split at q1
    · obtain ⟨v, r, rfl, rfl, v2, r2, rfl, rfl, rfl⟩ := hvs
      split at q1
      · rename_i i j S1 hj
        rw [Bool.and_eq_true] at hj
        obtain ⟨h1, h2⟩ := small_of hj.1
        obtain ⟨h3, h4⟩ := small_of hj.2
        exact ⟨i, j, rfl, ⟨h1, h2, h3, h4⟩, (q1 H1 F1 ι1 Ext.refl w1).2.2 _ (walk_of_range i (j - i).toNat)⟩
      · exact q1.elim
    · exact q1.elim⟩
end
end DL

/-! DLg: enumerate and zip over lists and tuples alike. -/
namespace DL
open PySem PySem.Spec L2
open PyProof.Rows hiding St

/-- a sequence that is read: a tuple (b), a list -/
def SqX (b : Bool) (K : PySem.W.Frag) (H : Hp) (a : Addr) (xs : List V) : Prop := if b = true then SqT K H a xs else SqL K H a xs
def AtX (b : Bool) (h : Heap) (a : Addr) (its : Array Value) : Prop := if b = true then h.IsTuple a its else h.IsList a its
def ItX (b : Bool) (h : Heap) (it a : Addr) (i : Nat) : Prop := if b = true then h.IsTupleIter it a i else h.IsListIter it a i
def itO (b : Bool) (a : Addr) : Obj := if b = true then { cls := .type "tuple_iterator", data := .fields #[.ref a, .int 0 0] } else { cls := .type "list_iterator", data := .fields #[.ref a, .int 0 0] }
section
variable {b : Bool} {h h' : Heap} {a it : Addr} {its : Array Value} {i : Nat}
theorem AtX.obj (x : AtX b h a its) : ∃ o, h.get? a = some o ∧ o.cls = .type (if b = true then "tuple" else "list") := by
  cases b
  · obtain ⟨o, e, c, _⟩ := (show h.IsList a its from x); exact ⟨o, e, c⟩
  · obtain ⟨o, e, c, _⟩ := (show h.IsTuple a its from x); exact ⟨o, e, c⟩
theorem ItX.obj (x : ItX b h it a i) : ∃ o, h.get? it = some o ∧ o.cls = .type (if b = true then "tuple_iterator" else "list_iterator") ∧ ∃ vs, o.data = .fields vs := by
  cases b
  · obtain ⟨o, e, c, d⟩ := (show h.IsListIter it a i from x); exact ⟨o, e, c, _, d⟩
  · obtain ⟨o, e, c, d⟩ := (show h.IsTupleIter it a i from x); exact ⟨o, e, c, _, d⟩
theorem ItX.at (x : ItX b h it a i) (k : ∀ o, h.get? it = some o → h'.get? it = some o) : ItX b h' it a i := by
  cases b
  · exact (show h.IsListIter it a i from x).at k
  · exact (show h.IsTupleIter it a i from x).at k
theorem AtX.keeps (x : AtX b h a its) (k : ∀ b o, h.get? b = some o → h'.get? b = some o) : AtX b h' a its := by
  cases b
  · exact (show h.IsList a its from x).at fun o e => k a o e
  · exact (show h.IsTuple a its from x).at fun o e => k a o e
theorem ItX.apart {b' : Bool} {c : Addr} (x : ItX b h it a i) (y : AtX b' h c its) : c ≠ it := fun z => by
  obtain ⟨o, e, k, _⟩ := x.obj
  obtain ⟨o', e', k'⟩ := y.obj
  rw [z, e] at e'
  cases e'
  rw [k] at k'
  cases b <;> cases b' <;> simp at k'
theorem begX (b : Bool) (a : Addr) (its : Array Value) : Begins (.ref a) (itO b a) fun h => AtX b h a its := by
  cases b
  · exact begins_list a its
  · exact begins_tuple a its
theorem itX_new {h : Heap} {it : Addr} (e : h.get? it = some (itO b a)) : ItX b h it a 0 := by
  cases b
  · exact ⟨_, e, rfl, rfl⟩
  · exact ⟨_, e, rfl, rfl⟩
theorem drawX (b : Bool) {prog : Program} {w : World} {A : Around} (hh : A.handled = none) (it a : Addr) (hne : a ≠ it) (its : Array Value) :
    Draws prog w A it [it, a] its.size (fun i v => its[i]? = some v) (fun i h => ItX b h it a i ∧ AtX b h a its) := by
  cases b
  · exact Draws.list hh it a hne its
  · exact Draws.tuple hh it a hne its
end
theorem seqX {X : Cx} {pins : List (Addr × Obj)} {σ : St} {H : Hp} {s : Shared} {b : Bool} {a : Addr} {xs : List V} (I : Inv X pins σ H s) (h : SqX b X.K H a xs) : ∃ its : List Value, Vals xs its ∧ AtX b s.heap a its.toArray := by
  cases b
  · obtain ⟨its, r, p, _⟩ := I.list (show SqL X.K H a xs from h); exact ⟨its, r, p.isList⟩
  · obtain ⟨its, r, p, _⟩ := I.tuple (show SqT X.K H a xs from h); exact ⟨its, r, p⟩
theorem seqX_inj {X : Cx} {pins : List (Addr × Obj)} {σ : St} {H : Hp} {s : Shared} {b : Bool} {a : Addr} {xs ys : List V} (I : Inv X pins σ H s) (h : SqX b X.K H a xs) (h' : SqX b X.K H a ys) : xs = ys := by
  cases b
  · exact I.list_inj h h'
  · exact I.tuple_inj h h'
/-- an iterator's own object is none of what is walked -/
theorem fp_far {X : Cx} {pins : List (Addr × Obj)} {σ : St} {H : Hp} {s : Shared} {b : Bool} {a c : Addr} {xs : List V} (I : Inv X pins σ H s) (f : FpOk X pins H c) (h : SqX b X.K H a xs) (e : c = a) : False := by
  subst e
  obtain ⟨f0, _, _, f3, _⟩ := f
  have kb : ∀ o, X.K.lookup c = some o → False := fun o ho => by
    have hb := I.ok.mod.kin c o ho
    rcases f3 with z | z
    · exact I.ok.noex c o hb z
    · exact absurd (Nat.lt_of_lt_of_le (Heap.lt_size hb) (Nat.le_trans I.ok.bsz z)) (Nat.lt_irrefl _)
  cases b
  · rcases (show SqL X.K H c xs from h) with (q | ⟨_, q⟩) | ⟨o, _, _, ho, _⟩
    · rw [f0] at q; cases q
    · rw [f0] at q; cases q
    · exact kb o ho
  · rcases (show SqT X.K H c xs from h) with (q | ⟨_, q⟩) | ⟨o, _, _, ho, _⟩
    · rw [f0] at q; cases q
    · rw [f0] at q; cases q
    · exact kb o ho
theorem mem_two {α : Type} {x a b : α} (h : x ∈ [a, b]) : x = a ∨ x = b := by simpa using h
/-- enumerate over such -/
def EnX (b : Bool) (K : PySem.W.Frag) (a : Addr) : It where
  go := fun i H => ∃ (xs : List V) (x : V), SqX b K H a xs ∧ xs[i]? = some x
  yld := fun i H v H' => ∃ T x, v = .ref T ∧ H T = none ∧ H' = upd H T (.tup [.int (i : Nat), x]) ∧ ∀ xs, SqX b K H a xs → xs[i]? = some x
  stop := fun i H => ∃ xs : List V, SqX b K H a xs ∧ xs.length = i
theorem turn_enX {b : Bool} {P : Program} {w : World} {K : PySem.W.Frag} {elts : List Expr} {kk : Nat} {tpos : Pos} (a e it : Addr) :
    Turn P w K (.Tuple elts kk tpos) (EnX b K a) [e, it] e (fun i h => (∃ old, IsEnum h e it ((i : Nat) : Int) old) ∧ ItX b h it a i ∧ e ≠ it) where
  mem := List.mem_cons_self
  obj := fun i h ⟨⟨old, he⟩, hi, _⟩ c hc => by
    rcases mem_two hc with rfl | rfl
    · exact ⟨_, he, fun v q => nomatch q⟩
    · obtain ⟨o, ho, _, vs, hd⟩ := hi.obj
      exact ⟨o, ho, fun v q => by rw [hd] at q; cases q⟩
  keep := fun i h h' ⟨⟨old, he⟩, hi, ne⟩ k => ⟨⟨old, k e List.mem_cons_self _ he⟩, hi.at fun o q => k it (List.mem_cons_of_mem _ List.mem_cons_self) o q, ne⟩
  item := by
    intro X e1 e2 e3 hc i pins s σ H E I hf st hg
    subst e1 e2 e3
    obtain ⟨⟨old, he⟩, hi, ne⟩ := st
    obtain ⟨xs, x, hq, hx⟩ := hg
    obtain ⟨its, rv, p⟩ := seqX I hq
    obtain ⟨u, hu, ru⟩ := rv.get hx
    have l1 : e < s.heap.objs.size := Heap.lt_size he
    have l2 : it < s.heap.objs.size := by obtain ⟨_, q, _⟩ := hi.obj; exact Heap.lt_size q
    have hea : e ≠ a := fun z => by
      obtain ⟨o, ho, hc⟩ := p.obj
      rw [← z, he] at ho
      cases ho
      cases b <;> simp at hc
    have hlt : i < its.toArray.size := by simpa using (List.getElem?_eq_some_iff.mp hu).1
    refine wpAny_pyNext_enum_itemC (drawX b (A := X.A.in1) (I.ok.hd hc) it a (hi.apart p) its.toArray) he ⟨hi, p⟩ hlt ne (by simp [ne, hea]) fun x' h' tk hx' ho hit' hT hsz hk => ?_
    have : x' = u := by
      have hx' : its.toArray[i]? = some x' := hx'
      rw [List.getElem?_toArray, hu] at hx'
      exact (Option.some.inj hx').symm
    subst this
    refine ⟨_, rfl, wpAny_letOwnedTupleGo_enum (s := { s with heap := h', toks := tk + 1 }) ho fun h'' he' sb => ?_⟩
    have hT2 : h''.get? s.heap.objs.size = some { cls := .type "tuple", data := .seq #[.int i tk, x'] } := (sb.2 _ (Nat.ne_of_gt l1)).trans hT
    have nw : ObjOk X.prog X.w (upd H s.heap.objs.size (.tup [.int (i : Nat), x])) h'' s.heap.objs.size (.tup [.int (i : Nat), x]) :=
      ⟨by show 2 ≤ sizeLine; decide, [.int i tk, x'], .cons ⟨_, rfl⟩ (.cons ru .nil), _, hT2, rfl, _, rfl⟩
    have J := I.turnedNew (t' := tk + 1) (ch := [e, it]) (h' := h'') (fun c ob hb q => by
      have hb' : c ≠ e ∧ c ≠ it := by simpa using hb
      exact (sb.2 c hb'.1).trans (hk c ob hb'.1 hb'.2 q)) hf (Nat.le_refl _) nw
    refine ⟨.ref s.heap.objs.size, _, J, rfl, ⟨_, x, rfl, I.hok.fresh (Nat.le_refl _), rfl, fun ys hy => by rw [seqX_inj I hy hq]; exact hx⟩, ⟨⟨x', ?_⟩, hit'.1.at fun o q => (sb.2 it (Ne.symm ne)).trans q, ne⟩, fun c hcm => ?_⟩
    · have e1 : ((i + 1 : Nat) : Int) = (i : Int) + 1 := Int.natCast_succ i
      rw [e1]
      exact he'
    · have hlt' : c < s.heap.objs.size := by
        rcases mem_two hcm with rfl | rfl
        · exact l1
        · exact l2
      rw [upd_ne (Nat.ne_of_lt hlt')]
      exact (hf c hcm).1
  done := by
    intro X e1 e2 e3 hc i pins s σ H E I hf st hg
    subst e1 e2 e3
    obtain ⟨⟨old, he⟩, hi, ne⟩ := st
    obtain ⟨xs, hq, hx⟩ := hg
    obtain ⟨its, rv, p⟩ := seqX I hq
    have hn : its.toArray.size = i := by rw [List.size_toArray, ← rv.length]; exact hx
    obtain ⟨f0, f1, f2, f3, f4, f5⟩ := hf it (List.mem_cons_of_mem _ List.mem_cons_self)
    have D := drawX (prog := X.prog) (w := X.w) b (A := X.A.in1) (I.ok.hd hc) it a (hi.apart p) its.toArray
    rw [← hn] at hi
    exact wpAny_pyNext_enum_endD D he ⟨hi, p⟩ fun h' eb => ⟨rfl, I.turned (t' := s.toks) (fun c o hb q => eb c o hb q) f0 f1 f3 f4 f5⟩
  self := fun A i s Q E ⟨⟨_, he⟩, _⟩ h => wpAny_pyIter_enum he h
theorem meets_enum1 {v : Value} {o : Obj} {H : Heap → Prop} (B : Begins v o H) :
    Meets (Builtin.«enumerate.__new__» ⟨[.type "enumerate", v], []⟩) (fun _ R s => H s.heap ∧
      R (.ok (.ret (.ref (s.heap.push o).objs.size))) { s with heap := (s.heap.push o).push { cls := .type "enumerate", data := .fields #[.none, .bool false, .ref s.heap.objs.size, rawInt 0, .none, .none] } }) :=
  .of_wp fun prog w A R s h => by
    obtain ⟨hp, gn, dr, tk, os⟩ := s
    obtain ⟨h1, h⟩ := h
    have sb := sub_enumerate
    have go : ∀ {A' : Around} {E : Value → Shared → Prop} {Q : Value → Shared → Prop}, Q (.ref hp.objs.size) ⟨hp.push o, gn, dr, tk, os⟩ → wpAny (model prog w) A' (pyIter v) Q E ⟨hp, gn, dr, tk, os⟩ :=
      fun q => B.iter prog w _ _ ⟨hp, gn, dr, tk, os⟩ _ h1 q
    wp_walk using go
    refine wpAny_stack_any fun st => wpAny_pure ?_
    split
    · rename_i c _ _ _ _ _
      cases (c == Value.type "enumerate") <;> (wp_walk using go) <;> exact ⟨_, rfl, h⟩
    · wp_walk using go
      exact ⟨_, rfl, h⟩
theorem call_enum1 {prog : Program} {w : World} {A : Around} {E : Value → Shared → Prop} {s : Shared} {v : Value} {o : Obj} {H : Heap → Prop} {Q : Value → Shared → Prop} (B : Begins v o H) (h1 : H s.heap)
    (h : ∀ h', IsEnum h' (s.heap.objs.size + 1) s.heap.objs.size 0 .none → h'.get? s.heap.objs.size = some o → (∀ b o, s.heap.get? b = some o → h'.get? b = some o) → Q (.ref (s.heap.objs.size + 1)) { s with heap := h' }) :
    wpAny (model prog w) A (call (.type "enumerate") [v]) Q E s := by
  refine callType_new F.called_enumerate (by decide) (F.typeCall_enumerate_1 _) (F.newCall_enumerate_1 _) (fun obj => F.args_object_init_2 obj _) F.entry_enumerate_new (meets_enum1 B) ⟨h1, ?_⟩
  have hz : (s.heap.push o).objs.size = s.heap.objs.size + 1 := Heap.size_push ..
  show _ ∧ _
  rw [hz]
  have he : IsEnum ((s.heap.push o).push { cls := .type "enumerate", data := .fields #[.none, .bool false, .ref s.heap.objs.size, rawInt 0, .none, .none] }) (s.heap.objs.size + 1) s.heap.objs.size 0 .none := by
    have q := Heap.get?_push_size (s.heap.push o) (o := { cls := .type "enumerate", data := .fields #[.none, .bool false, .ref s.heap.objs.size, rawInt 0, .none, .none] }) rfl
    rwa [hz] at q
  exact ⟨⟨_, he, rfl⟩, h _ he (Heap.get?_push_of_some _ (Heap.get?_push_size _ B.free)) fun b ob x => Heap.get?_push_of_some _ (Heap.get?_push_of_some _ x)⟩
section
variable {X : Cx} {E : EE} {e e2 : Expr} {elts : List Expr} {kk : Nat} {pos tpos p : Pos} {fa : Ex (List D)} {ta : TA}
theorem pi_enX (hg : Gl X "enumerate") (hm : X.mg "enumerate" = none) (ha : PA X [e] ta) (hs : starEach [e] X.env = [(false, eval e X.env)] := by rfl) :
    PI X (.Tuple elts kk tpos) (.Call (.Name "enumerate" p) [e] [] pos) (fun σ H R => ta σ H fun vs H1 => ∃ b a xs, vs = [.ref a] ∧ SqX b X.K H1 a xs ∧ R (EnX b X.K a) H1) := by
  constructor
  intro pins s σ H R I h
  refine Call_ (ld_blt I hg hm boot_enumerate (PyProof.Rows.callWith_type1 (thn (ha.run pos pins s σ H _ I h) ?_) hs rfl))
  rintro us s1 ⟨vs, H1, I1, r1, b, a, xs, rfl, hq, q⟩
  obtain ⟨u, rfl, ru⟩ := vals1 r1
  cases ru
  obtain ⟨its, rv, pl⟩ := seqX I1 hq
  refine call_enum1 (begX b a its.toArray) pl fun h' he hi hk => wpAny_pyIter_enum he ?_
  have nw : ∀ c ∈ [s1.heap.objs.size + 1, s1.heap.objs.size], s1.heap.objs.size ≤ c := fun c hc => by
    rcases mem_two hc with rfl | rfl
    · exact Nat.le_succ _
    · exact Nat.le_refl _
  exact ⟨_, [s1.heap.objs.size + 1, s1.heap.objs.size], _, EnX b X.K a, H1, rfl, I1.kept (t' := s1.toks) hk, turn_enX a (s1.heap.objs.size + 1) s1.heap.objs.size, ⟨⟨.none, he⟩, itX_new hi, Nat.succ_ne_self _⟩,
    fun c hc => I1.fpOk (nw c hc) (I1.hok.fresh (nw c hc)), q⟩
/-- zip of two such -/
def ZpX (b1 b2 : Bool) (K : PySem.W.Frag) (a1 a2 : Addr) : It where
  go := fun i H => ∃ (xs ys : List V) (x y : V), SqX b1 K H a1 xs ∧ SqX b2 K H a2 ys ∧ xs[i]? = some x ∧ ys[i]? = some y
  yld := fun i H v H' => ∃ T x y, v = .ref T ∧ H T = none ∧ H' = upd H T (.tup [x, y]) ∧ (∀ xs, SqX b1 K H a1 xs → xs[i]? = some x) ∧ ∀ ys, SqX b2 K H a2 ys → ys[i]? = some y
  stop := fun i H => ∃ xs ys : List V, SqX b1 K H a1 xs ∧ SqX b2 K H a2 ys ∧ i ≤ xs.length ∧ i ≤ ys.length ∧ (i = xs.length ∨ i = ys.length)
/-- the five cells of a zip over two iterators stand apart, and apart from what is walked -/
structure Five (z TI TO i1 i2 : Addr) : Prop where
  nd : [z, TI, TO, i1, i2].Nodup
theorem turn_zpX {b1 b2 : Bool} {P : Program} {w : World} {K : PySem.W.Frag} {a1 a2 z TI TO i1 i2 : Addr} (D : Five z TI TO i1 i2) :
    Turn P w K (.Tuple elts kk tpos) (ZpX b1 b2 K a1 a2) [z, TI, TO, i1, i2] z (fun i h => IsZip h z TI TO .none ∧ IsTupOf2 h TI (.ref i1) (.ref i2) ∧ (∃ x y, IsTupOf2 h TO x y) ∧ ItX b1 h i1 a1 i ∧ ItX b2 h i2 a2 i) := by
  have nd : z ≠ TI ∧ z ≠ TO ∧ z ≠ i1 ∧ z ≠ i2 ∧ TI ≠ TO ∧ TI ≠ i1 ∧ TI ≠ i2 ∧ TO ≠ i1 ∧ TO ≠ i2 ∧ i1 ≠ i2 := by
    have := D.nd
    simp only [List.nodup_cons, List.mem_cons, not_or, List.not_mem_nil, not_false_eq_true, and_true] at this
    exact ⟨this.1.1, this.1.2.1, this.1.2.2.1, this.1.2.2.2, this.2.1.1, this.2.1.2.1, this.2.1.2.2, this.2.2.1.1, this.2.2.1.2, this.2.2.2.1⟩
  obtain ⟨n1, n2, n3, n4, n5, n6, n7, n8, n9, n10⟩ := nd
  -- what is walked is none of the five
  have far : ∀ {b : Bool} {h : Heap} {a : Addr} {its : Array Value} {i : Nat}, IsZip h z TI TO .none → (∃ x y, IsTupOf2 h TO x y) → ItX b1 h i1 a1 i → ItX b2 h i2 a2 i → AtX b h a its → z ≠ a ∧ i1 ≠ a ∧ i2 ≠ a := fun {b h a its i} hz _ h1 h2 y =>
    ⟨fun q => by
      obtain ⟨o, ho, hc⟩ := y.obj
      rw [← q, hz] at ho
      cases ho
      cases b <;> simp at hc, fun q => h1.apart y q.symm, fun q => h2.apart y q.symm⟩
  refine ⟨List.mem_cons_self, ?_, ?_, ?_, ?_, fun A i s Q E h q => wpAny_pyIter_zip h.1 q⟩
  · rintro i h ⟨hz, hTI, ⟨x, y, hTO⟩, h1, h2⟩ c hc
    simp only [List.mem_cons, List.not_mem_nil, or_false] at hc
    rcases hc with rfl | rfl | rfl | rfl | rfl
    · exact ⟨_, hz, fun v q => nomatch q⟩
    · exact ⟨_, hTI, fun v q => nomatch q⟩
    · exact ⟨_, hTO, fun v q => nomatch q⟩
    · obtain ⟨o, ho, _, vs, hd⟩ := h1.obj
      exact ⟨o, ho, fun v q => by rw [hd] at q; cases q⟩
    · obtain ⟨o, ho, _, vs, hd⟩ := h2.obj
      exact ⟨o, ho, fun v q => by rw [hd] at q; cases q⟩
  · rintro i h h' ⟨hz, hTI, ⟨x, y, hTO⟩, h1, h2⟩ k
    exact ⟨k z (by simp) _ hz, k TI (by simp) _ hTI, ⟨x, y, k TO (by simp) _ hTO⟩, h1.at fun o q => k i1 (by simp) o q, h2.at fun o q => k i2 (by simp) o q⟩
  · intro X e1 e2 e3 hc i pins s σ H E I hf st hg
    subst e1 e2 e3
    obtain ⟨hz, hTI, ⟨x0, y0, hTO⟩, h1, h2⟩ := st
    obtain ⟨xs, ys, x, y, qx, qy, hx, hy⟩ := hg
    obtain ⟨its1, r1, p1⟩ := seqX I qx
    obtain ⟨its2, r2, p2⟩ := seqX I qy
    obtain ⟨u1, hu1, ru1⟩ := r1.get hx
    obtain ⟨u2, hu2, ru2⟩ := r2.get hy
    have zl : z < s.heap.objs.size := Heap.lt_size hz
    obtain ⟨f1, f2, f3⟩ := far hz ⟨_, _, hTO⟩ h1 h2 p1
    obtain ⟨g1, g2, g3⟩ := far hz ⟨_, _, hTO⟩ h1 h2 p2
    have apartTO : TO ≠ a1 ∧ TO ≠ a2 := by
      have t1 : H TO = none := (hf TO (by simp)).1
      refine ⟨fun q => ?_, fun q => ?_⟩
      · exact fp_far I (hf TO (by simp)) qx q
      · exact fp_far I (hf TO (by simp)) qy q
    have sep : ZipSep2 z TI TO i1 i2 [i1, a1] [i2, a2] := ⟨n1.symm, n2.symm, n5, n6, List.mem_cons_self, by simp [n3, f1], by simp [n8, apartTO.1], n7, List.mem_cons_self, by simp [n4, g1], by simp [n9, apartTO.2], by simp [n10, g2], by simp [n10.symm, f3]⟩
    have l1 : i < its1.toArray.size := by simpa using (List.getElem?_eq_some_iff.mp hu1).1
    have l2 : i < its2.toArray.size := by simpa using (List.getElem?_eq_some_iff.mp hu2).1
    refine wpAny_pyNext_zipD2_item sep (drawX b1 (A := X.A.in1) (I.ok.hd hc) i1 a1 (h1.apart p1) its1.toArray) (drawX b2 (A := X.A.in1) (I.ok.hd hc) i2 a2 (h2.apart p2) its2.toArray) hz hTI hTO ⟨h1, p1⟩ ⟨h2, p2⟩ l1 l2
      fun v1 v2 h' tk hv1 hv2 z' TO' s1' s2' hT hsz hk => ?_
    have e1 : v1 = u1 := by
      have hv : its1.toArray[i]? = some v1 := hv1
      rw [List.getElem?_toArray, hu1] at hv
      exact (Option.some.inj hv).symm
    have e2 : v2 = u2 := by
      have hv : its2.toArray[i]? = some v2 := hv2
      rw [List.getElem?_toArray, hu2] at hv
      exact (Option.some.inj hv).symm
    subst e1 e2
    refine ⟨_, rfl, wpAny_letOwnedTupleGo_zip (s := { s with heap := h', toks := tk }) z' fun h'' z'' sb => ?_⟩
    have hT2 : h''.get? s.heap.objs.size = some { cls := .type "tuple", data := .seq #[v1, v2] } := (sb.2 _ (Nat.ne_of_gt zl)).trans hT
    have nw : ObjOk X.prog X.w (upd H s.heap.objs.size (.tup [x, y])) h'' s.heap.objs.size (.tup [x, y]) :=
      ⟨by show 2 ≤ sizeLine; decide, [v1, v2], .cons ru1 (.cons ru2 .nil), _, hT2, rfl, _, rfl⟩
    have J := I.turnedNew (t' := tk) (ch := [z, TI, TO, i1, i2]) (h' := h'') (fun c ob hb q => by
      simp only [List.mem_cons, List.not_mem_nil, or_false, not_or] at hb
      exact (sb.2 c hb.1).trans (hk c ob hb.1 hb.2.2.1 hb.2.2.2.1 hb.2.2.2.2 q)) hf (Nat.le_refl _) nw
    refine ⟨.ref s.heap.objs.size, _, J, rfl, ⟨_, x, y, rfl, I.hok.fresh (Nat.le_refl _), rfl, fun l hl => by rw [seqX_inj I hl qx]; exact hx, fun l hl => by rw [seqX_inj I hl qy]; exact hy⟩, ⟨z'', ?_, ⟨v1, v2, ?_⟩, ?_, ?_⟩, fun c hcm => ?_⟩
    · exact (sb.2 _ n1.symm).trans (hk _ _ n1.symm n5 n6 n7 hTI)
    · exact (sb.2 _ n2.symm).trans TO'
    · exact s1'.1.at fun o q => (sb.2 _ n3.symm).trans q
    · exact s2'.1.at fun o q => (sb.2 _ n4.symm).trans q
    · have lt' : c < s.heap.objs.size := by
        simp only [List.mem_cons, List.not_mem_nil, or_false] at hcm
        rcases hcm with rfl | rfl | rfl | rfl | rfl
        · exact zl
        · exact Heap.lt_size hTI
        · exact Heap.lt_size hTO
        · obtain ⟨_, q, _⟩ := h1.obj; exact Heap.lt_size q
        · obtain ⟨_, q, _⟩ := h2.obj; exact Heap.lt_size q
      rw [upd_ne (Nat.ne_of_lt lt')]
      exact (hf c hcm).1
  · intro X e1 e2 e3 hc i pins s σ H E I hf st hg
    subst e1 e2 e3
    obtain ⟨hz, hTI, ⟨x0, y0, hTO⟩, h1, h2⟩ := st
    obtain ⟨xs, ys, qx, qy, lx, ly, hend⟩ := hg
    obtain ⟨its1, r1, p1⟩ := seqX I qx
    obtain ⟨its2, r2, p2⟩ := seqX I qy
    obtain ⟨f1, f2, f3⟩ := far hz ⟨_, _, hTO⟩ h1 h2 p1
    obtain ⟨g1, g2, g3⟩ := far hz ⟨_, _, hTO⟩ h1 h2 p2
    have t1 : TO ≠ a1 := fun q => fp_far I (hf TO (by simp)) qx q
    have t2 : TO ≠ a2 := fun q => fp_far I (hf TO (by simp)) qy q
    have sep : ZipSep2 z TI TO i1 i2 [i1, a1] [i2, a2] := ⟨n1.symm, n2.symm, n5, n6, List.mem_cons_self, by simp [n3, f1], by simp [n8, t1], n7, List.mem_cons_self, by simp [n4, g1], by simp [n9, t2], by simp [n10, g2], by simp [n10.symm, f3]⟩
    have e1 := r1.length
    have e2 := r2.length
    refine wpAny_pyNext_zipD2_end sep (drawX b1 (A := X.A.in1) (I.ok.hd hc) i1 a1 (h1.apart p1) its1.toArray) (drawX b2 (A := X.A.in1) (I.ok.hd hc) i2 a2 (h2.apart p2) its2.toArray) hz hTI hTO ⟨h1, p1⟩ ⟨h2, p2⟩
      (by rw [List.size_toArray]; omega) (by rw [List.size_toArray]; omega) (by rw [List.size_toArray, List.size_toArray]; omega) fun h' tk hk => ⟨rfl, I.turnedL (t' := tk) (ch := [z, TI, TO, i1, i2]) (fun c o hb q => ?_) hf⟩
    simp only [List.mem_cons, List.not_mem_nil, or_false, not_or] at hb
    exact hk c o hb.1 hb.2.2.1 hb.2.2.2.1 hb.2.2.2.2 q
theorem pi_zpX (hg : Gl X "zip") (hm : X.mg "zip" = none) (ha : PA X [e, e2] ta) (hs : starEach [e, e2] X.env = (false, eval e X.env) :: starEach [e2] X.env := by rfl) (hp : (backTo pos (starEach [e2] X.env)).any (·.1) = false := by rfl) :
    PI X (.Tuple elts kk tpos) (.Call (.Name "zip" p) [e, e2] [] pos) (fun σ H R => ta σ H fun vs H1 => ∃ b1 b2 a1 a2 xs ys, vs = [.ref a1, .ref a2] ∧ SqX b1 X.K H1 a1 xs ∧ SqX b2 X.K H1 a2 ys ∧ R (ZpX b1 b2 X.K a1 a2) H1) := by
  constructor
  intro pins s σ H R I h
  refine Call_ (ld_blt I hg hm PyProof.Rows.boot_zip (PyProof.Rows.callWith_type1 (thn (ha.run pos pins s σ H _ I h) ?_) hs hp))
  rintro us s1 ⟨vs, H1, I1, r1, b1, b2, a1, a2, xs, ys, rfl, qx, qy, q⟩
  obtain ⟨u, u', rfl, ru, ru'⟩ := vals2 r1
  cases ru
  cases ru'
  obtain ⟨its1, rv1, p1⟩ := seqX I1 qx
  obtain ⟨its2, rv2, p2⟩ := seqX I1 qy
  refine zip_begins2 (begX b1 a1 its1.toArray) (begX b2 a2 its2.toArray) p1 p2 fun h' hz hTI hTO h1 h2 hsz hk => wpAny_pyIter_zip hz ?_
  have nw : ∀ c ∈ [s1.heap.objs.size + 4, s1.heap.objs.size + 2, s1.heap.objs.size + 3, s1.heap.objs.size, s1.heap.objs.size + 1], s1.heap.objs.size ≤ c := fun c hc => by
    simp only [List.mem_cons, List.not_mem_nil, or_false] at hc
    rcases hc with rfl | rfl | rfl | rfl | rfl <;> omega
  exact ⟨_, _, _, ZpX b1 b2 X.K a1 a2, H1, rfl, I1.kept (t' := s1.toks) hk, turn_zpX ⟨by simp⟩, ⟨hz, hTI, ⟨_, _, hTO⟩, itX_new h1, itX_new h2⟩, fun c hc => I1.fpOk (nw c hc) (I1.hok.fresh (nw c hc)), q⟩
/-! ### the mirrors -/
def seqOf : D → Option (Bool × List D)
  | .lst xs => some (false, xs)
  | .tup xs => some (true, xs)
  | .ro xs => some (false, xs)
  | _ => none
theorem seq_at {K : PySem.W.Frag} {mg : Str → Option Value} {F : Fz} {ι : List Addr} {H : Hp} {d : D} {v : V} {b : Bool} {xs : List D} (h : Rep K mg F ι H d v) (e : seqOf d = some (b, xs)) :
    ∃ a vs, v = .ref a ∧ Reps K mg F ι H xs vs ∧ ∀ {F2 : Fz} {H2 : Hp}, (∀ a, F a → F2 a) → Stay F H H2 → SqX b K H2 a vs := by
  cases d with
  | lst ys =>
    cases e
    obtain ⟨a, vs, rfl, hl, hr⟩ := h
    exact ⟨a, vs, rfl, hr, fun h1 h2 => (hl.mono h1 h2).sq⟩
  | ro ys =>
    cases e
    obtain ⟨a, vs, rfl, hl, hr⟩ := h
    exact ⟨a, vs, rfl, hr, fun h1 h2 => (hl.mono h1 h2).sq⟩
  | tup ys =>
    cases e
    obtain ⟨a, vs, rfl, hl, hr⟩ := h
    exact ⟨a, vs, rfl, hr, fun h1 h2 => (hl.mono h1 h2).sq⟩
  | _ => cases e
def pairsI (xs : List D) : List D := xs.mapIdx fun i d => .tup [.int (i : Nat), d]
def enumD : List D → List Cell → Rs (List D)
  | [d], S => match seqOf d with
    | some (_, xs) => .ok (pairsI xs) S
    | none => .bad
  | _, _ => .bad
def mEnum (fa : Ex (List D)) : Ex (List D) := fun env S => (fa env S).andThen enumD
def pairsZ (xs ys : List D) : List D := List.zipWith (fun x y => .tup [x, y]) xs ys
def zipD : List D → List Cell → Rs (List D)
  | [d, d'], S => match seqOf d, seqOf d' with
    | some (_, xs), some (_, ys) => .ok (pairsZ xs ys) S
    | _, _ => .bad
  | _, _ => .bad
def mZip (fa : Ex (List D)) : Ex (List D) := fun env S => (fa env S).andThen zipD
/-- a new pair -/
theorem new_pair {K : PySem.W.Frag} {mg : Str → Option Value} {F : Fz} {ι : List Addr} {H : Hp} {S : List Cell} {T : Addr} {x y : V} {d d' : D} (w : Wd K mg F ι H S) (n : H T = none) (r : Rep K mg F ι H d x) (r' : Rep K mg F ι H d' y) :
    ∃ F3, Ext H F ι (upd H T (.tup [x, y])) F3 ι ∧ Wd K mg F3 ι (upd H T (.tup [x, y])) S ∧ Rep K mg F3 ι (upd H T (.tup [x, y])) (.tup [d, d']) (.ref T) := by
  obtain ⟨e, w'⟩ := w.lay (o := .tup [x, y]) n
  exact ⟨_, e, w', T, [x, y], rfl, .inl ⟨.inr rfl, .inl upd_same⟩, x, [y], rfl, w.rep e r, y, [], rfl, w.rep e r', rfl⟩
theorem i_enum (hm : X.mg "enumerate" = none) (ha : VA X E [e] fa) (hg : Gl X "enumerate" := by rfl) (hs : starEach [e] X.env = [(false, eval e X.env)] := by rfl) :
    VI X E (.Tuple elts kk tpos) (.Call (.Name "enumerate" p) [e] [] pos) (mEnum fa) := fun g => (pi_enX hg hm (ha g) hs).imp fun σ H R ⟨F, ι, env, S, w, q⟩ =>
  ⟨F, ι, env, S, w, rd_mono (rd_then q) fun ds H1 F1 ι1 S1 _ e1 w1 ⟨_, _, q1⟩ vs hvs => by
    unfold enumD at q1
    split at q1
    · rename_i d S1
      obtain ⟨v, r, rfl, hv, rfl⟩ := hvs
      split at q1
      · rename_i b xs hd
        obtain ⟨a, us, rfl, hr, hs⟩ := seq_at hv hd
        refine ⟨b, a, us, rfl, hs (fun _ h => h) (fun _ _ _ h => h), (q1 H1 F1 ι1 Ext.refl w1).2.2 _ ?_⟩
        intro F2 ι2 H2 S2 wd gr i
        have h2 := hs gr.sub gr.stay
        have r2 := reps_mono gr.sub gr.stay gr.pre xs us hr
        refine ⟨fun hi => ?_, fun d' hd' => ?_⟩
        · unfold pairsI at hi
          rw [List.length_mapIdx] at hi
          exact ⟨us, h2, r2.len.trans hi⟩
        · unfold pairsI at hd'
          rw [List.getElem?_mapIdx] at hd'
          cases hx : xs[i]? with
          | none => rw [hx] at hd'; cases hd'
          | some d0 =>
            rw [hx] at hd'
            have ed : d' = .tup [.int (i : Nat), d0] := by simpa using hd'.symm
            subst ed
            obtain ⟨u, hu, ru⟩ := r2.get hx
            refine ⟨⟨us, u, h2, hu⟩, fun x H3 ⟨T, x', ex, n, eH, fx⟩ => ?_⟩
            have := fx us h2
            rw [hu] at this
            cases this
            subst ex
            subst eH
            exact new_pair wd n rfl ru
      · exact q1.elim
    · exact q1.elim⟩
theorem i_zip (hm : X.mg "zip" = none) (ha : VA X E [e, e2] fa) (hg : Gl X "zip" := by rfl) (hs : starEach [e, e2] X.env = (false, eval e X.env) :: starEach [e2] X.env := by rfl)
    (hp : (backTo pos (starEach [e2] X.env)).any (·.1) = false := by rfl) : VI X E (.Tuple elts kk tpos) (.Call (.Name "zip" p) [e, e2] [] pos) (mZip fa) := fun g => (pi_zpX hg hm (ha g) hs hp).imp fun σ H R ⟨F, ι, env, S, w, q⟩ =>
  ⟨F, ι, env, S, w, rd_mono (rd_then q) fun ds H1 F1 ι1 S1 _ e1 w1 ⟨_, _, q1⟩ vs hvs => by
    unfold zipD at q1
    split at q1
    · rename_i d d' S1
      obtain ⟨v, r, rfl, hv, v', r', rfl, hv', rfl⟩ := hvs
      split at q1
      · rename_i b1 xs b2 ys hd hd'
        obtain ⟨a1, us, rfl, hr, hs⟩ := seq_at hv hd
        obtain ⟨a2, us', rfl, hr', hs'⟩ := seq_at hv' hd'
        refine ⟨b1, b2, a1, a2, us, us', rfl, hs (fun _ h => h) (fun _ _ _ h => h), hs' (fun _ h => h) (fun _ _ _ h => h), (q1 H1 F1 ι1 Ext.refl w1).2.2 _ ?_⟩
        intro F2 ι2 H2 S2 wd gr i
        have h2 := hs gr.sub gr.stay
        have h2' := hs' gr.sub gr.stay
        have r2 := reps_mono gr.sub gr.stay gr.pre xs us hr
        have r2' := reps_mono gr.sub gr.stay gr.pre ys us' hr'
        have l1 := r2.len
        have l2 := r2'.len
        refine ⟨fun hi => ?_, fun d' hd' => ?_⟩
        · unfold pairsZ at hi
          rw [List.length_zipWith] at hi
          exact ⟨us, us', h2, h2', by omega, by omega, by omega⟩
        · unfold pairsZ at hd'
          rw [List.getElem?_zipWith] at hd'
          split at hd'
          · rename_i x y hx hy
            have ed : d' = .tup [x, y] := by simpa using hd'.symm
            subst ed
            obtain ⟨u, hu, ru⟩ := r2.get hx
            obtain ⟨u', hu', ru'⟩ := r2'.get hy
            refine ⟨⟨us, us', u, u', h2, h2', hu, hu'⟩, fun z H3 ⟨T, x', y', ex, n, eH, fx, fy⟩ => ?_⟩
            have := fx us h2
            rw [hu] at this
            cases this
            have := fy us' h2'
            rw [hu'] at this
            cases this
            subst ex
            subst eH
            exact new_pair wd n ru ru'
          · cases hd'
      · exact q1.elim
    · exact q1.elim⟩
end
end DL

/-! DLh: operations on data. -/
namespace DL
open PySem PySem.Spec L2
open PyProof.Rows hiding St

def okMul (i j : Int) : Bool := decide (i.natAbs.log2 + j.natAbs.log2 < 1000000)
def okDiv (j : Int) : Bool := decide (0 < j ∧ j.natAbs.log2 < 9000)
instance (i j : Int) : Decidable (CMulW i j) := inferInstanceAs (Decidable (_ < _))
instance (i j : Int) : Decidable (CDivW i j) := inferInstanceAs (Decidable (_ ∧ _))
instance (i j : Int) : Decidable (CPow i j) := inferInstanceAs (Decidable (_ ∧ _ ∧ _))
def okLen (n : Nat) : Bool := decide (n ≤ 100000)
theorem okLen_le {n : Nat} (h : okLen n = true) : n ≤ sizeLine := Nat.le_trans (of_decide_eq_true h) (by decide)
section
variable {X : Cx} {K : PySem.W.Frag} {mg : Str → Option Value}
/-! ### arithmetic -/
def addD : Op2 := fun x y _ => match x, y with
  | .int i, .int j => some (.int (i + j))
  | .str a, .str b => if okLen (a.length + b.length) then some (.str (a ++ b)) else none
  | .lst a, .lst b => if okLen (a.length + b.length) then some (.lst (a ++ b)) else none
  | .tup a, .tup b => if okLen (a.length + b.length) then some (.tup (a ++ b)) else none
  | _, _ => none
def rAddAll (K : PySem.W.Frag) : R2 := fun x y H Q => ((((∃ i j, x = .int i ∧ y = .int j ∧ Q (.int (i + j)) H) ∨ ∃ i j, x = .str i ∧ y = .str j ∧ i.length + j.length ≤ sizeLine ∧ Q (.str (i ++ j)) H)) ∨ rCat x y H Q) ∨ rCatA K x y H Q
theorem op_addAll : OpR X (binaryOp .Add) (rAddAll X.K) := ((op_add.or op_add_str).or op_cat).or op_catA
theorem ok_add : Ok2 K mg (rAddAll K) addD := by
  intro H F ι S x y d v u Q w rx ry ho t
  unfold addD at ho
  split at ho
  · cases ho
    exact .inl (.inl (.inl ⟨_, _, rx, ry, t.here w rfl⟩))
  · split at ho
    · rename_i hl
      cases ho
      exact .inl (.inl (.inr ⟨_, _, rx, ry, okLen_le hl, t.here w rfl⟩))
    · cases ho
  · split at ho
    · rename_i hl
      cases ho
      obtain ⟨a, vs, rfl, h1, h2⟩ := rx
      obtain ⟨b, us, rfl, h3, h4⟩ := ry
      refine .inl (.inr ⟨a, b, vs, us, rfl, rfl, h1.2, h3.2, ?_, fun p n => t.own.lay w (h2.app h4) n⟩)
      rw [h2.len, h4.len]
      exact okLen_le hl
    · cases ho
  · split at ho
    · rename_i a b hl
      cases ho
      obtain ⟨p, vs, rfl, h1, h2⟩ := rx
      obtain ⟨q, us, rfl, h3, h4⟩ := ry
      refine .inr ⟨p, q, vs, us, rfl, rfl, h1.sq, h3.sq, by rw [h2.len, h4.len]; exact okLen_le hl, fun e => ?_, fun _ e => ?_, fun _ _ c n => t.layT w (h2.app h4) n⟩
      · subst e
        have : a = [] := by have := h2.len; exact List.eq_nil_of_length_eq_zero this.symm
        subst this
        exact t.here w ⟨q, us, rfl, h3, h4⟩
      · subst e
        have : b = [] := by have := h4.len; exact List.eq_nil_of_length_eq_zero this.symm
        subst this
        rw [List.append_nil] at t
        exact t.here w ⟨p, vs, rfl, h1, h2⟩
    · cases ho
  · cases ho
/-- an operator on two ints -/
def intD (c : Int → Int → Bool) (f : Int → Int → D) : Op2 := fun x y _ => match x, y with
  | .int i, .int j => if c i j then some (f i j) else none
  | _, _ => none
theorem ok_int {C : Int → Int → Prop} {c : Int → Int → Bool} {f : Int → Int → D} {h : Int → Int → V} (hc : ∀ i j, c i j = true → C i j) (hr : ∀ i j F ι H, Rep K mg F ι H (f i j) (h i j)) : Ok2 K mg (rI C h) (intD c f) := by
  intro H F ι S x y d v u Q w rx ry ho t
  unfold intD at ho
  split at ho
  · split at ho
    · rename_i i j hcc
      cases ho
      exact ⟨i, j, rx, ry, hc i j hcc, t.here w (hr i j F ι H)⟩
    · cases ho
  · cases ho
theorem ok_int0 {f : Int → Int → D} {h : Int → Int → V} (hr : ∀ i j F ι H, Rep K mg F ι H (f i j) (h i j)) : Ok2 K mg (rI0 h) (intD (fun _ _ => true) f) := by
  intro H F ι S x y d v u Q w rx ry ho t
  unfold intD at ho
  split at ho
  · rw [if_pos rfl] at ho
    cases ho
    exact ⟨_, _, rx, ry, t.here w (hr _ _ F ι H)⟩
  · cases ho
def subD : Op2 := intD (fun _ _ => true) fun i j => .int (i - j)
def divD : Op2 := intD (fun _ j => okDiv j) fun i j => .int (i / j)
def modD : Op2 := intD (fun _ j => decide (0 < j)) fun i j => .int (i % j)
def ltD : Op2 := intD (fun _ _ => true) fun i j => .bl (decide (i < j))
def leD : Op2 := intD (fun _ _ => true) fun i j => .bl (decide (i ≤ j))
def gtD : Op2 := intD (fun _ _ => true) fun i j => .bl (decide (j < i))
def geD : Op2 := intD (fun _ _ => true) fun i j => .bl (decide (j ≤ i))
theorem ok_sub : Ok2 K mg (rI0 fun i j => .int (i - j)) subD := ok_int0 fun _ _ _ _ _ => rfl
theorem ok_div : Ok2 K mg (rI CDivW fun i j => .int (i / j)) divD := ok_int (fun _ _ h => of_decide_eq_true h) fun _ _ _ _ _ => rfl
theorem ok_mod : Ok2 K mg (rI (fun _ j => 0 < j) fun i j => .int (i % j)) modD := ok_int (fun _ _ h => of_decide_eq_true h) fun _ _ _ _ _ => rfl
theorem ok_lt : Ok2 K mg (rI0 fun i j => .bl (decide (i < j))) ltD := ok_int0 fun _ _ _ _ _ => rfl
theorem ok_le : Ok2 K mg (rI0 fun i j => .bl (decide (i ≤ j))) leD := ok_int0 fun _ _ _ _ _ => rfl
theorem ok_gt : Ok2 K mg (rI0 fun i j => .bl (decide (j < i))) gtD := ok_int0 fun _ _ _ _ _ => rfl
theorem ok_ge : Ok2 K mg (rI0 fun i j => .bl (decide (j ≤ i))) geD := ok_int0 fun _ _ _ _ _ => rfl
/-- a written power -/
def powD : Op2 := intD (fun i j => decide (0 ≤ j ∧ j ≤ 1000000 ∧ i.natAbs < 2 ^ 64)) fun i j => .int (i ^ j.toNat)
theorem ok_pow : Ok2 K mg (rI CPow fun i j => .int (i ^ j.toNat)) powD := ok_int (fun _ _ h => of_decide_eq_true h) fun _ _ _ _ _ => rfl
/-- int * int, list * int -/
def mulD : Op2 := fun x y _ => match x, y with
  | .int i, .int j => if okMul i j then some (.int (i * j)) else none
  | .lst a, .int k => if decide (-(2 ^ 63) ≤ k ∧ k < 2 ^ 63) && okLen (a.length * k.toNat) then some (.lst (List.replicate k.toNat a).flatten) else none
  | _, _ => none
theorem Reps.flat {F : Fz} {ι : List Addr} {H : Hp} {ds : List D} {vs : List V} (h : Reps K mg F ι H ds vs) : ∀ n : Nat, Reps K mg F ι H (List.replicate n ds).flatten (List.replicate n vs).flatten
  | 0 => rfl
  | n + 1 => by
    rw [List.replicate_succ, List.replicate_succ, List.flatten_cons, List.flatten_cons]
    exact h.app (Reps.flat h n)
def rMulAll : R2 := fun x y H Q => (rI CMulW (fun i j => .int (i * j)) x y H Q) ∨ rRep x y H Q
theorem op_mulAll : OpR X (binaryOp .Mult) rMulAll := op_mulW.or op_rep
theorem ok_mul : Ok2 K mg rMulAll mulD := by
  intro H F ι S x y d v u Q w rx ry ho t
  unfold mulD at ho
  split at ho
  · split at ho
    · rename_i i j hc
      cases ho
      exact .inl ⟨i, j, rx, ry, of_decide_eq_true hc, t.here w rfl⟩
    · cases ho
  · split at ho
    · rename_i a k hc
      cases ho
      rw [Bool.and_eq_true] at hc
      obtain ⟨h1, h2⟩ := of_decide_eq_true hc.1
      obtain ⟨l, vs, rfl, hl, hr⟩ := rx
      exact .inr ⟨l, k, vs, rfl, ry, hl.2, h1, h2, by rw [hr.len]; exact okLen_le hc.2, fun p n => t.own.lay w (hr.flat k.toNat) n⟩
    · cases ho
  · cases ho
def negD : Op1 := fun x _ => match x with
  | .int i => some (.int (-i))
  | _ => none
theorem ok_neg : Ok1 K mg (rU fun i => .int (-i)) negD := by
  intro H F ι S x d v Q w rx ho t
  unfold negD at ho
  split at ho
  · cases ho
    exact ⟨_, rx, t.here w rfl⟩
  · cases ho
/-! ### items -/
def ixD : Op2 := fun x y S => match x, y with
  | .lst xs, .int i => atI xs i
  | .tup xs, .int i => atI xs i
  | .ro xs, .int i => atI xs i
  | .cell n, .int i => match S[n]? with
    | some (.lst xs) => atI xs i
    | _ => none
  | .str s, .int i => if okLen s.length then (atI s.cps.toList i).map fun c => .str ⟨#[c]⟩ else none
  | _, _ => none
theorem Reps.atI {F : Fz} {ι : List Addr} {H : Hp} {ds : List D} {vs : List V} {i : Int} {d : D} (h : Reps K mg F ι H ds vs) (e : L2.atI ds i = some d) : ∃ v, L2.atI vs i = some v ∧ Rep K mg F ι H d v := by
  unfold L2.atI at e ⊢
  rw [h.len]
  cases hj : ixN ds.length i with
  | none => rw [hj] at e; cases e
  | some j =>
    rw [hj] at e
    exact h.get e
def rIxAll (K : PySem.W.Frag) : R2 := fun x y H Q => (rIxL K x y H Q ∨ rIxT K x y H Q) ∨ rIxS x y H Q
theorem ix_all : IxR X (rIxAll X.K) := (ix_list.or ix_tup).or ix_str
theorem ok_ix : Ok2 K mg (rIxAll K) ixD := by
  intro H F ι S x y d v u Q w rx ry ho t
  unfold ixD at ho
  split at ho
  · obtain ⟨a, vs, rfl, hl, hr⟩ := rx
    obtain ⟨z, h1, h2⟩ := hr.atI ho
    exact .inl (.inl ⟨a, vs, _, z, rfl, ry, hl.sq, h1, t.here w h2⟩)
  · obtain ⟨a, vs, rfl, hl, hr⟩ := rx
    obtain ⟨z, h1, h2⟩ := hr.atI ho
    exact .inl (.inr ⟨a, vs, _, z, rfl, ry, hl.sq, h1, t.here w h2⟩)
  · obtain ⟨a, vs, rfl, hl, hr⟩ := rx
    obtain ⟨z, h1, h2⟩ := hr.atI ho
    exact .inl (.inl ⟨a, vs, _, z, rfl, ry, hl.sq, h1, t.here w h2⟩)
  · obtain ⟨a, rfl, ha⟩ := rx
    split at ho
    · rename_i xs hs
      obtain ⟨vs, h1, hr⟩ := w.cells _ _ a hs ha
      obtain ⟨z, h3, h4⟩ := hr.atI ho
      exact .inl (.inl ⟨a, vs, _, z, rfl, ry, .inl (.inl h1), h3, t.here w h4⟩)
    · cases ho
  · split at ho
    · rename_i s i hl
      cases hc : L2.atI s.cps.toList i with
      | none => rw [hc] at ho; cases ho
      | some c =>
        rw [hc] at ho
        cases ho
        exact .inr ⟨s, i, c, rx, ry, okLen_le hl, hc, t.here w rfl⟩
    · cases ho
  · cases ho
/-! ### slices -/
def SlD (K : PySem.W.Frag) (mg : Str → Option Value) (r : V → Option Int → Option Int → Hp → VK → Prop) (op : D → Option Int → Option Int → Option D) : Prop :=
  ∀ H F ι S x lo hi d v Q, Wd K mg F ι H S → Rep K mg F ι H x v → op x lo hi = some d → Told K mg H F ι S d Q → r v lo hi H Q
def cutD (xs : List D) (lo hi : Option Int) : List D := (xs.drop (HT.sIx xs.length 0 lo)).take (HT.sIx xs.length xs.length hi - HT.sIx xs.length 0 lo)
def sliceD : D → Option Int → Option Int → Option D := fun x lo hi => match x with
  | .lst xs => some (.lst (cutD xs lo hi))
  | .ro xs => some (.lst (cutD xs lo hi))
  | .tup xs => some (.tup (cutD xs lo hi))
  | .str s => if okLen s.length then some (.str (cutS s lo hi)) else none
  | _ => none
theorem Reps.cut {F : Fz} {ι : List Addr} {H : Hp} {ds : List D} {vs : List V} (h : Reps K mg F ι H ds vs) (lo hi : Option Int) : Reps K mg F ι H (cutD ds lo hi) (cutV vs lo hi) := by
  unfold cutD cutV
  rw [h.len]
  exact (h.drop _).take _
theorem SlR.or {r r' : V → Option Int → Option Int → Hp → VK → Prop} (h : SlR X r) (h' : SlR X r') : SlR X (fun x lo hi H Q => r x lo hi H Q ∨ r' x lo hi H Q) := by
  intro pins s σ H x v vl vu lo hi sl Q I rx hs pl pu q
  rcases q with q | q
  · exact h pins s σ H x v vl vu lo hi sl Q I rx hs pl pu q
  · exact h' pins s σ H x v vl vu lo hi sl Q I rx hs pl pu q
def rSlAll (K : PySem.W.Frag) : V → Option Int → Option Int → Hp → VK → Prop := fun x lo hi H Q => (rSlL K x lo hi H Q ∨ rSlA K x lo hi H Q) ∨ rSlS x lo hi H Q
theorem sl_all : SlR X (rSlAll X.K) := SlR.or (SlR.or sl_list sl_tupA) sl_str
theorem cut_whole {α : Type} {xs : List α} {lo hi : Option Int} (h : HT.sIx xs.length 0 lo = 0 ∧ HT.sIx xs.length xs.length hi = xs.length) : (xs.drop (HT.sIx xs.length 0 lo)).take (HT.sIx xs.length xs.length hi - HT.sIx xs.length 0 lo) = xs := by
  rw [h.1, h.2, List.drop_zero, Nat.sub_zero, List.take_length]
theorem ok_slice : SlD K mg (rSlAll K) sliceD := by
  intro H F ι S x lo hi d v Q w rx ho t
  unfold sliceD at ho
  split at ho
  · cases ho
    obtain ⟨a, vs, rfl, hl, hr⟩ := rx
    exact .inl (.inl ⟨a, vs, rfl, hl.sq, fun p n => t.own.lay w (hr.cut lo hi) n⟩)
  · cases ho
    obtain ⟨a, vs, rfl, hl, hr⟩ := rx
    exact .inl (.inl ⟨a, vs, rfl, hl.sq, fun p n => t.own.lay w (hr.cut lo hi) n⟩)
  · cases ho
    obtain ⟨a, vs, rfl, hl, hr⟩ := rx
    refine .inl (.inr ⟨a, vs, rfl, hl.sq, fun hw => ?_, fun _ p n => t.layT w (hr.cut lo hi) n⟩)
    rw [hr.len] at hw
    unfold cutD at t
    rw [cut_whole hw] at t
    exact t.here w ⟨a, vs, rfl, hl, hr⟩
  · split at ho
    · rename_i hl
      cases ho
      exact .inr ⟨_, rx, okLen_le hl, t.here w rfl⟩
    · cases ho
  · cases ho
abbrev ExO := Ex (Option Int)
def mNoPart : ExO := fun _ S => .ok none S
def asI : D → List Cell → Rs (Option Int)
  | .int i, S => .ok (some i) S
  | _, _ => .bad
def mPart (f : Ex D) : ExO := fun env S => (f env S).andThen asI
def tPo (K : PySem.W.Frag) (mg : Str → Option Value) (g : Snap) (E : EE) (f : ExO) : TO := fun σ H Q => ∃ F ι env S, RS K mg g σ H F ι env S ∧ rdAt K mg g E σ H F ι env (fun o H' _ _ _ => Q o H') (f env S)
def VP (X : Cx) (E : EE) (e : Option Expr) (f : ExO) : Prop := ∀ g, PO X e (tPo X.K X.mg g E f)
theorem _root_.L2.PO.imp {X : Cx} {e : Option Expr} {t t' : TO} (p : PO X e t) (h : ∀ σ H Q, t' σ H Q → t σ H Q) : PO X e t' := ⟨fun pins s σ H Q I q => p.run pins s σ H Q I (h σ H Q q)⟩
variable {E : EE} {e : Expr} {f : Ex D} {lo hi : Option Expr} {fl fh : ExO} {pos p2 : Pos}
theorem p_none : VP X E none mNoPart := fun g => po_none.imp fun σ H Q ⟨F, ι, env, S, w, q⟩ => q H F ι Ext.refl w
theorem p_some (h : VE X E e f) : VP X E (some e) (mPart f) := fun g => (po_some (h g)).imp fun σ H Q ⟨F, ι, env, S, w, q⟩ =>
  ⟨F, ι, env, S, w, rd_mono (rd_then q) fun d H1 F1 ι1 S1 _ e1 w1 ⟨_, _, q1⟩ v hv => by
    cases d with
    | int i => exact ⟨i, hv, (q1 H1 F1 ι1 Ext.refl w1).2.2⟩
    | _ => exact q1.elim⟩
def mSlice (op : D → Option Int → Option Int → Option D) (f : Ex D) (fl fh : ExO) : Ex D := fun env S => (f env S).andThen fun x S1 => (fl env S1).andThen fun l S2 => (fh env S2).andThen fun h S3 => ofO (op x l h) S3
theorem v_slice {r : V → Option Int → Option Int → Hp → VK → Prop} {op : D → Option Int → Option Int → Option D} (hr : SlR X r) (ok : SlD X.K X.mg r op) (he : VE X E e f) (hl : VP X E lo fl) (hu : VP X E hi fh) :
    VE X E (.Subscript e (.Slice lo hi none p2) pos) (mSlice op f fl fh) := fun g => (pe_slice hr (he g) (hl g) (hu g)).imp fun σ H Q ⟨F, ι, env, S, w, q⟩ =>
  ⟨F, ι, env, S, w, rd_mono (rd_then q) fun x H1 F1 ι1 S1 _ e1 w1 ⟨_, _, q1⟩ v hv => ⟨F1, ι1, env, S1, w1, rd_mono (rd_then q1) fun l H2 F2 ι2 S2 _ e2 w2 ⟨_, _, q2⟩ =>
    ⟨F2, ι2, env, S2, w2, rd_mono (rd_then q2) fun u H3 F3 ι3 S3 _ e3 w3 ⟨_, _, q3⟩ => by
      cases ho : op x l u with
      | none => rw [ho] at q3; exact q3.elim
      | some d =>
        rw [ho] at q3
        refine ok H3 F3 ι3 S3 x l u d v Q w3.wd (w2.wd.rep e3 (w1.wd.rep e2 hv)) ho fun v' H' F' ι' e' w' hv' => ?_
        exact (q3 H' F' ι' e' (w3.step e' w')).2.2.2.2.2.2 v' hv'⟩⟩⟩
/-! ### data compared -/
mutual
def toP : D → Option PyData
  | .non => some .none
  | .bl b => some (.bool b)
  | .int i => some (.int i)
  | .str s => some (.str s)
  | .tup xs => (toPs xs).map .tuple
  | .lst xs => (toPs xs).map .list
  | .ro xs => (toPs xs).map .list
  | _ => none
def toPs : List D → Option (List PyData)
  | [] => some []
  | d :: ds => match toP d, toPs ds with
    | some p, some ps => some (p :: ps)
    | _, _ => none
end
mutual
theorem toP_dp {F : Fz} {ι : List Addr} {H : Hp} : ∀ (d : D) (v : V) (p : PyData), Rep K mg F ι H d v → toP d = some p → Dp K H v p
  | .non, _, _, h, e => by cases e; rw [show _ = _ from h]; exact .non
  | .bl _, _, _, h, e => by cases e; rw [show _ = _ from h]; exact .bl _
  | .int _, _, _, h, e => by cases e; rw [show _ = _ from h]; exact .int _
  | .str _, _, _, h, e => by cases e; rw [show _ = _ from h]; exact .str _
  | .tup xs, _, p, h, e => by
    obtain ⟨a, vs, rfl, hl, hr⟩ := h
    unfold toP at e
    cases he : toPs xs with
    | none => rw [he] at e; cases e
    | some ps => rw [he] at e; cases e; exact .tup hl.sq (toPs_dp xs vs ps hr he)
  | .lst xs, _, p, h, e => by
    obtain ⟨a, vs, rfl, hl, hr⟩ := h
    unfold toP at e
    cases he : toPs xs with
    | none => rw [he] at e; cases e
    | some ps => rw [he] at e; cases e; exact .lst hl.sq (toPs_dp xs vs ps hr he)
  | .ro xs, _, p, h, e => by
    obtain ⟨a, vs, rfl, hl, hr⟩ := h
    unfold toP at e
    cases he : toPs xs with
    | none => rw [he] at e; cases e
    | some ps => rw [he] at e; cases e; exact .lst hl.sq (toPs_dp xs vs ps hr he)
  | .dct _ _, _, _, _, e => by cases e
  | .obj _ _ _, _, _, _, e => by cases e
  | .cell _, _, _, _, e => by cases e
  | .ty _, _, _, _, e => by cases e
  | .cls _, _, _, _, e => by cases e
  | .exc _ _ _, _, _, _, e => by cases e
theorem toPs_dp {F : Fz} {ι : List Addr} {H : Hp} : ∀ (ds : List D) (vs : List V) (ps : List PyData), Reps K mg F ι H ds vs → toPs ds = some ps → DpAll K H vs ps
  | [], _, _, h, e => by cases e; rw [show _ = _ from h]; exact .nil
  | d :: ds, vs, ps, h, e => by
    obtain ⟨v, r, rfl, h1, h2⟩ := h
    unfold toPs at e
    cases e1 : toP d with
    | none => rw [e1] at e; cases e
    | some p =>
      cases e2 : toPs ds with
      | none => rw [e1, e2] at e; cases e
      | some qs => rw [e1, e2] at e; cases e; exact .cons (toP_dp d v p h1 e1) (toPs_dp ds r qs h2 e2)
end
def eqP (x y : D) : Option Bool := match toP x, toP y with
  | some p, some q => if SeqAt.shaped p && SeqAt.shaped q then some (PyData.eqv p q) else none
  | _, _ => none
def eqA (x y : D) : Option Bool := match x, y with
  | .str a, .str b => some (decide (a = b))
  | _, _ => eqP x y
def eqD : Op2 := fun x y _ => (eqA x y).map .bl
def neD : Op2 := fun x y _ => (eqA x y).map fun b => .bl (!b)
def rEqA (K : PySem.W.Frag) : R2 := fun x y H Q => rEqD K x y H Q ∨ rEq x y H Q
def rNeA (K : PySem.W.Frag) : R2 := fun x y H Q => rNeD K x y H Q ∨ rNe x y H Q
theorem op_eqAll {X : Cx} (hu : X.A.units + 64 < cLine) : OpR X (compareOp .Eq) (rEqA X.K) := (op_eqD hu).or op_eq
theorem op_neAll {X : Cx} (hu : X.A.units + 64 < cLine) : OpR X (compareOp .NotEq) (rNeA X.K) := (op_neD hu).or op_ne
theorem eqA_cases {x y : D} {b : Bool} (h : eqA x y = some b) : eqP x y = some b ∨ ∃ a c, x = .str a ∧ y = .str c ∧ b = decide (a = c) := by
  unfold eqA at h
  split at h
  · cases h; exact .inr ⟨_, _, rfl, rfl, rfl⟩
  · exact .inl h
theorem eqP_dp {F : Fz} {ι : List Addr} {H : Hp} {x y : D} {v u : V} {b : Bool} (rx : Rep K mg F ι H x v) (ry : Rep K mg F ι H y u) (h : eqP x y = some b) :
    ∃ p q, Dp K H v p ∧ Dp K H u q ∧ SeqAt.shaped p = true ∧ SeqAt.shaped q = true ∧ PyData.eqv p q = b := by
  unfold eqP at h
  split at h
  · rename_i p q hp hq
    split at h
    · rename_i hs
      rw [Bool.and_eq_true] at hs
      exact ⟨p, q, toP_dp x v p rx hp, toP_dp y u q ry hq, hs.1, hs.2, by simpa using h⟩
    · cases h
  · cases h
theorem ok_eq : Ok2 K mg (rEqA K) eqD := by
  intro H F ι S x y d v u Q w rx ry ho t
  unfold eqD at ho
  cases hb : eqA x y with
  | none => rw [hb] at ho; cases ho
  | some b =>
    rw [hb] at ho
    cases ho
    rcases eqA_cases hb with hb | ⟨a, c, rfl, rfl, rfl⟩
    · obtain ⟨p, q, h1, h2, h3, h4, h5⟩ := eqP_dp rx ry hb
      exact .inl ⟨p, q, h1, h2, h3, h4, by rw [h5]; exact t.here w rfl⟩
    · rw [show v = _ from rx, show u = _ from ry]
      refine .inr ⟨rfl, ?_⟩
      have e : decide (V.str a = V.str c) = decide (a = c) := by simp
      rw [e]
      exact t.here w rfl
theorem ok_ne : Ok2 K mg (rNeA K) neD := by
  intro H F ι S x y d v u Q w rx ry ho t
  unfold neD at ho
  cases hb : eqA x y with
  | none => rw [hb] at ho; cases ho
  | some b =>
    rw [hb] at ho
    cases ho
    rcases eqA_cases hb with hb | ⟨a, c, rfl, rfl, rfl⟩
    · obtain ⟨p, q, h1, h2, h3, h4, h5⟩ := eqP_dp rx ry hb
      exact .inl ⟨p, q, h1, h2, h3, h4, by rw [h5]; exact t.here w rfl⟩
    · rw [show v = _ from rx, show u = _ from ry]
      refine .inr ⟨rfl, ?_⟩
      have e : decide (V.str a = V.str c) = decide (a = c) := by simp
      rw [e]
      exact t.here w rfl
/-- x is None -/
def isND : Op2 := fun x y _ => match y, x with
  | .non, .non => some (.bl true)
  | .non, .cell _ => none
  | .non, _ => some (.bl false)
  | .bl b, .bl a => some (.bl (a == b))
  | _, _ => none
end
end DL

/-! DLi: built-ins by data, stores, lists of one's own. -/
namespace DL
open PySem PySem.Spec L2
open PyProof.Rows hiding St

section
variable {X : Cx} {K : PySem.W.Frag} {mg : Str → Option Value}
/-! ### built-in calls -/
def lenD : OpN := fun xs S => match xs with
  | [.lst a] => some (.int (a.length : Nat))
  | [.ro a] => some (.int (a.length : Nat))
  | [.tup a] => some (.int (a.length : Nat))
  | [.str s] => if okLen s.length then some (.int (s.length : Nat)) else none
  | [.cell n] => match S[n]? with
    | some (.lst a) => some (.int (a.length : Nat))
    | _ => none
  | _ => none
def rLenAll (K : PySem.W.Frag) : List V → Hp → VK → Prop := fun xs H Q => (∃ p ys, xs = [.ref p] ∧ (SqL K H p ys ∨ SqT K H p ys) ∧ Q (.int ys.length) H) ∨ ∃ x n, xs = [x] ∧ LenV K x H n ∧ Q (.int n) H
theorem CallR.or {f : Value} {r r' : List V → Hp → VK → Prop} (h : CallR X f r) (h' : CallR X f r') : CallR X f (fun xs H Q => r xs H Q ∨ r' xs H Q) := by
  intro pins s σ H xs us Q I rv q
  rcases q with q | q
  · exact h pins s σ H xs us Q I rv q
  · exact h' pins s σ H xs us Q I rv q
theorem call_lenAll : CallR X (.builtin "len") (rLenAll X.K) := CallR.or call_len_seq call_len
theorem one_of {F : Fz} {ι : List Addr} {H : Hp} {d : D} {vs : List V} (h : Reps K mg F ι H [d] vs) : ∃ v, vs = [v] ∧ Rep K mg F ι H d v := by
  obtain ⟨v, r, rfl, h1, rfl⟩ := h
  exact ⟨v, rfl, h1⟩
theorem two_of {F : Fz} {ι : List Addr} {H : Hp} {d d' : D} {vs : List V} (h : Reps K mg F ι H [d, d'] vs) : ∃ v u, vs = [v, u] ∧ Rep K mg F ι H d v ∧ Rep K mg F ι H d' u := by
  obtain ⟨v, r, rfl, h1, u, r2, rfl, h2, rfl⟩ := h
  exact ⟨v, u, rfl, h1, h2⟩
theorem ok_len : OkN K mg (rLenAll K) lenD := by
  intro H F ι S xs d vs Q w rx ho t
  unfold lenD at ho
  split at ho
  · cases ho
    obtain ⟨v, rfl, a, us, rfl, hl, hr⟩ := one_of rx
    exact .inl ⟨a, us, rfl, .inl hl.sq, by rw [hr.len]; exact t.here w rfl⟩
  · cases ho
    obtain ⟨v, rfl, a, us, rfl, hl, hr⟩ := one_of rx
    exact .inl ⟨a, us, rfl, .inl hl.sq, by rw [hr.len]; exact t.here w rfl⟩
  · cases ho
    obtain ⟨v, rfl, a, us, rfl, hl, hr⟩ := one_of rx
    exact .inl ⟨a, us, rfl, .inr hl.sq, by rw [hr.len]; exact t.here w rfl⟩
  · split at ho
    · rename_i hl
      cases ho
      obtain ⟨v, rfl, hv⟩ := one_of rx
      rw [show v = _ from hv]
      exact .inr ⟨_, _, rfl, ⟨okLen_le hl, rfl⟩, t.here w rfl⟩
    · cases ho
  · obtain ⟨v, rfl, a, rfl, ha⟩ := one_of rx
    split at ho
    · rename_i ys hs
      cases ho
      obtain ⟨us, h1, hr⟩ := w.cells _ _ a hs ha
      exact .inl ⟨a, us, rfl, .inl (.inl (.inl h1)), by rw [hr.len]; exact t.here w rfl⟩
    · cases ho
  · cases ho
def absD : OpN := fun xs _ => match xs with
  | [.int i] => some (.int (if i < 0 then -i else i))
  | _ => none
theorem ok_abs : OkN K mg (fun xs H Q => ∃ i, xs = [.int i] ∧ Q (.int (if i < 0 then -i else i)) H) absD := by
  intro H F ι S xs d vs Q w rx ho t
  unfold absD at ho
  split at ho
  · cases ho
    obtain ⟨v, rfl, hv⟩ := one_of rx
    rw [show v = _ from hv]
    exact ⟨_, rfl, t.here w rfl⟩
  · cases ho
def toIntD : OpN := fun xs _ => match xs with
  | [.int i] => some (.int i)
  | [.bl b] => some (.int (if b = true then 1 else 0))
  | _ => none
theorem ok_toInt : OkN K mg (fun xs H Q => (∃ i, xs = [.int i] ∧ Q (.int i) H) ∨ ∃ k, xs = [.bl k] ∧ Q (.int (if k then 1 else 0)) H) toIntD := by
  intro H F ι S xs d vs Q w rx ho t
  unfold toIntD at ho
  split at ho
  · cases ho
    obtain ⟨v, rfl, hv⟩ := one_of rx
    rw [show v = _ from hv]
    exact .inl ⟨_, rfl, t.here w rfl⟩
  · cases ho
    obtain ⟨v, rfl, hv⟩ := one_of rx
    rw [show v = _ from hv]
    exact .inr ⟨_, rfl, t.here w rfl⟩
  · cases ho
def maxD : OpN := fun xs _ => match xs with
  | [.int i, .int j] => some (.int (if j > i then j else i))
  | _ => none
def minD : OpN := fun xs _ => match xs with
  | [.int i, .int j] => some (.int (if j < i then j else i))
  | _ => none
theorem ok_max : OkN K mg (fun xs H Q => ∃ i j, xs = [.int i, .int j] ∧ Q (.int (if j > i then j else i)) H) maxD := by
  intro H F ι S xs d vs Q w rx ho t
  unfold maxD at ho
  split at ho
  · cases ho
    obtain ⟨v, u, rfl, hv, hu⟩ := two_of rx
    rw [show v = _ from hv, show u = _ from hu]
    exact ⟨_, _, rfl, t.here w rfl⟩
  · cases ho
theorem ok_min : OkN K mg (fun xs H Q => ∃ i j, xs = [.int i, .int j] ∧ Q (.int (if j < i then j else i)) H) minD := by
  intro H F ι S xs d vs Q w rx ho t
  unfold minD at ho
  split at ho
  · cases ho
    obtain ⟨v, u, rfl, hv, hu⟩ := two_of rx
    rw [show v = _ from hv, show u = _ from hu]
    exact ⟨_, _, rfl, t.here w rfl⟩
  · cases ho
/-- tuple(list), tuple(tuple) -/
def tupleD : OpN := fun xs _ => match xs with
  | [.lst a] => some (.tup a)
  | [.ro a] => some (.tup a)
  | [.tup a] => some (.tup a)
  | _ => none
theorem ok_tuple : OkN K mg (fun xs H Q => ∃ p ys, xs = [.ref p] ∧ ((SqL K H p ys ∧ ∀ l, H l = none → Q (.ref l) (upd H l (.tup ys))) ∨ (SqT K H p ys ∧ Q (.ref p) H))) tupleD := by
  intro H F ι S xs d vs Q w rx ho t
  unfold tupleD at ho
  split at ho
  · cases ho
    obtain ⟨v, rfl, a, us, rfl, hl, hr⟩ := one_of rx
    exact ⟨a, us, rfl, .inl ⟨hl.sq, fun l n => t.layT w hr n⟩⟩
  · cases ho
    obtain ⟨v, rfl, a, us, rfl, hl, hr⟩ := one_of rx
    exact ⟨a, us, rfl, .inl ⟨hl.sq, fun l n => t.layT w hr n⟩⟩
  · cases ho
    obtain ⟨v, rfl, a, us, rfl, hl, hr⟩ := one_of rx
    exact ⟨a, us, rfl, .inr ⟨hl.sq, t.here w ⟨a, us, rfl, hl, hr⟩⟩⟩
  · cases ho
/-- list(list), list(tuple) -/
def listD : OpN := fun xs _ => match xs with
  | [.lst a] => some (.lst a)
  | [.ro a] => some (.lst a)
  | [.tup a] => some (.lst a)
  | _ => none
theorem ok_list : OkN K mg (fun xs H Q => ∃ p ys, xs = [.ref p] ∧ (SqL K H p ys ∨ SqT K H p ys) ∧ ∀ l, H l = none → Q (.ref l) (upd H l (.lst ys))) listD := by
  intro H F ι S xs d vs Q w rx ho t
  unfold listD at ho
  split at ho
  · cases ho
    obtain ⟨v, rfl, a, us, rfl, hl, hr⟩ := one_of rx
    exact ⟨a, us, rfl, .inl hl.sq, fun l n => t.own.lay w hr n⟩
  · cases ho
    obtain ⟨v, rfl, a, us, rfl, hl, hr⟩ := one_of rx
    exact ⟨a, us, rfl, .inl hl.sq, fun l n => t.own.lay w hr n⟩
  · cases ho
    obtain ⟨v, rfl, a, us, rfl, hl, hr⟩ := one_of rx
    exact ⟨a, us, rfl, .inr hl.sq, fun l n => t.own.lay w hr n⟩
  · cases ho
def boolsOf : List D → Option (List Bool)
  | [] => some []
  | .bl b :: r => (boolsOf r).map (b :: ·)
  | _ => none
def intsOf : List D → Option (List Int)
  | [] => some []
  | .int i :: r => (intsOf r).map (i :: ·)
  | _ => none
theorem bools_vals {F : Fz} {ι : List Addr} {H : Hp} : ∀ {ds : List D} {bs : List Bool} {vs : List V}, boolsOf ds = some bs → Reps K mg F ι H ds vs → vs = bs.map V.bl
  | [], bs, vs, e, h => by cases e; exact h
  | d :: ds, bs, vs, e, h => by
    obtain ⟨v, r, rfl, h1, h2⟩ := h
    cases d with
    | bl b =>
      unfold boolsOf at e
      cases e2 : boolsOf ds with
      | none => rw [e2] at e; cases e
      | some cs =>
        rw [e2] at e
        cases e
        rw [show v = _ from h1, bools_vals e2 h2]
        rfl
    | _ => cases e
theorem ints_vals {F : Fz} {ι : List Addr} {H : Hp} : ∀ {ds : List D} {ns : List Int} {vs : List V}, intsOf ds = some ns → Reps K mg F ι H ds vs → vs = ns.map V.int
  | [], bs, vs, e, h => by cases e; exact h
  | d :: ds, bs, vs, e, h => by
    obtain ⟨v, r, rfl, h1, h2⟩ := h
    cases d with
    | int b =>
      unfold intsOf at e
      cases e2 : intsOf ds with
      | none => rw [e2] at e; cases e
      | some cs =>
        rw [e2] at e
        cases e
        rw [show v = _ from h1, ints_vals e2 h2]
        rfl
    | _ => cases e
theorem boolsOf_map : ∀ bs : List Bool, boolsOf (bs.map D.bl) = some bs
  | [] => rfl
  | b :: bs => by rw [List.map_cons]; unfold boolsOf; rw [boolsOf_map bs]; rfl
theorem intsOf_map : ∀ ns : List Int, intsOf (ns.map D.int) = some ns
  | [] => rfl
  | b :: bs => by rw [List.map_cons]; unfold intsOf; rw [intsOf_map bs]; rfl
theorem reps_ints {F : Fz} {ι : List Addr} {H : Hp} : ∀ ns : List Int, Reps K mg F ι H (ns.map D.int) (ns.map V.int)
  | [] => rfl
  | n :: ns => ⟨.int n, _, rfl, rfl, reps_ints ns⟩
def allD : OpN := fun xs _ => match xs with
  | [.lst a] => (boolsOf a).map fun bs => .bl (bs.all id)
  | _ => none
def anyD : OpN := fun xs _ => match xs with
  | [.lst a] => (boolsOf a).map fun bs => .bl (bs.any id)
  | _ => none
def sumD : OpN := fun xs _ => match xs with
  | [.lst a] => (intsOf a).map fun ns => .int ns.sum
  | _ => none
theorem ok_all : OkN K mg (rAll K) allD := by
  intro H F ι S xs d vs Q w rx ho t
  unfold allD at ho
  split at ho
  · rename_i a
    obtain ⟨v, rfl, p, us, rfl, hl, hr⟩ := one_of rx
    cases e : boolsOf a with
    | none => rw [e] at ho; cases ho
    | some bs =>
      rw [e] at ho
      cases ho
      have := bools_vals e hr
      subst this
      exact ⟨p, bs, rfl, hl.sq, t.here w rfl⟩
  · cases ho
theorem ok_any : OkN K mg (rAny K) anyD := by
  intro H F ι S xs d vs Q w rx ho t
  unfold anyD at ho
  split at ho
  · rename_i a
    obtain ⟨v, rfl, p, us, rfl, hl, hr⟩ := one_of rx
    cases e : boolsOf a with
    | none => rw [e] at ho; cases ho
    | some bs =>
      rw [e] at ho
      cases ho
      have := bools_vals e hr
      subst this
      exact ⟨p, bs, rfl, hl.sq, t.here w rfl⟩
  · cases ho
theorem ok_sum : OkN K mg (rSum K) sumD := by
  intro H F ι S xs d vs Q w rx ho t
  unfold sumD at ho
  split at ho
  · rename_i a
    obtain ⟨v, rfl, p, us, rfl, hl, hr⟩ := one_of rx
    cases e : intsOf a with
    | none => rw [e] at ho; cases ho
    | some ns =>
      rw [e] at ho
      cases ho
      have := ints_vals e hr
      subst this
      exact ⟨p, ns, rfl, hl.sq, t.here w rfl⟩
  · cases ho
/-! ### repr -/
def okShow (p : PyData) : Bool := p.showable && !p.hasDict && decide (p.depth ≤ 60) && decide (p.shown.length ≤ sizeLine)
def reprD : OpN := fun xs _ => match xs with
  | [d] => match toP d with
    | some p => if okShow p then some (.str p.shown) else none
    | none => none
  | _ => none
def rRepr (K : PySem.W.Frag) : List V → Hp → VK → Prop := fun xs H Q => ∃ x p, xs = [x] ∧ Dp K H x p ∧ okShow p = true ∧ Q (.str p.shown) H
theorem call_repr {k : Nat} (rm : Rm k X.A) : CallR X (.builtin "repr") (rRepr X.K) := by
  intro pins s σ H xs us Q I r h
  obtain ⟨x, p, rfl, hp, hk, q⟩ := h
  obtain ⟨u, rfl, ru⟩ := vals1 r
  obtain ⟨as, rd⟩ := Dp.reads I p x u hp ru
  simp only [okShow, Bool.and_eq_true, decide_eq_true_eq, Bool.not_eq_true'] at hk
  obtain ⟨⟨⟨h1, h2⟩, h3⟩, h4⟩ := hk
  have hu : X.A.units + (p.depth + 1) < cLine := by have := rm.room.units; omega
  cases hp with
  | non => cases ru; exact PySem.P.repr_of_none ⟨.str _, H, I.tok _, ⟨_, rfl⟩, q⟩
  | bl b => cases ru; exact PySem.P.repr_of_bool ⟨.str _, H, I.tok _, ⟨_, rfl⟩, q⟩
  | int i => obtain ⟨t, rfl⟩ := ru; exact PySem.P.repr_of_int (by simpa [PyData.showable] using h1) ⟨.str _, H, I.tok _, ⟨_, rfl⟩, q⟩
  | str z => obtain ⟨t, rfl⟩ := ru; exact PySem.P.repr_of_str ⟨.str _, H, I.tok _, ⟨_, rfl⟩, q⟩ h4
  | lst _ _ => cases ru; exact repr_of_reads' rd h1 (fun z => by rw [h2] at z; cases z) rm.quiet hu (fun _ _ e => e) (fun h' u' tk hk => ⟨.str _, H, I.kept hk, ⟨_, rfl⟩, q⟩) h4
  | tup _ _ => cases ru; exact repr_of_reads' rd h1 (fun z => by rw [h2] at z; cases z) rm.quiet hu (fun _ _ e => e) (fun h' u' tk hk => ⟨.str _, H, I.kept hk, ⟨_, rfl⟩, q⟩) h4
theorem ok_repr : OkN K mg (rRepr K) reprD := by
  intro H F ι S xs d vs Q w rx ho t
  unfold reprD at ho
  split at ho
  · rename_i x
    obtain ⟨v, rfl, hv⟩ := one_of rx
    split at ho
    · rename_i p hp
      split at ho
      · rename_i hk
        cases ho
        exact ⟨v, p, rfl, toP_dp x v p hv hp, hk, t.here w rfl⟩
      · cases ho
    · cases ho
  · cases ho
/-! ### isinstance of data and built-in classes -/
def tyName : D → Option String
  | .non => some "NoneType"
  | .bl _ => some "bool"
  | .int _ => some "int"
  | .str _ => some "str"
  | .tup _ => some "tuple"
  | .lst _ => some "list"
  | .ro _ => some "list"
  | .dct _ _ => some "dict"
  | _ => none
def tyNames : List String := ["NoneType", "bool", "int", "str", "tuple", "list", "dict"]
def isTB (a T : String) : Option Bool := if tyNames.contains a && tyNames.contains T then some (a == T || (a == "bool" && T == "int")) else none
theorem isTB_ok {a T : String} {b : Bool} (h : isTB a T = some b) : kitB a T = some b := by
  unfold isTB at h
  split at h
  · rename_i hc
    rw [Bool.and_eq_true] at hc
    have key : ∀ a ∈ tyNames, ∀ T ∈ tyNames, kitB a T = some (a == T || (a == "bool" && T == "int")) := by decide +kernel
    rw [key a (by simpa using hc.1) T (by simpa using hc.2)]
    exact h
  · cases h
theorem ty_at {F : Fz} {ι : List Addr} {H : Hp} {d : D} {v : V} {a : String} (h : Rep K mg F ι H d v) (e : tyName d = some a) : TyX K H v (.type a) := by
  cases d with
  | non => cases e; rw [show v = _ from h]; exact .base .non
  | bl b => cases e; rw [show v = _ from h]; exact .base (.bl b)
  | int i => cases e; rw [show v = _ from h]; exact .base (.int i)
  | str s => cases e; rw [show v = _ from h]; exact .base (.str s)
  | tup xs =>
    cases e
    obtain ⟨p, vs, rfl, hl, hr⟩ := h
    rcases hl.sq with (q | ⟨o, q⟩) | ⟨o, _, _, q, c, _⟩
    · exact .base (.tup q)
    · exact .fTuple q
    · exact .kTuple q c
  | lst xs =>
    cases e
    obtain ⟨p, vs, rfl, hl, hr⟩ := h
    exact .base (.lst hl.2)
  | ro xs =>
    cases e
    obtain ⟨p, vs, rfl, hl, hr⟩ := h
    rcases hl.sq with (q | ⟨o, q⟩) | ⟨o, _, _, q, c, _⟩
    · exact .base (.lst q)
    · exact .base (.frz q)
    · exact .kList q c
  | dct ks xs =>
    cases e
    obtain ⟨p, vs, rfl, hf, hl, _⟩ := h
    rcases hl with q | ⟨o, q⟩
    · exact .base (.dK q)
    · exact .fDict q
  | _ => cases e
def isBD : OpN := fun xs _ => match xs with
  | [d, .ty T] => match tyName d with
    | some a => (isTB a T).map .bl
    | none => none
  | _ => none
theorem ok_isB : OkN K mg (rIsi K) isBD := by
  intro H F ι S xs d vs Q w rx ho t
  unfold isBD at ho
  split at ho
  · rename_i x T
    obtain ⟨v, u, rfl, hv, hu⟩ := two_of rx
    split at ho
    · rename_i a ha
      cases hb : isTB a T with
      | none => rw [hb] at ho; cases ho
      | some b =>
        rw [hb] at ho
        cases ho
        rw [show u = _ from hu]
        exact ⟨v, .ty T, .type a, .type T, b, rfl, .ty T, ty_at hv ha, kit_ty (isTB_ok hb), t.here w rfl⟩
    · cases ho
  · cases ho
end
/-- a built-in class as a value -/
theorem v_bty {X : Cx} {E : EE} {x : Str} {n : String} {pos : Pos} (hm : X.mg x = none) (hv : bootBuiltins x = some (.type n)) (hg : Gl X x := by rfl) (hn : x ≠ "__name__" := by decide) (hd : (x == ("__debug__" : Str)) = false := by decide) :
    VE X E (.Name x pos) (mC (.ty n)) := v_const (pe_bltn (v := .ty n) hg hm hv rfl hn hd) fun _ _ _ => rfl

/-! ### targets that store -/
section
variable {K : PySem.W.Frag} {mg : Str → Option Value} (g : Snap) (E : EE)
def gAt (K : PySem.W.Frag) (mg : Str → Option Value) (H : Hp) (F : Fz) (ι : List Addr) (Q : L2.St → Hp → Prop) : Fl → Prop
  | .nx env' S' => ∀ σ' H' F' ι', RS K mg g σ' H' F' ι' env' S' → Grow H F ι H' F' ι' → Q σ' H'
  | .ex c ns ds e' S' => ∀ σ', ExTo K mg g E (Grow H F ι) c ns ds σ' e' S'
  | _ => False
def tG (K : PySem.W.Frag) (mg : Str → Option Value) (t : D → Sm) : TG := fun v σ H Q => ∃ F ι env S d, RS K mg g σ H F ι env S ∧ Rep K mg F ι H d v ∧ gAt g E K mg H F ι Q (t d env S)
def tGs (K : PySem.W.Frag) (mg : Str → Option Value) (t : List D → Sm) : TGs := fun vs σ H Q => ∃ F ι env S ds, RS K mg g σ H F ι env S ∧ Reps K mg F ι H ds vs ∧ gAt g E K mg H F ι Q (t ds env S)
end
def VG (X : Cx) (E : EE) (tg : Expr) (t : D → Sm) : Prop := ∀ g, PG X tg (tG g E X.K X.mg t)
def VGs (X : Cx) (E : EE) (tgs : List Expr) (t : List D → Sm) : Prop := ∀ g, PGs X tgs (tGs g E X.K X.mg t)
theorem _root_.L2.PGs.imp {X : Cx} {e : List Expr} {t t' : TGs} (p : PGs X e t) (h : ∀ v σ H Q, t' v σ H Q → t v σ H Q) : PGs X e t' := ⟨fun pins s σ H vs us Q I r q => p.run pins s σ H vs us Q I r (h vs σ H Q q)⟩
section
variable {X : Cx} {E : EE} {e o i : Expr} {es : List Expr} {f h : Ex D} {pos : Pos} {t : D → Sm} {ts : List D → Sm}
theorem gAt_grow {K : PySem.W.Frag} {mg : Str → Option Value} {g : Snap} {H H' : Hp} {F F' : Fz} {ι ι' : List Addr} {Q : L2.St → Hp → Prop} (w : Grow H F ι H' F' ι') : ∀ {fl : Fl}, gAt g E K mg H F ι Q fl → gAt g E K mg H' F' ι' Q fl
  | .nx _ _, q => fun σ2 H2 F2 ι2 r e => q σ2 H2 F2 ι2 r (w.trans e)
  | .ex _ _ _ _ _, q => fun σ' C d H' F' ι' hc w' r' hd => q σ' C d H' F' ι' hc w' (w.trans r') hd
  | .bk _ _, q => q
  | .ct _ _, q => q
  | .rt _ _, q => q
  | .bad, q => q
theorem rd_gAt {α : Type} {K : PySem.W.Frag} {mg : Str → Option Value} {g : Snap} {σ : L2.St} {H : Hp} {F : Fz} {ι : List Addr} {env : List Sl} {S : List Cell} {Q : L2.St → Hp → Prop} {r : Rs α} {h : α → List Cell → Fl} (w : Wd K mg F ι H S) (q : gAt g E K mg H F ι Q (r.go env h)) :
    rdAt K mg g E σ H F ι env (fun a H1 F1 ι1 S1 => Ext H F ι H1 F1 ι1 ∧ RS K mg g σ H1 F1 ι1 env S1 ∧ gAt g E K mg H1 F1 ι1 Q (h a S1)) r := by
  cases r with
  | bad => exact q
  | ex c ns ds S1 => exact fun C d H' F' ι' hc w' r' hd => q σ C d H' F' ι' hc w' (w.grow r') hd
  | ok a S1 => exact fun H1 F1 ι1 e1 r1 => ⟨e1, r1, gAt_grow (w.grow e1) q⟩
def gName' (k : Nat) : D → Sm := fun d env S => .nx (env.set k (.val d)) S
theorem g_name (k : Nat) {x : Str} (hN : X.N.Nodup) (hi : X.N[k]? = some x := by rfl) (hx : Loc X.env.scope x := by first | exact Or.inl rfl | exact Or.inr rfl) (hf : X.fn x = true ∨ X.env.scope.names.lookup x = some .local := by first | exact .inl rfl | exact .inr rfl) :
    VG X E (.Name x pos) (gName' k) := fun g => (pg_name hN hi hx hf).imp fun v σ H Q ⟨F, ι, env, S, d, w, r, q⟩ => q _ H F ι (w.put k r) Grow.refl
/-- o[i] = d, o a cell -/
def putC (o i d : D) (S : List Cell) : Option (List Cell) := match o, i with
  | .cell n, .int j => match S[n]? with
    | some (.lst xs) => (ixN xs.length j).map fun m => S.set n (.lst (xs.set m d))
    | _ => none
  | _, _ => none
def gSubC (f h : Ex D) : D → Sm := fun d env S => (f env S).go env fun x S1 => (h env S1).go env fun y S2 => match putC x y d S2 with
  | some S3 => .nx env S3
  | none => .bad
theorem g_subC (ho : VE X E o f) (hi : VE X E i h) (ha : ∀ v, assign (.Subscript o i pos) X.env v = (do
      let ov ← holding [v] (eval o X.env)
      let iv ← holding [v, ov] (eval i X.env)
      standAt pos
      holding [v, ov, iv] (setItem ov iv v)
      release [v, ov, iv] []) := by intro _; rfl) : VG X E (.Subscript o i pos) (gSubC f h) := fun g => (pg_sub (ho g) (hi g) set_list ha).imp fun v σ H Q ⟨F, ι, env, S, d, w, r, q⟩ =>
  ⟨F, ι, env, S, w, rd_mono (rd_gAt w.wd q) fun x H1 F1 ι1 S1 _ e1 w1 ⟨_, _, q1⟩ ov hov => ⟨F1, ι1, env, S1, w1, rd_mono (rd_gAt w1.wd q1) fun y H2 F2 ι2 S2 _ e2 w2 ⟨_, _, q2⟩ iv hiv => by
    have rd := w1.wd.rep e2 (w.wd.rep e1 r)
    have ro := w1.wd.rep e2 hov
    unfold putC at q2
    split at q2
    · rename_i S3 hp
      cases x with
      | cell n =>
        cases y with
        | int j =>
          dsimp only at hp
          cases hs : S2[n]? with
          | none => rw [hs] at hp; cases hp
          | some cl =>
            cases cl with
            | ins c ns xs => rw [hs] at hp; cases hp
            | dead => rw [hs] at hp; cases hp
            | tab _ _ => rw [hs] at hp; cases hp
            | lst xs =>
              rw [hs] at hp
              dsimp only at hp
              cases hm : ixN xs.length j with
              | none => rw [hm] at hp; cases hp
              | some m =>
                rw [hm] at hp
                cases hp
                obtain ⟨a, rfl, ha⟩ := ro
                obtain ⟨vs, h1, hr⟩ := w2.wd.cells _ _ a hs ha
                obtain ⟨w3, gr⟩ := w2.cell (n := n) (a := a) (o := .lst (vs.set m v)) (c' := .lst (xs.set m d)) ha ⟨_, hs, rfl⟩ rfl fun H' hH' st => ⟨_, hH', reps_mono (fun _ h => h) st (List.prefix_refl _) _ _ (hr.set m rd)⟩
                exact ⟨a, vs, j, m, rfl, hiv, h1, by rw [hr.len]; exact hm, q2 _ _ _ _ w3 gr⟩
        | _ => cases hp
      | _ => cases hp
    · exact q2.elim⟩⟩
def gNil' : List D → Sm := fun ds env S => match ds with
  | [] => .nx env S
  | _ => .bad
def gCons' (t : D → Sm) (ts : List D → Sm) : List D → Sm := fun ds env S => match ds with
  | d :: r => match t d env S with
    | .nx e S' => ts r e S'
    | .ex c ns es e' S' => .ex c ns es e' S'
    | _ => .bad
  | [] => .bad
theorem gs_nil : VGs X E [] gNil' := fun g => pgs_nil.imp fun vs σ H Q ⟨F, ι, env, S, ds, w, r, q⟩ => by
  cases ds with
  | nil => exact ⟨r, q σ H F ι w Grow.refl⟩
  | cons d ds => exact q.elim
theorem gs_cons (h1 : VG X E e t) (h2 : VGs X E es ts) (hs : (assignEach (e :: es) X.env).map (·.2) = assign e X.env :: (assignEach es X.env).map (·.2) := by rfl) : VGs X E (e :: es) (gCons' t ts) := fun g => (pgs_cons (h1 g) (h2 g) hs).imp fun vs σ H Q ⟨F, ι, env, S, ds, w, r, q⟩ => by
  cases ds with
  | nil => exact q.elim
  | cons d ds =>
    obtain ⟨v, us, rfl, r1, r2⟩ := r
    refine ⟨v, us, rfl, F, ι, env, S, d, w, r1, ?_⟩
    have q : gAt g E X.K X.mg H F ι Q (match t d env S with
      | .nx e S' => ts ds e S'
      | .ex c ns es e' S' => .ex c ns es e' S'
      | _ => .bad) := q
    cases ht : t d env S with
    | nx e' S' => rw [ht] at q; exact fun σ' H' F' ι' w' gr => ⟨F', ι', e', S', ds, w', reps_mono gr.sub gr.stay gr.pre ds us r2, gAt_grow gr q⟩
    | ex c ns es' e' S' => rw [ht] at q; exact q
    | _ => rw [ht] at q; exact q.elim
def gTup' (ts : List D → Sm) : D → Sm := fun d env S => match d with
  | .tup ds => ts ds env S
  | .lst ds => ts ds env S
  | _ => .bad
theorem g_tup {k n : Nat} (hc : X.calm = true) (h : VGs X E es ts) (hlen : ∀ ds env S, ds.length ≠ n → ts ds env S = .bad) (hn : (assignEach es X.env).length = n := by rfl) (hst : (assignEach es X.env).findIdx? (·.1) = none := by rfl) :
    VG X E (.Tuple es k pos) (gTup' ts) := fun g => (pg_or (pg_tup hc (h g) hn hst) (pg_unl hc (h g) hn hst)).imp fun v σ H Q ⟨F, ι, env, S, d, w, r, q⟩ => by
  have fits : ∀ ds, gAt g E X.K X.mg H F ι Q (ts ds env S) → ds.length = n := fun ds q => by
    by_cases z : ds.length = n
    · exact z
    · rw [hlen ds env S z] at q; exact q.elim
  cases d with
  | tup ds =>
    obtain ⟨a, vs, rfl, hl, hr⟩ := r
    exact .inl ⟨a, vs, rfl, hl.sq, hr.len.trans (fits ds q), F, ι, env, S, ds, w, hr, q⟩
  | lst ds =>
    obtain ⟨a, vs, rfl, hl, hr⟩ := r
    exact .inr ⟨a, vs, rfl, hl.sq, hr.len.trans (fits ds q), F, ι, env, S, ds, w, hr, q⟩
  | _ => exact q.elim
def mAsg (f : Ex D) (t : D → Sm) : Sm := fun env S => (f env S).go env fun d S1 => t d env S1
theorem s_asg {tg : Expr} (he : VE X E e f) (hg : VG X E tg t) (hno : ∀ d env S, (∃ e S', t d env S = .nx e S') ∨ (∃ c ns ds e' S', t d env S = .ex c ns ds e' S') ∨ t d env S = .bad)
    (hs : swapsWithSole [tg] e pos.line X.env = pure false := by rfl) (hw : swappedStores [tg] e X.env = pure none := by rfl) (h1 : (assignEach [tg] X.env).map (·.2) = [assign tg X.env] := by rfl) :
    VS X E (.Assign [tg] e pos) (mAsg f t) := fun g => (ps_asg (he g) (hg g) hs hw h1).imp fun D σ H ⟨F, ι, env, S, w, q⟩ =>
  ⟨F, ι, env, S, w, rd_mono (rd_go w.wd q) fun d H1 F1 ι1 S1 _ e1 w1 ⟨_, _, q1⟩ v hv => ⟨F1, ι1, env, S1, d, w1, hv, by
    rcases hno d env S1 with ⟨e', S', h⟩ | ⟨c, ns, ds, e', S', h⟩ | h
    · rw [h] at q1 ⊢; exact q1
    · rw [h] at q1 ⊢; exact q1
    · rw [h] at q1; exact q1.elim⟩⟩
/-- xs.append(e), xs a list of one's own in slot k -/
def mApp (k : Nat) (f : Ex D) : Sm := fun env S => match env[k]? with
  | some (.own ds) => (f env S).go env fun d S1 => if okLen (ds.length + 1) then .nx (env.set k (.own (ds ++ [d]))) S1 else .bad
  | _ => .bad
theorem s_app (k : Nat) {x : Str} {px apos cpos : Pos} (he : VE X E e f) (hN : X.N[k]? = some x := by rfl) (hv : Vis X.env.scope x := by first | exact Or.inl rfl | exact Or.inr (Or.inl rfl) | exact Or.inr (Or.inr rfl))
    (h1 : attributeBase (.Name x px) "append" X.env (eval (.Name x px) X.env) = eval (.Name x px) X.env := by rfl)
    (h2 : ((backTo cpos (starEach [e] X.env)).all (fun x => !x.1) && (backToKw cpos (keywordEach [] X.env)).all (fun x => x.1.isSome)
      && decide ([e].length + ([] : List Keyword).length + (if ([] : List Keyword).isEmpty then 0 else 1) < 30)) = true := by rfl)
    (h3 : (apos.endLine == cpos.line) = true := by rfl) (h4 : starEach [e] X.env = (false, eval e X.env) :: starEach [] X.env := by rfl) (h5 : (backTo cpos (starEach [] X.env)).any (·.1) = false := by rfl)
    (hs : swapsWith (.Call (.Attribute (.Name x px) "append" apos) [e] [] cpos) none pos.line X.env = pure false := by rfl) (hd : (x == ("__debug__" : Str)) = false := by decide) (hcd : (x == ("__classdict__" : Str)) = false := by decide) :
    VS X E (.Expr (.Call (.Attribute (.Name x px) "append" apos) [e] [] cpos) pos) (mApp k f) := fun g =>
  (ps_expr (pe_bm PySem.F.plainAttrs_list PySem.F.slot_list_append PySem.F.type_list_append mt_append (pe_var hN hv hd hcd) (pa_cons (he g) pa_nil h4) h1 h2 h3 h4 h5) hs).imp fun D σ H ⟨F, ι, env, S, w, q⟩ => by
    unfold mApp at q
    split at q
    · rename_i ds hd'
      obtain ⟨a, vs, h1, h2, h3, h4, h5, h6⟩ := w.own k ds hd'
      refine ⟨.ref a, h1, .inl ⟨rfl, vs, .inl (.inl h2)⟩, F, ι, env, S, w, rd_mono (rd_go w.wd q) ?_⟩
      rintro d H1 F1 ι1 S1 - e1 w1 ⟨_, _, q1⟩ v hv
      split at q1
      · rename_i hl
        have k2 := e1.keep a _ h2 (.inr h5)
        obtain ⟨w2, gr⟩ := w1.mutO (ds' := ds ++ [d]) (vs' := vs ++ [v]) hd' h1 ((w.wd.reps e1 h3).app (.one hv))
        refine ⟨a, vs, v, rfl, rfl, k2, ?_, q1 _ _ _ _ w2 gr⟩
        have := okLen_le hl
        rw [h3.len]
        omega
      · exact q1.elim
    · exact q.elim
end
end DL

/-! DLj: own exceptions over any built-in base: made, raised. -/
namespace DL
open PySem PySem.Spec L2
open PyProof.Rows hiding St
open Builtin Builtin.ObjectAttr

/-- object.__setattr__ of an exception that has no dict as yet -/
theorem osaG {prog : Program} {w : World} {A : Around} {R : Result → Shared → Prop} {hp : Heap} {g : Array GenState} {d : Drawn} {t : Nat} {os : OsState} {K : PySem.W.Frag} {name : Str} {bmB : List Value} {tk : Tok} {v : Value} {x C : Addr} {fv : Array Value} {Bn : String}
    (SF : StoreFacts Bn bmB "object.__setattr__" "object") (kin : K.In hp) (hx : hp.get? x = some { cls := .ref C, data := .fields fv }) (ov : PySem.W.excOver K C bmB = true) (hh : PySem.W.hasDictIn K C = true) (ht : PySem.W.takerIn K C name = some none)
    (go : ∀ h1 t1 dx, (∀ b o, b ≠ x → hp.get? b = some o → h1.get? b = some o) → hp.objs.size ≤ dx → dx ≠ x → h1.get? x = some { cls := .ref C, dict := some dx, data := .fields fv } →
      h1.Ns1 dx (fun y => if y = name then some v else none) → R (.ok (.ret .none)) ⟨h1, g, d, t1, os⟩) :
    codeAny (model prog w) A (.call (.builtin "object.__setattr__") ⟨[.ref x, .str name tk, v], []⟩) R ⟨hp, g, d, t, os⟩ := by
  have at0 : PySem.W.InstAt hp x { cls := .ref C, data := .fields fv } C none := ⟨hx, rfl, rfl, trivial⟩
  obtain ⟨cd, hc, hdt⟩ := PySem.W.any_some hh
  have lc : PySem.W.Looks (model prog w) hp (classData C) cd := PySem.W.looks_clsIn kin hc
  have xn : x ≠ hp.objs.size := Nat.ne_of_lt (Heap.lt_size hx)
  refine PySem.W.osa_openX (s := ⟨hp, g, d, t, os⟩) SF kin at0 ov ht fun b => ?_
  obtain ⟨c1, c2, c3, c4, c5, c6, c7, c8, c9, c10, c11⟩ := cd
  dsimp only at hdt ⊢
  subst hdt
  unfold storeInOwnDict ownDictForStores
  repeat (first | with_reducible refine HandSPX.store_in_new ?_ ?_ | with_reducible refine wpAny_loadPart_at hx ?_ | with_reducible refine lc.at ?_ | wp_step)
  · exact ⟨_, #[], _, (Heap.get?_update_ne _ _ _ _ xn.symm).trans (Heap.get?_push_at rfl rfl), rfl, fun e he => absurd he (by simp), fun _ => rfl⟩
  · intro h1 t1 hn sb
    have x1 : (hp.push { cls := .type "dict", data := .dict #[] }).get? x = some { cls := .ref C, data := .fields fv } := Heap.get?_push_of_some _ hx
    refine go h1 t1 hp.objs.size (fun b o nb ob => ?_) (Nat.le_refl _) xn.symm ((sb.2 x xn).trans (Heap.get?_update_self _ x1 rfl)) hn
    exact (sb.2 b (Nat.ne_of_lt (Heap.lt_size ob))).trans ((Heap.get?_update_ne _ _ _ _ nb).trans (Heap.get?_push_of_some _ ob))

/-- an object that the state J did not have is told of -/
theorem _root_.L2.Inv.track {X : Cx} {pins : List (Addr × Obj)} {σ τ : L2.St} {H G : Hp} {s sJ : Shared} {dx : Addr} {o : HO} (I : Inv X pins σ H s) (J : Inv X pins τ G sJ) (nj : sJ.heap.get? dx = none) (hn : H dx = none)
    (new : ObjOk X.prog X.w (upd H dx o) s.heap dx o) : Inv X pins σ (upd H dx o) s := by
  have ne : ∀ {b u}, sJ.heap.get? b = some u → b ≠ dx := fun {b u} h z => by rw [z, nj] at h; cases h
  have nt : ∀ {b u}, H b = some u → b ≠ dx := fun {b u} h z => by rw [z, hn] at h; cases h
  refine ⟨I.ok, I.os, I.bare, ⟨I.base.keep, I.base.slot, fun b u hb h0 nx => ?_, I.base.there, fun b xs h => ?_, fun b ob u h => ?_, fun b ps h => ?_⟩, I.loc, I.cell, ?_, fun x c h => ?_, fun q hq => ?_, fun b u h => ?_, I.len⟩
  · obtain ⟨u', h'⟩ := J.base.there b u hb nx
    rw [upd_ne (ne h')]
    exact I.base.free b u hb h0 nx
  · have h2 := I.base.tups b xs h
    rw [upd_ne (nt h2)]; exact h2
  · have h2 := I.base.frzs b ob u h
    rw [upd_ne (nt h2)]; exact h2
  · obtain ⟨more, h2⟩ := I.base.tbls b ps h
    exact ⟨more, by rw [upd_ne (nt h2)]; exact h2⟩
  · obtain ⟨m, hns, _⟩ := J.loc
    obtain ⟨ol, _, _, hol, _⟩ := hns
    rw [upd_ne (ne hol)]; exact I.free
  · obtain ⟨v, hv⟩ := J.cell x c h
    obtain ⟨oc, hoc, _⟩ := hv
    rw [upd_ne (ne hoc)]; exact I.freeC x c h
  · obtain ⟨a1, a2, a3⟩ := I.pin q hq
    exact ⟨a1, by rw [upd_ne (ne (J.pin q hq).1)]; exact a2, a3⟩
  · by_cases z : b = dx
    · subst z
      rw [upd_same] at h
      cases h
      exact new
    · rw [upd_ne z] at h
      exact (I.hok b u h).stay (fun _ _ _ z => z) (fun c hc => by rw [upd_ne (nt hc)]; exact hc) fun c xs hc => by rw [upd_ne (nt hc)]; exact hc

/-- what the written part says of an own exception class over a built-in one -/
structure OexG (K : PySem.W.Frag) (C : Addr) : Prop where
  base : ∃ (B newId initId : String) (bmB : List Value), ExcBaseFacts B newId initId bmB ∧ StoreFacts B bmB "object.__setattr__" "object" ∧ PySem.W.excInitIn K C bmB newId = true ∧ PySem.W.excOver K C bmB = true
  hd : PySem.W.hasDictIn K C = true
  sa : PySem.W.findIn K (.ref C) "__setattr__" = some (some (.builtin "object.__setattr__"))
  exC : PySem.W.subIn K (.ref C) (.type "BaseException") = some true
  tyC : PySem.W.typeIn K (.ref C) = some (.type "type")
  kC : PySem.W.keepIn K (.ref C) = true
section
variable {X : Cx} {pins : List (Addr × Obj)} {σ : L2.St} {H : Hp} {s : Shared} {a C dx : Addr} {f : Str} {y : V} {u : Value} {Q : Unit → Shared → Prop} {E : Value → Shared → Prop} {A : Around}
/-- self.f = y, self new -/
theorem ostG (T : OexG X.K C) (I : Inv X pins σ H s) (e : H a = some (exo a C none)) (ht : PySem.W.takerIn X.K C f = some none) (ry : RelV y u)
    (go : ∀ dx s', H dx = none → dx ≠ a → Inv X pins σ (upd (upd H a (exo a C (some dx))) dx (exd dx [(f, y)])) s' → Q () s') : wpAny (model X.prog X.w) A (setAttr (.ref a) f u) Q E s := by
  obtain ⟨B, _, _, bmB, _, SF, _, ov⟩ := T.base
  obtain ⟨t1, ho⟩ := exo_at I.hok e
  obtain ⟨hp, g, d, t, os⟩ := s
  refine PySem.W.set_plain I.kIn (ox := { cls := .ref C, dict := none, data := .fields #[.ref t1, .none, .none, .none, .bool false, .none] }) (od := none) ⟨ho, rfl, rfl, trivial⟩ T.sa ?_
  refine osaG SF I.kIn ho ov T.hd ht fun h1 t2 dx k dn dne hx hns => ?_
  have hnd : H dx = none := I.hok.fresh dn
  have J := I.write (t' := t2) (x := a) (e := a) (o := exo a C (some dx)) (by rw [e]; exact True.intro) (.inl rfl) k ⟨_, hx⟩ (exo_ok hx)
  have hg : hp.get? dx = none := Heap.get?_none_of_le dn
  refine go dx _ hnd dne (J.track I hg (by rw [upd_ne dne]; exact hnd) ?_)
  exact exd_ok hns (relO_put (fs := []) ry fun g => True.intro)
def tOstG (K : PySem.W.Frag) (f : Str) (to te : TE) : TS := fun D σ H => te σ H fun y H1 => to σ H1 fun x H2 => ∃ a C : Addr, x = .ref a ∧ OexG K C ∧ PySem.W.takerIn K C f = some none ∧
  H2 a = some (exo a C none) ∧ ∀ dx, H2 dx = none → dx ≠ a → D.nx σ (upd (upd H2 a (exo a C (some dx))) dx (exd dx [(f, y)]))
theorem ps_ostG {o e : Expr} {to te : TE} {p' pos : Pos} (ho : PE X o to) (he : PE X e te) (hs : swapsWith e (some (.Attribute o f p')) pos.line X.env = pure false := by rfl) : PS X (.Assign [.Attribute o f p'] e pos) (tOstG X.K f to te) := by
  constructor
  intro pins s σ H D I h
  refine plainObj_wpAny_Assign_Attribute (thn (he.run pins s σ H _ I h) fun v s1 q1 => ?_) hs
  obtain ⟨y, H1, I1, r1, q1⟩ := q1
  refine thn (ho.run pins s1 σ H1 _ I1 q1) fun u s2 q2 => ?_
  obtain ⟨x, H2, I2, r2, a, C, rfl, T, ht, ea, q⟩ := q2
  obtain rfl : u = Value.ref a := r2
  exact ostG T I2 ea ht r1 fun dx s' n ne J => ⟨σ, _, J, q dx n ne⟩
end

/-- C(e, ..) of an own exception class whose __init__ keeps sp: the exception is in the air, its dict stays told -/
def tMkG (C : Addr) (sp : Sp) (ta : TA) : L2.St → Hp → XK → Prop := fun σ H Q => ta σ H fun vs H1 => vs.length ≤ 1000 ∧ ∀ a, H1 a = none → sp (.ref a :: vs) (upd H1 a (exo a C none))
  (fun v H2 => v = .non ∧ ∃ (d : Addr) (fs : List (Str × V)), H2 a = some (exo a C (some d)) ∧ H2 d = some (exd d fs) ∧ H1 d = none ∧ Q (.ref C) (some d) (upd (del H2 a) d (.xd fs))) (fun _ _ _ => False)
theorem pmkG {X : Cx} {CX : CXT} {x : Str} {C fI : Addr} {k : Nat} {fd : FuncData} {ps : List Str} {sp : Sp} {e : Expr} {es : List Expr} {ta : TA} {p pos : Pos} (T : OexG X.K C) (iC : PySem.W.findIn X.K (.ref C) "__init__" = some (some (.ref fI)))
    (tI : PySem.W.typeIn X.K (.ref fI) = some (.type "function")) (FI : FnOk X.prog X.w X.K X.mg X.base CX k fI fd ps sp) (rm : Room (k + 1) X.A) (hb : Binds X.K fd ps []) (px : Passes CX X (fun _ _ _ => False)) (hg : Gl X x) (hm : X.mg x = some (.ref C))
    (ha : PA X (e :: es) ta) (hdb : (x == ("__debug__" : Str)) = false := by decide) (he : starEach (e :: es) X.env = (false, eval e X.env) :: starEach es X.env := by rfl) (hpl : (backTo pos (starEach es X.env)).any (·.1) = false := by rfl) :
    L2N.PMk X (.Call (.Name x p) (e :: es) [] pos) (tMkG C sp ta) := by
  intro pins s σ H Q I h
  obtain ⟨B, newId, initId, bmB, BF, _, inI, _⟩ := T.base
  refine wpAny_Call_Name_kw (ld_glob I hg hm ?_ hdb)
  refine PySem.W.callWith_K (h₀ := X.base) I.ok.mod.kin T.kC (thn (ha.run pos pins s σ H _ I h) fun us s1 hv => ?_) he hpl
  obtain ⟨vs, H1, I1, r1, hz, q1⟩ := hv
  refine ⟨I1.kIn, ?_⟩
  show wpAny _ _ (call (.ref C) us) _ _ _
  obtain ⟨hp, g, dr, tk, os⟩ := s1
  obtain ⟨nm, N, qn, bs, bm, hdct, sn, sub, ab, col, dd, k0, k1, k2, k3, k5, hC, hbm⟩ := PySem.W.excInit_of I1.kIn inI
  have up1 : hp.objs.size ≤ hp.objs.size + 1 := Nat.le_succ _
  have hn : H1 (hp.objs.size + 1) = none := I1.hok.fresh up1
  have kk : ∀ b o, hp.get? b = some o → ((hp.push (PySem.W.kdv_tup us)).push (HandSPX.excO C hp.objs.size)).get? b = some o := fun b o z => Heap.get?_push_of_some _ (Heap.get?_push_of_some _ z)
  have at1 : ((hp.push (PySem.W.kdv_tup us)).push (HandSPX.excO C hp.objs.size)).get? (hp.objs.size + 1) = some (HandSPX.excO C hp.objs.size) := by heap_get
  have I2 := I1.laid (t' := tk) (a := hp.objs.size + 1) (o := exo (hp.objs.size + 1) C none) (h' := (hp.push (PySem.W.kdv_tup us)).push (HandSPX.excO C hp.objs.size)) kk up1 (exo_ok at1)
  have q := q1 _ hn
  have rr : Vals (V.ref (hp.objs.size + 1) :: vs) (Value.ref (hp.objs.size + 1) :: us) := .cons rfl r1
  have hl : (Value.ref (hp.objs.size + 1) :: us).length = ps.length := rr.length.symm.trans (FI.len _ _ _ _ q)
  have hus : us.length ≤ sizeLine := by rw [← Paired.length r1, sizeLine_eq]; omega
  have bd := hb ⟨(hp.push (PySem.W.kdv_tup us)).push (HandSPX.excO C hp.objs.size), g, dr, tk, os⟩ (Value.ref (hp.objs.size + 1) :: us) I2.kIn (by rw [List.append_nil]; exact hl)
  rw [List.append_nil] at bd
  refine wpAny_call (HandSPX.call_own BF hbm hC (PySem.W.looks_findIn I1.kIn iC) (fun self => PySem.W.bind_fn I1.kIn self tI) hus (codeAny_mono (FI.run _ X.stack _ _ ⟨Value.ref (hp.objs.size + 1) :: us, []⟩ _ _ _ (fun _ _ _ => False)
    (rm.make C us []) (I2.env0.make C us []) bd rr q) ?_))
  rintro r ⟨h2, g2, d2, t2, os2⟩ hr
  cases r with
  | error er => exact px pins σ _ _ er _ I2 hr
  | ok fl =>
    cases fl with
    | ret u =>
      obtain ⟨v, H2, o2, b2, un2, ok2, rv, ev, d, fs, ea, ed, hd1, q2⟩ := hr
      subst ev
      obtain ⟨t0, G, J, kG, ge, hoe, na⟩ := mk_end0 (d2 := d2) (t2 := t2) I1 up1 kk un2 ok2 o2 b2 ea ed hd1
      exact ⟨rv, _, _, _, ⟨G, g2, d2, t2, os2⟩, _, .ref C, some d, rfl, J, kG, ge, hoe, ⟨rfl, rfl, fun vs z => by cases z; rfl⟩, rfl, rfl, na, rfl, b2, raises_own T.exC T.tyC, q2⟩
    | _ => exact False.elim hr
end DL

/-! DLk: raise of an own exception with one field; try. -/
namespace DL
open PySem PySem.Spec L2
open PyProof.Rows hiding St

def spI (C : Addr) (fld : Str) : Sp := fun vs H Q E => ∃ a y, vs = [.ref a, y] ∧ H a = some (exo a C none) ∧ ∀ dx, H dx = none → dx ≠ a → Q .non (upd (upd H a (exo a C (some dx))) dx (exd dx [(fld, y)]))
theorem init1 {P : Program} {w : World} {K : PySem.W.Frag} {mg : Str → Option Value} {base : Heap} {qual x1 fld : Str} {st : Stmt} {f C : Addr} {fd : FuncData} {p1 p2 p3 p4 : Pos} (F : Fun K "__init__" qual st f fd)
    (hb : defBody st = [.Assign [.Attribute (.Name "self" p1) fld p2] (.Name x1 p3) p4]) (S : FnScope ["self", x1] ["self", x1] (defScope st)) (T : OexG K C) (ht : PySem.W.takerIn K C fld = some none)
    (hd : (x1 == ("__debug__" : Str)) = false := by decide) (hcd : (x1 == ("__classdict__" : Str)) = false := by decide) :
    FnOk P w K mg base CX0 1 f fd ["self", x1] (spI C fld) := by
  have vis : ∀ x ∈ (["self", x1] : List Str), Vis (defScope st) x := fun x hx => (S.par x hx).elim .inl fun z => .inr (.inl z)
  refine F.ok S (fun vs H Q E ⟨a, y, e, _⟩ => by rw [e]; rfl) fun cd A outer s H vs Q E rm h => ?_
  obtain ⟨a, y, rfl, ha, q⟩ := h
  rw [hb]
  refine ⟨_, pss_one (ps_ostG (pe_var (i := 0) rfl (vis _ (by simp)) (by decide) (by decide)) (pe_var (i := 1) rfl (vis _ (by simp)) hd hcd) (by rfl)), ?_⟩
  exact ⟨y, rfl, .ref a, rfl, a, C, rfl, T, ht, ha, fun dx n ne => q dx n ne⟩

/-- a class of exceptions with one field, set by its __init__ -/
structure Rz (P : Program) (w : World) (K : PySem.W.Frag) (mg : Str → Option Value) (base : Heap) (x fld : Str) : Prop where
  at' : ∃ (C fI : Addr) (fd : FuncData) (ps : List Str), mg x = some (.ref C) ∧ OexG K C ∧ PySem.W.findIn K (.ref C) "__init__" = some (some (.ref fI)) ∧ PySem.W.typeIn K (.ref fI) = some (.type "function") ∧ FnOk P w K mg base CX0 1 fI fd ps (spI C fld) ∧ Binds K fd ps []
def mRaise (x fld : Str) (f : Ex D) : Sm := fun env S => (f env S).go env fun d S1 => .ex x [fld] [d] env S1
section
variable {X : Cx} {E : EE} {k : Nat} {x fld : Str} {e : Expr} {f : Ex D} {p pos pos' : Pos}
theorem s_raise1 (Z : Rz X.prog X.w X.K X.mg X.base x fld) (hc : X.calm = true) (tk : L2N.Takes X fun cls d σ H => E σ cls d H) (rm : Rm 2 X.A) (he : VE X E e f) (hg : Gl X x := by rfl) (hdb : (x == ("__debug__" : Str)) = false := by decide)
    (h1 : starEach [e] X.env = (false, eval e X.env) :: starEach [] X.env := by rfl) (h2 : (backTo pos (starEach [] X.env)).any (·.1) = false := by rfl) :
    VS X E (.Raise (some (.Call (.Name x p) [e] [] pos)) none pos') (mRaise x fld f) := fun g => by
  obtain ⟨C, fI, fd, ps, hm, T, iC, tI, FI, hb⟩ := Z.at'
  refine (L2N.ps_raise hc tk (pmkG T iC tI FI (rm.room.mono (by decide)) hb pass0 hg hm (pa_cons (he g) pa_nil h1) hdb h1 h2)).imp ?_
  rintro D σ H ⟨F, ι, env, S, w, q⟩
  refine ⟨F, ι, env, S, w, rd_mono (rd_go w.wd q) ?_⟩
  rintro d H1 F1 ι1 S1 - e1 w1 ⟨_, _, q1⟩ v hv
  refine ⟨Nat.le_of_ble_eq_true rfl, fun a ha => ⟨a, v, rfl, upd_same, fun dx hdx ne => ?_⟩⟩
  rw [upd_ne ne] at hdx
  refine ⟨rfl, dx, [(fld, v)], by rw [upd_ne (Ne.symm ne), upd_same], upd_same, hdx, ?_⟩
  have same : upd (del (upd (upd (upd H1 a (exo a C none)) a (exo a C (some dx))) dx (exd dx [(fld, v)])) a) dx (.xd [(fld, v)]) = upd H1 dx (.xd [(fld, v)]) := by
    funext b
    by_cases z : b = dx
    · subst z; rw [upd_same, upd_same]
    · rw [upd_ne z, upd_ne z]
      by_cases y : b = a
      · subst y; rw [del_same, ha]
      · rw [del_ne y, upd_ne z, upd_ne y, upd_ne y]
  rw [same]
  obtain ⟨e2, wd2⟩ := w1.wd.lay (o := .xd [(fld, v)]) hdx
  exact q1 σ C (some dx) _ _ _ hm (w1.step e2 wd2) (w1.wd.grow e2) ⟨[v], .one (w1.wd.rep e2 hv), rfl, .inr ⟨dx, rfl, .inr rfl, upd_same⟩⟩
end
end DL

/-! DLl: try .. except. -/
namespace DL
open PySem PySem.Spec L2
open PyProof.Rows hiding St

theorem flying_kept {B h h' : Heap} {l : List Env} {a : Addr} {Z : Obj → Prop} (fl : HandSPX.FlyingZ B l a Z h) (k : ∀ b o, h.get? b = some o → h'.get? b = some o) : HandSPX.FlyingZ B l a Z h' := by
  obtain ⟨g1, g2, g3, ob, xs, T, oT, ts, ha, hz, hd, x1, nT, neT, hT, dT, x3⟩ := fl
  exact ⟨fun b o z => k b o (g1 b o z), g2, g3.of_keeps fun b o z _ => ⟨o, k b o z, rfl⟩, ob, xs, T, oT, ts, k _ _ ha, hz, hd, x1, nT, neT, k _ _ hT, dT, x3⟩

/-! ### the classes that a clause names -/
def catches (sub : Str → Str → Option Bool) (c : Str) : List Str → Option Bool
  | [] => some false
  | x :: r => match sub c x, catches sub c r with
    | some b, some d => some (b || d)
    | _, _ => none
/-- what the table of classes says is so -/
def SubOk (K : PySem.W.Frag) (mg : Str → Option Value) (sub : Str → Str → Option Bool) : Prop :=
  ∀ c x b, sub c x = some b → ∀ C, mg c = some (.ref C) → ∃ D, mg x = some (.ref D) ∧ PySem.W.exmOne K (.ref C) (.ref D) = some b
theorem catches_ok {K : PySem.W.Frag} {mg : Str → Option Value} {sub : Str → Str → Option Bool} (ok : SubOk K mg sub) {c : Str} {C : Addr} (hm : mg c = some (.ref C)) : ∀ {cs : List Str} {b : Bool}, catches sub c cs = some b →
    ∃ cvs : List Value, cs.map mg = cvs.map some ∧ PySem.W.exmAny K (.ref C) cvs = some b
  | [], b, h => ⟨[], rfl, h⟩
  | x :: r, b, h => by
    unfold catches at h
    cases h1 : sub c x with
    | none => rw [h1] at h; cases h
    | some b1 =>
      cases h2 : catches sub c r with
      | none => rw [h1, h2] at h; cases h
      | some b2 =>
        rw [h1, h2] at h
        obtain ⟨D, e1, e2⟩ := ok c x b1 h1 C hm
        obtain ⟨cvs, e3, e4⟩ := catches_ok ok hm h2
        refine ⟨.ref D :: cvs, by rw [List.map_cons, List.map_cons, e1, e3], ?_⟩
        unfold PySem.W.exmAny
        rw [e2, e4]
        exact h
/-- the clause's test looks at the classes cs -/
def TstX (X : Cx) (t : Expr) (cs : List Str) : Prop := ∀ (a : Addr) (pn pins : List (Addr × Obj)) (σ : L2.St) (H : Hp) (s : Shared) (cls : Value) (b : Bool) (cvs : List Value) (Q : Bool → Shared → Prop) (E : Value → Shared → Prop),
  Inv (X.suite a pn) pins σ H s → PySem.W.Looks (model X.prog X.w) s.heap (typeOf (.ref a)) cls → cs.map X.mg = cvs.map some → PySem.W.exmAny X.K cls cvs = some b →
  (∀ h', (∀ q o, s.heap.get? q = some o → h'.get? q = some o) → Q b { s with heap := h' }) →
  wpAny (model X.prog X.w) (X.A.mark (some (.ref a))) (eval t X.env) (fun c s1 => wpAny (model X.prog X.w) (X.A.mark (some (.ref a))) (excMatches (.ref a) c) Q E s1) E s
theorem tst1 {X : Cx} {x : Str} {np : Pos} (hg : Gl X x := by rfl) (hd : (x == ("__debug__" : Str)) = false := by decide) : TstX X (.Name x np) [x] := by
  intro a pn pins σ H s cls b cvs Q E I L hc hx go
  have hl : cvs.length = 1 := by simpa using (congrArg List.length hc).symm
  match cvs, hl, hc, hx with
  | [c], _, hc, hx =>
    have hm : X.mg x = some c := by simpa using hc
    obtain ⟨b1, d1, x1, y1, rfl⟩ := PySem.W.exmAny_cons hx
    cases y1
    rw [Bool.or_false] at go
    exact ld_glob (X := X.suite a pn) I hg hm ((PySem.W.exm_one (M := model X.prog X.w) I.kIn L x1).here (go s.heap fun _ _ z => z)) hd
theorem tst3 {X : Cx} {x y z : Str} {p1 p2 p3 p4 : Pos} {kk} (g1 : Gl X x := by rfl) (g2 : Gl X y := by rfl) (g3 : Gl X z := by rfl) (d1 : (x == ("__debug__" : Str)) = false := by decide) (d2 : (y == ("__debug__" : Str)) = false := by decide)
    (d3 : (z == ("__debug__" : Str)) = false := by decide) : TstX X (.Tuple [.Name x p1, .Name y p2, .Name z p3] kk p4) [x, y, z] := by
  intro a pn pins σ H s cls b cvs Q E I L hc hx go
  have hl : cvs.length = 3 := by simpa using (congrArg List.length hc).symm
  match cvs, hl, hc, hx with
  | [c1, c2, c3], _, hc, hx =>
    obtain ⟨m1, m2, m3⟩ : X.mg x = some c1 ∧ X.mg y = some c2 ∧ X.mg z = some c3 := by simpa using hc
    have kp : ∀ q o, s.heap.get? q = some o → (s.heap.push { cls := .type "tuple", data := .seq [c1, c2, c3].toArray }).get? q = some o := fun _ _ w => Heap.get?_push_of_some _ w
    refine wpAny_Tuple (wpAny_items_cons (ld_glob (X := X.suite a pn) I g1 m1 ?_ d1))
    refine wpAny_items_cons (ld_glob (X := X.suite a pn) I g2 m2 ?_ d2)
    refine wpAny_items_cons (ld_glob (X := X.suite a pn) I g3 m3 ?_ d3)
    refine wpAny_items_nil ⟨by size_fits, ?_⟩
    exact (PySem.W.exm_tup3 (I.kIn.keeps kp) (L.keeps kp) (Heap.get?_push_size s.heap rfl) hx).here (go _ kp)

/-! ### the suite's context: the exception is told of -/
abbrev sutO (oe : Obj) (a : Addr) : HO := .frz oe (.ext fun h => h.get? a = some oe)
abbrev _root_.L2.Cx.sut (X : Cx) (a : Addr) (pn : List (Addr × Obj)) (oe : Obj) : Cx := { X with A := X.A.mark (some (.ref a)), calm := false, pn := pn, xe := fun _ _ => False, H_0 := upd X.H_0 a (sutO oe a) }
section
variable {X : Cx} {pins : List (Addr × Obj)} {σ τ : L2.St} {H G : Hp} {s sI : Shared} {a : Addr} {oe : Obj} {vs : Array Value}
theorem sut_in (I : Inv X pins σ H s) (J : Inv X pins τ G sI) (na : sI.heap.get? a = none) (hn : H a = none) (he : s.heap.get? a = some oe) (nF : a ∉ X.fs) : Inv (X.sut a (X.pn ++ pins) oe) [] σ (upd H a (sutO oe a)) s := by
  have T := I.track (o := sutO oe a) J na hn ⟨he, he, ⟨oe, he⟩, fun h1 h2 z k => k _ z⟩
  have nb : ∀ b o, X.base.get? b = some o → b ≠ a := fun b o z y => by
    have := (J.bs b o z).1
    rw [y, na] at this
    cases this
  have ko : ∀ b, (upd X.H_0 a (sutO oe a)) b = none → b ≠ a ∧ X.H_0 b = none := fun b z => by
    by_cases y : b = a
    · subst y; rw [upd_same] at z; cases z
    · rw [upd_ne y] at z; exact ⟨y, z⟩
  have ok := I.ok
  refine ⟨⟨ok.mod, ok.kind, ok.glob, ok.blt, ok.above, ok.inj, ok.has, ok.cab, (fun z => absurd (show false = true from z) Bool.false_ne_true), ok.frames, ok.stk, ok.exf, fun b o z => ⟨(ok.bs b o z).1, ?_⟩, ok.bsz, ok.noex, ok.exfs, ok.funs, fun b z => ?_⟩,
    T.os, T.bare, ⟨fun b o hb h0 => T.base.keep b o hb (ko b h0).2, fun b o hb h0 => T.base.slot b o hb (ko b h0).2, fun b o hb h0 => T.base.free b o hb (ko b h0).2, T.base.there, fun b xs z => ?_, fun b o u z => ?_, fun b ps z => ?_⟩,
    T.loc, T.cell, T.free, T.freeC, fun p hp => T.pin p (by simpa using hp), T.hok, T.len⟩
  · show upd X.H_0 a (sutO oe a) b = none
    rw [upd_ne (nb b o z)]
    exact (ok.bs b o z).2
  · show upd X.H_0 a (sutO oe a) b = none
    rw [upd_ne (fun y => nF (by rw [← y]; exact z))]
    exact ok.frf b z
  · by_cases y : b = a
    · subst y
      have z : upd X.H_0 b (sutO oe b) b = _ := z
      rw [upd_same] at z
      cases z
    · have z : upd X.H_0 a (sutO oe a) b = _ := z
      rw [upd_ne y] at z
      exact T.base.tups b xs z
  · by_cases y : b = a
    · subst y
      have z : upd X.H_0 b (sutO oe b) b = _ := z
      rw [upd_same] at z
      rw [upd_same]
      exact z
    · have z : upd X.H_0 a (sutO oe a) b = _ := z
      rw [upd_ne y] at z
      exact T.base.frzs b o u z
  · by_cases y : b = a
    · subst y
      have z : upd X.H_0 b (sutO oe b) b = _ := z
      rw [upd_same] at z
      cases z
    · have z : upd X.H_0 a (sutO oe a) b = _ := z
      rw [upd_ne y] at z
      exact T.base.tbls b ps z
theorem sut_out {H' : Hp} {s' : Shared} {σ' : L2.St} (I : Inv (X.sut a (X.pn ++ pins) oe) [] σ' H' s') (J : Inv X pins τ G sI) (na : sI.heap.get? a = none) (ga : G a = none) : Inv X pins σ' H' s' := by
  have no : ∀ b u, X.s_0.heap.get? b = some u → b ∉ X.ex → b ≠ a := fun b u z nx y => by
    obtain ⟨o', h⟩ := J.base.there b u z nx
    rw [y, na] at h
    cases h
  have back : ∀ {b}, b ≠ a → X.H_0 b = none → (X.sut a (X.pn ++ pins) oe).H_0 b = none := fun {b} y z => by
    show upd X.H_0 a (sutO oe a) b = none
    rw [upd_ne y]
    exact z
  have same : ∀ {b u}, b ≠ a → X.H_0 b = some u → (X.sut a (X.pn ++ pins) oe).H_0 b = some u := fun {b u} y z => by
    show upd X.H_0 a (sutO oe a) b = some u
    rw [upd_ne y]
    exact z
  refine ⟨J.ok, I.os, I.bare, ⟨fun b o hb h0 hf nx => I.base.keep b o hb (back (no b o hb nx) h0) hf nx, fun b o hb h0 hf nx => I.base.slot b o hb (back (no b o hb nx) h0) hf nx, fun b o hb h0 nx => I.base.free b o hb (back (no b o hb nx) h0) nx, I.base.there,
    fun b xs z => I.base.tups b xs (same (fun y => ?_) z), fun b o u z => I.base.frzs b o u (same (fun y => ?_) z), fun b ps z => I.base.tbls b ps (same (fun y => ?_) z)⟩, I.loc, I.cell, I.free, I.freeC, fun p hp => I.pin p (by simpa using hp), I.hok, I.len⟩
  · have := J.base.tups b xs z
    rw [y, ga] at this; cases this
  · have := J.base.frzs b o u z
    rw [y, ga] at this; cases this
  · obtain ⟨more, this⟩ := J.base.tbls b ps z
    rw [y, ga] at this; cases this
end
end DL

/-! DLm: try .. except, by mirrors. -/
namespace DL
open PySem PySem.Spec L2
open PyProof.Rows hiding St

/-- a clause: its classes, its name's slot, its suite -/
abbrev Hd := List Str × Option Nat × Sm
def suiteOut (o : Option Nat) : Fl → Fl
  | .nx e S => .nx (match o with | some i => e.set i .un | none => e) S
  | .bk e S => .bk (match o with | some i => e.set i .un | none => e) S
  | .ct e S => .ct (match o with | some i => e.set i .un | none => e) S
  | .rt d S => .rt d S
  | _ => .bad
def runH (sub : Str → Str → Option Bool) (c : Str) (ns : List Str) (ds : List D) : List Hd → Sm
  | [], env, S => .ex c ns ds env S
  | (cs, o, m) :: r, env, S => match catches sub c cs with
    | none => .bad
    | some true => suiteOut o (m (match o with | some i => env.set i (.val (.exc c ns ds)) | none => env) S)
    | some false => runH sub c ns ds r env S
def mTry (sub : Str → Str → Option Bool) (m : Sm) (hs : List Hd) : Sm := fun env S => match m env S with
  | .ex c ns ds e S' => runH sub c ns ds hs e S'
  | r => r
def HotO (oe : Obj) : Prop := ∃ vs : Array Value, oe.data = .fields vs ∧ vs[2]? = some .none
inductive Hds (X : Cx) : List ExceptHandler → List Hd → Prop
  | nil : Hds X [] []
  | named {t : Expr} {n : Str} {i : Nat} {b0 : Stmt} {suite : List Stmt} {pos : Pos} {m : Sm} {cs : List Str} {r : List ExceptHandler} {hs : List Hd} (ht : TstX X t cs) (hi : X.N[i]? = some n) (hl : X.env.kindOf n = some .local)
      (hm : ∀ (a : Addr) (pn : List (Addr × Obj)) (oe : Obj), HotO oe → VB (X.sut a pn oe) EX0 (b0 :: suite) m) (hr : Hds X r hs) : Hds X (.ExceptHandler (some t) (some n) (b0 :: suite) pos :: r) ((cs, some i, m) :: hs)
  | plain {t : Expr} {b0 : Stmt} {suite : List Stmt} {pos : Pos} {m : Sm} {cs : List Str} {r : List ExceptHandler} {hs : List Hd} (ht : TstX X t cs)
      (hm : ∀ (a : Addr) (pn : List (Addr × Obj)) (oe : Obj), HotO oe → VB (X.sut a pn oe) EX0 (b0 :: suite) m) (hr : Hds X r hs) : Hds X (.ExceptHandler (some t) none (b0 :: suite) pos :: r) ((cs, none, m) :: hs)

section
variable {X : Cx} {E : EE} {body : List Stmt} {h₀ : ExceptHandler} {hds : List ExceptHandler} {hs : List Hd} {sub : Str → Str → Option Bool} {m : Sm} {pos : Pos}
/-- the end of a suite -/
theorem suite_end {g : Snap} {H : Hp} {F : Fz} {ι : List Addr} {D : Ends} {o : Option Nat} {J : L2.St → Hp → Prop} : ∀ {fl : Fl}, flAt X.K X.mg g E H F ι D (suiteOut o fl) →
    flAt X.K X.mg g EX0 H F ι { nx := fun σ' H' => D.nx (match o with | some i => σ'.set i none | none => σ') H', rt := D.rt, bk := fun σ' H' => D.bk (match o with | some i => σ'.set i none | none => σ') H', ct := fun σ' H' => D.ct (match o with | some i => σ'.set i none | none => σ') H' } fl
  | .nx e S, q => fun σ' H' F' ι' w gr => by
    cases o with
    | none => exact q σ' H' F' ι' w gr
    | some i => exact q _ H' F' ι' (w.forget i none) gr
  | .bk e S, q => fun σ' H' F' ι' w gr => by
    cases o with
    | none => exact q σ' H' F' ι' w gr
    | some i => exact q _ H' F' ι' (w.forget i none) gr
  | .ct e S, q => fun σ' H' F' ι' w gr => by
    cases o with
    | none => exact q σ' H' F' ι' w gr
    | some i => exact q _ H' F' ι' (w.forget i none) gr
  | .rt _ _, q => q
  | .ex _ _ _ _ _, q => q.elim
  | .bad, q => q.elim
theorem s_tryG {g : Snap} (hst : X.stack = X.env :: X.outer) (hf : X.env.frame = some X.env.locals) (hN : X.N.Nodup) (tk : L2N.Takes X fun cls d σ H => E σ cls d H) (ok : SubOk X.K X.mg sub)
    (hb : ∀ (E' : EE) (pn : List (Addr × Obj)) (xe : Value → Shared → Prop), L2N.Takes (X.tr pn xe) (fun cls d σ H => E' σ cls d H) → PassesOwn (model X.prog X.w) X.A X.env xe → PSs (X.tr pn xe) body (tS X.K X.mg g E' m))
    (hh : Hds X (h₀ :: hds) hs) : PS X (.Try body (h₀ :: hds) [] [] pos) (tS X.K X.mg g E (mTry sub m hs)) := by
  constructor
  rintro pins s σ H D I ⟨F, ι, env, S, w, q⟩
  have xok := I.ok
  have hfr : X.A.frames = some (X.env :: X.outer) := by rw [xok.frames, hst]
  let E' : EE := fun σ' cls d H' => ∃ C c ns ds F' ι' env' S', cls = .ref C ∧ X.mg c = some (.ref C) ∧ RS X.K X.mg g σ' H' F' ι' env' S' ∧ Grow H F ι H' F' ι' ∧ DictAt X.K X.mg F' ι' H' d ns ds ∧ flAt X.K X.mg g E H F ι D (runH sub c ns ds hs env' S')
  have q0 : flAt X.K X.mg g E' H F ι D (m env S) := by
    unfold mTry at q
    cases hm : m env S with
    | ex c ns ds e' S' => rw [hm] at q; exact fun σ' C d H' F' ι' hc w' gr hd => ⟨C, c, ns, ds, F', ι', e', S', rfl, hc, w', gr, hd, q⟩
    | nx _ _ => rw [hm] at q; exact q
    | bk _ _ => rw [hm] at q; exact q
    | ct _ _ => rw [hm] at q; exact q
    | rt _ _ => rw [hm] at q; exact q
    | bad => rw [hm] at q; exact q
  refine wpAny_Try_except ?_
  refine wpAny_mono ((hb E' (X.pn ++ pins) (fun e s1 => wpAny (model X.prog X.w) X.A (noteFrame e X.env) (fun _ s2 => wpAny (model X.prog X.w) X.A (setFlight e none) (fun _ s3 =>
    wpAny (model X.prog X.w) X.A (handleBy e X.env (h₀ :: hds)) (SP X pins D) X.xe s3) X.xe s2) X.xe s1) (fun u s' air => ?_) PassesOwn.looking).run [] s σ H D (I.toTry _) ⟨F, ι, env, S, w, q0⟩) (fun fl s1 hsp => ?_) fun e s1 z => z
  · obtain ⟨a, B, sI, pins', σ', H', cls, d, rfl, J', nb, up, sky, na, os, ag, we⟩ := air
    obtain ⟨C, c, ns, ds, F', ι', env', S', rfl, hmc, w', gr, hdd, hq⟩ := we
    have J : Inv X pins σ' H' sI := J'.ofTry xok
    have sky' : Sky B (X.env :: X.outer) a (L2N.Zn (.ref C) d) X.env.locals s'.heap := by rw [← hst]; exact sky
    show wpAny (model X.prog X.w) X.A (noteFrame (.ref a) X.env) _ _ _
    refine L2N.Sky.land L2N.Zn.steady hfr hf sky' fun h3 fl3 up3 => ?_
    -- a is none of the frames, and new
    have offF : ∀ {h : Heap}, HandSPX.FlyingZ B (X.env :: X.outer) a (L2N.Zn (.ref C) d) h → a ∉ frs (X.env :: X.outer) := fun {h} fl hm => by
      obtain ⟨ob, xs, hx, _, hdx⟩ := fl.there
      obtain ⟨_, o', e', nf⟩ := fl.2.2.1.mem hm
      rw [hx] at e'
      cases e'
      exact nf _ hdx
    have nfr := offF fl3
    have nF : a ∉ X.fs := fun hm => by
      obtain ⟨e, he, z⟩ := List.mem_filterMap.mp hm
      exact nfr (List.mem_filterMap.mpr ⟨e, List.mem_cons_of_mem _ he, z⟩)
    have newI : sI.heap.get? a = none := by
      cases z : sI.heap.get? a with
      | none => rfl
      | some o =>
        have z2 := nb a o z (by rw [hst]; exact nfr)
        rw [fl3.2.1] at z2
        cases z2
    have go : ∀ {hds' : List ExceptHandler} {hs' : List Hd}, Hds X hds' hs' → ∀ (h5 : Heap), HandSPX.FlyingZ B (X.env :: X.outer) a (L2N.Zn (.ref C) d) h5 → sI.heap.UpToSlots h5 → flAt X.K X.mg g E H F ι D (runH sub c ns ds hs' env' S') →
        wpAny (model X.prog X.w) X.A (handleBy (.ref a) X.env hds') (SP X pins D) X.xe { s' with heap := h5 } := by
      intro hds' hs' hk
      -- the test of a clause
      have test : ∀ {t : Expr} {cs : List Str} {b : Bool} {h5 : Heap} {Q : Bool → Shared → Prop} {E1 : Value → Shared → Prop}, TstX X t cs → catches sub c cs = some b → HandSPX.FlyingZ B (X.env :: X.outer) a (L2N.Zn (.ref C) d) h5 → sI.heap.UpToSlots h5 →
          (∀ h6, (∀ q o, h5.get? q = some o → h6.get? q = some o) → Q b { s' with heap := h6 }) →
          wpAny (model X.prog X.w) (X.A.mark (some (.ref a))) (eval t X.env) (fun c s1 => wpAny (model X.prog X.w) (X.A.mark (some (.ref a))) (excMatches (.ref a) c) Q E1 s1) E1 { s' with heap := h5 } := fun {t cs b h5 Q E1} ht hcb fl5 up5 k => by
        obtain ⟨cvs, e1, e2⟩ := catches_ok ok hmc hcb
        have J5 : Inv X pins σ' H' { s' with heap := h5 } := J.landed nb fl5.1 up5 os ag
        obtain ⟨ob, xs, hx, hz, hdx⟩ := fl5.there
        have nL : a ≠ X.env.locals := fun z => nfr (List.mem_filterMap.mpr ⟨X.env, List.mem_cons_self, by rw [hf, z]⟩)
        exact ht a _ [] σ' H' _ (.ref C) b cvs Q E1 (J5.suite hx hdx na nL nF) (fun A Q E s k q => wpAny_typeOf_ref (k _ _ hx) (by rw [hz.1]; exact q)) e1 e2 k
      induction hk with
      | nil =>
        intro h5 fl5 up5 q5
        refine wpAny_handleBy_nil ?_
        have fl5' := fl5
        obtain ⟨y1, y2, y3, ob, xs, T, oT, ts, hx, hz, hdx, x1, hrest⟩ := fl5'
        unfold PySem.passOn
        refine wpAny_bind (wpAny_field hx hdx x1 ?_)
        rw [if_neg (show ¬ ((Value.ref T == Value.none) = true) from by simp)]
        have out : wpAny (model X.prog X.w) X.A (setFlight (.ref a) X.env.frame) (fun _ s4 => wpAny (model X.prog X.w) X.A (throw (.ref a) : Sem Flow) (SP X pins D) X.xe s4) X.xe { s' with heap := h5 } := by
          rw [hf]
          refine HandSPX.setFlight_upZ fl5 fun h6 held up6 => wpAny_throw (tk _ _ ?_)
          exact ⟨a, B, sI, pins, σ', H', .ref C, d, rfl, J, nb, up5.trans up6, .inr (.inr (by rw [hst]; exact held)), na, os, ag, q5 σ' C d H' F' ι' hmc w' gr hdd⟩
        first
          | exact wpAny_bind (wpAny_pure (wpAny_bind out))
          | exact wpAny_bind out
      | @named t n i b0 suite pos' m cs r hs2 ht hi hl hm hr ih =>
        intro h5 fl5 up5 q5
        unfold runH at q5
        cases hcb : catches sub c cs with
        | none => rw [hcb] at q5; exact q5.elim
        | some b =>
          rw [hcb] at q5
          refine wpAny_handleBy_cons (codeAny_handlers_test (test ht hcb fl5 up5 fun h6 k6 => ?_)) (by intro z; cases z)
          have fl6 := flying_kept fl5 k6
          have up6 : sI.heap.UpToSlots h6 := up5.trans (Heap.UpToSlots.of_keeps k6)
          cases b with
          | false => exact ih h6 fl6 up6 q5
          | true =>
            refine codeAny_handlers_suite_as ?_
            refine HandSPX.lands_againZ fl6 fun h7 fl7 up7 => ?_
            have J7 : Inv X pins σ' H' { s' with heap := h7 } := J.landed nb fl7.1 (up6.trans up7) os ag
            obtain ⟨ob, xs, hx, hz, hdx⟩ := fl7.there
            have K7 := sut_in J7 J newI na hx nF
            refine store_ok (X := X.sut a (X.pn ++ pins) ob) (v := .ref a) K7 hN hi (.inl hl) rfl (fun s8 K8 => ?_) (.inr hl)
            have e8 : Ext H' F' ι' (upd H' a (sutO ob a)) (fun b => F' b ∨ b = a) ι' := (w'.wd.lay (o := sutO ob a) na).1
            have wd8 := (w'.wd.lay (o := sutO ob a) na).2
            have w8 := w'.step e8 wd8
            have rep8 : Rep X.K X.mg (fun b => F' b ∨ b = a) ι' (upd H' a (sutO ob a)) (.exc c ns ds) (.ref a) := by
              obtain ⟨vs, rv, lv, dd⟩ := hdd
              refine ⟨a, C, ob, _, d, vs, rfl, .inr rfl, hmc, upd_same, hz, ⟨xs, hdx⟩, lv, ?_, w'.wd.reps e8 rv⟩
              rcases dd with dd | ⟨dd, z1, z2, z3⟩
              · exact .inl dd
              · exact .inr ⟨dd, z1, .inl z2, e8.keep dd _ z3 (.inl z2)⟩
            have w9 := w8.put i rep8
            have q9 : flAt X.K X.mg g E (upd H' a (sutO ob a)) (fun b => F' b ∨ b = a) ι' D (suiteOut (some i) (m (env'.set i (.val (.exc c ns ds))) S')) := fl_grow (gr.trans (w'.wd.grow e8)) q5
            refine wpAny_mono ((hm a (X.pn ++ pins) ob ⟨xs, hdx, hz.2.2 xs hdx⟩ g).run [] s8 _ _ _ K8 ⟨_, ι', _, S', w9, suite_end (J := fun _ _ => True) q9⟩) (fun fl s9 hsp => ?_) (fun _ _ z => False.elim z)
            have fin : ∀ {σ6 : L2.St} {H6 : Hp} {Q : Shared → Prop}, Inv (X.sut a (X.pn ++ pins) ob) [] σ6 H6 s9 → (∀ s7, Inv X pins (σ6.set i none) H6 s7 → Q s7) →
                wpAny (model X.prog X.w) X.A (do bindName X.env n .none; unbindBehindTheSuite X.env n pos') (fun _ s7 => Q s7) X.xe s9 := fun {σ6 H6 Q} S6 hq => gone_ok (sut_out S6 J newI na) hN hi hl hq
            cases fl with
            | next =>
              obtain ⟨σ6, H6, S6, q6⟩ := hsp
              exact fin S6 fun s7 J7 => ⟨_, _, J7, q6⟩
            | brk =>
              obtain ⟨σ6, H6, S6, q6⟩ := hsp
              exact fin S6 fun s7 J7 => ⟨_, _, J7, q6⟩
            | cont =>
              obtain ⟨σ6, H6, S6, q6⟩ := hsp
              exact fin S6 fun s7 J7 => ⟨_, _, J7, q6⟩
            | ret u =>
              obtain ⟨v6, σ6, H6, S6, r6, q6⟩ := hsp
              exact fin S6 fun s7 J7 => ⟨_, _, _, J7, r6, q6⟩
      | @plain t b0 suite pos' m cs r hs2 ht hm hr ih =>
        intro h5 fl5 up5 q5
        unfold runH at q5
        cases hcb : catches sub c cs with
        | none => rw [hcb] at q5; exact q5.elim
        | some b =>
          rw [hcb] at q5
          refine wpAny_handleBy_cons (codeAny_handlers_test (test ht hcb fl5 up5 fun h6 k6 => ?_)) (by intro z; cases z)
          have fl6 := flying_kept fl5 k6
          have up6 : sI.heap.UpToSlots h6 := up5.trans (Heap.UpToSlots.of_keeps k6)
          cases b with
          | false => exact ih h6 fl6 up6 q5
          | true =>
            refine codeAny_handlers_suite ?_
            refine HandSPX.lands_againZ fl6 fun h7 fl7 up7 => ?_
            have J7 : Inv X pins σ' H' { s' with heap := h7 } := J.landed nb fl7.1 (up6.trans up7) os ag
            obtain ⟨ob, xs, hx, hz, hdx⟩ := fl7.there
            have K7 := sut_in J7 J newI na hx nF
            have e8 : Ext H' F' ι' (upd H' a (sutO ob a)) (fun b => F' b ∨ b = a) ι' := (w'.wd.lay (o := sutO ob a) na).1
            have wd8 := (w'.wd.lay (o := sutO ob a) na).2
            have w8 := w'.step e8 wd8
            have q9 : flAt X.K X.mg g E (upd H' a (sutO ob a)) (fun b => F' b ∨ b = a) ι' D (suiteOut none (m env' S')) := fl_grow (gr.trans (w'.wd.grow e8)) q5
            refine wpAny_mono ((hm a (X.pn ++ pins) ob ⟨xs, hdx, hz.2.2 xs hdx⟩ g).run [] _ _ _ _ K7 ⟨_, ι', _, S', w8, suite_end (J := fun _ _ => True) q9⟩) (fun fl s9 hsp => ?_) (fun _ _ z => False.elim z)
            cases fl with
            | next =>
              obtain ⟨σ6, H6, S6, q6⟩ := hsp
              exact ⟨_, _, sut_out S6 J newI na, q6⟩
            | brk =>
              obtain ⟨σ6, H6, S6, q6⟩ := hsp
              exact ⟨_, _, sut_out S6 J newI na, q6⟩
            | cont =>
              obtain ⟨σ6, H6, S6, q6⟩ := hsp
              exact ⟨_, _, sut_out S6 J newI na, q6⟩
            | ret u =>
              obtain ⟨v6, σ6, H6, S6, r6, q6⟩ := hsp
              exact ⟨_, _, _, sut_out S6 J newI na, r6, q6⟩
    exact go hh h3 fl3 (up.trans up3) hq
  · cases fl with
    | next =>
      obtain ⟨σ2, H2, J2, q2⟩ := hsp
      exact wpAny_execs_nil ⟨σ2, H2, J2.ofTry xok, q2⟩
    | brk =>
      obtain ⟨σ2, H2, J2, q2⟩ := hsp
      exact ⟨σ2, H2, J2.ofTry xok, q2⟩
    | cont =>
      obtain ⟨σ2, H2, J2, q2⟩ := hsp
      exact ⟨σ2, H2, J2.ofTry xok, q2⟩
    | ret u =>
      obtain ⟨v2, σ2, H2, J2, r2, q2⟩ := hsp
      exact ⟨v2, σ2, H2, J2.ofTry xok, r2, q2⟩
theorem s_try (hst : X.stack = X.env :: X.outer) (hf : X.env.frame = some X.env.locals) (hN : X.N.Nodup) (tk : L2N.Takes X fun cls d σ H => E σ cls d H) (ok : SubOk X.K X.mg sub)
    (hb : ∀ (E' : EE) (pn : List (Addr × Obj)) (xe : Value → Shared → Prop), L2N.Takes (X.tr pn xe) (fun cls d σ H => E' σ cls d H) → PassesOwn (model X.prog X.w) X.A X.env xe → VB (X.tr pn xe) E' body m)
    (hh : Hds X (h₀ :: hds) hs) : VS X E (.Try body (h₀ :: hds) [] [] pos) (mTry sub m hs) := fun g =>
  s_tryG hst hf hN tk ok (fun E' pn xe h1 h2 => hb E' pn xe h1 h2 g) hh
end
end DL

/-! DLn: isinstance with own classes, tuples of classes, of exceptions, too; fields of exceptions. -/
namespace DL
open PySem PySem.Spec L2
open PyProof.Rows hiding St

inductive TyE (K : PySem.W.Frag) (H : Hp) : V → Value → Prop where
  | x {v : V} {t : Value} (h : TyX K H v t) : TyE K H v t
  | exc {a C : Addr} {oe : Obj} {u : HO} {od : Option Addr} (e : H a = some (.frz oe u)) (c : L2.ExcC K C) (z : Zc (.ref C) od oe) (f : ∃ vs, oe.data = .fields vs) (d : ∀ dd, od = some dd → ∃ fs, H dd = some (.xd fs)) : TyE K H (.ref a) (.ref C)
section
variable {X : Cx} {pins : List (Addr × Obj)} {σ : L2.St} {H : Hp} {s : Shared}
theorem kit_ofE {v : V} {u t : Value} (I : Inv X pins σ H s) (rv : RelV v u) (ty : TyE X.K H v t) : ∃ P : Heap → Prop, PySem.W.KitX X.K u t P ∧ P s.heap ∧ u ≠ .builtin "__main__.__loader__#opaque" := by
  cases ty with
  | x h => exact kit_of I rv h
  | @exc a C oe q od e c z f d =>
    cases (show u = Value.ref a from rv)
    obtain ⟨ha, _⟩ := (show ObjOk X.prog X.w H s.heap a (.frz oe q) from I.hok a _ e)
    obtain ⟨vs, hv⟩ := f
    have hcl : (PySem.W.clsIn X.K C).isSome = true := by
      obtain ⟨cd, hc, _⟩ := PySem.W.any_some c.hd
      rw [hc]; rfl
    have no : PySem.W.notCls oe = true := by unfold PySem.W.notCls; rw [hv] <;> rfl
    cases hod : od with
    | none =>
      have J : PySem.W.InstAt s.heap a oe C none := ⟨ha, z.1, no, by rw [z.2, hod]; trivial⟩
      exact ⟨_, PySem.W.kitx_exc hcl c.hg c.hk c.hs c.ha c.hn c.ht c.hm, J, fun y => nomatch y⟩
    | some dd =>
      obtain ⟨fs, hdd⟩ := d dd hod
      obtain ⟨mA, hns, _⟩ := (show ObjOk X.prog X.w H s.heap dd (.xd fs) from I.hok dd _ hdd)
      obtain ⟨o1, _, _, ho, _⟩ := hns
      have J : PySem.W.InstAt s.heap a oe C (some o1) := ⟨ha, z.1, no, by rw [z.2, hod]; exact ho⟩
      exact ⟨_, PySem.W.kitx_exc hcl c.hg c.hk c.hs c.ha c.hn c.ht c.hm, J, fun y => nomatch y⟩
def rIsA (K : PySem.W.Frag) : List V → Hp → VK → Prop := fun xs H Q => ∃ (v c : V) (t u : Value) (b : Bool), xs = [v, c] ∧ ClsV c u ∧ TyE K H v t ∧ PySem.W.kitOne K t u = some b ∧ Q (.bl b) H
def rIsAT (K : PySem.W.Frag) : List V → Hp → VK → Prop := fun xs H Q => ∃ (v : V) (tp : Addr) (cs : List V) (t : Value) (us : List Value) (b : Bool), xs = [v, .ref tp] ∧ SqT K H tp cs ∧ Paired ClsV cs us ∧ TyE K H v t ∧ PySem.W.kitAny K t us = some b ∧ Q (.bl b) H
theorem call_isA : CallR X (.builtin "isinstance") (rIsA X.K) := by
  intro pins s σ H xs us Q I r h
  obtain ⟨v, c, t, u, b, rfl, k, ty, e, q⟩ := h
  obtain ⟨u1, u2, rfl, r1, r2⟩ := vals2 r
  obtain rfl := k.eq r2
  obtain ⟨P, Z, p, hx⟩ := kit_ofE I r1 ty
  exact PySem.W.kia_one Z I.kIn p e hx fun tk => ⟨.bl b, H, I.tok tk, rfl, q⟩
theorem call_isAT : CallR X (.builtin "isinstance") (rIsAT X.K) := by
  intro pins s σ H xs us Q I r h
  obtain ⟨v, tp, cs, t, ws, b, rfl, hT, k, ty, e, q⟩ := h
  obtain ⟨u1, u2, rfl, r1, r2⟩ := vals2 r
  cases (show u2 = Value.ref tp from r2)
  obtain ⟨P, Z, p, hx⟩ := kit_ofE I r1 ty
  obtain ⟨its, rv, ⟨o, h1, h2, n, h3⟩, _⟩ := I.tuple hT
  obtain rfl := ClsV.all k rv
  obtain ⟨oc, od, dt, sl⟩ := o
  simp only at h2 h3
  subst h2 h3
  exact PySem.W.kia_tup Z I.kIn p h1 e hx fun tk => ⟨.bl b, H, I.tok tk, rfl, q⟩
theorem call_isAll : CallR X (.builtin "isinstance") (fun xs H Q => rIsA X.K xs H Q ∨ rIsAT X.K xs H Q) := CallR.or call_isA call_isAT
end

/-! ### by data -/
/-- a class: a built-in one, an own one -/
inductive KT where
  | b (n : String) | o (c : Str)
  deriving DecidableEq
def ktv (mg : Str → Option Value) : KT → Value → Prop
  | .b n, v => v = .type n
  | .o c, v => ∃ C, v = .ref C ∧ mg c = some (.ref C)
/-- what is known of classes: those of plain instances, those of exceptions, who is a subclass of whom -/
structure Tab where
  os : List Str
  es : List Str
  isa : KT → KT → Option Bool
/-- a class of plain instances -/
structure InsC (K : PySem.W.Frag) (C : Addr) : Prop where
  cl : Cls K C
  ha : PySem.W.findIn K (.ref C) "__class__" = some (some (.builtin "object.__class__"))
  hn : PySem.W.specialIn K (.builtin "object.__class__") "__get__" = some (some (.builtin "getset_descriptor.__get__"))
  ht : PySem.W.takesIn K (.builtin "object.__class__") = some true
  hm : PySem.W.mroIn K C (.type "object") = some true
structure TabOk (K : PySem.W.Frag) (mg : Str → Option Value) (T : Tab) : Prop where
  os : ∀ c ∈ T.os, ∀ C, mg c = some (.ref C) → InsC K C
  es : ∀ c ∈ T.es, ∀ C, mg c = some (.ref C) → L2.ExcC K C
  isa : ∀ a b r, T.isa a b = some r → ∀ u, ktv mg a u → ∃ w, ktv mg b w ∧ PySem.W.kitOne K u w = some r
def clsOf (T : Tab) (S : List Cell) (d : D) : Option KT := match tyName d with
  | some n => some (.b n)
  | none => match d with
    | .obj c _ _ => if T.os.contains c then some (.o c) else none
    | .exc c _ _ => if T.es.contains c then some (.o c) else none
    | .cell n => match S[n]? with
      | some (.ins c _ _) => if T.os.contains c then some (.o c) else none
      | some (.lst _) => some (.b "list")
      | _ => none
    | _ => none
def ktOf : D → Option KT
  | .ty n => some (.b n)
  | .cls c => some (.o c)
  | _ => none
def isAny (T : Tab) (a : KT) : List D → Option Bool
  | [] => some false
  | d :: r => match (ktOf d).bind (T.isa a) with
    | some true => if (r.all fun x => (ktOf x).isSome) then some true else none
    | some false => isAny T a r
    | none => none
def isAD (T : Tab) : OpN := fun xs S => match xs with
  | [d, c] => (clsOf T S d).bind fun a => match c with
    | .tup cs => (isAny T a cs).map .bl
    | _ => ((ktOf c).bind (T.isa a)).map .bl
  | _ => none
section
variable {K : PySem.W.Frag} {mg : Str → Option Value} {T : Tab} {F : Fz} {ι : List Addr} {H : Hp} {S : List Cell}
theorem cls_at (ok : TabOk K mg T) (w : Wd K mg F ι H S) {d : D} {v : V} {a : KT} (r : Rep K mg F ι H d v) (h : clsOf T S d = some a) : ∃ t, ktv mg a t ∧ TyE K H v t := by
  unfold clsOf at h
  split at h
  · rename_i n hn
    cases h
    exact ⟨_, rfl, .x (ty_at r hn)⟩
  · split at h
    · rename_i c ns xs hnn
      split at h
      · rename_i hc
        cases h
        obtain ⟨p, C, dx, vs, rfl, f, hm, e, _⟩ := r
        have k := ok.os c (by simpa using hc) C hm
        exact ⟨.ref C, ⟨C, rfl, hm⟩, .x (.base (.ins e k.cl k.ha k.hn k.ht k.hm))⟩
      · cases h
    · rename_i c ns xs hnn
      split at h
      · rename_i hc
        cases h
        obtain ⟨p, C, oe, u, od, vs, rfl, f, hm, e, z, fv, _, dd, _⟩ := r
        refine ⟨.ref C, ⟨C, rfl, hm⟩, .exc e (ok.es c (by simpa using hc) C hm) z.zc fv fun x hx => ?_⟩
        rcases dd with ⟨_, dd⟩ | ⟨y, e1, _, e2⟩
        · rw [hx] at dd; cases dd
        · rw [hx] at e1
          cases e1
          exact ⟨_, e2⟩
      · cases h
    · rename_i n hnn
      obtain ⟨p, rfl, hp⟩ := r
      split at h
      · rename_i c ns xs hs
        split at h
        · rename_i hc
          cases h
          obtain ⟨C, dx, vs, hm, e, _⟩ := w.cells _ _ p hs hp
          have k := ok.os c (by simpa using hc) C hm
          exact ⟨.ref C, ⟨C, rfl, hm⟩, .x (.base (.ins e k.cl k.ha k.hn k.ht k.hm))⟩
        · cases h
      · rename_i xs hs
        cases h
        obtain ⟨vs, e, _⟩ := w.cells _ _ p hs hp
        exact ⟨_, rfl, .x (.base (.lst e))⟩
      · cases h
    · cases h
theorem kt_at {d : D} {v : V} {a : KT} (r : Rep K mg F ι H d v) (h : ktOf d = some a) : ∃ u, ktv mg a u ∧ ClsV v u := by
  cases d with
  | ty n => cases h; rw [show v = _ from r]; exact ⟨_, rfl, .ty n⟩
  | cls c =>
    cases h
    obtain ⟨C, rfl, hm⟩ := r
    exact ⟨_, ⟨C, rfl, hm⟩, .own C⟩
  | _ => cases h
theorem ktv_one {a : KT} {u w : Value} (h1 : ktv mg a u) (h2 : ktv mg a w) : u = w := by
  cases a with
  | b n => exact (show u = _ from h1).trans (show w = _ from h2).symm
  | o c =>
    obtain ⟨C, rfl, e1⟩ := h1
    obtain ⟨C', rfl, e2⟩ := h2
    rw [e1] at e2
    cases e2
    rfl
theorem any_at (ok : TabOk K mg T) {a : KT} {t : Value} (ha : ktv mg a t) : ∀ {ds : List D} {vs : List V} {b : Bool}, Reps K mg F ι H ds vs → isAny T a ds = some b → ∃ us, Paired ClsV vs us ∧ PySem.W.kitAny K t us = some b
  | [], vs, b, r, h => by
    cases h
    rw [show vs = [] from r]
    exact ⟨[], .nil, rfl⟩
  | d :: ds, vs, b, r, h => by
    obtain ⟨v, vs', rfl, r1, r2⟩ := r
    unfold isAny at h
    cases hk : ktOf d with
    | none => rw [hk] at h; cases h
    | some k =>
      rw [hk] at h
      obtain ⟨u, hu, hc⟩ := kt_at r1 hk
      cases hi : T.isa a k with
      | none => rw [Option.bind_some, hi] at h; cases h
      | some c =>
        rw [Option.bind_some, hi] at h
        obtain ⟨w, hw, hkit⟩ := ok.isa a k c hi t ha
        obtain rfl := ktv_one hu hw
        cases c with
        | false =>
          obtain ⟨us, p, e⟩ := any_at ok ha r2 h
          exact ⟨u :: us, .cons hc p, by unfold PySem.W.kitAny; rw [hkit]; exact e⟩
        | true =>
          dsimp only at h
          split at h
          · rename_i hall
            cases h
            have all : ∀ {ds : List D} {vs : List V}, Reps K mg F ι H ds vs → (ds.all fun x => (ktOf x).isSome) = true → ∃ us, Paired ClsV vs us := by
              intro ds
              induction ds with
              | nil => intro vs r _; rw [show vs = [] from r]; exact ⟨[], .nil⟩
              | cons d ds ih =>
                intro vs r h
                obtain ⟨v, vs', rfl, r1, r2⟩ := r
                rw [List.all_cons, Bool.and_eq_true] at h
                obtain ⟨k, hk⟩ := Option.isSome_iff_exists.mp h.1
                obtain ⟨u, _, hc⟩ := kt_at r1 hk
                obtain ⟨us, p⟩ := ih r2 h.2
                exact ⟨u :: us, .cons hc p⟩
            obtain ⟨us, p⟩ := all r2 hall
            exact ⟨u :: us, .cons hc p, by unfold PySem.W.kitAny; rw [hkit]⟩
          · cases h
theorem ok_isA (ok : TabOk K mg T) : OkN K mg (fun xs H Q => rIsA K xs H Q ∨ rIsAT K xs H Q) (isAD T) := by
  intro H F ι S xs d vs Q w rx ho t
  unfold isAD at ho
  split at ho
  · rename_i x c
    obtain ⟨v, u, rfl, hv, hu⟩ := two_of rx
    cases ha : clsOf T S x with
    | none => rw [ha] at ho; cases ho
    | some a =>
      rw [ha, Option.bind_some] at ho
      obtain ⟨tt, h1, h2⟩ := cls_at ok w hv ha
      split at ho
      · rename_i cs
        cases hb : isAny T a cs with
        | none => rw [hb] at ho; cases ho
        | some b =>
          rw [hb] at ho
          cases ho
          obtain ⟨p, us, rfl, hl, hr⟩ := hu
          obtain ⟨ws, hp, hk⟩ := any_at ok h1 hr hb
          exact .inr ⟨v, p, us, tt, ws, b, rfl, hl.sq, hp, h2, hk, t.here w rfl⟩
      · cases hk : ktOf c with
        | none => rw [hk] at ho; cases ho
        | some k =>
          rw [hk, Option.bind_some] at ho
          cases hb : T.isa a k with
          | none => rw [hb] at ho; cases ho
          | some b =>
            rw [hb] at ho
            cases ho
            obtain ⟨w1, hw, hkit⟩ := ok.isa a k b hb tt h1
            obtain ⟨u1, hu1, hc⟩ := kt_at hu hk
            obtain rfl := ktv_one hu1 hw
            exact .inl ⟨v, u, tt, u1, b, rfl, hc, h2, hkit, t.here w rfl⟩
  · cases ho
end

/-! ### e.f of an exception -/
def XfOk (K : PySem.W.Frag) (mg : Str → Option Value) (tb : List (Str × Str)) : Prop := ∀ c f, (c, f) ∈ tb → ∀ C, mg c = some (.ref C) → XfC K C ∧ PySem.W.findIn K (.ref C) f = some none
def fieldOf (n : Str) : List Str → List D → Option D
  | m :: ns, d :: ds => if m = n then some d else fieldOf n ns ds
  | _, _ => none
def xfD (tb : List (Str × Str)) (n : Str) : Op1 := fun d _ => match d with
  | .exc c ns xs => if tb.contains (c, n) then fieldOf n ns xs else none
  | _ => none
theorem field_rep {K : PySem.W.Frag} {mg : Str → Option Value} {F : Fz} {ι : List Addr} {H : Hp} {n : Str} : ∀ {ns : List Str} {ds : List D} {vs : List V} {d : D}, Reps K mg F ι H ds vs → fieldOf n ns ds = some d → ∃ v, (ns.zip vs).lookup n = some v ∧ Rep K mg F ι H d v
  | m :: ns, d :: ds, vs, x, r, h => by
    obtain ⟨v, vs', rfl, r1, r2⟩ := r
    unfold fieldOf at h
    rw [List.zip_cons_cons, lookup_put]
    by_cases e : m = n
    · rw [if_pos e] at h
      cases h
      exact ⟨v, by rw [if_pos e.symm], r1⟩
    · rw [if_neg e] at h
      obtain ⟨u, h1, h2⟩ := field_rep r2 h
      exact ⟨u, by rw [if_neg fun z => e z.symm]; exact h1, h2⟩
  | [], _, _, _, _, h => by cases h
  | _ :: _, [], _, _, _, h => by cases h
theorem v_xf {X : Cx} {E : EE} {tb : List (Str × Str)} {e : Expr} {f : Ex D} {n : Str} {pos : Pos} (ok : XfOk X.K X.mg tb) (he : VE X E e f) (hb : attributeBase e n X.env (eval e X.env) = eval e X.env := by rfl) :
    VE X E (.Attribute e n pos) (mUn (xfD tb n) f) := fun g => by
  constructor
  rintro pins s σ H Q I ⟨F, ι, env, S, w, q⟩
  refine attr_of hb (thn ((he g).run pins s σ H (fun v H1 => ∃ F1 ι1 S1 d d2, Ext H F ι H1 F1 ι1 ∧ RS X.K X.mg g σ H1 F1 ι1 env S1 ∧ Rep X.K X.mg F1 ι1 H1 d v ∧ xfD tb n d S1 = some d2 ∧ ∀ u, Rep X.K X.mg F1 ι1 H1 d2 u → Q u H1) I
    ⟨F, ι, env, S, w, rd_mono (rd_then q) fun d H1 F1 ι1 S1 _ e1 w1 ⟨_, _, q1⟩ v hv => ?_⟩) fun u s1 hh => ?_)
  · cases ho : xfD tb n d S1 with
    | none => rw [ho] at q1; exact q1.elim
    | some d2 =>
      rw [ho] at q1
      exact ⟨F1, ι1, S1, d, d2, e1, w1, hv, ho, fun u hu => (q1 H1 F1 ι1 Ext.refl w1).2.2 u hu⟩
  · obtain ⟨v, H1, I1, rv, F1, ι1, S1, d, d2, e1, w1, hv, ho, q1⟩ := hh
    unfold xfD at ho
    split at ho
    · rename_i c ns xs
      split at ho
      · rename_i hc
        obtain ⟨a, C, oe, ub, od, vs, rfl, fa, hm, ea, hz, fv, hl, dd, hr⟩ := hv
        obtain rfl : u = Value.ref a := rv
        obtain ⟨T, hno⟩ := ok c n (by simpa using hc) C hm
        obtain ⟨v2, hv2, r2⟩ := field_rep hr ho
        rcases dd with ⟨hns, _⟩ | ⟨dd, rfl, fd, hdd⟩
        · subst hns; cases ho
        · obtain ⟨mA, hns, rel⟩ := (show ObjOk X.prog X.w H1 s1.heap dd (.xd (ns.zip vs)) from I1.hok dd _ hdd)
          obtain ⟨od, ho2, hlk⟩ := lookIn_ns hns
          obtain ⟨u2, hu2, ru2⟩ := RelO.some_of (v := v2) (o := mA n) (by rw [← hv2]; exact rel n)
          obtain ⟨ha, _⟩ := (show ObjOk X.prog X.w H1 s1.heap a (.frz oe ub) from I1.hok a _ ea)
          obtain ⟨fs, hfs⟩ := fv
          have J : PySem.W.InstAt s1.heap a oe C (some od) := ⟨ha, hz.1, by unfold PySem.W.notCls; rw [hfs] <;> rfl, by rw [hz.2.1]; exact ho2⟩
          exact HandSPX.exc_get I1.kIn J T.ga T.gg T.exC (PySem.W.findObj_own T.hdC hno rfl (by rw [hlk, hu2])) (handed_of ru2) ⟨v2, H1, I1.tok _, ru2, q1 v2 r2⟩
      · cases ho
    · cases ho
end DL

/-! DLo: keywords; new cells; divmod; pairs assigned; empty dicts. -/
namespace DL
open PySem PySem.Spec L2
open PyProof.Rows hiding St

/-! ### calls with keywords -/
def pickL {α : Type} (p : List Nat) (l : List α) : List α := p.filterMap fun i => l[i]?
theorem pick_vals {vs : List V} {us : List Value} (r : Vals vs us) : ∀ p : List Nat, Vals (pickL p vs) (pickL p us)
  | [] => .nil
  | i :: p => by
    unfold pickL
    rw [List.filterMap_cons, List.filterMap_cons]
    have hl := r.length
    cases h : vs[i]? with
    | none =>
      have : us[i]? = none := by
        rw [List.getElem?_eq_none_iff] at h ⊢
        omega
      rw [this]
      exact pick_vals r p
    | some v =>
      obtain ⟨u, hu, ru⟩ := r.get h
      rw [hu]
      exact .cons ru (pick_vals r p)
theorem pick_reps {K : PySem.W.Frag} {mg : Str → Option Value} {F : Fz} {ι : List Addr} {H : Hp} {ds : List D} {vs : List V} (r : Reps K mg F ι H ds vs) : ∀ p : List Nat, Reps K mg F ι H (pickL p ds) (pickL p vs)
  | [] => rfl
  | i :: p => by
    unfold pickL
    rw [List.filterMap_cons, List.filterMap_cons]
    have hl := r.len
    cases h : ds[i]? with
    | none =>
      have : vs[i]? = none := by
        rw [List.getElem?_eq_none_iff] at h ⊢
        omega
      rw [this]
      exact pick_reps r p
    | some d =>
      obtain ⟨v, hv, rv⟩ := r.get h
      rw [hv]
      exact ⟨v, _, rfl, rv, pick_reps r p⟩
def BindsW (K : PySem.W.Frag) (fd : FuncData) (ps : List Str) (n : Nat) (ks : List Str) (p : List Nat) : Prop :=
  ∀ (s : Shared) (us ws : List Value), K.In s.heap → us.length = n → ws.length = ks.length → BindsTo s fd ⟨us, ks.zip ws⟩ (ps.zip (pickL p (us ++ ws)))
theorem _root_.L2.Fun.bindsW {K : PySem.W.Frag} {x qual : Str} {st : Stmt} {f : Addr} {fd : FuncData} {ps ks : List Str} {n : Nat} {p : List Nat} (F : Fun K x qual st f fd)
    (h : ∀ (kV doc pm : Value) (an : Option Addr) (cdv ct : Value) (us ws : List Value), us.length = n → ws.length = ks.length →
      bindArgs (PySem.W.fnOf x qual (defArgs st) (defBody st) (defScope st) .none kV doc pm an cdv ct) ⟨us, ks.zip ws⟩ = pure (ps.zip (pickL p (us ++ ws)))) : BindsW K fd ps n ks p := by
  obtain ⟨oc, od, kV, doc, pm, an, cdv, ct, osl, rfl, lk, hcd⟩ := F.ex
  intro s us ws _ h1 h2
  exact L2.BindsTo.of_looks fun M => .of_pure (h kV doc pm an cdv ct us ws h1 h2)
def mFnK (n np nk : Nat) (p : List Nat) (m : Fn) (fa fk : Ex (List D)) : Ex D := fun env S => (fa env S).andThen fun xs S1 => if xs.length = np then (fk env S1).andThen (fun zs S2 =>
  if zs.length = nk then (if (pickL p (xs ++ zs)).length = n then m (pickL p (xs ++ zs)) S2 else .bad) else .bad) else .bad
def VK' (X : Cx) (E : EE) (kws : List Keyword) (f : Ex (List D)) : Prop := ∀ g, PK X kws (tAr X.K X.mg g E f)
section
variable {X : Cx} {E : EE} {e : Expr} {es : List Expr} {kws : List Keyword} {f : Ex D} {fa fk : Ex (List D)} {nm : Option Str} {kpos pos p : Pos}
theorem _root_.L2.PK.imp {X : Cx} {e : List Keyword} {t t' : TA} (p : PK X e t) (h : ∀ σ H Q, t' σ H Q → t σ H Q) : PK X e t' := ⟨fun pos pins s σ H Q I q => p.run pos pins s σ H Q I (h σ H Q q)⟩
theorem k_nil : VK' X E [] mNil := fun g => pk_nil.imp fun σ H Q ⟨F, ι, env, S, w, q⟩ => q H F ι Ext.refl w [] rfl
theorem k_cons (he : VE X E e f) (hr : VK' X E kws fk) : VK' X E (⟨nm, e, kpos⟩ :: kws) (mCons f fk) := fun g =>
  (pk_cons (he g) (hr g)).imp fun σ H Q ⟨F, ι, env, S, w, q⟩ => ⟨F, ι, env, S, w, rd_mono (rd_then q) fun x H1 F1 ι1 S1 _ e1 w1 ⟨_, _, q1⟩ v hv =>
    ⟨F1, ι1, env, S1, w1, rd_mono (rd_then q1) fun xs H2 F2 ι2 S2 _ e2 w2 ⟨_, _, q2⟩ vs hvs => (q2 H2 F2 ι2 Ext.refl w2).2.2.2.2 (v :: vs) ⟨v, vs, rfl, w1.wd.rep e2 hv, hvs⟩⟩⟩
theorem run_kw {x : Str} {i : Nat} {fx : Addr} {fd : FuncData} {ps ks : List Str} {n np : Nat} {pk : List Nat} {m : Fn} {pins : List (Addr × Obj)} {σ : L2.St} {H : Hp} {s : Shared} {Q : VK} {us ws : List Value} {vs zs : List V}
    (G : FnG X.prog X.w X.K X.mg X.base i fx fd ps (SpM X.K X.mg n m)) (rm : Rm i X.A) (hb : BindsW X.K fd ps np ks pk) (px : Px X E) (I : Inv X pins σ H s) (r : Vals vs us) (rz : Vals zs ws) (l1 : vs.length = np) (l2 : zs.length = ks.length)
    (h : SpM X.K X.mg n m (pickL pk (vs ++ zs)) H Q (E σ)) : wpAny (model X.prog X.w) X.A (call (.ref fx) us (ks.zip ws)) (EP X pins σ Q) X.xe s := by
  have rr : Vals (pickL pk (vs ++ zs)) (pickL pk (us ++ ws)) := pick_vals (r.append rz) pk
  have bd := hb s us ws I.kIn (r.length.symm.trans l1) (rz.length.symm.trans l2)
  refine wpAny_call (codeAny_mono (runG G rm px I bd rr h) ?_)
  intro r s' hr
  match r, hr with
  | .error e, hr => exact hr
  | .ok (.ret u), hr => exact hr
theorem v_callK0 {x : Str} {i nk : Nat} {fx : Addr} {fd : FuncData} {ps ks : List Str} {n : Nat} {pk : List Nat} {m : Fn} (G : FnG X.prog X.w X.K X.mg X.base i fx fd ps (SpM X.K X.mg n m)) (rm : Rm i X.A) (hm : X.mg x = some (.ref fx))
    (hk : PySem.W.keepIn X.K (.ref fx) = true) (hb : BindsW X.K fd ps 0 ks pk) (px : Px X E) (hkw : VK' X E kws fk) (hnk : ks.length = nk := by rfl) (hg : Gl X x := by rfl) (hd : (x == ("__debug__" : Str)) = false := by decide)
    (hall : (backToKw pos (keywordEach kws X.env)).all (·.1.isSome) = true := by rfl) (hks : (backToKw pos (keywordEach kws X.env)).filterMap (·.1) = ks := by rfl)
    (hpl : ((backTo pos (starEach [] X.env)).any (·.1) || (backToKw pos (keywordEach kws X.env)).any (·.1.isNone)) = false := by rfl) : VE X E (.Call (.Name x p) [] kws pos) (mFnK n 0 nk pk m mNil fk) := fun g => by
  subst hnk
  constructor
  rintro pins s σ H Q I ⟨F, ι, env, S, w, q⟩
  refine wpAny_Call_Name_kw (ld_glob I hg hm ?_ hd)
  refine PySem.W.callWith_KW0 (h₀ := X.base) I.ok.mod.kin hk hall (thn ((hkw g).run pos pins s σ H (fun zs H2 => zs.length = ks.length ∧ SpM X.K X.mg n m (pickL pk ([] ++ zs)) H2 Q (E σ)) I ⟨F, ι, env, S, w, ?_⟩) fun ws s2 hh => ?_) hpl
  · have q : rdAt X.K X.mg g E σ H F ι env (fun d H' F' ι' _ => ∀ v, Rep X.K X.mg F' ι' H' d v → Q v H') ((fk env S).andThen fun zs S2 => if zs.length = ks.length then (if (pickL pk ([] ++ zs)).length = n then m (pickL pk ([] ++ zs)) S2 else .bad) else .bad) := q
    refine rd_mono (rd_then q) ?_
    rintro zs H2 F2 ι2 S2 - e2 w2 ⟨_, _, q2⟩ vs hvs
    by_cases hc : zs.length = ks.length
    · rw [if_pos hc] at q2
      exact ⟨hvs.len.trans hc, sp_of w2 (pick_reps (by simpa using hvs) pk) q2 fun d H' F' ι' S' z v hv => z.2.2 v hv⟩
    · rw [if_neg hc] at q2
      exact q2.elim
  · obtain ⟨zs, H2, I2, rz, l2, sp⟩ := hh
    refine ⟨I2.kIn, ?_⟩
    rw [hks]
    exact run_kw (x := x) (us := []) (vs := []) G rm hb px I2 .nil rz rfl l2 sp
theorem v_callK {x : Str} {i nk : Nat} {fx : Addr} {fd : FuncData} {ps ks : List Str} {n np : Nat} {pk : List Nat} {m : Fn} (G : FnG X.prog X.w X.K X.mg X.base i fx fd ps (SpM X.K X.mg n m)) (rm : Rm i X.A) (hm : X.mg x = some (.ref fx))
    (hk : PySem.W.keepIn X.K (.ref fx) = true) (hb : BindsW X.K fd ps np ks pk) (px : Px X E) (ha : VA X E (e :: es) fa) (hkw : VK' X E kws fk) (hnk : ks.length = nk := by rfl) (hg : Gl X x := by rfl) (hd : (x == ("__debug__" : Str)) = false := by decide)
    (hall : (backToKw pos (keywordEach kws X.env)).all (·.1.isSome) = true := by rfl) (hks : (backToKw pos (keywordEach kws X.env)).filterMap (·.1) = ks := by rfl) (h1 : starEach (e :: es) X.env = (false, eval e X.env) :: starEach es X.env := by rfl)
    (hpl : ((backTo pos (starEach (e :: es) X.env)).any (·.1) || (backToKw pos (keywordEach kws X.env)).any (·.1.isNone)) = false := by rfl) : VE X E (.Call (.Name x p) (e :: es) kws pos) (mFnK n np nk pk m fa fk) := fun g => by
  subst hnk
  constructor
  rintro pins s σ H Q I ⟨F, ι, env, S, w, q⟩
  refine wpAny_Call_Name_kw (ld_glob I hg hm ?_ hd)
  refine PySem.W.callWith_KW (h₀ := X.base) I.ok.mod.kin hk hall (thn ((ha g).run pos pins s σ H (fun vs H1 => vs.length = np ∧ tAr X.K X.mg g E fk σ H1 (fun zs H2 => zs.length = ks.length ∧ SpM X.K X.mg n m (pickL pk (vs ++ zs)) H2 Q (E σ))) I ⟨F, ι, env, S, w, ?_⟩) fun us s1 h1 => ?_) hpl h1
  · refine rd_mono (rd_then q) ?_
    rintro xs H1 F1 ι1 S1 - e1 w1 ⟨_, _, q1⟩ vs hvs
    by_cases hn : xs.length = np
    · rw [if_pos hn] at q1
      refine ⟨hvs.len.trans hn, F1, ι1, env, S1, w1, rd_mono (rd_then q1) ?_⟩
      rintro zs H2 F2 ι2 S2 - e2 w2 ⟨_, _, q2⟩ us hus
      by_cases hc : zs.length = ks.length
      · rw [if_pos hc] at q2
        exact ⟨hus.len.trans hc, sp_of w2 (pick_reps ((w1.wd.reps e2 hvs).app hus) pk) q2 fun d H' F' ι' S' z v hv => z.2.2.2.2 v hv⟩
      · rw [if_neg hc] at q2
        exact q2.elim
    · rw [if_neg hn] at q1
      exact q1.elim
  · obtain ⟨vs, H1, I1, rv, l1, q1⟩ := h1
    refine thn ((hkw g).run pos pins s1 σ H1 _ I1 q1) fun ws s2 hh => ?_
    obtain ⟨zs, H2, I2, rz, l2, sp⟩ := hh
    refine ⟨I2.kIn, ?_⟩
    rw [hks]
    exact run_kw (x := x) G rm hb px I2 rv rz l1 l2 sp
end
end DL

/-! DLp: new cells, divmod, pairs assigned, empty dicts, None. -/
namespace DL
open PySem PySem.Spec L2
open PyProof.Rows hiding St

section
variable {K : PySem.W.Frag} {mg : Str → Option Value} {F : Fz} {ι : List Addr} {H : Hp} {S : List Cell}
/-- an object that is neither frozen nor a cell becomes a cell -/
theorem Wd.cellNew {a : Addr} {c : Cell} (w : Wd K mg F ι H S) (hf : ¬ F a) (hi : a ∉ ι) (hc : CellOk K mg F ι H a c) : Wd K mg F (ι ++ [a]) H (S ++ [c]) := by
  have pre : ι <+: ι ++ [a] := List.prefix_append _ _
  have up : ∀ (b : Addr) c, CellOk K mg F ι H b c → CellOk K mg F (ι ++ [a]) H b c := fun b c h => cell_mono (fun _ h => h) (fun _ _ _ h => h) pre (fun _ h => h) c h
  refine ⟨w.fin, fun n d b h1 h2 hl => ?_, ?_, by rw [List.length_append, List.length_append, w.len]; rfl, fun n d b h1 h2 => ?_⟩
  · by_cases hn : n < S.length
    · rw [List.getElem?_append_left hn] at h1
      rw [List.getElem?_append_left (by rw [← w.len]; exact hn)] at h2
      exact w.cnf n d b h1 h2 hl
    · rw [List.getElem?_append_right (by rw [← w.len]; omega)] at h2
      have := List.mem_of_getElem? h2
      rw [List.mem_singleton.mp this]
      exact hf
  · rw [List.nodup_append]
    refine ⟨w.cnd, by simp, fun x hx y hy e => ?_⟩
    rw [List.mem_singleton] at hy
    subst hy e
    exact hi hx
  · by_cases hn : n < S.length
    · rw [List.getElem?_append_left hn] at h1
      rw [List.getElem?_append_left (by rw [← w.len]; exact hn)] at h2
      exact up b d (w.cells n d b h1 h2)
    · rw [List.getElem?_append_right (by omega)] at h1
      rw [List.getElem?_append_right (by rw [← w.len]; omega)] at h2
      have e0 : n - S.length = 0 := by
        cases z : n - S.length with
        | zero => rfl
        | succ k => rw [z] at h1; simp at h1
      rw [e0] at h1
      rw [← w.len, e0] at h2
      have h1 : some c = some d := h1
      have h2 : some a = some b := h2
      cases h1
      cases h2
      exact up _ _ hc
theorem cell_ext {H' : Hp} {F' : Fz} {ι' : List Addr} {a : Addr} (e : Ext H F ι H' F' ι') (n : H a = none) : Ext H F ι H' F' (ι' ++ [a]) :=
  ⟨e.sub, e.new, e.keep, e.mono, e.pre.trans (List.prefix_append _ _), fun b hb => (List.mem_append.mp hb).elim (e.cnew b) fun z => by rw [List.mem_singleton.mp z]; exact .inr n⟩
end
section
variable {X : Cx} {E : EE} {e a b : Expr} {fa : Ex (List D)} {f : Ex D} {pos : Pos}
/-- a new list as a cell -/
def mCell (f : Ex (List D)) : Ex D := fun env S => (f env S).andThen fun xs S1 => .ok (.cell S1.length) (S1 ++ [.lst xs])
theorem v_cell (h : VO X E e fa) : VE X E e (mCell fa) := fun g => (h g).imp fun σ H Q ⟨F, ι, env, S, w, q⟩ => ⟨F, ι, env, S, w, by
  unfold mCell at q
  cases hf : fa env S with
  | bad => rw [hf] at q; exact q
  | ex c ns ds S1 => rw [hf] at q; exact q
  | ok xs S1 =>
    rw [hf] at q
    intro H1 F1 ι1 e1 w1 p vs h1 r nf nc n
    have w2 := w1.wd.cellNew (c := .lst xs) nf nc ⟨vs, h1, r⟩
    have e2 := cell_ext e1 n
    exact q H1 F1 (ι1 ++ [p]) e2 (w.step e2 w2) (.ref p) ⟨p, rfl, by rw [w1.wd.len]; simp⟩⟩
/-- divmod -/
def divmodD : OpN := fun xs _ => match xs with
  | [.int i, .int j] => if 0 < j ∧ j < 1073741824 then some (.tup [.int (i / j), .int (i % j)]) else none
  | _ => none
theorem ok_divmod {K : PySem.W.Frag} {mg : Str → Option Value} : OkN K mg (fun xs H Q => ∃ i j, xs = [.int i, .int j] ∧ CDiv i j ∧ ∀ p, H p = none → Q (.ref p) (upd H p (.tup [.int (i / j), .int (i % j)]))) divmodD := by
  intro H F ι S xs d vs Q w rx ho t
  unfold divmodD at ho
  split at ho
  · rename_i i j
    obtain ⟨v, u, rfl, hv, hu⟩ := two_of rx
    rw [show v = _ from hv, show u = _ from hu]
    split at ho
    · rename_i hc
      cases ho
      exact ⟨i, j, rfl, hc, fun p hp => t.layT w ⟨_, _, rfl, rfl, _, _, rfl, rfl, rfl⟩ hp⟩
    · cases ho
  · cases ho
/-- x is None, x is not None -/
def isN (neg : Bool) : Op2 := fun x y _ => match y, x with
  | .non, .non => some (.bl (!neg))
  | .non, _ => some (.bl neg)
  | _, _ => none
def isNon : D → Bool
  | .non => true
  | _ => false
theorem rep_non {K : PySem.W.Frag} {mg : Str → Option Value} {F : Fz} {ι : List Addr} {H : Hp} {d : D} {v : V} (r : Rep K mg F ι H d v) : decide (v = .non) = isNon d := by
  cases d with
  | non => rw [show v = _ from r]; rfl
  | bl b => rw [show v = _ from r]; rfl
  | int b => rw [show v = _ from r]; rfl
  | str b => rw [show v = _ from r]; rfl
  | tup xs => obtain ⟨p, vs, rfl, _⟩ := r; rfl
  | lst xs => obtain ⟨p, vs, rfl, _⟩ := r; rfl
  | ro xs => obtain ⟨p, vs, rfl, _⟩ := r; rfl
  | dct ks xs => obtain ⟨p, vs, rfl, _⟩ := r; rfl
  | obj c ns xs => obtain ⟨p, C, dx, vs, rfl, _⟩ := r; rfl
  | cell n => obtain ⟨p, rfl, _⟩ := r; rfl
  | ty n => rw [show v = _ from r]; rfl
  | cls c => obtain ⟨p, rfl, _⟩ := r; rfl
  | exc c ns xs => obtain ⟨p, C, oe, u, od, vs, rfl, _⟩ := r; rfl
theorem ok_isN {K : PySem.W.Frag} {mg : Str → Option Value} : Ok2 K mg (fun x y H Q => y = .non ∧ Q (.bl (decide (x = .non))) H) (isN false) := by
  intro H F ι S x y d v u Q w rx ry ho t
  unfold isN at ho
  split at ho
  · cases ho
    rw [show u = _ from ry]
    exact ⟨rfl, by rw [rep_non rx]; exact t.here w rfl⟩
  · rename_i hx
    cases ho
    rw [show u = _ from ry]
    refine ⟨rfl, ?_⟩
    rw [rep_non rx]
    cases x with
    | non => exact absurd rfl hx
    | _ => exact t.here w rfl
  · cases ho
theorem ok_isNN {K : PySem.W.Frag} {mg : Str → Option Value} : Ok2 K mg (fun x y H Q => y = .non ∧ Q (.bl (!decide (x = .non))) H) (isN true) := by
  intro H F ι S x y d v u Q w rx ry ho t
  unfold isN at ho
  split at ho
  · cases ho
    rw [show u = _ from ry]
    exact ⟨rfl, by rw [rep_non rx]; exact t.here w rfl⟩
  · rename_i hx
    cases ho
    rw [show u = _ from ry]
    refine ⟨rfl, ?_⟩
    rw [rep_non rx]
    cases x with
    | non => exact absurd rfl hx
    | _ => exact t.here w rfl
  · cases ho
/-- a new empty dict -/
theorem v_dict0 : VE X E (.Dict [] [] pos) (mC (.dct [] [])) := fun g => pe_dnewK.imp fun σ H Q ⟨F, ι, env, S, w, q⟩ p hp => by
  obtain ⟨e, wd⟩ := w.wd.lay (o := .dK []) hp
  exact q _ _ _ e (w.step e wd) (.ref p) ⟨p, [], rfl, .inr rfl, .inl upd_same, rfl, rfl⟩
/-- a, b = x, y -/
def mPar2 (i j : Nat) (fa : Ex (List D)) : Sm := fun env S => (fa env S).go env fun ds S1 => match ds with
  | [d, d'] => .nx ((env.set i (.val d)).set j (.val d')) S1
  | _ => .bad
theorem s_par (i j : Nat) {x y : Str} {px py pt : Pos} {kt k2 pt2} (ha : VA X E [a, b] fa) (hc : X.calm = true) (hN : X.N.Nodup) (hi : X.N[i]? = some x := by rfl) (hj : X.N[j]? = some y := by rfl) (hij : i ≠ j := by decide)
    (hx : X.env.scope.names.lookup x = some .local := by rfl) (hy : X.env.scope.names.lookup y = some .local := by rfl) (hw : swappedStores [.Tuple [.Name x px, .Name y py] kt pt] (.Tuple [a, b] k2 pt2) X.env = pure (some [x, y]) := by rfl)
    (hs : swapsWithSole [.Tuple [.Name x px, .Name y py] kt pt] (.Tuple [a, b] k2 pt2) pos.line X.env = pure false := by rfl) :
    VS X E (.Assign [.Tuple [.Name x px, .Name y py] kt pt] (.Tuple [a, b] k2 pt2) pos) (mPar2 i j fa) := fun g => (ps_par hc hN hi hj hij hx hy (ha g) hw hs).imp fun D σ H ⟨F, ι, env, S, w, q⟩ =>
  ⟨F, ι, env, S, w, rd_mono (rd_go w.wd q) fun ds H1 F1 ι1 S1 _ e1 w1 ⟨_, _, q1⟩ vs hvs => by
    match ds, q1 with
    | [d, d'], q1 =>
      obtain ⟨v, u, rfl, hv, hu⟩ := two_of hvs
      exact ⟨v, u, rfl, q1 _ H1 F1 ι1 ((w1.put i hv).put j hu) Grow.refl⟩⟩
end
end DL

/-! DLq: the law's end. -/
namespace DL
open PySem PySem.Spec L2
open PyProof.Rows hiding St

theorem rm_caller {k : Nat} (h : Room k callerA) (hq : callerA.guards = some [] := by rfl) : Rm k callerA := ⟨h, hq⟩
def scriptD (ns : List Int) : D := .ro (ns.map .int)
theorem mean_of_law {P : Program} {w : World} {K : PySem.W.Frag} {mg mb : Str → Option Value} {k : Nat} {fa a : Addr} {fd : FuncData} {x : Str} {m : Fn} {s1 : Shared} {vs : List Value} {ns : List Int}
    (KX : K.In s1.heap) (nG : s1.heap.Ns mainGlobals mg) (nB : s1.heap.Ns builtinsNs mb) (bB : ∀ x : Str, x ≠ "__name__" → mb x = bootBuiltins x) (lim : s1.heap.NoLimit) (noG : s1.gens = #[])
    (at_ : s1.heap.get? a = some { cls := .type "list", data := .seq vs.toArray }) (hi : IntsAre vs ns) (hl : ns.length ≤ sizeLine) (rm : Rm k callerA)
    (G : ∀ base : Heap, K.In base → base.Ns mainGlobals mg → FnG P w K mg base k fa fd [x] (SpM K mg 1 m)) (bd : ∀ (s : Shared) (u : Value), BindsTo s fd ⟨[u], []⟩ [(x, u)])
    (hm : ∃ S', m [scriptD ns] [] = .ok (.bl true) S') :
    codeAny (model P w) callerA (.call (.ref fa) ⟨[.ref a], []⟩) (fun r s' => r = .ok (.ret (.bool true)) ∧ OldK s1.heap s'.heap ∧ s'.os = s1.os ∧ AllBare s'.gens) s1 := by
  have rv := vals_ints hi
  have lenV := hi.length
  let scr : HO := .frz { cls := .type "list", data := .seq vs.toArray } (.lst (ns.map V.int))
  have main : ∀ (H : Hp) (F0 : Fz), (∀ b u, H b = some u → b = a ∧ u = scr ∧ K.lookup a = none) → (∀ b, F0 b → H b ≠ none) → HOk P w H s1.heap → RoAt K F0 H a (ns.map V.int) →
      codeAny (model P w) callerA (.call (.ref fa) ⟨[.ref a], []⟩) (fun r s' => r = .ok (.ret (.bool true)) ∧ OldK s1.heap s'.heap ∧ s'.os = s1.os ∧ AllBare s'.gens) s1 := by
    intro H F0 only f0 hok ro
    have hid : ∀ {b : Addr} {o : Obj}, s1.heap.get? b = some o → H b = none → (hidT s1.heap H).get? b = some o := fun e n => hidT_get e n
    have free : ∀ {b : Addr} {o : Obj}, s1.heap.get? b = some o → (b = a → o = { cls := .type "list", data := .seq vs.toArray } → K.lookup a = none → False) → H b = none := fun {b o} e no => by
      cases q : H b with
      | none => rfl
      | some u =>
        obtain ⟨rfl, _, hK⟩ := only b u q
        rw [at_] at e
        exact (no rfl (by cases e; rfl) hK).elim
    have nsT : ∀ {b : Addr} {mm : Str → Option Value}, s1.heap.Ns b mm → (hidT s1.heap H).Ns b mm := fun {b mm} ⟨o, es, ep, e, d, r⟩ => ⟨o, es, ep, hid e (free e fun _ z _ => by
      rw [z] at d
      have d' : Data.seq vs.toArray _ = Data.dict es ep := d
      cases d'), d, r⟩
    have kin : K.In (hidT s1.heap H) := fun b o e => hid (KX b o e) (free (KX b o e) fun z _ hK => by
      rw [z, hK] at e
      cases e)
    have md : Mod K mg (hidT s1.heap H) := ⟨kin, nsT nG, ⟨mb, nsT nB, bB⟩, let ⟨mc, h1, h2⟩ := lim; ⟨mc, nsT h1, h2⟩⟩
    have e0 : Env0 P w K mg (hidT s1.heap H) callerA [] s1 H := ⟨rfl, md, fun b o e => of_hidT e, Nat.le_of_eq (hidT_size _ _), trivial, fun b hb => absurd (show b ∈ ([] : List Addr) from hb) (by simp), hok, .of_eq noG⟩
    have wd : Wd K mg F0 [] H [] := ⟨f0, fun n c b h _ => by simp at h, by simp, rfl, fun n c b h _ => by simp at h⟩
    have sp : SpM K mg 1 m [.ref a] H (fun v _ => v = .bl true) (fun _ _ _ => False) := by
      refine ⟨rfl, F0, [], [scriptD ns], [], wd, .one ⟨a, ns.map V.int, rfl, ro, reps_ints ns⟩, ?_⟩
      obtain ⟨S', hS⟩ := hm
      rw [hS]
      exact fun v H' F' ι' _ _ hv => hv
    refine codeAny_mono ((G _ kin (nsT nG)).go callerA [] s1 H ⟨[.ref a], []⟩ [.ref a] [.ref a] _ _ rm e0 (bd s1 (.ref a)) (.cons rfl .nil) sp) fun r s' h => ?_
    cases r with
    | error e =>
      obtain ⟨_, _, _, _, _, _, _, _, _, _, _, _, h⟩ := h
      exact h.elim
    | ok fl =>
      cases fl with
      | ret u =>
        obtain ⟨v, H', os, bare, un, hok', r', q⟩ := h
        obtain rfl : v = .bl true := q
        obtain rfl : u = Value.bool true := r'
        refine ⟨rfl, OldK.of_keep fun b o e => ?_, os, bare⟩
        cases q : H b with
        | none => exact un.keep b o e q (by intro z; exact absurd (show b ∈ ([] : List Addr) from z) (by simp)) (by simp)
        | some u =>
          obtain ⟨rfl, rfl, _⟩ := only b u q
          obtain ⟨e1, _⟩ := hok' b _ (un.frzs b _ _ q)
          rw [at_] at e
          cases e
          exact e1
      | _ => exact False.elim h
  cases hk : K.lookup a with
  | some o =>
    have e := KX a o hk
    rw [at_] at e
    cases e
    exact main noH (fun _ => False) (fun b u z => nomatch z) (fun _ z => z.elim) (fun b u z => nomatch z)
      (.inr (.inr ⟨_, vs.toArray, _, hk, rfl, rfl, rfl, by rw [List.size_toArray, lenV]; exact hl, by simpa using rv⟩))
  | none =>
    refine main (upd noH a scr) (fun b => b = a) (fun b u z => ?_) (fun b z => ?_) (fun b u z => ?_) (.inl ⟨rfl, .inr ⟨_, upd_same⟩⟩)
    · by_cases hb : b = a
      · subst hb
        rw [upd_same] at z
        cases z
        exact ⟨rfl, rfl, hk⟩
      · rw [upd_ne hb] at z
        exact nomatch z
    · rw [z, upd_same]; simp
    · by_cases hb : b = a
      · subst hb
        rw [upd_same] at z
        cases z
        exact ⟨at_, by rw [List.length_map]; exact hl, vs, _, rv, at_⟩
      · rw [upd_ne hb] at z
        exact nomatch z
/-- the goal that k_head leaves -/
theorem walkG {l : PySem.W.OpenLaw} {n k : Nat} {q : Program} {loose : List Str} {XP : (Str → Option Value) → Heap → Prop} {YP : World → Heap → Prop} {d : DefRec} {K : Params → PySem.W.Frag} {x : Str} {m : Fn}
    (hn : l.most = some n) (hn2 : n ≤ sizeLine) (hdf : d.params.defaults = []) (hr : Room k callerA)
    (hY : ∀ (w : World) (h : Heap), YP w h → (K w.params).In h)
    (F : ∀ (w : World) (mg : Str → Option Value) (fa : Addr) (h : Heap), (K w.params).In h → h.Ns mainGlobals mg → mg d.name = some (.ref fa) →
      ∃ fd : FuncData, (∀ (s : Shared) (u : Value), BindsTo s fd ⟨[u], []⟩ [(x, u)]) ∧
        ∀ base : Heap, (K w.params).In base → base.Ns mainGlobals mg → FnG l.prog w (K w.params) mg base k fa fd [x] (SpM (K w.params) mg 1 m))
    (hm : ∀ ns : List Int, ns.length ≤ n → ∃ S', m [scriptD ns] [] = .ok (.bl true) S') :
    PySem.W.WalkO q loose XP YP l.row.toRowW d [] (fun f vs => PySem.call f vs) := by
  refine Att.attach_call hn hdf fun w s0 s1 mg mb fa o pm cd doc a vs ns G Y ho hd hcd hmg hobj hints hlen hg => ?_
  obtain ⟨fd, hb, hF⟩ := F w mg fa _ (hY w _ Y) G.T.g hmg
  exact mean_of_law (hY w _ Y) G.T.g G.T.b G.T.builtins G.T.nolimit hg hobj hints (Nat.le_trans hlen hn2) (rm_caller hr) hF hb (hm ns hlen)
end DL

/-! DLr: small helpers for written-out defs. -/
namespace DL
open PySem PySem.Spec L2
open PyProof.Rows hiding St

section
variable {X : Cx} {E : EE} {es : List Expr} {x : Str} {pos : Pos} {n : Int}
theorem pp_nm (i : Nat) (hN : X.N.Nodup) (hi : X.N[i]? = some x := by rfl) (hx : Loc X.env.scope x := by first | exact Or.inl rfl | exact Or.inr rfl) (hf : X.fn x = true ∨ X.env.scope.names.lookup x = some .local := by first | exact .inl rfl | exact .inr rfl) :
    PG X (.Name x pos) (gPat X.K (.nm i)) := pg_name hN hi hx hf
theorem pp_tp {k : Nat} {ps : List Pat} (hc : X.calm = true) (h : PGs X es (gPats X.K ps)) (hn : (assignEach es X.env).length = ps.length := by rfl) (hst : (assignEach es X.env).findIdx? (·.1) = none := by rfl) :
    PG X (.Tuple es k pos) (gPat X.K (.tp ps)) := pg_or (pg_tup hc h hn hst) (pg_unl hc h hn hst)
theorem pp_nil : PGs X [] (gPats X.K []) := pgs_nil
theorem pp_cons {e : Expr} {p : Pat} {ps : List Pat} (h1 : PG X e (gPat X.K p)) (h2 : PGs X es (gPats X.K ps)) (hs : (assignEach (e :: es) X.env).map (·.2) = assign e X.env :: (assignEach es X.env).map (·.2) := by rfl) :
    PGs X (e :: es) (gPats X.K (p :: ps)) := pgs_cons h1 h2 hs
/-- a module's number -/
theorem v_gint (h : ∃ t, X.mg x = some (.int n t)) (hg : Gl X x := by rfl) (hd : (x == ("__debug__" : Str)) = false := by decide) : VE X E (.Name x pos) (mC (.int n)) := by
  obtain ⟨t, h⟩ := h
  exact v_glob (v := .int n) hg h ⟨t, rfl⟩ (fun _ _ _ => rfl) hd
/-- an own class -/
theorem v_cls {C : Addr} (h : X.mg x = some (.ref C)) (hg : Gl X x := by rfl) (hd : (x == ("__debug__" : Str)) = false := by decide) : VE X E (.Name x pos) (mC (.cls x)) :=
  v_glob (v := .ref C) hg h rfl (fun _ _ _ => ⟨C, rfl, h⟩) hd
end
/-- what is known of classes, from rows -/
def isaOf (oo : List (Str × Str × Bool)) (ob : List (Str × String × Bool)) (own : List Str) : KT → KT → Option Bool
  | .b m, .b n => isTB m n
  | .b m, .o c => if own.contains c && tyNames.contains m then some false else none
  | .o c, .o d => (oo.find? fun r => r.1 == c && r.2.1 == d).map (·.2.2)
  | .o c, .b n => (ob.find? fun r => r.1 == c && r.2.1 == n).map (·.2.2)
theorem isa_ok {K : PySem.W.Frag} {mg : Str → Option Value} {oo : List (Str × Str × Bool)} {ob : List (Str × String × Bool)} {own : List Str}
    (h1 : ∀ c d b, (c, d, b) ∈ oo → ∃ C D, mg c = some (.ref C) ∧ mg d = some (.ref D) ∧ PySem.W.kitOne K (.ref C) (.ref D) = some b)
    (h2 : ∀ c n b, (c, n, b) ∈ ob → ∃ C, mg c = some (.ref C) ∧ PySem.W.kitOne K (.ref C) (.type n) = some b)
    (h3 : ∀ c ∈ own, ∀ m ∈ tyNames, ∃ C, mg c = some (.ref C) ∧ PySem.W.kitOne K (.type m) (.ref C) = some false) :
    ∀ a b r, isaOf oo ob own a b = some r → ∀ u, ktv mg a u → ∃ w, ktv mg b w ∧ PySem.W.kitOne K u w = some r := by
  intro a b r h u hu
  cases a with
  | b m =>
    cases b with
    | b n =>
      rw [show u = _ from hu]
      exact ⟨_, rfl, kit_ty (isTB_ok h)⟩
    | o c =>
      unfold isaOf at h
      dsimp only at h
      split at h
      · rename_i hc
        rw [Bool.and_eq_true] at hc
        cases h
        obtain ⟨C, e1, e2⟩ := h3 c (by simpa using hc.1) m (by simpa using hc.2)
        rw [show u = _ from hu]
        exact ⟨_, ⟨C, rfl, e1⟩, e2⟩
      · cases h
  | o c =>
    obtain ⟨C', rfl, e0⟩ := hu
    cases b with
    | b n =>
      obtain ⟨⟨c', n', b'⟩, hf, rfl⟩ := Option.map_eq_some_iff.mp h
      have hp := List.find?_some hf
      rw [Bool.and_eq_true, beq_iff_eq, beq_iff_eq] at hp
      obtain ⟨hp1, hp2⟩ := hp
      dsimp only at hp1 hp2
      subst hp1 hp2
      obtain ⟨C, e1, e2⟩ := h2 _ _ _ (List.mem_of_find?_eq_some hf)
      rw [e0] at e1
      cases e1
      exact ⟨_, rfl, e2⟩
    | o d =>
      obtain ⟨⟨c', n', b'⟩, hf, rfl⟩ := Option.map_eq_some_iff.mp h
      have hp := List.find?_some hf
      rw [Bool.and_eq_true, beq_iff_eq, beq_iff_eq] at hp
      obtain ⟨hp1, hp2⟩ := hp
      dsimp only at hp1 hp2
      subst hp1 hp2
      obtain ⟨C, D, e1, e3, e2⟩ := h1 _ _ _ (List.mem_of_find?_eq_some hf)
      rw [e0] at e1
      cases e1
      exact ⟨_, ⟨D, rfl, e3⟩, e2⟩
/-- who catches whom, from rows -/
def subOf (oo : List (Str × Str × Bool)) (c d : Str) : Option Bool := (oo.find? fun r => r.1 == c && r.2.1 == d).map (·.2.2)
theorem sub_ok {K : PySem.W.Frag} {mg : Str → Option Value} {oo : List (Str × Str × Bool)} (h : ∀ c d b, (c, d, b) ∈ oo → ∃ C D, mg c = some (.ref C) ∧ mg d = some (.ref D) ∧ PySem.W.exmOne K (.ref C) (.ref D) = some b) : SubOk K mg (subOf oo) := by
  intro c x b hs C hC
  obtain ⟨⟨c', d', b'⟩, hf, rfl⟩ := Option.map_eq_some_iff.mp hs
  have hp := List.find?_some hf
  rw [Bool.and_eq_true, beq_iff_eq, beq_iff_eq] at hp
  obtain ⟨hp1, hp2⟩ := hp
  dsimp only at hp1 hp2
  subst hp1 hp2
  obtain ⟨C', D, e1, e3, e2⟩ := h _ _ _ (List.mem_of_find?_eq_some hf)
  rw [hC] at e1
  cases e1
  exact ⟨D, e3, e2⟩
theorem Rm.units {k : Nat} {A : Around} (r : Rm k A) : A.units + 64 < cLine := r.room.units
end DL

/-! DLs: targets that raise nothing. -/
namespace DL
open PySem PySem.Spec L2
open PyProof.Rows hiding St

def NxE {α : Type} (f : Ex α) : Prop := ∀ env S, (∃ d S', f env S = .ok d S') ∨ f env S = .bad
def NxG (t : D → Sm) : Prop := ∀ d env S, (∃ e S', t d env S = .nx e S') ∨ t d env S = .bad
def LenB (n : Nat) (ts : List D → Sm) : Prop := ∀ ds env S, ds.length ≠ n → ts ds env S = .bad
def NxGs (ts : List D → Sm) : Prop := ∀ ds env S, (∃ e S', ts ds env S = .nx e S') ∨ ts ds env S = .bad
theorem nx_var (i : Nat) : NxE (mVar i) := fun env S => by
  unfold mVar
  split
  · exact .inl ⟨_, _, rfl⟩
  · exact .inr rfl
theorem nx_c (d : D) : NxE (mC d) := fun env S => .inl ⟨_, _, rfl⟩
theorem ng_name (k : Nat) : NxG (gName' k) := fun d env S => .inl ⟨_, _, rfl⟩
theorem ng_sub {f h : Ex D} (hf : NxE f) (hh : NxE h) : NxG (gSubC f h) := fun d env S => by
  unfold gSubC
  rcases hf env S with ⟨x, S1, e⟩ | e
  · rw [e, go_ok]
    rcases hh env S1 with ⟨y, S2, e2⟩ | e2
    · rw [e2, go_ok]
      split
      · exact .inl ⟨_, _, rfl⟩
      · exact .inr rfl
    · rw [e2]; exact .inr rfl
  · rw [e]; exact .inr rfl
theorem ngs_nil : NxGs gNil' := fun ds env S => by
  unfold gNil'
  split
  · exact .inl ⟨_, _, rfl⟩
  · exact .inr rfl
theorem ngs_cons {t : D → Sm} {ts : List D → Sm} (h1 : NxG t) (h2 : NxGs ts) : NxGs (gCons' t ts) := fun ds env S => by
  cases ds with
  | nil => exact .inr rfl
  | cons d r =>
    have key : ∀ fl, fl = t d env S → (∃ e S', (match (motive := Fl → Fl) fl with | .nx e S' => ts r e S' | .ex c ns es e' S' => .ex c ns es e' S' | _ => .bad) = Fl.nx e S') ∨ (match (motive := Fl → Fl) fl with | .nx e S' => ts r e S' | .ex c ns es e' S' => .ex c ns es e' S' | _ => .bad) = Fl.bad := fun fl hfl => by
      rcases h1 d env S with ⟨e, S', q⟩ | q
      · rw [hfl, q]; exact h2 r e S'
      · rw [hfl, q]; exact .inr rfl
    exact key _ rfl
theorem ng_tup {ts : List D → Sm} (h : NxGs ts) : NxG (gTup' ts) := fun d env S => by
  cases d with
  | tup ds => exact h ds env S
  | lst ds => exact h ds env S
  | _ => exact .inr rfl
theorem lb_nil : LenB 0 gNil' := fun ds env S h => by
  cases ds with
  | nil => exact absurd rfl h
  | cons d r => rfl
theorem lb_cons {n : Nat} {t : D → Sm} {ts : List D → Sm} (h1 : NxG t) (h2 : LenB n ts) : LenB (n + 1) (gCons' t ts) := fun ds env S h => by
  cases ds with
  | nil => rfl
  | cons d r =>
    show (match t d env S with | .nx e S' => ts r e S' | .ex c ns es e' S' => .ex c ns es e' S' | _ => .bad) = Fl.bad
    rcases h1 d env S with ⟨e, S', q⟩ | q
    · rw [q]; exact h2 r e S' fun z => h (by rw [List.length_cons, z])
    · rw [q]
theorem hno_of {t : D → Sm} (h : NxG t) : ∀ d env S, (∃ e S', t d env S = .nx e S') ∨ (∃ c ns ds e' S', t d env S = .ex c ns ds e' S') ∨ t d env S = .bad := fun d env S => (h d env S).elim .inl fun z => .inr (.inr z)
end DL

/-! DLt: mirrors worked out: plain lemmas. -/
namespace DL
/-- an equation by computing, told as a rule (so that simp leaves a step of its own for it) -/
theorem nr {α : Sort _} {a b : α} (h : a = b) : a = b := by cases h; exact Eq.refl _
open PySem PySem.Spec L2
open PyProof.Rows hiding St

theorem mSeq_ap (a b : Sm) (env : List Sl) (S : List Cell) : mSeq a b env S = (match a env S with | .nx e S' => b e S' | r => r) := rfl
theorem mSet_ap (i : Nat) (f : Ex D) (env : List Sl) (S : List Cell) : mSet i f env S = (f env S).go env fun d S1 => .nx (env.set i (.val d)) S1 := rfl
theorem mIfS_ap (p : Ex Bool) (a b : Sm) (env : List Sl) (S : List Cell) : mIfS p a b env S = (p env S).go env fun b' S1 => if b' = true then a env S1 else b env S1 := rfl
theorem mRet_ap (f : Ex D) (env : List Sl) (S : List Cell) : mRet f env S = (f env S).go env fun d S1 => .rt d S1 := rfl
theorem mExpr_ap (f : Ex D) (env : List Sl) (S : List Cell) : mExpr f env S = (f env S).go env fun _ S1 => .nx env S1 := rfl
theorem mSkip_ap (env : List Sl) (S : List Cell) : mSkip env S = .nx env S := rfl
theorem mVar_ap (i : Nat) (env : List Sl) (S : List Cell) : mVar i env S = (match env[i]? with | some (.val d) => .ok d S | _ => .bad) := rfl
theorem mC_ap (d : D) (env : List Sl) (S : List Cell) : mC d env S = .ok d S := rfl
theorem mOp_ap (o : Op2) (f h : Ex D) (env : List Sl) (S : List Cell) : mOp o f h env S = (f env S).andThen fun x S1 => (h env S1).andThen fun y S2 => ofO (o x y S2) S2 := rfl
theorem mUn_ap (o : Op1) (f : Ex D) (env : List Sl) (S : List Cell) : mUn o f env S = (f env S).andThen fun x S1 => ofO (o x S1) S1 := rfl
theorem mB_ap (f : Ex D) (env : List Sl) (S : List Cell) : mB f env S = (f env S).andThen asB := rfl
theorem mNot_ap (p : Ex Bool) (env : List Sl) (S : List Cell) : mNot p env S = (p env S).andThen fun b S1 => .ok (!b) S1 := rfl
theorem mAnd_ap (p q : Ex Bool) (env : List Sl) (S : List Cell) : mAnd p q env S = (p env S).andThen fun b S1 => if b = true then q env S1 else .ok false S1 := rfl
theorem mOr_ap (p q : Ex Bool) (env : List Sl) (S : List Cell) : mOr p q env S = (p env S).andThen fun b S1 => if b = true then .ok true S1 else q env S1 := rfl
theorem mAndV_ap (f h : Ex D) (env : List Sl) (S : List Cell) : mAndV f h env S = (mB f env S).andThen fun b S1 => if b = true then h env S1 else .ok (.bl false) S1 := rfl
theorem mOrV_ap (f h : Ex D) (env : List Sl) (S : List Cell) : mOrV f h env S = (mB f env S).andThen fun b S1 => if b = true then .ok (.bl true) S1 else h env S1 := rfl
theorem mNotV_ap (f : Ex D) (env : List Sl) (S : List Cell) : mNotV f env S = (mB f env S).andThen fun b S1 => .ok (.bl (!b)) S1 := rfl
theorem mIf_ap (p : Ex Bool) (f h : Ex D) (env : List Sl) (S : List Cell) : mIf p f h env S = (p env S).andThen fun b S1 => if b = true then f env S1 else h env S1 := rfl
theorem mChain_ap (o o' : Op2) (f h k : Ex D) (env : List Sl) (S : List Cell) : mChain o o' f h k env S = (f env S).andThen fun x S1 => (h env S1).andThen fun y S2 => ((ofO (o x y S2) S2).andThen asB).andThen fun b S3 =>
  if b = true then (k env S3).andThen fun z S4 => ofO (o' y z S4) S4 else .ok (.bl false) S3 := rfl
theorem mCall_ap (o : OpN) (fa : Ex (List D)) (env : List Sl) (S : List Cell) : mCall o fa env S = (fa env S).andThen fun xs S1 => ofO (o xs S1) S1 := rfl
theorem mFn_ap (n : Nat) (m : Fn) (fa : Ex (List D)) (env : List Sl) (S : List Cell) : mFn n m fa env S = (fa env S).andThen fun xs S1 => if xs.length = n then m xs S1 else .bad := rfl
theorem mFnK_ap (n np nk : Nat) (p : List Nat) (m : Fn) (fa fk : Ex (List D)) (env : List Sl) (S : List Cell) : mFnK n np nk p m fa fk env S = (fa env S).andThen fun xs S1 => if xs.length = np then (fk env S1).andThen (fun zs S2 =>
  if zs.length = nk then (if (pickL p (xs ++ zs)).length = n then m (pickL p (xs ++ zs)) S2 else .bad) else .bad) else .bad := rfl
theorem mCons_ap (f : Ex D) (r : Ex (List D)) (env : List Sl) (S : List Cell) : mCons f r env S = (f env S).andThen fun x S1 => (r env S1).andThen fun xs S2 => .ok (x :: xs) S2 := rfl
theorem mNil_ap (env : List Sl) (S : List Cell) : mNil env S = .ok [] S := rfl
theorem mTup_ap (f : Ex (List D)) (env : List Sl) (S : List Cell) : mTup f env S = (f env S).andThen fun xs S1 => if xs.length ≤ 100000 then .ok (.tup xs) S1 else .bad := rfl
theorem mLst_ap (f : Ex (List D)) (env : List Sl) (S : List Cell) : mLst f env S = (f env S).andThen fun xs S1 => if xs.length ≤ 100000 then .ok xs S1 else .bad := rfl
theorem mFr_ap (f : Ex (List D)) (env : List Sl) (S : List Cell) : mFr f env S = (f env S).andThen fun xs S1 => .ok (.lst xs) S1 := rfl
theorem mCell_ap (f : Ex (List D)) (env : List Sl) (S : List Cell) : mCell f env S = (f env S).andThen fun xs S1 => .ok (.cell S1.length) (S1 ++ [.lst xs]) := rfl
theorem mUnp_ap (p : Pat) (f : Ex D) (env : List Sl) (S : List Cell) : mUnp p f env S = (f env S).go env fun d S1 => (match bindP p d env with | some env' => .nx env' S1 | none => .bad) := rfl
theorem mPar2_ap (i j : Nat) (fa : Ex (List D)) (env : List Sl) (S : List Cell) : mPar2 i j fa env S = (fa env S).go env fun ds S1 => (match ds with | [d, d'] => .nx ((env.set i (.val d)).set j (.val d')) S1 | _ => .bad) := rfl
theorem mAsg_ap (f : Ex D) (t : D → Sm) (env : List Sl) (S : List Cell) : mAsg f t env S = (f env S).go env fun d S1 => t d env S1 := rfl
theorem gName_ap (k : Nat) (d : D) (env : List Sl) (S : List Cell) : gName' k d env S = .nx (env.set k (.val d)) S := rfl
theorem gNil_ap (env : List Sl) (S : List Cell) : gNil' [] env S = .nx env S := rfl
theorem gCons_ap (t : D → Sm) (ts : List D → Sm) (d : D) (r : List D) (env : List Sl) (S : List Cell) : gCons' t ts (d :: r) env S = (match t d env S with | .nx e S' => ts r e S' | .ex c ns es e' S' => .ex c ns es e' S' | _ => .bad) := rfl
@[simp] theorem gTup_tup (ts : List D → Sm) (ds : List D) (env : List Sl) (S : List Cell) : gTup' ts (.tup ds) env S = ts ds env S := nr rfl
@[simp] theorem gTup_lst (ts : List D → Sm) (ds : List D) (env : List Sl) (S : List Cell) : gTup' ts (.lst ds) env S = ts ds env S := nr rfl
theorem mSlice_ap (o : D → Option Int → Option Int → Option D) (f : Ex D) (l h : ExO) (env : List Sl) (S : List Cell) : mSlice o f l h env S = (f env S).andThen fun x S1 => (l env S1).andThen fun a S2 => (h env S2).andThen fun b S3 => ofO (o x a b) S3 := rfl
theorem mNoPart_ap (env : List Sl) (S : List Cell) : mNoPart env S = .ok none S := rfl
theorem mPart_ap (f : Ex D) (env : List Sl) (S : List Cell) : mPart f env S = (f env S).andThen asI := rfl
@[simp] theorem asI_int (i : Int) (S : List Cell) : asI (.int i) S = .ok (some i) S := nr rfl
theorem mRange1_ap (f : Ex (List D)) (env : List Sl) (S : List Cell) : mRange1 f env S = (f env S).andThen range1D := rfl
theorem mRange2_ap (f : Ex (List D)) (env : List Sl) (S : List Cell) : mRange2 f env S = (f env S).andThen range2D := rfl
theorem mItems_ap (f : Ex D) (env : List Sl) (S : List Cell) : mItems f env S = (f env S).andThen itemsOf := rfl
theorem mEnum_ap (f : Ex (List D)) (env : List Sl) (S : List Cell) : mEnum f env S = (f env S).andThen enumD := rfl
theorem mZip_ap (f : Ex (List D)) (env : List Sl) (S : List Cell) : mZip f env S = (f env S).andThen zipD := rfl
theorem mFor_ap (it : Ex (List D)) (p : Pat) (m : Sm) (env : List Sl) (S : List Cell) : mFor it p m env S = (it env S).go env fun ds S1 => forL p m ds env S1 := rfl
theorem mYes_ap (env : List Sl) (S : List Cell) : mYes env S = .ok true S := rfl
@[simp] theorem items_lst (xs : List D) (S : List Cell) : itemsOf (.lst xs) S = .ok xs S := nr rfl
@[simp] theorem items_tup (xs : List D) (S : List Cell) : itemsOf (.tup xs) S = .ok xs S := nr rfl
@[simp] theorem items_ro (xs : List D) (S : List Cell) : itemsOf (.ro xs) S = .ok xs S := nr rfl
@[simp] theorem bindP_nm (i : Nat) (d : D) (env : List Sl) : bindP (.nm i) d env = some (env.set i (.val d)) := by unfold bindP; rfl
@[simp] theorem bindP_tup (ps : List Pat) (ds : List D) (env : List Sl) : bindP (.tp ps) (.tup ds) env = bindPs ps ds env := by unfold bindP; rfl
@[simp] theorem bindP_lst (ps : List Pat) (ds : List D) (env : List Sl) : bindP (.tp ps) (.lst ds) env = bindPs ps ds env := by unfold bindP; rfl
@[simp] theorem bindPs_nil (env : List Sl) : bindPs [] [] env = some env := by unfold bindPs; rfl
@[simp] theorem bindPs_cons (p : Pat) (ps : List Pat) (d : D) (ds : List D) (env : List Sl) : bindPs (p :: ps) (d :: ds) env = (match bindP p d env with | some env' => bindPs ps ds env' | none => none) := by first | (rw [bindPs]; done) | (rw [bindPs]; cases bindP p d env <;> rfl)
@[simp] theorem wipeE_nil (env : List Sl) : wipeE env [] = env := nr rfl
@[simp] theorem wipeE_cons (env : List Sl) (v : Nat) (vs : List Nat) : wipeE env (v :: vs) = (wipeE env vs).set v .un := nr rfl
theorem mComp_ap (it : Ex (List D)) (vs : List Nat) (p : Pat) (c : Ex Bool) (e : Ex D) (env : List Sl) (S : List Cell) : mComp it vs p c e env S = (it env S).andThen fun ds S1 => if ds.length ≤ 100000 then noX (compL vs p c e ds env S1) else .bad := rfl
theorem noX_ok' {α : Type} (a : α) (S : List Cell) : noX (.ok a S) = .ok a S := rfl
theorem forL_nil (p : Pat) (m : Sm) (env : List Sl) (S : List Cell) : forL p m [] env S = .nx env S := rfl
theorem forL_cons (p : Pat) (m : Sm) (d : D) (ds : List D) (env : List Sl) (S : List Cell) : forL p m (d :: ds) env S = (match bindP p d env with
    | none => .bad
    | some env1 => match m env1 S with
      | .nx e S' => forL p m ds e S'
      | .ct e S' => forL p m ds e S'
      | .bk e S' => .nx e S'
      | r => r) := rfl
theorem mDef_ap (n : Nat) (m : Sm) (ds : List D) (S : List Cell) : mDef n m ds S = (match m (startE n ds) S with
  | .nx _ S' => .ok .non S'
  | .rt d S' => .ok d S'
  | .ex c ns es _ S' => .ex c ns es S'
  | _ => .bad) := rfl
theorem startE_ap (n : Nat) (ds : List D) : startE n ds = ds.map .val ++ List.replicate (n - ds.length) .un := rfl
theorem gSubC_ap (f h : Ex D) (d : D) (env : List Sl) (S : List Cell) : gSubC f h d env S = (f env S).go env fun x S1 => (h env S1).go env fun y S2 => match putC x y d S2 with | some S3 => .nx env S3 | none => .bad := rfl
/-- a loop that runs through: an invariant by the place -/
theorem forL_thru {p : Pat} {m : Sm} (I : Nat → List Sl → List Cell → Prop) : ∀ (ds : List D) (i : Nat) (env : List Sl) (S : List Cell), I i env S →
    (∀ (j : Nat) (d : D) (env : List Sl) (S : List Cell), ds[j]? = some d → I (i + j) env S → ∃ env1, bindP p d env = some env1 ∧ ∃ env' S', (m env1 S = .nx env' S' ∨ m env1 S = .ct env' S') ∧ I (i + j + 1) env' S') →
    ∃ env' S', forL p m ds env S = .nx env' S' ∧ I (i + ds.length) env' S'
  | [], i, env, S, h, _ => ⟨env, S, rfl, h⟩
  | d :: ds, i, env, S, h, st => by
    obtain ⟨env1, e1, env', S', e2, h'⟩ := st 0 d env S rfl h
    obtain ⟨env2, S2, e3, h2⟩ := forL_thru I ds (i + 1) env' S' h' fun j x en S hx hI => by
      have := st (j + 1) x en S (by simpa using hx) (by rw [show i + (j + 1) = i + 1 + j by omega]; exact hI)
      rw [show i + (j + 1) = i + 1 + j by omega] at this
      exact this
    refine ⟨env2, S2, ?_, by rw [List.length_cons, show i + (ds.length + 1) = i + 1 + ds.length by omega]; exact h2⟩
    unfold forL
    rw [e1]
    dsimp only
    rcases e2 with e2 | e2 <;> rw [e2] <;> exact e3
/-- a comprehension that takes all, element by element -/
theorem compL_all {vs : List Nat} {p : Pat} {cond : Ex Bool} {elt : Ex D} {env : List Sl} (I : Nat → List Cell → Prop) (R : Nat → D → Prop) : ∀ (ds : List D) (i : Nat) (S : List Cell), I i S →
    (∀ (j : Nat) (d : D) (S : List Cell), ds[j]? = some d → I (i + j) S → ∃ env1, bindP p d (wipeE env vs) = some env1 ∧ cond env1 S = .ok true S ∧ ∃ x S', elt env1 S = .ok x S' ∧ R (i + j) x ∧ I (i + j + 1) S') →
    ∃ xs S', compL vs p cond elt ds env S = .ok xs S' ∧ xs.length = ds.length ∧ (∀ (j : Nat) x, xs[j]? = some x → R (i + j) x) ∧ I (i + ds.length) S'
  | [], i, S, h, _ => ⟨[], S, rfl, rfl, fun j x z => by simp at z, h⟩
  | d :: ds, i, S, h, st => by
    obtain ⟨env1, e1, e2, x, S', e3, r, h'⟩ := st 0 d S rfl h
    obtain ⟨xs, S2, e4, e5, e6, h2⟩ := compL_all I R ds (i + 1) S' h' fun j y S hy hI => by
      have := st (j + 1) y S (by simpa using hy) (by rw [show i + (j + 1) = i + 1 + j by omega]; exact hI)
      rw [show i + (j + 1) = i + 1 + j by omega] at this
      exact this
    refine ⟨x :: xs, S2, ?_, by simp [e5], fun j y hy => ?_, by rw [List.length_cons, show i + (ds.length + 1) = i + 1 + ds.length by omega]; exact h2⟩
    · unfold compL
      rw [e1]
      dsimp only
      rw [e2, noX_ok, andThen_ok, if_pos rfl, e3, noX_ok, andThen_ok, e4, andThen_ok]
    · cases j with
      | zero => cases hy; exact r
      | succ j =>
        have := e6 j y (by simpa using hy)
        rw [show i + (j + 1) = i + 1 + j by omega]
        exact this
/-- a comprehension by plain functions, the store as it was -/
theorem compL_pure {vs : List Nat} {p : Pat} {cond : Ex Bool} {elt : Ex D} {env : List Sl} {S : List Cell} (c : D → Bool) (f : D → D) : ∀ (ds : List D),
    (∀ d ∈ ds, ∃ env1, bindP p d (wipeE env vs) = some env1 ∧ cond env1 S = .ok (c d) S ∧ (c d = true → elt env1 S = .ok (f d) S)) →
    compL vs p cond elt ds env S = .ok ((ds.filter c).map f) S
  | [], _ => rfl
  | d :: ds, h => by
    obtain ⟨env1, e1, e2, e3⟩ := h d (by simp)
    have ih := compL_pure c f ds fun x hx => h x (by simp [hx])
    unfold compL
    rw [e1]
    dsimp only
    rw [e2, noX_ok, andThen_ok]
    cases hc : c d with
    | true => rw [if_pos rfl, e3 hc, noX_ok, andThen_ok, ih, andThen_ok, List.filter_cons_of_pos hc, List.map_cons]
    | false => rw [if_neg (by simp), ih, List.filter_cons_of_neg (by simp [hc])]
@[simp] theorem intD_int (c : Int → Int → Bool) (f : Int → Int → D) (i j : Int) (S : List Cell) : intD c f (.int i) (.int j) S = if c i j then some (f i j) else none := nr rfl
@[simp] theorem subD_int (i j : Int) (S : List Cell) : subD (.int i) (.int j) S = some (.int (i - j)) := nr rfl
@[simp] theorem ltD_int (i j : Int) (S : List Cell) : ltD (.int i) (.int j) S = some (.bl (decide (i < j))) := nr rfl
@[simp] theorem leD_int (i j : Int) (S : List Cell) : leD (.int i) (.int j) S = some (.bl (decide (i ≤ j))) := nr rfl
@[simp] theorem gtD_int (i j : Int) (S : List Cell) : gtD (.int i) (.int j) S = some (.bl (decide (j < i))) := nr rfl
@[simp] theorem geD_int (i j : Int) (S : List Cell) : geD (.int i) (.int j) S = some (.bl (decide (j ≤ i))) := nr rfl
@[simp] theorem addD_int (i j : Int) (S : List Cell) : addD (.int i) (.int j) S = some (.int (i + j)) := nr rfl
@[simp] theorem negD_int (i : Int) (S : List Cell) : negD (.int i) S = some (.int (-i)) := nr rfl
theorem modD_int {i j : Int} {S : List Cell} (h : 0 < j) : modD (.int i) (.int j) S = some (.int (i % j)) := by
  show (if decide (0 < j) = true then _ else _) = _
  rw [if_pos (by simpa using h)]
theorem divD_int {i j : Int} {S : List Cell} (h : 0 < j) (h2 : j.natAbs.log2 < 9000) : divD (.int i) (.int j) S = some (.int (i / j)) := by
  show (if okDiv j = true then _ else _) = _
  rw [if_pos (by unfold okDiv; simp [h, h2])]
theorem powD_int {i j : Int} {S : List Cell} (h : (decide (0 ≤ j ∧ j ≤ 1000000 ∧ i.natAbs < 2 ^ 64)) = true) : powD (.int i) (.int j) S = some (.int (i ^ j.toNat)) := by
  show (if _ = true then _ else _) = _
  rw [if_pos h]
/-- products of numbers that are not very great -/
theorem log2_lt {n k : Nat} (h : n < 2 ^ k) (hk : 0 < k) : n.log2 < k := by
  by_cases hn : n = 0
  · subst hn; simpa using hk
  · exact (Nat.log2_lt hn).mpr h
theorem mulD_int {i j : Int} {S : List Cell} (h : okMul i j = true) : mulD (.int i) (.int j) S = some (.int (i * j)) := by
  show (if okMul i j = true then _ else _) = _
  rw [if_pos h]
theorem okMul_of {i j : Int} (h1 : i.natAbs < 2 ^ 400000) (h2 : j.natAbs < 2 ^ 400000) : okMul i j = true := by
  unfold okMul
  have a := log2_lt h1 (by decide)
  have b := log2_lt h2 (by decide)
  exact decide_eq_true (by omega)
theorem mulD_small {i j : Int} {S : List Cell} (h1 : i.natAbs < 2 ^ 1000) (h2 : j.natAbs < 2 ^ 1000) : mulD (.int i) (.int j) S = some (.int (i * j)) :=
  mulD_int (by
    unfold okMul
    have a := log2_lt h1 (by decide)
    have b := log2_lt h2 (by decide)
    exact decide_eq_true (by omega))
end DL

/-! DLu: instances of own classes: made, fields, methods, properties. -/
namespace DL
open PySem PySem.Spec L2
open PyProof.Rows hiding St

theorem quiet_make {A : Around} (h : A.guards = some []) (C : Addr) (us : List Value) (kw : List (Str × Value)) : (A.under (.builtin "type.__call__" ⟨.ref C :: us, kw⟩)).guards = some [] := by
  simp [Around.under, Code.weight, Code.isCreation, Code.isGuard, Code.isCaller, Code.frames, Code.isFrame, guardIds, h, pushGuards, Code.guards]
theorem Rm.make {k : Nat} {A : Around} (r : Rm (k + 1) A) (C : Addr) (us : List Value) (kw : List (Str × Value)) : Rm k (A.under (.builtin "type.__call__" ⟨.ref C :: us, kw⟩)) := ⟨r.room.make C us kw, quiet_make r.quiet C us kw⟩
theorem Rm.in1 {k : Nat} {A : Around} (r : Rm (k + 1) A) : Rm k A.in1 := ⟨r.room.in1, by have := r.quiet; simpa [Around.in1] using this⟩

section
variable {K : PySem.W.Frag} {mg : Str → Option Value} {F : Fz} {ι : List Addr} {H : Hp} {S : List Cell}
/-- a cell's object is frozen: it changes no more -/
theorem Wd.kill {n : Nat} {a : Addr} (w : Wd K mg F ι H S) (h : ι[n]? = some a) : Wd K mg (fun b => F b ∨ b = a) ι H (S.set n .dead) := by
  have hm : a ∈ ι := List.mem_of_getElem? h
  refine ⟨fun b hb => ?_, fun i c b h1 h2 hl hb => ?_, w.cnd, by rw [List.length_set]; exact w.len, fun i c b h1 h2 => ?_⟩
  · rcases hb with hb | rfl
    · exact w.fin b hb
    · exact w.cell_ne hm
  · rw [List.getElem?_set] at h1
    by_cases e : n = i
    · subst e
      rw [if_pos rfl] at h1
      split at h1 <;> cases h1
      cases hl
    · rw [if_neg e] at h1
      rcases hb with hb | rfl
      · exact w.cnf i c b h1 h2 hl hb
      · obtain ⟨p1, e1⟩ := List.getElem?_eq_some_iff.mp h
        obtain ⟨p2, e2⟩ := List.getElem?_eq_some_iff.mp h2
        exact e ((List.getElem_inj w.cnd).mp (e1.trans e2.symm))
  · rw [List.getElem?_set] at h1
    by_cases e : n = i
    · subst e
      rw [if_pos rfl] at h1
      split at h1
      · cases h1
        rw [h] at h2
        cases h2
        exact .inr rfl
      · cases h1
    · rw [if_neg e] at h1
      exact cell_mono (fun _ h => .inl h) (fun _ _ _ h => h) (List.prefix_refl _) (fun _ h => h) c (w.cells i c b h1 h2)
/-- a new instance as a cell -/
theorem Wd.inst {x dx C : Addr} {c : Str} (w : Wd K mg F ι H S) (hx : H x = none) (hdx : H dx = none) (ne : dx ≠ x) (hc : mg c = some (.ref C)) :
    Ext H F ι (upd (upd H dx (.own x)) x (.ins C dx [])) F (ι ++ [x]) ∧ Wd K mg F (ι ++ [x]) (upd (upd H dx (.own x)) x (.ins C dx [])) (S ++ [.ins c [] []]) := by
  obtain ⟨e1, w1⟩ := w.layO (o := .own x) hdx
  have hx1 : (upd H dx (.own x)) x = none := by rw [upd_ne (Ne.symm ne)]; exact hx
  obtain ⟨e2, w2⟩ := w1.layO (o := .ins C dx []) hx1
  refine ⟨cell_ext (e1.trans e2) hx, w2.cellNew (fun z => w.fin x z hx) (fun z => w.cell_ne z hx) ⟨C, dx, [], hc, upd_same, rfl, rfl⟩⟩
end

/-- C(..): made by __init__ m; frozen or a cell -/
def madeR (c : Str) (fz : Bool) (n : Nat) : Rs D → Rs D
  | .ok .non S2 => match S2[n]? with
    | some (.ins c' ns ys) => if c' = c then (if fz = true then .ok (.obj c ns ys) (S2.set n .dead) else .ok (.cell n) S2) else .bad
    | _ => .bad
  | .ex c' ns es S2 => .ex c' ns es S2
  | _ => .bad
def mMake (c : Str) (fz : Bool) (n : Nat) (m : Fn) (fa : Ex (List D)) : Ex D := fun env S => (fa env S).andThen fun xs S1 => if xs.length + 1 = n then madeR c fz S1.length (m (.cell S1.length :: xs) (S1 ++ [.ins c [] []])) else .bad
def mMakeK (c : Str) (fz : Bool) (n np nk : Nat) (p : List Nat) (m : Fn) (fa fk : Ex (List D)) : Ex D := fun env S => (fa env S).andThen fun xs S1 => if xs.length = np then (fk env S1).andThen (fun zs S2 => if zs.length = nk then
  (if (pickL p (.cell S2.length :: (xs ++ zs))).length = n then madeR c fz S2.length (m (pickL p (.cell S2.length :: (xs ++ zs))) (S2 ++ [.ins c [] []])) else .bad) else .bad) else .bad
section
variable {X : Cx} {E : EE} {e : Expr} {es : List Expr} {kws : List Keyword} {f : Ex D} {fa fk : Ex (List D)} {pos p : Pos} {c : Str} {C fI : Addr} {i n : Nat} {fd : FuncData} {ps : List Str} {m : Fn} {fz : Bool}
theorem run_mk {pins : List (Addr × Obj)} {σ : L2.St} {H : Hp} {s : Shared} {Q : VK} {us : List Value} {us2 : Value → List Value} {ds2 : D → List D} {vs2 : V → List V} {g : Snap} {F : Fz} {ι : List Addr} {env : List Sl} {S : List Cell}
    (M : Mk X.K C fI) (G : FnG X.prog X.w X.K X.mg X.base i fI fd ps (SpM X.K X.mg n m)) (rm : Rm (i + 1) X.A) (px : Px X E) (hc : X.mg c = some (.ref C)) (I : Inv X pins σ H s) (w : RS X.K X.mg g σ H F ι env S) (kw : List (Str × Value))
    (bd : ∀ (s' : Shared) (x : Value), X.K.In s'.heap → BindsTo s' fd ⟨x :: us, kw⟩ (ps.zip (us2 x))) (rr : ∀ x : Addr, Vals (vs2 (.ref x)) (us2 (.ref x)))
    (reps : ∀ (x : Addr) (F' : Fz) (ι' : List Addr) (H' : Hp) (k : Nat), Ext H F ι H' F' ι' → Rep X.K X.mg F' ι' H' (.cell k) (.ref x) → Reps X.K X.mg F' ι' H' (ds2 (.cell k)) (vs2 (.ref x)))
    (hn : ∀ d, (ds2 d).length = n)
    (q : rdAt X.K X.mg g E σ H F ι env (fun d H' F' ι' _ => ∀ v, Rep X.K X.mg F' ι' H' d v → Q v H') (madeR c fz S.length (m (ds2 (.cell S.length)) (S ++ [.ins c [] []])))) :
    wpAny (model X.prog X.w) X.A (call (.ref C) us kw) (EP X pins σ Q) X.xe s := by
  have hx0 : H (s.heap.objs.size + 1) = none := I.hok.fresh (Nat.le_succ _)
  have hd0 : H s.heap.objs.size = none := I.hok.fresh (Nat.le_refl _)
  have ne : s.heap.objs.size ≠ s.heap.objs.size + 1 := Nat.ne_of_lt (Nat.lt_succ_self _)
  obtain ⟨e1, w1⟩ := w.wd.inst hx0 hd0 ne hc
  have I2 := Inv.made (C := C) I
  have cel : (ι ++ [s.heap.objs.size + 1])[S.length]? = some (s.heap.objs.size + 1) := by rw [w.wd.len]; simp
  have rs := reps (s.heap.objs.size + 1) F (ι ++ [s.heap.objs.size + 1]) _ S.length e1 ⟨_, rfl, cel⟩
  have sp : SpM X.K X.mg n m (vs2 (.ref (s.heap.objs.size + 1))) (upd (upd H s.heap.objs.size (.own (s.heap.objs.size + 1))) (s.heap.objs.size + 1) (.ins C s.heap.objs.size [])) (fun v H2 => v = .non ∧ Q (.ref (s.heap.objs.size + 1)) H2) (E σ) := by
    refine ⟨rs.len.trans (hn _), F, ι ++ [s.heap.objs.size + 1], ds2 (.cell S.length), S ++ [.ins c [] []], w1, rs, ?_⟩
    cases hm : m (ds2 (.cell S.length)) (S ++ [.ins c [] []]) with
    | bad => rw [hm] at q; exact q.elim
    | ex c' ns es S2 =>
      rw [hm] at q
      exact fun C' d H' F' ι' hc' e' w' hd => q C' d H' F' ι' hc' (w.step (e1.trans e') w') (e1.trans e') hd
    | ok d S2 =>
      rw [hm] at q
      intro v H' F' ι' e' w' hv
      cases d with
      | non =>
        refine ⟨hv, ?_⟩
        have q : rdAt X.K X.mg g E σ H F ι env (fun d H' F' ι' _ => ∀ v, Rep X.K X.mg F' ι' H' d v → Q v H') (match S2[S.length]? with
          | some (.ins c' ns ys) => if c' = c then (if fz = true then .ok (.obj c ns ys) (S2.set S.length .dead) else .ok (.cell S.length) S2) else .bad
          | _ => .bad) := q
        have cel' : ι'[S.length]? = some (s.heap.objs.size + 1) := pre_get e'.pre cel
        split at q
        · rename_i c' ns ys hS
          split at q
          · rename_i hcc
            subst hcc
            obtain ⟨C', dx', vs, hm', ea, hl, hr⟩ := w'.cells _ _ _ hS cel'
            by_cases hz : fz = true
            · rw [if_pos hz] at q
              have w3 := w'.kill cel'
              have e3 : Ext H F ι H' (fun b => F' b ∨ b = s.heap.objs.size + 1) ι' := by
                have et := e1.trans e'
                exact ⟨fun b h => .inl (et.sub b h), fun b h => by
                  rcases h with h | rfl
                  · exact et.new b h
                  · exact .inr hx0, et.keep, et.mono, et.pre, et.cnew⟩
              exact q H' _ ι' e3 (w.step e3 w3) (.ref _) ⟨_, C', dx', vs, rfl, .inr rfl, hm', ea, hl, reps_mono (fun _ h => .inl h) (fun _ _ _ h => h) (List.prefix_refl _) ys vs hr⟩
            · rw [if_neg hz] at q
              exact q H' F' ι' (e1.trans e') (w.step (e1.trans e') w') (.ref _) ⟨_, rfl, cel'⟩
          · exact q.elim
        · exact q.elim
      | _ => exact q.elim
  refine wpAny_call (make_map (f := fI) I.kIn M.makes M.init (beq_iff_eq.mp M.fn) (codeAny_mono (G.go _ X.stack _ _ ⟨Value.ref (s.heap.objs.size + 1) :: us, kw⟩ _ _ _ (E σ) (rm.make C us kw) (I2.env0.make C us kw) (bd _ _ I2.kIn) (rr _) sp) fun r s' hr => ?_))
  cases r with
  | error er => exact px pins σ _ _ er s' I2 hr
  | ok fl =>
    cases fl with
    | ret u =>
      obtain ⟨v, H', I3, rv, ev, q3⟩ := I2.after hr
      subst ev
      exact ⟨rv, ⟨V.ref (s.heap.objs.size + 1), H', I3, rfl, q3⟩⟩
    | _ => exact False.elim hr

theorem v_make (M : Mk X.K C fI) (G : FnG X.prog X.w X.K X.mg X.base i fI fd ps (SpM X.K X.mg n m)) (rm : Rm (i + 1) X.A) (px : Px X E) (hc : X.mg c = some (.ref C)) (hb : Binds X.K fd ps []) (ha : VA X E (e :: es) fa) (hpn : ps.length = n := by rfl) (hg : Gl X c := by rfl)
    (hd : (c == ("__debug__" : Str)) = false := by decide) (h1 : starEach (e :: es) X.env = (false, eval e X.env) :: starEach es X.env := by rfl) (h2 : (backTo pos (starEach es X.env)).any (·.1) = false := by rfl) :
    VE X E (.Call (.Name c p) (e :: es) [] pos) (mMake c fz n m fa) := fun g => by
  constructor
  rintro pins s σ H Q I ⟨F, ι, env, S, w, q⟩
  refine wpAny_Call_Name_kw (ld_glob I hg hc ?_ hd)
  refine PySem.W.callWith_K (h₀ := X.base) I.ok.mod.kin M.kp (thn ((ha g).run pos pins s σ H (fun vs H1 => ∃ F1 ι1 S1 xs, Ext H F ι H1 F1 ι1 ∧ RS X.K X.mg g σ H1 F1 ι1 env S1 ∧ Reps X.K X.mg F1 ι1 H1 xs vs ∧ xs.length + 1 = n ∧
    rdAt X.K X.mg g E σ H1 F1 ι1 env (fun d H' F' ι' _ => ∀ v, Rep X.K X.mg F' ι' H' d v → Q v H') (madeR c fz S1.length (m (.cell S1.length :: xs) (S1 ++ [.ins c [] []])))) I ⟨F, ι, env, S, w, rd_mono (rd_then q) ?_⟩) fun us s1 hh => ?_) h1 h2
  · rintro xs H1 F1 ι1 S1 - e1 w1 ⟨_, _, q1⟩ vs hvs
    by_cases hl : xs.length + 1 = n
    · rw [if_pos hl] at q1
      exact ⟨F1, ι1, S1, xs, e1, w1, hvs, hl, rd_mono q1 fun _ _ _ _ _ _ _ _ z => z.2.2⟩
    · rw [if_neg hl] at q1
      exact q1.elim
  · obtain ⟨vs, H1, I1, r, F1, ι1, S1, xs, e1, w1, hvs, hl, q1⟩ := hh
    refine ⟨I1.kIn, ?_⟩
    show wpAny _ _ (call (.ref C) us) _ _ _
    refine run_mk (us2 := fun x => x :: us) (ds2 := fun d => d :: xs) (vs2 := fun v => v :: vs) M G rm px hc I1 w1 [] (fun s' x kin => ?_) (fun x => .cons rfl r) (fun x F' ι' H' k e' hk => ⟨_, vs, rfl, hk, w1.wd.reps e' hvs⟩) (fun d => hl) q1
    have := hb s' (x :: us) kin (by rw [List.append_nil, hpn, ← hl, List.length_cons, ← r.length, hvs.len])
    rw [List.append_nil] at this
    exact this
theorem v_makeK {nk : Nat} {ks : List Str} {pk : List Nat} (M : Mk X.K C fI) (G : FnG X.prog X.w X.K X.mg X.base i fI fd ps (SpM X.K X.mg n m)) (rm : Rm (i + 1) X.A) (px : Px X E) (hc : X.mg c = some (.ref C)) (hb : BindsW X.K fd ps 1 ks pk) (hkw : VK' X E kws fk) (hnk : ks.length = nk := by rfl) (hg : Gl X c := by rfl)
    (hpk : ∀ {α : Type} (l : List α), l.length = ks.length + 1 → (pickL pk l).length = n := by intro α l h; match l, h with | [_, _, _], _ => rfl)
    (hd : (c == ("__debug__" : Str)) = false := by decide) (hall : (backToKw pos (keywordEach kws X.env)).all (·.1.isSome) = true := by rfl) (hks : (backToKw pos (keywordEach kws X.env)).filterMap (·.1) = ks := by rfl)
    (hpl : ((backTo pos (starEach [] X.env)).any (·.1) || (backToKw pos (keywordEach kws X.env)).any (·.1.isNone)) = false := by rfl) :
    VE X E (.Call (.Name c p) [] kws pos) (mMakeK c fz n 0 nk pk m mNil fk) := fun g => by
  subst hnk
  constructor
  rintro pins s σ H Q I ⟨F, ι, env, S, w, q⟩
  refine wpAny_Call_Name_kw (ld_glob I hg hc ?_ hd)
  have q : rdAt X.K X.mg g E σ H F ι env (fun d H' F' ι' _ => ∀ v, Rep X.K X.mg F' ι' H' d v → Q v H') ((fk env S).andThen (fun zs S2 => if zs.length = ks.length then
    (if (pickL pk (.cell S2.length :: ([] ++ zs))).length = n then madeR c fz S2.length (m (pickL pk (.cell S2.length :: ([] ++ zs))) (S2 ++ [.ins c [] []])) else .bad) else .bad)) := q
  refine PySem.W.callWith_KW0 (h₀ := X.base) I.ok.mod.kin M.kp hall (thn ((hkw g).run pos pins s σ H (fun zs H1 => ∃ F1 ι1 S1 xs, Ext H F ι H1 F1 ι1 ∧ RS X.K X.mg g σ H1 F1 ι1 env S1 ∧ Reps X.K X.mg F1 ι1 H1 xs zs ∧ xs.length = ks.length ∧
    rdAt X.K X.mg g E σ H1 F1 ι1 env (fun d H' F' ι' _ => ∀ v, Rep X.K X.mg F' ι' H' d v → Q v H') (madeR c fz S1.length (m (pickL pk (.cell S1.length :: xs)) (S1 ++ [.ins c [] []])))) I ⟨F, ι, env, S, w, rd_mono (rd_then q) ?_⟩) fun ws s1 hh => ?_) hpl
  · rintro xs H1 F1 ι1 S1 - e1 w1 ⟨_, _, q1⟩ vs hvs
    by_cases hl : xs.length = ks.length
    · rw [if_pos hl, if_pos (hpk _ (by simp [hl]))] at q1
      exact ⟨F1, ι1, S1, xs, e1, w1, hvs, hl, rd_mono q1 fun _ _ _ _ _ _ _ _ z => z.2.2⟩
    · rw [if_neg hl] at q1
      exact q1.elim
  · obtain ⟨zs, H1, I1, r, F1, ι1, S1, xs, e1, w1, hvs, hl, q1⟩ := hh
    refine ⟨I1.kIn, ?_⟩
    rw [hks]
    show wpAny _ _ (call (.ref C) [] (ks.zip ws)) _ _ _
    refine run_mk (us := []) (us2 := fun x => pickL pk (x :: ws)) (ds2 := fun d => pickL pk (d :: xs)) (vs2 := fun v => pickL pk (v :: zs)) M G rm px hc I1 w1 (ks.zip ws) (fun s' x kin => ?_) (fun x => pick_vals (vs := V.ref x :: zs) (us := Value.ref x :: ws) (.cons rfl r) pk)
      (fun x F' ι' H' k e' hk => pick_reps (ds := .cell k :: xs) ⟨_, zs, rfl, hk, w1.wd.reps e' hvs⟩ pk) (fun d => hpk _ (by simp [hl])) q1
    exact hb s' [x] ws kin rfl (r.length.symm.trans (hvs.len.trans hl))

/-! ### fields -/
def FldOk (K : PySem.W.Frag) (mg : Str → Option Value) (ft : List (Str × Str)) : Prop := ∀ c f, (c, f) ∈ ft → ∀ C, mg c = some (.ref C) → Cls K C ∧ NoAttr K C f
def fldD (ft : List (Str × Str)) (f : Str) : Op1 := fun d S => match d with
  | .obj c ns xs => if ft.contains (c, f) then fieldOf f ns xs else none
  | .cell n => match S[n]? with
    | some (.ins c ns xs) => if ft.contains (c, f) then fieldOf f ns xs else none
    | _ => none
  | _ => none
theorem v_fld {ft : List (Str × Str)} {fl : Str} (ok : FldOk X.K X.mg ft) (he : VE X E e f) (hb : attributeBase e fl X.env (eval e X.env) = eval e X.env := by rfl) : VE X E (.Attribute e fl pos) (mUn (fldD ft fl) f) := fun g =>
  (pe_fld (he g) hb).imp fun σ H Q ⟨F, ι, env, S, w, q⟩ => ⟨F, ι, env, S, w, rd_mono (rd_then q) fun d H1 F1 ι1 S1 _ e1 w1 ⟨_, _, q1⟩ v hv => by
    cases ho : fldD ft fl d S1 with
    | none => rw [ho] at q1; exact q1.elim
    | some d2 =>
      rw [ho] at q1
      have go : ∀ u, Rep X.K X.mg F1 ι1 H1 d2 u → Q u H1 := fun u hu => (q1 H1 F1 ι1 Ext.refl w1).2.2 u hu
      cases d with
      | obj c ns xs =>
        have ho : (if ft.contains (c, fl) then fieldOf fl ns xs else none) = some d2 := ho
        split at ho
        · rename_i hc
          obtain ⟨a, C, dx, vs, rfl, fa, hm, ea, hl, hr⟩ := hv
          obtain ⟨k1, k2⟩ := ok c fl (by simpa using hc) C hm
          obtain ⟨u, hu, ru⟩ := field_rep hr ho
          exact ⟨a, C, dx, ns.zip vs, u, rfl, ea, k1, k2, hu, go u ru⟩
        · cases ho
      | cell n =>
        obtain ⟨a, rfl, ha⟩ := hv
        have ho : (match S1[n]? with
          | some (.ins c ns xs) => if ft.contains (c, fl) then fieldOf fl ns xs else none
          | _ => none) = some d2 := ho
        cases hS : S1[n]? with
        | none => rw [hS] at ho; cases ho
        | some cl =>
          rw [hS] at ho
          cases cl with
          | ins c ns xs =>
            have ho : (if ft.contains (c, fl) then fieldOf fl ns xs else none) = some d2 := ho
            split at ho
            · rename_i hc
              obtain ⟨C, dx, vs, hm, ea, hl, hr⟩ := w1.wd.cells _ _ a hS ha
              obtain ⟨k1, k2⟩ := ok c fl (by simpa using hc) C hm
              obtain ⟨u, hu, ru⟩ := field_rep hr ho
              exact ⟨a, C, dx, ns.zip vs, u, rfl, ea, k1, k2, hu, go u ru⟩
            · cases ho
          | _ => cases ho
      | _ => cases ho⟩
def putNs (f : Str) : List Str → List Str
  | [] => [f]
  | g :: r => if g = f then g :: r else g :: putNs f r
def putXs {α : Type} (f : Str) (v : α) : List Str → List α → List α
  | [], _ => [v]
  | g :: r, x :: xs => if g = f then v :: xs else x :: putXs f v r xs
  | _ :: _, [] => []
theorem put_zip {f : Str} {v : V} : ∀ {ns : List Str} {vs : List V}, vs.length = ns.length → putF f v (ns.zip vs) = (putNs f ns).zip (putXs f v ns vs) ∧ (putXs f v ns vs).length = (putNs f ns).length
  | [], vs, h => by
    cases vs with
    | nil => exact ⟨rfl, rfl⟩
    | cons x r => cases h
  | g :: r, [], h => by cases h
  | g :: r, x :: xs, h => by
    obtain ⟨h1, h2⟩ := put_zip (f := f) (v := v) (ns := r) (vs := xs) (by simpa using h)
    rw [List.zip_cons_cons]
    unfold putF putNs putXs
    by_cases e : g = f
    · rw [if_pos e, if_pos e, if_pos e]
      exact ⟨rfl, by simpa using h⟩
    · rw [if_neg e, if_neg e, if_neg e]
      exact ⟨by rw [h1]; rfl, by rw [List.length_cons, List.length_cons, h2]⟩
theorem put_reps {K : PySem.W.Frag} {mg : Str → Option Value} {F : Fz} {ι : List Addr} {H : Hp} {f : Str} {d : D} {v : V} (r : Rep K mg F ι H d v) : ∀ {ns : List Str} {ds : List D} {vs : List V}, Reps K mg F ι H ds vs → ds.length = ns.length → Reps K mg F ι H (putXs f d ns ds) (putXs f v ns vs)
  | [], ds, vs, h, hl => by
    cases ds with
    | nil => rw [show vs = [] from h]; exact .one r
    | cons x r => cases hl
  | g :: ns, [], vs, h, hl => by cases hl
  | g :: ns, x :: ds, vs, h, hl => by
    obtain ⟨u, us, rfl, h1, h2⟩ := h
    unfold putXs
    by_cases e : g = f
    · rw [if_pos e, if_pos e]; exact ⟨v, us, rfl, r, h2⟩
    · rw [if_neg e, if_neg e]; exact ⟨u, _, rfl, h1, put_reps r h2 (by simpa using hl)⟩
/-- o.f = e, o a cell -/
def putFld (ft : List (Str × Str)) (f : Str) (o d : D) (S : List Cell) : Option (List Cell) := match o with
  | .cell n => match S[n]? with
    | some (.ins c ns xs) => if ft.contains (c, f) && decide (ns.length < 900) && decide (xs.length = ns.length) then some (S.set n (.ins c (putNs f ns) (putXs f d ns xs))) else none
    | _ => none
  | _ => none
def mSetF (ft : List (Str × Str)) (f : Str) (fe fo : Ex D) : Sm := fun env S => (fe env S).go env fun d S1 => (fo env S1).go env fun o S2 => match putFld ft f o d S2 with
  | some S3 => .nx env S3
  | none => .bad
theorem s_fld {ft : List (Str × Str)} {fl : Str} {o : Expr} {fe fo : Ex D} {pos' : Pos} (ok : FldOk X.K X.mg ft) (he : VE X E e fe) (ho : VE X E o fo) (hs : swapsWith e (some (.Attribute o fl pos')) pos.line X.env = pure false := by rfl) :
    VS X E (.Assign [.Attribute o fl pos'] e pos) (mSetF ft fl fe fo) := fun g => (ps_fld (ho g) (he g) hs).imp fun D' σ H ⟨F, ι, env, S, w, q⟩ =>
  ⟨F, ι, env, S, w, rd_mono (rd_go w.wd q) fun d H1 F1 ι1 S1 _ e1 w1 ⟨_, _, q1⟩ v hv => ⟨F1, ι1, env, S1, w1, rd_mono (rd_go w1.wd q1) fun y H2 F2 ι2 S2 _ e2 w2 ⟨_, _, q2⟩ ov hov => by
    have rd := w1.wd.rep e2 hv
    cases hp : putFld ft fl y d S2 with
    | none => rw [hp] at q2; exact q2.elim
    | some S3 =>
      rw [hp] at q2
      cases y with
      | cell n =>
        obtain ⟨a, rfl, ha⟩ := hov
        have hp : (match S2[n]? with
          | some (.ins c ns xs) => if ft.contains (c, fl) && decide (ns.length < 900) && decide (xs.length = ns.length) then some (S2.set n (.ins c (putNs fl ns) (putXs fl d ns xs))) else none
          | _ => none) = some S3 := hp
        cases hS : S2[n]? with
        | none => rw [hS] at hp; cases hp
        | some cl =>
          rw [hS] at hp
          cases cl with
          | ins c ns xs =>
            have hp : (if ft.contains (c, fl) && decide (ns.length < 900) && decide (xs.length = ns.length) then some (S2.set n (.ins c (putNs fl ns) (putXs fl d ns xs))) else none) = some S3 := hp
            split at hp
            · rename_i hc
              rw [Bool.and_eq_true, Bool.and_eq_true] at hc
              obtain ⟨⟨hc1, hc2⟩, hc3⟩ := hc
              cases hp
              obtain ⟨C, dx, vs, hm, ea, hl, hr⟩ := w2.wd.cells _ _ a hS ha
              obtain ⟨k1, k2⟩ := ok c fl (by simpa using hc1) C hm
              obtain ⟨z1, z2⟩ := put_zip (f := fl) (v := v) (ns := ns) (vs := vs) hl
              have nl : ns.length < 900 := of_decide_eq_true hc2
              obtain ⟨w3, gr⟩ := w2.cell (n := n) (a := a) (o := .ins C dx (putF fl v (ns.zip vs))) (c' := .ins c (putNs fl ns) (putXs fl d ns xs)) ha ⟨_, hS, rfl⟩ rfl fun H' hH' st =>
                ⟨C, dx, putXs fl v ns vs, hm, by rw [hH', z1], z2, reps_mono (fun _ h => h) st (List.prefix_refl _) _ _ (put_reps rd hr (of_decide_eq_true hc3))⟩
              exact ⟨a, C, dx, ns.zip vs, rfl, ea, k1, k2, by rw [List.length_zip]; omega, q2 _ _ _ _ w3 gr⟩
            · cases hp
          | _ => cases hp
      | _ => cases hp⟩⟩
end
end DL

/-! DLv: methods, properties, own ==. -/
namespace DL
open PySem PySem.Spec L2
open PyProof.Rows hiding St

/-- d is an instance of the class c that has no field nm -/
def isIns (c nm : Str) (d : D) (S : List Cell) : Bool := match d with
  | .obj c' ns _ => c' == c && !ns.contains nm
  | .cell k => match S[k]? with
    | some (.ins c' ns _) => c' == c && !ns.contains nm
    | _ => false
  | _ => false
theorem zip_none {nm : Str} : ∀ {ns : List Str} {vs : List V}, ns.contains nm = false → (ns.zip vs).lookup nm = none
  | [], _, _ => rfl
  | n :: ns, [], _ => rfl
  | n :: ns, v :: vs, h => by
    rw [List.contains_cons, Bool.or_eq_false_iff] at h
    rw [List.zip_cons_cons, lookup_put, if_neg (by simpa using h.1)]
    exact zip_none h.2
theorem ins_at {K : PySem.W.Frag} {mg : Str → Option Value} {F : Fz} {ι : List Addr} {H : Hp} {S : List Cell} {c nm : Str} {C : Addr} {d : D} {v : V} (w : Wd K mg F ι H S) (r : Rep K mg F ι H d v) (h : isIns c nm d S = true) (hc : mg c = some (.ref C)) :
    ∃ a dx fs, v = .ref a ∧ H a = some (.ins C dx fs) ∧ fs.lookup nm = none := by
  cases d with
  | obj c' ns xs =>
    have h : (c' == c && !ns.contains nm) = true := h
    rw [Bool.and_eq_true, Bool.not_eq_true'] at h
    obtain ⟨a, C', dx, vs, rfl, _, hm, ea, _⟩ := r
    rw [beq_iff_eq.mp h.1, hc] at hm
    cases hm
    exact ⟨a, dx, _, rfl, ea, zip_none h.2⟩
  | cell k =>
    have h : (match S[k]? with | some (.ins c' ns _) => c' == c && !ns.contains nm | _ => false) = true := h
    obtain ⟨a, rfl, ha⟩ := r
    cases hS : S[k]? with
    | none => rw [hS] at h; cases h
    | some cl =>
      rw [hS] at h
      cases cl with
      | ins c' ns xs =>
        have h : (c' == c && !ns.contains nm) = true := h
        rw [Bool.and_eq_true, Bool.not_eq_true'] at h
        obtain ⟨C', dx, vs, hm, ea, _⟩ := w.cells _ _ a hS ha
        rw [beq_iff_eq.mp h.1, hc] at hm
        cases hm
        exact ⟨a, dx, _, rfl, ea, zip_none h.2⟩
      | _ => cases h
  | _ => cases h
def mMeth (c nm : Str) (n : Nat) (m : Fn) (fo : Ex D) (fa : Ex (List D)) : Ex D := fun env S => (fo env S).andThen fun o S1 => if isIns c nm o S1 = true then (fa env S1).andThen (fun xs S2 => if (o :: xs).length = n then m (o :: xs) S2 else .bad) else .bad
section
variable {X : Cx} {E : EE} {e o : Expr} {es : List Expr} {f fo h : Ex D} {fa : Ex (List D)} {pos p apos : Pos} {c nm : Str} {C gI : Addr} {i n : Nat} {fd : FuncData} {ps : List Str} {m : Fn}
theorem meth_imp {g : Snap} : ∀ σ H Q, tV X.K X.mg g E (mMeth c nm n m fo fa) σ H Q → X.mg c = some (.ref C) → tV X.K X.mg g E fo σ H fun x H1 => ∃ a dx fs, x = .ref a ∧ H1 a = some (.ins C dx fs) ∧ fs.lookup nm = none ∧
    tAr X.K X.mg g E fa σ H1 fun vs H2 => SpM X.K X.mg n m (x :: vs) H2 Q (E σ) := by
  rintro σ H Q ⟨F, ι, env, S, w, q⟩ hc
  refine ⟨F, ι, env, S, w, rd_mono (rd_then q) ?_⟩
  rintro d H1 F1 ι1 S1 - e1 w1 ⟨_, _, q1⟩ v hv
  by_cases hi : isIns c nm d S1 = true
  · rw [if_pos hi] at q1
    obtain ⟨a, dx, fs, rfl, ea, hl⟩ := ins_at w1.wd hv hi hc
    refine ⟨a, dx, fs, rfl, ea, hl, F1, ι1, env, S1, w1, rd_mono (rd_then q1) ?_⟩
    rintro xs H2 F2 ι2 S2 - e2 w2 ⟨_, _, q2⟩ vs hvs
    exact sp_of (xs := d :: xs) w2 ⟨_, vs, rfl, w1.wd.rep e2 hv, hvs⟩ q2 fun d H' F' ι' S' z v hv => z.2.2.2.2 v hv
  · rw [if_neg hi] at q1
    exact q1.elim
theorem v_meth {pl : Sem Bool} (G : FnG X.prog X.w X.K X.mg X.base i gI fd ps (SpM X.K X.mg n m)) (rm : Rm i X.A) (px : Px X E) (hc : X.mg c = some (.ref C)) (cl : Cls X.K C) (hm : Meth X.K C nm gI) (hb : Binds X.K fd ps []) (he : VE X E o fo) (ha : VA X E (e :: es) fa)
    (hst : starEach (e :: es) X.env = (false, eval e X.env) :: starEach es X.env := by rfl) (hpl : (backTo pos (starEach es X.env)).any (·.1) = false := by rfl)
    (ht : eval (.Call (.Attribute o nm apos) (e :: es) [] pos) X.env = (do
      let ov ← eval o X.env
      standAt apos.atName
      let (f, first) ← holding [ov] (getMethod ov nm pl)
      callWith pos f first (backTo pos (starEach (e :: es) X.env)) (backToKw pos (keywordEach [] X.env))) := by rfl) : VE X E (.Call (.Attribute o nm apos) (e :: es) [] pos) (mMeth c nm n m fo fa) := fun g => by
  constructor
  intro pins s σ H Q I hq
  have hq := meth_imp σ H Q hq hc
  refine PySem.W.methodCall_KW (pl := pl) (thn ((he g).run pins s σ H _ I hq) fun u s1 h1 => ?_) ht
  obtain ⟨x, H1, I1, rx, a, dx, fs, rfl, ea, hl, q1⟩ := h1
  obtain rfl : u = Value.ref a := rx
  refine getmeth_ok I1 ea cl hm hl ?_
  refine PySem.W.callWith_K (first := [.ref a]) (h₀ := X.base) I1.ok.mod.kin hm.kp (thn ((ha g).run pos pins s1 σ H1 _ I1 q1) fun us s2 h2 => ?_) hst hpl
  obtain ⟨vs, H2, I2, r2, q2⟩ := h2
  exact ⟨I2.kIn, wpG (us := .ref a :: us) (vs := .ref a :: vs) G rm hb px I2 (.cons rfl r2) q2⟩
theorem v_meth0 {pl : Sem Bool} (G : FnG X.prog X.w X.K X.mg X.base i gI fd ps (SpM X.K X.mg n m)) (rm : Rm i X.A) (px : Px X E) (hc : X.mg c = some (.ref C)) (cl : Cls X.K C) (hm : Meth X.K C nm gI) (hb : Binds X.K fd ps []) (he : VE X E o fo)
    (ht : eval (.Call (.Attribute o nm apos) [] [] pos) X.env = (do
      let ov ← eval o X.env
      standAt apos.atName
      let (f, first) ← holding [ov] (getMethod ov nm pl)
      callWith pos f first (backTo pos (starEach [] X.env)) (backToKw pos (keywordEach [] X.env))) := by rfl) : VE X E (.Call (.Attribute o nm apos) [] [] pos) (mMeth c nm n m fo mNil) := fun g => by
  constructor
  intro pins s σ H Q I hq
  have hq := meth_imp σ H Q hq hc
  refine PySem.W.methodCall_KW (pl := pl) (thn ((he g).run pins s σ H _ I hq) fun u s1 h1 => ?_) ht
  obtain ⟨x, H1, I1, rx, a, dx, fs, rfl, ea, hl, F1, ι1, env, S1, w1, q1⟩ := h1
  obtain rfl : u = Value.ref a := rx
  refine getmeth_ok I1 ea cl hm hl ?_
  exact PySem.W.callWith_K0 (first := [.ref a]) I1.kIn hm.kp (wpG (us := [.ref a]) (vs := [.ref a]) G rm hb px I1 (.cons rfl .nil) (q1 H1 F1 ι1 Ext.refl w1 [] rfl))

/-! ### properties -/
def isInsP (c : Str) (d : D) (S : List Cell) : Bool := match d with
  | .obj c' _ _ => c' == c
  | .cell k => match S[k]? with
    | some (.ins c' _ _) => c' == c
    | _ => false
  | _ => false
theorem insP_at {K : PySem.W.Frag} {mg : Str → Option Value} {F : Fz} {ι : List Addr} {H : Hp} {S : List Cell} {c : Str} {C : Addr} {d : D} {v : V} (w : Wd K mg F ι H S) (r : Rep K mg F ι H d v) (h : isInsP c d S = true) (hc : mg c = some (.ref C)) :
    ∃ a dx fs, v = .ref a ∧ H a = some (.ins C dx fs) := by
  cases d with
  | obj c' ns xs =>
    have h : (c' == c) = true := h
    obtain ⟨a, C', dx, vs, rfl, _, hm, ea, _⟩ := r
    rw [beq_iff_eq.mp h, hc] at hm
    cases hm
    exact ⟨a, dx, _, rfl, ea⟩
  | cell k =>
    have h : (match S[k]? with | some (.ins c' _ _) => c' == c | _ => false) = true := h
    obtain ⟨a, rfl, ha⟩ := r
    cases hS : S[k]? with
    | none => rw [hS] at h; cases h
    | some cl =>
      rw [hS] at h
      cases cl with
      | ins c' ns xs =>
        have h : (c' == c) = true := h
        obtain ⟨C', dx, vs, hm, ea, _⟩ := w.cells _ _ a hS ha
        rw [beq_iff_eq.mp h, hc] at hm
        cases hm
        exact ⟨a, dx, _, rfl, ea⟩
      | _ => cases h
  | _ => cases h
def mProp (c : Str) (m : Fn) (fo : Ex D) : Ex D := fun env S => (fo env S).andThen fun o S1 => if isInsP c o S1 = true then noX (m [o] S1) else .bad
theorem v_prop {fl : Str} {q0 : Addr} (G : FnG X.prog X.w X.K X.mg X.base i gI fd ps (SpM X.K X.mg 1 m)) (rm : Rm (i + 1) X.A) (hc : X.mg c = some (.ref C)) (cl : Cls X.K C) (hp : PropOf X.K C fl q0 gI) (hb : Binds X.K fd ps []) (he : VE X E e fo) (hpn : ps.length = 1 := by rfl)
    (hab : attributeBase e fl X.env (eval e X.env) = eval e X.env := by rfl) : VE X E (.Attribute e fl pos) (mProp c m fo) := fun g => by
  constructor
  rintro pins s σ H Q I ⟨F, ι, env, S, w, q⟩
  refine attr_of hab (thn ((he g).run pins s σ H (fun v H1 => ∃ a dx fs, v = .ref a ∧ H1 a = some (.ins C dx fs) ∧ SpM X.K X.mg 1 m [v] H1 Q (fun _ _ _ => False)) I ⟨F, ι, env, S, w, rd_mono (rd_then q) ?_⟩) fun u s1 h1 => ?_)
  · rintro d H1 F1 ι1 S1 - e1 w1 ⟨_, _, q1⟩ v hv
    by_cases hi : isInsP c d S1 = true
    · rw [if_pos hi] at q1
      obtain ⟨a, dx, fs, rfl, ea⟩ := insP_at w1.wd hv hi hc
      refine ⟨a, dx, fs, rfl, ea, rfl, F1, ι1, [d], S1, w1.wd, .one hv, ?_⟩
      cases hm : m [d] S1 with
      | bad => rw [hm] at q1; exact q1.elim
      | ex c ns es S2 => rw [hm] at q1; exact q1.elim
      | ok d2 S2 =>
        rw [hm] at q1
        exact fun v H' F' ι' e' w' hv' => (q1 H' F' ι' e' (w1.step e' w')).2.2 v hv'
    · rw [if_neg hi] at q1
      exact q1.elim
  · obtain ⟨v, H1, I1, rv, a, dx, fs, rfl, ea, sp⟩ := h1
    obtain rfl : u = Value.ref a := rv
    obtain ⟨mA, O, _, _, _, _⟩ := ins_get I1.hok ea
    obtain ⟨od, J, _⟩ := O.look
    obtain ⟨rest, hrec⟩ := hp.rec_
    have I2 := I1.tok (s1.toks + 1)
    have hcl : (PySem.W.clsIn X.K C).isSome = true := by
      obtain ⟨cd, h, _⟩ := PySem.W.any_some cl.hd
      rw [h]; rfl
    have bd := hb { s1 with toks := s1.toks + 1 } [.ref a] I2.kIn (by rw [hpn]; rfl)
    rw [List.append_nil] at bd
    refine PySem.W.get_bind I1.kIn J (PySem.W.plainGet_of (cl.get fl)).1 (PySem.W.findObj_data hcl hp.at_ hp.get hp.tak) (PySem.W.plainGet_of (cl.get fl)).2 (wpAny_call (PySem.W.prop_get (s := { s1 with toks := s1.toks + 1 }) I1.kIn hrec ?_))
    refine codeAny_mono (G.go X.A.in1 X.stack { s1 with toks := s1.toks + 1 } H1 ⟨[.ref a], []⟩ [.ref a] [.ref a] Q (fun _ _ _ => False) rm.in1 I2.env0.in1 bd (.cons rfl .nil) sp) fun r s' hr => ?_
    cases r with
    | error er =>
      obtain ⟨_, _, _, _, _, _, _, _, _, _, _, _, z⟩ := hr
      exact z.elim
    | ok fl =>
      cases fl with
      | ret u =>
        obtain ⟨v2, H', I3, rv2, q3⟩ := I2.after hr
        show wpAny _ _ (handedOut u) _ _ _
        rw [PySem.W.handedOut_of (handed_of rv2)]
        exact wpAny_pure ⟨v2, H', I3, rv2, q3⟩
      | _ => exact False.elim hr
end
end DL

/-! DLw: recursion's ground, sorted, in, triples assigned, lists of one's own in pairs. -/
namespace DL
open PySem PySem.Spec L2
open PyProof.Rows hiding St

/-- a mirror that tells nothing: any def keeps its promise -/
def fnBad : Fn := fun _ _ => .bad
theorem fnG_bad {P : Program} {w : World} {K : PySem.W.Frag} {mg : Str → Option Value} {base : Heap} {k n : Nat} {f : Addr} {fd : FuncData} {ps : List Str} (hn : ps.length = n) : FnG P w K mg base k f fd ps (SpM K mg n fnBad) :=
  ⟨fun vs H Q E h => h.1.trans hn.symm, fun A outer s H args us vs Q E rm e0 bd r h => by
    obtain ⟨_, F, ι, ds, S, _, _, q⟩ := h
    exact q.elim⟩
/-- sorted, ints -/
def sortI (ns : List Int) : List Int := ns.mergeSort fun a b => decide (a ≤ b)
theorem sortI_perm (ns : List Int) : (sortI ns).Perm ns := List.mergeSort_perm _ _
theorem sortI_le (ns : List Int) : (sortI ns).Pairwise (· ≤ ·) := by
  have := List.pairwise_mergeSort (le := fun a b : Int => decide (a ≤ b)) (fun a b c h1 h2 => by simp at *; omega) (fun a b => by simp; omega) ns
  exact this.imp fun h => by simpa using h
theorem sortI_one {ns ms : List Int} (h : ms.Perm ns) (hs : ms.Pairwise (· ≤ ·)) : ms = sortI ns :=
  List.Perm.eq_of_pairwise (le := (· ≤ ·)) (fun a b _ _ h1 h2 => Int.le_antisymm h1 h2) hs (sortI_le ns) (h.trans (sortI_perm ns).symm)
def sortedD : OpN := fun xs _ => match xs with
  | [.lst a] => (intsOf a).map fun ns => .lst ((sortI ns).map .int)
  | _ => none
theorem ok_sorted {K : PySem.W.Frag} {mg : Str → Option Value} : OkN K mg (rSortedI K) sortedD := by
  intro H F ι S xs d vs Q w rx ho t
  unfold sortedD at ho
  split at ho
  · rename_i a
    cases hn : intsOf a with
    | none => rw [hn] at ho; cases ho
    | some ns =>
      rw [hn] at ho
      cases ho
      obtain ⟨v, rfl, p, us, rfl, hl, hr⟩ := one_of rx
      have e := ints_vals hn hr
      subst e
      refine ⟨p, ns, rfl, hl.sq, fun ns' q hp hs hq => ?_⟩
      have e := sortI_one hp hs
      subst e
      exact t.own.lay w (reps_ints _) hq
  · cases ho
/-- x in xs, plain things -/
def flatD : D → Bool
  | .non => true
  | .bl _ => true
  | .int _ => true
  | .str _ => true
  | _ => false
def eqFl : D → D → Bool
  | .non, .non => true
  | .bl a, .bl b => a == b
  | .bl a, .int b => (if a then 1 else 0) == b
  | .int a, .bl b => a == (if b then 1 else 0)
  | .int a, .int b => a == b
  | .str a, .str b => a == b
  | _, _ => false
theorem flat_v {K : PySem.W.Frag} {mg : Str → Option Value} {F : Fz} {ι : List Addr} {H : Hp} {d : D} {v : V} (r : Rep K mg F ι H d v) (h : flatD d = true) : flatV v = true := by
  cases d <;> first | (cases h; done) | (rw [show v = _ from r]; rfl)
theorem flat_eq {K : PySem.W.Frag} {mg : Str → Option Value} {F : Fz} {ι : List Addr} {H : Hp} {d d' : D} {v v' : V} (r : Rep K mg F ι H d v) (r' : Rep K mg F ι H d' v') (h : flatD d = true) (h' : flatD d' = true) : eqV v v' = eqFl d d' := by
  cases d <;> first | (cases h; done) | (cases d' <;> first | (cases h'; done) | (rw [show v = _ from r, show v' = _ from r']; rfl))
def inFl (x : D) (xs : List D) : Bool := xs.any fun y => eqFl y x
def inD (neg : Bool) : Op2 := fun x y S => match y with
  | .lst xs => if flatD x && xs.all flatD then some (.bl (if neg then !inFl x xs else inFl x xs)) else none
  | .tup xs => if flatD x && xs.all flatD then some (.bl (if neg then !inFl x xs else inFl x xs)) else none
  | _ => none
theorem in_reps {K : PySem.W.Frag} {mg : Str → Option Value} {F : Fz} {ι : List Addr} {H : Hp} {x : D} {v : V} (r : Rep K mg F ι H x v) (hx : flatD x = true) : ∀ {ds : List D} {vs : List V}, Reps K mg F ι H ds vs → ds.all flatD = true → vs.all flatV = true ∧ inV v vs = inFl x ds
  | [], vs, h, _ => by rw [show vs = [] from h]; exact ⟨rfl, rfl⟩
  | d :: ds, vs, h, ha => by
    obtain ⟨u, us, rfl, h1, h2⟩ := h
    rw [List.all_cons, Bool.and_eq_true] at ha
    obtain ⟨a1, a2⟩ := in_reps r hx h2 ha.2
    refine ⟨by rw [List.all_cons, flat_v h1 ha.1, a1]; rfl, ?_⟩
    show (eqV u v || inV v us) = (eqFl d x || inFl x ds)
    rw [flat_eq h1 r ha.1 hx, a2]
theorem ok_in {K : PySem.W.Frag} {mg : Str → Option Value} : Ok2 K mg (rIn K false) (inD false) := by
  intro H F ι S x y d v u Q w rx ry ho t
  unfold inD at ho
  split at ho
  · split at ho
    · rename_i xs hc
      rw [Bool.and_eq_true] at hc
      cases ho
      obtain ⟨p, us, rfl, hl, hr⟩ := ry
      obtain ⟨a1, a2⟩ := in_reps rx hc.1 hr hc.2
      exact ⟨p, us, rfl, .inl hl.sq, flat_v rx hc.1, a1, by rw [a2]; exact t.here w rfl⟩
    · cases ho
  · split at ho
    · rename_i xs hc
      rw [Bool.and_eq_true] at hc
      cases ho
      obtain ⟨p, us, rfl, hl, hr⟩ := ry
      obtain ⟨a1, a2⟩ := in_reps rx hc.1 hr hc.2
      exact ⟨p, us, rfl, .inr hl.sq, flat_v rx hc.1, a1, by rw [a2]; exact t.here w rfl⟩
    · cases ho
  · cases ho
section
variable {X : Cx} {E : EE} {a b c e : Expr} {f : Ex D} {fa : Ex (List D)} {pos : Pos}
/-- a, b, c = x, y, z -/
def mPar3 (i j l : Nat) (fa : Ex (List D)) : Sm := fun env S => (fa env S).go env fun ds S1 => match ds with
  | [d, d', d''] => .nx (((env.set i (.val d)).set j (.val d')).set l (.val d'')) S1
  | _ => .bad
theorem s_par3 (i j l : Nat) {x y z : Str} {px py pz pt : Pos} {kt k2 pt2} (ha : VA X E [a, b, c] fa) (hc : X.calm = true) (hN : X.N.Nodup) (hi : X.N[i]? = some x := by rfl) (hj : X.N[j]? = some y := by rfl) (hl : X.N[l]? = some z := by rfl) (hij : i ≠ j := by decide) (hil : i ≠ l := by decide) (hjl : j ≠ l := by decide)
    (hx : X.env.scope.names.lookup x = some .local := by rfl) (hy : X.env.scope.names.lookup y = some .local := by rfl) (hz : X.env.scope.names.lookup z = some .local := by rfl)
    (hw : swappedStores [.Tuple [.Name x px, .Name y py, .Name z pz] kt pt] (.Tuple [a, b, c] k2 pt2) X.env = pure (some [x, y, z]) := by rfl)
    (hs : swapsWithSole [.Tuple [.Name x px, .Name y py, .Name z pz] kt pt] (.Tuple [a, b, c] k2 pt2) pos.line X.env = pure false := by rfl) :
    VS X E (.Assign [.Tuple [.Name x px, .Name y py, .Name z pz] kt pt] (.Tuple [a, b, c] k2 pt2) pos) (mPar3 i j l fa) := fun g => (ps_par3 hc hN hi hj hl hij hil hjl hx hy hz (ha g) hw hs).imp fun D σ H ⟨F, ι, env, S, w, q⟩ =>
  ⟨F, ι, env, S, w, rd_mono (rd_go w.wd q) fun ds H1 F1 ι1 S1 _ e1 w1 ⟨_, _, q1⟩ vs hvs => by
    match ds, q1 with
    | [d, d', d''], q1 =>
      obtain ⟨v, r, rfl, h1, u, r2, rfl, h2, t, r3, rfl, h3, rfl⟩ := hvs
      exact ⟨v, u, t, rfl, q1 _ H1 F1 ι1 (((w1.put i h1).put j h2).put l h3) Grow.refl⟩⟩
end
end DL

/-! DLx: lists of ranges, lists of one's own in pairs and read, tuples of the module. -/
namespace DL
open PySem PySem.Spec L2
open PyProof.Rows hiding St

section
variable {X : Cx} {E : EE} {a b c e : Expr} {f h : Ex D} {fa fo : Ex (List D)} {pos p p' p2 : Pos}
/-! ### list(range(..)), tuple(range(..)) -/
def rgD (i j : Int) : List D := (List.range (j - i).toNat).map fun k => .int (i + (k : Nat))
def okRg (i j : Int) : Bool := smallI i && smallI j && decide ((j - i).toNat ≤ 100000)
def mRg1 (f : Ex D) : Ex (List D) := fun env S => (f env S).andThen fun x S1 => match x with
  | .int j => if okRg 0 j then .ok (rgD 0 j) S1 else .bad
  | _ => .bad
def mRg2 (f h : Ex D) : Ex (List D) := fun env S => (f env S).andThen fun x S1 => (h env S1).andThen fun y S2 => match x, y with
  | .int i, .int j => if okRg i j then .ok (rgD i j) S2 else .bad
  | _, _ => .bad
theorem okRg_ok {i j : Int} (h : okRg i j = true) : RgOk i j := by
  unfold okRg at h
  rw [Bool.and_eq_true, Bool.and_eq_true] at h
  obtain ⟨a1, a2⟩ := small_of h.1.1
  obtain ⟨b1, b2⟩ := small_of h.1.2
  have := of_decide_eq_true h.2
  exact ⟨a1, a2, b1, b2, by omega⟩
theorem rg_reps {K : PySem.W.Frag} {mg : Str → Option Value} {F : Fz} {ι : List Addr} {H : Hp} (i j : Int) : Reps K mg F ι H (rgD i j) (rgV i j) := by
  have e1 : rgD i j = ((List.range (j - i).toNat).map fun k => i + (k : Nat)).map D.int := by unfold rgD; rw [List.map_map]; rfl
  have e2 : rgV i j = ((List.range (j - i).toNat).map fun k => i + (k : Nat)).map V.int := by unfold rgV; rw [List.map_map]; rfl
  rw [e1, e2]
  exact reps_ints _
theorem o_listRg1 (he : VE X E e f) (zl : X.mg "list" = none) (zr : X.mg "range" = none) (hc : X.calm = true) (gl : Gl X "list" := by rfl) (gr : Gl X "range" := by rfl) (na : starEach [e] X.env = (false, eval e X.env) :: starEach [] X.env := by rfl)
    (nb : starEach [.Call (.Name "range" p) [e] [] p'] X.env = (false, eval (.Call (.Name "range" p) [e] [] p') X.env) :: starEach [] X.env := by rfl) :
    VO X E (.Call (.Name "list" p2) [.Call (.Name "range" p) [e] [] p'] [] pos) (mRg1 f) := fun g =>
  (pe_listRg hc gl zl (prg_1 gr zr (he g) na) nb).imp fun σ H Q ⟨F, ι, env, S, w, q⟩ => ⟨F, ι, env, S, w, rd_mono (rd_then q) fun x H1 F1 ι1 S1 _ e1 w1 ⟨_, _, q1⟩ v hv => by
    cases x with
    | int j =>
      have q1 : rdAt X.K X.mg g E σ H1 F1 ι1 env _ (if okRg 0 j then Rs.ok (rgD 0 j) S1 else .bad) := q1
      by_cases hr : okRg 0 j = true
      · rw [if_pos hr] at q1
        refine ⟨j, hv, okRg_ok hr, fun q0 hq => ?_⟩
        obtain ⟨e', w'⟩ := w1.wd.layO (o := .lst (rgV 0 j)) hq
        exact (q1 _ _ _ e' (w1.step e' w')).2.2 q0 _ upd_same (rg_reps 0 j) (fun z => w1.wd.fin q0 z hq) (fun z => w1.wd.cell_ne z hq) (e1.mono q0 hq)
      · rw [if_neg hr] at q1
        exact q1.elim
    | _ => exact q1.elim⟩
theorem o_listRg2 (ha : VE X E a f) (hb : VE X E b h) (zl : X.mg "list" = none) (zr : X.mg "range" = none) (hc : X.calm = true) (gl : Gl X "list" := by rfl) (gr : Gl X "range" := by rfl) (na : starEach [a, b] X.env = (false, eval a X.env) :: starEach [b] X.env := by rfl)
    (nc : starEach [b] X.env = (false, eval b X.env) :: starEach [] X.env := by rfl) (hp : (backTo p' (starEach [b] X.env)).any (·.1) = false := by rfl)
    (nb : starEach [.Call (.Name "range" p) [a, b] [] p'] X.env = (false, eval (.Call (.Name "range" p) [a, b] [] p') X.env) :: starEach [] X.env := by rfl) :
    VO X E (.Call (.Name "list" p2) [.Call (.Name "range" p) [a, b] [] p'] [] pos) (mRg2 f h) := fun g =>
  (pe_listRg hc gl zl (prg_2 gr zr (ha g) (hb g) na nc hp) nb).imp fun σ H Q ⟨F, ι, env, S, w, q⟩ => ⟨F, ι, env, S, w, rd_mono (rd_then q) fun x H1 F1 ι1 S1 _ e1 w1 ⟨_, _, q1⟩ v hv => ⟨F1, ι1, env, S1, w1, rd_mono (rd_then q1) fun y H2 F2 ι2 S2 _ e2 w2 ⟨_, _, q2⟩ u hu => by
    cases x with
    | int i =>
      cases y with
      | int j =>
        have q2 : rdAt X.K X.mg g E σ H2 F2 ι2 env _ (if okRg i j then Rs.ok (rgD i j) S2 else .bad) := q2
        by_cases hr : okRg i j = true
        · rw [if_pos hr] at q2
          refine ⟨i, j, hv, hu, okRg_ok hr, fun q0 hq => ?_⟩
          obtain ⟨e', w'⟩ := w2.wd.layO (o := .lst (rgV i j)) hq
          exact (q2 _ _ _ e' (w2.step e' w')).2.2.2.2 q0 _ upd_same (rg_reps i j) (fun z => w2.wd.fin q0 z hq) (fun z => w2.wd.cell_ne z hq) (e1.mono q0 (e2.mono q0 hq))
        · rw [if_neg hr] at q2
          exact q2.elim
      | _ => exact q2.elim
    | _ => cases y <;> exact q2.elim⟩⟩

/-! ### lists of one's own -/
/-- a, x = e, [..], x alone holds the list -/
def mParO (i j : Nat) (f : Ex D) (fo : Ex (List D)) : Sm := fun env S => (f env S).go env fun d S1 => (fo env S1).go env fun ds S2 => .nx ((env.set i (.val d)).set j (.own ds)) S2
theorem s_parO (i j : Nat) {x y : Str} {px py pt : Pos} {kt k2 pt2} (ha : VE X E a f) (hb : VO X E b fo) (hc : X.calm = true) (hN : X.N.Nodup) (hi : X.N[i]? = some x := by rfl) (hj : X.N[j]? = some y := by rfl) (hij : i ≠ j := by decide)
    (hx : X.env.scope.names.lookup x = some .local := by rfl) (hy : X.env.scope.names.lookup y = some .local := by rfl) (hw : swappedStores [.Tuple [.Name x px, .Name y py] kt pt] (.Tuple [a, b] k2 pt2) X.env = pure (some [x, y]) := by rfl)
    (hs : swapsWithSole [.Tuple [.Name x px, .Name y py] kt pt] (.Tuple [a, b] k2 pt2) pos.line X.env = pure false := by rfl) (h1 : starEach [a, b] X.env = (false, eval a X.env) :: starEach [b] X.env := by rfl) (h2 : starEach [b] X.env = (false, eval b X.env) :: starEach [] X.env := by rfl) :
    VS X E (.Assign [.Tuple [.Name x px, .Name y py] kt pt] (.Tuple [a, b] k2 pt2) pos) (mParO i j f fo) := fun g => (ps_par hc hN hi hj hij hx hy (pa_cons (ha g) (pa_cons (hb g) pa_nil h2) h1) hw hs).imp fun D σ H ⟨F, ι, env, S, w, q⟩ =>
  ⟨F, ι, env, S, w, rd_mono (rd_go w.wd q) fun d H1 F1 ι1 S1 _ e1 w1 ⟨_, _, q1⟩ v hv => ⟨F1, ι1, env, S1, w1, rd_mono (rd_go w1.wd q1) fun ds H2 F2 ι2 S2 _ e2 w2 ⟨_, _, q2⟩ p vs k1 k2 k3 k4 k5 => by
    refine ⟨v, .ref p, rfl, q2 _ H2 F2 ι2 ?_ Grow.refl⟩
    have w3 := w2.put i (w1.wd.rep e2 hv)
    refine w3.putO j k1 k2 k3 k4 (w1.ext.mono p k5) fun k dk hk hσ => ?_
    rw [List.getElem?_set] at hk hσ
    by_cases e : i = k
    · subst e
      rw [if_pos rfl] at hk
      split at hk <;> cases hk
    · rw [if_neg e] at hk hσ
      obtain ⟨a', us, z1, z2, _⟩ := w1.own k dk hk
      rw [hσ] at z1
      cases z1
      rw [k5] at z2
      cases z2⟩⟩
/-- a tuple of the module -/
theorem v_gtup {x : Str} {T : Addr} {ns : List Int} {o : Obj} {its : Array Value} {n : Nat} (hm : X.mg x = some (.ref T)) (hl : X.K.lookup T = some o) (hc : o.cls = .type "tuple") (hd : o.data = .seq its n) (hz : its.size ≤ sizeLine) (hv : Vals (ns.map V.int) its.toList) (hg : Gl X x := by rfl)
    (hdb : (x == ("__debug__" : Str)) = false := by decide) : VE X E (.Name x pos) (mC (.tup (ns.map .int))) :=
  v_glob (v := .ref T) hg hm rfl (fun F ι H => ⟨T, ns.map V.int, rfl, .inr (.inr ⟨o, its, n, hl, hc, hd, hz, hv⟩), reps_ints ns⟩) hdb
end
end DL
namespace DL
open PySem PySem.Spec L2
open PyProof.Rows hiding St
section
variable {X : Cx} {E : EE} {a b : Expr} {f : Ex D} {fo : Ex (List D)} {pos : Pos}
/-- a, x = e, [..] by way of a pair, x alone holds the list -/
theorem s_unpO (i j : Nat) {x y : Str} {px py pt : Pos} {kt k2 pt2} (ha : VE X E a f) (hb : VO X E b fo) (hc : X.calm = true) (hN : X.N.Nodup) (hi : X.N[i]? = some x := by rfl) (hj : X.N[j]? = some y := by rfl) (hij : i ≠ j := by decide)
    (hx : Loc X.env.scope x := by first | exact Or.inl rfl | exact Or.inr rfl) (hy : Loc X.env.scope y := by first | exact Or.inl rfl | exact Or.inr rfl)
    (hfx : X.fn x = true ∨ X.env.scope.names.lookup x = some .local := by first | exact .inl rfl | exact .inr rfl) (hfy : X.fn y = true ∨ X.env.scope.names.lookup y = some .local := by first | exact .inl rfl | exact .inr rfl)
    (hs : swapsWithSole [.Tuple [.Name x px, .Name y py] kt pt] (.Tuple [a, b] k2 pt2) pos.line X.env = pure false := by rfl) (hw : swappedStores [.Tuple [.Name x px, .Name y py] kt pt] (.Tuple [a, b] k2 pt2) X.env = pure none := by rfl)
    (h0 : (assignEach [.Tuple [.Name x px, .Name y py] kt pt] X.env).map (·.2) = [assign (.Tuple [.Name x px, .Name y py] kt pt) X.env] := by rfl)
    (h1 : starEach [a, b] X.env = (false, eval a X.env) :: starEach [b] X.env := by rfl) (h2 : starEach [b] X.env = (false, eval b X.env) :: starEach [] X.env := by rfl)
    (n1 : (assignEach [.Name x px, .Name y py] X.env).map (·.2) = assign (.Name x px) X.env :: (assignEach [.Name y py] X.env).map (·.2) := by rfl) (n2 : (assignEach [.Name y py] X.env).map (·.2) = assign (.Name y py) X.env :: (assignEach [] X.env).map (·.2) := by rfl)
    (n3 : (assignEach [.Name x px, .Name y py] X.env).length = 2 := by rfl) (n4 : (assignEach [.Name x px, .Name y py] X.env).findIdx? (·.1) = none := by rfl) :
    VS X E (.Assign [.Tuple [.Name x px, .Name y py] kt pt] (.Tuple [a, b] k2 pt2) pos) (mParO i j f fo) := fun g =>
  (ps_asg (pe_tup (pa_cons (ha g) (pa_cons (hb g) pa_nil h2) h1)) (pg_tup hc (pgs_cons (pg_name hN hi hx hfx) (pgs_cons (pg_name hN hj hy hfy) pgs_nil n2) n1) n3 n4) hs hw h0).imp fun D σ H ⟨F, ι, env, S, w, q⟩ =>
  ⟨F, ι, env, S, w, rd_mono (rd_go w.wd q) fun d H1 F1 ι1 S1 _ e1 w1 ⟨_, _, q1⟩ v hv => ⟨F1, ι1, env, S1, w1, rd_mono (rd_go w1.wd q1) fun ds H2 F2 ι2 S2 _ e2 w2 ⟨_, _, q2⟩ p vs k1 k2 k3 k4 k5 => by
    refine ⟨Nat.le_of_ble_eq_true rfl, fun r hr => ⟨r, [v, .ref p], rfl, .inl (.inl upd_same), rfl, v, [.ref p], rfl, .ref p, [], rfl, rfl, ?_⟩⟩
    obtain ⟨e3, wd3⟩ := w2.wd.layO (o := .tup [v, .ref p]) hr
    have w3 := (w2.step e3 wd3).put i (w2.wd.rep e3 (w1.wd.rep e2 hv))
    have hp0 : g.H0 p = none := w1.ext.mono p k5
    refine q2 _ _ _ _ (w3.putO j (e3.keep p _ k1 (.inr k4)) (w2.wd.reps e3 k2) k3 k4 hp0 fun k dk hk hσ => ?_) (w2.wd.grow e3)
    rw [List.getElem?_set] at hk hσ
    by_cases e : i = k
    · subst e
      rw [if_pos rfl] at hk
      split at hk <;> cases hk
    · rw [if_neg e] at hk hσ
      obtain ⟨a', us, z1, z2, _⟩ := w1.own k dk hk
      rw [hσ] at z1
      cases z1
      rw [k5] at z2
      cases z2⟩⟩
end
end DL

/-! DLy: what a mirror brings about, by postconditions. -/
namespace DL
open PySem PySem.Spec L2
open PyProof.Rows hiding St

abbrev XQ := Str → List Str → List D → List Cell → Prop
abbrev XN : XQ := fun _ _ _ _ => False
abbrev XF := Str → List Str → List D → List Sl → List Cell → Prop
/-- what is wanted of a reading, of a statement (in the place of an instance: simp leaves these alone) -/
class PR (α : Type) where
  Q : α → List Cell → Prop
  X : XQ
class PF where
  N : List Sl → List Cell → Prop
  R : D → List Cell → Prop
  B : List Sl → List Cell → Prop
  C : List Sl → List Cell → Prop
  X : XF
/-- a reading's ways out -/
def Rs.V {α : Type} (r : Rs α) [P : PR α] : Prop := match r with
  | .ok a S => P.Q a S
  | .ex c ns ds S => P.X c ns ds S
  | .bad => False
/-- a statement's ways out -/
def Fl.V (r : Fl) [P : PF] : Prop := match r with
  | .nx e S => P.N e S
  | .rt d S => P.R d S
  | .bk e S => P.B e S
  | .ct e S => P.C e S
  | .ex c ns ds e S => P.X c ns ds e S
  | .bad => False
abbrev Rs.W {α : Type} (r : Rs α) (Q : α → List Cell → Prop) (X : XQ) : Prop := @Rs.V α r ⟨Q, X⟩
abbrev Fl.W (r : Fl) (N : List Sl → List Cell → Prop) (R : D → List Cell → Prop) (B C : List Sl → List Cell → Prop) (X : XF) : Prop := @Fl.V r ⟨N, R, B, C, X⟩
/-- the next statement's wants -/
abbrev PF.nx (P : PF) (N : List Sl → List Cell → Prop) : PF := ⟨N, P.R, P.B, P.C, P.X⟩
abbrev PF.rd {α : Type} (P : PF) (env : List Sl) (Q : α → List Cell → Prop) : PR α := ⟨Q, fun c ns ds S => P.X c ns ds env S⟩
abbrev PR.rd {α β : Type} (P : PR α) (Q : β → List Cell → Prop) : PR β := ⟨Q, P.X⟩
@[simp] theorem nx_N (P : PF) (N) : @PF.N (P.nx N) = N := nr rfl
@[simp] theorem nx_R (P : PF) (N) : @PF.R (P.nx N) = P.R := nr rfl
@[simp] theorem nx_B (P : PF) (N) : @PF.B (P.nx N) = P.B := nr rfl
@[simp] theorem nx_C (P : PF) (N) : @PF.C (P.nx N) = P.C := nr rfl
@[simp] theorem nx_X (P : PF) (N) : @PF.X (P.nx N) = P.X := nr rfl
@[simp] theorem frd_Q {α : Type} (P : PF) (env : List Sl) (Q : α → List Cell → Prop) : @PR.Q α (P.rd env Q) = Q := nr rfl
@[simp] theorem frd_X {α : Type} (P : PF) (env : List Sl) (Q : α → List Cell → Prop) : @PR.X α (P.rd env Q) = fun c ns ds S => P.X c ns ds env S := nr rfl
@[simp] theorem rrd_Q {α β : Type} (P : PR α) (Q : β → List Cell → Prop) : @PR.Q β (P.rd Q) = Q := nr rfl
@[simp] theorem rrd_X {α β : Type} (P : PR α) (Q : β → List Cell → Prop) : @PR.X β (P.rd Q) = P.X := nr rfl
section
variable {α β : Type} {P : PR α} {F : PF}
@[simp] theorem V_ok (a : α) (S : List Cell) : @Rs.V α (Rs.ok a S) P = P.Q a S := nr rfl
@[simp] theorem V_ex (c ns ds S) : @Rs.V α (Rs.ex c ns ds S) P = P.X c ns ds S := nr rfl
@[simp] theorem V_bad : @Rs.V α Rs.bad P = False := nr rfl
@[simp] theorem V_nx (e S) : @Fl.V (Fl.nx e S) F = F.N e S := nr rfl
@[simp] theorem V_rt (d S) : @Fl.V (Fl.rt d S) F = F.R d S := nr rfl
@[simp] theorem V_bk (e S) : @Fl.V (Fl.bk e S) F = F.B e S := nr rfl
@[simp] theorem V_ct (e S) : @Fl.V (Fl.ct e S) F = F.C e S := nr rfl
@[simp] theorem V_fex (c ns ds e S) : @Fl.V (Fl.ex c ns ds e S) F = F.X c ns ds e S := nr rfl
@[simp] theorem V_fbad : @Fl.V Fl.bad F = False := nr rfl
@[simp ↓] theorem V_andThen (r : Rs β) (h : β → List Cell → Rs α) : @Rs.V α (r.andThen h) P = @Rs.V β r (P.rd fun b S => @Rs.V α (h b S) P) := by cases r <;> rfl
@[simp ↓] theorem V_go (r : Rs α) (env : List Sl) (h : α → List Cell → Fl) : @Fl.V (r.go env h) F = @Rs.V α r (F.rd env fun a S => @Fl.V (h a S) F) := by cases r <;> rfl
@[simp ↓] theorem V_noX (r : Rs α) : @Rs.V α (noX r) P = @Rs.V α r ⟨P.Q, XN⟩ := by cases r <;> rfl
@[simp] theorem andThen_assoc {γ : Type} (r : Rs α) (h : α → List Cell → Rs β) (k : β → List Cell → Rs γ) : (r.andThen h).andThen k = r.andThen fun a S => (h a S).andThen k := by cases r <;> rfl
@[simp] theorem ofO_some' (d : D) (S : List Cell) : ofO (some d) S = .ok d S := nr rfl
@[simp] theorem ofO_none' (S : List Cell) : ofO none S = .bad := nr rfl
theorem Rs.V.to {r : Rs α} {P' : PR α} (h : @Rs.V α r P) (k : ∀ a S, P.Q a S → P'.Q a S) (x : ∀ c ns ds S, P.X c ns ds S → P'.X c ns ds S) : @Rs.V α r P' := by
  cases r with
  | ok a S => exact k a S h
  | ex c ns ds S => exact x c ns ds S h
  | bad => exact h
theorem Rs.W.on {r : Rs α} {Q : α → List Cell → Prop} {P' : PR α} (h : r.W Q XN) (k : ∀ a S, Q a S → P'.Q a S) : @Rs.V α r P' := Rs.V.to h k fun _ _ _ _ h => h.elim
theorem Rs.W.of {r : Rs α} {Q : α → List Cell → Prop} (h : r.W Q XN) : ∃ a S, r = .ok a S ∧ Q a S := by
  cases r with
  | ok a S => exact ⟨a, S, rfl, h⟩
  | ex c ns ds S => exact h.elim
  | bad => exact h.elim
theorem Rs.W.eq {r : Rs α} {v : α} {S : List Cell} (h : r.W (fun d S' => d = v ∧ S' = S) XN) : r = .ok v S := by
  obtain ⟨a, S', rfl, rfl, rfl⟩ := h.of
  rfl
theorem Rs.W.of_eq {r : Rs α} {v : α} {S : List Cell} {P : PR α} (h : r = .ok v S) (k : P.Q v S) : @Rs.V α r P := by rw [h]; exact k
theorem Fl.V.to {r : Fl} {F' : PF} (h : @Fl.V r F) (n : ∀ e S, F.N e S → F'.N e S) (t : ∀ d S, F.R d S → F'.R d S) (b : ∀ e S, F.B e S → F'.B e S) (c : ∀ e S, F.C e S → F'.C e S)
    (y : ∀ c ns ds e S, F.X c ns ds e S → F'.X c ns ds e S) : @Fl.V r F' := by
  cases r with
  | nx e S => exact n e S h
  | rt d S => exact t d S h
  | bk e S => exact b e S h
  | ct e S => exact c e S h
  | ex c ns ds e S => exact y c ns ds e S h
  | bad => exact h
theorem V_if {c : Prop} [Decidable c] {r r' : Rs α} (h : c → @Rs.V α r P) (h' : ¬c → @Rs.V α r' P) : @Rs.V α (if c then r else r') P := by
  by_cases hc : c
  · rw [if_pos hc]; exact h hc
  · rw [if_neg hc]; exact h' hc
theorem V_ifF {c : Prop} [Decidable c] {r r' : Fl} (h : c → @Fl.V r F) (h' : ¬c → @Fl.V r' F) : @Fl.V (if c then r else r') F := by
  by_cases hc : c
  · rw [if_pos hc]; exact h hc
  · rw [if_neg hc]; exact h' hc
/-! ### statements -/
section
variable (env : List Sl) (S : List Cell)
@[simp ↓] theorem V_seq (a b : Sm) : @Fl.V (mSeq a b env S) F = @Fl.V (a env S) (F.nx fun e S' => @Fl.V (b e S') F) := by
  unfold mSeq; cases a env S <;> rfl
@[simp ↓] theorem V_skip  : @Fl.V (mSkip env S) F = F.N env S := nr rfl
@[simp ↓] theorem V_set (i : Nat) (f : Ex D) : @Fl.V (mSet i f env S) F = @Rs.V D (f env S) (F.rd env fun d S1 => F.N (env.set i (.val d)) S1) := by
  unfold mSet; rw [V_go]; rfl
@[simp ↓] theorem V_setO (i : Nat) (f : Ex (List D)) : @Fl.V (mSetO i f env S) F = @Rs.V (List D) (f env S) (F.rd env fun d S1 => F.N (env.set i (.own d)) S1) := by
  unfold mSetO; rw [V_go]; rfl
@[simp ↓] theorem V_ifS (p : Ex Bool) (a b : Sm) : @Fl.V (mIfS p a b env S) F = @Rs.V Bool (p env S) (F.rd env fun b' S1 => @Fl.V (if b' = true then a env S1 else b env S1) F) := by
  unfold mIfS; rw [V_go]
@[simp ↓] theorem V_ret (f : Ex D) : @Fl.V (mRet f env S) F = @Rs.V D (f env S) (F.rd env F.R) := by
  unfold mRet; rw [V_go]; rfl
@[simp ↓] theorem V_retN  : @Fl.V (mRetN env S) F = F.R .non S := nr rfl
@[simp ↓] theorem V_expr (f : Ex D) : @Fl.V (mExpr f env S) F = @Rs.V D (f env S) (F.rd env fun _ S1 => F.N env S1) := by
  unfold mExpr; rw [V_go]; rfl
@[simp ↓] theorem V_break  : @Fl.V (mBreak env S) F = F.B env S := nr rfl
@[simp ↓] theorem V_cont  : @Fl.V (mCont env S) F = F.C env S := nr rfl
@[simp ↓] theorem V_raise (x fld : Str) (f : Ex D) : @Fl.V (mRaise x fld f env S) F = @Rs.V D (f env S) (F.rd env fun d S1 => F.X x [fld] [d] env S1) := by
  unfold mRaise; rw [V_go]; rfl
@[simp ↓] theorem V_unp (p : Pat) (f : Ex D) : @Fl.V (mUnp p f env S) F = @Rs.V D (f env S) (F.rd env fun d S1 => @Fl.V (match bindP p d env with | some env' => Fl.nx env' S1 | none => .bad) F) := by
  unfold mUnp; rw [V_go]
@[simp ↓] theorem V_par2 (i j : Nat) (f : Ex (List D)) : @Fl.V (mPar2 i j f env S) F = @Rs.V (List D) (f env S) (F.rd env fun ds S1 => @Fl.V (match ds with | [d, d'] => Fl.nx ((env.set i (.val d)).set j (.val d')) S1 | _ => .bad) F) := by
  unfold mPar2; rw [V_go]
@[simp ↓] theorem V_par3 (i j l : Nat) (f : Ex (List D)) : @Fl.V (mPar3 i j l f env S) F = @Rs.V (List D) (f env S) (F.rd env fun ds S1 => @Fl.V (match ds with | [d, d', d''] => Fl.nx (((env.set i (.val d)).set j (.val d')).set l (.val d'')) S1 | _ => .bad) F) := by
  unfold mPar3; rw [V_go]
@[simp ↓] theorem V_parO (i j : Nat) (f : Ex D) (fo : Ex (List D)) : @Fl.V (mParO i j f fo env S) F = @Rs.V D (f env S) (F.rd env fun d S1 => @Rs.V (List D) (fo env S1) (F.rd env fun ds S2 => F.N ((env.set i (.val d)).set j (.own ds)) S2)) := by
  unfold mParO; cases f env S
  · rw [go_ok, V_go]; rfl
  · rfl
  · rfl
@[simp ↓] theorem V_for (it : Ex (List D)) (p : Pat) (m : Sm) : @Fl.V (mFor it p m env S) F = @Rs.V (List D) (it env S) (F.rd env fun ds S1 => @Fl.V (forL p m ds env S1) F) := by
  unfold mFor; rw [V_go]
@[simp ↓] theorem V_asg (f : Ex D) (t : D → Sm) : @Fl.V (mAsg f t env S) F = @Rs.V D (f env S) (F.rd env fun d S1 => @Fl.V (t d env S1) F) := by
  unfold mAsg; rw [V_go]
@[simp ↓] theorem V_gname (k : Nat) (d : D) : @Fl.V (gName' k d env S) F = F.N (env.set k (.val d)) S := nr rfl
@[simp ↓] theorem V_gsub (f h : Ex D) (d : D) : @Fl.V (gSubC f h d env S) F = @Rs.V D (f env S) (F.rd env fun x S1 => @Rs.V D (h env S1) (F.rd env fun y S2 => @Fl.V (match putC x y d S2 with | some S3 => Fl.nx env S3 | none => .bad) F)) := by
  unfold gSubC; cases f env S
  · rw [go_ok, V_go]; rfl
  · rfl
  · rfl
@[simp ↓] theorem V_gtup1 (ts : List D → Sm) (ds : List D) : @Fl.V (gTup' ts (.tup ds) env S) F = @Fl.V (ts ds env S) F := nr rfl
@[simp ↓] theorem V_gtup2 (ts : List D → Sm) (ds : List D) : @Fl.V (gTup' ts (.lst ds) env S) F = @Fl.V (ts ds env S) F := nr rfl
@[simp ↓] theorem V_gnil  : @Fl.V (gNil' [] env S) F = F.N env S := nr rfl
@[simp ↓] theorem V_gcons (t : D → Sm) (ts : List D → Sm) (d : D) (r : List D) : @Fl.V (gCons' t ts (d :: r) env S) F = @Fl.V (t d env S) ⟨fun e S' => @Fl.V (ts r e S') F, fun _ _ => False, fun _ _ => False, fun _ _ => False, F.X⟩ := by
  unfold gCons'; dsimp only; cases t d env S <;> rfl
@[simp ↓] theorem V_app (k : Nat) (f : Ex D) : @Fl.V (mApp k f env S) F = @Fl.V (match env[k]? with | some (.own ds) => (f env S).go env fun d S1 => if okLen (ds.length + 1) then .nx (env.set k (.own (ds ++ [d]))) S1 else .bad | _ => .bad : Fl) F := nr rfl
@[simp ↓] theorem V_fz (k : Nat) (m : Sm) : @Fl.V (mFz k m env S) F = @Fl.V (match env[k]? with | some (.own ds) => m (env.set k (.val (.lst ds))) S | some (.val _) => m env S | _ => .bad : Fl) F := by
  unfold mFz; first | rfl | (split <;> rfl)
@[simp ↓] theorem V_setF (ft : List (Str × Str)) (f : Str) (fe fo : Ex D) : @Fl.V (mSetF ft f fe fo env S) F = @Rs.V D (fe env S) (F.rd env fun d S1 => @Rs.V D (fo env S1) (F.rd env fun o S2 => @Fl.V (match putFld ft f o d S2 with | some S3 => Fl.nx env S3 | none => .bad) F)) := by
  unfold mSetF; cases fe env S
  · rw [go_ok, V_go]; rfl
  · rfl
  · rfl
@[simp ↓] theorem V_try (sub : Str → Str → Option Bool) (m : Sm) (hs : List Hd) : @Fl.V (mTry sub m hs env S) F = @Fl.V (m env S) ⟨F.N, F.R, F.B, F.C, fun c ns ds e S' => @Fl.V (runH sub c ns ds hs e S') F⟩ := by
  unfold mTry; cases m env S <;> rfl
@[simp ↓] theorem V_runH0 (sub : Str → Str → Option Bool) (c ns ds) : @Fl.V (runH sub c ns ds [] env S) F = F.X c ns ds env S := nr rfl
theorem V_runY {sub : Str → Str → Option Bool} {c : Str} {ns : List Str} {ds : List D} {cs : List Str} {o : Option Nat} {m : Sm} {r : List Hd} (h : catches sub c cs = some true) : @Fl.V (runH sub c ns ds ((cs, o, m) :: r) env S) F = @Fl.V (suiteOut o (m (match o with | some i => env.set i (.val (.exc c ns ds)) | none => env) S)) F := by
  unfold runH; rw [h]; try rfl
theorem V_runN {sub : Str → Str → Option Bool} {c : Str} {ns : List Str} {ds : List D} {cs : List Str} {o : Option Nat} {m : Sm} {r : List Hd} (h : catches sub c cs = some false) : @Fl.V (runH sub c ns ds ((cs, o, m) :: r) env S) F = @Fl.V (runH sub c ns ds r env S) F := by
  conv => lhs; unfold runH
  rw [h]
@[simp ↓] theorem V_suite1 (i : Nat) (f : Fl) : @Fl.V (suiteOut (some i) f) F = @Fl.V f ⟨fun e S => F.N (e.set i .un) S, F.R, fun e S => F.B (e.set i .un) S, fun e S => F.C (e.set i .un) S, fun _ _ _ _ _ => False⟩ := by cases f <;> rfl
@[simp ↓] theorem V_suite0 (f : Fl) : @Fl.V (suiteOut none f) F = @Fl.V f ⟨F.N, F.R, F.B, F.C, fun _ _ _ _ _ => False⟩ := by cases f <;> rfl
@[simp ↓] theorem V_def (n : Nat) (m : Sm) (ds : List D) {P : PR D} : @Rs.V D (mDef n m ds S) P = @Fl.V (m (startE n ds) S) ⟨fun _ S' => P.Q .non S', P.Q, fun _ _ => False, fun _ _ => False, fun c ns es _ S' => P.X c ns es S'⟩ := by
  unfold mDef; cases m (startE n ds) S <;> rfl
end
/-! ### readings -/
section
variable (env : List Sl) (S : List Cell)
@[simp] theorem r_var (i : Nat) : mVar i env S = (match env[i]? with | some (.val d) => .ok d S | _ => .bad) := nr rfl
@[simp] theorem r_c (d : D) : mC d env S = .ok d S := nr rfl
@[simp ↓] theorem V_rc (d : D) {P : PR D} : @Rs.V D (mC d env S) P = P.Q d S := nr rfl
@[simp] theorem r_op (o : Op2) (f h : Ex D) : mOp o f h env S = (f env S).andThen fun x S1 => (h env S1).andThen fun y S2 => ofO (o x y S2) S2 := nr rfl
@[simp ↓] theorem V_rop (o : Op2) (f h : Ex D) {P : PR D} : @Rs.V D (mOp o f h env S) P = @Rs.V D ((f env S).andThen fun x S1 => (h env S1).andThen fun y S2 => ofO (o x y S2) S2) P := by rw [r_op]
@[simp] theorem r_un (o : Op1) (f : Ex D) : mUn o f env S = (f env S).andThen fun x S1 => ofO (o x S1) S1 := nr rfl
@[simp ↓] theorem V_run (o : Op1) (f : Ex D) {P : PR D} : @Rs.V D (mUn o f env S) P = @Rs.V D ((f env S).andThen fun x S1 => ofO (o x S1) S1) P := by rw [r_un]
@[simp] theorem r_B (f : Ex D) : mB f env S = (f env S).andThen asB := nr rfl
@[simp ↓] theorem V_rB (f : Ex D) {P : PR Bool} : @Rs.V Bool (mB f env S) P = @Rs.V Bool ((f env S).andThen asB) P := by rw [r_B]
@[simp] theorem r_not (p : Ex Bool) : mNot p env S = (p env S).andThen fun b S1 => .ok (!b) S1 := nr rfl
@[simp ↓] theorem V_rnot (p : Ex Bool) {P : PR Bool} : @Rs.V Bool (mNot p env S) P = @Rs.V Bool ((p env S).andThen fun b S1 => .ok (!b) S1) P := by rw [r_not]
@[simp] theorem r_and (p q : Ex Bool) : mAnd p q env S = (p env S).andThen fun b S1 => if b = true then q env S1 else .ok false S1 := nr rfl
@[simp ↓] theorem V_rand (p q : Ex Bool) {P : PR Bool} : @Rs.V Bool (mAnd p q env S) P = @Rs.V Bool ((p env S).andThen fun b S1 => if b = true then q env S1 else .ok false S1) P := by rw [r_and]
@[simp] theorem r_or (p q : Ex Bool) : mOr p q env S = (p env S).andThen fun b S1 => if b = true then .ok true S1 else q env S1 := nr rfl
@[simp ↓] theorem V_ror (p q : Ex Bool) {P : PR Bool} : @Rs.V Bool (mOr p q env S) P = @Rs.V Bool ((p env S).andThen fun b S1 => if b = true then .ok true S1 else q env S1) P := by rw [r_or]
@[simp] theorem r_andV (f h : Ex D) : mAndV f h env S = (mB f env S).andThen fun b S1 => if b = true then h env S1 else .ok (.bl false) S1 := nr rfl
@[simp ↓] theorem V_randV (f h : Ex D) {P : PR D} : @Rs.V D (mAndV f h env S) P = @Rs.V D ((mB f env S).andThen fun b S1 => if b = true then h env S1 else .ok (.bl false) S1) P := by rw [r_andV]
@[simp] theorem r_orV (f h : Ex D) : mOrV f h env S = (mB f env S).andThen fun b S1 => if b = true then .ok (.bl true) S1 else h env S1 := nr rfl
@[simp ↓] theorem V_rorV (f h : Ex D) {P : PR D} : @Rs.V D (mOrV f h env S) P = @Rs.V D ((mB f env S).andThen fun b S1 => if b = true then .ok (.bl true) S1 else h env S1) P := by rw [r_orV]
@[simp] theorem r_notV (f : Ex D) : mNotV f env S = (mB f env S).andThen fun b S1 => .ok (.bl (!b)) S1 := nr rfl
@[simp ↓] theorem V_rnotV (f : Ex D) {P : PR D} : @Rs.V D (mNotV f env S) P = @Rs.V D ((mB f env S).andThen fun b S1 => .ok (.bl (!b)) S1) P := by rw [r_notV]
@[simp] theorem r_if (p : Ex Bool) (f h : Ex D) : mIf p f h env S = (p env S).andThen fun b S1 => if b = true then f env S1 else h env S1 := nr rfl
@[simp ↓] theorem V_rif (p : Ex Bool) (f h : Ex D) {P : PR D} : @Rs.V D (mIf p f h env S) P = @Rs.V D ((p env S).andThen fun b S1 => if b = true then f env S1 else h env S1) P := by rw [r_if]
@[simp] theorem r_chain (o o' : Op2) (f h k : Ex D) : mChain o o' f h k env S = (f env S).andThen fun x S1 => (h env S1).andThen fun y S2 => ((ofO (o x y S2) S2).andThen asB).andThen fun b S3 =>
  if b = true then (k env S3).andThen fun z S4 => ofO (o' y z S4) S4 else .ok (.bl false) S3 := nr rfl
@[simp ↓] theorem V_rchain (o o' : Op2) (f h k : Ex D) {P : PR D} : @Rs.V D (mChain o o' f h k env S) P = @Rs.V D ((f env S).andThen fun x S1 => (h env S1).andThen fun y S2 => ((ofO (o x y S2) S2).andThen asB).andThen fun b S3 =>
  if b = true then (k env S3).andThen fun z S4 => ofO (o' y z S4) S4 else .ok (.bl false) S3) P := by rw [r_chain]
@[simp] theorem r_call (o : OpN) (fa : Ex (List D)) : mCall o fa env S = (fa env S).andThen fun xs S1 => ofO (o xs S1) S1 := nr rfl
@[simp ↓] theorem V_rcall (o : OpN) (fa : Ex (List D)) {P : PR D} : @Rs.V D (mCall o fa env S) P = @Rs.V D ((fa env S).andThen fun xs S1 => ofO (o xs S1) S1) P := by rw [r_call]
@[simp] theorem r_fn (n : Nat) (m : Fn) (fa : Ex (List D)) : mFn n m fa env S = (fa env S).andThen fun xs S1 => if xs.length = n then m xs S1 else .bad := nr rfl
@[simp ↓] theorem V_rfn (n : Nat) (m : Fn) (fa : Ex (List D)) {P : PR D} : @Rs.V D (mFn n m fa env S) P = @Rs.V D ((fa env S).andThen fun xs S1 => if xs.length = n then m xs S1 else .bad) P := by rw [r_fn]
@[simp] theorem r_fnK (n np nk : Nat) (p : List Nat) (m : Fn) (fa fk : Ex (List D)) : mFnK n np nk p m fa fk env S = (fa env S).andThen fun xs S1 => if xs.length = np then (fk env S1).andThen (fun zs S2 =>
  if zs.length = nk then (if (pickL p (xs ++ zs)).length = n then m (pickL p (xs ++ zs)) S2 else .bad) else .bad) else .bad := nr rfl
@[simp ↓] theorem V_rfnK (n np nk : Nat) (p : List Nat) (m : Fn) (fa fk : Ex (List D)) {P : PR D} : @Rs.V D (mFnK n np nk p m fa fk env S) P = @Rs.V D ((fa env S).andThen fun xs S1 => if xs.length = np then (fk env S1).andThen (fun zs S2 =>
  if zs.length = nk then (if (pickL p (xs ++ zs)).length = n then m (pickL p (xs ++ zs)) S2 else .bad) else .bad) else .bad) P := by rw [r_fnK]
@[simp] theorem r_cons (f : Ex D) (r : Ex (List D)) : mCons f r env S = (f env S).andThen fun x S1 => (r env S1).andThen fun xs S2 => .ok (x :: xs) S2 := nr rfl
@[simp ↓] theorem V_rcons (f : Ex D) (r : Ex (List D)) {P : PR (List D)} : @Rs.V (List D) (mCons f r env S) P = @Rs.V (List D) ((f env S).andThen fun x S1 => (r env S1).andThen fun xs S2 => .ok (x :: xs) S2) P := by rw [r_cons]
@[simp] theorem r_nil  : mNil env S = .ok [] S := nr rfl
@[simp ↓] theorem V_rnil  {P : PR (List D)} : @Rs.V (List D) (mNil env S) P = P.Q [] S := nr rfl
@[simp] theorem r_tup (f : Ex (List D)) : mTup f env S = (f env S).andThen fun xs S1 => if xs.length ≤ 100000 then .ok (.tup xs) S1 else .bad := nr rfl
@[simp ↓] theorem V_rtup (f : Ex (List D)) {P : PR D} : @Rs.V D (mTup f env S) P = @Rs.V D ((f env S).andThen fun xs S1 => if xs.length ≤ 100000 then .ok (.tup xs) S1 else .bad) P := by rw [r_tup]
@[simp] theorem r_lst (f : Ex (List D)) : mLst f env S = (f env S).andThen fun xs S1 => if xs.length ≤ 100000 then .ok xs S1 else .bad := nr rfl
@[simp ↓] theorem V_rlst (f : Ex (List D)) {P : PR (List D)} : @Rs.V (List D) (mLst f env S) P = @Rs.V (List D) ((f env S).andThen fun xs S1 => if xs.length ≤ 100000 then .ok xs S1 else .bad) P := by rw [r_lst]
@[simp] theorem r_fr (f : Ex (List D)) : mFr f env S = (f env S).andThen fun xs S1 => .ok (.lst xs) S1 := nr rfl
@[simp ↓] theorem V_rfr (f : Ex (List D)) {P : PR D} : @Rs.V D (mFr f env S) P = @Rs.V D ((f env S).andThen fun xs S1 => .ok (.lst xs) S1) P := by rw [r_fr]
@[simp] theorem r_cell (f : Ex (List D)) : mCell f env S = (f env S).andThen fun xs S1 => .ok (.cell S1.length) (S1 ++ [.lst xs]) := by
  unfold mCell; cases f env S <;> rfl
@[simp ↓] theorem V_rcell (f : Ex (List D)) {P : PR D} : @Rs.V D (mCell f env S) P = @Rs.V D ((f env S).andThen fun xs S1 => .ok (.cell S1.length) (S1 ++ [.lst xs])) P := by rw [r_cell]
@[simp] theorem r_slice (o : D → Option Int → Option Int → Option D) (f : Ex D) (l h : ExO) : mSlice o f l h env S = (f env S).andThen fun x S1 => (l env S1).andThen fun a S2 => (h env S2).andThen fun b S3 => ofO (o x a b) S3 := nr rfl
@[simp ↓] theorem V_rslice (o : D → Option Int → Option Int → Option D) (f : Ex D) (l h : ExO) {P : PR D} : @Rs.V D (mSlice o f l h env S) P = @Rs.V D ((f env S).andThen fun x S1 => (l env S1).andThen fun a S2 => (h env S2).andThen fun b S3 => ofO (o x a b) S3) P := by rw [r_slice]
@[simp] theorem r_noPart  : mNoPart env S = .ok none S := nr rfl
@[simp ↓] theorem V_rnoPart  {P : PR (Option Int)} : @Rs.V (Option Int) (mNoPart env S) P = P.Q none S := nr rfl
@[simp] theorem r_part (f : Ex D) : mPart f env S = (f env S).andThen asI := nr rfl
@[simp ↓] theorem V_rpart (f : Ex D) {P : PR (Option Int)} : @Rs.V (Option Int) (mPart f env S) P = @Rs.V (Option Int) ((f env S).andThen asI) P := by rw [r_part]
@[simp] theorem r_range1 (f : Ex (List D)) : mRange1 f env S = (f env S).andThen range1D := nr rfl
@[simp ↓] theorem V_rrange1 (f : Ex (List D)) {P : PR (List D)} : @Rs.V (List D) (mRange1 f env S) P = @Rs.V (List D) ((f env S).andThen range1D) P := by rw [r_range1]
@[simp] theorem r_range2 (f : Ex (List D)) : mRange2 f env S = (f env S).andThen range2D := nr rfl
@[simp ↓] theorem V_rrange2 (f : Ex (List D)) {P : PR (List D)} : @Rs.V (List D) (mRange2 f env S) P = @Rs.V (List D) ((f env S).andThen range2D) P := by rw [r_range2]
@[simp] theorem r_rangeB (f : Ex (List D)) : mRangeB f env S = (f env S).andThen rangeBD := nr rfl
@[simp ↓] theorem V_rrangeB (f : Ex (List D)) {P : PR (List D)} : @Rs.V (List D) (mRangeB f env S) P = @Rs.V (List D) ((f env S).andThen rangeBD) P := by rw [r_rangeB]
@[simp] theorem r_items (f : Ex D) : mItems f env S = (f env S).andThen itemsOf := nr rfl
@[simp ↓] theorem V_ritems (f : Ex D) {P : PR (List D)} : @Rs.V (List D) (mItems f env S) P = @Rs.V (List D) ((f env S).andThen itemsOf) P := by rw [r_items]
@[simp] theorem r_enum (f : Ex (List D)) : mEnum f env S = (f env S).andThen enumD := nr rfl
@[simp ↓] theorem V_renum (f : Ex (List D)) {P : PR (List D)} : @Rs.V (List D) (mEnum f env S) P = @Rs.V (List D) ((f env S).andThen enumD) P := by rw [r_enum]
@[simp] theorem r_zip (f : Ex (List D)) : mZip f env S = (f env S).andThen zipD := nr rfl
@[simp ↓] theorem V_rzip (f : Ex (List D)) {P : PR (List D)} : @Rs.V (List D) (mZip f env S) P = @Rs.V (List D) ((f env S).andThen zipD) P := by rw [r_zip]
@[simp] theorem r_yes  : mYes env S = .ok true S := nr rfl
@[simp ↓] theorem V_ryes  {P : PR Bool} : @Rs.V Bool (mYes env S) P = P.Q true S := nr rfl
@[simp] theorem r_comp (it : Ex (List D)) (vs : List Nat) (p : Pat) (c : Ex Bool) (e : Ex D) : mComp it vs p c e env S = (it env S).andThen fun ds S1 => if ds.length ≤ 100000 then noX (compL vs p c e ds env S1) else .bad := nr rfl
@[simp ↓] theorem V_rcomp (it : Ex (List D)) (vs : List Nat) (p : Pat) (c : Ex Bool) (e : Ex D) {P : PR (List D)} : @Rs.V (List D) (mComp it vs p c e env S) P = @Rs.V (List D) ((it env S).andThen fun ds S1 => if ds.length ≤ 100000 then noX (compL vs p c e ds env S1) else .bad) P := by rw [r_comp]
@[simp] theorem r_make (c : Str) (fz : Bool) (n : Nat) (m : Fn) (fa : Ex (List D)) : mMake c fz n m fa env S = (fa env S).andThen fun xs S1 => if xs.length + 1 = n then madeR c fz S1.length (m (.cell S1.length :: xs) (S1 ++ [.ins c [] []])) else .bad := nr rfl
@[simp ↓] theorem V_rmake (c : Str) (fz : Bool) (n : Nat) (m : Fn) (fa : Ex (List D)) {P : PR D} : @Rs.V D (mMake c fz n m fa env S) P = @Rs.V D ((fa env S).andThen fun xs S1 => if xs.length + 1 = n then madeR c fz S1.length (m (.cell S1.length :: xs) (S1 ++ [.ins c [] []])) else .bad) P := by rw [r_make]
@[simp] theorem r_makeK (c : Str) (fz : Bool) (n np nk : Nat) (p : List Nat) (m : Fn) (fa fk : Ex (List D)) : mMakeK c fz n np nk p m fa fk env S = (fa env S).andThen fun xs S1 => if xs.length = np then (fk env S1).andThen (fun zs S2 => if zs.length = nk then
  (if (pickL p (.cell S2.length :: (xs ++ zs))).length = n then madeR c fz S2.length (m (pickL p (.cell S2.length :: (xs ++ zs))) (S2 ++ [.ins c [] []])) else .bad) else .bad) else .bad := nr rfl
@[simp ↓] theorem V_rmakeK (c : Str) (fz : Bool) (n np nk : Nat) (p : List Nat) (m : Fn) (fa fk : Ex (List D)) {P : PR D} : @Rs.V D (mMakeK c fz n np nk p m fa fk env S) P = @Rs.V D ((fa env S).andThen fun xs S1 => if xs.length = np then (fk env S1).andThen (fun zs S2 => if zs.length = nk then
  (if (pickL p (.cell S2.length :: (xs ++ zs))).length = n then madeR c fz S2.length (m (pickL p (.cell S2.length :: (xs ++ zs))) (S2 ++ [.ins c [] []])) else .bad) else .bad) else .bad) P := by rw [r_makeK]
@[simp] theorem r_prop (c : Str) (m : Fn) (f : Ex D) : mProp c m f env S = (f env S).andThen fun o S1 => if isInsP c o S1 = true then noX (m [o] S1) else .bad := nr rfl
@[simp ↓] theorem V_rprop (c : Str) (m : Fn) (f : Ex D) {P : PR D} : @Rs.V D (mProp c m f env S) P = @Rs.V D ((f env S).andThen fun o S1 => if isInsP c o S1 = true then noX (m [o] S1) else .bad) P := by rw [r_prop]
@[simp] theorem r_meth (c nm : Str) (n : Nat) (m : Fn) (fo : Ex D) (fa : Ex (List D)) : mMeth c nm n m fo fa env S = (fo env S).andThen fun o S1 => if isIns c nm o S1 = true then (fa env S1).andThen (fun xs S2 => if (o :: xs).length = n then m (o :: xs) S2 else .bad) else .bad := nr rfl
@[simp ↓] theorem V_rmeth (c nm : Str) (n : Nat) (m : Fn) (fo : Ex D) (fa : Ex (List D)) {P : PR D} : @Rs.V D (mMeth c nm n m fo fa env S) P = @Rs.V D ((fo env S).andThen fun o S1 => if isIns c nm o S1 = true then (fa env S1).andThen (fun xs S2 => if (o :: xs).length = n then m (o :: xs) S2 else .bad) else .bad) P := by rw [r_meth]
@[simp] theorem r_rg1 (f : Ex D) : mRg1 f env S = (f env S).andThen fun x S1 => match x with
  | .int j => if okRg 0 j then .ok (rgD 0 j) S1 else .bad
  | _ => .bad := nr rfl
@[simp ↓] theorem V_rrg1 (f : Ex D) {P : PR (List D)} : @Rs.V (List D) (mRg1 f env S) P = @Rs.V (List D) ((f env S).andThen fun x S1 => match x with
  | .int j => if okRg 0 j then .ok (rgD 0 j) S1 else .bad
  | _ => .bad) P := by rw [r_rg1]
@[simp] theorem r_rg2 (f h : Ex D) : mRg2 f h env S = (f env S).andThen fun x S1 => (h env S1).andThen fun y S2 => match x, y with
  | .int i, .int j => if okRg i j then .ok (rgD i j) S2 else .bad
  | _, _ => .bad := nr rfl
@[simp ↓] theorem V_rrg2 (f h : Ex D) {P : PR (List D)} : @Rs.V (List D) (mRg2 f h env S) P = @Rs.V (List D) ((f env S).andThen fun x S1 => (h env S1).andThen fun y S2 => match x, y with
  | .int i, .int j => if okRg i j then .ok (rgD i j) S2 else .bad
  | _, _ => .bad) P := by rw [r_rg2]
@[simp] theorem r_noX_ok {α : Type} (a : α) (S : List Cell) : noX (.ok a S) = .ok a S := nr rfl
@[simp] theorem ite_ok {α : Type} {c : Prop} [Decidable c] (a b : α) (S : List Cell) : (if c then Rs.ok a S else Rs.ok b S) = .ok (if c then a else b) S := by split <;> rfl
@[simp] theorem ite_int {c : Prop} [Decidable c] (a b : Int) : (if c then D.int a else D.int b) = .int (if c then a else b) := by split <;> rfl
@[simp] theorem ite_bl {c : Prop} [Decidable c] (a b : Bool) : (if c then D.bl a else D.bl b) = .bl (if c then a else b) := by split <;> rfl
@[simp] theorem start_ap (n : Nat) (ds : List D) : startE n ds = ds.map .val ++ List.replicate (n - ds.length) .un := nr rfl
end
end
/-! ### loops -/
/-- with a target bound -/
def inF (p : Pat) (d : D) (env : List Sl) (f : List Sl → Fl) : Fl := match bindP p d env with
  | some e => f e
  | none => .bad
def inR {α : Type} (p : Pat) (d : D) (env : List Sl) (f : List Sl → Rs α) : Rs α := match bindP p d env with
  | some e => f e
  | none => .bad
@[simp ↓] theorem inF_nm (i : Nat) (d : D) (env : List Sl) (f : List Sl → Fl) {P : PF} : @Fl.V (inF (.nm i) d env f) P = @Fl.V (f (env.set i (.val d))) P := by
  unfold inF; rw [bindP_nm]
@[simp ↓] theorem inF_tp (ps : List Pat) (d : D) (env : List Sl) (f : List Sl → Fl) {P : PF} : @Fl.V (inF (.tp ps) d env f) P = @Fl.V (match bindP (.tp ps) d env with | some e => f e | none => .bad) P := nr rfl
@[simp ↓] theorem inR_nm {α : Type} (i : Nat) (d : D) (env : List Sl) (f : List Sl → Rs α) {P : PR α} : @Rs.V α (inR (.nm i) d env f) P = @Rs.V α (f (env.set i (.val d))) P := by
  unfold inR; rw [bindP_nm]
@[simp ↓] theorem inR_tp {α : Type} (ps : List Pat) (d : D) (env : List Sl) (f : List Sl → Rs α) {P : PR α} : @Rs.V α (inR (.tp ps) d env f) P = @Rs.V α (match bindP (.tp ps) d env with | some e => f e | none => .bad) P := nr rfl
theorem inF_of {p : Pat} {d : D} {env : List Sl} {f : List Sl → Fl} {P : PF} (h : @Fl.V (inF p d env f) P) : ∃ e, bindP p d env = some e ∧ @Fl.V (f e) P := by
  unfold inF at h
  cases hb : bindP p d env with
  | none => rw [hb] at h; exact h.elim
  | some e => rw [hb] at h; exact ⟨e, rfl, h⟩
theorem inR_of {α : Type} {p : Pat} {d : D} {env : List Sl} {f : List Sl → Rs α} {P : PR α} (h : @Rs.V α (inR p d env f) P) : ∃ e, bindP p d env = some e ∧ @Rs.V α (f e) P := by
  unfold inR at h
  cases hb : bindP p d env with
  | none => rw [hb] at h; exact h.elim
  | some e => rw [hb] at h; exact ⟨e, rfl, h⟩
section
variable {N B C : List Sl → List Cell → Prop} {R : D → List Cell → Prop} {Y : Str → List Str → List D → List Sl → List Cell → Prop}
theorem for_W {p : Pat} {m : Sm} (I : Nat → List Sl → List Cell → Prop) : ∀ (ds : List D) (i : Nat) (env : List Sl) (S : List Cell), I i env S →
    (∀ (j : Nat) (d : D) (env : List Sl) (S : List Cell), ds[j]? = some d → I (i + j) env S → ∃ env1, bindP p d env = some env1 ∧ (m env1 S).W (I (i + j + 1)) R N (I (i + j + 1)) Y) →
    (∀ env S, I (i + ds.length) env S → N env S) → (forL p m ds env S).W N R B C Y
  | [], i, env, S, h, _, k => k env S h
  | d :: ds, i, env, S, h, st, k => by
    obtain ⟨env1, e1, w⟩ := st 0 d env S rfl h
    have go : ∀ e S', I (i + 0 + 1) e S' → (forL p m ds e S').W N R B C Y := fun e S' h' => for_W I ds (i + 1) e S' h' (fun j x en S hx hI => by
      have := st (j + 1) x en S (by simpa using hx) (by rw [show i + (j + 1) = i + 1 + j by omega]; exact hI)
      rw [show i + (j + 1) = i + 1 + j by omega] at this
      exact this) fun en S hI => k en S (by rw [List.length_cons, show i + (ds.length + 1) = i + 1 + ds.length by omega]; exact hI)
    rw [forL_cons, e1]
    dsimp only
    cases hm : m env1 S with
    | nx e S' => rw [hm] at w; exact go e S' w
    | ct e S' => rw [hm] at w; exact go e S' w
    | bk e S' => rw [hm] at w; exact w
    | rt d S' => rw [hm] at w; exact w
    | ex c ns es e S' => rw [hm] at w; exact w
    | bad => rw [hm] at w; exact w
/-- the same from 0, by position -/
theorem for_at {p : Pat} {m : Sm} {ds : List D} {env : List Sl} {S : List Cell} (I : Nat → List Sl → List Cell → Prop) (h0 : I 0 env S)
    (st : ∀ (j : Nat) (d : D) (env : List Sl) (S : List Cell), ds[j]? = some d → I j env S → (inF p d env fun e => m e S).W (I (j + 1)) R N (I (j + 1)) Y)
    (k : ∀ env S, I ds.length env S → N env S) : (forL p m ds env S).W N R B C Y :=
  for_W I ds 0 env S h0 (fun j d env S hd hI => by rw [Nat.zero_add] at hI ⊢; exact inF_of (st j d env S hd hI)) fun env S hI => k env S (by rw [Nat.zero_add] at hI; exact hI)
/-- a loop over a range -/
theorem for_rng {p : Pat} {m : Sm} {i0 : Int} {n : Nat} {env : List Sl} {S : List Cell} (I : Nat → List Sl → List Cell → Prop) (h0 : I 0 env S)
    (st : ∀ (j : Nat) (env : List Sl) (S : List Cell), j < n → I j env S → (inF p (.int (i0 + (j : Nat))) env fun e => m e S).W (I (j + 1)) R N (I (j + 1)) Y)
    (k : ∀ env S, I n env S → N env S) : (forL p m ((List.range n).map fun k => .int (i0 + (k : Nat))) env S).W N R B C Y :=
  for_at I h0 (fun j d env S hd hI => by
    rw [List.getElem?_map] at hd
    by_cases hj : j < n
    · rw [List.getElem?_range hj] at hd
      cases hd
      exact st j env S hj hI
    · rw [List.getElem?_eq_none (by simpa using hj)] at hd
      cases hd) fun env S hI => k env S (by simpa using hI)
theorem for_rng0 {p : Pat} {m : Sm} {n : Nat} {env : List Sl} {S : List Cell} (I : Nat → List Sl → List Cell → Prop) (h0 : I 0 env S)
    (st : ∀ (j : Nat) (env : List Sl) (S : List Cell), j < n → I j env S → (inF p (.int (j : Nat)) env fun e => m e S).W (I (j + 1)) R N (I (j + 1)) Y)
    (k : ∀ env S, I n env S → N env S) : (forL p m ((List.range n).map fun k => .int (k : Nat)) env S).W N R B C Y :=
  for_at I h0 (fun j d env S hd hI => by
    rw [List.getElem?_map] at hd
    by_cases hj : j < n
    · rw [List.getElem?_range hj] at hd
      cases hd
      exact st j env S hj hI
    · rw [List.getElem?_eq_none (by simpa using hj)] at hd
      cases hd) fun env S hI => k env S (by simpa using hI)
theorem while_W {p : Ex Bool} {m : Sm} (I : Nat → List Sl → List Cell → Prop) (st : ∀ k env S, I k env S → (p env S).W (fun b S1 => (b = false → N env S1) ∧ (b = true → (m env S1).W (fun e S' => ∃ k', k' < k ∧ I k' e S') R N (fun e S' => ∃ k', k' < k ∧ I k' e S') Y)) (fun c ns ds S => Y c ns ds env S)) :
    ∀ (n k : Nat) (env : List Sl) (S : List Cell), k < n → I k env S → (whileN p m n env S).W N R B C Y
  | 0, k, env, S, hk, _ => absurd hk (by omega)
  | n + 1, k, env, S, hk, h => by
    have s := st k env S h
    unfold whileN
    show @Fl.V _ ⟨N, R, B, C, Y⟩
    rw [V_go]
    refine Rs.V.to s (fun b S1 ⟨h1, h2⟩ => ?_) fun _ _ _ _ h => h
    change Fl.W (if _ = true then _ else _) N R B C Y
    cases b with
    | false => rw [if_neg (by simp)]; exact h1 rfl
    | true =>
      rw [if_pos rfl]
      have w := h2 rfl
      cases hm : m env S1 with
      | nx e S' => rw [hm] at w; obtain ⟨k', hk', h'⟩ := w; exact while_W I st n k' e S' (by omega) h'
      | ct e S' => rw [hm] at w; obtain ⟨k', hk', h'⟩ := w; exact while_W I st n k' e S' (by omega) h'
      | bk e S' => rw [hm] at w; exact w
      | rt d S' => rw [hm] at w; exact w
      | ex c ns es e S' => rw [hm] at w; exact w
      | bad => rw [hm] at w; exact w
/-- a comprehension: what was taken so far -/
theorem comp_W {vs : List Nat} {p : Pat} {cond : Ex Bool} {elt : Ex D} {env : List Sl} (I : Nat → List D → List Cell → Prop) : ∀ (ds : List D) (i : Nat) (acc : List D) (S : List Cell) (Q : List D → List Cell → Prop) (X : XQ), I i acc S →
    (∀ (j : Nat) (d : D) (acc : List D) (S : List Cell), ds[j]? = some d → I (i + j) acc S → ∃ env1, bindP p d (wipeE env vs) = some env1 ∧ (cond env1 S).W (fun b S1 => (b = false → I (i + j + 1) acc S1) ∧ (b = true → (elt env1 S1).W (fun x S2 => I (i + j + 1) (acc ++ [x]) S2) XN)) XN) →
    (∀ acc' S', I (i + ds.length) (acc ++ acc') S' → Q acc' S') → (compL vs p cond elt ds env S).W Q X
  | [], i, acc, S, Q, X, h, _, k => k [] S (by rw [List.append_nil]; exact h)
  | d :: ds, i, acc, S, Q, X, h, st, k => by
    obtain ⟨env1, e1, w⟩ := st 0 d acc S rfl h
    have go : ∀ acc2 S' (Q' : List D → List Cell → Prop), I (i + 0 + 1) acc2 S' → (∀ acc' S'', I (i + (ds.length + 1)) (acc2 ++ acc') S'' → Q' acc' S'') → (compL vs p cond elt ds env S').W Q' X := fun acc2 S' Q' h' k' =>
      comp_W I ds (i + 1) acc2 S' Q' X h' (fun j x a S hx hI => by
        have := st (j + 1) x a S (by simpa using hx) (by rw [show i + (j + 1) = i + 1 + j by omega]; exact hI)
        rw [show i + (j + 1) = i + 1 + j by omega] at this
        exact this) fun a S hI => k' a S (by rw [show i + (ds.length + 1) = i + 1 + ds.length by omega]; exact hI)
    unfold compL
    rw [e1]
    dsimp only
    show @Rs.V _ _ ⟨Q, X⟩
    rw [V_andThen, V_noX]
    refine Rs.W.on w fun b S1 ⟨h1, h2⟩ => ?_
    change Rs.W (if _ = true then _ else _) Q X
    cases b with
    | false =>
      rw [if_neg (by simp)]
      exact go acc S1 Q (h1 rfl) fun a S hI => k a S hI
    | true =>
      rw [if_pos rfl]
      change @Rs.V _ _ ⟨Q, X⟩
      rw [V_andThen, V_noX]
      refine Rs.W.on (h2 rfl) fun x S2 h3 => ?_
      change @Rs.V _ ((compL vs p cond elt ds env S2).andThen fun xs S3 => Rs.ok (x :: xs) S3) ⟨Q, X⟩
      rw [V_andThen]
      exact go (acc ++ [x]) S2 _ h3 fun a S hI => k (x :: a) S (by simpa using hI)
theorem comp_at {vs : List Nat} {p : Pat} {cond : Ex Bool} {elt : Ex D} {env : List Sl} {ds : List D} {S : List Cell} {Q : List D → List Cell → Prop} {X : XQ} (I : Nat → List D → List Cell → Prop) (h0 : I 0 [] S)
    (st : ∀ (j : Nat) (d : D) (acc : List D) (S : List Cell), ds[j]? = some d → I j acc S → (inR p d (wipeE env vs) fun e => (cond e S).andThen fun b S1 => if b = true then (elt e S1).andThen fun x S2 => .ok [x] S2 else .ok [] S1).W (fun xs S2 => I (j + 1) (acc ++ xs) S2) XN)
    (k : ∀ acc' S', I ds.length acc' S' → Q acc' S') : (compL vs p cond elt ds env S).W Q X :=
  comp_W I ds 0 [] S Q X h0 (fun j d a S hd hI => by
    rw [Nat.zero_add] at hI ⊢
    obtain ⟨e, e1, h⟩ := inR_of (st j d a S hd hI)
    rw [V_andThen] at h
    refine ⟨e, e1, Rs.V.to h (fun b S1 h => ⟨fun hb => ?_, fun hb => ?_⟩) fun _ _ _ _ h => h⟩
    · subst hb
      have h : I (j + 1) (a ++ []) S1 := h
      rw [List.append_nil] at h
      exact h
    · subst hb
      have h : @Rs.V _ ((elt e S1).andThen fun x S2 => .ok [x] S2) ⟨fun xs S2 => I (j + 1) (a ++ xs) S2, XN⟩ := h
      rw [V_andThen] at h
      exact h) fun a S hI => k a S (by rw [Nat.zero_add, List.nil_append] at hI; exact hI)
/-- all are taken, the store as it was: by a plain function -/
theorem comp_map {vs : List Nat} {p : Pat} {elt : Ex D} {env : List Sl} {S : List Cell} (f : D → D) (ds : List D) (h : ∀ d ∈ ds, (inR p d (wipeE env vs) fun e => elt e S).W (fun x S' => x = f d ∧ S' = S) XN) : compL vs p mYes elt ds env S = .ok (ds.map f) S := by
  rw [compL_pure (fun _ => true) f ds fun d hd => by obtain ⟨e, h1, h2⟩ := inR_of (h d hd); exact ⟨e, h1, rfl, fun _ => Rs.W.eq h2⟩]
  rw [List.filter_eq_self.mpr fun _ _ => rfl]
theorem comp_fm {vs : List Nat} {p : Pat} {cond : Ex Bool} {elt : Ex D} {env : List Sl} {S : List Cell} {α : Type} (g : α → D) (c : α → Bool) (f : α → D) (as : List α) (h : ∀ a ∈ as, (inR p (g a) (wipeE env vs) fun e => (cond e S).andThen fun b S1 => if b = true then (elt e S1).andThen fun x S2 => .ok [x] S2 else .ok [] S1).W (fun xs S2 => xs = (if c a = true then [f a] else []) ∧ S2 = S) XN) :
    compL vs p cond elt (as.map g) env S = .ok ((as.filter c).map f) S := by
  induction as with
  | nil => rfl
  | cons a r ih =>
    obtain ⟨env1, e1, e2⟩ := inR_of (h a (by simp))
    have ih := ih fun x hx => h x (by simp [hx])
    rw [List.map_cons]
    unfold compL
    rw [e1]
    dsimp only
    cases hcd : cond env1 S with
    | bad => rw [hcd] at e2; exact e2.elim
    | ex c ns ds S1 => rw [hcd] at e2; exact e2.elim
    | ok b S1 =>
      rw [hcd] at e2
      rw [noX_ok, andThen_ok]
      rw [andThen_ok] at e2
      cases b with
      | false =>
        obtain ⟨h1, h2⟩ : [] = (if c a = true then [f a] else []) ∧ S1 = S := e2
        subst h2
        have hc : ¬ c a = true := fun z => by rw [if_pos z] at h1; cases h1
        rw [if_neg (by simp), ih, List.filter_cons_of_neg hc]
      | true =>
        rw [if_pos rfl] at e2 ⊢
        cases hel : elt env1 S1 with
        | bad => rw [hel] at e2; exact e2.elim
        | ex c ns ds S1 => rw [hel] at e2; exact e2.elim
        | ok x S2 =>
          rw [hel] at e2
          obtain ⟨h1, h2⟩ : [x] = (if c a = true then [f a] else []) ∧ S2 = S := e2
          subst h2
          have hc : c a = true := by
            by_cases z : c a = true
            · exact z
            · rw [if_neg z] at h1; cases h1
          rw [if_pos hc] at h1
          cases h1
          rw [noX_ok, andThen_ok, ih, andThen_ok, List.filter_cons_of_pos hc, List.map_cons]
theorem comp_gm {vs : List Nat} {p : Pat} {elt : Ex D} {env : List Sl} {S : List Cell} {α : Type} (g : α → D) (f : α → D) (as : List α) (h : ∀ a ∈ as, (inR p (g a) (wipeE env vs) fun e => elt e S).W (fun x S' => x = f a ∧ S' = S) XN) :
    compL vs p mYes elt (as.map g) env S = .ok (as.map f) S := by
  have := comp_fm (vs := vs) (p := p) (cond := mYes) (elt := elt) (env := env) (S := S) g (fun _ => true) f as fun a ha => by
    obtain ⟨e, e1, h1⟩ := inR_of (h a ha)
    unfold inR
    rw [e1]
    dsimp only
    have h2 : elt e S = .ok (f a) S := Rs.W.eq h1
    simp [h2]
  rw [this, List.filter_eq_self.mpr fun _ _ => rfl]
end
end DL

/-! DLz: data worked out; fractions. -/
namespace DL
open PySem PySem.Spec L2
open PyProof.Rows hiding St

/-! ### reading -/
@[simp] theorem ix_tup (xs : List D) (i : Int) (S : List Cell) : ixD (.tup xs) (.int i) S = L2.atI xs i := nr rfl
@[simp] theorem ix_lst (xs : List D) (i : Int) (S : List Cell) : ixD (.lst xs) (.int i) S = L2.atI xs i := nr rfl
@[simp] theorem ix_ro (xs : List D) (i : Int) (S : List Cell) : ixD (.ro xs) (.int i) S = L2.atI xs i := nr rfl
@[simp] theorem ix_cellD (n : Nat) (i : Int) (S : List Cell) : ixD (.cell n) (.int i) S = (match S[n]? with | some (.lst xs) => L2.atI xs i | _ => none) := nr rfl
@[simp] theorem put_cellD (n : Nat) (j : Int) (d : D) (S : List Cell) : putC (.cell n) (.int j) d S = (match S[n]? with | some (.lst xs) => (ixN xs.length j).map fun m => S.set n (.lst (xs.set m d)) | _ => none) := nr rfl
@[simp] theorem len_cellD (n : Nat) (S : List Cell) : lenD [.cell n] S = (match S[n]? with | some (.lst xs) => some (.int (xs.length : Nat)) | _ => none) := nr rfl
theorem ix_cell {S : List Cell} {n : Nat} {xs : List D} (h : S[n]? = some (.lst xs)) (i : Int) : ixD (.cell n) (.int i) S = L2.atI xs i := by
  show (match S[n]? with | some (.lst xs) => L2.atI xs i | _ => none) = _
  rw [h]
@[simp] theorem at_0 {α : Type} (x : α) (r : List α) : L2.atI (x :: r) 0 = some x := by
  unfold L2.atI ixN
  rw [if_pos (Int.le_refl 0), if_pos (by simp)]
  rfl
@[simp] theorem at_1 {α : Type} (x y : α) (r : List α) : L2.atI (x :: y :: r) 1 = some y := by
  unfold L2.atI ixN
  rw [if_pos (by decide), if_pos (by simp only [List.length_cons]; omega)]
  rfl
@[simp] theorem at_2 {α : Type} (x y z : α) (r : List α) : L2.atI (x :: y :: z :: r) 2 = some z := by
  unfold L2.atI ixN
  rw [if_pos (by decide), if_pos (by simp only [List.length_cons]; omega)]
  rfl
@[simp] theorem at_3 {α : Type} (x y z u : α) (r : List α) : L2.atI (x :: y :: z :: u :: r) 3 = some u := by
  unfold L2.atI ixN
  rw [if_pos (by decide), if_pos (by simp only [List.length_cons]; omega)]
  rfl
theorem at_ok {α : Type} {xs : List α} {i : Int} (h0 : 0 ≤ i) (h1 : i < (xs.length : Nat)) : L2.atI xs i = some (xs[i.toNat]'(by omega)) := by
  unfold L2.atI ixN
  rw [if_pos h0, if_pos (by omega), Option.bind_some, List.getElem?_eq_getElem]
theorem at_nat {α : Type} {xs : List α} {k : Nat} (h : k < xs.length) : L2.atI xs (k : Int) = some xs[k] := by
  rw [at_ok (by omega) (by omega)]
  rfl
theorem at_last {α : Type} {xs : List α} (h : xs ≠ []) : L2.atI xs (-1) = some (xs.getLast h) := by
  have hl : 0 < xs.length := List.length_pos_iff.mpr h
  unfold L2.atI ixN
  rw [if_neg (by decide), if_pos (by omega), Option.bind_some, List.getLast_eq_getElem]
  rw [show ((-1 : Int) + (xs.length : Nat)).toNat = xs.length - 1 by omega, List.getElem?_eq_getElem]
theorem at_map {α β : Type} (f : α → β) (xs : List α) (i : Int) : L2.atI (xs.map f) i = (L2.atI xs i).map f := by
  unfold L2.atI
  rw [List.length_map]
  cases ixN xs.length i with
  | none => rfl
  | some n => simp
/-- the number at an index, as a function -/
def kt (ks : List Int) (k : Nat) : Int := ks.getD k 0
theorem kt_ix {ks : List Int} {i : Int} {k : Nat} (e : i = (k : Nat)) (h : k < ks.length) : L2.atI ks i = some (kt ks k) := by
  rw [e, at_nat h]
  unfold kt
  simp [h]
theorem kt_last {ks : List Int} (h : 0 < ks.length) : L2.atI ks (-1) = some (kt ks (ks.length - 1)) := by
  rw [at_last (List.ne_nil_of_length_pos h), List.getLast_eq_getElem]
  unfold kt
  rw [List.getD_eq_getElem?_getD, List.getElem?_eq_getElem (by omega)]
  rfl
theorem kt_mem {ks : List Int} {k : Nat} (h : k < ks.length) : kt ks k ∈ ks := by
  unfold kt
  rw [List.getD_eq_getElem?_getD, List.getElem?_eq_getElem h]
  exact List.getElem_mem h
/-! ### comparing -/
@[simp] theorem eq_int (i j : Int) (S : List Cell) : eqD (.int i) (.int j) S = some (.bl (decide (i = j))) := nr rfl
@[simp] theorem ne_int (i j : Int) (S : List Cell) : neD (.int i) (.int j) S = some (.bl (!decide (i = j))) := nr rfl
@[simp] theorem eq_bl (i j : Bool) (S : List Cell) : eqD (.bl i) (.bl j) S = some (.bl (decide (i = j))) := by cases i <;> cases j <;> rfl
@[simp] theorem ne_bl (i j : Bool) (S : List Cell) : neD (.bl i) (.bl j) S = some (.bl (!decide (i = j))) := by cases i <;> cases j <;> rfl
@[simp] theorem eq_str (a b : Str) (S : List Cell) : eqD (.str a) (.str b) S = some (.bl (decide (a = b))) := nr rfl
@[simp] theorem ne_str (a b : Str) (S : List Cell) : neD (.str a) (.str b) S = some (.bl (!decide (a = b))) := nr rfl
@[simp] theorem toInt_int (i : Int) (S : List Cell) : toIntD [.int i] S = some (.int i) := nr rfl
@[simp] theorem toInt_bl (b : Bool) (S : List Cell) : toIntD [.bl b] S = some (.int (if b = true then 1 else 0)) := nr rfl
@[simp] theorem abs_int (i : Int) (S : List Cell) : absD [.int i] S = some (.int (if i < 0 then -i else i)) := nr rfl
@[simp] theorem max_int (i j : Int) (S : List Cell) : maxD [.int i, .int j] S = some (.int (if j > i then j else i)) := nr rfl
@[simp] theorem min_int (i j : Int) (S : List Cell) : minD [.int i, .int j] S = some (.int (if j < i then j else i)) := nr rfl
@[simp] theorem len_lst (xs : List D) (S : List Cell) : lenD [.lst xs] S = some (.int (xs.length : Nat)) := nr rfl
@[simp] theorem len_tup (xs : List D) (S : List Cell) : lenD [.tup xs] S = some (.int (xs.length : Nat)) := nr rfl
@[simp] theorem len_ro (xs : List D) (S : List Cell) : lenD [.ro xs] S = some (.int (xs.length : Nat)) := nr rfl
@[simp] theorem tuple_lst (xs : List D) (S : List Cell) : tupleD [.lst xs] S = some (.tup xs) := nr rfl
@[simp] theorem list_tup (xs : List D) (S : List Cell) : listD [.tup xs] S = some (.lst xs) := nr rfl
theorem range1_ok {n : Nat} (h : n ≤ 1000000000) (S : List Cell) : range1D [.int (n : Nat)] S = .ok ((List.range n).map fun k => .int (k : Nat)) S := by
  show (if smallI (n : Nat) then Rs.ok ((List.range ((n : Nat) : Int).toNat).map fun i => D.int (i : Nat)) S else .bad) = _
  rw [if_pos (by unfold smallI; exact decide_eq_true (by omega)), Int.toNat_natCast]
theorem range1_int {i : Int} {n : Nat} (e : i = (n : Nat)) (h : n ≤ 1000000000) (S : List Cell) : range1D [.int i] S = .ok ((List.range n).map fun k => .int (k : Nat)) S := by rw [e, range1_ok h]
theorem mul_ok {i j : Int} {S : List Cell} (n m : Nat) (h1 : i.natAbs < 2 ^ n) (h2 : j.natAbs < 2 ^ m) (hn : 0 < n := by decide) (hm : 0 < m := by decide) (h : n + m ≤ 1000000 := by decide) : mulD (.int i) (.int j) S = some (.int (i * j)) :=
  mulD_int (by
    unfold okMul
    have a := log2_lt h1 hn
    have b := log2_lt h2 hm
    exact decide_eq_true (by omega))
/-- a list repeated -/
theorem mul_lst {xs : List D} {j : Int} {S : List Cell} (h0 : -1000000000 ≤ j ∧ j ≤ 1000000000) (h : okLen (xs.length * j.toNat) = true) : mulD (.lst xs) (.int j) S = some (.lst (List.replicate j.toNat xs).flatten) := by
  show (if _ = true then some (D.lst (List.replicate j.toNat xs).flatten) else none) = _
  rw [if_pos (by rw [h, Bool.and_true]; exact decide_eq_true (by omega))]
theorem rep_one (x : D) (k : Nat) : (List.replicate k [x]).flatten = List.replicate k x := by
  induction k with
  | zero => rfl
  | succ k ih => rw [List.replicate_succ, List.flatten_cons, ih, List.replicate_succ]; rfl
theorem mul_one' {x : D} {j : Int} {S : List Cell} (h0 : -1000000000 ≤ j) (h : j ≤ 100000) : mulD (.lst [x]) (.int j) S = some (.lst (List.replicate j.toNat x)) := by
  rw [mul_lst (by omega) (by unfold okLen; exact decide_eq_true (by simp; omega)), rep_one]
theorem add_lst {xs ys : List D} {S : List Cell} (h : xs.length + ys.length ≤ 100000) : addD (.lst xs) (.lst ys) S = some (.lst (xs ++ ys)) := by
  show (if _ = true then _ else _) = _
  rw [if_pos (by unfold okLen; exact decide_eq_true h)]
theorem add_tup {xs ys : List D} {S : List Cell} (h : xs.length + ys.length ≤ 100000) : addD (.tup xs) (.tup ys) S = some (.tup (xs ++ ys)) := by
  show (if _ = true then _ else _) = _
  rw [if_pos (by unfold okLen; exact decide_eq_true h)]
/-! ### slices -/
theorem cut_to {xs : List D} {k : Int} (h : 0 ≤ k) : cutD xs none (some k) = xs.take k.toNat := by
  obtain ⟨m, rfl⟩ := Int.eq_ofNat_of_zero_le h
  unfold cutD
  rw [HT.sIx_none, HT.sIx_nat, List.drop_zero, Nat.sub_zero, Int.toNat_natCast]
  rw [List.take_eq_take_iff]
  omega
theorem cut_from {xs : List D} {k : Int} (h : 0 ≤ k) : cutD xs (some k) none = xs.drop k.toNat := by
  obtain ⟨m, rfl⟩ := Int.eq_ofNat_of_zero_le h
  unfold cutD
  rw [HT.sIx_none, HT.sIx_nat, Int.toNat_natCast]
  by_cases hm : m ≤ xs.length
  · rw [Nat.min_eq_left hm]
    exact List.take_of_length_le (by simp)
  · rw [Nat.min_eq_right (by omega), List.drop_of_length_le (Nat.le_refl _), List.drop_of_length_le (by omega)]
    simp
theorem cut_mid {xs : List D} {a b : Int} (h : 0 ≤ a) (h2 : 0 ≤ b) : cutD xs (some a) (some b) = (xs.take b.toNat).drop a.toNat := by
  obtain ⟨m, rfl⟩ := Int.eq_ofNat_of_zero_le h
  obtain ⟨k, rfl⟩ := Int.eq_ofNat_of_zero_le h2
  unfold cutD
  rw [HT.sIx_nat, HT.sIx_nat, Int.toNat_natCast, Int.toNat_natCast, List.drop_take]
  by_cases hm : m ≤ xs.length
  · rw [Nat.min_eq_left hm, List.take_eq_take_iff]
    rw [List.length_drop]
    omega
  · rw [Nat.min_eq_right (a := m) (by omega), List.drop_of_length_le (Nat.le_refl _), List.drop_of_length_le (by omega)]
    simp
@[simp] theorem sl_tup (xs : List D) (a b : Option Int) : sliceD (.tup xs) a b = some (.tup (cutD xs a b)) := nr rfl
@[simp] theorem sl_lst (xs : List D) (a b : Option Int) : sliceD (.lst xs) a b = some (.lst (cutD xs a b)) := nr rfl
@[simp] theorem sl_ro (xs : List D) (a b : Option Int) : sliceD (.ro xs) a b = some (.lst (cutD xs a b)) := nr rfl
/-! ### fractions -/
def frD (q : Rat) : D := .tup [.int q.num, .int (q.den : Nat)]
def Sz (n : Nat) (q : Rat) : Prop := q.num.natAbs < 2 ^ n ∧ q.den < 2 ^ n
theorem Sz.mono {n m : Nat} {q : Rat} (h : Sz n q) (hm : n ≤ m) : Sz m q :=
  ⟨Nat.lt_of_lt_of_le h.1 (Nat.pow_le_pow_right (by decide) hm), Nat.lt_of_lt_of_le h.2 (Nat.pow_le_pow_right (by decide) hm)⟩
theorem Sz.divInt {a b : Int} {n m : Nat} (ha : a.natAbs < 2 ^ n) (hb : b.natAbs < 2 ^ m) (hnm : m ≤ n) (h1 : 0 < n := by decide) : Sz n (Rat.divInt a b) := by
  constructor
  · rw [Rat.num_divInt]
    have h : (b.sign * a / (b.gcd a : Nat)).natAbs ≤ (b.sign * a).natAbs := by
      rw [Int.natAbs_ediv_of_dvd]
      · exact Nat.div_le_self _ _
      · exact Int.dvd_trans (Int.gcd_dvd_right ..) (Int.dvd_mul_left _ _)
    refine Nat.lt_of_le_of_lt h ?_
    rw [Int.natAbs_mul]
    have : b.sign.natAbs ≤ 1 := by
      rcases Int.sign_trichotomy b with h | h | h <;> rw [h] <;> decide
    calc b.sign.natAbs * a.natAbs ≤ 1 * a.natAbs := Nat.mul_le_mul_right _ this
      _ < 2 ^ n := by rw [Nat.one_mul]; exact ha
  · rw [Rat.den_divInt]
    split
    · exact Nat.one_lt_two_pow (by omega)
    · exact Nat.lt_of_le_of_lt (Nat.div_le_self _ _) (Nat.lt_of_lt_of_le hb (Nat.pow_le_pow_right (by decide) hnm))
theorem abs_mul_lt {a b : Int} {n m : Nat} (ha : a.natAbs < 2 ^ n) (hb : b.natAbs < 2 ^ m) : (a * b).natAbs < 2 ^ (n + m) := by
  rw [Int.natAbs_mul, Nat.pow_add]
  exact Nat.mul_lt_mul'' ha hb
theorem Sz.mul {a b : Rat} {n m : Nat} (ha : Sz n a) (hb : Sz m b) (h : 0 < n + m := by decide) : Sz (n + m) (a * b) := by
  rw [Rat.mul_def', ← Rat.divInt_ofNat]
  refine Sz.divInt (abs_mul_lt ha.1 hb.1) (m := n + m) ?_ (Nat.le_refl _) h
  rw [Int.natAbs_natCast, Nat.pow_add]
  exact Nat.mul_lt_mul'' ha.2 hb.2
theorem Sz.add {a b : Rat} {n m : Nat} (ha : Sz n a) (hb : Sz m b) : Sz (n + m + 1) (a + b) := by
  rw [Rat.add_def', ← Rat.divInt_ofNat]
  refine Sz.divInt ?_ (m := n + m) ?_ (Nat.le_succ _) (Nat.succ_pos _)
  · have h1 : (a.num * (b.den : Nat)).natAbs < 2 ^ (n + m) := abs_mul_lt ha.1 (by simpa using hb.2)
    have h2 : (b.num * (a.den : Nat)).natAbs < 2 ^ (n + m) := by rw [Nat.add_comm n m]; exact abs_mul_lt hb.1 (by simpa using ha.2)
    have := Int.natAbs_add_le (a.num * (b.den : Nat)) (b.num * (a.den : Nat))
    rw [Nat.pow_succ]
    omega
  · rw [Int.natAbs_natCast, Nat.pow_add]
    exact Nat.mul_lt_mul'' ha.2 hb.2
theorem Sz.neg {a : Rat} {n : Nat} (h : Sz n a) : Sz n (-a) := ⟨by rw [Rat.neg_num, Int.natAbs_neg]; exact h.1, h.2⟩
theorem Sz.zero : Sz 1 0 := by constructor <;> decide
theorem Sz.one : Sz 1 1 := by constructor <;> decide
/-- what a divisor takes away -/
theorem low_num {a b : Int} (hb : 0 < b) : a / ((Int.gcd a b : Nat) : Int) = (Rat.divInt a b).num := by
  rw [Rat.num_divInt, Int.sign_eq_one_of_pos hb, Int.one_mul, Int.gcd_comm]
theorem low_den {a b : Int} (hb : 0 < b) : b / ((Int.gcd a b : Nat) : Int) = (((Rat.divInt a b).den : Nat) : Int) := by
  rw [Rat.den_divInt, if_neg (by omega), Int.gcd_comm, Int.natCast_ediv, Int.natAbs_of_nonneg (by omega)]
/-- the greatest common divisor by a loop -/
theorem gcd_loop {p : Ex Bool} {m : Sm} {S : List Cell} (P : Int → Int → List Sl) (hp : ∀ h l, p (P h l) S = .ok (decide (0 < l)) S) (hm : ∀ h l, 0 < l → m (P h l) S = .nx (P l (h % l)) S) :
    ∀ (k n h l : Nat), h * l < 2 ^ k → l ≤ h → k < n → whileN p m n (P (h : Nat) (l : Nat)) S = .nx (P (Nat.gcd h l : Nat) 0) S := by
  intro k
  induction k with
  | zero =>
    intro n h l h1 h2 h3
    obtain ⟨n, rfl⟩ : ∃ j, n = j + 1 := ⟨n - 1, by omega⟩
    have hl : l = 0 := by
      cases l with
      | zero => rfl
      | succ l =>
        have : 1 * 1 ≤ h * (l + 1) := Nat.mul_le_mul (by omega) (by omega)
        omega
    subst hl
    unfold whileN
    rw [hp, go_ok, if_neg (by simp), Nat.gcd_zero_right]
    rfl
  | succ k ih =>
    intro n h l h1 h2 h3
    obtain ⟨n, rfl⟩ : ∃ j, n = j + 1 := ⟨n - 1, by omega⟩
    unfold whileN
    rw [hp, go_ok]
    by_cases hl : l = 0
    · subst hl
      rw [if_neg (by simp), Nat.gcd_zero_right]
      rfl
    · rw [if_pos (by simp; omega), hm _ _ (by omega)]
      dsimp only
      have hr : h % l < l := Nat.mod_lt _ (by omega)
      have e : ((h : Int) % (l : Int)) = ((h % l : Nat) : Int) := rfl
      rw [e, ih n l (h % l) ?_ (by omega) (by omega), Nat.gcd_comm l, ← Nat.gcd_rec l h, Nat.gcd_comm]
      have h4 : 2 * (h % l) ≤ h := by
        have q1 : 1 ≤ h / l := (Nat.le_div_iff_mul_le (by omega)).mpr (by omega)
        have q2 := Nat.div_add_mod h l
        have q3 : l * 1 ≤ l * (h / l) := Nat.mul_le_mul_left _ q1
        omega
      have h5 : 2 * (l * (h % l)) ≤ h * l := by
        calc 2 * (l * (h % l)) = l * (2 * (h % l)) := by rw [← Nat.mul_assoc, Nat.mul_comm 2 l, Nat.mul_assoc]
          _ ≤ l * h := Nat.mul_le_mul_left _ h4
          _ = h * l := Nat.mul_comm _ _
      rw [Nat.pow_succ] at h1
      omega
theorem gcd_while {p : Ex Bool} {m : Sm} {S : List Cell} (P : Int → Int → List Sl) (hp : ∀ h l, p (P h l) S = .ok (decide (0 < l)) S) (hm : ∀ h l, 0 < l → m (P h l) S = .nx (P l (h % l)) S)
    {k n h l : Nat} (h1 : h < 2 ^ k) (h2 : l < 2 ^ k) (h3 : 2 * k + 1 < n) : whileN p m n (P (h : Nat) (l : Nat)) S = .nx (P (Nat.gcd h l : Nat) 0) S := by
  have hm2 : ∀ {a b : Nat}, a < 2 ^ k → b < 2 ^ k → a * b < 2 ^ (2 * k) := fun ha hb => by
    rw [Nat.two_mul, Nat.pow_add]
    exact Nat.mul_lt_mul'' ha hb
  by_cases hl : l ≤ h
  · exact gcd_loop P hp hm (2 * k) n h l (hm2 h1 h2) hl (by omega)
  · obtain ⟨n, rfl⟩ : ∃ j, n = j + 1 := ⟨n - 1, by omega⟩
    unfold whileN
    rw [hp, go_ok, if_pos (by simp; omega), hm _ _ (by omega)]
    dsimp only
    have e : ((h : Int) % (l : Int)) = ((h : Nat) : Int) := Int.emod_eq_of_lt (by omega) (by omega)
    rw [e, gcd_loop P hp hm (2 * k) n l h (hm2 h2 h1) (by omega) (by omega), Nat.gcd_comm]
/-! ### the store -/
/-- all cells but one stand as they stood -/
def Kp (n : Nat) (S S' : List Cell) : Prop := S.length ≤ S'.length ∧ ∀ m, m ≠ n → m < S.length → S'[m]? = S[m]?
theorem Kp.refl {n : Nat} {S : List Cell} : Kp n S S := ⟨Nat.le_refl _, fun _ _ _ => rfl⟩
theorem Kp.trans {n : Nat} {S S1 S2 : List Cell} (a : Kp n S S1) (b : Kp n S1 S2) : Kp n S S2 := ⟨Nat.le_trans a.1 b.1, fun m h h' => (b.2 m h (Nat.lt_of_lt_of_le h' a.1)).trans (a.2 m h h')⟩
theorem Kp.set {n : Nat} {S : List Cell} {c : Cell} : Kp n S (S.set n c) := ⟨by simp, fun m h _ => by rw [List.getElem?_set_ne (Ne.symm h)]⟩
theorem Kp.app {n : Nat} {S T : List Cell} : Kp n S (S ++ T) := ⟨by simp, fun m _ h => List.getElem?_append_left h⟩
theorem get_set {S : List Cell} {n : Nat} {c c' : Cell} (h : S[n]? = some c) : (S.set n c')[n]? = some c' := by
  have hl := (List.getElem?_eq_some_iff.mp h).1
  simp [hl]
theorem put_at {S : List Cell} {n : Nat} {xs : List D} {d : D} {j : Int} {m : Nat} (h : S[n]? = some (.lst xs)) (hj : ixN xs.length j = some m) : putC (.cell n) (.int j) d S = some (S.set n (.lst (xs.set m d))) := by
  show (match S[n]? with | some (.lst xs) => (ixN xs.length j).map fun m => S.set n (.lst (xs.set m d)) | _ => none) = _
  rw [h]
  dsimp only
  rw [hj]
  rfl
theorem put_fld {ft : List (Str × Str)} {f c : Str} {n : Nat} {d : D} {S : List Cell} {ns : List Str} {xs : List D} (h : S[n]? = some (.ins c ns xs)) (ht : (ft.contains (c, f) && decide (ns.length < 900) && decide (xs.length = ns.length)) = true) : putFld ft f (.cell n) d S = some (S.set n (.ins c (putNs f ns) (putXs f d ns xs))) := by
  simp only [putFld, h]
  rw [if_pos ht]
theorem made_fz {c : Str} {n : Nat} {S2 : List Cell} {ns : List Str} {ys : List D} (h : S2[n]? = some (.ins c ns ys)) : madeR c true n (.ok .non S2) = .ok (.obj c ns ys) (S2.set n .dead) := by
  simp only [madeR, h, if_true]
theorem made_cl {c : Str} {n : Nat} {S2 : List Cell} {ns : List Str} {ys : List D} (h : S2[n]? = some (.ins c ns ys)) : madeR c false n (.ok .non S2) = .ok (.cell n) S2 := by
  simp only [madeR, h, if_true]
  rw [if_neg (by simp)]
@[simp] theorem made_ex {c : Str} {fz : Bool} {n : Nat} (c' : Str) (ns : List Str) (es : List D) (S : List Cell) : madeR c fz n (.ex c' ns es S) = .ex c' ns es S := nr rfl
end DL

/-! DM: plain data compared and shown. -/
namespace DL
open PySem PySem.Spec L2
open PyProof.Rows hiding St

/-- plain data, at most n deep, numbers of at most b bits -/
def Pl (b : Nat) : Nat → D → Prop
  | _, .non => True
  | _, .bl _ => True
  | _, .int i => i.natAbs.log2 < b
  | _, .str s => PyData.strOk s = true
  | n + 1, .tup xs => ∀ x ∈ xs, Pl b n x
  | n + 1, .lst xs => ∀ x ∈ xs, Pl b n x
  | n + 1, .ro xs => ∀ x ∈ xs, Pl b n x
  | _, _ => False
/-- plain data for comparing: numbers of any size -/
def Pq : Nat → D → Prop
  | _, .non => True
  | _, .bl _ => True
  | _, .int i => True
  | _, .str s => PyData.strOk s = true
  | n + 1, .tup xs => ∀ x ∈ xs, Pq n x
  | n + 1, .lst xs => ∀ x ∈ xs, Pq n x
  | n + 1, .ro xs => ∀ x ∈ xs, Pq n x
  | _, _ => False
@[simp] theorem Pl_non (b n : Nat) : Pl b n .non = True := by cases n <;> rfl
@[simp] theorem Pl_bl (b n : Nat) (v : Bool) : Pl b n (.bl v) = True := by cases n <;> rfl
@[simp] theorem Pl_int (b n : Nat) (i : Int) : Pl b n (.int i) = (i.natAbs.log2 < b) := by cases n <;> rfl
@[simp] theorem Pl_str (b n : Nat) (s : Str) : Pl b n (.str s) = (PyData.strOk s = true) := by cases n <;> rfl
@[simp] theorem Pl_tup (b n : Nat) (xs : List D) : Pl b (n + 1) (.tup xs) = ∀ x ∈ xs, Pl b n x := rfl
@[simp] theorem Pl_lst (b n : Nat) (xs : List D) : Pl b (n + 1) (.lst xs) = ∀ x ∈ xs, Pl b n x := rfl
@[simp] theorem Pq_non (n : Nat) : Pq n .non = True := by cases n <;> rfl
@[simp] theorem Pq_bl (n : Nat) (b : Bool) : Pq n (.bl b) = True := by cases n <;> rfl
@[simp] theorem Pq_int (n : Nat) (i : Int) : Pq n (.int i) = True := by cases n <;> rfl
@[simp] theorem Pq_str (n : Nat) (s : Str) : Pq n (.str s) = (PyData.strOk s = true) := by cases n <;> rfl
@[simp] theorem Pq_tup (n : Nat) (xs : List D) : Pq (n + 1) (.tup xs) = ∀ x ∈ xs, Pq n x := rfl
@[simp] theorem Pq_lst (n : Nat) (xs : List D) : Pq (n + 1) (.lst xs) = ∀ x ∈ xs, Pq n x := rfl
theorem log2_small {i : Int} (n : Nat) {b : Nat} (h : i.natAbs < 2 ^ n) (hn : 0 < n := by decide) (h2 : n ≤ b := by decide) : i.natAbs.log2 < b := Nat.lt_of_lt_of_le (log2_lt h hn) h2
mutual
/-- the weight of plain data -/
def wt : D → Nat
  | .int i => if i == 0 then 0 else i.natAbs.log2 + 1
  | .str s => s.cps.size
  | .tup xs => wts xs
  | .lst xs => wts xs
  | .ro xs => wts xs
  | _ => 0
def wts : List D → Nat
  | [] => 0
  | x :: xs => wt x + 1 + wts xs
end
@[simp] theorem wts_nil : wts [] = 0 := rfl
@[simp] theorem wts_cons (x : D) (xs : List D) : wts (x :: xs) = wt x + 1 + wts xs := rfl
@[simp] theorem wt_tup (xs : List D) : wt (.tup xs) = wts xs := rfl
@[simp] theorem wt_lst (xs : List D) : wt (.lst xs) = wts xs := rfl
@[simp] theorem wt_non : wt .non = 0 := rfl
@[simp] theorem wt_bl (b : Bool) : wt (.bl b) = 0 := rfl
@[simp] theorem wt_str (s : Str) : wt (.str s) = s.cps.size := rfl
theorem wts_app (xs ys : List D) : wts (xs ++ ys) = wts xs + wts ys := by
  induction xs with
  | nil => simp
  | cons x r ih => simp [ih]; omega
theorem wts_le {xs : List D} {b : Nat} (h : ∀ x ∈ xs, wt x ≤ b) : wts xs ≤ xs.length * (b + 1) := by
  induction xs with
  | nil => simp
  | cons x r ih =>
    have h1 := h x (by simp)
    have h2 := ih fun y hy => h y (by simp [hy])
    rw [wts_cons, List.length_cons, Nat.succ_mul]
    omega
theorem wt_int_le {i : Int} {n : Nat} (h : i.natAbs < 2 ^ n) (hn : 0 < n := by decide) : wt (.int i) ≤ n := by
  show (if (i == 0) = true then 0 else i.natAbs.log2 + 1) ≤ n
  have := log2_lt h hn
  split <;> omega
theorem Pl.pq {b : Nat} : ∀ (n : Nat) (d : D), Pl b n d → Pq n d := by
  intro n
  induction n with
  | zero => intro d h; cases d <;> first | exact h | exact True.intro
  | succ n ih =>
    intro d h
    cases d with
    | tup xs => exact fun x hx => ih x (h x hx)
    | lst xs => exact fun x hx => ih x (h x hx)
    | ro xs => exact fun x hx => ih x (h x hx)
    | int i => exact True.intro
    | _ => exact h
theorem pq_toP {b : Nat} (hb : 7 ≤ b ∧ b ≤ 1900) : ∀ (n : Nat) (d : D), Pq n d → ∃ p, toP d = some p ∧ p.canLay0 = true ∧ p.depth ≤ n ∧ p.hasDict = false ∧ p.weight = wt d ∧ PyData.eqv p p = true ∧ (Pl b n d → p.showable = true ∧ p.leavesShort (b + 1) = true) := by
  have lists : ∀ (n : Nat), (∀ (d : D), Pq n d → ∃ p, toP d = some p ∧ p.canLay0 = true ∧ p.depth ≤ n ∧ p.hasDict = false ∧ p.weight = wt d ∧ PyData.eqv p p = true ∧ (Pl b n d → p.showable = true ∧ p.leavesShort (b + 1) = true)) →
      ∀ (xs : List D), (∀ x ∈ xs, Pq n x) → ∃ ps, toPs xs = some ps ∧ PyData.canLayAll0 ps = true ∧ PyData.depthAll ps ≤ n ∧ PyData.hasDictAll ps = false ∧ PyData.weightAll ps = wts xs ∧ PyData.eqvAll ps ps = true ∧ ((∀ x ∈ xs, Pl b n x) → PyData.showableAll ps = true ∧ PyData.leavesShortAll (b + 1) ps = true) := by
    intro n ih xs
    induction xs with
    | nil => intro _; exact ⟨[], rfl, rfl, Nat.zero_le _, rfl, rfl, rfl, fun _ => ⟨rfl, rfl⟩⟩
    | cons x r ihr =>
      intro h
      obtain ⟨p, a1, a2, a3, a4, a5, a6, a7⟩ := ih x (h x (by simp))
      obtain ⟨ps, b1, b2, b3, b4, b5, b6, b7⟩ := ihr fun y hy => h y (by simp [hy])
      refine ⟨p :: ps, ?_, ?_, ?_, ?_, ?_, ?_, fun hp => ?_⟩
      · unfold toPs; rw [a1, b1]
      · unfold PyData.canLayAll0; rw [a2, b2]; rfl
      · unfold PyData.depthAll; omega
      · unfold PyData.hasDictAll; rw [a4, b4]; rfl
      · unfold PyData.weightAll; rw [a5, b5]; rfl
      · unfold PyData.eqvAll; rw [a6, b6]; rfl
      · obtain ⟨c1, c2⟩ := a7 (hp x (by simp))
        obtain ⟨c3, c4⟩ := b7 fun y hy => hp y (by simp [hy])
        unfold PyData.showableAll PyData.leavesShortAll
        rw [c1, c2, c3, c4]
        exact ⟨rfl, rfl⟩
  have leaf : ∀ (n : Nat) (d : D), (∀ xs, d ≠ .tup xs) → (∀ xs, d ≠ .lst xs) → (∀ xs, d ≠ .ro xs) → Pq n d → ∃ p, toP d = some p ∧ p.canLay0 = true ∧ p.depth ≤ n ∧ p.hasDict = false ∧ p.weight = wt d ∧ PyData.eqv p p = true ∧ (Pl b n d → p.showable = true ∧ p.leavesShort (b + 1) = true) := by
    intro n d h1 h2 h3 h
    cases d with
    | non => exact ⟨.none, rfl, rfl, Nat.zero_le _, rfl, rfl, rfl, fun _ => ⟨rfl, rfl⟩⟩
    | bl v => exact ⟨.bool v, rfl, rfl, Nat.zero_le _, rfl, rfl, by cases v <;> rfl, fun _ => ⟨rfl, rfl⟩⟩
    | int i =>
      refine ⟨.int i, rfl, rfl, Nat.zero_le _, rfl, rfl, by show (i == i) = true; simp, fun hp => ?_⟩
      have hp : i.natAbs.log2 < b := by simpa using hp
      refine ⟨decide_eq_true (by omega), ?_⟩
      have := int_text_length_le (a := i) (k := b) (by omega) hp
      rw [← PySem.ofString_length] at this
      exact decide_eq_true this
    | str s =>
      have hs : PyData.strOk s = true := by simpa using h
      refine ⟨.str s, rfl, hs, Nat.zero_le _, rfl, rfl, by show (s == s) = true; simp, fun hp => ⟨rfl, ?_⟩⟩
      have := PyData.leavesShort_of_canLay0 (b + 1) (.str s) hs rfl
      exact this
    | tup xs => exact absurd rfl (h1 xs)
    | lst xs => exact absurd rfl (h2 xs)
    | ro xs => exact absurd rfl (h3 xs)
    | _ => cases n <;> exact h.elim
  intro n
  induction n with
  | zero =>
    intro d h
    refine leaf 0 d (fun xs e => ?_) (fun xs e => ?_) (fun xs e => ?_) h <;> subst e <;> exact h.elim
  | succ n ih =>
    intro d h
    cases d with
    | tup xs =>
      obtain ⟨ps, b1, b2, b3, b4, b5, b6, b7⟩ := lists n ih xs h
      exact ⟨.tuple ps, by unfold toP; rw [b1]; rfl, b2, by show PyData.depthAll ps + 1 ≤ n + 1; omega, b4, b5, b6, fun hp => b7 hp⟩
    | lst xs =>
      obtain ⟨ps, b1, b2, b3, b4, b5, b6, b7⟩ := lists n ih xs h
      exact ⟨.list ps, by unfold toP; rw [b1]; rfl, b2, by show PyData.depthAll ps + 1 ≤ n + 1; omega, b4, b5, b6, fun hp => b7 hp⟩
    | ro xs =>
      obtain ⟨ps, b1, b2, b3, b4, b5, b6, b7⟩ := lists n ih xs h
      exact ⟨.list ps, by unfold toP; rw [b1]; rfl, b2, by show PyData.depthAll ps + 1 ≤ n + 1; omega, b4, b5, b6, fun hp => b7 hp⟩
    | _ => exact leaf (n + 1) _ (fun _ e => by cases e) (fun _ e => by cases e) (fun _ e => by cases e) h
theorem repr_ok {b : Nat} {d : D} (h : Pl b 50 d) (hw : (b + 3) * wt d ≤ 16000000) (hb : 7 ≤ b ∧ b ≤ 1900 := by decide) : ∃ s, ∀ S, reprD [d] S = some (.str s) := by
  obtain ⟨p, a1, a2, a3, a4, a5, a6, a7⟩ := pq_toP hb 50 d (Pl.pq _ _ h)
  obtain ⟨c1, c2⟩ := a7 h
  refine ⟨p.shown, fun S => ?_⟩
  show (match toP d with | some p => if okShow p then some (D.str p.shown) else none | none => none) = _
  rw [a1]
  dsimp only
  rw [if_pos]
  unfold okShow
  have hl := PyData.shown_le (b + 1) (by omega) p c2
  rw [a5, show b + 1 + 2 = b + 3 by omega] at hl
  rw [c1, a4]
  simp only [Bool.not_false, Bool.and_true, Bool.and_eq_true, decide_eq_true_eq]
  exact ⟨⟨trivial, by omega⟩, Nat.le_trans (show _ ≤ 16777216 by omega) (Nat.le_of_eq rfl)⟩
/-! ### equality by data -/
def eqv2 (x y : D) : Option Bool := match toP x, toP y with
  | some p, some q => some (PyData.eqv p q)
  | _, _ => none
theorem eqA_of {n : Nat} {x y : D} (hx : Pq n x) (hy : Pq n y) (hn : n ≤ 60) : eqA x y = eqv2 x y := by
  obtain ⟨p, a1, a2, a3, _⟩ := pq_toP (b := 7) (by decide) n x hx
  obtain ⟨q, b1, b2, b3, _⟩ := pq_toP (b := 7) (by decide) n y hy
  have key : eqP x y = eqv2 x y := by
    unfold eqP eqv2
    rw [a1, b1]
    dsimp only
    rw [if_pos]
    unfold SeqAt.shaped
    rw [a2, b2]
    simp
    omega
  cases x with
  | str a =>
    cases y with
    | str c =>
      show some (decide (a = c)) = some (a == c)
      by_cases h : a = c <;> simp [h]
    | _ => exact key
  | _ => exact key
theorem eq_refl {n : Nat} {x : D} (S : List Cell) (hx : Pq n x) (hn : n ≤ 60 := by decide) : eqD x x S = some (.bl true) := by
  show (eqA x x).map D.bl = _
  rw [eqA_of hx hx hn]
  obtain ⟨p, a1, _, _, _, _, a6, _⟩ := pq_toP (b := 7) (by decide) n x hx
  unfold eqv2
  rw [a1]
  dsimp only
  rw [a6]
  rfl
theorem ne_refl {n : Nat} {x : D} (S : List Cell) (hx : Pq n x) (hn : n ≤ 60 := by decide) : neD x x S = some (.bl false) := by
  have := eq_refl S hx hn
  show (eqA x x).map (fun b => D.bl (!b)) = _
  have h : (eqA x x).map D.bl = some (.bl true) := this
  cases he : eqA x x with
  | none => rw [he] at h; cases h
  | some b => rw [he] at h; cases h; rfl
theorem toPs_ints (xs : List Int) : toPs (xs.map D.int) = some (xs.map PyData.int) := by
  induction xs with
  | nil => rfl
  | cons x r ih => rw [List.map_cons]; unfold toPs; rw [ih]; rfl
theorem eqvAll_ints : ∀ (xs ys : List Int), PyData.eqvAll (xs.map .int) (ys.map .int) = decide (xs = ys)
  | [], [] => rfl
  | [], y :: ys => by simp [PyData.eqvAll]
  | x :: xs, [] => by simp [PyData.eqvAll]
  | x :: xs, y :: ys => by
    rw [List.map_cons, List.map_cons]
    unfold PyData.eqvAll
    rw [eqvAll_ints xs ys]
    show ((x == y) && _) = _
    by_cases h : x = y <;> simp [h]
theorem pq_ints {n : Nat} (xs : List Int) : Pq (n + 1) (.lst (xs.map .int)) := fun x hx => by
  obtain ⟨i, _, rfl⟩ := List.mem_map.mp hx
  simp
theorem pq_intsT {n : Nat} (xs : List Int) : Pq (n + 1) (.tup (xs.map .int)) := fun x hx => by
  obtain ⟨i, _, rfl⟩ := List.mem_map.mp hx
  simp
theorem eqA_lints (xs ys : List Int) : eqA (.lst (xs.map .int)) (.lst (ys.map .int)) = some (decide (xs = ys)) := by
  rw [eqA_of (pq_ints (n := 0) xs) (pq_ints (n := 0) ys) (by decide)]
  unfold eqv2 toP
  rw [toPs_ints, toPs_ints]
  show some (PyData.eqvAll (xs.map .int) (ys.map .int)) = _
  rw [eqvAll_ints]
theorem eqA_tints (xs ys : List Int) : eqA (.tup (xs.map .int)) (.tup (ys.map .int)) = some (decide (xs = ys)) := by
  rw [eqA_of (pq_intsT (n := 0) xs) (pq_intsT (n := 0) ys) (by decide)]
  unfold eqv2 toP
  rw [toPs_ints, toPs_ints]
  show some (PyData.eqvAll (xs.map .int) (ys.map .int)) = _
  rw [eqvAll_ints]
theorem eq_lints (xs ys : List Int) (S : List Cell) : eqD (.lst (xs.map .int)) (.lst (ys.map .int)) S = some (.bl (decide (xs = ys))) := by
  show (eqA _ _).map _ = _
  rw [eqA_lints]; rfl
theorem ne_lints (xs ys : List Int) (S : List Cell) : neD (.lst (xs.map .int)) (.lst (ys.map .int)) S = some (.bl (!decide (xs = ys))) := by
  show (eqA _ _).map _ = _
  rw [eqA_lints]; rfl
theorem ne_lints0 (xs : List Int) (S : List Cell) : neD (.lst (xs.map .int)) (.lst []) S = some (.bl (!decide (xs = []))) := ne_lints xs [] S
theorem eq_tints (xs ys : List Int) (S : List Cell) : eqD (.tup (xs.map .int)) (.tup (ys.map .int)) S = some (.bl (decide (xs = ys))) := by
  show (eqA _ _).map _ = _
  rw [eqA_tints]; rfl
theorem ne_tints (xs ys : List Int) (S : List Cell) : neD (.tup (xs.map .int)) (.tup (ys.map .int)) S = some (.bl (!decide (xs = ys))) := by
  show (eqA _ _).map _ = _
  rw [eqA_tints]; rfl
/-- lists of truths -/
theorem toPs_bls (xs : List Bool) : toPs (xs.map D.bl) = some (xs.map PyData.bool) := by
  induction xs with
  | nil => rfl
  | cons x r ih => rw [List.map_cons]; unfold toPs; rw [ih]; rfl
theorem eqvAll_bls : ∀ (xs ys : List Bool), PyData.eqvAll (xs.map .bool) (ys.map .bool) = decide (xs = ys)
  | [], [] => rfl
  | [], y :: ys => by simp [PyData.eqvAll]
  | x :: xs, [] => by simp [PyData.eqvAll]
  | x :: xs, y :: ys => by
    rw [List.map_cons, List.map_cons]
    unfold PyData.eqvAll
    rw [eqvAll_bls xs ys]
    show ((x == y) && _) = _
    by_cases h : x = y <;> simp [h]
theorem pq_bls {n : Nat} (xs : List Bool) : Pq (n + 1) (.lst (xs.map .bl)) := fun x hx => by
  obtain ⟨i, _, rfl⟩ := List.mem_map.mp hx
  simp
/-! ### fractions compared -/
theorem fr_inj {a b : Rat} : frD a = frD b ↔ a = b := by
  constructor
  · intro h
    unfold frD at h
    injection h with h
    injection h with h1 h2
    injection h2 with h2
    injection h1 with h1
    injection h2 with h2
    exact Rat.ext h1 (by omega)
  · intro h; rw [h]
theorem eq_fr (a b : Rat) (S : List Cell) : eqD (frD a) (frD b) S = some (.bl (decide (a = b))) := by
  have := eq_tints [a.num, (a.den : Nat)] [b.num, (b.den : Nat)] S
  show eqD (.tup ([a.num, (a.den : Nat)].map .int)) (.tup ([b.num, (b.den : Nat)].map .int)) S = _
  rw [this]
  congr 2
  rw [decide_eq_decide]
  constructor
  · intro h
    injection h with h1 h2
    injection h2 with h2
    exact Rat.ext h1 (by omega)
  · intro h; rw [h]
theorem pl_fr {b n m : Nat} {a : Rat} (h : Sz m a) (hm : 0 < m := by decide) (h2 : m ≤ b := by decide) : Pl b (n + 1) (frD a) := by
  intro x hx
  simp only [frD, List.mem_cons, List.not_mem_nil, or_false] at hx
  rcases hx with rfl | rfl
  · rw [Pl_int]; exact log2_small m h.1 hm h2
  · rw [Pl_int]; exact log2_small m (by simpa using h.2) hm h2
theorem wt_fr {m : Nat} {a : Rat} (h : Sz m a) (hm : 0 < m := by decide) : wt (frD a) ≤ 2 * m + 2 := by
  have h1 := wt_int_le h.1 hm
  have h2 := wt_int_le (i := (a.den : Nat)) (n := m) (by simpa using h.2) hm
  simp only [frD, wt_tup, wts_cons, wts_nil]
  omega
theorem pq_fr {n : Nat} (a : Rat) : Pq (n + 1) (frD a) := by
  intro x hx
  simp only [frD, List.mem_cons, List.not_mem_nil, or_false] at hx
  rcases hx with rfl | rfl <;> simp
end DL
namespace DL
open PySem PySem.Spec L2
open PyProof.Rows hiding St
@[simp] theorem ix_fr0 (q : Rat) (S : List Cell) : ixD (frD q) (.int 0) S = some (.int q.num) := by unfold frD; rw [ix_tup, at_0]
@[simp] theorem ix_fr1 (q : Rat) (S : List Cell) : ixD (frD q) (.int 1) S = some (.int (q.den : Nat)) := by unfold frD; rw [ix_tup, at_1]
theorem inFl_ints (i : Int) (xs : List Int) : inFl (.int i) (xs.map .int) = decide (i ∈ xs) := by
  unfold inFl
  induction xs with
  | nil => simp
  | cons x r ih =>
    rw [List.map_cons, List.any_cons, ih]
    show ((x == i) || decide (i ∈ r)) = _
    by_cases h : x = i
    · simp [h]
    · have h' : ¬ i = x := fun z => h z.symm
      simp [h, h']
theorem in_lints (i : Int) (xs : List Int) (S : List Cell) : inD false (.int i) (.lst (xs.map .int)) S = some (.bl (decide (i ∈ xs))) := by
  show (if _ = true then some (D.bl (if false = true then _ else inFl (.int i) (xs.map .int))) else none) = _
  rw [if_pos, inFl_ints]
  · rfl
  · simp [flatD]
theorem in_lnats (i : Nat) (xs : List Nat) (S : List Cell) : inD false (.int (i : Nat)) (.lst (xs.map fun k : Nat => .int (k : Nat))) S = some (.bl (decide (i ∈ xs))) := by
  have : (xs.map fun k : Nat => D.int (k : Nat)) = (xs.map fun k : Nat => (k : Int)).map D.int := by rw [List.map_map]; rfl
  rw [this, in_lints]
  congr 2
  rw [decide_eq_decide]
  simp only [List.mem_map]
  constructor
  · rintro ⟨a, h, e⟩
    have : a = i := by omega
    subst this
    exact h
  · intro h
    exact ⟨i, h, rfl⟩
theorem pq_lbls {n : Nat} {α : Type} (f : α → Bool) (xs : List α) : Pq (n + 1) (.lst (xs.map fun x => .bl (f x))) := fun x hx => by
  obtain ⟨i, _, rfl⟩ := List.mem_map.mp hx
  simp
end DL
namespace DL
@[simp] theorem ne_ll0 (S : List Cell) : neD (.lst []) (.lst []) S = some (.bl false) := nr rfl
@[simp] theorem eq_ll0 (S : List Cell) : eqD (.lst []) (.lst []) S = some (.bl true) := nr rfl
end DL

/-! DN: frames as numbers; rows that are ordered. -/
namespace DL
open PySem PySem.Spec L2
open PyProof.Rows hiding St

/-- a degree and knots of a frame -/
structure Frm (g : Nat) (ks : List Int) : Prop where
  hg : g ≤ 4
  lo : g + 2 ≤ ks.length
  hi : ks.length ≤ g + 11
  mono : ∀ i j, i ≤ j → j < ks.length → kt ks i ≤ kt ks j
  gap : ∀ i, i + g + 1 < ks.length → kt ks i < kt ks (i + g + 1)
  nn : ∀ i, i < ks.length → 0 ≤ kt ks i
  ub : ∀ i, i < ks.length → kt ks i ≤ 1000000
def Mono (ks : List Int) : Prop := ∀ i j, i ≤ j → j < ks.length → kt ks i ≤ kt ks j
theorem kt_get {ks : List Int} {i : Nat} (h : i < ks.length) : kt ks i = ks[i] := by
  unfold kt; simp [h]
theorem kt_app1 {xs ys : List Int} {i : Nat} (h : i < xs.length) : kt (xs ++ ys) i = kt xs i := by
  rw [kt_get (by simp; omega), kt_get h, List.getElem_append_left]
theorem kt_app2 {xs ys : List Int} {i : Nat} (h : xs.length ≤ i) (h2 : i < xs.length + ys.length) : kt (xs ++ ys) i = kt ys (i - xs.length) := by
  rw [kt_get (by simp; omega), kt_get (by omega), List.getElem_append_right h]
theorem kt_take {xs : List Int} {i n : Nat} (h : i < n) (h2 : i < xs.length) : kt (xs.take n) i = kt xs i := by
  rw [kt_get (by simp; omega), kt_get h2, List.getElem_take]
theorem kt_drop {xs : List Int} {i n : Nat} (h : n + i < xs.length) : kt (xs.drop n) i = kt xs (n + i) := by
  rw [kt_get (by simp; omega), kt_get h, List.getElem_drop]
theorem kt_map {xs : List Int} {i : Nat} (f : Int → Int) (h : i < xs.length) : kt (xs.map f) i = f (kt xs i) := by
  rw [kt_get (by simpa using h), kt_get h, List.getElem_map]
theorem kt_rep {x : Int} {n i : Nat} (h : i < n) : kt (List.replicate n x) i = x := by
  rw [kt_get (by simpa using h), List.getElem_replicate]
theorem kt_mem_iff {ks : List Int} {x : Int} : x ∈ ks ↔ ∃ i, i < ks.length ∧ kt ks i = x := by
  constructor
  · intro h
    obtain ⟨i, hi, e⟩ := List.getElem_of_mem h
    exact ⟨i, hi, by rw [kt_get hi, e]⟩
  · rintro ⟨i, hi, rfl⟩
    exact kt_mem hi
theorem mono_of_pairwise {ks : List Int} (h : ks.Pairwise (· ≤ ·)) : Mono ks := by
  intro i j hij hj
  rw [kt_get (by omega), kt_get hj]
  rcases Nat.lt_or_eq_of_le hij with h' | h'
  · exact List.pairwise_iff_getElem.mp h i j (by omega) hj h'
  · subst h'; exact Int.le_refl _
theorem sortI_mono (xs : List Int) : Mono (sortI xs) := by
  refine mono_of_pairwise ?_
  have := List.pairwise_mergeSort (le := fun a b : Int => decide (a ≤ b)) (fun a b c h1 h2 => by simp at h1 h2 ⊢; omega) (fun a b => by simp; omega) xs
  exact this.imp fun h => by simpa using h
theorem sortI_length (xs : List Int) : (sortI xs).length = xs.length := List.length_mergeSort xs
theorem sortI_mem {xs : List Int} {x : Int} : x ∈ sortI xs ↔ x ∈ xs := List.mem_mergeSort
theorem srt_ints (xs : List Int) (S : List Cell) : sortedD [.lst (xs.map .int)] S = some (.lst ((sortI xs).map .int)) := by
  show (intsOf (xs.map D.int)).map _ = _
  rw [intsOf_map]
  rfl
/-- the tail one more from p on -/
def fixAt (ks : List Int) (p : Nat) : List Int := ks.take p ++ (ks.drop p).map (· + 1)
theorem fixAt_length (ks : List Int) (p : Nat) : (fixAt ks p).length = ks.length := by
  unfold fixAt
  simp
  omega
theorem kt_fixAt {ks : List Int} {p i : Nat} (h : i < ks.length) : kt (fixAt ks p) i = if i < p then kt ks i else kt ks i + 1 := by
  unfold fixAt
  by_cases hp : i < p
  · rw [if_pos hp, kt_app1 (by simp; omega), kt_take hp h]
  · rw [if_neg hp, kt_app2 (by simp; omega) (by simp; omega), List.length_take, Nat.min_eq_left (by omega), kt_map _ (by simp; omega), kt_drop (by omega)]
    congr 2
    omega
theorem fixAt_mono {ks : List Int} {p : Nat} (h : Mono ks) : Mono (fixAt ks p) := by
  intro i j hij hj
  rw [fixAt_length] at hj
  rw [kt_fixAt (by omega), kt_fixAt hj]
  have := h i j hij hj
  split <;> split <;> omega
theorem first_of {p : Nat → Bool} {m : Nat} {v : Nat} {r : List Nat} (h : (List.range m).filter p = v :: r) : v < m ∧ p v = true ∧ ∀ j, j < v → p j = false := by
  have hv : v ∈ (List.range m).filter p := by rw [h]; simp
  rw [List.mem_filter, List.mem_range] at hv
  refine ⟨hv.1, hv.2, fun j hj => ?_⟩
  cases hp : p j with
  | false => rfl
  | true =>
    have hm : j ∈ (List.range m).filter p := by rw [List.mem_filter, List.mem_range]; exact ⟨by omega, hp⟩
    have ps : ((List.range m).filter p).Pairwise (· < ·) := List.pairwise_lt_range.filter _
    rw [h] at ps hm
    rcases List.mem_cons.mp hm with e | e
    · omega
    · have := (List.pairwise_cons.mp ps).1 j e
      omega
theorem nats_ints (xs : List Nat) : xs.map (fun k => D.int (k : Nat)) = (xs.map fun k : Nat => (k : Int)).map D.int := by rw [List.map_map]; rfl
end DL
namespace DL
open PySem PySem.Spec L2
open PyProof.Rows hiding St
/-! ### rows without gaps -/
theorem conv_list {p : Nat → Bool} : ∀ n : Nat, (∀ a b c, a ≤ b → b ≤ c → c < n → p a = true → p c = true → p b = true) → ∃ a l, (List.range n).filter p = List.range' a l
  | 0, _ => ⟨0, 0, rfl⟩
  | n + 1, h => by
    obtain ⟨a, l, e⟩ := conv_list n fun a b c h1 h2 h3 => h a b c h1 h2 (by omega)
    rw [List.range_succ, List.filter_append, e]
    cases hp : p n with
    | false => exact ⟨a, l, by simp [hp]⟩
    | true =>
      rcases Nat.eq_zero_or_pos l with rfl | hl
      · exact ⟨n, 1, by simp [hp, List.range']⟩
      · have ma : a ∈ (List.range n).filter p := by rw [e, List.mem_range'_1]; omega
        rw [List.mem_filter, List.mem_range] at ma
        have mz : a + l - 1 ∈ (List.range n).filter p := by rw [e, List.mem_range'_1]; omega
        rw [List.mem_filter, List.mem_range] at mz
        have hn : a + l = n := by
          rcases Nat.lt_or_ge (a + l) n with q | q
          · have pb := h a (a + l) n (by omega) (by omega) (by omega) ma.2 hp
            have : a + l ∈ (List.range n).filter p := by rw [List.mem_filter, List.mem_range]; exact ⟨q, pb⟩
            rw [e, List.mem_range'_1] at this
            omega
          · omega
        refine ⟨a, l + 1, ?_⟩
        rw [List.range'_concat]
        simp [hp, hn]
theorem rg_eq (a l : Nat) (h : 0 < l) : (List.range' a l).map (fun k : Nat => (k : Int)) = (List.range ((((a + l - 1 : Nat) : Int) + 1) - (a : Int)).toNat).map fun k : Nat => (a : Int) + (k : Nat) := by
  rw [show ((((a + l - 1 : Nat) : Int) + 1) - (a : Int)).toNat = l by omega, List.range'_eq_map_range, List.map_map]
  apply List.map_congr_left
  intro k _
  simp
theorem rgD_ints (i j : Int) : rgD i j = ((List.range (j - i).toNat).map fun k : Nat => i + (k : Nat)).map D.int := by unfold rgD; rw [List.map_map]; rfl
/-- the test of the laws: a row that is not empty is a whole stretch -/
theorem gap_test {xs : List Nat} {a l : Nat} (e : xs = List.range' a l) (h : a + l ≤ 100000) (S : List Cell) : xs = [] ∨ (L2.atI (xs.map fun k => D.int (k : Nat)) 0 = some (.int (a : Nat)) ∧ L2.atI (xs.map fun k => D.int (k : Nat)) (-1) = some (.int ((a + l - 1 : Nat) : Nat)) ∧ okRg (a : Nat) (((a + l - 1 : Nat) : Int) + 1) = true ∧
    neD (.lst (xs.map fun k => D.int (k : Nat))) (.lst (rgD (a : Nat) (((a + l - 1 : Nat) : Int) + 1))) S = some (.bl false)) := by
  rcases Nat.eq_zero_or_pos l with rfl | hl
  · left; rw [e]; rfl
  · right
    have hx : 0 < xs.length := by rw [e, List.length_range']; exact hl
    refine ⟨?_, ?_, ?_, ?_⟩
    · rw [at_map, at_ok (i := 0) (by decide) (by omega)]
      subst e
      simp
    · rw [at_map, at_last (List.ne_nil_of_length_pos hx)]
      subst e
      simp [List.getLast_eq_getElem]
      omega
    · unfold okRg smallI
      simp
      omega
    · rw [rgD_ints, nats_ints, ne_lints, ← rg_eq a l hl, e]
      simp
theorem ne_nats0 (xs : List Nat) (S : List Cell) : neD (.lst (xs.map fun k => D.int (k : Nat))) (.lst []) S = some (.bl (!decide (xs = []))) := by
  rw [nats_ints, ne_lints0]
  simp
/-- a list of truths that all are true -/
theorem all_true (k : Nat) (S : List Cell) : allD [.lst (List.replicate k (.bl true))] S = some (.bl true) := by
  have : List.replicate k (D.bl true) = (List.replicate k true).map D.bl := by rw [List.map_replicate]
  show (boolsOf (List.replicate k (D.bl true))).map _ = _
  rw [this, boolsOf_map]
  simp
theorem turns_ok {vs : List Nat} {p : Pat} {elt : Ex D} {env : List Sl} {n : Nat} {S : List Cell} {P : PR (List D)} (I : List Cell → Prop) (h0 : I S)
    (st : ∀ (j : Nat) (S : List Cell), j < n → I S → (inR p (.int (j : Nat)) (wipeE env vs) fun e => elt e S).W (fun d S' => d = .bl true ∧ I S') XN)
    (k : ∀ S', I S' → P.Q (List.replicate n (.bl true)) S') : @Rs.V _ (compL vs p mYes elt ((List.range n).map fun k => .int (k : Nat)) env S) P := by
  have := comp_at (vs := vs) (p := p) (cond := mYes) (elt := elt) (env := env) (ds := (List.range n).map fun k => D.int (k : Nat)) (S := S) (Q := P.Q) (X := P.X) (fun j acc S => acc = List.replicate j (.bl true) ∧ I S) ⟨rfl, h0⟩ (fun j d acc S hd ⟨e, hI⟩ => by
    have hj : j < n := by have := (List.getElem?_eq_some_iff.mp hd).1; simpa using this
    obtain ⟨_, hd⟩ := List.getElem?_eq_some_iff.mp hd
    rw [List.getElem_map, List.getElem_range] at hd
    subst hd e
    obtain ⟨e1, h1, h2⟩ := inR_of (st j S hj hI)
    unfold inR
    rw [h1]
    dsimp only
    obtain ⟨x, S', e2, rfl, h3⟩ := Rs.W.of h2
    have y : mYes e1 S = .ok true S := rfl
    rw [y, andThen_ok, if_pos rfl, e2, andThen_ok]
    exact ⟨by rw [List.replicate_succ', ], h3⟩) fun acc S' ⟨e, hI⟩ => by
      rw [e, List.length_map, List.length_range]
      exact k S' hI
  exact this
end DL
namespace DL
theorem turns_k (n : Nat) (N : Int) (h : n ≤ 63) (hN : 0 ≤ N ∧ N ≤ 63) : ∃ k : Nat, k ≤ 63 ∧ (if (2 : Int) < (if N < (n : Int) then N else (n : Int)) then (if N < (n : Int) then N else (n : Int)) else (2 : Int)) = (k : Int) := by
  by_cases a : N < (n : Int)
  · rw [if_pos a]
    split
    · exact ⟨N.toNat, by omega, by omega⟩
    · exact ⟨2, by omega, by omega⟩
  · rw [if_neg a]
    split
    · exact ⟨n, by omega, by omega⟩
    · exact ⟨2, by omega, by omega⟩
theorem len_script (ns : List Int) (S : List Cell) : lenD [scriptD ns] S = some (.int (ns.length : Nat)) := by
  show some (D.int ((ns.map D.int).length : Nat)) = _
  rw [List.length_map]
end DL
namespace DL
open PySem PySem.Spec L2
open PyProof.Rows hiding St
theorem fr_of {q : Rat} (a : Int) (b : Nat) (h : q.num = a ∧ q.den = b) : frD q = .tup [.int a, .int (b : Nat)] := by unfold frD; rw [h.1, h.2]
theorem frm_ramp : Frm 1 [0, 2, 4, 6] := by
  have k : ∀ i, i < 4 → kt [0, 2, 4, 6] i = 2 * (i : Int) := by decide
  refine ⟨by decide, by decide, by decide, fun i j h1 h2 => ?_, fun i h => ?_, fun i h => ?_, fun i h => ?_⟩ <;> simp only [List.length_cons, List.length_nil] at *
  · rw [k i (by omega), k j (by omega)]; omega
  · rw [k i (by omega), k (i + 1 + 1) (by omega)]; omega
  · rw [k i (by omega)]; omega
  · rw [k i (by omega)]; omega
theorem frm_bow : Frm 2 [0, 0, 0, 4, 4, 4] := by
  have k : ∀ i, i < 6 → kt [0, 0, 0, 4, 4, 4] i = if i < 3 then 0 else 4 := by decide
  refine ⟨by decide, by decide, by decide, fun i j h1 h2 => ?_, fun i h => ?_, fun i h => ?_, fun i h => ?_⟩ <;> simp only [List.length_cons, List.length_nil] at *
  · rw [k i (by omega), k j (by omega)]; split <;> split <;> omega
  · rw [k i (by omega), k (i + 2 + 1) (by omega)]; split <;> split <;> omega
  · rw [k i (by omega)]; split <;> omega
  · rw [k i (by omega)]; split <;> omega
end DL

/-! DP: sorted(set(xs)), xs a list of ints. -/
namespace DL
open PySem PySem.Spec PySem.Calls L2
open PyProof.Rows hiding St
abbrev emptySet (w : World) : Obj := { cls := .type "set", dict := none, data := .set #[] 0 (.fresh 0 0 (!w.params.followText "set-order")) }
section
variable {P : Program} {w : World} {A : Around} {E : Value → Shared → Prop} {s : Shared}
/-- what has come of set(xs) -/
def Made (w : World) (s : Shared) (ns : List Int) (s2 : Shared) : Prop := ∃ h' tk c, s2 = { s with heap := h', toks := tk } ∧ SetR w h' s.heap.objs.size (fun j => decide (j ∈ ns)) c ∧ c ≤ ns.length ∧ ∀ b o, s.heap.get? b = some o → h'.get? b = some o
theorem ints_at {items : Array Value} {ns : List Int} (hit : IntsAre items.toList ns) (hz : items.size = ns.length) (i : Nat) (v : Value) (hv : items[i]? = some v) : ∃ k t, ns[i]? = some k ∧ v = .int k t := by
  have hi : i < ns.length := hz ▸ (Array.getElem?_eq_some_iff.mp hv).1
  have ⟨t, e⟩ := PyProof.Rows.IntsAre.int_at hit i v (Array.getElem?_toList ▸ hv)
  exact ⟨ns[i], t, List.getElem?_eq_getElem hi, e.trans (by simp [List.getD_eq_getElem?_getD, hi])⟩
/-- the filling, from the iterator on -/
theorem set_walk {l : Addr} {items : Array Value} {ns : List Int} (hh : A.handled = none) (hl : s.heap.IsList l items) (hit : IntsAre items.toList ns) (hb : ns.length + 1 < scanBound) {R : Result → Shared → Prop}
    (hR : ∀ s2, Made w s ns s2 → R (.ok (.ret .none)) s2) :
    codeAny (model P w) A (.builtin "set.update.loop" ⟨[.ref s.heap.objs.size, .ref (s.heap.push (emptySet w)).objs.size], []⟩) R
      { s with heap := (s.heap.push (emptySet w)).push { cls := .type "list_iterator", data := .fields #[.ref l, .int 0 0] } } := by
  have hz : items.size = ns.length := (Array.length_toList (xs := items)).symm.trans (IntsAre.length hit)
  have z1 : (s.heap.push (emptySet w)).objs.size = s.heap.objs.size + 1 := Heap.size_push ..
  have lt : l < s.heap.objs.size := by have ⟨_, ho, _⟩ := hl; exact Heap.lt_size ho
  have ne1 : l ≠ (s.heap.push (emptySet w)).objs.size := z1 ▸ Nat.ne_of_lt (Nat.lt_succ_of_lt lt)
  have h1 : A.in1.handled = none := by simp [hh]
  have hS : (s.heap.push (emptySet w)).get? s.heap.objs.size = some (emptySet w) := Heap.get?_push_size _ rfl
  refine set_update_ints ((Walks.list h1 _ l ne1 items).toS) s.heap.objs.size ?a ns hz hb (ints_at hit hz) (items.size - 0) 0 _ (Nat.sub_zero _) (Nat.zero_le _) ⟨⟨_, Heap.get?_push_size _ rfl, rfl, rfl⟩, (hl.push _).push _⟩ ⟨0, Nat.le_refl 0, setR_new_at (Heap.get?_push_of_some _ hS)⟩ ?b
  case a => rw [z1]; simp only [List.mem_cons, List.not_mem_nil, or_false, not_or]; exact ⟨Nat.ne_of_lt (Nat.lt_succ_self _), Nat.ne_of_gt lt⟩
  case b =>
    rintro ⟨h', g2, d', tk', os'⟩ c hm hc hS'
    obtain rfl : g2 = s.gens := hm.gens
    obtain rfl : d' = s.drawn := hm.drawn
    obtain rfl : os' = s.os := hm.os
    refine hR _ ⟨h', tk', c, rfl, hS', hz ▸ hc, fun b o e => ?_⟩
    have lb := Heap.lt_size e
    refine hm.heap b o ?_ (Heap.get?_push_of_some _ (Heap.get?_push_of_some _ e))
    rw [z1]; simp only [List.mem_cons, List.not_mem_nil, or_false, not_or]; exact ⟨Nat.ne_of_lt lb, Nat.ne_of_lt (Nat.lt_succ_of_lt lb)⟩
set_option maxHeartbeats 3200000 in
/-- set(xs) -/
theorem set_of_list {l : Addr} {items : Array Value} {ns : List Int} {Q : Value → Shared → Prop} (hh : A.handled = none) (hl : s.heap.IsList l items) (hit : IntsAre items.toList ns) (hb : ns.length + 1 < scanBound)
    (k : ∀ s2, Made w s ns s2 → Q (.ref s.heap.objs.size) s2) : wpAny (model P w) A (call (.type "set") [.ref l]) Q E s := by
  have ⟨c, tl, hmro⟩ := F.called_set.mro
  have hmade := F.called_set.made; have hsub := F.called_set.sub
  refine wpAny_call (codeAny_of_tree ?_)
  change wpAny _ _ (callAny (Value.type "set") _) _ _ _
  refine wpAny_pure ⟨Code.quiet_builtin _ (by decide +kernel), codeAny_builtin F.entry_type_call ?_⟩
  rw [Around.under_plain (weight_type_call_type "set" [Value.ref l] []) rfl]
  have n1 := F.called_set.notType; have n2 := F.called_set.canCreate; have n3 := F.typeCall_set_1 (Value.ref l)
  repeat (any_goals (first | assumption | wp_step))
  refine codeAny_mono (code_set_led1 (.ref l) (E := E) (Q₁ := fun x s₁ => x = .ref s.heap.objs.size ∧ s₁ = { s with heap := s.heap.push (emptySet w) }) ⟨rfl, rfl⟩) fun r s₁ hr => ?_
  match r, hr with
  | .error e, hr => exact hr
  | .ok (.ret x), hr =>
    obtain ⟨rfl, rfl⟩ := hr
    have hS : (s.heap.push (emptySet w)).get? s.heap.objs.size = some (emptySet w) := Heap.get?_push_size _ rfl
    have hT : Shared.TypeIs { s with heap := s.heap.push (emptySet w) } (.ref s.heap.objs.size) "set" := ⟨_, hS, rfl⟩
    have i1 := F.called_set.init.lookup; have i2 := F.called_set.init.bind (Value.ref s.heap.objs.size)
    repeat (any_goals (first | assumption | wp_step))
    refine codeAny_mono (codeAny_call_builtin (R := wants (fun r s₂ => r = Value.none ∧ Made w s ns s₂) E) F.called_set.init.plain F.entry_set_init (check_set_init_1 hT ?_)) fun q s₂ hq => ?_
    · have lt1 : (s.heap.push (emptySet w)).IsList l items := hl.push _
      have ⟨⟨ocls, odict, odata, oslots⟩, ho, e1, nl, e2⟩ := hl
      simp only at e1 e2
      subst e1 e2
      have ho' : (s.heap.push (emptySet w)).get? l = _ := Heap.get?_push_of_some _ ho
      have k1 := F.sub_list_set; have k2 := F.sub_list_frozenset
      have k3 : (Value.type "list" == Value.type "dict") = false := by decide
      unfold Builtin.«set.__init__» noKeywords Builtin.Frozenset.updateFrom
      generalize hp : pyIter = PI
      wp_walk
      subst hp
      refine wpAny_pyIter_list lt1 (wpAny_bind (wpAny_runValue (set_walk (by simp [hh]) hl hit hb fun s2 hs2 => ?_)))
      change wpAny _ _ _ _ _ _
      refine wpAny_pure ?_
      change wpAny _ _ (ret Value.none) _ _ _
      exact wpAny_pure ⟨rfl, hs2⟩
    · match q, hq with
      | .error e, hq => exact hq
      | .ok (.ret x), hq =>
        obtain ⟨rfl, hs2⟩ := hq
        repeat (any_goals (first | assumption | wp_step))
        exact k _ hs2
      | .ok (.next), hq => exact hq.elim
      | .ok (.brk), hq => exact hq.elim
      | .ok (.cont), hq => exact hq.elim
  | .ok (.next), hr => exact hr.elim
end
/-! ### sorted(set(xs)) -/
def ddI : List Int → List Int
  | [] => []
  | x :: r => if x ∈ ddI r then ddI r else x :: ddI r
theorem ddI_mem {x : Int} : ∀ {ns : List Int}, x ∈ ddI ns ↔ x ∈ ns
  | [] => Iff.rfl
  | y :: r => by
    unfold ddI
    have ih := ddI_mem (x := x) (ns := r)
    split
    · rename_i h
      rw [ih, List.mem_cons]
      constructor
      · exact .inr
      · rintro (rfl | h2)
        · exact ih.mp h
        · exact h2
    · rw [List.mem_cons, List.mem_cons, ih]
theorem ddI_nodup : ∀ ns : List Int, (ddI ns).Nodup
  | [] => List.nodup_nil
  | y :: r => by
    unfold ddI
    split
    · exact ddI_nodup r
    · exact List.nodup_cons.mpr ⟨by assumption, ddI_nodup r⟩
theorem ddI_len : ∀ ns : List Int, (ddI ns).length ≤ ns.length
  | [] => Nat.le_refl _
  | y :: r => by
    have := ddI_len r
    unfold ddI
    split
    · rw [List.length_cons]; omega
    · rw [List.length_cons, List.length_cons]; omega
def uniI (ns : List Int) : List Int := sortI (ddI ns)
theorem uniI_mem {ns : List Int} {x : Int} : x ∈ uniI ns ↔ x ∈ ns := by
  unfold uniI
  rw [sortI_mem, ddI_mem]
theorem lt_of_le_nodup : ∀ {xs : List Int}, xs.Pairwise (· ≤ ·) → xs.Nodup → xs.Pairwise (· < ·)
  | [], _, _ => .nil
  | x :: r, h, n => by
    obtain ⟨h1, h2⟩ := List.pairwise_cons.mp h
    obtain ⟨n1, n2⟩ := List.nodup_cons.mp n
    refine List.pairwise_cons.mpr ⟨fun y hy => ?_, lt_of_le_nodup h2 n2⟩
    have := h1 y hy
    have ne : x ≠ y := fun e => n1 (e ▸ hy)
    omega
theorem uniI_nodup (ns : List Int) : (uniI ns).Nodup := (List.Perm.nodup_iff (sortI_perm _)).mpr (ddI_nodup ns)
theorem uniI_lt (ns : List Int) : (uniI ns).Pairwise (· < ·) := lt_of_le_nodup (sortI_le _) (uniI_nodup ns)
theorem uniI_one {ns ms : List Int} (h : ms.Pairwise (· < ·)) (hm : ∀ k, k ∈ ms ↔ k ∈ ns) : ms = uniI ns := by
  have nd : ms.Nodup := h.imp fun h e => by omega
  have p : ms.Perm (uniI ns) := (List.perm_ext_iff_of_nodup nd (uniI_nodup ns)).mpr fun k => by rw [hm, uniI_mem]
  exact List.Perm.eq_of_pairwise (le := (· ≤ ·)) (fun a b _ _ h1 h2 => Int.le_antisymm h1 h2) (h.imp fun h => Int.le_of_lt h) (sortI_le _) p
theorem uniI_len (ns : List Int) : (uniI ns).length ≤ ns.length := by
  unfold uniI
  rw [sortI_length]
  exact ddI_len ns
def rSetL (K : PySem.W.Frag) (w : World) : List V → Hp → VK → Prop := fun xs H Q => ∃ (l : Addr) (ns : List Int), xs = [.ref l] ∧ SqL K H l (ns.map V.int) ∧ ns.length ≤ 60 ∧
  ∀ (c : Nat) (p : Addr), c ≤ ns.length → H p = none → Q (.ref p) (upd H p (SetO w p (fun j => decide (j ∈ ns)) c))
theorem cr_setL {X : Cx} (hc : X.calm = true) : CallR X (.type "set") (rSetL X.K X.w) := by
  intro pins s σ H xs us Q I r h
  obtain ⟨l, ns, rfl, hl, hn, q⟩ := h
  rw [Vals.ref1 r]
  obtain ⟨its, rv, pl, hz⟩ := I.list hl
  refine set_of_list (P := X.prog) (w := X.w) (ns := ns) (I.ok.hd hc) pl.isList (by simpa using ints_of_vals rv) (by unfold scanBound; omega) fun s2 hs2 => ?_
  obtain ⟨h', tk, c, rfl, R, hle, k⟩ := hs2
  exact ⟨.ref s.heap.objs.size, upd H s.heap.objs.size (SetO X.w s.heap.objs.size (fun j => decide (j ∈ ns)) c), I.laid (t' := tk) k (Nat.le_refl _) (setO_new R), rfl, q c _ hle (I.hok.fresh (Nat.le_refl _))⟩
def mUni (f : Ex D) : Ex (List D) := fun env S => (f env S).andThen fun x S1 => match x with
  | .lst xs => match intsOf xs with
    | some ns => if ns.length ≤ 60 then .ok ((uniI ns).map .int) S1 else .bad
    | none => .bad
  | _ => .bad
section
variable {X : Cx} {E : EE} {e : Expr} {f : Ex D} {pos p p2 q : Pos}
theorem o_uni (he : VE X E e f) (zs : X.mg "sorted" = none) (zt : X.mg "set" = none) (hc : X.calm = true) (gs : Gl X "sorted" := by rfl) (gt : Gl X "set" := by rfl) (na : starEach [e] X.env = (false, eval e X.env) :: starEach [] X.env := by rfl)
    (nb : starEach [.Call (.Name "set" p2) [e] [] q] X.env = (false, eval (.Call (.Name "set" p2) [e] [] q) X.env) :: starEach [] X.env := by rfl) (n1 : (backTo q (starEach [] X.env)).any (·.1) = false := by rfl) (n2 : (backTo pos (starEach [] X.env)).any (·.1) = false := by rfl) :
    VO X E (.Call (.Name "sorted" p) [.Call (.Name "set" p2) [e] [] q] [] pos) (mUni f) := fun g =>
  (pe_callB (cr_sortedSet hc) gs zs rfl (pa_cons (pe_callTy (cr_setL hc) gt zt rfl (pa_cons (he g) pa_nil na) (by decide) (by decide) na n1) pa_nil nb) (by decide) (by decide) nb n2).imp fun σ H Q ⟨F, ι, env, S, w, q⟩ => ⟨F, ι, env, S, w, rd_mono (rd_then q) fun x H1 F1 ι1 S1 _ e1 w1 ⟨_, _, q1⟩ v hv => by
    cases x with
    | lst xs =>
      have q1 : rdAt X.K X.mg g E σ H1 F1 ι1 env _ (match intsOf xs with
        | some ns => if ns.length ≤ 60 then Rs.ok ((uniI ns).map D.int) S1 else .bad
        | none => .bad) := q1
      cases hn : intsOf xs with
      | none => rw [hn] at q1; exact q1.elim
      | some ns =>
        rw [hn] at q1
        dsimp only at q1
        by_cases hl : ns.length ≤ 60
        · rw [if_pos hl] at q1
          obtain ⟨a, us, rfl, ha, hr⟩ := hv
          have e := ints_vals hn hr
          subst e
          refine ⟨a, ns, rfl, ha.sq, hl, fun c b hc' hb => ⟨b, _, c, rfl, upd_same, by omega, fun ms b2 hp hm hlen hb2 => ?_⟩⟩
          have e := uniI_one hp (ns := ns) fun k => by rw [hm k]; simp
          subst e
          obtain ⟨e2, w2⟩ := w1.wd.layO (o := SetO X.w b (fun j => decide (j ∈ ns)) c) hb
          obtain ⟨e3, w3⟩ := w2.layO (o := .lst ((uniI ns).map V.int)) hb2
          have eb : H1 b2 = none := by
            by_cases z : b2 = b
            · rw [z]; exact hb
            · rw [upd_ne z] at hb2; exact hb2
          exact (q1 _ _ _ (e2.trans e3) (w1.step (e2.trans e3) w3)).2.2 b2 _ upd_same (reps_ints _) (fun z => w1.wd.fin b2 z eb) (fun z => w1.wd.cell_ne z eb) (e1.mono b2 eb)
        · rw [if_neg hl] at q1
          exact q1.elim
    | _ => exact q1.elim⟩
@[simp] theorem r_uni (f : Ex D) (env : List Sl) (S : List Cell) : mUni f env S = (f env S).andThen fun x S1 => match x with
  | .lst xs => match intsOf xs with
    | some ns => if ns.length ≤ 60 then .ok ((uniI ns).map .int) S1 else .bad
    | none => .bad
  | _ => .bad := nr rfl
@[simp ↓] theorem V_runi (f : Ex D) (env : List Sl) (S : List Cell) {P : PR (List D)} : @Rs.V _ (mUni f env S) P = @Rs.V _ ((f env S).andThen fun x S1 => match x with
  | .lst xs => match intsOf xs with
    | some ns => if ns.length ≤ 60 then .ok ((uniI ns).map .int) S1 else .bad
    | none => .bad
  | _ => .bad) P := by rw [r_uni]
end
end DL

/-! DQ: bool(an own object), methods called by name. -/
namespace DL
open PySem PySem.Spec L2
open PyProof.Rows hiding St

/-! ### bool(x) -/
structure TruC (K : PySem.W.Frag) (C : Addr) : Prop where
  b : PySem.W.findIn K (.ref C) "__bool__" = some none
  l : PySem.W.findIn K (.ref C) "__len__" = some none
section
variable {prog : Program} {w : World} {A : Around} {E : Value → Shared → Prop} {s : Shared} {K : PySem.W.Frag} {a C : Addr} {ox : Obj} {od : Option Obj}
theorem special_no {name : Str} {args : List Value} {Q : Option Value → Shared → Prop} (X : K.In s.heap) (I : PySem.W.InstAt s.heap a ox C od) (hf : PySem.W.findIn K (.ref C) name = some none) (h : Q none s) : wpAny (model prog w) A (callSpecial? (.ref a) name args) Q E s := by
  unfold callSpecial? specialOf
  exact wpAny_bind (wpAny_bind (I.type.here ((PySem.W.looks_findIn X hf).here (wpAny_pure h))))
theorem tru_ins {Q : Bool → Shared → Prop} (X : K.In s.heap) (I : PySem.W.InstAt s.heap a ox C od) (t : TruC K C) (h : Q true s) : wpAny (model prog w) A (truthy (.ref a)) Q E s := by
  have hsp : ∀ {Q' : Option Value → Shared → Prop}, Q' none s → wpAny (model prog w) A (specialOf (.ref a) "__len__") Q' E s := fun q => by
    unfold specialOf
    exact wpAny_bind (I.type.here ((PySem.W.looks_findIn X t.l).here q))
  unfold truthy
  refine wpAny_bind (special_no (name := Str.ofString "__bool__") X I t.b ?_)
  first | refine wpAny_bind (wpAny_pure ?_) | show wpAny _ _ (specialOf (.ref a) (Str.ofString "__len__") >>= _) _ _ s
  refine wpAny_bind (hsp ?_)
  exact wpAny_pure h
theorem meets_bool_any (l : Addr) : Meets (Builtin.«bool.__new__» ⟨[.type "bool", .ref l], []⟩)
    (fun _ R s => (∀ (prog : Program) (w : World) (A : Around) (E : Value → Shared → Prop) (Q : Bool → Shared → Prop), Q true s → wpAny (model prog w) A (truthy (.ref l)) Q E s) ∧ R (.ok (.ret (.bool true))) s) :=
  Meets.of_wp fun prog w A R s hs => by
    obtain ⟨hl, hs⟩ := hs
    have f1 := F.conv_sub_bool
    repeat (any_goals (first | assumption | (with_reducible refine hl _ _ _ _ _ ?_) | wp_step))
    all_goals first | exact ⟨_, rfl, hs⟩ | exact hs | skip
end
def rTru (K : PySem.W.Frag) : List V → Hp → VK → Prop := fun xs H Q => (∃ k, xs = [.bl k] ∧ Q (.bl k) H) ∨ ∃ a C dx fs, xs = [.ref a] ∧ H a = some (.ins C dx fs) ∧ TruC K C ∧ Q (.bl true) H
theorem call_tru {X : Cx} : CallR X (.type "bool") (rTru X.K) := by
  intro pins s σ H xs us Q I r h
  rcases h with ⟨k, rfl, q⟩ | ⟨a, C, dx, fs, rfl, ea, t, q⟩
  · exact call_bool1 pins s σ H _ us Q I r (.inr ⟨k, rfl, q⟩)
  · obtain rfl := Vals.ref1 r
    obtain ⟨mA, O, _, _, _, _⟩ := ins_get I.hok ea
    obtain ⟨od, J, _⟩ := O.look
    refine call_bool_1 (meets_bool_any a) ⟨fun prog w A E Q hq => tru_ins I.kIn J t hq, rfl, ?_⟩
    exact ⟨.bl true, H, I, rfl, q⟩
def truD (cs : List Str) : OpN := fun xs _ => match xs with
  | [.bl b] => some (.bl b)
  | [.obj c _ _] => if cs.contains c = true then some (.bl true) else none
  | _ => none
def TruOk (K : PySem.W.Frag) (mg : Str → Option Value) (cs : List Str) : Prop := ∀ c ∈ cs, ∀ C, mg c = some (.ref C) → TruC K C
theorem ok_tru {K : PySem.W.Frag} {mg : Str → Option Value} {cs : List Str} (ok : TruOk K mg cs) : OkN K mg (rTru K) (truD cs) := by
  intro H F ι S xs d vs Q w rx ho t
  unfold truD at ho
  split at ho
  · rename_i b
    cases ho
    obtain ⟨v, rfl, hv⟩ := one_of rx
    cases hv
    exact .inl ⟨b, rfl, t _ H F ι Ext.refl w rfl⟩
  · rename_i c ns ys
    obtain ⟨v, rfl, hv⟩ := one_of rx
    by_cases hc : cs.contains c = true
    · rw [if_pos hc] at ho
      cases ho
      obtain ⟨a, C', dx, ws, rfl, _, hm, ea, _⟩ := hv
      exact .inr ⟨a, C', dx, _, rfl, ea, ok c (by simpa using hc) C' hm, t _ H F ι Ext.refl w rfl⟩
    · rw [if_neg hc] at ho
      cases ho
  · cases ho

/-! ### o.m(k=..) -/
def mMethK (c nm : Str) (n nk : Nat) (p : List Nat) (m : Fn) (fo : Ex D) (fk : Ex (List D)) : Ex D := fun env S => (fo env S).andThen fun o S1 => if isIns c nm o S1 = true then (fk env S1).andThen (fun zs S2 => if zs.length = nk then (if (pickL p (o :: zs)).length = n then m (pickL p (o :: zs)) S2 else .bad) else .bad) else .bad
section
variable {X : Cx} {E : EE} {e o : Expr} {kws : List Keyword} {f fo h : Ex D} {fk : Ex (List D)} {pos p apos : Pos} {c nm : Str} {C gI : Addr} {i n nk : Nat} {fd : FuncData} {ps ks : List Str} {m : Fn} {pk : List Nat}
theorem v_methK0 {pl : Sem Bool} (G : FnG X.prog X.w X.K X.mg X.base i gI fd ps (SpM X.K X.mg n m)) (rm : Rm i X.A) (px : Px X E) (hc : X.mg c = some (.ref C)) (cl : Cls X.K C) (hm : Meth X.K C nm gI) (hb : BindsW X.K fd ps 1 ks pk) (he : VE X E o fo) (hkw : VK' X E kws fk) (hnk : ks.length = nk := by rfl)
    (hall : (backToKw pos (keywordEach kws X.env)).all (·.1.isSome) = true := by rfl) (hks : (backToKw pos (keywordEach kws X.env)).filterMap (·.1) = ks := by rfl)
    (hpl : ((backTo pos (starEach [] X.env)).any (·.1) || (backToKw pos (keywordEach kws X.env)).any (·.1.isNone)) = false := by rfl)
    (ht : eval (.Call (.Attribute o nm apos) [] kws pos) X.env = (do
      let ov ← eval o X.env
      standAt apos.atName
      let (f, first) ← holding [ov] (getMethod ov nm pl)
      callWith pos f first (backTo pos (starEach [] X.env)) (backToKw pos (keywordEach kws X.env))) := by rfl) : VE X E (.Call (.Attribute o nm apos) [] kws pos) (mMethK c nm n nk pk m fo fk) := fun g => by
  subst hnk
  constructor
  rintro pins s σ H Q I ⟨F, ι, env, S, w, q⟩
  refine PySem.W.methodCall_KW (pl := pl) (thn ((he g).run pins s σ H (fun x H1 => ∃ a dx fs, x = .ref a ∧ H1 a = some (.ins C dx fs) ∧ fs.lookup nm = none ∧
      tAr X.K X.mg g E fk σ H1 (fun zs H2 => zs.length = ks.length ∧ SpM X.K X.mg n m (pickL pk ([x] ++ zs)) H2 Q (E σ))) I ⟨F, ι, env, S, w, rd_mono (rd_then q) ?_⟩) fun u s1 h1 => ?_) ht
  · rintro d H1 F1 ι1 S1 - e1 w1 ⟨_, _, q1⟩ v hv
    by_cases hi : isIns c nm d S1 = true
    · rw [if_pos hi] at q1
      obtain ⟨a, dx, fs, rfl, ea, hl⟩ := ins_at w1.wd hv hi hc
      refine ⟨a, dx, fs, rfl, ea, hl, F1, ι1, env, S1, w1, rd_mono (rd_then q1) ?_⟩
      rintro zs H2 F2 ι2 S2 - e2 w2 ⟨_, _, q2⟩ us hus
      have hv2 := w1.wd.rep e2 hv
      by_cases hc : zs.length = ks.length
      · rw [if_pos hc] at q2
        exact ⟨hus.len.trans hc, sp_of w2 (pick_reps (Reps.cons hv2 hus) pk) q2 fun d H' F' ι' S' z v hv => z.2.2.2.2 v hv⟩
      · rw [if_neg hc] at q2
        exact q2.elim
    · rw [if_neg hi] at q1
      exact q1.elim
  · obtain ⟨x, H1, I1, rx, a, dx, fs, rfl, ea, hl, q1⟩ := h1
    obtain rfl : u = Value.ref a := rx
    refine getmeth_ok I1 ea cl hm hl ?_
    refine PySem.W.callWith_KW0 (first := [.ref a]) (h₀ := X.base) I1.ok.mod.kin hm.kp hall (thn ((hkw g).run pos pins s1 σ H1 _ I1 q1) fun ws s2 hh => ?_) hpl
    obtain ⟨zs, H2, I2, rz, l2, sp⟩ := hh
    refine ⟨I2.kIn, ?_⟩
    rw [hks]
    exact run_kw (x := nm) (us := [.ref a]) (vs := [.ref a]) G rm hb px I2 (.cons rfl .nil) rz rfl l2 sp
end
end DL

/-! DR: reversed slices; lists of one's own read and written at an index; starred parts of displays. -/
namespace DL
open PySem PySem.Spec L2
open PyProof.Rows hiding St

/-! ### xs[::-1] -/
section
variable {prog : Program} {w : World} {A : Around} {E : Value → Shared → Prop} {s : Shared}
theorem places_back (n : Nat) : Builtin.Slice.slicePlaces ((n : Int) - 1) (-1) (-1) = n := by
  unfold Builtin.Slice.slicePlaces
  have h1 : ¬ ((-1 : Int) > 0) := by omega
  have h2 : -(-1 : Int) = 1 := rfl
  simp only [h1, if_false, h2, Int.ediv_one]
  split <;> omega
theorem fm_congr {α β : Type} {f g : α → Option β} : ∀ (l : List α), (∀ x ∈ l, f x = g x) → l.filterMap f = l.filterMap g
  | [], _ => rfl
  | x :: l, h => by
    rw [List.filterMap_cons, List.filterMap_cons, h x (by simp), fm_congr l fun y hy => h y (by simp [hy])]
theorem pick_back (xs : Array Value) : ((List.range xs.size).filterMap fun (m : Nat) => xs[(((xs.size : Int) - 1) + (m : Int) * (-1)).toNat]?).toArray = xs.toList.reverse.toArray := by
  have h1 := PySem.W.krv_all xs
  have h2 : (List.range xs.size).filterMap (fun (m : Nat) => xs[(((xs.size : Int) - 1) + (m : Int) * (-1)).toNat]?) = (List.range xs.size).filterMap ((fun k => xs[k]?) ∘ fun k => xs.size - 1 - k) := by
    refine fm_congr _ fun m hm => ?_
    rw [List.mem_range] at hm
    show _ = xs[xs.size - 1 - m]?
    congr 1
    omega
  rw [h2, ← List.filterMap_map, PySem.W.krv_range, List.filterMap_reverse, h1]
theorem applied_back {sl : Addr} {vl vu vs : Value} {n : Nat} {Q : Int × Int × Nat → Shared → Prop} (hs : s.heap.IsSliceOf sl vl vu vs) (pl : IsPart vl none) (pu : IsPart vu none) (ps : IsPart vs (some (-1)))
    (h : Q ((n : Int) - 1, -1, n) s) : wpAny (model prog w) A (Builtin.Slice.sliceApplied (.ref sl) (pure (n : Int))) Q E s := by
  obtain ⟨os, hos, hcs, hds⟩ := id hs
  unfold Builtin.Slice.sliceApplied Builtin.Slice.sliceFields
  refine wpAny_bind (wpAny_bind (wpAny_field hos hds (x := vl) rfl (wpAny_bind (wpAny_field hos hds (x := vu) rfl (wpAny_bind (wpAny_field hos hds (x := vs) rfl (wpAny_pure ?_)))))))
  refine wpAny_bind (HT.slicePart_ ps ?_)
  show wpAny _ _ (if ((-1 : Int) == 0) = true then _ else _) _ _ s
  rw [if_neg (by decide)]
  refine wpAny_bind (HT.slicePart_ pl (wpAny_bind (HT.slicePart_ pu (wpAny_bind (wpAny_pure ?_)))))
  show wpAny _ _ (pure (((n : Int) - 1), (-1 : Int), Builtin.Slice.slicePlaces ((n : Int) - 1) (-1) (-1))) _ _ s
  rw [places_back]
  exact wpAny_pure h
theorem tuple_back {t sl : Addr} {items : Array Value} {vl vu vs : Value} {Q : Value → Shared → Prop} (ht : IsTup s.heap t items) (hs : s.heap.IsSliceOf sl vl vu vs) (pl : IsPart vl none) (pu : IsPart vu none) (ps : IsPart vs (some (-1)))
    (h : Q (.ref s.heap.objs.size) { s with heap := s.heap.push { cls := .type "tuple", data := .seq items.toList.reverse.toArray } }) (hsz : items.size ≤ sizeLine) : wpAny (model prog w) A (getItem (.ref t) (.ref sl)) Q E s := by
  have htake : sizeOk (.seq items.toList.reverse.toArray) := by
    show items.toList.reverse.toArray.size ≤ sizeLine
    rw [List.size_toArray, List.length_reverse, Array.length_toList]
    exact hsz
  obtain ⟨os, hos, hcs, hds⟩ := id hs
  have hTs : s.TypeIs (.ref sl) "slice" := ⟨os, hos, hcs⟩
  unfold getItem
  try with_reducible refine wpAny_holding ?_
  first | refine wpAny_bind (wpAny_pure ?_) | skip
  refine wpAny_bind (wpAny_sequenceKey ht.typeIs (by decide) ?_)
  refine wpAny_bind (wpAny_callSpecial?_slot (name := Str.ofString "__getitem__") ht.typeIs PyProof.Rows.slot_tuple_getitem
    (wpAny_call_entry PyProof.Rows.slot_tuple_getitem ht.typeIs entry_tuple_getitem ?_ (args_tuple_getitem _ _)))
  show wpAny _ _ (Builtin.Tuple.tupleItemsOf (.ref t) >>= _) _ _ s
  refine wpAny_bind (PyProof.Rows.tupleItemsOf_ ht ?_)
  refine wpAny_bind (wpAny_typeOf hTs ?_)
  rw [if_pos (by decide)]
  refine wpAny_bind (applied_back hs pl pu ps ?_)
  have hno : ¬ ((((items.size : Int) - 1) == 0 && (-1 : Int) == 1 && items.size == items.size) = true) := by simp
  show wpAny _ _ (if (((items.size : Int) - 1) == 0 && (-1 : Int) == 1 && items.size == items.size) = true then _ else _) _ _ s
  rw [if_neg hno, pick_back]
  first
    | exact wpAny_bind (m := Builtin.Tuple.tupleExact _) (wpAny_newObj_type (wpAny_pure ⟨_, rfl, wpAny_pure h⟩) htake)
    | exact wpAny_bind (m := Builtin.Tuple.tupleExact _) (wpAny_newObj_type (wpAny_bind (wpAny_pure (wpAny_pure ⟨_, rfl, wpAny_pure h⟩))) htake)
    | exact wpAny_bind (wpAny_bind (m := Builtin.Tuple.tupleExact _) (wpAny_newObj_type (wpAny_pure (wpAny_pure ⟨_, rfl, wpAny_pure h⟩)) htake))
    | exact wpAny_bind (wpAny_bind (m := Builtin.Tuple.tupleExact _) (wpAny_newObj_type (wpAny_pure ⟨_, rfl, wpAny_pure h⟩) htake))
end
def tRevA (K : PySem.W.Frag) (te : TE) : TE := fun σ H Q => te σ H fun x H1 => (∃ a xs, x = .ref a ∧ SqL K H1 a xs ∧ ∀ p, H1 p = none → Q (.ref p) (upd H1 p (.lst xs.reverse))) ∨ ∃ a xs, x = .ref a ∧ SqT K H1 a xs ∧ ∀ p, H1 p = none → Q (.ref p) (upd H1 p (.tup xs.reverse))
theorem pe_revA {X : Cx} {e : Expr} {te : TE} {k : Nat} {p1 p2 p3 pos : Pos} (he : PE X e te) : PE X (.Subscript e (.Slice none none (some (.UnaryOp .USub (.Constant (.int 1) k p1) p2)) p3) pos) (tRevA X.K te) := by
  refine ⟨fun pins s σ H Q I h => ?_⟩
  refine Subscript_ (thn (he.run pins s σ H _ I h) fun v s1 ⟨x, H1, I1, r1, q1⟩ => ?_)
  have hst : PO X (some (.UnaryOp .USub (.Constant (.int 1) k p1) p2)) (tPart (tUn (rU fun i => .int (-i)) (tC (.int 1)))) := po_some (pe_un un_neg pe_int)
  refine wpAny_Slice (thn (po_none.run pins s1 σ H1 (fun o H2 => o = none ∧ H2 = H1) I1 ⟨rfl, rfl⟩) fun vl s2 ⟨l, H2, I2, pl, el, e2⟩ => ?_)
  subst el e2
  refine thn (po_none.run pins s2 σ H2 (fun o H3 => o = none ∧ H3 = H2) I2 ⟨rfl, rfl⟩) fun vu s3 ⟨u, H3, I3, pu, eu, e3⟩ => ?_
  subst eu e3
  refine thn (hst.run pins s3 σ H3 (fun o H4 => o = some (-1) ∧ H4 = H3) I3 ⟨1, rfl, -1, rfl, rfl, rfl⟩) fun vs s4 ⟨o, H4, I4, ps, eo, e4⟩ => ?_
  subst eo e4
  have I5 : Inv X pins σ H4 { s4 with heap := s4.heap.push { cls := .type "slice", data := .fields #[vl, vu, vs] } } := I4.kept (t' := s4.toks) fun b ob q => Heap.get?_push_of_some _ q
  rcases q1 with ⟨a, xs, ex, hx, q⟩ | ⟨a, xs, ex, hx, q⟩ <;> subst ex <;> cases r1
  · obtain ⟨its, r, ht, hz⟩ := I5.list hx
    have hlen := r.length
    show wpAny (model X.prog X.w) X.A (subscriptTail e (.Slice none none (some (.UnaryOp .USub (.Constant (.int 1) k p1) p2)) p3) (.ref a) (.ref s4.heap.objs.size)) (EP X pins σ Q) X.xe { s4 with heap := s4.heap.push { cls := .type "slice", data := .fields #[vl, vu, vs] } }
    refine tail_any (ops := [.ref a, .ref s4.heap.objs.size]) ht.isList.typeIs (PySem.slot_list_getitem.lookup) ?_ (by with_unfolding_all rfl)
    refine wpAny_getItem_list_slice ht.isList (Heap.IsSliceOf.new _ vl vu vs) pl pu ps (by decide) ?_ (by rw [List.size_toArray]; omega)
    rw [PySem.W.krv_pick]
    refine ⟨.ref _, _, I5.laid (t' := s4.toks) (o := .lst xs.reverse) (fun b ob q => Heap.get?_push_of_some _ q) (Nat.le_refl _) ?_, rfl, q _ (I5.hok.fresh (Nat.le_refl _))⟩
    exact ⟨by rw [List.length_reverse]; exact hz, _, 0, r.reverse, Heap.get?_push_size _ rfl⟩
  · obtain ⟨its, r, ht, hz⟩ := I5.tuple hx
    have hlen := r.length
    show wpAny (model X.prog X.w) X.A (subscriptTail e (.Slice none none (some (.UnaryOp .USub (.Constant (.int 1) k p1) p2)) p3) (.ref a) (.ref s4.heap.objs.size)) (EP X pins σ Q) X.xe { s4 with heap := s4.heap.push { cls := .type "slice", data := .fields #[vl, vu, vs] } }
    refine tail_any (ops := [.ref a, .ref s4.heap.objs.size]) ht.typeIs (PyProof.Rows.slot_tuple_getitem.lookup) ?_ (by with_unfolding_all rfl)
    refine tuple_back ht (Heap.IsSliceOf.new _ vl vu vs) pl pu ps ?_ (by rw [List.size_toArray]; omega)
    refine ⟨.ref _, _, I5.laid (t' := s4.toks) (o := .tup xs.reverse) (fun b ob q => Heap.get?_push_of_some _ q) (Nat.le_refl _) ?_, rfl, q _ (I5.hok.fresh (Nat.le_refl _))⟩
    exact ⟨by rw [List.length_reverse]; exact hz, _, r.reverse, IsTup.new _ _⟩
theorem Reps.rev {K : PySem.W.Frag} {mg : Str → Option Value} {F : Fz} {ι : List Addr} {H : Hp} : ∀ {ds : List D} {vs : List V}, Reps K mg F ι H ds vs → Reps K mg F ι H ds.reverse vs.reverse
  | [], _, h => by rw [show _ = _ from h]; rfl
  | d :: ds, vs, h => by
    obtain ⟨v, r, rfl, h1, h2⟩ := h
    rw [List.reverse_cons, List.reverse_cons]
    exact (Reps.rev h2).app (.one h1)
def revD : Op1 := fun d _ => match d with
  | .lst xs => some (.lst xs.reverse)
  | .ro xs => some (.lst xs.reverse)
  | .tup xs => some (.tup xs.reverse)
  | _ => none
@[simp] theorem revD_lst (xs : List D) (S : List Cell) : revD (.lst xs) S = some (.lst xs.reverse) := nr rfl
@[simp] theorem revD_ro (xs : List D) (S : List Cell) : revD (.ro xs) S = some (.lst xs.reverse) := nr rfl
@[simp] theorem revD_tup (xs : List D) (S : List Cell) : revD (.tup xs) S = some (.tup xs.reverse) := nr rfl
section
variable {X : Cx} {E : EE} {a b e o i : Expr} {es : List Expr} {f h : Ex D} {fa : Ex (List D)} {pos p : Pos}
theorem v_rev {k : Nat} {p1 p2 p3 : Pos} (he : VE X E e f) : VE X E (.Subscript e (.Slice none none (some (.UnaryOp .USub (.Constant (.int 1) k p1) p2)) p3) pos) (mUn revD f) := fun g =>
  (pe_revA (he g)).imp fun σ H Q ⟨F, ι, env, S, w, q⟩ => ⟨F, ι, env, S, w, rd_mono (rd_then q) fun d H1 F1 ι1 S1 _ e1 w1 ⟨_, _, q1⟩ v hv => by
    have lay : ∀ {xs : List D} {vs : List V} {d' : D}, revD d S1 = some d' → Reps X.K X.mg F1 ι1 H1 xs vs → (d' = .lst xs.reverse → ∀ p, H1 p = none → Q (.ref p) (upd H1 p (.lst vs.reverse))) ∧ (d' = .tup xs.reverse → ∀ p, H1 p = none → Q (.ref p) (upd H1 p (.tup vs.reverse))) := fun {xs vs d'} ho hr => by
      rw [ho] at q1
      refine ⟨fun hd p hp => ?_, fun hd p hp => ?_⟩ <;> subst hd <;> obtain ⟨e2, w2⟩ := w1.wd.lay hp
      · exact (q1 _ _ _ e2 (w1.step e2 w2)).2.2 (.ref p) ⟨p, vs.reverse, rfl, ⟨.inr rfl, upd_same⟩, w1.wd.reps e2 hr.rev⟩
      · exact (q1 _ _ _ e2 (w1.step e2 w2)).2.2 (.ref p) ⟨p, vs.reverse, rfl, .inl ⟨.inr rfl, .inl upd_same⟩, w1.wd.reps e2 hr.rev⟩
    cases d with
    | lst xs =>
      obtain ⟨a, vs, rfl, hl, hr⟩ := hv
      exact .inl ⟨a, vs, rfl, hl.sq, (lay rfl hr).1 rfl⟩
    | ro xs =>
      obtain ⟨a, vs, rfl, hl, hr⟩ := hv
      exact .inl ⟨a, vs, rfl, hl.sq, (lay rfl hr).1 rfl⟩
    | tup xs =>
      obtain ⟨a, vs, rfl, hl, hr⟩ := hv
      exact .inr ⟨a, vs, rfl, hl.sq, (lay rfl hr).2 rfl⟩
    | _ => exact q1.elim⟩

/-! ### a list of one's own, read and written at an index -/
def mOwnIx (k : Nat) (h : Ex D) : Ex D := fun env S => match env[k]? with
  | some (.own xs) => (h env S).andThen fun y S1 => ofO (ixD (.lst xs) y S1) S1
  | _ => .bad
theorem v_ownIx (k : Nat) {x : Str} {px : Pos} (hb : VE X E b h) (hs : PlainIxT b) (hN : X.N[k]? = some x := by rfl) (hv : Vis X.env.scope x := by first | exact Or.inl rfl | exact Or.inr (Or.inl rfl) | exact Or.inr (Or.inr rfl))
    (hd : (x == ("__debug__" : Str)) = false := by decide) (hcd : (x == ("__classdict__" : Str)) = false := by decide) : VE X E (.Subscript (.Name x px) b pos) (mOwnIx k h) := fun g =>
  (pe_ix ix_list (pe_var hN hv hd hcd) (hb g) hs).imp fun σ H Q ⟨F, ι, env, S, w, q⟩ => by
    unfold mOwnIx at q
    split at q
    · rename_i ds hd'
      obtain ⟨a, vs, h1, h2, h3, h4, h5, h6⟩ := w.own k ds hd'
      refine ⟨.ref a, h1, F, ι, env, S, w, rd_mono (rd_then q) ?_⟩
      rintro y H1 F1 ι1 S1 - e1 w1 ⟨_, _, q1⟩ u hu
      have k2 := e1.keep a _ h2 (.inr h5)
      cases y with
      | int j =>
        cases ho : L2.atI ds j with
        | none => rw [show ixD (.lst ds) (.int j) S1 = none from ho] at q1; exact q1.elim
        | some d =>
          rw [show ixD (.lst ds) (.int j) S1 = some d from ho] at q1
          obtain ⟨z, h7, h8⟩ := (w.wd.reps e1 h3).atI ho
          exact ⟨a, vs, j, z, rfl, hu, .inl (.inl k2), h7, (q1 H1 F1 ι1 Ext.refl w1).2.2 z h8⟩
      | _ => exact q1.elim
    · exact q.elim
def gOwn (k : Nat) (h : Ex D) : D → Sm := fun d env S => match env[k]? with
  | some (.own xs) => (h env S).go env fun y S1 => match y with
    | .int j => match L2.ixN xs.length j with
      | some m => .nx (env.set k (.own (xs.set m d))) S1
      | none => .bad
    | _ => .bad
  | _ => .bad
theorem g_own (k : Nat) {x : Str} {px : Pos} (hi : VE X E i h) (hN : X.N[k]? = some x := by rfl) (hv : Vis X.env.scope x := by first | exact Or.inl rfl | exact Or.inr (Or.inl rfl) | exact Or.inr (Or.inr rfl))
    (hd : (x == ("__debug__" : Str)) = false := by decide) (hcd : (x == ("__classdict__" : Str)) = false := by decide) (ha : ∀ v, assign (.Subscript (.Name x px) i pos) X.env v = (do
      let ov ← holding [v] (eval (.Name x px) X.env)
      let iv ← holding [v, ov] (eval i X.env)
      standAt pos
      holding [v, ov, iv] (setItem ov iv v)
      release [v, ov, iv] []) := by intro _; rfl) : VG X E (.Subscript (.Name x px) i pos) (gOwn k h) := fun g => (pg_sub (pe_var hN hv hd hcd) (hi g) set_list ha).imp fun v σ H Q ⟨F, ι, env, S, d, w, r, q⟩ => by
  unfold gOwn at q
  split at q
  · rename_i ds hd'
    obtain ⟨a, vs, h1, h2, h3, h4, h5, h6⟩ := w.own k ds hd'
    refine ⟨.ref a, h1, F, ι, env, S, w, rd_mono (rd_gAt w.wd q) ?_⟩
    rintro y H1 F1 ι1 S1 - e1 w1 ⟨_, _, q1⟩ iv hiv
    have k2 := e1.keep a _ h2 (.inr h5)
    cases y with
    | int j =>
      dsimp only at q1
      cases hm : L2.ixN ds.length j with
      | none => rw [hm] at q1; exact q1.elim
      | some m =>
        rw [hm] at q1
        have r3 := w.wd.reps e1 h3
        obtain ⟨w2, gr⟩ := w1.mutO (ds' := ds.set m d) (vs' := vs.set m v) hd' h1 (r3.set m (w.wd.rep e1 r))
        exact ⟨a, vs, j, m, rfl, hiv, k2, by rw [r3.len]; exact hm, q1 _ _ _ _ w2 gr⟩
    | _ => exact q1.elim
  · exact q.elim
def NxO (t : D → Sm) : Prop := NxG t
theorem ng_own {k : Nat} {h : Ex D} (hh : NxE h) : NxG (gOwn k h) := fun d env S => by
  unfold gOwn
  split
  · rcases hh env S with ⟨y, S1, e⟩ | e
    · rw [e, go_ok]
      split
      · split
        · exact .inl ⟨_, _, rfl⟩
        · exact .inr rfl
      · exact .inr rfl
    · rw [e]; exact .inr rfl
  · exact .inr rfl
theorem nx_op {o : Op2} {f h : Ex D} (hf : NxE f) (hh : NxE h) : NxE (mOp o f h) := fun env S => by
  unfold mOp
  rcases hf env S with ⟨x, S1, e⟩ | e
  · rw [e, andThen_ok]
    rcases hh env S1 with ⟨y, S2, e2⟩ | e2
    · rw [e2, andThen_ok]
      cases o x y S2 with
      | none => exact .inr rfl
      | some d => exact .inl ⟨d, S2, rfl⟩
    · rw [e2]; exact .inr rfl
  · rw [e]; exact .inr rfl
/-- len of a list of one's own -/
def mOwnLen (k : Nat) : Ex D := fun env S => match env[k]? with
  | some (.own xs) => .ok (.int (xs.length : Nat)) S
  | _ => .bad

/-! ### *xs in a display -/
def mStar (f : Ex (List D)) (r : Ex (List D)) : Ex (List D) := fun env S => (f env S).andThen fun xs S1 => (r env S1).andThen fun ys S2 => .ok (xs ++ ys) S2
theorem a_star (he : VE X E e f) (hr : VA X E es fa) (hs : starEach (.Starred e p :: es) X.env = (true, eval e X.env) :: starEach es X.env := by rfl) : VA X E (.Starred e p :: es) (mStar (mItems f) fa) := fun g =>
  (StX.pa_star (he g) (hr g) hs).imp fun σ H Q ⟨F, ι, env, S, w, q⟩ => by
    have q : rdAt X.K X.mg g E σ H F ι env (fun ds H' F' ι' _ => ∀ vs, Reps X.K X.mg F' ι' H' ds vs → Q vs H') (((f env S).andThen itemsOf).andThen fun xs S1 => (fa env S1).andThen fun ys S2 => .ok (xs ++ ys) S2) := q
    refine ⟨F, ι, env, S, w, rd_mono (rd_then (rd_then q)) ?_⟩
    rintro d H1 F1 ι1 S1 - e1 w1 ⟨_, _, q1⟩ v hv
    have go : ∀ {xs : List D} {vs : List V}, itemsOf d S1 = .ok xs S1 → Reps X.K X.mg F1 ι1 H1 xs vs → tAr X.K X.mg g E fa σ H1 fun ys H2 => Q (vs ++ ys) H2 := fun {xs vs} hi hr => by
      rw [hi] at q1
      have q2 := (q1 H1 F1 ι1 Ext.refl w1).2.2.2.2
      refine ⟨F1, ι1, env, S1, w1, rd_mono (rd_then q2) ?_⟩
      rintro ys H2 F2 ι2 S2 - e2 w2 ⟨_, _, q3⟩ us hus
      exact (q3 H2 F2 ι2 Ext.refl w2).2.2.2.2 (vs ++ us) ((w1.wd.reps e2 hr).app hus)
    cases d with
    | lst xs =>
      obtain ⟨a, vs, rfl, hl, hr⟩ := hv
      exact ⟨a, vs, rfl, .inr hl.sq, go rfl hr⟩
    | ro xs =>
      obtain ⟨a, vs, rfl, hl, hr⟩ := hv
      exact ⟨a, vs, rfl, .inr hl.sq, go rfl hr⟩
    | tup xs =>
      obtain ⟨a, vs, rfl, hl, hr⟩ := hv
      exact ⟨a, vs, rfl, .inl hl.sq, go rfl hr⟩
    | _ => exact q1.elim
end

/-! ### what these bring about -/
section
variable (env : List Sl) (S : List Cell)
@[simp] theorem r_ownIx (k : Nat) (h : Ex D) : mOwnIx k h env S = (match env[k]? with | some (.own xs) => (h env S).andThen fun y S1 => ofO (ixD (.lst xs) y S1) S1 | _ => .bad) := nr rfl
@[simp ↓] theorem V_rownIx (k : Nat) (h : Ex D) {P : PR D} : @Rs.V D (mOwnIx k h env S) P = @Rs.V D (match env[k]? with | some (.own xs) => (h env S).andThen fun y S1 => ofO (ixD (.lst xs) y S1) S1 | _ => .bad) P := by rw [r_ownIx]
@[simp ↓] theorem V_gown (k : Nat) (h : Ex D) (d : D) {F : PF} : @Fl.V (gOwn k h d env S) F = @Fl.V (match env[k]? with
  | some (.own xs) => (h env S).go env fun y S1 => (match y with
    | .int j => (match L2.ixN xs.length j with
      | some m => Fl.nx (env.set k (.own (xs.set m d))) S1
      | none => Fl.bad)
    | _ => Fl.bad)
  | _ => Fl.bad) F := by unfold gOwn; rfl
@[simp] theorem r_star (f : Ex (List D)) (r : Ex (List D)) : mStar f r env S = (f env S).andThen fun xs S1 => (r env S1).andThen fun ys S2 => .ok (xs ++ ys) S2 := nr rfl
@[simp ↓] theorem V_rstar (f : Ex (List D)) (r : Ex (List D)) {P : PR (List D)} : @Rs.V (List D) (mStar f r env S) P = @Rs.V (List D) ((f env S).andThen fun xs S1 => (r env S1).andThen fun ys S2 => .ok (xs ++ ys) S2) P := by rw [r_star]
@[simp] theorem r_methK (c nm : Str) (n nk : Nat) (p : List Nat) (m : Fn) (fo : Ex D) (fk : Ex (List D)) : mMethK c nm n nk p m fo fk env S = (fo env S).andThen fun o S1 => if isIns c nm o S1 = true then (fk env S1).andThen (fun zs S2 => if zs.length = nk then (if (pickL p (o :: zs)).length = n then m (pickL p (o :: zs)) S2 else .bad) else .bad) else .bad := nr rfl
@[simp ↓] theorem V_rmethK (c nm : Str) (n nk : Nat) (p : List Nat) (m : Fn) (fo : Ex D) (fk : Ex (List D)) {P : PR D} : @Rs.V D (mMethK c nm n nk p m fo fk env S) P = @Rs.V D ((fo env S).andThen fun o S1 => if isIns c nm o S1 = true then (fk env S1).andThen (fun zs S2 => if zs.length = nk then (if (pickL p (o :: zs)).length = n then m (pickL p (o :: zs)) S2 else .bad) else .bad) else .bad) P := by rw [r_methK]
end
theorem ixN_nat {n j : Nat} (h : j < n) : L2.ixN n (j : Int) = some j := by
  unfold L2.ixN
  rw [if_pos (by omega)]
  simp; omega
end DL

/-! DXa: while an exception is handled: the end of a list's walk, a list taken apart, a comprehension over a list. -/
namespace DL
open PySem PySem.Spec L2
open PyProof.Rows hiding St

/-- the context handles an exception that is told of -/
def HotD (X : Cx) : Prop := ∃ a oe u, X.A.handled = some (.ref a) ∧ HotO oe ∧ X.H_0 a = some (.frz oe u)
theorem HotD.here {X : Cx} {pins : List (Addr × Obj)} {σ : L2.St} {H : Hp} {s : Shared} (hot : HotD X) (I : Inv X pins σ H s) : ∃ a oe u, X.A.handled = some (.ref a) ∧ HotO oe ∧ H a = some (.frz oe u) ∧ s.heap.get? a = some oe := by
  obtain ⟨a, oe, u, e1, e2, e3⟩ := hot
  have e4 := I.base.frzs a oe u e3
  obtain ⟨e5, _⟩ := I.hok a _ e4
  exact ⟨a, oe, u, e1, e2, e4, e5⟩
theorem HotD.at {X : Cx} {pins : List (Addr × Obj)} {σ : L2.St} {H : Hp} {s : Shared} (hot : HotD X) (I : Inv X pins σ H s) : ∃ a, HotX.HotAt X.A a s.heap := by
  obtain ⟨a, oe, u, e1, ⟨vs, e2, e3⟩, _, e4⟩ := hot.here I
  exact ⟨a, e1, oe, vs, e4, e2, e3⟩

section
variable {prog : Program} {w : World} {A : Around} {E : Value → Shared → Prop} {s : Shared}
/-- a list's iterator that has come to the end -/
theorem end_hot {it l x1 : Addr} {i : Nat} {items : Array Value} {Q : Option Value → Shared → Prop} (hot : HotX.HotAt A x1 s.heap) (ii : s.heap.IsListIter it l i) (hl : s.heap.IsList l items) (no : items[i]? = none)
    (go : ∀ h1, Heap.ExtBut it s.heap h1 → Q none { s with heap := h1 }) : wpAny (model prog w) A (pyNext (.ref it)) Q E s := by
  obtain ⟨oi, hi, ci, di⟩ := id ii
  obtain ⟨ol, hol, _, nl, dl⟩ := hl
  obtain ⟨hd, o1, v1, g1, d1, c1⟩ := hot
  have n1 : x1 ≠ it := fun z => by
    rw [z, hi] at g1
    cases g1
    rw [di] at d1
    cases d1
    simp at c1
  unfold pyNext
  refine wpAny_bind (wpAny_attempt (wpAny_callSpecial?_slot (name := Str.ofString "__next__") ii.typeIs slot_listiter_next ?_))
  refine wpAny_call_entry slot_listiter_next ii.typeIs entry_listiter_next ?_ (args_listiter_next _)
  show wpAny (model prog w) _ (field (.ref it) 0 >>= _) _ _ s
  refine wpAny_bind (wpAny_field hi di (x := .ref l) rfl ?_)
  have nn : ¬ ((Value.ref l == Value.none) = true) := by simp
  show wpAny (model prog w) _ (if (Value.ref l == Value.none) = true then _ else _) _ _ s
  rw [if_neg nn]
  show wpAny (model prog w) _ (field (.ref it) 1 >>= _) _ _ s
  refine wpAny_bind (wpAny_field hi di (x := .int i 0) rfl ?_)
  show wpAny (model prog w) _ (seqItems? (.ref l) >>= _) _ _ s
  refine wpAny_bind (wpAny_seqItems hol dl ?_)
  simp only [no, Int.toNat_natCast]
  refine wpAny_bind (wpAny_rule (wpAny_bind (wpAny_setField hi di (by simp) ?_)))
  show wpAny (model prog w) _ (newExc (.type "StopIteration") [] >>= _) _ _ _
  refine wpAny_bind ?_
  simp only [newTuple, newExc]
  refine wpAny_bind (wpAny_newObj_type ?_ (by size_fits))
  refine wpAny_bind (m := firstArgMember _ _) (wpAny_of_eq (a := Value.none) (by first | rfl | (simp only [firstArgMember]; rfl)) ?_)
  refine wpAny_newObj_type ?_ (by size_fits)
  have up : ∀ {b : Addr} {o : Obj}, b ≠ it → s.heap.get? b = some o → ∀ f : Obj → Obj, (s.heap.update it f).get? b = some o := fun {b o} nb e f => by
    rw [Heap.get?_update_other _ _ (Ne.symm nb)]
    exact e
  refine HotX.raiseNew_hot (x1 := x1) ⟨hd, o1, v1, Heap.get?_push_of_some _ (Heap.get?_push_of_some _ (up n1 g1 _)), d1, c1⟩ (Nat.ne_of_lt (Heap.lt_size (Heap.get?_push_of_some _ (up n1 g1 _)))) (Heap.get?_push_size _ rfl) rfl (by simp; omega) ?_
  refine wpAny_bind (wpAny_isInstance (T := "StopIteration") (b := true) ⟨_, Heap.get?_update_self _ (Heap.get?_push_size _ rfl) rfl, rfl⟩ isSubtype_stop (wpAny_pure (go _ fun b o nb e => ?_)))
  have e2 := Heap.get?_push_of_some { cls := .type "tuple", data := .seq ([] : List Value).toArray } (up nb e (Obj.mapFields fun x => x.setIfInBounds 0 .none))
  rw [Heap.get?_update_other _ _ (Nat.ne_of_gt (Heap.lt_size e2))]
  exact Heap.get?_push_of_some _ e2
/-- a tuple's iterator that has come to the end -/
theorem endT_hot {it l x1 : Addr} {i : Nat} {items : Array Value} {Q : Option Value → Shared → Prop} (hot : HotX.HotAt A x1 s.heap) (ii : s.heap.IsTupleIter it l i) (hl : s.heap.IsTuple l items) (no : items[i]? = none)
    (go : ∀ h1, Heap.ExtBut it s.heap h1 → Q none { s with heap := h1 }) : wpAny (model prog w) A (pyNext (.ref it)) Q E s := by
  obtain ⟨oi, hi, ci, di⟩ := id ii
  obtain ⟨ol, hol, _, nl, dl⟩ := hl
  obtain ⟨hd, o1, v1, g1, d1, c1⟩ := hot
  have n1 : x1 ≠ it := fun z => by
    rw [z, hi] at g1
    cases g1
    rw [di] at d1
    cases d1
    simp at c1
  unfold pyNext
  refine wpAny_bind (wpAny_attempt (wpAny_callSpecial?_slot (name := Str.ofString "__next__") ii.typeIs PySem.F.slot_tuple_iterator_next ?_))
  refine wpAny_call_entry PySem.F.slot_tuple_iterator_next ii.typeIs PySem.F.entry_tuple_iterator_next ?_ (PySem.F.args_tuple_iterator_next_1 _)
  show wpAny (model prog w) _ (field (.ref it) 0 >>= _) _ _ s
  refine wpAny_bind (wpAny_field hi di (x := .ref l) rfl ?_)
  have nn : ¬ ((Value.ref l == Value.none) = true) := by simp
  show wpAny (model prog w) _ (if (Value.ref l == Value.none) = true then _ else _) _ _ s
  rw [if_neg nn]
  show wpAny (model prog w) _ (field (.ref it) 1 >>= _) _ _ s
  refine wpAny_bind (wpAny_field hi di (x := .int i 0) rfl ?_)
  show wpAny (model prog w) _ (seqItems? (.ref l) >>= _) _ _ s
  refine wpAny_bind (wpAny_seqItems hol dl ?_)
  simp only [no, Int.toNat_natCast]
  refine wpAny_bind (wpAny_rule (wpAny_bind (wpAny_setField hi di (by simp) ?_)))
  show wpAny (model prog w) _ (newExc (.type "StopIteration") [] >>= _) _ _ _
  refine wpAny_bind ?_
  simp only [newTuple, newExc]
  refine wpAny_bind (wpAny_newObj_type ?_ (by size_fits))
  refine wpAny_bind (m := firstArgMember _ _) (wpAny_of_eq (a := Value.none) (by first | rfl | (simp only [firstArgMember]; rfl)) ?_)
  refine wpAny_newObj_type ?_ (by size_fits)
  have up : ∀ {b : Addr} {o : Obj}, b ≠ it → s.heap.get? b = some o → ∀ f : Obj → Obj, (s.heap.update it f).get? b = some o := fun {b o} nb e f => by
    rw [Heap.get?_update_other _ _ (Ne.symm nb)]
    exact e
  refine HotX.raiseNew_hot (x1 := x1) ⟨hd, o1, v1, Heap.get?_push_of_some _ (Heap.get?_push_of_some _ (up n1 g1 _)), d1, c1⟩ (Nat.ne_of_lt (Heap.lt_size (Heap.get?_push_of_some _ (up n1 g1 _)))) (Heap.get?_push_size _ rfl) rfl (by simp; omega) ?_
  refine wpAny_bind (wpAny_isInstance (T := "StopIteration") (b := true) ⟨_, Heap.get?_update_self _ (Heap.get?_push_size _ rfl) rfl, rfl⟩ isSubtype_stop (wpAny_pure (go _ fun b o nb e => ?_)))
  have e2 := Heap.get?_push_of_some { cls := .type "tuple", data := .seq ([] : List Value).toArray } (up nb e (Obj.mapFields fun x => x.setIfInBounds 0 .none))
  rw [Heap.get?_update_other _ _ (Nat.ne_of_gt (Heap.lt_size e2))]
  exact Heap.get?_push_of_some _ e2
/-- a list's items, all of them -/
theorem items_hot {l x1 : Addr} {items : Array Value} {Q : List Value → Shared → Prop} (hot : HotX.HotAt A x1 s.heap) (hl : s.heap.IsList l items)
    (go : ∀ h1, Heap.ExtBut s.heap.objs.size s.heap h1 → Q items.toList { s with heap := h1 }) : wpAny (model prog w) A (unpackItems (.ref l) items.size none) Q E s := by
  have small : ∀ {b : Addr} {o : Obj}, s.heap.get? b = some o → b ≠ s.heap.objs.size := fun e => Nat.ne_of_lt (Heap.lt_size e)
  have ls : l ≠ s.heap.objs.size := by
    obtain ⟨o, ho, _⟩ := hl
    exact small ho
  unfold unpackItems
  refine wpAny_bind (?_ : wpAny (model prog w) A (notIterableAtAll (.ref l)) _ _ _)
  unfold notIterableAtAll
  refine wpAny_bind (wpAny_specialOf hl.typeIs slot_list_iter.lookup (wpAny_pure ?_))
  simp only [if_false, Bool.false_eq_true]
  refine wpAny_bind (wpAny_holding (wpAny_pyIter_list hl ?_))
  refine wpAny_bind (wpAny_holding (PySem.W.kun_draw ls items.size 0 _ _ ⟨_, Heap.get?_push_size _ rfl, rfl, rfl⟩ (hl.push _) (by omega) fun h1 i1 b1 => ?_))
  have all : List.take items.size (List.drop 0 items.toList) = items.toList := by
    rw [List.drop_zero, ← Array.length_toList, List.take_length]
  rw [all, if_neg (show ¬ items.toList.length < items.size from by simp)]
  obtain ⟨hd, o1, v1, g1, d1, c1⟩ := hot
  have hot1 : HotX.HotAt A x1 h1 := ⟨hd, o1, v1, b1.extBut x1 o1 (small g1) (Heap.get?_push_of_some _ g1), d1, c1⟩
  refine wpAny_bind (wpAny_holding (end_hot hot1 i1 ((hl.push _).extBut b1.extBut ls) (by simp) fun h2 e2 => ?_))
  simp only [Bool.false_eq_true, Option.isSome_none, if_false]
  exact wpAny_pure (go h2 fun b o nb e => e2 b o nb (b1.extBut b o nb (Heap.get?_push_of_some _ e)))
/-- a tuple's items, all of them -/
theorem itemsT_hot {l x1 : Addr} {items : Array Value} {Q : List Value → Shared → Prop} (hot : HotX.HotAt A x1 s.heap) (hl : s.heap.IsTuple l items)
    (go : ∀ h1, Heap.ExtBut s.heap.objs.size s.heap h1 → Q items.toList { s with heap := h1 }) : wpAny (model prog w) A (unpackItems (.ref l) items.size none) Q E s := by
  have small : ∀ {b : Addr} {o : Obj}, s.heap.get? b = some o → b ≠ s.heap.objs.size := fun e => Nat.ne_of_lt (Heap.lt_size e)
  have ls : l ≠ s.heap.objs.size := by
    obtain ⟨o, ho, _⟩ := hl
    exact small ho
  unfold unpackItems
  refine wpAny_bind (?_ : wpAny (model prog w) A (notIterableAtAll (.ref l)) _ _ _)
  unfold notIterableAtAll
  refine wpAny_bind (wpAny_specialOf hl.typeIs PySem.F.slot_tuple_iter.lookup (wpAny_pure ?_))
  simp only [if_false, Bool.false_eq_true]
  refine wpAny_bind (wpAny_holding (wpAny_pyIter_tuple hl ?_))
  refine wpAny_bind (wpAny_holding (wpAny_draw_tuple ls items.size 0 _ _ ⟨_, Heap.get?_push_size _ rfl, rfl, rfl⟩ (hl.push _) (by omega) fun h1 i1 b1 => ?_))
  have all : List.take items.size (List.drop 0 items.toList) = items.toList := by
    rw [List.drop_zero, ← Array.length_toList, List.take_length]
  rw [all, if_neg (show ¬ items.toList.length < items.size from by simp)]
  obtain ⟨hd, o1, v1, g1, d1, c1⟩ := hot
  have hot1 : HotX.HotAt A x1 h1 := ⟨hd, o1, v1, b1.extBut x1 o1 (small g1) (Heap.get?_push_of_some _ g1), d1, c1⟩
  refine wpAny_bind (wpAny_holding (endT_hot hot1 i1 ((hl.push _).extBut b1.extBut ls) (by simp) fun h2 e2 => ?_))
  simp only [Bool.false_eq_true, Option.isSome_none, if_false]
  exact wpAny_pure (go h2 fun b o nb e => e2 b o nb (b1.extBut b o nb (Heap.get?_push_of_some _ e)))
end
/-- (a, b, ..) = a list of that length -/
theorem pg_unlH {X : Cx} {es : List Expr} {k n : Nat} {t : TGs} {pos : Pos} (hot : HotD X) (h : PGs X es t) (hn : (assignEach es X.env).length = n := by rfl) (hst : (assignEach es X.env).findIdx? (·.1) = none := by rfl) :
    PG X (.Tuple es k pos) (gUnl X.K n t) := by
  constructor
  rintro pins s σ H v u Q I r ⟨a, xs, rfl, hq, hl, q⟩
  cases r
  obtain ⟨its, rv, pl, hz⟩ := I.list hq
  obtain ⟨x1, ht⟩ := hot.at I
  have size : its.toArray.size = n := by rw [← hl, rv.length]; simp
  rw [PyProof.Rows.assign_Tuple]
  refine wpAny_bind (wpAny_standAt ?_)
  unfold unpack
  rw [hst, hn, ← size]
  refine wpAny_bind (wpAny_holding (items_hot ht pl.isList fun h1 e1 => ?_))
  have I1 : Inv X pins σ H { s with heap := h1 } := I.kept (t' := s.toks) fun b o e => e1 b o (Nat.ne_of_lt (Heap.lt_size e)) e
  exact h.run pins { s with heap := h1 } σ H xs its.toArray.toList Q I1 (by simpa using rv) q
/-- (a, b, ..) = a tuple of that length -/
theorem pg_tupH {X : Cx} {es : List Expr} {k n : Nat} {t : TGs} {pos : Pos} (hot : HotD X) (h : PGs X es t) (hn : (assignEach es X.env).length = n := by rfl) (hst : (assignEach es X.env).findIdx? (·.1) = none := by rfl) :
    PG X (.Tuple es k pos) (gTup X.K n t) := by
  constructor
  rintro pins s σ H v u Q I r ⟨a, xs, rfl, hq, hl, q⟩
  cases r
  obtain ⟨its, rv, pl, hz⟩ := I.tuple hq
  obtain ⟨x1, ht⟩ := hot.at I
  have pl : s.heap.IsTuple a its.toArray := pl
  have size : its.toArray.size = n := by rw [← hl, rv.length]; simp
  rw [PyProof.Rows.assign_Tuple]
  refine wpAny_bind (wpAny_standAt ?_)
  unfold unpack
  rw [hst, hn, ← size]
  refine wpAny_bind (wpAny_holding (itemsT_hot ht pl fun h1 e1 => ?_))
  have I1 : Inv X pins σ H { s with heap := h1 } := I.kept (t' := s.toks) fun b o e => e1 b o (Nat.ne_of_lt (Heap.lt_size e)) e
  exact h.run pins { s with heap := h1 } σ H xs its.toArray.toList Q I1 (by simpa using rv) q
theorem HotD.blk {X : Cx} {pins : List (Addr × Obj)} {σ : L2.St} {H : Hp} {s : Shared} (hot : HotD X) (I : Inv X pins σ H s) (scope : Scope) (ce : Env) (fp : List Addr) : HotD (X.blk s H scope ce fp) := by
  obtain ⟨a, oe, u, e1, e2, e3, _⟩ := hot.here I
  exact ⟨a, oe, u, e1, e2, e3⟩
/-- [elt for tg in a list if ..]: L the new list, by the turn and a measure -/
def tLcL (K : PySem.W.Frag) (ti : TE) (g : TG) (tt : TT) (te : TE) (vs : List Nat) : TE := fun σ H Q => ti σ H fun x H1 => ∃ a xs, x = .ref a ∧ SqL K H1 a xs ∧ ∀ L, H1 L = none → ∃ W : Nat → Nat → Hp → Prop,
  (∃ m, W 0 m (upd H1 L (.lst []))) ∧ ∀ i m H2, W i m H2 → SqL K H2 a xs ∧ ((xs.length ≤ i ∧ Q (.ref L) H2) ∨ ∃ x, xs[i]? = some x ∧ ∃ Nx : Hp → Prop, (∀ H3, Nx H3 → ∃ m1, m1 < m ∧ W (i + 1) m1 H3) ∧
    g x (wipe σ vs) H2 fun σ3 H3 => wipe σ3 vs = wipe σ vs ∧ tt σ3 H3 fun b H4 => if b = true then te σ3 H4 fun y H5 => ∃ acc, H5 L = some (.lst acc) ∧ acc.length < sizeLine ∧ Nx (upd H5 L (.lst (acc ++ [y]))) else Nx H4)
section
variable {X : Cx} {pins : List (Addr × Obj)} {σ : L2.St} {H : Hp} {s : Shared} {elt tg iter : Expr} {ifs : List Expr} {scope : Scope} {own : List (Str × Nat)} {ti : TE} {g : TG} {tt : TT} {te : TE}
theorem lc_hot {pos pos2 : Pos} {Q : VK} {use : Option (Value → Sem Unit)} {R : Value → Shared → Prop} (hot : HotD X) (nd : X.N.Nodup) (I : Inv X pins σ H s) (hi : PE X iter ti) (ok : BlkOk X.N X.env.scope scope own)
    (hg : ∀ (s : Shared) (H : Hp) (C : Addr) (cl : List (Str × Addr)) (fp : List Addr), HotD (X.blk s H scope (compEnvC scope cl C X.env) fp) → PG (X.blk s H scope (compEnvC scope cl C X.env) fp) tg g)
    (ht : ∀ (s : Shared) (H : Hp) (C : Addr) (cl : List (Str × Addr)) (fp : List Addr), PTs (X.blk s H scope (compEnvC scope cl C X.env) fp) ifs tt)
    (he : ∀ (s : Shared) (H : Hp) (C : Addr) (cl : List (Str × Addr)) (fp : List Addr), PE (X.blk s H scope (compEnvC scope cl C X.env) fp) elt te)
    (hs : ∀ x, foldedSetIterable iter X.env x = pure x) (h : tLcL X.K ti g tt te (own.map (·.2)) σ H Q)
    (fin : ∀ L C s2 m H2, Inv X pins σ H2 s2 → Q (.ref L) H2 → s2.heap.Ns C m → FpOk X pins H2 C → compPost (model X.prog X.w) X.A X.xe use R (.ref L) C (.ok .next) s2) :
    wpAny (model X.prog X.w) X.A (comprehension (.ListComp elt [⟨tg, iter, ifs, 0⟩] scope pos) scope X.env pos2 (newList []) false (eval iter X.env) use) R X.xe s := by
  have caught : ∀ y ∈ scope.names, y.2 = .free → ∃ c, X.env.cells.lookup y.1 = some c := fun y hy e => (ok.free y hy e).elim (fun k => I.ok.has _ (.inl k)) fun k => I.ok.has _ (.inr k)
  refine wpAny_comprehension_free (use := use) rfl hs (closure_ok caught) ok.kind (fun y hy e => by rw [ok.uniq y hy, e]) (thn (hi.run pins s σ H _ I h) fun v s1 came => ?_)
  obtain ⟨x, H1, I1, rx, a, xs, rfl, hq, q⟩ := came
  obtain rfl : v = Value.ref a := rx
  obtain ⟨its, rv, pl, hz⟩ := I1.list hq
  refine wpAny_pyIter_list pl.isList ?_
  -- the iterator, untold
  let it := s1.heap.objs.size
  let s2 : Shared := { s1 with heap := s1.heap.push { cls := .type "list_iterator", data := .fields #[.ref a, .int 0 0] } }
  have I2 : Inv X pins σ H1 s2 := I1.kept (t' := s1.toks) fun b o e => Heap.get?_push_of_some _ e
  have ii : s2.heap.IsListIter it a 0 := ⟨_, Heap.get?_push_size _ rfl, rfl, rfl⟩
  have fit : FpOk X pins H1 it := I1.fpOk (Nat.le_refl _) (I1.hok.fresh (Nat.le_refl _))
  have itlt : it < s2.heap.objs.size := Heap.lt_size (Heap.get?_push_size _ rfl)
  refine wpAny_newObj_type (newEnv_comp ?_) (by show 0 ≤ sizeLine; decide)
  -- the new list
  let L := s2.heap.objs.size
  let s3 : Shared := { s2 with heap := s2.heap.push { cls := .type "list", data := .seq ([] : List Value).toArray } }
  have nL : H1 L = none := I2.hok.fresh (Nat.le_refl _)
  obtain ⟨W, ⟨m0, w0⟩, turn⟩ := q L nL
  have I3 : Inv X pins σ (upd H1 L (.lst [])) s3 := I2.laid (t' := s2.toks) (fun b o e => Heap.get?_push_of_some _ e) (Nat.le_refl _) ⟨Nat.zero_le _, [], 0, .nil, Heap.get?_push_size _ rfl⟩
  have itL : it ≠ L := Nat.ne_of_lt itlt
  have fit3 : FpOk X pins (upd H1 L (.lst [])) it := ⟨by rw [upd_ne itL]; exact fit.1, fit.2⟩
  have itlt3 : it < s3.heap.objs.size := Nat.lt_trans itlt (Heap.lt_size (Heap.get?_push_size _ rfl))
  have ii3 : s3.heap.IsListIter it a 0 := ii.at fun o e => Heap.get?_push_of_some _ e
  have I4 := block_start (fp := [it]) I3 ok nd fun b hb => by
    obtain rfl : b = it := by simpa using hb
    exact ⟨fit3, itlt3⟩
  have pg := hg s3 (upd H1 L (.lst [])) s3.heap.objs.size (cellsFrom (s3.heap.objs.size + 1) scope.names (cloFrom X.env.cells scope.names [])) [it] (hot.blk I3 _ _ _)
  have pt := ht s3 (upd H1 L (.lst [])) s3.heap.objs.size (cellsFrom (s3.heap.objs.size + 1) scope.names (cloFrom X.env.cells scope.names [])) [it]
  have pe := he s3 (upd H1 L (.lst [])) s3.heap.objs.size (cellsFrom (s3.heap.objs.size + 1) scope.names (cloFrom X.env.cells scope.names [])) [it]
  -- in the block
  let ce := compEnvC scope (cellsFrom (s3.heap.objs.size + 1) scope.names (cloFrom X.env.cells scope.names [])) s3.heap.objs.size X.env
  let H3 := upd H1 L (.lst [])
  let B := X.blk s3 H3 scope ce [it]
  let s4 : Shared := { s3 with heap := pushCells (s3.heap.push { cls := .type "dict", data := .dict #[] }) scope.names }
  have I4 : Inv B [] (wipe σ (own.map (·.2))) H3 s4 := I4
  have hotB : HotD B := hot.blk I3 _ _ _
  have ii4 : s4.heap.IsListIter it a 0 := ii3.at fun o e => pushCells_keeps _ _ _ _ (Heap.get?_push_of_some _ e)
  have fpB : ∀ {σ' : L2.St} {H' : Hp} {s' : Shared}, Inv B [] σ' H' s' → H' it = none → FpOk B [] H' it := fun {σ' H' s'} J n => by
    have m : it ∈ B.ex := List.mem_singleton.mpr rfl
    exact ⟨n, (J.ok.exf it m).1, J.ok.exfs it m, .inl m, fun y c e => (J.ok.exf it m).2 y c e, fun p hp => absurd (show p ∈ ([] : List (Addr × Obj)) from hp) (by simp)⟩
  have loop : codeAny (model X.prog X.w) X.A (.compLoop (.ListComp elt [⟨tg, iter, ifs, 0⟩] scope pos) 0 (.ref it) (.ref L) ce) (compPost (model X.prog X.w) X.A X.xe use R (.ref L) s3.heap.objs.size) s4 := by
    refine compLoop_any (fun n s' => ∃ i H', Inv B [] (wipe σ (own.map (·.2))) H' s' ∧ s'.heap.IsListIter it a i ∧ H' it = none ∧ W i n H') ?_ m0 ⟨0, H3, I4, ii4, fit3.1, w0⟩
    rintro n s5 ⟨i, H5, I5, ii5, n5, w5⟩
    obtain ⟨hq5, way⟩ := turn i n H5 w5
    obtain ⟨its5, rv5, pl5, _⟩ := I5.list hq5
    have f5 := fpB I5 n5
    have len5 := rv5.length
    rcases way with ⟨out, qq⟩ | ⟨x, hx, Nx, hNx, step⟩
    · obtain ⟨x1, ht5⟩ := hotB.at I5
      refine end_hot ht5 ii5 pl5.isList (by simp; omega) fun h6 e6 => ?_
      have I6 : Inv B [] (wipe σ (own.map (·.2))) H5 { s5 with heap := h6 } := I5.turned (t' := s5.toks) (fun b o nb e => e6 b o nb e) f5.1 f5.2.1 f5.2.2.2.1 f5.2.2.2.2.1 f5.2.2.2.2.2
      have I7 : Inv X pins σ H5 { s5 with heap := h6 } := I3.call' (ch := [it]) I6.os I6.base I6.hok I6.bare fun b hb => by
        obtain rfl : b = it := by simpa using hb
        exact ⟨fit3.2.2.2.1, fit3.2.1, fit3.2.2.2.2.1, fit3.2.2.2.2.2⟩
      obtain ⟨m, hn, _⟩ := I6.loc
      exact fin L s3.heap.objs.size _ m H5 I7 qq hn (I3.fpOk (Nat.le_refl _) I6.free)
    · obtain ⟨u, hu, ru⟩ := rv5.get hx
      refine wpAny_pyNext_list_item ii5 pl5.isList (x := u) (by simpa using hu) fun h6 ii6 sb6 => ?_
      have I6 : Inv B [] (wipe σ (own.map (·.2))) H5 { s5 with heap := h6 } := I5.turned (t' := s5.toks) (fun b o nb e => (sb6.2 b nb).trans e) f5.1 f5.2.1 f5.2.2.2.1 f5.2.2.2.2.1 f5.2.2.2.2.2
      obtain ⟨oi, hoi, ci, di⟩ := id ii6
      refine go_of (s := { s5 with heap := h6 }) hoi ci di (by decide) ?_
      -- the iterator is pinned through the turn
      have I6' := I6.pinned (fp := [it]) (fun b hb => by
        obtain rfl : b = it := by simpa using hb
        exact fpB I6 n5) fun b hb => by
        obtain rfl : b = it := by simpa using hb
        exact ⟨oi, hoi, fun v z => by rw [di] at z; cases z⟩
      refine thnF (pg.run _ _ _ H5 x u _ I6' ru step) fun _ s8 ⟨σ8, H8, I8, hw8, q8⟩ => ?_
      refine thnF (pt.run _ s8 σ8 H8 _ I8 q8) fun b s9 ⟨H9, I9, q9⟩ => ?_
      have back : ∀ {s' : Shared} {H' : Hp}, Inv B ([] ++ pinsAt [it] h6) σ8 H' s' → Nx H' → ∃ m, m < n ∧ ∃ i H', Inv B [] (wipe σ (own.map (·.2))) H' s' ∧ s'.heap.IsListIter it a i ∧ H' it = none ∧ W i m H' := fun {s' H'} J nx => by
        obtain ⟨m', hm, w'⟩ := hNx H' nx
        have pin := J.pin (it, oi) (List.mem_append_right _ (List.mem_append_right _ (mem_pinsAt (List.mem_singleton.mpr rfl) hoi)))
        have hl : (wipe σ (own.map (·.2))).length = σ8.length := by rw [← hw8, wipe_length]
        refine ⟨m', hm, i + 1, H', (J.unpinned (pins := [])).weak hl (fun j v e => ?_), ⟨oi, pin.1, ci, di⟩, pin.2.1, w'⟩
        rw [← hw8] at e
        exact (wipe_some e).1
      cases b with
      | false => exact back I9 (by simpa using q9)
      | true =>
        rw [if_pos rfl] at q9 ⊢
        refine thnF (pe.run _ s9 σ8 H9 _ I9 q9) fun z s10 ⟨yv, H10, I10, r10, acc, hL, hz10, nx⟩ => ?_
        exact app_ok (X := B) I10 hL hz10 r10 fun s11 I11 => back I11 nx
  exact codeAny_compStart_list loop (wpAny_pyIter_listiter ii4 loop)
end
end DL

/-! DXb: while an exception is handled: a comprehension by mirrors; defs called. -/
namespace DL
open PySem PySem.Spec L2
open PyProof.Rows hiding St

def lsOf : D → List Cell → Rs (List D)
  | .lst xs, S => .ok xs S
  | _, _ => .bad
@[simp] theorem lsOf_lst (xs : List D) (S : List Cell) : lsOf (.lst xs) S = .ok xs S := rfl
def mLs (f : Ex D) : Ex (List D) := fun env S => (f env S).andThen lsOf
section
variable {K : PySem.W.Frag} {mg : Str → Option Value} {g : Snap} {E : EE} {f : Ex D} {vs : List Nat} {p : Pat} {cond : Ex Bool} {elt : Ex D}
theorem lcL_imp (hp : patIn p vs = true) : ∀ σ H Q, tO K mg g E (mComp (mLs f) vs p cond elt) σ H Q → tLcL K (tV K mg g E f) (gPat K p) (tT K mg g EX0 cond) (tV K mg g EX0 elt) vs σ H Q := by
  rintro σ H Q ⟨F, ι, env, S, w, q⟩
  refine ⟨F, ι, env, S, w, ?_⟩
  unfold mComp mLs at q
  cases hf : f env S with
  | bad => rw [hf] at q; exact q.elim
  | ex c ns es S1 => rw [hf] at q; exact q
  | ok d S1 =>
    rw [hf, andThen_ok] at q
    intro H1 F1 ι1 e1 w1 v hv
    cases d with
    | lst ds =>
      rw [lsOf_lst, andThen_ok] at q
      obtain ⟨a, xs, rfl, hl, hr⟩ := hv
      refine ⟨a, xs, rfl, hl.sq, fun L hL => ?_⟩
      have ln := hr.len
      by_cases hlen : ds.length ≤ 100000
      case neg => rw [if_neg hlen] at q; exact q.elim
      rw [if_pos hlen] at q
      cases hc : compL vs p cond elt ds env S1 with
      | bad => rw [hc] at q; exact q.elim
      | ex c ns es S2 => rw [hc] at q; exact q.elim
      | ok all Sf =>
        rw [hc] at q
        refine ⟨fun i m H2 => m = ds.length - i ∧ i ≤ ds.length ∧ ∃ F2 ι2 S2 acc avs ys, Ext H1 F1 ι1 H2 F2 ι2 ∧ Wd K mg F2 ι2 H2 S2 ∧ H2 L = some (.lst avs) ∧ Reps K mg F2 ι2 H2 acc avs ∧ ¬ F2 L ∧ L ∉ ι2 ∧ acc.length ≤ i ∧
          compL vs p cond elt (ds.drop i) env S2 = .ok ys Sf ∧ acc ++ ys = all, ?_, ?_⟩
        · obtain ⟨e', w'⟩ := w1.wd.layO (o := .lst []) hL
          exact ⟨ds.length, rfl, Nat.zero_le _, F1, ι1, S1, [], [], all, e', w', upd_same, rfl, fun z => w1.wd.fin L z hL, fun z => w1.wd.cell_ne z hL, Nat.le_refl _, hc, rfl⟩
        rintro i m H2 ⟨rfl, hi, F2, ι2, S2, acc, avs, ys, e2, wd2, hL2, ra, nF, nι, hal, hcs, hx⟩
        have w2 := w1.step e2 wd2
        refine ⟨(hl.mono e2.sub (w1.wd.stay e2)).sq, ?_⟩
        by_cases hlt : i < ds.length
        · rw [List.drop_eq_getElem_cons hlt] at hcs
          unfold compL at hcs
          cases hb : bindP p ds[i] (wipeE env vs) with
          | none => rw [hb] at hcs; cases hcs
          | some env1 =>
            rw [hb] at hcs
            dsimp only at hcs
            obtain ⟨x, hx1, hx2⟩ := hr.get (List.getElem?_eq_getElem hlt)
            refine .inr ⟨x, hx1, fun H' => ∃ F' ι' S' acc' avs' ys', Ext H1 F1 ι1 H' F' ι' ∧ Wd K mg F' ι' H' S' ∧ H' L = some (.lst avs') ∧ Reps K mg F' ι' H' acc' avs' ∧ ¬ F' L ∧ L ∉ ι' ∧ acc'.length ≤ i + 1 ∧
              compL vs p cond elt (ds.drop (i + 1)) env S' = .ok ys' Sf ∧ acc' ++ ys' = all, fun H' n => ⟨ds.length - (i + 1), by omega, rfl, hlt, n⟩, ?_⟩
            have r3 := w1.wd.rep e2 hx2
            have w3 := w2.wiped vs
            refine pat_ok (vs := vs) p ds[i] x _ _ env1 _ w3 r3 hb fun σ4 w4 sm => ⟨wipe_same (sm hp), ?_⟩
            have keepL : ∀ {H' F' ι'}, Ext H2 F2 ι2 H' F' ι' → H' L = some (.lst avs) ∧ ¬ F' L ∧ L ∉ ι' := fun {H' F' ι'} e =>
              ⟨e.keep L _ hL2 (.inr nι), fun z => (e.new L z).elim nF fun z => (by rw [hL2] at z; cases z), fun z => (e.cnew L z).elim nι fun z => (by rw [hL2] at z; cases z)⟩
            cases hcd : cond env1 S2 with
            | bad => rw [hcd] at hcs; cases hcs
            | ex c ns es S5 => rw [hcd] at hcs; cases hcs
            | ok b S4 =>
              rw [hcd] at hcs
              refine ⟨F2, ι2, env1, S2, w4, ?_⟩
              rw [hcd]
              intro H4 F4 ι4 e4 w5
              cases b with
              | false =>
                rw [if_neg Bool.false_ne_true]
                obtain ⟨h4, nF4, nι4⟩ := keepL e4
                exact ⟨F4, ι4, S4, acc, avs, ys, e2.trans e4, w5.wd, h4, w4.wd.reps e4 ra, nF4, nι4, by omega, by simpa using hcs, hx⟩
              | true =>
                rw [if_pos rfl]
                rw [noX_ok, andThen_ok, if_pos rfl] at hcs
                cases hel : elt env1 S4 with
                | bad => rw [hel] at hcs; cases hcs
                | ex c ns es S6 => rw [hel] at hcs; cases hcs
                | ok x' S5 =>
                  rw [hel, noX_ok, andThen_ok] at hcs
                  refine ⟨F4, ι4, env1, S4, w5, ?_⟩
                  rw [hel]
                  intro H5 F5 ι5 e5 w6 v hv
                  obtain ⟨h5, nF5, nι5⟩ := keepL (e4.trans e5)
                  cases hr2 : compL vs p cond elt (ds.drop (i + 1)) env S5 with
                  | bad => rw [hr2] at hcs; cases hcs
                  | ex c ns es S6 => rw [hr2] at hcs; cases hcs
                  | ok ys' S6 =>
                    rw [hr2, andThen_ok] at hcs
                    cases hcs
                    have ra5 := w5.wd.reps e5 (w4.wd.reps e4 ra)
                    refine ⟨avs, h5, ?_, F5, ι5, S5, acc ++ [x'], avs ++ [v], ys', ?_, w6.wd.updO nF5 nι5, upd_same, reps_mono (fun _ h => h) (stay_upd nF5) (List.prefix_refl _) _ _ (ra5.app (.one hv)), nF5, nι5, ?_, hr2, ?_⟩
                    · rw [ra.len]
                      exact Nat.lt_of_le_of_lt hal (Nat.lt_of_lt_of_le hlt (Nat.le_trans hlen (by decide)))
                    · exact ext_upd ((e2.trans e4).trans e5) hL (by rw [h5]; simp)
                    · rw [List.length_append]; simpa using hal
                    · rw [List.append_assoc]; exact hx
        · have : i = ds.length := by omega
          subst this
          rw [List.drop_length] at hcs
          cases hcs
          rw [List.append_nil] at hx
          subst hx
          have e12 := e1.trans e2
          exact .inl ⟨by omega, q H2 F2 ι2 e12 (w.step e12 wd2) L avs hL2 ra nF nι (e1.mono L hL)⟩
    | _ => exact q.elim
end
section
variable {X : Cx} {E : EE} {elt tg iter : Expr} {ifs : List Expr} {scope : Scope} {own : List (Str × Nat)} {pos spos : Pos} {p : Pat} {cond : Ex Bool} {f h : Ex D}
/-- x = [..] over a list -/
theorem ps_setLcH {i : Nat} {y : Str} {py : Pos} {ti : TE} {g : TG} {tt : TT} {te : TE} (hot : HotD X) (nd : X.N.Nodup) (hy : X.N[i]? = some y) (hyl : X.env.scope.names.lookup y = some .local)
    (hsw : swapsWith (.ListComp elt [⟨tg, iter, ifs, 0⟩] scope pos) (some (.Name y py)) spos.line X.env = pure true) (hi : PE X iter ti) (ok : BlkOk X.N X.env.scope scope own)
    (hg : ∀ (s : Shared) (H : Hp) (C : Addr) (cl : List (Str × Addr)) (fp : List Addr), HotD (X.blk s H scope (compEnvC scope cl C X.env) fp) → PG (X.blk s H scope (compEnvC scope cl C X.env) fp) tg g)
    (ht : ∀ (s : Shared) (H : Hp) (C : Addr) (cl : List (Str × Addr)) (fp : List Addr), PTs (X.blk s H scope (compEnvC scope cl C X.env) fp) ifs tt)
    (he : ∀ (s : Shared) (H : Hp) (C : Addr) (cl : List (Str × Addr)) (fp : List Addr), PE (X.blk s H scope (compEnvC scope cl C X.env) fp) elt te)
    (hs : ∀ x, foldedSetIterable iter X.env x = pure x := by intro _; rfl) :
    PS X (.Assign [.Name y py] (.ListComp elt [⟨tg, iter, ifs, 0⟩] scope pos) spos) (tAsg (tLcL X.K ti g tt te (own.map (·.2))) (gName i)) := by
  constructor
  intro pins s σ H D I q
  rw [exec_Assign_Name_used _ _ _ _ hsw]
  have q : tLcL X.K ti g tt te (own.map (·.2)) σ H (fun x H1 => gName i x σ H1 D.nx) := q
  refine wpAny_bind (wpAny_standAt (wpAny_bind ?_))
  refine wpAny_bind (thn (lc_hot (R := fun _ s' => SP X pins D .next s') (use := some (assign (.Name y py) X.env)) (pos2 := firstIterPos [⟨tg, iter, ifs, 0⟩] pos) hot nd I hi ok hg ht he hs q fun L C s2 m H2 I2 q2 hn fpk => ?_) fun _ s' z => wpAny_pure (wpAny_pure z))
  show wpAny _ _ (assign (.Name y py) X.env (.ref L)) _ _ _
  refine wpAny_assign_Name (store_ok2 (v := V.ref L) I2 nd hy (.inl hyl) rfl (fun s3 I3 st => ?_) (.inr hyl))
  obtain ⟨a, sb, wh⟩ := st
  obtain ⟨f0, f1, _, f3, f4, f5⟩ := fpk
  have away : C ≠ a := wh.elim (fun z => by rw [z]; exact f1) fun z e => f4 y a z e.symm
  exact ⟨m, hn.sameBut sb away, fun h4 sb4 => ⟨_, H2, I3.turned (t' := s3.toks) (fun b o nb e => (sb4.2 b nb).trans e) f0 f1 f3 f4 f5, q2⟩⟩
theorem s_setLcH (i : Nat) {y : Str} {py : Pos} (hot : HotD X) (nd : X.N.Nodup) (hp : patIn p (own.map (·.2)) = true) (hi : VE X E iter f) (ok : BlkOk X.N X.env.scope scope own)
    (hg : ∀ (s : Shared) (H : Hp) (C : Addr) (cl : List (Str × Addr)) (fp : List Addr), HotD (X.blk s H scope (compEnvC scope cl C X.env) fp) → PG (X.blk s H scope (compEnvC scope cl C X.env) fp) tg (gPat X.K p))
    (ht : ∀ (s : Shared) (H : Hp) (C : Addr) (cl : List (Str × Addr)) (fp : List Addr), VTs (X.blk s H scope (compEnvC scope cl C X.env) fp) EX0 ifs cond)
    (he : ∀ (s : Shared) (H : Hp) (C : Addr) (cl : List (Str × Addr)) (fp : List Addr), VE (X.blk s H scope (compEnvC scope cl C X.env) fp) EX0 elt h)
    (hy : X.N[i]? = some y := by rfl) (hyl : X.env.scope.names.lookup y = some .local := by rfl)
    (hsw : swapsWith (.ListComp elt [⟨tg, iter, ifs, 0⟩] scope pos) (some (.Name y py)) spos.line X.env = pure true := by exact sw_true rfl rfl rfl (by decide +kernel))
    (hs : ∀ x, foldedSetIterable iter X.env x = pure x := by intro _; rfl) : VS X E (.Assign [.Name y py] (.ListComp elt [⟨tg, iter, ifs, 0⟩] scope pos) spos) (mSetO i (mComp (mLs f) (own.map (·.2)) p cond h)) := fun g =>
  (ps_setLcH hot nd hy hyl hsw (hi g) ok hg (fun s H C cl fp => ht s H C cl fp g) (fun s H C cl fp => he s H C cl fp g) hs).imp fun D σ H q => lcL_imp hp σ H _ (setO_imp D σ H q)
theorem pp_tpH {es : List Expr} {k : Nat} {ps : List Pat} (hot : HotD X) (h : PGs X es (gPats X.K ps)) (hn : (assignEach es X.env).length = ps.length := by rfl) (hst : (assignEach es X.env).findIdx? (·.1) = none := by rfl) :
    PG X (.Tuple es k pos) (gPat X.K (.tp ps)) := pg_or (pg_tupH hot h hn hst) (pg_unlH hot h hn hst)
end
end DL

/-! DXc: defs called while an exception is handled. -/
namespace DL
open PySem PySem.Spec L2
open PyProof.Rows hiding St

structure RmH (k : Nat) (A : Around) : Prop where
  room : L2H.RoomH k A
  quiet : A.guards = some []
theorem RmH.less {i k : Nat} {A : Around} (r : RmH k A) (h : i ≤ k) : RmH i A := ⟨r.room.mono h, r.quiet⟩
theorem RmH.deeper {k : Nat} {A : Around} (r : RmH (k + 1) A) (env : Env) : RmH k (A.deeper env) := ⟨r.room.deeper env, quiet_deeper r.quiet env⟩
theorem RmH.units {k : Nat} {A : Around} (r : RmH k A) : A.units + 64 < cLine := by have := r.room.un; omega
theorem Rm.mark {k : Nat} {A : Around} (r : Rm k A) (v : Option Value) : RmH k (A.mark v) := by
  refine ⟨⟨?_, ?_⟩, ?_⟩
  · exact r.room.dp
  · exact r.room.un
  · exact r.quiet
/-- the context of a def's body, called while an exception is handled -/
abbrev cxD (P : Program) (w : World) (K : PySem.W.Frag) (mg : Str → Option Value) (base : Heap) (N : List Str) (qual : Str) (scope : Scope) (f : Addr) (cd : Value) (A : Around) (outer : List Env) (s : Shared) (H : Hp) (E : XK) (p : Addr × Obj) : Cx :=
  L2H.cxH (L2N.CX P w) P w K mg base N qual scope f cd A outer s H E p
structure FnGH (P : Program) (w : World) (K : PySem.W.Frag) (mg : Str → Option Value) (base : Heap) (k : Nat) (f : Addr) (fd : FuncData) (ps : List Str) (sp : Sp) : Prop where
  arity : ∀ vs H Q E, sp vs H Q E → vs.length = ps.length
  go : ∀ (A : Around) (outer : List Env) (s : Shared) (H : Hp) (args : Args) (us : List Value) (vs : List V) (Q : VK) (E : XK) (a : Addr) (oe : Obj) (u : HO),
    RmH k A → A.handled = some (.ref a) → HotO oe → H a = some (.frz oe u) → Env0 P w K mg base A outer s H → BindsTo s fd args (ps.zip us) → Vals vs us → sp vs H Q E →
    codeAny (model P w) A (.call (.ref f) args) (CR (L2N.CX P w) outer P w H s Q E) s
section
variable {P : Program} {w : World} {K : PySem.W.Frag} {mg : Str → Option Value} {base : Heap}
theorem fnH_of {k : Nat} {f : Addr} {name qual : Str} {pr : Arguments} {body : List Stmt} {sc : Scope} {v1 v2 v3 v4 v5 v6 v7 : Value} {a1 a2 : Option Addr} {sl : Array (Option Value)} {N ps : List Str} {sp : Sp}
    (hf : K.lookup f = some ⟨v7, a2, .func (PySem.W.fnOf name qual pr body sc v1 v2 v3 v4 a1 v5 v6), sl⟩) (hc : PySem.W.codeIn K v5 qual = true) (S : FnScope N ps sc) (ar : ∀ vs H Q E, sp vs H Q E → vs.length = ps.length)
    (hb : ∀ (A : Around) (outer : List Env) (s : Shared) (H : Hp) (vs : List V) (Q : VK) (E : XK) (p : Addr × Obj), RmH k (A.deeper (envOfC qual sc s.heap.objs.size f v5)) → HotD (cxD P w K mg base N qual sc f v5 A outer s H E p) → sp vs H Q E →
      ∃ t, PSs (cxD P w K mg base N qual sc f v5 A outer s H E p) body t ∧ t { nx := fun _ H' => Q .non H', rt := Q } (start N vs) H) :
    FnGH P w K mg base (k + 1) f (PySem.W.fnOf name qual pr body sc v1 v2 v3 v4 a1 v5 v6) ps sp := by
  constructor
  · exact ar
  intro A outer s H args us vs Q E a oe u rm hd ho hH e0 hbd hv hsp
  have hn := ar _ _ _ _ hsp
  have old : ∀ b o, base.get? b = some o → s.heap.get? b = some o := fun b o e => (e0.bs b o e).1
  have kin : K.In s.heap := e0.mod.kin.keeps old
  have nol : s.heap.NoLimit := e0.mod.nolimit.keeps old
  have fb := e0.mod.kin _ _ hf
  have pin : L2H.PinOk outer H s (f, ⟨v7, a2, .func (PySem.W.fnOf name qual pr body sc v1 v2 v3 v4 a1 v5 v6), sl⟩) := by
    refine ⟨old _ _ fb, (e0.bs _ _ fb).2, fun hm => ?_, fun v z => by cases z⟩
    have := (e0.funs.mem hm).1
    rw [fb] at this
    cases this
  have kinds : ∀ y ∈ ps.zip us, sc.names.lookup y.1 = some .local ∨
      (sc.names.lookup y.1 = some .cell ∧ ((cellsFrom (s.heap.objs.size + 1) sc.names []).lookup y.1).isSome = true) := by
    rintro ⟨n, v⟩ hy
    rcases S.par n (List.of_mem_zip hy).1 with h | h
    · exact Or.inl h
    · exact Or.inr ⟨h, PySem.W.cellsFrom_some _ _ _ (Or.inl h)⟩
  refine codeAny_call_function rm.room.depth (kin _ _ hf) rfl S.co S.gen rfl (PySem.W.codeRec_of kin hc) (hbd _ _ _ _ ?_)
  refine wpAny_newFunctionEnv_cells S.kind kinds fun env ee s1 ic => ?_
  cases ee
  refine ⟨nol.keeps ic.toInCall.keep, codeAny_func ?_⟩
  obtain ⟨t, ht, hq⟩ := hb A outer s H vs Q E _ (rm.deeper _) ⟨a, oe, u, hd, ho, hH⟩ hsp
  have J := L2H.inv_startH (CX := L2N.CX P w) (E := E) (cd := v5) (qual := qual) (f := f) S pin e0 hn hv ic
  refine wpAny_mono (ht.run [] s1 (start N vs) H _ J hq) ?_ (fun _ _ h => h)
  intro fl s2 h2
  match fl, h2 with
  | .ret u, ⟨v, σ2, H2, J2, rv, q⟩ => exact ⟨v, H2, J2.os, J2.bare, J2.base, J2.hok, rv, q⟩
  | .next, ⟨σ2, H2, J2, q⟩ => exact ⟨V.non, H2, J2.os, J2.bare, J2.base, J2.hok, rfl, q⟩
  | .brk, ⟨_, _, _, q⟩ => exact q.elim
  | .cont, ⟨_, _, _, q⟩ => exact q.elim
/-- by a mirror -/
theorem fnMH {x qual : Str} {st : Stmt} {f : Addr} {fd : FuncData} {N ps : List Str} {k n : Nat} {m : Sm} (F : Fun K x qual st f fd) (S : FnScope N ps (defScope st)) (hn : ps.length = n)
    (hb : ∀ (cd : Value) (A : Around) (outer : List Env) (s : Shared) (H : Hp) (E : XK) (p : Addr × Obj), RmH k (A.deeper (envOfC qual (defScope st) s.heap.objs.size f cd)) → HotD (cxD P w K mg base N qual (defScope st) f cd A outer s H E p) →
      VB (cxD P w K mg base N qual (defScope st) f cd A outer s H E p) (fun _ => E) (defBody st) m) :
    FnGH P w K mg base (k + 1) f fd ps (SpM K mg n (mDef N.length m)) := by
  obtain ⟨oc, od, kV, doc, pm, an, cd, ct, osl, e, lk, hcd⟩ := F.ex
  cases e
  refine fnH_of lk hcd S (fun vs H Q E h => h.1.trans hn.symm) fun A outer s H vs Q E p rm hot h => ?_
  obtain ⟨hl, F, ι, ds, S', wd, r, q⟩ := h
  refine ⟨_, hb cd A outer s H E p rm hot ⟨H, F, ι⟩, F, ι, startE N.length ds, S', start_rs wd r, ?_⟩
  unfold mDef at q
  cases hm : m (startE N.length ds) S' with
  | nx e S1 => rw [hm] at q; exact fun σ' H' F' ι' w' _ => q .non H' F' ι' w'.ext w'.wd rfl
  | rt d S1 => rw [hm] at q; exact fun v H' F' ι' e w' hv => q v H' F' ι' e w' hv
  | ex c ns es e1 S1 => rw [hm] at q; exact fun σ' C d H' F' ι' hc w' _ hd => q C d H' F' ι' hc w'.ext w'.wd hd
  | bk e S1 => rw [hm] at q; exact q.elim
  | ct e S1 => rw [hm] at q; exact q.elim
  | bad => rw [hm] at q; exact q.elim
end
section
variable {X : Cx} {k : Nat} {f : Addr} {fd : FuncData} {ps : List Str} {sp : Sp} {E : EE} {x : Str} {p pos : Pos} {e : Expr} {es : List Expr} {t : TA}
theorem pe_callGH (F : FnGH X.prog X.w X.K X.mg X.base k f fd ps sp) (rm : RmH k X.A) (hot : HotD X) (hg : Gl X x) (hm : X.mg x = some (.ref f)) (hk : PySem.W.keepIn X.K (.ref f) = true) (hb : Binds X.K fd ps []) (px : Px X E) (ha : PA X (e :: es) t)
    (hd : (x == ("__debug__" : Str)) = false := by decide) (h1 : starEach (e :: es) X.env = (false, eval e X.env) :: starEach es X.env := by rfl) (h2 : (backTo pos (starEach es X.env)).any (·.1) = false := by rfl) :
    PE X (.Call (.Name x p) (e :: es) [] pos) (tCallG sp E t) := by
  constructor
  intro pins s σ H Q I h
  refine wpAny_Call_Name_kw (ld_glob I hg hm ?_ hd)
  refine PySem.W.callWith_K (h₀ := X.base) I.ok.mod.kin hk (thn (ha.run pos pins s σ H _ I h) ?_) h1 h2
  rintro us s1 ⟨vs, H1, I1, r, q⟩
  refine ⟨I1.kIn, ?_⟩
  obtain ⟨a, oe, u, hh, ho, hH, _⟩ := hot.here I1
  have hl : us.length = ps.length := r.length.symm.trans (F.arity _ _ _ _ q)
  have bd := hb s1 us I1.kIn (by rw [List.append_nil]; exact hl)
  rw [List.append_nil] at bd
  refine wpAny_call (codeAny_mono (F.go X.A X.stack s1 H1 ⟨us, []⟩ us vs Q (E σ) a oe u rm hh ho hH I1.env0 bd r q) ?_)
  intro r s' hr
  match r, hr with
  | .error e, hr => exact px pins σ H1 s1 e s' I1 hr
  | .ok (.ret u), hr => exact I1.after hr
theorem v_callH {i n : Nat} {m : Fn} {fa : Ex (List D)} (G : FnGH X.prog X.w X.K X.mg X.base i f fd ps (SpM X.K X.mg n m)) (rm : RmH i X.A) (hot : HotD X) (hm : X.mg x = some (.ref f)) (hk : PySem.W.keepIn X.K (.ref f) = true) (hb : Binds X.K fd ps [])
    (px : Px X E) (ha : VA X E (e :: es) fa) (hg : Gl X x := by rfl) (hd : (x == ("__debug__" : Str)) = false := by decide)
    (h1 : starEach (e :: es) X.env = (false, eval e X.env) :: starEach es X.env := by rfl) (h2 : (backTo pos (starEach es X.env)).any (·.1) = false := by rfl) :
    VE X E (.Call (.Name x p) (e :: es) [] pos) (mFn n m fa) := fun g => (pe_callGH G rm hot hg hm hk hb px (ha g) hd h1 h2).imp fn_imp
/-- the suite's context is hot -/
theorem hot_sut {a : Addr} {pn : List (Addr × Obj)} {oe : Obj} (ho : HotO oe) : HotD (X.sut a pn oe) := ⟨a, oe, _, rfl, ho, upd_same⟩
end
end DL

/-! DXd: a lambda is made: the table of its maker, its code object, its own object. -/
namespace DL
open PySem PySem.Spec L2
open PyProof.Rows hiding St

abbrev LamO (o : Obj) (f : Addr) : HO := .ext fun h => h.get? f = some o
theorem lamO_ok {P : Program} {w : World} {H : Hp} {h : Heap} {f : Addr} {o : Obj} (e : h.get? f = some o) : ObjOk P w H h f (LamO o f) := ⟨e, ⟨_, e⟩, fun h1 h2 a k => k _ a⟩
section
variable {K : PySem.W.Frag} {mg : Str → Option Value} {F : Fz} {ι : List Addr} {H : Hp} {S : List Cell}
theorem Wd.push {f : Addr} (w : Wd K mg F ι H S) (nf : f ∉ ι) (hf : F f) : Wd K mg F (ι ++ [f]) H (S ++ [.dead]) := by
  have side : ∀ {n : Nat} {c : Cell} {a : Addr}, (S ++ [Cell.dead])[n]? = some c → (ι ++ [f])[n]? = some a → (S[n]? = some c ∧ ι[n]? = some a) ∨ (c = .dead ∧ a = f) := fun {n c a} h1 h2 => by
    have hl := w.len
    by_cases hn : n < S.length
    · rw [List.getElem?_append_left hn] at h1
      rw [List.getElem?_append_left (by omega)] at h2
      exact .inl ⟨h1, h2⟩
    · rw [List.getElem?_append_right (by omega)] at h1 h2
      rw [hl] at h1
      cases z : n - ι.length with
      | zero => rw [z] at h1 h2; exact .inr ⟨by simpa using h1.symm, by simpa using h2.symm⟩
      | succ k => rw [z] at h1; simp at h1
  refine ⟨w.fin, fun n c a h1 h2 hl => ?_, ?_, by simp [w.len], fun n c a h1 h2 => ?_⟩
  · rcases side h1 h2 with ⟨e1, e2⟩ | ⟨e1, e2⟩
    · exact w.cnf n c a e1 e2 hl
    · rw [e1] at hl; cases hl
  · rw [List.nodup_append]
    refine ⟨w.cnd, by simp, fun a ha b hb => ?_⟩
    obtain rfl : b = f := by simpa using hb
    exact fun z => nf (z ▸ ha)
  · rcases side h1 h2 with ⟨e1, e2⟩ | ⟨e1, e2⟩
    · exact cell_mono (fun _ h => h) (fun _ _ _ h => h) (List.prefix_append _ _) (fun _ h => h) c (w.cells n c a e1 e2)
    · rw [e1, e2]; exact hf
/-- the table gets a code object -/
theorem Wd.code {P c : Addr} {q : Str} {n : Nat} {ps more : Array Value} (w : Wd K mg F ι H S) (hn : S[n]? = some (.tab P q)) (hP : H P = some (.tbl ps)) (nc : H c = none) (ht : TriplesOk (ps ++ more).toList)
    (old : ∀ pos cv, codeAmong pos ps.toList = some cv → ∃ d, cv = .ref d ∧ F d ∧ H d = some (LamX.CodeO d q)) (ha : ∀ pos cv, codeAmong pos (ps ++ more).toList = some cv → codeAmong pos ps.toList = some cv ∨ cv = .ref c) :
    Ext H F ι (upd (upd H P (.tbl (ps ++ more))) c (LamX.CodeO c q)) (fun b => F b ∨ b = c) ι ∧ Wd K mg (fun b => F b ∨ b = c) ι (upd (upd H P (.tbl (ps ++ more))) c (LamX.CodeO c q)) S := by
  have hl : n < ι.length := by rw [← w.len]; exact (List.getElem?_eq_some_iff.mp hn).1
  have hi := List.getElem?_eq_getElem hl
  obtain ⟨e0, _⟩ := w.cells n _ _ hn hi
  have iP : P ∈ ι := by rw [← e0]; exact List.getElem_mem hl
  have nF : ¬ F P := by have := w.cnf n _ _ hn hi rfl; rwa [e0] at this
  have ci : c ∉ ι := fun z => w.cell_ne z nc
  have nPc : P ≠ c := ne_of_none hP nc
  have same : ∀ {b o}, H b = some o → b ≠ P → upd (upd H P (.tbl (ps ++ more))) c (LamX.CodeO c q) b = some o := fun {b o} h1 h2 => by rw [upd_ne (ne_of_none h1 nc), upd_ne h2]; exact h1
  have e : Ext H F ι (upd (upd H P (.tbl (ps ++ more))) c (LamX.CodeO c q)) (fun b => F b ∨ b = c) ι := by
    refine ⟨fun _ h => .inl h, fun b h => ?_, fun b o h hw => same h fun z => ?_, fun b h => ?_, List.prefix_refl _, fun _ h => .inl h⟩
    · rcases h with h | rfl
      · exact .inl h
      · exact .inr nc
    · subst z
      exact hw.elim nF fun y => y iP
    · cases z : H b with
      | none => rfl
      | some o =>
        by_cases hb : b = P
        · subst hb; rw [upd_ne nPc, upd_same] at h; cases h
        · rw [same z hb] at h; cases h
  refine ⟨e, ⟨fun b h z => ?_, fun k cl a h1 h2 hv h => ?_, w.cnd, w.len, fun k cl a h1 h2 => ?_⟩⟩
  · rcases h with h | rfl
    · exact w.fin b h (e.mono b z)
    · rw [upd_same] at z; cases z
  · rcases h with h | rfl
    · exact w.cnf k cl a h1 h2 hv h
    · exact ci (List.mem_of_getElem? h2)
  · by_cases hb : a = P
    · have kn : k = n := by
        have hk : k < ι.length := (List.getElem?_eq_some_iff.mp h2).1
        refine (List.getElem_inj (h₀ := hk) (h₁ := hl) w.cnd).mp ?_
        rw [(List.getElem?_eq_some_iff.mp h2).2, e0, hb]
      subst kn
      rw [hn] at h1
      cases h1
      refine ⟨hb, _, by rw [hb, upd_ne nPc, upd_same], ht, fun pos cv z => ?_⟩
      rcases ha pos cv z with z | rfl
      · obtain ⟨d, e1, f1, h1⟩ := old pos cv z
        refine ⟨d, e1, .inl f1, same h1 fun y => ?_⟩
        rw [y] at f1
        exact nF f1
      · exact ⟨c, rfl, .inr rfl, upd_same⟩
    · exact cell_mono e.sub (w.stay e) e.pre (fun o ho => same ho hb) cl (w.cells k cl a h1 h2)
end
section
variable {X : Cx} {pins : List (Addr × Obj)} {σ : L2.St} {H : Hp} {s : Shared}
/-- lambda: body -/
theorem lam_mk {c P : Addr} {n : Nat} {q : Str} {F : Fz} {ι : List Addr} {S : List Cell} {params : Arguments} {body : Expr} {scope : Scope} {pos : Pos} {E : Value → Shared → Prop} {Q : Value → Shared → Prop} (I : Inv X pins σ H s) (TB : LamX.TabB X.base X.mg c P)
    (hcode : X.env.code = .ref c) (hq : X.env.qual ++ "<lambda>" = q) (wd : Wd X.K X.mg F ι H S) (hn : S[n]? = some (.tab P q)) (hdef : defaultsOf params X.env = ([], [])) (hfree : ∀ y ∈ scope.names, y.2 = .free → ∃ c, X.env.cells.lookup y.1 = some c)
    (go : ∀ (f c1 : Addr) (pm ctv : Value) (H1 : Hp) (F1 : Fz) (s1 : Shared), Inv X pins σ H1 s1 → Ext H F ι H1 F1 (ι ++ [f]) → Wd X.K X.mg F1 (ι ++ [f]) H1 (S ++ [.dead]) →
      H1 f = some (LamO (PySem.W.kla_obj "<lambda>" q params body scope (cloFrom X.env.cells scope.names []) pm c1 ctv) f) → F1 f → H1 c1 = some (LamX.CodeO c1 q) → F1 c1 → Q (.ref f) s1) :
    wpAny (model X.prog X.w) X.A (eval (.Lambda params body scope pos) X.env) Q E s := by
  subst hq
  have hl : n < ι.length := by rw [← wd.len]; exact (List.getElem?_eq_some_iff.mp hn).1
  obtain ⟨e0, ps, hP, ht, ha⟩ := wd.cells n _ _ hn (List.getElem?_eq_getElem hl)
  rw [e0] at hP
  refine PySem.W.kla_eval hdef ?_
  have bP : s.heap.BuiltinsAt X.mg P := TB.bm.keeps I.bk
  have tP : s.heap.get? P = some { cls := .none, data := .fields ps } := I.hok P _ hP
  -- the lambda's object is told of
  have close : ∀ {H1 : Hp} {F1 : Fz} {h1 : Heap} {o : Obj} {tk : Tok} {c1 : Addr} {pm ctv : Value}, Inv X pins σ H1 { s with heap := h1.push o, toks := tk } → s.heap.objs.size ≤ h1.objs.size → H1 h1.objs.size = none → Ext H F ι H1 F1 ι → Wd X.K X.mg F1 ι H1 S →
      o = PySem.W.kla_obj "<lambda>" (X.env.qual ++ "<lambda>") params body scope (cloFrom X.env.cells scope.names []) pm c1 ctv → H1 c1 = some (LamX.CodeO c1 (X.env.qual ++ "<lambda>")) → F1 c1 → Q (.ref h1.objs.size) { s with heap := h1.push o, toks := tk } := by
    intro H1 F1 h1 o tk c1 pm ctv I1 hsz hn1 ex w1 ho hc1 fc1
    subst ho
    have of : (h1.push (PySem.W.kla_obj "<lambda>" (X.env.qual ++ "<lambda>") params body scope (cloFrom X.env.cells scope.names []) pm c1 ctv)).get? h1.objs.size = some _ := Heap.get?_push_size _ rfl
    have I2 := I1.track (dx := h1.objs.size) (o := LamO _ h1.objs.size) I (Heap.get?_none_of_le hsz) hn1 (lamO_ok of)
    have nι : h1.objs.size ∉ ι := fun z => w1.cell_ne z hn1
    obtain ⟨e2, w2⟩ := w1.lay (o := LamO _ h1.objs.size) hn1
    have e3 := cell_ext (a := h1.objs.size) (ex.trans e2) (ex.mono _ hn1)
    have w3 := w2.push nι (.inr rfl)
    exact go _ c1 pm ctv _ _ _ I2 e3 w3 upd_same (.inr rfl) (by rw [upd_ne (ne_of_none hc1 hn1)]; exact hc1) (.inl fc1)
  cases hc : codeAmong pos ps.toList with
  | none =>
    refine PySem.W.kla_makeFunction (mg := X.mg) (c := c) (P := P) (ps := ps) (closure_ok hfree) I.ok.glob (I.mod.glob.keeps I.bk) hcode (TB.code.keeps I.bk) tP ht hc TB.gP bP fun c1 ctv h1 tk hx hge hlt hrec htb => ?_
    obtain ⟨c2, oc, vs, t, e2, hoc, hd, hv⟩ := hrec
    cases e2
    have nC : H c1 = none := I.hok.fresh hge
    have hsz : s.heap.objs.size ≤ h1.objs.size := Nat.le_trans hge (Nat.le_of_lt hlt)
    have I1 := LamX.inv_table (t' := tk) (more := #[rawInt pos.line, rawInt pos.col, .ref c1]) (h' := h1.push (PySem.W.kla_obj "<lambda>" (X.env.qual ++ "<lambda>") params body scope (cloFrom X.env.cells scope.names []) ((X.mg "__name__").getD .none) c1 ctv)) I hP
      (fun b o hb e => Heap.get?_push_of_some _ (hx b o hb e)) (Heap.get?_push_of_some _ htb) hge ⟨oc, vs, t, Heap.get?_push_of_some _ hoc, hd, hv⟩
    have eL : (ps ++ #[rawInt pos.line, rawInt pos.col, .ref c1]).toList = ps.toList ++ [rawInt pos.line, rawInt pos.col, .ref c1] := by simp
    obtain ⟨ex, w1⟩ := wd.code (more := #[rawInt pos.line, rawInt pos.col, .ref c1]) hn hP nC (by rw [eL]; exact PySem.TriplesOk_snoc _ _ _ _ ht) ha (fun p' cv z => by rw [eL] at z; exact LamX.among_app _ ht z)
    have n1 : h1.objs.size ≠ c1 := Nat.ne_of_gt hlt
    have n2 : h1.objs.size ≠ P := Nat.ne_of_gt (Nat.lt_of_lt_of_le (Heap.lt_size tP) hsz)
    exact close I1 hsz (by rw [upd_ne n1, upd_ne n2]; exact I.hok.fresh hsz) ex w1 rfl upd_same (.inr rfl)
  | some cv =>
    obtain ⟨c1, rfl, f1, hco⟩ := ha pos cv hc
    refine PySem.W.kla_makeFunctionHit (mg := X.mg) (c := c) (P := P) (ps := ps) (closure_ok hfree) I.ok.glob (I.mod.glob.keeps I.bk) hcode (TB.code.keeps I.bk) tP ht hc bP fun ctv h1 tk hx hsz => ?_
    have I1 : Inv X pins σ H { s with heap := h1.push (PySem.W.kla_obj "<lambda>" (X.env.qual ++ "<lambda>") params body scope (cloFrom X.env.cells scope.names []) ((X.mg "__name__").getD .none) c1 ctv), toks := tk } := I.kept fun b o e => Heap.get?_push_of_some _ (hx b o e)
    exact close I1 hsz (I.hok.fresh hsz) Ext.refl wd rfl hco f1
end
end DL

/-! DXe: x(lambda: body), the def x calls what it got. -/
namespace DL
open PySem PySem.Spec L2
open PyProof.Rows hiding St

/-- the context of the lambda's body -/
def lamC (X : Cx) (A : Around) (outer : List Env) (s : Shared) (H : Hp) (E : XK) (scope : Scope) (f c1 : Addr) : Cx :=
  (LamX.lamCx X A outer s H E scope f c1).tr [] fun e s' => wpAny (model X.prog X.w) (A.deeper (LamX.lamEnv X scope s.heap.objs.size f c1)) (leaving (LamX.lamEnv X scope s.heap.objs.size f c1) e)
    (fun _ s2 => L2N.CX X.prog X.w outer H s E e s2) (fun e2 s2 => L2N.CX X.prog X.w outer H s E e2 s2) s'
theorem px_lam {X : Cx} {A : Around} {outer : List Env} {s : Shared} {H : Hp} {E : XK} {scope : Scope} {f c1 : Addr} : Px (lamC X A outer s H E scope f c1) (fun _ => E) := px_of (L2N.takes_of rfl rfl rfl rfl)
/-- the thing in the first slot, called: t says what it gives -/
def mThunk (n : Nat) (t : List Cell → Rs D) : Ex D := fun env S => match env[(0 : Nat)]? with
  | some (.val (.cell m)) => if m = n then t S else .bad
  | _ => .bad
def noOwn : Sl → Sl
  | .own _ => .un
  | x => x
/-- x(lambda: body): T the number of the maker's table among the cells, P its place -/
def mLam (T : Nat) (P : Addr) (q : Str) (m : Nat → (List Cell → Rs D) → Fn) (h : Ex D) : Ex D := fun env S => match S[T]? with
  | some (.tab P' q') => if P' = P ∧ q' = q then m S.length (fun S' => h (env.map noOwn) S') [.cell S.length] (S ++ [.dead]) else .bad
  | _ => .bad
/-- in the def's context, at its entry's snap: a() gives what t says -/
def ActG (X : Cx) (g : Snap) (n : Nat) (a : Str) (t : List Cell → Rs D) : Prop := ∀ (E : EE) (pn : List (Addr × Obj)) (xe : Value → Shared → Prop), L2N.Takes (X.tr pn xe) (fun cls d σ H => E σ cls d H) → ∀ p1 p2 : Pos,
  PE (X.tr pn xe) (.Call (.Name a p1) [] [] p2) (tV X.K X.mg g E (mThunk n t))

section
variable {X : Cx} {E : EE}
theorem rs_noown {K : PySem.W.Frag} {mg : Str → Option Value} {g : Snap} {σ : L2.St} {H H1 : Hp} {F F1 : Fz} {ι ι1 : List Addr} {env : List Sl} {S S1 : List Cell} (r : RS K mg g σ H F ι env S) (sub : ∀ a, F a → F1 a) (st : Stay F H H1) (pre : ι <+: ι1) (w : Wd K mg F1 ι1 H1 S1) :
    RS K mg ⟨H1, F1, ι1⟩ σ H1 F1 ι1 (env.map noOwn) S1 := by
  have no : ∀ (i : Nat) xs, (env.map noOwn)[i]? ≠ some (.own xs) := fun i xs h => by
    rw [List.getElem?_map] at h
    cases z : env[i]? with
    | none => rw [z] at h; cases h
    | some x => rw [z] at h; cases x <;> cases h
  refine ⟨w, Ext.refl, by rw [r.len, List.length_map], fun i d h => ?_, fun i xs h => absurd h (no i xs), fun i j a di dj h _ _ _ => absurd h (no i di)⟩
  rw [List.getElem?_map] at h
  cases z : env[i]? with
  | none => rw [z] at h; cases h
  | some x =>
    rw [z] at h
    cases x with
    | un => cases h
    | own _ => cases h
    | val d' =>
      cases h
      obtain ⟨v, h1, h2⟩ := r.slot i d z
      exact ⟨v, h1, rep_mono sub st pre d v h2⟩
theorem v_lam (T : Nat) {P g c : Addr} {q x a : Str} {k : Nat} {st : Stmt} {fd : FuncData} {N : List Str} {m : Nat → (List Cell → Rs D) → Sm} {h : Ex D} {params : Arguments} {body : Expr} {scope : Scope} {p lpos pos : Pos}
    (F : Fun X.K x x st g fd) (Sg : FnScope N [a] (defScope st)) (hN : N[0]? = some a) (hva : Vis (defScope st) a) (hm : X.mg x = some (.ref g)) (hb : Binds X.K fd [a] [])
    (hG : ∀ (cd : Value) (A : Around) (outer : List Env) (s : Shared) (H : Hp) (E : XK) (gs : Snap) (n : Nat) (t : List Cell → Rs D), Rm (k + 1) (A.deeper (envOfC x (defScope st) s.heap.objs.size g cd)) →
      ActG (cxOf (L2N.CX X.prog X.w) X.prog X.w X.K X.mg X.base N x (defScope st) g cd A outer s H E) gs n a t →
      PSs (cxOf (L2N.CX X.prog X.w) X.prog X.w X.K X.mg X.base N x (defScope st) g cd A outer s H E) (defBody st) (tS X.K X.mg gs (fun _ => E) (m n t)))
    (TB : LamX.TabB X.base X.mg c P) (hcode : X.env.code = .ref c) (hq : X.env.qual ++ "<lambda>" = q) (rm : Rm (k + 2) X.A) (px : Px X E) (L : LamX.LamS X.env.scope scope) (hdef : defaultsOf params X.env = ([], []))
    (hbind : ∀ (q : Str) (cl : List (Str × Addr)) (pm cv ctv : Value), bindArgs (PySem.W.kla_fn "<lambda>" q params body scope cl pm cv ctv) ⟨[], []⟩ = pure [])
    (hbody : ∀ (A : Around) (outer : List Env) (s : Shared) (H : Hp) (E : XK) (f c1 : Addr), Rm k (A.deeper (LamX.lamEnv X scope s.heap.objs.size f c1)) → VE (lamC X A outer s H E scope f c1) (fun _ => E) body h)
    (hg : Gl X x := by rfl) (hdb : (x == ("__debug__" : Str)) = false := by decide) (hd : (a == ("__debug__" : Str)) = false := by decide) (hcd : (a == ("__classdict__" : Str)) = false := by decide) :
    VE X E (.Call (.Name x p) [.Lambda params body scope lpos] [] pos) (mLam T P q (fun n t => mDef N.length (m n t)) h) := fun gM => by
  constructor
  rintro pins s σ H Q I ⟨F0, ι, env, S, w, q0⟩
  have room := rm.room
  unfold mLam at q0
  split at q0
  case h_2 => exact q0.elim
  rename_i P' q' hT
  by_cases hPq : P' = P ∧ q' = q
  case neg => rw [if_neg hPq] at q0; exact q0.elim
  rw [if_pos hPq] at q0
  obtain ⟨rfl, rfl⟩ := hPq
  refine wpAny_Call_Name_kw (ld_glob I hg hm ?_ hdb)
  refine PySem.W.callWith_K (h₀ := X.base) I.ok.mod.kin F.kp ?_ (by rfl) (by rfl)
  show wpAny _ _ (spliced ((false, eval (.Lambda params body scope lpos) X.env) :: backTo pos (starEach [] X.env))) _ _ s
  refine Calls.spliced_cons (lam_mk I TB hcode hq w.wd hT hdef (L.has I.ok) fun f c1 pm ctv H1 F1 s1 I1 e1 w1 hf ff hc fc => ?_)
  refine Calls.spliced_nil ⟨I1.kIn, ?_⟩
  subst hq
  have r1 := w.step e1 w1
  have hfr : f ∉ frs X.stack := fun z => by
    have := I1.stkFree f z
    rw [hf] at this
    cases this
  -- what the thing gives in the def's context
  have act : ∀ (cd : Value), Room (k + 1) (X.A.deeper (envOfC x (defScope st) s1.heap.objs.size g cd)) → (X.A.deeper (envOfC x (defScope st) s1.heap.objs.size g cd)).guards = some [] →
      ActG (cxOf (L2N.CX X.prog X.w) X.prog X.w X.K X.mg X.base N x (defScope st) g cd X.A X.stack s1 H1 (E σ)) ⟨H1, F1, ι ++ [f]⟩ S.length a (fun S' => h (env.map noOwn) S') := by
    intro cd hr hgd E2 pn xe tk p1 p2
    constructor
    rintro pinsZ sZ σZ HZ QZ IZ ⟨FZ, ιZ, envZ, SZ, wZ, qZ⟩
    unfold mThunk at qZ
    split at qZ
    case h_2 => exact qZ.elim
    rename_i m0 hm0
    by_cases hmn : m0 = S.length
    case neg => rw [if_neg hmn] at qZ; exact qZ.elim
    rw [if_pos hmn] at qZ
    subst hmn
    obtain ⟨v0, s0, a0, rfl, i0⟩ := wZ.slot 0 _ hm0
    have i1 : (ι ++ [f])[S.length]? = some f := by rw [w.wd.len, List.getElem?_append_right (Nat.le_refl _)]; simp
    have := pre_get wZ.ext.pre i1
    rw [i0] at this
    cases this
    refine wpAny_Call_Name_kw (thn ((pe_var (pos := p1) (i := 0) hN hva hd hcd).run pinsZ sZ σZ HZ (fun v H1 => v = .ref f ∧ H1 = HZ) IZ ⟨.ref f, s0, rfl, rfl⟩) fun u s2 hv => ?_)
    obtain ⟨v, H2, I2, r2, rfl, rfl⟩ := hv
    obtain rfl : u = Value.ref f := r2
    have kf := wZ.ext.keep f _ hf (.inl ff)
    obtain ⟨of2, _, _⟩ := I2.hok f _ kf
    obtain ⟨⟨oc, vs, tt, hoc, hdc, hvc⟩, _, _⟩ := I2.hok c1 _ (wZ.ext.keep c1 _ hc (.inl fc))
    refine PySem.W.callWith_F0 ⟨_, _, _, _, of2⟩ ?_
    have un : Un (frs X.stack) [] H1 H2 s1.heap s2.heap := I2.base
    have rc : codeAny (model X.prog X.w) (X.A.deeper (envOfC x (defScope st) s1.heap.objs.size g cd)) (.call (.ref f) ⟨[], []⟩) (CR (L2N.CX X.prog X.w) (envOfC x (defScope st) s1.heap.objs.size g cd :: X.stack) X.prog X.w H2 s2 QZ (E2 σZ)) s2 := by
      refine PySem.W.kla_callFunE hr.depth of2 rfl L.co L.gen rfl ⟨c1, oc, vs, tt, rfl, hoc, hdc, hvc⟩ ?_
      rw [hbind]
      refine wpAny_pure (wpAny_newFunctionEnv (fun y hy => (L.own y hy).2) (fun y hy => absurd hy (by simp)) (fun h₁ hns hsb => ⟨I2.nolimit.fresh _ hsb, ?_⟩) L.kind)
      have kp : ∀ b o, s2.heap.get? b = some o → h₁.get? b = some o := fun b o e => hsb.extBut b o (Nat.ne_of_lt (Heap.lt_size e)) (Heap.get?_push_of_some _ e)
      have J := LamX.lam_start2 (A := X.A.deeper (envOfC x (defScope st) s1.heap.objs.size g cd)) (outer := envOfC x (defScope st) s1.heap.objs.size g cd :: X.stack) (E := E2 σZ) (f := f) (c' := c1) (tk := s2.toks + ([] : List (Str × Value)).length) I1 L I2.env0 hr.hd un hns kp
      have J2 := J.toTry (lamC X (X.A.deeper (envOfC x (defScope st) s1.heap.objs.size g cd)) (envOfC x (defScope st) s1.heap.objs.size g cd :: X.stack) s2 H2 (E2 σZ) scope f c1).xe
      have rB : Rm k ((X.A.deeper (envOfC x (defScope st) s1.heap.objs.size g cd)).deeper (LamX.lamEnv X scope s2.heap.objs.size f c1)) := ⟨hr.deeper _, quiet_deeper hgd _⟩
      have gr : Grow H F0 ι H2 FZ ιZ := (w.wd.grow e1).trans (w1.grow wZ.ext)
      have rs2 := rs_noown w gr.sub gr.stay gr.pre wZ.wd
      have vb := (hbody (X.A.deeper (envOfC x (defScope st) s1.heap.objs.size g cd)) (envOfC x (defScope st) s1.heap.objs.size g cd :: X.stack) s2 H2 (E2 σZ) f c1 rB) ⟨H2, FZ, ιZ⟩
      refine PySem.W.kla_codeExpr (wpAny_mono (vb.run [] _ _ H2 QZ J2 ⟨FZ, ιZ, env.map noOwn, SZ, rs2, ?_⟩) (fun v s' hq => ?_) fun e s' hq => hq)
      · have qZ : rdAt X.K X.mg ⟨H1, F1, ι ++ [f]⟩ E2 σZ H2 FZ ιZ envZ (fun d H' F' ι' _ => ∀ v, Rep X.K X.mg F' ι' H' d v → QZ v H') (h (env.map noOwn) SZ) := qZ
        cases hh : h (env.map noOwn) SZ with
        | bad => rw [hh] at qZ; exact qZ.elim
        | ok d S2 => rw [hh] at qZ; exact fun H' F' ι' e' r' v hv => qZ H' F' ι' e' (wZ.step e' r'.wd) v hv
        | ex cc ns ds S2 => rw [hh] at qZ; exact fun C d H' F' ι' hC r' e' hd => qZ C d H' F' ι' hC (wZ.step e' r'.wd) e' hd
      · obtain ⟨w', H', J', rv, qq⟩ := hq
        exact ⟨w', H', J'.os, J'.bare, J'.base, J'.hok, rv, qq⟩
    refine wpAny_call (codeAny_mono rc fun r s' hq => ?_)
    match r, hq with
    | .error e, hq => exact tk e s' (L2N.XE.of_call I2 (fun _ _ _ z => z) hq)
    | .ok (.ret u), hq => exact I2.after hq
  obtain ⟨oc, od, kV, doc, pm2, an, cdv, ct, osl, e, lk, hcg⟩ := F.ex
  cases e
  have rc : codeAny (model X.prog X.w) X.A (.call (.ref g) ⟨[.ref f], []⟩) (CR (L2N.CX X.prog X.w) X.stack X.prog X.w H1 s1 Q (E σ)) s1 := by
    refine LamX.run_ofS (N := N) (ps := [a]) (us := [.ref f]) (vs := [.ref f]) lk hcg Sg rm.room I1.env0 (by simpa using hb s1 [.ref f] I1.kIn rfl) (.cons rfl .nil) rfl fun hr2 => ?_
    have qd := quiet_deeper rm.quiet (envOfC x (defScope st) s1.heap.objs.size g cdv)
    refine ⟨_, hG cdv X.A X.stack s1 H1 (E σ) ⟨H1, F1, ι ++ [f]⟩ S.length _ ⟨hr2, qd⟩ (act cdv hr2 qd), F1, ι ++ [f], startE N.length [.cell S.length], S ++ [.dead], start_rs w1 (.one ⟨f, rfl, ?_⟩), ?_⟩
    · rw [w.wd.len, List.getElem?_append_right (Nat.le_refl _)]; simp
    · unfold mDef at q0
      dsimp only at q0
      cases hmm : m S.length (fun S' => h (env.map noOwn) S') (startE N.length [.cell S.length]) (S ++ [.dead]) with
      | nx e2 S2 => rw [hmm] at q0; exact fun σ' H' F' ι' w' _ => q0 H' F' ι' (e1.trans w'.ext) (w.step (e1.trans w'.ext) w'.wd) .non rfl
      | rt d S2 => rw [hmm] at q0; exact fun v H' F' ι' e' w' hv => q0 H' F' ι' (e1.trans e') (w.step (e1.trans e') w') v hv
      | ex cc ns es e2 S2 => rw [hmm] at q0; exact fun σ' C d H' F' ι' hC w' _ hd => q0 C d H' F' ι' hC (w.step (e1.trans w'.ext) w'.wd) (e1.trans w'.ext) hd
      | bk e2 S2 => rw [hmm] at q0; exact q0.elim
      | ct e2 S2 => rw [hmm] at q0; exact q0.elim
      | bad => rw [hmm] at q0; exact q0.elim
  refine wpAny_call (codeAny_mono rc fun r s2 hq => ?_)
  match r, hq with
  | .error e, hq => exact px pins σ H1 s1 e s2 I1 hq
  | .ok (.ret u), hq => exact I1.after hq
end
end DL

/-! DXf: xs.count(x) of lists of truth values; statements at one snap; a def whose code is known; the law's end with tables. -/
namespace DL
open PySem PySem.Spec L2
open PyProof.Rows hiding St

def eqB (k : Bool) : Value → Bool
  | .bool b => b == k
  | _ => false
theorem vals_bools : ∀ {bs : List Bool} {its : List Value}, Vals (bs.map V.bl) its → its = bs.map Value.bool
  | [], _, h => by cases h; rfl
  | b :: bs, _, h => by
    cases h with
    | cons r t =>
      obtain rfl := vals_bools t
      rw [show _ = Value.bool b from r]
      rfl
theorem count_bools (k : Bool) : ∀ bs : List Bool, (bs.map Value.bool).countP (eqB k) = bs.count k
  | [] => rfl
  | b :: bs => by
    rw [List.map_cons, List.countP_cons, List.count_cons, count_bools k bs]
    rfl
theorem mt_lcountB {X : Cx} : MtR X "list.count" (fun x xs H Q => ∃ (p : Addr) (bs : List Bool) (k : Bool), x = .ref p ∧ xs = [.bl k] ∧ SqL X.K H p (bs.map V.bl) ∧ Q (.int (bs.count k : Nat)) H) := by
  rintro pins s σ H x xs v us Q I rx rxs ⟨p, bs, k, rfl, rfl, hs, q⟩
  cases rx
  obtain ⟨u, rfl, ru⟩ := rxs.one
  obtain rfl : u = Value.bool k := ru
  obtain ⟨its, rv, ⟨⟨cls, dd, data, sl⟩, n, ho, hc, hdn, hd⟩, hlen⟩ := I.list hs
  simp only at hc hd
  subst hc hd
  obtain rfl := vals_bools rv
  refine call_meets PySem.F.slot_list_count ⟨_, ho, rfl⟩ PySem.F.entry_list_count (PySem.F.args_list_count_2 _ _)
    (SeqAt.list_countAt p (bs.map Value.bool).toArray n dd sl (.bool k) (eqB k)) ⟨ho, fun y hy => ?_, ?_⟩
  · obtain ⟨b, _, rfl⟩ := List.mem_map.mp (show y ∈ bs.map Value.bool by simpa using hy)
    exact SeqAt.EqAt.bool_bool b k
  · refine ⟨.int (bs.count k : Nat), H, I.tok _, ⟨s.toks, ?_⟩, q⟩
    show Value.int ((((bs.map Value.bool).toArray.toList.countP (eqB k) : Nat) : Int)) s.toks = Value.int ((bs.count k : Nat) : Int) s.toks
    rw [List.toList_toArray, count_bools]
def blsOf : List D → Option (List Bool)
  | [] => some []
  | .bl b :: r => (blsOf r).map (b :: ·)
  | _ => none
theorem blsOf_map : ∀ {xs : List D} {bs : List Bool}, blsOf xs = some bs → xs = bs.map .bl
  | [], bs, h => by cases h; rfl
  | d :: r, bs, h => by
    cases d with
    | bl b =>
      cases z : blsOf r with
      | none => simp [blsOf, z] at h
      | some cs =>
        simp [blsOf, z] at h
        subst h
        rw [blsOf_map z]; rfl
    | _ => simp [blsOf] at h
@[simp] theorem blsOf_of (bs : List Bool) : blsOf (bs.map .bl) = some bs := by
  induction bs with
  | nil => rfl
  | cons b r ih => simp [blsOf, ih]
/-- xs.count(b) -/
def cntB (xs : List D) : D → List Cell → Rs D
  | .bl b, S => match blsOf xs with
    | some bs => .ok (.int (bs.count b : Nat)) S
    | none => .bad
  | _, _ => .bad
@[simp] theorem cntB_of (bs : List Bool) (b : Bool) (S : List Cell) : cntB (bs.map .bl) (.bl b) S = .ok (.int (bs.count b : Nat)) S := by unfold cntB; rw [blsOf_of]
def mCntB (f h : Ex D) : Ex D := fun env S => (f env S).andThen fun d S1 => match d with
  | .lst xs => (h env S1).andThen fun y S2 => cntB xs y S2
  | _ => .bad
theorem reps_bls {K : PySem.W.Frag} {mg : Str → Option Value} {F : Fz} {ι : List Addr} {H : Hp} : ∀ {bs : List Bool} {vs : List V}, Reps K mg F ι H (bs.map .bl) vs → vs = bs.map V.bl
  | [], _, h => h
  | b :: bs, _, h => by
    obtain ⟨v, r, rfl, h1, h2⟩ := h
    rw [show v = _ from h1, reps_bls h2]; rfl
section
variable {X : Cx} {E : EE} {o e : Expr} {f h : Ex D} {apos cpos : Pos}
theorem v_cntB (he : VE X E o f) (ha : VE X E e h) (hbase : attributeBase o "count" X.env (eval o X.env) = eval o X.env := by rfl)
    (hfew : ((backTo cpos (starEach (e :: []) X.env)).all (fun x => !x.1) && (backToKw cpos (keywordEach [] X.env)).all (fun x => x.1.isSome)
      && decide ((e :: []).length + ([] : List Keyword).length + (if ([] : List Keyword).isEmpty then 0 else 1) < 30)) = true := by rfl)
    (hline : (apos.endLine == cpos.line) = true := by rfl) (hs : starEach (e :: []) X.env = (false, eval e X.env) :: starEach [] X.env := by rfl) (hplain : (backTo cpos (starEach [] X.env)).any (·.1) = false := by rfl) :
    VE X E (.Call (.Attribute o "count" apos) [e] [] cpos) (mCntB f h) := fun g =>
  (pe_bm PySem.F.plainAttrs_list PySem.F.slot_list_count PySem.F.type_list_count mt_lcountB (he g) (pa_cons (ha g) pa_nil hs) hbase hfew hline hs hplain).imp fun σ H Q ⟨F, ι, env, S, w, q⟩ => by
  refine ⟨F, ι, env, S, w, rd_mono (rd_then q) ?_⟩
  rintro d H1 F1 ι1 S1 - e1 w1 ⟨_, _, q1⟩ v hv
  cases d with
  | lst xs =>
    obtain ⟨a, vs, rfl, hl, hr⟩ := hv
    refine ⟨.inl ⟨rfl, _, hl.sq⟩, ?_⟩
    refine ⟨F1, ι1, env, S1, w1, rd_mono (rd_then q1) ?_⟩
    rintro y H2 F2 ι2 S2 - e2 w2 ⟨_, _, q2⟩ u hu
    cases y with
    | bl b =>
      obtain rfl : u = V.bl b := hu
      unfold cntB at q2
      cases hb : blsOf xs with
      | none => rw [hb] at q2; exact q2.elim
      | some bs =>
        rw [hb] at q2
        obtain rfl := blsOf_map hb
        obtain rfl := reps_bls hr
        exact ⟨a, bs, b, rfl, rfl, (hl.mono e2.sub (w1.wd.stay e2)).sq, (q2 H2 F2 ι2 Ext.refl w2).2.2.2.2 _ rfl⟩
    | _ => exact q2.elim
  | _ => exact q1.elim
end
/-! ### statements at one snap -/
section
variable {X : Cx} {E : EE} {g : Snap} {e : Expr} {st : Stmt} {sts : List Stmt} {f : Ex D} {m1 m2 : Sm} {pos : Pos}
theorem s_setG (i : Nat) {x : Str} {px : Pos} (he : PE X e (tV X.K X.mg g E f)) (hN : X.N.Nodup) (hi : X.N[i]? = some x := by rfl) (hx : Loc X.env.scope x := by first | exact Or.inl rfl | exact Or.inr rfl)
    (hs : swapsWith e (some (.Name x px)) pos.line X.env = pure false := by rfl) (hf : X.fn x = true ∨ X.env.scope.names.lookup x = some .local := by first | exact .inl rfl | exact .inr rfl) :
    PS X (.Assign [.Name x px] e pos) (tS X.K X.mg g E (mSet i f)) := (ps_set hN hi hx he hs hf).imp set_imp
theorem b_consG (h1 : PS X st (tS X.K X.mg g E m1)) (h2 : PSs X sts (tS X.K X.mg g E m2)) : PSs X (st :: sts) (tS X.K X.mg g E (mSeq m1 m2)) := (pss_cons h1 h2).imp fun D σ H ⟨F, ι, env, S, w, q⟩ => by
  refine ⟨F, ι, env, S, w, ?_⟩
  unfold mSeq at q
  exact fl_nx q
theorem b_oneG (h1 : PS X st (tS X.K X.mg g E m1)) : PSs X [st] (tS X.K X.mg g E m1) := pss_one h1
end
section
variable {P : Program} {w : World} {K : PySem.W.Frag} {mg : Str → Option Value} {base : Heap}
/-- a def whose code object is known -/
theorem fnMc {x qual : Str} {st : Stmt} {f : Addr} {fd : FuncData} {N ps : List Str} {k n : Nat} {m : Sm} {cv : Value} (F : Fun K x qual st f fd) (S : FnScope N ps (defScope st)) (hn : ps.length = n) (hcv : fd.code = cv)
    (hb : ∀ (A : Around) (outer : List Env) (s : Shared) (H : Hp) (E : XK), Rm k (A.deeper (envOfC qual (defScope st) s.heap.objs.size f cv)) →
      VB (cxOf (L2N.CX P w) P w K mg base N qual (defScope st) f cv A outer s H E) (fun _ => E) (defBody st) m) :
    FnG P w K mg base (k + 1) f fd ps (SpM K mg n (mDef N.length m)) := by
  obtain ⟨oc, od, kV, doc, pm, an, cd, ct, osl, e, lk, hcd⟩ := F.ex
  cases e
  obtain rfl : cd = cv := hcv
  refine fnG_of lk hcd S (fun vs H Q E h => h.1.trans hn.symm) fun A outer s H vs Q E rm h => ?_
  obtain ⟨hl, F, ι, ds, S', wd, r, q⟩ := h
  refine ⟨_, hb A outer s H E rm ⟨H, F, ι⟩, F, ι, startE N.length ds, S', start_rs wd r, ?_⟩
  unfold mDef at q
  cases hm : m (startE N.length ds) S' with
  | nx e S1 => rw [hm] at q; exact fun σ' H' F' ι' w' _ => q .non H' F' ι' w'.ext w'.wd rfl
  | rt d S1 => rw [hm] at q; exact fun v H' F' ι' e w' hv => q v H' F' ι' e w' hv
  | ex c ns es e1 S1 => rw [hm] at q; exact fun σ' C d H' F' ι' hc w' _ hd => q C d H' F' ι' hc w'.ext w'.wd hd
  | bk e S1 => rw [hm] at q; exact q.elim
  | ct e S1 => rw [hm] at q; exact q.elim
  | bad => rw [hm] at q; exact q.elim
end
/-! ### the law's end, the makers' tables told of -/
/-- the cells at the start: a maker's code object, its table, its lambdas' name -/
def tabsS (cq : List (Addr × Addr × Str)) : List Cell := cq.map fun p => .tab p.2.1 p.2.2
theorem mean_of_lawT {P : Program} {w : World} {K : PySem.W.Frag} {mg mb : Str → Option Value} {k : Nat} {fa a : Addr} {fd : FuncData} {x : Str} {m : Fn} {s1 : Shared} {vs : List Value} {ns : List Int} (cq : List (Addr × Addr × Str))
    (KX : K.In s1.heap) (nG : s1.heap.Ns mainGlobals mg) (nB : s1.heap.Ns builtinsNs mb) (bB : ∀ x : Str, x ≠ "__name__" → mb x = bootBuiltins x) (lim : s1.heap.NoLimit) (noG : s1.gens = #[])
    (hT : ∀ p ∈ cq, s1.heap.get? p.2.1 = some { cls := .none, data := .fields #[] }) (nT : ∀ p ∈ cq, K.lookup p.2.1 = none) (C : ∀ p ∈ cq, PySem.W.CodeHd s1.heap p.1 p.2.1) (nd : (cq.map (·.2.1)).Nodup)
    (hbm : ∃ (bm : Addr) (ob : Obj), mg "__builtins__" = some (.ref bm) ∧ bm ≠ builtinsNs ∧ s1.heap.get? bm = some ob ∧ ob.cls = .type "module" ∧ ob.dict = some builtinsNs ∧ ob.data = .plain)
    (at_ : s1.heap.get? a = some { cls := .type "list", data := .seq vs.toArray }) (hi : IntsAre vs ns) (hl : ns.length ≤ sizeLine) (rm : Rm k callerA)
    (G : ∀ base : Heap, K.In base → base.Ns mainGlobals mg → (∀ p ∈ cq, LamX.TabB base mg p.1 p.2.1) → FnG P w K mg base k fa fd [x] (SpM K mg 1 m)) (bd : ∀ (s : Shared) (u : Value), BindsTo s fd ⟨[u], []⟩ [(x, u)])
    (hm : ∃ S', m [scriptD ns] (tabsS cq) = .ok (.bl true) S') :
    codeAny (model P w) callerA (.call (.ref fa) ⟨[.ref a], []⟩) (fun r s' => r = .ok (.ret (.bool true)) ∧ OldK s1.heap s'.heap ∧ s'.os = s1.os ∧ AllBare s'.gens) s1 := by
  have rv := vals_ints hi
  have lenV := hi.length
  let scr : HO := .frz { cls := .type "list", data := .seq vs.toArray } (.lst (ns.map V.int))
  let ts := cq.map (·.2.1)
  have isT : ∀ b ∈ ts, s1.heap.get? b = some { cls := .none, data := .fields #[] } := fun b hb => by
    obtain ⟨p, hp, e⟩ := List.mem_map.mp hb
    rw [← e]
    exact hT p hp
  have noT : ∀ b ∈ ts, K.lookup b = none := fun b hb => by
    obtain ⟨p, hp, e⟩ := List.mem_map.mp hb
    rw [← e]
    exact nT p hp
  have aT : a ∉ ts := fun z => by
    have q := isT a z
    rw [at_] at q
    have z' : Data.seq vs.toArray _ = Data.fields #[] := congrArg Obj.data (Option.some.inj q)
    cases z'
  have main : ∀ (H : Hp) (F0 : Fz), (∀ b u, H b = some u → (b = a ∧ u = scr ∧ K.lookup a = none) ∨ (b ∈ ts ∧ u = .tbl #[])) → (∀ b ∈ ts, H b = some (.tbl #[])) → (∀ b, F0 b → b = a ∧ H b ≠ none) → HOk P w H s1.heap → RoAt K F0 H a (ns.map V.int) →
      codeAny (model P w) callerA (.call (.ref fa) ⟨[.ref a], []⟩) (fun r s' => r = .ok (.ret (.bool true)) ∧ OldK s1.heap s'.heap ∧ s'.os = s1.os ∧ AllBare s'.gens) s1 := by
    intro H F0 only hH f0 hok ro
    have hid : ∀ {b : Addr} {o : Obj}, s1.heap.get? b = some o → H b = none → (hidT s1.heap H).get? b = some o := fun e n => hidT_get e n
    have free : ∀ {b : Addr} {o : Obj}, s1.heap.get? b = some o → (∀ vs n, o.data = .seq vs n → K.lookup a = none → b = a → False) → (o.data = .fields #[] → b ∈ ts → False) → H b = none := fun {b o} e no no2 => by
      cases q : H b with
      | none => rfl
      | some u =>
        rcases only b u q with ⟨rfl, _, hK⟩ | ⟨hb, _⟩
        · rw [at_] at e
          exact (no _ _ (by cases e; rfl) hK rfl).elim
        · rw [isT b hb] at e
          exact (no2 (by cases e; rfl) hb).elim
    have free2 : ∀ {b : Addr} {o : Obj}, s1.heap.get? b = some o → (∀ vs n, o.data ≠ .seq vs n) → o.data ≠ .fields #[] → H b = none := fun e h1 h2 => free e (fun vs n z _ _ => h1 vs n z) fun z _ => h2 z
    have nsT : ∀ {b : Addr} {mm : Str → Option Value}, s1.heap.Ns b mm → (hidT s1.heap H).Ns b mm := fun {b mm} ⟨o, es, ep, e, d, r⟩ => ⟨o, es, ep, hid e (free2 e (fun vs n z => by rw [d] at z; cases z) fun z => by rw [d] at z; cases z), d, r⟩
    have kin : K.In (hidT s1.heap H) := fun b o e => hid (KX b o e) (free (KX b o e) (fun _ _ _ hK z => by rw [z, hK] at e; cases e) fun _ hb => by rw [noT b hb] at e; cases e)
    have md : Mod K mg (hidT s1.heap H) := ⟨kin, nsT nG, ⟨mb, nsT nB, bB⟩, let ⟨mc, h1, h2⟩ := lim; ⟨mc, nsT h1, h2⟩⟩
    have TB : ∀ p ∈ cq, LamX.TabB (hidT s1.heap H) mg p.1 p.2.1 := fun p hp => by
      have hTp := hT p hp
      refine ⟨?_, ?_, fun z => ?_⟩
      · obtain ⟨o, us, file, tf, flags, tg, inF, text, tt, e1, r1, r2, r3, r⟩ := C p hp
        refine ⟨o, us, file, tf, flags, tg, inF, text, tt, hid e1 (free2 e1 (fun vs n z => by rw [r2] at z; cases z) fun z => ?_), r1, r2, r3, r⟩
        rw [r2] at z
        cases z
        simp at r3
      · obtain ⟨bm, ob, b1, b2, b3, b4, b5, b6⟩ := hbm
        have nM : bm ≠ mainGlobals := fun q => by
          obtain ⟨o, es, ep, e, hd, _⟩ := nG
          rw [q, e] at b3
          cases b3
          rw [hd] at b6
          cases b6
        have nP : bm ≠ p.2.1 := fun q => by
          rw [q, hTp] at b3
          cases b3
          cases b6
        exact ⟨bm, ob, b1, b2, nM, nP, hid b3 (free2 b3 (fun vs n z => by rw [b6] at z; cases z) fun z => by rw [b6] at z; cases z), b4, b5, b6⟩
      · obtain ⟨o, es, ep, e, hd, _⟩ := nG
        rw [z, hTp] at e
        cases e
        cases hd
    have e0 : Env0 P w K mg (hidT s1.heap H) callerA [] s1 H := ⟨rfl, md, fun b o e => of_hidT e, Nat.le_of_eq (hidT_size _ _), trivial, fun b hb => absurd (show b ∈ ([] : List Addr) from hb) (by simp), hok, .of_eq noG⟩
    have wd : Wd K mg F0 ts H (tabsS cq) := by
      refine ⟨fun b h => (f0 b h).2, fun n c b _ h2 _ z => aT ((f0 b z).1 ▸ List.mem_of_getElem? h2), nd, by simp [tabsS, ts], fun n c b h1 h2 => ?_⟩
      have h1' : (cq.map fun p => Cell.tab p.2.1 p.2.2)[n]? = some c := h1
      have h2' : (cq.map (·.2.1))[n]? = some b := h2
      rw [List.getElem?_map] at h1' h2'
      cases z : cq[n]? with
      | none => rw [z] at h1'; cases h1'
      | some p =>
        rw [z] at h1' h2'
        cases h1'
        cases h2'
        have hp : p.2.1 ∈ ts := List.mem_map.mpr ⟨p, List.mem_of_getElem? z, rfl⟩
        refine ⟨rfl, #[], hH _ hp, True.intro, fun pos cv y => ?_⟩
        have y : codeAmong pos [] = some cv := y
        simp [codeAmong] at y
    have sp : SpM K mg 1 m [.ref a] H (fun v _ => v = .bl true) (fun _ _ _ => False) := by
      refine ⟨rfl, F0, ts, [scriptD ns], tabsS cq, wd, .one ⟨a, ns.map V.int, rfl, ro, reps_ints ns⟩, ?_⟩
      obtain ⟨S', hS⟩ := hm
      rw [hS]
      exact fun v H' F' ι' _ _ hv => hv
    refine codeAny_mono ((G _ kin (nsT nG) TB).go callerA [] s1 H ⟨[.ref a], []⟩ [.ref a] [.ref a] _ _ rm e0 (bd s1 (.ref a)) (.cons rfl .nil) sp) fun r s' h => ?_
    cases r with
    | error e =>
      obtain ⟨_, _, _, _, _, _, _, _, _, _, _, _, h⟩ := h
      exact h.elim
    | ok fl =>
      cases fl with
      | ret u =>
        obtain ⟨v, H', os, bare, un, hok', r', q⟩ := h
        obtain rfl : v = .bl true := q
        obtain rfl : u = Value.bool true := r'
        have key : ∀ b o, b ∉ ts → s1.heap.get? b = some o → s'.heap.get? b = some o := fun b o nb e => by
          cases q : H b with
          | none => exact un.keep b o e q (by intro z; exact absurd (show b ∈ ([] : List Addr) from z) (by simp)) (by simp)
          | some u =>
            rcases only b u q with ⟨rfl, rfl, _⟩ | ⟨hb, _⟩
            · obtain ⟨e1, _⟩ := hok' b _ (un.frzs b _ _ q)
              rw [at_] at e
              cases e
              exact e1
            · exact absurd hb nb
        have grown : ∀ b ∈ ts, ∃ more : Array Value, s'.heap.get? b = some { cls := .none, data := .fields more } := fun b hb => by
          obtain ⟨more, z⟩ := un.tbls b #[] (hH b hb)
          exact ⟨_, hok' b _ z⟩
        refine ⟨rfl, ⟨fun b o e => ?_, fun b o e => ?_⟩, os, bare⟩
        · by_cases hb : b ∈ ts
          · obtain ⟨more, hmore⟩ := grown b hb
            obtain ⟨p, hp, ep⟩ := List.mem_map.mp hb
            rw [isT b hb] at e
            cases e
            exact .inr (.inl ⟨by rw [← ep]; exact ((C p hp).tab (hT p hp)).isCodeTable, rfl, #[], more, rfl, by rw [Array.empty_append]; exact hmore⟩)
          · exact .inl (key b o hb e)
        · by_cases hb : b ∈ ts
          · obtain ⟨more, hmore⟩ := grown b hb
            exact ⟨_, hmore⟩
          · exact ⟨o, key b o hb e⟩
      | _ => exact False.elim h
  cases hk : K.lookup a with
  | some o =>
    have e := KX a o hk
    rw [at_] at e
    cases e
    refine main (fun b => if b ∈ ts then some (.tbl #[]) else none) (fun _ => False) (fun b u z => ?_) (fun b hb => if_pos hb) (fun _ z => z.elim) (fun b u z => ?_)
      (.inr (.inr ⟨_, vs.toArray, _, hk, rfl, rfl, rfl, by rw [List.size_toArray, lenV]; exact hl, by simpa using rv⟩))
    · by_cases hb : b ∈ ts
      · have z' := (if_pos hb).symm.trans z
        cases z'
        exact .inr ⟨hb, rfl⟩
      · have z' := (if_neg hb).symm.trans z
        cases z'
    · by_cases hb : b ∈ ts
      · have z' := (if_pos hb).symm.trans z
        cases z'
        exact isT b hb
      · have z' := (if_neg hb).symm.trans z
        cases z'
  | none =>
    refine main (fun b => if b = a then some scr else if b ∈ ts then some (.tbl #[]) else none) (fun b => b = a) (fun b u z => ?_) (fun b hb => (if_neg (show ¬ b = a from fun z => aT (z ▸ hb))).trans (if_pos hb)) (fun b z => ⟨z, by rw [if_pos z]; simp⟩) (fun b u z => ?_) (.inl ⟨rfl, .inr ⟨_, if_pos rfl⟩⟩)
    · by_cases hb : b = a
      · have z' := (if_pos hb).symm.trans z
        cases z'
        exact .inl ⟨hb, rfl, hk⟩
      · have z1 := (if_neg hb).symm.trans z
        by_cases hb2 : b ∈ ts
        · have z' := (if_pos hb2).symm.trans z1
          cases z'
          exact .inr ⟨hb2, rfl⟩
        · have z' := (if_neg hb2).symm.trans z1
          cases z'
    · by_cases hb : b = a
      · have z' := (if_pos hb).symm.trans z
        cases z'
        subst hb
        exact ⟨at_, by rw [List.length_map]; exact hl, vs, _, rv, at_⟩
      · have z1 := (if_neg hb).symm.trans z
        by_cases hb2 : b ∈ ts
        · have z' := (if_pos hb2).symm.trans z1
          cases z'
          exact isT b hb2
        · have z' := (if_neg hb2).symm.trans z1
          cases z'
end DL

/-! DRu: sorted(set(xs)), xs a list or a tuple of ints. -/
namespace DL
open PySem PySem.Spec PySem.Calls L2
open PyProof.Rows hiding St
def rSetT (K : PySem.W.Frag) (w : World) : List V → Hp → VK → Prop := fun xs H Q => ∃ (l : Addr) (ns : List Int), xs = [.ref l] ∧ SqT K H l (ns.map V.int) ∧ ns.length ≤ 60 ∧
  ∀ (c : Nat) (p : Addr), c ≤ ns.length → H p = none → Q (.ref p) (upd H p (SetO w p (fun j => decide (j ∈ ns)) c))
theorem cr_setT {X : Cx} (hc : X.calm = true) : CallR X (.type "set") (rSetT X.K X.w) := by
  intro pins s σ H xs us Q I r h
  obtain ⟨l, ns, rfl, hl, hn, q⟩ := h
  rw [Vals.ref1 r]
  obtain ⟨its, rv, pl, hz⟩ := I.tuple hl
  refine call_set_tupI (P := X.prog) (w := X.w) ns (I.ok.hd hc) (show s.heap.IsTuple l its.toArray from pl) (by simpa using ints_of_vals rv) (by unfold scanBound; omega) fun h' tk c R hle k => ?_
  exact ⟨.ref s.heap.objs.size, upd H s.heap.objs.size (SetO X.w s.heap.objs.size (fun j => decide (j ∈ ns)) c), I.laid (t' := tk) k (Nat.le_refl _) (setO_new R), rfl, q c _ hle (I.hok.fresh (Nat.le_refl _))⟩
def seqAny : D → Option (List D)
  | .lst xs => some xs
  | .tup xs => some xs
  | _ => none
def mUniA (f : Ex D) : Ex (List D) := fun env S => (f env S).andThen fun x S1 => match seqAny x with
  | some xs => match intsOf xs with
    | some ns => if ns.length ≤ 60 then .ok ((uniI ns).map .int) S1 else .bad
    | none => .bad
  | none => .bad
section
variable {X : Cx} {E : EE} {e : Expr} {f : Ex D} {pos p p2 q : Pos}
theorem o_uniA (he : VE X E e f) (zs : X.mg "sorted" = none) (zt : X.mg "set" = none) (hc : X.calm = true) (gs : Gl X "sorted" := by rfl) (gt : Gl X "set" := by rfl) (na : starEach [e] X.env = (false, eval e X.env) :: starEach [] X.env := by rfl)
    (nb : starEach [.Call (.Name "set" p2) [e] [] q] X.env = (false, eval (.Call (.Name "set" p2) [e] [] q) X.env) :: starEach [] X.env := by rfl) (n1 : (backTo q (starEach [] X.env)).any (·.1) = false := by rfl) (n2 : (backTo pos (starEach [] X.env)).any (·.1) = false := by rfl) :
    VO X E (.Call (.Name "sorted" p) [.Call (.Name "set" p2) [e] [] q] [] pos) (mUniA f) := fun g =>
  (pe_callB (cr_sortedSet hc) gs zs rfl (pa_cons (pe_callTy (CallR.or (cr_setL hc) (cr_setT hc)) gt zt rfl (pa_cons (he g) pa_nil na) (by decide) (by decide) na n1) pa_nil nb) (by decide) (by decide) nb n2).imp fun σ H Q ⟨F, ι, env, S, w, q⟩ => ⟨F, ι, env, S, w, rd_mono (rd_then q) fun x H1 F1 ι1 S1 _ e1 w1 ⟨_, _, q1⟩ v hv => by
    have fin : ∀ {xs : List D} {ns : List Int}, seqAny x = some xs → intsOf xs = some ns → ns.length ≤ 60 → ∀ (c : Nat) (b : Addr) (ms : List Int) (b2 : Addr), H1 b = none → ms = uniI ns → (upd H1 b (SetO X.w b (fun j => decide (j ∈ ns)) c)) b2 = none →
        Q (.ref b2) (upd (upd H1 b (SetO X.w b (fun j => decide (j ∈ ns)) c)) b2 (.lst (ms.map V.int))) := fun {xs ns} hs hn hl c b ms b2 hb hms hb2 => by
      rw [hs] at q1
      dsimp only at q1
      rw [hn] at q1
      dsimp only at q1
      rw [if_pos hl] at q1
      subst hms
      obtain ⟨e2, w2⟩ := w1.wd.layO (o := SetO X.w b (fun j => decide (j ∈ ns)) c) hb
      obtain ⟨e3, w3⟩ := w2.layO (o := .lst ((uniI ns).map V.int)) hb2
      have eb : H1 b2 = none := by
        by_cases z : b2 = b
        · rw [z]; exact hb
        · rw [upd_ne z] at hb2; exact hb2
      exact (q1 _ _ _ (e2.trans e3) (w1.step (e2.trans e3) w3)).2.2 b2 _ upd_same (reps_ints _) (fun z => w1.wd.fin b2 z eb) (fun z => w1.wd.cell_ne z eb) (e1.mono b2 eb)
    have all : ∀ {xs : List D} {us : List V}, seqAny x = some xs → Reps X.K X.mg F1 ι1 H1 xs us → ∃ ns : List Int, intsOf xs = some ns ∧ us = ns.map V.int ∧ ns.length ≤ 60 := fun {xs us} hs hr => by
      rw [hs] at q1
      dsimp only at q1
      cases hn : intsOf xs with
      | none => rw [hn] at q1; exact q1.elim
      | some ns =>
        rw [hn] at q1
        dsimp only at q1
        by_cases hl : ns.length ≤ 60
        · exact ⟨ns, rfl, ints_vals hn hr, hl⟩
        · rw [if_neg hl] at q1
          exact q1.elim
    cases x with
    | lst xs =>
      obtain ⟨a, us, rfl, ha, hr⟩ := hv
      obtain ⟨ns, hn, e, hl⟩ := all rfl hr
      subst e
      refine .inl ⟨a, ns, rfl, ha.sq, hl, fun c b hc' hb => ⟨b, _, c, rfl, upd_same, by omega, fun ms b2 hp hm hlen hb2 => ?_⟩⟩
      exact fin rfl hn hl c b ms b2 hb (uniI_one hp (ns := ns) fun k => by rw [hm k]; simp) hb2
    | tup xs =>
      obtain ⟨a, us, rfl, ha, hr⟩ := hv
      obtain ⟨ns, hn, e, hl⟩ := all rfl hr
      subst e
      refine .inr ⟨a, ns, rfl, ha.sq, hl, fun c b hc' hb => ⟨b, _, c, rfl, upd_same, by omega, fun ms b2 hp hm hlen hb2 => ?_⟩⟩
      exact fin rfl hn hl c b ms b2 hb (uniI_one hp (ns := ns) fun k => by rw [hm k]; simp) hb2
    | _ => exact q1.elim⟩
@[simp] theorem seqAny_lst (xs : List D) : seqAny (.lst xs) = some xs := rfl
@[simp] theorem seqAny_tup (xs : List D) : seqAny (.tup xs) = some xs := rfl
@[simp] theorem r_uniA (f : Ex D) (env : List Sl) (S : List Cell) : mUniA f env S = (f env S).andThen fun x S1 => match seqAny x with
  | some xs => match intsOf xs with
    | some ns => if ns.length ≤ 60 then .ok ((uniI ns).map .int) S1 else .bad
    | none => .bad
  | none => .bad := nr rfl
@[simp ↓] theorem V_runiA (f : Ex D) (env : List Sl) (S : List Cell) {P : PR (List D)} : @Rs.V _ (mUniA f env S) P = @Rs.V _ ((f env S).andThen fun x S1 => match seqAny x with
  | some xs => match intsOf xs with
    | some ns => if ns.length ≤ 60 then .ok ((uniI ns).map .int) S1 else .bad
    | none => .bad
  | none => .bad) P := by rw [r_uniA]
end
end DL

/-! DRv: tuples repeated, sums of tuples. -/
namespace DL
open PySem PySem.Spec PySem.Calls L2
open PyProof.Rows hiding St
def mulT : Op2 := fun x y S => match x, y with
  | .tup a, .int k => if (!a.isEmpty && decide (2 ≤ k ∧ k ≤ 1000) && decide (a.length ≤ 1000)) = true then some (.tup (List.replicate k.toNat a).flatten) else none
  | _, _ => none
theorem ok_mulT {K : PySem.W.Frag} {mg : Str → Option Value} : Ok2 K mg (rRepT K) mulT := by
  intro H F ι S x y d v u Q w rx ry ho t
  unfold mulT at ho
  split at ho
  · rename_i a k
    by_cases hc : (!a.isEmpty && decide (2 ≤ k ∧ k ≤ 1000) && decide (a.length ≤ 1000)) = true
    · rw [if_pos hc] at ho
      cases ho
      simp only [Bool.and_eq_true, Bool.not_eq_true', decide_eq_true_eq] at hc
      obtain ⟨⟨h1, h2, h3⟩, h4⟩ := hc
      obtain ⟨b, vs, rfl, hl, hr⟩ := rx
      refine ⟨b, k, vs, rfl, ry, hl.sq, fun z => ?_, h2, h3, by rw [hr.len]; exact h4, fun p hp => Told.layT t w (hr.flat k.toNat) hp⟩
      have := hr.len
      rw [z] at this
      have : a = [] := List.eq_nil_of_length_eq_zero this.symm
      rw [this] at h1
      cases h1
    · rw [if_neg hc] at ho
      cases ho
  · cases ho
theorem mulT_ok {a : List D} {k : Int} {S : List Cell} (h1 : a ≠ []) (h2 : 2 ≤ k) (h3 : k ≤ 1000) (h4 : a.length ≤ 1000) : mulT (.tup a) (.int k) S = some (.tup (List.replicate k.toNat a).flatten) := by
  show (if _ = true then some (D.tup (List.replicate k.toNat a).flatten) else none) = _
  rw [if_pos]
  cases a with
  | nil => exact absurd rfl h1
  | cons x r => rw [Bool.and_eq_true, Bool.and_eq_true, decide_eq_true_eq, decide_eq_true_eq]; exact ⟨⟨rfl, h2, h3⟩, h4⟩
/-! ### sums -/
def rSumT (K : PySem.W.Frag) : List V → Hp → VK → Prop := fun vs H Q => ∃ (a : Addr) (ns : List Int), vs = [V.ref a] ∧ SqT K H a (ns.map V.int) ∧ Q (.int ns.sum) H
theorem cr_sumT {X : Cx} (hc : X.calm = true) : CallR X (.builtin "sum") (rSumT X.K) := by
  intro pins s σ H vs us Q I r h
  obtain ⟨a, ns, rfl, hs, q⟩ := h
  obtain ⟨its, rv, hl, _⟩ := I.tuple hs
  rw [Vals.ref1 r]
  have hi := rv.ints
  obtain ⟨xs, e⟩ := hi.allInts.items
  have hn := hi.numsOf
  rw [show its = (intItems xs).toList by rw [← e]] at hn
  rw [nums_intItems] at hn
  have hl : s.heap.IsTuple a its.toArray := hl
  rw [e] at hl
  refine PySem.W.ktm_sumG (I.ok.hd hc) hl fun h' tk t' hk => ?_
  rw [preSum_eq, List.take_of_length_le (by simp), hn]
  exact ⟨.int _, H, I.kept hk, ⟨_, rfl⟩, q⟩
def sumA : OpN := fun xs _ => match xs with
  | [.lst a] => (intsOf a).map fun ns => .int ns.sum
  | [.tup a] => (intsOf a).map fun ns => .int ns.sum
  | _ => none
theorem ok_sumA {K : PySem.W.Frag} {mg : Str → Option Value} : OkN K mg (fun xs H Q => rSum K xs H Q ∨ rSumT K xs H Q) sumA := by
  intro H F ι S xs d vs Q w rx ho t
  unfold sumA at ho
  split at ho
  · rename_i a
    obtain ⟨v, rfl, p, us, rfl, hl, hr⟩ := one_of rx
    cases e : intsOf a with
    | none => rw [e] at ho; cases ho
    | some ns =>
      rw [e] at ho
      cases ho
      have := ints_vals e hr
      subst this
      exact .inl ⟨p, ns, rfl, hl.sq, t.here w rfl⟩
  · rename_i a
    obtain ⟨v, rfl, p, us, rfl, hl, hr⟩ := one_of rx
    cases e : intsOf a with
    | none => rw [e] at ho; cases ho
    | some ns =>
      rw [e] at ho
      cases ho
      have := ints_vals e hr
      subst this
      exact .inr ⟨p, ns, rfl, hl.sq, t.here w rfl⟩
  · cases ho
theorem cr_sumA {X : Cx} (hc : X.calm = true) : CallR X (.builtin "sum") (fun xs H Q => rSum X.K xs H Q ∨ rSumT X.K xs H Q) := CallR.or (cr_sum hc) (cr_sumT hc)
theorem sumA_tup (ns : List Int) (S : List Cell) : sumA [.tup (ns.map .int)] S = some (.int ns.sum) := by
  show (intsOf (ns.map D.int)).map _ = _
  rw [intsOf_map]; rfl
theorem sumA_lst (ns : List Int) (S : List Cell) : sumA [.lst (ns.map .int)] S = some (.int ns.sum) := by
  show (intsOf (ns.map D.int)).map _ = _
  rw [intsOf_map]; rfl
end DL

/-! DOa: == and != by an own __eq__, also inside a tuple. -/
namespace GQB
open PySem PySem.SeqAt
open AutoSeq1 (wpAny_loadPart')
open MeetsSeq MeetsSeq2 MeetsSeq3 SeqRoads2
open GQ
section
variable {prog : Program} {w : World} {A : Around} {R : Result → Shared → Prop}
theorem tuple_eqB (l b : Addr) (items items2 : Array Value) (n n2 : Nat) (dd dd2 : Option Addr) (sl sl2 : Array (Option Value)) (hsz : items.size = items2.size) (I : Nat → Shared → Prop) (bs : Nat → Bool)
    (turn : ∀ i (h1 : i < items.size) (h2 : i < items2.size) s, I i s → wpAny (model prog w) A.in1 (eqBool items[i] items2[i]) (fun r s' => r = bs i ∧ I (i + 1) s') (fun e s' => R (.error e) s') s)
    (fin : ∀ s, I items.size s → (∀ i, i < items.size → bs i = true) → R (.ok (.ret (.bool true))) s) (fail : ∀ i s, i < items.size → bs i = false → I (i + 1) s → R (.ok (.ret (.bool false))) s)
    {s : Shared} (hl1 : s.heap.get? l = some { cls := .type "tuple", dict := dd, data := .seq items n, slots := sl }) (hb1 : s.heap.get? b = some { cls := .type "tuple", dict := dd2, data := .seq items2 n2, slots := sl2 }) (h : I 0 s) :
    wpAny (model prog w) A.in1 (Builtin.«tuple.__eq__» ⟨[.ref l, .ref b], []⟩) (FinOf prog w A R) (fun e s' => R (.error e) s') s := by
  have f2 := AutoSeq1.sub_tuple_tuple
  have hZ : (items.toList.zip items2.toList).length = items.size := by simp [hsz]
  have h0 := h
  obtain ⟨hp, g, d, tk, os⟩ := s
  wp_walk using wpAny_loadPart' hl1, wpAny_loadPart' hb1, wpAny_forIn_list _ (fun rest b s' => b.1 = none ∧ ∃ i, rest = (items.toList.zip items2.toList).drop i ∧ i ≤ items.size ∧ (∀ k, k < i → bs k = true) ∧ I i s') _
  case turn =>
    rintro ⟨y, x⟩ rest b s' ⟨hb', i, hz, hi, hall, hI⟩
    have hlt : i < (items.toList.zip items2.toList).length := by
      rcases Nat.lt_or_ge i (items.toList.zip items2.toList).length with h' | h'
      · exact h'
      · rw [List.drop_of_length_le h'] at hz; cases hz
    have h1 : i < items.size := hZ ▸ hlt
    have h2 : i < items2.size := hsz ▸ h1
    rw [List.drop_eq_getElem_cons hlt] at hz
    injection hz with hyx hrest
    have hy : y = items[i] := by have := congrArg Prod.fst hyx; simpa using this
    have hx : x = items2[i] := by have := congrArg Prod.snd hyx; simpa using this
    subst hy hx
    refine wpAny_bind (wpAny_mono (turn i h1 h2 s' hI) (fun r s2 q2 => ?_) fun _ _ x => x)
    obtain ⟨hr, q2⟩ := q2
    subst hr
    cases hbi : bs i with
    | true =>
      wp_walk
      refine ⟨rfl, i + 1, hrest, h1, fun k hk => ?_, q2⟩
      rcases Nat.lt_or_eq_of_le (Nat.le_of_lt_succ hk) with z | z
      · exact hall k z
      · rw [z]; exact hbi
    | false =>
      have hF := fail i s2 h1 hbi q2
      wp_walk
      exact hF
  case fin =>
    rintro ⟨b1, b2⟩ s' ⟨hb', i, hz, hi, hall, hI⟩
    simp only at hb'
    subst hb'
    have hge : items.size ≤ i := by
      rcases Nat.lt_or_ge i (items.toList.zip items2.toList).length with h' | h'
      · rw [List.drop_eq_getElem_cons h'] at hz; cases hz
      · exact hZ ▸ h'
    have hi' : i = items.size := by omega
    have hR : R (.ok (.ret (.bool true))) s' := fin s' (hi' ▸ hI) fun k hk => hall k (by omega)
    wp_walk
    simpa [Builtin.Tuple.tupleCompareSizes, hsz] using hR
  case h =>
    exact ⟨rfl, 0, rfl, Nat.zero_le _, fun k hk => absurd hk (by omega), h0⟩
end
end GQB

namespace DL
open PySem PySem.Spec L2
open PyProof.Rows hiding St
/-! ### the own == of a class -/
structure EqC (K : PySem.W.Frag) (C f : Addr) : Prop where
  eq : PySem.W.findIn K (.ref C) "__eq__" = some (some (.ref f))
  fn : PySem.W.isFn K (.ref f) = true
  ne : PySem.W.findIn K (.ref C) "__ne__" = some (some (.builtin "object.__ne__"))
  ob : PySem.W.subIn K (.ref C) (.type "object") = some true
  tt : PySem.W.subIn K (.type "tuple") (.ref C) = some false
  ts : PySem.W.subIn K (.type "str") (.ref C) = some false
section
variable {prog : Program} {w : World} {A : Around} {E : Value → Shared → Prop} {s : Shared} {K : PySem.W.Frag} {x C f L : Addr} {ox : Obj} {od : Option Obj} {b tb : Value} {h₀ : Heap} {m : Str → Option Value}
theorem ifBound_B {name : Str} {id : String} {args : List Value} {Q : Option Value → Shared → Prop} (X : K.In s.heap) (I : PySem.W.InstAt s.heap x ox C od) (hs : PySem.W.findIn K (.ref C) name = some (some (.builtin id))) (hb : bindSpecial (.builtin id) (.ref x) = pure (.builtin id, [.ref x]))
    (h : wpAny (model prog w) A (call (.builtin id) (.ref x :: args)) (fun v => Q (some v)) E s) : wpAny (model prog w) A (callSpecialIfBound? (.ref x) name args) Q E s := by
  simp only [callSpecialIfBound?, bindSpecialIfBound?]
  refine wpAny_holding (wpAny_bind (wpAny_bind (wpAny_bind (I.type.here ((PySem.W.looks_findIn X hs).here ?_)))))
  simp only [hb]
  refine wpAny_bind (wpAny_askSetting (wpAny_ite ?_))
  have fin : wpAny (model prog w) A (call (.builtin id) ([.ref x] ++ args) >>= fun v => pure (some v)) Q E s := wpAny_bind (wpAny_mono h (fun v s' h' => wpAny_pure h') fun _ _ h' => h')
  split
  · exact wpAny_bind (wpAny_pure (wpAny_pure fin))
  · exact wpAny_tryCatch (wpAny_bind (wpAny_pure (wpAny_pure fin)))
theorem ne_entry {Q : Fin → Shared → Prop} (X : K.In s.heap) (I : PySem.W.InstAt s.heap x ox C od) (e : EqC K C f) (hu : A.units < cLine)
    (hcall : wpAny (model prog w) A (call (.ref f) [.ref x, b]) (fun v s' => ∃ r, v = .bool r ∧ Q (.done (.ret (.bool (!r)))) s') E s) : wpAny (model prog w) A (Builtin.«object.__ne__» ⟨[.ref x, b], []⟩) Q E s := by
  unfold Builtin.«object.__ne__»
  repeat (first
    | with_reducible refine wpAny_cRoomFor hu ?_
    | (refine wpAny_bind (m := callSpecialIfBound? (.ref x) (Str.ofString "__eq__") [b])
        (PySem.W.ifBound_K X I e.eq e.fn (wpAny_mono hcall (fun v s' hr => by
          obtain ⟨r, rfl, hq⟩ := hr
          repeat (first | exact hq | exact wpAny_pure hq | exact wpAny_truthy_bool hq | (refine wpAny_bind (m := truthy (.bool _)) (wpAny_truthy_bool ?_)) | wp_step)) fun _ _ e => e)))
    | wp_step)
theorem rc_ne {Q : Value → Shared → Prop} (X : K.In s.heap) (I : PySem.W.InstAt s.heap x ox C od) (e : EqC K C f) (hb : PySem.W.Looks (model prog w) s.heap (typeOf b) tb) (hn : PySem.W.notFirst K C tb = true) (hu : A.units + 1 < cLine)
    (hcall : wpAny (model prog w) A.in1 (call (.ref f) [.ref x, b]) (fun v s' => ∃ r, v = .bool r ∧ Q (.bool (!r)) s') E s) : wpAny (model prog w) A (richCompare .NotEq (.ref x) b) Q E s := by
  have one : wpAny (model prog w) A (tryCompare (.ref x) (cmpInfo .NotEq).2.1 b) (fun r s' => ∃ v, r = some v ∧ Q v s') E s := by
    unfold tryCompare
    have slot := F.cmp_object.ne
    have hi : PySem.W.Looks (model prog w) s.heap (isInstance (.ref x) (.type "object")) true := I.type.andThen (PySem.W.looks_subIn X e.ob)
    refine wpAny_bind (ifBound_B X I e.ne (slot.bind _) (wpAny_call (codeAny_call_builtin slot.plain F.cmpEntry_ne (PySem.W.check_slot F.cmpKind_ne F.cmpSplit_ne hi (F.cmpArgs_ne _ _) (ne_entry (A := A.in1) X I e (by show A.units + 1 < _; exact hu) (wpAny_mono hcall (fun v s' hv => ?_) fun _ _ e => e))))))
    obtain ⟨r, rfl, hq⟩ := hv
    first | exact ⟨r, rfl, wpAny_pure ⟨_, rfl, hq⟩⟩ | exact ⟨r, rfl, wpAny_pure (wpAny_pure ⟨_, rfl, hq⟩)⟩
  unfold richCompare
  simp only [oneThing_ref]
  refine wpAny_holding (wpAny_bind (wpAny_cRoomFor (Nat.lt_of_succ_lt hu) ?_))
  refine wpAny_bind (I.type.here (wpAny_bind (hb.here ?_)))
  split
  · rename_i q
    have e : PySem.W.subIn K tb (.ref C) = some false := by
      rcases Bool.or_eq_true_iff.mp hn with e | e
      · rw [beq_iff_eq.mp e] at q; simp at q
      · exact beq_iff_eq.mp e
    refine wpAny_bind ((PySem.W.looks_subIn X e).here ?_)
    simp only [Bool.false_eq_true, if_false]
    refine wpAny_bind (wpAny_mono one (fun r s' z => ?_) fun _ _ e => e)
    obtain ⟨v, rfl, hq⟩ := z
    exact wpAny_pure hq
  · refine wpAny_bind (wpAny_pure ?_)
    simp only [Bool.false_eq_true, if_false]
    refine wpAny_bind (wpAny_mono one (fun r s' z => ?_) fun _ _ e => e)
    obtain ⟨v, rfl, hq⟩ := z
    exact wpAny_pure hq
end
end DL

/-! DO: what == and != say of data with own objects. -/
namespace DL
open PySem PySem.Spec L2
open PyProof.Rows hiding St RelV
/-! ### what == says of data with own objects -/
def elO (e : Str → D → D → Option Bool) (x y : D) : Option Bool := match x with
  | .obj c _ _ => e c x y
  | _ => eqA x y
def allO (e : Str → D → D → Option Bool) : List D → List D → Option Bool
  | [], [] => some true
  | x :: xs, y :: ys => match elO e x y, allO e xs ys with
    | some a, some b => some (a && b)
    | _, _ => none
  | _, _ => none
def eqOA (e : Str → D → D → Option Bool) (x y : D) : Option Bool := match eqA x y with
  | some b => some b
  | none => match x, y with
    | .obj c _ _, _ => e c x y
    | .tup xs, .tup ys => allO e xs ys
    | _, _ => none
def neOA (e : Str → D → D → Option Bool) (x y : D) : Option Bool := match eqA x y with
  | some b => some (!b)
  | none => match x with
    | .obj c _ _ => (e c x y).map (!·)
    | _ => none
def eqO (e : Str → D → D → Option Bool) : Op2 := fun x y _ => (eqOA e x y).map .bl
def neO (e : Str → D → D → Option Bool) : Op2 := fun x y _ => (neOA e x y).map .bl
/-- behind such a comparison -/
def BackO (X : Cx) (pins : List (Addr × Obj)) (σ : L2.St) (H : Hp) (F : Fz) (ι : List Addr) (S : List Cell) (s' : Shared) : Prop := ∃ H' F' ι', Inv X pins σ H' s' ∧ Ext H F ι H' F' ι' ∧ Wd X.K X.mg F' ι' H' S
structure EOk (X : Cx) (n : Nat) (e : Str → D → D → Option Bool) : Prop where
  same : ∀ (pins : List (Addr × Obj)) (s : Shared) (σ : L2.St) (H : Hp) (F : Fz) (ι : List Addr) (c : Str) (ns : List Str) (xs : List D) (y : D) (a : Addr) (r : Bool), Inv X pins σ H s → Rep X.K X.mg F ι H (.obj c ns xs) (.ref a) → Rep X.K X.mg F ι H y (.ref a) → e c (.obj c ns xs) y = some r → r = true
  ref : ∀ (c : Str) (ns : List Str) (xs : List D) (y : D) (r : Bool), e c (.obj c ns xs) y = some r → (∃ c' ns' ys, y = .obj c' ns' ys) ∨ r = false
  run : ∀ (A : Around) (pins : List (Addr × Obj)) (s : Shared) (σ : L2.St) (H : Hp) (F : Fz) (ι : List Addr) (S : List Cell) (c : Str) (ns : List Str) (xs : List D) (y : D) (vx vy : V) (u v : Value) (r : Bool), L2.Sub X n A → A.guards = some [] → Inv X pins σ H s → Wd X.K X.mg F ι H S →
    Rep X.K X.mg F ι H (.obj c ns xs) vx → Rep X.K X.mg F ι H y vy → RelV vx u → RelV vy v → e c (.obj c ns xs) y = some r →
    wpAny (model X.prog X.w) A (richCompare .Eq u v) (fun w s' => w = .bool r ∧ BackO X pins σ H F ι S s') X.xe s ∧ wpAny (model X.prog X.w) A (richCompare .NotEq u v) (fun w s' => w = .bool (!r) ∧ BackO X pins σ H F ι S s') X.xe s
theorem eok_nil {X : Cx} {n : Nat} : EOk X n fun _ _ _ => none := by constructor <;> intros <;> rename_i h <;> cases h
section
variable {X : Cx} {pins : List (Addr × Obj)} {σ : L2.St} {H : Hp} {s : Shared} {F : Fz} {ι : List Addr} {S : List Cell}
theorem relV_ref {v : V} {a : Addr} (h : RelV v (.ref a)) : v = .ref a := by
  cases v <;> simp [RelV] at h <;> first | (subst h; rfl) | cases h
theorem reads_of (I : Inv X pins σ H s) {x : D} {v : V} {u : Value} {p : PyData} (rx : Rep X.K X.mg F ι H x v) (ru : RelV v u) (hp : toP x = some p) : ∃ as, Reads s.heap u p as := Dp.reads I p v u (toP_dp x v p rx hp) ru
theorem same_A (I : Inv X pins σ H s) {x y : D} {vx vy : V} {u : Value} {b : Bool} (rx : Rep X.K X.mg F ι H x vx) (ry : Rep X.K X.mg F ι H y vy) (ru : RelV vx u) (ru' : RelV vy u) (h : eqA x y = some b) : b = true := by
  rcases eqA_cases h with h | ⟨a, c, rfl, rfl, rfl⟩
  · unfold eqP at h
    split at h
    · rename_i p q hp hq
      split at h
      · rename_i hs
        rw [Bool.and_eq_true] at hs
        obtain ⟨as, r1⟩ := reads_of I rx ru hp
        obtain ⟨bs, r2⟩ := reads_of I ry ru' hq
        have e := SeqAt.Reads.unique p q u as bs (SeqAt.canLay_of_shaped hs.1) r1 r2
        subst e
        cases h
        exact SeqAt.eqv_refl p (SeqAt.canLay_of_shaped hs.1)
      · cases h
    · cases h
  · rw [show vx = _ from rx] at ru
    rw [show vy = _ from ry] at ru'
    obtain ⟨t, rfl⟩ := ru
    obtain ⟨t', e⟩ := ru'
    simp at e
    simp [e.1]
theorem eqB_A (I : Inv X pins σ H s) {A : Around} {E : Value → Shared → Prop} {x y : D} {vx vy : V} {u v : Value} {b : Bool} {Q : Bool → Shared → Prop} (rx : Rep X.K X.mg F ι H x vx) (ry : Rep X.K X.mg F ι H y vy) (ru : RelV vx u) (rv : RelV vy v) (h : eqA x y = some b)
    (hu : A.units + 64 < cLine) (q : Q b s) : wpAny (model X.prog X.w) A (eqBool u v) Q E s := by
  rcases eqA_cases h with h | ⟨a, c, rfl, rfl, rfl⟩
  · unfold eqP at h
    split at h
    · rename_i p q' hp hq
      split at h
      · rename_i hs
        rw [Bool.and_eq_true] at hs
        obtain ⟨as, r1⟩ := reads_of I rx ru hp
        obtain ⟨bs, r2⟩ := reads_of I ry rv hq
        cases h
        exact SeqAt.eqBoolOverData _ _ _ _ _ _ _ _ _ _ _ _ r1 r2 (SeqAt.canLay_of_shaped hs.1) (SeqAt.canLay_of_shaped hs.2) (SeqAt.room_of_shaped hs.1 hu) q
      · cases h
    · cases h
  · rw [show vx = _ from rx] at ru
    rw [show vy = _ from ry] at rv
    obtain ⟨t, rfl⟩ := ru
    obtain ⟨t', rfl⟩ := rv
    refine PyProof.Rows.eqBool_str ?_
    have e : (a == c) = decide (a = c) := by by_cases z : a = c <;> simp [z]
    rw [e]
    exact q

theorem same_E {n : Nat} {e : Str → D → D → Option Bool} (he : EOk X n e) (I : Inv X pins σ H s) {x y : D} {vx vy : V} {u : Value} {b : Bool} (rx : Rep X.K X.mg F ι H x vx) (ry : Rep X.K X.mg F ι H y vy) (ru : RelV vx u) (ru' : RelV vy u) (h : elO e x y = some b) : b = true := by
  unfold elO at h
  split at h
  · rename_i c ns xs
    obtain ⟨a, C, dx, vs, rfl, h2⟩ := rx
    obtain rfl : u = Value.ref a := ru
    have e2 := relV_ref ru'
    subst e2
    exact he.same pins s σ H F ι c ns xs y a b I ⟨a, C, dx, vs, rfl, h2⟩ ry h
  · exact same_A I rx ry ru ru' h
theorem same_L {n : Nat} {e : Str → D → D → Option Bool} (he : EOk X n e) (I : Inv X pins σ H s) : ∀ {xs ys : List D} {vs ws : List V} {us : List Value} {b : Bool}, Reps X.K X.mg F ι H xs vs → Reps X.K X.mg F ι H ys ws → Vals vs us → Vals ws us → allO e xs ys = some b → b = true
  | [], [], _, _, _, b, _, _, _, _, h => by cases h; rfl
  | x :: xs, y :: ys, vs, ws, us, b, rx, ry, r1, r2, h => by
    obtain ⟨v, vr, rfl, h1, h2⟩ := rx
    obtain ⟨w, wr, rfl, h3, h4⟩ := ry
    cases r1 with
    | cons a1 a2 =>
      cases r2 with
      | cons b1 b2 =>
        unfold allO at h
        cases he1 : elO e x y with
        | none => rw [he1] at h; cases h
        | some p =>
          cases he2 : allO e xs ys with
          | none => rw [he1, he2] at h; cases h
          | some q =>
            rw [he1, he2] at h
            cases h
            rw [same_E he I h1 h3 a1 b1 he1, same_L he I h2 h4 a2 b2 he2]
            rfl
  | [], y :: ys, _, _, _, _, _, _, _, _, h => by cases h
  | x :: xs, [], _, _, _, _, _, _, _, _, h => by cases h
theorem same_O {n : Nat} {e : Str → D → D → Option Bool} (he : EOk X n e) (I : Inv X pins σ H s) {x y : D} {vx vy : V} {u : Value} {b : Bool} (rx : Rep X.K X.mg F ι H x vx) (ry : Rep X.K X.mg F ι H y vy) (ru : RelV vx u) (ru' : RelV vy u) (h : eqOA e x y = some b) : b = true := by
  unfold eqOA at h
  cases ha : eqA x y with
  | some c => rw [ha] at h; cases h; exact same_A I rx ry ru ru' ha
  | none =>
    rw [ha] at h
    dsimp only at h
    cases x with
    | obj c ns xs => exact same_E he I (x := .obj c ns xs) rx ry ru ru' h
    | tup xs =>
      cases y with
      | tup ys =>
        obtain ⟨a, vs, rfl, hl, hr⟩ := rx
        obtain ⟨b', ws, rfl, hl', hr'⟩ := ry
        obtain rfl : u = Value.ref a := ru
        have e2 := relV_ref ru'
        cases e2
        obtain ⟨its, r1, p1, _⟩ := I.tuple hl.sq
        obtain ⟨its2, r2, p2, _⟩ := I.tuple hl'.sq
        obtain ⟨o1, q1, _, n1, d1⟩ := p1
        obtain ⟨o2, q2, _, n2, d2⟩ := p2
        rw [q1] at q2
        cases q2
        rw [d1] at d2
        have : its = its2 := by injection d2 with d2 _; exact congrArg Array.toList d2
        subst this
        exact same_L he I hr hr' r1 r2 h
      | _ => cases h
    | _ => cases h
theorem allO_get {e : Str → D → D → Option Bool} : ∀ {xs ys : List D} {b : Bool}, allO e xs ys = some b → xs.length = ys.length ∧ ∃ bs : Nat → Bool, (∀ (i : Nat) x y, xs[i]? = some x → ys[i]? = some y → elO e x y = some (bs i)) ∧ (b = true → ∀ i, i < xs.length → bs i = true) ∧ ((∀ i, i < xs.length → bs i = true) → b = true)
  | [], [], b, h => by
    cases h
    exact ⟨rfl, fun _ => true, fun i x y h => by simp at h, fun _ _ _ => rfl, fun _ => rfl⟩
  | x :: xs, y :: ys, b, h => by
    unfold allO at h
    cases he1 : elO e x y with
    | none => rw [he1] at h; cases h
    | some p =>
      cases he2 : allO e xs ys with
      | none => rw [he1, he2] at h; cases h
      | some q =>
        rw [he1, he2] at h
        cases h
        obtain ⟨hl, bs, h1, h2, h3⟩ := allO_get he2
        refine ⟨by rw [List.length_cons, List.length_cons, hl], fun i => match i with | 0 => p | k + 1 => bs k, fun i x' y' hx hy => ?_, fun hb i hi => ?_, fun hall => ?_⟩
        · cases i with
          | zero =>
            simp at hx hy
            subst hx hy
            exact he1
          | succ i =>
            simp at hx hy
            exact h1 i x' y' hx hy
        · rw [Bool.and_eq_true] at hb
          cases i with
          | zero => exact hb.1
          | succ i => exact h2 hb.2 i (by simpa using hi)
        · rw [Bool.and_eq_true]
          exact ⟨hall 0 (by simp), h3 fun i hi => hall (i + 1) (by simpa using hi)⟩
  | [], y :: ys, b, h => by cases h
  | x :: xs, [], b, h => by cases h
end
section
variable {X : Cx} {pins : List (Addr × Obj)} {σ : L2.St} {H : Hp} {s : Shared} {F : Fz} {ι : List Addr} {S : List Cell} {n : Nat} {e : Str → D → D → Option Bool}
theorem BackO.here (I : Inv X pins σ H s) (w : Wd X.K X.mg F ι H S) : BackO X pins σ H F ι S s := ⟨H, F, ι, I, Ext.refl, w⟩
theorem BackO.next {H1 : Hp} {F1 : Fz} {ι1 : List Addr} {s' : Shared} (e : Ext H F ι H1 F1 ι1) (b : BackO X pins σ H1 F1 ι1 S s') : BackO X pins σ H F ι S s' := by
  obtain ⟨H', F', ι', I, e', w⟩ := b
  exact ⟨H', F', ι', I, e.trans e', w⟩
/-- two items of tuples -/
theorem eqB_E (he : EOk X n e) {A : Around} (sb : L2.Sub X n A) (hq : A.guards = some []) (I : Inv X pins σ H s) (w : Wd X.K X.mg F ι H S) {x y : D} {vx vy : V} {u v : Value} {b : Bool} (rx : Rep X.K X.mg F ι H x vx) (ry : Rep X.K X.mg F ι H y vy) (ru : RelV vx u) (rv : RelV vy v) (h : elO e x y = some b) :
    wpAny (model X.prog X.w) A (eqBool u v) (fun r s' => r = b ∧ BackO X pins σ H F ι S s') X.xe s := by
  by_cases ho : ∃ c ns xs, x = .obj c ns xs
  · obtain ⟨c, ns, xs, rfl⟩ := ho
    have h' : e c (.obj c ns xs) y = some b := h
    obtain ⟨a, C, dx, vs, rfl, rr⟩ := rx
    obtain rfl : u = Value.ref a := ru
    have run := (he.run A pins s σ H F ι S c ns xs y (.ref a) vy (.ref a) v b sb hq I w ⟨a, C, dx, vs, rfl, rr⟩ ry rfl rv h').1
    by_cases hv : v = .ref a
    · subst hv
      have e2 := relV_ref rv
      subst e2
      have hb := he.same pins s σ H F ι c ns xs y a b I ⟨a, C, dx, vs, rfl, rr⟩ ry h'
      subst hb
      exact SeqAt.EqAt.same (A := A) (s := s) (.ref a) X.prog X.w X.xe _ ⟨rfl, BackO.here I w⟩
    · unfold eqBool
      refine wpAny_holding ?_
      refine wpAny_ite_split (fun hab => absurd (eq_of_beq hab).symm hv) (fun _ => ?_)
      refine wpAny_bind (wpAny_mono run (fun z s' hz => ?_) fun _ _ x => x)
      obtain ⟨rfl, q⟩ := hz
      exact wpAny_truthy_bool ⟨rfl, q⟩
  · have h' : eqA x y = some b := by
      unfold elO at h
      split at h
      · rename_i c ns xs
        exact absurd ⟨c, ns, xs, rfl⟩ ho
      · exact h
    exact eqB_A I rx ry ru rv h' sb.room.units ⟨rfl, BackO.here I w⟩
theorem rc_tupO (he : EOk X n e) {A : Around} (sb : L2.Sub X (n + 1) A) (hq : A.guards = some []) (I : Inv X pins σ H s) (w : Wd X.K X.mg F ι H S) {xs ys : List D} {vx vy : V} {u v : Value} {b : Bool} (rx : Rep X.K X.mg F ι H (.tup xs) vx) (ry : Rep X.K X.mg F ι H (.tup ys) vy) (ru : RelV vx u) (rv : RelV vy v) (h : allO e xs ys = some b) :
    wpAny (model X.prog X.w) A (richCompare .Eq u v) (fun z s' => z = .bool b ∧ BackO X pins σ H F ι S s') X.xe s := by
  obtain ⟨hl, bs, h1, h2, h3⟩ := allO_get h
  obtain ⟨a, vs, rfl, ta, ra⟩ := rx
  obtain ⟨c, ws, rfl, tc, rc⟩ := ry
  obtain rfl : u = Value.ref a := ru
  obtain rfl : v = Value.ref c := rv
  obtain ⟨its, r1, p1, _⟩ := I.tuple ta.sq
  obtain ⟨its2, r2, p2, _⟩ := I.tuple tc.sq
  have l1 : its.length = xs.length := by rw [← r1.length, ra.len]
  have l2 : its2.length = xs.length := by rw [← r2.length, rc.len, hl]
  have hsz : its.toArray.size = its2.toArray.size := by rw [List.size_toArray, List.size_toArray, l1, l2]
  obtain ⟨⟨cls, dd, data, sl⟩, ho, hc, k, hd⟩ := id p1
  obtain ⟨⟨cls2, dd2, data2, sl2⟩, ho2, hc2, k2, hd2⟩ := id p2
  simp only at hc hd hc2 hd2
  subst hc hd hc2 hd2
  refine wpAny_richCompare_same_room (op := .Eq) ⟨_, ho, rfl⟩ ⟨_, ho2, rfl⟩ PySem.F.slot_tuple_eq (GQ.call_here PySem.F.slot_tuple_eq ⟨_, ho, rfl⟩ PySem.F.entry_tuple_eq (PySem.F.args_tuple_eq_2 _ _) ?_) sb.room.units0
  refine GQB.tuple_eqB (R := wants (fun z s' => z ≠ .notImplemented ∧ z = .bool b ∧ BackO X pins σ H F ι S s') X.xe) a c its.toArray its2.toArray k k2 dd dd2 sl sl2 hsz (fun _ s' => BackO X pins σ H F ι S s') bs
    (fun i g1 g2 s' q => ?_) (fun s' q hall => ⟨(fun x => nomatch x), by rw [h3 fun i hi => hall i (by rw [List.size_toArray, l1]; exact hi)], q⟩) (fun i s' hi hf q => ⟨(fun x => nomatch x), ?_, q⟩) ho ho2 (BackO.here I w)
  · obtain ⟨H1, F1, ι1, I1, e1, w1⟩ := q
    have i1 : i < xs.length := by rw [List.size_toArray, l1] at g1; exact g1
    have i2 : i < ys.length := by omega
    have ra1 := w.reps e1 ra
    have rc1 := w.reps e1 rc
    obtain ⟨v1, gv1, rv1⟩ := ra1.get (List.getElem?_eq_getElem i1)
    obtain ⟨v2, gv2, rv2⟩ := rc1.get (List.getElem?_eq_getElem i2)
    obtain ⟨u1, gu1, ru1⟩ := r1.get gv1
    obtain ⟨u2, gu2, ru2⟩ := r2.get gv2
    have x1 : its.toArray[i] = u1 := by
      obtain ⟨_, z⟩ := List.getElem?_eq_some_iff.mp gu1
      simpa using z
    have x2 : its2.toArray[i] = u2 := by
      obtain ⟨_, z⟩ := List.getElem?_eq_some_iff.mp gu2
      simpa using z
    rw [x1, x2]
    refine wpAny_mono (eqB_E he sb.in1 (by simpa [Around.in1] using hq) I1 w1 rv1 rv2 ru1 ru2 (h1 i _ _ (List.getElem?_eq_getElem i1) (List.getElem?_eq_getElem i2))) (fun r s2 q2 => ⟨q2.1, q2.2.next e1⟩) fun _ _ x => x
  · cases hb : b with
    | false => rfl
    | true =>
      have := h2 hb i (by rw [List.size_toArray, l1] at hi; exact hi)
      rw [this] at hf
      cases hf
/-! ### the operators -/
def rEqO (X : Cx) (f : D → D → Option Bool) : R2 := fun x y H Q => ∃ F ι S dx dy r, Wd X.K X.mg F ι H S ∧ Rep X.K X.mg F ι H dx x ∧ Rep X.K X.mg F ι H dy y ∧ eqA dx dy = none ∧ f dx dy = some r ∧ Told X.K X.mg H F ι S (.bl r) Q
theorem BackO.told {r : Bool} {Q : VK} {s' : Shared} (t : Told X.K X.mg H F ι S (.bl r) Q) (b : BackO X pins σ H F ι S s') : EP X pins σ Q (.bool r) s' := by
  obtain ⟨H', F', ι', I', e', w'⟩ := b
  exact ⟨.bl r, H', I', rfl, t (.bl r) H' F' ι' e' w' rfl⟩
theorem op_eqO (he : EOk X n e) (rm : Rm (n + 1) X.A) : OpR X (compareOp .Eq) (fun x y H Q => rEqA X.K x y H Q ∨ rEqO X (eqOA e) x y H Q) := by
  refine (op_eqAll rm.units).or ?_
  intro pins s σ H x y v u Q I rx ry h
  obtain ⟨F, ι, S, dx, dy, r, w, h1, h2, ha, hf, t⟩ := h
  show wpAny (model X.prog X.w) X.A (richCompare .Eq v u) (EP X pins σ Q) X.xe s
  unfold eqOA at hf
  rw [ha] at hf
  dsimp only at hf
  have sb : L2.Sub X (n + 1) X.A := ⟨rm.room, rfl⟩
  cases dx with
  | obj c ns xs =>
    refine wpAny_mono (he.run X.A pins s σ H F ι S c ns xs dy x y v u r (sb.mono (Nat.le_succ n)) rm.quiet I w h1 h2 rx ry hf).1 (fun z s' q => ?_) fun _ _ x => x
    obtain ⟨rfl, q⟩ := q
    exact q.told t
  | tup xs =>
    cases dy with
    | tup ys =>
      refine wpAny_mono (rc_tupO he sb rm.quiet I w h1 h2 rx ry hf) (fun z s' q => ?_) fun _ _ x => x
      obtain ⟨rfl, q⟩ := q
      exact q.told t
    | _ => cases hf
  | _ => cases hf
theorem op_neO (he : EOk X n e) (rm : Rm (n + 1) X.A) : OpR X (compareOp .NotEq) (fun x y H Q => rNeA X.K x y H Q ∨ rEqO X (neOA e) x y H Q) := by
  refine (op_neAll rm.units).or ?_
  intro pins s σ H x y v u Q I rx ry h
  obtain ⟨F, ι, S, dx, dy, r, w, h1, h2, ha, hf, t⟩ := h
  show wpAny (model X.prog X.w) X.A (richCompare .NotEq v u) (EP X pins σ Q) X.xe s
  unfold neOA at hf
  rw [ha] at hf
  dsimp only at hf
  have sb : L2.Sub X (n + 1) X.A := ⟨rm.room, rfl⟩
  split at hf
  · rename_i c ns xs
    obtain ⟨r', hr, rfl⟩ := Option.map_eq_some_iff.mp hf
    refine wpAny_mono (he.run X.A pins s σ H F ι S c ns xs dy x y v u r' (sb.mono (Nat.le_succ n)) rm.quiet I w h1 h2 rx ry hr).2 (fun z s' q => ?_) fun _ _ x => x
    obtain ⟨rfl, q⟩ := q
    exact q.told t
  · cases hf
theorem ok_eqO : Ok2 X.K X.mg (fun x y H Q => rEqA X.K x y H Q ∨ rEqO X (eqOA e) x y H Q) (eqO e) := by
  intro H F ι S x y d v u Q w rx ry ho t
  unfold eqO at ho
  cases ha : eqA x y with
  | some b =>
    have : eqOA e x y = some b := by unfold eqOA; rw [ha]
    rw [this] at ho
    cases ho
    exact .inl (ok_eq H F ι S x y (.bl b) v u Q w rx ry (by unfold eqD; rw [ha]; rfl) t)
  | none =>
    cases hf : eqOA e x y with
    | none => rw [hf] at ho; cases ho
    | some b =>
      rw [hf] at ho
      cases ho
      exact .inr ⟨F, ι, S, x, y, b, w, rx, ry, ha, hf, t⟩
theorem ok_neO : Ok2 X.K X.mg (fun x y H Q => rNeA X.K x y H Q ∨ rEqO X (neOA e) x y H Q) (neO e) := by
  intro H F ι S x y d v u Q w rx ry ho t
  unfold neO at ho
  cases ha : eqA x y with
  | some b =>
    have : neOA e x y = some (!b) := by unfold neOA; rw [ha]
    rw [this] at ho
    cases ho
    exact .inl (ok_ne H F ι S x y (.bl (!b)) v u Q w rx ry (by unfold neD; rw [ha]; rfl) t)
  | none =>
    cases hf : neOA e x y with
    | none => rw [hf] at ho; cases ho
    | some b =>
      rw [hf] at ho
      cases ho
      exact .inr ⟨F, ι, S, x, y, b, w, rx, ry, ha, hf, t⟩
end
/-! ### a class whose == asks for the class and compares parts -/
def eqStd (c0 : Str) (e : Str → D → D → Option Bool) (x y : D) : Option Bool := match x, y with
  | .obj c ["parts"] [p], .obj c' ["parts"] [q] => if c = c0 ∧ c' = c0 then eqOA e p q else none
  | .obj c ["parts"] [_], .tup _ => if c = c0 then some false else none
  | .obj c ["parts"] [_], .str _ => if c = c0 then some false else none
  | _, _ => none
theorem eqStd_cases {c0 : Str} {e : Str → D → D → Option Bool} {x y : D} {r : Bool} (h : eqStd c0 e x y = some r) : (∃ p q, x = .obj c0 ["parts"] [p] ∧ y = .obj c0 ["parts"] [q] ∧ eqOA e p q = some r) ∨ (r = false ∧ (∃ p, x = .obj c0 ["parts"] [p]) ∧ ((∃ ys, y = .tup ys) ∨ ∃ z, y = .str z)) := by
  unfold eqStd at h
  split at h
  · split at h
    · rename_i p _ q hc
      obtain ⟨rfl, rfl⟩ := hc
      exact .inl ⟨_, _, rfl, rfl, h⟩
    · cases h
  · split at h
    · rename_i hc
      subst hc
      cases h
      exact .inr ⟨rfl, ⟨_, rfl⟩, .inl ⟨_, rfl⟩⟩
    · cases h
  · split at h
    · rename_i hc
      subst hc
      cases h
      exact .inr ⟨rfl, ⟨_, rfl⟩, .inr ⟨_, rfl⟩⟩
    · cases h
  · cases h
section
variable {X : Cx} {n n' i : Nat} {e : Str → D → D → Option Bool} {c0 : Str} {C f : Addr} {fd : FuncData} {ps : List Str} {m : Fn}
theorem eok_std (G : FnG X.prog X.w X.K X.mg X.base i f fd ps (SpM X.K X.mg 2 m)) (hb : Binds X.K fd ps []) (hp : ps.length = 2) (hc : X.mg c0 = some (.ref C)) (q : EqC X.K C f) (spec : ∀ x y r S, eqStd c0 e x y = some r → m [x, y] S = .ok (.bl r) S) (he : EOk X n e) (hi : i + 1 ≤ n') (hn : n ≤ n') :
    EOk X n' fun c x y => if c = c0 then eqStd c0 e x y else e c x y := by
  refine ⟨fun pins s σ H F ι c ns xs y a r I rx ry h => ?_, fun c ns xs y r h => ?_, fun A pins s σ H F ι S c ns xs y vx vy u v r sb hq I w rx ry ru rv h => ?_⟩
  · by_cases hcc : c = c0
    · subst hcc
      rw [if_pos rfl] at h
      obtain ⟨a1, C1, dx, vs, ea, fa, m1, h1, l1, r1⟩ := rx
      cases ea
      obtain ⟨mA, J, rel, _⟩ := ins_get I.hok h1
      obtain ⟨od, J2, _⟩ := J.look
      rcases eqStd_cases h with ⟨p, q', hx, hy, ho⟩ | ⟨rfl, ⟨p, hx⟩, hy⟩
      · cases hx
        subst hy
        obtain ⟨a2, C2, dy, ws, eb, fb, m2, h2, l2, r2⟩ := ry
        cases eb
        rw [h1] at h2
        obtain ⟨v1, t1, rfl, g1, z1⟩ := r1
        obtain rfl : t1 = [] := z1
        obtain ⟨v2, t2, rfl, g2, z2⟩ := r2
        obtain rfl : t2 = [] := z2
        have ev : v1 = v2 := by
          have h2 := Option.some.inj h2
          injection h2 with _ _ h3
          have : [(("parts" : Str), v1)] = [(("parts" : Str), v2)] := h3
          injection this with this _
          exact congrArg Prod.snd this
        subst ev
        have rr := rel ("parts" : Str)
        have lk : ([("parts" : Str)].zip [v1]).lookup ("parts" : Str) = some v1 := by
          rw [List.zip_cons_cons, List.lookup_cons_self]
        rw [lk] at rr
        cases hm : mA ("parts" : Str) with
        | none => rw [hm] at rr; exact rr.elim
        | some u =>
          rw [hm] at rr
          exact same_O he I g1 g2 rr rr ho
      · exfalso
        obtain ⟨o, ho, hcl⟩ : ∃ o, s.heap.get? a = some o ∧ o.cls = .ref C1 := ⟨_, J2.at_, J2.cls⟩
        rcases hy with ⟨ys, rfl⟩ | ⟨z, rfl⟩
        · obtain ⟨a2, ws, eb, ta, _⟩ := ry
          cases eb
          obtain ⟨its, _, p1, _⟩ := I.tuple ta.sq
          obtain ⟨o1, q1, k1, _⟩ := p1
          rw [ho] at q1
          cases q1
          rw [hcl] at k1
          cases k1
        · have : V.ref a = V.str z := ry
          cases this
    · rw [if_neg hcc] at h
      exact he.same pins s σ H F ι c ns xs y a r I rx ry h
  · by_cases hcc : c = c0
    · rw [if_pos hcc] at h
      rcases eqStd_cases h with ⟨p, q', hx, hy, ho⟩ | ⟨rfl, _⟩
      · exact .inl ⟨_, _, _, hy⟩
      · exact .inr rfl
    · rw [if_neg hcc] at h
      exact he.ref c ns xs y r h
  · by_cases hcc : c = c0
    · subst hcc
      rw [if_pos rfl] at h
      have rx0 := rx
      obtain ⟨a1, C1, dx, vs, rfl, fa, m1, h1, l1, r1⟩ := rx
      rw [hc] at m1
      cases m1
      obtain rfl : u = Value.ref a1 := ru
      obtain ⟨mA, J, rel, _⟩ := ins_get I.hok h1
      obtain ⟨od, J2, _⟩ := J.look
      have look : ∃ tb, PySem.W.Looks (model X.prog X.w) s.heap (typeOf v) tb ∧ PySem.W.notFirst X.K C tb = true := by
        rcases eqStd_cases h with ⟨p, q', hx, rfl, ho⟩ | ⟨rfl, _, ⟨ys, rfl⟩ | ⟨z, rfl⟩⟩
        · obtain ⟨a2, C2, dy, ws, rfl, fb, m2, h2, l2, r2⟩ := ry
          rw [hc] at m2
          cases m2
          obtain rfl : v = Value.ref a2 := rv
          obtain ⟨mB, J', _⟩ := ins_get I.hok h2
          obtain ⟨od', J3, _⟩ := J'.look
          exact ⟨_, J3.type, by simp [PySem.W.notFirst]⟩
        · obtain ⟨a2, ws, rfl, ta, _⟩ := ry
          obtain rfl : v = Value.ref a2 := rv
          obtain ⟨its, _, p1, _⟩ := I.tuple ta.sq
          obtain ⟨o1, q1, k1, _⟩ := p1
          exact ⟨_, PySem.W.kitAt_ty _ _ ⟨o1, q1, k1⟩, by simp [PySem.W.notFirst, q.tt]⟩
        · rw [show vy = _ from ry] at rv
          obtain ⟨t, rfl⟩ := rv
          exact ⟨.type "str", PySem.W.Looks.of_pure rfl, by simp [PySem.W.notFirst, q.ts]⟩
      obtain ⟨tb, lk, nf⟩ := look
      obtain ⟨mf, hF⟩ := I.fr
      have call : ∀ (B : Around), Rm i B → B.frames = X.A.frames → wpAny (model X.prog X.w) B (call (.ref f) [.ref a1, v]) (fun z s' => z = .bool r ∧ BackO X pins σ H F ι S s') X.xe s := fun B rm hf => by
        have sp : SpM X.K X.mg 2 m [.ref a1, vy] H (fun z H' => z = .bl r ∧ ∃ F' ι', Ext H F ι H' F' ι' ∧ Wd X.K X.mg F' ι' H' S) (fun _ _ _ => False) := by
          refine ⟨rfl, F, ι, [.obj c ns xs, y], S, w, .cons rx0 (.one ry), ?_⟩
          rw [spec _ _ r S h]
          exact fun v' H' F' ι' e' w' r' => ⟨r', F', ι', e', w'⟩
        have e0 : Env0 X.prog X.w X.K X.mg X.base B X.stack s H := by
          have e := I.env0
          exact ⟨by rw [hf]; exact e.frames, e.mod, e.bs, e.bsz, e.funs, e.frf, e.hok, e.bare⟩
        have bd := hb s [.ref a1, v] I.kIn (by rw [hp]; rfl)
        rw [List.append_nil] at bd
        refine wpAny_call (codeAny_mono (G.go B X.stack s H ⟨[.ref a1, v], []⟩ [.ref a1, v] [.ref a1, vy] _ (fun _ _ _ => False) rm e0 bd (.cons rfl (.cons rv .nil)) sp) fun r' s' hr => ?_)
        cases r' with
        | error er =>
          obtain ⟨_, _, _, _, _, _, _, _, _, _, _, _, z⟩ := hr
          exact z.elim
        | ok fl =>
          cases fl with
          | ret z =>
            obtain ⟨v2, H', I3, rv2, rfl, F', ι', e', w'⟩ := I.after hr
            exact ⟨rv2, H', F', ι', I3, e', w'⟩
          | _ => exact False.elim hr
      constructor
      · refine PySem.W.cmp_K (op := .Eq) (tb := tb) sb.room.units0 hF I.ok.mod.kin J2 lk nf q.eq q.fn (wpAny_mono (call A ⟨sb.room.mono (by omega), hq⟩ sb.fr) (fun z s' hz => ?_) fun _ _ x => x)
        obtain ⟨rfl, b⟩ := hz
        exact ⟨rfl, b⟩
      · refine rc_ne (tb := tb) I.kIn J2 q lk nf (by have := sb.room.un; omega) (wpAny_mono (call A.in1 ⟨(sb.room.mono hi).in1, by simpa [Around.in1] using hq⟩ sb.fr) (fun z s' hz => ?_) fun _ _ x => x)
        obtain ⟨rfl, b⟩ := hz
        exact ⟨r, rfl, rfl, b⟩
    · rw [if_neg hcc] at h
      exact he.run A pins s σ H F ι S c ns xs y vx vy u v r (sb.mono hn) hq I w rx ry ru rv h
end
/-! ### computing with these -/
theorem eqO_A {e : Str → D → D → Option Bool} {x y : D} {b : Bool} {S : List Cell} (h : eqA x y = some b) : eqO e x y S = some (.bl b) := by unfold eqO eqOA; rw [h]; rfl
theorem neO_A {e : Str → D → D → Option Bool} {x y : D} {b : Bool} {S : List Cell} (h : eqA x y = some b) : neO e x y S = some (.bl (!b)) := by unfold neO neOA; rw [h]; rfl
theorem eqO_of {e : Str → D → D → Option Bool} {x y d : D} {S : List Cell} (h : eqD x y S = some d) : eqO e x y S = some d := by
  unfold eqD at h
  obtain ⟨b, hb, rfl⟩ := Option.map_eq_some_iff.mp h
  exact eqO_A hb
theorem neO_of {e : Str → D → D → Option Bool} {x y d : D} {S : List Cell} (h : neD x y S = some d) : neO e x y S = some d := by
  unfold neD at h
  obtain ⟨b, hb, rfl⟩ := Option.map_eq_some_iff.mp h
  exact neO_A hb
end DL

/-! DXg: the goal that the head leaves, with tables; rules of the new mirrors. -/
namespace DL
open PySem PySem.Spec L2
open PyProof.Rows hiding St

theorem px_defH {P : Program} {w : World} {K : PySem.W.Frag} {mg : Str → Option Value} {base : Heap} {N : List Str} {qual : Str} {sc : Scope} {f : Addr} {cd : Value} {A : Around} {outer : List Env} {s : Shared} {H : Hp} {E : XK} {p : Addr × Obj} :
    Px (cxD P w K mg base N qual sc f cd A outer s H E p) (fun _ => E) := px_of (L2N.takes_of rfl rfl rfl rfl)
/-- what is known of the law's def at the head -/
def LawT (P : Program) (w : World) (K : PySem.W.Frag) (mg : Str → Option Value) (k n : Nat) (fa : Addr) (h : Heap) (x : Str) : Prop :=
  ∃ (fd : FuncData) (m : Fn) (cq : List (Addr × Addr × Str)), (∀ p ∈ cq, h.get? p.2.1 = some { cls := .none, data := .fields #[] }) ∧ (∀ p ∈ cq, K.lookup p.2.1 = none) ∧ (∀ p ∈ cq, PySem.W.CodeHd h p.1 p.2.1) ∧ (cq.map (·.2.1)).Nodup ∧
    (∀ (s : Shared) (u : Value), BindsTo s fd ⟨[u], []⟩ [(x, u)]) ∧ (∀ base : Heap, K.In base → base.Ns mainGlobals mg → (∀ p ∈ cq, LamX.TabB base mg p.1 p.2.1) → FnG P w K mg base k fa fd [x] (SpM K mg 1 m)) ∧
    (∀ ns : List Int, ns.length ≤ n → ∃ S', m [scriptD ns] (tabsS cq) = .ok (.bl true) S')
theorem walkGT {l : PySem.W.OpenLaw} {n k : Nat} {q : Program} {loose : List Str} {XP : (Str → Option Value) → Heap → Prop} {YP : World → Heap → Prop} {d : DefRec} {K : Params → PySem.W.Frag} {x : Str}
    (hn : l.most = some n) (hn2 : n ≤ sizeLine) (hdf : d.params.defaults = []) (hr : Room k callerA)
    (hY : ∀ (w : World) (h : Heap), YP w h → (K w.params).In h)
    (F : ∀ (w : World) (mg : Str → Option Value) (fa : Addr) (h : Heap), YP w h → (K w.params).In h → h.Ns mainGlobals mg → mg d.name = some (.ref fa) → LawT l.prog w (K w.params) mg k n fa h x) :
    PySem.W.WalkO q loose XP YP l.row.toRowW d [] (fun f vs => PySem.call f vs) := by
  refine Att.attach_callB hn hdf fun w s0 s1 mg mb fa o pm cd doc a vs ns G Y ho hd hcd hmg hobj hints hlen hbits hg => ?_
  have kin := hY w _ Y
  obtain ⟨fd, m, cq, h1, h2, h3, h4, h5, h6, h7⟩ := F w mg fa _ Y kin G.T.g hmg
  exact mean_of_lawT cq kin G.T.g G.T.b G.T.builtins G.T.nolimit hg h1 h2 h3 h4 G.T.bmain hobj hints (Nat.le_trans hlen hn2) (rm_caller hr) h6 h5 (h7 ns hlen)
/-! ### rules -/
section
variable {env : List Sl} {S : List Cell}
theorem r_lam {T : Nat} {P : Addr} {q : Str} {m : Nat → (List Cell → Rs D) → Fn} {h : Ex D} (hS : S[T]? = some (.tab P q)) : mLam T P q m h env S = m S.length (fun S' => h (env.map noOwn) S') [.cell S.length] (S ++ [.dead]) := by
  unfold mLam
  rw [hS]
  simp
theorem V_lam {T : Nat} {P : Addr} {q : Str} {m : Nat → (List Cell → Rs D) → Fn} {h : Ex D} {R : PR D} (hS : S[T]? = some (.tab P q)) :
    @Rs.V D (mLam T P q m h env S) R = @Rs.V D (m S.length (fun S' => h (env.map noOwn) S') [.cell S.length] (S ++ [.dead])) R := by rw [r_lam hS]
@[simp] theorem r_thunk (n : Nat) (t : List Cell → Rs D) (r : List Sl) : mThunk n t (.val (.cell n) :: r) S = t S := by simp [mThunk]
@[simp ↓] theorem V_thunk (n : Nat) (t : List Cell → Rs D) (r : List Sl) {R : PR D} : @Rs.V D (mThunk n t (.val (.cell n) :: r) S) R = @Rs.V D (t S) R := by rw [r_thunk]
@[simp] theorem r_ls (f : Ex D) : mLs f env S = (f env S).andThen lsOf := nr rfl
@[simp ↓] theorem V_ls (f : Ex D) {R : PR (List D)} : @Rs.V (List D) (mLs f env S) R = @Rs.V (List D) ((f env S).andThen lsOf) R := by rw [r_ls]
end
end DL

/-! DXh: not in; an own list asked, an item taken from it; list(x) as one's own; t.count(i) of tuples of ints. -/
namespace DL
open PySem PySem.Spec L2
open PyProof.Rows hiding St

theorem ok_notin {K : PySem.W.Frag} {mg : Str → Option Value} : Ok2 K mg (rIn K true) (inD true) := by
  intro H F ι S x y d v u Q w rx ry ho t
  unfold inD at ho
  split at ho
  · split at ho
    · rename_i xs hc
      rw [Bool.and_eq_true] at hc
      cases ho
      obtain ⟨p, us, rfl, hl, hr⟩ := ry
      obtain ⟨a1, a2⟩ := in_reps rx hc.1 hr hc.2
      exact ⟨p, us, rfl, .inl hl.sq, flat_v rx hc.1, a1, by rw [a2]; exact t.here w rfl⟩
    · cases ho
  · split at ho
    · rename_i xs hc
      rw [Bool.and_eq_true] at hc
      cases ho
      obtain ⟨p, us, rfl, hl, hr⟩ := ry
      obtain ⟨a1, a2⟩ := in_reps rx hc.1 hr hc.2
      exact ⟨p, us, rfl, .inr hl.sq, flat_v rx hc.1, a1, by rw [a2]; exact t.here w rfl⟩
    · cases ho
  · cases ho
section
variable {X : Cx} {E : EE} {o e a : Expr} {f h : Ex D} {pos apos cpos : Pos}
/-- x not in xs, xs a list of one's own -/
def mNinO (k : Nat) (f : Ex D) : Ex D := fun env S => match env[k]? with
  | some (.own ds) => (f env S).andThen fun d S1 => if flatD d && ds.all flatD then .ok (.bl (!inFl d ds)) S1 else .bad
  | _ => .bad
theorem v_ninO (k : Nat) {x : Str} {px : Pos} (ha : VE X E a f) (hN : X.N[k]? = some x := by rfl) (hv : Vis X.env.scope x := by first | exact Or.inl rfl | exact Or.inr (Or.inl rfl) | exact Or.inr (Or.inr rfl))
    (hm : behindInMarks .NotIn (.Name x px) = false := by rfl) (hd : (x == ("__debug__" : Str)) = false := by decide) (hcd : (x == ("__classdict__" : Str)) = false := by decide) :
    VE X E (.Compare a [.NotIn] [.Name x px] pos) (mNinO k f) := fun g => (pe_cmpR op_notIn_seq (ha g) (pe_var hN hv hd hcd) hm).imp fun σ H Q ⟨F, ι, env, S, w, q⟩ => by
  unfold mNinO at q
  split at q
  · rename_i ds hk
    obtain ⟨p, us, h1, h2, h3, h4, h5, h6⟩ := w.own k ds hk
    refine ⟨F, ι, env, S, w, rd_mono (rd_then q) ?_⟩
    rintro d H1 F1 ι1 S1 - e1 w1 ⟨_, _, q1⟩ v hv
    refine ⟨.ref p, h1, ?_⟩
    split at q1
    · rename_i hc
      rw [Bool.and_eq_true] at hc
      have k2 := e1.keep p _ h2 (.inr h5)
      obtain ⟨a1, a2⟩ := in_reps hv hc.1 (w.wd.reps e1 h3) hc.2
      refine ⟨p, us, rfl, .inl (.inl (.inl k2)), flat_v hv hc.1, a1, ?_⟩
      rw [a2]
      exact (q1 H1 F1 ι1 Ext.refl w1).2.2 _ rfl
    · exact q1.elim
  · exact q.elim
/-- xs.remove(i), xs a list of one's own, of ints -/
def mRem (k : Nat) (f : Ex D) : Sm := fun env S => match env[k]? with
  | some (.own ds) => (f env S).go env fun d S1 => match d, intsOf ds with
    | .int i, some ns => if i ∈ ns then .nx (env.set k (.own ((ns.eraseIdx (ns.idxOf i)).map .int))) S1 else .bad
    | _, _ => .bad
  | _ => .bad
theorem intsOf_eq : ∀ {xs : List D} {ns : List Int}, intsOf xs = some ns → xs = ns.map .int
  | [], ns, h => by cases h; rfl
  | d :: r, ns, h => by
    cases d with
    | int i =>
      cases z : intsOf r with
      | none => simp [intsOf, z] at h
      | some cs =>
        simp [intsOf, z] at h
        subst h
        rw [intsOf_eq z]; rfl
    | _ => simp [intsOf] at h
theorem reps_nums {K : PySem.W.Frag} {mg : Str → Option Value} {F : Fz} {ι : List Addr} {H : Hp} : ∀ {ns : List Int} {vs : List V}, Reps K mg F ι H (ns.map .int) vs → vs = ns.map V.int
  | [], _, h => h
  | b :: bs, _, h => by
    obtain ⟨v, r, rfl, h1, h2⟩ := h
    rw [show v = _ from h1, reps_nums h2]; rfl
theorem s_rem (k : Nat) {x : Str} {px : Pos} (he : VE X E e f) (hN : X.N[k]? = some x := by rfl) (hv : Vis X.env.scope x := by first | exact Or.inl rfl | exact Or.inr (Or.inl rfl) | exact Or.inr (Or.inr rfl))
    (h1 : attributeBase (.Name x px) "remove" X.env (eval (.Name x px) X.env) = eval (.Name x px) X.env := by rfl)
    (h2 : ((backTo cpos (starEach [e] X.env)).all (fun x => !x.1) && (backToKw cpos (keywordEach [] X.env)).all (fun x => x.1.isSome)
      && decide ([e].length + ([] : List Keyword).length + (if ([] : List Keyword).isEmpty then 0 else 1) < 30)) = true := by rfl)
    (h3 : (apos.endLine == cpos.line) = true := by rfl) (h4 : starEach [e] X.env = (false, eval e X.env) :: starEach [] X.env := by rfl) (h5 : (backTo cpos (starEach [] X.env)).any (·.1) = false := by rfl)
    (hs : swapsWith (.Call (.Attribute (.Name x px) "remove" apos) [e] [] cpos) none pos.line X.env = pure false := by rfl) (hd : (x == ("__debug__" : Str)) = false := by decide) (hcd : (x == ("__classdict__" : Str)) = false := by decide) :
    VS X E (.Expr (.Call (.Attribute (.Name x px) "remove" apos) [e] [] cpos) pos) (mRem k f) := fun g =>
  (ps_expr (pe_bm PySem.F.plainAttrs_list PySem.F.slot_list_remove PySem.F.type_list_remove mt_remove (pe_var hN hv hd hcd) (pa_cons (he g) pa_nil h4) h1 h2 h3 h4 h5) hs).imp fun D σ H ⟨F, ι, env, S, w, q⟩ => by
    unfold mRem at q
    split at q
    · rename_i ds hd'
      obtain ⟨a, vs, h1, h2, h3, h4, h5, h6⟩ := w.own k ds hd'
      refine ⟨.ref a, h1, .inl ⟨rfl, vs, .inl (.inl h2)⟩, F, ι, env, S, w, rd_mono (rd_go w.wd q) ?_⟩
      rintro d H1 F1 ι1 S1 - e1 w1 ⟨_, _, q1⟩ v hv
      split at q1
      · rename_i i ns hns
        split at q1
        · rename_i hin
          obtain rfl := intsOf_eq hns
          obtain rfl := reps_nums h3
          have k2 := e1.keep a _ h2 (.inr h5)
          have rest : Reps X.K X.mg F1 ι1 H1 ((ns.eraseIdx (ns.idxOf i)).map .int) ((ns.eraseIdx (ns.idxOf i)).map V.int) := reps_ints _
          obtain ⟨w2, gr⟩ := w1.mutO (ds' := (ns.eraseIdx (ns.idxOf i)).map .int) hd' h1 rest
          have hlt : ns.idxOf i < ns.length := List.idxOf_lt_length_of_mem hin
          refine ⟨a, ns, i, ns.idxOf i, rfl, by rw [show v = _ from hv], k2, ?_, fun m hm z => ?_, q1 _ _ _ _ w2 gr⟩
          · rw [List.getElem?_eq_getElem hlt, List.getElem_idxOf hlt]
          · have hm2 : m < ns.length := by omega
            have e2 := (List.getElem?_eq_some_iff.mp z).2
            have := List.not_of_lt_findIdx (xs := ns) (p := (· == i)) hm
            rw [e2] at this
            simp at this
        · exact q1.elim
      · exact q1.elim
    · exact q.elim
/-- list(x), a list of one's own -/
def itsOf2 : D → List Cell → Rs (List D)
  | .tup xs, S => .ok xs S
  | .lst xs, S => .ok xs S
  | _, _ => .bad
def mLsO (f : Ex D) : Ex (List D) := fun env S => (f env S).andThen itsOf2
theorem o_listO {p : Pos} (he : VE X E e f) (zl : X.mg "list" = none) (gl : Gl X "list" := by rfl) (h1 : starEach [e] X.env = (false, eval e X.env) :: starEach [] X.env := by rfl) (h2 : (backTo pos (starEach [] X.env)).any (·.1) = false := by rfl) :
    VO X E (.Call (.Name "list" p) [e] [] pos) (mLsO f) := fun g => (pe_callTy call_list_of gl zl rfl (pa_cons (he g) pa_nil h1) (by decide) (by decide) h1 h2).imp fun σ H Q ⟨F, ι, env, S, w, q⟩ => by
  unfold mLsO at q
  refine ⟨F, ι, env, S, w, rd_mono (rd_then q) ?_⟩
  rintro d H1 F1 ι1 S1 - e1 w1 ⟨_, _, q1⟩ v hv
  cases d with
  | tup xs =>
    obtain ⟨b, us, rfl, hl, hr⟩ := hv
    refine ⟨b, us, rfl, .inr hl.sq, fun l n => ?_⟩
    obtain ⟨e2, w2⟩ := w1.wd.layO (o := .lst us) n
    exact (q1 _ F1 ι1 e2 (w1.step e2 w2)).2.2 l us upd_same (w1.wd.reps e2 hr) (fun z => w1.wd.fin l z n) (fun z => w1.wd.cell_ne z n) (e1.mono _ n)
  | lst xs =>
    obtain ⟨b, us, rfl, hl, hr⟩ := hv
    refine ⟨b, us, rfl, .inl hl.sq, fun l n => ?_⟩
    obtain ⟨e2, w2⟩ := w1.wd.layO (o := .lst us) n
    exact (q1 _ F1 ι1 e2 (w1.step e2 w2)).2.2 l us upd_same (w1.wd.reps e2 hr) (fun z => w1.wd.fin l z n) (fun z => w1.wd.cell_ne z n) (e1.mono _ n)
  | _ => exact q1.elim
end
end DL

/-! DXi: repr of a pair [word, {}]. -/
namespace DL
open PySem PySem.Spec L2
open PyProof.Rows hiding St

abbrev wordDict (w : Str) : PyData := .list [.str w, .dict []]
def okWord (w : Str) : Bool := (wordDict w).showable && decide ((wordDict w).shown.length ≤ sizeLine)
def repr2D : OpN := fun xs S => match xs with
  | [.lst [.str w, .dct [] []]] => if okWord w then some (.str (wordDict w).shown) else none
  | _ => reprD xs S
def rWord (K : PySem.W.Frag) : List V → Hp → VK → Prop := fun xs H Q => ∃ (a b : Addr) (w : Str), xs = [.ref a] ∧ SqL K H a [.str w, .ref b] ∧ Rd H b (.dK []) ∧ okWord w = true ∧ Q (.str (wordDict w).shown) H
theorem call_word {X : Cx} {k : Nat} (rm : Rm k X.A) : CallR X (.builtin "repr") (rWord X.K) := by
  rintro pins s σ H xs us Q I r ⟨a, b, wd, rfl, hl, hd, hk, q⟩
  obtain ⟨u, rfl, ru⟩ := vals1 r
  cases ru
  obtain ⟨its, rv, ⟨o, n, e, c, dn, d⟩, hz⟩ := I.list hl
  cases rv with
  | cons r1 rv =>
    cases rv with
    | cons r2 rv =>
      cases rv
      obtain ⟨t, rfl⟩ := r1
      cases r2
      obtain ⟨_, nb, vs, kv, od, es, ep, e2, ex, d2, ks, ps, _⟩ := dk_rd I.hok hd
      cases kv
      have hes : es.toList = [] := by
        cases z : es.toList with
        | nil => rfl
        | cons x xs => rw [z] at ps; cases ps
      simp only [okWord, Bool.and_eq_true, decide_eq_true_eq] at hk
      have hb : b ≠ sysModules := fun z => by rw [z] at nb; simp at nb
      have rd : ReadsAll s.heap [.str wd t, .ref b] [.str wd, .dict []] ([] ++ ((b :: [] ++ []) ++ [])) :=
        .cons (.str wd t) (.cons (.dict e2 ex.1 d2 (by rw [hes]; exact .nil) (by rw [hes]; exact .nil)) .nil)
      have hz' : (listText (PyData.shownAll [.str wd, .dict []])).length ≤ sizeLine := by simpa only [PyData.shown] using hk.2
      obtain ⟨bs, hb1, hk1⟩ := ReprAllK.of_readsAll (prog := X.prog) (w := X.w) rd (by simpa [PyData.showable] using hk.1) (fun _ z => by
        have : sysModules = b := by simpa using z
        exact hb this.symm) (fun t ht => Nat.le_trans (listText_mem_le ht) hz')
      have hna : a ∉ bs := not_mem_of_deeper (.list e c d rd) (by simp only [PyData.depth]; omega) hb1
      have hu : X.A.units + 64 < cLine := rm.room.units
      refine call_repr_slot (by omega) ⟨o, e, c⟩ F.slot_list_repr.toG ?_
      refine call_list_reprK e c d hna (by simpa using hk1.length_eq) (fun i y z => hk1.item i y (by simpa using z)) rm.quiet (fun b _ => Clear.nil b) ?_ (fun _ _ z => z) (fun h' u tk hkk => ⟨_, _, rfl, .str _, H, I.kept hkk, ⟨_, rfl⟩, ?_⟩) hz'
      · show X.A.units + 1 + _ < cLine
        simp only [PyData.depthAll, PyData.depth, PyData.depthKv]
        omega
      · simpa only [PyData.shown] using q
def rRepr2 (K : PySem.W.Frag) : List V → Hp → VK → Prop := fun xs H Q => rRepr K xs H Q ∨ rWord K xs H Q
theorem call_repr2 {X : Cx} {k : Nat} (rm : Rm k X.A) : CallR X (.builtin "repr") (rRepr2 X.K) := CallR.or (call_repr rm) (call_word rm)
theorem ok_repr2 {K : PySem.W.Frag} {mg : Str → Option Value} : OkN K mg (rRepr2 K) repr2D := by
  intro H F ι S xs d vs Q w rx ho t
  unfold repr2D at ho
  split at ho
  · rename_i wd
    split at ho
    · rename_i hk
      cases ho
      obtain ⟨v, rfl, a, us, rfl, hl, hr⟩ := one_of rx
      obtain ⟨v1, r1, rfl, h1, v2, r2, rfl, h2, h3⟩ := hr
      obtain rfl : r2 = [] := h3
      obtain ⟨b, vs, rfl, fb, hb, _, _⟩ := h2
      exact .inr ⟨a, b, wd, rfl, by rw [← show v1 = V.str wd from h1]; exact hl.sq, hb, hk, t.here w rfl⟩
    · cases ho
  · exact .inl (ok_repr H F ι S xs d vs Q w rx ho t)
@[simp] theorem repr2_word {w : Str} {S : List Cell} (h : okWord w = true) : repr2D [.lst [.str w, .dct [] []]] S = some (.str (wordDict w).shown) := if_pos h
theorem repr2_of {d : D} {S : List Cell} {s : Str} (h : reprD [d] S = some (.str s)) : repr2D [d] S = some (.str s) := by
  unfold repr2D
  split
  · rename_i w e
    cases e
    unfold reprD at h
    simp [toP, toPs] at h
  · exact h
end DL

/-! DXj: xs != [], whatever xs holds. -/
namespace DL
open PySem PySem.Spec L2
open PyProof.Rows hiding St

def rNeLen (K : PySem.W.Frag) : R2 := fun x y H Q => ∃ (a b : Addr) (xs ys : List V), x = .ref a ∧ y = .ref b ∧ SqL K H a xs ∧ SqL K H b ys ∧ xs.length ≠ ys.length ∧ Q (.bl true) H
theorem op_neLen {X : Cx} (hu : X.A.units + 64 < cLine) : OpR X (compareOp .NotEq) (rNeLen X.K) := by
  rintro pins s σ H x y v u Q I rx ry ⟨a, b, xs, ys, rfl, rfl, h1, h2, hl, q⟩
  cases rx
  cases ry
  obtain ⟨i1, v1, p1, _⟩ := I.list h1
  obtain ⟨i2, v2, p2, _⟩ := I.list h2
  have e1 := v1.length
  have e2 := v2.length
  refine PySem.W.cmp_ofNotEq ?_
  exact SeqAt.RcNeAt.lists_lengths p1.isList p2.isList (by simp; omega) (by omega) X.prog X.w _ _ ⟨.bl true, H, I, rfl, q⟩
def neL : Op2 := fun x y S => match x, y with
  | .lst (_ :: _), .lst [] => some (.bl true)
  | _, _ => neD x y S
theorem op_neL {X : Cx} (hu : X.A.units + 64 < cLine) : OpR X (compareOp .NotEq) (fun x y H Q => rNeA X.K x y H Q ∨ rNeLen X.K x y H Q) := (op_neAll hu).or (op_neLen hu)
theorem ok_neL {K : PySem.W.Frag} {mg : Str → Option Value} : Ok2 K mg (fun x y H Q => rNeA K x y H Q ∨ rNeLen K x y H Q) neL := by
  intro H F ι S x y d v u Q w rx ry ho t
  unfold neL at ho
  split at ho
  · rename_i x0 xs
    cases ho
    obtain ⟨a, vs, rfl, hl, hr⟩ := rx
    obtain ⟨b, us, rfl, hl2, hr2⟩ := ry
    obtain rfl : us = [] := hr2
    refine .inr ⟨a, b, vs, [], rfl, rfl, hl.sq, hl2.sq, ?_, t.here w rfl⟩
    rw [hr.len]
    simp
  · exact .inl (ok_ne H F ι S x y d v u Q w rx ry ho t)
@[simp] theorem neL_cons (x : D) (xs : List D) (S : List Cell) : neL (.lst (x :: xs)) (.lst []) S = some (.bl true) := nr rfl
@[simp] theorem neL_nil (S : List Cell) : neL (.lst []) (.lst []) S = some (.bl false) := nr rfl
end DL

/-! DXk: ranges that go down, i += j. -/
namespace DL
open PySem PySem.Spec L2
open PyProof.Rows hiding St

theorem walk_of_down {K : PySem.W.Frag} {mg : Str → Option Value} {F : Fz} {ι : List Addr} {H : Hp} (lo : Int) (n : Nat) : WalkD K mg F ι H (Itc lo (-1) n) ((List.range n).map fun k => .int (lo - (k : Nat))) :=
  fun F2 ι2 H2 S2 wd gr i => by
    refine ⟨fun hi => Nat.le_of_eq (by simpa using hi : n = i), fun d hd => ?_⟩
    rw [List.getElem?_map] at hd
    by_cases hi : i < n
    · rw [List.getElem?_range hi] at hd
      cases hd
      refine ⟨hi, fun x H3 ⟨e1, e2⟩ => ?_⟩
      subst e1
      subst e2
      have e : lo + (i : Nat) * (-1) = lo - (i : Nat) := by omega
      exact ⟨F2, Ext.refl, wd, by rw [e]; rfl⟩
    · rw [List.getElem?_eq_none (by simpa using hi)] at hd; cases hd
section
variable {X : Cx} {E : EE} {tg a b c e : Expr} {fa : Ex (List D)} {f : Ex D} {pos : Pos}
theorem i_rangeB {p : Pos} (hm : X.mg "range" = none) (ha : VA X E [a, b, c] fa) (hg : Gl X "range" := by rfl) (hs : starEach [a, b, c] X.env = (false, eval a X.env) :: starEach [b, c] X.env := by rfl)
    (hpl : (backTo pos (starEach [b, c] X.env)).any (·.1) = false := by rfl) : VI X E tg (.Call (.Name "range" p) [a, b, c] [] pos) (mRangeB fa) := fun g =>
  (pi_range3 hg hm (ha g) hs hpl).imp fun σ H R ⟨F, ι, env, S, w, q⟩ => ⟨F, ι, env, S, w, rd_mono (rd_then q) fun xs H1 F1 ι1 S1 hx e1 w1 ⟨_, _, q1⟩ vs hvs => by
    unfold rangeBD at q1
    split at q1
    · rename_i i j k S1
      split at q1
      · rename_i hj
        rw [Bool.and_eq_true, Bool.and_eq_true] at hj
        obtain ⟨h1, h2⟩ := small_of hj.1.1
        obtain ⟨h3, h4⟩ := small_of hj.1.2
        obtain rfl : k = -1 := by simpa using hj.2
        obtain ⟨v1, r1, rfl, e1, v2, r2, rfl, e2, v3, r3, rfl, e3, e4⟩ := hvs
        obtain rfl : r3 = [] := e4
        refine ⟨i, j, -1, (i - j).toNat, by rw [show v1 = _ from e1, show v2 = _ from e2, show v3 = _ from e3], RgC.neg h1 h2 h3 h4, (q1 H1 F1 ι1 Ext.refl w1).2.2 _ (walk_of_down i (i - j).toNat)⟩
      · exact q1.elim
    · exact q1.elim⟩
/-- x += e, ints -/
def mInc (i : Nat) (f : Ex D) : Sm := fun env S => match env[i]? with
  | some (.val (.int x)) => (f env S).go env fun d S1 => match d with
    | .int y => .nx (env.set i (.val (.int (x + y)))) S1
    | _ => .bad
  | _ => .bad
theorem s_inc (i : Nat) {x : Str} {px : Pos} (he : VE X E e f) (hN : X.N.Nodup) (hi : X.N[i]? = some x := by rfl) (hx : Loc X.env.scope x := by first | exact Or.inl rfl | exact Or.inr rfl)
    (hf : X.fn x = true ∨ X.env.scope.names.lookup x = some .local := by first | exact .inl rfl | exact .inr rfl) :
    VS X E (.AugAssign (.Name x px) .Add e pos) (mInc i f) := fun g => (ps_aug hN hi hx (he g) ip_add hf).imp fun D σ H ⟨F, ι, env, S, w, q⟩ => by
  unfold mInc at q
  split at q
  · rename_i z hz
    obtain ⟨v, h1, h2⟩ := w.slot i _ hz
    refine ⟨v, h1, F, ι, env, S, w, rd_mono (rd_go w.wd q) ?_⟩
    rintro d H1 F1 ι1 S1 - e1 w1 ⟨_, _, q1⟩ u hu
    cases d with
    | int y => exact ⟨z, y, show v = _ from h2, show u = _ from hu, q1 _ H1 F1 ι1 (w1.put i rfl) Grow.refl⟩
    | _ => exact q1.elim
  · exact q.elim
/-- tuple(range(e)) -/
def mTupRg (f : Ex D) : Ex D := fun env S => (f env S).andThen fun x S1 => match x with
  | .int j => if okRg 0 j then .ok (.tup (rgD 0 j)) S1 else .bad
  | _ => .bad
theorem v_tupRg {p p' p2 : Pos} (he : VE X E e f) (zl : X.mg "tuple" = none) (zr : X.mg "range" = none) (hc : X.calm = true) (gl : Gl X "tuple" := by rfl) (gr : Gl X "range" := by rfl) (na : starEach [e] X.env = (false, eval e X.env) :: starEach [] X.env := by rfl)
    (nb : starEach [.Call (.Name "range" p) [e] [] p'] X.env = (false, eval (.Call (.Name "range" p) [e] [] p') X.env) :: starEach [] X.env := by rfl) :
    VE X E (.Call (.Name "tuple" p2) [.Call (.Name "range" p) [e] [] p'] [] pos) (mTupRg f) := fun g =>
  (pe_tupRg hc gl zl (prg_1 gr zr (he g) na) nb).imp fun σ H Q ⟨F, ι, env, S, w, q⟩ => ⟨F, ι, env, S, w, rd_mono (rd_then q) fun x H1 F1 ι1 S1 _ e1 w1 ⟨_, _, q1⟩ v hv => by
    cases x with
    | int j =>
      have q1 : rdAt X.K X.mg g E σ H1 F1 ι1 env _ (if okRg 0 j then Rs.ok (D.tup (rgD 0 j)) S1 else .bad) := q1
      by_cases hr : okRg 0 j = true
      · rw [if_pos hr] at q1
        refine ⟨j, hv, okRg_ok hr, fun q0 hq => ?_⟩
        obtain ⟨e', w'⟩ := w1.wd.lay (o := .tup (rgV 0 j)) hq
        exact (q1 _ _ _ e' (w1.step e' w')).2.2 _ ⟨q0, _, rfl, .inl ⟨.inr rfl, .inl upd_same⟩, rg_reps 0 j⟩
      · rw [if_neg hr] at q1
        exact q1.elim
    | _ => exact q1.elim⟩
end
section
variable {env : List Sl} {S : List Cell} [F : PF]
theorem V_inc {i : Nat} {f : Ex D} {x : Int} (h : env[i]? = some (.val (.int x))) : @Fl.V (mInc i f env S) F = @Rs.V D (f env S) (F.rd env fun d S1 => match d with
    | .int y => F.N (env.set i (.val (.int (x + y)))) S1
    | _ => False) := by
  unfold mInc
  rw [h]
  dsimp only
  rw [V_go]
  congr
  funext d S1
  cases d <;> rfl
end
end DL

/-! DXl: t == (), whatever t holds. -/
namespace DL
open PySem PySem.Spec L2
open PyProof.Rows hiding St

def rEqT0 (K : PySem.W.Frag) : R2 := fun x y H Q => ∃ (a b : Addr) (z : V) (xs : List V), x = .ref a ∧ y = .ref b ∧ SqT K H a (z :: xs) ∧ SqT K H b [] ∧ Q (.bl false) H
theorem op_eqT0 {X : Cx} (hu : X.A.units + 64 < cLine) : OpR X (compareOp .Eq) (rEqT0 X.K) := by
  rintro pins s σ H x y v u Q I rx ry ⟨a, b, z, xs, rfl, rfl, h1, h2, q⟩
  cases rx
  cases ry
  obtain ⟨i1, v1, p1, _⟩ := I.tuple h1
  obtain ⟨i2, v2, p2, _⟩ := I.tuple h2
  cases v2
  have e1 := v1.length
  have p1 : s.heap.IsTuple a i1.toArray := p1
  have p2 : s.heap.IsTuple b ([] : List Value).toArray := p2
  refine PySem.W.cmp_ofEq ?_
  have r := SeqAt.RcAt.tuples (A := X.A) (e := fun _ => true) p1 p2 (by omega) (fun j h1 h2 => absurd h2 (by simp))
  have e2 : ((List.range (min i1.toArray.size ([] : List Value).toArray.size)).all (fun _ => true) && i1.toArray.size == ([] : List Value).toArray.size) = false := by
    have : i1.toArray.size = xs.length + 1 := by simpa using e1.symm
    rw [this]
    simp
  rw [e2] at r
  exact r X.prog X.w _ _ ⟨.bl false, H, I, rfl, q⟩
def eqL : Op2 := fun x y S => match x, y with
  | .tup (_ :: _), .tup [] => some (.bl false)
  | _, _ => eqD x y S
theorem op_eqL {X : Cx} (hu : X.A.units + 64 < cLine) : OpR X (compareOp .Eq) (fun x y H Q => rEqA X.K x y H Q ∨ rEqT0 X.K x y H Q) := (op_eqAll hu).or (op_eqT0 hu)
theorem ok_eqL {K : PySem.W.Frag} {mg : Str → Option Value} : Ok2 K mg (fun x y H Q => rEqA K x y H Q ∨ rEqT0 K x y H Q) eqL := by
  intro H F ι S x y d v u Q w rx ry ho t
  unfold eqL at ho
  split at ho
  · rename_i x0 xs
    cases ho
    obtain ⟨a, vs, rfl, hl, z, r, rfl, h1, h2⟩ := rx
    obtain ⟨b, us, rfl, hl2, hr2⟩ := ry
    obtain rfl : us = [] := hr2
    exact .inr ⟨a, b, z, r, rfl, rfl, hl.sq, hl2.sq, t.here w rfl⟩
  · exact .inl (ok_eq H F ι S x y d v u Q w rx ry ho t)
@[simp] theorem eqL_cons (x : D) (xs : List D) (S : List Cell) : eqL (.tup (x :: xs)) (.tup []) S = some (.bl false) := nr rfl
@[simp] theorem eqL_nil (S : List Cell) : eqL (.tup []) (.tup []) S = some (.bl true) := nr rfl
end DL

namespace K14
open PySem PySem.Spec L2 DL
open PyProof.Rows hiding St
def topS (i : Nat) : Stmt := PySem.Challenge.pw_bentthrough_k14_matches_refused.main.body.getD i (.Pass ⟨0, 0, 0, 0⟩)
abbrev si_InvalidPlaces : Stmt := match topS 11 with
  | .ClassDef _ _ _ b _ _ _ _ _ _ _ => b.getD 0 (.Pass ⟨0, 0, 0, 0⟩)
  | _ => .Pass ⟨0, 0, 0, 0⟩
abbrev si_NotAFrame : Stmt := match topS 7 with
  | .ClassDef _ _ _ b _ _ _ _ _ _ _ => b.getD 0 (.Pass ⟨0, 0, 0, 0⟩)
  | _ => .Pass ⟨0, 0, 0, 0⟩
abbrev si_InvalidKnots : Stmt := match topS 9 with
  | .ClassDef _ _ _ b _ _ _ _ _ _ _ => b.getD 0 (.Pass ⟨0, 0, 0, 0⟩)
  | _ => .Pass ⟨0, 0, 0, 0⟩
abbrev si_InvalidDegree : Stmt := match topS 5 with
  | .ClassDef _ _ _ b _ _ _ _ _ _ _ => b.getD 0 (.Pass ⟨0, 0, 0, 0⟩)
  | _ => .Pass ⟨0, 0, 0, 0⟩
def ooT : List (Str × Str × Bool) := [(("InvalidPlaces", "NotRight", true) : Str × Str × Bool), (("InvalidPlaces", "InvalidText", false) : Str × Str × Bool), (("InvalidPlaces", "InvalidNumber", false) : Str × Str × Bool), (("InvalidPlaces", "InvalidIndex", false) : Str × Str × Bool), (("InvalidPlaces", "InvalidDegree", false) : Str × Str × Bool), (("InvalidPlaces", "InvalidKnot", false) : Str × Str × Bool), (("InvalidPlaces", "NotAFrame", false) : Str × Str × Bool), (("InvalidPlaces", "NotACurve", false) : Str × Str × Bool), (("InvalidPlaces", "InvalidKnots", false) : Str × Str × Bool), (("InvalidPlaces", "InvalidAmounts", false) : Str × Str × Bool), (("InvalidPlaces", "InvalidPlaces", true) : Str × Str × Bool), (("InvalidPlaces", "InvalidHeights", false) : Str × Str × Bool), (("InvalidPlaces", "InvalidOffers", false) : Str × Str × Bool), (("InvalidPlaces", "NotKnown", false) : Str × Str × Bool), (("InvalidPlaces", "NotPossible", false) : Str × Str × Bool), (("InvalidPlaces", "TooMany", false) : Str × Str × Bool), (("InvalidPlaces", "NotOne", false) : Str × Str × Bool), (("InvalidPlaces", "Broken", false) : Str × Str × Bool), (("NotAFrame", "NotRight", true) : Str × Str × Bool), (("NotAFrame", "InvalidText", false) : Str × Str × Bool), (("NotAFrame", "InvalidNumber", false) : Str × Str × Bool), (("NotAFrame", "InvalidIndex", false) : Str × Str × Bool), (("NotAFrame", "InvalidDegree", false) : Str × Str × Bool), (("NotAFrame", "InvalidKnot", false) : Str × Str × Bool), (("NotAFrame", "NotAFrame", true) : Str × Str × Bool), (("NotAFrame", "NotACurve", false) : Str × Str × Bool), (("NotAFrame", "InvalidKnots", false) : Str × Str × Bool), (("NotAFrame", "InvalidAmounts", false) : Str × Str × Bool), (("NotAFrame", "InvalidPlaces", false) : Str × Str × Bool), (("NotAFrame", "InvalidHeights", false) : Str × Str × Bool), (("NotAFrame", "InvalidOffers", false) : Str × Str × Bool), (("NotAFrame", "NotKnown", false) : Str × Str × Bool), (("NotAFrame", "NotPossible", false) : Str × Str × Bool), (("NotAFrame", "TooMany", false) : Str × Str × Bool), (("NotAFrame", "NotOne", false) : Str × Str × Bool), (("NotAFrame", "Broken", false) : Str × Str × Bool), (("InvalidKnots", "NotRight", true) : Str × Str × Bool), (("InvalidKnots", "InvalidText", false) : Str × Str × Bool), (("InvalidKnots", "InvalidNumber", false) : Str × Str × Bool), (("InvalidKnots", "InvalidIndex", false) : Str × Str × Bool), (("InvalidKnots", "InvalidDegree", false) : Str × Str × Bool), (("InvalidKnots", "InvalidKnot", false) : Str × Str × Bool), (("InvalidKnots", "NotAFrame", false) : Str × Str × Bool), (("InvalidKnots", "NotACurve", false) : Str × Str × Bool), (("InvalidKnots", "InvalidKnots", true) : Str × Str × Bool), (("InvalidKnots", "InvalidAmounts", false) : Str × Str × Bool), (("InvalidKnots", "InvalidPlaces", false) : Str × Str × Bool), (("InvalidKnots", "InvalidHeights", false) : Str × Str × Bool), (("InvalidKnots", "InvalidOffers", false) : Str × Str × Bool), (("InvalidKnots", "NotKnown", false) : Str × Str × Bool), (("InvalidKnots", "NotPossible", false) : Str × Str × Bool), (("InvalidKnots", "TooMany", false) : Str × Str × Bool), (("InvalidKnots", "NotOne", false) : Str × Str × Bool), (("InvalidKnots", "Broken", false) : Str × Str × Bool), (("InvalidDegree", "NotRight", true) : Str × Str × Bool), (("InvalidDegree", "InvalidText", false) : Str × Str × Bool), (("InvalidDegree", "InvalidNumber", false) : Str × Str × Bool), (("InvalidDegree", "InvalidIndex", false) : Str × Str × Bool), (("InvalidDegree", "InvalidDegree", true) : Str × Str × Bool), (("InvalidDegree", "InvalidKnot", false) : Str × Str × Bool), (("InvalidDegree", "NotAFrame", false) : Str × Str × Bool), (("InvalidDegree", "NotACurve", false) : Str × Str × Bool), (("InvalidDegree", "InvalidKnots", false) : Str × Str × Bool), (("InvalidDegree", "InvalidAmounts", false) : Str × Str × Bool), (("InvalidDegree", "InvalidPlaces", false) : Str × Str × Bool), (("InvalidDegree", "InvalidHeights", false) : Str × Str × Bool), (("InvalidDegree", "InvalidOffers", false) : Str × Str × Bool), (("InvalidDegree", "NotKnown", false) : Str × Str × Bool), (("InvalidDegree", "NotPossible", false) : Str × Str × Bool), (("InvalidDegree", "TooMany", false) : Str × Str × Bool), (("InvalidDegree", "NotOne", false) : Str × Str × Bool), (("InvalidDegree", "Broken", false) : Str × Str × Bool), (("Frame", "Frame", true) : Str × Str × Bool)]
def obT : List (Str × String × Bool) := [("InvalidPlaces", "ValueError", true), ("InvalidPlaces", "LookupError", false), ("InvalidPlaces", "ArithmeticError", false), ("NotAFrame", "ValueError", true), ("NotAFrame", "LookupError", false), ("NotAFrame", "ArithmeticError", false), ("InvalidKnots", "ValueError", true), ("InvalidKnots", "LookupError", false), ("InvalidKnots", "ArithmeticError", false), ("InvalidDegree", "ValueError", true), ("InvalidDegree", "LookupError", false), ("InvalidDegree", "ArithmeticError", false), ("Frame", "int", false), ("Frame", "bool", false), ("Frame", "tuple", false), ("Frame", "str", false), ("Frame", "list", false)]
def subT : List (Str × Str × Bool) := [("InvalidPlaces", "NotKnown", false), ("InvalidPlaces", "NotPossible", false), ("InvalidPlaces", "NotRight", true), ("NotAFrame", "NotKnown", false), ("NotAFrame", "NotPossible", false), ("NotAFrame", "NotRight", true), ("InvalidKnots", "NotKnown", false), ("InvalidKnots", "NotPossible", false), ("InvalidKnots", "NotRight", true), ("InvalidDegree", "NotKnown", false), ("InvalidDegree", "NotPossible", false), ("InvalidDegree", "NotRight", true)]
def tabT : Tab := ⟨["Frame"], ["InvalidPlaces", "NotAFrame", "InvalidKnots", "InvalidDegree"], isaOf ooT obT ["Frame"]⟩
def fldT : List (Str × Str) := [("Frame", "parts")]
def xfT : List (Str × Str) := [("InvalidPlaces", "index"), ("NotAFrame", "given"), ("InvalidKnots", "index"), ("InvalidDegree", "given")]
section
variable {P : Program} {w : World} {K : PySem.W.Frag} {mg : Str → Option Value} {base : Heap}
/-- _law_mug -/
abbrev s_l_mug : Stmt := topS 50
def m_l_mug : Sm := (mSeq (mSet 2 (mIf (mB (mOp ltD (mVar 1) (mCall lenD (mCons (mVar 0) mNil)))) (mCall toIntD (mCons (mOp ixD (mVar 0) (mVar 1)) mNil)) (mOp addD (mOp mulD (mC (.int 59)) (mVar 1)) (mC (.int 13)))))
  (mSeq (mSet 3 (mOp addD (mC (.int 30011)) (mOp mulD (mC (.int 811)) (mVar 1))))
  (mSeq (mFor (mItems (mSlice sliceD (mVar 0) mNoPart (mPart (mC (.int 8))))) (.nm 4) (mSet 3 (mOp modD (mCall toIntD (mCons (mOp addD (mOp addD (mOp mulD (mVar 3) (mC (.int 39373))) (mOp modD (mCall toIntD (mCons (mVar 4) mNil)) (mC (.int 999959)))) (mVar 1)) mNil)) (mC (.int 2147483563)))))
  (mSeq (mSet 3 (mOp modD (mCall toIntD (mCons (mOp addD (mOp mulD (mVar 3) (mC (.int 39373))) (mOp modD (mCall toIntD (mCons (mVar 2) mNil)) (mC (.int 999959)))) mNil)) (mC (.int 2147483563))))
  (mRet (mCell (mLst (mCons (mIf (mB (mOp geD (mCall absD (mCons (mVar 2) mNil)) (mOp powD (mC (.int 10)) (mC (.int 18))))) (mCall absD (mCons (mVar 2) mNil)) (mC (.int 0))) (mCons (mVar 3) (mCons (mC (.int 0)) mNil))))))))))
def f_l_mug : Fn := mDef 5 m_l_mug

/-- Frame.hills -/
abbrev s_c_Frame_hills : Stmt := match topS 35 with
  | .ClassDef _ _ _ b _ _ _ _ _ _ _ => b.getD 4 (.Pass ⟨0, 0, 0, 0⟩)
  | _ => .Pass ⟨0, 0, 0, 0⟩
def m_c_Frame_hills : Sm := (mRet (mOp subD (mOp subD (mCall lenD (mCons (mOp ixD (mUn (fldD fldT "parts") (mVar 0)) (mC (.int 1))) mNil)) (mOp ixD (mUn (fldD fldT "parts") (mVar 0)) (mC (.int 0)))) (mC (.int 1))))
def f_c_Frame_hills : Fn := mDef 1 m_c_Frame_hills

/-- Frame.degree -/
abbrev s_c_Frame_degree : Stmt := match topS 35 with
  | .ClassDef _ _ _ b _ _ _ _ _ _ _ => b.getD 2 (.Pass ⟨0, 0, 0, 0⟩)
  | _ => .Pass ⟨0, 0, 0, 0⟩
def m_c_Frame_degree : Sm := (mRet (mOp ixD (mUn (fldD fldT "parts") (mVar 0)) (mC (.int 0))))
def f_c_Frame_degree : Fn := mDef 1 m_c_Frame_degree

/-- Frame.knots -/
abbrev s_c_Frame_knots : Stmt := match topS 35 with
  | .ClassDef _ _ _ b _ _ _ _ _ _ _ => b.getD 3 (.Pass ⟨0, 0, 0, 0⟩)
  | _ => .Pass ⟨0, 0, 0, 0⟩
def m_c_Frame_knots : Sm := (mRet (mOp ixD (mUn (fldD fldT "parts") (mVar 0)) (mC (.int 1))))
def f_c_Frame_knots : Fn := mDef 1 m_c_Frame_knots

/-- is_up -/
abbrev s_p_is_up : Stmt := topS 38
def m_p_is_up : Sm := (mSeq (mPar2 3 4 (mCons (mProp "Frame" f_c_Frame_knots (mVar 0)) (mCons (mProp "Frame" f_c_Frame_degree (mVar 0)) mNil)))
  (mSeq (mIfS (mB (mChain ltD ltD (mOp ixD (mVar 3) (mVar 1)) (mVar 2) (mOp ixD (mVar 3) (mOp addD (mOp addD (mVar 1) (mVar 4)) (mC (.int 1)))))) (mRet (mC (.bl true))) mSkip)
  (mSeq (mIfS (mAnd (mB (mOp eqD (mVar 2) (mOp ixD (mVar 3) (mVar 1)))) (mB (mOp eqD (mVar 2) (mOp ixD (mVar 3) (mOp addD (mVar 1) (mVar 4)))))) (mRet (mC (.bl true))) mSkip)
  (mRet (mAndV (mOp eqD (mVar 2) (mOp ixD (mVar 3) (mUn negD (mC (.int 1))))) (mOp eqD (mVar 2) (mOp ixD (mVar 3) (mOp addD (mVar 1) (mC (.int 1))))))))))
def f_p_is_up : Fn := mDef 5 m_p_is_up

/-- lengths_from -/
abbrev s_p_lengths_from : Stmt := topS 40
def m_p_lengths_from : Sm := (mSeq (mUnp (.tp [(.nm 2), (.nm 3)]) (mTup (mCons (mProp "Frame" f_c_Frame_hills (mVar 0)) (mCons (mCall lenD (mCons (mVar 1) mNil)) mNil))))
  (mSeq (mSet 4 (mFr (mComp (mRange1 (mCons (mOp addD (mVar 2) (mC (.int 1))) mNil)) [5] (.nm 5) mYes (mCell (mComp (mRange1 (mCons (mOp addD (mVar 3) (mC (.int 1))) mNil)) [6] (.nm 6) mYes (mC (.int 0)))))))
  (mSeq (mFor (mRangeB (mCons (mOp subD (mVar 2) (mC (.int 1))) (mCons (mUn negD (mC (.int 1))) (mCons (mUn negD (mC (.int 1))) mNil)))) (.nm 5) (mFor (mRangeB (mCons (mOp subD (mVar 3) (mC (.int 1))) (mCons (mUn negD (mC (.int 1))) (mCons (mUn negD (mC (.int 1))) mNil)))) (.nm 6) (mSeq (mSet 7 (mCall maxD (mCons (mOp ixD (mOp ixD (mVar 4) (mOp addD (mVar 5) (mC (.int 1)))) (mVar 6)) (mCons (mOp ixD (mOp ixD (mVar 4) (mVar 5)) (mOp addD (mVar 6) (mC (.int 1)))) mNil))))
  (mSeq (mIfS (mB (mFn 3 f_p_is_up (mCons (mVar 0) (mCons (mVar 5) (mCons (mOp ixD (mVar 1) (mVar 6)) mNil))))) (mSet 7 (mCall maxD (mCons (mVar 7) (mCons (mOp addD (mOp ixD (mOp ixD (mVar 4) (mOp addD (mVar 5) (mC (.int 1)))) (mOp addD (mVar 6) (mC (.int 1)))) (mC (.int 1))) mNil)))) mSkip)
  (mAsg (mVar 7) (gSubC (mOp ixD (mVar 4) (mVar 5)) (mVar 6)))))))
  (mRet (mVar 4)))))
def f_p_lengths_from : Fn := mDef 8 m_p_lengths_from

/-- rank_of -/
abbrev s_p_rank_of : Stmt := topS 41
def m_p_rank_of : Sm := (mRet (mOp ixD (mOp ixD (mFn 2 f_p_lengths_from (mCons (mVar 0) (mCons (mVar 1) mNil))) (mC (.int 0))) (mC (.int 0))))
def f_p_rank_of : Fn := mDef 2 m_p_rank_of

/-- is_integer -/
abbrev s_p_is_integer : Stmt := topS 26
def m_p_is_integer : Sm := (mRet (mAndV (mCall (isAD tabT) (mCons (mVar 0) (mCons (mC (.ty "int")) mNil))) (mNotV (mCall (isAD tabT) (mCons (mVar 0) (mCons (mC (.ty "bool")) mNil))))))
def f_p_is_integer : Fn := mDef 1 m_p_is_integer

/-- is_between -/
abbrev s_p_is_between : Stmt := topS 27
def m_p_is_between : Sm := (mRet (mAndV (mFn 1 f_p_is_integer (mCons (mVar 0) mNil)) (mChain leD leD (mVar 1) (mVar 0) (mVar 2))))
def f_p_is_between : Fn := mDef 3 m_p_is_between

/-- is_place -/
abbrev s_p_is_place : Stmt := topS 29
def m_p_is_place : Sm := (mRet (mFn 3 f_p_is_between (mCons (mVar 0) (mCons (mC (.int 0)) (mCons (mC (.int 1000000)) mNil)))))
def f_p_is_place : Fn := mDef 1 m_p_is_place

/-- places_fault -/
abbrev s_p_places_fault : Stmt := topS 30
def m_p_places_fault : Sm := (mSeq (mIfS (mOr (mNot (mB (mCall (isAD tabT) (mCons (mVar 0) (mCons (mC (.ty "tuple")) mNil))))) (mB (mOp eqL (mVar 0) (mTup mNil)))) (mRet (mC .non)) mSkip)
  (mSeq (mFor (mEnum (mCons (mVar 0) mNil)) (.tp [(.nm 1), (.nm 2)]) (mIfS (mOr (mB (mOp eqD (mVar 1) (mC (.int 12)))) (mOr (mNot (mB (mFn 1 f_p_is_place (mCons (mVar 2) mNil)))) (mAnd (mB (mOp gtD (mVar 1) (mC (.int 0)))) (mB (mOp leD (mVar 2) (mOp ixD (mVar 0) (mOp subD (mVar 1) (mC (.int 1))))))))) (mRet (mVar 1)) mSkip))
  (mRet (mUn negD (mC (.int 1))))))
def f_p_places_fault : Fn := mDef 3 m_p_places_fault

/-- check_places -/
abbrev s_p_check_places : Stmt := topS 31
def m_p_check_places : Sm := (mIfS (mB (mOp neD (mFn 1 f_p_places_fault (mCons (mVar 0) mNil)) (mUn negD (mC (.int 1))))) (mRaise "InvalidPlaces" "index" (mFn 1 f_p_places_fault (mCons (mVar 0) mNil))) mSkip)
def f_p_check_places : Fn := mDef 1 m_p_check_places

/-- check_frame -/
abbrev s_p_check_frame : Stmt := topS 36
def m_p_check_frame : Sm := (mIfS (mNot (mB (mCall (isAD tabT) (mCons (mVar 0) (mCons (mC (.cls "Frame")) mNil))))) (mRaise "NotAFrame" "given" (mVar 0)) mSkip)
def f_p_check_frame : Fn := mDef 1 m_p_check_frame

/-- check_both -/
abbrev s_p_check_both : Stmt := topS 43
def m_p_check_both : Sm := (mSeq (mExpr (mFn 1 f_p_check_frame (mCons (mVar 0) mNil)))
  (mExpr (mFn 1 f_p_check_places (mCons (mVar 1) mNil))))
def f_p_check_both : Fn := mDef 2 m_p_check_both

/-- rank -/
abbrev s_p_rank : Stmt := topS 44
def m_p_rank : Sm := (mSeq (mExpr (mFn 2 f_p_check_both (mCons (mVar 0) (mCons (mVar 1) mNil))))
  (mRet (mFn 2 f_p_rank_of (mCons (mVar 0) (mCons (mVar 1) mNil)))))
def f_p_rank : Fn := mDef 2 m_p_rank

/-- pairs_of -/
abbrev s_p_pairs_of : Stmt := topS 42
def m_p_pairs_of : Sm := (mSeq (mParO 2 3 (mFn 2 f_p_lengths_from (mCons (mVar 0) (mCons (mVar 1) mNil))) (mLst mNil))
  (mSeq (mUnp (.tp [(.nm 4), (.nm 5)]) (mTup (mCons (mC (.int 0)) (mCons (mC (.int 0)) mNil))))
  (mSeq (whileN (mB (mOp gtD (mOp ixD (mOp ixD (mVar 2) (mVar 4)) (mVar 5)) (mC (.int 0)))) (mSeq (mSet 6 (mFr (mComp (mRange2 (mCons (mVar 5) (mCons (mCall lenD (mCons (mVar 1) mNil)) mNil))) [8] (.nm 8) (mB (mFn 3 f_p_is_up (mCons (mVar 0) (mCons (mVar 4) (mCons (mOp ixD (mVar 1) (mVar 8)) mNil))))) (mVar 8))))
  (mSeq (mSet 7 (mFr (mComp (mItems (mVar 6)) [8] (.nm 8) (mB (mOp eqD (mOp addD (mOp ixD (mOp ixD (mVar 2) (mOp addD (mVar 4) (mC (.int 1)))) (mOp addD (mVar 8) (mC (.int 1)))) (mC (.int 1))) (mOp ixD (mOp ixD (mVar 2) (mVar 4)) (mVar 5)))) (mVar 8))))
  (mSeq (mIfS (mB (mOp neD (mVar 7) (mFr (mLst mNil)))) (mSeq (mApp 3 (mTup (mCons (mVar 4) (mCons (mOp ixD (mVar 7) (mC (.int 0))) mNil))))
  (mSet 5 (mOp addD (mOp ixD (mVar 7) (mC (.int 0))) (mC (.int 1))))) mSkip)
  (mInc 4 (mC (.int 1)))))) 100000)
  (mFz 3 (mRet (mCall tupleD (mCons (mVar 3) mNil)))))))
def f_p_pairs_of : Fn := mDef 9 m_p_pairs_of

/-- matching -/
abbrev s_p_matching : Stmt := topS 45
def m_p_matching : Sm := (mSeq (mExpr (mFn 2 f_p_check_both (mCons (mVar 0) (mCons (mVar 1) mNil))))
  (mRet (mFn 2 f_p_pairs_of (mCons (mVar 0) (mCons (mVar 1) mNil)))))
def f_p_matching : Fn := mDef 2 m_p_matching

/-- all_met -/
abbrev s_p_all_met : Stmt := topS 46
def m_p_all_met : Sm := (mRet (mOp eqD (mFn 2 f_p_rank (mCons (mVar 0) (mCons (mVar 1) mNil))) (mCall lenD (mCons (mVar 1) mNil))))
def f_p_all_met : Fn := mDef 2 m_p_all_met

/-- one_at_most -/
abbrev s_p_one_at_most : Stmt := topS 47
def m_p_one_at_most : Sm := (mRet (mOp eqD (mFn 2 f_p_rank (mCons (mVar 0) (mCons (mVar 1) mNil))) (mProp "Frame" f_c_Frame_hills (mVar 0))))
def f_p_one_at_most : Fn := mDef 2 m_p_one_at_most

/-- just_one -/
abbrev s_p_just_one : Stmt := topS 48
def m_p_just_one : Sm := (mRet (mChain eqD eqD (mFn 2 f_p_rank (mCons (mVar 0) (mCons (mVar 1) mNil))) (mCall lenD (mCons (mVar 1) mNil)) (mProp "Frame" f_c_Frame_hills (mVar 0))))
def f_p_just_one : Fn := mDef 2 m_p_just_one

/-- _law_sip -/
abbrev s_l_sip : Stmt := topS 51
def m_l_sip : Sm := (mSeq (mAsg (mOp addD (mOp ixD (mVar 0) (mC (.int 2))) (mC (.int 1))) (gSubC (mVar 0) (mC (.int 2))))
  (mSeq (mIfS (mB (mOp gtD (mOp ixD (mVar 0) (mC (.int 0))) (mC (.int 0)))) (mSeq (mSet 2 (mOp modD (mCall toIntD (mCons (mOp ixD (mVar 0) (mC (.int 0))) mNil)) (mVar 1)))
  (mSeq (mAsg (mOp divD (mCall toIntD (mCons (mOp ixD (mVar 0) (mC (.int 0))) mNil)) (mVar 1)) (gSubC (mVar 0) (mC (.int 0))))
  (mRet (mVar 2)))) mSkip)
  (mSeq (mAsg (mOp modD (mCall toIntD (mCons (mOp addD (mOp addD (mOp mulD (mOp ixD (mVar 0) (mC (.int 1))) (mC (.int 39373))) (mOp mulD (mC (.int 2003)) (mOp ixD (mVar 0) (mC (.int 2))))) (mC (.int 31))) mNil)) (mC (.int 2147483563))) (gSubC (mVar 0) (mC (.int 1))))
  (mRet (mOp modD (mCall toIntD (mCons (mOp divD (mOp ixD (mVar 0) (mC (.int 1))) (mC (.int 128))) mNil)) (mVar 1))))))
def f_l_sip : Fn := mDef 3 m_l_sip

/-- _law_pick -/
abbrev s_l_pick : Stmt := topS 52
def m_l_pick : Sm := (mRet (mOp ixD (mVar 1) (mFn 2 f_l_sip (mCons (mVar 0) (mCons (mCall lenD (mCons (mVar 1) mNil)) mNil)))))
def f_l_pick : Fn := mDef 2 m_l_pick

/-- _law_draft -/
abbrev s_l_draft : Stmt := topS 53
def m_l_draft : Sm := (mSeq (mUnp (.tp [(.nm 3), (.nm 4)]) (mTup (mCons (mFn 2 f_l_pick (mCons (mVar 0) (mCons (mFr (mLst (mCons (mC (.int 0)) (mCons (mC (.int 1)) (mCons (mC (.int 1)) (mCons (mC (.int 2)) (mCons (mC (.int 2)) (mCons (mC (.int 3)) (mCons (mC (.int 4)) mNil))))))))) mNil))) (mCons (mOp addD (mC (.int 1)) (mFn 2 f_l_sip (mCons (mVar 0) (mCons (mVar 1) mNil)))) mNil))))
  (mSeq (mSet 5 (mCall sortedD (mCons (mFr (mComp (mRange1 (mCons (mOp addD (mOp addD (mVar 4) (mVar 3)) (mC (.int 1))) mNil)) [6] (.nm 6) mYes (mFn 2 f_l_sip (mCons (mVar 0) (mCons (mOp addD (mVar 2) (mC (.int 1))) mNil))))) mNil)))
  (mSeq (mIfS (mAnd (mB (mOp eqD (mFn 2 f_l_sip (mCons (mVar 0) (mCons (mC (.int 3)) mNil))) (mC (.int 0)))) (mB (mOp gtD (mVar 4) (mVar 3)))) (mSet 5 (mOp addD (mOp addD (mOp mulD (mFr (mLst (mCons (mOp ixD (mVar 5) (mC (.int 0))) mNil))) (mOp addD (mVar 3) (mC (.int 1)))) (mSlice sliceD (mVar 5) (mPart (mOp addD (mVar 3) (mC (.int 1)))) (mPart (mVar 4)))) (mOp mulD (mFr (mLst (mCons (mOp ixD (mVar 5) (mUn negD (mC (.int 1)))) mNil))) (mOp addD (mVar 3) (mC (.int 1)))))) mSkip)
  (mSeq (whileN (mB (mOp neD (mFr (mComp (mRange1 (mCons (mOp subD (mOp subD (mCall lenD (mCons (mVar 5) mNil)) (mVar 3)) (mC (.int 1))) mNil)) [6] (.nm 6) (mB (mOp eqD (mOp ixD (mVar 5) (mVar 6)) (mOp ixD (mVar 5) (mOp addD (mOp addD (mVar 6) (mVar 3)) (mC (.int 1)))))) (mVar 6))) (mFr (mLst mNil)))) (mSeq (mSet 6 (mOp ixD (mFr (mComp (mRange1 (mCons (mOp subD (mOp subD (mCall lenD (mCons (mVar 5) mNil)) (mVar 3)) (mC (.int 1))) mNil)) [6] (.nm 6) (mB (mOp eqD (mOp ixD (mVar 5) (mVar 6)) (mOp ixD (mVar 5) (mOp addD (mOp addD (mVar 6) (mVar 3)) (mC (.int 1)))))) (mVar 6))) (mC (.int 0))))
  (mSet 5 (mOp addD (mSlice sliceD (mVar 5) mNoPart (mPart (mOp addD (mOp addD (mVar 6) (mVar 3)) (mC (.int 1))))) (mFr (mComp (mItems (mSlice sliceD (mVar 5) (mPart (mOp addD (mOp addD (mVar 6) (mVar 3)) (mC (.int 1)))) mNoPart)) [7] (.nm 7) mYes (mOp addD (mVar 7) (mC (.int 1)))))))) 100000)
  (mRet (mFr (mLst (mCons (mVar 3) (mCons (mCall tupleD (mCons (mVar 5) mNil)) mNil)))))))))
def f_l_draft : Fn := mDef 8 m_l_draft

/-- knots_fault -/
abbrev s_p_knots_fault : Stmt := topS 34
def m_p_knots_fault : Sm := (mSeq (mIfS (mOr (mNot (mB (mCall (isAD tabT) (mCons (mVar 1) (mCons (mC (.ty "tuple")) mNil))))) (mB (mOp ltD (mCall lenD (mCons (mVar 1) mNil)) (mOp addD (mVar 0) (mC (.int 2)))))) (mRet (mC .non)) mSkip)
  (mSeq (mFor (mEnum (mCons (mVar 1) mNil)) (.tp [(.nm 2), (.nm 3)]) (mSeq (mIfS (mOr (mB (mOp eqD (mVar 2) (mOp addD (mOp addD (mVar 0) (mC (.int 1))) (mC (.int 10))))) (mNot (mB (mFn 3 f_p_is_between (mCons (mVar 3) (mCons (mC (.int 0)) (mCons (mC (.int 1000000)) mNil))))))) (mRet (mVar 2)) mSkip)
  (mSeq (mIfS (mAnd (mB (mOp gtD (mVar 2) (mC (.int 0)))) (mB (mOp ltD (mVar 3) (mOp ixD (mVar 1) (mOp subD (mVar 2) (mC (.int 1))))))) (mRet (mVar 2)) mSkip)
  (mIfS (mAnd (mB (mOp gtD (mVar 2) (mVar 0))) (mB (mOp eqD (mOp ixD (mVar 1) (mOp subD (mOp subD (mVar 2) (mVar 0)) (mC (.int 1)))) (mVar 3)))) (mRet (mVar 2)) mSkip))))
  (mRet (mUn negD (mC (.int 1))))))
def f_p_knots_fault : Fn := mDef 4 m_p_knots_fault

/-- Frame.__init__ -/
abbrev s_c_Frame___init__ : Stmt := match topS 35 with
  | .ClassDef _ _ _ b _ _ _ _ _ _ _ => b.getD 0 (.Pass ⟨0, 0, 0, 0⟩)
  | _ => .Pass ⟨0, 0, 0, 0⟩
def m_c_Frame___init__ : Sm := (mSeq (mIfS (mNot (mB (mFn 3 f_p_is_between (mCons (mVar 1) (mCons (mC (.int 0)) (mCons (mC (.int 4)) mNil)))))) (mRaise "InvalidDegree" "given" (mVar 1)) mSkip)
  (mSeq (mIfS (mB (mOp neD (mFn 2 f_p_knots_fault (mCons (mVar 1) (mCons (mVar 2) mNil))) (mUn negD (mC (.int 1))))) (mRaise "InvalidKnots" "index" (mFn 2 f_p_knots_fault (mCons (mVar 1) (mCons (mVar 2) mNil)))) mSkip)
  (mSetF fldT "parts" (mTup (mCons (mVar 1) (mCons (mVar 2) mNil))) (mVar 0))))
def f_c_Frame___init__ : Fn := mDef 3 m_c_Frame___init__

/-- _law_made -/
abbrev s_l_made : Stmt := topS 54
def m_l_made : Sm := (mRet (mMake "Frame" true 3 f_c_Frame___init__ (mCons (mOp ixD (mVar 0) (mC (.int 0))) (mCons (mOp ixD (mVar 0) (mC (.int 1))) mNil))))
def f_l_made : Fn := mDef 1 m_l_made

/-- _law_sites -/
abbrev s_l_sites : Stmt := topS 55
def m_l_sites : Sm := (mSeq (mUnp (.tp [(.nm 3), (.nm 4)]) (mTup (mCons (mOp ixD (mOp ixD (mVar 1) (mC (.int 1))) (mC (.int 0))) (mCons (mOp ixD (mOp ixD (mVar 1) (mC (.int 1))) (mUn negD (mC (.int 1)))) mNil))))
  (mSeq (mSet 5 (mOp addD (mOp addD (mCall listD (mCons (mOp ixD (mVar 1) (mC (.int 1))) mNil)) (mFr (mLst (mCons (mCall maxD (mCons (mC (.int 0)) (mCons (mOp subD (mVar 3) (mC (.int 1))) mNil))) (mCons (mOp addD (mVar 4) (mC (.int 1))) mNil))))) (mFr (mComp (mRange1 (mCons (mVar 2) mNil)) [7] (.nm 7) mYes (mOp addD (mVar 3) (mFn 2 f_l_sip (mCons (mVar 0) (mCons (mOp addD (mOp subD (mVar 4) (mVar 3)) (mC (.int 1))) mNil))))))))
  (mSeq (mSet 6 (mFr (mComp (mRange1 (mCons (mOp addD (mC (.int 1)) (mFn 2 f_l_sip (mCons (mVar 0) (mCons (mVar 2) mNil)))) mNil)) [7] (.nm 7) mYes (mOp addD (mFn 2 f_l_pick (mCons (mVar 0) (mCons (mVar 5) mNil))) (mFn 2 f_l_pick (mCons (mVar 0) (mCons (mFr (mLst (mCons (mC (.int 0)) (mCons (mC (.int 0)) (mCons (mC (.int 0)) (mCons (mC (.int 1)) mNil)))))) mNil)))))))
  (mRet (mCall tupleD (mCons (mFr (mUniA (mVar 6))) mNil))))))
def f_l_sites : Fn := mDef 8 m_l_sites

/-- _law_is_number -/
abbrev s_l_is_number : Stmt := topS 56
def m_l_is_number : Sm := (mRet (mAndV (mCall (isAD tabT) (mCons (mVar 0) (mCons (mC (.ty "int")) mNil))) (mAndV (mNotV (mCall (isAD tabT) (mCons (mVar 0) (mCons (mC (.ty "bool")) mNil)))) (mChain leD leD (mVar 1) (mVar 0) (mVar 2)))))
def f_l_is_number : Fn := mDef 3 m_l_is_number

/-- _law_wrong_sites -/
abbrev s_l_wrong_sites : Stmt := topS 57
def m_l_wrong_sites : Sm := (mSeq (mIfS (mOr (mNot (mB (mCall (isAD tabT) (mCons (mVar 0) (mCons (mC (.ty "tuple")) mNil))))) (mB (mOp eqL (mVar 0) (mTup mNil)))) (mRet (mFr (mLst (mCons (mC .non) mNil)))) mSkip)
  (mSeq (mFor (mRange1 (mCons (mCall lenD (mCons (mVar 0) mNil)) mNil)) (.nm 1) (mIfS (mOr (mB (mOp eqD (mVar 1) (mC (.int 12)))) (mOr (mNot (mB (mFn 3 f_l_is_number (mCons (mOp ixD (mVar 0) (mVar 1)) (mCons (mC (.int 0)) (mCons (mOp powD (mC (.int 10)) (mC (.int 6))) mNil)))))) (mAnd (mB (mOp gtD (mVar 1) (mC (.int 0)))) (mB (mOp leD (mOp ixD (mVar 0) (mVar 1)) (mOp ixD (mVar 0) (mOp subD (mVar 1) (mC (.int 1))))))))) (mRet (mFr (mLst (mCons (mVar 1) mNil)))) mSkip))
  (mRet (mFr (mLst mNil)))))
def f_l_wrong_sites : Fn := mDef 2 m_l_wrong_sites

/-- _law_odd -/
abbrev s_l_odd : Stmt := topS 58
def m_l_odd : Sm := (mSeq (mSet 1 (mFr (mLst (mCons (mC .non) (mCons (mC (.bl true)) (mCons (mC (.bl false)) (mCons (mC (.int 0)) (mCons (mC (.int 1)) (mCons (mUn negD (mC (.int 1))) (mCons (mC (.int 2)) (mCons (mOp powD (mC (.int 10)) (mC (.int 6))) (mCons (mOp addD (mOp powD (mC (.int 10)) (mC (.int 6))) (mC (.int 1))) (mCons (mOp addD (mOp powD (mC (.int 10)) (mC (.int 20))) (mC (.int 1))) (mCons (mC (.str "")) (mCons (mC (.str "degree 1 knots 0 2 4")) (mCons (mC (.str "1")) (mCons (mTup mNil) (mCons (mTup (mCons (mC (.int 0)) mNil)) mNil))))))))))))))))))
  (mSeq (mSet 1 (mOp addD (mVar 1) (mFr (mLst (mCons (mTup (mCons (mC (.int 1)) (mCons (mC (.int 5)) mNil))) (mCons (mTup (mCons (mC (.int 5)) (mCons (mC (.int 1)) mNil))) (mCons (mTup (mCons (mC (.int 1)) (mCons (mC (.int 1)) mNil))) (mCons (mFr (mLst (mCons (mC (.int 1)) (mCons (mC (.int 5)) mNil)))) (mCons (mC (.dct [] [])) (mCons (mTup (mCons (mC (.bl true)) (mCons (mC (.int 2)) mNil))) (mCons (mTup (mCons (mC (.int 0)) (mCons (mC (.str "1")) mNil))) (mCons (mTup (mCons (mUn negD (mC (.int 1))) (mCons (mC (.int 2)) mNil))) (mCons (mTup (mCons (mC (.int 0)) (mCons (mOp addD (mOp powD (mC (.int 10)) (mC (.int 6))) (mC (.int 1))) mNil))) (mCons (mTup (mCons (mTup (mCons (mC (.int 1)) (mCons (mC (.int 1)) mNil))) mNil)) (mCons (mTup (mCons (mC .non) mNil)) mNil)))))))))))))))
  (mRet (mOp ixD (mVar 1) (mFn 2 f_l_sip (mCons (mVar 0) (mCons (mCall lenD (mCons (mVar 1) mNil)) mNil)))))))
def f_l_odd : Fn := mDef 2 m_l_odd

/-- _law_class -/
abbrev s_l_class : Stmt := topS 60
def m_l_class : Sm := (mSeq (mSet 1 (mFr (mLst (mCons (mFr (mLst (mCons (mC (.str "text")) (mCons (mCall (isAD tabT) (mCons (mVar 0) (mCons (mC (.cls "InvalidText")) mNil))) mNil)))) (mCons (mFr (mLst (mCons (mC (.str "number")) (mCons (mCall (isAD tabT) (mCons (mVar 0) (mCons (mC (.cls "InvalidNumber")) mNil))) mNil)))) mNil)))))
  (mSeq (mSet 1 (mOp addD (mVar 1) (mFr (mLst (mCons (mFr (mLst (mCons (mC (.str "degree")) (mCons (mCall (isAD tabT) (mCons (mVar 0) (mCons (mC (.cls "InvalidDegree")) mNil))) mNil)))) (mCons (mFr (mLst (mCons (mC (.str "knots")) (mCons (mCall (isAD tabT) (mCons (mVar 0) (mCons (mC (.cls "InvalidKnots")) mNil))) mNil)))) mNil))))))
  (mSeq (mSet 1 (mOp addD (mVar 1) (mFr (mLst (mCons (mFr (mLst (mCons (mC (.str "frame")) (mCons (mCall (isAD tabT) (mCons (mVar 0) (mCons (mC (.cls "NotAFrame")) mNil))) mNil)))) (mCons (mFr (mLst (mCons (mC (.str "curve")) (mCons (mCall (isAD tabT) (mCons (mVar 0) (mCons (mC (.cls "NotACurve")) mNil))) mNil)))) mNil))))))
  (mSeq (mSet 1 (mOp addD (mVar 1) (mFr (mLst (mCons (mFr (mLst (mCons (mC (.str "amounts")) (mCons (mCall (isAD tabT) (mCons (mVar 0) (mCons (mC (.cls "InvalidAmounts")) mNil))) mNil)))) (mCons (mFr (mLst (mCons (mC (.str "places")) (mCons (mCall (isAD tabT) (mCons (mVar 0) (mCons (mC (.cls "InvalidPlaces")) mNil))) mNil)))) mNil))))))
  (mSeq (mSet 1 (mOp addD (mVar 1) (mFr (mLst (mCons (mFr (mLst (mCons (mC (.str "heights")) (mCons (mCall (isAD tabT) (mCons (mVar 0) (mCons (mC (.cls "InvalidHeights")) mNil))) mNil)))) (mCons (mFr (mLst (mCons (mC (.str "index")) (mCons (mCall (isAD tabT) (mCons (mVar 0) (mCons (mC (.cls "InvalidIndex")) mNil))) mNil)))) mNil))))))
  (mSeq (mSet 1 (mOp addD (mVar 1) (mFr (mLst (mCons (mFr (mLst (mCons (mC (.str "knot")) (mCons (mCall (isAD tabT) (mCons (mVar 0) (mCons (mC (.cls "InvalidKnot")) mNil))) mNil)))) (mCons (mFr (mLst (mCons (mC (.str "offers")) (mCons (mCall (isAD tabT) (mCons (mVar 0) (mCons (mC (.cls "InvalidOffers")) mNil))) mNil)))) mNil))))))
  (mSeq (mSet 1 (mOp addD (mVar 1) (mFr (mLst (mCons (mFr (mLst (mCons (mC (.str "one")) (mCons (mCall (isAD tabT) (mCons (mVar 0) (mCons (mC (.cls "NotOne")) mNil))) mNil)))) (mCons (mFr (mLst (mCons (mC (.str "many")) (mCons (mCall (isAD tabT) (mCons (mVar 0) (mCons (mC (.cls "TooMany")) mNil))) mNil)))) (mCons (mFr (mLst (mCons (mC (.str "broken")) (mCons (mCall (isAD tabT) (mCons (mVar 0) (mCons (mC (.cls "Broken")) mNil))) mNil)))) mNil)))))))
  (mSeq (mSetO 2 (mComp (mLs (mVar 1)) [3, 4] (.tp [(.nm 3), (.nm 4)]) (mB (mVar 4)) (mVar 3)))
  (mFz 2 (mRet (mIf (mB (mOp eqD (mCall lenD (mCons (mVar 2) mNil)) (mC (.int 1)))) (mOp ixD (mVar 2) (mC (.int 0))) (mC (.str "odd")))))))))))))
def f_l_class : Fn := mDef 5 m_l_class

/-- _law_field -/
abbrev s_l_field : Stmt := topS 61
def m_l_field : Sm := (mSeq (mIfS (mB (mCall (isAD tabT) (mCons (mVar 0) (mCons (mTup (mCons (mC (.cls "InvalidKnots")) (mCons (mC (.cls "InvalidAmounts")) (mCons (mC (.cls "InvalidPlaces")) (mCons (mC (.cls "InvalidHeights")) (mCons (mC (.cls "InvalidOffers")) (mCons (mC (.cls "Broken")) mNil))))))) mNil)))) (mRet (mUn (xfD xfT "index") (mVar 0))) mSkip)
  (mSeq (mIfS (mB (mCall (isAD tabT) (mCons (mVar 0) (mCons (mC (.cls "NotOne")) mNil)))) (mRet (mUn (xfD xfT "rank") (mVar 0))) mSkip)
  (mRet (mIf (mB (mCall (isAD tabT) (mCons (mVar 0) (mCons (mC (.cls "TooMany")) mNil)))) (mUn (xfD xfT "limit") (mVar 0)) (mUn (xfD xfT "given") (mVar 0))))))
def f_l_field : Fn := mDef 1 m_l_field

/-- _law_error -/
abbrev s_l_error : Stmt := topS 59
def m_l_error (n0 : Nat) (t0 : List Cell → Rs D) : Sm := (mSeq (mTry (subOf subT) (mSet 1 (mThunk n0 t0))
  [(["NotRight", "NotKnown", "NotPossible"], some 2, (mSeq (mSet 3 (mFr (mLst (mCons (mCall (isAD tabT) (mCons (mVar 2) (mCons (mC (.cls "NotRight")) mNil))) (mCons (mCall (isAD tabT) (mCons (mVar 2) (mCons (mC (.cls "NotKnown")) mNil))) (mCons (mCall (isAD tabT) (mCons (mVar 2) (mCons (mC (.cls "NotPossible")) mNil))) mNil))))))
  (mSeq (mSet 4 (mFr (mLst (mCons (mCall (isAD tabT) (mCons (mVar 2) (mCons (mC (.ty "ValueError")) mNil))) (mCons (mCall (isAD tabT) (mCons (mVar 2) (mCons (mC (.ty "LookupError")) mNil))) (mCons (mCall (isAD tabT) (mCons (mVar 2) (mCons (mC (.ty "ArithmeticError")) mNil))) mNil))))))
  (mRet (mFr (mLst (mCons (mIf (mAnd (mB (mOp eqD (mVar 3) (mVar 4))) (mB (mOp eqD (mCntB (mVar 3) (mC (.bl true))) (mC (.int 1))))) (mFn 1 f_l_class (mCons (mVar 2) mNil)) (mC (.str "odd"))) (mCons (mFn 1 f_l_field (mCons (mVar 2) mNil)) mNil))))))))])
  (mRet (mFr (mLst (mCons (mC (.str "told")) (mCons (mVar 1) mNil))))))
def f_l_error (n0 : Nat) (t0 : List Cell → Rs D) : Fn := mDef 5 (m_l_error n0 t0)

/-- _law_ends_right -/
abbrev s_l_ends_right : Stmt := topS 62
def m_l_ends_right : Sm := (mRet (mIf (mB (mOp neL (mVar 1) (mFr (mLst mNil)))) (mOp eqD (mCall repr2D (mCons (mVar 0) mNil)) (mCall repr2D (mCons (mOp ixD (mVar 1) (mC (.int 0))) mNil))) (mOp eqD (mOp ixD (mVar 0) (mC (.int 0))) (mC (.str "told")))))
def f_l_ends_right : Fn := mDef 2 m_l_ends_right

/-- _law_bent -/
abbrev s_l_bent : Stmt := topS 63
def m_l_bent : Sm := (mSeq (mPar2 2 3 (mCons (mFn 2 f_l_sip (mCons (mVar 0) (mCons (mC (.int 8)) mNil))) (mCons (mFn 2 f_l_sip (mCons (mVar 0) (mCons (mOp addD (mCall lenD (mCons (mVar 1) mNil)) (mC (.int 1))) mNil))) mNil)))
  (mSeq (mIfS (mB (mOp ltD (mVar 2) (mC (.int 3)))) (mRet (mOp addD (mOp addD (mSlice sliceD (mVar 1) mNoPart (mPart (mVar 3))) (mTup (mCons (mFn 1 f_l_odd (mCons (mVar 0) mNil)) mNil))) (mSlice sliceD (mVar 1) (mPart (mOp addD (mVar 3) (mFn 2 f_l_sip (mCons (mVar 0) (mCons (mC (.int 2)) mNil))))) mNoPart))) mSkip)
  (mSeq (mIfS (mB (mOp eqD (mVar 2) (mC (.int 3)))) (mRet (mTupRg (mFn 2 f_l_pick (mCons (mVar 0) (mCons (mFr (mLst (mCons (mC (.int 11)) (mCons (mC (.int 12)) (mCons (mC (.int 13)) (mCons (mC (.int 15)) mNil)))))) mNil))))) mSkip)
  (mRet (mIf (mB (mOp eqD (mVar 2) (mC (.int 4)))) (mFn 2 f_l_pick (mCons (mVar 0) (mCons (mFr (mLst (mCons (mCall listD (mCons (mVar 1) mNil)) (mCons (mTup mNil) (mCons (mC .non) (mCons (mOp ixD (mVar 1) (mC (.int 0))) (mCons (mUn revD (mVar 1)) (mCons (mOp addD (mVar 1) (mSlice sliceD (mVar 1) (mPart (mUn negD (mC (.int 1)))) mNoPart)) (mCons (mC (.dct [] [])) mNil))))))))) mNil))) (mVar 1))))))
def f_l_bent : Fn := mDef 4 m_l_bent

/-- _law_right -/
abbrev s_l_right : Stmt := topS 64
def m_l_right (T : Nat → Addr) : Sm := (mSeq (mFor (mRange1 (mCons (mC (.int 7)) mNil)) (.nm 1) (mSeq (mSet 2 (mFn 3 f_l_draft (mCons (mVar 0) (mCons (mC (.int 4)) (mCons (mC (.int 9)) mNil)))))
  (mSeq (mSet 3 (mFn 2 f_l_pick (mCons (mVar 0) (mCons (mFr (mLst (mCons (mFn 1 f_l_made (mCons (mVar 2) mNil)) (mCons (mFn 1 f_l_made (mCons (mVar 2) mNil)) (mCons (mFn 1 f_l_made (mCons (mVar 2) mNil)) (mCons (mFn 1 f_l_odd (mCons (mVar 0) mNil)) mNil)))))) mNil))))
  (mSeq (mSet 4 (mFn 2 f_l_bent (mCons (mVar 0) (mCons (mFn 3 f_l_sites (mCons (mVar 0) (mCons (mVar 2) (mCons (mC (.int 5)) mNil)))) mNil))))
  (mSeq (mSet 5 (mFr (mComp (mRange1 (mCons (mC (.int 1)) mNil)) [7] (.nm 7) (mNot (mB (mCall (isAD tabT) (mCons (mVar 3) (mCons (mC (.cls "Frame")) mNil))))) (mFr (mLst (mCons (mC (.str "frame")) (mCons (mVar 3) mNil)))))))
  (mSeq (mSet 5 (mOp addD (mVar 5) (mFr (mComp (mItems (mFn 1 f_l_wrong_sites (mCons (mVar 4) mNil))) [8] (.nm 8) mYes (mFr (mLst (mCons (mC (.str "places")) (mCons (mVar 8) mNil))))))))
  (mSeq (mSetO 6 (mLst (mCons (mLam 0 (T 0) "_law_right.<locals>.<lambda>" f_l_error
    (mFn 2 f_p_rank (mCons (mVar 3) (mCons (mVar 4) mNil)))) mNil)))
  (mSeq (mApp 6 (mLam 0 (T 0) "_law_right.<locals>.<lambda>" f_l_error
    (mFnK 2 0 2 [1, 0] f_p_matching mNil (mCons (mVar 4) (mCons (mVar 3) mNil)))))
  (mSeq (mApp 6 (mLam 0 (T 0) "_law_right.<locals>.<lambda>" f_l_error
    (mFn 2 f_p_all_met (mCons (mVar 3) (mCons (mVar 4) mNil)))))
  (mSeq (mApp 6 (mLam 0 (T 0) "_law_right.<locals>.<lambda>" f_l_error
    (mFn 2 f_p_one_at_most (mCons (mVar 3) (mCons (mVar 4) mNil)))))
  (mSeq (mApp 6 (mLam 0 (T 0) "_law_right.<locals>.<lambda>" f_l_error
    (mFnK 2 0 2 [0, 1] f_p_just_one mNil (mCons (mVar 3) (mCons (mVar 4) mNil)))))
  (mFz 6 (mIfS (mNot (mB (mCall allD (mCons (mFr (mComp (mItems (mVar 6)) [8] (.nm 8) mYes (mFn 2 f_l_ends_right (mCons (mVar 8) (mCons (mVar 5) mNil))))) mNil)))) (mRet (mC (.bl false))) mSkip)))))))))))))
  (mRet (mC (.bl true))))
def f_l_right (T : Nat → Addr) : Fn := mDef 9 (m_l_right T)

/-- law -/
abbrev s_p_law : Stmt := topS 65
def m_p_law (T : Nat → Addr) : Sm := (mRet (mCall allD (mCons (mFr (mComp (mRange1 (mCons (mCall maxD (mCons (mC (.int 2)) (mCons (mCall minD (mCons (mCall lenD (mCons (mVar 0) mNil)) (mCons (mC (.int 6)) mNil))) mNil))) mNil)) [1] (.nm 1) mYes (mFn 1 (f_l_right T) (mCons (mFn 2 f_l_mug (mCons (mVar 0) (mCons (mVar 1) mNil))) mNil)))) mNil)))
def f_p_law (T : Nat → Addr) : Fn := mDef 2 (m_p_law T)

structure Lf (K : PySem.W.Frag) (mg : Str → Option Value) where
  a_l_mug : Addr
  d_l_mug : FuncData
  F_l_mug : Fun K "_law_mug" "_law_mug" s_l_mug a_l_mug d_l_mug
  m_l_mug : mg "_law_mug" = some (.ref a_l_mug)
  a_c_Frame_hills : Addr
  d_c_Frame_hills : FuncData
  F_c_Frame_hills : Fun K "hills" "Frame.hills" s_c_Frame_hills a_c_Frame_hills d_c_Frame_hills
  a_c_Frame_degree : Addr
  d_c_Frame_degree : FuncData
  F_c_Frame_degree : Fun K "degree" "Frame.degree" s_c_Frame_degree a_c_Frame_degree d_c_Frame_degree
  a_c_Frame_knots : Addr
  d_c_Frame_knots : FuncData
  F_c_Frame_knots : Fun K "knots" "Frame.knots" s_c_Frame_knots a_c_Frame_knots d_c_Frame_knots
  a_p_is_up : Addr
  d_p_is_up : FuncData
  F_p_is_up : Fun K "is_up" "is_up" s_p_is_up a_p_is_up d_p_is_up
  m_p_is_up : mg "is_up" = some (.ref a_p_is_up)
  a_p_lengths_from : Addr
  d_p_lengths_from : FuncData
  F_p_lengths_from : Fun K "lengths_from" "lengths_from" s_p_lengths_from a_p_lengths_from d_p_lengths_from
  m_p_lengths_from : mg "lengths_from" = some (.ref a_p_lengths_from)
  a_p_rank_of : Addr
  d_p_rank_of : FuncData
  F_p_rank_of : Fun K "rank_of" "rank_of" s_p_rank_of a_p_rank_of d_p_rank_of
  m_p_rank_of : mg "rank_of" = some (.ref a_p_rank_of)
  a_p_is_integer : Addr
  d_p_is_integer : FuncData
  F_p_is_integer : Fun K "is_integer" "is_integer" s_p_is_integer a_p_is_integer d_p_is_integer
  m_p_is_integer : mg "is_integer" = some (.ref a_p_is_integer)
  a_p_is_between : Addr
  d_p_is_between : FuncData
  F_p_is_between : Fun K "is_between" "is_between" s_p_is_between a_p_is_between d_p_is_between
  m_p_is_between : mg "is_between" = some (.ref a_p_is_between)
  a_p_is_place : Addr
  d_p_is_place : FuncData
  F_p_is_place : Fun K "is_place" "is_place" s_p_is_place a_p_is_place d_p_is_place
  m_p_is_place : mg "is_place" = some (.ref a_p_is_place)
  a_p_places_fault : Addr
  d_p_places_fault : FuncData
  F_p_places_fault : Fun K "places_fault" "places_fault" s_p_places_fault a_p_places_fault d_p_places_fault
  m_p_places_fault : mg "places_fault" = some (.ref a_p_places_fault)
  a_p_check_places : Addr
  d_p_check_places : FuncData
  F_p_check_places : Fun K "check_places" "check_places" s_p_check_places a_p_check_places d_p_check_places
  m_p_check_places : mg "check_places" = some (.ref a_p_check_places)
  a_p_check_frame : Addr
  d_p_check_frame : FuncData
  F_p_check_frame : Fun K "check_frame" "check_frame" s_p_check_frame a_p_check_frame d_p_check_frame
  m_p_check_frame : mg "check_frame" = some (.ref a_p_check_frame)
  a_p_check_both : Addr
  d_p_check_both : FuncData
  F_p_check_both : Fun K "check_both" "check_both" s_p_check_both a_p_check_both d_p_check_both
  m_p_check_both : mg "check_both" = some (.ref a_p_check_both)
  a_p_rank : Addr
  d_p_rank : FuncData
  F_p_rank : Fun K "rank" "rank" s_p_rank a_p_rank d_p_rank
  m_p_rank : mg "rank" = some (.ref a_p_rank)
  a_p_pairs_of : Addr
  d_p_pairs_of : FuncData
  F_p_pairs_of : Fun K "pairs_of" "pairs_of" s_p_pairs_of a_p_pairs_of d_p_pairs_of
  m_p_pairs_of : mg "pairs_of" = some (.ref a_p_pairs_of)
  a_p_matching : Addr
  d_p_matching : FuncData
  F_p_matching : Fun K "matching" "matching" s_p_matching a_p_matching d_p_matching
  m_p_matching : mg "matching" = some (.ref a_p_matching)
  a_p_all_met : Addr
  d_p_all_met : FuncData
  F_p_all_met : Fun K "all_met" "all_met" s_p_all_met a_p_all_met d_p_all_met
  m_p_all_met : mg "all_met" = some (.ref a_p_all_met)
  a_p_one_at_most : Addr
  d_p_one_at_most : FuncData
  F_p_one_at_most : Fun K "one_at_most" "one_at_most" s_p_one_at_most a_p_one_at_most d_p_one_at_most
  m_p_one_at_most : mg "one_at_most" = some (.ref a_p_one_at_most)
  a_p_just_one : Addr
  d_p_just_one : FuncData
  F_p_just_one : Fun K "just_one" "just_one" s_p_just_one a_p_just_one d_p_just_one
  m_p_just_one : mg "just_one" = some (.ref a_p_just_one)
  a_l_sip : Addr
  d_l_sip : FuncData
  F_l_sip : Fun K "_law_sip" "_law_sip" s_l_sip a_l_sip d_l_sip
  m_l_sip : mg "_law_sip" = some (.ref a_l_sip)
  a_l_pick : Addr
  d_l_pick : FuncData
  F_l_pick : Fun K "_law_pick" "_law_pick" s_l_pick a_l_pick d_l_pick
  m_l_pick : mg "_law_pick" = some (.ref a_l_pick)
  a_l_draft : Addr
  d_l_draft : FuncData
  F_l_draft : Fun K "_law_draft" "_law_draft" s_l_draft a_l_draft d_l_draft
  m_l_draft : mg "_law_draft" = some (.ref a_l_draft)
  a_p_knots_fault : Addr
  d_p_knots_fault : FuncData
  F_p_knots_fault : Fun K "knots_fault" "knots_fault" s_p_knots_fault a_p_knots_fault d_p_knots_fault
  m_p_knots_fault : mg "knots_fault" = some (.ref a_p_knots_fault)
  a_c_Frame___init__ : Addr
  d_c_Frame___init__ : FuncData
  F_c_Frame___init__ : Fun K "__init__" "Frame.__init__" s_c_Frame___init__ a_c_Frame___init__ d_c_Frame___init__
  a_l_made : Addr
  d_l_made : FuncData
  F_l_made : Fun K "_law_made" "_law_made" s_l_made a_l_made d_l_made
  m_l_made : mg "_law_made" = some (.ref a_l_made)
  a_l_sites : Addr
  d_l_sites : FuncData
  F_l_sites : Fun K "_law_sites" "_law_sites" s_l_sites a_l_sites d_l_sites
  m_l_sites : mg "_law_sites" = some (.ref a_l_sites)
  a_l_is_number : Addr
  d_l_is_number : FuncData
  F_l_is_number : Fun K "_law_is_number" "_law_is_number" s_l_is_number a_l_is_number d_l_is_number
  m_l_is_number : mg "_law_is_number" = some (.ref a_l_is_number)
  a_l_wrong_sites : Addr
  d_l_wrong_sites : FuncData
  F_l_wrong_sites : Fun K "_law_wrong_sites" "_law_wrong_sites" s_l_wrong_sites a_l_wrong_sites d_l_wrong_sites
  m_l_wrong_sites : mg "_law_wrong_sites" = some (.ref a_l_wrong_sites)
  a_l_odd : Addr
  d_l_odd : FuncData
  F_l_odd : Fun K "_law_odd" "_law_odd" s_l_odd a_l_odd d_l_odd
  m_l_odd : mg "_law_odd" = some (.ref a_l_odd)
  a_l_class : Addr
  d_l_class : FuncData
  F_l_class : Fun K "_law_class" "_law_class" s_l_class a_l_class d_l_class
  m_l_class : mg "_law_class" = some (.ref a_l_class)
  a_l_field : Addr
  d_l_field : FuncData
  F_l_field : Fun K "_law_field" "_law_field" s_l_field a_l_field d_l_field
  m_l_field : mg "_law_field" = some (.ref a_l_field)
  a_l_error : Addr
  d_l_error : FuncData
  F_l_error : Fun K "_law_error" "_law_error" s_l_error a_l_error d_l_error
  m_l_error : mg "_law_error" = some (.ref a_l_error)
  a_l_ends_right : Addr
  d_l_ends_right : FuncData
  F_l_ends_right : Fun K "_law_ends_right" "_law_ends_right" s_l_ends_right a_l_ends_right d_l_ends_right
  m_l_ends_right : mg "_law_ends_right" = some (.ref a_l_ends_right)
  a_l_bent : Addr
  d_l_bent : FuncData
  F_l_bent : Fun K "_law_bent" "_law_bent" s_l_bent a_l_bent d_l_bent
  m_l_bent : mg "_law_bent" = some (.ref a_l_bent)
  a_l_right : Addr
  d_l_right : FuncData
  F_l_right : Fun K "_law_right" "_law_right" s_l_right a_l_right d_l_right
  m_l_right : mg "_law_right" = some (.ref a_l_right)
  cT_l_right : Addr
  dc_l_right : d_l_right.code = .ref cT_l_right
  a_p_law : Addr
  d_p_law : FuncData
  F_p_law : Fun K "law" "law" s_p_law a_p_law d_p_law
  m_p_law : mg "law" = some (.ref a_p_law)
  z_ArithmeticError : mg "ArithmeticError" = none
  z_LookupError : mg "LookupError" = none
  z_ValueError : mg "ValueError" = none
  z_abs : mg "abs" = none
  z_all : mg "all" = none
  z_bool : mg "bool" = none
  z_enumerate : mg "enumerate" = none
  z_int : mg "int" = none
  z_isinstance : mg "isinstance" = none
  z_len : mg "len" = none
  z_list : mg "list" = none
  z_max : mg "max" = none
  z_min : mg "min" = none
  z_range : mg "range" = none
  z_repr : mg "repr" = none
  z_set : mg "set" = none
  z_sorted : mg "sorted" = none
  z_tuple : mg "tuple" = none
  g_MOST_DEGREE : ∃ t, mg "MOST_DEGREE" = some (.int 4 t)
  g_MOST_HILLS : ∃ t, mg "MOST_HILLS" = some (.int 10 t)
  g_MOST_KNOT : ∃ t, mg "MOST_KNOT" = some (.int 1000000 t)
  g_MOST_PLACES : ∃ t, mg "MOST_PLACES" = some (.int 12 t)
  C_NotRight : Addr
  c_NotRight : mg "NotRight" = some (.ref C_NotRight)
  C_InvalidText : Addr
  c_InvalidText : mg "InvalidText" = some (.ref C_InvalidText)
  C_InvalidNumber : Addr
  c_InvalidNumber : mg "InvalidNumber" = some (.ref C_InvalidNumber)
  C_InvalidIndex : Addr
  c_InvalidIndex : mg "InvalidIndex" = some (.ref C_InvalidIndex)
  C_InvalidDegree : Addr
  c_InvalidDegree : mg "InvalidDegree" = some (.ref C_InvalidDegree)
  C_InvalidKnot : Addr
  c_InvalidKnot : mg "InvalidKnot" = some (.ref C_InvalidKnot)
  C_NotAFrame : Addr
  c_NotAFrame : mg "NotAFrame" = some (.ref C_NotAFrame)
  C_NotACurve : Addr
  c_NotACurve : mg "NotACurve" = some (.ref C_NotACurve)
  C_InvalidKnots : Addr
  c_InvalidKnots : mg "InvalidKnots" = some (.ref C_InvalidKnots)
  C_InvalidAmounts : Addr
  c_InvalidAmounts : mg "InvalidAmounts" = some (.ref C_InvalidAmounts)
  C_InvalidPlaces : Addr
  c_InvalidPlaces : mg "InvalidPlaces" = some (.ref C_InvalidPlaces)
  C_InvalidHeights : Addr
  c_InvalidHeights : mg "InvalidHeights" = some (.ref C_InvalidHeights)
  C_InvalidOffers : Addr
  c_InvalidOffers : mg "InvalidOffers" = some (.ref C_InvalidOffers)
  C_NotKnown : Addr
  c_NotKnown : mg "NotKnown" = some (.ref C_NotKnown)
  C_NotPossible : Addr
  c_NotPossible : mg "NotPossible" = some (.ref C_NotPossible)
  C_TooMany : Addr
  c_TooMany : mg "TooMany" = some (.ref C_TooMany)
  C_NotOne : Addr
  c_NotOne : mg "NotOne" = some (.ref C_NotOne)
  C_Broken : Addr
  c_Broken : mg "Broken" = some (.ref C_Broken)
  C_Frame : Addr
  c_Frame : mg "Frame" = some (.ref C_Frame)
  cl_Frame : Cls K C_Frame
  ic_Frame : InsC K C_Frame
  kn_Frame : ∀ m ∈ tyNames, PySem.W.kitOne K (.type m) (.ref C_Frame) = some false
  mk_Frame : Mk K C_Frame a_c_Frame___init__
  nf_Frame_parts : NoAttr K C_Frame "parts"
  pq_c_Frame_degree : Addr
  pr_c_Frame_degree : PropOf K C_Frame "degree" pq_c_Frame_degree a_c_Frame_degree
  pq_c_Frame_hills : Addr
  pr_c_Frame_hills : PropOf K C_Frame "hills" pq_c_Frame_hills a_c_Frame_hills
  pq_c_Frame_knots : Addr
  pr_c_Frame_knots : PropOf K C_Frame "knots" pq_c_Frame_knots a_c_Frame_knots
  x_InvalidPlaces : OexG K C_InvalidPlaces
  e_InvalidPlaces : L2.ExcC K C_InvalidPlaces
  xf_InvalidPlaces : XfC K C_InvalidPlaces
  no_InvalidPlaces : PySem.W.findIn K (.ref C_InvalidPlaces) "index" = some none
  fi_InvalidPlaces : Addr
  di_InvalidPlaces : FuncData
  Fi_InvalidPlaces : Fun K "__init__" "InvalidPlaces.__init__" si_InvalidPlaces fi_InvalidPlaces di_InvalidPlaces
  ii_InvalidPlaces : PySem.W.findIn K (.ref C_InvalidPlaces) "__init__" = some (some (.ref fi_InvalidPlaces))
  ti_InvalidPlaces : PySem.W.typeIn K (.ref fi_InvalidPlaces) = some (.type "function")
  tk_InvalidPlaces : PySem.W.takerIn K C_InvalidPlaces "index" = some none
  x_NotAFrame : OexG K C_NotAFrame
  e_NotAFrame : L2.ExcC K C_NotAFrame
  xf_NotAFrame : XfC K C_NotAFrame
  no_NotAFrame : PySem.W.findIn K (.ref C_NotAFrame) "given" = some none
  fi_NotAFrame : Addr
  di_NotAFrame : FuncData
  Fi_NotAFrame : Fun K "__init__" "NotAFrame.__init__" si_NotAFrame fi_NotAFrame di_NotAFrame
  ii_NotAFrame : PySem.W.findIn K (.ref C_NotAFrame) "__init__" = some (some (.ref fi_NotAFrame))
  ti_NotAFrame : PySem.W.typeIn K (.ref fi_NotAFrame) = some (.type "function")
  tk_NotAFrame : PySem.W.takerIn K C_NotAFrame "given" = some none
  x_InvalidKnots : OexG K C_InvalidKnots
  e_InvalidKnots : L2.ExcC K C_InvalidKnots
  xf_InvalidKnots : XfC K C_InvalidKnots
  no_InvalidKnots : PySem.W.findIn K (.ref C_InvalidKnots) "index" = some none
  fi_InvalidKnots : Addr
  di_InvalidKnots : FuncData
  Fi_InvalidKnots : Fun K "__init__" "InvalidKnots.__init__" si_InvalidKnots fi_InvalidKnots di_InvalidKnots
  ii_InvalidKnots : PySem.W.findIn K (.ref C_InvalidKnots) "__init__" = some (some (.ref fi_InvalidKnots))
  ti_InvalidKnots : PySem.W.typeIn K (.ref fi_InvalidKnots) = some (.type "function")
  tk_InvalidKnots : PySem.W.takerIn K C_InvalidKnots "index" = some none
  x_InvalidDegree : OexG K C_InvalidDegree
  e_InvalidDegree : L2.ExcC K C_InvalidDegree
  xf_InvalidDegree : XfC K C_InvalidDegree
  no_InvalidDegree : PySem.W.findIn K (.ref C_InvalidDegree) "given" = some none
  fi_InvalidDegree : Addr
  di_InvalidDegree : FuncData
  Fi_InvalidDegree : Fun K "__init__" "InvalidDegree.__init__" si_InvalidDegree fi_InvalidDegree di_InvalidDegree
  ii_InvalidDegree : PySem.W.findIn K (.ref C_InvalidDegree) "__init__" = some (some (.ref fi_InvalidDegree))
  ti_InvalidDegree : PySem.W.typeIn K (.ref fi_InvalidDegree) = some (.type "function")
  tk_InvalidDegree : PySem.W.takerIn K C_InvalidDegree "given" = some none
  oo_InvalidPlaces_NotRight : PySem.W.kitOne K (.ref C_InvalidPlaces) (.ref C_NotRight) = some true
  oo_InvalidPlaces_InvalidText : PySem.W.kitOne K (.ref C_InvalidPlaces) (.ref C_InvalidText) = some false
  oo_InvalidPlaces_InvalidNumber : PySem.W.kitOne K (.ref C_InvalidPlaces) (.ref C_InvalidNumber) = some false
  oo_InvalidPlaces_InvalidIndex : PySem.W.kitOne K (.ref C_InvalidPlaces) (.ref C_InvalidIndex) = some false
  oo_InvalidPlaces_InvalidDegree : PySem.W.kitOne K (.ref C_InvalidPlaces) (.ref C_InvalidDegree) = some false
  oo_InvalidPlaces_InvalidKnot : PySem.W.kitOne K (.ref C_InvalidPlaces) (.ref C_InvalidKnot) = some false
  oo_InvalidPlaces_NotAFrame : PySem.W.kitOne K (.ref C_InvalidPlaces) (.ref C_NotAFrame) = some false
  oo_InvalidPlaces_NotACurve : PySem.W.kitOne K (.ref C_InvalidPlaces) (.ref C_NotACurve) = some false
  oo_InvalidPlaces_InvalidKnots : PySem.W.kitOne K (.ref C_InvalidPlaces) (.ref C_InvalidKnots) = some false
  oo_InvalidPlaces_InvalidAmounts : PySem.W.kitOne K (.ref C_InvalidPlaces) (.ref C_InvalidAmounts) = some false
  oo_InvalidPlaces_InvalidPlaces : PySem.W.kitOne K (.ref C_InvalidPlaces) (.ref C_InvalidPlaces) = some true
  oo_InvalidPlaces_InvalidHeights : PySem.W.kitOne K (.ref C_InvalidPlaces) (.ref C_InvalidHeights) = some false
  oo_InvalidPlaces_InvalidOffers : PySem.W.kitOne K (.ref C_InvalidPlaces) (.ref C_InvalidOffers) = some false
  oo_InvalidPlaces_NotKnown : PySem.W.kitOne K (.ref C_InvalidPlaces) (.ref C_NotKnown) = some false
  oo_InvalidPlaces_NotPossible : PySem.W.kitOne K (.ref C_InvalidPlaces) (.ref C_NotPossible) = some false
  oo_InvalidPlaces_TooMany : PySem.W.kitOne K (.ref C_InvalidPlaces) (.ref C_TooMany) = some false
  oo_InvalidPlaces_NotOne : PySem.W.kitOne K (.ref C_InvalidPlaces) (.ref C_NotOne) = some false
  oo_InvalidPlaces_Broken : PySem.W.kitOne K (.ref C_InvalidPlaces) (.ref C_Broken) = some false
  oo_NotAFrame_NotRight : PySem.W.kitOne K (.ref C_NotAFrame) (.ref C_NotRight) = some true
  oo_NotAFrame_InvalidText : PySem.W.kitOne K (.ref C_NotAFrame) (.ref C_InvalidText) = some false
  oo_NotAFrame_InvalidNumber : PySem.W.kitOne K (.ref C_NotAFrame) (.ref C_InvalidNumber) = some false
  oo_NotAFrame_InvalidIndex : PySem.W.kitOne K (.ref C_NotAFrame) (.ref C_InvalidIndex) = some false
  oo_NotAFrame_InvalidDegree : PySem.W.kitOne K (.ref C_NotAFrame) (.ref C_InvalidDegree) = some false
  oo_NotAFrame_InvalidKnot : PySem.W.kitOne K (.ref C_NotAFrame) (.ref C_InvalidKnot) = some false
  oo_NotAFrame_NotAFrame : PySem.W.kitOne K (.ref C_NotAFrame) (.ref C_NotAFrame) = some true
  oo_NotAFrame_NotACurve : PySem.W.kitOne K (.ref C_NotAFrame) (.ref C_NotACurve) = some false
  oo_NotAFrame_InvalidKnots : PySem.W.kitOne K (.ref C_NotAFrame) (.ref C_InvalidKnots) = some false
  oo_NotAFrame_InvalidAmounts : PySem.W.kitOne K (.ref C_NotAFrame) (.ref C_InvalidAmounts) = some false
  oo_NotAFrame_InvalidPlaces : PySem.W.kitOne K (.ref C_NotAFrame) (.ref C_InvalidPlaces) = some false
  oo_NotAFrame_InvalidHeights : PySem.W.kitOne K (.ref C_NotAFrame) (.ref C_InvalidHeights) = some false
  oo_NotAFrame_InvalidOffers : PySem.W.kitOne K (.ref C_NotAFrame) (.ref C_InvalidOffers) = some false
  oo_NotAFrame_NotKnown : PySem.W.kitOne K (.ref C_NotAFrame) (.ref C_NotKnown) = some false
  oo_NotAFrame_NotPossible : PySem.W.kitOne K (.ref C_NotAFrame) (.ref C_NotPossible) = some false
  oo_NotAFrame_TooMany : PySem.W.kitOne K (.ref C_NotAFrame) (.ref C_TooMany) = some false
  oo_NotAFrame_NotOne : PySem.W.kitOne K (.ref C_NotAFrame) (.ref C_NotOne) = some false
  oo_NotAFrame_Broken : PySem.W.kitOne K (.ref C_NotAFrame) (.ref C_Broken) = some false
  oo_InvalidKnots_NotRight : PySem.W.kitOne K (.ref C_InvalidKnots) (.ref C_NotRight) = some true
  oo_InvalidKnots_InvalidText : PySem.W.kitOne K (.ref C_InvalidKnots) (.ref C_InvalidText) = some false
  oo_InvalidKnots_InvalidNumber : PySem.W.kitOne K (.ref C_InvalidKnots) (.ref C_InvalidNumber) = some false
  oo_InvalidKnots_InvalidIndex : PySem.W.kitOne K (.ref C_InvalidKnots) (.ref C_InvalidIndex) = some false
  oo_InvalidKnots_InvalidDegree : PySem.W.kitOne K (.ref C_InvalidKnots) (.ref C_InvalidDegree) = some false
  oo_InvalidKnots_InvalidKnot : PySem.W.kitOne K (.ref C_InvalidKnots) (.ref C_InvalidKnot) = some false
  oo_InvalidKnots_NotAFrame : PySem.W.kitOne K (.ref C_InvalidKnots) (.ref C_NotAFrame) = some false
  oo_InvalidKnots_NotACurve : PySem.W.kitOne K (.ref C_InvalidKnots) (.ref C_NotACurve) = some false
  oo_InvalidKnots_InvalidKnots : PySem.W.kitOne K (.ref C_InvalidKnots) (.ref C_InvalidKnots) = some true
  oo_InvalidKnots_InvalidAmounts : PySem.W.kitOne K (.ref C_InvalidKnots) (.ref C_InvalidAmounts) = some false
  oo_InvalidKnots_InvalidPlaces : PySem.W.kitOne K (.ref C_InvalidKnots) (.ref C_InvalidPlaces) = some false
  oo_InvalidKnots_InvalidHeights : PySem.W.kitOne K (.ref C_InvalidKnots) (.ref C_InvalidHeights) = some false
  oo_InvalidKnots_InvalidOffers : PySem.W.kitOne K (.ref C_InvalidKnots) (.ref C_InvalidOffers) = some false
  oo_InvalidKnots_NotKnown : PySem.W.kitOne K (.ref C_InvalidKnots) (.ref C_NotKnown) = some false
  oo_InvalidKnots_NotPossible : PySem.W.kitOne K (.ref C_InvalidKnots) (.ref C_NotPossible) = some false
  oo_InvalidKnots_TooMany : PySem.W.kitOne K (.ref C_InvalidKnots) (.ref C_TooMany) = some false
  oo_InvalidKnots_NotOne : PySem.W.kitOne K (.ref C_InvalidKnots) (.ref C_NotOne) = some false
  oo_InvalidKnots_Broken : PySem.W.kitOne K (.ref C_InvalidKnots) (.ref C_Broken) = some false
  oo_InvalidDegree_NotRight : PySem.W.kitOne K (.ref C_InvalidDegree) (.ref C_NotRight) = some true
  oo_InvalidDegree_InvalidText : PySem.W.kitOne K (.ref C_InvalidDegree) (.ref C_InvalidText) = some false
  oo_InvalidDegree_InvalidNumber : PySem.W.kitOne K (.ref C_InvalidDegree) (.ref C_InvalidNumber) = some false
  oo_InvalidDegree_InvalidIndex : PySem.W.kitOne K (.ref C_InvalidDegree) (.ref C_InvalidIndex) = some false
  oo_InvalidDegree_InvalidDegree : PySem.W.kitOne K (.ref C_InvalidDegree) (.ref C_InvalidDegree) = some true
  oo_InvalidDegree_InvalidKnot : PySem.W.kitOne K (.ref C_InvalidDegree) (.ref C_InvalidKnot) = some false
  oo_InvalidDegree_NotAFrame : PySem.W.kitOne K (.ref C_InvalidDegree) (.ref C_NotAFrame) = some false
  oo_InvalidDegree_NotACurve : PySem.W.kitOne K (.ref C_InvalidDegree) (.ref C_NotACurve) = some false
  oo_InvalidDegree_InvalidKnots : PySem.W.kitOne K (.ref C_InvalidDegree) (.ref C_InvalidKnots) = some false
  oo_InvalidDegree_InvalidAmounts : PySem.W.kitOne K (.ref C_InvalidDegree) (.ref C_InvalidAmounts) = some false
  oo_InvalidDegree_InvalidPlaces : PySem.W.kitOne K (.ref C_InvalidDegree) (.ref C_InvalidPlaces) = some false
  oo_InvalidDegree_InvalidHeights : PySem.W.kitOne K (.ref C_InvalidDegree) (.ref C_InvalidHeights) = some false
  oo_InvalidDegree_InvalidOffers : PySem.W.kitOne K (.ref C_InvalidDegree) (.ref C_InvalidOffers) = some false
  oo_InvalidDegree_NotKnown : PySem.W.kitOne K (.ref C_InvalidDegree) (.ref C_NotKnown) = some false
  oo_InvalidDegree_NotPossible : PySem.W.kitOne K (.ref C_InvalidDegree) (.ref C_NotPossible) = some false
  oo_InvalidDegree_TooMany : PySem.W.kitOne K (.ref C_InvalidDegree) (.ref C_TooMany) = some false
  oo_InvalidDegree_NotOne : PySem.W.kitOne K (.ref C_InvalidDegree) (.ref C_NotOne) = some false
  oo_InvalidDegree_Broken : PySem.W.kitOne K (.ref C_InvalidDegree) (.ref C_Broken) = some false
  oo_Frame_Frame : PySem.W.kitOne K (.ref C_Frame) (.ref C_Frame) = some true
  ob_InvalidPlaces_ValueError : PySem.W.kitOne K (.ref C_InvalidPlaces) (.type "ValueError") = some true
  ob_InvalidPlaces_LookupError : PySem.W.kitOne K (.ref C_InvalidPlaces) (.type "LookupError") = some false
  ob_InvalidPlaces_ArithmeticError : PySem.W.kitOne K (.ref C_InvalidPlaces) (.type "ArithmeticError") = some false
  ob_NotAFrame_ValueError : PySem.W.kitOne K (.ref C_NotAFrame) (.type "ValueError") = some true
  ob_NotAFrame_LookupError : PySem.W.kitOne K (.ref C_NotAFrame) (.type "LookupError") = some false
  ob_NotAFrame_ArithmeticError : PySem.W.kitOne K (.ref C_NotAFrame) (.type "ArithmeticError") = some false
  ob_InvalidKnots_ValueError : PySem.W.kitOne K (.ref C_InvalidKnots) (.type "ValueError") = some true
  ob_InvalidKnots_LookupError : PySem.W.kitOne K (.ref C_InvalidKnots) (.type "LookupError") = some false
  ob_InvalidKnots_ArithmeticError : PySem.W.kitOne K (.ref C_InvalidKnots) (.type "ArithmeticError") = some false
  ob_InvalidDegree_ValueError : PySem.W.kitOne K (.ref C_InvalidDegree) (.type "ValueError") = some true
  ob_InvalidDegree_LookupError : PySem.W.kitOne K (.ref C_InvalidDegree) (.type "LookupError") = some false
  ob_InvalidDegree_ArithmeticError : PySem.W.kitOne K (.ref C_InvalidDegree) (.type "ArithmeticError") = some false
  ob_Frame_int : PySem.W.kitOne K (.ref C_Frame) (.type "int") = some false
  ob_Frame_bool : PySem.W.kitOne K (.ref C_Frame) (.type "bool") = some false
  ob_Frame_tuple : PySem.W.kitOne K (.ref C_Frame) (.type "tuple") = some false
  ob_Frame_str : PySem.W.kitOne K (.ref C_Frame) (.type "str") = some false
  ob_Frame_list : PySem.W.kitOne K (.ref C_Frame) (.type "list") = some false
  cc_InvalidPlaces_NotKnown : PySem.W.exmOne K (.ref C_InvalidPlaces) (.ref C_NotKnown) = some false
  cc_InvalidPlaces_NotPossible : PySem.W.exmOne K (.ref C_InvalidPlaces) (.ref C_NotPossible) = some false
  cc_InvalidPlaces_NotRight : PySem.W.exmOne K (.ref C_InvalidPlaces) (.ref C_NotRight) = some true
  cc_NotAFrame_NotKnown : PySem.W.exmOne K (.ref C_NotAFrame) (.ref C_NotKnown) = some false
  cc_NotAFrame_NotPossible : PySem.W.exmOne K (.ref C_NotAFrame) (.ref C_NotPossible) = some false
  cc_NotAFrame_NotRight : PySem.W.exmOne K (.ref C_NotAFrame) (.ref C_NotRight) = some true
  cc_InvalidKnots_NotKnown : PySem.W.exmOne K (.ref C_InvalidKnots) (.ref C_NotKnown) = some false
  cc_InvalidKnots_NotPossible : PySem.W.exmOne K (.ref C_InvalidKnots) (.ref C_NotPossible) = some false
  cc_InvalidKnots_NotRight : PySem.W.exmOne K (.ref C_InvalidKnots) (.ref C_NotRight) = some true
  cc_InvalidDegree_NotKnown : PySem.W.exmOne K (.ref C_InvalidDegree) (.ref C_NotKnown) = some false
  cc_InvalidDegree_NotPossible : PySem.W.exmOne K (.ref C_InvalidDegree) (.ref C_NotPossible) = some false
  cc_InvalidDegree_NotRight : PySem.W.exmOne K (.ref C_InvalidDegree) (.ref C_NotRight) = some true
  T : Nat → Addr
abbrev TBs (L : Lf K mg) (base : Heap) : Prop := LamX.TabB base mg L.cT_l_right (L.T 0) ∧ True
theorem tab_ok (L : Lf K mg) : TabOk K mg tabT := by
  refine ⟨fun c h C e => ?_, fun c h C e => ?_, isa_ok (fun c d b h => ?_) (fun c n b h => ?_) (fun c h m hm => ?_)⟩
  · simp only [tabT, List.mem_cons, List.not_mem_nil, or_false] at h
    subst h
    · rw [L.c_Frame] at e; cases e; exact L.ic_Frame
  · simp only [tabT, List.mem_cons, List.not_mem_nil, or_false] at h
    rcases h with h | h | h | h <;> subst h
    · rw [L.c_InvalidPlaces] at e; cases e; exact L.e_InvalidPlaces
    · rw [L.c_NotAFrame] at e; cases e; exact L.e_NotAFrame
    · rw [L.c_InvalidKnots] at e; cases e; exact L.e_InvalidKnots
    · rw [L.c_InvalidDegree] at e; cases e; exact L.e_InvalidDegree
  · simp only [ooT, List.mem_cons, Prod.mk.injEq, List.not_mem_nil, or_false] at h
    rcases h with ⟨rfl, rfl, rfl⟩ | ⟨rfl, rfl, rfl⟩ | ⟨rfl, rfl, rfl⟩ | ⟨rfl, rfl, rfl⟩ | ⟨rfl, rfl, rfl⟩ | ⟨rfl, rfl, rfl⟩ | ⟨rfl, rfl, rfl⟩ | ⟨rfl, rfl, rfl⟩ | ⟨rfl, rfl, rfl⟩ | ⟨rfl, rfl, rfl⟩ | ⟨rfl, rfl, rfl⟩ | ⟨rfl, rfl, rfl⟩ | ⟨rfl, rfl, rfl⟩ | ⟨rfl, rfl, rfl⟩ | ⟨rfl, rfl, rfl⟩ | ⟨rfl, rfl, rfl⟩ | ⟨rfl, rfl, rfl⟩ | ⟨rfl, rfl, rfl⟩ | ⟨rfl, rfl, rfl⟩ | ⟨rfl, rfl, rfl⟩ | ⟨rfl, rfl, rfl⟩ | ⟨rfl, rfl, rfl⟩ | ⟨rfl, rfl, rfl⟩ | ⟨rfl, rfl, rfl⟩ | ⟨rfl, rfl, rfl⟩ | ⟨rfl, rfl, rfl⟩ | ⟨rfl, rfl, rfl⟩ | ⟨rfl, rfl, rfl⟩ | ⟨rfl, rfl, rfl⟩ | ⟨rfl, rfl, rfl⟩ | ⟨rfl, rfl, rfl⟩ | ⟨rfl, rfl, rfl⟩ | ⟨rfl, rfl, rfl⟩ | ⟨rfl, rfl, rfl⟩ | ⟨rfl, rfl, rfl⟩ | ⟨rfl, rfl, rfl⟩ | ⟨rfl, rfl, rfl⟩ | ⟨rfl, rfl, rfl⟩ | ⟨rfl, rfl, rfl⟩ | ⟨rfl, rfl, rfl⟩ | ⟨rfl, rfl, rfl⟩ | ⟨rfl, rfl, rfl⟩ | ⟨rfl, rfl, rfl⟩ | ⟨rfl, rfl, rfl⟩ | ⟨rfl, rfl, rfl⟩ | ⟨rfl, rfl, rfl⟩ | ⟨rfl, rfl, rfl⟩ | ⟨rfl, rfl, rfl⟩ | ⟨rfl, rfl, rfl⟩ | ⟨rfl, rfl, rfl⟩ | ⟨rfl, rfl, rfl⟩ | ⟨rfl, rfl, rfl⟩ | ⟨rfl, rfl, rfl⟩ | ⟨rfl, rfl, rfl⟩ | ⟨rfl, rfl, rfl⟩ | ⟨rfl, rfl, rfl⟩ | ⟨rfl, rfl, rfl⟩ | ⟨rfl, rfl, rfl⟩ | ⟨rfl, rfl, rfl⟩ | ⟨rfl, rfl, rfl⟩ | ⟨rfl, rfl, rfl⟩ | ⟨rfl, rfl, rfl⟩ | ⟨rfl, rfl, rfl⟩ | ⟨rfl, rfl, rfl⟩ | ⟨rfl, rfl, rfl⟩ | ⟨rfl, rfl, rfl⟩ | ⟨rfl, rfl, rfl⟩ | ⟨rfl, rfl, rfl⟩ | ⟨rfl, rfl, rfl⟩ | ⟨rfl, rfl, rfl⟩ | ⟨rfl, rfl, rfl⟩ | ⟨rfl, rfl, rfl⟩ | ⟨rfl, rfl, rfl⟩
    · exact ⟨_, _, L.c_InvalidPlaces, L.c_NotRight, L.oo_InvalidPlaces_NotRight⟩
    · exact ⟨_, _, L.c_InvalidPlaces, L.c_InvalidText, L.oo_InvalidPlaces_InvalidText⟩
    · exact ⟨_, _, L.c_InvalidPlaces, L.c_InvalidNumber, L.oo_InvalidPlaces_InvalidNumber⟩
    · exact ⟨_, _, L.c_InvalidPlaces, L.c_InvalidIndex, L.oo_InvalidPlaces_InvalidIndex⟩
    · exact ⟨_, _, L.c_InvalidPlaces, L.c_InvalidDegree, L.oo_InvalidPlaces_InvalidDegree⟩
    · exact ⟨_, _, L.c_InvalidPlaces, L.c_InvalidKnot, L.oo_InvalidPlaces_InvalidKnot⟩
    · exact ⟨_, _, L.c_InvalidPlaces, L.c_NotAFrame, L.oo_InvalidPlaces_NotAFrame⟩
    · exact ⟨_, _, L.c_InvalidPlaces, L.c_NotACurve, L.oo_InvalidPlaces_NotACurve⟩
    · exact ⟨_, _, L.c_InvalidPlaces, L.c_InvalidKnots, L.oo_InvalidPlaces_InvalidKnots⟩
    · exact ⟨_, _, L.c_InvalidPlaces, L.c_InvalidAmounts, L.oo_InvalidPlaces_InvalidAmounts⟩
    · exact ⟨_, _, L.c_InvalidPlaces, L.c_InvalidPlaces, L.oo_InvalidPlaces_InvalidPlaces⟩
    · exact ⟨_, _, L.c_InvalidPlaces, L.c_InvalidHeights, L.oo_InvalidPlaces_InvalidHeights⟩
    · exact ⟨_, _, L.c_InvalidPlaces, L.c_InvalidOffers, L.oo_InvalidPlaces_InvalidOffers⟩
    · exact ⟨_, _, L.c_InvalidPlaces, L.c_NotKnown, L.oo_InvalidPlaces_NotKnown⟩
    · exact ⟨_, _, L.c_InvalidPlaces, L.c_NotPossible, L.oo_InvalidPlaces_NotPossible⟩
    · exact ⟨_, _, L.c_InvalidPlaces, L.c_TooMany, L.oo_InvalidPlaces_TooMany⟩
    · exact ⟨_, _, L.c_InvalidPlaces, L.c_NotOne, L.oo_InvalidPlaces_NotOne⟩
    · exact ⟨_, _, L.c_InvalidPlaces, L.c_Broken, L.oo_InvalidPlaces_Broken⟩
    · exact ⟨_, _, L.c_NotAFrame, L.c_NotRight, L.oo_NotAFrame_NotRight⟩
    · exact ⟨_, _, L.c_NotAFrame, L.c_InvalidText, L.oo_NotAFrame_InvalidText⟩
    · exact ⟨_, _, L.c_NotAFrame, L.c_InvalidNumber, L.oo_NotAFrame_InvalidNumber⟩
    · exact ⟨_, _, L.c_NotAFrame, L.c_InvalidIndex, L.oo_NotAFrame_InvalidIndex⟩
    · exact ⟨_, _, L.c_NotAFrame, L.c_InvalidDegree, L.oo_NotAFrame_InvalidDegree⟩
    · exact ⟨_, _, L.c_NotAFrame, L.c_InvalidKnot, L.oo_NotAFrame_InvalidKnot⟩
    · exact ⟨_, _, L.c_NotAFrame, L.c_NotAFrame, L.oo_NotAFrame_NotAFrame⟩
    · exact ⟨_, _, L.c_NotAFrame, L.c_NotACurve, L.oo_NotAFrame_NotACurve⟩
    · exact ⟨_, _, L.c_NotAFrame, L.c_InvalidKnots, L.oo_NotAFrame_InvalidKnots⟩
    · exact ⟨_, _, L.c_NotAFrame, L.c_InvalidAmounts, L.oo_NotAFrame_InvalidAmounts⟩
    · exact ⟨_, _, L.c_NotAFrame, L.c_InvalidPlaces, L.oo_NotAFrame_InvalidPlaces⟩
    · exact ⟨_, _, L.c_NotAFrame, L.c_InvalidHeights, L.oo_NotAFrame_InvalidHeights⟩
    · exact ⟨_, _, L.c_NotAFrame, L.c_InvalidOffers, L.oo_NotAFrame_InvalidOffers⟩
    · exact ⟨_, _, L.c_NotAFrame, L.c_NotKnown, L.oo_NotAFrame_NotKnown⟩
    · exact ⟨_, _, L.c_NotAFrame, L.c_NotPossible, L.oo_NotAFrame_NotPossible⟩
    · exact ⟨_, _, L.c_NotAFrame, L.c_TooMany, L.oo_NotAFrame_TooMany⟩
    · exact ⟨_, _, L.c_NotAFrame, L.c_NotOne, L.oo_NotAFrame_NotOne⟩
    · exact ⟨_, _, L.c_NotAFrame, L.c_Broken, L.oo_NotAFrame_Broken⟩
    · exact ⟨_, _, L.c_InvalidKnots, L.c_NotRight, L.oo_InvalidKnots_NotRight⟩
    · exact ⟨_, _, L.c_InvalidKnots, L.c_InvalidText, L.oo_InvalidKnots_InvalidText⟩
    · exact ⟨_, _, L.c_InvalidKnots, L.c_InvalidNumber, L.oo_InvalidKnots_InvalidNumber⟩
    · exact ⟨_, _, L.c_InvalidKnots, L.c_InvalidIndex, L.oo_InvalidKnots_InvalidIndex⟩
    · exact ⟨_, _, L.c_InvalidKnots, L.c_InvalidDegree, L.oo_InvalidKnots_InvalidDegree⟩
    · exact ⟨_, _, L.c_InvalidKnots, L.c_InvalidKnot, L.oo_InvalidKnots_InvalidKnot⟩
    · exact ⟨_, _, L.c_InvalidKnots, L.c_NotAFrame, L.oo_InvalidKnots_NotAFrame⟩
    · exact ⟨_, _, L.c_InvalidKnots, L.c_NotACurve, L.oo_InvalidKnots_NotACurve⟩
    · exact ⟨_, _, L.c_InvalidKnots, L.c_InvalidKnots, L.oo_InvalidKnots_InvalidKnots⟩
    · exact ⟨_, _, L.c_InvalidKnots, L.c_InvalidAmounts, L.oo_InvalidKnots_InvalidAmounts⟩
    · exact ⟨_, _, L.c_InvalidKnots, L.c_InvalidPlaces, L.oo_InvalidKnots_InvalidPlaces⟩
    · exact ⟨_, _, L.c_InvalidKnots, L.c_InvalidHeights, L.oo_InvalidKnots_InvalidHeights⟩
    · exact ⟨_, _, L.c_InvalidKnots, L.c_InvalidOffers, L.oo_InvalidKnots_InvalidOffers⟩
    · exact ⟨_, _, L.c_InvalidKnots, L.c_NotKnown, L.oo_InvalidKnots_NotKnown⟩
    · exact ⟨_, _, L.c_InvalidKnots, L.c_NotPossible, L.oo_InvalidKnots_NotPossible⟩
    · exact ⟨_, _, L.c_InvalidKnots, L.c_TooMany, L.oo_InvalidKnots_TooMany⟩
    · exact ⟨_, _, L.c_InvalidKnots, L.c_NotOne, L.oo_InvalidKnots_NotOne⟩
    · exact ⟨_, _, L.c_InvalidKnots, L.c_Broken, L.oo_InvalidKnots_Broken⟩
    · exact ⟨_, _, L.c_InvalidDegree, L.c_NotRight, L.oo_InvalidDegree_NotRight⟩
    · exact ⟨_, _, L.c_InvalidDegree, L.c_InvalidText, L.oo_InvalidDegree_InvalidText⟩
    · exact ⟨_, _, L.c_InvalidDegree, L.c_InvalidNumber, L.oo_InvalidDegree_InvalidNumber⟩
    · exact ⟨_, _, L.c_InvalidDegree, L.c_InvalidIndex, L.oo_InvalidDegree_InvalidIndex⟩
    · exact ⟨_, _, L.c_InvalidDegree, L.c_InvalidDegree, L.oo_InvalidDegree_InvalidDegree⟩
    · exact ⟨_, _, L.c_InvalidDegree, L.c_InvalidKnot, L.oo_InvalidDegree_InvalidKnot⟩
    · exact ⟨_, _, L.c_InvalidDegree, L.c_NotAFrame, L.oo_InvalidDegree_NotAFrame⟩
    · exact ⟨_, _, L.c_InvalidDegree, L.c_NotACurve, L.oo_InvalidDegree_NotACurve⟩
    · exact ⟨_, _, L.c_InvalidDegree, L.c_InvalidKnots, L.oo_InvalidDegree_InvalidKnots⟩
    · exact ⟨_, _, L.c_InvalidDegree, L.c_InvalidAmounts, L.oo_InvalidDegree_InvalidAmounts⟩
    · exact ⟨_, _, L.c_InvalidDegree, L.c_InvalidPlaces, L.oo_InvalidDegree_InvalidPlaces⟩
    · exact ⟨_, _, L.c_InvalidDegree, L.c_InvalidHeights, L.oo_InvalidDegree_InvalidHeights⟩
    · exact ⟨_, _, L.c_InvalidDegree, L.c_InvalidOffers, L.oo_InvalidDegree_InvalidOffers⟩
    · exact ⟨_, _, L.c_InvalidDegree, L.c_NotKnown, L.oo_InvalidDegree_NotKnown⟩
    · exact ⟨_, _, L.c_InvalidDegree, L.c_NotPossible, L.oo_InvalidDegree_NotPossible⟩
    · exact ⟨_, _, L.c_InvalidDegree, L.c_TooMany, L.oo_InvalidDegree_TooMany⟩
    · exact ⟨_, _, L.c_InvalidDegree, L.c_NotOne, L.oo_InvalidDegree_NotOne⟩
    · exact ⟨_, _, L.c_InvalidDegree, L.c_Broken, L.oo_InvalidDegree_Broken⟩
    · exact ⟨_, _, L.c_Frame, L.c_Frame, L.oo_Frame_Frame⟩
  · simp only [obT, List.mem_cons, Prod.mk.injEq, List.not_mem_nil, or_false] at h
    rcases h with ⟨rfl, rfl, rfl⟩ | ⟨rfl, rfl, rfl⟩ | ⟨rfl, rfl, rfl⟩ | ⟨rfl, rfl, rfl⟩ | ⟨rfl, rfl, rfl⟩ | ⟨rfl, rfl, rfl⟩ | ⟨rfl, rfl, rfl⟩ | ⟨rfl, rfl, rfl⟩ | ⟨rfl, rfl, rfl⟩ | ⟨rfl, rfl, rfl⟩ | ⟨rfl, rfl, rfl⟩ | ⟨rfl, rfl, rfl⟩ | ⟨rfl, rfl, rfl⟩ | ⟨rfl, rfl, rfl⟩ | ⟨rfl, rfl, rfl⟩ | ⟨rfl, rfl, rfl⟩ | ⟨rfl, rfl, rfl⟩
    · exact ⟨_, L.c_InvalidPlaces, L.ob_InvalidPlaces_ValueError⟩
    · exact ⟨_, L.c_InvalidPlaces, L.ob_InvalidPlaces_LookupError⟩
    · exact ⟨_, L.c_InvalidPlaces, L.ob_InvalidPlaces_ArithmeticError⟩
    · exact ⟨_, L.c_NotAFrame, L.ob_NotAFrame_ValueError⟩
    · exact ⟨_, L.c_NotAFrame, L.ob_NotAFrame_LookupError⟩
    · exact ⟨_, L.c_NotAFrame, L.ob_NotAFrame_ArithmeticError⟩
    · exact ⟨_, L.c_InvalidKnots, L.ob_InvalidKnots_ValueError⟩
    · exact ⟨_, L.c_InvalidKnots, L.ob_InvalidKnots_LookupError⟩
    · exact ⟨_, L.c_InvalidKnots, L.ob_InvalidKnots_ArithmeticError⟩
    · exact ⟨_, L.c_InvalidDegree, L.ob_InvalidDegree_ValueError⟩
    · exact ⟨_, L.c_InvalidDegree, L.ob_InvalidDegree_LookupError⟩
    · exact ⟨_, L.c_InvalidDegree, L.ob_InvalidDegree_ArithmeticError⟩
    · exact ⟨_, L.c_Frame, L.ob_Frame_int⟩
    · exact ⟨_, L.c_Frame, L.ob_Frame_bool⟩
    · exact ⟨_, L.c_Frame, L.ob_Frame_tuple⟩
    · exact ⟨_, L.c_Frame, L.ob_Frame_str⟩
    · exact ⟨_, L.c_Frame, L.ob_Frame_list⟩
  · simp only [List.mem_cons, List.not_mem_nil, or_false] at h
    subst h
    · exact ⟨_, L.c_Frame, L.kn_Frame m hm⟩
theorem fld_ok (L : Lf K mg) : FldOk K mg fldT := by
  intro c f h C e
  simp only [fldT, List.mem_cons, Prod.mk.injEq, List.not_mem_nil, or_false] at h
  rcases h with ⟨rfl, rfl⟩
  · rw [L.c_Frame] at e; cases e; exact ⟨L.cl_Frame, L.nf_Frame_parts⟩
theorem sub_ok' (L : Lf K mg) : SubOk K mg (subOf subT) := by
  refine sub_ok fun c d b h => ?_
  simp only [subT, List.mem_cons, Prod.mk.injEq, List.not_mem_nil, or_false] at h
  rcases h with ⟨rfl, rfl, rfl⟩ | ⟨rfl, rfl, rfl⟩ | ⟨rfl, rfl, rfl⟩ | ⟨rfl, rfl, rfl⟩ | ⟨rfl, rfl, rfl⟩ | ⟨rfl, rfl, rfl⟩ | ⟨rfl, rfl, rfl⟩ | ⟨rfl, rfl, rfl⟩ | ⟨rfl, rfl, rfl⟩ | ⟨rfl, rfl, rfl⟩ | ⟨rfl, rfl, rfl⟩ | ⟨rfl, rfl, rfl⟩
  · exact ⟨_, _, L.c_InvalidPlaces, L.c_NotKnown, L.cc_InvalidPlaces_NotKnown⟩
  · exact ⟨_, _, L.c_InvalidPlaces, L.c_NotPossible, L.cc_InvalidPlaces_NotPossible⟩
  · exact ⟨_, _, L.c_InvalidPlaces, L.c_NotRight, L.cc_InvalidPlaces_NotRight⟩
  · exact ⟨_, _, L.c_NotAFrame, L.c_NotKnown, L.cc_NotAFrame_NotKnown⟩
  · exact ⟨_, _, L.c_NotAFrame, L.c_NotPossible, L.cc_NotAFrame_NotPossible⟩
  · exact ⟨_, _, L.c_NotAFrame, L.c_NotRight, L.cc_NotAFrame_NotRight⟩
  · exact ⟨_, _, L.c_InvalidKnots, L.c_NotKnown, L.cc_InvalidKnots_NotKnown⟩
  · exact ⟨_, _, L.c_InvalidKnots, L.c_NotPossible, L.cc_InvalidKnots_NotPossible⟩
  · exact ⟨_, _, L.c_InvalidKnots, L.c_NotRight, L.cc_InvalidKnots_NotRight⟩
  · exact ⟨_, _, L.c_InvalidDegree, L.c_NotKnown, L.cc_InvalidDegree_NotKnown⟩
  · exact ⟨_, _, L.c_InvalidDegree, L.c_NotPossible, L.cc_InvalidDegree_NotPossible⟩
  · exact ⟨_, _, L.c_InvalidDegree, L.c_NotRight, L.cc_InvalidDegree_NotRight⟩
theorem xf_ok (L : Lf K mg) : XfOk K mg xfT := by
  intro c f h C e
  simp only [xfT, List.mem_cons, Prod.mk.injEq, List.not_mem_nil, or_false] at h
  rcases h with ⟨rfl, rfl⟩ | ⟨rfl, rfl⟩ | ⟨rfl, rfl⟩ | ⟨rfl, rfl⟩
  · rw [L.c_InvalidPlaces] at e; cases e; exact ⟨L.xf_InvalidPlaces, L.no_InvalidPlaces⟩
  · rw [L.c_NotAFrame] at e; cases e; exact ⟨L.xf_NotAFrame, L.no_NotAFrame⟩
  · rw [L.c_InvalidKnots] at e; cases e; exact ⟨L.xf_InvalidKnots, L.no_InvalidKnots⟩
  · rw [L.c_InvalidDegree] at e; cases e; exact ⟨L.xf_InvalidDegree, L.no_InvalidDegree⟩
theorem sci_InvalidPlaces : FnScope ["self", "index"] ["self", "index"] (defScope si_InvalidPlaces) := ⟨rfl, rfl, rfl, by decide +kernel, rfl, by decide +kernel, by decide +kernel⟩
theorem Z_InvalidPlaces (L : Lf K mg) : Rz P w K mg base "InvalidPlaces" "index" := ⟨_, _, _, _, L.c_InvalidPlaces, L.x_InvalidPlaces, L.ii_InvalidPlaces, L.ti_InvalidPlaces, init1 L.Fi_InvalidPlaces rfl sci_InvalidPlaces L.x_InvalidPlaces L.tk_InvalidPlaces, L.Fi_InvalidPlaces.binds fun _ _ _ _ _ _ us hl => match us, hl with | [_, _], _ => rfl⟩
theorem sci_NotAFrame : FnScope ["self", "given"] ["self", "given"] (defScope si_NotAFrame) := ⟨rfl, rfl, rfl, by decide +kernel, rfl, by decide +kernel, by decide +kernel⟩
theorem Z_NotAFrame (L : Lf K mg) : Rz P w K mg base "NotAFrame" "given" := ⟨_, _, _, _, L.c_NotAFrame, L.x_NotAFrame, L.ii_NotAFrame, L.ti_NotAFrame, init1 L.Fi_NotAFrame rfl sci_NotAFrame L.x_NotAFrame L.tk_NotAFrame, L.Fi_NotAFrame.binds fun _ _ _ _ _ _ us hl => match us, hl with | [_, _], _ => rfl⟩
theorem sci_InvalidKnots : FnScope ["self", "index"] ["self", "index"] (defScope si_InvalidKnots) := ⟨rfl, rfl, rfl, by decide +kernel, rfl, by decide +kernel, by decide +kernel⟩
theorem Z_InvalidKnots (L : Lf K mg) : Rz P w K mg base "InvalidKnots" "index" := ⟨_, _, _, _, L.c_InvalidKnots, L.x_InvalidKnots, L.ii_InvalidKnots, L.ti_InvalidKnots, init1 L.Fi_InvalidKnots rfl sci_InvalidKnots L.x_InvalidKnots L.tk_InvalidKnots, L.Fi_InvalidKnots.binds fun _ _ _ _ _ _ us hl => match us, hl with | [_, _], _ => rfl⟩
theorem sci_InvalidDegree : FnScope ["self", "given"] ["self", "given"] (defScope si_InvalidDegree) := ⟨rfl, rfl, rfl, by decide +kernel, rfl, by decide +kernel, by decide +kernel⟩
theorem Z_InvalidDegree (L : Lf K mg) : Rz P w K mg base "InvalidDegree" "given" := ⟨_, _, _, _, L.c_InvalidDegree, L.x_InvalidDegree, L.ii_InvalidDegree, L.ti_InvalidDegree, init1 L.Fi_InvalidDegree rfl sci_InvalidDegree L.x_InvalidDegree L.tk_InvalidDegree, L.Fi_InvalidDegree.binds fun _ _ _ _ _ _ us hl => match us, hl with | [_, _], _ => rfl⟩
theorem bk_p_just_one_0_frame_places (L : Lf K mg) : BindsW K L.d_p_just_one ["frame", "places"] 0 ["frame", "places"] [0, 1] := L.F_p_just_one.bindsW fun _ _ _ _ _ _ us ws h1 h2 => match us, ws, h1, h2 with | [], [_, _], _, _ => rfl
theorem bk_p_matching_0_places_frame (L : Lf K mg) : BindsW K L.d_p_matching ["frame", "places"] 0 ["places", "frame"] [1, 0] := L.F_p_matching.bindsW fun _ _ _ _ _ _ us ws h1 h2 => match us, ws, h1, h2 with | [], [_, _], _, _ => rfl
theorem sc_l_mug : FnScope ["_law_script", "_law_turn", "_law_entry", "_law_stirred", "_law_each"] ["_law_script", "_law_turn"] (defScope s_l_mug) := ⟨rfl, rfl, rfl, by decide +kernel, rfl, by decide +kernel, by decide +kernel⟩
theorem b_l_mug (L : Lf K mg) : Binds K L.d_l_mug ["_law_script", "_law_turn"] [] := L.F_l_mug.binds fun _ _ _ _ _ _ us hl => match us, hl with | [_, _], _ => rfl
theorem G_l_mug (L : Lf K mg) : FnG P w K mg base 1 L.a_l_mug L.d_l_mug ["_law_script", "_law_turn"] (SpM K mg 2 f_l_mug) := fnM L.F_l_mug sc_l_mug rfl fun cd A outer s H E rm =>
  (b_cons (s_set 2 (v_if (t_cmp op_lt ok_lt (v_var 1) (v_callB call_lenAll ok_len rfl L.z_len rfl (a_cons (v_var 0) a_nil)) rfl) (v_callTy call_int1 ok_toInt rfl L.z_int rfl (a_cons (v_ix ix_all ok_ix (v_var 0) (v_var 1) (fun _ _ => rfl)) a_nil)) (v_op op_addAll ok_add (v_op op_mulAll ok_mul v_int (v_var 1)) v_int)) sc_l_mug.nd)
  (b_cons (s_set 3 (v_op op_addAll ok_add v_int (v_op op_mulAll ok_mul v_int (v_var 1))) sc_l_mug.nd)
  (b_cons (s_for po_def rfl (i_seq (v_slice sl_all ok_slice (v_var 0) p_none (p_some v_int))) (pp_nm 4 sc_l_mug.nd) (b_one (s_set 3 (v_op op_mod ok_mod (v_callTy call_int1 ok_toInt rfl L.z_int rfl (a_cons (v_op op_addAll ok_add (v_op op_addAll ok_add (v_op op_mulAll ok_mul (v_var 3) v_int) (v_op op_mod ok_mod (v_callTy call_int1 ok_toInt rfl L.z_int rfl (a_cons (v_var 4) a_nil)) v_int)) (v_var 1)) a_nil)) v_int) sc_l_mug.nd)))
  (b_cons (s_set 3 (v_op op_mod ok_mod (v_callTy call_int1 ok_toInt rfl L.z_int rfl (a_cons (v_op op_addAll ok_add (v_op op_mulAll ok_mul (v_var 3) v_int) (v_op op_mod ok_mod (v_callTy call_int1 ok_toInt rfl L.z_int rfl (a_cons (v_var 2) a_nil)) v_int)) a_nil)) v_int) sc_l_mug.nd)
  (b_one (s_ret (v_cell (o_lst (a_cons (v_if (t_cmp op_ge ok_ge (v_callB call_abs ok_abs rfl L.z_abs rfl (a_cons (v_var 2) a_nil)) (v_op op_pow ok_pow v_int v_int) rfl) (v_callB call_abs ok_abs rfl L.z_abs rfl (a_cons (v_var 2) a_nil)) v_int) (a_cons (v_var 3) (a_cons v_int a_nil)))))))))))

theorem sc_c_Frame_hills : FnScope ["self"] ["self"] (defScope s_c_Frame_hills) := ⟨rfl, rfl, rfl, by decide +kernel, rfl, by decide +kernel, by decide +kernel⟩
theorem b_c_Frame_hills (L : Lf K mg) : Binds K L.d_c_Frame_hills ["self"] [] := L.F_c_Frame_hills.binds fun _ _ _ _ _ _ us hl => match us, hl with | [_], _ => rfl
theorem G_c_Frame_hills (L : Lf K mg) : FnG P w K mg base 1 L.a_c_Frame_hills L.d_c_Frame_hills ["self"] (SpM K mg 1 f_c_Frame_hills) := fnM L.F_c_Frame_hills sc_c_Frame_hills rfl fun cd A outer s H E rm =>
  (b_one (s_ret (v_op op_sub ok_sub (v_op op_sub ok_sub (v_callB call_lenAll ok_len rfl L.z_len rfl (a_cons (v_ix ix_all ok_ix (v_fld (fld_ok L) (v_var 0)) v_int (fun _ _ => rfl)) a_nil)) (v_ix ix_all ok_ix (v_fld (fld_ok L) (v_var 0)) v_int (fun _ _ => rfl))) v_int)))

theorem sc_c_Frame_degree : FnScope ["self"] ["self"] (defScope s_c_Frame_degree) := ⟨rfl, rfl, rfl, by decide +kernel, rfl, by decide +kernel, by decide +kernel⟩
theorem b_c_Frame_degree (L : Lf K mg) : Binds K L.d_c_Frame_degree ["self"] [] := L.F_c_Frame_degree.binds fun _ _ _ _ _ _ us hl => match us, hl with | [_], _ => rfl
theorem G_c_Frame_degree (L : Lf K mg) : FnG P w K mg base 1 L.a_c_Frame_degree L.d_c_Frame_degree ["self"] (SpM K mg 1 f_c_Frame_degree) := fnM L.F_c_Frame_degree sc_c_Frame_degree rfl fun cd A outer s H E rm =>
  (b_one (s_ret (v_ix ix_all ok_ix (v_fld (fld_ok L) (v_var 0)) v_int (fun _ _ => rfl))))

theorem sc_c_Frame_knots : FnScope ["self"] ["self"] (defScope s_c_Frame_knots) := ⟨rfl, rfl, rfl, by decide +kernel, rfl, by decide +kernel, by decide +kernel⟩
theorem b_c_Frame_knots (L : Lf K mg) : Binds K L.d_c_Frame_knots ["self"] [] := L.F_c_Frame_knots.binds fun _ _ _ _ _ _ us hl => match us, hl with | [_], _ => rfl
theorem G_c_Frame_knots (L : Lf K mg) : FnG P w K mg base 1 L.a_c_Frame_knots L.d_c_Frame_knots ["self"] (SpM K mg 1 f_c_Frame_knots) := fnM L.F_c_Frame_knots sc_c_Frame_knots rfl fun cd A outer s H E rm =>
  (b_one (s_ret (v_ix ix_all ok_ix (v_fld (fld_ok L) (v_var 0)) v_int (fun _ _ => rfl))))

theorem sc_p_is_up : FnScope ["frame", "hill", "place", "knots", "degree"] ["frame", "hill", "place"] (defScope s_p_is_up) := ⟨rfl, rfl, rfl, by decide +kernel, rfl, by decide +kernel, by decide +kernel⟩
theorem b_p_is_up (L : Lf K mg) : Binds K L.d_p_is_up ["frame", "hill", "place"] [] := L.F_p_is_up.binds fun _ _ _ _ _ _ us hl => match us, hl with | [_, _, _], _ => rfl
theorem G_p_is_up (L : Lf K mg) : FnG P w K mg base 3 L.a_p_is_up L.d_p_is_up ["frame", "hill", "place"] (SpM K mg 3 f_p_is_up) := fnM L.F_p_is_up sc_p_is_up rfl fun cd A outer s H E rm =>
  (b_cons (s_par 3 4 (a_cons (v_prop (G_c_Frame_knots L) (rm.less (by decide)) L.c_Frame L.cl_Frame L.pr_c_Frame_knots (b_c_Frame_knots L) (v_var 0)) (a_cons (v_prop (G_c_Frame_degree L) (rm.less (by decide)) L.c_Frame L.cl_Frame L.pr_c_Frame_degree (b_c_Frame_degree L) (v_var 0)) a_nil)) rfl sc_p_is_up.nd)
  (b_cons (s_if (t_chain op_lt ok_lt op_lt ok_lt (v_ix ix_all ok_ix (v_var 3) (v_var 1) (fun _ _ => rfl)) (v_var 2) (v_ix ix_all ok_ix (v_var 3) (v_op op_addAll ok_add (v_op op_addAll ok_add (v_var 1) (v_var 4)) v_int) (fun _ _ => rfl))) (b_one (s_ret v_bl)) b_nil)
  (b_cons (s_if (t_w (w_and (t_cmp (op_eqAll rm.units) ok_eq (v_var 2) (v_ix ix_all ok_ix (v_var 3) (v_var 1) (fun _ _ => rfl)) rfl) (w_and1 (t_cmp (op_eqAll rm.units) ok_eq (v_var 2) (v_ix ix_all ok_ix (v_var 3) (v_op op_addAll ok_add (v_var 1) (v_var 4)) (fun _ _ => rfl)) rfl)))) (b_one (s_ret v_bl)) b_nil)
  (b_one (s_ret (v_and (v_cmp (op_eqAll rm.units) ok_eq (v_var 2) (v_ix ix_all ok_ix (v_var 3) (v_un un_neg ok_neg v_int) (fun _ _ => rfl)) rfl) (v_and1 (v_cmp (op_eqAll rm.units) ok_eq (v_var 2) (v_ix ix_all ok_ix (v_var 3) (v_op op_addAll ok_add (v_var 1) v_int) (fun _ _ => rfl)) rfl))))))))

theorem sc_p_lengths_from : FnScope ["frame", "places", "hills", "many", "found", "hill", "index", "best"] ["frame", "places"] (defScope s_p_lengths_from) := ⟨rfl, rfl, rfl, by decide +kernel, rfl, by decide +kernel, by decide +kernel⟩
theorem b_p_lengths_from (L : Lf K mg) : Binds K L.d_p_lengths_from ["frame", "places"] [] := L.F_p_lengths_from.binds fun _ _ _ _ _ _ us hl => match us, hl with | [_, _], _ => rfl
theorem G_p_lengths_from (L : Lf K mg) : FnG P w K mg base 4 L.a_p_lengths_from L.d_p_lengths_from ["frame", "places"] (SpM K mg 2 f_p_lengths_from) := fnM L.F_p_lengths_from sc_p_lengths_from rfl fun cd A outer s H E rm =>
  (b_cons (s_unp (pt := (.tp [(.nm 2), (.nm 3)])) (v_tup (a_cons (v_prop (G_c_Frame_hills L) (rm.less (by decide)) L.c_Frame L.cl_Frame L.pr_c_Frame_hills (b_c_Frame_hills L) (v_var 0)) (a_cons (v_callB call_lenAll ok_len rfl L.z_len rfl (a_cons (v_var 1) a_nil)) a_nil))) (pp_tp rfl (pp_cons (pp_nm 2 sc_p_lengths_from.nd) (pp_cons (pp_nm 3 sc_p_lengths_from.nd) pp_nil))))
  (b_cons (s_setLc 4 (own := [("hill", 5)]) rfl sc_p_lengths_from.nd rfl (i_range1 L.z_range (a_cons (v_op op_addAll ok_add (v_var 2) v_int) a_nil)) (blkOk_by (N := ["frame", "places", "hills", "many", "found", "hill", "index", "best"]) (sc := defScope s_p_lengths_from) (by decide +kernel)) (fun _ _ _ _ _ => (pp_nm 5 sc_p_lengths_from.nd)) (fun _ _ _ _ _ => ts_nil) (fun _ _ _ _ _ => (v_cell (o_lc (own := [("index", 6)]) rfl sc_p_lengths_from.nd rfl (i_range1 L.z_range (a_cons (v_op op_addAll ok_add (v_var 3) v_int) a_nil)) (blkOk_by (by kernel_rfl)) (fun _ _ _ _ _ => (pp_nm 6 sc_p_lengths_from.nd)) (fun _ _ _ _ _ => ts_nil) (fun _ _ _ _ _ => v_int)))))
  (b_cons (s_for po_def rfl (i_rangeB L.z_range (a_cons (v_op op_sub ok_sub (v_var 2) v_int) (a_cons (v_un un_neg ok_neg v_int) (a_cons (v_un un_neg ok_neg v_int) a_nil)))) (pp_nm 5 sc_p_lengths_from.nd) (b_one (s_for po_def rfl (i_rangeB L.z_range (a_cons (v_op op_sub ok_sub (v_var 3) v_int) (a_cons (v_un un_neg ok_neg v_int) (a_cons (v_un un_neg ok_neg v_int) a_nil)))) (pp_nm 6 sc_p_lengths_from.nd) (b_cons (s_set 7 (v_callB (call_max2 rfl) ok_max rfl L.z_max rfl (a_cons (v_ix ix_all ok_ix (v_ix ix_all ok_ix (v_var 4) (v_op op_addAll ok_add (v_var 5) v_int) (fun _ _ => rfl)) (v_var 6) (fun _ _ => rfl)) (a_cons (v_ix ix_all ok_ix (v_ix ix_all ok_ix (v_var 4) (v_var 5) (fun _ _ => rfl)) (v_op op_addAll ok_add (v_var 6) v_int) (fun _ _ => rfl)) a_nil))) sc_p_lengths_from.nd)
  (b_cons (s_if (t_val (v_call (G_p_is_up L) (rm.less (by decide)) L.m_p_is_up L.F_p_is_up.kp (b_p_is_up L) px_def (a_cons (v_var 0) (a_cons (v_var 5) (a_cons (v_ix ix_all ok_ix (v_var 1) (v_var 6) (fun _ _ => rfl)) a_nil))))) (b_one (s_set 7 (v_callB (call_max2 rfl) ok_max rfl L.z_max rfl (a_cons (v_var 7) (a_cons (v_op op_addAll ok_add (v_ix ix_all ok_ix (v_ix ix_all ok_ix (v_var 4) (v_op op_addAll ok_add (v_var 5) v_int) (fun _ _ => rfl)) (v_op op_addAll ok_add (v_var 6) v_int) (fun _ _ => rfl)) v_int) a_nil))) sc_p_lengths_from.nd)) b_nil)
  (b_one (s_asg (v_var 7) (g_subC (v_ix ix_all ok_ix (v_var 4) (v_var 5) (fun _ _ => rfl)) (v_var 6)) (hno_of (ng_sub (nx_op (nx_var 4) (nx_var 5)) (nx_var 6))))))))))
  (b_one (s_ret (v_var 4))))))

theorem sc_p_rank_of : FnScope ["frame", "places"] ["frame", "places"] (defScope s_p_rank_of) := ⟨rfl, rfl, rfl, by decide +kernel, rfl, by decide +kernel, by decide +kernel⟩
theorem b_p_rank_of (L : Lf K mg) : Binds K L.d_p_rank_of ["frame", "places"] [] := L.F_p_rank_of.binds fun _ _ _ _ _ _ us hl => match us, hl with | [_, _], _ => rfl
theorem G_p_rank_of (L : Lf K mg) : FnG P w K mg base 5 L.a_p_rank_of L.d_p_rank_of ["frame", "places"] (SpM K mg 2 f_p_rank_of) := fnM L.F_p_rank_of sc_p_rank_of rfl fun cd A outer s H E rm =>
  (b_one (s_ret (v_ix ix_all ok_ix (v_ix ix_all ok_ix (v_call (G_p_lengths_from L) (rm.less (by decide)) L.m_p_lengths_from L.F_p_lengths_from.kp (b_p_lengths_from L) px_def (a_cons (v_var 0) (a_cons (v_var 1) a_nil))) v_int (fun _ _ => rfl)) v_int (fun _ _ => rfl))))

theorem sc_p_is_integer : FnScope ["value"] ["value"] (defScope s_p_is_integer) := ⟨rfl, rfl, rfl, by decide +kernel, rfl, by decide +kernel, by decide +kernel⟩
theorem b_p_is_integer (L : Lf K mg) : Binds K L.d_p_is_integer ["value"] [] := L.F_p_is_integer.binds fun _ _ _ _ _ _ us hl => match us, hl with | [_], _ => rfl
theorem G_p_is_integer (L : Lf K mg) : FnG P w K mg base 1 L.a_p_is_integer L.d_p_is_integer ["value"] (SpM K mg 1 f_p_is_integer) := fnM L.F_p_is_integer sc_p_is_integer rfl fun cd A outer s H E rm =>
  (b_one (s_ret (v_and (v_callB call_isAll (ok_isA (tab_ok L)) rfl L.z_isinstance rfl (a_cons (v_var 0) (a_cons (v_bty L.z_int rfl) a_nil))) (v_and1 (v_not (v_callB call_isAll (ok_isA (tab_ok L)) rfl L.z_isinstance rfl (a_cons (v_var 0) (a_cons (v_bty L.z_bool rfl) a_nil))))))))

theorem sc_p_is_between : FnScope ["value", "least", "most"] ["value", "least", "most"] (defScope s_p_is_between) := ⟨rfl, rfl, rfl, by decide +kernel, rfl, by decide +kernel, by decide +kernel⟩
theorem b_p_is_between (L : Lf K mg) : Binds K L.d_p_is_between ["value", "least", "most"] [] := L.F_p_is_between.binds fun _ _ _ _ _ _ us hl => match us, hl with | [_, _, _], _ => rfl
theorem G_p_is_between (L : Lf K mg) : FnG P w K mg base 2 L.a_p_is_between L.d_p_is_between ["value", "least", "most"] (SpM K mg 3 f_p_is_between) := fnM L.F_p_is_between sc_p_is_between rfl fun cd A outer s H E rm =>
  (b_one (s_ret (v_and (v_call (G_p_is_integer L) (rm.less (by decide)) L.m_p_is_integer L.F_p_is_integer.kp (b_p_is_integer L) px_def (a_cons (v_var 0) a_nil)) (v_and1 (v_chain op_le ok_le op_le ok_le (v_var 1) (v_var 0) (v_var 2))))))

theorem sc_p_is_place : FnScope ["value"] ["value"] (defScope s_p_is_place) := ⟨rfl, rfl, rfl, by decide +kernel, rfl, by decide +kernel, by decide +kernel⟩
theorem b_p_is_place (L : Lf K mg) : Binds K L.d_p_is_place ["value"] [] := L.F_p_is_place.binds fun _ _ _ _ _ _ us hl => match us, hl with | [_], _ => rfl
theorem G_p_is_place (L : Lf K mg) : FnG P w K mg base 3 L.a_p_is_place L.d_p_is_place ["value"] (SpM K mg 1 f_p_is_place) := fnM L.F_p_is_place sc_p_is_place rfl fun cd A outer s H E rm =>
  (b_one (s_ret (v_call (G_p_is_between L) (rm.less (by decide)) L.m_p_is_between L.F_p_is_between.kp (b_p_is_between L) px_def (a_cons (v_var 0) (a_cons v_int (a_cons (v_gint L.g_MOST_KNOT) a_nil))))))

theorem sc_p_places_fault : FnScope ["value", "index", "place"] ["value"] (defScope s_p_places_fault) := ⟨rfl, rfl, rfl, by decide +kernel, rfl, by decide +kernel, by decide +kernel⟩
theorem b_p_places_fault (L : Lf K mg) : Binds K L.d_p_places_fault ["value"] [] := L.F_p_places_fault.binds fun _ _ _ _ _ _ us hl => match us, hl with | [_], _ => rfl
theorem G_p_places_fault (L : Lf K mg) : FnG P w K mg base 4 L.a_p_places_fault L.d_p_places_fault ["value"] (SpM K mg 1 f_p_places_fault) := fnM L.F_p_places_fault sc_p_places_fault rfl fun cd A outer s H E rm =>
  (b_cons (s_if (t_w (w_or (t_not (t_val (v_callB call_isAll (ok_isA (tab_ok L)) rfl L.z_isinstance rfl (a_cons (v_var 0) (a_cons (v_bty L.z_tuple rfl) a_nil))))) (w_or1 (t_cmp (op_eqL rm.units) ok_eqL (v_var 0) (v_tup a_nil) rfl)))) (b_one (s_ret v_non)) b_nil)
  (b_cons (s_for po_def rfl (i_enum L.z_enumerate (a_cons (v_var 0) a_nil)) (pp_tp rfl (pp_cons (pp_nm 1 sc_p_places_fault.nd) (pp_cons (pp_nm 2 sc_p_places_fault.nd) pp_nil))) (b_one (s_if (t_w (w_or (t_cmp (op_eqAll rm.units) ok_eq (v_var 1) (v_gint L.g_MOST_PLACES) rfl) (w_or (t_not (t_val (v_call (G_p_is_place L) (rm.less (by decide)) L.m_p_is_place L.F_p_is_place.kp (b_p_is_place L) px_def (a_cons (v_var 2) a_nil)))) (w_or1 (t_w (w_and (t_cmp op_gt ok_gt (v_var 1) v_int rfl) (w_and1 (t_cmp op_le ok_le (v_var 2) (v_ix ix_all ok_ix (v_var 0) (v_op op_sub ok_sub (v_var 1) v_int) (fun _ _ => rfl)) rfl)))))))) (b_one (s_ret (v_var 1))) b_nil)))
  (b_one (s_ret (v_un un_neg ok_neg v_int)))))

theorem sc_p_check_places : FnScope ["value"] ["value"] (defScope s_p_check_places) := ⟨rfl, rfl, rfl, by decide +kernel, rfl, by decide +kernel, by decide +kernel⟩
theorem b_p_check_places (L : Lf K mg) : Binds K L.d_p_check_places ["value"] [] := L.F_p_check_places.binds fun _ _ _ _ _ _ us hl => match us, hl with | [_], _ => rfl
theorem G_p_check_places (L : Lf K mg) : FnG P w K mg base 5 L.a_p_check_places L.d_p_check_places ["value"] (SpM K mg 1 f_p_check_places) := fnM L.F_p_check_places sc_p_check_places rfl fun cd A outer s H E rm =>
  (b_one (s_if (t_cmp (op_neAll rm.units) ok_ne (v_call (G_p_places_fault L) (rm.less (by decide)) L.m_p_places_fault L.F_p_places_fault.kp (b_p_places_fault L) px_def (a_cons (v_var 0) a_nil)) (v_un un_neg ok_neg v_int) rfl) (b_one (s_raise1 (Z_InvalidPlaces L) rfl (L2N.takes_of rfl rfl rfl rfl) (rm.less (by decide)) (v_call (G_p_places_fault L) (rm.less (by decide)) L.m_p_places_fault L.F_p_places_fault.kp (b_p_places_fault L) px_def (a_cons (v_var 0) a_nil)))) b_nil))

theorem sc_p_check_frame : FnScope ["value"] ["value"] (defScope s_p_check_frame) := ⟨rfl, rfl, rfl, by decide +kernel, rfl, by decide +kernel, by decide +kernel⟩
theorem b_p_check_frame (L : Lf K mg) : Binds K L.d_p_check_frame ["value"] [] := L.F_p_check_frame.binds fun _ _ _ _ _ _ us hl => match us, hl with | [_], _ => rfl
theorem G_p_check_frame (L : Lf K mg) : FnG P w K mg base 3 L.a_p_check_frame L.d_p_check_frame ["value"] (SpM K mg 1 f_p_check_frame) := fnM L.F_p_check_frame sc_p_check_frame rfl fun cd A outer s H E rm =>
  (b_one (s_if (t_not (t_val (v_callB call_isAll (ok_isA (tab_ok L)) rfl L.z_isinstance rfl (a_cons (v_var 0) (a_cons (v_cls L.c_Frame) a_nil))))) (b_one (s_raise1 (Z_NotAFrame L) rfl (L2N.takes_of rfl rfl rfl rfl) (rm.less (by decide)) (v_var 0))) b_nil))

theorem sc_p_check_both : FnScope ["frame", "places"] ["frame", "places"] (defScope s_p_check_both) := ⟨rfl, rfl, rfl, by decide +kernel, rfl, by decide +kernel, by decide +kernel⟩
theorem b_p_check_both (L : Lf K mg) : Binds K L.d_p_check_both ["frame", "places"] [] := L.F_p_check_both.binds fun _ _ _ _ _ _ us hl => match us, hl with | [_, _], _ => rfl
theorem G_p_check_both (L : Lf K mg) : FnG P w K mg base 6 L.a_p_check_both L.d_p_check_both ["frame", "places"] (SpM K mg 2 f_p_check_both) := fnM L.F_p_check_both sc_p_check_both rfl fun cd A outer s H E rm =>
  (b_cons (s_expr (v_call (G_p_check_frame L) (rm.less (by decide)) L.m_p_check_frame L.F_p_check_frame.kp (b_p_check_frame L) px_def (a_cons (v_var 0) a_nil)))
  (b_one (s_expr (v_call (G_p_check_places L) (rm.less (by decide)) L.m_p_check_places L.F_p_check_places.kp (b_p_check_places L) px_def (a_cons (v_var 1) a_nil)))))

theorem sc_p_rank : FnScope ["frame", "places"] ["frame", "places"] (defScope s_p_rank) := ⟨rfl, rfl, rfl, by decide +kernel, rfl, by decide +kernel, by decide +kernel⟩
theorem b_p_rank (L : Lf K mg) : Binds K L.d_p_rank ["frame", "places"] [] := L.F_p_rank.binds fun _ _ _ _ _ _ us hl => match us, hl with | [_, _], _ => rfl
theorem G_p_rank (L : Lf K mg) : FnG P w K mg base 7 L.a_p_rank L.d_p_rank ["frame", "places"] (SpM K mg 2 f_p_rank) := fnM L.F_p_rank sc_p_rank rfl fun cd A outer s H E rm =>
  (b_cons (s_expr (v_call (G_p_check_both L) (rm.less (by decide)) L.m_p_check_both L.F_p_check_both.kp (b_p_check_both L) px_def (a_cons (v_var 0) (a_cons (v_var 1) a_nil))))
  (b_one (s_ret (v_call (G_p_rank_of L) (rm.less (by decide)) L.m_p_rank_of L.F_p_rank_of.kp (b_p_rank_of L) px_def (a_cons (v_var 0) (a_cons (v_var 1) a_nil))))))

theorem sc_p_pairs_of : FnScope ["frame", "places", "table", "found", "hill", "index", "spots", "good", "spot"] ["frame", "places"] (defScope s_p_pairs_of) := ⟨rfl, rfl, rfl, by decide +kernel, rfl, by decide +kernel, by decide +kernel⟩
theorem b_p_pairs_of (L : Lf K mg) : Binds K L.d_p_pairs_of ["frame", "places"] [] := L.F_p_pairs_of.binds fun _ _ _ _ _ _ us hl => match us, hl with | [_, _], _ => rfl
theorem G_p_pairs_of (L : Lf K mg) : FnG P w K mg base 5 L.a_p_pairs_of L.d_p_pairs_of ["frame", "places"] (SpM K mg 2 f_p_pairs_of) := fnM L.F_p_pairs_of sc_p_pairs_of rfl fun cd A outer s H E rm =>
  (b_cons (s_unpO 2 3 (v_call (G_p_lengths_from L) (rm.less (by decide)) L.m_p_lengths_from L.F_p_lengths_from.kp (b_p_lengths_from L) px_def (a_cons (v_var 0) (a_cons (v_var 1) a_nil))) (o_lst a_nil) rfl sc_p_pairs_of.nd)
  (b_cons (s_unp (pt := (.tp [(.nm 4), (.nm 5)])) (v_tup (a_cons v_int (a_cons v_int a_nil))) (pp_tp rfl (pp_cons (pp_nm 4 sc_p_pairs_of.nd) (pp_cons (pp_nm 5 sc_p_pairs_of.nd) pp_nil))))
  (b_cons (s_while 100000 po_def (t_cmp op_gt ok_gt (v_ix ix_all ok_ix (v_ix ix_all ok_ix (v_var 2) (v_var 4) (fun _ _ => rfl)) (v_var 5) (fun _ _ => rfl)) v_int rfl) (b_cons (s_setLc 6 (own := [("spot", 8)]) rfl sc_p_pairs_of.nd rfl (i_range2 L.z_range (a_cons (v_var 5) (a_cons (v_callB call_lenAll ok_len rfl L.z_len rfl (a_cons (v_var 1) a_nil)) a_nil))) (blkOk_by (N := ["frame", "places", "table", "found", "hill", "index", "spots", "good", "spot"]) (sc := defScope s_p_pairs_of) (by decide +kernel)) (fun _ _ _ _ _ => (pp_nm 8 sc_p_pairs_of.nd)) (fun _ _ _ _ _ => (ts_one (t_val (v_call (G_p_is_up L) (rm.less (by decide)) L.m_p_is_up L.F_p_is_up.kp (b_p_is_up L) px_0 (a_cons (v_var 0) (a_cons (v_var 4) (a_cons (v_ix ix_all ok_ix (v_var 1) (v_var 8) (fun _ _ => rfl)) a_nil))))))) (fun _ _ _ _ _ => (v_var 8)))
  (b_cons (s_setLc 7 (own := [("spot", 8)]) rfl sc_p_pairs_of.nd rfl (i_seq (v_var 6)) (blkOk_by (N := ["frame", "places", "table", "found", "hill", "index", "spots", "good", "spot"]) (sc := defScope s_p_pairs_of) (by decide +kernel)) (fun _ _ _ _ _ => (pp_nm 8 sc_p_pairs_of.nd)) (fun _ _ _ _ _ => (ts_one (t_cmp (op_eqAll rm.units) ok_eq (v_op op_addAll ok_add (v_ix ix_all ok_ix (v_ix ix_all ok_ix (v_var 2) (v_op op_addAll ok_add (v_var 4) v_int) (fun _ _ => rfl)) (v_op op_addAll ok_add (v_var 8) v_int) (fun _ _ => rfl)) v_int) (v_ix ix_all ok_ix (v_ix ix_all ok_ix (v_var 2) (v_var 4) (fun _ _ => rfl)) (v_var 5) (fun _ _ => rfl)) rfl))) (fun _ _ _ _ _ => (v_var 8)))
  (b_cons (s_if (t_cmp (op_neAll rm.units) ok_ne (v_var 7) (v_fr (o_lst a_nil)) rfl) (b_cons (s_app 3 (v_tup (a_cons (v_var 4) (a_cons (v_ix ix_all ok_ix (v_var 7) v_int (fun _ _ => rfl)) a_nil))))
  (b_one (s_set 5 (v_op op_addAll ok_add (v_ix ix_all ok_ix (v_var 7) v_int (fun _ _ => rfl)) v_int) sc_p_pairs_of.nd))) b_nil)
  (b_one (s_inc 4 v_int sc_p_pairs_of.nd))))))
  (b_one (s_fz 3 (s_ret (v_callTy call_tuple_of ok_tuple rfl L.z_tuple rfl (a_cons (v_var 3) a_nil))))))))

theorem sc_p_matching : FnScope ["frame", "places"] ["frame", "places"] (defScope s_p_matching) := ⟨rfl, rfl, rfl, by decide +kernel, rfl, by decide +kernel, by decide +kernel⟩
theorem b_p_matching (L : Lf K mg) : Binds K L.d_p_matching ["frame", "places"] [] := L.F_p_matching.binds fun _ _ _ _ _ _ us hl => match us, hl with | [_, _], _ => rfl
theorem G_p_matching (L : Lf K mg) : FnG P w K mg base 7 L.a_p_matching L.d_p_matching ["frame", "places"] (SpM K mg 2 f_p_matching) := fnM L.F_p_matching sc_p_matching rfl fun cd A outer s H E rm =>
  (b_cons (s_expr (v_call (G_p_check_both L) (rm.less (by decide)) L.m_p_check_both L.F_p_check_both.kp (b_p_check_both L) px_def (a_cons (v_var 0) (a_cons (v_var 1) a_nil))))
  (b_one (s_ret (v_call (G_p_pairs_of L) (rm.less (by decide)) L.m_p_pairs_of L.F_p_pairs_of.kp (b_p_pairs_of L) px_def (a_cons (v_var 0) (a_cons (v_var 1) a_nil))))))

theorem sc_p_all_met : FnScope ["frame", "places"] ["frame", "places"] (defScope s_p_all_met) := ⟨rfl, rfl, rfl, by decide +kernel, rfl, by decide +kernel, by decide +kernel⟩
theorem b_p_all_met (L : Lf K mg) : Binds K L.d_p_all_met ["frame", "places"] [] := L.F_p_all_met.binds fun _ _ _ _ _ _ us hl => match us, hl with | [_, _], _ => rfl
theorem G_p_all_met (L : Lf K mg) : FnG P w K mg base 8 L.a_p_all_met L.d_p_all_met ["frame", "places"] (SpM K mg 2 f_p_all_met) := fnM L.F_p_all_met sc_p_all_met rfl fun cd A outer s H E rm =>
  (b_one (s_ret (v_cmp (op_eqAll rm.units) ok_eq (v_call (G_p_rank L) (rm.less (by decide)) L.m_p_rank L.F_p_rank.kp (b_p_rank L) px_def (a_cons (v_var 0) (a_cons (v_var 1) a_nil))) (v_callB call_lenAll ok_len rfl L.z_len rfl (a_cons (v_var 1) a_nil)) rfl)))

theorem sc_p_one_at_most : FnScope ["frame", "places"] ["frame", "places"] (defScope s_p_one_at_most) := ⟨rfl, rfl, rfl, by decide +kernel, rfl, by decide +kernel, by decide +kernel⟩
theorem b_p_one_at_most (L : Lf K mg) : Binds K L.d_p_one_at_most ["frame", "places"] [] := L.F_p_one_at_most.binds fun _ _ _ _ _ _ us hl => match us, hl with | [_, _], _ => rfl
theorem G_p_one_at_most (L : Lf K mg) : FnG P w K mg base 8 L.a_p_one_at_most L.d_p_one_at_most ["frame", "places"] (SpM K mg 2 f_p_one_at_most) := fnM L.F_p_one_at_most sc_p_one_at_most rfl fun cd A outer s H E rm =>
  (b_one (s_ret (v_cmp (op_eqAll rm.units) ok_eq (v_call (G_p_rank L) (rm.less (by decide)) L.m_p_rank L.F_p_rank.kp (b_p_rank L) px_def (a_cons (v_var 0) (a_cons (v_var 1) a_nil))) (v_prop (G_c_Frame_hills L) (rm.less (by decide)) L.c_Frame L.cl_Frame L.pr_c_Frame_hills (b_c_Frame_hills L) (v_var 0)) rfl)))

theorem sc_p_just_one : FnScope ["frame", "places"] ["frame", "places"] (defScope s_p_just_one) := ⟨rfl, rfl, rfl, by decide +kernel, rfl, by decide +kernel, by decide +kernel⟩
theorem b_p_just_one (L : Lf K mg) : Binds K L.d_p_just_one ["frame", "places"] [] := L.F_p_just_one.binds fun _ _ _ _ _ _ us hl => match us, hl with | [_, _], _ => rfl
theorem G_p_just_one (L : Lf K mg) : FnG P w K mg base 8 L.a_p_just_one L.d_p_just_one ["frame", "places"] (SpM K mg 2 f_p_just_one) := fnM L.F_p_just_one sc_p_just_one rfl fun cd A outer s H E rm =>
  (b_one (s_ret (v_chain (op_eqAll rm.units) ok_eq (op_eqAll rm.units) ok_eq (v_call (G_p_rank L) (rm.less (by decide)) L.m_p_rank L.F_p_rank.kp (b_p_rank L) px_def (a_cons (v_var 0) (a_cons (v_var 1) a_nil))) (v_callB call_lenAll ok_len rfl L.z_len rfl (a_cons (v_var 1) a_nil)) (v_prop (G_c_Frame_hills L) (rm.less (by decide)) L.c_Frame L.cl_Frame L.pr_c_Frame_hills (b_c_Frame_hills L) (v_var 0)))))

theorem sc_l_sip : FnScope ["_law_mug_here", "_law_top", "_law_digit"] ["_law_mug_here", "_law_top"] (defScope s_l_sip) := ⟨rfl, rfl, rfl, by decide +kernel, rfl, by decide +kernel, by decide +kernel⟩
theorem b_l_sip (L : Lf K mg) : Binds K L.d_l_sip ["_law_mug_here", "_law_top"] [] := L.F_l_sip.binds fun _ _ _ _ _ _ us hl => match us, hl with | [_, _], _ => rfl
theorem G_l_sip (L : Lf K mg) : FnG P w K mg base 1 L.a_l_sip L.d_l_sip ["_law_mug_here", "_law_top"] (SpM K mg 2 f_l_sip) := fnM L.F_l_sip sc_l_sip rfl fun cd A outer s H E rm =>
  (b_cons (s_asg (v_op op_addAll ok_add (v_ix ix_all ok_ix (v_var 0) v_int (fun _ _ => rfl)) v_int) (g_subC (v_var 0) v_int) (hno_of (ng_sub (nx_var 0) (nx_c _))))
  (b_cons (s_if (t_cmp op_gt ok_gt (v_ix ix_all ok_ix (v_var 0) v_int (fun _ _ => rfl)) v_int rfl) (b_cons (s_set 2 (v_op op_mod ok_mod (v_callTy call_int1 ok_toInt rfl L.z_int rfl (a_cons (v_ix ix_all ok_ix (v_var 0) v_int (fun _ _ => rfl)) a_nil)) (v_var 1)) sc_l_sip.nd)
  (b_cons (s_asg (v_op op_fdivW ok_div (v_callTy call_int1 ok_toInt rfl L.z_int rfl (a_cons (v_ix ix_all ok_ix (v_var 0) v_int (fun _ _ => rfl)) a_nil)) (v_var 1)) (g_subC (v_var 0) v_int) (hno_of (ng_sub (nx_var 0) (nx_c _))))
  (b_one (s_ret (v_var 2))))) b_nil)
  (b_cons (s_asg (v_op op_mod ok_mod (v_callTy call_int1 ok_toInt rfl L.z_int rfl (a_cons (v_op op_addAll ok_add (v_op op_addAll ok_add (v_op op_mulAll ok_mul (v_ix ix_all ok_ix (v_var 0) v_int (fun _ _ => rfl)) v_int) (v_op op_mulAll ok_mul v_int (v_ix ix_all ok_ix (v_var 0) v_int (fun _ _ => rfl)))) v_int) a_nil)) v_int) (g_subC (v_var 0) v_int) (hno_of (ng_sub (nx_var 0) (nx_c _))))
  (b_one (s_ret (v_op op_mod ok_mod (v_callTy call_int1 ok_toInt rfl L.z_int rfl (a_cons (v_op op_fdivW ok_div (v_ix ix_all ok_ix (v_var 0) v_int (fun _ _ => rfl)) v_int) a_nil)) (v_var 1)))))))

theorem sc_l_pick : FnScope ["_law_mug_here", "_law_menu"] ["_law_mug_here", "_law_menu"] (defScope s_l_pick) := ⟨rfl, rfl, rfl, by decide +kernel, rfl, by decide +kernel, by decide +kernel⟩
theorem b_l_pick (L : Lf K mg) : Binds K L.d_l_pick ["_law_mug_here", "_law_menu"] [] := L.F_l_pick.binds fun _ _ _ _ _ _ us hl => match us, hl with | [_, _], _ => rfl
theorem G_l_pick (L : Lf K mg) : FnG P w K mg base 2 L.a_l_pick L.d_l_pick ["_law_mug_here", "_law_menu"] (SpM K mg 2 f_l_pick) := fnM L.F_l_pick sc_l_pick rfl fun cd A outer s H E rm =>
  (b_one (s_ret (v_ix ix_all ok_ix (v_var 1) (v_call (G_l_sip L) (rm.less (by decide)) L.m_l_sip L.F_l_sip.kp (b_l_sip L) px_def (a_cons (v_var 0) (a_cons (v_callB call_lenAll ok_len rfl L.z_len rfl (a_cons (v_var 1) a_nil)) a_nil))) (fun _ _ => rfl))))

theorem sc_l_draft : FnScope ["_law_mug_here", "_law_most_hills", "_law_most", "_law_grade", "_law_many", "_law_bolts", "_law_k", "_law_bolt"] ["_law_mug_here", "_law_most_hills", "_law_most"] (defScope s_l_draft) := ⟨rfl, rfl, rfl, by decide +kernel, rfl, by decide +kernel, by decide +kernel⟩
theorem b_l_draft (L : Lf K mg) : Binds K L.d_l_draft ["_law_mug_here", "_law_most_hills", "_law_most"] [] := L.F_l_draft.binds fun _ _ _ _ _ _ us hl => match us, hl with | [_, _, _], _ => rfl
theorem G_l_draft (L : Lf K mg) : FnG P w K mg base 3 L.a_l_draft L.d_l_draft ["_law_mug_here", "_law_most_hills", "_law_most"] (SpM K mg 3 f_l_draft) := fnM L.F_l_draft sc_l_draft rfl fun cd A outer s H E rm =>
  (b_cons (s_unp (pt := (.tp [(.nm 3), (.nm 4)])) (v_tup (a_cons (v_call (G_l_pick L) (rm.less (by decide)) L.m_l_pick L.F_l_pick.kp (b_l_pick L) px_def (a_cons (v_var 0) (a_cons (v_fr (o_lst (a_cons v_int (a_cons v_int (a_cons v_int (a_cons v_int (a_cons v_int (a_cons v_int (a_cons v_int a_nil))))))))) a_nil))) (a_cons (v_op op_addAll ok_add v_int (v_call (G_l_sip L) (rm.less (by decide)) L.m_l_sip L.F_l_sip.kp (b_l_sip L) px_def (a_cons (v_var 0) (a_cons (v_var 1) a_nil)))) a_nil))) (pp_tp rfl (pp_cons (pp_nm 3 sc_l_draft.nd) (pp_cons (pp_nm 4 sc_l_draft.nd) pp_nil))))
  (b_cons (s_set 5 (v_callB cr_sortedI ok_sorted rfl L.z_sorted rfl (a_cons (v_fr (o_lc (own := [("_law_k", 6)]) rfl sc_l_draft.nd rfl (i_range1 L.z_range (a_cons (v_op op_addAll ok_add (v_op op_addAll ok_add (v_var 4) (v_var 3)) v_int) a_nil)) (blkOk_by (N := ["_law_mug_here", "_law_most_hills", "_law_most", "_law_grade", "_law_many", "_law_bolts", "_law_k", "_law_bolt"]) (sc := defScope s_l_draft) (by decide +kernel)) (fun _ _ _ _ _ => (pp_nm 6 sc_l_draft.nd)) (fun _ _ _ _ _ => ts_nil) (fun _ _ _ _ _ => (v_call (G_l_sip L) (rm.less (by decide)) L.m_l_sip L.F_l_sip.kp (b_l_sip L) px_0 (a_cons (v_var 0) (a_cons (v_op op_addAll ok_add (v_var 2) v_int) a_nil)))))) a_nil)) sc_l_draft.nd)
  (b_cons (s_if (t_w (w_and (t_cmp (op_eqAll rm.units) ok_eq (v_call (G_l_sip L) (rm.less (by decide)) L.m_l_sip L.F_l_sip.kp (b_l_sip L) px_def (a_cons (v_var 0) (a_cons v_int a_nil))) v_int rfl) (w_and1 (t_cmp op_gt ok_gt (v_var 4) (v_var 3) rfl)))) (b_one (s_set 5 (v_op op_addAll ok_add (v_op op_addAll ok_add (v_op op_mulAll ok_mul (v_fr (o_lst (a_cons (v_ix ix_all ok_ix (v_var 5) v_int (fun _ _ => rfl)) a_nil))) (v_op op_addAll ok_add (v_var 3) v_int)) (v_slice sl_all ok_slice (v_var 5) (p_some (v_op op_addAll ok_add (v_var 3) v_int)) (p_some (v_var 4)))) (v_op op_mulAll ok_mul (v_fr (o_lst (a_cons (v_ix ix_all ok_ix (v_var 5) (v_un un_neg ok_neg v_int) (fun _ _ => rfl)) a_nil))) (v_op op_addAll ok_add (v_var 3) v_int))) sc_l_draft.nd)) b_nil)
  (b_cons (s_while 100000 po_def (t_cmp (op_neAll rm.units) ok_ne (v_fr (o_lc (own := [("_law_k", 6)]) rfl sc_l_draft.nd rfl (i_range1 L.z_range (a_cons (v_op op_sub ok_sub (v_op op_sub ok_sub (v_callB call_lenAll ok_len rfl L.z_len rfl (a_cons (v_var 5) a_nil)) (v_var 3)) v_int) a_nil)) (blkOk_by (N := ["_law_mug_here", "_law_most_hills", "_law_most", "_law_grade", "_law_many", "_law_bolts", "_law_k", "_law_bolt"]) (sc := defScope s_l_draft) (by decide +kernel)) (fun _ _ _ _ _ => (pp_nm 6 sc_l_draft.nd)) (fun _ _ _ _ _ => (ts_one (t_cmp (op_eqAll rm.units) ok_eq (v_ix ix_all ok_ix (v_var 5) (v_var 6) (fun _ _ => rfl)) (v_ix ix_all ok_ix (v_var 5) (v_op op_addAll ok_add (v_op op_addAll ok_add (v_var 6) (v_var 3)) v_int) (fun _ _ => rfl)) rfl))) (fun _ _ _ _ _ => (v_var 6)))) (v_fr (o_lst a_nil)) rfl) (b_cons (s_set 6 (v_ix ix_all ok_ix (v_fr (o_lc (own := [("_law_k", 6)]) rfl sc_l_draft.nd rfl (i_range1 L.z_range (a_cons (v_op op_sub ok_sub (v_op op_sub ok_sub (v_callB call_lenAll ok_len rfl L.z_len rfl (a_cons (v_var 5) a_nil)) (v_var 3)) v_int) a_nil)) (blkOk_by (N := ["_law_mug_here", "_law_most_hills", "_law_most", "_law_grade", "_law_many", "_law_bolts", "_law_k", "_law_bolt"]) (sc := defScope s_l_draft) (by decide +kernel)) (fun _ _ _ _ _ => (pp_nm 6 sc_l_draft.nd)) (fun _ _ _ _ _ => (ts_one (t_cmp (op_eqAll rm.units) ok_eq (v_ix ix_all ok_ix (v_var 5) (v_var 6) (fun _ _ => rfl)) (v_ix ix_all ok_ix (v_var 5) (v_op op_addAll ok_add (v_op op_addAll ok_add (v_var 6) (v_var 3)) v_int) (fun _ _ => rfl)) rfl))) (fun _ _ _ _ _ => (v_var 6)))) v_int (fun _ _ => rfl)) sc_l_draft.nd)
  (b_one (s_set 5 (v_op op_addAll ok_add (v_slice sl_all ok_slice (v_var 5) p_none (p_some (v_op op_addAll ok_add (v_op op_addAll ok_add (v_var 6) (v_var 3)) v_int))) (v_fr (o_lc (own := [("_law_bolt", 7)]) rfl sc_l_draft.nd rfl (i_seq (v_slice sl_all ok_slice (v_var 5) (p_some (v_op op_addAll ok_add (v_op op_addAll ok_add (v_var 6) (v_var 3)) v_int)) p_none)) (blkOk_by (N := ["_law_mug_here", "_law_most_hills", "_law_most", "_law_grade", "_law_many", "_law_bolts", "_law_k", "_law_bolt"]) (sc := defScope s_l_draft) (by decide +kernel)) (fun _ _ _ _ _ => (pp_nm 7 sc_l_draft.nd)) (fun _ _ _ _ _ => ts_nil) (fun _ _ _ _ _ => (v_op op_addAll ok_add (v_var 7) v_int))))) sc_l_draft.nd))))
  (b_one (s_ret (v_fr (o_lst (a_cons (v_var 3) (a_cons (v_callTy call_tuple_of ok_tuple rfl L.z_tuple rfl (a_cons (v_var 5) a_nil)) a_nil))))))))))

theorem sc_p_knots_fault : FnScope ["degree", "value", "index", "knot"] ["degree", "value"] (defScope s_p_knots_fault) := ⟨rfl, rfl, rfl, by decide +kernel, rfl, by decide +kernel, by decide +kernel⟩
theorem b_p_knots_fault (L : Lf K mg) : Binds K L.d_p_knots_fault ["degree", "value"] [] := L.F_p_knots_fault.binds fun _ _ _ _ _ _ us hl => match us, hl with | [_, _], _ => rfl
theorem G_p_knots_fault (L : Lf K mg) : FnG P w K mg base 3 L.a_p_knots_fault L.d_p_knots_fault ["degree", "value"] (SpM K mg 2 f_p_knots_fault) := fnM L.F_p_knots_fault sc_p_knots_fault rfl fun cd A outer s H E rm =>
  (b_cons (s_if (t_w (w_or (t_not (t_val (v_callB call_isAll (ok_isA (tab_ok L)) rfl L.z_isinstance rfl (a_cons (v_var 1) (a_cons (v_bty L.z_tuple rfl) a_nil))))) (w_or1 (t_cmp op_lt ok_lt (v_callB call_lenAll ok_len rfl L.z_len rfl (a_cons (v_var 1) a_nil)) (v_op op_addAll ok_add (v_var 0) v_int) rfl)))) (b_one (s_ret v_non)) b_nil)
  (b_cons (s_for po_def rfl (i_enum L.z_enumerate (a_cons (v_var 1) a_nil)) (pp_tp rfl (pp_cons (pp_nm 2 sc_p_knots_fault.nd) (pp_cons (pp_nm 3 sc_p_knots_fault.nd) pp_nil))) (b_cons (s_if (t_w (w_or (t_cmp (op_eqAll rm.units) ok_eq (v_var 2) (v_op op_addAll ok_add (v_op op_addAll ok_add (v_var 0) v_int) (v_gint L.g_MOST_HILLS)) rfl) (w_or1 (t_not (t_val (v_call (G_p_is_between L) (rm.less (by decide)) L.m_p_is_between L.F_p_is_between.kp (b_p_is_between L) px_def (a_cons (v_var 3) (a_cons v_int (a_cons (v_gint L.g_MOST_KNOT) a_nil))))))))) (b_one (s_ret (v_var 2))) b_nil)
  (b_cons (s_if (t_w (w_and (t_cmp op_gt ok_gt (v_var 2) v_int rfl) (w_and1 (t_cmp op_lt ok_lt (v_var 3) (v_ix ix_all ok_ix (v_var 1) (v_op op_sub ok_sub (v_var 2) v_int) (fun _ _ => rfl)) rfl)))) (b_one (s_ret (v_var 2))) b_nil)
  (b_one (s_if (t_w (w_and (t_cmp op_gt ok_gt (v_var 2) (v_var 0) rfl) (w_and1 (t_cmp (op_eqAll rm.units) ok_eq (v_ix ix_all ok_ix (v_var 1) (v_op op_sub ok_sub (v_op op_sub ok_sub (v_var 2) (v_var 0)) v_int) (fun _ _ => rfl)) (v_var 3) rfl)))) (b_one (s_ret (v_var 2))) b_nil)))))
  (b_one (s_ret (v_un un_neg ok_neg v_int)))))

theorem sc_c_Frame___init__ : FnScope ["self", "degree", "knots"] ["self", "degree", "knots"] (defScope s_c_Frame___init__) := ⟨rfl, rfl, rfl, by decide +kernel, rfl, by decide +kernel, by decide +kernel⟩
theorem b_c_Frame___init__ (L : Lf K mg) : Binds K L.d_c_Frame___init__ ["self", "degree", "knots"] [] := L.F_c_Frame___init__.binds fun _ _ _ _ _ _ us hl => match us, hl with | [_, _, _], _ => rfl
theorem G_c_Frame___init__ (L : Lf K mg) : FnG P w K mg base 4 L.a_c_Frame___init__ L.d_c_Frame___init__ ["self", "degree", "knots"] (SpM K mg 3 f_c_Frame___init__) := fnM L.F_c_Frame___init__ sc_c_Frame___init__ rfl fun cd A outer s H E rm =>
  (b_cons (s_if (t_not (t_val (v_call (G_p_is_between L) (rm.less (by decide)) L.m_p_is_between L.F_p_is_between.kp (b_p_is_between L) px_def (a_cons (v_var 1) (a_cons v_int (a_cons (v_gint L.g_MOST_DEGREE) a_nil)))))) (b_one (s_raise1 (Z_InvalidDegree L) rfl (L2N.takes_of rfl rfl rfl rfl) (rm.less (by decide)) (v_var 1))) b_nil)
  (b_cons (s_if (t_cmp (op_neAll rm.units) ok_ne (v_call (G_p_knots_fault L) (rm.less (by decide)) L.m_p_knots_fault L.F_p_knots_fault.kp (b_p_knots_fault L) px_def (a_cons (v_var 1) (a_cons (v_var 2) a_nil))) (v_un un_neg ok_neg v_int) rfl) (b_one (s_raise1 (Z_InvalidKnots L) rfl (L2N.takes_of rfl rfl rfl rfl) (rm.less (by decide)) (v_call (G_p_knots_fault L) (rm.less (by decide)) L.m_p_knots_fault L.F_p_knots_fault.kp (b_p_knots_fault L) px_def (a_cons (v_var 1) (a_cons (v_var 2) a_nil))))) b_nil)
  (b_one (s_fld (fld_ok L) (v_tup (a_cons (v_var 1) (a_cons (v_var 2) a_nil))) (v_var 0)))))

theorem sc_l_made : FnScope ["_law_draft_here"] ["_law_draft_here"] (defScope s_l_made) := ⟨rfl, rfl, rfl, by decide +kernel, rfl, by decide +kernel, by decide +kernel⟩
theorem b_l_made (L : Lf K mg) : Binds K L.d_l_made ["_law_draft_here"] [] := L.F_l_made.binds fun _ _ _ _ _ _ us hl => match us, hl with | [_], _ => rfl
theorem G_l_made (L : Lf K mg) : FnG P w K mg base 6 L.a_l_made L.d_l_made ["_law_draft_here"] (SpM K mg 1 f_l_made) := fnM L.F_l_made sc_l_made rfl fun cd A outer s H E rm =>
  (b_one (s_ret (v_make (fz := true) L.mk_Frame (G_c_Frame___init__ L) (rm.less (by decide)) px_def L.c_Frame (b_c_Frame___init__ L) (a_cons (v_ix ix_all ok_ix (v_var 0) v_int (fun _ _ => rfl)) (a_cons (v_ix ix_all ok_ix (v_var 0) v_int (fun _ _ => rfl)) a_nil)))))

theorem sc_l_sites : FnScope ["_law_mug_here", "_law_draft_here", "_law_many", "_law_low", "_law_high", "_law_menu", "_law_drawn", "_law_k"] ["_law_mug_here", "_law_draft_here", "_law_many"] (defScope s_l_sites) := ⟨rfl, rfl, rfl, by decide +kernel, rfl, by decide +kernel, by decide +kernel⟩
theorem b_l_sites (L : Lf K mg) : Binds K L.d_l_sites ["_law_mug_here", "_law_draft_here", "_law_many"] [] := L.F_l_sites.binds fun _ _ _ _ _ _ us hl => match us, hl with | [_, _, _], _ => rfl
theorem G_l_sites (L : Lf K mg) : FnG P w K mg base 3 L.a_l_sites L.d_l_sites ["_law_mug_here", "_law_draft_here", "_law_many"] (SpM K mg 3 f_l_sites) := fnM L.F_l_sites sc_l_sites rfl fun cd A outer s H E rm =>
  (b_cons (s_unp (pt := (.tp [(.nm 3), (.nm 4)])) (v_tup (a_cons (v_ix ix_all ok_ix (v_ix ix_all ok_ix (v_var 1) v_int (fun _ _ => rfl)) v_int (fun _ _ => rfl)) (a_cons (v_ix ix_all ok_ix (v_ix ix_all ok_ix (v_var 1) v_int (fun _ _ => rfl)) (v_un un_neg ok_neg v_int) (fun _ _ => rfl)) a_nil))) (pp_tp rfl (pp_cons (pp_nm 3 sc_l_sites.nd) (pp_cons (pp_nm 4 sc_l_sites.nd) pp_nil))))
  (b_cons (s_set 5 (v_op op_addAll ok_add (v_op op_addAll ok_add (v_callTy call_list_of ok_list rfl L.z_list rfl (a_cons (v_ix ix_all ok_ix (v_var 1) v_int (fun _ _ => rfl)) a_nil)) (v_fr (o_lst (a_cons (v_callB (call_max2 rfl) ok_max rfl L.z_max rfl (a_cons v_int (a_cons (v_op op_sub ok_sub (v_var 3) v_int) a_nil))) (a_cons (v_op op_addAll ok_add (v_var 4) v_int) a_nil))))) (v_fr (o_lc (own := [("_law_k", 7)]) rfl sc_l_sites.nd rfl (i_range1 L.z_range (a_cons (v_var 2) a_nil)) (blkOk_by (N := ["_law_mug_here", "_law_draft_here", "_law_many", "_law_low", "_law_high", "_law_menu", "_law_drawn", "_law_k"]) (sc := defScope s_l_sites) (by decide +kernel)) (fun _ _ _ _ _ => (pp_nm 7 sc_l_sites.nd)) (fun _ _ _ _ _ => ts_nil) (fun _ _ _ _ _ => (v_op op_addAll ok_add (v_var 3) (v_call (G_l_sip L) (rm.less (by decide)) L.m_l_sip L.F_l_sip.kp (b_l_sip L) px_0 (a_cons (v_var 0) (a_cons (v_op op_addAll ok_add (v_op op_sub ok_sub (v_var 4) (v_var 3)) v_int) a_nil)))))))) sc_l_sites.nd)
  (b_cons (s_setLc 6 (own := [("_law_k", 7)]) rfl sc_l_sites.nd rfl (i_range1 L.z_range (a_cons (v_op op_addAll ok_add v_int (v_call (G_l_sip L) (rm.less (by decide)) L.m_l_sip L.F_l_sip.kp (b_l_sip L) px_def (a_cons (v_var 0) (a_cons (v_var 2) a_nil)))) a_nil)) (blkOk_by (N := ["_law_mug_here", "_law_draft_here", "_law_many", "_law_low", "_law_high", "_law_menu", "_law_drawn", "_law_k"]) (sc := defScope s_l_sites) (by decide +kernel)) (fun _ _ _ _ _ => (pp_nm 7 sc_l_sites.nd)) (fun _ _ _ _ _ => ts_nil) (fun _ _ _ _ _ => (v_op op_addAll ok_add (v_call (G_l_pick L) (rm.less (by decide)) L.m_l_pick L.F_l_pick.kp (b_l_pick L) px_0 (a_cons (v_var 0) (a_cons (v_var 5) a_nil))) (v_call (G_l_pick L) (rm.less (by decide)) L.m_l_pick L.F_l_pick.kp (b_l_pick L) px_0 (a_cons (v_var 0) (a_cons (v_fr (o_lst (a_cons v_int (a_cons v_int (a_cons v_int (a_cons v_int a_nil)))))) a_nil))))))
  (b_one (s_ret (v_callTy call_tuple_of ok_tuple rfl L.z_tuple rfl (a_cons (v_fr (o_uniA (v_var 6) L.z_sorted L.z_set rfl)) a_nil)))))))

theorem sc_l_is_number : FnScope ["_law_thing", "_law_low", "_law_high"] ["_law_thing", "_law_low", "_law_high"] (defScope s_l_is_number) := ⟨rfl, rfl, rfl, by decide +kernel, rfl, by decide +kernel, by decide +kernel⟩
theorem b_l_is_number (L : Lf K mg) : Binds K L.d_l_is_number ["_law_thing", "_law_low", "_law_high"] [] := L.F_l_is_number.binds fun _ _ _ _ _ _ us hl => match us, hl with | [_, _, _], _ => rfl
theorem G_l_is_number (L : Lf K mg) : FnG P w K mg base 1 L.a_l_is_number L.d_l_is_number ["_law_thing", "_law_low", "_law_high"] (SpM K mg 3 f_l_is_number) := fnM L.F_l_is_number sc_l_is_number rfl fun cd A outer s H E rm =>
  (b_one (s_ret (v_and (v_callB call_isAll (ok_isA (tab_ok L)) rfl L.z_isinstance rfl (a_cons (v_var 0) (a_cons (v_bty L.z_int rfl) a_nil))) (v_and (v_not (v_callB call_isAll (ok_isA (tab_ok L)) rfl L.z_isinstance rfl (a_cons (v_var 0) (a_cons (v_bty L.z_bool rfl) a_nil)))) (v_and1 (v_chain op_le ok_le op_le ok_le (v_var 1) (v_var 0) (v_var 2)))))))

theorem sc_l_wrong_sites : FnScope ["_law_thing", "_law_k"] ["_law_thing"] (defScope s_l_wrong_sites) := ⟨rfl, rfl, rfl, by decide +kernel, rfl, by decide +kernel, by decide +kernel⟩
theorem b_l_wrong_sites (L : Lf K mg) : Binds K L.d_l_wrong_sites ["_law_thing"] [] := L.F_l_wrong_sites.binds fun _ _ _ _ _ _ us hl => match us, hl with | [_], _ => rfl
theorem G_l_wrong_sites (L : Lf K mg) : FnG P w K mg base 2 L.a_l_wrong_sites L.d_l_wrong_sites ["_law_thing"] (SpM K mg 1 f_l_wrong_sites) := fnM L.F_l_wrong_sites sc_l_wrong_sites rfl fun cd A outer s H E rm =>
  (b_cons (s_if (t_w (w_or (t_not (t_val (v_callB call_isAll (ok_isA (tab_ok L)) rfl L.z_isinstance rfl (a_cons (v_var 0) (a_cons (v_bty L.z_tuple rfl) a_nil))))) (w_or1 (t_cmp (op_eqL rm.units) ok_eqL (v_var 0) (v_tup a_nil) rfl)))) (b_one (s_ret (v_fr (o_lst (a_cons v_non a_nil))))) b_nil)
  (b_cons (s_for po_def rfl (i_range1 L.z_range (a_cons (v_callB call_lenAll ok_len rfl L.z_len rfl (a_cons (v_var 0) a_nil)) a_nil)) (pp_nm 1 sc_l_wrong_sites.nd) (b_one (s_if (t_w (w_or (t_cmp (op_eqAll rm.units) ok_eq (v_var 1) v_int rfl) (w_or (t_not (t_val (v_call (G_l_is_number L) (rm.less (by decide)) L.m_l_is_number L.F_l_is_number.kp (b_l_is_number L) px_def (a_cons (v_ix ix_all ok_ix (v_var 0) (v_var 1) (fun _ _ => rfl)) (a_cons v_int (a_cons (v_op op_pow ok_pow v_int v_int) a_nil)))))) (w_or1 (t_w (w_and (t_cmp op_gt ok_gt (v_var 1) v_int rfl) (w_and1 (t_cmp op_le ok_le (v_ix ix_all ok_ix (v_var 0) (v_var 1) (fun _ _ => rfl)) (v_ix ix_all ok_ix (v_var 0) (v_op op_sub ok_sub (v_var 1) v_int) (fun _ _ => rfl)) rfl)))))))) (b_one (s_ret (v_fr (o_lst (a_cons (v_var 1) a_nil))))) b_nil)))
  (b_one (s_ret (v_fr (o_lst a_nil))))))

theorem sc_l_odd : FnScope ["_law_mug_here", "_law_some"] ["_law_mug_here"] (defScope s_l_odd) := ⟨rfl, rfl, rfl, by decide +kernel, rfl, by decide +kernel, by decide +kernel⟩
theorem b_l_odd (L : Lf K mg) : Binds K L.d_l_odd ["_law_mug_here"] [] := L.F_l_odd.binds fun _ _ _ _ _ _ us hl => match us, hl with | [_], _ => rfl
theorem G_l_odd (L : Lf K mg) : FnG P w K mg base 2 L.a_l_odd L.d_l_odd ["_law_mug_here"] (SpM K mg 1 f_l_odd) := fnM L.F_l_odd sc_l_odd rfl fun cd A outer s H E rm =>
  (b_cons (s_set 1 (v_fr (o_lst (a_cons v_non (a_cons v_bl (a_cons v_bl (a_cons v_int (a_cons v_int (a_cons (v_un un_neg ok_neg v_int) (a_cons v_int (a_cons (v_op op_pow ok_pow v_int v_int) (a_cons (v_op op_addAll ok_add (v_op op_pow ok_pow v_int v_int) v_int) (a_cons (v_op op_addAll ok_add (v_op op_pow ok_pow v_int v_int) v_int) (a_cons v_str (a_cons v_str (a_cons v_str (a_cons (v_tup a_nil) (a_cons (v_tup (a_cons v_int a_nil)) a_nil))))))))))))))))) sc_l_odd.nd)
  (b_cons (s_set 1 (v_op op_addAll ok_add (v_var 1) (v_fr (o_lst (a_cons (v_tup (a_cons v_int (a_cons v_int a_nil))) (a_cons (v_tup (a_cons v_int (a_cons v_int a_nil))) (a_cons (v_tup (a_cons v_int (a_cons v_int a_nil))) (a_cons (v_fr (o_lst (a_cons v_int (a_cons v_int a_nil)))) (a_cons v_dict0 (a_cons (v_tup (a_cons v_bl (a_cons v_int a_nil))) (a_cons (v_tup (a_cons v_int (a_cons v_str a_nil))) (a_cons (v_tup (a_cons (v_un un_neg ok_neg v_int) (a_cons v_int a_nil))) (a_cons (v_tup (a_cons v_int (a_cons (v_op op_addAll ok_add (v_op op_pow ok_pow v_int v_int) v_int) a_nil))) (a_cons (v_tup (a_cons (v_tup (a_cons v_int (a_cons v_int a_nil))) a_nil)) (a_cons (v_tup (a_cons v_non a_nil)) a_nil)))))))))))))) sc_l_odd.nd)
  (b_one (s_ret (v_ix ix_all ok_ix (v_var 1) (v_call (G_l_sip L) (rm.less (by decide)) L.m_l_sip L.F_l_sip.kp (b_l_sip L) px_def (a_cons (v_var 0) (a_cons (v_callB call_lenAll ok_len rfl L.z_len rfl (a_cons (v_var 1) a_nil)) a_nil))) (fun _ _ => rfl))))))

theorem sc_l_class : FnScope ["_law_e", "_law_sorts", "_law_found", "_law_word", "_law_fits_here"] ["_law_e"] (defScope s_l_class) := ⟨rfl, rfl, rfl, by decide +kernel, rfl, by decide +kernel, by decide +kernel⟩
theorem b_l_class (L : Lf K mg) : Binds K L.d_l_class ["_law_e"] [] := L.F_l_class.binds fun _ _ _ _ _ _ us hl => match us, hl with | [_], _ => rfl
theorem GH_l_class (L : Lf K mg) : FnGH P w K mg base 1 L.a_l_class L.d_l_class ["_law_e"] (SpM K mg 1 f_l_class) := fnMH L.F_l_class sc_l_class rfl fun cd A outer s H E p rm hot =>
  (b_cons (s_set 1 (v_fr (o_lst (a_cons (v_fr (o_lst (a_cons v_str (a_cons (v_callB call_isAll (ok_isA (tab_ok L)) rfl L.z_isinstance rfl (a_cons (v_var 0) (a_cons (v_cls L.c_InvalidText) a_nil))) a_nil)))) (a_cons (v_fr (o_lst (a_cons v_str (a_cons (v_callB call_isAll (ok_isA (tab_ok L)) rfl L.z_isinstance rfl (a_cons (v_var 0) (a_cons (v_cls L.c_InvalidNumber) a_nil))) a_nil)))) a_nil)))) sc_l_class.nd)
  (b_cons (s_set 1 (v_op op_addAll ok_add (v_var 1) (v_fr (o_lst (a_cons (v_fr (o_lst (a_cons v_str (a_cons (v_callB call_isAll (ok_isA (tab_ok L)) rfl L.z_isinstance rfl (a_cons (v_var 0) (a_cons (v_cls L.c_InvalidDegree) a_nil))) a_nil)))) (a_cons (v_fr (o_lst (a_cons v_str (a_cons (v_callB call_isAll (ok_isA (tab_ok L)) rfl L.z_isinstance rfl (a_cons (v_var 0) (a_cons (v_cls L.c_InvalidKnots) a_nil))) a_nil)))) a_nil))))) sc_l_class.nd)
  (b_cons (s_set 1 (v_op op_addAll ok_add (v_var 1) (v_fr (o_lst (a_cons (v_fr (o_lst (a_cons v_str (a_cons (v_callB call_isAll (ok_isA (tab_ok L)) rfl L.z_isinstance rfl (a_cons (v_var 0) (a_cons (v_cls L.c_NotAFrame) a_nil))) a_nil)))) (a_cons (v_fr (o_lst (a_cons v_str (a_cons (v_callB call_isAll (ok_isA (tab_ok L)) rfl L.z_isinstance rfl (a_cons (v_var 0) (a_cons (v_cls L.c_NotACurve) a_nil))) a_nil)))) a_nil))))) sc_l_class.nd)
  (b_cons (s_set 1 (v_op op_addAll ok_add (v_var 1) (v_fr (o_lst (a_cons (v_fr (o_lst (a_cons v_str (a_cons (v_callB call_isAll (ok_isA (tab_ok L)) rfl L.z_isinstance rfl (a_cons (v_var 0) (a_cons (v_cls L.c_InvalidAmounts) a_nil))) a_nil)))) (a_cons (v_fr (o_lst (a_cons v_str (a_cons (v_callB call_isAll (ok_isA (tab_ok L)) rfl L.z_isinstance rfl (a_cons (v_var 0) (a_cons (v_cls L.c_InvalidPlaces) a_nil))) a_nil)))) a_nil))))) sc_l_class.nd)
  (b_cons (s_set 1 (v_op op_addAll ok_add (v_var 1) (v_fr (o_lst (a_cons (v_fr (o_lst (a_cons v_str (a_cons (v_callB call_isAll (ok_isA (tab_ok L)) rfl L.z_isinstance rfl (a_cons (v_var 0) (a_cons (v_cls L.c_InvalidHeights) a_nil))) a_nil)))) (a_cons (v_fr (o_lst (a_cons v_str (a_cons (v_callB call_isAll (ok_isA (tab_ok L)) rfl L.z_isinstance rfl (a_cons (v_var 0) (a_cons (v_cls L.c_InvalidIndex) a_nil))) a_nil)))) a_nil))))) sc_l_class.nd)
  (b_cons (s_set 1 (v_op op_addAll ok_add (v_var 1) (v_fr (o_lst (a_cons (v_fr (o_lst (a_cons v_str (a_cons (v_callB call_isAll (ok_isA (tab_ok L)) rfl L.z_isinstance rfl (a_cons (v_var 0) (a_cons (v_cls L.c_InvalidKnot) a_nil))) a_nil)))) (a_cons (v_fr (o_lst (a_cons v_str (a_cons (v_callB call_isAll (ok_isA (tab_ok L)) rfl L.z_isinstance rfl (a_cons (v_var 0) (a_cons (v_cls L.c_InvalidOffers) a_nil))) a_nil)))) a_nil))))) sc_l_class.nd)
  (b_cons (s_set 1 (v_op op_addAll ok_add (v_var 1) (v_fr (o_lst (a_cons (v_fr (o_lst (a_cons v_str (a_cons (v_callB call_isAll (ok_isA (tab_ok L)) rfl L.z_isinstance rfl (a_cons (v_var 0) (a_cons (v_cls L.c_NotOne) a_nil))) a_nil)))) (a_cons (v_fr (o_lst (a_cons v_str (a_cons (v_callB call_isAll (ok_isA (tab_ok L)) rfl L.z_isinstance rfl (a_cons (v_var 0) (a_cons (v_cls L.c_TooMany) a_nil))) a_nil)))) (a_cons (v_fr (o_lst (a_cons v_str (a_cons (v_callB call_isAll (ok_isA (tab_ok L)) rfl L.z_isinstance rfl (a_cons (v_var 0) (a_cons (v_cls L.c_Broken) a_nil))) a_nil)))) a_nil)))))) sc_l_class.nd)
  (b_cons (s_setLcH 2 (own := [("_law_word", 3), ("_law_fits_here", 4)]) hot sc_l_class.nd rfl (v_var 1) (blkOk_by (N := ["_law_e", "_law_sorts", "_law_found", "_law_word", "_law_fits_here"]) (sc := defScope s_l_class) (by decide +kernel)) (fun _ _ _ _ _ hb => (pp_tpH hb (pp_cons (pp_nm 3 sc_l_class.nd) (pp_cons (pp_nm 4 sc_l_class.nd) pp_nil)))) (fun _ _ _ _ _ => (ts_one (t_val (v_var 4)))) (fun _ _ _ _ _ => (v_var 3)))
  (b_one (s_fz 2 (s_ret (v_if (t_cmp (op_eqAll rm.units) ok_eq (v_callB call_lenAll ok_len rfl L.z_len rfl (a_cons (v_var 2) a_nil)) v_int rfl) (v_ix ix_all ok_ix (v_var 2) v_int (fun _ _ => rfl)) v_str))))))))))))

theorem sc_l_field : FnScope ["_law_e"] ["_law_e"] (defScope s_l_field) := ⟨rfl, rfl, rfl, by decide +kernel, rfl, by decide +kernel, by decide +kernel⟩
theorem b_l_field (L : Lf K mg) : Binds K L.d_l_field ["_law_e"] [] := L.F_l_field.binds fun _ _ _ _ _ _ us hl => match us, hl with | [_], _ => rfl
theorem GH_l_field (L : Lf K mg) : FnGH P w K mg base 1 L.a_l_field L.d_l_field ["_law_e"] (SpM K mg 1 f_l_field) := fnMH L.F_l_field sc_l_field rfl fun cd A outer s H E p rm hot =>
  (b_cons (s_if (t_val (v_callB call_isAll (ok_isA (tab_ok L)) rfl L.z_isinstance rfl (a_cons (v_var 0) (a_cons (v_tup (a_cons (v_cls L.c_InvalidKnots) (a_cons (v_cls L.c_InvalidAmounts) (a_cons (v_cls L.c_InvalidPlaces) (a_cons (v_cls L.c_InvalidHeights) (a_cons (v_cls L.c_InvalidOffers) (a_cons (v_cls L.c_Broken) a_nil))))))) a_nil)))) (b_one (s_ret (v_xf (xf_ok L) (v_var 0)))) b_nil)
  (b_cons (s_if (t_val (v_callB call_isAll (ok_isA (tab_ok L)) rfl L.z_isinstance rfl (a_cons (v_var 0) (a_cons (v_cls L.c_NotOne) a_nil)))) (b_one (s_ret (v_xf (xf_ok L) (v_var 0)))) b_nil)
  (b_one (s_ret (v_if (t_val (v_callB call_isAll (ok_isA (tab_ok L)) rfl L.z_isinstance rfl (a_cons (v_var 0) (a_cons (v_cls L.c_TooMany) a_nil)))) (v_xf (xf_ok L) (v_var 0)) (v_xf (xf_ok L) (v_var 0)))))))

theorem sc_l_error : FnScope ["_law_act", "_law_found", "_law_e", "_law_bases", "_law_plain"] ["_law_act"] (defScope s_l_error) := ⟨rfl, rfl, rfl, by decide +kernel, rfl, by decide +kernel, by decide +kernel⟩
theorem b_l_error (L : Lf K mg) : Binds K L.d_l_error ["_law_act"] [] := L.F_l_error.binds fun _ _ _ _ _ _ us hl => match us, hl with | [_], _ => rfl
theorem G_l_error (L : Lf K mg) (k0 : Nat) (hk : 1 ≤ k0) : ∀ (cd : Value) (A : Around) (outer : List Env) (s : Shared) (H : Hp) (E : XK) (gs : Snap) (n0 : Nat) (t0 : List Cell → Rs D), Rm (k0 + 1) (A.deeper (envOfC "_law_error" (defScope s_l_error) s.heap.objs.size L.a_l_error cd)) →
    ActG (cxOf (L2N.CX P w) P w K mg base ["_law_act", "_law_found", "_law_e", "_law_bases", "_law_plain"] "_law_error" (defScope s_l_error) L.a_l_error cd A outer s H E) gs n0 "_law_act" t0 → PSs (cxOf (L2N.CX P w) P w K mg base ["_law_act", "_law_found", "_law_e", "_law_bases", "_law_plain"] "_law_error" (defScope s_l_error) L.a_l_error cd A outer s H E) (defBody s_l_error) (tS K mg gs (fun _ => E) (m_l_error n0 t0)) := fun cd A outer s H E gs n0 t0 rm act =>
  (b_consG (s_tryG rfl rfl sc_l_error.nd (L2N.takes_of rfl rfl rfl rfl) (sub_ok' L)
  (fun E1 pn xe tk po => (b_oneG (s_setG 1 (act E1 pn xe tk _ _) sc_l_error.nd)))
  (.named tst3 rfl rfl (fun a pn oe hot => (b_cons (s_set 3 (v_fr (o_lst (a_cons (v_callB call_isAll (ok_isA (tab_ok L)) rfl L.z_isinstance rfl (a_cons (v_var 2) (a_cons (v_cls L.c_NotRight) a_nil))) (a_cons (v_callB call_isAll (ok_isA (tab_ok L)) rfl L.z_isinstance rfl (a_cons (v_var 2) (a_cons (v_cls L.c_NotKnown) a_nil))) (a_cons (v_callB call_isAll (ok_isA (tab_ok L)) rfl L.z_isinstance rfl (a_cons (v_var 2) (a_cons (v_cls L.c_NotPossible) a_nil))) a_nil))))) sc_l_error.nd)
  (b_cons (s_set 4 (v_fr (o_lst (a_cons (v_callB call_isAll (ok_isA (tab_ok L)) rfl L.z_isinstance rfl (a_cons (v_var 2) (a_cons (v_bty L.z_ValueError rfl) a_nil))) (a_cons (v_callB call_isAll (ok_isA (tab_ok L)) rfl L.z_isinstance rfl (a_cons (v_var 2) (a_cons (v_bty L.z_LookupError rfl) a_nil))) (a_cons (v_callB call_isAll (ok_isA (tab_ok L)) rfl L.z_isinstance rfl (a_cons (v_var 2) (a_cons (v_bty L.z_ArithmeticError rfl) a_nil))) a_nil))))) sc_l_error.nd)
  (b_one (s_ret (v_fr (o_lst (a_cons (v_if (t_w (w_and (t_cmp (op_eqAll (rm.mark _).units) ok_eq (v_var 3) (v_var 4) rfl) (w_and1 (t_cmp (op_eqAll (rm.mark _).units) ok_eq (v_cntB (v_var 3) v_bl) v_int rfl)))) (v_callH (GH_l_class L) ((rm.mark _).less (by omega)) (hot_sut hot) L.m_l_class L.F_l_class.kp (b_l_class L) px_0 (a_cons (v_var 2) a_nil)) v_str) (a_cons (v_callH (GH_l_field L) ((rm.mark _).less (by omega)) (hot_sut hot) L.m_l_field L.F_l_field.kp (b_l_field L) px_0 (a_cons (v_var 2) a_nil)) a_nil))))))))) .nil))
  (b_oneG ((s_ret (v_fr (o_lst (a_cons v_str (a_cons (v_var 1) a_nil))))) gs)))

theorem sc_l_ends_right : FnScope ["_law_found", "_law_dues"] ["_law_found", "_law_dues"] (defScope s_l_ends_right) := ⟨rfl, rfl, rfl, by decide +kernel, rfl, by decide +kernel, by decide +kernel⟩
theorem b_l_ends_right (L : Lf K mg) : Binds K L.d_l_ends_right ["_law_found", "_law_dues"] [] := L.F_l_ends_right.binds fun _ _ _ _ _ _ us hl => match us, hl with | [_, _], _ => rfl
theorem G_l_ends_right (L : Lf K mg) : FnG P w K mg base 1 L.a_l_ends_right L.d_l_ends_right ["_law_found", "_law_dues"] (SpM K mg 2 f_l_ends_right) := fnM L.F_l_ends_right sc_l_ends_right rfl fun cd A outer s H E rm =>
  (b_one (s_ret (v_if (t_cmp (op_neL rm.units) ok_neL (v_var 1) (v_fr (o_lst a_nil)) rfl) (v_cmp (op_eqAll rm.units) ok_eq (v_callB (call_repr2 rm) ok_repr2 rfl L.z_repr rfl (a_cons (v_var 0) a_nil)) (v_callB (call_repr2 rm) ok_repr2 rfl L.z_repr rfl (a_cons (v_ix ix_all ok_ix (v_var 1) v_int (fun _ _ => rfl)) a_nil)) rfl) (v_cmp (op_eqAll rm.units) ok_eq (v_ix ix_all ok_ix (v_var 0) v_int (fun _ _ => rfl)) v_str rfl))))

theorem sc_l_bent : FnScope ["_law_mug_here", "_law_sites_here", "_law_way", "_law_at"] ["_law_mug_here", "_law_sites_here"] (defScope s_l_bent) := ⟨rfl, rfl, rfl, by decide +kernel, rfl, by decide +kernel, by decide +kernel⟩
theorem b_l_bent (L : Lf K mg) : Binds K L.d_l_bent ["_law_mug_here", "_law_sites_here"] [] := L.F_l_bent.binds fun _ _ _ _ _ _ us hl => match us, hl with | [_, _], _ => rfl
theorem G_l_bent (L : Lf K mg) : FnG P w K mg base 3 L.a_l_bent L.d_l_bent ["_law_mug_here", "_law_sites_here"] (SpM K mg 2 f_l_bent) := fnM L.F_l_bent sc_l_bent rfl fun cd A outer s H E rm =>
  (b_cons (s_par 2 3 (a_cons (v_call (G_l_sip L) (rm.less (by decide)) L.m_l_sip L.F_l_sip.kp (b_l_sip L) px_def (a_cons (v_var 0) (a_cons v_int a_nil))) (a_cons (v_call (G_l_sip L) (rm.less (by decide)) L.m_l_sip L.F_l_sip.kp (b_l_sip L) px_def (a_cons (v_var 0) (a_cons (v_op op_addAll ok_add (v_callB call_lenAll ok_len rfl L.z_len rfl (a_cons (v_var 1) a_nil)) v_int) a_nil))) a_nil)) rfl sc_l_bent.nd)
  (b_cons (s_if (t_cmp op_lt ok_lt (v_var 2) v_int rfl) (b_one (s_ret (v_op op_addAll ok_add (v_op op_addAll ok_add (v_slice sl_all ok_slice (v_var 1) p_none (p_some (v_var 3))) (v_tup (a_cons (v_call (G_l_odd L) (rm.less (by decide)) L.m_l_odd L.F_l_odd.kp (b_l_odd L) px_def (a_cons (v_var 0) a_nil)) a_nil))) (v_slice sl_all ok_slice (v_var 1) (p_some (v_op op_addAll ok_add (v_var 3) (v_call (G_l_sip L) (rm.less (by decide)) L.m_l_sip L.F_l_sip.kp (b_l_sip L) px_def (a_cons (v_var 0) (a_cons v_int a_nil))))) p_none)))) b_nil)
  (b_cons (s_if (t_cmp (op_eqAll rm.units) ok_eq (v_var 2) v_int rfl) (b_one (s_ret (v_tupRg (v_call (G_l_pick L) (rm.less (by decide)) L.m_l_pick L.F_l_pick.kp (b_l_pick L) px_def (a_cons (v_var 0) (a_cons (v_fr (o_lst (a_cons v_int (a_cons v_int (a_cons v_int (a_cons v_int a_nil)))))) a_nil))) L.z_tuple L.z_range rfl))) b_nil)
  (b_one (s_ret (v_if (t_cmp (op_eqAll rm.units) ok_eq (v_var 2) v_int rfl) (v_call (G_l_pick L) (rm.less (by decide)) L.m_l_pick L.F_l_pick.kp (b_l_pick L) px_def (a_cons (v_var 0) (a_cons (v_fr (o_lst (a_cons (v_callTy call_list_of ok_list rfl L.z_list rfl (a_cons (v_var 1) a_nil)) (a_cons (v_tup a_nil) (a_cons v_non (a_cons (v_ix ix_all ok_ix (v_var 1) v_int (fun _ _ => rfl)) (a_cons (v_rev (v_var 1)) (a_cons (v_op op_addAll ok_add (v_var 1) (v_slice sl_all ok_slice (v_var 1) (p_some (v_un un_neg ok_neg v_int)) p_none)) (a_cons v_dict0 a_nil))))))))) a_nil))) (v_var 1)))))))

theorem sc_l_right : FnScope ["_law_mug_here", "_law_turn", "_law_draft_here", "_law_thing", "_law_sites_here", "_law_dues", "_law_found", "_law_k", "_law_each"] ["_law_mug_here"] (defScope s_l_right) := ⟨rfl, rfl, rfl, by decide +kernel, rfl, by decide +kernel, by decide +kernel⟩
theorem b_l_right (L : Lf K mg) : Binds K L.d_l_right ["_law_mug_here"] [] := L.F_l_right.binds fun _ _ _ _ _ _ us hl => match us, hl with | [_], _ => rfl
theorem G_l_right (L : Lf K mg) (TB : TBs L base) : FnG P w K mg base 11 L.a_l_right L.d_l_right ["_law_mug_here"] (SpM K mg 1 (f_l_right L.T)) := fnMc L.F_l_right sc_l_right rfl L.dc_l_right fun A outer s H E rm =>
  (b_cons (s_for po_def rfl (i_range1 L.z_range (a_cons v_int a_nil)) (pp_nm 1 sc_l_right.nd) (b_cons (s_set 2 (v_call (G_l_draft L) (rm.less (by decide)) L.m_l_draft L.F_l_draft.kp (b_l_draft L) px_def (a_cons (v_var 0) (a_cons v_int (a_cons v_int a_nil)))) sc_l_right.nd)
  (b_cons (s_set 3 (v_call (G_l_pick L) (rm.less (by decide)) L.m_l_pick L.F_l_pick.kp (b_l_pick L) px_def (a_cons (v_var 0) (a_cons (v_fr (o_lst (a_cons (v_call (G_l_made L) (rm.less (by decide)) L.m_l_made L.F_l_made.kp (b_l_made L) px_def (a_cons (v_var 2) a_nil)) (a_cons (v_call (G_l_made L) (rm.less (by decide)) L.m_l_made L.F_l_made.kp (b_l_made L) px_def (a_cons (v_var 2) a_nil)) (a_cons (v_call (G_l_made L) (rm.less (by decide)) L.m_l_made L.F_l_made.kp (b_l_made L) px_def (a_cons (v_var 2) a_nil)) (a_cons (v_call (G_l_odd L) (rm.less (by decide)) L.m_l_odd L.F_l_odd.kp (b_l_odd L) px_def (a_cons (v_var 0) a_nil)) a_nil)))))) a_nil))) sc_l_right.nd)
  (b_cons (s_set 4 (v_call (G_l_bent L) (rm.less (by decide)) L.m_l_bent L.F_l_bent.kp (b_l_bent L) px_def (a_cons (v_var 0) (a_cons (v_call (G_l_sites L) (rm.less (by decide)) L.m_l_sites L.F_l_sites.kp (b_l_sites L) px_def (a_cons (v_var 0) (a_cons (v_var 2) (a_cons v_int a_nil)))) a_nil))) sc_l_right.nd)
  (b_cons (s_set 5 (v_fr (o_lc (own := [("_law_k", 7)]) rfl sc_l_right.nd rfl (i_range1 L.z_range (a_cons v_int a_nil)) (blkOk_by (N := ["_law_mug_here", "_law_turn", "_law_draft_here", "_law_thing", "_law_sites_here", "_law_dues", "_law_found", "_law_k", "_law_each"]) (sc := defScope s_l_right) (by decide +kernel)) (fun _ _ _ _ _ => (pp_nm 7 sc_l_right.nd)) (fun _ _ _ _ _ => (ts_one (t_not (t_val (v_callB call_isAll (ok_isA (tab_ok L)) rfl L.z_isinstance rfl (a_cons (v_var 3) (a_cons (v_cls L.c_Frame) a_nil))))))) (fun _ _ _ _ _ => (v_fr (o_lst (a_cons v_str (a_cons (v_var 3) a_nil))))))) sc_l_right.nd)
  (b_cons (s_set 5 (v_op op_addAll ok_add (v_var 5) (v_fr (o_lc (own := [("_law_each", 8)]) rfl sc_l_right.nd rfl (i_seq (v_call (G_l_wrong_sites L) (rm.less (by decide)) L.m_l_wrong_sites L.F_l_wrong_sites.kp (b_l_wrong_sites L) px_def (a_cons (v_var 4) a_nil))) (blkOk_by (N := ["_law_mug_here", "_law_turn", "_law_draft_here", "_law_thing", "_law_sites_here", "_law_dues", "_law_found", "_law_k", "_law_each"]) (sc := defScope s_l_right) (by decide +kernel)) (fun _ _ _ _ _ => (pp_nm 8 sc_l_right.nd)) (fun _ _ _ _ _ => ts_nil) (fun _ _ _ _ _ => (v_fr (o_lst (a_cons v_str (a_cons (v_var 8) a_nil)))))))) sc_l_right.nd)
  (b_cons (s_setO 6 (o_lst (a_cons (v_lam 0 (k := 8) L.F_l_error sc_l_error rfl (Or.inl rfl) L.m_l_error (b_l_error L) (G_l_error L 8 (by decide)) TB.1 rfl rfl (rm.less (by decide)) px_def (LamX.lamS_by (by kernel_rfl)) rfl (fun _ _ _ _ _ => rfl) (fun A outer s H E f c1 rm =>
    (v_call (G_p_rank L) (rm.less (by decide)) L.m_p_rank L.F_p_rank.kp (b_p_rank L) px_lam (a_cons (v_var 3) (a_cons (v_var 4) a_nil))))) a_nil)) sc_l_right.nd)
  (b_cons (s_app 6 (v_lam 0 (k := 8) L.F_l_error sc_l_error rfl (Or.inl rfl) L.m_l_error (b_l_error L) (G_l_error L 8 (by decide)) TB.1 rfl rfl (rm.less (by decide)) px_def (LamX.lamS_by (by kernel_rfl)) rfl (fun _ _ _ _ _ => rfl) (fun A outer s H E f c1 rm =>
    (v_callK0 (G_p_matching L) (rm.less (by decide)) L.m_p_matching L.F_p_matching.kp (bk_p_matching_0_places_frame L) px_lam (k_cons (v_var 4) (k_cons (v_var 3) k_nil))))))
  (b_cons (s_app 6 (v_lam 0 (k := 8) L.F_l_error sc_l_error rfl (Or.inl rfl) L.m_l_error (b_l_error L) (G_l_error L 8 (by decide)) TB.1 rfl rfl (rm.less (by decide)) px_def (LamX.lamS_by (by kernel_rfl)) rfl (fun _ _ _ _ _ => rfl) (fun A outer s H E f c1 rm =>
    (v_call (G_p_all_met L) (rm.less (by decide)) L.m_p_all_met L.F_p_all_met.kp (b_p_all_met L) px_lam (a_cons (v_var 3) (a_cons (v_var 4) a_nil))))))
  (b_cons (s_app 6 (v_lam 0 (k := 8) L.F_l_error sc_l_error rfl (Or.inl rfl) L.m_l_error (b_l_error L) (G_l_error L 8 (by decide)) TB.1 rfl rfl (rm.less (by decide)) px_def (LamX.lamS_by (by kernel_rfl)) rfl (fun _ _ _ _ _ => rfl) (fun A outer s H E f c1 rm =>
    (v_call (G_p_one_at_most L) (rm.less (by decide)) L.m_p_one_at_most L.F_p_one_at_most.kp (b_p_one_at_most L) px_lam (a_cons (v_var 3) (a_cons (v_var 4) a_nil))))))
  (b_cons (s_app 6 (v_lam 0 (k := 8) L.F_l_error sc_l_error rfl (Or.inl rfl) L.m_l_error (b_l_error L) (G_l_error L 8 (by decide)) TB.1 rfl rfl (rm.less (by decide)) px_def (LamX.lamS_by (by kernel_rfl)) rfl (fun _ _ _ _ _ => rfl) (fun A outer s H E f c1 rm =>
    (v_callK0 (G_p_just_one L) (rm.less (by decide)) L.m_p_just_one L.F_p_just_one.kp (bk_p_just_one_0_frame_places L) px_lam (k_cons (v_var 3) (k_cons (v_var 4) k_nil))))))
  (b_one (s_fz 6 (s_if (t_not (t_val (v_callB (cr_all rfl) ok_all rfl L.z_all rfl (a_cons (v_fr (o_lc (own := [("_law_each", 8)]) rfl sc_l_right.nd rfl (i_seq (v_var 6)) (blkOk_by (N := ["_law_mug_here", "_law_turn", "_law_draft_here", "_law_thing", "_law_sites_here", "_law_dues", "_law_found", "_law_k", "_law_each"]) (sc := defScope s_l_right) (by decide +kernel)) (fun _ _ _ _ _ => (pp_nm 8 sc_l_right.nd)) (fun _ _ _ _ _ => ts_nil) (fun _ _ _ _ _ => (v_call (G_l_ends_right L) (rm.less (by decide)) L.m_l_ends_right L.F_l_ends_right.kp (b_l_ends_right L) px_0 (a_cons (v_var 8) (a_cons (v_var 5) a_nil)))))) a_nil)))) (b_one (s_ret v_bl)) b_nil))))))))))))))
  (b_one (s_ret v_bl)))

theorem sc_p_law : FnScope ["_law_script", "_law_turn"] ["_law_script"] (defScope s_p_law) := ⟨rfl, rfl, rfl, by decide +kernel, rfl, by decide +kernel, by decide +kernel⟩
theorem b_p_law (L : Lf K mg) : Binds K L.d_p_law ["_law_script"] [] := L.F_p_law.binds fun _ _ _ _ _ _ us hl => match us, hl with | [_], _ => rfl
theorem G_p_law (L : Lf K mg) (TB : TBs L base) : FnG P w K mg base 12 L.a_p_law L.d_p_law ["_law_script"] (SpM K mg 1 (f_p_law L.T)) := fnM L.F_p_law sc_p_law rfl fun cd A outer s H E rm =>
  (b_one (s_ret (v_callB (cr_all rfl) ok_all rfl L.z_all rfl (a_cons (v_fr (o_lc (own := [("_law_turn", 1)]) rfl sc_p_law.nd rfl (i_range1 L.z_range (a_cons (v_callB (call_max2 rfl) ok_max rfl L.z_max rfl (a_cons v_int (a_cons (v_callB (call_min2 rfl) ok_min rfl L.z_min rfl (a_cons (v_callB call_lenAll ok_len rfl L.z_len rfl (a_cons (v_var 0) a_nil)) (a_cons v_int a_nil))) a_nil))) a_nil)) (blkOk_by (N := ["_law_script", "_law_turn"]) (sc := defScope s_p_law) (by decide +kernel)) (fun _ _ _ _ _ => (pp_nm 1 sc_p_law.nd)) (fun _ _ _ _ _ => ts_nil) (fun _ _ _ _ _ => (v_call (G_l_right L TB) (rm.less (by decide)) L.m_l_right L.F_l_right.kp (b_l_right L) px_0 (a_cons (v_call (G_l_mug L) (rm.less (by decide)) L.m_l_mug L.F_l_mug.kp (b_l_mug L) px_0 (a_cons (v_var 0) (a_cons (v_var 1) a_nil))) a_nil))))) a_nil))))

end
end K14

namespace K14
open PySem PySem.Spec L2 DL
open PyProof.Rows hiding St
theorem all_mk {P : Program} {w : World} {K : PySem.W.Frag} {h : Heap} {mg : Str → Option Value} {fa : Addr} (X : K.In h) (G : h.Ns mainGlobals mg) (hfa : mg "law" = some (.ref fa))
    {ad_l_mug : Addr} {oc_l_mug kV_l_mug dc_l_mug pm_l_mug cd_l_mug ct_l_mug : Value} {od_l_mug an_l_mug : Option Addr} {sl_l_mug : Array (Option Value)}
    {ad_c_Frame_hills : Addr} {oc_c_Frame_hills kV_c_Frame_hills dc_c_Frame_hills pm_c_Frame_hills cd_c_Frame_hills ct_c_Frame_hills : Value} {od_c_Frame_hills an_c_Frame_hills : Option Addr} {sl_c_Frame_hills : Array (Option Value)}
    {C_Frame : Addr}
    {pq_c_Frame_hills : Addr} {rest_c_Frame_hills : List Value}
    {ad_c_Frame_degree : Addr} {oc_c_Frame_degree kV_c_Frame_degree dc_c_Frame_degree pm_c_Frame_degree cd_c_Frame_degree ct_c_Frame_degree : Value} {od_c_Frame_degree an_c_Frame_degree : Option Addr} {sl_c_Frame_degree : Array (Option Value)}
    {pq_c_Frame_degree : Addr} {rest_c_Frame_degree : List Value}
    {ad_c_Frame_knots : Addr} {oc_c_Frame_knots kV_c_Frame_knots dc_c_Frame_knots pm_c_Frame_knots cd_c_Frame_knots ct_c_Frame_knots : Value} {od_c_Frame_knots an_c_Frame_knots : Option Addr} {sl_c_Frame_knots : Array (Option Value)}
    {pq_c_Frame_knots : Addr} {rest_c_Frame_knots : List Value}
    {ad_p_is_up : Addr} {oc_p_is_up kV_p_is_up dc_p_is_up pm_p_is_up cd_p_is_up ct_p_is_up : Value} {od_p_is_up an_p_is_up : Option Addr} {sl_p_is_up : Array (Option Value)}
    {ad_p_lengths_from : Addr} {oc_p_lengths_from kV_p_lengths_from dc_p_lengths_from pm_p_lengths_from cd_p_lengths_from ct_p_lengths_from : Value} {od_p_lengths_from an_p_lengths_from : Option Addr} {sl_p_lengths_from : Array (Option Value)}
    {ad_p_rank_of : Addr} {oc_p_rank_of kV_p_rank_of dc_p_rank_of pm_p_rank_of cd_p_rank_of ct_p_rank_of : Value} {od_p_rank_of an_p_rank_of : Option Addr} {sl_p_rank_of : Array (Option Value)}
    {ad_p_is_integer : Addr} {oc_p_is_integer kV_p_is_integer dc_p_is_integer pm_p_is_integer cd_p_is_integer ct_p_is_integer : Value} {od_p_is_integer an_p_is_integer : Option Addr} {sl_p_is_integer : Array (Option Value)}
    {ad_p_is_between : Addr} {oc_p_is_between kV_p_is_between dc_p_is_between pm_p_is_between cd_p_is_between ct_p_is_between : Value} {od_p_is_between an_p_is_between : Option Addr} {sl_p_is_between : Array (Option Value)}
    {ad_p_is_place : Addr} {oc_p_is_place kV_p_is_place dc_p_is_place pm_p_is_place cd_p_is_place ct_p_is_place : Value} {od_p_is_place an_p_is_place : Option Addr} {sl_p_is_place : Array (Option Value)}
    {ad_p_places_fault : Addr} {oc_p_places_fault kV_p_places_fault dc_p_places_fault pm_p_places_fault cd_p_places_fault ct_p_places_fault : Value} {od_p_places_fault an_p_places_fault : Option Addr} {sl_p_places_fault : Array (Option Value)}
    {ad_p_check_places : Addr} {oc_p_check_places kV_p_check_places dc_p_check_places pm_p_check_places cd_p_check_places ct_p_check_places : Value} {od_p_check_places an_p_check_places : Option Addr} {sl_p_check_places : Array (Option Value)}
    {ad_p_check_frame : Addr} {oc_p_check_frame kV_p_check_frame dc_p_check_frame pm_p_check_frame cd_p_check_frame ct_p_check_frame : Value} {od_p_check_frame an_p_check_frame : Option Addr} {sl_p_check_frame : Array (Option Value)}
    {ad_p_check_both : Addr} {oc_p_check_both kV_p_check_both dc_p_check_both pm_p_check_both cd_p_check_both ct_p_check_both : Value} {od_p_check_both an_p_check_both : Option Addr} {sl_p_check_both : Array (Option Value)}
    {ad_p_rank : Addr} {oc_p_rank kV_p_rank dc_p_rank pm_p_rank cd_p_rank ct_p_rank : Value} {od_p_rank an_p_rank : Option Addr} {sl_p_rank : Array (Option Value)}
    {ad_p_pairs_of : Addr} {oc_p_pairs_of kV_p_pairs_of dc_p_pairs_of pm_p_pairs_of cd_p_pairs_of ct_p_pairs_of : Value} {od_p_pairs_of an_p_pairs_of : Option Addr} {sl_p_pairs_of : Array (Option Value)}
    {ad_p_matching : Addr} {oc_p_matching kV_p_matching dc_p_matching pm_p_matching cd_p_matching ct_p_matching : Value} {od_p_matching an_p_matching : Option Addr} {sl_p_matching : Array (Option Value)}
    {ad_p_all_met : Addr} {oc_p_all_met kV_p_all_met dc_p_all_met pm_p_all_met cd_p_all_met ct_p_all_met : Value} {od_p_all_met an_p_all_met : Option Addr} {sl_p_all_met : Array (Option Value)}
    {ad_p_one_at_most : Addr} {oc_p_one_at_most kV_p_one_at_most dc_p_one_at_most pm_p_one_at_most cd_p_one_at_most ct_p_one_at_most : Value} {od_p_one_at_most an_p_one_at_most : Option Addr} {sl_p_one_at_most : Array (Option Value)}
    {ad_p_just_one : Addr} {oc_p_just_one kV_p_just_one dc_p_just_one pm_p_just_one cd_p_just_one ct_p_just_one : Value} {od_p_just_one an_p_just_one : Option Addr} {sl_p_just_one : Array (Option Value)}
    {ad_l_sip : Addr} {oc_l_sip kV_l_sip dc_l_sip pm_l_sip cd_l_sip ct_l_sip : Value} {od_l_sip an_l_sip : Option Addr} {sl_l_sip : Array (Option Value)}
    {ad_l_pick : Addr} {oc_l_pick kV_l_pick dc_l_pick pm_l_pick cd_l_pick ct_l_pick : Value} {od_l_pick an_l_pick : Option Addr} {sl_l_pick : Array (Option Value)}
    {ad_l_draft : Addr} {oc_l_draft kV_l_draft dc_l_draft pm_l_draft cd_l_draft ct_l_draft : Value} {od_l_draft an_l_draft : Option Addr} {sl_l_draft : Array (Option Value)}
    {ad_p_knots_fault : Addr} {oc_p_knots_fault kV_p_knots_fault dc_p_knots_fault pm_p_knots_fault cd_p_knots_fault ct_p_knots_fault : Value} {od_p_knots_fault an_p_knots_fault : Option Addr} {sl_p_knots_fault : Array (Option Value)}
    {ad_c_Frame___init__ : Addr} {oc_c_Frame___init__ kV_c_Frame___init__ dc_c_Frame___init__ pm_c_Frame___init__ cd_c_Frame___init__ ct_c_Frame___init__ : Value} {od_c_Frame___init__ an_c_Frame___init__ : Option Addr} {sl_c_Frame___init__ : Array (Option Value)}
    {ad_l_made : Addr} {oc_l_made kV_l_made dc_l_made pm_l_made cd_l_made ct_l_made : Value} {od_l_made an_l_made : Option Addr} {sl_l_made : Array (Option Value)}
    {ad_l_sites : Addr} {oc_l_sites kV_l_sites dc_l_sites pm_l_sites cd_l_sites ct_l_sites : Value} {od_l_sites an_l_sites : Option Addr} {sl_l_sites : Array (Option Value)}
    {ad_l_is_number : Addr} {oc_l_is_number kV_l_is_number dc_l_is_number pm_l_is_number cd_l_is_number ct_l_is_number : Value} {od_l_is_number an_l_is_number : Option Addr} {sl_l_is_number : Array (Option Value)}
    {ad_l_wrong_sites : Addr} {oc_l_wrong_sites kV_l_wrong_sites dc_l_wrong_sites pm_l_wrong_sites cd_l_wrong_sites ct_l_wrong_sites : Value} {od_l_wrong_sites an_l_wrong_sites : Option Addr} {sl_l_wrong_sites : Array (Option Value)}
    {ad_l_odd : Addr} {oc_l_odd kV_l_odd dc_l_odd pm_l_odd cd_l_odd ct_l_odd : Value} {od_l_odd an_l_odd : Option Addr} {sl_l_odd : Array (Option Value)}
    {ad_l_class : Addr} {oc_l_class kV_l_class dc_l_class pm_l_class cd_l_class ct_l_class : Value} {od_l_class an_l_class : Option Addr} {sl_l_class : Array (Option Value)}
    {ad_l_field : Addr} {oc_l_field kV_l_field dc_l_field pm_l_field cd_l_field ct_l_field : Value} {od_l_field an_l_field : Option Addr} {sl_l_field : Array (Option Value)}
    {ad_l_error : Addr} {oc_l_error kV_l_error dc_l_error pm_l_error cd_l_error ct_l_error : Value} {od_l_error an_l_error : Option Addr} {sl_l_error : Array (Option Value)}
    {ad_l_ends_right : Addr} {oc_l_ends_right kV_l_ends_right dc_l_ends_right pm_l_ends_right cd_l_ends_right ct_l_ends_right : Value} {od_l_ends_right an_l_ends_right : Option Addr} {sl_l_ends_right : Array (Option Value)}
    {ad_l_bent : Addr} {oc_l_bent kV_l_bent dc_l_bent pm_l_bent cd_l_bent ct_l_bent : Value} {od_l_bent an_l_bent : Option Addr} {sl_l_bent : Array (Option Value)}
    {ad_l_right : Addr} {oc_l_right kV_l_right dc_l_right pm_l_right ct_l_right : Value} {od_l_right an_l_right : Option Addr} {sl_l_right : Array (Option Value)}
    {cT_l_right pT_l_right : Addr}
    {ck_l_right : Value} {dk_l_right : Option Addr} {vs_l_right : Array Value} {sk_l_right : Array (Option Value)}
    {ad_p_law : Addr} {oc_p_law kV_p_law dc_p_law pm_p_law cd_p_law ct_p_law : Value} {od_p_law an_p_law : Option Addr} {sl_p_law : Array (Option Value)}
    {t_MOST_DEGREE : Tok}
    {t_MOST_HILLS : Tok}
    {t_MOST_KNOT : Tok}
    {t_MOST_PLACES : Tok}
    {C_NotRight : Addr}
    {C_InvalidText : Addr}
    {C_InvalidNumber : Addr}
    {C_InvalidIndex : Addr}
    {C_InvalidDegree : Addr}
    {C_InvalidKnot : Addr}
    {C_NotAFrame : Addr}
    {C_NotACurve : Addr}
    {C_InvalidKnots : Addr}
    {C_InvalidAmounts : Addr}
    {C_InvalidPlaces : Addr}
    {C_InvalidHeights : Addr}
    {C_InvalidOffers : Addr}
    {C_NotKnown : Addr}
    {C_NotPossible : Addr}
    {C_TooMany : Addr}
    {C_NotOne : Addr}
    {C_Broken : Addr}
    {fi_InvalidPlaces : Addr} {ioc_InvalidPlaces ikV_InvalidPlaces idc_InvalidPlaces ipm_InvalidPlaces icd_InvalidPlaces ict_InvalidPlaces : Value} {iod_InvalidPlaces ian_InvalidPlaces : Option Addr} {isl_InvalidPlaces : Array (Option Value)}
    {fi_NotAFrame : Addr} {ioc_NotAFrame ikV_NotAFrame idc_NotAFrame ipm_NotAFrame icd_NotAFrame ict_NotAFrame : Value} {iod_NotAFrame ian_NotAFrame : Option Addr} {isl_NotAFrame : Array (Option Value)}
    {fi_InvalidKnots : Addr} {ioc_InvalidKnots ikV_InvalidKnots idc_InvalidKnots ipm_InvalidKnots icd_InvalidKnots ict_InvalidKnots : Value} {iod_InvalidKnots ian_InvalidKnots : Option Addr} {isl_InvalidKnots : Array (Option Value)}
    {fi_InvalidDegree : Addr} {ioc_InvalidDegree ikV_InvalidDegree idc_InvalidDegree ipm_InvalidDegree icd_InvalidDegree ict_InvalidDegree : Value} {iod_InvalidDegree ian_InvalidDegree : Option Addr} {isl_InvalidDegree : Array (Option Value)}
    (a_l_mug : PySem.W.nsIn K mainGlobals "_law_mug" = some (some (.ref ad_l_mug)))
    (l_l_mug : K.lookup ad_l_mug = some ⟨oc_l_mug, od_l_mug, .func (PySem.W.fnOf "_law_mug" "_law_mug" (defArgs s_l_mug) (defBody s_l_mug) (defScope s_l_mug) .none kV_l_mug dc_l_mug pm_l_mug an_l_mug cd_l_mug ct_l_mug), sl_l_mug⟩)
    (c_l_mug : PySem.W.codeIn K cd_l_mug "_law_mug" = true)
    (k_l_mug : PySem.W.keepIn K (.ref ad_l_mug) = true)
    (b_Frame : PySem.W.nsIn K mainGlobals "Frame" = some (some (.ref C_Frame)))
    (q1_c_Frame_hills : PySem.W.findIn K (.ref C_Frame) "hills" = some (some (.ref pq_c_Frame_hills)))
    (q2_c_Frame_hills : PySem.W.specialIn K (.ref pq_c_Frame_hills) "__get__" = some (some (.builtin "property.__get__")))
    (q3_c_Frame_hills : PySem.W.takesIn K (.ref pq_c_Frame_hills) = some true)
    (a_c_Frame_hills : PySem.W.recIn K pq_c_Frame_hills "property" = some (.ref ad_c_Frame_hills :: rest_c_Frame_hills))
    (l_c_Frame_hills : K.lookup ad_c_Frame_hills = some ⟨oc_c_Frame_hills, od_c_Frame_hills, .func (PySem.W.fnOf "hills" "Frame.hills" (defArgs s_c_Frame_hills) (defBody s_c_Frame_hills) (defScope s_c_Frame_hills) .none kV_c_Frame_hills dc_c_Frame_hills pm_c_Frame_hills an_c_Frame_hills cd_c_Frame_hills ct_c_Frame_hills), sl_c_Frame_hills⟩)
    (c_c_Frame_hills : PySem.W.codeIn K cd_c_Frame_hills "Frame.hills" = true)
    (k_c_Frame_hills : PySem.W.keepIn K (.ref ad_c_Frame_hills) = true)
    (q1_c_Frame_degree : PySem.W.findIn K (.ref C_Frame) "degree" = some (some (.ref pq_c_Frame_degree)))
    (q2_c_Frame_degree : PySem.W.specialIn K (.ref pq_c_Frame_degree) "__get__" = some (some (.builtin "property.__get__")))
    (q3_c_Frame_degree : PySem.W.takesIn K (.ref pq_c_Frame_degree) = some true)
    (a_c_Frame_degree : PySem.W.recIn K pq_c_Frame_degree "property" = some (.ref ad_c_Frame_degree :: rest_c_Frame_degree))
    (l_c_Frame_degree : K.lookup ad_c_Frame_degree = some ⟨oc_c_Frame_degree, od_c_Frame_degree, .func (PySem.W.fnOf "degree" "Frame.degree" (defArgs s_c_Frame_degree) (defBody s_c_Frame_degree) (defScope s_c_Frame_degree) .none kV_c_Frame_degree dc_c_Frame_degree pm_c_Frame_degree an_c_Frame_degree cd_c_Frame_degree ct_c_Frame_degree), sl_c_Frame_degree⟩)
    (c_c_Frame_degree : PySem.W.codeIn K cd_c_Frame_degree "Frame.degree" = true)
    (k_c_Frame_degree : PySem.W.keepIn K (.ref ad_c_Frame_degree) = true)
    (q1_c_Frame_knots : PySem.W.findIn K (.ref C_Frame) "knots" = some (some (.ref pq_c_Frame_knots)))
    (q2_c_Frame_knots : PySem.W.specialIn K (.ref pq_c_Frame_knots) "__get__" = some (some (.builtin "property.__get__")))
    (q3_c_Frame_knots : PySem.W.takesIn K (.ref pq_c_Frame_knots) = some true)
    (a_c_Frame_knots : PySem.W.recIn K pq_c_Frame_knots "property" = some (.ref ad_c_Frame_knots :: rest_c_Frame_knots))
    (l_c_Frame_knots : K.lookup ad_c_Frame_knots = some ⟨oc_c_Frame_knots, od_c_Frame_knots, .func (PySem.W.fnOf "knots" "Frame.knots" (defArgs s_c_Frame_knots) (defBody s_c_Frame_knots) (defScope s_c_Frame_knots) .none kV_c_Frame_knots dc_c_Frame_knots pm_c_Frame_knots an_c_Frame_knots cd_c_Frame_knots ct_c_Frame_knots), sl_c_Frame_knots⟩)
    (c_c_Frame_knots : PySem.W.codeIn K cd_c_Frame_knots "Frame.knots" = true)
    (k_c_Frame_knots : PySem.W.keepIn K (.ref ad_c_Frame_knots) = true)
    (a_p_is_up : PySem.W.nsIn K mainGlobals "is_up" = some (some (.ref ad_p_is_up)))
    (l_p_is_up : K.lookup ad_p_is_up = some ⟨oc_p_is_up, od_p_is_up, .func (PySem.W.fnOf "is_up" "is_up" (defArgs s_p_is_up) (defBody s_p_is_up) (defScope s_p_is_up) .none kV_p_is_up dc_p_is_up pm_p_is_up an_p_is_up cd_p_is_up ct_p_is_up), sl_p_is_up⟩)
    (c_p_is_up : PySem.W.codeIn K cd_p_is_up "is_up" = true)
    (k_p_is_up : PySem.W.keepIn K (.ref ad_p_is_up) = true)
    (a_p_lengths_from : PySem.W.nsIn K mainGlobals "lengths_from" = some (some (.ref ad_p_lengths_from)))
    (l_p_lengths_from : K.lookup ad_p_lengths_from = some ⟨oc_p_lengths_from, od_p_lengths_from, .func (PySem.W.fnOf "lengths_from" "lengths_from" (defArgs s_p_lengths_from) (defBody s_p_lengths_from) (defScope s_p_lengths_from) .none kV_p_lengths_from dc_p_lengths_from pm_p_lengths_from an_p_lengths_from cd_p_lengths_from ct_p_lengths_from), sl_p_lengths_from⟩)
    (c_p_lengths_from : PySem.W.codeIn K cd_p_lengths_from "lengths_from" = true)
    (k_p_lengths_from : PySem.W.keepIn K (.ref ad_p_lengths_from) = true)
    (a_p_rank_of : PySem.W.nsIn K mainGlobals "rank_of" = some (some (.ref ad_p_rank_of)))
    (l_p_rank_of : K.lookup ad_p_rank_of = some ⟨oc_p_rank_of, od_p_rank_of, .func (PySem.W.fnOf "rank_of" "rank_of" (defArgs s_p_rank_of) (defBody s_p_rank_of) (defScope s_p_rank_of) .none kV_p_rank_of dc_p_rank_of pm_p_rank_of an_p_rank_of cd_p_rank_of ct_p_rank_of), sl_p_rank_of⟩)
    (c_p_rank_of : PySem.W.codeIn K cd_p_rank_of "rank_of" = true)
    (k_p_rank_of : PySem.W.keepIn K (.ref ad_p_rank_of) = true)
    (a_p_is_integer : PySem.W.nsIn K mainGlobals "is_integer" = some (some (.ref ad_p_is_integer)))
    (l_p_is_integer : K.lookup ad_p_is_integer = some ⟨oc_p_is_integer, od_p_is_integer, .func (PySem.W.fnOf "is_integer" "is_integer" (defArgs s_p_is_integer) (defBody s_p_is_integer) (defScope s_p_is_integer) .none kV_p_is_integer dc_p_is_integer pm_p_is_integer an_p_is_integer cd_p_is_integer ct_p_is_integer), sl_p_is_integer⟩)
    (c_p_is_integer : PySem.W.codeIn K cd_p_is_integer "is_integer" = true)
    (k_p_is_integer : PySem.W.keepIn K (.ref ad_p_is_integer) = true)
    (a_p_is_between : PySem.W.nsIn K mainGlobals "is_between" = some (some (.ref ad_p_is_between)))
    (l_p_is_between : K.lookup ad_p_is_between = some ⟨oc_p_is_between, od_p_is_between, .func (PySem.W.fnOf "is_between" "is_between" (defArgs s_p_is_between) (defBody s_p_is_between) (defScope s_p_is_between) .none kV_p_is_between dc_p_is_between pm_p_is_between an_p_is_between cd_p_is_between ct_p_is_between), sl_p_is_between⟩)
    (c_p_is_between : PySem.W.codeIn K cd_p_is_between "is_between" = true)
    (k_p_is_between : PySem.W.keepIn K (.ref ad_p_is_between) = true)
    (a_p_is_place : PySem.W.nsIn K mainGlobals "is_place" = some (some (.ref ad_p_is_place)))
    (l_p_is_place : K.lookup ad_p_is_place = some ⟨oc_p_is_place, od_p_is_place, .func (PySem.W.fnOf "is_place" "is_place" (defArgs s_p_is_place) (defBody s_p_is_place) (defScope s_p_is_place) .none kV_p_is_place dc_p_is_place pm_p_is_place an_p_is_place cd_p_is_place ct_p_is_place), sl_p_is_place⟩)
    (c_p_is_place : PySem.W.codeIn K cd_p_is_place "is_place" = true)
    (k_p_is_place : PySem.W.keepIn K (.ref ad_p_is_place) = true)
    (a_p_places_fault : PySem.W.nsIn K mainGlobals "places_fault" = some (some (.ref ad_p_places_fault)))
    (l_p_places_fault : K.lookup ad_p_places_fault = some ⟨oc_p_places_fault, od_p_places_fault, .func (PySem.W.fnOf "places_fault" "places_fault" (defArgs s_p_places_fault) (defBody s_p_places_fault) (defScope s_p_places_fault) .none kV_p_places_fault dc_p_places_fault pm_p_places_fault an_p_places_fault cd_p_places_fault ct_p_places_fault), sl_p_places_fault⟩)
    (c_p_places_fault : PySem.W.codeIn K cd_p_places_fault "places_fault" = true)
    (k_p_places_fault : PySem.W.keepIn K (.ref ad_p_places_fault) = true)
    (a_p_check_places : PySem.W.nsIn K mainGlobals "check_places" = some (some (.ref ad_p_check_places)))
    (l_p_check_places : K.lookup ad_p_check_places = some ⟨oc_p_check_places, od_p_check_places, .func (PySem.W.fnOf "check_places" "check_places" (defArgs s_p_check_places) (defBody s_p_check_places) (defScope s_p_check_places) .none kV_p_check_places dc_p_check_places pm_p_check_places an_p_check_places cd_p_check_places ct_p_check_places), sl_p_check_places⟩)
    (c_p_check_places : PySem.W.codeIn K cd_p_check_places "check_places" = true)
    (k_p_check_places : PySem.W.keepIn K (.ref ad_p_check_places) = true)
    (a_p_check_frame : PySem.W.nsIn K mainGlobals "check_frame" = some (some (.ref ad_p_check_frame)))
    (l_p_check_frame : K.lookup ad_p_check_frame = some ⟨oc_p_check_frame, od_p_check_frame, .func (PySem.W.fnOf "check_frame" "check_frame" (defArgs s_p_check_frame) (defBody s_p_check_frame) (defScope s_p_check_frame) .none kV_p_check_frame dc_p_check_frame pm_p_check_frame an_p_check_frame cd_p_check_frame ct_p_check_frame), sl_p_check_frame⟩)
    (c_p_check_frame : PySem.W.codeIn K cd_p_check_frame "check_frame" = true)
    (k_p_check_frame : PySem.W.keepIn K (.ref ad_p_check_frame) = true)
    (a_p_check_both : PySem.W.nsIn K mainGlobals "check_both" = some (some (.ref ad_p_check_both)))
    (l_p_check_both : K.lookup ad_p_check_both = some ⟨oc_p_check_both, od_p_check_both, .func (PySem.W.fnOf "check_both" "check_both" (defArgs s_p_check_both) (defBody s_p_check_both) (defScope s_p_check_both) .none kV_p_check_both dc_p_check_both pm_p_check_both an_p_check_both cd_p_check_both ct_p_check_both), sl_p_check_both⟩)
    (c_p_check_both : PySem.W.codeIn K cd_p_check_both "check_both" = true)
    (k_p_check_both : PySem.W.keepIn K (.ref ad_p_check_both) = true)
    (a_p_rank : PySem.W.nsIn K mainGlobals "rank" = some (some (.ref ad_p_rank)))
    (l_p_rank : K.lookup ad_p_rank = some ⟨oc_p_rank, od_p_rank, .func (PySem.W.fnOf "rank" "rank" (defArgs s_p_rank) (defBody s_p_rank) (defScope s_p_rank) .none kV_p_rank dc_p_rank pm_p_rank an_p_rank cd_p_rank ct_p_rank), sl_p_rank⟩)
    (c_p_rank : PySem.W.codeIn K cd_p_rank "rank" = true)
    (k_p_rank : PySem.W.keepIn K (.ref ad_p_rank) = true)
    (a_p_pairs_of : PySem.W.nsIn K mainGlobals "pairs_of" = some (some (.ref ad_p_pairs_of)))
    (l_p_pairs_of : K.lookup ad_p_pairs_of = some ⟨oc_p_pairs_of, od_p_pairs_of, .func (PySem.W.fnOf "pairs_of" "pairs_of" (defArgs s_p_pairs_of) (defBody s_p_pairs_of) (defScope s_p_pairs_of) .none kV_p_pairs_of dc_p_pairs_of pm_p_pairs_of an_p_pairs_of cd_p_pairs_of ct_p_pairs_of), sl_p_pairs_of⟩)
    (c_p_pairs_of : PySem.W.codeIn K cd_p_pairs_of "pairs_of" = true)
    (k_p_pairs_of : PySem.W.keepIn K (.ref ad_p_pairs_of) = true)
    (a_p_matching : PySem.W.nsIn K mainGlobals "matching" = some (some (.ref ad_p_matching)))
    (l_p_matching : K.lookup ad_p_matching = some ⟨oc_p_matching, od_p_matching, .func (PySem.W.fnOf "matching" "matching" (defArgs s_p_matching) (defBody s_p_matching) (defScope s_p_matching) .none kV_p_matching dc_p_matching pm_p_matching an_p_matching cd_p_matching ct_p_matching), sl_p_matching⟩)
    (c_p_matching : PySem.W.codeIn K cd_p_matching "matching" = true)
    (k_p_matching : PySem.W.keepIn K (.ref ad_p_matching) = true)
    (a_p_all_met : PySem.W.nsIn K mainGlobals "all_met" = some (some (.ref ad_p_all_met)))
    (l_p_all_met : K.lookup ad_p_all_met = some ⟨oc_p_all_met, od_p_all_met, .func (PySem.W.fnOf "all_met" "all_met" (defArgs s_p_all_met) (defBody s_p_all_met) (defScope s_p_all_met) .none kV_p_all_met dc_p_all_met pm_p_all_met an_p_all_met cd_p_all_met ct_p_all_met), sl_p_all_met⟩)
    (c_p_all_met : PySem.W.codeIn K cd_p_all_met "all_met" = true)
    (k_p_all_met : PySem.W.keepIn K (.ref ad_p_all_met) = true)
    (a_p_one_at_most : PySem.W.nsIn K mainGlobals "one_at_most" = some (some (.ref ad_p_one_at_most)))
    (l_p_one_at_most : K.lookup ad_p_one_at_most = some ⟨oc_p_one_at_most, od_p_one_at_most, .func (PySem.W.fnOf "one_at_most" "one_at_most" (defArgs s_p_one_at_most) (defBody s_p_one_at_most) (defScope s_p_one_at_most) .none kV_p_one_at_most dc_p_one_at_most pm_p_one_at_most an_p_one_at_most cd_p_one_at_most ct_p_one_at_most), sl_p_one_at_most⟩)
    (c_p_one_at_most : PySem.W.codeIn K cd_p_one_at_most "one_at_most" = true)
    (k_p_one_at_most : PySem.W.keepIn K (.ref ad_p_one_at_most) = true)
    (a_p_just_one : PySem.W.nsIn K mainGlobals "just_one" = some (some (.ref ad_p_just_one)))
    (l_p_just_one : K.lookup ad_p_just_one = some ⟨oc_p_just_one, od_p_just_one, .func (PySem.W.fnOf "just_one" "just_one" (defArgs s_p_just_one) (defBody s_p_just_one) (defScope s_p_just_one) .none kV_p_just_one dc_p_just_one pm_p_just_one an_p_just_one cd_p_just_one ct_p_just_one), sl_p_just_one⟩)
    (c_p_just_one : PySem.W.codeIn K cd_p_just_one "just_one" = true)
    (k_p_just_one : PySem.W.keepIn K (.ref ad_p_just_one) = true)
    (a_l_sip : PySem.W.nsIn K mainGlobals "_law_sip" = some (some (.ref ad_l_sip)))
    (l_l_sip : K.lookup ad_l_sip = some ⟨oc_l_sip, od_l_sip, .func (PySem.W.fnOf "_law_sip" "_law_sip" (defArgs s_l_sip) (defBody s_l_sip) (defScope s_l_sip) .none kV_l_sip dc_l_sip pm_l_sip an_l_sip cd_l_sip ct_l_sip), sl_l_sip⟩)
    (c_l_sip : PySem.W.codeIn K cd_l_sip "_law_sip" = true)
    (k_l_sip : PySem.W.keepIn K (.ref ad_l_sip) = true)
    (a_l_pick : PySem.W.nsIn K mainGlobals "_law_pick" = some (some (.ref ad_l_pick)))
    (l_l_pick : K.lookup ad_l_pick = some ⟨oc_l_pick, od_l_pick, .func (PySem.W.fnOf "_law_pick" "_law_pick" (defArgs s_l_pick) (defBody s_l_pick) (defScope s_l_pick) .none kV_l_pick dc_l_pick pm_l_pick an_l_pick cd_l_pick ct_l_pick), sl_l_pick⟩)
    (c_l_pick : PySem.W.codeIn K cd_l_pick "_law_pick" = true)
    (k_l_pick : PySem.W.keepIn K (.ref ad_l_pick) = true)
    (a_l_draft : PySem.W.nsIn K mainGlobals "_law_draft" = some (some (.ref ad_l_draft)))
    (l_l_draft : K.lookup ad_l_draft = some ⟨oc_l_draft, od_l_draft, .func (PySem.W.fnOf "_law_draft" "_law_draft" (defArgs s_l_draft) (defBody s_l_draft) (defScope s_l_draft) .none kV_l_draft dc_l_draft pm_l_draft an_l_draft cd_l_draft ct_l_draft), sl_l_draft⟩)
    (c_l_draft : PySem.W.codeIn K cd_l_draft "_law_draft" = true)
    (k_l_draft : PySem.W.keepIn K (.ref ad_l_draft) = true)
    (a_p_knots_fault : PySem.W.nsIn K mainGlobals "knots_fault" = some (some (.ref ad_p_knots_fault)))
    (l_p_knots_fault : K.lookup ad_p_knots_fault = some ⟨oc_p_knots_fault, od_p_knots_fault, .func (PySem.W.fnOf "knots_fault" "knots_fault" (defArgs s_p_knots_fault) (defBody s_p_knots_fault) (defScope s_p_knots_fault) .none kV_p_knots_fault dc_p_knots_fault pm_p_knots_fault an_p_knots_fault cd_p_knots_fault ct_p_knots_fault), sl_p_knots_fault⟩)
    (c_p_knots_fault : PySem.W.codeIn K cd_p_knots_fault "knots_fault" = true)
    (k_p_knots_fault : PySem.W.keepIn K (.ref ad_p_knots_fault) = true)
    (a_c_Frame___init__ : PySem.W.findIn K (.ref C_Frame) "__init__" = some (some (.ref ad_c_Frame___init__)))
    (l_c_Frame___init__ : K.lookup ad_c_Frame___init__ = some ⟨oc_c_Frame___init__, od_c_Frame___init__, .func (PySem.W.fnOf "__init__" "Frame.__init__" (defArgs s_c_Frame___init__) (defBody s_c_Frame___init__) (defScope s_c_Frame___init__) .none kV_c_Frame___init__ dc_c_Frame___init__ pm_c_Frame___init__ an_c_Frame___init__ cd_c_Frame___init__ ct_c_Frame___init__), sl_c_Frame___init__⟩)
    (c_c_Frame___init__ : PySem.W.codeIn K cd_c_Frame___init__ "Frame.__init__" = true)
    (k_c_Frame___init__ : PySem.W.keepIn K (.ref ad_c_Frame___init__) = true)
    (a_l_made : PySem.W.nsIn K mainGlobals "_law_made" = some (some (.ref ad_l_made)))
    (l_l_made : K.lookup ad_l_made = some ⟨oc_l_made, od_l_made, .func (PySem.W.fnOf "_law_made" "_law_made" (defArgs s_l_made) (defBody s_l_made) (defScope s_l_made) .none kV_l_made dc_l_made pm_l_made an_l_made cd_l_made ct_l_made), sl_l_made⟩)
    (c_l_made : PySem.W.codeIn K cd_l_made "_law_made" = true)
    (k_l_made : PySem.W.keepIn K (.ref ad_l_made) = true)
    (a_l_sites : PySem.W.nsIn K mainGlobals "_law_sites" = some (some (.ref ad_l_sites)))
    (l_l_sites : K.lookup ad_l_sites = some ⟨oc_l_sites, od_l_sites, .func (PySem.W.fnOf "_law_sites" "_law_sites" (defArgs s_l_sites) (defBody s_l_sites) (defScope s_l_sites) .none kV_l_sites dc_l_sites pm_l_sites an_l_sites cd_l_sites ct_l_sites), sl_l_sites⟩)
    (c_l_sites : PySem.W.codeIn K cd_l_sites "_law_sites" = true)
    (k_l_sites : PySem.W.keepIn K (.ref ad_l_sites) = true)
    (a_l_is_number : PySem.W.nsIn K mainGlobals "_law_is_number" = some (some (.ref ad_l_is_number)))
    (l_l_is_number : K.lookup ad_l_is_number = some ⟨oc_l_is_number, od_l_is_number, .func (PySem.W.fnOf "_law_is_number" "_law_is_number" (defArgs s_l_is_number) (defBody s_l_is_number) (defScope s_l_is_number) .none kV_l_is_number dc_l_is_number pm_l_is_number an_l_is_number cd_l_is_number ct_l_is_number), sl_l_is_number⟩)
    (c_l_is_number : PySem.W.codeIn K cd_l_is_number "_law_is_number" = true)
    (k_l_is_number : PySem.W.keepIn K (.ref ad_l_is_number) = true)
    (a_l_wrong_sites : PySem.W.nsIn K mainGlobals "_law_wrong_sites" = some (some (.ref ad_l_wrong_sites)))
    (l_l_wrong_sites : K.lookup ad_l_wrong_sites = some ⟨oc_l_wrong_sites, od_l_wrong_sites, .func (PySem.W.fnOf "_law_wrong_sites" "_law_wrong_sites" (defArgs s_l_wrong_sites) (defBody s_l_wrong_sites) (defScope s_l_wrong_sites) .none kV_l_wrong_sites dc_l_wrong_sites pm_l_wrong_sites an_l_wrong_sites cd_l_wrong_sites ct_l_wrong_sites), sl_l_wrong_sites⟩)
    (c_l_wrong_sites : PySem.W.codeIn K cd_l_wrong_sites "_law_wrong_sites" = true)
    (k_l_wrong_sites : PySem.W.keepIn K (.ref ad_l_wrong_sites) = true)
    (a_l_odd : PySem.W.nsIn K mainGlobals "_law_odd" = some (some (.ref ad_l_odd)))
    (l_l_odd : K.lookup ad_l_odd = some ⟨oc_l_odd, od_l_odd, .func (PySem.W.fnOf "_law_odd" "_law_odd" (defArgs s_l_odd) (defBody s_l_odd) (defScope s_l_odd) .none kV_l_odd dc_l_odd pm_l_odd an_l_odd cd_l_odd ct_l_odd), sl_l_odd⟩)
    (c_l_odd : PySem.W.codeIn K cd_l_odd "_law_odd" = true)
    (k_l_odd : PySem.W.keepIn K (.ref ad_l_odd) = true)
    (a_l_class : PySem.W.nsIn K mainGlobals "_law_class" = some (some (.ref ad_l_class)))
    (l_l_class : K.lookup ad_l_class = some ⟨oc_l_class, od_l_class, .func (PySem.W.fnOf "_law_class" "_law_class" (defArgs s_l_class) (defBody s_l_class) (defScope s_l_class) .none kV_l_class dc_l_class pm_l_class an_l_class cd_l_class ct_l_class), sl_l_class⟩)
    (c_l_class : PySem.W.codeIn K cd_l_class "_law_class" = true)
    (k_l_class : PySem.W.keepIn K (.ref ad_l_class) = true)
    (a_l_field : PySem.W.nsIn K mainGlobals "_law_field" = some (some (.ref ad_l_field)))
    (l_l_field : K.lookup ad_l_field = some ⟨oc_l_field, od_l_field, .func (PySem.W.fnOf "_law_field" "_law_field" (defArgs s_l_field) (defBody s_l_field) (defScope s_l_field) .none kV_l_field dc_l_field pm_l_field an_l_field cd_l_field ct_l_field), sl_l_field⟩)
    (c_l_field : PySem.W.codeIn K cd_l_field "_law_field" = true)
    (k_l_field : PySem.W.keepIn K (.ref ad_l_field) = true)
    (a_l_error : PySem.W.nsIn K mainGlobals "_law_error" = some (some (.ref ad_l_error)))
    (l_l_error : K.lookup ad_l_error = some ⟨oc_l_error, od_l_error, .func (PySem.W.fnOf "_law_error" "_law_error" (defArgs s_l_error) (defBody s_l_error) (defScope s_l_error) .none kV_l_error dc_l_error pm_l_error an_l_error cd_l_error ct_l_error), sl_l_error⟩)
    (c_l_error : PySem.W.codeIn K cd_l_error "_law_error" = true)
    (k_l_error : PySem.W.keepIn K (.ref ad_l_error) = true)
    (a_l_ends_right : PySem.W.nsIn K mainGlobals "_law_ends_right" = some (some (.ref ad_l_ends_right)))
    (l_l_ends_right : K.lookup ad_l_ends_right = some ⟨oc_l_ends_right, od_l_ends_right, .func (PySem.W.fnOf "_law_ends_right" "_law_ends_right" (defArgs s_l_ends_right) (defBody s_l_ends_right) (defScope s_l_ends_right) .none kV_l_ends_right dc_l_ends_right pm_l_ends_right an_l_ends_right cd_l_ends_right ct_l_ends_right), sl_l_ends_right⟩)
    (c_l_ends_right : PySem.W.codeIn K cd_l_ends_right "_law_ends_right" = true)
    (k_l_ends_right : PySem.W.keepIn K (.ref ad_l_ends_right) = true)
    (a_l_bent : PySem.W.nsIn K mainGlobals "_law_bent" = some (some (.ref ad_l_bent)))
    (l_l_bent : K.lookup ad_l_bent = some ⟨oc_l_bent, od_l_bent, .func (PySem.W.fnOf "_law_bent" "_law_bent" (defArgs s_l_bent) (defBody s_l_bent) (defScope s_l_bent) .none kV_l_bent dc_l_bent pm_l_bent an_l_bent cd_l_bent ct_l_bent), sl_l_bent⟩)
    (c_l_bent : PySem.W.codeIn K cd_l_bent "_law_bent" = true)
    (k_l_bent : PySem.W.keepIn K (.ref ad_l_bent) = true)
    (a_l_right : PySem.W.nsIn K mainGlobals "_law_right" = some (some (.ref ad_l_right)))
    (l_l_right : K.lookup ad_l_right = some ⟨oc_l_right, od_l_right, .func (PySem.W.fnOf "_law_right" "_law_right" (defArgs s_l_right) (defBody s_l_right) (defScope s_l_right) .none kV_l_right dc_l_right pm_l_right an_l_right (.ref cT_l_right) ct_l_right), sl_l_right⟩)
    (c_l_right : PySem.W.codeIn K (.ref cT_l_right) "_law_right" = true)
    (k_l_right : PySem.W.keepIn K (.ref ad_l_right) = true)
    (tk_l_right : K.lookup cT_l_right = some ⟨ck_l_right, dk_l_right, .fields vs_l_right, sk_l_right⟩)
    (tab_l_right : vs_l_right[11]? = some (.ref pT_l_right))
    (th_l_right : PySem.W.codeHdIn K cT_l_right pT_l_right = true)
    (tn_l_right : K.lookup pT_l_right = none)
    (tt_l_right : h.get? pT_l_right = some (PySem.W.tabObj #[]))
    (a_p_law : PySem.W.nsIn K mainGlobals "law" = some (some (.ref ad_p_law)))
    (l_p_law : K.lookup ad_p_law = some ⟨oc_p_law, od_p_law, .func (PySem.W.fnOf "law" "law" (defArgs s_p_law) (defBody s_p_law) (defScope s_p_law) .none kV_p_law dc_p_law pm_p_law an_p_law cd_p_law ct_p_law), sl_p_law⟩)
    (c_p_law : PySem.W.codeIn K cd_p_law "law" = true)
    (k_p_law : PySem.W.keepIn K (.ref ad_p_law) = true)
    (z_ArithmeticError : PySem.W.nsIn K mainGlobals "ArithmeticError" = some none)
    (z_LookupError : PySem.W.nsIn K mainGlobals "LookupError" = some none)
    (z_ValueError : PySem.W.nsIn K mainGlobals "ValueError" = some none)
    (z_abs : PySem.W.nsIn K mainGlobals "abs" = some none)
    (z_all : PySem.W.nsIn K mainGlobals "all" = some none)
    (z_bool : PySem.W.nsIn K mainGlobals "bool" = some none)
    (z_enumerate : PySem.W.nsIn K mainGlobals "enumerate" = some none)
    (z_int : PySem.W.nsIn K mainGlobals "int" = some none)
    (z_isinstance : PySem.W.nsIn K mainGlobals "isinstance" = some none)
    (z_len : PySem.W.nsIn K mainGlobals "len" = some none)
    (z_list : PySem.W.nsIn K mainGlobals "list" = some none)
    (z_max : PySem.W.nsIn K mainGlobals "max" = some none)
    (z_min : PySem.W.nsIn K mainGlobals "min" = some none)
    (z_range : PySem.W.nsIn K mainGlobals "range" = some none)
    (z_repr : PySem.W.nsIn K mainGlobals "repr" = some none)
    (z_set : PySem.W.nsIn K mainGlobals "set" = some none)
    (z_sorted : PySem.W.nsIn K mainGlobals "sorted" = some none)
    (z_tuple : PySem.W.nsIn K mainGlobals "tuple" = some none)
    (g_MOST_DEGREE : PySem.W.nsIn K mainGlobals "MOST_DEGREE" = some (some (.int 4 t_MOST_DEGREE)))
    (g_MOST_HILLS : PySem.W.nsIn K mainGlobals "MOST_HILLS" = some (some (.int 10 t_MOST_HILLS)))
    (g_MOST_KNOT : PySem.W.nsIn K mainGlobals "MOST_KNOT" = some (some (.int 1000000 t_MOST_KNOT)))
    (g_MOST_PLACES : PySem.W.nsIn K mainGlobals "MOST_PLACES" = some (some (.int 12 t_MOST_PLACES)))
    (b_NotRight : PySem.W.nsIn K mainGlobals "NotRight" = some (some (.ref C_NotRight)))
    (b_InvalidText : PySem.W.nsIn K mainGlobals "InvalidText" = some (some (.ref C_InvalidText)))
    (b_InvalidNumber : PySem.W.nsIn K mainGlobals "InvalidNumber" = some (some (.ref C_InvalidNumber)))
    (b_InvalidIndex : PySem.W.nsIn K mainGlobals "InvalidIndex" = some (some (.ref C_InvalidIndex)))
    (b_InvalidDegree : PySem.W.nsIn K mainGlobals "InvalidDegree" = some (some (.ref C_InvalidDegree)))
    (b_InvalidKnot : PySem.W.nsIn K mainGlobals "InvalidKnot" = some (some (.ref C_InvalidKnot)))
    (b_NotAFrame : PySem.W.nsIn K mainGlobals "NotAFrame" = some (some (.ref C_NotAFrame)))
    (b_NotACurve : PySem.W.nsIn K mainGlobals "NotACurve" = some (some (.ref C_NotACurve)))
    (b_InvalidKnots : PySem.W.nsIn K mainGlobals "InvalidKnots" = some (some (.ref C_InvalidKnots)))
    (b_InvalidAmounts : PySem.W.nsIn K mainGlobals "InvalidAmounts" = some (some (.ref C_InvalidAmounts)))
    (b_InvalidPlaces : PySem.W.nsIn K mainGlobals "InvalidPlaces" = some (some (.ref C_InvalidPlaces)))
    (b_InvalidHeights : PySem.W.nsIn K mainGlobals "InvalidHeights" = some (some (.ref C_InvalidHeights)))
    (b_InvalidOffers : PySem.W.nsIn K mainGlobals "InvalidOffers" = some (some (.ref C_InvalidOffers)))
    (b_NotKnown : PySem.W.nsIn K mainGlobals "NotKnown" = some (some (.ref C_NotKnown)))
    (b_NotPossible : PySem.W.nsIn K mainGlobals "NotPossible" = some (some (.ref C_NotPossible)))
    (b_TooMany : PySem.W.nsIn K mainGlobals "TooMany" = some (some (.ref C_TooMany)))
    (b_NotOne : PySem.W.nsIn K mainGlobals "NotOne" = some (some (.ref C_NotOne)))
    (b_Broken : PySem.W.nsIn K mainGlobals "Broken" = some (some (.ref C_Broken)))
    (w_sp : PySem.W.specialIn K (.builtin "object.__class__") "__get__" = some (some (.builtin "getset_descriptor.__get__")))
    (w_tk : PySem.W.takesIn K (.builtin "object.__class__") = some true)
    (d1_Frame : PySem.W.plainGet K C_Frame Str.empty = true)
    (d2_Frame : PySem.W.hasDictIn K C_Frame = true)
    (d3_Frame : PySem.W.plainOver K C_Frame = true)
    (d4_Frame : PySem.W.findIn K (.ref C_Frame) "__setattr__" = some (some (.builtin "object.__setattr__")))
    (d5_Frame : PySem.W.findIn K (.ref C_Frame) "__class__" = some (some (.builtin "object.__class__")))
    (d6_Frame : PySem.W.mroIn K C_Frame (.type "object") = some true)
    (kn_Frame : ∀ m ∈ tyNames, PySem.W.kitOne K (.type m) (.ref C_Frame) = some false)
    (k1_Frame : PySem.W.makesIn K C_Frame = true)
    (k2_Frame : PySem.W.isFn K (.ref ad_c_Frame___init__) = true)
    (k3_Frame : PySem.W.keepIn K (.ref C_Frame) = true)
    (nf_Frame_parts : PySem.W.findIn K (.ref C_Frame) "parts" = some none)
    (x1_InvalidPlaces : PySem.W.excInitIn K C_InvalidPlaces [.type "ValueError", .type "Exception", .type "BaseException", .type "object"] "ValueError.__new__" = true)
    (x2_InvalidPlaces : PySem.W.excOver K C_InvalidPlaces [.type "ValueError", .type "Exception", .type "BaseException", .type "object"] = true)
    (x3_InvalidPlaces : PySem.W.hasDictIn K C_InvalidPlaces = true)
    (x4_InvalidPlaces : PySem.W.findIn K (.ref C_InvalidPlaces) "__setattr__" = some (some (.builtin "object.__setattr__")))
    (x5_InvalidPlaces : PySem.W.subIn K (.ref C_InvalidPlaces) (.type "BaseException") = some true)
    (x6_InvalidPlaces : PySem.W.typeIn K (.ref C_InvalidPlaces) = some (.type "type"))
    (x7_InvalidPlaces : PySem.W.keepIn K (.ref C_InvalidPlaces) = true)
    (e1_InvalidPlaces : PySem.W.findIn K (.ref C_InvalidPlaces) "__getattribute__" = some (some (.builtin "BaseException.__getattribute__")))
    (e2_InvalidPlaces : PySem.W.findIn K (.ref C_InvalidPlaces) "__getattr__" = some none)
    (e5_InvalidPlaces : PySem.W.findIn K (.ref C_InvalidPlaces) "__class__" = some (some (.builtin "object.__class__")))
    (e8_InvalidPlaces : PySem.W.mroIn K C_InvalidPlaces (.type "object") = some true)
    (no_InvalidPlaces : PySem.W.findIn K (.ref C_InvalidPlaces) "index" = some none)
    (ii_InvalidPlaces : PySem.W.findIn K (.ref C_InvalidPlaces) "__init__" = some (some (.ref fi_InvalidPlaces)))
    (il_InvalidPlaces : K.lookup fi_InvalidPlaces = some ⟨ioc_InvalidPlaces, iod_InvalidPlaces, .func (PySem.W.fnOf "__init__" "InvalidPlaces.__init__" (defArgs si_InvalidPlaces) (defBody si_InvalidPlaces) (defScope si_InvalidPlaces) .none ikV_InvalidPlaces idc_InvalidPlaces ipm_InvalidPlaces ian_InvalidPlaces icd_InvalidPlaces ict_InvalidPlaces), isl_InvalidPlaces⟩)
    (ic_InvalidPlaces : PySem.W.codeIn K icd_InvalidPlaces "InvalidPlaces.__init__" = true)
    (ik_InvalidPlaces : PySem.W.keepIn K (.ref fi_InvalidPlaces) = true)
    (it_InvalidPlaces : PySem.W.typeIn K (.ref fi_InvalidPlaces) = some (.type "function"))
    (ta_InvalidPlaces : PySem.W.takerIn K C_InvalidPlaces "index" = some none)
    (x1_NotAFrame : PySem.W.excInitIn K C_NotAFrame [.type "ValueError", .type "Exception", .type "BaseException", .type "object"] "ValueError.__new__" = true)
    (x2_NotAFrame : PySem.W.excOver K C_NotAFrame [.type "ValueError", .type "Exception", .type "BaseException", .type "object"] = true)
    (x3_NotAFrame : PySem.W.hasDictIn K C_NotAFrame = true)
    (x4_NotAFrame : PySem.W.findIn K (.ref C_NotAFrame) "__setattr__" = some (some (.builtin "object.__setattr__")))
    (x5_NotAFrame : PySem.W.subIn K (.ref C_NotAFrame) (.type "BaseException") = some true)
    (x6_NotAFrame : PySem.W.typeIn K (.ref C_NotAFrame) = some (.type "type"))
    (x7_NotAFrame : PySem.W.keepIn K (.ref C_NotAFrame) = true)
    (e1_NotAFrame : PySem.W.findIn K (.ref C_NotAFrame) "__getattribute__" = some (some (.builtin "BaseException.__getattribute__")))
    (e2_NotAFrame : PySem.W.findIn K (.ref C_NotAFrame) "__getattr__" = some none)
    (e5_NotAFrame : PySem.W.findIn K (.ref C_NotAFrame) "__class__" = some (some (.builtin "object.__class__")))
    (e8_NotAFrame : PySem.W.mroIn K C_NotAFrame (.type "object") = some true)
    (no_NotAFrame : PySem.W.findIn K (.ref C_NotAFrame) "given" = some none)
    (ii_NotAFrame : PySem.W.findIn K (.ref C_NotAFrame) "__init__" = some (some (.ref fi_NotAFrame)))
    (il_NotAFrame : K.lookup fi_NotAFrame = some ⟨ioc_NotAFrame, iod_NotAFrame, .func (PySem.W.fnOf "__init__" "NotAFrame.__init__" (defArgs si_NotAFrame) (defBody si_NotAFrame) (defScope si_NotAFrame) .none ikV_NotAFrame idc_NotAFrame ipm_NotAFrame ian_NotAFrame icd_NotAFrame ict_NotAFrame), isl_NotAFrame⟩)
    (ic_NotAFrame : PySem.W.codeIn K icd_NotAFrame "NotAFrame.__init__" = true)
    (ik_NotAFrame : PySem.W.keepIn K (.ref fi_NotAFrame) = true)
    (it_NotAFrame : PySem.W.typeIn K (.ref fi_NotAFrame) = some (.type "function"))
    (ta_NotAFrame : PySem.W.takerIn K C_NotAFrame "given" = some none)
    (x1_InvalidKnots : PySem.W.excInitIn K C_InvalidKnots [.type "ValueError", .type "Exception", .type "BaseException", .type "object"] "ValueError.__new__" = true)
    (x2_InvalidKnots : PySem.W.excOver K C_InvalidKnots [.type "ValueError", .type "Exception", .type "BaseException", .type "object"] = true)
    (x3_InvalidKnots : PySem.W.hasDictIn K C_InvalidKnots = true)
    (x4_InvalidKnots : PySem.W.findIn K (.ref C_InvalidKnots) "__setattr__" = some (some (.builtin "object.__setattr__")))
    (x5_InvalidKnots : PySem.W.subIn K (.ref C_InvalidKnots) (.type "BaseException") = some true)
    (x6_InvalidKnots : PySem.W.typeIn K (.ref C_InvalidKnots) = some (.type "type"))
    (x7_InvalidKnots : PySem.W.keepIn K (.ref C_InvalidKnots) = true)
    (e1_InvalidKnots : PySem.W.findIn K (.ref C_InvalidKnots) "__getattribute__" = some (some (.builtin "BaseException.__getattribute__")))
    (e2_InvalidKnots : PySem.W.findIn K (.ref C_InvalidKnots) "__getattr__" = some none)
    (e5_InvalidKnots : PySem.W.findIn K (.ref C_InvalidKnots) "__class__" = some (some (.builtin "object.__class__")))
    (e8_InvalidKnots : PySem.W.mroIn K C_InvalidKnots (.type "object") = some true)
    (no_InvalidKnots : PySem.W.findIn K (.ref C_InvalidKnots) "index" = some none)
    (ii_InvalidKnots : PySem.W.findIn K (.ref C_InvalidKnots) "__init__" = some (some (.ref fi_InvalidKnots)))
    (il_InvalidKnots : K.lookup fi_InvalidKnots = some ⟨ioc_InvalidKnots, iod_InvalidKnots, .func (PySem.W.fnOf "__init__" "InvalidKnots.__init__" (defArgs si_InvalidKnots) (defBody si_InvalidKnots) (defScope si_InvalidKnots) .none ikV_InvalidKnots idc_InvalidKnots ipm_InvalidKnots ian_InvalidKnots icd_InvalidKnots ict_InvalidKnots), isl_InvalidKnots⟩)
    (ic_InvalidKnots : PySem.W.codeIn K icd_InvalidKnots "InvalidKnots.__init__" = true)
    (ik_InvalidKnots : PySem.W.keepIn K (.ref fi_InvalidKnots) = true)
    (it_InvalidKnots : PySem.W.typeIn K (.ref fi_InvalidKnots) = some (.type "function"))
    (ta_InvalidKnots : PySem.W.takerIn K C_InvalidKnots "index" = some none)
    (x1_InvalidDegree : PySem.W.excInitIn K C_InvalidDegree [.type "ValueError", .type "Exception", .type "BaseException", .type "object"] "ValueError.__new__" = true)
    (x2_InvalidDegree : PySem.W.excOver K C_InvalidDegree [.type "ValueError", .type "Exception", .type "BaseException", .type "object"] = true)
    (x3_InvalidDegree : PySem.W.hasDictIn K C_InvalidDegree = true)
    (x4_InvalidDegree : PySem.W.findIn K (.ref C_InvalidDegree) "__setattr__" = some (some (.builtin "object.__setattr__")))
    (x5_InvalidDegree : PySem.W.subIn K (.ref C_InvalidDegree) (.type "BaseException") = some true)
    (x6_InvalidDegree : PySem.W.typeIn K (.ref C_InvalidDegree) = some (.type "type"))
    (x7_InvalidDegree : PySem.W.keepIn K (.ref C_InvalidDegree) = true)
    (e1_InvalidDegree : PySem.W.findIn K (.ref C_InvalidDegree) "__getattribute__" = some (some (.builtin "BaseException.__getattribute__")))
    (e2_InvalidDegree : PySem.W.findIn K (.ref C_InvalidDegree) "__getattr__" = some none)
    (e5_InvalidDegree : PySem.W.findIn K (.ref C_InvalidDegree) "__class__" = some (some (.builtin "object.__class__")))
    (e8_InvalidDegree : PySem.W.mroIn K C_InvalidDegree (.type "object") = some true)
    (no_InvalidDegree : PySem.W.findIn K (.ref C_InvalidDegree) "given" = some none)
    (ii_InvalidDegree : PySem.W.findIn K (.ref C_InvalidDegree) "__init__" = some (some (.ref fi_InvalidDegree)))
    (il_InvalidDegree : K.lookup fi_InvalidDegree = some ⟨ioc_InvalidDegree, iod_InvalidDegree, .func (PySem.W.fnOf "__init__" "InvalidDegree.__init__" (defArgs si_InvalidDegree) (defBody si_InvalidDegree) (defScope si_InvalidDegree) .none ikV_InvalidDegree idc_InvalidDegree ipm_InvalidDegree ian_InvalidDegree icd_InvalidDegree ict_InvalidDegree), isl_InvalidDegree⟩)
    (ic_InvalidDegree : PySem.W.codeIn K icd_InvalidDegree "InvalidDegree.__init__" = true)
    (ik_InvalidDegree : PySem.W.keepIn K (.ref fi_InvalidDegree) = true)
    (it_InvalidDegree : PySem.W.typeIn K (.ref fi_InvalidDegree) = some (.type "function"))
    (ta_InvalidDegree : PySem.W.takerIn K C_InvalidDegree "given" = some none)
    (oo_InvalidPlaces_NotRight : PySem.W.kitOne K (.ref C_InvalidPlaces) (.ref C_NotRight) = some true)
    (oo_InvalidPlaces_InvalidText : PySem.W.kitOne K (.ref C_InvalidPlaces) (.ref C_InvalidText) = some false)
    (oo_InvalidPlaces_InvalidNumber : PySem.W.kitOne K (.ref C_InvalidPlaces) (.ref C_InvalidNumber) = some false)
    (oo_InvalidPlaces_InvalidIndex : PySem.W.kitOne K (.ref C_InvalidPlaces) (.ref C_InvalidIndex) = some false)
    (oo_InvalidPlaces_InvalidDegree : PySem.W.kitOne K (.ref C_InvalidPlaces) (.ref C_InvalidDegree) = some false)
    (oo_InvalidPlaces_InvalidKnot : PySem.W.kitOne K (.ref C_InvalidPlaces) (.ref C_InvalidKnot) = some false)
    (oo_InvalidPlaces_NotAFrame : PySem.W.kitOne K (.ref C_InvalidPlaces) (.ref C_NotAFrame) = some false)
    (oo_InvalidPlaces_NotACurve : PySem.W.kitOne K (.ref C_InvalidPlaces) (.ref C_NotACurve) = some false)
    (oo_InvalidPlaces_InvalidKnots : PySem.W.kitOne K (.ref C_InvalidPlaces) (.ref C_InvalidKnots) = some false)
    (oo_InvalidPlaces_InvalidAmounts : PySem.W.kitOne K (.ref C_InvalidPlaces) (.ref C_InvalidAmounts) = some false)
    (oo_InvalidPlaces_InvalidPlaces : PySem.W.kitOne K (.ref C_InvalidPlaces) (.ref C_InvalidPlaces) = some true)
    (oo_InvalidPlaces_InvalidHeights : PySem.W.kitOne K (.ref C_InvalidPlaces) (.ref C_InvalidHeights) = some false)
    (oo_InvalidPlaces_InvalidOffers : PySem.W.kitOne K (.ref C_InvalidPlaces) (.ref C_InvalidOffers) = some false)
    (oo_InvalidPlaces_NotKnown : PySem.W.kitOne K (.ref C_InvalidPlaces) (.ref C_NotKnown) = some false)
    (oo_InvalidPlaces_NotPossible : PySem.W.kitOne K (.ref C_InvalidPlaces) (.ref C_NotPossible) = some false)
    (oo_InvalidPlaces_TooMany : PySem.W.kitOne K (.ref C_InvalidPlaces) (.ref C_TooMany) = some false)
    (oo_InvalidPlaces_NotOne : PySem.W.kitOne K (.ref C_InvalidPlaces) (.ref C_NotOne) = some false)
    (oo_InvalidPlaces_Broken : PySem.W.kitOne K (.ref C_InvalidPlaces) (.ref C_Broken) = some false)
    (oo_NotAFrame_NotRight : PySem.W.kitOne K (.ref C_NotAFrame) (.ref C_NotRight) = some true)
    (oo_NotAFrame_InvalidText : PySem.W.kitOne K (.ref C_NotAFrame) (.ref C_InvalidText) = some false)
    (oo_NotAFrame_InvalidNumber : PySem.W.kitOne K (.ref C_NotAFrame) (.ref C_InvalidNumber) = some false)
    (oo_NotAFrame_InvalidIndex : PySem.W.kitOne K (.ref C_NotAFrame) (.ref C_InvalidIndex) = some false)
    (oo_NotAFrame_InvalidDegree : PySem.W.kitOne K (.ref C_NotAFrame) (.ref C_InvalidDegree) = some false)
    (oo_NotAFrame_InvalidKnot : PySem.W.kitOne K (.ref C_NotAFrame) (.ref C_InvalidKnot) = some false)
    (oo_NotAFrame_NotAFrame : PySem.W.kitOne K (.ref C_NotAFrame) (.ref C_NotAFrame) = some true)
    (oo_NotAFrame_NotACurve : PySem.W.kitOne K (.ref C_NotAFrame) (.ref C_NotACurve) = some false)
    (oo_NotAFrame_InvalidKnots : PySem.W.kitOne K (.ref C_NotAFrame) (.ref C_InvalidKnots) = some false)
    (oo_NotAFrame_InvalidAmounts : PySem.W.kitOne K (.ref C_NotAFrame) (.ref C_InvalidAmounts) = some false)
    (oo_NotAFrame_InvalidPlaces : PySem.W.kitOne K (.ref C_NotAFrame) (.ref C_InvalidPlaces) = some false)
    (oo_NotAFrame_InvalidHeights : PySem.W.kitOne K (.ref C_NotAFrame) (.ref C_InvalidHeights) = some false)
    (oo_NotAFrame_InvalidOffers : PySem.W.kitOne K (.ref C_NotAFrame) (.ref C_InvalidOffers) = some false)
    (oo_NotAFrame_NotKnown : PySem.W.kitOne K (.ref C_NotAFrame) (.ref C_NotKnown) = some false)
    (oo_NotAFrame_NotPossible : PySem.W.kitOne K (.ref C_NotAFrame) (.ref C_NotPossible) = some false)
    (oo_NotAFrame_TooMany : PySem.W.kitOne K (.ref C_NotAFrame) (.ref C_TooMany) = some false)
    (oo_NotAFrame_NotOne : PySem.W.kitOne K (.ref C_NotAFrame) (.ref C_NotOne) = some false)
    (oo_NotAFrame_Broken : PySem.W.kitOne K (.ref C_NotAFrame) (.ref C_Broken) = some false)
    (oo_InvalidKnots_NotRight : PySem.W.kitOne K (.ref C_InvalidKnots) (.ref C_NotRight) = some true)
    (oo_InvalidKnots_InvalidText : PySem.W.kitOne K (.ref C_InvalidKnots) (.ref C_InvalidText) = some false)
    (oo_InvalidKnots_InvalidNumber : PySem.W.kitOne K (.ref C_InvalidKnots) (.ref C_InvalidNumber) = some false)
    (oo_InvalidKnots_InvalidIndex : PySem.W.kitOne K (.ref C_InvalidKnots) (.ref C_InvalidIndex) = some false)
    (oo_InvalidKnots_InvalidDegree : PySem.W.kitOne K (.ref C_InvalidKnots) (.ref C_InvalidDegree) = some false)
    (oo_InvalidKnots_InvalidKnot : PySem.W.kitOne K (.ref C_InvalidKnots) (.ref C_InvalidKnot) = some false)
    (oo_InvalidKnots_NotAFrame : PySem.W.kitOne K (.ref C_InvalidKnots) (.ref C_NotAFrame) = some false)
    (oo_InvalidKnots_NotACurve : PySem.W.kitOne K (.ref C_InvalidKnots) (.ref C_NotACurve) = some false)
    (oo_InvalidKnots_InvalidKnots : PySem.W.kitOne K (.ref C_InvalidKnots) (.ref C_InvalidKnots) = some true)
    (oo_InvalidKnots_InvalidAmounts : PySem.W.kitOne K (.ref C_InvalidKnots) (.ref C_InvalidAmounts) = some false)
    (oo_InvalidKnots_InvalidPlaces : PySem.W.kitOne K (.ref C_InvalidKnots) (.ref C_InvalidPlaces) = some false)
    (oo_InvalidKnots_InvalidHeights : PySem.W.kitOne K (.ref C_InvalidKnots) (.ref C_InvalidHeights) = some false)
    (oo_InvalidKnots_InvalidOffers : PySem.W.kitOne K (.ref C_InvalidKnots) (.ref C_InvalidOffers) = some false)
    (oo_InvalidKnots_NotKnown : PySem.W.kitOne K (.ref C_InvalidKnots) (.ref C_NotKnown) = some false)
    (oo_InvalidKnots_NotPossible : PySem.W.kitOne K (.ref C_InvalidKnots) (.ref C_NotPossible) = some false)
    (oo_InvalidKnots_TooMany : PySem.W.kitOne K (.ref C_InvalidKnots) (.ref C_TooMany) = some false)
    (oo_InvalidKnots_NotOne : PySem.W.kitOne K (.ref C_InvalidKnots) (.ref C_NotOne) = some false)
    (oo_InvalidKnots_Broken : PySem.W.kitOne K (.ref C_InvalidKnots) (.ref C_Broken) = some false)
    (oo_InvalidDegree_NotRight : PySem.W.kitOne K (.ref C_InvalidDegree) (.ref C_NotRight) = some true)
    (oo_InvalidDegree_InvalidText : PySem.W.kitOne K (.ref C_InvalidDegree) (.ref C_InvalidText) = some false)
    (oo_InvalidDegree_InvalidNumber : PySem.W.kitOne K (.ref C_InvalidDegree) (.ref C_InvalidNumber) = some false)
    (oo_InvalidDegree_InvalidIndex : PySem.W.kitOne K (.ref C_InvalidDegree) (.ref C_InvalidIndex) = some false)
    (oo_InvalidDegree_InvalidDegree : PySem.W.kitOne K (.ref C_InvalidDegree) (.ref C_InvalidDegree) = some true)
    (oo_InvalidDegree_InvalidKnot : PySem.W.kitOne K (.ref C_InvalidDegree) (.ref C_InvalidKnot) = some false)
    (oo_InvalidDegree_NotAFrame : PySem.W.kitOne K (.ref C_InvalidDegree) (.ref C_NotAFrame) = some false)
    (oo_InvalidDegree_NotACurve : PySem.W.kitOne K (.ref C_InvalidDegree) (.ref C_NotACurve) = some false)
    (oo_InvalidDegree_InvalidKnots : PySem.W.kitOne K (.ref C_InvalidDegree) (.ref C_InvalidKnots) = some false)
    (oo_InvalidDegree_InvalidAmounts : PySem.W.kitOne K (.ref C_InvalidDegree) (.ref C_InvalidAmounts) = some false)
    (oo_InvalidDegree_InvalidPlaces : PySem.W.kitOne K (.ref C_InvalidDegree) (.ref C_InvalidPlaces) = some false)
    (oo_InvalidDegree_InvalidHeights : PySem.W.kitOne K (.ref C_InvalidDegree) (.ref C_InvalidHeights) = some false)
    (oo_InvalidDegree_InvalidOffers : PySem.W.kitOne K (.ref C_InvalidDegree) (.ref C_InvalidOffers) = some false)
    (oo_InvalidDegree_NotKnown : PySem.W.kitOne K (.ref C_InvalidDegree) (.ref C_NotKnown) = some false)
    (oo_InvalidDegree_NotPossible : PySem.W.kitOne K (.ref C_InvalidDegree) (.ref C_NotPossible) = some false)
    (oo_InvalidDegree_TooMany : PySem.W.kitOne K (.ref C_InvalidDegree) (.ref C_TooMany) = some false)
    (oo_InvalidDegree_NotOne : PySem.W.kitOne K (.ref C_InvalidDegree) (.ref C_NotOne) = some false)
    (oo_InvalidDegree_Broken : PySem.W.kitOne K (.ref C_InvalidDegree) (.ref C_Broken) = some false)
    (oo_Frame_Frame : PySem.W.kitOne K (.ref C_Frame) (.ref C_Frame) = some true)
    (ob_InvalidPlaces_ValueError : PySem.W.kitOne K (.ref C_InvalidPlaces) (.type "ValueError") = some true)
    (ob_InvalidPlaces_LookupError : PySem.W.kitOne K (.ref C_InvalidPlaces) (.type "LookupError") = some false)
    (ob_InvalidPlaces_ArithmeticError : PySem.W.kitOne K (.ref C_InvalidPlaces) (.type "ArithmeticError") = some false)
    (ob_NotAFrame_ValueError : PySem.W.kitOne K (.ref C_NotAFrame) (.type "ValueError") = some true)
    (ob_NotAFrame_LookupError : PySem.W.kitOne K (.ref C_NotAFrame) (.type "LookupError") = some false)
    (ob_NotAFrame_ArithmeticError : PySem.W.kitOne K (.ref C_NotAFrame) (.type "ArithmeticError") = some false)
    (ob_InvalidKnots_ValueError : PySem.W.kitOne K (.ref C_InvalidKnots) (.type "ValueError") = some true)
    (ob_InvalidKnots_LookupError : PySem.W.kitOne K (.ref C_InvalidKnots) (.type "LookupError") = some false)
    (ob_InvalidKnots_ArithmeticError : PySem.W.kitOne K (.ref C_InvalidKnots) (.type "ArithmeticError") = some false)
    (ob_InvalidDegree_ValueError : PySem.W.kitOne K (.ref C_InvalidDegree) (.type "ValueError") = some true)
    (ob_InvalidDegree_LookupError : PySem.W.kitOne K (.ref C_InvalidDegree) (.type "LookupError") = some false)
    (ob_InvalidDegree_ArithmeticError : PySem.W.kitOne K (.ref C_InvalidDegree) (.type "ArithmeticError") = some false)
    (ob_Frame_int : PySem.W.kitOne K (.ref C_Frame) (.type "int") = some false)
    (ob_Frame_bool : PySem.W.kitOne K (.ref C_Frame) (.type "bool") = some false)
    (ob_Frame_tuple : PySem.W.kitOne K (.ref C_Frame) (.type "tuple") = some false)
    (ob_Frame_str : PySem.W.kitOne K (.ref C_Frame) (.type "str") = some false)
    (ob_Frame_list : PySem.W.kitOne K (.ref C_Frame) (.type "list") = some false)
    (cc_InvalidPlaces_NotKnown : PySem.W.exmOne K (.ref C_InvalidPlaces) (.ref C_NotKnown) = some false)
    (cc_InvalidPlaces_NotPossible : PySem.W.exmOne K (.ref C_InvalidPlaces) (.ref C_NotPossible) = some false)
    (cc_InvalidPlaces_NotRight : PySem.W.exmOne K (.ref C_InvalidPlaces) (.ref C_NotRight) = some true)
    (cc_NotAFrame_NotKnown : PySem.W.exmOne K (.ref C_NotAFrame) (.ref C_NotKnown) = some false)
    (cc_NotAFrame_NotPossible : PySem.W.exmOne K (.ref C_NotAFrame) (.ref C_NotPossible) = some false)
    (cc_NotAFrame_NotRight : PySem.W.exmOne K (.ref C_NotAFrame) (.ref C_NotRight) = some true)
    (cc_InvalidKnots_NotKnown : PySem.W.exmOne K (.ref C_InvalidKnots) (.ref C_NotKnown) = some false)
    (cc_InvalidKnots_NotPossible : PySem.W.exmOne K (.ref C_InvalidKnots) (.ref C_NotPossible) = some false)
    (cc_InvalidKnots_NotRight : PySem.W.exmOne K (.ref C_InvalidKnots) (.ref C_NotRight) = some true)
    (cc_InvalidDegree_NotKnown : PySem.W.exmOne K (.ref C_InvalidDegree) (.ref C_NotKnown) = some false)
    (cc_InvalidDegree_NotPossible : PySem.W.exmOne K (.ref C_InvalidDegree) (.ref C_NotPossible) = some false)
    (cc_InvalidDegree_NotRight : PySem.W.exmOne K (.ref C_InvalidDegree) (.ref C_NotRight) = some true)
    (nd : ([pT_l_right] : List Addr).Nodup)
    (lt : ∀ (T : Nat → Addr) (ns : List Int), ns.length ≤ 63 → ∃ S2, f_p_law T [scriptD ns] [.tab (T 0) "_law_right.<locals>.<lambda>"] = .ok (.bl true) S2)
    : LawT P w K mg 12 63 fa h "_law_script" := by
  have e := hfa.symm.trans (PySem.W.mg_of X G a_p_law)
  cases e
  let L : Lf K mg := {
    a_l_mug := _, d_l_mug := _, F_l_mug := fun_mk l_l_mug c_l_mug k_l_mug,
    m_l_mug := PySem.W.mg_of X G a_l_mug,
    C_Frame := _, c_Frame := PySem.W.mg_of X G b_Frame,
    pq_c_Frame_hills := _, pr_c_Frame_hills := ⟨q1_c_Frame_hills, q2_c_Frame_hills, q3_c_Frame_hills, _, a_c_Frame_hills⟩,
    a_c_Frame_hills := _, d_c_Frame_hills := _, F_c_Frame_hills := fun_mk l_c_Frame_hills c_c_Frame_hills k_c_Frame_hills,
    pq_c_Frame_degree := _, pr_c_Frame_degree := ⟨q1_c_Frame_degree, q2_c_Frame_degree, q3_c_Frame_degree, _, a_c_Frame_degree⟩,
    a_c_Frame_degree := _, d_c_Frame_degree := _, F_c_Frame_degree := fun_mk l_c_Frame_degree c_c_Frame_degree k_c_Frame_degree,
    pq_c_Frame_knots := _, pr_c_Frame_knots := ⟨q1_c_Frame_knots, q2_c_Frame_knots, q3_c_Frame_knots, _, a_c_Frame_knots⟩,
    a_c_Frame_knots := _, d_c_Frame_knots := _, F_c_Frame_knots := fun_mk l_c_Frame_knots c_c_Frame_knots k_c_Frame_knots,
    a_p_is_up := _, d_p_is_up := _, F_p_is_up := fun_mk l_p_is_up c_p_is_up k_p_is_up,
    m_p_is_up := PySem.W.mg_of X G a_p_is_up,
    a_p_lengths_from := _, d_p_lengths_from := _, F_p_lengths_from := fun_mk l_p_lengths_from c_p_lengths_from k_p_lengths_from,
    m_p_lengths_from := PySem.W.mg_of X G a_p_lengths_from,
    a_p_rank_of := _, d_p_rank_of := _, F_p_rank_of := fun_mk l_p_rank_of c_p_rank_of k_p_rank_of,
    m_p_rank_of := PySem.W.mg_of X G a_p_rank_of,
    a_p_is_integer := _, d_p_is_integer := _, F_p_is_integer := fun_mk l_p_is_integer c_p_is_integer k_p_is_integer,
    m_p_is_integer := PySem.W.mg_of X G a_p_is_integer,
    a_p_is_between := _, d_p_is_between := _, F_p_is_between := fun_mk l_p_is_between c_p_is_between k_p_is_between,
    m_p_is_between := PySem.W.mg_of X G a_p_is_between,
    a_p_is_place := _, d_p_is_place := _, F_p_is_place := fun_mk l_p_is_place c_p_is_place k_p_is_place,
    m_p_is_place := PySem.W.mg_of X G a_p_is_place,
    a_p_places_fault := _, d_p_places_fault := _, F_p_places_fault := fun_mk l_p_places_fault c_p_places_fault k_p_places_fault,
    m_p_places_fault := PySem.W.mg_of X G a_p_places_fault,
    a_p_check_places := _, d_p_check_places := _, F_p_check_places := fun_mk l_p_check_places c_p_check_places k_p_check_places,
    m_p_check_places := PySem.W.mg_of X G a_p_check_places,
    a_p_check_frame := _, d_p_check_frame := _, F_p_check_frame := fun_mk l_p_check_frame c_p_check_frame k_p_check_frame,
    m_p_check_frame := PySem.W.mg_of X G a_p_check_frame,
    a_p_check_both := _, d_p_check_both := _, F_p_check_both := fun_mk l_p_check_both c_p_check_both k_p_check_both,
    m_p_check_both := PySem.W.mg_of X G a_p_check_both,
    a_p_rank := _, d_p_rank := _, F_p_rank := fun_mk l_p_rank c_p_rank k_p_rank,
    m_p_rank := PySem.W.mg_of X G a_p_rank,
    a_p_pairs_of := _, d_p_pairs_of := _, F_p_pairs_of := fun_mk l_p_pairs_of c_p_pairs_of k_p_pairs_of,
    m_p_pairs_of := PySem.W.mg_of X G a_p_pairs_of,
    a_p_matching := _, d_p_matching := _, F_p_matching := fun_mk l_p_matching c_p_matching k_p_matching,
    m_p_matching := PySem.W.mg_of X G a_p_matching,
    a_p_all_met := _, d_p_all_met := _, F_p_all_met := fun_mk l_p_all_met c_p_all_met k_p_all_met,
    m_p_all_met := PySem.W.mg_of X G a_p_all_met,
    a_p_one_at_most := _, d_p_one_at_most := _, F_p_one_at_most := fun_mk l_p_one_at_most c_p_one_at_most k_p_one_at_most,
    m_p_one_at_most := PySem.W.mg_of X G a_p_one_at_most,
    a_p_just_one := _, d_p_just_one := _, F_p_just_one := fun_mk l_p_just_one c_p_just_one k_p_just_one,
    m_p_just_one := PySem.W.mg_of X G a_p_just_one,
    a_l_sip := _, d_l_sip := _, F_l_sip := fun_mk l_l_sip c_l_sip k_l_sip,
    m_l_sip := PySem.W.mg_of X G a_l_sip,
    a_l_pick := _, d_l_pick := _, F_l_pick := fun_mk l_l_pick c_l_pick k_l_pick,
    m_l_pick := PySem.W.mg_of X G a_l_pick,
    a_l_draft := _, d_l_draft := _, F_l_draft := fun_mk l_l_draft c_l_draft k_l_draft,
    m_l_draft := PySem.W.mg_of X G a_l_draft,
    a_p_knots_fault := _, d_p_knots_fault := _, F_p_knots_fault := fun_mk l_p_knots_fault c_p_knots_fault k_p_knots_fault,
    m_p_knots_fault := PySem.W.mg_of X G a_p_knots_fault,
    a_c_Frame___init__ := _, d_c_Frame___init__ := _, F_c_Frame___init__ := fun_mk l_c_Frame___init__ c_c_Frame___init__ k_c_Frame___init__,
    a_l_made := _, d_l_made := _, F_l_made := fun_mk l_l_made c_l_made k_l_made,
    m_l_made := PySem.W.mg_of X G a_l_made,
    a_l_sites := _, d_l_sites := _, F_l_sites := fun_mk l_l_sites c_l_sites k_l_sites,
    m_l_sites := PySem.W.mg_of X G a_l_sites,
    a_l_is_number := _, d_l_is_number := _, F_l_is_number := fun_mk l_l_is_number c_l_is_number k_l_is_number,
    m_l_is_number := PySem.W.mg_of X G a_l_is_number,
    a_l_wrong_sites := _, d_l_wrong_sites := _, F_l_wrong_sites := fun_mk l_l_wrong_sites c_l_wrong_sites k_l_wrong_sites,
    m_l_wrong_sites := PySem.W.mg_of X G a_l_wrong_sites,
    a_l_odd := _, d_l_odd := _, F_l_odd := fun_mk l_l_odd c_l_odd k_l_odd,
    m_l_odd := PySem.W.mg_of X G a_l_odd,
    a_l_class := _, d_l_class := _, F_l_class := fun_mk l_l_class c_l_class k_l_class,
    m_l_class := PySem.W.mg_of X G a_l_class,
    a_l_field := _, d_l_field := _, F_l_field := fun_mk l_l_field c_l_field k_l_field,
    m_l_field := PySem.W.mg_of X G a_l_field,
    a_l_error := _, d_l_error := _, F_l_error := fun_mk l_l_error c_l_error k_l_error,
    m_l_error := PySem.W.mg_of X G a_l_error,
    a_l_ends_right := _, d_l_ends_right := _, F_l_ends_right := fun_mk l_l_ends_right c_l_ends_right k_l_ends_right,
    m_l_ends_right := PySem.W.mg_of X G a_l_ends_right,
    a_l_bent := _, d_l_bent := _, F_l_bent := fun_mk l_l_bent c_l_bent k_l_bent,
    m_l_bent := PySem.W.mg_of X G a_l_bent,
    cT_l_right := cT_l_right, dc_l_right := rfl,
    a_l_right := _, d_l_right := _, F_l_right := fun_mk l_l_right c_l_right k_l_right,
    m_l_right := PySem.W.mg_of X G a_l_right,
    a_p_law := _, d_p_law := _, F_p_law := fun_mk l_p_law c_p_law k_p_law,
    m_p_law := PySem.W.mg_of X G a_p_law,
    z_ArithmeticError := PySem.W.mg_none_of X G z_ArithmeticError,
    z_LookupError := PySem.W.mg_none_of X G z_LookupError,
    z_ValueError := PySem.W.mg_none_of X G z_ValueError,
    z_abs := PySem.W.mg_none_of X G z_abs,
    z_all := PySem.W.mg_none_of X G z_all,
    z_bool := PySem.W.mg_none_of X G z_bool,
    z_enumerate := PySem.W.mg_none_of X G z_enumerate,
    z_int := PySem.W.mg_none_of X G z_int,
    z_isinstance := PySem.W.mg_none_of X G z_isinstance,
    z_len := PySem.W.mg_none_of X G z_len,
    z_list := PySem.W.mg_none_of X G z_list,
    z_max := PySem.W.mg_none_of X G z_max,
    z_min := PySem.W.mg_none_of X G z_min,
    z_range := PySem.W.mg_none_of X G z_range,
    z_repr := PySem.W.mg_none_of X G z_repr,
    z_set := PySem.W.mg_none_of X G z_set,
    z_sorted := PySem.W.mg_none_of X G z_sorted,
    z_tuple := PySem.W.mg_none_of X G z_tuple,
    g_MOST_DEGREE := ⟨_, PySem.W.mg_of X G g_MOST_DEGREE⟩,
    g_MOST_HILLS := ⟨_, PySem.W.mg_of X G g_MOST_HILLS⟩,
    g_MOST_KNOT := ⟨_, PySem.W.mg_of X G g_MOST_KNOT⟩,
    g_MOST_PLACES := ⟨_, PySem.W.mg_of X G g_MOST_PLACES⟩,
    C_NotRight := _, c_NotRight := PySem.W.mg_of X G b_NotRight,
    C_InvalidText := _, c_InvalidText := PySem.W.mg_of X G b_InvalidText,
    C_InvalidNumber := _, c_InvalidNumber := PySem.W.mg_of X G b_InvalidNumber,
    C_InvalidIndex := _, c_InvalidIndex := PySem.W.mg_of X G b_InvalidIndex,
    C_InvalidDegree := _, c_InvalidDegree := PySem.W.mg_of X G b_InvalidDegree,
    C_InvalidKnot := _, c_InvalidKnot := PySem.W.mg_of X G b_InvalidKnot,
    C_NotAFrame := _, c_NotAFrame := PySem.W.mg_of X G b_NotAFrame,
    C_NotACurve := _, c_NotACurve := PySem.W.mg_of X G b_NotACurve,
    C_InvalidKnots := _, c_InvalidKnots := PySem.W.mg_of X G b_InvalidKnots,
    C_InvalidAmounts := _, c_InvalidAmounts := PySem.W.mg_of X G b_InvalidAmounts,
    C_InvalidPlaces := _, c_InvalidPlaces := PySem.W.mg_of X G b_InvalidPlaces,
    C_InvalidHeights := _, c_InvalidHeights := PySem.W.mg_of X G b_InvalidHeights,
    C_InvalidOffers := _, c_InvalidOffers := PySem.W.mg_of X G b_InvalidOffers,
    C_NotKnown := _, c_NotKnown := PySem.W.mg_of X G b_NotKnown,
    C_NotPossible := _, c_NotPossible := PySem.W.mg_of X G b_NotPossible,
    C_TooMany := _, c_TooMany := PySem.W.mg_of X G b_TooMany,
    C_NotOne := _, c_NotOne := PySem.W.mg_of X G b_NotOne,
    C_Broken := _, c_Broken := PySem.W.mg_of X G b_Broken,
    cl_Frame := ⟨d1_Frame, d2_Frame, d3_Frame, d4_Frame⟩, ic_Frame := ⟨⟨d1_Frame, d2_Frame, d3_Frame, d4_Frame⟩, d5_Frame, w_sp, w_tk, d6_Frame⟩, kn_Frame := kn_Frame,
    mk_Frame := ⟨k1_Frame, a_c_Frame___init__, k2_Frame, k3_Frame⟩,
    nf_Frame_parts := nf_Frame_parts,
    x_InvalidPlaces := ⟨⟨_, _, _, _, PySem.F.excBase_ValueError, PySem.F.store_ValueError, x1_InvalidPlaces, x2_InvalidPlaces⟩, x3_InvalidPlaces, x4_InvalidPlaces, x5_InvalidPlaces, x6_InvalidPlaces, x7_InvalidPlaces⟩,
    e_InvalidPlaces := ⟨e1_InvalidPlaces, e2_InvalidPlaces, x5_InvalidPlaces, x3_InvalidPlaces, e5_InvalidPlaces, w_sp, w_tk, e8_InvalidPlaces⟩, xf_InvalidPlaces := ⟨e1_InvalidPlaces, e2_InvalidPlaces, x5_InvalidPlaces, x3_InvalidPlaces⟩, no_InvalidPlaces := no_InvalidPlaces,
    fi_InvalidPlaces := _, di_InvalidPlaces := _, Fi_InvalidPlaces := fun_mk il_InvalidPlaces ic_InvalidPlaces ik_InvalidPlaces, ii_InvalidPlaces := ii_InvalidPlaces, ti_InvalidPlaces := it_InvalidPlaces, tk_InvalidPlaces := ta_InvalidPlaces,
    x_NotAFrame := ⟨⟨_, _, _, _, PySem.F.excBase_ValueError, PySem.F.store_ValueError, x1_NotAFrame, x2_NotAFrame⟩, x3_NotAFrame, x4_NotAFrame, x5_NotAFrame, x6_NotAFrame, x7_NotAFrame⟩,
    e_NotAFrame := ⟨e1_NotAFrame, e2_NotAFrame, x5_NotAFrame, x3_NotAFrame, e5_NotAFrame, w_sp, w_tk, e8_NotAFrame⟩, xf_NotAFrame := ⟨e1_NotAFrame, e2_NotAFrame, x5_NotAFrame, x3_NotAFrame⟩, no_NotAFrame := no_NotAFrame,
    fi_NotAFrame := _, di_NotAFrame := _, Fi_NotAFrame := fun_mk il_NotAFrame ic_NotAFrame ik_NotAFrame, ii_NotAFrame := ii_NotAFrame, ti_NotAFrame := it_NotAFrame, tk_NotAFrame := ta_NotAFrame,
    x_InvalidKnots := ⟨⟨_, _, _, _, PySem.F.excBase_ValueError, PySem.F.store_ValueError, x1_InvalidKnots, x2_InvalidKnots⟩, x3_InvalidKnots, x4_InvalidKnots, x5_InvalidKnots, x6_InvalidKnots, x7_InvalidKnots⟩,
    e_InvalidKnots := ⟨e1_InvalidKnots, e2_InvalidKnots, x5_InvalidKnots, x3_InvalidKnots, e5_InvalidKnots, w_sp, w_tk, e8_InvalidKnots⟩, xf_InvalidKnots := ⟨e1_InvalidKnots, e2_InvalidKnots, x5_InvalidKnots, x3_InvalidKnots⟩, no_InvalidKnots := no_InvalidKnots,
    fi_InvalidKnots := _, di_InvalidKnots := _, Fi_InvalidKnots := fun_mk il_InvalidKnots ic_InvalidKnots ik_InvalidKnots, ii_InvalidKnots := ii_InvalidKnots, ti_InvalidKnots := it_InvalidKnots, tk_InvalidKnots := ta_InvalidKnots,
    x_InvalidDegree := ⟨⟨_, _, _, _, PySem.F.excBase_ValueError, PySem.F.store_ValueError, x1_InvalidDegree, x2_InvalidDegree⟩, x3_InvalidDegree, x4_InvalidDegree, x5_InvalidDegree, x6_InvalidDegree, x7_InvalidDegree⟩,
    e_InvalidDegree := ⟨e1_InvalidDegree, e2_InvalidDegree, x5_InvalidDegree, x3_InvalidDegree, e5_InvalidDegree, w_sp, w_tk, e8_InvalidDegree⟩, xf_InvalidDegree := ⟨e1_InvalidDegree, e2_InvalidDegree, x5_InvalidDegree, x3_InvalidDegree⟩, no_InvalidDegree := no_InvalidDegree,
    fi_InvalidDegree := _, di_InvalidDegree := _, Fi_InvalidDegree := fun_mk il_InvalidDegree ic_InvalidDegree ik_InvalidDegree, ii_InvalidDegree := ii_InvalidDegree, ti_InvalidDegree := it_InvalidDegree, tk_InvalidDegree := ta_InvalidDegree,
    oo_InvalidPlaces_NotRight := oo_InvalidPlaces_NotRight,
    oo_InvalidPlaces_InvalidText := oo_InvalidPlaces_InvalidText,
    oo_InvalidPlaces_InvalidNumber := oo_InvalidPlaces_InvalidNumber,
    oo_InvalidPlaces_InvalidIndex := oo_InvalidPlaces_InvalidIndex,
    oo_InvalidPlaces_InvalidDegree := oo_InvalidPlaces_InvalidDegree,
    oo_InvalidPlaces_InvalidKnot := oo_InvalidPlaces_InvalidKnot,
    oo_InvalidPlaces_NotAFrame := oo_InvalidPlaces_NotAFrame,
    oo_InvalidPlaces_NotACurve := oo_InvalidPlaces_NotACurve,
    oo_InvalidPlaces_InvalidKnots := oo_InvalidPlaces_InvalidKnots,
    oo_InvalidPlaces_InvalidAmounts := oo_InvalidPlaces_InvalidAmounts,
    oo_InvalidPlaces_InvalidPlaces := oo_InvalidPlaces_InvalidPlaces,
    oo_InvalidPlaces_InvalidHeights := oo_InvalidPlaces_InvalidHeights,
    oo_InvalidPlaces_InvalidOffers := oo_InvalidPlaces_InvalidOffers,
    oo_InvalidPlaces_NotKnown := oo_InvalidPlaces_NotKnown,
    oo_InvalidPlaces_NotPossible := oo_InvalidPlaces_NotPossible,
    oo_InvalidPlaces_TooMany := oo_InvalidPlaces_TooMany,
    oo_InvalidPlaces_NotOne := oo_InvalidPlaces_NotOne,
    oo_InvalidPlaces_Broken := oo_InvalidPlaces_Broken,
    oo_NotAFrame_NotRight := oo_NotAFrame_NotRight,
    oo_NotAFrame_InvalidText := oo_NotAFrame_InvalidText,
    oo_NotAFrame_InvalidNumber := oo_NotAFrame_InvalidNumber,
    oo_NotAFrame_InvalidIndex := oo_NotAFrame_InvalidIndex,
    oo_NotAFrame_InvalidDegree := oo_NotAFrame_InvalidDegree,
    oo_NotAFrame_InvalidKnot := oo_NotAFrame_InvalidKnot,
    oo_NotAFrame_NotAFrame := oo_NotAFrame_NotAFrame,
    oo_NotAFrame_NotACurve := oo_NotAFrame_NotACurve,
    oo_NotAFrame_InvalidKnots := oo_NotAFrame_InvalidKnots,
    oo_NotAFrame_InvalidAmounts := oo_NotAFrame_InvalidAmounts,
    oo_NotAFrame_InvalidPlaces := oo_NotAFrame_InvalidPlaces,
    oo_NotAFrame_InvalidHeights := oo_NotAFrame_InvalidHeights,
    oo_NotAFrame_InvalidOffers := oo_NotAFrame_InvalidOffers,
    oo_NotAFrame_NotKnown := oo_NotAFrame_NotKnown,
    oo_NotAFrame_NotPossible := oo_NotAFrame_NotPossible,
    oo_NotAFrame_TooMany := oo_NotAFrame_TooMany,
    oo_NotAFrame_NotOne := oo_NotAFrame_NotOne,
    oo_NotAFrame_Broken := oo_NotAFrame_Broken,
    oo_InvalidKnots_NotRight := oo_InvalidKnots_NotRight,
    oo_InvalidKnots_InvalidText := oo_InvalidKnots_InvalidText,
    oo_InvalidKnots_InvalidNumber := oo_InvalidKnots_InvalidNumber,
    oo_InvalidKnots_InvalidIndex := oo_InvalidKnots_InvalidIndex,
    oo_InvalidKnots_InvalidDegree := oo_InvalidKnots_InvalidDegree,
    oo_InvalidKnots_InvalidKnot := oo_InvalidKnots_InvalidKnot,
    oo_InvalidKnots_NotAFrame := oo_InvalidKnots_NotAFrame,
    oo_InvalidKnots_NotACurve := oo_InvalidKnots_NotACurve,
    oo_InvalidKnots_InvalidKnots := oo_InvalidKnots_InvalidKnots,
    oo_InvalidKnots_InvalidAmounts := oo_InvalidKnots_InvalidAmounts,
    oo_InvalidKnots_InvalidPlaces := oo_InvalidKnots_InvalidPlaces,
    oo_InvalidKnots_InvalidHeights := oo_InvalidKnots_InvalidHeights,
    oo_InvalidKnots_InvalidOffers := oo_InvalidKnots_InvalidOffers,
    oo_InvalidKnots_NotKnown := oo_InvalidKnots_NotKnown,
    oo_InvalidKnots_NotPossible := oo_InvalidKnots_NotPossible,
    oo_InvalidKnots_TooMany := oo_InvalidKnots_TooMany,
    oo_InvalidKnots_NotOne := oo_InvalidKnots_NotOne,
    oo_InvalidKnots_Broken := oo_InvalidKnots_Broken,
    oo_InvalidDegree_NotRight := oo_InvalidDegree_NotRight,
    oo_InvalidDegree_InvalidText := oo_InvalidDegree_InvalidText,
    oo_InvalidDegree_InvalidNumber := oo_InvalidDegree_InvalidNumber,
    oo_InvalidDegree_InvalidIndex := oo_InvalidDegree_InvalidIndex,
    oo_InvalidDegree_InvalidDegree := oo_InvalidDegree_InvalidDegree,
    oo_InvalidDegree_InvalidKnot := oo_InvalidDegree_InvalidKnot,
    oo_InvalidDegree_NotAFrame := oo_InvalidDegree_NotAFrame,
    oo_InvalidDegree_NotACurve := oo_InvalidDegree_NotACurve,
    oo_InvalidDegree_InvalidKnots := oo_InvalidDegree_InvalidKnots,
    oo_InvalidDegree_InvalidAmounts := oo_InvalidDegree_InvalidAmounts,
    oo_InvalidDegree_InvalidPlaces := oo_InvalidDegree_InvalidPlaces,
    oo_InvalidDegree_InvalidHeights := oo_InvalidDegree_InvalidHeights,
    oo_InvalidDegree_InvalidOffers := oo_InvalidDegree_InvalidOffers,
    oo_InvalidDegree_NotKnown := oo_InvalidDegree_NotKnown,
    oo_InvalidDegree_NotPossible := oo_InvalidDegree_NotPossible,
    oo_InvalidDegree_TooMany := oo_InvalidDegree_TooMany,
    oo_InvalidDegree_NotOne := oo_InvalidDegree_NotOne,
    oo_InvalidDegree_Broken := oo_InvalidDegree_Broken,
    oo_Frame_Frame := oo_Frame_Frame,
    ob_InvalidPlaces_ValueError := ob_InvalidPlaces_ValueError,
    ob_InvalidPlaces_LookupError := ob_InvalidPlaces_LookupError,
    ob_InvalidPlaces_ArithmeticError := ob_InvalidPlaces_ArithmeticError,
    ob_NotAFrame_ValueError := ob_NotAFrame_ValueError,
    ob_NotAFrame_LookupError := ob_NotAFrame_LookupError,
    ob_NotAFrame_ArithmeticError := ob_NotAFrame_ArithmeticError,
    ob_InvalidKnots_ValueError := ob_InvalidKnots_ValueError,
    ob_InvalidKnots_LookupError := ob_InvalidKnots_LookupError,
    ob_InvalidKnots_ArithmeticError := ob_InvalidKnots_ArithmeticError,
    ob_InvalidDegree_ValueError := ob_InvalidDegree_ValueError,
    ob_InvalidDegree_LookupError := ob_InvalidDegree_LookupError,
    ob_InvalidDegree_ArithmeticError := ob_InvalidDegree_ArithmeticError,
    ob_Frame_int := ob_Frame_int,
    ob_Frame_bool := ob_Frame_bool,
    ob_Frame_tuple := ob_Frame_tuple,
    ob_Frame_str := ob_Frame_str,
    ob_Frame_list := ob_Frame_list,
    cc_InvalidPlaces_NotKnown := cc_InvalidPlaces_NotKnown,
    cc_InvalidPlaces_NotPossible := cc_InvalidPlaces_NotPossible,
    cc_InvalidPlaces_NotRight := cc_InvalidPlaces_NotRight,
    cc_NotAFrame_NotKnown := cc_NotAFrame_NotKnown,
    cc_NotAFrame_NotPossible := cc_NotAFrame_NotPossible,
    cc_NotAFrame_NotRight := cc_NotAFrame_NotRight,
    cc_InvalidKnots_NotKnown := cc_InvalidKnots_NotKnown,
    cc_InvalidKnots_NotPossible := cc_InvalidKnots_NotPossible,
    cc_InvalidKnots_NotRight := cc_InvalidKnots_NotRight,
    cc_InvalidDegree_NotKnown := cc_InvalidDegree_NotKnown,
    cc_InvalidDegree_NotPossible := cc_InvalidDegree_NotPossible,
    cc_InvalidDegree_NotRight := cc_InvalidDegree_NotRight,
    T := fun i => match i with | 0 => pT_l_right | _ => 0 }
  exact ⟨L.d_p_law, f_p_law L.T, [(cT_l_right, pT_l_right, "_law_right.<locals>.<lambda>")],
    (List.forall_mem_cons.mpr ⟨tt_l_right, (fun _ h => nomatch h)⟩),
    (List.forall_mem_cons.mpr ⟨tn_l_right, (fun _ h => nomatch h)⟩),
    (List.forall_mem_cons.mpr ⟨PySem.W.codeHd_of_K X th_l_right, (fun _ h => nomatch h)⟩),
    nd, fun s v => .of_eq rfl, fun base _ _ tb => G_p_law L ⟨tb _ (.head _), True.intro⟩, fun ns h => lt L.T ns h⟩
end K14

namespace K14
open PySem PySem.Spec L2 DL
open PyProof.Rows hiding St
/-- a frame as an object -/
def frameD (g : Nat) (ks : List Int) : D := .obj "Frame" ["parts"] [.tup [.int (g : Nat), .tup (ks.map .int)]]
/-- what isinstance knows of a thing -/
structure Kn (d : D) : Prop where
  i : ∀ S, isAD tabT [d, .ty "int"] S = some (.bl (match d with | .int _ => true | .bl _ => true | _ => false))
  b : ∀ S, isAD tabT [d, .ty "bool"] S = some (.bl (match d with | .bl _ => true | _ => false))
  t : ∀ S, isAD tabT [d, .ty "tuple"] S = some (.bl (match d with | .tup _ => true | _ => false))
theorem kn_ty {d : D} {a : String} (h : tyName d = some a) : Kn d := by
  constructor <;> intro S <;> cases d <;> first | rfl | (cases h)
theorem kn_int (i : Int) : Kn (.int i) := kn_ty (a := "int") rfl
theorem kn_frame (ns : List Str) (xs : List D) : Kn (.obj "Frame" ns xs) := ⟨fun S => rfl, fun S => rfl, fun S => rfl⟩
def isB (a b : Int) : D → Bool
  | .int i => decide (a ≤ i ∧ i ≤ b)
  | _ => false
theorem between_ok {d : D} (h : Kn d) (a b : Int) (S : List Cell) : f_p_is_between [d, .int a, .int b] S = .ok (.bl (isB a b d)) S := by
  refine Rs.W.eq ?_
  have h1 := h.i
  have h2 := h.b
  cases d with
  | int i => by_cases hh : a ≤ i <;> simp [f_p_is_between, m_p_is_between, f_p_is_integer, m_p_is_integer, h1, h2, isB, hh]
  | _ => simp [f_p_is_between, m_p_is_between, f_p_is_integer, m_p_is_integer, h1, h2, isB]
theorem between_int {i a b : Int} (h1 : a ≤ i) (h2 : i ≤ b) (S : List Cell) : f_p_is_between [.int i, .int a, .int b] S = .ok (.bl true) S := by
  rw [between_ok (kn_int i)]
  show Rs.ok (D.bl (decide (a ≤ i ∧ i ≤ b))) S = _
  rw [decide_eq_true ⟨h1, h2⟩]
theorem pairs_get {xs : List D} {j : Nat} {d : D} (h : (pairsI xs)[j]? = some d) : ∃ h : j < xs.length, d = .tup [.int (j : Nat), xs[j]] := by
  unfold pairsI at h
  rw [List.getElem?_mapIdx] at h
  obtain ⟨x, hx, rfl⟩ := Option.map_eq_some_iff.mp h
  obtain ⟨hj, rfl⟩ := List.getElem?_eq_some_iff.mp hx
  exact ⟨hj, rfl⟩
@[simp] theorem enum_tup (xs : List D) (S : List Cell) : enumD [.tup xs] S = .ok (pairsI xs) S := nr rfl
theorem fault_good {g : Nat} {ks : List Int} (f : Frm g ks) (S : List Cell) : f_p_knots_fault [.int (g : Nat), .tup (ks.map .int)] S = .ok (.int (-1)) S := by
  refine Rs.W.eq ?_
  have hg := f.hg
  have lo := f.lo
  have hi := f.hi
  have it : ∀ S, isAD tabT [.tup (ks.map D.int), .ty "tuple"] S = some (.bl true) := fun S => (kn_ty (a := "tuple") rfl).t S
  have c1 : ¬ ((ks.length : Nat) : Int) < (g : Int) + 2 := by omega
  generalize hks : ks.map D.int = xs at *
  have hxl : xs.length = ks.length := by rw [← hks, List.length_map]
  simp [f_p_knots_fault, m_p_knots_fault, it, hxl, c1]
  refine for_at (fun _ e S' => S' = S ∧ ∃ s2 s3, e = [.val (.int (g : Nat)), .val (.tup xs), s2, s3]) ⟨rfl, _, _, rfl⟩ ?_ ?_
  · rintro j d env S' hd ⟨rfl, s2, s3, rfl⟩
    obtain ⟨hj, rfl⟩ := pairs_get hd
    have hj' : j < ks.length := by omega
    have ex : xs[j] = .int (kt ks j) := by
      have : xs[j] = (ks.map D.int)[j]'(by rw [hks]; exact hj) := by congr 1; exact hks.symm
      rw [this, List.getElem_map, kt_get hj']
    rw [ex]
    have b := between_int (f.nn j hj') (f.ub j hj') S'
    have n1 : ¬ ((j : Int) = (g : Int) + 1 + 10) := by omega
    have ix : ∀ (i : Int) (k : Nat), i = (k : Nat) → k < ks.length → L2.atI xs i = some (.int (kt ks k)) := fun i k e h => by
      rw [← hks, at_map, kt_ix e h]; rfl
    by_cases j0 : 0 < j
    · have x1 := ix ((j : Int) - 1) (j - 1) (by omega) (by omega)
      have le := f.mono (j - 1) j (by omega) hj'
      have le' : ¬ kt ks j < kt ks (j - 1) := by omega
      by_cases jg : g < j
      · have x2 := ix ((j : Int) - (g : Int) - 1) (j - g - 1) (by omega) (by omega)
        have gp := f.gap (j - g - 1) (by omega)
        rw [show j - g - 1 + g + 1 = j by omega] at gp
        have gp' : ¬ kt ks (j - g - 1) = kt ks j := by omega
        simp [b, n1, j0, x1, le', jg, x2, gp']
      · simp [b, n1, j0, x1, le', jg]
    · have jg : ¬ g < j := by omega
      simp [b, n1, j0, jg]
  · rintro env S' ⟨rfl, s2, s3, rfl⟩
    simp
theorem init_ok {g : Nat} {ks : List Int} (f : Frm g ks) {S : List Cell} {n : Nat} (h : S[n]? = some (.ins "Frame" [] [])) : f_c_Frame___init__ [.cell n, .int (g : Nat), .tup (ks.map .int)] S = .ok .non (S.set n (.ins "Frame" ["parts"] [.tup [.int (g : Nat), .tup (ks.map .int)]])) := by
  refine Rs.W.eq ?_
  have hg := f.hg
  have b := between_int (i := (g : Nat)) (a := 0) (b := 4) (by omega) (by omega) S
  have ft := fault_good f S
  have pf : ∀ d, putFld fldT "parts" (.cell n) d S = some (S.set n (.ins "Frame" ["parts"] [d])) := fun d => put_fld h (by decide)
  generalize ks.map D.int = xs at *
  simp [f_c_Frame___init__, m_c_Frame___init__, b, ft, pf]
theorem made_ok {g : Nat} {ks : List Int} (f : Frm g ks) (S : List Cell) : madeR "Frame" true S.length (f_c_Frame___init__ [.cell S.length, .int (g : Nat), .tup (ks.map .int)] (S ++ [.ins "Frame" [] []])) = .ok (frameD g ks) (S ++ [.dead]) := by
  rw [init_ok f (by simp)]
  rw [made_fz (get_set (c := .ins "Frame" [] []) (by simp)), List.set_set, List.set_append_right _ _ (Nat.le_refl _)]
  simp
  rfl
/-! ### what a frame shows -/
theorem fld_parts (g : Nat) (ks : List Int) (S : List Cell) : fldD fldT "parts" (frameD g ks) S = some (.tup [.int (g : Nat), .tup (ks.map .int)]) := rfl
theorem fld_parts' (x : D) (S : List Cell) : fldD fldT "parts" (.obj "Frame" ["parts"] [x]) S = some x := rfl
@[simp] theorem degree_ok (g : Nat) (ks : List Int) (S : List Cell) : f_c_Frame_degree [frameD g ks] S = .ok (.int (g : Nat)) S := by
  refine Rs.W.eq ?_
  simp [f_c_Frame_degree, m_c_Frame_degree, fld_parts]
@[simp] theorem knots_ok (g : Nat) (ks : List Int) (S : List Cell) : f_c_Frame_knots [frameD g ks] S = .ok (.tup (ks.map .int)) S := by
  refine Rs.W.eq ?_
  simp [f_c_Frame_knots, m_c_Frame_knots, fld_parts]
@[simp] theorem hills_ok (g : Nat) (ks : List Int) (S : List Cell) : f_c_Frame_hills [frameD g ks] S = .ok (.int ((ks.length : Nat) - (g : Nat) - 1)) S := by
  refine Rs.W.eq ?_
  simp [f_c_Frame_hills, m_c_Frame_hills, fld_parts]
@[simp] theorem insP_frame (g : Nat) (ks : List Int) (S : List Cell) : isInsP "Frame" (frameD g ks) S = true := nr rfl
@[simp] theorem isa_frame (g : Nat) (ks : List Int) (S : List Cell) : isAD tabT [frameD g ks, .cls "Frame"] S = some (.bl true) := nr rfl
@[simp] theorem chk_frame (g : Nat) (ks : List Int) (S : List Cell) : f_p_check_frame [frameD g ks] S = .ok .non S := by
  refine Rs.W.eq ?_
  simp [f_p_check_frame, m_p_check_frame]
end K14

namespace K14
open PySem PySem.Spec L2 DL
open PyProof.Rows hiding St
def upB (t : Nat → Int) (L : Int) (g i : Nat) (x : Int) : Bool := (decide (t i < x) && decide (x < t (i + g + 1))) || ((decide (x = t i) && decide (x = t (i + g))) || (decide (x = L) && decide (x = t (i + 1))))
abbrev upF (g : Nat) (ks : List Int) (i : Nat) (x : Int) : Bool := upB (kt ks) (kt ks (ks.length - 1)) g i x
theorem isup_ok {g : Nat} {ks : List Int} (f : Frm g ks) {i : Nat} (hi : i + g + 1 < ks.length) (x : Int) (S : List Cell) : f_p_is_up [frameD g ks, .int (i : Nat), .int x] S = .ok (.bl (upF g ks i x)) S := by
  have i0 := kt_ix (ks := ks) (i := (i : Nat)) rfl (by omega)
  have i1 := kt_ix (ks := ks) (i := (i : Nat) + 1) (k := i + 1) (by omega) (by omega)
  have i2 := kt_ix (ks := ks) (i := (i : Nat) + (g : Nat)) (k := i + g) (by omega) (by omega)
  have i3 := kt_ix (ks := ks) (i := (i : Nat) + (g : Nat) + 1) (k := i + g + 1) (by omega) (by omega)
  have il := kt_last (ks := ks) (by omega)
  refine Rs.W.eq ?_
  unfold upF upB
  generalize kt ks (ks.length - 1) = L at *
  generalize kt ks (i + g + 1) = t3 at *
  generalize kt ks (i + g) = t2 at *
  generalize kt ks (i + 1) = t1 at *
  generalize kt ks i = t0 at *
  simp [f_p_is_up, m_p_is_up, at_map, i0, i1, i2, i3, il]
  refine V_ifF (fun h => ?_) (fun h => ?_)
  · obtain ⟨a, b⟩ : t0 < x ∧ x < t3 := by simpa using h
    simp [a, b]
  · have h : (decide (t0 < x) && decide (x < t3)) = false := by simpa using h
    simp [h, at_map, i0, i2, i1, il]
    refine V_ifF (fun h2 => ?_) (fun h2 => ?_)
    · have h2 : (decide (x = t0) && decide (x = t2)) = true := by simpa using h2
      simp [h2]
    · have h2 : (decide (x = t0) && decide (x = t2)) = false := by simpa using h2
      simp [h2, at_map, i1, il]
      intro a b
      simp [a, b] at h
end K14

/-! DT: tables of numbers whose rows are cells; longest ascending rows of pairs. -/
namespace DL
open PySem PySem.Spec L2
open PyProof.Rows hiding St

theorem rangeB_ok {i j : Int} {n : Nat} (e : (i - j).toNat = n) (h : i.natAbs ≤ 1000000000) (h2 : j.natAbs ≤ 1000000000) (S : List Cell) : rangeBD [.int i, .int j, .int (-1)] S = .ok ((List.range n).map fun k => .int (i - (k : Nat))) S := by
  unfold rangeBD
  dsimp only
  rw [if_pos (by unfold smallI; simp; omega), e]
theorem at_rng {α : Type} {f : Nat → α} {n k : Nat} (h : k < n) {i : Int} (e : i = (k : Nat)) : L2.atI ((List.range n).map f) i = some (f k) := by
  rw [e, at_nat (by simpa using h)]
  simp
theorem rng_get {n j : Nat} {f : Nat → D} {d : D} (h : ((List.range n).map f)[j]? = some d) : j < n ∧ d = f j := by
  rw [List.getElem?_map] at h
  by_cases hj : j < n
  · rw [List.getElem?_range hj] at h
    exact ⟨hj, (Option.some.inj h).symm⟩
  · rw [List.getElem?_eq_none (by simpa using hj)] at h
    cases h
/-- a row of m + 1 numbers as a cell -/
def rowC (m : Nat) (f : Nat → Nat) : Cell := .lst ((List.range (m + 1)).map fun i => .int ((f i : Nat) : Int))
/-- the cells from b on, so many -/
def cellsD (b n : Nat) : List D := (List.range n).map fun i => .cell (b + i)
theorem cells_ix {b n k : Nat} (h : k < n) {i : Int} (e : i = (k : Nat)) : L2.atI (cellsD b n) i = some (.cell (b + k)) := at_rng h e
theorem cells_snoc (b n : Nat) : cellsD b (n + 1) = cellsD b n ++ [.cell (b + n)] := by
  unfold cellsD
  rw [List.range_succ, List.map_append]
  rfl
structure TabIs (S0 S : List Cell) (b H m : Nat) (T : Nat → Nat → Nat) : Prop where
  len : S.length = b + (H + 1)
  old : ∀ k, k < b → S[k]? = S0[k]?
  row : ∀ k, k ≤ H → S[b + k]? = some (rowC m (T k))
theorem TabIs.read {S0 S : List Cell} {b H m : Nat} {T : Nat → Nat → Nat} (t : TabIs S0 S b H m T) {k i : Nat} (hk : k ≤ H) (hi : i ≤ m) {x : Int} (e : x = (i : Nat)) : ixD (.cell (b + k)) (.int x) S = some (.int ((T k i : Nat) : Int)) := by
  rw [ix_cell (t.row k hk)]
  exact at_rng (by omega) e
theorem TabIs.put {S0 S : List Cell} {b H m : Nat} {T : Nat → Nat → Nat} (t : TabIs S0 S b H m T) {k i : Nat} (hk : k ≤ H) (hi : i ≤ m) {x y : Int} (v : Nat) (e : x = (i : Nat)) (ey : y = (v : Nat)) : ∃ S', putC (.cell (b + k)) (.int x) (.int y) S = some S' ∧
    TabIs S0 S' b H m (fun k' i' => if k' = k ∧ i' = i then v else T k' i') := by
  subst e ey
  have r := t.row k hk
  have hl := (List.getElem?_eq_some_iff.mp r).1
  refine ⟨_, put_at (m := i) r (by unfold ixN; rw [if_pos (by omega), if_pos (by simp; omega)]; rfl), ⟨by simp [t.len], fun j hj => ?_, fun j hj => ?_⟩⟩
  · rw [List.getElem?_set_ne (by omega)]
    exact t.old j hj
  · by_cases e : j = k
    · subst e
      rw [List.getElem?_set_self hl]
      congr 1
      unfold rowC
      congr 1
      refine List.ext_getElem (by simp) fun i' h1 h2 => ?_
      rw [List.getElem_set]
      simp
      by_cases e : i = i'
      · simp [e]
      · have e' : ¬ i' = i := fun z => e z.symm
        simp [e, e']
    · rw [List.getElem?_set_ne (by omega), t.row j hj]
      congr 1
      unfold rowC
      congr 1
      refine List.map_congr_left fun i' _ => ?_
      simp [e]
theorem TabIs.eq {S0 S : List Cell} {b H m : Nat} {T T' : Nat → Nat → Nat} (t : TabIs S0 S b H m T) (h : ∀ k i, k ≤ H → i ≤ m → T k i = T' k i) : TabIs S0 S b H m T' :=
  ⟨t.len, t.old, fun k hk => by
    rw [t.row k hk]
    congr 1
    unfold rowC
    congr 1
    refine List.map_congr_left fun i hi => ?_
    have := List.mem_range.mp hi
    rw [h k i hk (by omega)]⟩
/-- the longest ascending row of pairs, from hill k and place i on -/
def lng (up : Nat → Nat → Bool) (H m k i : Nat) : Nat :=
  if h : k < H ∧ i < m then
    if up k i = true then max (max (lng up H m (k + 1) i) (lng up H m k (i + 1))) (lng up H m (k + 1) (i + 1) + 1)
    else max (lng up H m (k + 1) i) (lng up H m k (i + 1))
  else 0
termination_by (H - k) + (m - i)
theorem lng_out {up : Nat → Nat → Bool} {H m k i : Nat} (h : ¬ (k < H ∧ i < m)) : lng up H m k i = 0 := by
  rw [lng, dif_neg h]
theorem lng_yes {up : Nat → Nat → Bool} {H m k i : Nat} (h : k < H ∧ i < m) (hu : up k i = true) : lng up H m k i = max (lng up H m (k + 1) i) (max (lng up H m k (i + 1)) (lng up H m (k + 1) (i + 1) + 1)) := by
  rw [lng, dif_pos h, if_pos hu, Nat.max_assoc]
theorem lng_no {up : Nat → Nat → Bool} {H m k i : Nat} (h : k < H ∧ i < m) (hu : up k i = false) : lng up H m k i = max (lng up H m (k + 1) i) (lng up H m k (i + 1)) := by
  rw [lng, dif_pos h, if_neg (by rw [hu]; simp)]
theorem lng_le {up : Nat → Nat → Bool} {H m : Nat} : ∀ (n k i : Nat), (H - k) + (m - i) ≤ n → lng up H m k i ≤ H - k ∧ lng up H m k i ≤ m - i
  | 0, k, i, hn => by rw [lng_out (up := up) (H := H) (m := m) (k := k) (i := i) (by omega)]; omega
  | n + 1, k, i, hn => by
    by_cases h : k < H ∧ i < m
    · have h1 := lng_le (up := up) (H := H) (m := m) n (k + 1) i (by omega)
      have h2 := lng_le (up := up) (H := H) (m := m) n k (i + 1) (by omega)
      have h3 := lng_le (up := up) (H := H) (m := m) n (k + 1) (i + 1) (by omega)
      cases hu : up k i with
      | true => rw [lng_yes h hu]; omega
      | false => rw [lng_no h hu]; omega
    · rw [lng_out h]; omega
theorem lng_mk {up : Nat → Nat → Bool} {H m k i : Nat} : lng up H m (k + 1) i ≤ lng up H m k i := by
  by_cases h : k < H ∧ i < m
  · cases hu : up k i with
    | true => rw [lng_yes h hu]; omega
    | false => rw [lng_no h hu]; omega
  · rw [lng_out (up := up) (H := H) (m := m) (k := k + 1) (i := i) (by omega)]; omega
theorem lng_mi {up : Nat → Nat → Bool} {H m k i : Nat} : lng up H m k (i + 1) ≤ lng up H m k i := by
  by_cases h : k < H ∧ i < m
  · cases hu : up k i with
    | true => rw [lng_yes h hu]; omega
    | false => rw [lng_no h hu]; omega
  · rw [lng_out (up := up) (H := H) (m := m) (k := k) (i := i + 1) (by omega)]; omega
/-- the places of the least one of the longest rows for a hill -/
def goods (up : Nat → Nat → Bool) (H m k i : Nat) : List Nat := ((List.range' i (m - i)).filter (up k)).filter fun s => decide (lng up H m (k + 1) (s + 1) + 1 = lng up H m k i)
/-- the least one of the longest rows -/
def prs (up : Nat → Nat → Bool) (H m : Nat) : Nat → Nat → Nat → List (Nat × Nat)
  | 0, _, _ => []
  | n + 1, k, i => if lng up H m k i = 0 then [] else match goods up H m k i with
    | [] => prs up H m n (k + 1) i
    | s :: _ => (k, s) :: prs up H m n (k + 1) (s + 1)
def pairD (p : Nat × Nat) : D := .tup [.int (p.1 : Nat), .int (p.2 : Nat)]
theorem prs_none {up : Nat → Nat → Bool} {H m k i : Nat} (h : lng up H m k i = 0) : ∀ n, prs up H m n k i = []
  | 0 => rfl
  | n + 1 => by unfold prs; rw [if_pos h]
theorem prs_skip {up : Nat → Nat → Bool} {H m n k i : Nat} (h : ¬ lng up H m k i = 0) (g : goods up H m k i = []) : prs up H m (n + 1) k i = prs up H m n (k + 1) i := by
  conv => lhs; unfold prs
  rw [if_neg h, g]
theorem prs_take {up : Nat → Nat → Bool} {H m n k i s : Nat} {r : List Nat} (h : ¬ lng up H m k i = 0) (g : goods up H m k i = s :: r) : prs up H m (n + 1) k i = (k, s) :: prs up H m n (k + 1) (s + 1) := by
  conv => lhs; unfold prs
  rw [if_neg h, g]
theorem range2_ok {i m : Nat} (h : i ≤ 1000000) (h2 : m ≤ 1000000) (S : List Cell) : range2D [.int (i : Nat), .int (m : Nat)] S = .ok ((List.range' i (m - i)).map fun s => .int (s : Nat)) S := by
  unfold range2D
  dsimp only
  rw [if_pos (by unfold smallI; simp; omega)]
  congr 1
  rw [List.range'_eq_map_range, List.map_map, show ((m : Int) - (i : Int)).toNat = m - i by omega]
  refine List.map_congr_left fun k _ => ?_
  simp
theorem goods_mem {up : Nat → Nat → Bool} {H m k i s : Nat} (h : s ∈ goods up H m k i) : i ≤ s ∧ s < m ∧ up k s = true ∧ lng up H m (k + 1) (s + 1) + 1 = lng up H m k i := by
  unfold goods at h
  rw [List.mem_filter, List.mem_filter, List.mem_range'_1] at h
  exact ⟨h.1.1.1, by omega, h.1.2, by simpa using h.2⟩
end DL

/-! DXm: rules for i += j, tuple(range(n)); what a slice has. -/
namespace DL
open PySem PySem.Spec L2
open PyProof.Rows hiding St
section
variable (env : List Sl) (S : List Cell)
@[simp ↓] theorem V_incF (i : Nat) (f : Ex D) {F : PF} : @Fl.V (mInc i f env S) F = @Fl.V (match env[i]? with
  | some (.val (.int x)) => (f env S).go env fun d S1 => match d with
    | .int y => Fl.nx (env.set i (.val (.int (x + y)))) S1
    | _ => .bad
  | _ => .bad : Fl) F := nr rfl
@[simp] theorem r_tupRg (f : Ex D) : mTupRg f env S = (f env S).andThen fun x S1 => match x with
  | .int j => if okRg 0 j then .ok (.tup (rgD 0 j)) S1 else .bad
  | _ => .bad := nr rfl
@[simp ↓] theorem V_rtupRg (f : Ex D) {P : PR D} : @Rs.V D (mTupRg f env S) P = @Rs.V D ((f env S).andThen fun x S1 => match x with
  | .int j => if okRg 0 j then .ok (.tup (rgD 0 j)) S1 else .bad
  | _ => .bad) P := by rw [r_tupRg]
end
theorem cut_mem {xs : List D} {a b : Option Int} {e : D} (h : e ∈ cutD xs a b) : e ∈ xs := by
  unfold cutD at h
  exact List.mem_of_mem_drop (List.mem_of_mem_take h)
theorem cut_len {xs : List D} {a b : Option Int} : (cutD xs a b).length ≤ xs.length := by
  unfold cutD
  simp
  omega
theorem rg_int {i j : Int} {d : D} (h : d ∈ rgD i j) : ∃ k : Int, d = .int k := by
  unfold rgD at h
  obtain ⟨k, _, rfl⟩ := List.mem_map.mp h
  exact ⟨_, rfl⟩
theorem rg_len (i j : Int) : (rgD i j).length = (j - i).toNat := by unfold rgD; simp
end DL

/-! The table of lengths: its rows are cells. -/
namespace K14
open PySem PySem.Spec L2 DL
open PyProof.Rows hiding St
theorem zeros_row (m : Nat) (env : List Sl) (S : List Cell) : compL [6] (.nm 6) mYes (mC (.int 0)) ((List.range m).map fun k : Nat => D.int (k : Nat)) env S = .ok ((List.replicate m (0 : Int)).map .int) S := by
  rw [comp_gm (fun k : Nat => D.int (k : Nat)) (fun _ => D.int 0) (List.range m) fun k hk => by
    by_cases h : 6 < env.length
    · simp
    · simp]
  congr 1
  rw [List.map_replicate, List.map_const', List.length_range]
theorem row_cell {env : List Sl} {S : List Cell} {m : Nat} (h3 : env[3]? = some (.val (.int (m : Nat)))) (hm : m ≤ 12) : mCell (mComp (mRange1 (mCons (mOp addD (mVar 3) (mC (.int 1))) mNil)) [6] (.nm 6) mYes (mC (.int 0))) env S =
    .ok (.cell S.length) (S ++ [rowC m fun _ => 0]) := by
  have e0 : (mCons (mOp addD (mVar 3) (mC (.int 1))) mNil) env S = .ok [.int ((m : Int) + 1)] S := by
    have v : mVar 3 env S = .ok (.int (m : Nat)) S := by unfold mVar; rw [h3]
    unfold mCons mOp mC
    rw [v]
    rfl
  have e1 : mRange1 (mCons (mOp addD (mVar 3) (mC (.int 1))) mNil) env S = .ok ((List.range (m + 1)).map fun k => .int (k : Nat)) S := by
    unfold mRange1
    rw [e0, andThen_ok]
    exact range1_int (n := m + 1) (by omega) (by omega) S
  have e2 : mComp (mRange1 (mCons (mOp addD (mVar 3) (mC (.int 1))) mNil)) [6] (.nm 6) mYes (mC (.int 0)) env S = .ok ((List.replicate (m + 1) (0 : Int)).map .int) S := by
    unfold mComp
    rw [e1, andThen_ok, if_pos (by rw [List.length_map, List.length_range]; omega), zeros_row, noX_ok]
  unfold mCell
  rw [e2, andThen_ok]
  unfold rowC
  rw [List.map_replicate, List.map_const', List.length_range]
  rfl
theorem lengths_ok {fr : D} {h m : Nat} {xs : List D} (hl : xs.length = m) (hm : m ≤ 12) (hh : h ≤ 10) {up : Nat → Nat → Bool} (e1 : ∀ S, isInsP "Frame" fr S = true) (e2 : ∀ S, f_c_Frame_hills [fr] S = .ok (.int (h : Nat)) S)
    (e3 : ∀ k i (hi : i < xs.length) S, k < h → f_p_is_up [fr, .int (k : Nat), xs[i]] S = .ok (.bl (up k i)) S) (S0 : List Cell) :
    (f_p_lengths_from [fr, .tup xs] S0).W (fun d S' => d = .lst (cellsD S0.length (h + 1)) ∧ TabIs S0 S' S0.length h m (lng up h m)) XN := by
  have r1 : ∀ S, range1D [.int ((h : Int) + 1)] S = .ok ((List.range (h + 1)).map fun k => .int (k : Nat)) S := fun S => range1_int (n := h + 1) (by omega) (by omega) S
  have hs : h ≤ 99999 := by omega
  have rB : ∀ S, rangeBD [.int ((h : Int) - 1), .int (-1), .int (-1)] S = .ok ((List.range h).map fun k => .int ((h : Int) - 1 - (k : Nat))) S := fun S => rangeB_ok (by omega) (by omega) (by omega) S
  have rB2 : ∀ S, rangeBD [.int ((m : Int) - 1), .int (-1), .int (-1)] S = .ok ((List.range m).map fun k => .int ((m : Int) - 1 - (k : Nat))) S := fun S => rangeB_ok (by omega) (by omega) (by omega) S
  have sz : (cellsD S0.length (h + 1)).length ≤ 100000 := by unfold cellsD; simp; omega
  simp [f_p_lengths_from, m_p_lengths_from, e1, e2, hl, r1, hs]
  refine comp_at (fun j acc S' => acc = cellsD S0.length j ∧ S'.length = S0.length + j ∧ (∀ k, k < S0.length → S'[k]? = S0[k]?) ∧ ∀ i, i < j → S'[S0.length + i]? = some (rowC m fun _ => 0)) ⟨rfl, rfl, fun _ _ => rfl, fun i hi => absurd hi (by omega)⟩ ?_ ?_
  · intro j d acc S1 hd hI
    have a1 := hI.1
    have l1 := hI.2.1
    have k1 := hI.2.2.1
    have z1 := hI.2.2.2
    have hj := (rng_get hd).1
    have e1 := (rng_get hd).2
    clear hI hd
    subst a1 e1
    unfold DL.inR
    rw [show bindP (.nm 5) (.int (j : Nat)) (wipeE [.val fr, .val (.tup xs), .val (.int (h : Nat)), .val (.int (m : Nat)), .un, .un, .un, .un] [5]) = some [.val fr, .val (.tup xs), .val (.int (h : Nat)), .val (.int (m : Nat)), .un, .val (.int (j : Nat)), .un, .un] from rfl]
    dsimp only
    rw [show mYes [.val fr, .val (.tup xs), .val (.int (h : Nat)), .val (.int (m : Nat)), .un, .val (.int (j : Nat)), .un, .un] S1 = .ok true S1 from rfl, andThen_ok, if_pos rfl, row_cell rfl hm, andThen_ok]
    show _ ∧ _
    refine ⟨by rw [cells_snoc, l1], by simp [l1]; omega, fun k hk => ?_, fun i hi => ?_⟩
    · rw [List.getElem?_append_left (by omega)]
      exact k1 k hk
    · by_cases e : i < j
      · rw [List.getElem?_append_left (by omega)]
        exact z1 i e
      · have : i = j := by omega
        subst this
        rw [← l1, List.getElem?_append_right (Nat.le_refl _)]
        simp
  rintro acc S1 ⟨rfl, l1, k1, z1⟩
  rw [List.length_map, List.length_range] at *
  have t0 : TabIs S0 S1 S0.length h m (fun k i => if h ≤ k then lng up h m k i else 0) := by
    refine TabIs.eq (T := fun _ _ => 0) ⟨l1, k1, fun k hk => z1 k (by omega)⟩ fun k i hk hi => ?_
    by_cases e : h ≤ k
    · rw [if_pos e, lng_out (by omega)]
    · rw [if_neg e]
  have cx : ∀ {i : Int} {k : Nat}, k ≤ h → i = (k : Nat) → L2.atI (cellsD S0.length (h + 1)) i = some (.cell (S0.length + k)) := fun hk e => cells_ix (by omega) e
  generalize cellsD S0.length (h + 1) = cs at *
  generalize S0.length = b at *
  simp [rB]
  refine for_at (fun j e S' => ∃ s5 s6 s7, e = [.val fr, .val (.tup xs), .val (.int (h : Nat)), .val (.int (m : Nat)), .val (.lst cs), s5, s6, s7] ∧ TabIs S0 S' b h m (fun k i => if h - j ≤ k then lng up h m k i else 0)) ⟨_, _, _, rfl, t0⟩ ?_ ?_
  · rintro j d env S2 hd ⟨s5, s6, s7, rfl, t1⟩
    obtain ⟨hj, rfl⟩ := rng_get hd
    clear hd t0
    obtain ⟨k, hk⟩ : ∃ k, k = h - 1 - j := ⟨_, rfl⟩
    rw [show (h : Int) - 1 - (j : Nat) = (k : Nat) by omega]
    have c0 := cx (i := (k : Int)) (k := k) (by omega) rfl
    have c1 := cx (i := (k : Int) + 1) (k := k + 1) (by omega) (by omega)
    simp [rB2]
    refine for_at (fun j2 e S' => ∃ s6 s7, e = [.val fr, .val (.tup xs), .val (.int (h : Nat)), .val (.int (m : Nat)), .val (.lst cs), .val (.int (k : Nat)), s6, s7] ∧ TabIs S0 S' b h m (fun k' i => if k < k' ∨ (k' = k ∧ m ≤ i + j2) then lng up h m k' i else 0)) ⟨_, _, rfl, ?_⟩ ?_ ?_
    · refine t1.eq fun k' i hk' hi => ?_
      by_cases e : h - j ≤ k'
      · rw [if_pos e, if_pos (by omega)]
      · rw [if_neg e]
        by_cases e2 : k < k' ∨ (k' = k ∧ m ≤ i + 0)
        · rw [if_pos e2, lng_out (by omega)]
        · rw [if_neg e2]
    · rintro j2 d env S3 hd ⟨s6, s7, rfl, t2⟩
      obtain ⟨hj2, rfl⟩ := rng_get hd
      clear hd t1
      obtain ⟨i, hi⟩ : ∃ i, i = m - 1 - j2 := ⟨_, rfl⟩
      rw [show (m : Int) - 1 - (j2 : Nat) = (i : Nat) by omega]
      have hix : i < xs.length := by omega
      have q1 := t2.read (k := k + 1) (i := i) (x := (i : Int)) (by omega) (by omega) rfl
      have q2 := t2.read (k := k) (i := i + 1) (x := (i : Int) + 1) (by omega) (by omega) (by omega)
      have q3 := t2.read (k := k + 1) (i := i + 1) (x := (i : Int) + 1) (by omega) (by omega) (by omega)
      rw [if_pos (by omega)] at q1 q2 q3
      have ax : L2.atI xs (i : Int) = some xs[i] := at_nat hix
      have u := e3 k i hix S3 (by omega)
      have mx : ∀ (p q : Nat) S, maxD [.int (p : Int), .int (q : Int)] S = some (.int ((max p q : Nat) : Int)) := fun p q S => by
        rw [max_int]
        congr 2
        split <;> omega
      have mx2 : ∀ (p q : Nat) S, maxD [.int (p : Int), .int ((q : Int) + 1)] S = some (.int ((max p (q + 1) : Nat) : Int)) := fun p q S => mx p (q + 1) S
      generalize xs[i] = dx at *
      have fin : ∀ (v : Nat), v = lng up h m k i → ∃ S', putC (.cell (b + k)) (.int (i : Int)) (.int (v : Int)) S3 = some S' ∧ TabIs S0 S' b h m (fun k' i' => if k < k' ∨ (k' = k ∧ m ≤ i' + (j2 + 1)) then lng up h m k' i' else 0) := fun v hv => by
        obtain ⟨S', p, t⟩ := t2.put (k := k) (i := i) (by omega) (by omega) v (x := (i : Int)) (y := (v : Int)) rfl rfl
        refine ⟨S', p, t.eq fun k' i' hk' hi' => ?_⟩
        by_cases e : k' = k ∧ i' = i
        · rw [if_pos e, if_pos (by omega), hv, e.1, e.2]
        · rw [if_neg e]
          by_cases e2 : k < k' ∨ (k' = k ∧ m ≤ i' + j2)
          · rw [if_pos e2, if_pos (by omega)]
          · rw [if_neg e2, if_neg (by omega)]
      cases hu : up k i with
      | true =>
        rw [hu] at u
        obtain ⟨S', p, t⟩ := fin _ (lng_yes (i := i) ⟨by omega, by omega⟩ hu).symm
        generalize lng up h m (k + 1) i = a1 at *
        generalize lng up h m k (i + 1) = a2 at *
        generalize lng up h m (k + 1) (i + 1) = a3 at *
        simp [-max_int, mx, mx2, c0, c1, q1, q2, q3, ax, u, p]
        exact t
      | false =>
        rw [hu] at u
        obtain ⟨S', p, t⟩ := fin _ (lng_no (i := i) ⟨by omega, by omega⟩ hu).symm
        generalize lng up h m (k + 1) i = a1 at *
        generalize lng up h m k (i + 1) = a2 at *
        simp [-max_int, mx, c0, c1, q1, q2, ax, u, p]
        exact t
    · rintro env S3 ⟨s6, s7, rfl, t2⟩
      refine ⟨_, _, _, rfl, t2.eq fun k' i hk' hi => ?_⟩
      rw [List.length_map, List.length_range]
      by_cases e : h - (j + 1) ≤ k'
      · rw [if_pos e, if_pos (by omega)]
      · rw [if_neg e, if_neg (by omega)]
  · rintro env S2 ⟨s5, s6, s7, rfl, t1⟩
    simp
    refine t1.eq fun k i hk hi => ?_
    rw [List.length_map, List.length_range, if_pos (by omega)]
theorem rank_of_ok {fr : D} {h m : Nat} {xs : List D} (hl : xs.length = m) (hm : m ≤ 12) (hh : h ≤ 10) {up : Nat → Nat → Bool} (e1 : ∀ S, isInsP "Frame" fr S = true) (e2 : ∀ S, f_c_Frame_hills [fr] S = .ok (.int (h : Nat)) S)
    (e3 : ∀ k i (hi : i < xs.length) S, k < h → f_p_is_up [fr, .int (k : Nat), xs[i]] S = .ok (.bl (up k i)) S) (S0 : List Cell) :
    (f_p_rank_of [fr, .tup xs] S0).W (fun d S' => d = .int (lng up h m 0 0 : Nat) ∧ TabIs S0 S' S0.length h m (lng up h m)) XN := by
  simp [f_p_rank_of, m_p_rank_of]
  refine (lengths_ok hl hm hh e1 e2 e3 S0).on ?_
  rintro _ S1 ⟨rfl, t⟩
  have c := cells_ix (b := S0.length) (n := h + 1) (k := 0) (i := 0) (by omega) rfl
  have r := t.read (k := 0) (i := 0) (x := 0) (by omega) (by omega) rfl
  simp only [Nat.add_zero] at c r
  generalize cellsD S0.length (h + 1) = cs at *
  simp [-ix_cellD, c, r]
  exact t
theorem pairs_ok {fr : D} {h m : Nat} {xs : List D} (hl : xs.length = m) (hm : m ≤ 12) (hh : h ≤ 10) {up : Nat → Nat → Bool} (e1 : ∀ S, isInsP "Frame" fr S = true) (e2 : ∀ S, f_c_Frame_hills [fr] S = .ok (.int (h : Nat)) S)
    (e3 : ∀ k i (hi : i < xs.length) S, k < h → f_p_is_up [fr, .int (k : Nat), xs[i]] S = .ok (.bl (up k i)) S) (S0 : List Cell) :
    (f_p_pairs_of [fr, .tup xs] S0).W (fun d S' => d = .tup ((prs up h m h 0 0).map pairD) ∧ TabIs S0 S' S0.length h m (lng up h m)) XN := by
  simp [f_p_pairs_of, m_p_pairs_of]
  refine (lengths_ok hl hm hh e1 e2 e3 S0).on ?_
  rintro _ S1 ⟨rfl, t⟩
  have cx : ∀ {i : Int} {k : Nat}, k ≤ h → i = (k : Nat) → L2.atI (cellsD S0.length (h + 1)) i = some (.cell (S0.length + k)) := fun hk e => cells_ix (by omega) e
  generalize cellsD S0.length (h + 1) = cs at *
  generalize S0.length = b at *
  simp
  refine while_W (fun n e S' => S' = S1 ∧ ∃ (k i : Nat) (acc : List (Nat × Nat)) (s6 s7 s8 : Sl), e = [.val fr, .val (.tup xs), .val (.lst cs), .own (acc.map pairD), .val (.int (k : Nat)), .val (.int (i : Nat)), s6, s7, s8] ∧ k + n = h ∧ i ≤ m ∧ acc.length ≤ k ∧ acc ++ prs up h m n k i = prs up h m h 0 0) ?_ 100000 h _ _ (by omega) ⟨rfl, 0, 0, [], .un, .un, .un, rfl, by omega, by omega, by simp, by simp⟩
  rintro n env S2 ⟨rfl, k, i, acc, s6, s7, s8, rfl, hk, hi, al, hp⟩
  have c0 := cx (i := (k : Int)) (k := k) (by omega) rfl
  have q0 := t.read (k := k) (i := i) (x := (i : Int)) (by omega) (by omega) rfl
  simp [-ix_cellD, c0, q0]
  constructor
  · intro z
    rw [prs_none z, List.append_nil] at hp
    subst hp
    exact ⟨rfl, t⟩
  · intro z
    have hkh : k < h := by
      rcases Nat.lt_or_ge k h with q | q
      · exact q
      · rw [lng_out (by omega)] at z; omega
    have him : i < m := by
      rcases Nat.lt_or_ge i m with q | q
      · exact q
      · rw [lng_out (by omega)] at z; omega
    obtain ⟨n, rfl⟩ : ∃ j, n = j + 1 := ⟨n - 1, by omega⟩
    have c1 := cx (i := (k : Int) + 1) (k := k + 1) (by omega) (by omega)
    have r2 := range2_ok (i := i) (m := m) (by omega) (by omega) S2
    have f1 : ∀ e6 e7 e8, compL [8] (.nm 8) (mB (mFn 3 f_p_is_up (mCons (mVar 0) (mCons (mVar 4) (mCons (mOp ixD (mVar 1) (mVar 8)) mNil))))) (mVar 8) ((List.range' i (m - i)).map fun s => .int (s : Nat))
        [.val fr, .val (.tup xs), .val (.lst cs), .own (acc.map pairD), .val (.int (k : Nat)), .val (.int (i : Nat)), e6, e7, e8] S2 = .ok (((List.range' i (m - i)).filter (up k)).map fun s => .int (s : Nat)) S2 := fun e6 e7 e8 => by
      refine comp_fm _ _ _ _ fun s hs => ?_
      rw [List.mem_range'_1] at hs
      have hsx : s < xs.length := by omega
      have u := e3 k s hsx S2 hkh
      have ax : L2.atI xs (s : Int) = some xs[s] := at_nat hsx
      generalize xs[s] = dx at *
      simp [ax, u]
    have f2 : ∀ e6 e7 e8, compL [8] (.nm 8) (mB (mOp eqD (mOp addD (mOp ixD (mOp ixD (mVar 2) (mOp addD (mVar 4) (mC (.int 1)))) (mOp addD (mVar 8) (mC (.int 1)))) (mC (.int 1))) (mOp ixD (mOp ixD (mVar 2) (mVar 4)) (mVar 5)))) (mVar 8) (((List.range' i (m - i)).filter (up k)).map fun s => .int (s : Nat))
        [.val fr, .val (.tup xs), .val (.lst cs), .own (acc.map pairD), .val (.int (k : Nat)), .val (.int (i : Nat)), e6, e7, e8] S2 = .ok ((goods up h m k i).map fun s => .int (s : Nat)) S2 := fun e6 e7 e8 => by
      refine comp_fm _ _ _ _ fun s hs => ?_
      rw [List.mem_filter, List.mem_range'_1] at hs
      have q3 := t.read (k := k + 1) (i := s + 1) (x := (s : Int) + 1) (by omega) (by omega) (by omega)
      simp [-ix_cellD, c0, c1, q0, q3]
      by_cases z : lng up h m (k + 1) (s + 1) + 1 = lng up h m k i
      · rw [if_pos z, if_pos (by omega)]
      · rw [if_neg z, if_neg (by omega)]
    have gl : (goods up h m k i).length ≤ 12 := by
      have a1 := List.length_filter_le (fun s => decide (lng up h m (k + 1) (s + 1) + 1 = lng up h m k i)) ((List.range' i (m - i)).filter (up k))
      have a2 := List.length_filter_le (up k) (List.range' i (m - i))
      rw [List.length_range'] at a2
      unfold goods
      omega
    have g1 : ((List.range' i (m - i)).filter (up k)).length ≤ 100000 := by
      have a2 := List.length_filter_le (up k) (List.range' i (m - i))
      rw [List.length_range'] at a2
      omega
    have g2 : m - i ≤ 100000 := by omega
    have nn := fun S => ne_nats0 (goods up h m k i) S
    have lx : lenD [.tup xs] S2 = some (.int (m : Nat)) := by rw [len_tup, hl]
    generalize hA : ((List.range' i (m - i)).filter (up k)).map (fun s => D.int (s : Nat)) = A at *
    have al' : A.length ≤ 100000 := by rw [← hA, List.length_map]; exact g1
    cases hg : goods up h m k i with
    | nil =>
      rw [hg] at nn f2
      rw [prs_skip (by omega) hg] at hp
      simp [hl, r2, f1, f2, g2, al', nn]
      exact ⟨n, by omega, k + 1, i, acc, ⟨rfl, by simp, rfl⟩, by omega, hi, by omega, hp⟩
    | cons s r =>
      rw [hg] at nn f2
      rw [prs_take (by omega) hg] at hp
      have gm := goods_mem (s := s) (up := up) (H := h) (m := m) (k := k) (i := i) (by rw [hg]; simp)
      have nn' : ∀ S, neD (.lst (.int (s : Nat) :: r.map fun s => .int (s : Nat))) (.lst []) S = some (.bl true) := fun S => by
        have := nn S
        simpa using this
      have ol : okLen (acc.length + 1) = true := by unfold okLen; simp; omega
      simp [hl, r2, f1, f2, g2, al', nn', ol]
      exact ⟨n, by omega, k + 1, s + 1, acc ++ [(k, s)], by simp [DL.pairD], by omega, by omega, by simp; omega, by simpa using hp⟩
end K14

namespace K14
open PySem PySem.Spec L2 DL
open PyProof.Rows hiding St
/-- a mug: [a, b, how many were drawn], at most c -/
def MugAt (S : List Cell) (n : Nat) (c : Nat) : Prop := ∃ a b k : Int, S[n]? = some (.lst [.int a, .int b, .int k]) ∧ 0 ≤ a ∧ 0 ≤ b ∧ b < 2147483563 ∧ 0 ≤ k ∧ k ≤ (c : Nat)
theorem MugAt.le {S : List Cell} {n c c' : Nat} (h : MugAt S n c) (hc : c ≤ c') : MugAt S n c' := by
  obtain ⟨a, b, k, h1, h2, h3, h4, h5, h6⟩ := h
  exact ⟨a, b, k, h1, h2, h3, h4, h5, by omega⟩
theorem MugAt.keep {S S' : List Cell} {n m c : Nat} (h : MugAt S n c) (hk : Kp m S S') (hm : n ≠ m) : MugAt S' n c := by
  obtain ⟨a, b, k, h1, h2⟩ := h
  exact ⟨a, b, k, by rw [hk.2 n hm (List.getElem?_eq_some_iff.mp h1).1]; exact h1, h2⟩
theorem MugAt.app {S T : List Cell} {n c : Nat} (h : MugAt S n c) : MugAt (S ++ T) n c := by
  obtain ⟨a, b, k, h1, h2⟩ := h
  exact ⟨a, b, k, by rw [List.getElem?_append_left (List.getElem?_eq_some_iff.mp h1).1]; exact h1, h2⟩
theorem MugAt.lt {S : List Cell} {n c : Nat} (h : MugAt S n c) : n < S.length := by
  obtain ⟨a, b, k, h1, h2⟩ := h
  exact (List.getElem?_eq_some_iff.mp h1).1
theorem sip_ok {S : List Cell} {n c : Nat} {top : Int} (w : MugAt S n c) (hc : c ≤ 1000000000000) (h1 : 0 < top) (h2 : top < 1000000000000) :
    (f_l_sip [.cell n, .int top] S).W (fun d S' => ∃ i : Int, d = .int i ∧ 0 ≤ i ∧ i < top ∧ MugAt S' n (c + 1) ∧ Kp n S S') XN := by
  obtain ⟨a, b, k, h, ha, hb, hb2, hk, hk2⟩ := w
  obtain ⟨hl, h⟩ := List.getElem?_eq_some_iff.mp h
  have m1 : ∀ S, mulD (.int b) (.int 39373) S = some (.int (b * 39373)) := fun S => mul_ok 40 40 (by omega) (by decide)
  have m2 : ∀ S, mulD (.int 2003) (.int (k + 1)) S = some (.int (2003 * (k + 1))) := fun S => mul_ok 40 60 (by decide) (by omega)
  have d1 : ∀ i S, divD (.int i) (.int top) S = some (.int (i / top)) := fun i S => divD_int h1 (log2_lt (Nat.lt_of_lt_of_le (m := 2 ^ 60) (by omega) (Nat.pow_le_pow_right (by decide) (by decide))) (by decide))
  have d2 : ∀ i S, divD (.int i) (.int 128) S = some (.int (i / 128)) := fun i S => divD_int (by decide) (by decide)
  have e1 : ∀ i S, modD (.int i) (.int top) S = some (.int (i % top)) := fun i S => modD_int h1
  have e2 : ∀ i S, modD (.int i) (.int 2147483563) S = some (.int (i % 2147483563)) := fun i S => modD_int (by decide)
  by_cases hp : 0 < a
  · simp [f_l_sip, m_l_sip, h, hl, ixN, hp, e1, d1]
    exact ⟨Int.emod_nonneg _ (by omega), Int.emod_lt_of_pos _ h1, ⟨a / top, b, k + 1, by simp [hl], Int.ediv_nonneg ha (by omega), hb, hb2, by omega, by omega⟩, Kp.set⟩
  · simp [f_l_sip, m_l_sip, h, hl, ixN, hp, e1, e2, d2, m1, m2]
    exact ⟨Int.emod_nonneg _ (by omega), Int.emod_lt_of_pos _ h1, ⟨a, _, k + 1, by simp [hl]; rfl, ha, Int.emod_nonneg _ (by decide), Int.emod_lt_of_pos _ (by decide), by omega, by omega⟩, Kp.set⟩
theorem pick_ok {S : List Cell} {n c : Nat} {xs : List D} (w : MugAt S n c) (hc : c ≤ 1000000000000) (h1 : 0 < xs.length) (h2 : xs.length < 1000000) :
    (f_l_pick [.cell n, .lst xs] S).W (fun d S' => d ∈ xs ∧ MugAt S' n (c + 1) ∧ Kp n S S') XN := by
  simp [f_l_pick, m_l_pick]
  refine (sip_ok w hc (top := (xs.length : Nat)) (by omega) (by omega)).on ?_
  rintro _ S1 ⟨i, rfl, i0, i1, w1, k1⟩
  simp [at_ok i0 i1]
  exact ⟨w1, k1⟩
theorem mug_ok (ns : List Int) (S : List Cell) (t : Nat) (ht : t < 1000) :
    (f_l_mug [scriptD ns, .int (t : Nat)] S).W (fun d S' => d = .cell S.length ∧ MugAt S' S.length 0 ∧ S'.length = S.length + 1 ∧ Kp S.length S S') XN := by
  have hsl : sliceD (scriptD ns) none (some 8) = some (.lst ((ns.take 8).map D.int)) := by
    show some (D.lst (cutD _ _ _)) = _
    rw [cut_to (by decide), List.map_take]
    rfl
  have e18 : ∀ S, powD (.int 10) (.int 18) S = some (.int 1000000000000000000) := fun S => by rw [powD_int (by decide)]; rfl
  have e1 : ∀ i S, modD (.int i) (.int 999959) S = some (.int (i % 999959)) := fun i S => modD_int (by decide)
  have e2 : ∀ i S, modD (.int i) (.int 2147483563) S = some (.int (i % 2147483563)) := fun i S => modD_int (by decide)
  have m1 : mulD (.int 59) (.int (t : Nat)) S = some (.int (59 * (t : Nat))) := mul_ok 20 20 (by decide) (by omega)
  have m2 : mulD (.int 811) (.int (t : Nat)) S = some (.int (811 * (t : Nat))) := mul_ok 20 20 (by decide) (by omega)
  have ln : lenD [scriptD ns] S = some (.int (ns.length : Nat)) := by
    show some (D.int ((ns.map D.int).length : Nat)) = _
    rw [List.length_map]
  have ix : ∀ h : t < ns.length, ixD (scriptD ns) (.int (t : Nat)) S = some (.int ns[t]) := fun h => by
    show L2.atI (ns.map D.int) (t : Nat) = _
    rw [at_map, at_nat h]
    rfl
  generalize scriptD ns = sc at *
  simp only [f_l_mug, m_l_mug, V_def, V_seq, V_set]
  refine Rs.W.on (Q := fun d S1 => ∃ c : Int, d = .int c ∧ S1 = S) ?_ ?_
  · by_cases ht2 : t < ns.length
    · simp [ln, ht2, ix ht2]
    · simp [ln, ht2, m1]
  rintro _ S1 ⟨c, rfl, rfl⟩
  simp [hsl, m2]
  refine for_at (fun _ e S' => S' = S1 ∧ ∃ (m : Int) (s4 : Sl), e = [.val sc, .val (.int (t : Nat)), .val (.int c), .val (.int m), s4] ∧ 0 ≤ m ∧ m < 100000000000) ?_ ?_ ?_
  · exact ⟨rfl, _, _, rfl, by omega, by omega⟩
  · rintro j d env S' hd ⟨rfl, m, s4, rfl, m0, m1⟩
    obtain ⟨x, hx, rfl⟩ : ∃ x : Int, x ∈ ns.take 8 ∧ D.int x = d := List.mem_map.mp (by rw [List.map_take]; exact List.mem_of_getElem? hd)
    have mm : ∀ S, mulD (.int m) (.int 39373) S = some (.int (m * 39373)) := fun S => mul_ok 60 40 (by omega) (by decide)
    simp [mm, e1, e2]
    exact ⟨Int.emod_nonneg _ (by decide), Int.lt_trans (Int.emod_lt_of_pos _ (by decide)) (by decide)⟩
  · rintro env S' ⟨rfl, m, s4, rfl, m0, m1⟩
    have mm : ∀ S, mulD (.int m) (.int 39373) S = some (.int (m * 39373)) := fun S => mul_ok 60 40 (by omega) (by decide)
    simp [mm, e1, e2, e18]
    refine ⟨⟨_, _, 0, by simp; exact ⟨rfl, rfl⟩, ?_, Int.emod_nonneg _ (by decide), Int.emod_lt_of_pos _ (by decide), by omega, by omega⟩, Kp.app⟩
    split <;> (try split) <;> omega
end K14

/-! What the law makes of a refusal. -/
namespace K14
open PySem PySem.Spec L2 DL
theorem error_told {n : Nat} {t : List Cell → Rs D} {S S1 : List Cell} {d : D} (h : t S = .ok d S1) : f_l_error n t [.cell n] S = .ok (.lst [.str "told", d]) S1 := by
  have e : mThunk n t (startE 5 [.cell n]) S = .ok d S1 := (r_thunk n t [.un, .un, .un, .un]).trans h
  unfold f_l_error mDef m_l_error mSeq mTry mSet
  rw [e]
  rfl
theorem error_places {n : Nat} {t : List Cell → Rs D} {S S1 : List Cell} {d : D} (h : t S = .ex "InvalidPlaces" ["index"] [d] S1) : f_l_error n t [.cell n] S = .ok (.lst [.str "places", d]) S1 := by
  have e : mThunk n t (startE 5 [.cell n]) S = .ex "InvalidPlaces" ["index"] [d] S1 := (r_thunk n t [.un, .un, .un, .un]).trans h
  unfold f_l_error mDef m_l_error mSeq mTry
  rw [show mSet 1 (mThunk n t) (startE 5 [.cell n]) S = .ex "InvalidPlaces" ["index"] [d] (startE 5 [.cell n]) S1 by unfold mSet; rw [e]; rfl]
  clear e h
  kernel_rfl
theorem error_frame {n : Nat} {t : List Cell → Rs D} {S S1 : List Cell} {d : D} (h : t S = .ex "NotAFrame" ["given"] [d] S1) : f_l_error n t [.cell n] S = .ok (.lst [.str "frame", d]) S1 := by
  have e : mThunk n t (startE 5 [.cell n]) S = .ex "NotAFrame" ["given"] [d] S1 := (r_thunk n t [.un, .un, .un, .un]).trans h
  unfold f_l_error mDef m_l_error mSeq mTry
  rw [show mSet 1 (mThunk n t) (startE 5 [.cell n]) S = .ex "NotAFrame" ["given"] [d] (startE 5 [.cell n]) S1 by unfold mSet; rw [e]; rfl]
  clear e h
  kernel_rfl
theorem error_knots {n : Nat} {t : List Cell → Rs D} {S S1 : List Cell} {d : D} (h : t S = .ex "InvalidKnots" ["index"] [d] S1) : f_l_error n t [.cell n] S = .ok (.lst [.str "knots", d]) S1 := by
  have e : mThunk n t (startE 5 [.cell n]) S = .ex "InvalidKnots" ["index"] [d] S1 := (r_thunk n t [.un, .un, .un, .un]).trans h
  unfold f_l_error mDef m_l_error mSeq mTry
  rw [show mSet 1 (mThunk n t) (startE 5 [.cell n]) S = .ex "InvalidKnots" ["index"] [d] (startE 5 [.cell n]) S1 by unfold mSet; rw [e]; rfl]
  clear e h
  kernel_rfl
theorem error_degree {n : Nat} {t : List Cell → Rs D} {S S1 : List Cell} {d : D} (h : t S = .ex "InvalidDegree" ["given"] [d] S1) : f_l_error n t [.cell n] S = .ok (.lst [.str "degree", d]) S1 := by
  have e : mThunk n t (startE 5 [.cell n]) S = .ex "InvalidDegree" ["given"] [d] S1 := (r_thunk n t [.un, .un, .un, .un]).trans h
  unfold f_l_error mDef m_l_error mSeq mTry
  rw [show mSet 1 (mThunk n t) (startE 5 [.cell n]) S = .ex "InvalidDegree" ["given"] [d] (startE 5 [.cell n]) S1 by unfold mSet; rw [e]; rfl]
  clear e h
  kernel_rfl
end K14

/-! Odd things: numbers asked for, refusals, what is shown. -/
namespace K14
open PySem PySem.Spec L2 DL
open PyProof.Rows hiding St
/-- a number between lo and hi -/
def numB : D → Int → Int → Bool
  | .int i, lo, hi => decide (lo ≤ i) && decide (i ≤ hi)
  | _, _, _ => false
@[simp] theorem numB_int (i lo hi : Int) : numB (.int i) lo hi = (decide (lo ≤ i) && decide (i ≤ hi)) := rfl
/-- a thing of a built-in kind -/
def Vl (d : D) : Prop := ∃ n, tyName d = some n
theorem isInt_of {d : D} (h : Vl d) (S : List Cell) : isAD tabT [d, .ty "int"] S = some (.bl (match d with | .int _ => true | .bl _ => true | _ => false)) := by
  obtain ⟨n, h⟩ := h
  cases d <;> first | (exact nr rfl) | (cases h; done)
theorem isBl_of {d : D} (h : Vl d) (S : List Cell) : isAD tabT [d, .ty "bool"] S = some (.bl (match d with | .bl _ => true | _ => false)) := by
  obtain ⟨n, h⟩ := h
  cases d <;> first | (exact nr rfl) | (cases h; done)
theorem isnum_ok {d : D} (h : Vl d) (lo hi : Int) (S : List Cell) : f_l_is_number [d, .int lo, .int hi] S = .ok (.bl (numB d lo hi)) S := by
  refine Rs.W.eq ?_
  have h1 := isInt_of h
  have h2 := isBl_of h
  cases d <;> simp [f_l_is_number, m_l_is_number, h1, h2, numB] <;> (obtain ⟨n, h⟩ := h; first | (cases h; done) | skip)
theorem isinteger_ok {d : D} (h : Vl d) (S : List Cell) : f_p_is_integer [d] S = .ok (.bl (match d with | .int _ => true | _ => false)) S := by
  refine Rs.W.eq ?_
  have h1 := isInt_of h
  have h2 := isBl_of h
  cases d <;> simp [f_p_is_integer, m_p_is_integer, h1, h2]
theorem between_any {d : D} (h : Vl d) (lo hi : Int) (S : List Cell) : f_p_is_between [d, .int lo, .int hi] S = .ok (.bl (numB d lo hi)) S := by
  refine Rs.W.eq ?_
  have h1 := isinteger_ok h S
  cases d <;> simp [f_p_is_between, m_p_is_between, h1, numB]
/-- a refusal -/
abbrev XIs (c : Str) (ns : List Str) (ds : List D) (S : List Cell) : Str → List Str → List D → List Cell → Prop := fun c2 ns2 ds2 S2 => c2 = c ∧ ns2 = ns ∧ ds2 = ds ∧ S2 = S
theorem ex_eq {r : Rs D} {c : Str} {ns : List Str} {ds : List D} {S : List Cell} (h : r.W (fun _ _ => False) (XIs c ns ds S)) : r = .ex c ns ds S := by
  cases r with
  | ok a S => exact h.elim
  | ex c2 ns2 ds2 S2 => obtain ⟨rfl, rfl, rfl, rfl⟩ := h; rfl
  | bad => exact h.elim
/-- the odd things -/
def oddL : List D := [.non, .bl true, .bl false, .int 0, .int 1, .int (-1), .int 2, .int 1000000, .int 1000001, .int 100000000000000000001, .str "", .str "degree 1 knots 0 2 4", .str "1", .tup [], .tup [.int 0],
  .tup [.int 1, .int 5], .tup [.int 5, .int 1], .tup [.int 1, .int 1], .lst [.int 1, .int 5], .dct [] [], .tup [.bl true, .int 2], .tup [.int 0, .str "1"], .tup [.int (-1), .int 2], .tup [.int 0, .int 1000001], .tup [.tup [.int 1, .int 1]], .tup [.non]]
theorem odd_ok {S : List Cell} {n c : Nat} (w : MugAt S n c) (hc : c ≤ 1000000000) : (f_l_odd [.cell n] S).W (fun d S' => d ∈ oddL ∧ MugAt S' n (c + 1) ∧ Kp n S S') XN := by
  have e6 : ∀ S, powD (.int 10) (.int 6) S = some (.int 1000000) := fun S => by rw [powD_int (by decide)]; rfl
  have e20 : ∀ S, powD (.int 10) (.int 20) S = some (.int 100000000000000000000) := fun S => by rw [powD_int (by decide)]; rfl
  obtain ⟨L, hL⟩ : ∃ L, L = oddL := ⟨_, rfl⟩
  have ad : ∀ S, addD (.lst (oddL.take 15)) (.lst (oddL.drop 15)) S = some (.lst L) := fun S => by rw [hL]; rfl
  have len : L.length = 26 := by rw [hL]; rfl
  simp only [oddL, List.take_succ_cons, List.take_zero, List.drop_succ_cons, List.drop_zero] at ad
  simp [f_l_odd, m_l_odd, e6, e20, ad]
  refine (sip_ok w (by omega) (top := (L.length : Nat)) (by omega) (by omega)).on ?_
  rintro _ S1 ⟨i, rfl, i0, i1, w1, k1⟩
  simp [at_ok i0 i1]
  exact ⟨by rw [← hL]; exact List.getElem_mem _, w1, k1⟩
theorem odd_vl {d : D} (h : d ∈ oddL) : Vl d := by
  simp only [oddL, List.mem_cons, List.not_mem_nil, or_false] at h
  rcases h with h | h | h | h | h | h | h | h | h | h | h | h | h | h | h | h | h | h | h | h | h | h | h | h | h | h <;> subst h <;> exact ⟨_, rfl⟩
theorem odd_frame {d : D} (h : d ∈ oddL) (S : List Cell) : isAD tabT [d, .cls "Frame"] S = some (.bl false) := by
  simp only [oddL, List.mem_cons, List.not_mem_nil, or_false] at h
  rcases h with h | h | h | h | h | h | h | h | h | h | h | h | h | h | h | h | h | h | h | h | h | h | h | h | h | h <;> subst h <;> exact nr rfl
theorem ckframe_no {d : D} (h : d ∈ oddL) (S : List Cell) : f_p_check_frame [d] S = .ex "NotAFrame" ["given"] [d] S := by
  refine ex_eq ?_
  simp [f_p_check_frame, m_p_check_frame, odd_frame h]
  exact ⟨rfl, rfl, rfl, rfl⟩
/-- what is shown of a refusal -/
theorem shown_pl {w : Str} {d : D} (hw : PyData.strOk w = true) (h : Pl 1000 49 d) (hl : wt d + w.cps.size ≤ 2000) : ∃ s, ∀ S, repr2D [.lst [.str w, d]] S = some (.str s) := by
  obtain ⟨s, hs⟩ := repr_ok (b := 1000) (d := .lst [.str w, d]) (by
    rw [Pl_lst]
    intro x hx
    rcases List.mem_cons.mp hx with rfl | hx
    · simpa using hw
    · rw [List.mem_singleton] at hx
      subst hx
      exact h) (by simp; omega)
  exact ⟨s, fun S => repr2_of (hs S)⟩
theorem shown_dec {w : Str} {d : D} {p : PyData} (hp : toP (.lst [.str w, d]) = some p) (hk : okShow p = true) : ∃ s, ∀ S, repr2D [.lst [.str w, d]] S = some (.str s) :=
  ⟨p.shown, fun S => repr2_of (by unfold reprD; dsimp only; rw [hp]; exact if_pos hk)⟩
theorem odd_shown_frame {d : D} (h : d ∈ oddL) : ∃ s, ∀ S, repr2D [.lst [.str "frame", d]] S = some (.str s) := by
  simp only [oddL, List.mem_cons, List.not_mem_nil, or_false] at h
  rcases h with h | h | h | h | h | h | h | h | h | h | h | h | h | h | h | h | h | h | h | h | h | h | h | h | h | h <;> subst h
  case inr.inr.inr.inr.inr.inr.inr.inr.inr.inr.inr.inr.inr.inr.inr.inr.inr.inr.inr.inl => exact ⟨_, fun S => repr2_word (by decide +kernel)⟩
  all_goals exact shown_dec rfl (by decide +kernel)
end K14

/-! Places: the first wrong one, as the program and as the law find it. -/
namespace K14
open PySem PySem.Spec L2 DL
open PyProof.Rows hiding St
/-- the number at i, -1 where there is none -/
def numAt (xs : List D) (i : Nat) : Int := match xs[i]? with
  | some (.int z) => z
  | _ => -1
/-- the thing at j is wrong, the earlier ones being right -/
def BadAt (xs : List D) (j : Nat) : Prop := j = 12 ∨ (∃ d, xs[j]? = some d ∧ numB d 0 1000000 = false) ∨ (0 < j ∧ numAt xs j ≤ numAt xs (j - 1))
def GoodTo (xs : List D) (j : Nat) : Prop := ∀ i, i < j → ¬ BadAt xs i
def FirstBad (xs : List D) (j : Nat) : Prop := j < xs.length ∧ BadAt xs j ∧ GoodTo xs j
theorem first_uniq {xs : List D} {i j : Nat} (h1 : FirstBad xs i) (h2 : FirstBad xs j) : i = j := by
  rcases Nat.lt_trichotomy i j with h | h | h
  · exact absurd h1.2.1 (h2.2.2 i h)
  · exact h
  · exact absurd h2.2.1 (h1.2.2 j h)
theorem num_of {d : D} (h : numB d 0 1000000 = true) : ∃ z, d = .int z := by
  cases d <;> first | (cases h; done) | exact ⟨_, rfl⟩
theorem isplace_ok {d : D} (h : Vl d) (S : List Cell) : f_p_is_place [d] S = .ok (.bl (numB d 0 1000000)) S := by
  refine Rs.W.eq ?_
  have h1 := between_any h 0 1000000 S
  simp [f_p_is_place, m_p_is_place, h1]
/-- what a search for the first wrong one gives -/
def Found (xs : List D) (d : D) : Prop := (∃ j : Nat, FirstBad xs j ∧ d = .int (j : Nat)) ∨ (GoodTo xs xs.length ∧ d = .int (-1))
theorem pfault_ok {xs : List D} (hne : xs ≠ []) (hv : ∀ d ∈ xs, Vl d) (S : List Cell) : (f_p_places_fault [.tup xs] S).W (fun d S' => S' = S ∧ Found xs d) XN := by
  have it : ∀ S, isAD tabT [.tup xs, .ty "tuple"] S = some (.bl true) := fun S => nr rfl
  have e0 : ∀ S, eqL (.tup xs) (.tup []) S = some (.bl false) := fun S => by
    obtain ⟨x, r, rfl⟩ := List.exists_cons_of_ne_nil hne
    exact eqL_cons x r S
  simp [f_p_places_fault, m_p_places_fault, it, e0]
  refine for_at (fun j e S' => S' = S ∧ GoodTo xs j ∧ ∃ s2 s3, e = [.val (.tup xs), s2, s3]) ⟨rfl, fun i h => absurd h (by omega), _, _, rfl⟩ ?_ ?_
  · rintro j d env S' hd ⟨rfl, gt, s2, s3, rfl⟩
    obtain ⟨hj, rfl⟩ := pairs_get hd
    have vl := hv xs[j] (List.getElem_mem hj)
    have ip := isplace_ok vl S'
    have next : ¬ BadAt xs j → GoodTo xs (j + 1) := fun nb i hi => by
      by_cases e : i = j
      · subst e; exact nb
      · exact gt i (by omega)
    have at_ : xs[j]? = some xs[j] := List.getElem?_eq_getElem hj
    generalize xs[j] = dj at *
    by_cases c12 : j = 12
    · have e12 : (j : Int) = 12 := by omega
      simp [e12]
      exact .inl ⟨j, ⟨hj, .inl c12, gt⟩, by rw [← e12]⟩
    · have e12 : ¬ (j : Int) = 12 := by omega
      cases hn : numB dj 0 1000000 with
      | false =>
        rw [hn] at ip
        simp [e12, ip]
        exact .inl ⟨j, ⟨hj, .inr (.inl ⟨dj, at_, hn⟩), gt⟩, rfl⟩
      | true =>
        rw [hn] at ip
        obtain ⟨z, rfl⟩ := num_of hn
        have nz : numAt xs j = z := by unfold numAt; rw [at_]
        by_cases j0 : 0 < j
        · have hj1 : j - 1 < xs.length := by omega
          have pz : ∃ y, xs[j - 1]? = some (.int y) := by
            have g1 := gt (j - 1) (by omega)
            have a1 := List.getElem?_eq_getElem hj1
            cases hb : numB xs[j - 1] 0 1000000 with
            | false => exact absurd (.inr (.inl ⟨_, a1, hb⟩)) g1
            | true =>
              obtain ⟨y, hy⟩ := num_of hb
              exact ⟨y, by rw [a1, hy]⟩
          obtain ⟨y, hy⟩ := pz
          have ny : numAt xs (j - 1) = y := by unfold numAt; rw [hy]
          have ix : L2.atI xs ((j : Int) - 1) = some (.int y) := by
            rw [show (j : Int) - 1 = ((j - 1 : Nat) : Int) by omega, at_nat hj1]
            have := (List.getElem?_eq_some_iff.mp hy).2
            rw [this]
          by_cases le : z ≤ y
          · simp [e12, ip, j0, ix, le]
            exact .inl ⟨j, ⟨hj, .inr (.inr ⟨j0, by rw [nz, ny]; exact le⟩), gt⟩, rfl⟩
          · simp [e12, ip, j0, ix, le]
            refine next fun bad => ?_
            rcases bad with h | ⟨d, h1, h2⟩ | ⟨_, h⟩
            · exact c12 h
            · rw [at_] at h1; cases h1; rw [hn] at h2; cases h2
            · rw [nz, ny] at h; exact le h
        · simp [e12, ip, j0]
          refine next fun bad => ?_
          rcases bad with h | ⟨d, h1, h2⟩ | ⟨h, _⟩
          · exact c12 h
          · rw [at_] at h1; cases h1; rw [hn] at h2; cases h2
          · exact j0 h
  · rintro env S' ⟨rfl, gt, s2, s3, rfl⟩
    simp
    have pl : (pairsI xs).length = xs.length := by unfold pairsI; simp
    rw [pl] at gt
    exact .inr ⟨gt, rfl⟩
/-- what is no tuple, or an empty one -/
def NoTup (d : D) : Prop := d = .tup [] ∨ (Vl d ∧ isAD tabT [d, .ty "tuple"] = fun _ => some (.bl false))
theorem pfault_no {d : D} (h : NoTup d) (S : List Cell) : f_p_places_fault [d] S = .ok .non S := by
  refine Rs.W.eq ?_
  rcases h with rfl | ⟨_, h⟩
  · have it : ∀ S, isAD tabT [.tup [], .ty "tuple"] S = some (.bl true) := fun S => nr rfl
    simp [f_p_places_fault, m_p_places_fault, it]
  · have it : ∀ S, isAD tabT [d, .ty "tuple"] S = some (.bl false) := fun S => by rw [h]
    simp [f_p_places_fault, m_p_places_fault, it]
theorem wrong_no {d : D} (h : NoTup d) (S : List Cell) : f_l_wrong_sites [d] S = .ok (.lst [.non]) S := by
  refine Rs.W.eq ?_
  rcases h with rfl | ⟨_, h⟩
  · have it : ∀ S, isAD tabT [.tup [], .ty "tuple"] S = some (.bl true) := fun S => nr rfl
    simp [f_l_wrong_sites, m_l_wrong_sites, it]
  · have it : ∀ S, isAD tabT [d, .ty "tuple"] S = some (.bl false) := fun S => by rw [h]
    simp [f_l_wrong_sites, m_l_wrong_sites, it]
/-- the law's list of the first wrong one -/
def FoundL (xs : List D) (d : D) : Prop := (∃ j : Nat, FirstBad xs j ∧ d = .lst [.int (j : Nat)]) ∨ (GoodTo xs xs.length ∧ d = .lst [])
theorem wrong_ok {xs : List D} (hne : xs ≠ []) (hv : ∀ d ∈ xs, Vl d) (hl : xs.length ≤ 1000) (S : List Cell) : (f_l_wrong_sites [.tup xs] S).W (fun d S' => S' = S ∧ FoundL xs d) XN := by
  have it : ∀ S, isAD tabT [.tup xs, .ty "tuple"] S = some (.bl true) := fun S => nr rfl
  have e0 : ∀ S, eqL (.tup xs) (.tup []) S = some (.bl false) := fun S => by
    obtain ⟨x, r, rfl⟩ := List.exists_cons_of_ne_nil hne
    exact eqL_cons x r S
  have hr : ∀ S, range1D [.int (xs.length : Nat)] S = .ok ((List.range xs.length).map fun k => .int (k : Nat)) S := fun S => range1_int (n := xs.length) rfl (by omega) S
  have e6 : ∀ S, powD (.int 10) (.int 6) S = some (.int 1000000) := fun S => by rw [powD_int (by decide)]; rfl
  simp [f_l_wrong_sites, m_l_wrong_sites, it, e0, hr]
  refine for_rng0 (fun j e S' => S' = S ∧ GoodTo xs j ∧ ∃ s1, e = [.val (.tup xs), s1]) ⟨rfl, fun i h => absurd h (by omega), _, rfl⟩ ?_ ?_
  · rintro j env S' hj ⟨rfl, gt, s1, rfl⟩
    have vl := hv xs[j] (List.getElem_mem hj)
    have ip := isnum_ok vl 0 1000000 S'
    have next : ¬ BadAt xs j → GoodTo xs (j + 1) := fun nb i hi => by
      by_cases e : i = j
      · subst e; exact nb
      · exact gt i (by omega)
    have at_ : xs[j]? = some xs[j] := List.getElem?_eq_getElem hj
    have ixj : L2.atI xs (j : Int) = some xs[j] := at_nat hj
    generalize xs[j] = dj at *
    by_cases c12 : j = 12
    · have e12 : (j : Int) = 12 := by omega
      simp [e12]
      exact .inl ⟨j, ⟨hj, .inl c12, gt⟩, by rw [← e12]⟩
    · have e12 : ¬ (j : Int) = 12 := by omega
      cases hn : numB dj 0 1000000 with
      | false =>
        rw [hn] at ip
        simp [e12, ixj, e6, ip]
        exact .inl ⟨j, ⟨hj, .inr (.inl ⟨dj, at_, hn⟩), gt⟩, rfl⟩
      | true =>
        rw [hn] at ip
        obtain ⟨z, rfl⟩ := num_of hn
        have nz : numAt xs j = z := by unfold numAt; rw [at_]
        by_cases j0 : 0 < j
        · have hj1 : j - 1 < xs.length := by omega
          have pz : ∃ y, xs[j - 1]? = some (.int y) := by
            have g1 := gt (j - 1) (by omega)
            have a1 := List.getElem?_eq_getElem hj1
            cases hb : numB xs[j - 1] 0 1000000 with
            | false => exact absurd (.inr (.inl ⟨_, a1, hb⟩)) g1
            | true =>
              obtain ⟨y, hy⟩ := num_of hb
              exact ⟨y, by rw [a1, hy]⟩
          obtain ⟨y, hy⟩ := pz
          have ny : numAt xs (j - 1) = y := by unfold numAt; rw [hy]
          have ix : L2.atI xs ((j : Int) - 1) = some (.int y) := by
            rw [show (j : Int) - 1 = ((j - 1 : Nat) : Int) by omega, at_nat hj1]
            have := (List.getElem?_eq_some_iff.mp hy).2
            rw [this]
          by_cases le : z ≤ y
          · simp [e12, ixj, e6, ip, j0, ix, le]
            exact .inl ⟨j, ⟨hj, .inr (.inr ⟨j0, by rw [nz, ny]; exact le⟩), gt⟩, rfl⟩
          · simp [e12, ixj, e6, ip, j0, ix, le]
            refine next fun bad => ?_
            rcases bad with h | ⟨d, h1, h2⟩ | ⟨_, h⟩
            · exact c12 h
            · rw [at_] at h1; cases h1; rw [hn] at h2; cases h2
            · rw [nz, ny] at h; exact le h
        · simp [e12, ixj, e6, ip, j0]
          refine next fun bad => ?_
          rcases bad with h | ⟨d, h1, h2⟩ | ⟨h, _⟩
          · exact c12 h
          · rw [at_] at h1; cases h1; rw [hn] at h2; cases h2
          · exact j0 h
  · rintro env S' ⟨rfl, gt, s1, rfl⟩
    simp
    exact .inr ⟨gt, rfl⟩
/-- both find the same -/
theorem found_same {xs : List D} {d e : D} (h1 : Found xs d) (h2 : FoundL xs e) : (∃ j : Nat, FirstBad xs j ∧ d = .int (j : Nat) ∧ e = .lst [.int (j : Nat)]) ∨ (GoodTo xs xs.length ∧ d = .int (-1) ∧ e = .lst []) := by
  rcases h1 with ⟨i, b1, rfl⟩ | ⟨g1, rfl⟩
  · rcases h2 with ⟨j, b2, rfl⟩ | ⟨g2, rfl⟩
    · obtain rfl := first_uniq b1 b2
      exact .inl ⟨i, b1, rfl, rfl⟩
    · exact absurd b1.2.1 (g2 i b1.1)
  · rcases h2 with ⟨j, b2, rfl⟩ | ⟨g2, rfl⟩
    · exact absurd b2.2.1 (g1 j b2.1)
    · exact .inr ⟨g1, rfl, rfl⟩
/-- right throughout: places, at most twelve, ascending -/
theorem good_ints {xs : List D} (h : GoodTo xs xs.length) : ∃ ns : List Int, xs = ns.map .int ∧ ns.length ≤ 12 ∧ ∀ z ∈ ns, 0 ≤ z ∧ z ≤ 1000000 := by
  have each : ∀ i (hi : i < xs.length), ∃ z, xs[i] = .int z ∧ 0 ≤ z ∧ z ≤ 1000000 := fun i hi => by
    cases hb : numB xs[i] 0 1000000 with
    | false => exact absurd (.inr (.inl ⟨_, List.getElem?_eq_getElem hi, hb⟩)) (h i hi)
    | true =>
      obtain ⟨z, hz⟩ := num_of hb
      rw [hz] at hb
      simp at hb
      exact ⟨z, hz, hb.1, hb.2⟩
  refine ⟨(List.range xs.length).map fun i => numAt xs i, ?_, ?_, fun z hz => ?_⟩
  · refine List.ext_getElem (by simp) fun i h1 h2 => ?_
    obtain ⟨z, hz, _⟩ := each i h1
    simp [numAt, List.getElem?_eq_getElem h1, hz]
  · by_cases h12 : 12 < xs.length
    · exact absurd (.inl rfl) (h 12 h12)
    · simp; omega
  · obtain ⟨i, hi, rfl⟩ := List.mem_map.mp hz
    have hi : i < xs.length := by simpa using hi
    obtain ⟨z, hz, b1, b2⟩ := each i hi
    simp [numAt, List.getElem?_eq_getElem hi, hz]
    exact ⟨b1, b2⟩
end K14

namespace K14
open PySem PySem.Spec L2 DL
open PyProof.Rows hiding St
abbrev hits (g : Nat) (ks : List Int) : List Nat := (List.range (ks.length - g - 1)).filter fun k => decide (kt ks k = kt ks (k + g + 1))
theorem hits_comp {g : Nat} {ks : List Int} (h : g + 2 ≤ ks.length) (e0 e1 e2 e4 e6 e7 : Sl) (S : List Cell) :
    compL [6] (.nm 6) (mB (mOp eqD (mOp ixD (mVar 5) (mVar 6)) (mOp ixD (mVar 5) (mOp addD (mOp addD (mVar 6) (mVar 3)) (mC (.int 1)))))) (mVar 6)
      ((List.range (ks.length - g - 1)).map fun k => .int (k : Nat)) [e0, e1, e2, .val (.int (g : Nat)), e4, .val (.lst (ks.map .int)), e6, e7] S = .ok ((hits g ks).map fun k => .int (k : Nat)) S := by
  refine comp_fm _ _ _ _ fun k hk => ?_
  rw [List.mem_range] at hk
  have i1 := kt_ix (ks := ks) (i := (k : Nat)) rfl (by omega)
  have i2 := kt_ix (ks := ks) (i := (k : Nat) + (g : Nat) + 1) (k := k + g + 1) (by omega) (by omega)
  simp [at_map, i1, i2]
abbrev fixC : Ex Bool := (mB (mOp neD (mFr (mComp (mRange1 (mCons (mOp subD (mOp subD (mCall lenD (mCons (mVar 5) mNil)) (mVar 3)) (mC (.int 1))) mNil)) [6] (.nm 6) (mB (mOp eqD (mOp ixD (mVar 5) (mVar 6)) (mOp ixD (mVar 5) (mOp addD (mOp addD (mVar 6) (mVar 3)) (mC (.int 1)))))) (mVar 6))) (mFr (mLst mNil))))
abbrev fixB : Sm := (mSeq (mSet 6 (mOp ixD (mFr (mComp (mRange1 (mCons (mOp subD (mOp subD (mCall lenD (mCons (mVar 5) mNil)) (mVar 3)) (mC (.int 1))) mNil)) [6] (.nm 6) (mB (mOp eqD (mOp ixD (mVar 5) (mVar 6)) (mOp ixD (mVar 5) (mOp addD (mOp addD (mVar 6) (mVar 3)) (mC (.int 1)))))) (mVar 6))) (mC (.int 0))))
  (mSet 5 (mOp addD (mSlice sliceD (mVar 5) mNoPart (mPart (mOp addD (mOp addD (mVar 6) (mVar 3)) (mC (.int 1))))) (mFr (mComp (mItems (mSlice sliceD (mVar 5) (mPart (mOp addD (mOp addD (mVar 6) (mVar 3)) (mC (.int 1)))) mNoPart)) [7] (.nm 7) mYes (mOp addD (mVar 7) (mC (.int 1))))))))
abbrev fixE (e0 e1 e2 e4 : Sl) (g : Nat) (ks : List Int) (s6 s7 : Sl) : List Sl := [e0, e1, e2, .val (.int (g : Nat)), e4, .val (.lst (ks.map .int)), s6, s7]
theorem fix_cond {g : Nat} {ks : List Int} (h : g + 2 ≤ ks.length) (h2 : ks.length ≤ 100) (e0 e1 e2 e4 s6 s7 : Sl) (S : List Cell) : fixC (fixE e0 e1 e2 e4 g ks s6 s7) S = .ok (!decide (hits g ks = [])) S := by
  have el : ∀ S, range1D [.int (((ks.length : Nat) : Int) - (g : Int) - 1)] S = .ok ((List.range (ks.length - g - 1)).map fun k => .int (k : Nat)) S := fun S => range1_int (by omega) (by omega) S
  have hc := hits_comp h e0 e1 e2 e4 s6 s7 S
  have sz : ks.length - g - 1 ≤ 100000 := by omega
  have nl : ∀ S, neD (.lst ((hits g ks).map fun k => .int (k : Nat))) (.lst []) S = some (.bl (!decide (hits g ks = []))) := fun S => by
    rw [nats_ints, ne_lints0]
    simp
  generalize hits g ks = hs at *
  refine Rs.W.eq ?_
  simp only [fixC, fixE]
  simp [el, sz, hc, nl]
theorem fix_body {g : Nat} {ks : List Int} {v : Nat} {r : List Nat} (h : g + 2 ≤ ks.length) (h2 : ks.length ≤ 100) (hh : hits g ks = v :: r) (e0 e1 e2 e4 s6 s7 : Sl) (S : List Cell) : fixB (fixE e0 e1 e2 e4 g ks s6 s7) S = .nx (fixE e0 e1 e2 e4 g (fixAt ks (v + g + 1)) (.val (.int (v : Nat))) s7) S := by
  have el : ∀ S, range1D [.int (((ks.length : Nat) : Int) - (g : Int) - 1)] S = .ok ((List.range (ks.length - g - 1)).map fun k => .int (k : Nat)) S := fun S => range1_int (by omega) (by omega) S
  have hc := hits_comp h e0 e1 e2 e4 s6 s7 S
  have sz : ks.length - g - 1 ≤ 100000 := by omega
  rw [hh] at hc
  have c1 : cutD (ks.map .int) none (some ((v : Nat) + (g : Nat) + 1)) = (ks.take (v + g + 1)).map .int := by
    rw [cut_to (by omega), List.map_take]
    congr 1
  have c2 : cutD (ks.map .int) (some ((v : Nat) + (g : Nat) + 1)) none = (ks.drop (v + g + 1)).map .int := by
    rw [cut_from (by omega), List.map_drop]
    congr 1
  have hc2 : compL [7] (.nm 7) mYes (mOp addD (mVar 7) (mC (.int 1))) ((ks.drop (v + g + 1)).map .int) (fixE e0 e1 e2 e4 g ks (.val (.int (v : Nat))) s7) S = .ok (((ks.drop (v + g + 1)).map (· + 1)).map .int) S := by
    have := comp_fm (vs := [7]) (p := .nm 7) (cond := mYes) (elt := mOp addD (mVar 7) (mC (.int 1))) (env := fixE e0 e1 e2 e4 g ks (.val (.int (v : Nat))) s7) (S := S) D.int (fun _ => true) (fun x => .int (x + 1)) (ks.drop (v + g + 1)) fun a ha => by simp
    rw [this, List.map_map, List.filter_eq_self.mpr fun _ _ => rfl]
    rfl
  have ad := add_lst (xs := (ks.take (v + g + 1)).map D.int) (ys := ((ks.drop (v + g + 1)).map (· + 1)).map D.int) (S := S) (by simp; omega)
  have sz2 : (ks.drop (v + g + 1)).length ≤ 100000 := by simp; omega
  have fa : (fixAt ks (v + g + 1)).map D.int = (ks.take (v + g + 1)).map D.int ++ ((ks.drop (v + g + 1)).map (· + 1)).map D.int := by unfold fixAt; rw [List.map_append]
  simp only [fixE, fa] at hc2 ⊢
  generalize ((ks.drop (v + g + 1)).map (· + 1)).map D.int = ys at *
  generalize hxs : (ks.drop (v + g + 1)).map D.int = xs at *
  generalize (ks.take (v + g + 1)).map D.int = zs at *
  have sz3 : xs.length ≤ 100000 := by rw [← hxs, List.length_map]; exact sz2
  simp only [fixB, mSeq, mSet]
  simp [el, sz, hc, c1, c2, hc2, ad, sz3, Rs.go]
theorem fix_loop {g m most n0 : Nat} {ks : List Int} (hl : ks.length = m + g + 2) (hm : Mono ks) (h9 : m + g + 2 ≤ 100) (hn : m + 1 < n0) (hb : ∀ i, i < ks.length → 0 ≤ kt ks i ∧ kt ks i ≤ (most : Nat)) (e0 e1 e2 e4 s6 s7 : Sl) (S : List Cell) {P : PF}
    (k : ∀ (ks : List Int) (s6 s7 : Sl), ks.length = m + g + 2 → Mono ks → (∀ i, i < ks.length → 0 ≤ kt ks i ∧ kt ks i ≤ (most : Nat) + (m + 1 : Nat)) → (∀ i, i + g + 1 < ks.length → kt ks i < kt ks (i + g + 1)) → P.N (fixE e0 e1 e2 e4 g ks s6 s7) S) :
    @Fl.V (whileN fixC fixB n0 (fixE e0 e1 e2 e4 g ks s6 s7) S) P := by
  refine while_W (fun k env S' => S' = S ∧ ∃ (ks : List Int) (s6 s7 : Sl), env = fixE e0 e1 e2 e4 g ks s6 s7 ∧ ks.length = m + g + 2 ∧ Mono ks ∧ k ≤ m + 1 ∧
      (∀ i, i < ks.length → 0 ≤ kt ks i ∧ kt ks i ≤ (most : Nat) + (m + 1 - k : Nat)) ∧ ∀ j, j + k < m + 1 → kt ks j < kt ks (j + g + 1)) ?_ _ (m + 1) _ _ hn ?_
  · rintro c env S' ⟨rfl, ks, s6, s7, rfl, hl, hm, hk, hb, hv⟩
    refine Rs.W.of_eq (fix_cond (by omega) (by omega) ..) ⟨fun h0 => ?_, fun h0 => ?_⟩
    · have h0 : hits g ks = [] := by simpa using h0
      refine k ks s6 s7 hl hm (fun i hi => ⟨(hb i hi).1, by have := (hb i hi).2; omega⟩) fun i hi => ?_
      have h4 := hm i (i + g + 1) (by omega) hi
      by_cases e : kt ks i = kt ks (i + g + 1)
      · have : i ∈ hits g ks := by
          unfold hits
          rw [List.mem_filter, List.mem_range]
          exact ⟨by omega, decide_eq_true e⟩
        rw [h0] at this
        cases this
      · omega
    · have h0 : hits g ks ≠ [] := by simpa using h0
      obtain ⟨v, r, hh⟩ := List.exists_cons_of_ne_nil h0
      obtain ⟨v1, v2, v3⟩ := first_of hh
      have v2 := of_decide_eq_true v2
      have hvk : m + 1 ≤ v + c := by
        by_cases z : v + c < m + 1
        · have := hv v z; omega
        · omega
      rw [fix_body (by omega) (by omega) hh]
      refine ⟨m - v, by omega, rfl, fixAt ks (v + g + 1), _, _, rfl, by rw [fixAt_length]; exact hl, fixAt_mono hm, by omega, fun i hi => ?_, fun j hj => ?_⟩
      · rw [fixAt_length] at hi
        rw [kt_fixAt hi]
        have := hb i hi
        split <;> omega
      · rw [kt_fixAt (by omega), kt_fixAt (by omega)]
        by_cases hjv : j = v
        · subst hjv
          rw [if_pos (by omega), if_neg (by omega)]
          omega
        · have hjv : j < v := by omega
          have := v3 j hjv
          have := of_decide_eq_false this
          have h4 := hm j (j + g + 1) (by omega) (by omega)
          rw [if_pos (by omega)]
          split <;> omega
  · refine ⟨rfl, ks, s6, s7, rfl, hl, hm, Nat.le_refl _, fun i hi => ?_, fun j hj => by omega⟩
    have := hb i hi
    omega
theorem draft_ok {S : List Cell} {n c mh most : Nat} (w : MugAt S n c) (hc : c ≤ 100000000) (h1 : 0 < mh) (h2 : mh ≤ 10) (h3 : most ≤ 900000) :
    (f_l_draft [.cell n, .int (mh : Nat), .int (most : Nat)] S).W (fun d S' => ∃ (g : Nat) (ks : List Int), d = .lst [.int (g : Nat), .tup (ks.map .int)] ∧ Frm g ks ∧ ks.length ≤ g + 1 + mh ∧ (∀ i, i < ks.length → kt ks i ≤ (most : Nat) + 15) ∧ MugAt S' n (c + 30) ∧ Kp n S S') XN := by
  simp only [f_l_draft, m_l_draft, V_def, V_seq, start_ap]
  simp
  refine (pick_ok w (by omega) (by simp) (by simp)).on ?_
  rintro d S1 ⟨hd, w1, k1⟩
  obtain ⟨g, hg, rfl⟩ : ∃ g : Nat, g ≤ 4 ∧ d = .int (g : Nat) := by
    simp only [List.mem_cons, List.not_mem_nil, or_false] at hd
    rcases hd with h | h | h | h | h | h | h <;> subst h <;> first | exact ⟨0, by omega, rfl⟩ | exact ⟨1, by omega, rfl⟩ | exact ⟨2, by omega, rfl⟩ | exact ⟨3, by omega, rfl⟩ | exact ⟨4, by omega, rfl⟩
  clear hd
  simp
  refine (sip_ok w1 (by omega) (top := (mh : Nat)) (by omega) (by omega)).on ?_
  rintro _ S2 ⟨i, rfl, i0, i1, w2, k2⟩
  obtain ⟨m, hm0, rfl⟩ : ∃ m : Nat, m < mh ∧ i = (m : Nat) := ⟨i.toNat, by omega, by omega⟩
  have er : ∀ S, range1D [.int (1 + (m : Int) + (g : Int) + 1)] S = .ok ((List.range (m + g + 2)).map fun k => .int (k : Nat)) S := fun S => range1_int (by omega) (by omega) S
  have es : m + g + 2 ≤ 100000 := by omega
  simp [er, es]
  refine comp_at (fun j acc S' => ∃ xs : List Int, acc = xs.map .int ∧ xs.length = j ∧ (∀ x ∈ xs, 0 ≤ x ∧ x ≤ (most : Nat)) ∧ MugAt S' n (c + 2 + j) ∧ Kp n S2 S') ?_ ?_ ?_
  · exact ⟨[], rfl, rfl, by simp, w2, Kp.refl⟩
  · rintro j d acc S' hd ⟨xs, rfl, hl, hx, w3, k3⟩
    have hj := (List.getElem?_eq_some_iff.mp hd).1
    simp at hj
    simp
    refine (sip_ok w3 (by omega) (top := (most : Nat) + 1) (by omega) (by omega)).on ?_
    rintro _ S3 ⟨i, rfl, i0, i1, w4, k4⟩
    simp
    exact ⟨xs ++ [i], by simp, by simp [hl], fun x hx' => by
      rcases List.mem_append.mp hx' with h | h
      · exact hx x h
      · simp at h; subst h; omega, w4, k3.trans k4⟩
  rintro acc S3 ⟨xs, rfl, hl, hx, w3, k3⟩
  rw [List.length_map, List.length_range] at hl w3
  simp [srt_ints]
  have sl := sortI_length xs
  have sm := sortI_mono xs
  have sb : ∀ i, i < (sortI xs).length → 0 ≤ kt (sortI xs) i ∧ kt (sortI xs) i ≤ (most : Nat) := fun i hi => hx _ (sortI_mem.mp (kt_mem hi))
  generalize sortI xs = ks at *
  clear hx
  rw [hl] at sl
  clear hl xs
  refine (sip_ok w3 (by omega) (top := 3) (by omega) (by omega)).on ?_
  rintro _ S4 ⟨i, rfl, i0, i1, w4, k4⟩
  have fin : ∀ (ks : List Int) (S' : List Cell), S' = S4 → ks.length = m + g + 2 → (∀ i j, i ≤ j → j < ks.length → kt ks i ≤ kt ks j) → (∀ i, i < ks.length → 0 ≤ kt ks i ∧ kt ks i ≤ (most : Nat) + (m + 1 : Nat)) → (∀ i, i + g + 1 < ks.length → kt ks i < kt ks (i + g + 1)) →
      Frm g ks ∧ ks.length ≤ g + 1 + mh ∧ (∀ i, i < ks.length → kt ks i ≤ (most : Nat) + 15) ∧ MugAt S' n (c + 30) ∧ Kp n S S' := fun ks S' e hl hm hb hg' => by
    subst e
    exact ⟨⟨hg, by omega, by omega, hm, hg', fun i hi => (hb i hi).1, fun i hi => by have := (hb i hi).2; omega⟩, by omega, fun i hi => by have := (hb i hi).2; omega, w4.le (by omega), ((k1.trans k2).trans k3).trans k4⟩
  by_cases hi : i = 0 ∧ (g : Int) < 1 + (m : Int)
  · obtain ⟨rfl, hgm⟩ := hi
    have f0 := kt_ix (ks := ks) (i := 0) (k := 0) rfl (by omega)
    have fl := kt_last (ks := ks) (by omega)
    have t1 : ((g : Int) + 1).toNat = g + 1 := by omega
    have r1 : ∀ (x : Int) S, mulD (.lst [.int x]) (.int ((g : Nat) + 1)) S = some (.lst ((List.replicate (g + 1) x).map .int)) := fun x S => by
      rw [mul_one' (by omega) (by omega), List.map_replicate, t1]
    have c1 : cutD (ks.map .int) (some ((g : Nat) + 1)) (some (1 + (m : Int))) = ((ks.take (1 + m)).drop (g + 1)).map .int := by
      rw [cut_mid (by omega) (by omega), List.map_drop, List.map_take]
      congr 1
    have a1 := add_lst (xs := (List.replicate (g + 1) (kt ks 0)).map D.int) (ys := ((ks.take (1 + m)).drop (g + 1)).map D.int) (S := S4) (by simp; omega)
    have a2 := add_lst (xs := (List.replicate (g + 1) (kt ks 0)).map D.int ++ ((ks.take (1 + m)).drop (g + 1)).map D.int) (ys := (List.replicate (g + 1) (kt ks (ks.length - 1))).map D.int) (S := S4) (by simp; omega)
    have hABC : (List.replicate (g + 1) (kt ks 0)).map D.int ++ ((ks.take (1 + m)).drop (g + 1)).map D.int ++ (List.replicate (g + 1) (kt ks (ks.length - 1))).map D.int = (List.replicate (g + 1) (kt ks 0) ++ (ks.take (1 + m)).drop (g + 1) ++ List.replicate (g + 1) (kt ks (ks.length - 1))).map D.int := by rw [List.map_append, List.map_append]
    rw [hABC] at a2
    have r0 := r1 (kt ks 0)
    have r2 := r1 (kt ks (ks.length - 1))
    clear r1
    generalize (List.replicate (g + 1) (kt ks 0)).map D.int = A at a1 a2 r0
    generalize ((ks.take (1 + m)).drop (g + 1)).map D.int = B at a1 a2 c1
    generalize (List.replicate (g + 1) (kt ks (ks.length - 1))).map D.int = C at a2 r2
    clear hABC
    generalize hks : List.replicate (g + 1) (kt ks 0) ++ (ks.take (1 + m)).drop (g + 1) ++ List.replicate (g + 1) (kt ks (ks.length - 1)) = ks' at *
    have hl' : ks'.length = m + g + 2 := by rw [← hks]; simp; omega
    have hk' : ∀ i, i < m + g + 2 → ∃ j, j < ks.length ∧ kt ks' i = kt ks j ∧ (i < g + 1 → j = 0) ∧ (g + 1 ≤ i → i < m + 1 → j = i) ∧ (m + 1 ≤ i → j = ks.length - 1) := by
      intro i hi
      rw [← hks]
      by_cases h1 : i < g + 1
      · refine ⟨0, by omega, ?_, fun _ => rfl, by omega, by omega⟩
        rw [List.append_assoc, kt_app1 (by simpa using h1), kt_rep h1]
      · by_cases h2 : i < m + 1
        · refine ⟨i, by omega, ?_, by omega, fun _ _ => rfl, by omega⟩
          rw [kt_app1 (by simp; omega), kt_app2 (by simp; omega) (by simp; omega), List.length_replicate, kt_drop (by simp; omega), kt_take (by omega) (by omega)]
          congr 1
          omega
        · refine ⟨ks.length - 1, by omega, ?_, by omega, by omega, fun _ => rfl⟩
          rw [kt_app2 (by simp; omega) (by simp; omega), kt_rep (by simp; omega)]
    have hm' : Mono ks' := by
      intro i j hij hj
      obtain ⟨i', hi', ei, q1, q2, q3⟩ := hk' i (by omega)
      obtain ⟨j', hj', ej, r1, r2, r3⟩ := hk' j (by omega)
      rw [ei, ej]
      refine sm i' j' ?_ hj'
      by_cases h1 : i < g + 1
      · have := q1 h1; omega
      · by_cases h2 : i < m + 1
        · have := q2 (by omega) h2
          by_cases h3 : j < m + 1
          · have := r2 (by omega) h3; omega
          · have := r3 (by omega); omega
        · have := r3 (by omega); omega
    have hb' : ∀ i, i < ks'.length → 0 ≤ kt ks' i ∧ kt ks' i ≤ (most : Nat) := fun i hi => by
      obtain ⟨i', hi', ei, _⟩ := hk' i (by omega)
      rw [ei]
      exact sb i' hi'
    simp [hgm, at_map, f0, fl, r0, r2, c1, a1, a2]
    refine fix_loop (g := g) (m := m) (most := most) (n0 := 100000) hl' hm' (by omega) (by omega) hb' _ _ _ _ _ _ _ fun ks s6 s7 hl hm hb hg' => ?_
    simp
    exact ⟨g, ks, ⟨rfl, rfl⟩, fin ks _ rfl hl hm hb hg'⟩
  · have tst : ∀ (b : Bool), b = (decide (i = 0) && decide ((g : Int) < 1 + (m : Int))) → b = false := fun b hb => by
      rw [hb]
      by_cases h1 : i = 0
      · have : ¬ (g : Int) < 1 + (m : Int) := fun h => hi ⟨h1, h⟩
        simp [this]
      · simp [h1]
    by_cases h1 : i = 0
    · have h2 : ¬ (g : Int) < 1 + (m : Int) := fun h => hi ⟨h1, h⟩
      simp [h1, h2]
      refine fix_loop (g := g) (m := m) (most := most) (n0 := 100000) sl sm (by omega) (by omega) sb _ _ _ _ _ _ _ fun ks s6 s7 hl hm hb hg' => ?_
      simp
      exact ⟨g, ks, ⟨rfl, rfl⟩, fin ks _ rfl hl hm hb hg'⟩
    · simp [h1]
      refine fix_loop (g := g) (m := m) (most := most) (n0 := 100000) sl sm (by omega) (by omega) sb _ _ _ _ _ _ _ fun ks s6 s7 hl hm hb hg' => ?_
      simp
      exact ⟨g, ks, ⟨rfl, rfl⟩, fin ks _ rfl hl hm hb hg'⟩
end K14

namespace K14
open PySem PySem.Spec L2 DL
open PyProof.Rows hiding St
theorem lmade_ok {g : Nat} {ks : List Int} (f : Frm g ks) (S : List Cell) : f_l_made [.lst [.int (g : Nat), .tup (ks.map .int)]] S = .ok (frameD g ks) (S ++ [.dead]) := by
  have m := made_ok f S
  generalize ks.map D.int = xs at *
  refine Rs.W.eq ?_
  simp [f_l_made, m_l_made, m]
end K14

namespace K14
open PySem PySem.Spec L2 DL
open PyProof.Rows hiding St
theorem sites_ok {S : List Cell} {n c many : Nat} {g : Nat} {ks : List Int} (f : Frm g ks) (w : MugAt S n c) (hc : c ≤ 100000000) (h1 : 0 < many) (h2 : many ≤ 50) :
    (f_l_sites [.cell n, .lst [.int (g : Nat), .tup (ks.map .int)], .int (many : Nat)] S).W (fun d S' => ∃ xs : List Int, d = .tup (xs.map .int) ∧ xs.Pairwise (· < ·) ∧ 1 ≤ xs.length ∧ xs.length ≤ many ∧ (∀ x ∈ xs, 0 ≤ x ∧ x ≤ kt ks (ks.length - 1) + 2) ∧ MugAt S' n (c + 200) ∧ Kp n S S') XN := by
  have lo := f.lo
  have hi := f.hi
  have hg := f.hg
  have f0 := kt_ix (ks := ks) (i := 0) (k := 0) rfl (by omega)
  have fl := kt_last (ks := ks) (by omega)
  have rg : ∀ S, range1D [.int (many : Nat)] S = .ok ((List.range many).map fun k => .int (k : Nat)) S := fun S => range1_ok (by omega) S
  have ms : many ≤ 100000 := by omega
  have le := f.mono 0 (ks.length - 1) (by omega) (by omega)
  have nn := f.nn 0 (by omega)
  have kb : ∀ k ∈ ks, 0 ≤ k ∧ k ≤ kt ks (ks.length - 1) + 1 := fun k hk => by
    obtain ⟨i, hi, rfl⟩ := kt_mem_iff.mp hk
    have := f.nn i hi
    have := f.mono i (ks.length - 1) (by omega) (by omega)
    omega
  have ub := f.ub (ks.length - 1) (by omega)
  have kl : ks.length ≤ 20 := by omega
  clear lo hi hg
  generalize kt ks (ks.length - 1) = b at *
  generalize kt ks 0 = a at *
  simp [f_l_sites, m_l_sites, at_map, f0, fl]
  have ad := add_lst (xs := ks.map D.int) (ys := [.int (if 1 < a then a - 1 else 0), .int (b + 1)]) (S := S) (by simp; omega)
  simp [ad, rg, ms]
  refine comp_at (fun j acc S' => ∃ xs : List Int, acc = xs.map .int ∧ xs.length = j ∧ (∀ x ∈ xs, 0 ≤ x ∧ x ≤ b + 1) ∧ MugAt S' n (c + j) ∧ Kp n S S') ⟨[], rfl, rfl, by simp, w, Kp.refl⟩ ?_ ?_
  · rintro j d acc S' hd ⟨xs, rfl, hl, hx, w1, k1⟩
    have hj := (List.getElem?_eq_some_iff.mp hd).1
    simp at hj
    simp
    refine (sip_ok w1 (by omega) (top := b - a + 1) (by omega) (by omega)).on ?_
    rintro _ S3 ⟨i, rfl, i0, i1, w4, k4⟩
    simp
    exact ⟨xs ++ [a + i], by simp, by simp [hl], fun x hx' => by
      rcases List.mem_append.mp hx' with h | h
      · exact hx x h
      · simp at h; subst h; omega, w4, k1.trans k4⟩
  rintro acc S1 ⟨xs, rfl, hl, hx, w1, k1⟩
  rw [List.length_map, List.length_range] at hl w1
  have ad2 := add_lst (xs := ks.map D.int ++ [.int (if 1 < a then a - 1 else 0), .int (b + 1)]) (ys := xs.map D.int) (S := S1) (by simp; omega)
  have em : ks.map D.int ++ [.int (if 1 < a then a - 1 else 0), .int (b + 1)] ++ xs.map D.int = (ks ++ [(if 1 < a then a - 1 else 0), b + 1] ++ xs).map D.int := by simp
  have mb : ∀ m ∈ ks ++ [(if 1 < a then a - 1 else 0), b + 1] ++ xs, 0 ≤ m ∧ m ≤ b + 1 := fun m hm => by
    rcases List.mem_append.mp hm with h | h
    · rcases List.mem_append.mp h with h | h
      · exact kb m h
      · simp only [List.mem_cons, List.not_mem_nil, or_false] at h
        rcases h with h | h
        · subst h; split <;> omega
        · omega
    · exact hx m h
  have ml : 0 < (ks ++ [(if 1 < a then a - 1 else 0), b + 1] ++ xs).length ∧ (ks ++ [(if 1 < a then a - 1 else 0), b + 1] ++ xs).length < 1000000 := by simp; omega
  rw [em] at ad2
  clear ad em kb hx hl f0 fl
  generalize ks ++ [(if 1 < a then a - 1 else 0), b + 1] ++ xs = ms' at *
  generalize ks.map D.int ++ [D.int (if 1 < a then a - 1 else 0), .int (b + 1)] = ys at *
  generalize xs.map D.int = zs at *
  simp [ad2]
  refine (sip_ok w1 (by omega) (top := (many : Nat)) (by omega) (by omega)).on ?_
  rintro _ S2 ⟨i, rfl, i0, i1, w2, k2⟩
  obtain ⟨m, hm0, rfl⟩ : ∃ m : Nat, m < many ∧ i = (m : Nat) := ⟨i.toNat, by omega, by omega⟩
  have er : ∀ S, range1D [.int (1 + (m : Int))] S = .ok ((List.range (1 + m)).map fun k => .int (k : Nat)) S := fun S => range1_int (by omega) (by omega) S
  have es : 1 + m ≤ 100000 := by omega
  simp [er, es]
  refine comp_at (fun j acc S' => ∃ xs : List Int, acc = xs.map .int ∧ xs.length = j ∧ (∀ x ∈ xs, 0 ≤ x ∧ x ≤ b + 2) ∧ MugAt S' n (c + many + 1 + 2 * j) ∧ Kp n S S') ⟨[], rfl, rfl, by simp, w2, k1.trans k2⟩ ?_ ?_
  · rintro j d acc S' hd ⟨xs, rfl, hl, hx, w3, k3⟩
    have hj := (List.getElem?_eq_some_iff.mp hd).1
    simp at hj
    simp
    refine (pick_ok w3 (by omega) (by simpa using ml.1) (by simpa using ml.2)).on ?_
    rintro d S3 ⟨hd, w4, k4⟩
    obtain ⟨u, hu, rfl⟩ := List.mem_map.mp hd
    simp
    refine (pick_ok w4 (by omega) (by simp) (by simp)).on ?_
    rintro d S4 ⟨hd, w5, k5⟩
    obtain ⟨v, hv, rfl⟩ : ∃ v : Int, (0 ≤ v ∧ v ≤ 1) ∧ d = .int v := by
      simp only [List.mem_cons, List.not_mem_nil, or_false] at hd
      rcases hd with h | h | h | h <;> subst h <;> exact ⟨_, by omega, rfl⟩
    have := mb u hu
    simp
    exact ⟨xs ++ [u + v], by simp, by simp [hl], fun x hx' => by
      rcases List.mem_append.mp hx' with h | h
      · exact hx x h
      · simp at h; subst h; omega, w5.le (by omega), (k3.trans k4).trans k5⟩
  rintro acc S3 ⟨xs, rfl, hl, hx, w3, k3⟩
  rw [List.length_map, List.length_range] at hl w3
  have l60 : xs.length ≤ 60 := by omega
  simp [intsOf_map, l60]
  have un := uniI_len xs
  have pos : 1 ≤ (uniI xs).length := by
    obtain ⟨x, hx⟩ : ∃ x, x ∈ xs := List.exists_mem_of_length_pos (by omega)
    exact List.length_pos_of_mem (uniI_mem.mpr hx)
  exact ⟨uniI xs, rfl, uniI_lt xs, pos, by omega, fun x h => hx x (uniI_mem.mp h), w3.le (by omega), k3⟩
end K14

namespace K14
open PySem PySem.Spec L2 DL
open PyProof.Rows hiding St
/-- all cells stand as they stood -/
def Ka (S S' : List Cell) : Prop := S.length ≤ S'.length ∧ ∀ k, k < S.length → S'[k]? = S[k]?
theorem Ka.refl {S : List Cell} : Ka S S := ⟨Nat.le_refl _, fun _ _ => rfl⟩
theorem Ka.trans {S S1 S2 : List Cell} (a : Ka S S1) (b : Ka S1 S2) : Ka S S2 := ⟨Nat.le_trans a.1 b.1, fun k h => (b.2 k (Nat.lt_of_lt_of_le h a.1)).trans (a.2 k h)⟩
theorem Ka.app {S T : List Cell} : Ka S (S ++ T) := ⟨by simp, fun k h => List.getElem?_append_left h⟩
theorem Ka.kp {n : Nat} {S S' : List Cell} (a : Ka S S') : Kp n S S' := ⟨a.1, fun k _ h => a.2 k h⟩
theorem Ka.mug {n c : Nat} {S S' : List Cell} (a : Ka S S') (w : MugAt S n c) : MugAt S' n c := w.keep (m := n + 1) a.kp (by omega)
theorem tab_ka {S0 S : List Cell} {H m : Nat} {T : Nat → Nat → Nat} (t : TabIs S0 S S0.length H m T) : Ka S0 S := ⟨by have := t.len; omega, t.old⟩
/-! ### the first wrong place -/
theorem pfault_bad {xs : List D} (hne : xs ≠ []) (hv : ∀ d ∈ xs, Vl d) {j : Nat} (h : FirstBad xs j) (S : List Cell) : f_p_places_fault [.tup xs] S = .ok (.int (j : Nat)) S := by
  obtain ⟨d, S', e, rfl, f⟩ := (pfault_ok hne hv S).of
  rw [e]
  rcases f with ⟨i, b, rfl⟩ | ⟨g, rfl⟩
  · rw [first_uniq b h]
  · exact absurd h.2.1 (g j h.1)
theorem pfault_fine {xs : List D} (hne : xs ≠ []) (hv : ∀ d ∈ xs, Vl d) (h : GoodTo xs xs.length) (S : List Cell) : f_p_places_fault [.tup xs] S = .ok (.int (-1)) S := by
  obtain ⟨d, S', e, rfl, f⟩ := (pfault_ok hne hv S).of
  rw [e]
  rcases f with ⟨i, b, rfl⟩ | ⟨g, rfl⟩
  · have hb := b.1
    exact (h i hb b.2.1).elim
  · rfl
theorem wrong_bad {xs : List D} (hne : xs ≠ []) (hv : ∀ d ∈ xs, Vl d) (hl : xs.length ≤ 1000) {j : Nat} (h : FirstBad xs j) (S : List Cell) : f_l_wrong_sites [.tup xs] S = .ok (.lst [.int (j : Nat)]) S := by
  obtain ⟨d, S', e, rfl, f⟩ := (wrong_ok hne hv hl S).of
  rw [e]
  rcases f with ⟨i, b, rfl⟩ | ⟨g, rfl⟩
  · rw [first_uniq b h]
  · exact absurd h.2.1 (g j h.1)
theorem wrong_fine {xs : List D} (hne : xs ≠ []) (hv : ∀ d ∈ xs, Vl d) (hl : xs.length ≤ 1000) (h : GoodTo xs xs.length) (S : List Cell) : f_l_wrong_sites [.tup xs] S = .ok (.lst []) S := by
  obtain ⟨d, S', e, rfl, f⟩ := (wrong_ok hne hv hl S).of
  rw [e]
  rcases f with ⟨i, b, rfl⟩ | ⟨g, rfl⟩
  · have hb := b.1
    exact (h i hb b.2.1).elim
  · rfl
theorem good_or_bad {xs : List D} (hne : xs ≠ []) (hv : ∀ d ∈ xs, Vl d) : (∃ j, FirstBad xs j) ∨ GoodTo xs xs.length := by
  obtain ⟨d, S', e, rfl, f⟩ := (pfault_ok hne hv []).of
  rcases f with ⟨i, b, rfl⟩ | ⟨g, rfl⟩
  · exact .inl ⟨i, b⟩
  · exact .inr g
/-- what may be handed as places -/
def Sites (d : D) : Prop := NoTup d ∨ ∃ xs, d = .tup xs ∧ xs ≠ [] ∧ (∀ e ∈ xs, Vl e) ∧ xs.length ≤ 1000
/-- what is wrong with places, as both see it -/
inductive Wr (d : D) : Option D → Prop
  | bad (v : D) (f : ∀ S, f_p_places_fault [d] S = .ok v S) (w : ∀ S, f_l_wrong_sites [d] S = .ok (.lst [v]) S) (n : ∀ S, neD v (.int (-1)) S = some (.bl true)) (s : ∃ s, ∀ S, repr2D [.lst [.str "places", v]] S = some (.str s)) : Wr d (some v)
  | fine (ns : List Int) (e : d = .tup (ns.map .int)) (l : ns.length ≤ 12) (f : ∀ S, f_p_places_fault [d] S = .ok (.int (-1)) S) (w : ∀ S, f_l_wrong_sites [d] S = .ok (.lst []) S) : Wr d none
theorem wr_of {d : D} (h : Sites d) : ∃ o, Wr d o := by
  rcases h with h | ⟨xs, rfl, hne, hv, hl⟩
  · exact ⟨_, .bad .non (fun S => pfault_no h S) (fun S => wrong_no h S) (fun S => nr rfl) (shown_dec rfl (by decide +kernel))⟩
  · rcases good_or_bad hne hv with ⟨j, b⟩ | g
    · refine ⟨_, .bad (.int (j : Nat)) (pfault_bad hne hv b) (wrong_bad hne hv hl b) (fun S => ?_) ?_⟩
      · rw [DL.ne_int]
        congr 2
      · have hj : j < 2 ^ 10 := by have := b.1; omega
        have h1 := log2_small (i := (j : Nat)) 10 (by simpa using hj) (by decide) (show 10 ≤ 1000 by decide)
        refine shown_pl (by decide +kernel) (by rw [Pl_int]; exact h1) ?_
        have h2 := wt_int_le (i := (j : Nat)) (n := 10) (by simpa using hj) (by decide)
        have : (("places" : Str).cps.size) = 6 := rfl
        omega
    · obtain ⟨ns, e, l, _⟩ := good_ints g
      exact ⟨_, .fine ns (by rw [e]) l (pfault_fine hne hv g) (wrong_fine hne hv hl g)⟩
/-! ### the five functions -/
/-- what a call is due to give: a refusal of the frame, of the places, or something -/
def Gives (F : Fn) (th st : D) : Option (Bool × D) → Prop
  | some (true, d) => ∀ S, F [th, st] S = .ex "NotAFrame" ["given"] [d] S
  | some (false, d) => ∀ S, F [th, st] S = .ex "InvalidPlaces" ["index"] [d] S
  | none => ∀ S, (F [th, st] S).W (fun _ S' => Ka S S') XN
theorem both_frame {d st : D} (h : d ∈ oddL) (S : List Cell) : f_p_check_both [d, st] S = .ex "NotAFrame" ["given"] [d] S := by
  have c := ckframe_no h
  refine ex_eq ?_
  simp [f_p_check_both, m_p_check_both, c]
  exact ⟨rfl, rfl, rfl, rfl⟩
theorem both_bad {g : Nat} {ks : List Int} {st v : D} (f : ∀ S, f_p_places_fault [st] S = .ok v S) (n : ∀ S, neD v (.int (-1)) S = some (.bl true)) (S : List Cell) : f_p_check_both [frameD g ks, st] S = .ex "InvalidPlaces" ["index"] [v] S := by
  refine ex_eq ?_
  simp [f_p_check_both, m_p_check_both, f_p_check_places, m_p_check_places, f, n]
  exact ⟨rfl, rfl, rfl, rfl⟩
theorem both_fine {g : Nat} {ks : List Int} {st : D} (f : ∀ S, f_p_places_fault [st] S = .ok (.int (-1)) S) (S : List Cell) : f_p_check_both [frameD g ks, st] S = .ok .non S := by
  refine Rs.W.eq ?_
  simp [f_p_check_both, m_p_check_both, f_p_check_places, m_p_check_places, f]
/-- a function that begins with the check -/
theorem gives_ex {F : Fn} {th st : D} {c : Str} {ns : List Str} {ds : List D} (hF : ∀ S, f_p_check_both [th, st] S = .ex c ns ds S → F [th, st] S = .ex c ns ds S) (h : ∀ S, f_p_check_both [th, st] S = .ex c ns ds S) (S : List Cell) : F [th, st] S = .ex c ns ds S := hF S (h S)
theorem rank_ex {th st : D} {c : Str} {ns : List Str} {ds : List D} (S : List Cell) (h : f_p_check_both [th, st] S = .ex c ns ds S) : f_p_rank [th, st] S = .ex c ns ds S := by
  refine ex_eq ?_
  simp [f_p_rank, m_p_rank, h]
  exact ⟨rfl, rfl, rfl, rfl⟩
theorem matching_ex {th st : D} {c : Str} {ns : List Str} {ds : List D} (S : List Cell) (h : f_p_check_both [th, st] S = .ex c ns ds S) : f_p_matching [th, st] S = .ex c ns ds S := by
  refine ex_eq ?_
  simp [f_p_matching, m_p_matching, h]
  exact ⟨rfl, rfl, rfl, rfl⟩
theorem met_ex {th st : D} {c : Str} {ns : List Str} {ds : List D} (S : List Cell) (h : f_p_check_both [th, st] S = .ex c ns ds S) : f_p_all_met [th, st] S = .ex c ns ds S := by
  have r := rank_ex S h
  refine ex_eq ?_
  simp [f_p_all_met, m_p_all_met, r]
  exact ⟨rfl, rfl, rfl, rfl⟩
theorem most_ex {th st : D} {c : Str} {ns : List Str} {ds : List D} (S : List Cell) (h : f_p_check_both [th, st] S = .ex c ns ds S) : f_p_one_at_most [th, st] S = .ex c ns ds S := by
  have r := rank_ex S h
  refine ex_eq ?_
  simp [f_p_one_at_most, m_p_one_at_most, r]
  exact ⟨rfl, rfl, rfl, rfl⟩
theorem just_ex {th st : D} {c : Str} {ns : List Str} {ds : List D} (S : List Cell) (h : f_p_check_both [th, st] S = .ex c ns ds S) : f_p_just_one [th, st] S = .ex c ns ds S := by
  have r := rank_ex S h
  refine ex_eq ?_
  simp [f_p_just_one, m_p_just_one, r]
  exact ⟨rfl, rfl, rfl, rfl⟩
section
variable {g : Nat} {ks : List Int} {ns : List Int} (f : Frm g ks) (hn : ns.length ≤ 12) (pf : ∀ S, f_p_places_fault [.tup (ns.map .int)] S = .ok (.int (-1)) S) (S : List Cell)
include f hn pf
theorem rank_ok : (f_p_rank [frameD g ks, .tup (ns.map .int)] S).W (fun d S' => (∃ r : Nat, d = .int (r : Nat)) ∧ Ka S S') XN := by
  have b := both_fine (g := g) (ks := ks) pf
  have lo := f.lo
  have hi := f.hi
  have e1 := insP_frame g ks
  have e2 : ∀ S, f_c_Frame_hills [frameD g ks] S = .ok (.int ((ks.length - g - 1 : Nat) : Int)) S := fun S => by
    rw [hills_ok]
    congr 2
    omega
  have e3 : ∀ k i (hi : i < (ns.map D.int).length) S, k < ks.length - g - 1 → f_p_is_up [frameD g ks, .int (k : Nat), (ns.map D.int)[i]] S = .ok (.bl (upF g ks k (ns.getD i 0))) S := fun k i hi S hk => by
    have : (ns.map D.int)[i] = .int (ns.getD i 0) := by
      rw [List.getElem_map]
      congr 1
      have : i < ns.length := by simpa using hi
      simp [this]
    rw [this]
    exact isup_ok f (by omega) _ S
  have hl : (ns.map D.int).length = ns.length := List.length_map ..
  generalize ns.map D.int = xs at *
  generalize frameD g ks = fr at *
  simp [f_p_rank, m_p_rank, b]
  refine (rank_of_ok (h := ks.length - g - 1) (m := ns.length) hl hn (by omega) (up := fun k i => upF g ks k (ns.getD i 0)) e1 e2 e3 S).on ?_
  rintro _ S1 ⟨rfl, t⟩
  exact ⟨⟨_, rfl⟩, tab_ka t⟩
theorem matching_ok : (f_p_matching [frameD g ks, .tup (ns.map .int)] S).W (fun _ S' => Ka S S') XN := by
  have b := both_fine (g := g) (ks := ks) pf
  have lo := f.lo
  have hi := f.hi
  have e1 := insP_frame g ks
  have e2 : ∀ S, f_c_Frame_hills [frameD g ks] S = .ok (.int ((ks.length - g - 1 : Nat) : Int)) S := fun S => by
    rw [hills_ok]
    congr 2
    omega
  have e3 : ∀ k i (hi : i < (ns.map D.int).length) S, k < ks.length - g - 1 → f_p_is_up [frameD g ks, .int (k : Nat), (ns.map D.int)[i]] S = .ok (.bl (upF g ks k (ns.getD i 0))) S := fun k i hi S hk => by
    have : (ns.map D.int)[i] = .int (ns.getD i 0) := by
      rw [List.getElem_map]
      congr 1
      have : i < ns.length := by simpa using hi
      simp [this]
    rw [this]
    exact isup_ok f (by omega) _ S
  have hl : (ns.map D.int).length = ns.length := List.length_map ..
  generalize ns.map D.int = xs at *
  generalize frameD g ks = fr at *
  simp [f_p_matching, m_p_matching, b]
  refine (pairs_ok (h := ks.length - g - 1) (m := ns.length) hl hn (by omega) (up := fun k i => upF g ks k (ns.getD i 0)) e1 e2 e3 S).on ?_
  rintro _ S1 ⟨rfl, t⟩
  exact tab_ka t
theorem met_ok : (f_p_all_met [frameD g ks, .tup (ns.map .int)] S).W (fun _ S' => Ka S S') XN := by
  have r := rank_ok f hn pf S
  have hl : ∀ S, lenD [.tup (ns.map D.int)] S = some (.int (ns.length : Nat)) := fun S => by rw [len_tup, List.length_map]
  generalize ns.map D.int = xs at *
  simp [f_p_all_met, m_p_all_met, hl]
  refine r.on ?_
  rintro _ S1 ⟨⟨r, rfl⟩, k⟩
  simp [k]
theorem most_ok : (f_p_one_at_most [frameD g ks, .tup (ns.map .int)] S).W (fun _ S' => Ka S S') XN := by
  have r := rank_ok f hn pf S
  generalize ns.map D.int = xs at *
  simp [f_p_one_at_most, m_p_one_at_most]
  refine r.on ?_
  rintro _ S1 ⟨⟨r, rfl⟩, k⟩
  simp [k]
theorem just_ok : (f_p_just_one [frameD g ks, .tup (ns.map .int)] S).W (fun _ S' => Ka S S') XN := by
  have r := rank_ok f hn pf S
  have hl : ∀ S, lenD [.tup (ns.map D.int)] S = some (.int (ns.length : Nat)) := fun S => by rw [len_tup, List.length_map]
  generalize ns.map D.int = xs at *
  simp [f_p_just_one, m_p_just_one, hl]
  refine r.on ?_
  rintro _ S1 ⟨⟨r, rfl⟩, k⟩
  by_cases h : r = ns.length
  · simp [h, k]
  · simp [h, k]
end
/-! ### what the law makes of a call -/
def ResO : Option (Bool × D) → D → Prop
  | some (true, d), r => r = .lst [.str "frame", d]
  | some (false, d), r => r = .lst [.str "places", d]
  | none, r => ∃ d, r = .lst [.str "told", d]
theorem lam_gives {F : Fn} {th st : D} {t : List Cell → Rs D} (ht : ∀ S', t S' = F [th, st] S') : ∀ {o : Option (Bool × D)}, Gives F th st o → ∀ S, (f_l_error S.length t [.cell S.length] (S ++ [.dead])).W (fun r S' => ResO o r ∧ Ka S S') XN
  | some (true, d), G, S => Rs.W.of_eq (error_frame (by rw [ht]; exact G _)) ⟨rfl, Ka.app⟩
  | some (false, d), G, S => Rs.W.of_eq (error_places (by rw [ht]; exact G _)) ⟨rfl, Ka.app⟩
  | none, G, S => by
    obtain ⟨d, S1, e, k⟩ := (G (S ++ [.dead])).of
    exact Rs.W.of_eq (error_told (by rw [ht]; exact e)) ⟨⟨_, rfl⟩, Ka.app.trans k⟩
def DueOk : Option (Bool × D) → List D → Prop
  | some (true, d), ds => (∃ r, ds = .lst [.str "frame", d] :: r) ∧ ∃ s, ∀ S, repr2D [.lst [.str "frame", d]] S = some (.str s)
  | some (false, d), ds => (∃ r, ds = .lst [.str "places", d] :: r) ∧ ∃ s, ∀ S, repr2D [.lst [.str "places", d]] S = some (.str s)
  | none, ds => ds = []
theorem ends_ok : ∀ {o : Option (Bool × D)} {r : D} {ds : List D}, ResO o r → DueOk o ds → ∀ S, f_l_ends_right [r, .lst ds] S = .ok (.bl true) S
  | some (true, d), r, ds, h1, ⟨⟨q, h2⟩, s, h3⟩, S => by
    subst h1 h2
    refine Rs.W.eq ?_
    simp [f_l_ends_right, m_l_ends_right, h3]
  | some (false, d), r, ds, h1, ⟨⟨q, h2⟩, s, h3⟩, S => by
    subst h1 h2
    refine Rs.W.eq ?_
    simp [f_l_ends_right, m_l_ends_right, h3]
  | none, r, ds, ⟨d, h1⟩, h2, S => by
    subst h1 h2
    refine Rs.W.eq ?_
    simp [f_l_ends_right, m_l_ends_right]
/-! ### places, bent -/
theorem vl_int (i : Int) : Vl (.int i) := ⟨_, rfl⟩
theorem bent_ok {S : List Cell} {n c : Nat} (w : MugAt S n c) (hc : c ≤ 100000000) {xs : List Int} (h1 : 1 ≤ xs.length) (h2 : xs.length ≤ 5) : (f_l_bent [.cell n, .tup (xs.map .int)] S).W (fun d S' => Sites d ∧ MugAt S' n (c + 10) ∧ Kp n S S') XN := by
  have hl : ∀ S, lenD [.tup (xs.map D.int)] S = some (.int (xs.length : Nat)) := fun S => by rw [len_tup, List.length_map]
  have vx : ∀ d ∈ xs.map D.int, Vl d := fun d hd => by
    obtain ⟨i, _, rfl⟩ := List.mem_map.mp hd
    exact vl_int i
  have ne : xs.map D.int ≠ [] := fun z => by
    have := congrArg List.length z
    simp at this
    subst this
    simp at h1
  have ll : (xs.map D.int).length = xs.length := List.length_map ..
  have xi : ∀ d ∈ xs.map D.int, ∃ i, d = .int i := fun d hd => by
    obtain ⟨i, _, rfl⟩ := List.mem_map.mp hd
    exact ⟨i, rfl⟩
  generalize xs.map D.int = ys at *
  simp [f_l_bent, m_l_bent, hl]
  refine (sip_ok w (by omega) (top := 8) (by omega) (by omega)).on ?_
  rintro _ S1 ⟨way, rfl, w0, w1, wa, k1⟩
  simp [hl]
  refine (sip_ok wa (by omega) (top := (xs.length : Nat) + 1) (by omega) (by omega)).on ?_
  rintro _ S2 ⟨at', rfl, a0, a1, wb, k2⟩
  have k12 := k1.trans k2
  by_cases h3 : way < 3
  · have c1 := cut_to (xs := ys) a0
    simp [h3, c1]
    refine (odd_ok wb (by omega)).on ?_
    rintro d S3 ⟨hd, wc, k3⟩
    have ad := add_tup (xs := ys.take at'.toNat) (ys := [d]) (S := S3) (by simp; omega)
    simp [ad]
    refine (sip_ok wc (by omega) (top := 2) (by omega) (by omega)).on ?_
    rintro _ S4 ⟨b, rfl, b0, b1, wd, k4⟩
    have c2 := cut_from (xs := ys) (k := at' + b) (by omega)
    have ad2 := add_tup (xs := ys.take at'.toNat ++ [d]) (ys := ys.drop (at' + b).toNat) (S := S4) (by simp; omega)
    rw [List.append_assoc] at ad2
    simp [c2, ad2]
    refine ⟨.inr ⟨_, rfl, by simp, fun e he => ?_, by simp; omega⟩, wd.le (by omega), (k12.trans k3).trans k4⟩
    simp only [List.mem_append, List.mem_cons, List.not_mem_nil, or_false] at he
    rcases he with he | he | he
    · exact vx e (List.mem_of_mem_take he)
    · subst he; exact odd_vl hd
    · exact vx e (List.mem_of_mem_drop he)
  · by_cases h4 : way = 3
    · simp [h3, h4]
      refine (pick_ok wb (by omega) (by simp) (by simp)).on ?_
      rintro d S3 ⟨hd, wc, k3⟩
      obtain ⟨m, hm, rfl⟩ : ∃ m : Nat, (1 ≤ m ∧ m ≤ 20) ∧ d = .int (m : Nat) := by
        simp only [List.mem_cons, List.not_mem_nil, or_false] at hd
        rcases hd with h | h | h | h <;> subst h
        · exact ⟨11, by omega, rfl⟩
        · exact ⟨12, by omega, rfl⟩
        · exact ⟨13, by omega, rfl⟩
        · exact ⟨15, by omega, rfl⟩
      have ok : okRg 0 (m : Nat) = true := by unfold okRg smallI; simp; omega
      simp [ok]
      refine ⟨.inr ⟨_, rfl, fun z => ?_, fun e he => ?_, ?_⟩, wc.le (by omega), k12.trans k3⟩
      · have := congrArg List.length z
        rw [rg_len] at this
        simp at this
        omega
      · obtain ⟨k, rfl⟩ := rg_int he
        exact vl_int k
      · rw [rg_len]; omega
    · by_cases h5 : way = 4
      · have i0 : L2.atI ys 0 = some (ys[0]'(by omega)) := at_ok (i := 0) (by decide) (by omega)
        have cl := cut_len (xs := ys) (a := some (-1)) (b := none)
        have cm : ∀ e, e ∈ cutD ys (some (-1)) none → e ∈ ys := fun e h => cut_mem h
        have v0 := vx ys[0] (List.getElem_mem _)
        have x0 := xi ys[0] (List.getElem_mem _)
        generalize ys[0] = y0 at *
        have ad := add_tup (xs := ys) (ys := cutD ys (some (-1)) none) (S := S2) (by omega)
        simp [h5, i0, ad]
        refine (pick_ok wb (by omega) (by simp) (by simp)).on ?_
        rintro d S3 ⟨hd, wc, k3⟩
        refine ⟨?_, wc.le (by omega), k12.trans k3⟩
        simp only [List.mem_cons, List.not_mem_nil, or_false] at hd
        rcases hd with h | h | h | h | h | h | h <;> subst h
        · exact .inl (.inr ⟨⟨_, rfl⟩, by funext S; exact nr rfl⟩)
        · exact .inl (.inl rfl)
        · exact .inl (.inr ⟨⟨_, rfl⟩, by funext S; exact nr rfl⟩)
        · obtain ⟨i, rfl⟩ := x0
          exact .inl (.inr ⟨⟨_, rfl⟩, by funext S; exact nr rfl⟩)
        · exact .inr ⟨_, rfl, by simpa using ne, fun e he => vx e (by simpa using he), by simp; omega⟩
        · exact .inr ⟨_, rfl, by simp [ne], fun e he => by
            rcases List.mem_append.mp he with he | he
            · exact vx e he
            · exact vx e (cm e he), by simp; omega⟩
        · exact .inl (.inr ⟨⟨_, rfl⟩, by funext S; exact nr rfl⟩)
      · simp [h3, h4, h5]
        exact ⟨.inr ⟨_, rfl, ne, vx, by omega⟩, wb.le (by omega), k12⟩
/-! ### one turn -/
abbrev lamQ : Str := "_law_right.<locals>.<lambda>"
def Tb (T : Nat → Addr) (S : List Cell) : Prop := S[0]? = some (.tab (T 0) lamQ)
theorem Tb.kp {T : Nat → Addr} {S S' : List Cell} {n : Nat} (h : Tb T S) (k : Kp n S S') (hn : 1 ≤ n) : Tb T S' := by
  have hl := (List.getElem?_eq_some_iff.mp h).1
  exact (k.2 0 (by omega) hl).trans h
theorem Tb.ka {T : Nat → Addr} {S S' : List Cell} (h : Tb T S) (k : Ka S S') : Tb T S' := by
  have hl := (List.getElem?_eq_some_iff.mp h).1
  exact (k.2 0 hl).trans h
/-- what a turn's things are due -/
structure Due (th st : D) (b : Bool) (ws : List D) (o : Option (Bool × D)) : Prop where
  isF : ∀ S, isAD tabT [th, .cls "Frame"] S = some (.bl b)
  wr : ∀ S, f_l_wrong_sites [st] S = .ok (.lst ws) S
  wl : ws.length ≤ 1
  due : DueOk o ((if b = true then [] else [.lst [.str "frame", th]]) ++ ws.map fun v => .lst [.str "places", v])
  g1 : Gives f_p_rank th st o
  g2 : Gives f_p_matching th st o
  g3 : Gives f_p_all_met th st o
  g4 : Gives f_p_one_at_most th st o
  g5 : Gives f_p_just_one th st o
theorem due_odd {th st : D} (h : th ∈ oddL) (hs : Sites st) : ∃ b ws o, Due th st b ws o := by
  obtain ⟨o, w⟩ := wr_of hs
  have ex : ∀ S, f_p_check_both [th, st] S = .ex "NotAFrame" ["given"] [th] S := both_frame h
  have dk : ∀ l, DueOk (some (true, th)) ([.lst [.str "frame", th]] ++ l) := fun l => ⟨⟨l, rfl⟩, odd_shown_frame h⟩
  have one : ∃ ws : List D, (∀ S, f_l_wrong_sites [st] S = .ok (.lst ws) S) ∧ ws.length ≤ 1 := by
    cases w with
    | bad v f w n s => exact ⟨[v], w, by simp⟩
    | fine ns e l f w => exact ⟨[], w, by simp⟩
  obtain ⟨ws, w1, w2⟩ := one
  exact ⟨false, ws, some (true, th), odd_frame h, w1, w2, by rw [if_neg (by simp)]; exact dk _, fun S => rank_ex S (ex S), fun S => matching_ex S (ex S), fun S => met_ex S (ex S), fun S => most_ex S (ex S), fun S => just_ex S (ex S)⟩
theorem due_frame {g : Nat} {ks : List Int} {st : D} (f : Frm g ks) (hs : Sites st) : ∃ b ws o, Due (frameD g ks) st b ws o := by
  obtain ⟨o, w⟩ := wr_of hs
  cases w with
  | bad v pf w n s =>
    have ex : ∀ S, f_p_check_both [frameD g ks, st] S = .ex "InvalidPlaces" ["index"] [v] S := both_bad pf n
    exact ⟨true, [v], some (false, v), isa_frame g ks, w, by simp, by rw [if_pos rfl]; exact ⟨⟨[], rfl⟩, s⟩, fun S => rank_ex S (ex S), fun S => matching_ex S (ex S), fun S => met_ex S (ex S), fun S => most_ex S (ex S), fun S => just_ex S (ex S)⟩
  | fine ns e l pf w =>
    subst e
    exact ⟨true, [], none, isa_frame g ks, w, by simp, by rw [if_pos rfl]; rfl, fun S => (rank_ok f l pf S).on fun _ _ h => h.2, matching_ok f l pf, met_ok f l pf, most_ok f l pf, just_ok f l pf⟩
theorem right_ok {T : Nat → Addr} {S : List Cell} {n c : Nat} (w : MugAt S n c) (tb : Tb T S) (hn : 1 ≤ n) (hc : c ≤ 1000) : (f_l_right T [.cell n] S).W (fun d S' => d = .bl true ∧ Tb T S') XN := by
  have hr : ∀ S, range1D [.int 7] S = .ok ((List.range 7).map fun k => .int (k : Nat)) S := fun S => range1_int (n := 7) rfl (by decide) S
  have h1 : ∀ S, range1D [.int 1] S = .ok ((List.range 1).map fun k => .int (k : Nat)) S := fun S => range1_int (n := 1) rfl (by decide) S
  simp [f_l_right, m_l_right, hr]
  refine for_rng0 (fun j e S' => ∃ (s1 s2 s3 s4 s5 s6 s7 s8 : Sl), e = [.val (.cell n), s1, s2, s3, s4, s5, s6, s7, s8] ∧ MugAt S' n (c + 10000 * j) ∧ Tb T S') ⟨_, _, _, _, _, _, _, _, rfl, w, tb⟩ ?_ ?_
  · rintro j env S1 hj ⟨s1, s2, s3, s4, s5, s6, s7, s8, rfl, w1, tb1⟩
    simp
    refine (draft_ok (mh := 4) (most := 9) w1 (by omega) (by omega) (by omega) (by omega)).on ?_
    rintro _ S2 ⟨g, ks, rfl, f, hl, hb, w2, k2⟩
    have tb2 := tb1.kp k2 hn
    have mk := lmade_ok f
    simp [mk]
    have w3 := (w2.app (T := [.dead])).app (T := [.dead]) |>.app (T := [.dead])
    have tb3 := ((tb2.ka (Ka.app (T := [.dead]))).ka (Ka.app (T := [.dead]))).ka (Ka.app (T := [.dead]))
    simp only [List.append_assoc, List.cons_append, List.nil_append] at w3 tb3
    refine (odd_ok w3 (by omega)).on ?_
    rintro od S3 ⟨hod, w4, k4⟩
    have tb4 := tb3.kp k4 hn
    simp
    refine (pick_ok w4 (by omega) (by simp) (by simp)).on ?_
    rintro th S4 ⟨hth, w5, k5⟩
    have tb5 := tb4.kp k5 hn
    simp
    refine (sites_ok f (many := 5) w5 (by omega) (by omega) (by omega)).on ?_
    rintro _ S5 ⟨xs, rfl, -, x1, x2, -, w6, k6⟩
    have tb6 := tb5.kp k6 hn
    simp
    refine (bent_ok w6 (by omega) x1 x2).on ?_
    rintro st S6 ⟨hs, w7, k7⟩
    have tb7 := tb6.kp k7 hn
    have du : ∃ b ws o, Due th st b ws o := by
      simp only [List.mem_cons, List.not_mem_nil, or_false] at hth
      rcases hth with h | h | h | h <;> subst h
      · exact due_frame f hs
      · exact due_frame f hs
      · exact due_frame f hs
      · exact due_odd hod hs
    obtain ⟨b, ws, o, du⟩ := du
    clear hth hs hod w2 w3 w4 w5 w6 tb2 tb3 tb4 tb5 tb6 k2 k4 k5 k6 k7
    have wr := du.wr
    have wl := du.wl
    have e5 : ∀ S a0 a1 a2 a4 a5 a6 a7 a8, compL [7] (.nm 7) (mNot (mB (mCall (isAD tabT) (mCons (mVar 3) (mCons (mC (.cls "Frame")) mNil))))) (mFr (mLst (mCons (mC (.str "frame")) (mCons (mVar 3) mNil)))) [.int 0] [a0, a1, a2, .val th, a4, a5, a6, a7, a8] S =
        .ok (if b = true then [] else [.lst [.str "frame", th]]) S := fun S a0 a1 a2 a4 a5 a6 a7 a8 => by
      have := comp_fm (vs := [7]) (p := .nm 7) (cond := mNot (mB (mCall (isAD tabT) (mCons (mVar 3) (mCons (mC (.cls "Frame")) mNil))))) (elt := mFr (mLst (mCons (mC (.str "frame")) (mCons (mVar 3) mNil)))) (env := [a0, a1, a2, .val th, a4, a5, a6, a7, a8]) (S := S) (fun k : Nat => D.int (k : Nat)) (fun _ => !b) (fun _ => D.lst [.str "frame", th]) (List.range 1) fun k hk => by
        have h := du.isF
        cases b <;> simp [h]
      refine Eq.trans this ?_
      cases b <;> rfl
    have e6 : ∀ S a0 a1 a2 a3 a4 a5 a6 a7 a8, compL [8] (.nm 8) mYes (mFr (mLst (mCons (mC (.str "places")) (mCons (mVar 8) mNil)))) ws [a0, a1, a2, a3, a4, a5, a6, a7, a8] S = .ok (ws.map fun v => .lst [.str "places", v]) S := fun S a0 a1 a2 a3 a4 a5 a6 a7 a8 =>
      comp_map (fun v => D.lst [.str "places", v]) ws fun d _ => by simp
    have dd := du.due
    have l1 : (if b = true then [] else [D.lst [.str "frame", th]]).length ≤ 1 := by split <;> simp
    have l2 : (ws.map fun v => D.lst [.str "places", v]).length ≤ 1 := by rw [List.length_map]; exact wl
    have wl2 : ws.length ≤ 100000 := by omega
    generalize hd1 : (if b = true then [] else [D.lst [.str "frame", th]]) = d1 at *
    generalize hd2 : (ws.map fun v => D.lst [.str "places", v]) = d2 at *
    have ad : ∀ S, addD (.lst d1) (.lst d2) S = some (.lst (d1 ++ d2)) := fun S => add_lst (by omega)
    simp [h1, e5, wr, e6, wl2, ad]
    rw [V_lam tb7]
    refine (lam_gives (F := f_p_rank) (th := th) (st := st) (fun S' => by simp [noOwn]) du.g1 S6).on ?_
    rintro r1 S7 ⟨q1, k1⟩
    have tb8 := tb7.ka k1
    simp
    rw [V_lam tb8]
    refine (lam_gives (F := f_p_matching) (th := th) (st := st) (fun S' => by simp [noOwn, pickL]) du.g2 S7).on ?_
    rintro r2 S8 ⟨q2, k2⟩
    have tb9 := tb8.ka k2
    simp [okLen]
    rw [V_lam tb9]
    refine (lam_gives (F := f_p_all_met) (th := th) (st := st) (fun S' => by simp [noOwn]) du.g3 S8).on ?_
    rintro r3 S9 ⟨q3, k3⟩
    have tb10 := tb9.ka k3
    simp [okLen]
    rw [V_lam tb10]
    refine (lam_gives (F := f_p_one_at_most) (th := th) (st := st) (fun S' => by simp [noOwn]) du.g4 S9).on ?_
    rintro r4 S10 ⟨q4, k4⟩
    have tb11 := tb10.ka k4
    simp [okLen]
    rw [V_lam tb11]
    refine (lam_gives (F := f_p_just_one) (th := th) (st := st) (fun S' => by simp [noOwn, pickL]) du.g5 S10).on ?_
    rintro r5 S11 ⟨q5, k5⟩
    have tb12 := tb11.ka k5
    have w12 := (k1.trans (k2.trans (k3.trans (k4.trans k5)))).mug w7
    have e8 : ∀ a0 a1 a2 a3 a4 a6 a7 a8, compL [8] (.nm 8) mYes (mFn 2 f_l_ends_right (mCons (mVar 8) (mCons (mVar 5) mNil))) [r1, r2, r3, r4, r5] [a0, a1, a2, a3, a4, .val (.lst (d1 ++ d2)), a6, a7, a8] S11 = .ok [.bl true, .bl true, .bl true, .bl true, .bl true] S11 := fun a0 a1 a2 a3 a4 a6 a7 a8 => by
      refine comp_map (fun _ => D.bl true) [r1, r2, r3, r4, r5] fun d hd => ?_
      have q : ResO o d := by
        simp only [List.mem_cons, List.not_mem_nil, or_false] at hd
        rcases hd with h | h | h | h | h <;> subst h <;> assumption
      have e := ends_ok q dd S11
      generalize d1 ++ d2 = dz at *
      simp [e]
    have al : ∀ S, allD [.lst [.bl true, .bl true, .bl true, .bl true, .bl true]] S = some (.bl true) := fun S => nr rfl
    generalize d1 ++ d2 = dz at *
    simp [okLen, e8, al]
    exact ⟨w12.le (by omega), tb12⟩
  · rintro env S' ⟨s1, s2, s3, s4, s5, s6, s7, s8, rfl, w1, tb1⟩
    simp
    exact tb1
theorem law_true (T : Nat → Addr) (ns : List Int) (h : ns.length ≤ 63) : ∃ S2, f_p_law T [scriptD ns] [.tab (T 0) "_law_right.<locals>.<lambda>"] = .ok (.bl true) S2 := by
  have ln := len_script ns
  obtain ⟨k, hk, ek⟩ := turns_k ns.length 6 h (by decide)
  have rk : ∀ S, range1D [.int (k : Nat)] S = .ok ((List.range k).map fun k : Nat => .int (k : Nat)) S := fun S => range1_ok (by omega) S
  have kl : k ≤ 100000 := by omega
  have mg := mug_ok ns
  have tb : Tb T [.tab (T 0) "_law_right.<locals>.<lambda>"] := rfl
  generalize [Cell.tab (T 0) "_law_right.<locals>.<lambda>"] = S0 at *
  have main : (f_p_law T [scriptD ns] S0).W (fun d _ => d = .bl true) XN := by
    simp [f_p_law, m_p_law, ln]
    rw [ek]
    simp [rk, kl]
    refine turns_ok (fun S => Tb T S) tb (fun j S hj tb => ?_) fun S' _ => ?_
    · have hl := (List.getElem?_eq_some_iff.mp tb).1
      simp
      refine (mg S j (by omega)).on ?_
      rintro _ S1 ⟨rfl, w, -, kp⟩
      simp
      refine (right_ok w (tb.kp kp (by omega)) (by omega) (by omega)).on ?_
      rintro _ S2 ⟨rfl, tb2⟩
      exact ⟨rfl, tb2⟩
    · simp [all_true]
  obtain ⟨d, S', e, rfl⟩ := main.of
  exact ⟨S', e⟩
end K14

open PySem PySem.W PyProof.Rows
set_option maxHeartbeats 0 in
theorem PySem.Challenge.cw_bentthrough_k14_matches_refused_holds : PySem.Challenge.rw_bentthrough_k14_matches_refused.Holds := by
  w_on; o_law; k_head; (case hw => w_witness2)
  k_fill
  refine DL.walkGT (l := PySem.Challenge.rw_bentthrough_k14_matches_refused) (n := 63) (k := 12) (x := "_law_script") rfl (by decide) rfl ⟨rfl, by decide, by decide⟩ (fun w h Y => PySem.W.km_in_of Y) ?F
  case F =>
    intro w mg fa h Y KX G hmg
    refine' K14.all_mk KX G hmg ?a_l_mug ?l_l_mug ?c_l_mug ?k_l_mug ?b_Frame ?q1_c_Frame_hills ?q2_c_Frame_hills ?q3_c_Frame_hills ?a_c_Frame_hills ?l_c_Frame_hills ?c_c_Frame_hills ?k_c_Frame_hills ?q1_c_Frame_degree ?q2_c_Frame_degree ?q3_c_Frame_degree ?a_c_Frame_degree ?l_c_Frame_degree ?c_c_Frame_degree ?k_c_Frame_degree ?q1_c_Frame_knots ?q2_c_Frame_knots ?q3_c_Frame_knots ?a_c_Frame_knots ?l_c_Frame_knots ?c_c_Frame_knots ?k_c_Frame_knots ?a_p_is_up ?l_p_is_up ?c_p_is_up ?k_p_is_up ?a_p_lengths_from ?l_p_lengths_from ?c_p_lengths_from ?k_p_lengths_from ?a_p_rank_of ?l_p_rank_of ?c_p_rank_of ?k_p_rank_of ?a_p_is_integer ?l_p_is_integer ?c_p_is_integer ?k_p_is_integer ?a_p_is_between ?l_p_is_between ?c_p_is_between ?k_p_is_between ?a_p_is_place ?l_p_is_place ?c_p_is_place ?k_p_is_place ?a_p_places_fault ?l_p_places_fault ?c_p_places_fault ?k_p_places_fault ?a_p_check_places ?l_p_check_places ?c_p_check_places ?k_p_check_places ?a_p_check_frame ?l_p_check_frame ?c_p_check_frame ?k_p_check_frame ?a_p_check_both ?l_p_check_both ?c_p_check_both ?k_p_check_both ?a_p_rank ?l_p_rank ?c_p_rank ?k_p_rank ?a_p_pairs_of ?l_p_pairs_of ?c_p_pairs_of ?k_p_pairs_of ?a_p_matching ?l_p_matching ?c_p_matching ?k_p_matching ?a_p_all_met ?l_p_all_met ?c_p_all_met ?k_p_all_met ?a_p_one_at_most ?l_p_one_at_most ?c_p_one_at_most ?k_p_one_at_most ?a_p_just_one ?l_p_just_one ?c_p_just_one ?k_p_just_one ?a_l_sip ?l_l_sip ?c_l_sip ?k_l_sip ?a_l_pick ?l_l_pick ?c_l_pick ?k_l_pick ?a_l_draft ?l_l_draft ?c_l_draft ?k_l_draft ?a_p_knots_fault ?l_p_knots_fault ?c_p_knots_fault ?k_p_knots_fault ?a_c_Frame___init__ ?l_c_Frame___init__ ?c_c_Frame___init__ ?k_c_Frame___init__ ?a_l_made ?l_l_made ?c_l_made ?k_l_made ?a_l_sites ?l_l_sites ?c_l_sites ?k_l_sites ?a_l_is_number ?l_l_is_number ?c_l_is_number ?k_l_is_number ?a_l_wrong_sites ?l_l_wrong_sites ?c_l_wrong_sites ?k_l_wrong_sites ?a_l_odd ?l_l_odd ?c_l_odd ?k_l_odd ?a_l_class ?l_l_class ?c_l_class ?k_l_class ?a_l_field ?l_l_field ?c_l_field ?k_l_field ?a_l_error ?l_l_error ?c_l_error ?k_l_error ?a_l_ends_right ?l_l_ends_right ?c_l_ends_right ?k_l_ends_right ?a_l_bent ?l_l_bent ?c_l_bent ?k_l_bent ?a_l_right ?l_l_right ?c_l_right ?k_l_right ?tk_l_right ?tab_l_right ?th_l_right ?tn_l_right ?tt_l_right ?a_p_law ?l_p_law ?c_p_law ?k_p_law ?z_ArithmeticError ?z_LookupError ?z_ValueError ?z_abs ?z_all ?z_bool ?z_enumerate ?z_int ?z_isinstance ?z_len ?z_list ?z_max ?z_min ?z_range ?z_repr ?z_set ?z_sorted ?z_tuple ?g_MOST_DEGREE ?g_MOST_HILLS ?g_MOST_KNOT ?g_MOST_PLACES ?b_NotRight ?b_InvalidText ?b_InvalidNumber ?b_InvalidIndex ?b_InvalidDegree ?b_InvalidKnot ?b_NotAFrame ?b_NotACurve ?b_InvalidKnots ?b_InvalidAmounts ?b_InvalidPlaces ?b_InvalidHeights ?b_InvalidOffers ?b_NotKnown ?b_NotPossible ?b_TooMany ?b_NotOne ?b_Broken ?w_sp ?w_tk ?d1_Frame ?d2_Frame ?d3_Frame ?d4_Frame ?d5_Frame ?d6_Frame ?kn_Frame ?k1_Frame ?k2_Frame ?k3_Frame ?nf_Frame_parts ?x1_InvalidPlaces ?x2_InvalidPlaces ?x3_InvalidPlaces ?x4_InvalidPlaces ?x5_InvalidPlaces ?x6_InvalidPlaces ?x7_InvalidPlaces ?e1_InvalidPlaces ?e2_InvalidPlaces ?e5_InvalidPlaces ?e8_InvalidPlaces ?no_InvalidPlaces ?ii_InvalidPlaces ?il_InvalidPlaces ?ic_InvalidPlaces ?ik_InvalidPlaces ?it_InvalidPlaces ?ta_InvalidPlaces ?x1_NotAFrame ?x2_NotAFrame ?x3_NotAFrame ?x4_NotAFrame ?x5_NotAFrame ?x6_NotAFrame ?x7_NotAFrame ?e1_NotAFrame ?e2_NotAFrame ?e5_NotAFrame ?e8_NotAFrame ?no_NotAFrame ?ii_NotAFrame ?il_NotAFrame ?ic_NotAFrame ?ik_NotAFrame ?it_NotAFrame ?ta_NotAFrame ?x1_InvalidKnots ?x2_InvalidKnots ?x3_InvalidKnots ?x4_InvalidKnots ?x5_InvalidKnots ?x6_InvalidKnots ?x7_InvalidKnots ?e1_InvalidKnots ?e2_InvalidKnots ?e5_InvalidKnots ?e8_InvalidKnots ?no_InvalidKnots ?ii_InvalidKnots ?il_InvalidKnots ?ic_InvalidKnots ?ik_InvalidKnots ?it_InvalidKnots ?ta_InvalidKnots ?x1_InvalidDegree ?x2_InvalidDegree ?x3_InvalidDegree ?x4_InvalidDegree ?x5_InvalidDegree ?x6_InvalidDegree ?x7_InvalidDegree ?e1_InvalidDegree ?e2_InvalidDegree ?e5_InvalidDegree ?e8_InvalidDegree ?no_InvalidDegree ?ii_InvalidDegree ?il_InvalidDegree ?ic_InvalidDegree ?ik_InvalidDegree ?it_InvalidDegree ?ta_InvalidDegree ?oo_InvalidPlaces_NotRight ?oo_InvalidPlaces_InvalidText ?oo_InvalidPlaces_InvalidNumber ?oo_InvalidPlaces_InvalidIndex ?oo_InvalidPlaces_InvalidDegree ?oo_InvalidPlaces_InvalidKnot ?oo_InvalidPlaces_NotAFrame ?oo_InvalidPlaces_NotACurve ?oo_InvalidPlaces_InvalidKnots ?oo_InvalidPlaces_InvalidAmounts ?oo_InvalidPlaces_InvalidPlaces ?oo_InvalidPlaces_InvalidHeights ?oo_InvalidPlaces_InvalidOffers ?oo_InvalidPlaces_NotKnown ?oo_InvalidPlaces_NotPossible ?oo_InvalidPlaces_TooMany ?oo_InvalidPlaces_NotOne ?oo_InvalidPlaces_Broken ?oo_NotAFrame_NotRight ?oo_NotAFrame_InvalidText ?oo_NotAFrame_InvalidNumber ?oo_NotAFrame_InvalidIndex ?oo_NotAFrame_InvalidDegree ?oo_NotAFrame_InvalidKnot ?oo_NotAFrame_NotAFrame ?oo_NotAFrame_NotACurve ?oo_NotAFrame_InvalidKnots ?oo_NotAFrame_InvalidAmounts ?oo_NotAFrame_InvalidPlaces ?oo_NotAFrame_InvalidHeights ?oo_NotAFrame_InvalidOffers ?oo_NotAFrame_NotKnown ?oo_NotAFrame_NotPossible ?oo_NotAFrame_TooMany ?oo_NotAFrame_NotOne ?oo_NotAFrame_Broken ?oo_InvalidKnots_NotRight ?oo_InvalidKnots_InvalidText ?oo_InvalidKnots_InvalidNumber ?oo_InvalidKnots_InvalidIndex ?oo_InvalidKnots_InvalidDegree ?oo_InvalidKnots_InvalidKnot ?oo_InvalidKnots_NotAFrame ?oo_InvalidKnots_NotACurve ?oo_InvalidKnots_InvalidKnots ?oo_InvalidKnots_InvalidAmounts ?oo_InvalidKnots_InvalidPlaces ?oo_InvalidKnots_InvalidHeights ?oo_InvalidKnots_InvalidOffers ?oo_InvalidKnots_NotKnown ?oo_InvalidKnots_NotPossible ?oo_InvalidKnots_TooMany ?oo_InvalidKnots_NotOne ?oo_InvalidKnots_Broken ?oo_InvalidDegree_NotRight ?oo_InvalidDegree_InvalidText ?oo_InvalidDegree_InvalidNumber ?oo_InvalidDegree_InvalidIndex ?oo_InvalidDegree_InvalidDegree ?oo_InvalidDegree_InvalidKnot ?oo_InvalidDegree_NotAFrame ?oo_InvalidDegree_NotACurve ?oo_InvalidDegree_InvalidKnots ?oo_InvalidDegree_InvalidAmounts ?oo_InvalidDegree_InvalidPlaces ?oo_InvalidDegree_InvalidHeights ?oo_InvalidDegree_InvalidOffers ?oo_InvalidDegree_NotKnown ?oo_InvalidDegree_NotPossible ?oo_InvalidDegree_TooMany ?oo_InvalidDegree_NotOne ?oo_InvalidDegree_Broken ?oo_Frame_Frame ?ob_InvalidPlaces_ValueError ?ob_InvalidPlaces_LookupError ?ob_InvalidPlaces_ArithmeticError ?ob_NotAFrame_ValueError ?ob_NotAFrame_LookupError ?ob_NotAFrame_ArithmeticError ?ob_InvalidKnots_ValueError ?ob_InvalidKnots_LookupError ?ob_InvalidKnots_ArithmeticError ?ob_InvalidDegree_ValueError ?ob_InvalidDegree_LookupError ?ob_InvalidDegree_ArithmeticError ?ob_Frame_int ?ob_Frame_bool ?ob_Frame_tuple ?ob_Frame_str ?ob_Frame_list ?cc_InvalidPlaces_NotKnown ?cc_InvalidPlaces_NotPossible ?cc_InvalidPlaces_NotRight ?cc_NotAFrame_NotKnown ?cc_NotAFrame_NotPossible ?cc_NotAFrame_NotRight ?cc_InvalidKnots_NotKnown ?cc_InvalidKnots_NotPossible ?cc_InvalidKnots_NotRight ?cc_InvalidDegree_NotKnown ?cc_InvalidDegree_NotPossible ?cc_InvalidDegree_NotRight ?nd K14.law_true
    (case a_l_mug => k_is)
    (case l_l_mug => k_is)
    (case c_l_mug => k_is)
    (case k_l_mug => k_is)
    (case b_Frame => k_is)
    (case q1_c_Frame_hills => k_is)
    (case q2_c_Frame_hills => k_is)
    (case q3_c_Frame_hills => k_is)
    (case a_c_Frame_hills => k_is)
    (case l_c_Frame_hills => k_is)
    (case c_c_Frame_hills => k_is)
    (case k_c_Frame_hills => k_is)
    (case q1_c_Frame_degree => k_is)
    (case q2_c_Frame_degree => k_is)
    (case q3_c_Frame_degree => k_is)
    (case a_c_Frame_degree => k_is)
    (case l_c_Frame_degree => k_is)
    (case c_c_Frame_degree => k_is)
    (case k_c_Frame_degree => k_is)
    (case q1_c_Frame_knots => k_is)
    (case q2_c_Frame_knots => k_is)
    (case q3_c_Frame_knots => k_is)
    (case a_c_Frame_knots => k_is)
    (case l_c_Frame_knots => k_is)
    (case c_c_Frame_knots => k_is)
    (case k_c_Frame_knots => k_is)
    (case a_p_is_up => k_is)
    (case l_p_is_up => k_is)
    (case c_p_is_up => k_is)
    (case k_p_is_up => k_is)
    (case a_p_lengths_from => k_is)
    (case l_p_lengths_from => k_is)
    (case c_p_lengths_from => k_is)
    (case k_p_lengths_from => k_is)
    (case a_p_rank_of => k_is)
    (case l_p_rank_of => k_is)
    (case c_p_rank_of => k_is)
    (case k_p_rank_of => k_is)
    (case a_p_is_integer => k_is)
    (case l_p_is_integer => k_is)
    (case c_p_is_integer => k_is)
    (case k_p_is_integer => k_is)
    (case a_p_is_between => k_is)
    (case l_p_is_between => k_is)
    (case c_p_is_between => k_is)
    (case k_p_is_between => k_is)
    (case a_p_is_place => k_is)
    (case l_p_is_place => k_is)
    (case c_p_is_place => k_is)
    (case k_p_is_place => k_is)
    (case a_p_places_fault => k_is)
    (case l_p_places_fault => k_is)
    (case c_p_places_fault => k_is)
    (case k_p_places_fault => k_is)
    (case a_p_check_places => k_is)
    (case l_p_check_places => k_is)
    (case c_p_check_places => k_is)
    (case k_p_check_places => k_is)
    (case a_p_check_frame => k_is)
    (case l_p_check_frame => k_is)
    (case c_p_check_frame => k_is)
    (case k_p_check_frame => k_is)
    (case a_p_check_both => k_is)
    (case l_p_check_both => k_is)
    (case c_p_check_both => k_is)
    (case k_p_check_both => k_is)
    (case a_p_rank => k_is)
    (case l_p_rank => k_is)
    (case c_p_rank => k_is)
    (case k_p_rank => k_is)
    (case a_p_pairs_of => k_is)
    (case l_p_pairs_of => k_is)
    (case c_p_pairs_of => k_is)
    (case k_p_pairs_of => k_is)
    (case a_p_matching => k_is)
    (case l_p_matching => k_is)
    (case c_p_matching => k_is)
    (case k_p_matching => k_is)
    (case a_p_all_met => k_is)
    (case l_p_all_met => k_is)
    (case c_p_all_met => k_is)
    (case k_p_all_met => k_is)
    (case a_p_one_at_most => k_is)
    (case l_p_one_at_most => k_is)
    (case c_p_one_at_most => k_is)
    (case k_p_one_at_most => k_is)
    (case a_p_just_one => k_is)
    (case l_p_just_one => k_is)
    (case c_p_just_one => k_is)
    (case k_p_just_one => k_is)
    (case a_l_sip => k_is)
    (case l_l_sip => k_is)
    (case c_l_sip => k_is)
    (case k_l_sip => k_is)
    (case a_l_pick => k_is)
    (case l_l_pick => k_is)
    (case c_l_pick => k_is)
    (case k_l_pick => k_is)
    (case a_l_draft => k_is)
    (case l_l_draft => k_is)
    (case c_l_draft => k_is)
    (case k_l_draft => k_is)
    (case a_p_knots_fault => k_is)
    (case l_p_knots_fault => k_is)
    (case c_p_knots_fault => k_is)
    (case k_p_knots_fault => k_is)
    (case a_c_Frame___init__ => k_is)
    (case l_c_Frame___init__ => k_is)
    (case c_c_Frame___init__ => k_is)
    (case k_c_Frame___init__ => k_is)
    (case a_l_made => k_is)
    (case l_l_made => k_is)
    (case c_l_made => k_is)
    (case k_l_made => k_is)
    (case a_l_sites => k_is)
    (case l_l_sites => k_is)
    (case c_l_sites => k_is)
    (case k_l_sites => k_is)
    (case a_l_is_number => k_is)
    (case l_l_is_number => k_is)
    (case c_l_is_number => k_is)
    (case k_l_is_number => k_is)
    (case a_l_wrong_sites => k_is)
    (case l_l_wrong_sites => k_is)
    (case c_l_wrong_sites => k_is)
    (case k_l_wrong_sites => k_is)
    (case a_l_odd => k_is)
    (case l_l_odd => k_is)
    (case c_l_odd => k_is)
    (case k_l_odd => k_is)
    (case a_l_class => k_is)
    (case l_l_class => k_is)
    (case c_l_class => k_is)
    (case k_l_class => k_is)
    (case a_l_field => k_is)
    (case l_l_field => k_is)
    (case c_l_field => k_is)
    (case k_l_field => k_is)
    (case a_l_error => k_is)
    (case l_l_error => k_is)
    (case c_l_error => k_is)
    (case k_l_error => k_is)
    (case a_l_ends_right => k_is)
    (case l_l_ends_right => k_is)
    (case c_l_ends_right => k_is)
    (case k_l_ends_right => k_is)
    (case a_l_bent => k_is)
    (case l_l_bent => k_is)
    (case c_l_bent => k_is)
    (case k_l_bent => k_is)
    (case a_l_right => k_is)
    (case l_l_right => k_is)
    (case c_l_right => k_is)
    (case k_l_right => k_is)
    (case tk_l_right => k_is)
    (case tab_l_right => exact rfl)
    (case th_l_right => first | exact rfl | kernel_rfl)
    (case tn_l_right => first | exact rfl | kernel_rfl)
    (case tt_l_right => exact PySem.W.km_tabs_of Y _ (by decide))
    (case a_p_law => k_is)
    (case l_p_law => k_is)
    (case c_p_law => k_is)
    (case k_p_law => k_is)
    (case z_ArithmeticError => k_is)
    (case z_LookupError => k_is)
    (case z_ValueError => k_is)
    (case z_abs => k_is)
    (case z_all => k_is)
    (case z_bool => k_is)
    (case z_enumerate => k_is)
    (case z_int => k_is)
    (case z_isinstance => k_is)
    (case z_len => k_is)
    (case z_list => k_is)
    (case z_max => k_is)
    (case z_min => k_is)
    (case z_range => k_is)
    (case z_repr => k_is)
    (case z_set => k_is)
    (case z_sorted => k_is)
    (case z_tuple => k_is)
    (case g_MOST_DEGREE => k_is)
    (case g_MOST_HILLS => k_is)
    (case g_MOST_KNOT => k_is)
    (case g_MOST_PLACES => k_is)
    (case b_NotRight => k_is)
    (case b_InvalidText => k_is)
    (case b_InvalidNumber => k_is)
    (case b_InvalidIndex => k_is)
    (case b_InvalidDegree => k_is)
    (case b_InvalidKnot => k_is)
    (case b_NotAFrame => k_is)
    (case b_NotACurve => k_is)
    (case b_InvalidKnots => k_is)
    (case b_InvalidAmounts => k_is)
    (case b_InvalidPlaces => k_is)
    (case b_InvalidHeights => k_is)
    (case b_InvalidOffers => k_is)
    (case b_NotKnown => k_is)
    (case b_NotPossible => k_is)
    (case b_TooMany => k_is)
    (case b_NotOne => k_is)
    (case b_Broken => k_is)
    (case w_sp => k_is)
    (case w_tk => k_is)
    (case d1_Frame => k_is)
    (case d2_Frame => k_is)
    (case d3_Frame => k_is)
    (case d4_Frame => k_is)
    (case d5_Frame => k_is)
    (case d6_Frame => k_is)
    (case kn_Frame => intro m hm; simp only [DL.tyNames, List.mem_cons, List.not_mem_nil, or_false] at hm; rcases hm with h | h | h | h | h | h | h <;> subst h <;> first | exact rfl | kernel_rfl)
    (case k1_Frame => k_is)
    (case k2_Frame => k_is)
    (case k3_Frame => k_is)
    (case nf_Frame_parts => k_is)
    (case x1_InvalidPlaces => first | exact rfl | kernel_rfl)
    (case x2_InvalidPlaces => first | exact rfl | kernel_rfl)
    (case x3_InvalidPlaces => k_is)
    (case x4_InvalidPlaces => k_is)
    (case x5_InvalidPlaces => k_is)
    (case x6_InvalidPlaces => k_is)
    (case x7_InvalidPlaces => k_is)
    (case e1_InvalidPlaces => k_is)
    (case e2_InvalidPlaces => k_is)
    (case e5_InvalidPlaces => k_is)
    (case e8_InvalidPlaces => k_is)
    (case no_InvalidPlaces => k_is)
    (case ii_InvalidPlaces => k_is)
    (case il_InvalidPlaces => k_is)
    (case ic_InvalidPlaces => k_is)
    (case ik_InvalidPlaces => k_is)
    (case it_InvalidPlaces => k_is)
    (case ta_InvalidPlaces => k_is)
    (case x1_NotAFrame => first | exact rfl | kernel_rfl)
    (case x2_NotAFrame => first | exact rfl | kernel_rfl)
    (case x3_NotAFrame => k_is)
    (case x4_NotAFrame => k_is)
    (case x5_NotAFrame => k_is)
    (case x6_NotAFrame => k_is)
    (case x7_NotAFrame => k_is)
    (case e1_NotAFrame => k_is)
    (case e2_NotAFrame => k_is)
    (case e5_NotAFrame => k_is)
    (case e8_NotAFrame => k_is)
    (case no_NotAFrame => k_is)
    (case ii_NotAFrame => k_is)
    (case il_NotAFrame => k_is)
    (case ic_NotAFrame => k_is)
    (case ik_NotAFrame => k_is)
    (case it_NotAFrame => k_is)
    (case ta_NotAFrame => k_is)
    (case x1_InvalidKnots => first | exact rfl | kernel_rfl)
    (case x2_InvalidKnots => first | exact rfl | kernel_rfl)
    (case x3_InvalidKnots => k_is)
    (case x4_InvalidKnots => k_is)
    (case x5_InvalidKnots => k_is)
    (case x6_InvalidKnots => k_is)
    (case x7_InvalidKnots => k_is)
    (case e1_InvalidKnots => k_is)
    (case e2_InvalidKnots => k_is)
    (case e5_InvalidKnots => k_is)
    (case e8_InvalidKnots => k_is)
    (case no_InvalidKnots => k_is)
    (case ii_InvalidKnots => k_is)
    (case il_InvalidKnots => k_is)
    (case ic_InvalidKnots => k_is)
    (case ik_InvalidKnots => k_is)
    (case it_InvalidKnots => k_is)
    (case ta_InvalidKnots => k_is)
    (case x1_InvalidDegree => first | exact rfl | kernel_rfl)
    (case x2_InvalidDegree => first | exact rfl | kernel_rfl)
    (case x3_InvalidDegree => k_is)
    (case x4_InvalidDegree => k_is)
    (case x5_InvalidDegree => k_is)
    (case x6_InvalidDegree => k_is)
    (case x7_InvalidDegree => k_is)
    (case e1_InvalidDegree => k_is)
    (case e2_InvalidDegree => k_is)
    (case e5_InvalidDegree => k_is)
    (case e8_InvalidDegree => k_is)
    (case no_InvalidDegree => k_is)
    (case ii_InvalidDegree => k_is)
    (case il_InvalidDegree => k_is)
    (case ic_InvalidDegree => k_is)
    (case ik_InvalidDegree => k_is)
    (case it_InvalidDegree => k_is)
    (case ta_InvalidDegree => k_is)
    (case oo_InvalidPlaces_NotRight => first | exact rfl | kernel_rfl)
    (case oo_InvalidPlaces_InvalidText => first | exact rfl | kernel_rfl)
    (case oo_InvalidPlaces_InvalidNumber => first | exact rfl | kernel_rfl)
    (case oo_InvalidPlaces_InvalidIndex => first | exact rfl | kernel_rfl)
    (case oo_InvalidPlaces_InvalidDegree => first | exact rfl | kernel_rfl)
    (case oo_InvalidPlaces_InvalidKnot => first | exact rfl | kernel_rfl)
    (case oo_InvalidPlaces_NotAFrame => first | exact rfl | kernel_rfl)
    (case oo_InvalidPlaces_NotACurve => first | exact rfl | kernel_rfl)
    (case oo_InvalidPlaces_InvalidKnots => first | exact rfl | kernel_rfl)
    (case oo_InvalidPlaces_InvalidAmounts => first | exact rfl | kernel_rfl)
    (case oo_InvalidPlaces_InvalidPlaces => first | exact rfl | kernel_rfl)
    (case oo_InvalidPlaces_InvalidHeights => first | exact rfl | kernel_rfl)
    (case oo_InvalidPlaces_InvalidOffers => first | exact rfl | kernel_rfl)
    (case oo_InvalidPlaces_NotKnown => first | exact rfl | kernel_rfl)
    (case oo_InvalidPlaces_NotPossible => first | exact rfl | kernel_rfl)
    (case oo_InvalidPlaces_TooMany => first | exact rfl | kernel_rfl)
    (case oo_InvalidPlaces_NotOne => first | exact rfl | kernel_rfl)
    (case oo_InvalidPlaces_Broken => first | exact rfl | kernel_rfl)
    (case oo_NotAFrame_NotRight => first | exact rfl | kernel_rfl)
    (case oo_NotAFrame_InvalidText => first | exact rfl | kernel_rfl)
    (case oo_NotAFrame_InvalidNumber => first | exact rfl | kernel_rfl)
    (case oo_NotAFrame_InvalidIndex => first | exact rfl | kernel_rfl)
    (case oo_NotAFrame_InvalidDegree => first | exact rfl | kernel_rfl)
    (case oo_NotAFrame_InvalidKnot => first | exact rfl | kernel_rfl)
    (case oo_NotAFrame_NotAFrame => first | exact rfl | kernel_rfl)
    (case oo_NotAFrame_NotACurve => first | exact rfl | kernel_rfl)
    (case oo_NotAFrame_InvalidKnots => first | exact rfl | kernel_rfl)
    (case oo_NotAFrame_InvalidAmounts => first | exact rfl | kernel_rfl)
    (case oo_NotAFrame_InvalidPlaces => first | exact rfl | kernel_rfl)
    (case oo_NotAFrame_InvalidHeights => first | exact rfl | kernel_rfl)
    (case oo_NotAFrame_InvalidOffers => first | exact rfl | kernel_rfl)
    (case oo_NotAFrame_NotKnown => first | exact rfl | kernel_rfl)
    (case oo_NotAFrame_NotPossible => first | exact rfl | kernel_rfl)
    (case oo_NotAFrame_TooMany => first | exact rfl | kernel_rfl)
    (case oo_NotAFrame_NotOne => first | exact rfl | kernel_rfl)
    (case oo_NotAFrame_Broken => first | exact rfl | kernel_rfl)
    (case oo_InvalidKnots_NotRight => first | exact rfl | kernel_rfl)
    (case oo_InvalidKnots_InvalidText => first | exact rfl | kernel_rfl)
    (case oo_InvalidKnots_InvalidNumber => first | exact rfl | kernel_rfl)
    (case oo_InvalidKnots_InvalidIndex => first | exact rfl | kernel_rfl)
    (case oo_InvalidKnots_InvalidDegree => first | exact rfl | kernel_rfl)
    (case oo_InvalidKnots_InvalidKnot => first | exact rfl | kernel_rfl)
    (case oo_InvalidKnots_NotAFrame => first | exact rfl | kernel_rfl)
    (case oo_InvalidKnots_NotACurve => first | exact rfl | kernel_rfl)
    (case oo_InvalidKnots_InvalidKnots => first | exact rfl | kernel_rfl)
    (case oo_InvalidKnots_InvalidAmounts => first | exact rfl | kernel_rfl)
    (case oo_InvalidKnots_InvalidPlaces => first | exact rfl | kernel_rfl)
    (case oo_InvalidKnots_InvalidHeights => first | exact rfl | kernel_rfl)
    (case oo_InvalidKnots_InvalidOffers => first | exact rfl | kernel_rfl)
    (case oo_InvalidKnots_NotKnown => first | exact rfl | kernel_rfl)
    (case oo_InvalidKnots_NotPossible => first | exact rfl | kernel_rfl)
    (case oo_InvalidKnots_TooMany => first | exact rfl | kernel_rfl)
    (case oo_InvalidKnots_NotOne => first | exact rfl | kernel_rfl)
    (case oo_InvalidKnots_Broken => first | exact rfl | kernel_rfl)
    (case oo_InvalidDegree_NotRight => first | exact rfl | kernel_rfl)
    (case oo_InvalidDegree_InvalidText => first | exact rfl | kernel_rfl)
    (case oo_InvalidDegree_InvalidNumber => first | exact rfl | kernel_rfl)
    (case oo_InvalidDegree_InvalidIndex => first | exact rfl | kernel_rfl)
    (case oo_InvalidDegree_InvalidDegree => first | exact rfl | kernel_rfl)
    (case oo_InvalidDegree_InvalidKnot => first | exact rfl | kernel_rfl)
    (case oo_InvalidDegree_NotAFrame => first | exact rfl | kernel_rfl)
    (case oo_InvalidDegree_NotACurve => first | exact rfl | kernel_rfl)
    (case oo_InvalidDegree_InvalidKnots => first | exact rfl | kernel_rfl)
    (case oo_InvalidDegree_InvalidAmounts => first | exact rfl | kernel_rfl)
    (case oo_InvalidDegree_InvalidPlaces => first | exact rfl | kernel_rfl)
    (case oo_InvalidDegree_InvalidHeights => first | exact rfl | kernel_rfl)
    (case oo_InvalidDegree_InvalidOffers => first | exact rfl | kernel_rfl)
    (case oo_InvalidDegree_NotKnown => first | exact rfl | kernel_rfl)
    (case oo_InvalidDegree_NotPossible => first | exact rfl | kernel_rfl)
    (case oo_InvalidDegree_TooMany => first | exact rfl | kernel_rfl)
    (case oo_InvalidDegree_NotOne => first | exact rfl | kernel_rfl)
    (case oo_InvalidDegree_Broken => first | exact rfl | kernel_rfl)
    (case oo_Frame_Frame => first | exact rfl | kernel_rfl)
    (case ob_InvalidPlaces_ValueError => first | exact rfl | kernel_rfl)
    (case ob_InvalidPlaces_LookupError => first | exact rfl | kernel_rfl)
    (case ob_InvalidPlaces_ArithmeticError => first | exact rfl | kernel_rfl)
    (case ob_NotAFrame_ValueError => first | exact rfl | kernel_rfl)
    (case ob_NotAFrame_LookupError => first | exact rfl | kernel_rfl)
    (case ob_NotAFrame_ArithmeticError => first | exact rfl | kernel_rfl)
    (case ob_InvalidKnots_ValueError => first | exact rfl | kernel_rfl)
    (case ob_InvalidKnots_LookupError => first | exact rfl | kernel_rfl)
    (case ob_InvalidKnots_ArithmeticError => first | exact rfl | kernel_rfl)
    (case ob_InvalidDegree_ValueError => first | exact rfl | kernel_rfl)
    (case ob_InvalidDegree_LookupError => first | exact rfl | kernel_rfl)
    (case ob_InvalidDegree_ArithmeticError => first | exact rfl | kernel_rfl)
    (case ob_Frame_int => first | exact rfl | kernel_rfl)
    (case ob_Frame_bool => first | exact rfl | kernel_rfl)
    (case ob_Frame_tuple => first | exact rfl | kernel_rfl)
    (case ob_Frame_str => first | exact rfl | kernel_rfl)
    (case ob_Frame_list => first | exact rfl | kernel_rfl)
    (case cc_InvalidPlaces_NotKnown => first | exact rfl | kernel_rfl)
    (case cc_InvalidPlaces_NotPossible => first | exact rfl | kernel_rfl)
    (case cc_InvalidPlaces_NotRight => first | exact rfl | kernel_rfl)
    (case cc_NotAFrame_NotKnown => first | exact rfl | kernel_rfl)
    (case cc_NotAFrame_NotPossible => first | exact rfl | kernel_rfl)
    (case cc_NotAFrame_NotRight => first | exact rfl | kernel_rfl)
    (case cc_InvalidKnots_NotKnown => first | exact rfl | kernel_rfl)
    (case cc_InvalidKnots_NotPossible => first | exact rfl | kernel_rfl)
    (case cc_InvalidKnots_NotRight => first | exact rfl | kernel_rfl)
    (case cc_InvalidDegree_NotKnown => first | exact rfl | kernel_rfl)
    (case cc_InvalidDegree_NotPossible => first | exact rfl | kernel_rfl)
    (case cc_InvalidDegree_NotRight => first | exact rfl | kernel_rfl)
    (case nd => decide)

