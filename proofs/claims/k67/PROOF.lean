import PyProof.Rows.All
import HandS.ForMost
import HandS.ForExc
import HandS.Wide
import HandS.NoneIn
import HandS.TupAny
import HandS.TupMul
import HandS.TupLe
import HandS.Style
import HandS.Zip
import HandS.Conv
import HandS.Deep
import HandS.IsInst
import HandS.ExcCtx
import HandS.ExcInit
import HandS.HotCalls
import KE.GoesMore
import KE.GoesZip
import KE.GoesEnum
import HandS.SortInts
import HandS.Text
import KE.KExcInit
import KE.KTryMore
import KE.KExcIs
import HandS.ExcIs
import HandS.ExcField
import HandS.Defaults
import PySem.Challenge.RW_bentthrough_k67_sign_changes_counted
set_option Elab.async false
set_option linter.all false
set_option maxRecDepth 100000
set_option maxHeartbeats 4000000
/-! DLa: defs whose callers run no repr (so that repr may be asked of), their calls, the law's end. -/
namespace DL
open PySem PySem.Spec L2
open PyProof.Rows hiding St

/-- room for k calls, and no repr under way -/
structure Rm (k : Nat) (A : Around) : Prop where
  room : Room k A
  quiet : A.guards = some []
theorem Rm.less {i k : Nat} {A : Around} (r : Rm k A) (h : i ≤ k) : Rm i A := ⟨r.room.mono h, r.quiet⟩
theorem quiet_deeper {A : Around} (h : A.guards = some []) (env : Env) : (A.deeper env).guards = some [] := by
  simpa [Around.deeper] using h
theorem Rm.deeper {k : Nat} {A : Around} (r : Rm (k + 1) A) (env : Env) : Rm k (A.deeper env) := ⟨r.room.deeper env, quiet_deeper r.quiet env⟩

/-- a def that keeps its promise where no repr is under way; what it raises comes by L2N.CX -/
structure FnG (P : Program) (w : World) (K : PySem.W.Frag) (mg : Str → Option Value) (base : Heap) (k : Nat) (f : Addr)
    (fd : FuncData) (ps : List Str) (sp : Sp) : Prop where
  arity : ∀ vs H Q E, sp vs H Q E → vs.length = ps.length
  go : ∀ (A : Around) (outer : List Env) (s : Shared) (H : Hp) (args : Args) (us : List Value) (vs : List V) (Q : VK) (E : XK),
    Rm k A → Env0 P w K mg base A outer s H → BindsTo s fd args (ps.zip us) → Vals vs us → sp vs H Q E →
    codeAny (model P w) A (.call (.ref f) args) (CR (L2N.CX P w) outer P w H s Q E) s

section
variable {P : Program} {w : World} {K : PySem.W.Frag} {mg : Str → Option Value} {base : Heap}
theorem FnG.less {i k : Nat} {f : Addr} {fd : FuncData} {ps : List Str} {sp : Sp} (F : FnG P w K mg base i f fd ps sp) (h : i ≤ k) :
    FnG P w K mg base k f fd ps sp :=
  ⟨F.arity, fun A outer s H args us vs Q E r => F.go A outer s H args us vs Q E (r.less h)⟩

theorem fnG_of {k : Nat} {f : Addr} {name qual : Str} {pr : Arguments} {body : List Stmt} {sc : Scope} {v1 v2 v3 v4 v5 v6 v7 : Value} {a1 a2 : Option Addr}
    {sl : Array (Option Value)} {N ps : List Str} {sp : Sp}
    (hf : K.lookup f = some ⟨v7, a2, .func (PySem.W.fnOf name qual pr body sc v1 v2 v3 v4 a1 v5 v6), sl⟩)
    (hc : PySem.W.codeIn K v5 qual = true) (S : FnScope N ps sc) (ar : ∀ vs H Q E, sp vs H Q E → vs.length = ps.length)
    (hb : ∀ (A : Around) (outer : List Env) (s : Shared) (H : Hp) (vs : List V) (Q : VK) (E : XK),
      Rm k (A.deeper (envOfC qual sc s.heap.objs.size f v5)) → sp vs H Q E →
      ∃ t, PSs (cxOf (L2N.CX P w) P w K mg base N qual sc f v5 A outer s H E) body t ∧ t { nx := fun _ H' => Q .non H', rt := Q } (start N vs) H) :
    FnG P w K mg base (k + 1) f (PySem.W.fnOf name qual pr body sc v1 v2 v3 v4 a1 v5 v6) ps sp := by
  constructor
  · exact ar
  intro A outer s H args us vs Q E rm e0 hbd hv hsp
  have hn := ar _ _ _ _ hsp
  have old : ∀ b o, base.get? b = some o → s.heap.get? b = some o := fun b o e => (e0.bs b o e).1
  have kin : K.In s.heap := e0.mod.kin.keeps old
  have nol : s.heap.NoLimit := e0.mod.nolimit.keeps old
  have kinds : ∀ y ∈ ps.zip us, sc.names.lookup y.1 = some .local ∨
      (sc.names.lookup y.1 = some .cell ∧ ((cellsFrom (s.heap.objs.size + 1) sc.names []).lookup y.1).isSome = true) := by
    rintro ⟨n, v⟩ hy
    rcases S.par n (List.of_mem_zip hy).1 with h | h
    · exact Or.inl h
    · exact Or.inr ⟨h, PySem.W.cellsFrom_some _ _ _ (Or.inl h)⟩
  refine codeAny_call_function rm.room.depth (kin _ _ hf) rfl S.co S.gen rfl (PySem.W.codeRec_of kin hc) (hbd _ _ _ _ ?_)
  refine wpAny_newFunctionEnv_cells S.kind kinds fun env ee s1 ic => ?_
  cases ee
  refine ⟨nol.keeps ic.toInCall.keep, codeAny_func ?_⟩
  obtain ⟨t, ht, hq⟩ := hb A outer s H vs Q E (rm.deeper _) hsp
  have J := inv_start (CX := L2N.CX P w) (E := E) S rm.room.hd e0 hn hv ic
  refine wpAny_mono (ht.run [] s1 (start N vs) H _ J hq) ?_ (fun _ _ h => h)
  intro fl s2 h2
  have done : ∀ {σ2 : St} {H2 : Hp} {v : V} {u : Value}, Inv (cxOf (L2N.CX P w) P w K mg base N qual sc f v5 A outer s H E) [] σ2 H2 s2 →
      RelV v u → Q v H2 → CE outer P w H s Q u s2 := fun {σ2 H2 v u} J2 rv q => ⟨v, H2, J2.os, J2.bare, J2.base, J2.hok, rv, q⟩
  match fl, h2 with
  | .ret u, ⟨v, σ2, H2, J2, rv, q⟩ => exact done J2 rv q
  | .next, ⟨σ2, H2, J2, q⟩ => exact done (v := V.non) (u := Value.none) J2 rfl q
  | .brk, ⟨_, _, _, q⟩ => exact q.elim
  | .cont, ⟨_, _, _, q⟩ => exact q.elim

/-- a def of the text, by its body -/
theorem fnG {x qual : Str} {st : Stmt} {f : Addr} {fd : FuncData} {N ps : List Str} {k : Nat} {sp : Sp} (F : Fun K x qual st f fd) (S : FnScope N ps (defScope st))
    (ar : ∀ vs H Q E, sp vs H Q E → vs.length = ps.length)
    (hb : ∀ (cd : Value) (A : Around) (outer : List Env) (s : Shared) (H : Hp) (vs : List V) (Q : VK) (E : XK),
      Rm k (A.deeper (envOfC qual (defScope st) s.heap.objs.size f cd)) → sp vs H Q E →
      ∃ t, PSs (cxOf (L2N.CX P w) P w K mg base N qual (defScope st) f cd A outer s H E) (defBody st) t ∧ t { nx := fun _ H' => Q .non H', rt := Q } (start N vs) H) :
    FnG P w K mg base (k + 1) f fd ps sp := by
  obtain ⟨oc, od, kV, doc, pm, an, cd, ct, osl, e, lk, hcd⟩ := F.ex
  cases e
  exact fnG_of lk hcd S ar fun A outer s H vs Q E => hb cd A outer s H vs Q E
end
/-- what is wanted of an exception, told by the slots -/
abbrev EE := St → XK
def EX0 : EE := fun _ _ _ _ => False
/-- what callees let out is taken -/
def Px (X : Cx) (E : EE) : Prop := ∀ (pins : List (Addr × Obj)) (σ : St) (H : Hp) (s : Shared) (e : Value) (s' : Shared), Inv X pins σ H s → L2N.CX X.prog X.w X.stack H s (E σ) e s' → X.xe e s'
theorem px_of {X : Cx} {E : EE} (tk : L2N.Takes X fun cls d σ H => E σ cls d H) : Px X E := fun _ _ _ _ e s' I c => tk e s' (L2N.XE.of_call I (fun _ _ _ h => h) c)
theorem px_0 {X : Cx} : Px X EX0 := px_of fun _ _ ⟨_, _, _, _, _, _, _, _, _, _, _, _, _, _, _, _, w⟩ => w.elim

section
variable {X : Cx} {k : Nat} {f C : Addr} {fd : FuncData} {ps : List Str} {sp : Sp} {E : EE} {x m : Str} {p pos : Pos} {e o : Expr} {es : List Expr} {t : TA}
def tCallG (sp : Sp) (E : EE) (t : TA) : TE := fun σ H Q => t σ H fun vs H1 => sp vs H1 Q (E σ)
/-- the callee runs from within X -/
theorem runG {pins : List (Addr × Obj)} {σ : St} {H : Hp} {s : Shared} {Q : VK} {us : List Value} {vs : List V} {args : Args}
    (F : FnG X.prog X.w X.K X.mg X.base k f fd ps sp) (rm : Rm k X.A) (px : Px X E)
    (I : Inv X pins σ H s) (bd : BindsTo s fd args (ps.zip us)) (r : Vals vs us) (h : sp vs H Q (E σ)) :
    codeAny (model X.prog X.w) X.A (.call (.ref f) args) (fun r s' => match r with
      | .ok (.ret u) => EP X pins σ Q u s'
      | .ok _ => False
      | .error e => X.xe e s') s := by
  refine codeAny_mono (F.go X.A X.stack s H args us vs Q (E σ) rm I.env0 bd r h) ?_
  intro r s' hr
  match r, hr with
  | .error e, hr => exact px pins σ H s e s' I hr
  | .ok (.ret u), hr => exact I.after hr
theorem wpG {pins : List (Addr × Obj)} {σ : St} {H : Hp} {s : Shared} {Q : VK} {us : List Value} {vs : List V}
    (F : FnG X.prog X.w X.K X.mg X.base k f fd ps sp) (rm : Rm k X.A) (hb : Binds X.K fd ps []) (px : Px X E)
    (I : Inv X pins σ H s) (r : Vals vs us) (h : sp vs H Q (E σ)) : wpAny (model X.prog X.w) X.A (call (.ref f) us) (EP X pins σ Q) X.xe s := by
  have hl : us.length = ps.length := r.length.symm.trans (F.arity _ _ _ _ h)
  have bd := hb s us I.kIn (by rw [List.append_nil]; exact hl)
  rw [List.append_nil] at bd
  refine wpAny_call (codeAny_mono (runG F rm px I bd r h) ?_)
  intro r s' hr
  match r, hr with
  | .error e, hr => exact hr
  | .ok (.ret u), hr => exact hr
/-- f(e, ..) -/
theorem pe_callG (F : FnG X.prog X.w X.K X.mg X.base k f fd ps sp) (rm : Rm k X.A) (hg : Gl X x) (hm : X.mg x = some (.ref f))
    (hk : PySem.W.keepIn X.K (.ref f) = true) (hb : Binds X.K fd ps []) (px : Px X E) (ha : PA X (e :: es) t)
    (hd : (x == ("__debug__" : Str)) = false := by decide)
    (h1 : starEach (e :: es) X.env = (false, eval e X.env) :: starEach es X.env := by rfl)
    (h2 : (backTo pos (starEach es X.env)).any (·.1) = false := by rfl) :
    PE X (.Call (.Name x p) (e :: es) [] pos) (tCallG sp E t) := by
  constructor
  intro pins s σ H Q I h
  refine wpAny_Call_Name_kw (ld_glob I hg hm ?_ hd)
  refine PySem.W.callWith_K (h₀ := X.base) I.ok.mod.kin hk (thn (ha.run pos pins s σ H _ I h) ?_) h1 h2
  rintro us s1 ⟨vs, H1, I1, r, q⟩
  exact ⟨I1.kIn, wpG F rm hb px I1 r q⟩
theorem pe_callG0 (F : FnG X.prog X.w X.K X.mg X.base k f fd ps sp) (rm : Rm k X.A) (hg : Gl X x) (hm : X.mg x = some (.ref f))
    (hk : PySem.W.keepIn X.K (.ref f) = true) (hb : Binds X.K fd ps []) (px : Px X E)
    (hd : (x == ("__debug__" : Str)) = false := by decide) : PE X (.Call (.Name x p) [] [] pos) (tCallG sp E tNil) := by
  constructor
  intro pins s σ H Q I h
  refine wpAny_Call_Name_kw (ld_glob I hg hm ?_ hd)
  exact PySem.W.callWith_K0 I.kIn hk (wpG (us := []) F rm hb px I .nil h)
end
end DL

/-! DLb: data D, how the heap bears it, the state between a def's slots and an environment of data, readings by mirrors. -/
namespace DL
open PySem PySem.Spec L2
open PyProof.Rows hiding St

/-- data: what a value is, whatever its address; cell: an object that changes, by its number -/
inductive D where
  | non | bl (b : Bool) | int (i : Int) | str (s : Str)
  | tup (xs : List D) | lst (xs : List D) | ro (xs : List D) | dct (ks : List Key) (xs : List D)
  | obj (c : Str) (ns : List Str) (xs : List D) | cell (n : Nat)
  | ty (n : String) | cls (c : Str)
  | exc (c : Str) (ns : List Str) (xs : List D)

abbrev Fz := Addr → Prop
def noH : Hp := fun _ => none
def TupAt (K : PySem.W.Frag) (F : Fz) (H : Hp) (a : Addr) (vs : List V) : Prop := (F a ∧ Rd H a (.tup vs)) ∨ SqT K noH a vs
def LstAt (_ : PySem.W.Frag) (F : Fz) (H : Hp) (a : Addr) (vs : List V) : Prop := F a ∧ H a = some (.lst vs)
/-- a list that is only read: the script, a list of the module -/
def RoAt (K : PySem.W.Frag) (F : Fz) (H : Hp) (a : Addr) (vs : List V) : Prop := (F a ∧ Rd H a (.lst vs)) ∨ SqL K noH a vs

mutual
def Rep (K : PySem.W.Frag) (mg : Str → Option Value) (F : Fz) (ι : List Addr) (H : Hp) : D → V → Prop
  | .non, v => v = .non
  | .bl b, v => v = .bl b
  | .int i, v => v = .int i
  | .str s, v => v = .str s
  | .tup xs, v => ∃ a vs, v = .ref a ∧ TupAt K F H a vs ∧ Reps K mg F ι H xs vs
  | .lst xs, v => ∃ a vs, v = .ref a ∧ LstAt K F H a vs ∧ Reps K mg F ι H xs vs
  | .ro xs, v => ∃ a vs, v = .ref a ∧ RoAt K F H a vs ∧ Reps K mg F ι H xs vs
  | .dct ks xs, v => ∃ a vs, v = .ref a ∧ F a ∧ Rd H a (.dK (ks.zip vs)) ∧ vs.length = ks.length ∧ Reps K mg F ι H xs vs
  | .obj c ns xs, v => ∃ a C dx vs, v = .ref a ∧ F a ∧ mg c = some (.ref C) ∧ H a = some (.ins C dx (ns.zip vs)) ∧ vs.length = ns.length ∧ Reps K mg F ι H xs vs
  | .cell n, v => ∃ a, v = .ref a ∧ ι[n]? = some a
  | .ty n, v => v = .ty n
  | .cls c, v => ∃ C, v = .ref C ∧ mg c = some (.ref C)
  | .exc c ns xs, v => ∃ a C oe u od vs, v = .ref a ∧ F a ∧ mg c = some (.ref C) ∧ H a = some (.frz oe u) ∧ L2N.Zn (.ref C) od oe ∧ (∃ fv, oe.data = .fields fv) ∧ vs.length = ns.length ∧
      ((ns = [] ∧ od = none) ∨ ∃ dd, od = some dd ∧ F dd ∧ H dd = some (.xd (ns.zip vs))) ∧ Reps K mg F ι H xs vs
def Reps (K : PySem.W.Frag) (mg : Str → Option Value) (F : Fz) (ι : List Addr) (H : Hp) : List D → List V → Prop
  | [], vs => vs = []
  | d :: ds, vs => ∃ v r, vs = v :: r ∧ Rep K mg F ι H d v ∧ Reps K mg F ι H ds r
end

/-- the heap goes on: what is frozen stays, what was tracked stays but for the cells -/
structure Ext (H : Hp) (F : Fz) (ι : List Addr) (H' : Hp) (F' : Fz) (ι' : List Addr) : Prop where
  sub : ∀ a, F a → F' a
  new : ∀ a, F' a → F a ∨ H a = none
  keep : ∀ a o, H a = some o → a ∉ ι → H' a = some o
  mono : ∀ a, H' a = none → H a = none
  pre : ι <+: ι'
  cnew : ∀ a ∈ ι', a ∈ ι ∨ H a = none
theorem Ext.refl {H : Hp} {F : Fz} {ι : List Addr} : Ext H F ι H F ι :=
  ⟨fun _ h => h, fun _ h => .inl h, fun _ _ h _ => h, fun _ h => h, List.prefix_refl _, fun _ h => .inl h⟩
theorem Ext.trans {H H1 H2 : Hp} {F F1 F2 : Fz} {ι ι1 ι2 : List Addr} (a : Ext H F ι H1 F1 ι1) (b : Ext H1 F1 ι1 H2 F2 ι2) : Ext H F ι H2 F2 ι2 where
  sub := fun x h => b.sub x (a.sub x h)
  new := fun x h => (b.new x h).elim (a.new x) fun q => .inr (a.mono x q)
  keep := fun x o h n => b.keep x o (a.keep x o h n) fun q => (a.cnew x q).elim n fun z => by rw [h] at z; cases z
  mono := fun x h => a.mono x (b.mono x h)
  pre := a.pre.trans b.pre
  cnew := fun x h => (b.cnew x h).elim (a.cnew x) fun q => .inr (a.mono x q)

inductive Cell where
  | lst (xs : List D) | ins (c : Str) (ns : List Str) (xs : List D)
def CellOk (K : PySem.W.Frag) (mg : Str → Option Value) (F : Fz) (ι : List Addr) (H : Hp) (a : Addr) : Cell → Prop
  | .lst xs => ∃ vs, H a = some (.lst vs) ∧ Reps K mg F ι H xs vs
  | .ins c ns xs => ∃ C dx vs, mg c = some (.ref C) ∧ H a = some (.ins C dx (ns.zip vs)) ∧ vs.length = ns.length ∧ Reps K mg F ι H xs vs
/-- the world: frozen things are tracked, cells are others, one by one, and hold what the store says -/
structure Wd (K : PySem.W.Frag) (mg : Str → Option Value) (F : Fz) (ι : List Addr) (H : Hp) (S : List Cell) : Prop where
  fin : ∀ a, F a → H a ≠ none
  cnf : ∀ a ∈ ι, ¬ F a
  cnd : ι.Nodup
  len : S.length = ι.length
  cells : ∀ (n : Nat) c a, S[n]? = some c → ι[n]? = some a → CellOk K mg F ι H a c

section
variable {K : PySem.W.Frag} {mg : Str → Option Value} {F F' : Fz} {ι ι' : List Addr} {H H' : Hp}
theorem TupAt.sq {a : Addr} {vs : List V} (h : TupAt K F H a vs) : SqT K H a vs := by
  rcases h with ⟨_, h⟩ | (h | h)
  · exact .inl h
  · rcases h with h | ⟨_, h⟩ <;> cases h
  · exact .inr h
theorem LstAt.sq {a : Addr} {vs : List V} (h : LstAt K F H a vs) : SqL K H a vs := .inl (.inl h.2)
theorem RoAt.sq {a : Addr} {vs : List V} (h : RoAt K F H a vs) : SqL K H a vs := by
  rcases h with ⟨_, h⟩ | (h | h)
  · exact .inl h
  · rcases h with h | ⟨_, h⟩ <;> cases h
  · exact .inr h
/-- what stays: frozen objects -/
def Stay (F : Fz) (H H' : Hp) : Prop := ∀ a o, F a → H a = some o → H' a = some o
theorem Stay.rd {a : Addr} {o : HO} (s : Stay F H H') (hf : F a) (h : Rd H a o) : Rd H' a o := by
  rcases h with h | ⟨ob, h⟩
  · exact .inl (s _ _ hf h)
  · exact .inr ⟨ob, s _ _ hf h⟩
theorem TupAt.mono {a : Addr} {vs : List V} (hs : ∀ a, F a → F' a) (s : Stay F H H') (h : TupAt K F H a vs) : TupAt K F' H' a vs := by
  rcases h with ⟨f, h⟩ | h
  · exact .inl ⟨hs _ f, s.rd f h⟩
  · exact .inr h
theorem LstAt.mono {a : Addr} {vs : List V} (hs : ∀ a, F a → F' a) (s : Stay F H H') (h : LstAt K F H a vs) : LstAt K F' H' a vs := ⟨hs _ h.1, s _ _ h.1 h.2⟩
theorem RoAt.mono {a : Addr} {vs : List V} (hs : ∀ a, F a → F' a) (s : Stay F H H') (h : RoAt K F H a vs) : RoAt K F' H' a vs := by
  rcases h with ⟨f, h⟩ | h
  · exact .inl ⟨hs _ f, s.rd f h⟩
  · exact .inr h
theorem pre_get {n : Nat} {a : Addr} (p : ι <+: ι') (h : ι[n]? = some a) : ι'[n]? = some a := by
  obtain ⟨r, rfl⟩ := p
  rw [List.getElem?_append_left (by have := (List.getElem?_eq_some_iff.mp h).1; exact this)]
  exact h
mutual
theorem rep_mono (hs : ∀ a, F a → F' a) (s : Stay F H H') (p : ι <+: ι') : ∀ (d : D) (v : V), Rep K mg F ι H d v → Rep K mg F' ι' H' d v
  | .non, _, h => h
  | .bl _, _, h => h
  | .int _, _, h => h
  | .str _, _, h => h
  | .tup xs, v, h => by
    obtain ⟨a, vs, e, t, r⟩ := h
    exact ⟨a, vs, e, t.mono hs s, reps_mono hs s p xs vs r⟩
  | .lst xs, v, h => by
    obtain ⟨a, vs, e, t, r⟩ := h
    exact ⟨a, vs, e, t.mono hs s, reps_mono hs s p xs vs r⟩
  | .ro xs, v, h => by
    obtain ⟨a, vs, e, t, r⟩ := h
    exact ⟨a, vs, e, t.mono hs s, reps_mono hs s p xs vs r⟩
  | .dct ks xs, v, h => by
    obtain ⟨a, vs, e, f, t, l, r⟩ := h
    exact ⟨a, vs, e, hs _ f, s.rd f t, l, reps_mono hs s p xs vs r⟩
  | .obj c ns xs, v, h => by
    obtain ⟨a, C, dx, vs, e, f, hm, t, l, r⟩ := h
    exact ⟨a, C, dx, vs, e, hs _ f, hm, s _ _ f t, l, reps_mono hs s p xs vs r⟩
  | .cell n, v, h => by
    obtain ⟨a, e, q⟩ := h
    exact ⟨a, e, pre_get p q⟩
  | .ty _, _, h => h
  | .cls _, _, h => h
  | .exc c ns xs, v, h => by
    obtain ⟨a, C, oe, u, od, vs, e, f, hm, t, z, fv, l, dd, r⟩ := h
    refine ⟨a, C, oe, u, od, vs, e, hs _ f, hm, s _ _ f t, z, fv, l, ?_, reps_mono hs s p xs vs r⟩
    rcases dd with dd | ⟨dd, e1, f1, h1⟩
    · exact .inl dd
    · exact .inr ⟨dd, e1, hs _ f1, s _ _ f1 h1⟩
theorem reps_mono (hs : ∀ a, F a → F' a) (s : Stay F H H') (p : ι <+: ι') : ∀ (ds : List D) (vs : List V), Reps K mg F ι H ds vs → Reps K mg F' ι' H' ds vs
  | [], _, h => h
  | d :: ds, vs, h => by
    obtain ⟨v, r, e, h1, h2⟩ := h
    exact ⟨v, r, e, rep_mono hs s p d v h1, reps_mono hs s p ds r h2⟩
end
theorem cell_mono (hs : ∀ a, F a → F' a) (s : Stay F H H') (p : ι <+: ι') {a : Addr} (ha : ∀ o, H a = some o → H' a = some o) : ∀ (c : Cell), CellOk K mg F ι H a c → CellOk K mg F' ι' H' a c
  | .lst xs, ⟨vs, h, r⟩ => ⟨vs, ha _ h, reps_mono hs s p xs vs r⟩
  | .ins c ns xs, ⟨C, dx, vs, hm, h, l, r⟩ => ⟨C, dx, vs, hm, ha _ h, l, reps_mono hs s p xs vs r⟩
theorem Reps.len : ∀ {ds : List D} {vs : List V}, Reps K mg F ι H ds vs → vs.length = ds.length
  | [], _, h => by rw [h]; rfl
  | d :: ds, vs, h => by
    obtain ⟨v, r, rfl, _, h2⟩ := h
    rw [List.length_cons, List.length_cons, Reps.len h2]
theorem Reps.get : ∀ {ds : List D} {vs : List V} {i : Nat} {d : D}, Reps K mg F ι H ds vs → ds[i]? = some d → ∃ v, vs[i]? = some v ∧ Rep K mg F ι H d v
  | [], _, i, d, _, e => by simp at e
  | d :: ds, vs, 0, d', h, e => by
    obtain ⟨v, r, rfl, h1, h2⟩ := h
    simp at e
    subst e
    exact ⟨v, rfl, h1⟩
  | d :: ds, vs, i + 1, d', h, e => by
    obtain ⟨v, r, rfl, h1, h2⟩ := h
    obtain ⟨u, h3, h4⟩ := Reps.get h2 (by simpa using e)
    exact ⟨u, by simpa using h3, h4⟩
theorem Reps.back {ds : List D} {vs : List V} {i : Nat} {v : V} (h : Reps K mg F ι H ds vs) (e : vs[i]? = some v) : ∃ d, ds[i]? = some d ∧ Rep K mg F ι H d v := by
  have hl := h.len
  have hi : i < ds.length := by have := (List.getElem?_eq_some_iff.mp e).1; omega
  obtain ⟨u, h1, h2⟩ := h.get (List.getElem?_eq_getElem hi)
  rw [e] at h1
  cases h1
  exact ⟨_, List.getElem?_eq_getElem hi, h2⟩
theorem Reps.app : ∀ {ds es : List D} {vs us : List V}, Reps K mg F ι H ds vs → Reps K mg F ι H es us → Reps K mg F ι H (ds ++ es) (vs ++ us)
  | [], _, _, _, h, g => by rw [show _ = _ from h]; exact g
  | d :: ds, es, vs, us, h, g => by
    obtain ⟨v, r, rfl, h1, h2⟩ := h
    exact ⟨v, r ++ us, rfl, h1, h2.app g⟩
theorem Reps.one {d : D} {v : V} (h : Rep K mg F ι H d v) : Reps K mg F ι H [d] [v] := ⟨v, [], rfl, h, rfl⟩
theorem Reps.cons {d : D} {v : V} {ds : List D} {vs : List V} (h : Rep K mg F ι H d v) (g : Reps K mg F ι H ds vs) : Reps K mg F ι H (d :: ds) (v :: vs) := ⟨v, vs, rfl, h, g⟩
theorem Reps.drop : ∀ {ds : List D} {vs : List V} (n : Nat), Reps K mg F ι H ds vs → Reps K mg F ι H (ds.drop n) (vs.drop n)
  | _, _, 0, h => h
  | [], _, n + 1, h => by rw [show _ = _ from h]; rfl
  | d :: ds, vs, n + 1, h => by
    obtain ⟨v, r, rfl, h1, h2⟩ := h
    exact Reps.drop n h2
theorem Reps.take : ∀ {ds : List D} {vs : List V} (n : Nat), Reps K mg F ι H ds vs → Reps K mg F ι H (ds.take n) (vs.take n)
  | _, _, 0, h => rfl
  | [], _, n + 1, h => by rw [show _ = _ from h]; rfl
  | d :: ds, vs, n + 1, h => by
    obtain ⟨v, r, rfl, h1, h2⟩ := h
    exact ⟨v, _, rfl, h1, Reps.take n h2⟩
theorem Reps.set : ∀ {ds : List D} {vs : List V} (n : Nat) {d : D} {v : V}, Reps K mg F ι H ds vs → Rep K mg F ι H d v → Reps K mg F ι H (ds.set n d) (vs.set n v)
  | [], _, _, _, _, h, _ => by rw [show _ = _ from h]; rfl
  | x :: ds, vs, 0, d, v, h, g => by
    obtain ⟨u, r, rfl, h1, h2⟩ := h
    exact ⟨v, r, rfl, g, h2⟩
  | x :: ds, vs, n + 1, d, v, h, g => by
    obtain ⟨u, r, rfl, h1, h2⟩ := h
    exact ⟨u, _, rfl, h1, Reps.set n h2 g⟩
theorem Wd.stay {S : List Cell} (w : Wd K mg F ι H S) (e : Ext H F ι H' F' ι') : Stay F H H' := fun a o f h => e.keep a o h fun z => w.cnf a z f
theorem Wd.rep {S : List Cell} {d : D} {v : V} (w : Wd K mg F ι H S) (e : Ext H F ι H' F' ι') (h : Rep K mg F ι H d v) : Rep K mg F' ι' H' d v := rep_mono e.sub (w.stay e) e.pre d v h
theorem Wd.reps {S : List Cell} {ds : List D} {vs : List V} (w : Wd K mg F ι H S) (e : Ext H F ι H' F' ι') (h : Reps K mg F ι H ds vs) : Reps K mg F' ι' H' ds vs := reps_mono e.sub (w.stay e) e.pre ds vs h
end

/-- a slot: nothing, a value, a list of one's own that no one else holds -/
inductive Sl where
  | un | val (d : D) | own (xs : List D)
/-- the entry of a def -/
structure Snap where
  H0 : Hp
  F0 : Fz
  ι0 : List Addr

structure RS (K : PySem.W.Frag) (mg : Str → Option Value) (g : Snap) (σ : St) (H : Hp) (F : Fz) (ι : List Addr) (env : List Sl) (S : List Cell) : Prop where
  wd : Wd K mg F ι H S
  ext : Ext g.H0 g.F0 g.ι0 H F ι
  len : σ.length = env.length
  slot : ∀ (i : Nat) d, env[i]? = some (.val d) → ∃ v, σ[i]? = some (some v) ∧ Rep K mg F ι H d v
  own : ∀ (i : Nat) ds, env[i]? = some (.own ds) → ∃ a vs, σ[i]? = some (some (.ref a)) ∧ H a = some (.lst vs) ∧ Reps K mg F ι H ds vs ∧ ¬ F a ∧ a ∉ ι ∧ g.H0 a = none
  apart : ∀ (i j : Nat) a di dj, env[i]? = some (.own di) → env[j]? = some (.own dj) → σ[i]? = some (some (.ref a)) → σ[j]? = some (some (.ref a)) → i = j

section
variable {K : PySem.W.Frag} {mg : Str → Option Value} {F F' : Fz} {ι ι' : List Addr} {H H' : Hp} {g : Snap} {σ : St} {env : List Sl} {S S' : List Cell}
/-- behind an expression or a call -/
theorem RS.step (r : RS K mg g σ H F ι env S) (e : Ext H F ι H' F' ι') (w : Wd K mg F' ι' H' S') : RS K mg g σ H' F' ι' env S' where
  wd := w
  ext := r.ext.trans e
  len := r.len
  slot := fun i d h => by
    obtain ⟨v, h1, h2⟩ := r.slot i d h
    exact ⟨v, h1, r.wd.rep e h2⟩
  own := fun i ds h => by
    obtain ⟨a, vs, h1, h2, h3, h4, h5, h6⟩ := r.own i ds h
    refine ⟨a, vs, h1, e.keep a _ h2 h5, r.wd.reps e h3, fun z => ?_, fun z => ?_, h6⟩
    · rcases e.new a z with z | z
      · exact h4 z
      · rw [h2] at z; cases z
    · rcases e.cnew a z with z | z
      · exact h5 z
      · rw [h2] at z; cases z
  apart := r.apart
/-- a new object, frozen -/
theorem Wd.lay {a : Addr} {o : HO} (w : Wd K mg F ι H S) (n : H a = none) : Ext H F ι (upd H a o) (fun b => F b ∨ b = a) ι ∧ Wd K mg (fun b => F b ∨ b = a) ι (upd H a o) S := by
  have e : Ext H F ι (upd H a o) (fun b => F b ∨ b = a) ι := by
    refine ⟨fun _ h => .inl h, fun b h => ?_, fun b u h _ => ?_, fun b h => ?_, List.prefix_refl _, fun _ h => .inl h⟩
    · rcases h with h | rfl
      · exact .inl h
      · exact .inr n
    · rw [upd_ne (ne_of_none h n)]
      exact h
    · by_cases hb : b = a
      · subst hb; exact n
      · rwa [upd_ne hb] at h
  refine ⟨e, ⟨fun b h => ?_, fun b hb h => ?_, w.cnd, w.len, fun i c b h1 h2 => ?_⟩⟩
  · rcases h with h | rfl
    · by_cases hb : b = a
      · subst hb; rw [upd_same]; simp
      · rw [upd_ne hb]; exact w.fin b h
    · rw [upd_same]; simp
  · rcases h with h | rfl
    · exact w.cnf b hb h
    · obtain ⟨i, hi⟩ := List.getElem?_of_mem hb
      obtain ⟨c, hc⟩ : ∃ c, S[i]? = some c := ⟨_, List.getElem?_eq_getElem (by rw [w.len]; exact (List.getElem?_eq_some_iff.mp hi).1)⟩
      have q := w.cells i c b hc hi
      cases c <;> obtain ⟨_, q⟩ := q
      · obtain ⟨q, _⟩ := q; rw [n] at q; cases q
      · obtain ⟨_, _, _, q, _⟩ := q; rw [n] at q; cases q
  · refine cell_mono e.sub (w.stay e) e.pre (fun o ho => ?_) c (w.cells i c b h1 h2)
    rw [upd_ne (ne_of_none ho n)]
    exact ho
/-- a new object, not frozen (a list of one's own, a cell to be) -/
theorem Wd.layO {a : Addr} {o : HO} (w : Wd K mg F ι H S) (n : H a = none) : Ext H F ι (upd H a o) F ι ∧ Wd K mg F ι (upd H a o) S := by
  have e : Ext H F ι (upd H a o) F ι := by
    refine ⟨fun _ h => h, fun b h => .inl h, fun b u h _ => ?_, fun b h => ?_, List.prefix_refl _, fun _ h => .inl h⟩
    · rw [upd_ne (ne_of_none h n)]
      exact h
    · by_cases hb : b = a
      · subst hb; exact n
      · rwa [upd_ne hb] at h
  refine ⟨e, ⟨fun b h => ?_, w.cnf, w.cnd, w.len, fun i c b h1 h2 => ?_⟩⟩
  · by_cases hb : b = a
    · subst hb; rw [upd_same]; simp
    · rw [upd_ne hb]; exact w.fin b h
  · refine cell_mono e.sub (w.stay e) e.pre (fun o ho => ?_) c (w.cells i c b h1 h2)
    rw [upd_ne (ne_of_none ho n)]
    exact ho
theorem Wd.cell_some {n : Nat} {a : Addr} (w : Wd K mg F ι H S) (h : ι[n]? = some a) : ∃ c, S[n]? = some c ∧ CellOk K mg F ι H a c := by
  have hl : n < S.length := by rw [w.len]; exact (List.getElem?_eq_some_iff.mp h).1
  exact ⟨_, List.getElem?_eq_getElem hl, w.cells n _ a (List.getElem?_eq_getElem hl) h⟩
theorem CellOk.some {a : Addr} {c : Cell} (h : CellOk K mg F ι H a c) : ∃ o, H a = some o := by
  cases c with
  | lst xs => obtain ⟨vs, h, _⟩ := h; exact ⟨_, h⟩
  | ins c ns xs => obtain ⟨C, dx, vs, _, h, _⟩ := h; exact ⟨_, h⟩
theorem Wd.cell_ne {a : Addr} (w : Wd K mg F ι H S) (h : a ∈ ι) : H a ≠ none := by
  obtain ⟨n, hn⟩ := List.getElem?_of_mem h
  obtain ⟨c, _, hc⟩ := w.cell_some hn
  obtain ⟨o, ho⟩ := hc.some
  rw [ho]; simp
/-- a list of one's own (unfrozen, no cell) is frozen -/
theorem Wd.freeze {a : Addr} (w : Wd K mg F ι H S) (h : H a ≠ none) (hc : a ∉ ι) : Wd K mg (fun b => F b ∨ b = a) ι H S := by
  refine ⟨fun b hb => ?_, fun b hb z => ?_, w.cnd, w.len, fun n c b h1 h2 => cell_mono (fun _ h => .inl h) (fun _ _ _ h => h) (List.prefix_refl _) (fun _ h => h) c (w.cells n c b h1 h2)⟩
  · rcases hb with hb | rfl
    · exact w.fin b hb
    · exact h
  · rcases z with z | rfl
    · exact w.cnf b hb z
    · exact hc hb
end
end DL

/-! DLc: readings by mirrors: expressions, tests, arguments, statements. -/
namespace DL
open PySem PySem.Spec L2
open PyProof.Rows hiding St

/-- what a mirror gives: a value and the store, an exception (its class's name, its fields), or nothing is told -/
inductive Rs (α : Type) where
  | ok (a : α) (S : List Cell) | ex (c : Str) (ns : List Str) (ds : List D) (S : List Cell) | bad
abbrev Ex (α : Type) := List Sl → List Cell → Rs α
def Rs.andThen {α β : Type} (r : Rs α) (h : α → List Cell → Rs β) : Rs β := match r with
  | .ok a S => h a S
  | .ex c ns ds S => .ex c ns ds S
  | .bad => .bad
@[simp] theorem andThen_ok {α β : Type} (a : α) (S : List Cell) (h : α → List Cell → Rs β) : (Rs.ok a S).andThen h = h a S := rfl
@[simp] theorem andThen_ex {α β : Type} (c ns ds S) (h : α → List Cell → Rs β) : (Rs.ex c ns ds S).andThen h = .ex c ns ds S := rfl
@[simp] theorem andThen_bad {α β : Type} (h : α → List Cell → Rs β) : (Rs.bad).andThen h = .bad := rfl
/-- a statement's way out -/
inductive Fl where
  | nx (e : List Sl) (S : List Cell) | rt (d : D) (S : List Cell) | bk (e : List Sl) (S : List Cell) | ct (e : List Sl) (S : List Cell)
  | ex (c : Str) (ns : List Str) (ds : List D) (e : List Sl) (S : List Cell) | bad
abbrev Sm := List Sl → List Cell → Fl
def Rs.go {α : Type} (r : Rs α) (env : List Sl) (h : α → List Cell → Fl) : Fl := match r with
  | .ok a S => h a S
  | .ex c ns ds S => .ex c ns ds env S
  | .bad => .bad
@[simp] theorem go_ok {α : Type} (a : α) (S : List Cell) (env : List Sl) (h : α → List Cell → Fl) : (Rs.ok a S).go env h = h a S := rfl
@[simp] theorem go_ex {α : Type} (c ns ds S env) (h : α → List Cell → Fl) : (Rs.ex c ns ds S).go env h = .ex c ns ds env S := rfl
@[simp] theorem go_bad {α : Type} (env : List Sl) (h : α → List Cell → Fl) : (Rs.bad).go env h = .bad := rfl

/-- what goes on through statements: frozen things stay, cells come -/
structure Grow (H : Hp) (F : Fz) (ι : List Addr) (H' : Hp) (F' : Fz) (ι' : List Addr) : Prop where
  sub : ∀ a, F a → F' a
  stay : Stay F H H'
  pre : ι <+: ι'
theorem Grow.refl {H : Hp} {F : Fz} {ι : List Addr} : Grow H F ι H F ι := ⟨fun _ h => h, fun _ _ _ h => h, List.prefix_refl _⟩
theorem Grow.trans {H H1 H2 : Hp} {F F1 F2 : Fz} {ι ι1 ι2 : List Addr} (a : Grow H F ι H1 F1 ι1) (b : Grow H1 F1 ι1 H2 F2 ι2) : Grow H F ι H2 F2 ι2 :=
  ⟨fun x h => b.sub x (a.sub x h), fun x o f h => b.stay x o (a.sub x f) (a.stay x o f h), a.pre.trans b.pre⟩
theorem Wd.grow {K : PySem.W.Frag} {mg : Str → Option Value} {H H' : Hp} {F F' : Fz} {ι ι' : List Addr} {S : List Cell} (w : Wd K mg F ι H S) (e : Ext H F ι H' F' ι') : Grow H F ι H' F' ι' := ⟨e.sub, w.stay e, e.pre⟩
def DictAt (K : PySem.W.Frag) (mg : Str → Option Value) (F : Fz) (ι : List Addr) (H : Hp) (d : Option Addr) (ns : List Str) (ds : List D) : Prop :=
  ∃ vs, Reps K mg F ι H ds vs ∧ vs.length = ns.length ∧ ((ns = [] ∧ d = none) ∨ ∃ dd, d = some dd ∧ F dd ∧ H dd = some (.xd (ns.zip vs)))
/-- what is wanted of an exception -/
def ExTo (K : PySem.W.Frag) (mg : Str → Option Value) (g : Snap) (E : EE) (R : Hp → Fz → List Addr → Prop) (c : Str) (ns : List Str) (ds : List D) (σ : St) (env : List Sl) (S : List Cell) : Prop :=
  ∀ C d H' F' ι', mg c = some (.ref C) → RS K mg g σ H' F' ι' env S → R H' F' ι' → DictAt K mg F' ι' H' d ns ds → E σ (.ref C) d H'

section
variable (K : PySem.W.Frag) (mg : Str → Option Value) (g : Snap) (E : EE)
def rdAt {α : Type} (σ : St) (H : Hp) (F : Fz) (ι : List Addr) (env : List Sl) (k : α → Hp → Fz → List Addr → List Cell → Prop) : Rs α → Prop
  | .ok a S' => ∀ H' F' ι', Ext H F ι H' F' ι' → RS K mg g σ H' F' ι' env S' → k a H' F' ι' S'
  | .ex c ns ds S' => ExTo K mg g E (Ext H F ι) c ns ds σ env S'
  | .bad => False
def tV (f : Ex D) : TE := fun σ H Q => ∃ F ι env S, RS K mg g σ H F ι env S ∧ rdAt K mg g E σ H F ι env (fun d H' F' ι' _ => ∀ v, Rep K mg F' ι' H' d v → Q v H') (f env S)
def tT (f : Ex Bool) : TT := fun σ H Q => ∃ F ι env S, RS K mg g σ H F ι env S ∧ rdAt K mg g E σ H F ι env (fun b H' _ _ _ => Q b H') (f env S)
def tAr (f : Ex (List D)) : TA := fun σ H Q => ∃ F ι env S, RS K mg g σ H F ι env S ∧ rdAt K mg g E σ H F ι env (fun ds H' F' ι' _ => ∀ vs, Reps K mg F' ι' H' ds vs → Q vs H') (f env S)
/-- a new list that no one else holds -/
def tO (f : Ex (List D)) : TE := fun σ H Q => ∃ F ι env S, RS K mg g σ H F ι env S ∧
  rdAt K mg g E σ H F ι env (fun ds H' F' ι' _ => ∀ a vs, H' a = some (.lst vs) → Reps K mg F' ι' H' ds vs → ¬ F' a → a ∉ ι' → H a = none → Q (.ref a) H') (f env S)
def flAt (H : Hp) (F : Fz) (ι : List Addr) (D : Ends) : Fl → Prop
  | .nx env' S' => ∀ σ' H' F' ι', RS K mg g σ' H' F' ι' env' S' → Grow H F ι H' F' ι' → D.nx σ' H'
  | .bk env' S' => ∀ σ' H' F' ι', RS K mg g σ' H' F' ι' env' S' → Grow H F ι H' F' ι' → D.bk σ' H'
  | .ct env' S' => ∀ σ' H' F' ι', RS K mg g σ' H' F' ι' env' S' → Grow H F ι H' F' ι' → D.ct σ' H'
  | .rt d S' => ∀ v H' F' ι', Ext g.H0 g.F0 g.ι0 H' F' ι' → Wd K mg F' ι' H' S' → Rep K mg F' ι' H' d v → D.rt v H'
  | .ex c ns ds env' S' => ∀ σ', ExTo K mg g E (Grow H F ι) c ns ds σ' env' S'
  | .bad => False
def tS (m : Sm) : TS := fun D σ H => ∃ F ι env S, RS K mg g σ H F ι env S ∧ flAt K mg g E H F ι D (m env S)
end

/-- an expression whose mirror is f -/
def VE (X : Cx) (E : EE) (e : Expr) (f : Ex D) : Prop := ∀ g, PE X e (tV X.K X.mg g E f)
def VT (X : Cx) (E : EE) (e : Expr) (f : Ex Bool) : Prop := ∀ g, PT X e (tT X.K X.mg g E f)
def VA (X : Cx) (E : EE) (es : List Expr) (f : Ex (List D)) : Prop := ∀ g, PA X es (tAr X.K X.mg g E f)
def VO (X : Cx) (E : EE) (e : Expr) (f : Ex (List D)) : Prop := ∀ g, PE X e (tO X.K X.mg g E f)
def VS (X : Cx) (E : EE) (st : Stmt) (m : Sm) : Prop := ∀ g, PS X st (tS X.K X.mg g E m)
def VB (X : Cx) (E : EE) (sts : List Stmt) (m : Sm) : Prop := ∀ g, PSs X sts (tS X.K X.mg g E m)

theorem _root_.L2.PE.imp {X : Cx} {e : Expr} {t t' : TE} (p : PE X e t) (h : ∀ σ H Q, t' σ H Q → t σ H Q) : PE X e t' := ⟨fun pins s σ H Q I q => p.run pins s σ H Q I (h σ H Q q)⟩
theorem _root_.L2.PT.imp {X : Cx} {e : Expr} {t t' : TT} (p : PT X e t) (h : ∀ σ H Q, t' σ H Q → t σ H Q) : PT X e t' := ⟨fun pins s σ H Q I q => p.run pins s σ H Q I (h σ H Q q)⟩
theorem _root_.L2.PA.imp {X : Cx} {e : List Expr} {t t' : TA} (p : PA X e t) (h : ∀ σ H Q, t' σ H Q → t σ H Q) : PA X e t' := ⟨fun pos pins s σ H Q I q => p.run pos pins s σ H Q I (h σ H Q q)⟩
theorem _root_.L2.PS.imp {X : Cx} {e : Stmt} {t t' : TS} (p : PS X e t) (h : ∀ D σ H, t' D σ H → t D σ H) : PS X e t' := ⟨fun pins s σ H D I q => p.run pins s σ H D I (h D σ H q)⟩
theorem _root_.L2.PSs.imp {X : Cx} {e : List Stmt} {t t' : TS} (p : PSs X e t) (h : ∀ D σ H, t' D σ H → t D σ H) : PSs X e t' := ⟨fun pins s σ H D I q => p.run pins s σ H D I (h D σ H q)⟩

section
variable {K : PySem.W.Frag} {mg : Str → Option Value} {g : Snap} {E : EE} {σ : St} {H H' : Hp} {F F' : Fz} {ι ι' : List Addr} {env : List Sl} {S S' : List Cell}
/-- one reading ahead of another one -/
theorem rd_then {α β : Type} {r : Rs α} {h : α → List Cell → Rs β} {k : β → Hp → Fz → List Addr → List Cell → Prop}
    (q : rdAt K mg g E σ H F ι env k (r.andThen h)) :
    rdAt K mg g E σ H F ι env (fun a H1 F1 ι1 S1 => Ext H F ι H1 F1 ι1 ∧ RS K mg g σ H1 F1 ι1 env S1 ∧
      rdAt K mg g E σ H1 F1 ι1 env (fun b H2 F2 ι2 S2 => Ext H1 F1 ι1 H2 F2 ι2 ∧ RS K mg g σ H2 F2 ι2 env S2 ∧ k b H2 F2 ι2 S2) (h a S1)) r := by
  cases r with
  | bad => exact q
  | ex c ns ds S1 => exact q
  | ok a S1 =>
    intro H1 F1 ι1 e1 r1
    refine ⟨e1, r1, ?_⟩
    show rdAt K mg g E σ H1 F1 ι1 env _ (h a S1)
    have q : rdAt K mg g E σ H F ι env k (h a S1) := q
    revert q
    cases h a S1 with
    | bad => exact id
    | ex c ns ds S2 => exact fun q C d H' F' ι' hc w' r' hd => q C d H' F' ι' hc w' (e1.trans r') hd
    | ok b S2 => exact fun q H2 F2 ι2 e2 r2 => ⟨e2, r2, q H2 F2 ι2 (e1.trans e2) r2⟩
theorem rd_mono {α : Type} {r : Rs α} {k k' : α → Hp → Fz → List Addr → List Cell → Prop} (q : rdAt K mg g E σ H F ι env k r)
    (h : ∀ a H1 F1 ι1 S1, r = .ok a S1 → Ext H F ι H1 F1 ι1 → RS K mg g σ H1 F1 ι1 env S1 → k a H1 F1 ι1 S1 → k' a H1 F1 ι1 S1) : rdAt K mg g E σ H F ι env k' r := by
  cases r with
  | bad => exact q
  | ex c ns ds S1 => exact q
  | ok a S1 => exact fun H1 F1 ι1 e1 r1 => h a H1 F1 ι1 S1 rfl e1 r1 (q H1 F1 ι1 e1 r1)
/-- a reading ahead of a statement's end -/
theorem fl_grow {D : Ends} (w : Grow H F ι H' F' ι') : ∀ {fl : Fl}, flAt K mg g E H F ι D fl → flAt K mg g E H' F' ι' D fl
  | .nx _ _, q => fun σ2 H2 F2 ι2 r e => q σ2 H2 F2 ι2 r (w.trans e)
  | .bk _ _, q => fun σ2 H2 F2 ι2 r e => q σ2 H2 F2 ι2 r (w.trans e)
  | .ct _ _, q => fun σ2 H2 F2 ι2 r e => q σ2 H2 F2 ι2 r (w.trans e)
  | .rt _ _, q => q
  | .ex _ _ _ _ _, q => fun σ' C d H' F' ι' hc w' r' hd => q σ' C d H' F' ι' hc w' (w.trans r') hd
  | .bad, q => q
theorem rd_go {α : Type} {r : Rs α} {h : α → List Cell → Fl} {D : Ends} (w : Wd K mg F ι H S) (q : flAt K mg g E H F ι D (r.go env h)) :
    rdAt K mg g E σ H F ι env (fun a H1 F1 ι1 S1 => Ext H F ι H1 F1 ι1 ∧ RS K mg g σ H1 F1 ι1 env S1 ∧ flAt K mg g E H1 F1 ι1 D (h a S1)) r := by
  cases r with
  | bad => exact q
  | ex c ns ds S1 => exact fun C d H' F' ι' hc w' r' hd => q σ C d H' F' ι' hc w' (w.grow r') hd
  | ok a S1 => exact fun H1 F1 ι1 e1 r1 => ⟨e1, r1, fl_grow (w.grow e1) q⟩
/-- the end of an operation that leaves a value, the store as it was -/
def Told (K : PySem.W.Frag) (mg : Str → Option Value) (H : Hp) (F : Fz) (ι : List Addr) (S : List Cell) (d : D) (Q : VK) : Prop :=
  ∀ v H' F' ι', Ext H F ι H' F' ι' → Wd K mg F' ι' H' S → Rep K mg F' ι' H' d v → Q v H'
/-- .. that leaves a new list of one's own -/
def ToldO (K : PySem.W.Frag) (mg : Str → Option Value) (H : Hp) (F : Fz) (ι : List Addr) (S : List Cell) (ds : List D) (Q : VK) : Prop :=
  ∀ a vs H', Ext H F ι H' F ι → Wd K mg F ι H' S → H' a = some (.lst vs) → Reps K mg F ι H' ds vs → ¬ F a → a ∉ ι → H a = none → Q (.ref a) H'
theorem Told.here {d : D} {v : V} {Q : VK} (t : Told K mg H F ι S d Q) (w : Wd K mg F ι H S) (r : Rep K mg F ι H d v) : Q v H := t v H F ι Ext.refl w r
theorem fz_of_new {a : Addr} {H : Hp} {F : Fz} {ι : List Addr} (e : Ext H F ι H' F' ι') (h : ¬ F' a) : ¬ F a := fun z => h (e.sub a z)
theorem Told.own {ds : List D} {Q : VK} (t : Told K mg H F ι S (.lst ds) Q) : ToldO K mg H F ι S ds Q := by
  intro a vs H' e w h r nf nc n
  refine t (.ref a) H' (fun b => F b ∨ b = a) ι ⟨fun b hb => .inl hb, fun b hb => ?_, e.keep, e.mono, List.prefix_refl _, fun b hb => .inl hb⟩ (w.freeze (by rw [h]; simp) nc) ?_
  · rcases hb with hb | rfl
    · exact .inl hb
    · exact .inr n
  · exact ⟨a, vs, rfl, ⟨.inr rfl, h⟩, reps_mono (fun _ h => .inl h) (fun _ _ _ h => h) (List.prefix_refl _) ds vs r⟩
/-- a new list -/
theorem ToldO.lay {ds : List D} {vs : List V} {Q : VK} {p : Addr} (t : ToldO K mg H F ι S ds Q) (w : Wd K mg F ι H S) (r : Reps K mg F ι H ds vs) (n : H p = none) : Q (.ref p) (upd H p (.lst vs)) := by
  obtain ⟨e, w'⟩ := w.layO (o := .lst vs) n
  exact t p vs _ e w' upd_same (w.reps e r) (fun z => w.fin p z n) (fun z => w.cell_ne z n) n
/-- a new tuple -/
theorem Told.layT {ds : List D} {vs : List V} {Q : VK} {p : Addr} (t : Told K mg H F ι S (.tup ds) Q) (w : Wd K mg F ι H S) (r : Reps K mg F ι H ds vs) (n : H p = none) : Q (.ref p) (upd H p (.tup vs)) := by
  obtain ⟨e, w'⟩ := w.lay (o := .tup vs) n
  exact t (.ref p) _ _ _ e w' ⟨p, vs, rfl, .inl ⟨.inr rfl, .inl upd_same⟩, w.reps e r⟩
end

section
variable {X : Cx} {E : EE} {a b c e o : Expr} {es : List Expr} {f h k : Ex D} {p q : Ex Bool} {fa : Ex (List D)} {pos : Pos}
/-! ### names and constants -/
def mVar (i : Nat) : Ex D := fun env S => match env[i]? with
  | some (.val d) => .ok d S
  | _ => .bad
theorem v_of_pe {i : Nat} (h : PE X e (tVar i)) : VE X E e (mVar i) := fun g => h.imp fun σ H Q ⟨F, ι, env, S, r, q⟩ => by
  unfold mVar at q
  split at q
  · rename_i d hd
    obtain ⟨v, h1, h2⟩ := r.slot i d hd
    exact ⟨v, h1, q H F ι Ext.refl r v h2⟩
  · exact q.elim
theorem v_var (i : Nat) {x : Str} {pos : Pos} (hN : X.N[i]? = some x := by rfl) (hv : Vis X.env.scope x := by first | exact Or.inl rfl | exact Or.inr (Or.inl rfl) | exact Or.inr (Or.inr rfl))
    (hd : (x == ("__debug__" : Str)) = false := by decide) (hcd : (x == ("__classdict__" : Str)) = false := by decide) : VE X E (.Name x pos) (mVar i) := v_of_pe (pe_var hN hv hd hcd)
def mC (d : D) : Ex D := fun _ S => .ok d S
theorem v_const {d : D} {v : V} (h : PE X e (tC v)) (r : ∀ F ι H, Rep X.K X.mg F ι H d v) : VE X E e (mC d) := fun g => h.imp fun σ H Q ⟨F, ι, env, S, w, q⟩ => q H F ι Ext.refl w v (r F ι H)
theorem v_int {i j pos} : VE X E (.Constant (.int i) j pos) (mC (.int i)) := v_const pe_int fun _ _ _ => rfl
theorem v_bl {i j pos} : VE X E (.Constant (.bool i) j pos) (mC (.bl i)) := v_const pe_bl fun _ _ _ => rfl
theorem v_non {j pos} : VE X E (.Constant .none j pos) (mC .non) := v_const pe_non fun _ _ _ => rfl
theorem v_str {x j pos} : VE X E (.Constant (.str x) j pos) (mC (.str x)) := v_const pe_str fun _ _ _ => rfl
/-- a module's constant -/
theorem v_glob {x : Str} {d : D} {v : V} {u : Value} (hg : Gl X x) (hm : X.mg x = some u) (r : RelV v u) (hr : ∀ F ι H, Rep X.K X.mg F ι H d v) (hd : (x == ("__debug__" : Str)) = false := by decide) :
    VE X E (.Name x pos) (mC d) := v_const (pe_glob hg hm r hd) hr

/-! ### operators on values -/
abbrev Op1 := D → List Cell → Option D
abbrev Op2 := D → D → List Cell → Option D
abbrev OpN := List D → List Cell → Option D
def ofO (o : Option D) (S : List Cell) : Rs D := match o with
  | some d => .ok d S
  | none => .bad
@[simp] theorem ofO_some (d : D) (S : List Cell) : ofO (some d) S = .ok d S := rfl
@[simp] theorem ofO_none (S : List Cell) : ofO none S = .bad := rfl
def Ok2 (K : PySem.W.Frag) (mg : Str → Option Value) (r : R2) (op : Op2) : Prop :=
  ∀ H F ι S x y d v u Q, Wd K mg F ι H S → Rep K mg F ι H x v → Rep K mg F ι H y u → op x y S = some d → Told K mg H F ι S d Q → r v u H Q
def Ok1 (K : PySem.W.Frag) (mg : Str → Option Value) (r : V → Hp → VK → Prop) (op : Op1) : Prop :=
  ∀ H F ι S x d v Q, Wd K mg F ι H S → Rep K mg F ι H x v → op x S = some d → Told K mg H F ι S d Q → r v H Q
def OkN (K : PySem.W.Frag) (mg : Str → Option Value) (r : List V → Hp → VK → Prop) (op : OpN) : Prop :=
  ∀ H F ι S xs d vs Q, Wd K mg F ι H S → Reps K mg F ι H xs vs → op xs S = some d → Told K mg H F ι S d Q → r vs H Q
def mOp (op : Op2) (f h : Ex D) : Ex D := fun env S => (f env S).andThen fun x S1 => (h env S1).andThen fun y S2 => ofO (op x y S2) S2
def mUn (op : Op1) (f : Ex D) : Ex D := fun env S => (f env S).andThen fun x S1 => ofO (op x S1) S1
theorem told_of {g : Snap} {σ : St} {H : Hp} {F : Fz} {ι : List Addr} {env : List Sl} {S : List Cell} {d : D} {Q : VK} (r : RS X.K X.mg g σ H F ι env S)
    (q : rdAt X.K X.mg g E σ H F ι env (fun d H' F' ι' _ => ∀ v, Rep X.K X.mg F' ι' H' d v → Q v H') (.ok d S)) : Told X.K X.mg H F ι S d Q :=
  fun v H' F' ι' e w hv => q H' F' ι' e (r.step e w) v hv
theorem op2_imp {g : Snap} {r : R2} {op : Op2} (ok : Ok2 X.K X.mg r op) : ∀ σ H Q, tV X.K X.mg g E (mOp op f h) σ H Q → tOp r (tV X.K X.mg g E f) (tV X.K X.mg g E h) σ H Q := by
  rintro σ H Q ⟨F, ι, env, S, w, q⟩
  refine ⟨F, ι, env, S, w, rd_mono (rd_then q) ?_⟩
  rintro x H1 F1 ι1 S1 - e1 w1 ⟨_, _, q1⟩ v hv
  refine ⟨F1, ι1, env, S1, w1, rd_mono (rd_then q1) ?_⟩
  rintro y H2 F2 ι2 S2 - e2 w2 ⟨_, _, q2⟩ u hu
  cases ho : op x y S2 with
  | none => rw [ho] at q2; exact q2.elim
  | some d =>
    rw [ho] at q2
    refine ok H2 F2 ι2 S2 x y d v u Q w2.wd (w1.wd.rep e2 hv) hu ho fun v' H' F' ι' e' w' hv' => ?_
    exact (q2 H' F' ι' e' (w2.step e' w')).2.2.2.2 v' hv'
theorem v_op {o : Operator} {r : R2} {op : Op2} (ho : OpR X (binaryOp o) r) (ok : Ok2 X.K X.mg r op) (ha : VE X E a f) (hb : VE X E b h) : VE X E (.BinOp a o b pos) (mOp op f h) :=
  fun g => (pe_op ho (ha g) (hb g)).imp (op2_imp ok)
theorem v_cmp {o : CmpOp} {r : R2} {op : Op2} (ho : OpR X (compareOp o) r) (ok : Ok2 X.K X.mg r op) (ha : VE X E a f) (hb : VE X E b h) (hm : behindInMarks o b = false) :
    VE X E (.Compare a [o] [b] pos) (mOp op f h) := fun g => (pe_cmpR ho (ha g) (hb g) hm).imp (op2_imp ok)
theorem v_un {o : UnaryOp} {r : V → Hp → VK → Prop} {op : Op1} (ho : UnR X (unaryOp o) r) (ok : Ok1 X.K X.mg r op) (ha : VE X E a f) : VE X E (.UnaryOp o a pos) (mUn op f) := fun g =>
  (pe_un ho (ha g)).imp fun σ H Q ⟨F, ι, env, S, w, q⟩ => ⟨F, ι, env, S, w, rd_mono (rd_then q) fun x H1 F1 ι1 S1 _ e1 w1 ⟨_, _, q1⟩ v hv => by
    cases ho : op x S1 with
    | none => rw [ho] at q1; exact q1.elim
    | some d =>
      rw [ho] at q1
      exact ok H1 F1 ι1 S1 x d v Q w1.wd hv ho fun v' H' F' ι' e' w' hv' => (q1 H' F' ι' e' (w1.step e' w')).2.2 v' hv'⟩
/-- a subscript -/
theorem v_ix {r : R2} {op : Op2} (hi : IxR X r) (ok : Ok2 X.K X.mg r op) (ha : VE X E a f) (hb : VE X E b h) (hs : PlainIxT b) : VE X E (.Subscript a b pos) (mOp op f h) :=
  fun g => (pe_ix hi (ha g) (hb g) hs).imp (op2_imp ok)

/-! ### arguments, displays, calls of built-ins -/
def mNil : Ex (List D) := fun _ S => .ok [] S
def mCons (f : Ex D) (r : Ex (List D)) : Ex (List D) := fun env S => (f env S).andThen fun x S1 => (r env S1).andThen fun xs S2 => .ok (x :: xs) S2
theorem a_nil : VA X E [] mNil := fun g => pa_nil.imp fun σ H Q ⟨F, ι, env, S, w, q⟩ => q H F ι Ext.refl w [] rfl
theorem a_cons (he : VE X E e f) (hr : VA X E es fa) (hs : starEach (e :: es) X.env = (false, eval e X.env) :: starEach es X.env := by rfl) : VA X E (e :: es) (mCons f fa) := fun g =>
  (pa_cons (he g) (hr g) hs).imp fun σ H Q ⟨F, ι, env, S, w, q⟩ => ⟨F, ι, env, S, w, rd_mono (rd_then q) fun x H1 F1 ι1 S1 _ e1 w1 ⟨_, _, q1⟩ v hv =>
    ⟨F1, ι1, env, S1, w1, rd_mono (rd_then q1) fun xs H2 F2 ι2 S2 _ e2 w2 ⟨_, _, q2⟩ vs hvs => (q2 H2 F2 ι2 Ext.refl w2).2.2.2.2 (v :: vs) ⟨v, vs, rfl, w1.wd.rep e2 hv, hvs⟩⟩⟩
def mTup (f : Ex (List D)) : Ex D := fun env S => (f env S).andThen fun xs S1 => if xs.length ≤ 100000 then .ok (.tup xs) S1 else .bad
theorem v_tup {x1} (ha : VA X E es fa) : VE X E (.Tuple es x1 pos) (mTup fa) := fun g => (pe_tup (ha g)).imp fun σ H Q ⟨F, ι, env, S, w, q⟩ =>
  ⟨F, ι, env, S, w, rd_mono (rd_then q) fun xs H1 F1 ι1 S1 _ e1 w1 ⟨_, _, q1⟩ vs hvs => by
    by_cases hl : xs.length ≤ 100000
    · rw [if_pos hl] at q1
      refine ⟨Nat.le_trans (by rw [hvs.len]; exact hl) (by decide), fun p hp => ?_⟩
      exact Told.layT (fun v' H' F' ι' e' w' hv' => (q1 H' F' ι' e' (w1.step e' w')).2.2 v' hv') w1.wd hvs hp
    · rw [if_neg hl] at q1
      exact q1.elim⟩
def mLst (f : Ex (List D)) : Ex (List D) := fun env S => (f env S).andThen fun xs S1 => if xs.length ≤ 100000 then .ok xs S1 else .bad
theorem o_lst (ha : VA X E es fa) : VO X E (.List es pos) (mLst fa) := fun g => (pe_lst (ha g)).imp fun σ H Q ⟨F, ι, env, S, w, q⟩ =>
  ⟨F, ι, env, S, w, rd_mono (rd_then q) fun xs H1 F1 ι1 S1 _ e1 w1 ⟨_, _, q1⟩ vs hvs => by
    by_cases hl : xs.length ≤ 100000
    · rw [if_pos hl] at q1
      refine ⟨Nat.le_trans (by rw [hvs.len]; exact hl) (by decide), fun p hp => ?_⟩
      obtain ⟨e', w'⟩ := w1.wd.layO (o := .lst vs) hp
      exact (q1 _ _ _ e' (w1.step e' w')).2.2 p vs upd_same (w1.wd.reps e' hvs) (fun z => w1.wd.fin p z hp) (fun z => w1.wd.cell_ne z hp) (e1.mono p hp)
    · rw [if_neg hl] at q1
      exact q1.elim⟩
/-- a new list as a value -/
def mFr (f : Ex (List D)) : Ex D := fun env S => (f env S).andThen fun xs S1 => .ok (.lst xs) S1
theorem v_fr (h : VO X E e fa) : VE X E e (mFr fa) := fun g => (h g).imp fun σ H Q ⟨F, ι, env, S, w, q⟩ => ⟨F, ι, env, S, w, by
  unfold mFr at q
  cases hf : fa env S with
  | bad => rw [hf] at q; exact q
  | ex c ns ds S1 => rw [hf] at q; exact q
  | ok xs S1 =>
    rw [hf] at q
    intro H1 F1 ι1 e1 w1 a vs h1 r nf nc n
    have w2 := w1.wd.freeze (a := a) (by rw [h1]; simp) nc
    have e2 : Ext H F ι H1 (fun b => F1 b ∨ b = a) ι1 := ⟨fun b hb => .inl (e1.sub b hb), fun b hb => by
      rcases hb with hb | rfl
      · exact e1.new b hb
      · exact .inr n, e1.keep, e1.mono, e1.pre, e1.cnew⟩
    exact q H1 (fun b => F1 b ∨ b = a) ι1 e2 (w.step e2 w2) (.ref a) ⟨a, vs, rfl, ⟨.inr rfl, h1⟩, reps_mono (fun _ h => .inl h) (fun _ _ _ h => h) (List.prefix_refl _) xs vs r⟩⟩
end
end DL

/-! DLd: tests, calls, statements, loops, comprehensions, a def's promise by its mirror. -/
namespace DL
open PySem PySem.Spec L2
open PyProof.Rows hiding St

section
variable {X : Cx} {E : EE} {a b c e o : Expr} {es rest : List Expr} {f h k : Ex D} {p q : Ex Bool} {fa : Ex (List D)} {pos : Pos}
/-! ### tests -/
def asB : D → List Cell → Rs Bool
  | .bl b, S => .ok b S
  | _, _ => .bad
@[simp] theorem asB_bl (b : Bool) (S : List Cell) : asB (.bl b) S = .ok b S := rfl
def mB (f : Ex D) : Ex Bool := fun env S => (f env S).andThen asB
theorem tB_imp {g : Snap} : ∀ σ H Q, tT X.K X.mg g E (mB f) σ H Q → tV X.K X.mg g E f σ H fun x H1 => ∃ c, x = .bl c ∧ Q c H1 := by
  rintro σ H Q ⟨F, ι, env, S, w, q⟩
  refine ⟨F, ι, env, S, w, rd_mono (rd_then q) ?_⟩
  rintro d H1 F1 ι1 S1 - e1 w1 ⟨_, _, q1⟩ v hv
  cases d with
  | bl b => exact ⟨b, hv, (q1 H1 F1 ι1 Ext.refl w1).2.2⟩
  | _ => exact q1.elim
theorem t_val (he : VE X E e f) (h1 : ∀ whole, isTrue e X.env whole = (do let v ← whole; standAt e.pos; holding [v] (truthy v)) := by intro _; rfl) : VT X E e (mB f) :=
  fun g => (pt_val (he g) h1).imp tB_imp
theorem t_cmp {o : CmpOp} {r : R2} {op : Op2} (ho : OpR X (compareOp o) r) (ok : Ok2 X.K X.mg r op) (ha : VE X E a f) (hb : VE X E b h) (hm : behindInMarks o b = false) :
    VT X E (.Compare a [o] [b] pos) (mB (mOp op f h)) := fun g => (pt_cmpR ho (ha g) (hb g) hm).imp fun σ H Q q => op2_imp ok σ H _ (tV_imp_of q) where
  tV_imp_of {g : Snap} {σ : St} {H : Hp} {Q : Bool → Hp → Prop} {f : Ex D} (q : tT X.K X.mg g E (mB f) σ H Q) : tV X.K X.mg g E f σ H fun x H1 => ∃ c, x = .bl c ∧ Q c H1 := tB_imp σ H Q q
def mNot (p : Ex Bool) : Ex Bool := fun env S => (p env S).andThen fun b S1 => .ok (!b) S1
theorem t_not (hp : VT X E a p) : VT X E (.UnaryOp .Not a pos) (mNot p) := fun g => (pt_not (hp g)).imp fun σ H Q ⟨F, ι, env, S, w, q⟩ =>
  ⟨F, ι, env, S, w, rd_mono (rd_then q) fun b H1 F1 ι1 S1 _ e1 w1 ⟨_, _, q1⟩ => (q1 H1 F1 ι1 Ext.refl w1).2.2⟩
def VW (X : Cx) (E : EE) (e : Expr) (p : Ex Bool) : Prop := ∀ g, PW X e (tT X.K X.mg g E p)
theorem _root_.L2.PW.imp {X : Cx} {e : Expr} {t t' : TT} (p : PW X e t) (h : ∀ σ H Q, t' σ H Q → t σ H Q) : PW X e t' := ⟨fun whole pins s σ H Q I q => p.run whole pins s σ H Q I (h σ H Q q)⟩
def mAnd (p q : Ex Bool) : Ex Bool := fun env S => (p env S).andThen fun b S1 => if b = true then q env S1 else .ok false S1
def mOr (p q : Ex Bool) : Ex Bool := fun env S => (p env S).andThen fun b S1 => if b = true then .ok true S1 else q env S1
theorem w_and1 (hp : VT X E a p) : VW X E (.BoolOp .And [a] pos) p := fun g => pw_and1 (hp g)
theorem w_or1 (hp : VT X E a p) : VW X E (.BoolOp .Or [a] pos) p := fun g => pw_or1 (hp g)
theorem w_and (hp : VT X E a p) (hq : VW X E (.BoolOp .And (b :: rest) pos) q) : VW X E (.BoolOp .And (a :: b :: rest) pos) (mAnd p q) := fun g => (pw_and (hp g) (hq g)).imp fun σ H Q ⟨F, ι, env, S, w, q⟩ =>
  ⟨F, ι, env, S, w, rd_mono (rd_then q) fun b H1 F1 ι1 S1 _ e1 w1 ⟨_, _, q1⟩ => by
    cases b with
    | true => exact ⟨F1, ι1, env, S1, w1, rd_mono q1 fun _ _ _ _ _ _ _ _ z => z.2.2⟩
    | false => exact (q1 H1 F1 ι1 Ext.refl w1).2.2⟩
theorem w_or (hp : VT X E a p) (hq : VW X E (.BoolOp .Or (b :: rest) pos) q) : VW X E (.BoolOp .Or (a :: b :: rest) pos) (mOr p q) := fun g => (pw_or (hp g) (hq g)).imp fun σ H Q ⟨F, ι, env, S, w, q⟩ =>
  ⟨F, ι, env, S, w, rd_mono (rd_then q) fun b H1 F1 ι1 S1 _ e1 w1 ⟨_, _, q1⟩ => by
    cases b with
    | false => exact ⟨F1, ι1, env, S1, w1, rd_mono q1 fun _ _ _ _ _ _ _ _ z => z.2.2⟩
    | true => exact (q1 H1 F1 ι1 Ext.refl w1).2.2⟩
theorem t_w (hp : VW X E e p) : VT X E e p := fun g => (hp g).pt
/-! the same as values -/
def mBD (p : Ex Bool) : Ex D := fun env S => (p env S).andThen fun b S1 => .ok (.bl b) S1
def mAndV (f h : Ex D) : Ex D := fun env S => (mB f env S).andThen fun b S1 => if b = true then h env S1 else .ok (.bl false) S1
def mOrV (f h : Ex D) : Ex D := fun env S => (mB f env S).andThen fun b S1 => if b = true then .ok (.bl true) S1 else h env S1
def mNotV (f : Ex D) : Ex D := fun env S => (mB f env S).andThen fun b S1 => .ok (.bl (!b)) S1
theorem rd_B {g : Snap} {σ : St} {H : Hp} {F : Fz} {ι : List Addr} {env : List Sl} {k : Bool → Hp → Fz → List Addr → List Cell → Prop} {r : Rs D}
    (q : rdAt X.K X.mg g E σ H F ι env k (r.andThen asB)) : rdAt X.K X.mg g E σ H F ι env (fun d H1 F1 ι1 S1 => ∃ b, d = .bl b ∧ k b H1 F1 ι1 S1) r := by
  refine rd_mono (rd_then q) ?_
  rintro d H1 F1 ι1 S1 - e1 w1 ⟨_, _, q1⟩
  cases d with
  | bl b => exact ⟨b, rfl, (q1 H1 F1 ι1 Ext.refl w1).2.2⟩
  | _ => exact q1.elim
theorem v_one (ha : VE X E a f) (hp : ∀ t, PE X a t → PE X e t) : VE X E e f := fun g => hp _ (ha g)
theorem v_and (ha : VE X E a f) (hb : VE X E (.BoolOp .And (b :: rest) pos) h) : VE X E (.BoolOp .And (a :: b :: rest) pos) (mAndV f h) := fun g => (pe_and (ha g) (hb g)).imp fun σ H Q ⟨F, ι, env, S, w, q⟩ =>
  ⟨F, ι, env, S, w, rd_mono (rd_B (rd_then q)) fun d H1 F1 ι1 S1 _ e1 w1 ⟨b, hd, _, _, q1⟩ v hv => by
    subst hd
    refine ⟨b, hv, ?_⟩
    cases b with
    | true => exact ⟨F1, ι1, env, S1, w1, rd_mono q1 fun _ _ _ _ _ _ _ _ z => z.2.2⟩
    | false => exact (q1 H1 F1 ι1 Ext.refl w1).2.2 _ rfl⟩
theorem v_or (ha : VE X E a f) (hb : VE X E (.BoolOp .Or (b :: rest) pos) h) : VE X E (.BoolOp .Or (a :: b :: rest) pos) (mOrV f h) := fun g => (pe_or (ha g) (hb g)).imp fun σ H Q ⟨F, ι, env, S, w, q⟩ =>
  ⟨F, ι, env, S, w, rd_mono (rd_B (rd_then q)) fun d H1 F1 ι1 S1 _ e1 w1 ⟨b, hd, _, _, q1⟩ v hv => by
    subst hd
    refine ⟨b, hv, ?_⟩
    cases b with
    | false => exact ⟨F1, ι1, env, S1, w1, rd_mono q1 fun _ _ _ _ _ _ _ _ z => z.2.2⟩
    | true => exact (q1 H1 F1 ι1 Ext.refl w1).2.2 _ rfl⟩
theorem v_and1 (ha : VE X E a f) : VE X E (.BoolOp .And [a] pos) f := fun g => pe_one (ha g)
theorem v_or1 (ha : VE X E a f) : VE X E (.BoolOp .Or [a] pos) f := fun g => pe_one (ha g)
theorem v_not (ha : VE X E a f) : VE X E (.UnaryOp .Not a pos) (mNotV f) := fun g => (pe_not (ha g)).imp fun σ H Q ⟨F, ι, env, S, w, q⟩ =>
  ⟨F, ι, env, S, w, rd_mono (rd_B (rd_then q)) fun d H1 F1 ι1 S1 _ e1 w1 ⟨b, hd, _, _, q1⟩ v hv => by
    subst hd
    exact ⟨b, hv, (q1 H1 F1 ι1 Ext.refl w1).2.2 _ rfl⟩⟩
def mIf (p : Ex Bool) (f h : Ex D) : Ex D := fun env S => (p env S).andThen fun b S1 => if b = true then f env S1 else h env S1
theorem v_if (hp : VT X E c p) (ha : VE X E a f) (hb : VE X E b h) : VE X E (.IfExp c a b pos) (mIf p f h) := fun g => (pe_ifExp (hp g) (ha g) (hb g)).imp fun σ H Q ⟨F, ι, env, S, w, q⟩ =>
  ⟨F, ι, env, S, w, rd_mono (rd_then q) fun b H1 F1 ι1 S1 _ e1 w1 ⟨_, _, q1⟩ => by
    cases b with
    | true => exact ⟨F1, ι1, env, S1, w1, rd_mono q1 fun _ _ _ _ _ _ _ _ z => z.2.2⟩
    | false => exact ⟨F1, ι1, env, S1, w1, rd_mono q1 fun _ _ _ _ _ _ _ _ z => z.2.2⟩⟩
/-- a op b op' c -/
def mChain (op op' : Op2) (f h k : Ex D) : Ex D := fun env S => (f env S).andThen fun x S1 => (h env S1).andThen fun y S2 => ((ofO (op x y S2) S2).andThen asB).andThen fun b S3 =>
  if b = true then (k env S3).andThen fun z S4 => ofO (op' y z S4) S4 else .ok (.bl false) S3
theorem chain_imp {g : Snap} {r r' : R2} {op op' : Op2} (ok : Ok2 X.K X.mg r op) (ok' : Ok2 X.K X.mg r' op') :
    ∀ σ H Q, tV X.K X.mg g E (mChain op op' f h k) σ H Q → tChain r r' (tV X.K X.mg g E f) (tV X.K X.mg g E h) (tV X.K X.mg g E k) σ H Q := by
  rintro σ H Q ⟨F, ι, env, S, w, q⟩
  refine ⟨F, ι, env, S, w, rd_mono (rd_then q) ?_⟩
  rintro x H1 F1 ι1 S1 - e1 w1 ⟨_, _, q1⟩ v hv
  refine ⟨F1, ι1, env, S1, w1, rd_mono (rd_then q1) ?_⟩
  rintro y H2 F2 ι2 S2 - e2 w2 ⟨_, _, q2⟩ u hu
  cases ho : op x y S2 with
  | none => rw [ho] at q2; exact q2.elim
  | some d =>
    rw [ho] at q2
    refine ok H2 F2 ι2 S2 x y d v u _ w2.wd (w1.wd.rep e2 hv) hu ho fun v' H3 F3 ι3 e3 w3 hv' => ?_
    have w3' := w2.step e3 w3
    have q3 := rd_B (rd_then q2) H3 F3 ι3 e3 w3'
    obtain ⟨b, rfl, _, _, q3⟩ := q3
    refine ⟨b, hv', ?_⟩
    cases b with
    | false => exact (q3 H3 F3 ι3 Ext.refl w3').2.2.2.2.2.2 _ rfl
    | true =>
      have q3 : rdAt X.K X.mg g E σ H3 F3 ι3 env _ ((k env S2).andThen fun z S4 => ofO (op' y z S4) S4) := q3
      refine ⟨F3, ι3, env, S2, w3', rd_mono (rd_then q3) ?_⟩
      rintro z H4 F4 ι4 S4 - e4 w4 ⟨_, _, q4⟩ t ht
      cases ho' : op' y z S4 with
      | none => rw [ho'] at q4; exact q4.elim
      | some d' =>
        rw [ho'] at q4
        refine ok' H4 F4 ι4 S4 y z d' u t Q w4.wd (w3'.wd.rep e4 (w2.wd.rep e3 hu)) ht ho' fun v'' H5 F5 ι5 e5 w5 hv'' => ?_
        exact (q4 H5 F5 ι5 e5 (w4.step e5 w5)).2.2.2.2.2.2.2.2 v'' hv''
theorem v_chain {o1 o2 : CmpOp} {r r' : R2} {op op' : Op2} (h1 : OpR X (compareOp o1) r) (ok : Ok2 X.K X.mg r op) (h2 : OpR X (compareOp o2) r') (ok' : Ok2 X.K X.mg r' op')
    (ha : VE X E a f) (hb : VE X E b h) (hc : VE X E c k) (hm : lastMarks [o1, o2] [b, c] = false := by with_unfolding_all rfl) : VE X E (.Compare a [o1, o2] [b, c] pos) (mChain op op' f h k) :=
  fun g => (pe_chain h1 h2 (ha g) (hb g) (hc g) hm).imp (chain_imp ok ok')
theorem t_chain {o1 o2 : CmpOp} {r r' : R2} {op op' : Op2} (h1 : OpR X (compareOp o1) r) (ok : Ok2 X.K X.mg r op) (h2 : OpR X (compareOp o2) r') (ok' : Ok2 X.K X.mg r' op')
    (ha : VE X E a f) (hb : VE X E b h) (hc : VE X E c k) (hm : lastMarks [o1, o2] [b, c] = false := by with_unfolding_all rfl) : VT X E (.Compare a [o1, o2] [b, c] pos) (mB (mChain op op' f h k)) :=
  fun g => (pt_chain h1 h2 (ha g) (hb g) (hc g) hm).imp fun σ H Q q => chain_imp ok ok' σ H _ (tB_imp σ H Q q)

/-! ### calls -/
def mCall (op : OpN) (fa : Ex (List D)) : Ex D := fun env S => (fa env S).andThen fun xs S1 => ofO (op xs S1) S1
theorem cb_imp {g : Snap} {r : List V → Hp → VK → Prop} {op : OpN} (ok : OkN X.K X.mg r op) : ∀ σ H Q, tV X.K X.mg g E (mCall op fa) σ H Q → tCB r (tAr X.K X.mg g E fa) σ H Q := by
  rintro σ H Q ⟨F, ι, env, S, w, q⟩
  refine ⟨F, ι, env, S, w, rd_mono (rd_then q) ?_⟩
  rintro xs H1 F1 ι1 S1 - e1 w1 ⟨_, _, q1⟩ vs hvs
  cases ho : op xs S1 with
  | none => rw [ho] at q1; exact q1.elim
  | some d =>
    rw [ho] at q1
    exact ok H1 F1 ι1 S1 xs d vs Q w1.wd hvs ho fun v' H' F' ι' e' w' hv' => (q1 H' F' ι' e' (w1.step e' w')).2.2 v' hv'
theorem v_callB {x : Str} {p : Pos} {id : String} {r : List V → Hp → VK → Prop} {op : OpN} (hc : CallR X (.builtin id) r) (ok : OkN X.K X.mg r op) (hg : Gl X x) (hm : X.mg x = none) (hv : bootBuiltins x = some (.builtin id))
    (ha : VA X E (e :: es) fa) (hn : x ≠ "__name__" := by decide) (hd : (x == ("__debug__" : Str)) = false := by decide)
    (h1 : starEach (e :: es) X.env = (false, eval e X.env) :: starEach es X.env := by rfl) (h2 : (backTo pos (starEach es X.env)).any (·.1) = false := by rfl) :
    VE X E (.Call (.Name x p) (e :: es) [] pos) (mCall op fa) := fun g => (pe_callB hc hg hm hv (ha g) hn hd h1 h2).imp (cb_imp ok)
theorem v_callTy {x : Str} {p : Pos} {T : String} {r : List V → Hp → VK → Prop} {op : OpN} (hc : CallR X (.type T) r) (ok : OkN X.K X.mg r op) (hg : Gl X x) (hm : X.mg x = none) (hv : bootBuiltins x = some (.type T))
    (ha : VA X E (e :: es) fa) (hn : x ≠ "__name__" := by decide) (hd : (x == ("__debug__" : Str)) = false := by decide)
    (h1 : starEach (e :: es) X.env = (false, eval e X.env) :: starEach es X.env := by rfl) (h2 : (backTo pos (starEach es X.env)).any (·.1) = false := by rfl) :
    VE X E (.Call (.Name x p) (e :: es) [] pos) (mCall op fa) := fun g => (pe_callTy hc hg hm hv (ha g) hn hd h1 h2).imp (cb_imp ok)
/-- a def's mirror -/
abbrev Fn := List D → List Cell → Rs D
/-- the promise that a mirror makes, n arguments -/
def SpM (K : PySem.W.Frag) (mg : Str → Option Value) (n : Nat) (m : Fn) : Sp := fun vs H Q E => vs.length = n ∧ ∃ F ι ds S, Wd K mg F ι H S ∧ Reps K mg F ι H ds vs ∧ match m ds S with
  | .ok d S' => ∀ v H' F' ι', Ext H F ι H' F' ι' → Wd K mg F' ι' H' S' → Rep K mg F' ι' H' d v → Q v H'
  | .ex c ns es S' => ∀ C d H' F' ι', mg c = some (.ref C) → Ext H F ι H' F' ι' → Wd K mg F' ι' H' S' → DictAt K mg F' ι' H' d ns es → E (.ref C) d H'
  | .bad => False
def mFn (n : Nat) (m : Fn) (fa : Ex (List D)) : Ex D := fun env S => (fa env S).andThen fun xs S1 => if xs.length = n then m xs S1 else .bad
theorem sp_of {g : Snap} {σ : St} {H1 : Hp} {F1 : Fz} {ι1 : List Addr} {env : List Sl} {S1 : List Cell} {xs : List D} {vs : List V} {n : Nat} {m : Fn} {k : D → Hp → Fz → List Addr → List Cell → Prop} {Q : VK}
    (w1 : RS X.K X.mg g σ H1 F1 ι1 env S1) (hvs : Reps X.K X.mg F1 ι1 H1 xs vs) (q1 : rdAt X.K X.mg g E σ H1 F1 ι1 env k (if xs.length = n then m xs S1 else .bad))
    (hk : ∀ d H' F' ι' S', k d H' F' ι' S' → ∀ v, Rep X.K X.mg F' ι' H' d v → Q v H') : SpM X.K X.mg n m vs H1 Q (E σ) := by
  by_cases hl : xs.length = n
  · rw [if_pos hl] at q1
    refine ⟨hvs.len.trans hl, F1, ι1, xs, S1, w1.wd, hvs, ?_⟩
    cases hm : m xs S1 with
    | bad => rw [hm] at q1; exact q1.elim
    | ex c ns ds S2 =>
      rw [hm] at q1
      exact fun C d H' F' ι' hc e w hd => q1 C d H' F' ι' hc (w1.step e w) e hd
    | ok d S2 =>
      rw [hm] at q1
      exact fun v H' F' ι' e w hv => hk _ _ _ _ _ (q1 H' F' ι' e (w1.step e w)) v hv
  · rw [if_neg hl] at q1
    exact q1.elim
theorem fn_imp {g : Snap} {n : Nat} {m : Fn} : ∀ σ H Q, tV X.K X.mg g E (mFn n m fa) σ H Q → tCallG (SpM X.K X.mg n m) E (tAr X.K X.mg g E fa) σ H Q := by
  rintro σ H Q ⟨F, ι, env, S, w, q⟩
  refine ⟨F, ι, env, S, w, rd_mono (rd_then q) ?_⟩
  rintro xs H1 F1 ι1 S1 - e1 w1 ⟨_, _, q1⟩ vs hvs
  exact sp_of w1 hvs q1 fun d H' F' ι' S' z v hv => z.2.2 v hv
theorem v_call {x : Str} {p : Pos} {i : Nat} {fx : Addr} {fd : FuncData} {ps : List Str} {n : Nat} {m : Fn} (G : FnG X.prog X.w X.K X.mg X.base i fx fd ps (SpM X.K X.mg n m)) (rm : Rm i X.A) (hm : X.mg x = some (.ref fx))
    (hk : PySem.W.keepIn X.K (.ref fx) = true) (hb : Binds X.K fd ps []) (px : Px X E) (ha : VA X E (e :: es) fa) (hg : Gl X x := by rfl)
    (hd : (x == ("__debug__" : Str)) = false := by decide)
    (h1 : starEach (e :: es) X.env = (false, eval e X.env) :: starEach es X.env := by rfl) (h2 : (backTo pos (starEach es X.env)).any (·.1) = false := by rfl) :
    VE X E (.Call (.Name x p) (e :: es) [] pos) (mFn n m fa) := fun g => (pe_callG G rm hg hm hk hb px (ha g) hd h1 h2).imp fn_imp
theorem v_call0 {x : Str} {p : Pos} {i : Nat} {fx : Addr} {fd : FuncData} {ps : List Str} {n : Nat} {m : Fn} (G : FnG X.prog X.w X.K X.mg X.base i fx fd ps (SpM X.K X.mg n m)) (rm : Rm i X.A) (hm : X.mg x = some (.ref fx))
    (hk : PySem.W.keepIn X.K (.ref fx) = true) (hb : Binds X.K fd ps []) (px : Px X E) (hg : Gl X x := by rfl) (hd : (x == ("__debug__" : Str)) = false := by decide) :
    VE X E (.Call (.Name x p) [] [] pos) (mFn n m mNil) := fun g => (pe_callG0 G rm hg hm hk hb px hd).imp fun σ H Q q => by
  obtain ⟨F, ι, env, S, w, q⟩ := fn_imp σ H Q q
  exact q H F ι Ext.refl w [] rfl
end

/-! ### slots set -/
section
variable {K : PySem.W.Frag} {mg : Str → Option Value} {g : Snap} {σ : St} {H H' : Hp} {F F' : Fz} {ι ι' : List Addr} {env : List Sl} {S S' : List Cell}
theorem RS.put {d : D} {v : V} (r : RS K mg g σ H F ι env S) (i : Nat) (h : Rep K mg F ι H d v) : RS K mg g (σ.set i (some v)) H F ι (env.set i (.val d)) S where
  wd := r.wd
  ext := r.ext
  len := by simpa using r.len
  slot := fun j d' hj => by
    rw [List.getElem?_set] at hj ⊢
    have hl := r.len
    by_cases e : i = j
    · subst e
      rw [if_pos rfl] at hj ⊢
      by_cases hi : i < env.length
      · rw [if_pos hi] at hj
        cases hj
        exact ⟨v, by rw [if_pos (by omega)], h⟩
      · rw [if_neg hi] at hj; cases hj
    · rw [if_neg e] at hj ⊢
      exact r.slot j d' hj
  own := fun j ds hj => by
    rw [List.getElem?_set] at hj ⊢
    by_cases e : i = j
    · subst e
      rw [if_pos rfl] at hj
      split at hj <;> cases hj
    · rw [if_neg e] at hj ⊢
      exact r.own j ds hj
  apart := fun j k a di dj h1 h2 h3 h4 => by
    rw [List.getElem?_set] at h1 h2 h3 h4
    by_cases e : i = j
    · subst e
      rw [if_pos rfl] at h1
      split at h1 <;> cases h1
    · by_cases e2 : i = k
      · subst e2
        rw [if_pos rfl] at h2
        split at h2 <;> cases h2
      · rw [if_neg e] at h1 h3
        rw [if_neg e2] at h2 h4
        exact r.apart j k a di dj h1 h2 h3 h4
/-- a slot gets a list of one's own -/
theorem RS.putO {ds : List D} {vs : List V} {a : Addr} (r : RS K mg g σ H F ι env S) (i : Nat) (h1 : H a = some (.lst vs)) (h2 : Reps K mg F ι H ds vs) (h3 : ¬ F a) (h4 : a ∉ ι) (h5 : g.H0 a = none)
    (h6 : ∀ (j : Nat) dj, env[j]? = some (.own dj) → σ[j]? = some (some (.ref a)) → j = i) : RS K mg g (σ.set i (some (.ref a))) H F ι (env.set i (.own ds)) S where
  wd := r.wd
  ext := r.ext
  len := by simpa using r.len
  slot := fun j d' hj => by
    rw [List.getElem?_set] at hj ⊢
    by_cases e : i = j
    · subst e
      rw [if_pos rfl] at hj
      split at hj <;> cases hj
    · rw [if_neg e] at hj ⊢
      exact r.slot j d' hj
  own := fun j ds' hj => by
    rw [List.getElem?_set] at hj ⊢
    have hl := r.len
    by_cases e : i = j
    · subst e
      rw [if_pos rfl] at hj ⊢
      by_cases hi : i < env.length
      · rw [if_pos hi] at hj
        cases hj
        exact ⟨a, vs, by rw [if_pos (by omega)], h1, h2, h3, h4, h5⟩
      · rw [if_neg hi] at hj; cases hj
    · rw [if_neg e] at hj ⊢
      exact r.own j ds' hj
  apart := fun j k b di dj q1 q2 q3 q4 => by
    rw [List.getElem?_set] at q1 q2 q3 q4
    by_cases e : i = j
    · by_cases e2 : i = k
      · exact e.symm.trans e2
      · subst e
        rw [if_pos rfl] at q1 q3
        rw [if_neg e2] at q2 q4
        split at q3
        · cases q3
          exact (h6 k dj q2 q4).symm
        · cases q3
    · by_cases e2 : i = k
      · subst e2
        rw [if_pos rfl] at q2 q4
        rw [if_neg e] at q1 q3
        split at q4
        · cases q4
          exact h6 j di q1 q3
        · cases q4
      · rw [if_neg e] at q1 q3
        rw [if_neg e2] at q2 q4
        exact r.apart j k b di dj q1 q2 q3 q4
/-- a slot is forgotten -/
theorem RS.forget (r : RS K mg g σ H F ι env S) (i : Nat) (x : Option V) : RS K mg g (σ.set i x) H F ι (env.set i .un) S where
  wd := r.wd
  ext := r.ext
  len := by simpa using r.len
  slot := fun j d' hj => by
    rw [List.getElem?_set] at hj ⊢
    by_cases e : i = j
    · subst e
      rw [if_pos rfl] at hj
      split at hj <;> cases hj
    · rw [if_neg e] at hj ⊢
      exact r.slot j d' hj
  own := fun j ds hj => by
    rw [List.getElem?_set] at hj ⊢
    by_cases e : i = j
    · subst e
      rw [if_pos rfl] at hj
      split at hj <;> cases hj
    · rw [if_neg e] at hj ⊢
      exact r.own j ds hj
  apart := fun j k a di dj h1 h2 h3 h4 => by
    rw [List.getElem?_set] at h1 h2 h3 h4
    by_cases e : i = j
    · subst e
      rw [if_pos rfl] at h1
      split at h1 <;> cases h1
    · by_cases e2 : i = k
      · subst e2
        rw [if_pos rfl] at h2
        split at h2 <;> cases h2
      · rw [if_neg e] at h1 h3
        rw [if_neg e2] at h2 h4
        exact r.apart j k a di dj h1 h2 h3 h4
/-- a slot's own list becomes a value -/
theorem RS.freeze {i : Nat} {ds : List D} (r : RS K mg g σ H F ι env S) (h : env[i]? = some (.own ds)) : ∃ F', RS K mg g σ H F' ι (env.set i (.val (.lst ds))) S ∧ Grow H F ι H F' ι := by
  obtain ⟨a, vs, h1, h2, h3, h4, h5, h6⟩ := r.own i ds h
  have hi : i < env.length := (List.getElem?_eq_some_iff.mp h).1
  have mono : ∀ d v, Rep K mg F ι H d v → Rep K mg (fun b => F b ∨ b = a) ι H d v := fun d v q => rep_mono (fun _ h => .inl h) (fun _ _ _ h => h) (List.prefix_refl _) d v q
  have monos : ∀ d v, Reps K mg F ι H d v → Reps K mg (fun b => F b ∨ b = a) ι H d v := fun d v q => reps_mono (fun _ h => .inl h) (fun _ _ _ h => h) (List.prefix_refl _) d v q
  refine ⟨fun b => F b ∨ b = a, ⟨r.wd.freeze (by rw [h2]; simp) h5, ⟨fun b hb => .inl (r.ext.sub b hb), fun b hb => ?_, r.ext.keep, r.ext.mono, r.ext.pre, r.ext.cnew⟩, by simpa using r.len, fun j d hj => ?_, fun j ds' hj => ?_, fun j k b di dj q1 q2 q3 q4 => ?_⟩, ⟨fun _ h => .inl h, fun _ _ _ h => h, List.prefix_refl _⟩⟩
  · rcases hb with hb | rfl
    · exact r.ext.new b hb
    · exact .inr h6
  · rw [List.getElem?_set] at hj
    by_cases e : i = j
    · subst e
      rw [if_pos rfl, if_pos hi] at hj
      cases hj
      exact ⟨.ref a, h1, a, vs, rfl, ⟨.inr rfl, h2⟩, monos _ _ h3⟩
    · rw [if_neg e] at hj
      obtain ⟨v, q1, q2⟩ := r.slot j d hj
      exact ⟨v, q1, mono _ _ q2⟩
  · rw [List.getElem?_set] at hj
    by_cases e : i = j
    · subst e
      rw [if_pos rfl, if_pos hi] at hj
      cases hj
    · rw [if_neg e] at hj
      obtain ⟨b, us, q1, q2, q3, q4, q5, q6⟩ := r.own j ds' hj
      refine ⟨b, us, q1, q2, monos _ _ q3, fun z => ?_, q5, q6⟩
      rcases z with z | rfl
      · exact q4 z
      · exact e (r.apart i j b _ _ h hj h1 q1)
  · rw [List.getElem?_set] at q1 q2
    by_cases e : i = j
    · subst e
      rw [if_pos rfl, if_pos hi] at q1
      cases q1
    · by_cases e2 : i = k
      · subst e2
        rw [if_pos rfl, if_pos hi] at q2
        cases q2
      · rw [if_neg e] at q1
        rw [if_neg e2] at q2
        exact r.apart j k b di dj q1 q2 q3 q4
theorem ne_of_not {p : Addr → Prop} {a b : Addr} (h1 : p b) (h2 : ¬ p a) : b ≠ a := fun z => by
  subst z
  exact h2 h1
/-- an object that is not frozen, no cell and new since the entry changes -/
theorem ext_upd {a : Addr} {o : HO} {H0 : Hp} {F0 : Fz} {ι0 : List Addr} (e : Ext H0 F0 ι0 H F ι) (h : H0 a = none) (n : H a ≠ none) : Ext H0 F0 ι0 (upd H a o) F ι :=
  ⟨e.sub, e.new, fun b u hb nb => by rw [upd_ne (ne_of_none hb h)]; exact e.keep b u hb nb, fun b hb => by
    by_cases z : b = a
    · subst z; exact h
    · rw [upd_ne z] at hb; exact e.mono b hb, e.pre, e.cnew⟩
theorem stay_upd {a : Addr} {o : HO} (h : ¬ F a) : Stay F H (upd H a o) := fun b u f hb => by rw [upd_ne (ne_of_not f h)]; exact hb
theorem Wd.updO {a : Addr} {o : HO} (w : Wd K mg F ι H S) (h : ¬ F a) (hc : a ∉ ι) : Wd K mg F ι (upd H a o) S :=
  ⟨fun b hb => by rw [upd_ne (ne_of_not hb h)]; exact w.fin b hb, w.cnf, w.cnd, w.len, fun n c b h1 h2 => cell_mono (fun _ h => h) (stay_upd h) (List.prefix_refl _) (fun u hu => by
    rw [upd_ne (ne_of_not (p := (· ∈ ι)) (List.mem_of_getElem? h2) hc)]; exact hu) c (w.cells n c b h1 h2)⟩
/-- the own list of slot i changes -/
theorem RS.mutO {i : Nat} {ds ds' : List D} {vs' : List V} {a : Addr} (r : RS K mg g σ H F ι env S) (h : env[i]? = some (.own ds)) (ha : σ[i]? = some (some (.ref a))) (q : Reps K mg F ι H ds' vs') :
    RS K mg g σ (upd H a (.lst vs')) F ι (env.set i (.own ds')) S ∧ Grow H F ι (upd H a (.lst vs')) F ι := by
  obtain ⟨a', vs, h1, h2, h3, h4, h5, h6⟩ := r.own i ds h
  obtain rfl : a' = a := by rw [ha] at h1; cases h1; rfl
  have hi : i < env.length := (List.getElem?_eq_some_iff.mp h).1
  have st : Stay F H (upd H a' (.lst vs')) := stay_upd h4
  refine ⟨⟨r.wd.updO h4 h5, ext_upd r.ext h6 (by rw [h2]; simp), by simpa using r.len, fun j d hj => ?_, fun j dj hj => ?_, fun j k b di dj q1 q2 q3 q4 => ?_⟩, ⟨fun _ h => h, st, List.prefix_refl _⟩⟩
  · rw [List.getElem?_set] at hj
    by_cases e : i = j
    · subst e
      rw [if_pos rfl, if_pos hi] at hj
      cases hj
    · rw [if_neg e] at hj
      obtain ⟨v, q1, q2⟩ := r.slot j d hj
      exact ⟨v, q1, rep_mono (fun _ h => h) st (List.prefix_refl _) d v q2⟩
  · rw [List.getElem?_set] at hj
    by_cases e : i = j
    · subst e
      rw [if_pos rfl, if_pos hi] at hj
      cases hj
      exact ⟨a', vs', ha, upd_same, reps_mono (fun _ h => h) st (List.prefix_refl _) _ _ q, h4, h5, h6⟩
    · rw [if_neg e] at hj
      obtain ⟨b, us, q1, q2, q3, q4, q5, q6⟩ := r.own j dj hj
      refine ⟨b, us, q1, ?_, reps_mono (fun _ h => h) st (List.prefix_refl _) _ _ q3, q4, q5, q6⟩
      rw [upd_ne (fun z => e (r.apart i j b _ _ h hj (by rw [z]; exact ha) q1))]
      exact q2
  · have back : ∀ (j : Nat) dj, (env.set i (.own ds'))[j]? = some (.own dj) → ∃ dj', env[j]? = some (.own dj') := fun j dj hj => by
      rw [List.getElem?_set] at hj
      by_cases e : i = j
      · subst e; exact ⟨ds, h⟩
      · rw [if_neg e] at hj; exact ⟨dj, hj⟩
    obtain ⟨d1, z1⟩ := back j di q1
    obtain ⟨d2, z2⟩ := back k dj q2
    exact r.apart j k b d1 d2 z1 z2 q3 q4
/-- a cell changes -/
theorem RS.cell {n : Nat} {a : Addr} {o : HO} {c' : Cell} (r : RS K mg g σ H F ι env S) (h : ι[n]? = some a) (q : ∀ H', H' a = some o → Stay F H H' → CellOk K mg F ι H' a c') :
    RS K mg g σ (upd H a o) F ι env (S.set n c') ∧ Grow H F ι (upd H a o) F ι := by
  have hm : a ∈ ι := List.mem_of_getElem? h
  have nf : ¬ F a := r.wd.cnf a hm
  have st : Stay F H (upd H a o) := stay_upd nf
  have wd : Wd K mg F ι (upd H a o) (S.set n c') := by
    refine ⟨fun b hb => by rw [upd_ne (ne_of_not hb nf)]; exact r.wd.fin b hb, r.wd.cnf, r.wd.cnd, by rw [List.length_set]; exact r.wd.len, fun i c b h1 h2 => ?_⟩
    rw [List.getElem?_set] at h1
    by_cases e : n = i
    · subst e
      have : b = a := by rw [h] at h2; cases h2; rfl
      subst this
      rw [if_pos rfl] at h1
      split at h1
      · cases h1
        exact q _ upd_same st
      · cases h1
    · rw [if_neg e] at h1
      have ne : b ≠ a := fun z => by
        subst z
        have l1 := (List.getElem?_eq_some_iff.mp h)
        have l2 := (List.getElem?_eq_some_iff.mp h2)
        obtain ⟨p1, e1⟩ := l1
        obtain ⟨p2, e2⟩ := l2
        exact e ((List.getElem_inj r.wd.cnd).mp (e1.trans e2.symm))
      exact cell_mono (fun _ h => h) st (List.prefix_refl _) (fun u hu => by rw [upd_ne ne]; exact hu) c (r.wd.cells i c b h1 h2)
  have ex : Ext g.H0 g.F0 g.ι0 (upd H a o) F ι := by
    refine ⟨r.ext.sub, r.ext.new, fun b u hb nb => ?_, fun b hb => ?_, r.ext.pre, r.ext.cnew⟩
    · have : b ≠ a := fun z => by
        subst z
        rcases r.ext.cnew b hm with z | z
        · exact nb z
        · rw [hb] at z; cases z
      rw [upd_ne this]
      exact r.ext.keep b u hb nb
    · by_cases z : b = a
      · subst z; rw [upd_same] at hb; cases hb
      · rw [upd_ne z] at hb; exact r.ext.mono b hb
  refine ⟨⟨wd, ex, r.len, fun j d hj => ?_, fun j dj hj => ?_, r.apart⟩, ⟨fun _ h => h, st, List.prefix_refl _⟩⟩
  · obtain ⟨v, q1, q2⟩ := r.slot j d hj
    exact ⟨v, q1, rep_mono (fun _ h => h) st (List.prefix_refl _) d v q2⟩
  · obtain ⟨b, us, q1, q2, q3, q4, q5, q6⟩ := r.own j dj hj
    refine ⟨b, us, q1, ?_, reps_mono (fun _ h => h) st (List.prefix_refl _) _ _ q3, q4, q5, q6⟩
    rw [upd_ne (fun z => q5 (by rw [z]; exact hm))]
    exact q2
end
end DL

/-! DLe: statements, loops, comprehensions, a def by its mirror. -/
namespace DL
open PySem PySem.Spec L2
open PyProof.Rows hiding St

section
variable {X : Cx} {E : EE} {a b c e o : Expr} {es : List Expr} {f h k : Ex D} {p q : Ex Bool} {fa : Ex (List D)} {pos : Pos} {st : Stmt} {sts : List Stmt} {m m1 m2 : Sm}
theorem _root_.L2.PG.imp {X : Cx} {e : Expr} {t t' : TG} (p : PG X e t) (h : ∀ v σ H Q, t' v σ H Q → t v σ H Q) : PG X e t' := ⟨fun pins s σ H v u Q I r q => p.run pins s σ H v u Q I r (h v σ H Q q)⟩
/-! ### blocks -/
def mSkip : Sm := fun env S => .nx env S
def mSeq (m1 m2 : Sm) : Sm := fun env S => match m1 env S with
  | .nx e S' => m2 e S'
  | r => r
@[simp] theorem mSeq_nx {m1 m2 : Sm} {env : List Sl} {S : List Cell} {e : List Sl} {S' : List Cell} (h : m1 env S = .nx e S') : mSeq m1 m2 env S = m2 e S' := by unfold mSeq; rw [h]
theorem b_nil : VB X E [] mSkip := fun g => pss_nil.imp fun D σ H ⟨F, ι, env, S, w, q⟩ => q σ H F ι w Grow.refl
theorem b_one (h1 : VS X E st m) : VB X E [st] m := fun g => pss_one (h1 g)
theorem fl_nx {K : PySem.W.Frag} {mg : Str → Option Value} {g : Snap} {H : Hp} {F : Fz} {ι : List Addr} {D : Ends} {m2 : Sm} : ∀ {fl : Fl}, flAt K mg g E H F ι D (match (motive := Fl → Fl) fl with | .nx e S' => m2 e S' | r => r) →
    flAt K mg g E H F ι { D with nx := fun σ' H' => tS K mg g E m2 D σ' H' } fl
  | .nx e S', q => fun σ' H' F' ι' r gr => ⟨F', ι', e, S', r, fl_grow gr q⟩
  | .bk _ _, q => q
  | .ct _ _, q => q
  | .rt _ _, q => q
  | .ex _ _ _ _ _, q => q
  | .bad, q => q
theorem b_cons (h1 : VS X E st m1) (h2 : VB X E sts m2) : VB X E (st :: sts) (mSeq m1 m2) := fun g => (pss_cons (h1 g) (h2 g)).imp fun D σ H ⟨F, ι, env, S, w, q⟩ => by
  refine ⟨F, ι, env, S, w, ?_⟩
  unfold mSeq at q
  exact fl_nx q
def mIfS (p : Ex Bool) (m1 m2 : Sm) : Sm := fun env S => (p env S).go env fun b S1 => if b = true then m1 env S1 else m2 env S1
theorem s_if {A B : List Stmt} (hp : VT X E c p) (h1 : VB X E A m1) (h2 : VB X E B m2) : VS X E (.If c A B pos) (mIfS p m1 m2) := fun g => (ps_if (hp g) (h1 g) (h2 g)).imp fun D σ H ⟨F, ι, env, S, w, q⟩ =>
  ⟨F, ι, env, S, w, rd_mono (rd_go w.wd q) fun b H1 F1 ι1 S1 _ e1 w1 ⟨_, _, q1⟩ => by
    cases b with
    | true => exact ⟨F1, ι1, env, S1, w1, q1⟩
    | false => exact ⟨F1, ι1, env, S1, w1, q1⟩⟩
def mRet (f : Ex D) : Sm := fun env S => (f env S).go env fun d S1 => .rt d S1
theorem s_ret (he : VE X E e f) : VS X E (.Return (some e) pos) (mRet f) := fun g => (ps_ret (he g)).imp fun D σ H ⟨F, ι, env, S, w, q⟩ =>
  ⟨F, ι, env, S, w, rd_mono (rd_go w.wd q) fun d H1 F1 ι1 S1 _ e1 w1 ⟨_, _, q1⟩ v hv => q1 v H1 F1 ι1 w1.ext w1.wd hv⟩
def mRetN : Sm := fun _ S => .rt .non S
theorem s_retN : VS X E (.Return none pos) mRetN := fun g => ps_retN.imp fun D σ H ⟨F, ι, env, S, w, q⟩ => q .non H F ι w.ext w.wd rfl
def mExpr (f : Ex D) : Sm := fun env S => (f env S).go env fun _ S1 => .nx env S1
theorem s_expr (he : VE X E e f) (hs : swapsWith e none pos.line X.env = pure false := by rfl) : VS X E (.Expr e pos) (mExpr f) := fun g => (ps_expr (he g) hs).imp fun D σ H ⟨F, ι, env, S, w, q⟩ =>
  ⟨F, ι, env, S, w, rd_mono (rd_go w.wd q) fun d H1 F1 ι1 S1 _ e1 w1 ⟨_, _, q1⟩ v hv => q1 σ H1 F1 ι1 w1 Grow.refl⟩
theorem s_pass : VS X E (.Pass pos) mSkip := fun g => ps_pass.imp fun D σ H ⟨F, ι, env, S, w, q⟩ => q σ H F ι w Grow.refl
def mBreak : Sm := fun env S => .bk env S
def mCont : Sm := fun env S => .ct env S
theorem s_break : VS X E (.Break pos) mBreak := fun g => ps_break.imp fun D σ H ⟨F, ι, env, S, w, q⟩ => q σ H F ι w Grow.refl
theorem s_cont : VS X E (.Continue pos) mCont := fun g => ps_continue.imp fun D σ H ⟨F, ι, env, S, w, q⟩ => q σ H F ι w Grow.refl
/-- slots' own lists become values ahead of a statement -/
def mFz (i : Nat) (m : Sm) : Sm := fun env S => match env[i]? with
  | some (.own ds) => m (env.set i (.val (.lst ds))) S
  | some (.val _) => m env S
  | _ => .bad
theorem fz_imp {K : PySem.W.Frag} {mg : Str → Option Value} {g : Snap} {i : Nat} {D : Ends} {σ : St} {H : Hp} (h : tS K mg g E (mFz i m) D σ H) : tS K mg g E m D σ H := by
  obtain ⟨F, ι, env, S, w, q⟩ := h
  unfold mFz at q
  split at q
  · rename_i ds hd
    obtain ⟨F', w', gr⟩ := w.freeze hd
    exact ⟨F', ι, _, S, w', fl_grow gr q⟩
  · exact ⟨F, ι, env, S, w, q⟩
  · exact q.elim
theorem s_fz (i : Nat) (h : VS X E st m) : VS X E st (mFz i m) := fun g => (h g).imp fun D σ H q => fz_imp q
theorem b_fz (i : Nat) (h : VB X E sts m) : VB X E sts (mFz i m) := fun g => (h g).imp fun D σ H q => fz_imp q

/-! ### targets -/
inductive Pat where
  | nm (i : Nat) | tp (ps : List Pat)
mutual
def bindP : Pat → D → List Sl → Option (List Sl)
  | .nm i, d, env => some (env.set i (.val d))
  | .tp ps, .tup ds, env => bindPs ps ds env
  | .tp ps, .lst ds, env => bindPs ps ds env
  | .tp _, _, _ => none
def bindPs : List Pat → List D → List Sl → Option (List Sl)
  | [], [], env => some env
  | p :: ps, d :: ds, env => match bindP p d env with
    | some env' => bindPs ps ds env'
    | none => none
  | _, _, _ => none
end
mutual
def gPat (K : PySem.W.Frag) : Pat → TG
  | .nm i => gName i
  | .tp ps => fun v σ H Q => gTup K ps.length (gPats K ps) v σ H Q ∨ gUnl K ps.length (gPats K ps) v σ H Q
def gPats (K : PySem.W.Frag) : List Pat → TGs
  | [] => gNil
  | p :: ps => gCons (gPat K p) (gPats K ps)
end
mutual
def patIn : Pat → List Nat → Bool
  | .nm i, vs => vs.contains i
  | .tp ps, vs => patsIn ps vs
def patsIn : List Pat → List Nat → Bool
  | [], _ => true
  | p :: ps, vs => patIn p vs && patsIn ps vs
end
/-- slots outside vs are the same -/
def SameBut (vs : List Nat) (σ σ' : St) : Prop := σ.length = σ'.length ∧ ∀ i, i ∉ vs → σ'[i]? = σ[i]?
theorem SameBut.refl {vs : List Nat} {σ : St} : SameBut vs σ σ := ⟨rfl, fun _ _ => rfl⟩
theorem SameBut.trans {vs : List Nat} {σ σ1 σ2 : St} (a : SameBut vs σ σ1) (b : SameBut vs σ1 σ2) : SameBut vs σ σ2 := ⟨a.1.trans b.1, fun i h => (b.2 i h).trans (a.2 i h)⟩
theorem TGs_unl (K : PySem.W.Frag) : True := trivial
section
variable {K : PySem.W.Frag} {mg : Str → Option Value} {g : Snap} {H : Hp} {F : Fz} {ι : List Addr} {S : List Cell} {vs : List Nat}
mutual
theorem pat_ok : ∀ (p : Pat) (d : D) (v : V) (σ : St) (env env' : List Sl) (Q : St → Hp → Prop), RS K mg g σ H F ι env S → Rep K mg F ι H d v → bindP p d env = some env' →
    (∀ σ', RS K mg g σ' H F ι env' S → (patIn p vs = true → SameBut vs σ σ') → Q σ' H) → gPat K p v σ H Q
  | .nm i, d, v, σ, env, env', Q, w, r, hb, q => by
    have e : env.set i (.val d) = env' := by simpa [bindP] using hb
    subst e
    refine q _ (w.put i r) fun hi => ⟨by simp, fun j hj => ?_⟩
    have hi' : i ∈ vs := by simpa [patIn] using hi
    rw [List.getElem?_set_ne (fun z => hj (by rw [← z]; exact hi'))]
  | .tp ps, .tup ds, v, σ, env, env', Q, w, r, hb, q => by
    obtain ⟨a, us, rfl, hs, hr⟩ := r
    have hb' : bindPs ps ds env = some env' := by simpa [bindP] using hb
    exact .inl ⟨a, us, rfl, hs.sq, hr.len.trans (bind_len ps ds env env' hb').symm, pats_ok ps ds us σ env env' Q w hr hb' fun σ' w' h => q σ' w' fun z => h (by simpa [patIn] using z)⟩
  | .tp ps, .lst ds, v, σ, env, env', Q, w, r, hb, q => by
    obtain ⟨a, us, rfl, hs, hr⟩ := r
    have hb' : bindPs ps ds env = some env' := by simpa [bindP] using hb
    exact .inr ⟨a, us, rfl, hs.sq, hr.len.trans (bind_len ps ds env env' hb').symm, pats_ok ps ds us σ env env' Q w hr hb' fun σ' w' h => q σ' w' fun z => h (by simpa [patIn] using z)⟩
  | .tp ps, .non, v, σ, env, env', Q, w, r, hb, q => by simp [bindP] at hb
  | .tp ps, .bl _, v, σ, env, env', Q, w, r, hb, q => by simp [bindP] at hb
  | .tp ps, .int _, v, σ, env, env', Q, w, r, hb, q => by simp [bindP] at hb
  | .tp ps, .str _, v, σ, env, env', Q, w, r, hb, q => by simp [bindP] at hb
  | .tp ps, .ro _, v, σ, env, env', Q, w, r, hb, q => by simp [bindP] at hb
  | .tp ps, .dct _ _, v, σ, env, env', Q, w, r, hb, q => by simp [bindP] at hb
  | .tp ps, .obj _ _ _, v, σ, env, env', Q, w, r, hb, q => by simp [bindP] at hb
  | .tp ps, .cell _, v, σ, env, env', Q, w, r, hb, q => by simp [bindP] at hb
  | .tp ps, .ty _, v, σ, env, env', Q, w, r, hb, q => by simp [bindP] at hb
  | .tp ps, .cls _, v, σ, env, env', Q, w, r, hb, q => by simp [bindP] at hb
  | .tp ps, .exc _ _ _, v, σ, env, env', Q, w, r, hb, q => by simp [bindP] at hb
theorem pats_ok : ∀ (ps : List Pat) (ds : List D) (us : List V) (σ : St) (env env' : List Sl) (Q : St → Hp → Prop), RS K mg g σ H F ι env S → Reps K mg F ι H ds us → bindPs ps ds env = some env' →
    (∀ σ', RS K mg g σ' H F ι env' S → (patsIn ps vs = true → SameBut vs σ σ') → Q σ' H) → gPats K ps us σ H Q
  | [], [], us, σ, env, env', Q, w, r, hb, q => by
    have e : env = env' := by simpa [bindPs] using hb
    subst e
    exact ⟨r, q σ w fun _ => SameBut.refl⟩
  | p :: ps, d :: ds, us, σ, env, env', Q, w, r, hb, q => by
    obtain ⟨v, us', rfl, r1, r2⟩ := r
    cases h1 : bindP p d env with
    | none => simp [bindPs, h1] at hb
    | some env1 =>
      have hb' : bindPs ps ds env1 = some env' := by simpa [bindPs, h1] using hb
      refine ⟨v, us', rfl, pat_ok p d v σ env env1 _ w r1 h1 fun σ1 w1 s1 => ?_⟩
      exact pats_ok ps ds us' σ1 env1 env' Q w1 r2 hb' fun σ' w' s' => q σ' w' fun z => by
        have z' : patIn p vs = true ∧ patsIn ps vs = true := by simpa [patsIn] using z
        exact (s1 z'.1).trans (s' z'.2)
  | [], d :: ds, us, σ, env, env', Q, w, r, hb, q => by simp [bindPs] at hb
  | p :: ps, [], us, σ, env, env', Q, w, r, hb, q => by simp [bindPs] at hb
theorem bind_len : ∀ (ps : List Pat) (ds : List D) (env env' : List Sl), bindPs ps ds env = some env' → ps.length = ds.length
  | [], [], _, _, _ => rfl
  | p :: ps, d :: ds, env, env', hb => by
    cases h1 : bindP p d env with
    | none => simp [bindPs, h1] at hb
    | some env1 => rw [List.length_cons, List.length_cons, bind_len ps ds env1 env' (by simpa [bindPs, h1] using hb)]
  | [], d :: ds, _, _, hb => by simp [bindPs] at hb
  | p :: ps, [], _, _, hb => by simp [bindPs] at hb
end
end
theorem pg_or {t t' : TG} (h1 : PG X e t) (h2 : PG X e t') : PG X e (fun v σ H Q => t v σ H Q ∨ t' v σ H Q) :=
  ⟨fun pins s σ H v u Q I r q => q.elim (h1.run pins s σ H v u Q I r) (h2.run pins s σ H v u Q I r)⟩
/-- x = e -/
def mSet (i : Nat) (f : Ex D) : Sm := fun env S => (f env S).go env fun d S1 => .nx (env.set i (.val d)) S1
theorem set_imp {g : Snap} {i : Nat} : ∀ D σ H, tS X.K X.mg g E (mSet i f) D σ H → tAsg (tV X.K X.mg g E f) (gName i) D σ H := fun D σ H ⟨F, ι, env, S, w, q⟩ =>
  ⟨F, ι, env, S, w, rd_mono (rd_go w.wd q) fun d H1 F1 ι1 S1 _ e1 w1 ⟨_, _, q1⟩ v hv => q1 _ H1 F1 ι1 (w1.put i hv) Grow.refl⟩
theorem s_set (i : Nat) {x : Str} {px : Pos} (he : VE X E e f) (hN : X.N.Nodup) (hi : X.N[i]? = some x := by rfl) (hx : Loc X.env.scope x := by first | exact Or.inl rfl | exact Or.inr rfl)
    (hs : swapsWith e (some (.Name x px)) pos.line X.env = pure false := by rfl) (hf : X.fn x = true ∨ X.env.scope.names.lookup x = some .local := by first | exact .inl rfl | exact .inr rfl) :
    VS X E (.Assign [.Name x px] e pos) (mSet i f) := fun g => (ps_set hN hi hx (he g) hs hf).imp set_imp
/-- x = e, e a new list that x alone holds -/
def mSetO (i : Nat) (f : Ex (List D)) : Sm := fun env S => (f env S).go env fun ds S1 => .nx (env.set i (.own ds)) S1
theorem setO_imp {g : Snap} {i : Nat} : ∀ D σ H, tS X.K X.mg g E (mSetO i fa) D σ H → tAsg (tO X.K X.mg g E fa) (gName i) D σ H := fun D σ H ⟨F, ι, env, S, w, q⟩ =>
  ⟨F, ι, env, S, w, rd_mono (rd_go w.wd q) fun d H1 F1 ι1 S1 _ e1 w1 ⟨_, _, q1⟩ a vs h1 h2 h3 h4 h5 => q1 _ H1 F1 ι1 (w1.putO i h1 h2 h3 h4 (w.ext.mono a h5) fun j dj hj hσ => by
    obtain ⟨a', us, z1, z2, _⟩ := w.own j dj hj
    rw [hσ] at z1
    cases z1
    rw [h5] at z2
    cases z2) Grow.refl⟩
theorem s_setO (i : Nat) {x : Str} {px : Pos} (he : VO X E e fa) (hN : X.N.Nodup) (hi : X.N[i]? = some x := by rfl) (hx : Loc X.env.scope x := by first | exact Or.inl rfl | exact Or.inr rfl)
    (hs : swapsWith e (some (.Name x px)) pos.line X.env = pure false := by rfl) (hf : X.fn x = true ∨ X.env.scope.names.lookup x = some .local := by first | exact .inl rfl | exact .inr rfl) :
    VS X E (.Assign [.Name x px] e pos) (mSetO i fa) := fun g => (ps_set hN hi hx (he g) hs hf).imp setO_imp
/-- a, b = e -/
def mUnp (p : Pat) (f : Ex D) : Sm := fun env S => (f env S).go env fun d S1 => match bindP p d env with
  | some env' => .nx env' S1
  | none => .bad
theorem s_unp {tg : Expr} {pt : Pat} (he : VE X E e f) (hg : PG X tg (gPat X.K pt)) (hs : swapsWithSole [tg] e pos.line X.env = pure false := by rfl) (hw : swappedStores [tg] e X.env = pure none := by rfl) (h1 : (assignEach [tg] X.env).map (·.2) = [assign tg X.env] := by rfl) :
    VS X E (.Assign [tg] e pos) (mUnp pt f) := fun g => (ps_asg (he g) hg hs hw h1).imp fun D σ H ⟨F, ι, env, S, w, q⟩ =>
  ⟨F, ι, env, S, w, rd_mono (rd_go w.wd q) fun d H1 F1 ι1 S1 _ e1 w1 ⟨_, _, q1⟩ v hv => by
    cases hb : bindP pt d env with
    | none => rw [hb] at q1; exact q1.elim
    | some env' =>
      rw [hb] at q1
      exact pat_ok (vs := []) pt d v σ env env' _ w1 hv hb fun σ' w' _ => q1 σ' H1 F1 ι1 w' Grow.refl⟩
/-- a, b = x, y : two plain locals -/
def mPar (i j : Nat) (f h : Ex D) : Sm := fun env S => (f env S).go env fun d S1 => (h env S1).go env fun d' S2 => .nx ((env.set i (.val d)).set j (.val d')) S2

/-! ### loops -/
def forL (p : Pat) (m : Sm) : List D → Sm
  | [], env, S => .nx env S
  | d :: ds, env, S => match bindP p d env with
    | none => .bad
    | some env1 => match m env1 S with
      | .nx e S' => forL p m ds e S'
      | .ct e S' => forL p m ds e S'
      | .bk e S' => .nx e S'
      | r => r
def mFor (it : Ex (List D)) (p : Pat) (m : Sm) : Sm := fun env S => (it env S).go env fun ds S1 => forL p m ds env S1
/-- the walk J gives these data -/
def WalkD (K : PySem.W.Frag) (mg : Str → Option Value) (F : Fz) (ι : List Addr) (H : Hp) (J : It) (ds : List D) : Prop :=
  ∀ F2 ι2 H2 S2, Wd K mg F2 ι2 H2 S2 → Grow H F ι H2 F2 ι2 → ∀ i, (ds.length = i → J.stop i H2) ∧ ∀ d, ds[i]? = some d → J.go i H2 ∧ ∀ x H3, J.yld i H2 x H3 →
    ∃ F3, Ext H2 F2 ι2 H3 F3 ι2 ∧ Wd K mg F3 ι2 H3 S2 ∧ Rep K mg F3 ι2 H3 d x
def tI (K : PySem.W.Frag) (mg : Str → Option Value) (g : Snap) (E : EE) (it : Ex (List D)) : TI := fun σ H R => ∃ F ι env S, RS K mg g σ H F ι env S ∧
  rdAt K mg g E σ H F ι env (fun ds H' F' ι' _ => ∀ J, WalkD K mg F' ι' H' J ds → R J H') (it env S)
def VI (X : Cx) (E : EE) (tg iter : Expr) (it : Ex (List D)) : Prop := ∀ g, PI X tg iter (tI X.K X.mg g E it)
theorem _root_.L2.PI.imp {X : Cx} {tg iter : Expr} {t t' : TI} (p : PI X tg iter t) (h : ∀ σ H R, t' σ H R → t σ H R) : PI X tg iter t' := ⟨fun pins s σ H R I q => p.run pins s σ H R I (h σ H R q)⟩
theorem s_for {tg iter : Expr} {body : List Stmt} {it : Ex (List D)} {pt : Pat} (hp : PassesOwn (model X.prog X.w) X.A X.env X.xe) (hc : X.calm = true) (hi : VI X E tg iter it) (hg : PG X tg (gPat X.K pt)) (hb : VB X E body m)
    (hs : ∀ x, foldedSetIterable iter X.env x = pure x := by intro _; rfl) : VS X E (.For tg iter body [] pos) (mFor it pt m) := fun g => (ps_for hp hc (hi g) hg (hb g) hs).imp fun D σ H ⟨F, ι, env, S, w, q⟩ =>
  ⟨F, ι, env, S, w, rd_mono (rd_go w.wd q) fun ds H1 F1 ι1 S1 _ e1 w1 ⟨_, _, q1⟩ J hJ => by
    refine ⟨fun i m' σ' H' => m' = ds.length - i ∧ i ≤ ds.length ∧ ∃ F' ι' env' S', RS X.K X.mg g σ' H' F' ι' env' S' ∧ Grow H1 F1 ι1 H' F' ι' ∧ flAt X.K X.mg g E H' F' ι' D (forL pt m (ds.drop i) env' S'),
      ⟨ds.length, rfl, Nat.zero_le _, F1, ι1, env, S1, w1, Grow.refl, q1⟩, ?_⟩
    rintro i m' σ2 H2 ⟨rfl, hi, F2, ι2, env2, S2, w2, gr, q2⟩
    obtain ⟨st, go⟩ := hJ F2 ι2 H2 S2 w2.wd gr i
    by_cases hl : i < ds.length
    · obtain ⟨hgo, hy⟩ := go _ (List.getElem?_eq_getElem hl)
      rw [List.drop_eq_getElem_cons hl] at q2
      refine .inr ⟨hgo, fun σ' H' => ∃ F' ι' env' S', RS X.K X.mg g σ' H' F' ι' env' S' ∧ Grow H1 F1 ι1 H' F' ι' ∧ flAt X.K X.mg g E H' F' ι' D (forL pt m (ds.drop (i + 1)) env' S'),
        fun σ' H' n => ⟨ds.length - (i + 1), by omega, rfl, hl, n⟩, fun x H3 y => ?_⟩
      obtain ⟨F3, e3, w3, r3⟩ := hy x H3 y
      have rs3 := w2.step e3 w3
      unfold forL at q2
      cases hb' : bindP pt ds[i] env2 with
      | none => rw [hb'] at q2; exact q2.elim
      | some env3 =>
        rw [hb'] at q2
        refine pat_ok (vs := []) pt ds[i] x σ2 env2 env3 _ rs3 r3 hb' fun σ4 w4 _ => ?_
        have q2 := fl_grow (w2.wd.grow e3) q2
        dsimp only at q2
        have gr3 := gr.trans (w2.wd.grow e3)
        refine ⟨F3, ι2, env3, S2, w4, ?_⟩
        cases hm : m env3 S2 with
        | nx e' S' => rw [hm] at q2; exact fun σ5 H5 F5 ι5 w5 g5 => ⟨F5, ι5, e', S', w5, gr3.trans g5, fl_grow g5 q2⟩
        | ct e' S' => rw [hm] at q2; exact fun σ5 H5 F5 ι5 w5 g5 => ⟨F5, ι5, e', S', w5, gr3.trans g5, fl_grow g5 q2⟩
        | bk e' S' => rw [hm] at q2; exact q2
        | rt d S' => rw [hm] at q2; exact q2
        | ex c' ns' ds' e' S' => rw [hm] at q2; exact q2
        | bad => rw [hm] at q2; exact q2
    · have : i = ds.length := by omega
      subst this
      rw [List.drop_length] at q2
      exact .inl ⟨st rfl, q2 σ2 H2 F2 ι2 w2 Grow.refl⟩⟩
def whileN (p : Ex Bool) (m : Sm) : Nat → Sm
  | 0, _, _ => .bad
  | n + 1, env, S => (p env S).go env fun b S1 => if b = true then match m env S1 with
      | .nx e S' => whileN p m n e S'
      | .ct e S' => whileN p m n e S'
      | .bk e S' => .nx e S'
      | r => r
    else .nx env S1
theorem s_while (n : Nat) {body : List Stmt} (hp : PassesOwn (model X.prog X.w) X.A X.env X.xe) (hc : VT X E c p) (hb : VB X E body m) : VS X E (.While c body [] pos) (whileN p m n) := fun g => (ps_while hp (hc g) (hb g)).imp fun D σ H ⟨F, ι, env, S, w, q⟩ => by
  refine ⟨fun k σ' H' => ∃ F' ι' env' S', RS X.K X.mg g σ' H' F' ι' env' S' ∧ flAt X.K X.mg g E H' F' ι' D (whileN p m k env' S'), ⟨n, F, ι, env, S, w, q⟩, ?_⟩
  rintro k σ2 H2 ⟨F2, ι2, env2, S2, w2, q2⟩
  cases k with
  | zero => exact q2.elim
  | succ k =>
    unfold whileN at q2
    refine ⟨F2, ι2, env2, S2, w2, rd_mono (rd_go w2.wd q2) ?_⟩
    rintro b H3 F3 ι3 S3 - e3 w3 ⟨_, _, q3⟩
    cases b with
    | false => exact q3 σ2 H3 F3 ι3 w3 Grow.refl
    | true =>
      refine ⟨fun σ' H' => ∃ F' ι' env' S', RS X.K X.mg g σ' H' F' ι' env' S' ∧ flAt X.K X.mg g E H' F' ι' D (whileN p m k env' S'), fun σ' H' z => ⟨k, Nat.lt_succ_self k, z⟩, F3, ι3, env2, S3, w3, ?_⟩
      rw [if_pos rfl] at q3
      cases hm : m env2 S3 with
      | nx e' S' => rw [hm] at q3; exact fun σ5 H5 F5 ι5 w5 g5 => ⟨F5, ι5, e', S', w5, fl_grow g5 q3⟩
      | ct e' S' => rw [hm] at q3; exact fun σ5 H5 F5 ι5 w5 g5 => ⟨F5, ι5, e', S', w5, fl_grow g5 q3⟩
      | bk e' S' => rw [hm] at q3; exact q3
      | rt d S' => rw [hm] at q3; exact q3
      | ex c' ns' ds' e' S' => rw [hm] at q3; exact q3
      | bad => rw [hm] at q3; exact q3
end

/-! ### a def by its mirror -/
def startE (n : Nat) (ds : List D) : List Sl := ds.map .val ++ List.replicate (n - ds.length) .un
/-- n slots -/
def mDef (n : Nat) (m : Sm) : Fn := fun ds S => match m (startE n ds) S with
  | .nx _ S' => .ok .non S'
  | .rt d S' => .ok d S'
  | .ex c ns es _ S' => .ex c ns es S'
  | _ => .bad
theorem start_rs {K : PySem.W.Frag} {mg : Str → Option Value} {F : Fz} {ι : List Addr} {H : Hp} {N : List Str} {ds : List D} {vs : List V} {S : List Cell} (w : Wd K mg F ι H S) (r : Reps K mg F ι H ds vs) :
    RS K mg ⟨H, F, ι⟩ (start N vs) H F ι (startE N.length ds) S := by
  have hl := r.len
  have noown : ∀ (i : Nat) xs, (startE N.length ds)[i]? ≠ some (.own xs) := fun i xs h => by
    unfold startE at h
    have hm := List.mem_of_getElem? h
    rcases List.mem_append.mp hm with z | z
    · obtain ⟨d, _, e⟩ := List.mem_map.mp z
      cases e
    · cases (List.mem_replicate.mp z).2
  refine ⟨w, Ext.refl, ?_, fun i d h => ?_, fun i xs h => absurd h (noown i xs), fun i j a di dj h _ _ _ => absurd h (noown i di)⟩
  · unfold L2.start startE
    simp [hl]
  · unfold startE at h
    unfold L2.start
    by_cases hi : i < ds.length
    · rw [List.getElem?_append_left (by simpa using hi), List.getElem?_map] at h
      rw [List.getElem?_append_left (by simpa [hl] using hi), List.getElem?_map]
      rw [List.getElem?_eq_getElem hi] at h
      have h' : ds[i] = d := by simpa using h
      obtain ⟨v, h1, h2⟩ := r.get (List.getElem?_eq_getElem hi)
      exact ⟨v, by rw [h1]; rfl, by rw [← h']; exact h2⟩
    · rw [List.getElem?_append_right (by simpa using hi)] at h
      have := List.mem_of_getElem? h
      cases (List.mem_replicate.mp this).2
section
variable {P : Program} {w : World} {K : PySem.W.Frag} {mg : Str → Option Value} {base : Heap}
/-- a def's body by its mirror: the def keeps the mirror's promise -/
theorem fnM {x qual : Str} {st : Stmt} {f : Addr} {fd : FuncData} {N ps : List Str} {k n : Nat} {m : Sm} (F : Fun K x qual st f fd) (S : FnScope N ps (defScope st)) (hn : ps.length = n)
    (hb : ∀ (cd : Value) (A : Around) (outer : List Env) (s : Shared) (H : Hp) (E : XK), Rm k (A.deeper (envOfC qual (defScope st) s.heap.objs.size f cd)) →
      VB (cxOf (L2N.CX P w) P w K mg base N qual (defScope st) f cd A outer s H E) (fun _ => E) (defBody st) m) :
    FnG P w K mg base (k + 1) f fd ps (SpM K mg n (mDef N.length m)) := by
  refine fnG F S (fun vs H Q E h => h.1.trans hn.symm) fun cd A outer s H vs Q E rm h => ?_
  obtain ⟨hl, F, ι, ds, S', wd, r, q⟩ := h
  refine ⟨_, hb cd A outer s H E rm ⟨H, F, ι⟩, F, ι, startE N.length ds, S', start_rs wd r, ?_⟩
  unfold mDef at q
  cases hm : m (startE N.length ds) S' with
  | nx e S1 => rw [hm] at q; exact fun σ' H' F' ι' w' _ => q .non H' F' ι' w'.ext w'.wd rfl
  | rt d S1 => rw [hm] at q; exact fun v H' F' ι' e w' hv => q v H' F' ι' e w' hv
  | ex c ns es e1 S1 => rw [hm] at q; exact fun σ' C d H' F' ι' hc w' _ hd => q C d H' F' ι' hc w'.ext w'.wd hd
  | bk e S1 => rw [hm] at q; exact q.elim
  | ct e S1 => rw [hm] at q; exact q.elim
  | bad => rw [hm] at q; exact q.elim
/-- within a def's body: what callees let out is taken -/
theorem px_def {N : List Str} {qual : Str} {sc : Scope} {f : Addr} {cd : Value} {A : Around} {outer : List Env} {s : Shared} {H : Hp} {E : XK} :
    Px (cxOf (L2N.CX P w) P w K mg base N qual sc f cd A outer s H E) (fun _ => E) := px_of (L2N.takes_of rfl rfl rfl rfl)
theorem po_def {N : List Str} {qual : Str} {sc : Scope} {f : Addr} {cd : Value} {A : Around} {outer : List Env} {s : Shared} {H : Hp} {E : XK} :
    PassesOwn (model P w) (cxOf (L2N.CX P w) P w K mg base N qual sc f cd A outer s H E).A (cxOf (L2N.CX P w) P w K mg base N qual sc f cd A outer s H E).env (cxOf (L2N.CX P w) P w K mg base N qual sc f cd A outer s H E).xe := passes_of rfl
end
end DL

/-! DLf: comprehensions; what is walked. -/
namespace DL
open PySem PySem.Spec L2
open PyProof.Rows hiding St

def wipeE (env : List Sl) : List Nat → List Sl
  | [] => env
  | v :: vs => (wipeE env vs).set v .un
def noX {α : Type} : Rs α → Rs α
  | .ok a S => .ok a S
  | _ => .bad
@[simp] theorem noX_ok {α : Type} (a : α) (S : List Cell) : noX (.ok a S) = .ok a S := rfl
def compL (vs : List Nat) (p : Pat) (cond : Ex Bool) (elt : Ex D) : List D → Ex (List D)
  | [], _, S => .ok [] S
  | d :: ds, env, S => match bindP p d (wipeE env vs) with
    | none => .bad
    | some env1 => (noX (cond env1 S)).andThen fun b S1 => if b = true then (noX (elt env1 S1)).andThen fun x S2 => (compL vs p cond elt ds env S2).andThen fun xs S3 => .ok (x :: xs) S3
      else compL vs p cond elt ds env S1
def mComp (it : Ex (List D)) (vs : List Nat) (p : Pat) (cond : Ex Bool) (elt : Ex D) : Ex (List D) := fun env S => (it env S).andThen fun ds S1 => if ds.length ≤ 100000 then noX (compL vs p cond elt ds env S1) else .bad
def mYes : Ex Bool := fun _ S => .ok true S

section
variable {K : PySem.W.Frag} {mg : Str → Option Value} {g : Snap} {σ : St} {H H' : Hp} {F F' : Fz} {ι ι' : List Addr} {env : List Sl} {S S' : List Cell}
theorem RS.wiped (r : RS K mg g σ H F ι env S) : ∀ vs : List Nat, RS K mg g (wipe σ vs) H F ι (wipeE env vs) S
  | [] => r
  | v :: vs => (RS.wiped r vs).forget v none
theorem wipe_in {σ : St} {i : Nat} : ∀ {vs : List Nat}, i ∈ vs → (wipe σ vs)[i]? = (σ[i]?).map fun _ => none
  | v :: vs, h => by
    unfold wipe
    rw [List.getElem?_set]
    by_cases e : v = i
    · subst e
      rw [if_pos rfl, wipe_length]
      by_cases hl : v < σ.length
      · rw [if_pos hl, List.getElem?_eq_getElem hl]; rfl
      · rw [if_neg hl, List.getElem?_eq_none (by omega)]; rfl
    · rw [if_neg e]
      exact wipe_in ((List.mem_cons.mp h).resolve_left fun z => e z.symm)
theorem wipe_same {vs : List Nat} {σ σ' : St} (h : SameBut vs (wipe σ vs) σ') : wipe σ' vs = wipe σ vs := by
  refine List.ext_getElem? fun i => ?_
  by_cases hi : i ∈ vs
  · have hl : σ.length = σ'.length := by have := h.1; rw [wipe_length] at this; exact this
    rw [wipe_in hi, wipe_in hi]
    by_cases z : i < σ.length
    · rw [List.getElem?_eq_getElem z, List.getElem?_eq_getElem (by omega)]; rfl
    · rw [List.getElem?_eq_none (by omega), List.getElem?_eq_none (by omega)]
  · rw [wipe_out hi, h.2 i hi]
theorem lc_imp {E : EE} {it : Ex (List D)} {vs : List Nat} {p : Pat} {cond : Ex Bool} {elt : Ex D} (hp : patIn p vs = true) : ∀ σ H Q, tO K mg g E (mComp it vs p cond elt) σ H Q →
    tLc (tI K mg g E it) (gPat K p) (tT K mg g EX0 cond) (tV K mg g EX0 elt) vs σ H Q := by
  rintro σ H Q ⟨F, ι, env, S, w, q⟩
  refine ⟨F, ι, env, S, w, rd_mono (rd_then q) ?_⟩
  rintro ds H1 F1 ι1 S1 - e1 w1 ⟨_, _, q1⟩ J hJ L hL
  by_cases hlen : ds.length ≤ 100000
  case neg => rw [if_neg hlen] at q1; exact q1.elim
  rw [if_pos hlen] at q1
  cases hc : compL vs p cond elt ds env S1 with
  | bad => rw [hc] at q1; exact q1.elim
  | ex c ns es S2 => rw [hc] at q1; exact q1.elim
  | ok all Sf =>
    rw [hc] at q1
    refine ⟨fun i m H2 => m = ds.length - i ∧ i ≤ ds.length ∧ ∃ F2 ι2 S2 acc avs xs, Ext H1 F1 ι1 H2 F2 ι2 ∧ Wd K mg F2 ι2 H2 S2 ∧ H2 L = some (.lst avs) ∧ Reps K mg F2 ι2 H2 acc avs ∧ ¬ F2 L ∧ L ∉ ι2 ∧ acc.length ≤ i ∧
      compL vs p cond elt (ds.drop i) env S2 = .ok xs Sf ∧ acc ++ xs = all, ?_, ?_⟩
    · obtain ⟨e', w'⟩ := w1.wd.layO (o := .lst []) hL
      exact ⟨ds.length, rfl, Nat.zero_le _, F1, ι1, S1, [], [], all, e', w', upd_same, rfl, fun z => w1.wd.fin L z hL, fun z => w1.wd.cell_ne z hL, Nat.le_refl _, hc, rfl⟩
    rintro i m H2 ⟨rfl, hi, F2, ι2, S2, acc, avs, xs, e2, wd2, hL2, ra, nF, nι, hal, hcs, hx⟩
    have w2 := w1.step e2 wd2
    obtain ⟨st, go⟩ := hJ F2 ι2 H2 S2 wd2 (w1.wd.grow e2) i
    by_cases hlt : i < ds.length
    · obtain ⟨hgo, hy⟩ := go _ (List.getElem?_eq_getElem hlt)
      rw [List.drop_eq_getElem_cons hlt] at hcs
      unfold compL at hcs
      cases hb : bindP p ds[i] (wipeE env vs) with
      | none => rw [hb] at hcs; cases hcs
      | some env1 =>
        rw [hb] at hcs
        dsimp only at hcs
        refine .inr ⟨hgo, fun H' => ∃ F' ι' S' acc' avs' xs', Ext H1 F1 ι1 H' F' ι' ∧ Wd K mg F' ι' H' S' ∧ H' L = some (.lst avs') ∧ Reps K mg F' ι' H' acc' avs' ∧ ¬ F' L ∧ L ∉ ι' ∧ acc'.length ≤ i + 1 ∧
          compL vs p cond elt (ds.drop (i + 1)) env S' = .ok xs' Sf ∧ acc' ++ xs' = all, fun H' n => ⟨ds.length - (i + 1), by omega, rfl, hlt, n⟩, fun x H3 y => ?_⟩
        obtain ⟨F3, e3, wd3, r3⟩ := hy x H3 y
        have w3 := (w2.step e3 wd3).wiped vs
        refine pat_ok (vs := vs) p ds[i] x _ _ env1 _ w3 r3 hb fun σ4 w4 sm => ⟨wipe_same (sm hp), ?_⟩
        have keepL : ∀ {H' F' ι'}, Ext H3 F3 ι2 H' F' ι' → H' L = some (.lst avs) ∧ ¬ F' L ∧ L ∉ ι' := fun {H' F' ι'} e => by
          have h3 : H3 L = some (.lst avs) := e3.keep L _ hL2 nι
          have nF3 : ¬ F3 L := fun z => (e3.new L z).elim nF fun z => by rw [hL2] at z; cases z
          refine ⟨e.keep L _ h3 nι, fun z => (e.new L z).elim nF3 fun z => ?_, fun z => (e.cnew L z).elim nι fun z => ?_⟩ <;> (rw [h3] at z; cases z)
        cases hcd : cond env1 S2 with
        | bad => rw [hcd] at hcs; cases hcs
        | ex c ns es S5 => rw [hcd] at hcs; cases hcs
        | ok b S4 =>
          rw [hcd] at hcs
          refine ⟨F3, ι2, env1, S2, w4, ?_⟩
          rw [hcd]
          intro H4 F4 ι4 e4 w5
          cases b with
          | false =>
            rw [if_neg Bool.false_ne_true]
            obtain ⟨h4, nF4, nι4⟩ := keepL e4
            exact ⟨F4, ι4, S4, acc, avs, xs, (e2.trans e3).trans e4, w5.wd, h4, w4.wd.reps e4 (w2.wd.reps e3 ra), nF4, nι4, by omega, by simpa using hcs, hx⟩
          | true =>
            rw [if_pos rfl]
            rw [noX_ok, andThen_ok, if_pos rfl] at hcs
            cases hel : elt env1 S4 with
            | bad => rw [hel] at hcs; cases hcs
            | ex c ns es S6 => rw [hel] at hcs; cases hcs
            | ok x' S5 =>
              rw [hel, noX_ok, andThen_ok] at hcs
              refine ⟨F4, ι4, env1, S4, w5, ?_⟩
              rw [hel]
              intro H5 F5 ι5 e5 w6 v hv
              obtain ⟨h5, nF5, nι5⟩ := keepL (e4.trans e5)
              cases hr : compL vs p cond elt (ds.drop (i + 1)) env S5 with
              | bad => rw [hr] at hcs; cases hcs
              | ex c ns es S6 => rw [hr] at hcs; cases hcs
              | ok xs' S6 =>
                rw [hr, andThen_ok] at hcs
                cases hcs
                have ra5 := w5.wd.reps e5 (w4.wd.reps e4 (w2.wd.reps e3 ra))
                refine ⟨avs, h5, ?_, F5, ι5, S5, acc ++ [x'], avs ++ [v], xs', ?_, w6.wd.updO nF5 nι5, upd_same, reps_mono (fun _ h => h) (stay_upd nF5) (List.prefix_refl _) _ _ (ra5.app (.one hv)), nF5, nι5, ?_, hr, ?_⟩
                · rw [ra.len]
                  exact Nat.lt_of_le_of_lt hal (Nat.lt_of_lt_of_le hlt (Nat.le_trans hlen (by decide)))
                · exact ext_upd (((e2.trans e3).trans e4).trans e5) hL (by rw [h5]; simp)
                · rw [List.length_append]; simpa using hal
                · rw [List.append_assoc]; exact hx
    · have : i = ds.length := by omega
      subst this
      rw [List.drop_length] at hcs
      cases hcs
      rw [List.append_nil] at hx
      subst hx
      exact .inl ⟨st rfl, (q1 H2 F2 ι2 e2 w2).2.2 L avs hL2 ra nF nι (e1.mono L hL)⟩
end

section
variable {X : Cx} {E : EE} {elt tg iter : Expr} {ifs : List Expr} {scope : Scope} {own : List (Str × Nat)} {pos spos : Pos} {it : Ex (List D)} {p : Pat} {cond : Ex Bool} {f : Ex D}
def VTs (X : Cx) (E : EE) (es : List Expr) (p : Ex Bool) : Prop := ∀ g, PTs X es (tT X.K X.mg g E p)
theorem ts_nil : VTs X E [] mYes := fun g => ⟨fun pins s σ H Q I ⟨F, ι, env, S, w, q⟩ => pts_nil.run pins s σ H Q I (q H F ι Ext.refl w)⟩
theorem ts_one {c : Expr} {q : Ex Bool} (h : VT X E c q) : VTs X E [c] q := fun g => pts_one (h g)
theorem o_lc (hc : X.calm = true) (hN : X.N.Nodup) (hp : patIn p (own.map (·.2)) = true) (hi : VI X E tg iter it) (ok : BlkOk X.N X.env.scope scope own)
    (hg : ∀ (s : Shared) (H : Hp) (C : Addr) (cl : List (Str × Addr)) (fp : List Addr), PG (X.blk s H scope (compEnvC scope cl C X.env) fp) tg (gPat X.K p))
    (ht : ∀ (s : Shared) (H : Hp) (C : Addr) (cl : List (Str × Addr)) (fp : List Addr), VTs (X.blk s H scope (compEnvC scope cl C X.env) fp) EX0 ifs cond)
    (he : ∀ (s : Shared) (H : Hp) (C : Addr) (cl : List (Str × Addr)) (fp : List Addr), VE (X.blk s H scope (compEnvC scope cl C X.env) fp) EX0 elt f)
    (hs : ∀ x, foldedSetIterable iter X.env x = pure x := by intro _; rfl) : VO X E (.ListComp elt [⟨tg, iter, ifs, 0⟩] scope pos) (mComp it (own.map (·.2)) p cond f) := fun g =>
  (pe_lc hc hN (hi g) ok hg (fun s H C cl fp => ht s H C cl fp g) (fun s H C cl fp => he s H C cl fp g) hs).imp (lc_imp hp)
/-- x = [..]: as a value, as a list of one's own -/
theorem s_setLcO (i : Nat) {y : Str} {py : Pos} (hc : X.calm = true) (hN : X.N.Nodup) (hp : patIn p (own.map (·.2)) = true) (hi : VI X E tg iter it) (ok : BlkOk X.N X.env.scope scope own)
    (hg : ∀ (s : Shared) (H : Hp) (C : Addr) (cl : List (Str × Addr)) (fp : List Addr), PG (X.blk s H scope (compEnvC scope cl C X.env) fp) tg (gPat X.K p))
    (ht : ∀ (s : Shared) (H : Hp) (C : Addr) (cl : List (Str × Addr)) (fp : List Addr), VTs (X.blk s H scope (compEnvC scope cl C X.env) fp) EX0 ifs cond)
    (he : ∀ (s : Shared) (H : Hp) (C : Addr) (cl : List (Str × Addr)) (fp : List Addr), VE (X.blk s H scope (compEnvC scope cl C X.env) fp) EX0 elt f)
    (hy : X.N[i]? = some y := by rfl) (hyl : X.env.scope.names.lookup y = some .local := by rfl)
    (hsw : swapsWith (.ListComp elt [⟨tg, iter, ifs, 0⟩] scope pos) (some (.Name y py)) spos.line X.env = pure true := by exact sw_true rfl rfl rfl (by decide +kernel))
    (hs : ∀ x, foldedSetIterable iter X.env x = pure x := by intro _; rfl) : VS X E (.Assign [.Name y py] (.ListComp elt [⟨tg, iter, ifs, 0⟩] scope pos) spos) (mSetO i (mComp it (own.map (·.2)) p cond f)) := fun g =>
  (ps_setLc hc hN hy hyl hsw (hi g) ok hg (fun s H C cl fp => ht s H C cl fp g) (fun s H C cl fp => he s H C cl fp g) hs).imp fun D σ H q => lc_imp hp σ H _ (setO_imp D σ H q)
theorem s_setLc (i : Nat) {y : Str} {py : Pos} (hc : X.calm = true) (hN : X.N.Nodup) (hp : patIn p (own.map (·.2)) = true) (hi : VI X E tg iter it) (ok : BlkOk X.N X.env.scope scope own)
    (hg : ∀ (s : Shared) (H : Hp) (C : Addr) (cl : List (Str × Addr)) (fp : List Addr), PG (X.blk s H scope (compEnvC scope cl C X.env) fp) tg (gPat X.K p))
    (ht : ∀ (s : Shared) (H : Hp) (C : Addr) (cl : List (Str × Addr)) (fp : List Addr), VTs (X.blk s H scope (compEnvC scope cl C X.env) fp) EX0 ifs cond)
    (he : ∀ (s : Shared) (H : Hp) (C : Addr) (cl : List (Str × Addr)) (fp : List Addr), VE (X.blk s H scope (compEnvC scope cl C X.env) fp) EX0 elt f)
    (hy : X.N[i]? = some y := by rfl) (hyl : X.env.scope.names.lookup y = some .local := by rfl)
    (hsw : swapsWith (.ListComp elt [⟨tg, iter, ifs, 0⟩] scope pos) (some (.Name y py)) spos.line X.env = pure true := by exact sw_true rfl rfl rfl (by decide +kernel))
    (hs : ∀ x, foldedSetIterable iter X.env x = pure x := by intro _; rfl) : VS X E (.Assign [.Name y py] (.ListComp elt [⟨tg, iter, ifs, 0⟩] scope pos) spos) (mSet i (mFr (mComp it (own.map (·.2)) p cond f))) := fun g =>
  (s_setLcO i hc hN hp hi ok hg ht he hy hyl hsw hs g).imp fun D σ H ⟨F, ι, env, S, w, q⟩ => by
    refine ⟨F, ι, env, S, w, ?_⟩
    unfold mSet mFr at q
    unfold mSetO
    cases hm : mComp it (own.map (·.2)) p cond f env S with
    | bad => rw [hm] at q; exact q
    | ex c ns es S1 => rw [hm] at q; exact q
    | ok xs S1 =>
      rw [hm] at q
      intro σ' H' F' ι' w' gr
      by_cases hi' : i < env.length
      · obtain ⟨F2, w2, g2⟩ := w'.freeze (i := i) (ds := xs) (by simp [hi'])
        rw [List.set_set] at w2
        exact q σ' H' F2 ι' w2 (gr.trans g2)
      · have e1 : ∀ x : Sl, env.set i x = env := fun x => List.set_eq_of_length_le (by omega)
        rw [e1] at w'
        exact q σ' H' F' ι' (by rw [e1]; exact w') gr
/-! ### what is walked -/
variable {e a b : Expr} {h k : Ex D} {fa : Ex (List D)}
/-- a list's or a tuple's items -/
def itemsOf : D → List Cell → Rs (List D)
  | .lst xs, S => .ok xs S
  | .tup xs, S => .ok xs S
  | .ro xs, S => .ok xs S
  | _, _ => .bad
def mItems (f : Ex D) : Ex (List D) := fun env S => (f env S).andThen itemsOf
theorem walk_of_list {K : PySem.W.Frag} {mg : Str → Option Value} {F : Fz} {ι : List Addr} {H : Hp} {ds : List D} {a : Addr} {vs : List V} (h : ∀ {F2 : Fz} {H2 : Hp}, (∀ a, F a → F2 a) → Stay F H H2 → SqL K H2 a vs) (r : Reps K mg F ι H ds vs) : WalkD K mg F ι H (Itl K a) ds :=
  fun F2 ι2 H2 S2 wd gr i => by
    have h2 := h gr.sub gr.stay
    have r2 := reps_mono gr.sub gr.stay gr.pre ds vs r
    refine ⟨fun hi => ⟨vs, h2, Nat.le_of_eq (r.len.trans hi)⟩, fun d hd => ?_⟩
    obtain ⟨v, hv, rv⟩ := r2.get hd
    refine ⟨⟨vs, v, h2, hv⟩, fun x H3 y => ?_⟩
    obtain ⟨rfl, y⟩ := y
    have := y vs h2
    rw [hv] at this
    cases this
    exact ⟨F2, Ext.refl, wd, rv⟩
theorem walk_of_tup {K : PySem.W.Frag} {mg : Str → Option Value} {F : Fz} {ι : List Addr} {H : Hp} {ds : List D} {a : Addr} {vs : List V} (h : TupAt K F H a vs) (r : Reps K mg F ι H ds vs) : WalkD K mg F ι H (Itt K a) ds :=
  fun F2 ι2 H2 S2 wd gr i => by
    have h2 := (h.mono gr.sub gr.stay).sq
    have r2 := reps_mono gr.sub gr.stay gr.pre ds vs r
    refine ⟨fun hi => ⟨vs, h2, Nat.le_of_eq (r.len.trans hi)⟩, fun d hd => ?_⟩
    obtain ⟨v, hv, rv⟩ := r2.get hd
    refine ⟨⟨vs, v, h2, hv⟩, fun x H3 y => ?_⟩
    obtain ⟨rfl, y⟩ := y
    have := y vs h2
    rw [hv] at this
    cases this
    exact ⟨F2, Ext.refl, wd, rv⟩
theorem walk_of_range {K : PySem.W.Frag} {mg : Str → Option Value} {F : Fz} {ι : List Addr} {H : Hp} (lo : Int) (n : Nat) : WalkD K mg F ι H (Itr lo n) ((List.range n).map fun i => .int (lo + (i : Nat))) :=
  fun F2 ι2 H2 S2 wd gr i => by
    refine ⟨fun hi => Nat.le_of_eq (by simpa using hi : n = i), fun d hd => ?_⟩
    rw [List.getElem?_map] at hd
    by_cases hi : i < n
    · rw [List.getElem?_range hi] at hd
      cases hd
      exact ⟨hi, fun x H3 ⟨e1, e2⟩ => by subst e1; subst e2; exact ⟨F2, Ext.refl, wd, rfl⟩⟩
    · rw [List.getElem?_eq_none (by simpa using hi)] at hd; cases hd
theorem _root_.L2.PI.or {tg iter : Expr} {t t' : TI} (h1 : PI X tg iter t) (h2 : PI X tg iter t') : PI X tg iter (fun σ H R => t σ H R ∨ t' σ H R) :=
  ⟨fun pins s σ H R I q => q.elim (h1.run pins s σ H R I) (h2.run pins s σ H R I)⟩
theorem i_seq {l : Expr} {f : Ex D} (he : VE X E l f) : VI X E tg l (mItems f) := fun g => ((pi_list (he g)).or (pi_tup (he g))).imp fun σ H R ⟨F, ι, env, S, w, q⟩ => by
  unfold mItems at q
  cases hf : f env S with
  | bad => rw [hf] at q; exact q.elim
  | ex c ns es S1 => exact .inl ⟨F, ι, env, S, w, by rw [hf] at q ⊢; exact q⟩
  | ok d S1 =>
    rw [hf] at q
    cases d with
    | lst xs =>
      refine .inl ⟨F, ι, env, S, w, ?_⟩
      rw [hf]
      intro H1 F1 ι1 e1 w1 v hv
      obtain ⟨a, vs, rfl, hl, hr⟩ := hv
      exact ⟨a, rfl, ⟨vs, hl.sq⟩, q H1 F1 ι1 e1 w1 _ (walk_of_list (fun h1 h2 => (hl.mono h1 h2).sq) hr)⟩
    | ro xs =>
      refine .inl ⟨F, ι, env, S, w, ?_⟩
      rw [hf]
      intro H1 F1 ι1 e1 w1 v hv
      obtain ⟨a, vs, rfl, hl, hr⟩ := hv
      exact ⟨a, rfl, ⟨vs, hl.sq⟩, q H1 F1 ι1 e1 w1 _ (walk_of_list (fun h1 h2 => (hl.mono h1 h2).sq) hr)⟩
    | tup xs =>
      refine .inr ⟨F, ι, env, S, w, ?_⟩
      rw [hf]
      intro H1 F1 ι1 e1 w1 v hv
      obtain ⟨a, vs, rfl, hl, hr⟩ := hv
      exact ⟨a, rfl, ⟨vs, hl.sq⟩, q H1 F1 ι1 e1 w1 _ (walk_of_tup hl hr)⟩
    | _ => exact q.elim
/-- range -/
def smallI (i : Int) : Bool := decide (-1000000000 ≤ i ∧ i ≤ 1000000000)
def range1D : List D → List Cell → Rs (List D)
  | [.int j], S => if smallI j then .ok ((List.range j.toNat).map fun i => .int (i : Nat)) S else .bad
  | _, _ => .bad
def range2D : List D → List Cell → Rs (List D)
  | [.int i, .int j], S => if smallI i && smallI j then .ok ((List.range (j - i).toNat).map fun k => .int (i + (k : Nat))) S else .bad
  | _, _ => .bad
/-- range(i, j, -1) -/
def rangeBD : List D → List Cell → Rs (List D)
  | [.int i, .int j, .int c], S => if smallI i && smallI j && c == -1 then .ok ((List.range (i - j).toNat).map fun k => .int (i - (k : Nat))) S else .bad
  | _, _ => .bad
def mRange1 (fa : Ex (List D)) : Ex (List D) := fun env S => (fa env S).andThen range1D
def mRange2 (fa : Ex (List D)) : Ex (List D) := fun env S => (fa env S).andThen range2D
def mRangeB (fa : Ex (List D)) : Ex (List D) := fun env S => (fa env S).andThen rangeBD
theorem small_of {i : Int} (h : smallI i = true) : -(2 ^ 62) ≤ i ∧ i < 2 ^ 62 := by
  have := of_decide_eq_true h
  omega
theorem i_range1 {p : Pos} (hm : X.mg "range" = none) (ha : VA X E [a] fa) (hg : Gl X "range" := by rfl) (hs : starEach [a] X.env = [(false, eval a X.env)] := by rfl) : VI X E tg (.Call (.Name "range" p) [a] [] pos) (mRange1 fa) := fun g =>
  (pi_range1 hg hm (ha g) hs).imp fun σ H R ⟨F, ι, env, S, w, q⟩ => ⟨F, ι, env, S, w, rd_mono (rd_then q) fun xs H1 F1 ι1 S1 hx e1 w1 ⟨_, _, q1⟩ vs hvs => by
    unfold range1D at q1
    split at q1
    · obtain ⟨v, r, rfl, rfl, rfl⟩ := hvs
      split at q1
      · rename_i j S1 hj
        obtain ⟨h1, h2⟩ := small_of hj
        refine ⟨j, rfl, h1, h2, (q1 H1 F1 ι1 Ext.refl w1).2.2 _ ?_⟩
        have := walk_of_range (K := X.K) (mg := X.mg) (F := F1) (ι := ι1) (H := H1) 0 j.toNat
        simpa only [Int.zero_add] using this
      · exact q1.elim
    · exact q1.elim⟩
theorem i_range2 {p : Pos} (hm : X.mg "range" = none) (ha : VA X E [a, b] fa) (hg : Gl X "range" := by rfl) (hs : starEach [a, b] X.env = [(false, eval a X.env), (false, eval b X.env)] := by rfl)
    (hs2 : starEach [b] X.env = [(false, eval b X.env)] := by rfl) : VI X E tg (.Call (.Name "range" p) [a, b] [] pos) (mRange2 fa) := fun g =>
  (pi_range2 hg hm (ha g) hs hs2).imp fun σ H R ⟨F, ι, env, S, w, q⟩ => ⟨F, ι, env, S, w, rd_mono (rd_then q) fun xs H1 F1 ι1 S1 hx e1 w1 ⟨_, _, q1⟩ vs hvs => by
    unfold range2D at q1
    split at q1
    · obtain ⟨v, r, rfl, rfl, v2, r2, rfl, rfl, rfl⟩ := hvs
      split at q1
      · rename_i i j S1 hj
        rw [Bool.and_eq_true] at hj
        obtain ⟨h1, h2⟩ := small_of hj.1
        obtain ⟨h3, h4⟩ := small_of hj.2
        exact ⟨i, j, rfl, ⟨h1, h2, h3, h4⟩, (q1 H1 F1 ι1 Ext.refl w1).2.2 _ (walk_of_range i (j - i).toNat)⟩
      · exact q1.elim
    · exact q1.elim⟩
end
end DL

/-! DLg: enumerate and zip over lists and tuples alike. -/
namespace DL
open PySem PySem.Spec L2
open PyProof.Rows hiding St

/-- a sequence that is read: a tuple (b), a list -/
def SqX (b : Bool) (K : PySem.W.Frag) (H : Hp) (a : Addr) (xs : List V) : Prop := if b = true then SqT K H a xs else SqL K H a xs
def AtX (b : Bool) (h : Heap) (a : Addr) (its : Array Value) : Prop := if b = true then h.IsTuple a its else h.IsList a its
def ItX (b : Bool) (h : Heap) (it a : Addr) (i : Nat) : Prop := if b = true then h.IsTupleIter it a i else h.IsListIter it a i
def itO (b : Bool) (a : Addr) : Obj := if b = true then { cls := .type "tuple_iterator", data := .fields #[.ref a, .int 0 0] } else { cls := .type "list_iterator", data := .fields #[.ref a, .int 0 0] }
section
variable {b : Bool} {h h' : Heap} {a it : Addr} {its : Array Value} {i : Nat}
theorem AtX.obj (x : AtX b h a its) : ∃ o, h.get? a = some o ∧ o.cls = .type (if b = true then "tuple" else "list") := by
  cases b
  · obtain ⟨o, e, c, _⟩ := (show h.IsList a its from x); exact ⟨o, e, c⟩
  · obtain ⟨o, e, c, _⟩ := (show h.IsTuple a its from x); exact ⟨o, e, c⟩
theorem ItX.obj (x : ItX b h it a i) : ∃ o, h.get? it = some o ∧ o.cls = .type (if b = true then "tuple_iterator" else "list_iterator") ∧ ∃ vs, o.data = .fields vs := by
  cases b
  · obtain ⟨o, e, c, d⟩ := (show h.IsListIter it a i from x); exact ⟨o, e, c, _, d⟩
  · obtain ⟨o, e, c, d⟩ := (show h.IsTupleIter it a i from x); exact ⟨o, e, c, _, d⟩
theorem ItX.at (x : ItX b h it a i) (k : ∀ o, h.get? it = some o → h'.get? it = some o) : ItX b h' it a i := by
  cases b
  · exact (show h.IsListIter it a i from x).at k
  · exact (show h.IsTupleIter it a i from x).at k
theorem AtX.keeps (x : AtX b h a its) (k : ∀ b o, h.get? b = some o → h'.get? b = some o) : AtX b h' a its := by
  cases b
  · exact (show h.IsList a its from x).at fun o e => k a o e
  · exact (show h.IsTuple a its from x).at fun o e => k a o e
theorem ItX.apart {b' : Bool} {c : Addr} (x : ItX b h it a i) (y : AtX b' h c its) : c ≠ it := fun z => by
  obtain ⟨o, e, k, _⟩ := x.obj
  obtain ⟨o', e', k'⟩ := y.obj
  rw [z, e] at e'
  cases e'
  rw [k] at k'
  cases b <;> cases b' <;> simp at k'
theorem begX (b : Bool) (a : Addr) (its : Array Value) : Begins (.ref a) (itO b a) fun h => AtX b h a its := by
  cases b
  · exact begins_list a its
  · exact begins_tuple a its
theorem itX_new {h : Heap} {it : Addr} (e : h.get? it = some (itO b a)) : ItX b h it a 0 := by
  cases b
  · exact ⟨_, e, rfl, rfl⟩
  · exact ⟨_, e, rfl, rfl⟩
theorem drawX (b : Bool) {prog : Program} {w : World} {A : Around} (hh : A.handled = none) (it a : Addr) (hne : a ≠ it) (its : Array Value) :
    Draws prog w A it [it, a] its.size (fun i v => its[i]? = some v) (fun i h => ItX b h it a i ∧ AtX b h a its) := by
  cases b
  · exact Draws.list hh it a hne its
  · exact Draws.tuple hh it a hne its
end
theorem seqX {X : Cx} {pins : List (Addr × Obj)} {σ : St} {H : Hp} {s : Shared} {b : Bool} {a : Addr} {xs : List V} (I : Inv X pins σ H s) (h : SqX b X.K H a xs) : ∃ its : List Value, Vals xs its ∧ AtX b s.heap a its.toArray := by
  cases b
  · obtain ⟨its, r, p, _⟩ := I.list (show SqL X.K H a xs from h); exact ⟨its, r, p.isList⟩
  · obtain ⟨its, r, p, _⟩ := I.tuple (show SqT X.K H a xs from h); exact ⟨its, r, p⟩
theorem seqX_inj {X : Cx} {pins : List (Addr × Obj)} {σ : St} {H : Hp} {s : Shared} {b : Bool} {a : Addr} {xs ys : List V} (I : Inv X pins σ H s) (h : SqX b X.K H a xs) (h' : SqX b X.K H a ys) : xs = ys := by
  cases b
  · exact I.list_inj h h'
  · exact I.tuple_inj h h'
/-- an iterator's own object is none of what is walked -/
theorem fp_far {X : Cx} {pins : List (Addr × Obj)} {σ : St} {H : Hp} {s : Shared} {b : Bool} {a c : Addr} {xs : List V} (I : Inv X pins σ H s) (f : FpOk X pins H c) (h : SqX b X.K H a xs) (e : c = a) : False := by
  subst e
  obtain ⟨f0, _, _, f3, _⟩ := f
  have kb : ∀ o, X.K.lookup c = some o → False := fun o ho => by
    have hb := I.ok.mod.kin c o ho
    rcases f3 with z | z
    · exact I.ok.noex c o hb z
    · exact absurd (Nat.lt_of_lt_of_le (Heap.lt_size hb) (Nat.le_trans I.ok.bsz z)) (Nat.lt_irrefl _)
  cases b
  · rcases (show SqL X.K H c xs from h) with (q | ⟨_, q⟩) | ⟨o, _, _, ho, _⟩
    · rw [f0] at q; cases q
    · rw [f0] at q; cases q
    · exact kb o ho
  · rcases (show SqT X.K H c xs from h) with (q | ⟨_, q⟩) | ⟨o, _, _, ho, _⟩
    · rw [f0] at q; cases q
    · rw [f0] at q; cases q
    · exact kb o ho
theorem mem_two {α : Type} {x a b : α} (h : x ∈ [a, b]) : x = a ∨ x = b := by simpa using h
/-- enumerate over such -/
def EnX (b : Bool) (K : PySem.W.Frag) (a : Addr) : It where
  go := fun i H => ∃ (xs : List V) (x : V), SqX b K H a xs ∧ xs[i]? = some x
  yld := fun i H v H' => ∃ T x, v = .ref T ∧ H T = none ∧ H' = upd H T (.tup [.int (i : Nat), x]) ∧ ∀ xs, SqX b K H a xs → xs[i]? = some x
  stop := fun i H => ∃ xs : List V, SqX b K H a xs ∧ xs.length = i
theorem turn_enX {b : Bool} {P : Program} {w : World} {K : PySem.W.Frag} {elts : List Expr} {kk : Nat} {tpos : Pos} (a e it : Addr) :
    Turn P w K (.Tuple elts kk tpos) (EnX b K a) [e, it] e (fun i h => (∃ old, IsEnum h e it ((i : Nat) : Int) old) ∧ ItX b h it a i ∧ e ≠ it) where
  mem := List.mem_cons_self
  obj := fun i h ⟨⟨old, he⟩, hi, _⟩ c hc => by
    rcases mem_two hc with rfl | rfl
    · exact ⟨_, he, fun v q => nomatch q⟩
    · obtain ⟨o, ho, _, vs, hd⟩ := hi.obj
      exact ⟨o, ho, fun v q => by rw [hd] at q; cases q⟩
  keep := fun i h h' ⟨⟨old, he⟩, hi, ne⟩ k => ⟨⟨old, k e List.mem_cons_self _ he⟩, hi.at fun o q => k it (List.mem_cons_of_mem _ List.mem_cons_self) o q, ne⟩
  item := by
    intro X e1 e2 e3 hc i pins s σ H E I hf st hg
    subst e1 e2 e3
    obtain ⟨⟨old, he⟩, hi, ne⟩ := st
    obtain ⟨xs, x, hq, hx⟩ := hg
    obtain ⟨its, rv, p⟩ := seqX I hq
    obtain ⟨u, hu, ru⟩ := rv.get hx
    have l1 : e < s.heap.objs.size := Heap.lt_size he
    have l2 : it < s.heap.objs.size := by obtain ⟨_, q, _⟩ := hi.obj; exact Heap.lt_size q
    have hea : e ≠ a := fun z => by
      obtain ⟨o, ho, hc⟩ := p.obj
      rw [← z, he] at ho
      cases ho
      cases b <;> simp at hc
    have hlt : i < its.toArray.size := by simpa using (List.getElem?_eq_some_iff.mp hu).1
    refine wpAny_pyNext_enum_itemC (drawX b (A := X.A.in1) (I.ok.hd hc) it a (hi.apart p) its.toArray) he ⟨hi, p⟩ hlt ne (by simp [ne, hea]) fun x' h' tk hx' ho hit' hT hsz hk => ?_
    have : x' = u := by
      have hx' : its.toArray[i]? = some x' := hx'
      rw [List.getElem?_toArray, hu] at hx'
      exact (Option.some.inj hx').symm
    subst this
    refine ⟨_, rfl, wpAny_letOwnedTupleGo_enum (s := { s with heap := h', toks := tk + 1 }) ho fun h'' he' sb => ?_⟩
    have hT2 : h''.get? s.heap.objs.size = some { cls := .type "tuple", data := .seq #[.int i tk, x'] } := (sb.2 _ (Nat.ne_of_gt l1)).trans hT
    have nw : ObjOk X.prog X.w (upd H s.heap.objs.size (.tup [.int (i : Nat), x])) h'' s.heap.objs.size (.tup [.int (i : Nat), x]) :=
      ⟨by show 2 ≤ sizeLine; decide, [.int i tk, x'], .cons ⟨_, rfl⟩ (.cons ru .nil), _, hT2, rfl, _, rfl⟩
    have J := I.turnedNew (t' := tk + 1) (ch := [e, it]) (h' := h'') (fun c ob hb q => by
      have hb' : c ≠ e ∧ c ≠ it := by simpa using hb
      exact (sb.2 c hb'.1).trans (hk c ob hb'.1 hb'.2 q)) hf (Nat.le_refl _) nw
    refine ⟨.ref s.heap.objs.size, _, J, rfl, ⟨_, x, rfl, I.hok.fresh (Nat.le_refl _), rfl, fun ys hy => by rw [seqX_inj I hy hq]; exact hx⟩, ⟨⟨x', ?_⟩, hit'.1.at fun o q => (sb.2 it (Ne.symm ne)).trans q, ne⟩, fun c hcm => ?_⟩
    · have e1 : ((i + 1 : Nat) : Int) = (i : Int) + 1 := Int.natCast_succ i
      rw [e1]
      exact he'
    · have hlt' : c < s.heap.objs.size := by
        rcases mem_two hcm with rfl | rfl
        · exact l1
        · exact l2
      rw [upd_ne (Nat.ne_of_lt hlt')]
      exact (hf c hcm).1
  done := by
    intro X e1 e2 e3 hc i pins s σ H E I hf st hg
    subst e1 e2 e3
    obtain ⟨⟨old, he⟩, hi, ne⟩ := st
    obtain ⟨xs, hq, hx⟩ := hg
    obtain ⟨its, rv, p⟩ := seqX I hq
    have hn : its.toArray.size = i := by rw [List.size_toArray, ← rv.length]; exact hx
    obtain ⟨f0, f1, f2, f3, f4, f5⟩ := hf it (List.mem_cons_of_mem _ List.mem_cons_self)
    have D := drawX (prog := X.prog) (w := X.w) b (A := X.A.in1) (I.ok.hd hc) it a (hi.apart p) its.toArray
    rw [← hn] at hi
    exact wpAny_pyNext_enum_endD D he ⟨hi, p⟩ fun h' eb => ⟨rfl, I.turned (t' := s.toks) (fun c o hb q => eb c o hb q) f0 f1 f3 f4 f5⟩
  self := fun A i s Q E ⟨⟨_, he⟩, _⟩ h => wpAny_pyIter_enum he h
theorem meets_enum1 {v : Value} {o : Obj} {H : Heap → Prop} (B : Begins v o H) :
    Meets (Builtin.«enumerate.__new__» ⟨[.type "enumerate", v], []⟩) (fun _ R s => H s.heap ∧
      R (.ok (.ret (.ref (s.heap.push o).objs.size))) { s with heap := (s.heap.push o).push { cls := .type "enumerate", data := .fields #[.none, .bool false, .ref s.heap.objs.size, rawInt 0, .none, .none] } }) :=
  .of_wp fun prog w A R s h => by
    obtain ⟨hp, gn, dr, tk, os⟩ := s
    obtain ⟨h1, h⟩ := h
    have sb := sub_enumerate
    have go : ∀ {A' : Around} {E : Value → Shared → Prop} {Q : Value → Shared → Prop}, Q (.ref hp.objs.size) ⟨hp.push o, gn, dr, tk, os⟩ → wpAny (model prog w) A' (pyIter v) Q E ⟨hp, gn, dr, tk, os⟩ :=
      fun q => B.iter prog w _ _ ⟨hp, gn, dr, tk, os⟩ _ h1 q
    wp_walk using go
    refine wpAny_stack_any fun st => wpAny_pure ?_
    split
    · rename_i c _ _ _ _ _
      cases (c == Value.type "enumerate") <;> (wp_walk using go) <;> exact ⟨_, rfl, h⟩
    · wp_walk using go
      exact ⟨_, rfl, h⟩
theorem call_enum1 {prog : Program} {w : World} {A : Around} {E : Value → Shared → Prop} {s : Shared} {v : Value} {o : Obj} {H : Heap → Prop} {Q : Value → Shared → Prop} (B : Begins v o H) (h1 : H s.heap)
    (h : ∀ h', IsEnum h' (s.heap.objs.size + 1) s.heap.objs.size 0 .none → h'.get? s.heap.objs.size = some o → (∀ b o, s.heap.get? b = some o → h'.get? b = some o) → Q (.ref (s.heap.objs.size + 1)) { s with heap := h' }) :
    wpAny (model prog w) A (call (.type "enumerate") [v]) Q E s := by
  refine callType_new F.called_enumerate (by decide) (F.typeCall_enumerate_1 _) (F.newCall_enumerate_1 _) (fun obj => F.args_object_init_2 obj _) F.entry_enumerate_new (meets_enum1 B) ⟨h1, ?_⟩
  have hz : (s.heap.push o).objs.size = s.heap.objs.size + 1 := Heap.size_push ..
  show _ ∧ _
  rw [hz]
  have he : IsEnum ((s.heap.push o).push { cls := .type "enumerate", data := .fields #[.none, .bool false, .ref s.heap.objs.size, rawInt 0, .none, .none] }) (s.heap.objs.size + 1) s.heap.objs.size 0 .none := by
    have q := Heap.get?_push_size (s.heap.push o) (o := { cls := .type "enumerate", data := .fields #[.none, .bool false, .ref s.heap.objs.size, rawInt 0, .none, .none] }) rfl
    rwa [hz] at q
  exact ⟨⟨_, he, rfl⟩, h _ he (Heap.get?_push_of_some _ (Heap.get?_push_size _ B.free)) fun b ob x => Heap.get?_push_of_some _ (Heap.get?_push_of_some _ x)⟩
section
variable {X : Cx} {E : EE} {e e2 : Expr} {elts : List Expr} {kk : Nat} {pos tpos p : Pos} {fa : Ex (List D)} {ta : TA}
theorem pi_enX (hg : Gl X "enumerate") (hm : X.mg "enumerate" = none) (ha : PA X [e] ta) (hs : starEach [e] X.env = [(false, eval e X.env)] := by rfl) :
    PI X (.Tuple elts kk tpos) (.Call (.Name "enumerate" p) [e] [] pos) (fun σ H R => ta σ H fun vs H1 => ∃ b a xs, vs = [.ref a] ∧ SqX b X.K H1 a xs ∧ R (EnX b X.K a) H1) := by
  constructor
  intro pins s σ H R I h
  refine Call_ (ld_blt I hg hm boot_enumerate (PyProof.Rows.callWith_type1 (thn (ha.run pos pins s σ H _ I h) ?_) hs rfl))
  rintro us s1 ⟨vs, H1, I1, r1, b, a, xs, rfl, hq, q⟩
  obtain ⟨u, rfl, ru⟩ := vals1 r1
  cases ru
  obtain ⟨its, rv, pl⟩ := seqX I1 hq
  refine call_enum1 (begX b a its.toArray) pl fun h' he hi hk => wpAny_pyIter_enum he ?_
  have nw : ∀ c ∈ [s1.heap.objs.size + 1, s1.heap.objs.size], s1.heap.objs.size ≤ c := fun c hc => by
    rcases mem_two hc with rfl | rfl
    · exact Nat.le_succ _
    · exact Nat.le_refl _
  exact ⟨_, [s1.heap.objs.size + 1, s1.heap.objs.size], _, EnX b X.K a, H1, rfl, I1.kept (t' := s1.toks) hk, turn_enX a (s1.heap.objs.size + 1) s1.heap.objs.size, ⟨⟨.none, he⟩, itX_new hi, Nat.succ_ne_self _⟩,
    fun c hc => I1.fpOk (nw c hc) (I1.hok.fresh (nw c hc)), q⟩
/-- zip of two such -/
def ZpX (b1 b2 : Bool) (K : PySem.W.Frag) (a1 a2 : Addr) : It where
  go := fun i H => ∃ (xs ys : List V) (x y : V), SqX b1 K H a1 xs ∧ SqX b2 K H a2 ys ∧ xs[i]? = some x ∧ ys[i]? = some y
  yld := fun i H v H' => ∃ T x y, v = .ref T ∧ H T = none ∧ H' = upd H T (.tup [x, y]) ∧ (∀ xs, SqX b1 K H a1 xs → xs[i]? = some x) ∧ ∀ ys, SqX b2 K H a2 ys → ys[i]? = some y
  stop := fun i H => ∃ xs ys : List V, SqX b1 K H a1 xs ∧ SqX b2 K H a2 ys ∧ i ≤ xs.length ∧ i ≤ ys.length ∧ (i = xs.length ∨ i = ys.length)
/-- the five cells of a zip over two iterators stand apart, and apart from what is walked -/
structure Five (z TI TO i1 i2 : Addr) : Prop where
  nd : [z, TI, TO, i1, i2].Nodup
theorem turn_zpX {b1 b2 : Bool} {P : Program} {w : World} {K : PySem.W.Frag} {a1 a2 z TI TO i1 i2 : Addr} (D : Five z TI TO i1 i2) :
    Turn P w K (.Tuple elts kk tpos) (ZpX b1 b2 K a1 a2) [z, TI, TO, i1, i2] z (fun i h => IsZip h z TI TO .none ∧ IsTupOf2 h TI (.ref i1) (.ref i2) ∧ (∃ x y, IsTupOf2 h TO x y) ∧ ItX b1 h i1 a1 i ∧ ItX b2 h i2 a2 i) := by
  have nd : z ≠ TI ∧ z ≠ TO ∧ z ≠ i1 ∧ z ≠ i2 ∧ TI ≠ TO ∧ TI ≠ i1 ∧ TI ≠ i2 ∧ TO ≠ i1 ∧ TO ≠ i2 ∧ i1 ≠ i2 := by
    have := D.nd
    simp only [List.nodup_cons, List.mem_cons, not_or, List.not_mem_nil, not_false_eq_true, and_true] at this
    exact ⟨this.1.1, this.1.2.1, this.1.2.2.1, this.1.2.2.2, this.2.1.1, this.2.1.2.1, this.2.1.2.2, this.2.2.1.1, this.2.2.1.2, this.2.2.2.1⟩
  obtain ⟨n1, n2, n3, n4, n5, n6, n7, n8, n9, n10⟩ := nd
  -- what is walked is none of the five
  have far : ∀ {b : Bool} {h : Heap} {a : Addr} {its : Array Value} {i : Nat}, IsZip h z TI TO .none → (∃ x y, IsTupOf2 h TO x y) → ItX b1 h i1 a1 i → ItX b2 h i2 a2 i → AtX b h a its → z ≠ a ∧ i1 ≠ a ∧ i2 ≠ a := fun {b h a its i} hz _ h1 h2 y =>
    ⟨fun q => by
      obtain ⟨o, ho, hc⟩ := y.obj
      rw [← q, hz] at ho
      cases ho
      cases b <;> simp at hc, fun q => h1.apart y q.symm, fun q => h2.apart y q.symm⟩
  refine ⟨List.mem_cons_self, ?_, ?_, ?_, ?_, fun A i s Q E h q => wpAny_pyIter_zip h.1 q⟩
  · rintro i h ⟨hz, hTI, ⟨x, y, hTO⟩, h1, h2⟩ c hc
    simp only [List.mem_cons, List.not_mem_nil, or_false] at hc
    rcases hc with rfl | rfl | rfl | rfl | rfl
    · exact ⟨_, hz, fun v q => nomatch q⟩
    · exact ⟨_, hTI, fun v q => nomatch q⟩
    · exact ⟨_, hTO, fun v q => nomatch q⟩
    · obtain ⟨o, ho, _, vs, hd⟩ := h1.obj
      exact ⟨o, ho, fun v q => by rw [hd] at q; cases q⟩
    · obtain ⟨o, ho, _, vs, hd⟩ := h2.obj
      exact ⟨o, ho, fun v q => by rw [hd] at q; cases q⟩
  · rintro i h h' ⟨hz, hTI, ⟨x, y, hTO⟩, h1, h2⟩ k
    exact ⟨k z (by simp) _ hz, k TI (by simp) _ hTI, ⟨x, y, k TO (by simp) _ hTO⟩, h1.at fun o q => k i1 (by simp) o q, h2.at fun o q => k i2 (by simp) o q⟩
  · intro X e1 e2 e3 hc i pins s σ H E I hf st hg
    subst e1 e2 e3
    obtain ⟨hz, hTI, ⟨x0, y0, hTO⟩, h1, h2⟩ := st
    obtain ⟨xs, ys, x, y, qx, qy, hx, hy⟩ := hg
    obtain ⟨its1, r1, p1⟩ := seqX I qx
    obtain ⟨its2, r2, p2⟩ := seqX I qy
    obtain ⟨u1, hu1, ru1⟩ := r1.get hx
    obtain ⟨u2, hu2, ru2⟩ := r2.get hy
    have zl : z < s.heap.objs.size := Heap.lt_size hz
    obtain ⟨f1, f2, f3⟩ := far hz ⟨_, _, hTO⟩ h1 h2 p1
    obtain ⟨g1, g2, g3⟩ := far hz ⟨_, _, hTO⟩ h1 h2 p2
    have apartTO : TO ≠ a1 ∧ TO ≠ a2 := by
      have t1 : H TO = none := (hf TO (by simp)).1
      refine ⟨fun q => ?_, fun q => ?_⟩
      · exact fp_far I (hf TO (by simp)) qx q
      · exact fp_far I (hf TO (by simp)) qy q
    have sep : ZipSep2 z TI TO i1 i2 [i1, a1] [i2, a2] := ⟨n1.symm, n2.symm, n5, n6, List.mem_cons_self, by simp [n3, f1], by simp [n8, apartTO.1], n7, List.mem_cons_self, by simp [n4, g1], by simp [n9, apartTO.2], by simp [n10, g2], by simp [n10.symm, f3]⟩
    have l1 : i < its1.toArray.size := by simpa using (List.getElem?_eq_some_iff.mp hu1).1
    have l2 : i < its2.toArray.size := by simpa using (List.getElem?_eq_some_iff.mp hu2).1
    refine wpAny_pyNext_zipD2_item sep (drawX b1 (A := X.A.in1) (I.ok.hd hc) i1 a1 (h1.apart p1) its1.toArray) (drawX b2 (A := X.A.in1) (I.ok.hd hc) i2 a2 (h2.apart p2) its2.toArray) hz hTI hTO ⟨h1, p1⟩ ⟨h2, p2⟩ l1 l2
      fun v1 v2 h' tk hv1 hv2 z' TO' s1' s2' hT hsz hk => ?_
    have e1 : v1 = u1 := by
      have hv : its1.toArray[i]? = some v1 := hv1
      rw [List.getElem?_toArray, hu1] at hv
      exact (Option.some.inj hv).symm
    have e2 : v2 = u2 := by
      have hv : its2.toArray[i]? = some v2 := hv2
      rw [List.getElem?_toArray, hu2] at hv
      exact (Option.some.inj hv).symm
    subst e1 e2
    refine ⟨_, rfl, wpAny_letOwnedTupleGo_zip (s := { s with heap := h', toks := tk }) z' fun h'' z'' sb => ?_⟩
    have hT2 : h''.get? s.heap.objs.size = some { cls := .type "tuple", data := .seq #[v1, v2] } := (sb.2 _ (Nat.ne_of_gt zl)).trans hT
    have nw : ObjOk X.prog X.w (upd H s.heap.objs.size (.tup [x, y])) h'' s.heap.objs.size (.tup [x, y]) :=
      ⟨by show 2 ≤ sizeLine; decide, [v1, v2], .cons ru1 (.cons ru2 .nil), _, hT2, rfl, _, rfl⟩
    have J := I.turnedNew (t' := tk) (ch := [z, TI, TO, i1, i2]) (h' := h'') (fun c ob hb q => by
      simp only [List.mem_cons, List.not_mem_nil, or_false, not_or] at hb
      exact (sb.2 c hb.1).trans (hk c ob hb.1 hb.2.2.1 hb.2.2.2.1 hb.2.2.2.2 q)) hf (Nat.le_refl _) nw
    refine ⟨.ref s.heap.objs.size, _, J, rfl, ⟨_, x, y, rfl, I.hok.fresh (Nat.le_refl _), rfl, fun l hl => by rw [seqX_inj I hl qx]; exact hx, fun l hl => by rw [seqX_inj I hl qy]; exact hy⟩, ⟨z'', ?_, ⟨v1, v2, ?_⟩, ?_, ?_⟩, fun c hcm => ?_⟩
    · exact (sb.2 _ n1.symm).trans (hk _ _ n1.symm n5 n6 n7 hTI)
    · exact (sb.2 _ n2.symm).trans TO'
    · exact s1'.1.at fun o q => (sb.2 _ n3.symm).trans q
    · exact s2'.1.at fun o q => (sb.2 _ n4.symm).trans q
    · have lt' : c < s.heap.objs.size := by
        simp only [List.mem_cons, List.not_mem_nil, or_false] at hcm
        rcases hcm with rfl | rfl | rfl | rfl | rfl
        · exact zl
        · exact Heap.lt_size hTI
        · exact Heap.lt_size hTO
        · obtain ⟨_, q, _⟩ := h1.obj; exact Heap.lt_size q
        · obtain ⟨_, q, _⟩ := h2.obj; exact Heap.lt_size q
      rw [upd_ne (Nat.ne_of_lt lt')]
      exact (hf c hcm).1
  · intro X e1 e2 e3 hc i pins s σ H E I hf st hg
    subst e1 e2 e3
    obtain ⟨hz, hTI, ⟨x0, y0, hTO⟩, h1, h2⟩ := st
    obtain ⟨xs, ys, qx, qy, lx, ly, hend⟩ := hg
    obtain ⟨its1, r1, p1⟩ := seqX I qx
    obtain ⟨its2, r2, p2⟩ := seqX I qy
    obtain ⟨f1, f2, f3⟩ := far hz ⟨_, _, hTO⟩ h1 h2 p1
    obtain ⟨g1, g2, g3⟩ := far hz ⟨_, _, hTO⟩ h1 h2 p2
    have t1 : TO ≠ a1 := fun q => fp_far I (hf TO (by simp)) qx q
    have t2 : TO ≠ a2 := fun q => fp_far I (hf TO (by simp)) qy q
    have sep : ZipSep2 z TI TO i1 i2 [i1, a1] [i2, a2] := ⟨n1.symm, n2.symm, n5, n6, List.mem_cons_self, by simp [n3, f1], by simp [n8, t1], n7, List.mem_cons_self, by simp [n4, g1], by simp [n9, t2], by simp [n10, g2], by simp [n10.symm, f3]⟩
    have e1 := r1.length
    have e2 := r2.length
    refine wpAny_pyNext_zipD2_end sep (drawX b1 (A := X.A.in1) (I.ok.hd hc) i1 a1 (h1.apart p1) its1.toArray) (drawX b2 (A := X.A.in1) (I.ok.hd hc) i2 a2 (h2.apart p2) its2.toArray) hz hTI hTO ⟨h1, p1⟩ ⟨h2, p2⟩
      (by rw [List.size_toArray]; omega) (by rw [List.size_toArray]; omega) (by rw [List.size_toArray, List.size_toArray]; omega) fun h' tk hk => ⟨rfl, I.turnedL (t' := tk) (ch := [z, TI, TO, i1, i2]) (fun c o hb q => ?_) hf⟩
    simp only [List.mem_cons, List.not_mem_nil, or_false, not_or] at hb
    exact hk c o hb.1 hb.2.2.1 hb.2.2.2.1 hb.2.2.2.2 q
theorem pi_zpX (hg : Gl X "zip") (hm : X.mg "zip" = none) (ha : PA X [e, e2] ta) (hs : starEach [e, e2] X.env = (false, eval e X.env) :: starEach [e2] X.env := by rfl) (hp : (backTo pos (starEach [e2] X.env)).any (·.1) = false := by rfl) :
    PI X (.Tuple elts kk tpos) (.Call (.Name "zip" p) [e, e2] [] pos) (fun σ H R => ta σ H fun vs H1 => ∃ b1 b2 a1 a2 xs ys, vs = [.ref a1, .ref a2] ∧ SqX b1 X.K H1 a1 xs ∧ SqX b2 X.K H1 a2 ys ∧ R (ZpX b1 b2 X.K a1 a2) H1) := by
  constructor
  intro pins s σ H R I h
  refine Call_ (ld_blt I hg hm PyProof.Rows.boot_zip (PyProof.Rows.callWith_type1 (thn (ha.run pos pins s σ H _ I h) ?_) hs hp))
  rintro us s1 ⟨vs, H1, I1, r1, b1, b2, a1, a2, xs, ys, rfl, qx, qy, q⟩
  obtain ⟨u, u', rfl, ru, ru'⟩ := vals2 r1
  cases ru
  cases ru'
  obtain ⟨its1, rv1, p1⟩ := seqX I1 qx
  obtain ⟨its2, rv2, p2⟩ := seqX I1 qy
  refine zip_begins2 (begX b1 a1 its1.toArray) (begX b2 a2 its2.toArray) p1 p2 fun h' hz hTI hTO h1 h2 hsz hk => wpAny_pyIter_zip hz ?_
  have nw : ∀ c ∈ [s1.heap.objs.size + 4, s1.heap.objs.size + 2, s1.heap.objs.size + 3, s1.heap.objs.size, s1.heap.objs.size + 1], s1.heap.objs.size ≤ c := fun c hc => by
    simp only [List.mem_cons, List.not_mem_nil, or_false] at hc
    rcases hc with rfl | rfl | rfl | rfl | rfl <;> omega
  exact ⟨_, _, _, ZpX b1 b2 X.K a1 a2, H1, rfl, I1.kept (t' := s1.toks) hk, turn_zpX ⟨by simp⟩, ⟨hz, hTI, ⟨_, _, hTO⟩, itX_new h1, itX_new h2⟩, fun c hc => I1.fpOk (nw c hc) (I1.hok.fresh (nw c hc)), q⟩
/-! ### the mirrors -/
def seqOf : D → Option (Bool × List D)
  | .lst xs => some (false, xs)
  | .tup xs => some (true, xs)
  | .ro xs => some (false, xs)
  | _ => none
theorem seq_at {K : PySem.W.Frag} {mg : Str → Option Value} {F : Fz} {ι : List Addr} {H : Hp} {d : D} {v : V} {b : Bool} {xs : List D} (h : Rep K mg F ι H d v) (e : seqOf d = some (b, xs)) :
    ∃ a vs, v = .ref a ∧ Reps K mg F ι H xs vs ∧ ∀ {F2 : Fz} {H2 : Hp}, (∀ a, F a → F2 a) → Stay F H H2 → SqX b K H2 a vs := by
  cases d with
  | lst ys =>
    cases e
    obtain ⟨a, vs, rfl, hl, hr⟩ := h
    exact ⟨a, vs, rfl, hr, fun h1 h2 => (hl.mono h1 h2).sq⟩
  | ro ys =>
    cases e
    obtain ⟨a, vs, rfl, hl, hr⟩ := h
    exact ⟨a, vs, rfl, hr, fun h1 h2 => (hl.mono h1 h2).sq⟩
  | tup ys =>
    cases e
    obtain ⟨a, vs, rfl, hl, hr⟩ := h
    exact ⟨a, vs, rfl, hr, fun h1 h2 => (hl.mono h1 h2).sq⟩
  | _ => cases e
def pairsI (xs : List D) : List D := xs.mapIdx fun i d => .tup [.int (i : Nat), d]
def enumD : List D → List Cell → Rs (List D)
  | [d], S => match seqOf d with
    | some (_, xs) => .ok (pairsI xs) S
    | none => .bad
  | _, _ => .bad
def mEnum (fa : Ex (List D)) : Ex (List D) := fun env S => (fa env S).andThen enumD
def pairsZ (xs ys : List D) : List D := List.zipWith (fun x y => .tup [x, y]) xs ys
def zipD : List D → List Cell → Rs (List D)
  | [d, d'], S => match seqOf d, seqOf d' with
    | some (_, xs), some (_, ys) => .ok (pairsZ xs ys) S
    | _, _ => .bad
  | _, _ => .bad
def mZip (fa : Ex (List D)) : Ex (List D) := fun env S => (fa env S).andThen zipD
/-- a new pair -/
theorem new_pair {K : PySem.W.Frag} {mg : Str → Option Value} {F : Fz} {ι : List Addr} {H : Hp} {S : List Cell} {T : Addr} {x y : V} {d d' : D} (w : Wd K mg F ι H S) (n : H T = none) (r : Rep K mg F ι H d x) (r' : Rep K mg F ι H d' y) :
    ∃ F3, Ext H F ι (upd H T (.tup [x, y])) F3 ι ∧ Wd K mg F3 ι (upd H T (.tup [x, y])) S ∧ Rep K mg F3 ι (upd H T (.tup [x, y])) (.tup [d, d']) (.ref T) := by
  obtain ⟨e, w'⟩ := w.lay (o := .tup [x, y]) n
  exact ⟨_, e, w', T, [x, y], rfl, .inl ⟨.inr rfl, .inl upd_same⟩, x, [y], rfl, w.rep e r, y, [], rfl, w.rep e r', rfl⟩
theorem i_enum (hm : X.mg "enumerate" = none) (ha : VA X E [e] fa) (hg : Gl X "enumerate" := by rfl) (hs : starEach [e] X.env = [(false, eval e X.env)] := by rfl) :
    VI X E (.Tuple elts kk tpos) (.Call (.Name "enumerate" p) [e] [] pos) (mEnum fa) := fun g => (pi_enX hg hm (ha g) hs).imp fun σ H R ⟨F, ι, env, S, w, q⟩ =>
  ⟨F, ι, env, S, w, rd_mono (rd_then q) fun ds H1 F1 ι1 S1 _ e1 w1 ⟨_, _, q1⟩ vs hvs => by
    unfold enumD at q1
    split at q1
    · rename_i d S1
      obtain ⟨v, r, rfl, hv, rfl⟩ := hvs
      split at q1
      · rename_i b xs hd
        obtain ⟨a, us, rfl, hr, hs⟩ := seq_at hv hd
        refine ⟨b, a, us, rfl, hs (fun _ h => h) (fun _ _ _ h => h), (q1 H1 F1 ι1 Ext.refl w1).2.2 _ ?_⟩
        intro F2 ι2 H2 S2 wd gr i
        have h2 := hs gr.sub gr.stay
        have r2 := reps_mono gr.sub gr.stay gr.pre xs us hr
        refine ⟨fun hi => ?_, fun d' hd' => ?_⟩
        · unfold pairsI at hi
          rw [List.length_mapIdx] at hi
          exact ⟨us, h2, r2.len.trans hi⟩
        · unfold pairsI at hd'
          rw [List.getElem?_mapIdx] at hd'
          cases hx : xs[i]? with
          | none => rw [hx] at hd'; cases hd'
          | some d0 =>
            rw [hx] at hd'
            have ed : d' = .tup [.int (i : Nat), d0] := by simpa using hd'.symm
            subst ed
            obtain ⟨u, hu, ru⟩ := r2.get hx
            refine ⟨⟨us, u, h2, hu⟩, fun x H3 ⟨T, x', ex, n, eH, fx⟩ => ?_⟩
            have := fx us h2
            rw [hu] at this
            cases this
            subst ex
            subst eH
            exact new_pair wd n rfl ru
      · exact q1.elim
    · exact q1.elim⟩
theorem i_zip (hm : X.mg "zip" = none) (ha : VA X E [e, e2] fa) (hg : Gl X "zip" := by rfl) (hs : starEach [e, e2] X.env = (false, eval e X.env) :: starEach [e2] X.env := by rfl)
    (hp : (backTo pos (starEach [e2] X.env)).any (·.1) = false := by rfl) : VI X E (.Tuple elts kk tpos) (.Call (.Name "zip" p) [e, e2] [] pos) (mZip fa) := fun g => (pi_zpX hg hm (ha g) hs hp).imp fun σ H R ⟨F, ι, env, S, w, q⟩ =>
  ⟨F, ι, env, S, w, rd_mono (rd_then q) fun ds H1 F1 ι1 S1 _ e1 w1 ⟨_, _, q1⟩ vs hvs => by
    unfold zipD at q1
    split at q1
    · rename_i d d' S1
      obtain ⟨v, r, rfl, hv, v', r', rfl, hv', rfl⟩ := hvs
      split at q1
      · rename_i b1 xs b2 ys hd hd'
        obtain ⟨a1, us, rfl, hr, hs⟩ := seq_at hv hd
        obtain ⟨a2, us', rfl, hr', hs'⟩ := seq_at hv' hd'
        refine ⟨b1, b2, a1, a2, us, us', rfl, hs (fun _ h => h) (fun _ _ _ h => h), hs' (fun _ h => h) (fun _ _ _ h => h), (q1 H1 F1 ι1 Ext.refl w1).2.2 _ ?_⟩
        intro F2 ι2 H2 S2 wd gr i
        have h2 := hs gr.sub gr.stay
        have h2' := hs' gr.sub gr.stay
        have r2 := reps_mono gr.sub gr.stay gr.pre xs us hr
        have r2' := reps_mono gr.sub gr.stay gr.pre ys us' hr'
        have l1 := r2.len
        have l2 := r2'.len
        refine ⟨fun hi => ?_, fun d' hd' => ?_⟩
        · unfold pairsZ at hi
          rw [List.length_zipWith] at hi
          exact ⟨us, us', h2, h2', by omega, by omega, by omega⟩
        · unfold pairsZ at hd'
          rw [List.getElem?_zipWith] at hd'
          split at hd'
          · rename_i x y hx hy
            have ed : d' = .tup [x, y] := by simpa using hd'.symm
            subst ed
            obtain ⟨u, hu, ru⟩ := r2.get hx
            obtain ⟨u', hu', ru'⟩ := r2'.get hy
            refine ⟨⟨us, us', u, u', h2, h2', hu, hu'⟩, fun z H3 ⟨T, x', y', ex, n, eH, fx, fy⟩ => ?_⟩
            have := fx us h2
            rw [hu] at this
            cases this
            have := fy us' h2'
            rw [hu'] at this
            cases this
            subst ex
            subst eH
            exact new_pair wd n ru ru'
          · cases hd'
      · exact q1.elim
    · exact q1.elim⟩
end
end DL

/-! DLh: operations on data. -/
namespace DL
open PySem PySem.Spec L2
open PyProof.Rows hiding St

def okMul (i j : Int) : Bool := decide (i.natAbs.log2 + j.natAbs.log2 < 1000000)
def okDiv (j : Int) : Bool := decide (0 < j ∧ j.natAbs.log2 < 9000)
instance (i j : Int) : Decidable (CMulW i j) := inferInstanceAs (Decidable (_ < _))
instance (i j : Int) : Decidable (CDivW i j) := inferInstanceAs (Decidable (_ ∧ _))
instance (i j : Int) : Decidable (CPow i j) := inferInstanceAs (Decidable (_ ∧ _ ∧ _))
def okLen (n : Nat) : Bool := decide (n ≤ 100000)
theorem okLen_le {n : Nat} (h : okLen n = true) : n ≤ sizeLine := Nat.le_trans (of_decide_eq_true h) (by decide)
section
variable {X : Cx} {K : PySem.W.Frag} {mg : Str → Option Value}
/-! ### arithmetic -/
def addD : Op2 := fun x y _ => match x, y with
  | .int i, .int j => some (.int (i + j))
  | .str a, .str b => if okLen (a.length + b.length) then some (.str (a ++ b)) else none
  | .lst a, .lst b => if okLen (a.length + b.length) then some (.lst (a ++ b)) else none
  | .tup a, .tup b => if okLen (a.length + b.length) then some (.tup (a ++ b)) else none
  | _, _ => none
def rAddAll (K : PySem.W.Frag) : R2 := fun x y H Q => ((((∃ i j, x = .int i ∧ y = .int j ∧ Q (.int (i + j)) H) ∨ ∃ i j, x = .str i ∧ y = .str j ∧ i.length + j.length ≤ sizeLine ∧ Q (.str (i ++ j)) H)) ∨ rCat x y H Q) ∨ rCatA K x y H Q
theorem op_addAll : OpR X (binaryOp .Add) (rAddAll X.K) := ((op_add.or op_add_str).or op_cat).or op_catA
theorem ok_add : Ok2 K mg (rAddAll K) addD := by
  intro H F ι S x y d v u Q w rx ry ho t
  unfold addD at ho
  split at ho
  · cases ho
    exact .inl (.inl (.inl ⟨_, _, rx, ry, t.here w rfl⟩))
  · split at ho
    · rename_i hl
      cases ho
      exact .inl (.inl (.inr ⟨_, _, rx, ry, okLen_le hl, t.here w rfl⟩))
    · cases ho
  · split at ho
    · rename_i hl
      cases ho
      obtain ⟨a, vs, rfl, h1, h2⟩ := rx
      obtain ⟨b, us, rfl, h3, h4⟩ := ry
      refine .inl (.inr ⟨a, b, vs, us, rfl, rfl, h1.2, h3.2, ?_, fun p n => t.own.lay w (h2.app h4) n⟩)
      rw [h2.len, h4.len]
      exact okLen_le hl
    · cases ho
  · split at ho
    · rename_i a b hl
      cases ho
      obtain ⟨p, vs, rfl, h1, h2⟩ := rx
      obtain ⟨q, us, rfl, h3, h4⟩ := ry
      refine .inr ⟨p, q, vs, us, rfl, rfl, h1.sq, h3.sq, by rw [h2.len, h4.len]; exact okLen_le hl, fun e => ?_, fun _ e => ?_, fun _ _ c n => t.layT w (h2.app h4) n⟩
      · subst e
        have : a = [] := by have := h2.len; exact List.eq_nil_of_length_eq_zero this.symm
        subst this
        exact t.here w ⟨q, us, rfl, h3, h4⟩
      · subst e
        have : b = [] := by have := h4.len; exact List.eq_nil_of_length_eq_zero this.symm
        subst this
        rw [List.append_nil] at t
        exact t.here w ⟨p, vs, rfl, h1, h2⟩
    · cases ho
  · cases ho
/-- an operator on two ints -/
def intD (c : Int → Int → Bool) (f : Int → Int → D) : Op2 := fun x y _ => match x, y with
  | .int i, .int j => if c i j then some (f i j) else none
  | _, _ => none
theorem ok_int {C : Int → Int → Prop} {c : Int → Int → Bool} {f : Int → Int → D} {h : Int → Int → V} (hc : ∀ i j, c i j = true → C i j) (hr : ∀ i j F ι H, Rep K mg F ι H (f i j) (h i j)) : Ok2 K mg (rI C h) (intD c f) := by
  intro H F ι S x y d v u Q w rx ry ho t
  unfold intD at ho
  split at ho
  · split at ho
    · rename_i i j hcc
      cases ho
      exact ⟨i, j, rx, ry, hc i j hcc, t.here w (hr i j F ι H)⟩
    · cases ho
  · cases ho
theorem ok_int0 {f : Int → Int → D} {h : Int → Int → V} (hr : ∀ i j F ι H, Rep K mg F ι H (f i j) (h i j)) : Ok2 K mg (rI0 h) (intD (fun _ _ => true) f) := by
  intro H F ι S x y d v u Q w rx ry ho t
  unfold intD at ho
  split at ho
  · rw [if_pos rfl] at ho
    cases ho
    exact ⟨_, _, rx, ry, t.here w (hr _ _ F ι H)⟩
  · cases ho
def subD : Op2 := intD (fun _ _ => true) fun i j => .int (i - j)
def divD : Op2 := intD (fun _ j => okDiv j) fun i j => .int (i / j)
def modD : Op2 := intD (fun _ j => decide (0 < j)) fun i j => .int (i % j)
def ltD : Op2 := intD (fun _ _ => true) fun i j => .bl (decide (i < j))
def leD : Op2 := intD (fun _ _ => true) fun i j => .bl (decide (i ≤ j))
def gtD : Op2 := intD (fun _ _ => true) fun i j => .bl (decide (j < i))
def geD : Op2 := intD (fun _ _ => true) fun i j => .bl (decide (j ≤ i))
theorem ok_sub : Ok2 K mg (rI0 fun i j => .int (i - j)) subD := ok_int0 fun _ _ _ _ _ => rfl
theorem ok_div : Ok2 K mg (rI CDivW fun i j => .int (i / j)) divD := ok_int (fun _ _ h => of_decide_eq_true h) fun _ _ _ _ _ => rfl
theorem ok_mod : Ok2 K mg (rI (fun _ j => 0 < j) fun i j => .int (i % j)) modD := ok_int (fun _ _ h => of_decide_eq_true h) fun _ _ _ _ _ => rfl
theorem ok_lt : Ok2 K mg (rI0 fun i j => .bl (decide (i < j))) ltD := ok_int0 fun _ _ _ _ _ => rfl
theorem ok_le : Ok2 K mg (rI0 fun i j => .bl (decide (i ≤ j))) leD := ok_int0 fun _ _ _ _ _ => rfl
theorem ok_gt : Ok2 K mg (rI0 fun i j => .bl (decide (j < i))) gtD := ok_int0 fun _ _ _ _ _ => rfl
theorem ok_ge : Ok2 K mg (rI0 fun i j => .bl (decide (j ≤ i))) geD := ok_int0 fun _ _ _ _ _ => rfl
/-- a written power -/
def powD : Op2 := intD (fun i j => decide (0 ≤ j ∧ j ≤ 1000000 ∧ i.natAbs < 2 ^ 64)) fun i j => .int (i ^ j.toNat)
theorem ok_pow : Ok2 K mg (rI CPow fun i j => .int (i ^ j.toNat)) powD := ok_int (fun _ _ h => of_decide_eq_true h) fun _ _ _ _ _ => rfl
/-- int * int, list * int -/
def mulD : Op2 := fun x y _ => match x, y with
  | .int i, .int j => if okMul i j then some (.int (i * j)) else none
  | .lst a, .int k => if decide (-(2 ^ 63) ≤ k ∧ k < 2 ^ 63) && okLen (a.length * k.toNat) then some (.lst (List.replicate k.toNat a).flatten) else none
  | _, _ => none
theorem Reps.flat {F : Fz} {ι : List Addr} {H : Hp} {ds : List D} {vs : List V} (h : Reps K mg F ι H ds vs) : ∀ n : Nat, Reps K mg F ι H (List.replicate n ds).flatten (List.replicate n vs).flatten
  | 0 => rfl
  | n + 1 => by
    rw [List.replicate_succ, List.replicate_succ, List.flatten_cons, List.flatten_cons]
    exact h.app (Reps.flat h n)
def rMulAll : R2 := fun x y H Q => (rI CMulW (fun i j => .int (i * j)) x y H Q) ∨ rRep x y H Q
theorem op_mulAll : OpR X (binaryOp .Mult) rMulAll := op_mulW.or op_rep
theorem ok_mul : Ok2 K mg rMulAll mulD := by
  intro H F ι S x y d v u Q w rx ry ho t
  unfold mulD at ho
  split at ho
  · split at ho
    · rename_i i j hc
      cases ho
      exact .inl ⟨i, j, rx, ry, of_decide_eq_true hc, t.here w rfl⟩
    · cases ho
  · split at ho
    · rename_i a k hc
      cases ho
      rw [Bool.and_eq_true] at hc
      obtain ⟨h1, h2⟩ := of_decide_eq_true hc.1
      obtain ⟨l, vs, rfl, hl, hr⟩ := rx
      exact .inr ⟨l, k, vs, rfl, ry, hl.2, h1, h2, by rw [hr.len]; exact okLen_le hc.2, fun p n => t.own.lay w (hr.flat k.toNat) n⟩
    · cases ho
  · cases ho
def negD : Op1 := fun x _ => match x with
  | .int i => some (.int (-i))
  | _ => none
theorem ok_neg : Ok1 K mg (rU fun i => .int (-i)) negD := by
  intro H F ι S x d v Q w rx ho t
  unfold negD at ho
  split at ho
  · cases ho
    exact ⟨_, rx, t.here w rfl⟩
  · cases ho
/-! ### items -/
def ixD : Op2 := fun x y S => match x, y with
  | .lst xs, .int i => atI xs i
  | .tup xs, .int i => atI xs i
  | .ro xs, .int i => atI xs i
  | .cell n, .int i => match S[n]? with
    | some (.lst xs) => atI xs i
    | _ => none
  | .str s, .int i => if okLen s.length then (atI s.cps.toList i).map fun c => .str ⟨#[c]⟩ else none
  | _, _ => none
theorem Reps.atI {F : Fz} {ι : List Addr} {H : Hp} {ds : List D} {vs : List V} {i : Int} {d : D} (h : Reps K mg F ι H ds vs) (e : L2.atI ds i = some d) : ∃ v, L2.atI vs i = some v ∧ Rep K mg F ι H d v := by
  unfold L2.atI at e ⊢
  rw [h.len]
  cases hj : ixN ds.length i with
  | none => rw [hj] at e; cases e
  | some j =>
    rw [hj] at e
    exact h.get e
def rIxAll (K : PySem.W.Frag) : R2 := fun x y H Q => (rIxL K x y H Q ∨ rIxT K x y H Q) ∨ rIxS x y H Q
theorem ix_all : IxR X (rIxAll X.K) := (ix_list.or ix_tup).or ix_str
theorem ok_ix : Ok2 K mg (rIxAll K) ixD := by
  intro H F ι S x y d v u Q w rx ry ho t
  unfold ixD at ho
  split at ho
  · obtain ⟨a, vs, rfl, hl, hr⟩ := rx
    obtain ⟨z, h1, h2⟩ := hr.atI ho
    exact .inl (.inl ⟨a, vs, _, z, rfl, ry, hl.sq, h1, t.here w h2⟩)
  · obtain ⟨a, vs, rfl, hl, hr⟩ := rx
    obtain ⟨z, h1, h2⟩ := hr.atI ho
    exact .inl (.inr ⟨a, vs, _, z, rfl, ry, hl.sq, h1, t.here w h2⟩)
  · obtain ⟨a, vs, rfl, hl, hr⟩ := rx
    obtain ⟨z, h1, h2⟩ := hr.atI ho
    exact .inl (.inl ⟨a, vs, _, z, rfl, ry, hl.sq, h1, t.here w h2⟩)
  · obtain ⟨a, rfl, ha⟩ := rx
    split at ho
    · rename_i xs hs
      obtain ⟨vs, h1, hr⟩ := w.cells _ _ a hs ha
      obtain ⟨z, h3, h4⟩ := hr.atI ho
      exact .inl (.inl ⟨a, vs, _, z, rfl, ry, .inl (.inl h1), h3, t.here w h4⟩)
    · cases ho
  · split at ho
    · rename_i s i hl
      cases hc : L2.atI s.cps.toList i with
      | none => rw [hc] at ho; cases ho
      | some c =>
        rw [hc] at ho
        cases ho
        exact .inr ⟨s, i, c, rx, ry, okLen_le hl, hc, t.here w rfl⟩
    · cases ho
  · cases ho
/-! ### slices -/
def SlD (K : PySem.W.Frag) (mg : Str → Option Value) (r : V → Option Int → Option Int → Hp → VK → Prop) (op : D → Option Int → Option Int → Option D) : Prop :=
  ∀ H F ι S x lo hi d v Q, Wd K mg F ι H S → Rep K mg F ι H x v → op x lo hi = some d → Told K mg H F ι S d Q → r v lo hi H Q
def cutD (xs : List D) (lo hi : Option Int) : List D := (xs.drop (HT.sIx xs.length 0 lo)).take (HT.sIx xs.length xs.length hi - HT.sIx xs.length 0 lo)
def sliceD : D → Option Int → Option Int → Option D := fun x lo hi => match x with
  | .lst xs => some (.lst (cutD xs lo hi))
  | .ro xs => some (.lst (cutD xs lo hi))
  | .tup xs => some (.tup (cutD xs lo hi))
  | .str s => if okLen s.length then some (.str (cutS s lo hi)) else none
  | _ => none
theorem Reps.cut {F : Fz} {ι : List Addr} {H : Hp} {ds : List D} {vs : List V} (h : Reps K mg F ι H ds vs) (lo hi : Option Int) : Reps K mg F ι H (cutD ds lo hi) (cutV vs lo hi) := by
  unfold cutD cutV
  rw [h.len]
  exact (h.drop _).take _
theorem SlR.or {r r' : V → Option Int → Option Int → Hp → VK → Prop} (h : SlR X r) (h' : SlR X r') : SlR X (fun x lo hi H Q => r x lo hi H Q ∨ r' x lo hi H Q) := by
  intro pins s σ H x v vl vu lo hi sl Q I rx hs pl pu q
  rcases q with q | q
  · exact h pins s σ H x v vl vu lo hi sl Q I rx hs pl pu q
  · exact h' pins s σ H x v vl vu lo hi sl Q I rx hs pl pu q
def rSlAll (K : PySem.W.Frag) : V → Option Int → Option Int → Hp → VK → Prop := fun x lo hi H Q => (rSlL K x lo hi H Q ∨ rSlA K x lo hi H Q) ∨ rSlS x lo hi H Q
theorem sl_all : SlR X (rSlAll X.K) := SlR.or (SlR.or sl_list sl_tupA) sl_str
theorem cut_whole {α : Type} {xs : List α} {lo hi : Option Int} (h : HT.sIx xs.length 0 lo = 0 ∧ HT.sIx xs.length xs.length hi = xs.length) : (xs.drop (HT.sIx xs.length 0 lo)).take (HT.sIx xs.length xs.length hi - HT.sIx xs.length 0 lo) = xs := by
  rw [h.1, h.2, List.drop_zero, Nat.sub_zero, List.take_length]
theorem ok_slice : SlD K mg (rSlAll K) sliceD := by
  intro H F ι S x lo hi d v Q w rx ho t
  unfold sliceD at ho
  split at ho
  · cases ho
    obtain ⟨a, vs, rfl, hl, hr⟩ := rx
    exact .inl (.inl ⟨a, vs, rfl, hl.sq, fun p n => t.own.lay w (hr.cut lo hi) n⟩)
  · cases ho
    obtain ⟨a, vs, rfl, hl, hr⟩ := rx
    exact .inl (.inl ⟨a, vs, rfl, hl.sq, fun p n => t.own.lay w (hr.cut lo hi) n⟩)
  · cases ho
    obtain ⟨a, vs, rfl, hl, hr⟩ := rx
    refine .inl (.inr ⟨a, vs, rfl, hl.sq, fun hw => ?_, fun _ p n => t.layT w (hr.cut lo hi) n⟩)
    rw [hr.len] at hw
    unfold cutD at t
    rw [cut_whole hw] at t
    exact t.here w ⟨a, vs, rfl, hl, hr⟩
  · split at ho
    · rename_i hl
      cases ho
      exact .inr ⟨_, rx, okLen_le hl, t.here w rfl⟩
    · cases ho
  · cases ho
abbrev ExO := Ex (Option Int)
def mNoPart : ExO := fun _ S => .ok none S
def asI : D → List Cell → Rs (Option Int)
  | .int i, S => .ok (some i) S
  | _, _ => .bad
def mPart (f : Ex D) : ExO := fun env S => (f env S).andThen asI
def tPo (K : PySem.W.Frag) (mg : Str → Option Value) (g : Snap) (E : EE) (f : ExO) : TO := fun σ H Q => ∃ F ι env S, RS K mg g σ H F ι env S ∧ rdAt K mg g E σ H F ι env (fun o H' _ _ _ => Q o H') (f env S)
def VP (X : Cx) (E : EE) (e : Option Expr) (f : ExO) : Prop := ∀ g, PO X e (tPo X.K X.mg g E f)
theorem _root_.L2.PO.imp {X : Cx} {e : Option Expr} {t t' : TO} (p : PO X e t) (h : ∀ σ H Q, t' σ H Q → t σ H Q) : PO X e t' := ⟨fun pins s σ H Q I q => p.run pins s σ H Q I (h σ H Q q)⟩
variable {E : EE} {e : Expr} {f : Ex D} {lo hi : Option Expr} {fl fh : ExO} {pos p2 : Pos}
theorem p_none : VP X E none mNoPart := fun g => po_none.imp fun σ H Q ⟨F, ι, env, S, w, q⟩ => q H F ι Ext.refl w
theorem p_some (h : VE X E e f) : VP X E (some e) (mPart f) := fun g => (po_some (h g)).imp fun σ H Q ⟨F, ι, env, S, w, q⟩ =>
  ⟨F, ι, env, S, w, rd_mono (rd_then q) fun d H1 F1 ι1 S1 _ e1 w1 ⟨_, _, q1⟩ v hv => by
    cases d with
    | int i => exact ⟨i, hv, (q1 H1 F1 ι1 Ext.refl w1).2.2⟩
    | _ => exact q1.elim⟩
def mSlice (op : D → Option Int → Option Int → Option D) (f : Ex D) (fl fh : ExO) : Ex D := fun env S => (f env S).andThen fun x S1 => (fl env S1).andThen fun l S2 => (fh env S2).andThen fun h S3 => ofO (op x l h) S3
theorem v_slice {r : V → Option Int → Option Int → Hp → VK → Prop} {op : D → Option Int → Option Int → Option D} (hr : SlR X r) (ok : SlD X.K X.mg r op) (he : VE X E e f) (hl : VP X E lo fl) (hu : VP X E hi fh) :
    VE X E (.Subscript e (.Slice lo hi none p2) pos) (mSlice op f fl fh) := fun g => (pe_slice hr (he g) (hl g) (hu g)).imp fun σ H Q ⟨F, ι, env, S, w, q⟩ =>
  ⟨F, ι, env, S, w, rd_mono (rd_then q) fun x H1 F1 ι1 S1 _ e1 w1 ⟨_, _, q1⟩ v hv => ⟨F1, ι1, env, S1, w1, rd_mono (rd_then q1) fun l H2 F2 ι2 S2 _ e2 w2 ⟨_, _, q2⟩ =>
    ⟨F2, ι2, env, S2, w2, rd_mono (rd_then q2) fun u H3 F3 ι3 S3 _ e3 w3 ⟨_, _, q3⟩ => by
      cases ho : op x l u with
      | none => rw [ho] at q3; exact q3.elim
      | some d =>
        rw [ho] at q3
        refine ok H3 F3 ι3 S3 x l u d v Q w3.wd (w2.wd.rep e3 (w1.wd.rep e2 hv)) ho fun v' H' F' ι' e' w' hv' => ?_
        exact (q3 H' F' ι' e' (w3.step e' w')).2.2.2.2.2.2 v' hv'⟩⟩⟩
/-! ### data compared -/
mutual
def toP : D → Option PyData
  | .non => some .none
  | .bl b => some (.bool b)
  | .int i => some (.int i)
  | .str s => some (.str s)
  | .tup xs => (toPs xs).map .tuple
  | .lst xs => (toPs xs).map .list
  | .ro xs => (toPs xs).map .list
  | _ => none
def toPs : List D → Option (List PyData)
  | [] => some []
  | d :: ds => match toP d, toPs ds with
    | some p, some ps => some (p :: ps)
    | _, _ => none
end
mutual
theorem toP_dp {F : Fz} {ι : List Addr} {H : Hp} : ∀ (d : D) (v : V) (p : PyData), Rep K mg F ι H d v → toP d = some p → Dp K H v p
  | .non, _, _, h, e => by cases e; rw [show _ = _ from h]; exact .non
  | .bl _, _, _, h, e => by cases e; rw [show _ = _ from h]; exact .bl _
  | .int _, _, _, h, e => by cases e; rw [show _ = _ from h]; exact .int _
  | .str _, _, _, h, e => by cases e; rw [show _ = _ from h]; exact .str _
  | .tup xs, _, p, h, e => by
    obtain ⟨a, vs, rfl, hl, hr⟩ := h
    unfold toP at e
    cases he : toPs xs with
    | none => rw [he] at e; cases e
    | some ps => rw [he] at e; cases e; exact .tup hl.sq (toPs_dp xs vs ps hr he)
  | .lst xs, _, p, h, e => by
    obtain ⟨a, vs, rfl, hl, hr⟩ := h
    unfold toP at e
    cases he : toPs xs with
    | none => rw [he] at e; cases e
    | some ps => rw [he] at e; cases e; exact .lst hl.sq (toPs_dp xs vs ps hr he)
  | .ro xs, _, p, h, e => by
    obtain ⟨a, vs, rfl, hl, hr⟩ := h
    unfold toP at e
    cases he : toPs xs with
    | none => rw [he] at e; cases e
    | some ps => rw [he] at e; cases e; exact .lst hl.sq (toPs_dp xs vs ps hr he)
  | .dct _ _, _, _, _, e => by cases e
  | .obj _ _ _, _, _, _, e => by cases e
  | .cell _, _, _, _, e => by cases e
  | .ty _, _, _, _, e => by cases e
  | .cls _, _, _, _, e => by cases e
  | .exc _ _ _, _, _, _, e => by cases e
theorem toPs_dp {F : Fz} {ι : List Addr} {H : Hp} : ∀ (ds : List D) (vs : List V) (ps : List PyData), Reps K mg F ι H ds vs → toPs ds = some ps → DpAll K H vs ps
  | [], _, _, h, e => by cases e; rw [show _ = _ from h]; exact .nil
  | d :: ds, vs, ps, h, e => by
    obtain ⟨v, r, rfl, h1, h2⟩ := h
    unfold toPs at e
    cases e1 : toP d with
    | none => rw [e1] at e; cases e
    | some p =>
      cases e2 : toPs ds with
      | none => rw [e1, e2] at e; cases e
      | some qs => rw [e1, e2] at e; cases e; exact .cons (toP_dp d v p h1 e1) (toPs_dp ds r qs h2 e2)
end
def eqP (x y : D) : Option Bool := match toP x, toP y with
  | some p, some q => if SeqAt.shaped p && SeqAt.shaped q then some (PyData.eqv p q) else none
  | _, _ => none
def eqA (x y : D) : Option Bool := match x, y with
  | .str a, .str b => some (decide (a = b))
  | _, _ => eqP x y
def eqD : Op2 := fun x y _ => (eqA x y).map .bl
def neD : Op2 := fun x y _ => (eqA x y).map fun b => .bl (!b)
def rEqA (K : PySem.W.Frag) : R2 := fun x y H Q => rEqD K x y H Q ∨ rEq x y H Q
def rNeA (K : PySem.W.Frag) : R2 := fun x y H Q => rNeD K x y H Q ∨ rNe x y H Q
theorem op_eqAll {X : Cx} (hu : X.A.units + 64 < cLine) : OpR X (compareOp .Eq) (rEqA X.K) := (op_eqD hu).or op_eq
theorem op_neAll {X : Cx} (hu : X.A.units + 64 < cLine) : OpR X (compareOp .NotEq) (rNeA X.K) := (op_neD hu).or op_ne
theorem eqA_cases {x y : D} {b : Bool} (h : eqA x y = some b) : eqP x y = some b ∨ ∃ a c, x = .str a ∧ y = .str c ∧ b = decide (a = c) := by
  unfold eqA at h
  split at h
  · cases h; exact .inr ⟨_, _, rfl, rfl, rfl⟩
  · exact .inl h
theorem eqP_dp {F : Fz} {ι : List Addr} {H : Hp} {x y : D} {v u : V} {b : Bool} (rx : Rep K mg F ι H x v) (ry : Rep K mg F ι H y u) (h : eqP x y = some b) :
    ∃ p q, Dp K H v p ∧ Dp K H u q ∧ SeqAt.shaped p = true ∧ SeqAt.shaped q = true ∧ PyData.eqv p q = b := by
  unfold eqP at h
  split at h
  · rename_i p q hp hq
    split at h
    · rename_i hs
      rw [Bool.and_eq_true] at hs
      exact ⟨p, q, toP_dp x v p rx hp, toP_dp y u q ry hq, hs.1, hs.2, by simpa using h⟩
    · cases h
  · cases h
theorem ok_eq : Ok2 K mg (rEqA K) eqD := by
  intro H F ι S x y d v u Q w rx ry ho t
  unfold eqD at ho
  cases hb : eqA x y with
  | none => rw [hb] at ho; cases ho
  | some b =>
    rw [hb] at ho
    cases ho
    rcases eqA_cases hb with hb | ⟨a, c, rfl, rfl, rfl⟩
    · obtain ⟨p, q, h1, h2, h3, h4, h5⟩ := eqP_dp rx ry hb
      exact .inl ⟨p, q, h1, h2, h3, h4, by rw [h5]; exact t.here w rfl⟩
    · rw [show v = _ from rx, show u = _ from ry]
      refine .inr ⟨rfl, ?_⟩
      have e : decide (V.str a = V.str c) = decide (a = c) := by simp
      rw [e]
      exact t.here w rfl
theorem ok_ne : Ok2 K mg (rNeA K) neD := by
  intro H F ι S x y d v u Q w rx ry ho t
  unfold neD at ho
  cases hb : eqA x y with
  | none => rw [hb] at ho; cases ho
  | some b =>
    rw [hb] at ho
    cases ho
    rcases eqA_cases hb with hb | ⟨a, c, rfl, rfl, rfl⟩
    · obtain ⟨p, q, h1, h2, h3, h4, h5⟩ := eqP_dp rx ry hb
      exact .inl ⟨p, q, h1, h2, h3, h4, by rw [h5]; exact t.here w rfl⟩
    · rw [show v = _ from rx, show u = _ from ry]
      refine .inr ⟨rfl, ?_⟩
      have e : decide (V.str a = V.str c) = decide (a = c) := by simp
      rw [e]
      exact t.here w rfl
/-- x is None -/
def isND : Op2 := fun x y _ => match y, x with
  | .non, .non => some (.bl true)
  | .non, .cell _ => none
  | .non, _ => some (.bl false)
  | .bl b, .bl a => some (.bl (a == b))
  | _, _ => none
end
end DL

/-! DLi: built-ins by data, stores, lists of one's own. -/
namespace DL
open PySem PySem.Spec L2
open PyProof.Rows hiding St

section
variable {X : Cx} {K : PySem.W.Frag} {mg : Str → Option Value}
/-! ### built-in calls -/
def lenD : OpN := fun xs S => match xs with
  | [.lst a] => some (.int (a.length : Nat))
  | [.ro a] => some (.int (a.length : Nat))
  | [.tup a] => some (.int (a.length : Nat))
  | [.str s] => if okLen s.length then some (.int (s.length : Nat)) else none
  | [.cell n] => match S[n]? with
    | some (.lst a) => some (.int (a.length : Nat))
    | _ => none
  | _ => none
def rLenAll (K : PySem.W.Frag) : List V → Hp → VK → Prop := fun xs H Q => (∃ p ys, xs = [.ref p] ∧ (SqL K H p ys ∨ SqT K H p ys) ∧ Q (.int ys.length) H) ∨ ∃ x n, xs = [x] ∧ LenV K x H n ∧ Q (.int n) H
theorem CallR.or {f : Value} {r r' : List V → Hp → VK → Prop} (h : CallR X f r) (h' : CallR X f r') : CallR X f (fun xs H Q => r xs H Q ∨ r' xs H Q) := by
  intro pins s σ H xs us Q I rv q
  rcases q with q | q
  · exact h pins s σ H xs us Q I rv q
  · exact h' pins s σ H xs us Q I rv q
theorem call_lenAll : CallR X (.builtin "len") (rLenAll X.K) := CallR.or call_len_seq call_len
theorem one_of {F : Fz} {ι : List Addr} {H : Hp} {d : D} {vs : List V} (h : Reps K mg F ι H [d] vs) : ∃ v, vs = [v] ∧ Rep K mg F ι H d v := by
  obtain ⟨v, r, rfl, h1, rfl⟩ := h
  exact ⟨v, rfl, h1⟩
theorem two_of {F : Fz} {ι : List Addr} {H : Hp} {d d' : D} {vs : List V} (h : Reps K mg F ι H [d, d'] vs) : ∃ v u, vs = [v, u] ∧ Rep K mg F ι H d v ∧ Rep K mg F ι H d' u := by
  obtain ⟨v, r, rfl, h1, u, r2, rfl, h2, rfl⟩ := h
  exact ⟨v, u, rfl, h1, h2⟩
theorem ok_len : OkN K mg (rLenAll K) lenD := by
  intro H F ι S xs d vs Q w rx ho t
  unfold lenD at ho
  split at ho
  · cases ho
    obtain ⟨v, rfl, a, us, rfl, hl, hr⟩ := one_of rx
    exact .inl ⟨a, us, rfl, .inl hl.sq, by rw [hr.len]; exact t.here w rfl⟩
  · cases ho
    obtain ⟨v, rfl, a, us, rfl, hl, hr⟩ := one_of rx
    exact .inl ⟨a, us, rfl, .inl hl.sq, by rw [hr.len]; exact t.here w rfl⟩
  · cases ho
    obtain ⟨v, rfl, a, us, rfl, hl, hr⟩ := one_of rx
    exact .inl ⟨a, us, rfl, .inr hl.sq, by rw [hr.len]; exact t.here w rfl⟩
  · split at ho
    · rename_i hl
      cases ho
      obtain ⟨v, rfl, hv⟩ := one_of rx
      rw [show v = _ from hv]
      exact .inr ⟨_, _, rfl, ⟨okLen_le hl, rfl⟩, t.here w rfl⟩
    · cases ho
  · obtain ⟨v, rfl, a, rfl, ha⟩ := one_of rx
    split at ho
    · rename_i ys hs
      cases ho
      obtain ⟨us, h1, hr⟩ := w.cells _ _ a hs ha
      exact .inl ⟨a, us, rfl, .inl (.inl (.inl h1)), by rw [hr.len]; exact t.here w rfl⟩
    · cases ho
  · cases ho
def absD : OpN := fun xs _ => match xs with
  | [.int i] => some (.int (if i < 0 then -i else i))
  | _ => none
theorem ok_abs : OkN K mg (fun xs H Q => ∃ i, xs = [.int i] ∧ Q (.int (if i < 0 then -i else i)) H) absD := by
  intro H F ι S xs d vs Q w rx ho t
  unfold absD at ho
  split at ho
  · cases ho
    obtain ⟨v, rfl, hv⟩ := one_of rx
    rw [show v = _ from hv]
    exact ⟨_, rfl, t.here w rfl⟩
  · cases ho
def toIntD : OpN := fun xs _ => match xs with
  | [.int i] => some (.int i)
  | [.bl b] => some (.int (if b = true then 1 else 0))
  | _ => none
theorem ok_toInt : OkN K mg (fun xs H Q => (∃ i, xs = [.int i] ∧ Q (.int i) H) ∨ ∃ k, xs = [.bl k] ∧ Q (.int (if k then 1 else 0)) H) toIntD := by
  intro H F ι S xs d vs Q w rx ho t
  unfold toIntD at ho
  split at ho
  · cases ho
    obtain ⟨v, rfl, hv⟩ := one_of rx
    rw [show v = _ from hv]
    exact .inl ⟨_, rfl, t.here w rfl⟩
  · cases ho
    obtain ⟨v, rfl, hv⟩ := one_of rx
    rw [show v = _ from hv]
    exact .inr ⟨_, rfl, t.here w rfl⟩
  · cases ho
def maxD : OpN := fun xs _ => match xs with
  | [.int i, .int j] => some (.int (if j > i then j else i))
  | _ => none
def minD : OpN := fun xs _ => match xs with
  | [.int i, .int j] => some (.int (if j < i then j else i))
  | _ => none
theorem ok_max : OkN K mg (fun xs H Q => ∃ i j, xs = [.int i, .int j] ∧ Q (.int (if j > i then j else i)) H) maxD := by
  intro H F ι S xs d vs Q w rx ho t
  unfold maxD at ho
  split at ho
  · cases ho
    obtain ⟨v, u, rfl, hv, hu⟩ := two_of rx
    rw [show v = _ from hv, show u = _ from hu]
    exact ⟨_, _, rfl, t.here w rfl⟩
  · cases ho
theorem ok_min : OkN K mg (fun xs H Q => ∃ i j, xs = [.int i, .int j] ∧ Q (.int (if j < i then j else i)) H) minD := by
  intro H F ι S xs d vs Q w rx ho t
  unfold minD at ho
  split at ho
  · cases ho
    obtain ⟨v, u, rfl, hv, hu⟩ := two_of rx
    rw [show v = _ from hv, show u = _ from hu]
    exact ⟨_, _, rfl, t.here w rfl⟩
  · cases ho
/-- tuple(list), tuple(tuple) -/
def tupleD : OpN := fun xs _ => match xs with
  | [.lst a] => some (.tup a)
  | [.ro a] => some (.tup a)
  | [.tup a] => some (.tup a)
  | _ => none
theorem ok_tuple : OkN K mg (fun xs H Q => ∃ p ys, xs = [.ref p] ∧ ((SqL K H p ys ∧ ∀ l, H l = none → Q (.ref l) (upd H l (.tup ys))) ∨ (SqT K H p ys ∧ Q (.ref p) H))) tupleD := by
  intro H F ι S xs d vs Q w rx ho t
  unfold tupleD at ho
  split at ho
  · cases ho
    obtain ⟨v, rfl, a, us, rfl, hl, hr⟩ := one_of rx
    exact ⟨a, us, rfl, .inl ⟨hl.sq, fun l n => t.layT w hr n⟩⟩
  · cases ho
    obtain ⟨v, rfl, a, us, rfl, hl, hr⟩ := one_of rx
    exact ⟨a, us, rfl, .inl ⟨hl.sq, fun l n => t.layT w hr n⟩⟩
  · cases ho
    obtain ⟨v, rfl, a, us, rfl, hl, hr⟩ := one_of rx
    exact ⟨a, us, rfl, .inr ⟨hl.sq, t.here w ⟨a, us, rfl, hl, hr⟩⟩⟩
  · cases ho
/-- list(list), list(tuple) -/
def listD : OpN := fun xs _ => match xs with
  | [.lst a] => some (.lst a)
  | [.ro a] => some (.lst a)
  | [.tup a] => some (.lst a)
  | _ => none
theorem ok_list : OkN K mg (fun xs H Q => ∃ p ys, xs = [.ref p] ∧ (SqL K H p ys ∨ SqT K H p ys) ∧ ∀ l, H l = none → Q (.ref l) (upd H l (.lst ys))) listD := by
  intro H F ι S xs d vs Q w rx ho t
  unfold listD at ho
  split at ho
  · cases ho
    obtain ⟨v, rfl, a, us, rfl, hl, hr⟩ := one_of rx
    exact ⟨a, us, rfl, .inl hl.sq, fun l n => t.own.lay w hr n⟩
  · cases ho
    obtain ⟨v, rfl, a, us, rfl, hl, hr⟩ := one_of rx
    exact ⟨a, us, rfl, .inl hl.sq, fun l n => t.own.lay w hr n⟩
  · cases ho
    obtain ⟨v, rfl, a, us, rfl, hl, hr⟩ := one_of rx
    exact ⟨a, us, rfl, .inr hl.sq, fun l n => t.own.lay w hr n⟩
  · cases ho
def boolsOf : List D → Option (List Bool)
  | [] => some []
  | .bl b :: r => (boolsOf r).map (b :: ·)
  | _ => none
def intsOf : List D → Option (List Int)
  | [] => some []
  | .int i :: r => (intsOf r).map (i :: ·)
  | _ => none
theorem bools_vals {F : Fz} {ι : List Addr} {H : Hp} : ∀ {ds : List D} {bs : List Bool} {vs : List V}, boolsOf ds = some bs → Reps K mg F ι H ds vs → vs = bs.map V.bl
  | [], bs, vs, e, h => by cases e; exact h
  | d :: ds, bs, vs, e, h => by
    obtain ⟨v, r, rfl, h1, h2⟩ := h
    cases d with
    | bl b =>
      unfold boolsOf at e
      cases e2 : boolsOf ds with
      | none => rw [e2] at e; cases e
      | some cs =>
        rw [e2] at e
        cases e
        rw [show v = _ from h1, bools_vals e2 h2]
        rfl
    | _ => cases e
theorem ints_vals {F : Fz} {ι : List Addr} {H : Hp} : ∀ {ds : List D} {ns : List Int} {vs : List V}, intsOf ds = some ns → Reps K mg F ι H ds vs → vs = ns.map V.int
  | [], bs, vs, e, h => by cases e; exact h
  | d :: ds, bs, vs, e, h => by
    obtain ⟨v, r, rfl, h1, h2⟩ := h
    cases d with
    | int b =>
      unfold intsOf at e
      cases e2 : intsOf ds with
      | none => rw [e2] at e; cases e
      | some cs =>
        rw [e2] at e
        cases e
        rw [show v = _ from h1, ints_vals e2 h2]
        rfl
    | _ => cases e
theorem boolsOf_map : ∀ bs : List Bool, boolsOf (bs.map D.bl) = some bs
  | [] => rfl
  | b :: bs => by rw [List.map_cons]; unfold boolsOf; rw [boolsOf_map bs]; rfl
theorem intsOf_map : ∀ ns : List Int, intsOf (ns.map D.int) = some ns
  | [] => rfl
  | b :: bs => by rw [List.map_cons]; unfold intsOf; rw [intsOf_map bs]; rfl
theorem reps_ints {F : Fz} {ι : List Addr} {H : Hp} : ∀ ns : List Int, Reps K mg F ι H (ns.map D.int) (ns.map V.int)
  | [] => rfl
  | n :: ns => ⟨.int n, _, rfl, rfl, reps_ints ns⟩
def allD : OpN := fun xs _ => match xs with
  | [.lst a] => (boolsOf a).map fun bs => .bl (bs.all id)
  | _ => none
def anyD : OpN := fun xs _ => match xs with
  | [.lst a] => (boolsOf a).map fun bs => .bl (bs.any id)
  | _ => none
def sumD : OpN := fun xs _ => match xs with
  | [.lst a] => (intsOf a).map fun ns => .int ns.sum
  | _ => none
theorem ok_all : OkN K mg (rAll K) allD := by
  intro H F ι S xs d vs Q w rx ho t
  unfold allD at ho
  split at ho
  · rename_i a
    obtain ⟨v, rfl, p, us, rfl, hl, hr⟩ := one_of rx
    cases e : boolsOf a with
    | none => rw [e] at ho; cases ho
    | some bs =>
      rw [e] at ho
      cases ho
      have := bools_vals e hr
      subst this
      exact ⟨p, bs, rfl, hl.sq, t.here w rfl⟩
  · cases ho
theorem ok_any : OkN K mg (rAny K) anyD := by
  intro H F ι S xs d vs Q w rx ho t
  unfold anyD at ho
  split at ho
  · rename_i a
    obtain ⟨v, rfl, p, us, rfl, hl, hr⟩ := one_of rx
    cases e : boolsOf a with
    | none => rw [e] at ho; cases ho
    | some bs =>
      rw [e] at ho
      cases ho
      have := bools_vals e hr
      subst this
      exact ⟨p, bs, rfl, hl.sq, t.here w rfl⟩
  · cases ho
theorem ok_sum : OkN K mg (rSum K) sumD := by
  intro H F ι S xs d vs Q w rx ho t
  unfold sumD at ho
  split at ho
  · rename_i a
    obtain ⟨v, rfl, p, us, rfl, hl, hr⟩ := one_of rx
    cases e : intsOf a with
    | none => rw [e] at ho; cases ho
    | some ns =>
      rw [e] at ho
      cases ho
      have := ints_vals e hr
      subst this
      exact ⟨p, ns, rfl, hl.sq, t.here w rfl⟩
  · cases ho
/-! ### repr -/
def okShow (p : PyData) : Bool := p.showable && !p.hasDict && decide (p.depth ≤ 60) && decide (p.shown.length ≤ sizeLine)
def reprD : OpN := fun xs _ => match xs with
  | [d] => match toP d with
    | some p => if okShow p then some (.str p.shown) else none
    | none => none
  | _ => none
def rRepr (K : PySem.W.Frag) : List V → Hp → VK → Prop := fun xs H Q => ∃ x p, xs = [x] ∧ Dp K H x p ∧ okShow p = true ∧ Q (.str p.shown) H
theorem call_repr {k : Nat} (rm : Rm k X.A) : CallR X (.builtin "repr") (rRepr X.K) := by
  intro pins s σ H xs us Q I r h
  obtain ⟨x, p, rfl, hp, hk, q⟩ := h
  obtain ⟨u, rfl, ru⟩ := vals1 r
  obtain ⟨as, rd⟩ := Dp.reads I p x u hp ru
  simp only [okShow, Bool.and_eq_true, decide_eq_true_eq, Bool.not_eq_true'] at hk
  obtain ⟨⟨⟨h1, h2⟩, h3⟩, h4⟩ := hk
  have hu : X.A.units + (p.depth + 1) < cLine := by have := rm.room.units; omega
  cases hp with
  | non => cases ru; exact PySem.P.repr_of_none ⟨.str _, H, I.tok _, ⟨_, rfl⟩, q⟩
  | bl b => cases ru; exact PySem.P.repr_of_bool ⟨.str _, H, I.tok _, ⟨_, rfl⟩, q⟩
  | int i => obtain ⟨t, rfl⟩ := ru; exact PySem.P.repr_of_int (by simpa [PyData.showable] using h1) ⟨.str _, H, I.tok _, ⟨_, rfl⟩, q⟩
  | str z => obtain ⟨t, rfl⟩ := ru; exact PySem.P.repr_of_str ⟨.str _, H, I.tok _, ⟨_, rfl⟩, q⟩ h4
  | lst _ _ => cases ru; exact repr_of_reads' rd h1 (fun z => by rw [h2] at z; cases z) rm.quiet hu (fun _ _ e => e) (fun h' u' tk hk => ⟨.str _, H, I.kept hk, ⟨_, rfl⟩, q⟩) h4
  | tup _ _ => cases ru; exact repr_of_reads' rd h1 (fun z => by rw [h2] at z; cases z) rm.quiet hu (fun _ _ e => e) (fun h' u' tk hk => ⟨.str _, H, I.kept hk, ⟨_, rfl⟩, q⟩) h4
theorem ok_repr : OkN K mg (rRepr K) reprD := by
  intro H F ι S xs d vs Q w rx ho t
  unfold reprD at ho
  split at ho
  · rename_i x
    obtain ⟨v, rfl, hv⟩ := one_of rx
    split at ho
    · rename_i p hp
      split at ho
      · rename_i hk
        cases ho
        exact ⟨v, p, rfl, toP_dp x v p hv hp, hk, t.here w rfl⟩
      · cases ho
    · cases ho
  · cases ho
/-! ### isinstance of data and built-in classes -/
def tyName : D → Option String
  | .non => some "NoneType"
  | .bl _ => some "bool"
  | .int _ => some "int"
  | .str _ => some "str"
  | .tup _ => some "tuple"
  | .lst _ => some "list"
  | .ro _ => some "list"
  | .dct _ _ => some "dict"
  | _ => none
def tyNames : List String := ["NoneType", "bool", "int", "str", "tuple", "list", "dict"]
def isTB (a T : String) : Option Bool := if tyNames.contains a && tyNames.contains T then some (a == T || (a == "bool" && T == "int")) else none
theorem isTB_ok {a T : String} {b : Bool} (h : isTB a T = some b) : kitB a T = some b := by
  unfold isTB at h
  split at h
  · rename_i hc
    rw [Bool.and_eq_true] at hc
    have key : ∀ a ∈ tyNames, ∀ T ∈ tyNames, kitB a T = some (a == T || (a == "bool" && T == "int")) := by decide +kernel
    rw [key a (by simpa using hc.1) T (by simpa using hc.2)]
    exact h
  · cases h
theorem ty_at {F : Fz} {ι : List Addr} {H : Hp} {d : D} {v : V} {a : String} (h : Rep K mg F ι H d v) (e : tyName d = some a) : TyX K H v (.type a) := by
  cases d with
  | non => cases e; rw [show v = _ from h]; exact .base .non
  | bl b => cases e; rw [show v = _ from h]; exact .base (.bl b)
  | int i => cases e; rw [show v = _ from h]; exact .base (.int i)
  | str s => cases e; rw [show v = _ from h]; exact .base (.str s)
  | tup xs =>
    cases e
    obtain ⟨p, vs, rfl, hl, hr⟩ := h
    rcases hl.sq with (q | ⟨o, q⟩) | ⟨o, _, _, q, c, _⟩
    · exact .base (.tup q)
    · exact .fTuple q
    · exact .kTuple q c
  | lst xs =>
    cases e
    obtain ⟨p, vs, rfl, hl, hr⟩ := h
    exact .base (.lst hl.2)
  | ro xs =>
    cases e
    obtain ⟨p, vs, rfl, hl, hr⟩ := h
    rcases hl.sq with (q | ⟨o, q⟩) | ⟨o, _, _, q, c, _⟩
    · exact .base (.lst q)
    · exact .base (.frz q)
    · exact .kList q c
  | dct ks xs =>
    cases e
    obtain ⟨p, vs, rfl, hf, hl, _⟩ := h
    rcases hl with q | ⟨o, q⟩
    · exact .base (.dK q)
    · exact .fDict q
  | _ => cases e
def isBD : OpN := fun xs _ => match xs with
  | [d, .ty T] => match tyName d with
    | some a => (isTB a T).map .bl
    | none => none
  | _ => none
theorem ok_isB : OkN K mg (rIsi K) isBD := by
  intro H F ι S xs d vs Q w rx ho t
  unfold isBD at ho
  split at ho
  · rename_i x T
    obtain ⟨v, u, rfl, hv, hu⟩ := two_of rx
    split at ho
    · rename_i a ha
      cases hb : isTB a T with
      | none => rw [hb] at ho; cases ho
      | some b =>
        rw [hb] at ho
        cases ho
        rw [show u = _ from hu]
        exact ⟨v, .ty T, .type a, .type T, b, rfl, .ty T, ty_at hv ha, kit_ty (isTB_ok hb), t.here w rfl⟩
    · cases ho
  · cases ho
end
/-- a built-in class as a value -/
theorem v_bty {X : Cx} {E : EE} {x : Str} {n : String} {pos : Pos} (hm : X.mg x = none) (hv : bootBuiltins x = some (.type n)) (hg : Gl X x := by rfl) (hn : x ≠ "__name__" := by decide) (hd : (x == ("__debug__" : Str)) = false := by decide) :
    VE X E (.Name x pos) (mC (.ty n)) := v_const (pe_bltn (v := .ty n) hg hm hv rfl hn hd) fun _ _ _ => rfl

/-! ### targets that store -/
section
variable {K : PySem.W.Frag} {mg : Str → Option Value} (g : Snap) (E : EE)
def gAt (K : PySem.W.Frag) (mg : Str → Option Value) (H : Hp) (F : Fz) (ι : List Addr) (Q : L2.St → Hp → Prop) : Fl → Prop
  | .nx env' S' => ∀ σ' H' F' ι', RS K mg g σ' H' F' ι' env' S' → Grow H F ι H' F' ι' → Q σ' H'
  | .ex c ns ds e' S' => ∀ σ', ExTo K mg g E (Grow H F ι) c ns ds σ' e' S'
  | _ => False
def tG (K : PySem.W.Frag) (mg : Str → Option Value) (t : D → Sm) : TG := fun v σ H Q => ∃ F ι env S d, RS K mg g σ H F ι env S ∧ Rep K mg F ι H d v ∧ gAt g E K mg H F ι Q (t d env S)
def tGs (K : PySem.W.Frag) (mg : Str → Option Value) (t : List D → Sm) : TGs := fun vs σ H Q => ∃ F ι env S ds, RS K mg g σ H F ι env S ∧ Reps K mg F ι H ds vs ∧ gAt g E K mg H F ι Q (t ds env S)
end
def VG (X : Cx) (E : EE) (tg : Expr) (t : D → Sm) : Prop := ∀ g, PG X tg (tG g E X.K X.mg t)
def VGs (X : Cx) (E : EE) (tgs : List Expr) (t : List D → Sm) : Prop := ∀ g, PGs X tgs (tGs g E X.K X.mg t)
theorem _root_.L2.PGs.imp {X : Cx} {e : List Expr} {t t' : TGs} (p : PGs X e t) (h : ∀ v σ H Q, t' v σ H Q → t v σ H Q) : PGs X e t' := ⟨fun pins s σ H vs us Q I r q => p.run pins s σ H vs us Q I r (h vs σ H Q q)⟩
section
variable {X : Cx} {E : EE} {e o i : Expr} {es : List Expr} {f h : Ex D} {pos : Pos} {t : D → Sm} {ts : List D → Sm}
theorem gAt_grow {K : PySem.W.Frag} {mg : Str → Option Value} {g : Snap} {H H' : Hp} {F F' : Fz} {ι ι' : List Addr} {Q : L2.St → Hp → Prop} (w : Grow H F ι H' F' ι') : ∀ {fl : Fl}, gAt g E K mg H F ι Q fl → gAt g E K mg H' F' ι' Q fl
  | .nx _ _, q => fun σ2 H2 F2 ι2 r e => q σ2 H2 F2 ι2 r (w.trans e)
  | .ex _ _ _ _ _, q => fun σ' C d H' F' ι' hc w' r' hd => q σ' C d H' F' ι' hc w' (w.trans r') hd
  | .bk _ _, q => q
  | .ct _ _, q => q
  | .rt _ _, q => q
  | .bad, q => q
theorem rd_gAt {α : Type} {K : PySem.W.Frag} {mg : Str → Option Value} {g : Snap} {σ : L2.St} {H : Hp} {F : Fz} {ι : List Addr} {env : List Sl} {S : List Cell} {Q : L2.St → Hp → Prop} {r : Rs α} {h : α → List Cell → Fl} (w : Wd K mg F ι H S) (q : gAt g E K mg H F ι Q (r.go env h)) :
    rdAt K mg g E σ H F ι env (fun a H1 F1 ι1 S1 => Ext H F ι H1 F1 ι1 ∧ RS K mg g σ H1 F1 ι1 env S1 ∧ gAt g E K mg H1 F1 ι1 Q (h a S1)) r := by
  cases r with
  | bad => exact q
  | ex c ns ds S1 => exact fun C d H' F' ι' hc w' r' hd => q σ C d H' F' ι' hc w' (w.grow r') hd
  | ok a S1 => exact fun H1 F1 ι1 e1 r1 => ⟨e1, r1, gAt_grow (w.grow e1) q⟩
def gName' (k : Nat) : D → Sm := fun d env S => .nx (env.set k (.val d)) S
theorem g_name (k : Nat) {x : Str} (hN : X.N.Nodup) (hi : X.N[k]? = some x := by rfl) (hx : Loc X.env.scope x := by first | exact Or.inl rfl | exact Or.inr rfl) (hf : X.fn x = true ∨ X.env.scope.names.lookup x = some .local := by first | exact .inl rfl | exact .inr rfl) :
    VG X E (.Name x pos) (gName' k) := fun g => (pg_name hN hi hx hf).imp fun v σ H Q ⟨F, ι, env, S, d, w, r, q⟩ => q _ H F ι (w.put k r) Grow.refl
/-- o[i] = d, o a cell -/
def putC (o i d : D) (S : List Cell) : Option (List Cell) := match o, i with
  | .cell n, .int j => match S[n]? with
    | some (.lst xs) => (ixN xs.length j).map fun m => S.set n (.lst (xs.set m d))
    | _ => none
  | _, _ => none
def gSubC (f h : Ex D) : D → Sm := fun d env S => (f env S).go env fun x S1 => (h env S1).go env fun y S2 => match putC x y d S2 with
  | some S3 => .nx env S3
  | none => .bad
theorem g_subC (ho : VE X E o f) (hi : VE X E i h) (ha : ∀ v, assign (.Subscript o i pos) X.env v = (do
      let ov ← holding [v] (eval o X.env)
      let iv ← holding [v, ov] (eval i X.env)
      standAt pos
      holding [v, ov, iv] (setItem ov iv v)
      release [v, ov, iv] []) := by intro _; rfl) : VG X E (.Subscript o i pos) (gSubC f h) := fun g => (pg_sub (ho g) (hi g) set_list ha).imp fun v σ H Q ⟨F, ι, env, S, d, w, r, q⟩ =>
  ⟨F, ι, env, S, w, rd_mono (rd_gAt w.wd q) fun x H1 F1 ι1 S1 _ e1 w1 ⟨_, _, q1⟩ ov hov => ⟨F1, ι1, env, S1, w1, rd_mono (rd_gAt w1.wd q1) fun y H2 F2 ι2 S2 _ e2 w2 ⟨_, _, q2⟩ iv hiv => by
    have rd := w1.wd.rep e2 (w.wd.rep e1 r)
    have ro := w1.wd.rep e2 hov
    unfold putC at q2
    split at q2
    · rename_i S3 hp
      cases x with
      | cell n =>
        cases y with
        | int j =>
          dsimp only at hp
          cases hs : S2[n]? with
          | none => rw [hs] at hp; cases hp
          | some cl =>
            cases cl with
            | ins c ns xs => rw [hs] at hp; cases hp
            | lst xs =>
              rw [hs] at hp
              dsimp only at hp
              cases hm : ixN xs.length j with
              | none => rw [hm] at hp; cases hp
              | some m =>
                rw [hm] at hp
                cases hp
                obtain ⟨a, rfl, ha⟩ := ro
                obtain ⟨vs, h1, hr⟩ := w2.wd.cells _ _ a hs ha
                obtain ⟨w3, gr⟩ := w2.cell (n := n) (a := a) (o := .lst (vs.set m v)) (c' := .lst (xs.set m d)) ha fun H' hH' st => ⟨_, hH', reps_mono (fun _ h => h) st (List.prefix_refl _) _ _ (hr.set m rd)⟩
                exact ⟨a, vs, j, m, rfl, hiv, h1, by rw [hr.len]; exact hm, q2 _ _ _ _ w3 gr⟩
        | _ => cases hp
      | _ => cases hp
    · exact q2.elim⟩⟩
def gNil' : List D → Sm := fun ds env S => match ds with
  | [] => .nx env S
  | _ => .bad
def gCons' (t : D → Sm) (ts : List D → Sm) : List D → Sm := fun ds env S => match ds with
  | d :: r => match t d env S with
    | .nx e S' => ts r e S'
    | .ex c ns es e' S' => .ex c ns es e' S'
    | _ => .bad
  | [] => .bad
theorem gs_nil : VGs X E [] gNil' := fun g => pgs_nil.imp fun vs σ H Q ⟨F, ι, env, S, ds, w, r, q⟩ => by
  cases ds with
  | nil => exact ⟨r, q σ H F ι w Grow.refl⟩
  | cons d ds => exact q.elim
theorem gs_cons (h1 : VG X E e t) (h2 : VGs X E es ts) (hs : (assignEach (e :: es) X.env).map (·.2) = assign e X.env :: (assignEach es X.env).map (·.2) := by rfl) : VGs X E (e :: es) (gCons' t ts) := fun g => (pgs_cons (h1 g) (h2 g) hs).imp fun vs σ H Q ⟨F, ι, env, S, ds, w, r, q⟩ => by
  cases ds with
  | nil => exact q.elim
  | cons d ds =>
    obtain ⟨v, us, rfl, r1, r2⟩ := r
    refine ⟨v, us, rfl, F, ι, env, S, d, w, r1, ?_⟩
    have q : gAt g E X.K X.mg H F ι Q (match t d env S with
      | .nx e S' => ts ds e S'
      | .ex c ns es e' S' => .ex c ns es e' S'
      | _ => .bad) := q
    cases ht : t d env S with
    | nx e' S' => rw [ht] at q; exact fun σ' H' F' ι' w' gr => ⟨F', ι', e', S', ds, w', reps_mono gr.sub gr.stay gr.pre ds us r2, gAt_grow gr q⟩
    | ex c ns es' e' S' => rw [ht] at q; exact q
    | _ => rw [ht] at q; exact q.elim
def gTup' (ts : List D → Sm) : D → Sm := fun d env S => match d with
  | .tup ds => ts ds env S
  | .lst ds => ts ds env S
  | _ => .bad
theorem g_tup {k n : Nat} (hc : X.calm = true) (h : VGs X E es ts) (hlen : ∀ ds env S, ds.length ≠ n → ts ds env S = .bad) (hn : (assignEach es X.env).length = n := by rfl) (hst : (assignEach es X.env).findIdx? (·.1) = none := by rfl) :
    VG X E (.Tuple es k pos) (gTup' ts) := fun g => (pg_or (pg_tup hc (h g) hn hst) (pg_unl hc (h g) hn hst)).imp fun v σ H Q ⟨F, ι, env, S, d, w, r, q⟩ => by
  have fits : ∀ ds, gAt g E X.K X.mg H F ι Q (ts ds env S) → ds.length = n := fun ds q => by
    by_cases z : ds.length = n
    · exact z
    · rw [hlen ds env S z] at q; exact q.elim
  cases d with
  | tup ds =>
    obtain ⟨a, vs, rfl, hl, hr⟩ := r
    exact .inl ⟨a, vs, rfl, hl.sq, hr.len.trans (fits ds q), F, ι, env, S, ds, w, hr, q⟩
  | lst ds =>
    obtain ⟨a, vs, rfl, hl, hr⟩ := r
    exact .inr ⟨a, vs, rfl, hl.sq, hr.len.trans (fits ds q), F, ι, env, S, ds, w, hr, q⟩
  | _ => exact q.elim
def mAsg (f : Ex D) (t : D → Sm) : Sm := fun env S => (f env S).go env fun d S1 => t d env S1
theorem s_asg {tg : Expr} (he : VE X E e f) (hg : VG X E tg t) (hno : ∀ d env S, (∃ e S', t d env S = .nx e S') ∨ (∃ c ns ds e' S', t d env S = .ex c ns ds e' S') ∨ t d env S = .bad)
    (hs : swapsWithSole [tg] e pos.line X.env = pure false := by rfl) (hw : swappedStores [tg] e X.env = pure none := by rfl) (h1 : (assignEach [tg] X.env).map (·.2) = [assign tg X.env] := by rfl) :
    VS X E (.Assign [tg] e pos) (mAsg f t) := fun g => (ps_asg (he g) (hg g) hs hw h1).imp fun D σ H ⟨F, ι, env, S, w, q⟩ =>
  ⟨F, ι, env, S, w, rd_mono (rd_go w.wd q) fun d H1 F1 ι1 S1 _ e1 w1 ⟨_, _, q1⟩ v hv => ⟨F1, ι1, env, S1, d, w1, hv, by
    rcases hno d env S1 with ⟨e', S', h⟩ | ⟨c, ns, ds, e', S', h⟩ | h
    · rw [h] at q1 ⊢; exact q1
    · rw [h] at q1 ⊢; exact q1
    · rw [h] at q1; exact q1.elim⟩⟩
/-- xs.append(e), xs a list of one's own in slot k -/
def mApp (k : Nat) (f : Ex D) : Sm := fun env S => match env[k]? with
  | some (.own ds) => (f env S).go env fun d S1 => if okLen (ds.length + 1) then .nx (env.set k (.own (ds ++ [d]))) S1 else .bad
  | _ => .bad
theorem s_app (k : Nat) {x : Str} {px apos cpos : Pos} (he : VE X E e f) (hN : X.N[k]? = some x := by rfl) (hv : Vis X.env.scope x := by first | exact Or.inl rfl | exact Or.inr (Or.inl rfl) | exact Or.inr (Or.inr rfl))
    (h1 : attributeBase (.Name x px) "append" X.env (eval (.Name x px) X.env) = eval (.Name x px) X.env := by rfl)
    (h2 : ((backTo cpos (starEach [e] X.env)).all (fun x => !x.1) && (backToKw cpos (keywordEach [] X.env)).all (fun x => x.1.isSome)
      && decide ([e].length + ([] : List Keyword).length + (if ([] : List Keyword).isEmpty then 0 else 1) < 30)) = true := by rfl)
    (h3 : (apos.endLine == cpos.line) = true := by rfl) (h4 : starEach [e] X.env = (false, eval e X.env) :: starEach [] X.env := by rfl) (h5 : (backTo cpos (starEach [] X.env)).any (·.1) = false := by rfl)
    (hs : swapsWith (.Call (.Attribute (.Name x px) "append" apos) [e] [] cpos) none pos.line X.env = pure false := by rfl) (hd : (x == ("__debug__" : Str)) = false := by decide) (hcd : (x == ("__classdict__" : Str)) = false := by decide) :
    VS X E (.Expr (.Call (.Attribute (.Name x px) "append" apos) [e] [] cpos) pos) (mApp k f) := fun g =>
  (ps_expr (pe_bm PySem.F.plainAttrs_list PySem.F.slot_list_append PySem.F.type_list_append mt_append (pe_var hN hv hd hcd) (pa_cons (he g) pa_nil h4) h1 h2 h3 h4 h5) hs).imp fun D σ H ⟨F, ι, env, S, w, q⟩ => by
    unfold mApp at q
    split at q
    · rename_i ds hd'
      obtain ⟨a, vs, h1, h2, h3, h4, h5, h6⟩ := w.own k ds hd'
      refine ⟨.ref a, h1, .inl ⟨rfl, vs, .inl (.inl h2)⟩, F, ι, env, S, w, rd_mono (rd_go w.wd q) ?_⟩
      rintro d H1 F1 ι1 S1 - e1 w1 ⟨_, _, q1⟩ v hv
      split at q1
      · rename_i hl
        have k2 := e1.keep a _ h2 h5
        obtain ⟨w2, gr⟩ := w1.mutO (ds' := ds ++ [d]) (vs' := vs ++ [v]) hd' h1 ((w.wd.reps e1 h3).app (.one hv))
        refine ⟨a, vs, v, rfl, rfl, k2, ?_, q1 _ _ _ _ w2 gr⟩
        have := okLen_le hl
        rw [h3.len]
        omega
      · exact q1.elim
    · exact q.elim
end
end DL

/-! DLj: own exceptions over any built-in base: made, raised. -/
namespace DL
open PySem PySem.Spec L2
open PyProof.Rows hiding St
open Builtin Builtin.ObjectAttr

/-- object.__setattr__ of an exception that has no dict as yet -/
theorem osaG {prog : Program} {w : World} {A : Around} {R : Result → Shared → Prop} {hp : Heap} {g : Array GenState} {d : Drawn} {t : Nat} {os : OsState} {K : PySem.W.Frag} {name : Str} {bmB : List Value} {tk : Tok} {v : Value} {x C : Addr} {fv : Array Value} {Bn : String}
    (SF : StoreFacts Bn bmB "object.__setattr__" "object") (kin : K.In hp) (hx : hp.get? x = some { cls := .ref C, data := .fields fv }) (ov : PySem.W.excOver K C bmB = true) (hh : PySem.W.hasDictIn K C = true) (ht : PySem.W.takerIn K C name = some none)
    (go : ∀ h1 t1 dx, (∀ b o, b ≠ x → hp.get? b = some o → h1.get? b = some o) → hp.objs.size ≤ dx → dx ≠ x → h1.get? x = some { cls := .ref C, dict := some dx, data := .fields fv } →
      h1.Ns1 dx (fun y => if y = name then some v else none) → R (.ok (.ret .none)) ⟨h1, g, d, t1, os⟩) :
    codeAny (model prog w) A (.call (.builtin "object.__setattr__") ⟨[.ref x, .str name tk, v], []⟩) R ⟨hp, g, d, t, os⟩ := by
  have at0 : PySem.W.InstAt hp x { cls := .ref C, data := .fields fv } C none := ⟨hx, rfl, rfl, trivial⟩
  obtain ⟨cd, hc, hdt⟩ := PySem.W.any_some hh
  have lc : PySem.W.Looks (model prog w) hp (classData C) cd := PySem.W.looks_clsIn kin hc
  have xn : x ≠ hp.objs.size := Nat.ne_of_lt (Heap.lt_size hx)
  refine PySem.W.osa_openX (s := ⟨hp, g, d, t, os⟩) SF kin at0 ov ht fun b => ?_
  obtain ⟨c1, c2, c3, c4, c5, c6, c7, c8, c9, c10, c11⟩ := cd
  dsimp only at hdt ⊢
  subst hdt
  unfold storeInOwnDict ownDictForStores
  repeat (first | with_reducible refine HandSPX.store_in_new ?_ ?_ | with_reducible refine wpAny_loadPart_at hx ?_ | with_reducible refine lc.at ?_ | wp_step)
  · exact ⟨_, #[], _, (Heap.get?_update_ne _ _ _ _ xn.symm).trans (Heap.get?_push_at rfl rfl), rfl, fun e he => absurd he (by simp), fun _ => rfl⟩
  · intro h1 t1 hn sb
    have x1 : (hp.push { cls := .type "dict", data := .dict #[] }).get? x = some { cls := .ref C, data := .fields fv } := Heap.get?_push_of_some _ hx
    refine go h1 t1 hp.objs.size (fun b o nb ob => ?_) (Nat.le_refl _) xn.symm ((sb.2 x xn).trans (Heap.get?_update_self _ x1 rfl)) hn
    exact (sb.2 b (Nat.ne_of_lt (Heap.lt_size ob))).trans ((Heap.get?_update_ne _ _ _ _ nb).trans (Heap.get?_push_of_some _ ob))

/-- an object that the state J did not have is told of -/
theorem _root_.L2.Inv.track {X : Cx} {pins : List (Addr × Obj)} {σ τ : L2.St} {H G : Hp} {s sJ : Shared} {dx : Addr} {o : HO} (I : Inv X pins σ H s) (J : Inv X pins τ G sJ) (nj : sJ.heap.get? dx = none) (hn : H dx = none)
    (new : ObjOk X.prog X.w (upd H dx o) s.heap dx o) : Inv X pins σ (upd H dx o) s := by
  have ne : ∀ {b u}, sJ.heap.get? b = some u → b ≠ dx := fun {b u} h z => by rw [z, nj] at h; cases h
  have nt : ∀ {b u}, H b = some u → b ≠ dx := fun {b u} h z => by rw [z, hn] at h; cases h
  refine ⟨I.ok, I.os, I.bare, ⟨I.base.keep, I.base.slot, fun b u hb h0 nx => ?_, I.base.there, fun b xs h => ?_, fun b ob u h => ?_, fun b ps h => ?_⟩, I.loc, I.cell, ?_, fun x c h => ?_, fun q hq => ?_, fun b u h => ?_, I.len⟩
  · obtain ⟨u', h'⟩ := J.base.there b u hb nx
    rw [upd_ne (ne h')]
    exact I.base.free b u hb h0 nx
  · have h2 := I.base.tups b xs h
    rw [upd_ne (nt h2)]; exact h2
  · have h2 := I.base.frzs b ob u h
    rw [upd_ne (nt h2)]; exact h2
  · obtain ⟨more, h2⟩ := I.base.tbls b ps h
    exact ⟨more, by rw [upd_ne (nt h2)]; exact h2⟩
  · obtain ⟨m, hns, _⟩ := J.loc
    obtain ⟨ol, _, _, hol, _⟩ := hns
    rw [upd_ne (ne hol)]; exact I.free
  · obtain ⟨v, hv⟩ := J.cell x c h
    obtain ⟨oc, hoc, _⟩ := hv
    rw [upd_ne (ne hoc)]; exact I.freeC x c h
  · obtain ⟨a1, a2, a3⟩ := I.pin q hq
    exact ⟨a1, by rw [upd_ne (ne (J.pin q hq).1)]; exact a2, a3⟩
  · by_cases z : b = dx
    · subst z
      rw [upd_same] at h
      cases h
      exact new
    · rw [upd_ne z] at h
      exact (I.hok b u h).stay (fun _ _ _ z => z) (fun c hc => by rw [upd_ne (nt hc)]; exact hc) fun c xs hc => by rw [upd_ne (nt hc)]; exact hc

/-- what the written part says of an own exception class over a built-in one -/
structure OexG (K : PySem.W.Frag) (C : Addr) : Prop where
  base : ∃ (B newId initId : String) (bmB : List Value), ExcBaseFacts B newId initId bmB ∧ StoreFacts B bmB "object.__setattr__" "object" ∧ PySem.W.excInitIn K C bmB newId = true ∧ PySem.W.excOver K C bmB = true
  hd : PySem.W.hasDictIn K C = true
  sa : PySem.W.findIn K (.ref C) "__setattr__" = some (some (.builtin "object.__setattr__"))
  exC : PySem.W.subIn K (.ref C) (.type "BaseException") = some true
  tyC : PySem.W.typeIn K (.ref C) = some (.type "type")
  kC : PySem.W.keepIn K (.ref C) = true
section
variable {X : Cx} {pins : List (Addr × Obj)} {σ : L2.St} {H : Hp} {s : Shared} {a C dx : Addr} {f : Str} {y : V} {u : Value} {Q : Unit → Shared → Prop} {E : Value → Shared → Prop} {A : Around}
/-- self.f = y, self new -/
theorem ostG (T : OexG X.K C) (I : Inv X pins σ H s) (e : H a = some (exo a C none)) (ht : PySem.W.takerIn X.K C f = some none) (ry : RelV y u)
    (go : ∀ dx s', H dx = none → dx ≠ a → Inv X pins σ (upd (upd H a (exo a C (some dx))) dx (exd dx [(f, y)])) s' → Q () s') : wpAny (model X.prog X.w) A (setAttr (.ref a) f u) Q E s := by
  obtain ⟨B, _, _, bmB, _, SF, _, ov⟩ := T.base
  obtain ⟨t1, ho⟩ := exo_at I.hok e
  obtain ⟨hp, g, d, t, os⟩ := s
  refine PySem.W.set_plain I.kIn (ox := { cls := .ref C, dict := none, data := .fields #[.ref t1, .none, .none, .none, .bool false, .none] }) (od := none) ⟨ho, rfl, rfl, trivial⟩ T.sa ?_
  refine osaG SF I.kIn ho ov T.hd ht fun h1 t2 dx k dn dne hx hns => ?_
  have hnd : H dx = none := I.hok.fresh dn
  have J := I.write (t' := t2) (x := a) (e := a) (o := exo a C (some dx)) (by rw [e]; exact True.intro) (.inl rfl) k ⟨_, hx⟩ (exo_ok hx)
  have hg : hp.get? dx = none := Heap.get?_none_of_le dn
  refine go dx _ hnd dne (J.track I hg (by rw [upd_ne dne]; exact hnd) ?_)
  exact exd_ok hns (relO_put (fs := []) ry fun g => True.intro)
def tOstG (K : PySem.W.Frag) (f : Str) (to te : TE) : TS := fun D σ H => te σ H fun y H1 => to σ H1 fun x H2 => ∃ a C : Addr, x = .ref a ∧ OexG K C ∧ PySem.W.takerIn K C f = some none ∧
  H2 a = some (exo a C none) ∧ ∀ dx, H2 dx = none → dx ≠ a → D.nx σ (upd (upd H2 a (exo a C (some dx))) dx (exd dx [(f, y)]))
theorem ps_ostG {o e : Expr} {to te : TE} {p' pos : Pos} (ho : PE X o to) (he : PE X e te) (hs : swapsWith e (some (.Attribute o f p')) pos.line X.env = pure false := by rfl) : PS X (.Assign [.Attribute o f p'] e pos) (tOstG X.K f to te) := by
  constructor
  intro pins s σ H D I h
  refine plainObj_wpAny_Assign_Attribute (thn (he.run pins s σ H _ I h) fun v s1 q1 => ?_) hs
  obtain ⟨y, H1, I1, r1, q1⟩ := q1
  refine thn (ho.run pins s1 σ H1 _ I1 q1) fun u s2 q2 => ?_
  obtain ⟨x, H2, I2, r2, a, C, rfl, T, ht, ea, q⟩ := q2
  obtain rfl : u = Value.ref a := r2
  exact ostG T I2 ea ht r1 fun dx s' n ne J => ⟨σ, _, J, q dx n ne⟩
end

/-- C(e, ..) of an own exception class whose __init__ keeps sp: the exception is in the air, its dict stays told -/
def tMkG (C : Addr) (sp : Sp) (ta : TA) : L2.St → Hp → XK → Prop := fun σ H Q => ta σ H fun vs H1 => vs.length ≤ 1000 ∧ ∀ a, H1 a = none → sp (.ref a :: vs) (upd H1 a (exo a C none))
  (fun v H2 => v = .non ∧ ∃ (d : Addr) (fs : List (Str × V)), H2 a = some (exo a C (some d)) ∧ H2 d = some (exd d fs) ∧ H1 d = none ∧ Q (.ref C) (some d) (upd (del H2 a) d (.xd fs))) (fun _ _ _ => False)
theorem pmkG {X : Cx} {CX : CXT} {x : Str} {C fI : Addr} {k : Nat} {fd : FuncData} {ps : List Str} {sp : Sp} {e : Expr} {es : List Expr} {ta : TA} {p pos : Pos} (T : OexG X.K C) (iC : PySem.W.findIn X.K (.ref C) "__init__" = some (some (.ref fI)))
    (tI : PySem.W.typeIn X.K (.ref fI) = some (.type "function")) (FI : FnOk X.prog X.w X.K X.mg X.base CX k fI fd ps sp) (rm : Room (k + 1) X.A) (hb : Binds X.K fd ps []) (px : Passes CX X (fun _ _ _ => False)) (hg : Gl X x) (hm : X.mg x = some (.ref C))
    (ha : PA X (e :: es) ta) (hdb : (x == ("__debug__" : Str)) = false := by decide) (he : starEach (e :: es) X.env = (false, eval e X.env) :: starEach es X.env := by rfl) (hpl : (backTo pos (starEach es X.env)).any (·.1) = false := by rfl) :
    L2N.PMk X (.Call (.Name x p) (e :: es) [] pos) (tMkG C sp ta) := by
  intro pins s σ H Q I h
  obtain ⟨B, newId, initId, bmB, BF, _, inI, _⟩ := T.base
  refine wpAny_Call_Name_kw (ld_glob I hg hm ?_ hdb)
  refine PySem.W.callWith_K (h₀ := X.base) I.ok.mod.kin T.kC (thn (ha.run pos pins s σ H _ I h) fun us s1 hv => ?_) he hpl
  obtain ⟨vs, H1, I1, r1, hz, q1⟩ := hv
  refine ⟨I1.kIn, ?_⟩
  show wpAny _ _ (call (.ref C) us) _ _ _
  obtain ⟨hp, g, dr, tk, os⟩ := s1
  obtain ⟨nm, N, qn, bs, bm, hdct, sn, sub, ab, col, dd, k0, k1, k2, k3, k5, hC, hbm⟩ := PySem.W.excInit_of I1.kIn inI
  have up1 : hp.objs.size ≤ hp.objs.size + 1 := Nat.le_succ _
  have hn : H1 (hp.objs.size + 1) = none := I1.hok.fresh up1
  have kk : ∀ b o, hp.get? b = some o → ((hp.push (PySem.W.kdv_tup us)).push (HandSPX.excO C hp.objs.size)).get? b = some o := fun b o z => Heap.get?_push_of_some _ (Heap.get?_push_of_some _ z)
  have at1 : ((hp.push (PySem.W.kdv_tup us)).push (HandSPX.excO C hp.objs.size)).get? (hp.objs.size + 1) = some (HandSPX.excO C hp.objs.size) := by heap_get
  have I2 := I1.laid (t' := tk) (a := hp.objs.size + 1) (o := exo (hp.objs.size + 1) C none) (h' := (hp.push (PySem.W.kdv_tup us)).push (HandSPX.excO C hp.objs.size)) kk up1 (exo_ok at1)
  have q := q1 _ hn
  have rr : Vals (V.ref (hp.objs.size + 1) :: vs) (Value.ref (hp.objs.size + 1) :: us) := .cons rfl r1
  have hl : (Value.ref (hp.objs.size + 1) :: us).length = ps.length := rr.length.symm.trans (FI.len _ _ _ _ q)
  have hus : us.length ≤ sizeLine := by rw [← Paired.length r1, sizeLine_eq]; omega
  have bd := hb ⟨(hp.push (PySem.W.kdv_tup us)).push (HandSPX.excO C hp.objs.size), g, dr, tk, os⟩ (Value.ref (hp.objs.size + 1) :: us) I2.kIn (by rw [List.append_nil]; exact hl)
  rw [List.append_nil] at bd
  refine wpAny_call (HandSPX.call_own BF hbm hC (PySem.W.looks_findIn I1.kIn iC) (fun self => PySem.W.bind_fn I1.kIn self tI) hus (codeAny_mono (FI.run _ X.stack _ _ ⟨Value.ref (hp.objs.size + 1) :: us, []⟩ _ _ _ (fun _ _ _ => False)
    (rm.make C us []) (I2.env0.make C us []) bd rr q) ?_))
  rintro r ⟨h2, g2, d2, t2, os2⟩ hr
  cases r with
  | error er => exact px pins σ _ _ er _ I2 hr
  | ok fl =>
    cases fl with
    | ret u =>
      obtain ⟨v, H2, o2, b2, un2, ok2, rv, ev, d, fs, ea, ed, hd1, q2⟩ := hr
      subst ev
      obtain ⟨t0, G, J, kG, ge, hoe, na⟩ := mk_end0 (d2 := d2) (t2 := t2) I1 up1 kk un2 ok2 o2 b2 ea ed hd1
      exact ⟨rv, _, _, _, ⟨G, g2, d2, t2, os2⟩, _, .ref C, some d, rfl, J, kG, ge, hoe, ⟨rfl, rfl, fun vs z => by cases z; rfl⟩, rfl, rfl, na, rfl, b2, raises_own T.exC T.tyC, q2⟩
    | _ => exact False.elim hr
end DL

/-! DLk: raise of an own exception with one field; try. -/
namespace DL
open PySem PySem.Spec L2
open PyProof.Rows hiding St

def spI (C : Addr) (fld : Str) : Sp := fun vs H Q E => ∃ a y, vs = [.ref a, y] ∧ H a = some (exo a C none) ∧ ∀ dx, H dx = none → dx ≠ a → Q .non (upd (upd H a (exo a C (some dx))) dx (exd dx [(fld, y)]))
theorem init1 {P : Program} {w : World} {K : PySem.W.Frag} {mg : Str → Option Value} {base : Heap} {qual x1 fld : Str} {st : Stmt} {f C : Addr} {fd : FuncData} {p1 p2 p3 p4 : Pos} (F : Fun K "__init__" qual st f fd)
    (hb : defBody st = [.Assign [.Attribute (.Name "self" p1) fld p2] (.Name x1 p3) p4]) (S : FnScope ["self", x1] ["self", x1] (defScope st)) (T : OexG K C) (ht : PySem.W.takerIn K C fld = some none)
    (hd : (x1 == ("__debug__" : Str)) = false := by decide) (hcd : (x1 == ("__classdict__" : Str)) = false := by decide) :
    FnOk P w K mg base CX0 1 f fd ["self", x1] (spI C fld) := by
  have vis : ∀ x ∈ (["self", x1] : List Str), Vis (defScope st) x := fun x hx => (S.par x hx).elim .inl fun z => .inr (.inl z)
  refine F.ok S (fun vs H Q E ⟨a, y, e, _⟩ => by rw [e]; rfl) fun cd A outer s H vs Q E rm h => ?_
  obtain ⟨a, y, rfl, ha, q⟩ := h
  rw [hb]
  refine ⟨_, pss_one (ps_ostG (pe_var (i := 0) rfl (vis _ (by simp)) (by decide) (by decide)) (pe_var (i := 1) rfl (vis _ (by simp)) hd hcd) (by rfl)), ?_⟩
  exact ⟨y, rfl, .ref a, rfl, a, C, rfl, T, ht, ha, fun dx n ne => q dx n ne⟩

/-- a class of exceptions with one field, set by its __init__ -/
structure Rz (P : Program) (w : World) (K : PySem.W.Frag) (mg : Str → Option Value) (base : Heap) (x fld : Str) : Prop where
  at' : ∃ (C fI : Addr) (fd : FuncData) (ps : List Str), mg x = some (.ref C) ∧ OexG K C ∧ PySem.W.findIn K (.ref C) "__init__" = some (some (.ref fI)) ∧ PySem.W.typeIn K (.ref fI) = some (.type "function") ∧ FnOk P w K mg base CX0 1 fI fd ps (spI C fld) ∧ Binds K fd ps []
def mRaise (x fld : Str) (f : Ex D) : Sm := fun env S => (f env S).go env fun d S1 => .ex x [fld] [d] env S1
section
variable {X : Cx} {E : EE} {k : Nat} {x fld : Str} {e : Expr} {f : Ex D} {p pos pos' : Pos}
theorem s_raise1 (Z : Rz X.prog X.w X.K X.mg X.base x fld) (hc : X.calm = true) (tk : L2N.Takes X fun cls d σ H => E σ cls d H) (rm : Rm 2 X.A) (he : VE X E e f) (hg : Gl X x := by rfl) (hdb : (x == ("__debug__" : Str)) = false := by decide)
    (h1 : starEach [e] X.env = (false, eval e X.env) :: starEach [] X.env := by rfl) (h2 : (backTo pos (starEach [] X.env)).any (·.1) = false := by rfl) :
    VS X E (.Raise (some (.Call (.Name x p) [e] [] pos)) none pos') (mRaise x fld f) := fun g => by
  obtain ⟨C, fI, fd, ps, hm, T, iC, tI, FI, hb⟩ := Z.at'
  refine (L2N.ps_raise hc tk (pmkG T iC tI FI (rm.room.mono (by decide)) hb pass0 hg hm (pa_cons (he g) pa_nil h1) hdb h1 h2)).imp ?_
  rintro D σ H ⟨F, ι, env, S, w, q⟩
  refine ⟨F, ι, env, S, w, rd_mono (rd_go w.wd q) ?_⟩
  rintro d H1 F1 ι1 S1 - e1 w1 ⟨_, _, q1⟩ v hv
  refine ⟨Nat.le_of_ble_eq_true rfl, fun a ha => ⟨a, v, rfl, upd_same, fun dx hdx ne => ?_⟩⟩
  rw [upd_ne ne] at hdx
  refine ⟨rfl, dx, [(fld, v)], by rw [upd_ne (Ne.symm ne), upd_same], upd_same, hdx, ?_⟩
  have same : upd (del (upd (upd (upd H1 a (exo a C none)) a (exo a C (some dx))) dx (exd dx [(fld, v)])) a) dx (.xd [(fld, v)]) = upd H1 dx (.xd [(fld, v)]) := by
    funext b
    by_cases z : b = dx
    · subst z; rw [upd_same, upd_same]
    · rw [upd_ne z, upd_ne z]
      by_cases y : b = a
      · subst y; rw [del_same, ha]
      · rw [del_ne y, upd_ne z, upd_ne y, upd_ne y]
  rw [same]
  obtain ⟨e2, wd2⟩ := w1.wd.lay (o := .xd [(fld, v)]) hdx
  exact q1 σ C (some dx) _ _ _ hm (w1.step e2 wd2) (w1.wd.grow e2) ⟨[v], .one (w1.wd.rep e2 hv), rfl, .inr ⟨dx, rfl, .inr rfl, upd_same⟩⟩
end
end DL

/-! DLl: try .. except. -/
namespace DL
open PySem PySem.Spec L2
open PyProof.Rows hiding St

theorem flying_kept {B h h' : Heap} {l : List Env} {a : Addr} {Z : Obj → Prop} (fl : HandSPX.FlyingZ B l a Z h) (k : ∀ b o, h.get? b = some o → h'.get? b = some o) : HandSPX.FlyingZ B l a Z h' := by
  obtain ⟨g1, g2, g3, ob, xs, T, oT, ts, ha, hz, hd, x1, nT, neT, hT, dT, x3⟩ := fl
  exact ⟨fun b o z => k b o (g1 b o z), g2, g3.of_keeps fun b o z _ => ⟨o, k b o z, rfl⟩, ob, xs, T, oT, ts, k _ _ ha, hz, hd, x1, nT, neT, k _ _ hT, dT, x3⟩

/-! ### the classes that a clause names -/
def catches (sub : Str → Str → Option Bool) (c : Str) : List Str → Option Bool
  | [] => some false
  | x :: r => match sub c x, catches sub c r with
    | some b, some d => some (b || d)
    | _, _ => none
/-- what the table of classes says is so -/
def SubOk (K : PySem.W.Frag) (mg : Str → Option Value) (sub : Str → Str → Option Bool) : Prop :=
  ∀ c x b, sub c x = some b → ∀ C, mg c = some (.ref C) → ∃ D, mg x = some (.ref D) ∧ PySem.W.exmOne K (.ref C) (.ref D) = some b
theorem catches_ok {K : PySem.W.Frag} {mg : Str → Option Value} {sub : Str → Str → Option Bool} (ok : SubOk K mg sub) {c : Str} {C : Addr} (hm : mg c = some (.ref C)) : ∀ {cs : List Str} {b : Bool}, catches sub c cs = some b →
    ∃ cvs : List Value, cs.map mg = cvs.map some ∧ PySem.W.exmAny K (.ref C) cvs = some b
  | [], b, h => ⟨[], rfl, h⟩
  | x :: r, b, h => by
    unfold catches at h
    cases h1 : sub c x with
    | none => rw [h1] at h; cases h
    | some b1 =>
      cases h2 : catches sub c r with
      | none => rw [h1, h2] at h; cases h
      | some b2 =>
        rw [h1, h2] at h
        obtain ⟨D, e1, e2⟩ := ok c x b1 h1 C hm
        obtain ⟨cvs, e3, e4⟩ := catches_ok ok hm h2
        refine ⟨.ref D :: cvs, by rw [List.map_cons, List.map_cons, e1, e3], ?_⟩
        unfold PySem.W.exmAny
        rw [e2, e4]
        exact h
/-- the clause's test looks at the classes cs -/
def TstX (X : Cx) (t : Expr) (cs : List Str) : Prop := ∀ (a : Addr) (pn pins : List (Addr × Obj)) (σ : L2.St) (H : Hp) (s : Shared) (cls : Value) (b : Bool) (cvs : List Value) (Q : Bool → Shared → Prop) (E : Value → Shared → Prop),
  Inv (X.suite a pn) pins σ H s → PySem.W.Looks (model X.prog X.w) s.heap (typeOf (.ref a)) cls → cs.map X.mg = cvs.map some → PySem.W.exmAny X.K cls cvs = some b →
  (∀ h', (∀ q o, s.heap.get? q = some o → h'.get? q = some o) → Q b { s with heap := h' }) →
  wpAny (model X.prog X.w) (X.A.mark (some (.ref a))) (eval t X.env) (fun c s1 => wpAny (model X.prog X.w) (X.A.mark (some (.ref a))) (excMatches (.ref a) c) Q E s1) E s
theorem tst1 {X : Cx} {x : Str} {np : Pos} (hg : Gl X x := by rfl) (hd : (x == ("__debug__" : Str)) = false := by decide) : TstX X (.Name x np) [x] := by
  intro a pn pins σ H s cls b cvs Q E I L hc hx go
  have hl : cvs.length = 1 := by simpa using (congrArg List.length hc).symm
  match cvs, hl, hc, hx with
  | [c], _, hc, hx =>
    have hm : X.mg x = some c := by simpa using hc
    obtain ⟨b1, d1, x1, y1, rfl⟩ := PySem.W.exmAny_cons hx
    cases y1
    rw [Bool.or_false] at go
    exact ld_glob (X := X.suite a pn) I hg hm ((PySem.W.exm_one (M := model X.prog X.w) I.kIn L x1).here (go s.heap fun _ _ z => z)) hd
theorem tst3 {X : Cx} {x y z : Str} {p1 p2 p3 p4 : Pos} {kk} (g1 : Gl X x := by rfl) (g2 : Gl X y := by rfl) (g3 : Gl X z := by rfl) (d1 : (x == ("__debug__" : Str)) = false := by decide) (d2 : (y == ("__debug__" : Str)) = false := by decide)
    (d3 : (z == ("__debug__" : Str)) = false := by decide) : TstX X (.Tuple [.Name x p1, .Name y p2, .Name z p3] kk p4) [x, y, z] := by
  intro a pn pins σ H s cls b cvs Q E I L hc hx go
  have hl : cvs.length = 3 := by simpa using (congrArg List.length hc).symm
  match cvs, hl, hc, hx with
  | [c1, c2, c3], _, hc, hx =>
    obtain ⟨m1, m2, m3⟩ : X.mg x = some c1 ∧ X.mg y = some c2 ∧ X.mg z = some c3 := by simpa using hc
    have kp : ∀ q o, s.heap.get? q = some o → (s.heap.push { cls := .type "tuple", data := .seq [c1, c2, c3].toArray }).get? q = some o := fun _ _ w => Heap.get?_push_of_some _ w
    refine wpAny_Tuple (wpAny_items_cons (ld_glob (X := X.suite a pn) I g1 m1 ?_ d1))
    refine wpAny_items_cons (ld_glob (X := X.suite a pn) I g2 m2 ?_ d2)
    refine wpAny_items_cons (ld_glob (X := X.suite a pn) I g3 m3 ?_ d3)
    refine wpAny_items_nil ⟨by size_fits, ?_⟩
    exact (PySem.W.exm_tup3 (I.kIn.keeps kp) (L.keeps kp) (Heap.get?_push_size s.heap rfl) hx).here (go _ kp)

/-! ### the suite's context: the exception is told of -/
abbrev sutO (oe : Obj) (a : Addr) : HO := .frz oe (.ext fun h => h.get? a = some oe)
abbrev _root_.L2.Cx.sut (X : Cx) (a : Addr) (pn : List (Addr × Obj)) (oe : Obj) : Cx := { X with A := X.A.mark (some (.ref a)), calm := false, pn := pn, xe := fun _ _ => False, H_0 := upd X.H_0 a (sutO oe a) }
section
variable {X : Cx} {pins : List (Addr × Obj)} {σ τ : L2.St} {H G : Hp} {s sI : Shared} {a : Addr} {oe : Obj} {vs : Array Value}
theorem sut_in (I : Inv X pins σ H s) (J : Inv X pins τ G sI) (na : sI.heap.get? a = none) (hn : H a = none) (he : s.heap.get? a = some oe) (nF : a ∉ X.fs) : Inv (X.sut a (X.pn ++ pins) oe) [] σ (upd H a (sutO oe a)) s := by
  have T := I.track (o := sutO oe a) J na hn ⟨he, he, ⟨oe, he⟩, fun h1 h2 z k => k _ z⟩
  have nb : ∀ b o, X.base.get? b = some o → b ≠ a := fun b o z y => by
    have := (J.bs b o z).1
    rw [y, na] at this
    cases this
  have ko : ∀ b, (upd X.H_0 a (sutO oe a)) b = none → b ≠ a ∧ X.H_0 b = none := fun b z => by
    by_cases y : b = a
    · subst y; rw [upd_same] at z; cases z
    · rw [upd_ne y] at z; exact ⟨y, z⟩
  have ok := I.ok
  refine ⟨⟨ok.mod, ok.kind, ok.glob, ok.blt, ok.above, ok.inj, ok.has, ok.cab, (fun z => absurd (show false = true from z) Bool.false_ne_true), ok.frames, ok.stk, ok.exf, fun b o z => ⟨(ok.bs b o z).1, ?_⟩, ok.bsz, ok.noex, ok.exfs, ok.funs, fun b z => ?_⟩,
    T.os, T.bare, ⟨fun b o hb h0 => T.base.keep b o hb (ko b h0).2, fun b o hb h0 => T.base.slot b o hb (ko b h0).2, fun b o hb h0 => T.base.free b o hb (ko b h0).2, T.base.there, fun b xs z => ?_, fun b o u z => ?_, fun b ps z => ?_⟩,
    T.loc, T.cell, T.free, T.freeC, fun p hp => T.pin p (by simpa using hp), T.hok, T.len⟩
  · show upd X.H_0 a (sutO oe a) b = none
    rw [upd_ne (nb b o z)]
    exact (ok.bs b o z).2
  · show upd X.H_0 a (sutO oe a) b = none
    rw [upd_ne (fun y => nF (by rw [← y]; exact z))]
    exact ok.frf b z
  · by_cases y : b = a
    · subst y
      have z : upd X.H_0 b (sutO oe b) b = _ := z
      rw [upd_same] at z
      cases z
    · have z : upd X.H_0 a (sutO oe a) b = _ := z
      rw [upd_ne y] at z
      exact T.base.tups b xs z
  · by_cases y : b = a
    · subst y
      have z : upd X.H_0 b (sutO oe b) b = _ := z
      rw [upd_same] at z
      rw [upd_same]
      exact z
    · have z : upd X.H_0 a (sutO oe a) b = _ := z
      rw [upd_ne y] at z
      exact T.base.frzs b o u z
  · by_cases y : b = a
    · subst y
      have z : upd X.H_0 b (sutO oe b) b = _ := z
      rw [upd_same] at z
      cases z
    · have z : upd X.H_0 a (sutO oe a) b = _ := z
      rw [upd_ne y] at z
      exact T.base.tbls b ps z
theorem sut_out {H' : Hp} {s' : Shared} {σ' : L2.St} (I : Inv (X.sut a (X.pn ++ pins) oe) [] σ' H' s') (J : Inv X pins τ G sI) (na : sI.heap.get? a = none) (ga : G a = none) : Inv X pins σ' H' s' := by
  have no : ∀ b u, X.s_0.heap.get? b = some u → b ∉ X.ex → b ≠ a := fun b u z nx y => by
    obtain ⟨o', h⟩ := J.base.there b u z nx
    rw [y, na] at h
    cases h
  have back : ∀ {b}, b ≠ a → X.H_0 b = none → (X.sut a (X.pn ++ pins) oe).H_0 b = none := fun {b} y z => by
    show upd X.H_0 a (sutO oe a) b = none
    rw [upd_ne y]
    exact z
  have same : ∀ {b u}, b ≠ a → X.H_0 b = some u → (X.sut a (X.pn ++ pins) oe).H_0 b = some u := fun {b u} y z => by
    show upd X.H_0 a (sutO oe a) b = some u
    rw [upd_ne y]
    exact z
  refine ⟨J.ok, I.os, I.bare, ⟨fun b o hb h0 hf nx => I.base.keep b o hb (back (no b o hb nx) h0) hf nx, fun b o hb h0 hf nx => I.base.slot b o hb (back (no b o hb nx) h0) hf nx, fun b o hb h0 nx => I.base.free b o hb (back (no b o hb nx) h0) nx, I.base.there,
    fun b xs z => I.base.tups b xs (same (fun y => ?_) z), fun b o u z => I.base.frzs b o u (same (fun y => ?_) z), fun b ps z => I.base.tbls b ps (same (fun y => ?_) z)⟩, I.loc, I.cell, I.free, I.freeC, fun p hp => I.pin p (by simpa using hp), I.hok, I.len⟩
  · have := J.base.tups b xs z
    rw [y, ga] at this; cases this
  · have := J.base.frzs b o u z
    rw [y, ga] at this; cases this
  · obtain ⟨more, this⟩ := J.base.tbls b ps z
    rw [y, ga] at this; cases this
end
end DL

/-! DLm: try .. except, by mirrors. -/
namespace DL
open PySem PySem.Spec L2
open PyProof.Rows hiding St

/-- a clause: its classes, its name's slot, its suite -/
abbrev Hd := List Str × Option Nat × Sm
def suiteOut (o : Option Nat) : Fl → Fl
  | .nx e S => .nx (match o with | some i => e.set i .un | none => e) S
  | .bk e S => .bk (match o with | some i => e.set i .un | none => e) S
  | .ct e S => .ct (match o with | some i => e.set i .un | none => e) S
  | .rt d S => .rt d S
  | _ => .bad
def runH (sub : Str → Str → Option Bool) (c : Str) (ns : List Str) (ds : List D) : List Hd → Sm
  | [], env, S => .ex c ns ds env S
  | (cs, o, m) :: r, env, S => match catches sub c cs with
    | none => .bad
    | some true => suiteOut o (m (match o with | some i => env.set i (.val (.exc c ns ds)) | none => env) S)
    | some false => runH sub c ns ds r env S
def mTry (sub : Str → Str → Option Bool) (m : Sm) (hs : List Hd) : Sm := fun env S => match m env S with
  | .ex c ns ds e S' => runH sub c ns ds hs e S'
  | r => r
def HotO (oe : Obj) : Prop := ∃ vs : Array Value, oe.data = .fields vs ∧ vs[2]? = some .none
inductive Hds (X : Cx) : List ExceptHandler → List Hd → Prop
  | nil : Hds X [] []
  | named {t : Expr} {n : Str} {i : Nat} {b0 : Stmt} {suite : List Stmt} {pos : Pos} {m : Sm} {cs : List Str} {r : List ExceptHandler} {hs : List Hd} (ht : TstX X t cs) (hi : X.N[i]? = some n) (hl : X.env.kindOf n = some .local)
      (hm : ∀ (a : Addr) (pn : List (Addr × Obj)) (oe : Obj), HotO oe → VB (X.sut a pn oe) EX0 (b0 :: suite) m) (hr : Hds X r hs) : Hds X (.ExceptHandler (some t) (some n) (b0 :: suite) pos :: r) ((cs, some i, m) :: hs)
  | plain {t : Expr} {b0 : Stmt} {suite : List Stmt} {pos : Pos} {m : Sm} {cs : List Str} {r : List ExceptHandler} {hs : List Hd} (ht : TstX X t cs)
      (hm : ∀ (a : Addr) (pn : List (Addr × Obj)) (oe : Obj), HotO oe → VB (X.sut a pn oe) EX0 (b0 :: suite) m) (hr : Hds X r hs) : Hds X (.ExceptHandler (some t) none (b0 :: suite) pos :: r) ((cs, none, m) :: hs)

section
variable {X : Cx} {E : EE} {body : List Stmt} {h₀ : ExceptHandler} {hds : List ExceptHandler} {hs : List Hd} {sub : Str → Str → Option Bool} {m : Sm} {pos : Pos}
/-- the end of a suite -/
theorem suite_end {g : Snap} {H : Hp} {F : Fz} {ι : List Addr} {D : Ends} {o : Option Nat} {J : L2.St → Hp → Prop} : ∀ {fl : Fl}, flAt X.K X.mg g E H F ι D (suiteOut o fl) →
    flAt X.K X.mg g EX0 H F ι { nx := fun σ' H' => D.nx (match o with | some i => σ'.set i none | none => σ') H', rt := D.rt, bk := fun σ' H' => D.bk (match o with | some i => σ'.set i none | none => σ') H', ct := fun σ' H' => D.ct (match o with | some i => σ'.set i none | none => σ') H' } fl
  | .nx e S, q => fun σ' H' F' ι' w gr => by
    cases o with
    | none => exact q σ' H' F' ι' w gr
    | some i => exact q _ H' F' ι' (w.forget i none) gr
  | .bk e S, q => fun σ' H' F' ι' w gr => by
    cases o with
    | none => exact q σ' H' F' ι' w gr
    | some i => exact q _ H' F' ι' (w.forget i none) gr
  | .ct e S, q => fun σ' H' F' ι' w gr => by
    cases o with
    | none => exact q σ' H' F' ι' w gr
    | some i => exact q _ H' F' ι' (w.forget i none) gr
  | .rt _ _, q => q
  | .ex _ _ _ _ _, q => q.elim
  | .bad, q => q.elim
theorem s_try (hst : X.stack = X.env :: X.outer) (hf : X.env.frame = some X.env.locals) (hN : X.N.Nodup) (tk : L2N.Takes X fun cls d σ H => E σ cls d H) (ok : SubOk X.K X.mg sub)
    (hb : ∀ (E' : EE) (pn : List (Addr × Obj)) (xe : Value → Shared → Prop), L2N.Takes (X.tr pn xe) (fun cls d σ H => E' σ cls d H) → PassesOwn (model X.prog X.w) X.A X.env xe → VB (X.tr pn xe) E' body m)
    (hh : Hds X (h₀ :: hds) hs) : VS X E (.Try body (h₀ :: hds) [] [] pos) (mTry sub m hs) := fun g => by
  constructor
  rintro pins s σ H D I ⟨F, ι, env, S, w, q⟩
  have xok := I.ok
  have hfr : X.A.frames = some (X.env :: X.outer) := by rw [xok.frames, hst]
  let E' : EE := fun σ' cls d H' => ∃ C c ns ds F' ι' env' S', cls = .ref C ∧ X.mg c = some (.ref C) ∧ RS X.K X.mg g σ' H' F' ι' env' S' ∧ Grow H F ι H' F' ι' ∧ DictAt X.K X.mg F' ι' H' d ns ds ∧ flAt X.K X.mg g E H F ι D (runH sub c ns ds hs env' S')
  have q0 : flAt X.K X.mg g E' H F ι D (m env S) := by
    unfold mTry at q
    cases hm : m env S with
    | ex c ns ds e' S' => rw [hm] at q; exact fun σ' C d H' F' ι' hc w' gr hd => ⟨C, c, ns, ds, F', ι', e', S', rfl, hc, w', gr, hd, q⟩
    | nx _ _ => rw [hm] at q; exact q
    | bk _ _ => rw [hm] at q; exact q
    | ct _ _ => rw [hm] at q; exact q
    | rt _ _ => rw [hm] at q; exact q
    | bad => rw [hm] at q; exact q
  refine wpAny_Try_except ?_
  refine wpAny_mono ((hb E' (X.pn ++ pins) (fun e s1 => wpAny (model X.prog X.w) X.A (noteFrame e X.env) (fun _ s2 => wpAny (model X.prog X.w) X.A (setFlight e none) (fun _ s3 =>
    wpAny (model X.prog X.w) X.A (handleBy e X.env (h₀ :: hds)) (SP X pins D) X.xe s3) X.xe s2) X.xe s1) (fun u s' air => ?_) PassesOwn.looking g).run [] s σ H D (I.toTry _) ⟨F, ι, env, S, w, q0⟩) (fun fl s1 hsp => ?_) fun e s1 z => z
  · obtain ⟨a, B, sI, pins', σ', H', cls, d, rfl, J', nb, up, sky, na, os, ag, we⟩ := air
    obtain ⟨C, c, ns, ds, F', ι', env', S', rfl, hmc, w', gr, hdd, hq⟩ := we
    have J : Inv X pins σ' H' sI := J'.ofTry xok
    have sky' : Sky B (X.env :: X.outer) a (L2N.Zn (.ref C) d) X.env.locals s'.heap := by rw [← hst]; exact sky
    show wpAny (model X.prog X.w) X.A (noteFrame (.ref a) X.env) _ _ _
    refine L2N.Sky.land L2N.Zn.steady hfr hf sky' fun h3 fl3 up3 => ?_
    -- a is none of the frames, and new
    have offF : ∀ {h : Heap}, HandSPX.FlyingZ B (X.env :: X.outer) a (L2N.Zn (.ref C) d) h → a ∉ frs (X.env :: X.outer) := fun {h} fl hm => by
      obtain ⟨ob, xs, hx, _, hdx⟩ := fl.there
      obtain ⟨_, o', e', nf⟩ := fl.2.2.1.mem hm
      rw [hx] at e'
      cases e'
      exact nf _ hdx
    have nfr := offF fl3
    have nF : a ∉ X.fs := fun hm => by
      obtain ⟨e, he, z⟩ := List.mem_filterMap.mp hm
      exact nfr (List.mem_filterMap.mpr ⟨e, List.mem_cons_of_mem _ he, z⟩)
    have newI : sI.heap.get? a = none := by
      cases z : sI.heap.get? a with
      | none => rfl
      | some o =>
        have z2 := nb a o z (by rw [hst]; exact nfr)
        rw [fl3.2.1] at z2
        cases z2
    have go : ∀ {hds' : List ExceptHandler} {hs' : List Hd}, Hds X hds' hs' → ∀ (h5 : Heap), HandSPX.FlyingZ B (X.env :: X.outer) a (L2N.Zn (.ref C) d) h5 → sI.heap.UpToSlots h5 → flAt X.K X.mg g E H F ι D (runH sub c ns ds hs' env' S') →
        wpAny (model X.prog X.w) X.A (handleBy (.ref a) X.env hds') (SP X pins D) X.xe { s' with heap := h5 } := by
      intro hds' hs' hk
      -- the test of a clause
      have test : ∀ {t : Expr} {cs : List Str} {b : Bool} {h5 : Heap} {Q : Bool → Shared → Prop} {E1 : Value → Shared → Prop}, TstX X t cs → catches sub c cs = some b → HandSPX.FlyingZ B (X.env :: X.outer) a (L2N.Zn (.ref C) d) h5 → sI.heap.UpToSlots h5 →
          (∀ h6, (∀ q o, h5.get? q = some o → h6.get? q = some o) → Q b { s' with heap := h6 }) →
          wpAny (model X.prog X.w) (X.A.mark (some (.ref a))) (eval t X.env) (fun c s1 => wpAny (model X.prog X.w) (X.A.mark (some (.ref a))) (excMatches (.ref a) c) Q E1 s1) E1 { s' with heap := h5 } := fun {t cs b h5 Q E1} ht hcb fl5 up5 k => by
        obtain ⟨cvs, e1, e2⟩ := catches_ok ok hmc hcb
        have J5 : Inv X pins σ' H' { s' with heap := h5 } := J.landed nb fl5.1 up5 os ag
        obtain ⟨ob, xs, hx, hz, hdx⟩ := fl5.there
        have nL : a ≠ X.env.locals := fun z => nfr (List.mem_filterMap.mpr ⟨X.env, List.mem_cons_self, by rw [hf, z]⟩)
        exact ht a _ [] σ' H' _ (.ref C) b cvs Q E1 (J5.suite hx hdx na nL nF) (fun A Q E s k q => wpAny_typeOf_ref (k _ _ hx) (by rw [hz.1]; exact q)) e1 e2 k
      induction hk with
      | nil =>
        intro h5 fl5 up5 q5
        refine wpAny_handleBy_nil ?_
        have fl5' := fl5
        obtain ⟨y1, y2, y3, ob, xs, T, oT, ts, hx, hz, hdx, x1, hrest⟩ := fl5'
        unfold PySem.passOn
        refine wpAny_bind (wpAny_field hx hdx x1 ?_)
        rw [if_neg (show ¬ ((Value.ref T == Value.none) = true) from by simp)]
        have out : wpAny (model X.prog X.w) X.A (setFlight (.ref a) X.env.frame) (fun _ s4 => wpAny (model X.prog X.w) X.A (throw (.ref a) : Sem Flow) (SP X pins D) X.xe s4) X.xe { s' with heap := h5 } := by
          rw [hf]
          refine HandSPX.setFlight_upZ fl5 fun h6 held up6 => wpAny_throw (tk _ _ ?_)
          exact ⟨a, B, sI, pins, σ', H', .ref C, d, rfl, J, nb, up5.trans up6, .inr (.inr (by rw [hst]; exact held)), na, os, ag, q5 σ' C d H' F' ι' hmc w' gr hdd⟩
        first
          | exact wpAny_bind (wpAny_pure (wpAny_bind out))
          | exact wpAny_bind out
      | @named t n i b0 suite pos' m cs r hs2 ht hi hl hm hr ih =>
        intro h5 fl5 up5 q5
        unfold runH at q5
        cases hcb : catches sub c cs with
        | none => rw [hcb] at q5; exact q5.elim
        | some b =>
          rw [hcb] at q5
          refine wpAny_handleBy_cons (codeAny_handlers_test (test ht hcb fl5 up5 fun h6 k6 => ?_)) (by intro z; cases z)
          have fl6 := flying_kept fl5 k6
          have up6 : sI.heap.UpToSlots h6 := up5.trans (Heap.UpToSlots.of_keeps k6)
          cases b with
          | false => exact ih h6 fl6 up6 q5
          | true =>
            refine codeAny_handlers_suite_as ?_
            refine HandSPX.lands_againZ fl6 fun h7 fl7 up7 => ?_
            have J7 : Inv X pins σ' H' { s' with heap := h7 } := J.landed nb fl7.1 (up6.trans up7) os ag
            obtain ⟨ob, xs, hx, hz, hdx⟩ := fl7.there
            have K7 := sut_in J7 J newI na hx nF
            refine store_ok (X := X.sut a (X.pn ++ pins) ob) (v := .ref a) K7 hN hi (.inl hl) rfl (fun s8 K8 => ?_) (.inr hl)
            have e8 : Ext H' F' ι' (upd H' a (sutO ob a)) (fun b => F' b ∨ b = a) ι' := (w'.wd.lay (o := sutO ob a) na).1
            have wd8 := (w'.wd.lay (o := sutO ob a) na).2
            have w8 := w'.step e8 wd8
            have rep8 : Rep X.K X.mg (fun b => F' b ∨ b = a) ι' (upd H' a (sutO ob a)) (.exc c ns ds) (.ref a) := by
              obtain ⟨vs, rv, lv, dd⟩ := hdd
              refine ⟨a, C, ob, _, d, vs, rfl, .inr rfl, hmc, upd_same, hz, ⟨xs, hdx⟩, lv, ?_, w'.wd.reps e8 rv⟩
              rcases dd with dd | ⟨dd, z1, z2, z3⟩
              · exact .inl dd
              · exact .inr ⟨dd, z1, .inl z2, e8.keep dd _ z3 fun y => w'.wd.cnf dd y z2⟩
            have w9 := w8.put i rep8
            have q9 : flAt X.K X.mg g E (upd H' a (sutO ob a)) (fun b => F' b ∨ b = a) ι' D (suiteOut (some i) (m (env'.set i (.val (.exc c ns ds))) S')) := fl_grow (gr.trans (w'.wd.grow e8)) q5
            refine wpAny_mono ((hm a (X.pn ++ pins) ob ⟨xs, hdx, hz.2.2 xs hdx⟩ g).run [] s8 _ _ _ K8 ⟨_, ι', _, S', w9, suite_end (J := fun _ _ => True) q9⟩) (fun fl s9 hsp => ?_) (fun _ _ z => False.elim z)
            have fin : ∀ {σ6 : L2.St} {H6 : Hp} {Q : Shared → Prop}, Inv (X.sut a (X.pn ++ pins) ob) [] σ6 H6 s9 → (∀ s7, Inv X pins (σ6.set i none) H6 s7 → Q s7) →
                wpAny (model X.prog X.w) X.A (do bindName X.env n .none; unbindBehindTheSuite X.env n pos') (fun _ s7 => Q s7) X.xe s9 := fun {σ6 H6 Q} S6 hq => gone_ok (sut_out S6 J newI na) hN hi hl hq
            cases fl with
            | next =>
              obtain ⟨σ6, H6, S6, q6⟩ := hsp
              exact fin S6 fun s7 J7 => ⟨_, _, J7, q6⟩
            | brk =>
              obtain ⟨σ6, H6, S6, q6⟩ := hsp
              exact fin S6 fun s7 J7 => ⟨_, _, J7, q6⟩
            | cont =>
              obtain ⟨σ6, H6, S6, q6⟩ := hsp
              exact fin S6 fun s7 J7 => ⟨_, _, J7, q6⟩
            | ret u =>
              obtain ⟨v6, σ6, H6, S6, r6, q6⟩ := hsp
              exact fin S6 fun s7 J7 => ⟨_, _, _, J7, r6, q6⟩
      | @plain t b0 suite pos' m cs r hs2 ht hm hr ih =>
        intro h5 fl5 up5 q5
        unfold runH at q5
        cases hcb : catches sub c cs with
        | none => rw [hcb] at q5; exact q5.elim
        | some b =>
          rw [hcb] at q5
          refine wpAny_handleBy_cons (codeAny_handlers_test (test ht hcb fl5 up5 fun h6 k6 => ?_)) (by intro z; cases z)
          have fl6 := flying_kept fl5 k6
          have up6 : sI.heap.UpToSlots h6 := up5.trans (Heap.UpToSlots.of_keeps k6)
          cases b with
          | false => exact ih h6 fl6 up6 q5
          | true =>
            refine codeAny_handlers_suite ?_
            refine HandSPX.lands_againZ fl6 fun h7 fl7 up7 => ?_
            have J7 : Inv X pins σ' H' { s' with heap := h7 } := J.landed nb fl7.1 (up6.trans up7) os ag
            obtain ⟨ob, xs, hx, hz, hdx⟩ := fl7.there
            have K7 := sut_in J7 J newI na hx nF
            have e8 : Ext H' F' ι' (upd H' a (sutO ob a)) (fun b => F' b ∨ b = a) ι' := (w'.wd.lay (o := sutO ob a) na).1
            have wd8 := (w'.wd.lay (o := sutO ob a) na).2
            have w8 := w'.step e8 wd8
            have q9 : flAt X.K X.mg g E (upd H' a (sutO ob a)) (fun b => F' b ∨ b = a) ι' D (suiteOut none (m env' S')) := fl_grow (gr.trans (w'.wd.grow e8)) q5
            refine wpAny_mono ((hm a (X.pn ++ pins) ob ⟨xs, hdx, hz.2.2 xs hdx⟩ g).run [] _ _ _ _ K7 ⟨_, ι', _, S', w8, suite_end (J := fun _ _ => True) q9⟩) (fun fl s9 hsp => ?_) (fun _ _ z => False.elim z)
            cases fl with
            | next =>
              obtain ⟨σ6, H6, S6, q6⟩ := hsp
              exact ⟨_, _, sut_out S6 J newI na, q6⟩
            | brk =>
              obtain ⟨σ6, H6, S6, q6⟩ := hsp
              exact ⟨_, _, sut_out S6 J newI na, q6⟩
            | cont =>
              obtain ⟨σ6, H6, S6, q6⟩ := hsp
              exact ⟨_, _, sut_out S6 J newI na, q6⟩
            | ret u =>
              obtain ⟨v6, σ6, H6, S6, r6, q6⟩ := hsp
              exact ⟨_, _, _, sut_out S6 J newI na, r6, q6⟩
    exact go hh h3 fl3 (up.trans up3) hq
  · cases fl with
    | next =>
      obtain ⟨σ2, H2, J2, q2⟩ := hsp
      exact wpAny_execs_nil ⟨σ2, H2, J2.ofTry xok, q2⟩
    | brk =>
      obtain ⟨σ2, H2, J2, q2⟩ := hsp
      exact ⟨σ2, H2, J2.ofTry xok, q2⟩
    | cont =>
      obtain ⟨σ2, H2, J2, q2⟩ := hsp
      exact ⟨σ2, H2, J2.ofTry xok, q2⟩
    | ret u =>
      obtain ⟨v2, σ2, H2, J2, r2, q2⟩ := hsp
      exact ⟨v2, σ2, H2, J2.ofTry xok, r2, q2⟩
end
end DL

/-! DLn: isinstance with own classes, tuples of classes, of exceptions, too; fields of exceptions. -/
namespace DL
open PySem PySem.Spec L2
open PyProof.Rows hiding St

inductive TyE (K : PySem.W.Frag) (H : Hp) : V → Value → Prop where
  | x {v : V} {t : Value} (h : TyX K H v t) : TyE K H v t
  | exc {a C : Addr} {oe : Obj} {u : HO} {od : Option Addr} (e : H a = some (.frz oe u)) (c : L2.ExcC K C) (z : Zc (.ref C) od oe) (f : ∃ vs, oe.data = .fields vs) (d : ∀ dd, od = some dd → ∃ fs, H dd = some (.xd fs)) : TyE K H (.ref a) (.ref C)
section
variable {X : Cx} {pins : List (Addr × Obj)} {σ : L2.St} {H : Hp} {s : Shared}
theorem kit_ofE {v : V} {u t : Value} (I : Inv X pins σ H s) (rv : RelV v u) (ty : TyE X.K H v t) : ∃ P : Heap → Prop, PySem.W.KitX X.K u t P ∧ P s.heap ∧ u ≠ .builtin "__main__.__loader__#opaque" := by
  cases ty with
  | x h => exact kit_of I rv h
  | @exc a C oe q od e c z f d =>
    cases (show u = Value.ref a from rv)
    obtain ⟨ha, _⟩ := (show ObjOk X.prog X.w H s.heap a (.frz oe q) from I.hok a _ e)
    obtain ⟨vs, hv⟩ := f
    have hcl : (PySem.W.clsIn X.K C).isSome = true := by
      obtain ⟨cd, hc, _⟩ := PySem.W.any_some c.hd
      rw [hc]; rfl
    have no : PySem.W.notCls oe = true := by unfold PySem.W.notCls; rw [hv] <;> rfl
    cases hod : od with
    | none =>
      have J : PySem.W.InstAt s.heap a oe C none := ⟨ha, z.1, no, by rw [z.2, hod]; trivial⟩
      exact ⟨_, PySem.W.kitx_exc hcl c.hg c.hk c.hs c.ha c.hn c.ht c.hm, J, fun y => nomatch y⟩
    | some dd =>
      obtain ⟨fs, hdd⟩ := d dd hod
      obtain ⟨mA, hns, _⟩ := (show ObjOk X.prog X.w H s.heap dd (.xd fs) from I.hok dd _ hdd)
      obtain ⟨o1, _, _, ho, _⟩ := hns
      have J : PySem.W.InstAt s.heap a oe C (some o1) := ⟨ha, z.1, no, by rw [z.2, hod]; exact ho⟩
      exact ⟨_, PySem.W.kitx_exc hcl c.hg c.hk c.hs c.ha c.hn c.ht c.hm, J, fun y => nomatch y⟩
def rIsA (K : PySem.W.Frag) : List V → Hp → VK → Prop := fun xs H Q => ∃ (v c : V) (t u : Value) (b : Bool), xs = [v, c] ∧ ClsV c u ∧ TyE K H v t ∧ PySem.W.kitOne K t u = some b ∧ Q (.bl b) H
def rIsAT (K : PySem.W.Frag) : List V → Hp → VK → Prop := fun xs H Q => ∃ (v : V) (tp : Addr) (cs : List V) (t : Value) (us : List Value) (b : Bool), xs = [v, .ref tp] ∧ SqT K H tp cs ∧ Paired ClsV cs us ∧ TyE K H v t ∧ PySem.W.kitAny K t us = some b ∧ Q (.bl b) H
theorem call_isA : CallR X (.builtin "isinstance") (rIsA X.K) := by
  intro pins s σ H xs us Q I r h
  obtain ⟨v, c, t, u, b, rfl, k, ty, e, q⟩ := h
  obtain ⟨u1, u2, rfl, r1, r2⟩ := vals2 r
  obtain rfl := k.eq r2
  obtain ⟨P, Z, p, hx⟩ := kit_ofE I r1 ty
  exact PySem.W.kia_one Z I.kIn p e hx fun tk => ⟨.bl b, H, I.tok tk, rfl, q⟩
theorem call_isAT : CallR X (.builtin "isinstance") (rIsAT X.K) := by
  intro pins s σ H xs us Q I r h
  obtain ⟨v, tp, cs, t, ws, b, rfl, hT, k, ty, e, q⟩ := h
  obtain ⟨u1, u2, rfl, r1, r2⟩ := vals2 r
  cases (show u2 = Value.ref tp from r2)
  obtain ⟨P, Z, p, hx⟩ := kit_ofE I r1 ty
  obtain ⟨its, rv, ⟨o, h1, h2, n, h3⟩, _⟩ := I.tuple hT
  obtain rfl := ClsV.all k rv
  obtain ⟨oc, od, dt, sl⟩ := o
  simp only at h2 h3
  subst h2 h3
  exact PySem.W.kia_tup Z I.kIn p h1 e hx fun tk => ⟨.bl b, H, I.tok tk, rfl, q⟩
theorem call_isAll : CallR X (.builtin "isinstance") (fun xs H Q => rIsA X.K xs H Q ∨ rIsAT X.K xs H Q) := CallR.or call_isA call_isAT
end

/-! ### by data -/
/-- a class: a built-in one, an own one -/
inductive KT where
  | b (n : String) | o (c : Str)
  deriving DecidableEq
def ktv (mg : Str → Option Value) : KT → Value → Prop
  | .b n, v => v = .type n
  | .o c, v => ∃ C, v = .ref C ∧ mg c = some (.ref C)
/-- what is known of classes: those of plain instances, those of exceptions, who is a subclass of whom -/
structure Tab where
  os : List Str
  es : List Str
  isa : KT → KT → Option Bool
/-- a class of plain instances -/
structure InsC (K : PySem.W.Frag) (C : Addr) : Prop where
  cl : Cls K C
  ha : PySem.W.findIn K (.ref C) "__class__" = some (some (.builtin "object.__class__"))
  hn : PySem.W.specialIn K (.builtin "object.__class__") "__get__" = some (some (.builtin "getset_descriptor.__get__"))
  ht : PySem.W.takesIn K (.builtin "object.__class__") = some true
  hm : PySem.W.mroIn K C (.type "object") = some true
structure TabOk (K : PySem.W.Frag) (mg : Str → Option Value) (T : Tab) : Prop where
  os : ∀ c ∈ T.os, ∀ C, mg c = some (.ref C) → InsC K C
  es : ∀ c ∈ T.es, ∀ C, mg c = some (.ref C) → L2.ExcC K C
  isa : ∀ a b r, T.isa a b = some r → ∀ u, ktv mg a u → ∃ w, ktv mg b w ∧ PySem.W.kitOne K u w = some r
def clsOf (T : Tab) (S : List Cell) (d : D) : Option KT := match tyName d with
  | some n => some (.b n)
  | none => match d with
    | .obj c _ _ => if T.os.contains c then some (.o c) else none
    | .exc c _ _ => if T.es.contains c then some (.o c) else none
    | .cell n => match S[n]? with
      | some (.ins c _ _) => if T.os.contains c then some (.o c) else none
      | some (.lst _) => some (.b "list")
      | none => none
    | _ => none
def ktOf : D → Option KT
  | .ty n => some (.b n)
  | .cls c => some (.o c)
  | _ => none
def isAny (T : Tab) (a : KT) : List D → Option Bool
  | [] => some false
  | d :: r => match (ktOf d).bind (T.isa a) with
    | some true => if (r.all fun x => (ktOf x).isSome) then some true else none
    | some false => isAny T a r
    | none => none
def isAD (T : Tab) : OpN := fun xs S => match xs with
  | [d, c] => (clsOf T S d).bind fun a => match c with
    | .tup cs => (isAny T a cs).map .bl
    | _ => ((ktOf c).bind (T.isa a)).map .bl
  | _ => none
section
variable {K : PySem.W.Frag} {mg : Str → Option Value} {T : Tab} {F : Fz} {ι : List Addr} {H : Hp} {S : List Cell}
theorem cls_at (ok : TabOk K mg T) (w : Wd K mg F ι H S) {d : D} {v : V} {a : KT} (r : Rep K mg F ι H d v) (h : clsOf T S d = some a) : ∃ t, ktv mg a t ∧ TyE K H v t := by
  unfold clsOf at h
  split at h
  · rename_i n hn
    cases h
    exact ⟨_, rfl, .x (ty_at r hn)⟩
  · split at h
    · rename_i c ns xs hnn
      split at h
      · rename_i hc
        cases h
        obtain ⟨p, C, dx, vs, rfl, f, hm, e, _⟩ := r
        have k := ok.os c (by simpa using hc) C hm
        exact ⟨.ref C, ⟨C, rfl, hm⟩, .x (.base (.ins e k.cl k.ha k.hn k.ht k.hm))⟩
      · cases h
    · rename_i c ns xs hnn
      split at h
      · rename_i hc
        cases h
        obtain ⟨p, C, oe, u, od, vs, rfl, f, hm, e, z, fv, _, dd, _⟩ := r
        refine ⟨.ref C, ⟨C, rfl, hm⟩, .exc e (ok.es c (by simpa using hc) C hm) z.zc fv fun x hx => ?_⟩
        rcases dd with ⟨_, dd⟩ | ⟨y, e1, _, e2⟩
        · rw [hx] at dd; cases dd
        · rw [hx] at e1
          cases e1
          exact ⟨_, e2⟩
      · cases h
    · rename_i n hnn
      obtain ⟨p, rfl, hp⟩ := r
      split at h
      · rename_i c ns xs hs
        split at h
        · rename_i hc
          cases h
          obtain ⟨C, dx, vs, hm, e, _⟩ := w.cells _ _ p hs hp
          have k := ok.os c (by simpa using hc) C hm
          exact ⟨.ref C, ⟨C, rfl, hm⟩, .x (.base (.ins e k.cl k.ha k.hn k.ht k.hm))⟩
        · cases h
      · rename_i xs hs
        cases h
        obtain ⟨vs, e, _⟩ := w.cells _ _ p hs hp
        exact ⟨_, rfl, .x (.base (.lst e))⟩
      · cases h
    · cases h
theorem kt_at {d : D} {v : V} {a : KT} (r : Rep K mg F ι H d v) (h : ktOf d = some a) : ∃ u, ktv mg a u ∧ ClsV v u := by
  cases d with
  | ty n => cases h; rw [show v = _ from r]; exact ⟨_, rfl, .ty n⟩
  | cls c =>
    cases h
    obtain ⟨C, rfl, hm⟩ := r
    exact ⟨_, ⟨C, rfl, hm⟩, .own C⟩
  | _ => cases h
theorem ktv_one {a : KT} {u w : Value} (h1 : ktv mg a u) (h2 : ktv mg a w) : u = w := by
  cases a with
  | b n => exact (show u = _ from h1).trans (show w = _ from h2).symm
  | o c =>
    obtain ⟨C, rfl, e1⟩ := h1
    obtain ⟨C', rfl, e2⟩ := h2
    rw [e1] at e2
    cases e2
    rfl
theorem any_at (ok : TabOk K mg T) {a : KT} {t : Value} (ha : ktv mg a t) : ∀ {ds : List D} {vs : List V} {b : Bool}, Reps K mg F ι H ds vs → isAny T a ds = some b → ∃ us, Paired ClsV vs us ∧ PySem.W.kitAny K t us = some b
  | [], vs, b, r, h => by
    cases h
    rw [show vs = [] from r]
    exact ⟨[], .nil, rfl⟩
  | d :: ds, vs, b, r, h => by
    obtain ⟨v, vs', rfl, r1, r2⟩ := r
    unfold isAny at h
    cases hk : ktOf d with
    | none => rw [hk] at h; cases h
    | some k =>
      rw [hk] at h
      obtain ⟨u, hu, hc⟩ := kt_at r1 hk
      cases hi : T.isa a k with
      | none => rw [Option.bind_some, hi] at h; cases h
      | some c =>
        rw [Option.bind_some, hi] at h
        obtain ⟨w, hw, hkit⟩ := ok.isa a k c hi t ha
        obtain rfl := ktv_one hu hw
        cases c with
        | false =>
          obtain ⟨us, p, e⟩ := any_at ok ha r2 h
          exact ⟨u :: us, .cons hc p, by unfold PySem.W.kitAny; rw [hkit]; exact e⟩
        | true =>
          dsimp only at h
          split at h
          · rename_i hall
            cases h
            have all : ∀ {ds : List D} {vs : List V}, Reps K mg F ι H ds vs → (ds.all fun x => (ktOf x).isSome) = true → ∃ us, Paired ClsV vs us := by
              intro ds
              induction ds with
              | nil => intro vs r _; rw [show vs = [] from r]; exact ⟨[], .nil⟩
              | cons d ds ih =>
                intro vs r h
                obtain ⟨v, vs', rfl, r1, r2⟩ := r
                rw [List.all_cons, Bool.and_eq_true] at h
                obtain ⟨k, hk⟩ := Option.isSome_iff_exists.mp h.1
                obtain ⟨u, _, hc⟩ := kt_at r1 hk
                obtain ⟨us, p⟩ := ih r2 h.2
                exact ⟨u :: us, .cons hc p⟩
            obtain ⟨us, p⟩ := all r2 hall
            exact ⟨u :: us, .cons hc p, by unfold PySem.W.kitAny; rw [hkit]⟩
          · cases h
theorem ok_isA (ok : TabOk K mg T) : OkN K mg (fun xs H Q => rIsA K xs H Q ∨ rIsAT K xs H Q) (isAD T) := by
  intro H F ι S xs d vs Q w rx ho t
  unfold isAD at ho
  split at ho
  · rename_i x c
    obtain ⟨v, u, rfl, hv, hu⟩ := two_of rx
    cases ha : clsOf T S x with
    | none => rw [ha] at ho; cases ho
    | some a =>
      rw [ha, Option.bind_some] at ho
      obtain ⟨tt, h1, h2⟩ := cls_at ok w hv ha
      split at ho
      · rename_i cs
        cases hb : isAny T a cs with
        | none => rw [hb] at ho; cases ho
        | some b =>
          rw [hb] at ho
          cases ho
          obtain ⟨p, us, rfl, hl, hr⟩ := hu
          obtain ⟨ws, hp, hk⟩ := any_at ok h1 hr hb
          exact .inr ⟨v, p, us, tt, ws, b, rfl, hl.sq, hp, h2, hk, t.here w rfl⟩
      · cases hk : ktOf c with
        | none => rw [hk] at ho; cases ho
        | some k =>
          rw [hk, Option.bind_some] at ho
          cases hb : T.isa a k with
          | none => rw [hb] at ho; cases ho
          | some b =>
            rw [hb] at ho
            cases ho
            obtain ⟨w1, hw, hkit⟩ := ok.isa a k b hb tt h1
            obtain ⟨u1, hu1, hc⟩ := kt_at hu hk
            obtain rfl := ktv_one hu1 hw
            exact .inl ⟨v, u, tt, u1, b, rfl, hc, h2, hkit, t.here w rfl⟩
  · cases ho
end

/-! ### e.f of an exception -/
def XfOk (K : PySem.W.Frag) (mg : Str → Option Value) (tb : List (Str × Str)) : Prop := ∀ c f, (c, f) ∈ tb → ∀ C, mg c = some (.ref C) → XfC K C ∧ PySem.W.findIn K (.ref C) f = some none
def fieldOf (n : Str) : List Str → List D → Option D
  | m :: ns, d :: ds => if m = n then some d else fieldOf n ns ds
  | _, _ => none
def xfD (tb : List (Str × Str)) (n : Str) : Op1 := fun d _ => match d with
  | .exc c ns xs => if tb.contains (c, n) then fieldOf n ns xs else none
  | _ => none
theorem field_rep {K : PySem.W.Frag} {mg : Str → Option Value} {F : Fz} {ι : List Addr} {H : Hp} {n : Str} : ∀ {ns : List Str} {ds : List D} {vs : List V} {d : D}, Reps K mg F ι H ds vs → fieldOf n ns ds = some d → ∃ v, (ns.zip vs).lookup n = some v ∧ Rep K mg F ι H d v
  | m :: ns, d :: ds, vs, x, r, h => by
    obtain ⟨v, vs', rfl, r1, r2⟩ := r
    unfold fieldOf at h
    rw [List.zip_cons_cons, lookup_put]
    by_cases e : m = n
    · rw [if_pos e] at h
      cases h
      exact ⟨v, by rw [if_pos e.symm], r1⟩
    · rw [if_neg e] at h
      obtain ⟨u, h1, h2⟩ := field_rep r2 h
      exact ⟨u, by rw [if_neg fun z => e z.symm]; exact h1, h2⟩
  | [], _, _, _, _, h => by cases h
  | _ :: _, [], _, _, _, h => by cases h
theorem v_xf {X : Cx} {E : EE} {tb : List (Str × Str)} {e : Expr} {f : Ex D} {n : Str} {pos : Pos} (ok : XfOk X.K X.mg tb) (he : VE X E e f) (hb : attributeBase e n X.env (eval e X.env) = eval e X.env := by rfl) :
    VE X E (.Attribute e n pos) (mUn (xfD tb n) f) := fun g => by
  constructor
  rintro pins s σ H Q I ⟨F, ι, env, S, w, q⟩
  refine attr_of hb (thn ((he g).run pins s σ H (fun v H1 => ∃ F1 ι1 S1 d d2, Ext H F ι H1 F1 ι1 ∧ RS X.K X.mg g σ H1 F1 ι1 env S1 ∧ Rep X.K X.mg F1 ι1 H1 d v ∧ xfD tb n d S1 = some d2 ∧ ∀ u, Rep X.K X.mg F1 ι1 H1 d2 u → Q u H1) I
    ⟨F, ι, env, S, w, rd_mono (rd_then q) fun d H1 F1 ι1 S1 _ e1 w1 ⟨_, _, q1⟩ v hv => ?_⟩) fun u s1 hh => ?_)
  · cases ho : xfD tb n d S1 with
    | none => rw [ho] at q1; exact q1.elim
    | some d2 =>
      rw [ho] at q1
      exact ⟨F1, ι1, S1, d, d2, e1, w1, hv, ho, fun u hu => (q1 H1 F1 ι1 Ext.refl w1).2.2 u hu⟩
  · obtain ⟨v, H1, I1, rv, F1, ι1, S1, d, d2, e1, w1, hv, ho, q1⟩ := hh
    unfold xfD at ho
    split at ho
    · rename_i c ns xs
      split at ho
      · rename_i hc
        obtain ⟨a, C, oe, ub, od, vs, rfl, fa, hm, ea, hz, fv, hl, dd, hr⟩ := hv
        obtain rfl : u = Value.ref a := rv
        obtain ⟨T, hno⟩ := ok c n (by simpa using hc) C hm
        obtain ⟨v2, hv2, r2⟩ := field_rep hr ho
        rcases dd with ⟨hns, _⟩ | ⟨dd, rfl, fd, hdd⟩
        · subst hns; cases ho
        · obtain ⟨mA, hns, rel⟩ := (show ObjOk X.prog X.w H1 s1.heap dd (.xd (ns.zip vs)) from I1.hok dd _ hdd)
          obtain ⟨od, ho2, hlk⟩ := lookIn_ns hns
          obtain ⟨u2, hu2, ru2⟩ := RelO.some_of (v := v2) (o := mA n) (by rw [← hv2]; exact rel n)
          obtain ⟨ha, _⟩ := (show ObjOk X.prog X.w H1 s1.heap a (.frz oe ub) from I1.hok a _ ea)
          obtain ⟨fs, hfs⟩ := fv
          have J : PySem.W.InstAt s1.heap a oe C (some od) := ⟨ha, hz.1, by unfold PySem.W.notCls; rw [hfs] <;> rfl, by rw [hz.2.1]; exact ho2⟩
          exact HandSPX.exc_get I1.kIn J T.ga T.gg T.exC (PySem.W.findObj_own T.hdC hno rfl (by rw [hlk, hu2])) (handed_of ru2) ⟨v2, H1, I1.tok _, ru2, q1 v2 r2⟩
      · cases ho
    · cases ho
end DL

/-! DLo: keywords; new cells; divmod; pairs assigned; empty dicts. -/
namespace DL
open PySem PySem.Spec L2
open PyProof.Rows hiding St

/-! ### calls with keywords -/
def pickL {α : Type} (p : List Nat) (l : List α) : List α := p.filterMap fun i => l[i]?
theorem pick_vals {vs : List V} {us : List Value} (r : Vals vs us) : ∀ p : List Nat, Vals (pickL p vs) (pickL p us)
  | [] => .nil
  | i :: p => by
    unfold pickL
    rw [List.filterMap_cons, List.filterMap_cons]
    have hl := r.length
    cases h : vs[i]? with
    | none =>
      have : us[i]? = none := by
        rw [List.getElem?_eq_none_iff] at h ⊢
        omega
      rw [this]
      exact pick_vals r p
    | some v =>
      obtain ⟨u, hu, ru⟩ := r.get h
      rw [hu]
      exact .cons ru (pick_vals r p)
theorem pick_reps {K : PySem.W.Frag} {mg : Str → Option Value} {F : Fz} {ι : List Addr} {H : Hp} {ds : List D} {vs : List V} (r : Reps K mg F ι H ds vs) : ∀ p : List Nat, Reps K mg F ι H (pickL p ds) (pickL p vs)
  | [] => rfl
  | i :: p => by
    unfold pickL
    rw [List.filterMap_cons, List.filterMap_cons]
    have hl := r.len
    cases h : ds[i]? with
    | none =>
      have : vs[i]? = none := by
        rw [List.getElem?_eq_none_iff] at h ⊢
        omega
      rw [this]
      exact pick_reps r p
    | some d =>
      obtain ⟨v, hv, rv⟩ := r.get h
      rw [hv]
      exact ⟨v, _, rfl, rv, pick_reps r p⟩
def BindsW (K : PySem.W.Frag) (fd : FuncData) (ps : List Str) (n : Nat) (ks : List Str) (p : List Nat) : Prop :=
  ∀ (s : Shared) (us ws : List Value), K.In s.heap → us.length = n → ws.length = ks.length → BindsTo s fd ⟨us, ks.zip ws⟩ (ps.zip (pickL p (us ++ ws)))
theorem _root_.L2.Fun.bindsW {K : PySem.W.Frag} {x qual : Str} {st : Stmt} {f : Addr} {fd : FuncData} {ps ks : List Str} {n : Nat} {p : List Nat} (F : Fun K x qual st f fd)
    (h : ∀ (kV doc pm : Value) (an : Option Addr) (cdv ct : Value) (us ws : List Value), us.length = n → ws.length = ks.length →
      bindArgs (PySem.W.fnOf x qual (defArgs st) (defBody st) (defScope st) .none kV doc pm an cdv ct) ⟨us, ks.zip ws⟩ = pure (ps.zip (pickL p (us ++ ws)))) : BindsW K fd ps n ks p := by
  obtain ⟨oc, od, kV, doc, pm, an, cdv, ct, osl, rfl, lk, hcd⟩ := F.ex
  intro s us ws _ h1 h2
  exact L2.BindsTo.of_looks fun M => .of_pure (h kV doc pm an cdv ct us ws h1 h2)
def mFnK (n np nk : Nat) (p : List Nat) (m : Fn) (fa fk : Ex (List D)) : Ex D := fun env S => (fa env S).andThen fun xs S1 => if xs.length = np then (fk env S1).andThen (fun zs S2 =>
  if zs.length = nk then (if (pickL p (xs ++ zs)).length = n then m (pickL p (xs ++ zs)) S2 else .bad) else .bad) else .bad
def VK' (X : Cx) (E : EE) (kws : List Keyword) (f : Ex (List D)) : Prop := ∀ g, PK X kws (tAr X.K X.mg g E f)
section
variable {X : Cx} {E : EE} {e : Expr} {es : List Expr} {kws : List Keyword} {f : Ex D} {fa fk : Ex (List D)} {nm : Option Str} {kpos pos p : Pos}
theorem _root_.L2.PK.imp {X : Cx} {e : List Keyword} {t t' : TA} (p : PK X e t) (h : ∀ σ H Q, t' σ H Q → t σ H Q) : PK X e t' := ⟨fun pos pins s σ H Q I q => p.run pos pins s σ H Q I (h σ H Q q)⟩
theorem k_nil : VK' X E [] mNil := fun g => pk_nil.imp fun σ H Q ⟨F, ι, env, S, w, q⟩ => q H F ι Ext.refl w [] rfl
theorem k_cons (he : VE X E e f) (hr : VK' X E kws fk) : VK' X E (⟨nm, e, kpos⟩ :: kws) (mCons f fk) := fun g =>
  (pk_cons (he g) (hr g)).imp fun σ H Q ⟨F, ι, env, S, w, q⟩ => ⟨F, ι, env, S, w, rd_mono (rd_then q) fun x H1 F1 ι1 S1 _ e1 w1 ⟨_, _, q1⟩ v hv =>
    ⟨F1, ι1, env, S1, w1, rd_mono (rd_then q1) fun xs H2 F2 ι2 S2 _ e2 w2 ⟨_, _, q2⟩ vs hvs => (q2 H2 F2 ι2 Ext.refl w2).2.2.2.2 (v :: vs) ⟨v, vs, rfl, w1.wd.rep e2 hv, hvs⟩⟩⟩
theorem run_kw {x : Str} {i : Nat} {fx : Addr} {fd : FuncData} {ps ks : List Str} {n np : Nat} {pk : List Nat} {m : Fn} {pins : List (Addr × Obj)} {σ : L2.St} {H : Hp} {s : Shared} {Q : VK} {us ws : List Value} {vs zs : List V}
    (G : FnG X.prog X.w X.K X.mg X.base i fx fd ps (SpM X.K X.mg n m)) (rm : Rm i X.A) (hb : BindsW X.K fd ps np ks pk) (px : Px X E) (I : Inv X pins σ H s) (r : Vals vs us) (rz : Vals zs ws) (l1 : vs.length = np) (l2 : zs.length = ks.length)
    (h : SpM X.K X.mg n m (pickL pk (vs ++ zs)) H Q (E σ)) : wpAny (model X.prog X.w) X.A (call (.ref fx) us (ks.zip ws)) (EP X pins σ Q) X.xe s := by
  have rr : Vals (pickL pk (vs ++ zs)) (pickL pk (us ++ ws)) := pick_vals (r.append rz) pk
  have bd := hb s us ws I.kIn (r.length.symm.trans l1) (rz.length.symm.trans l2)
  refine wpAny_call (codeAny_mono (runG G rm px I bd rr h) ?_)
  intro r s' hr
  match r, hr with
  | .error e, hr => exact hr
  | .ok (.ret u), hr => exact hr
theorem v_callK0 {x : Str} {i : Nat} {fx : Addr} {fd : FuncData} {ps ks : List Str} {n : Nat} {pk : List Nat} {m : Fn} (G : FnG X.prog X.w X.K X.mg X.base i fx fd ps (SpM X.K X.mg n m)) (rm : Rm i X.A) (hm : X.mg x = some (.ref fx))
    (hk : PySem.W.keepIn X.K (.ref fx) = true) (hb : BindsW X.K fd ps 0 ks pk) (px : Px X E) (hkw : VK' X E kws fk) (hg : Gl X x := by rfl) (hd : (x == ("__debug__" : Str)) = false := by decide)
    (hall : (backToKw pos (keywordEach kws X.env)).all (·.1.isSome) = true := by rfl) (hks : (backToKw pos (keywordEach kws X.env)).filterMap (·.1) = ks := by rfl)
    (hpl : ((backTo pos (starEach [] X.env)).any (·.1) || (backToKw pos (keywordEach kws X.env)).any (·.1.isNone)) = false := by rfl) : VE X E (.Call (.Name x p) [] kws pos) (mFnK n 0 ks.length pk m mNil fk) := fun g => by
  constructor
  rintro pins s σ H Q I ⟨F, ι, env, S, w, q⟩
  refine wpAny_Call_Name_kw (ld_glob I hg hm ?_ hd)
  refine PySem.W.callWith_KW0 (h₀ := X.base) I.ok.mod.kin hk hall (thn ((hkw g).run pos pins s σ H (fun zs H2 => zs.length = ks.length ∧ SpM X.K X.mg n m (pickL pk ([] ++ zs)) H2 Q (E σ)) I ⟨F, ι, env, S, w, ?_⟩) fun ws s2 hh => ?_) hpl
  · have q : rdAt X.K X.mg g E σ H F ι env (fun d H' F' ι' _ => ∀ v, Rep X.K X.mg F' ι' H' d v → Q v H') ((fk env S).andThen fun zs S2 => if zs.length = ks.length then (if (pickL pk ([] ++ zs)).length = n then m (pickL pk ([] ++ zs)) S2 else .bad) else .bad) := q
    refine rd_mono (rd_then q) ?_
    rintro zs H2 F2 ι2 S2 - e2 w2 ⟨_, _, q2⟩ vs hvs
    by_cases hc : zs.length = ks.length
    · rw [if_pos hc] at q2
      exact ⟨hvs.len.trans hc, sp_of w2 (pick_reps (by simpa using hvs) pk) q2 fun d H' F' ι' S' z v hv => z.2.2 v hv⟩
    · rw [if_neg hc] at q2
      exact q2.elim
  · obtain ⟨zs, H2, I2, rz, l2, sp⟩ := hh
    refine ⟨I2.kIn, ?_⟩
    rw [hks]
    exact run_kw (x := x) (us := []) (vs := []) G rm hb px I2 .nil rz rfl l2 sp
theorem v_callK {x : Str} {i : Nat} {fx : Addr} {fd : FuncData} {ps ks : List Str} {n np : Nat} {pk : List Nat} {m : Fn} (G : FnG X.prog X.w X.K X.mg X.base i fx fd ps (SpM X.K X.mg n m)) (rm : Rm i X.A) (hm : X.mg x = some (.ref fx))
    (hk : PySem.W.keepIn X.K (.ref fx) = true) (hb : BindsW X.K fd ps np ks pk) (px : Px X E) (ha : VA X E (e :: es) fa) (hkw : VK' X E kws fk) (hg : Gl X x := by rfl) (hd : (x == ("__debug__" : Str)) = false := by decide)
    (hall : (backToKw pos (keywordEach kws X.env)).all (·.1.isSome) = true := by rfl) (hks : (backToKw pos (keywordEach kws X.env)).filterMap (·.1) = ks := by rfl) (h1 : starEach (e :: es) X.env = (false, eval e X.env) :: starEach es X.env := by rfl)
    (hpl : ((backTo pos (starEach (e :: es) X.env)).any (·.1) || (backToKw pos (keywordEach kws X.env)).any (·.1.isNone)) = false := by rfl) : VE X E (.Call (.Name x p) (e :: es) kws pos) (mFnK n np ks.length pk m fa fk) := fun g => by
  constructor
  rintro pins s σ H Q I ⟨F, ι, env, S, w, q⟩
  refine wpAny_Call_Name_kw (ld_glob I hg hm ?_ hd)
  refine PySem.W.callWith_KW (h₀ := X.base) I.ok.mod.kin hk hall (thn ((ha g).run pos pins s σ H (fun vs H1 => vs.length = np ∧ tAr X.K X.mg g E fk σ H1 (fun zs H2 => zs.length = ks.length ∧ SpM X.K X.mg n m (pickL pk (vs ++ zs)) H2 Q (E σ))) I ⟨F, ι, env, S, w, ?_⟩) fun us s1 h1 => ?_) hpl h1
  · refine rd_mono (rd_then q) ?_
    rintro xs H1 F1 ι1 S1 - e1 w1 ⟨_, _, q1⟩ vs hvs
    by_cases hn : xs.length = np
    · rw [if_pos hn] at q1
      refine ⟨hvs.len.trans hn, F1, ι1, env, S1, w1, rd_mono (rd_then q1) ?_⟩
      rintro zs H2 F2 ι2 S2 - e2 w2 ⟨_, _, q2⟩ us hus
      by_cases hc : zs.length = ks.length
      · rw [if_pos hc] at q2
        exact ⟨hus.len.trans hc, sp_of w2 (pick_reps ((w1.wd.reps e2 hvs).app hus) pk) q2 fun d H' F' ι' S' z v hv => z.2.2.2.2 v hv⟩
      · rw [if_neg hc] at q2
        exact q2.elim
    · rw [if_neg hn] at q1
      exact q1.elim
  · obtain ⟨vs, H1, I1, rv, l1, q1⟩ := h1
    refine thn ((hkw g).run pos pins s1 σ H1 _ I1 q1) fun ws s2 hh => ?_
    obtain ⟨zs, H2, I2, rz, l2, sp⟩ := hh
    refine ⟨I2.kIn, ?_⟩
    rw [hks]
    exact run_kw (x := x) G rm hb px I2 rv rz l1 l2 sp
end
end DL

/-! DLp: new cells, divmod, pairs assigned, empty dicts, None. -/
namespace DL
open PySem PySem.Spec L2
open PyProof.Rows hiding St

section
variable {K : PySem.W.Frag} {mg : Str → Option Value} {F : Fz} {ι : List Addr} {H : Hp} {S : List Cell}
/-- an object that is neither frozen nor a cell becomes a cell -/
theorem Wd.cellNew {a : Addr} {c : Cell} (w : Wd K mg F ι H S) (hf : ¬ F a) (hi : a ∉ ι) (hc : CellOk K mg F ι H a c) : Wd K mg F (ι ++ [a]) H (S ++ [c]) := by
  have pre : ι <+: ι ++ [a] := List.prefix_append _ _
  have up : ∀ (b : Addr) c, CellOk K mg F ι H b c → CellOk K mg F (ι ++ [a]) H b c := fun b c h => cell_mono (fun _ h => h) (fun _ _ _ h => h) pre (fun _ h => h) c h
  refine ⟨w.fin, fun b hb => ?_, ?_, by rw [List.length_append, List.length_append, w.len]; rfl, fun n d b h1 h2 => ?_⟩
  · rcases List.mem_append.mp hb with z | z
    · exact w.cnf b z
    · rw [List.mem_singleton.mp z]; exact hf
  · rw [List.nodup_append]
    refine ⟨w.cnd, by simp, fun x hx y hy e => ?_⟩
    rw [List.mem_singleton] at hy
    subst hy e
    exact hi hx
  · by_cases hn : n < S.length
    · rw [List.getElem?_append_left hn] at h1
      rw [List.getElem?_append_left (by rw [← w.len]; exact hn)] at h2
      exact up b d (w.cells n d b h1 h2)
    · rw [List.getElem?_append_right (by omega)] at h1
      rw [List.getElem?_append_right (by rw [← w.len]; omega)] at h2
      have e0 : n - S.length = 0 := by
        cases z : n - S.length with
        | zero => rfl
        | succ k => rw [z] at h1; simp at h1
      rw [e0] at h1
      rw [← w.len, e0] at h2
      have h1 : some c = some d := h1
      have h2 : some a = some b := h2
      cases h1
      cases h2
      exact up _ _ hc
theorem cell_ext {H' : Hp} {F' : Fz} {ι' : List Addr} {a : Addr} (e : Ext H F ι H' F' ι') (n : H a = none) : Ext H F ι H' F' (ι' ++ [a]) :=
  ⟨e.sub, e.new, e.keep, e.mono, e.pre.trans (List.prefix_append _ _), fun b hb => (List.mem_append.mp hb).elim (e.cnew b) fun z => by rw [List.mem_singleton.mp z]; exact .inr n⟩
end
section
variable {X : Cx} {E : EE} {e a b : Expr} {fa : Ex (List D)} {f : Ex D} {pos : Pos}
/-- a new list as a cell -/
def mCell (f : Ex (List D)) : Ex D := fun env S => (f env S).andThen fun xs S1 => .ok (.cell S1.length) (S1 ++ [.lst xs])
theorem v_cell (h : VO X E e fa) : VE X E e (mCell fa) := fun g => (h g).imp fun σ H Q ⟨F, ι, env, S, w, q⟩ => ⟨F, ι, env, S, w, by
  unfold mCell at q
  cases hf : fa env S with
  | bad => rw [hf] at q; exact q
  | ex c ns ds S1 => rw [hf] at q; exact q
  | ok xs S1 =>
    rw [hf] at q
    intro H1 F1 ι1 e1 w1 p vs h1 r nf nc n
    have w2 := w1.wd.cellNew (c := .lst xs) nf nc ⟨vs, h1, r⟩
    have e2 := cell_ext e1 n
    exact q H1 F1 (ι1 ++ [p]) e2 (w.step e2 w2) (.ref p) ⟨p, rfl, by rw [w1.wd.len]; simp⟩⟩
/-- divmod -/
def divmodD : OpN := fun xs _ => match xs with
  | [.int i, .int j] => if 0 < j ∧ j < 1073741824 then some (.tup [.int (i / j), .int (i % j)]) else none
  | _ => none
theorem ok_divmod {K : PySem.W.Frag} {mg : Str → Option Value} : OkN K mg (fun xs H Q => ∃ i j, xs = [.int i, .int j] ∧ CDiv i j ∧ ∀ p, H p = none → Q (.ref p) (upd H p (.tup [.int (i / j), .int (i % j)]))) divmodD := by
  intro H F ι S xs d vs Q w rx ho t
  unfold divmodD at ho
  split at ho
  · rename_i i j
    obtain ⟨v, u, rfl, hv, hu⟩ := two_of rx
    rw [show v = _ from hv, show u = _ from hu]
    split at ho
    · rename_i hc
      cases ho
      exact ⟨i, j, rfl, hc, fun p hp => t.layT w ⟨_, _, rfl, rfl, _, _, rfl, rfl, rfl⟩ hp⟩
    · cases ho
  · cases ho
/-- x is None, x is not None -/
def isN (neg : Bool) : Op2 := fun x y _ => match y, x with
  | .non, .non => some (.bl (!neg))
  | .non, _ => some (.bl neg)
  | _, _ => none
def isNon : D → Bool
  | .non => true
  | _ => false
theorem rep_non {K : PySem.W.Frag} {mg : Str → Option Value} {F : Fz} {ι : List Addr} {H : Hp} {d : D} {v : V} (r : Rep K mg F ι H d v) : decide (v = .non) = isNon d := by
  cases d with
  | non => rw [show v = _ from r]; rfl
  | bl b => rw [show v = _ from r]; rfl
  | int b => rw [show v = _ from r]; rfl
  | str b => rw [show v = _ from r]; rfl
  | tup xs => obtain ⟨p, vs, rfl, _⟩ := r; rfl
  | lst xs => obtain ⟨p, vs, rfl, _⟩ := r; rfl
  | ro xs => obtain ⟨p, vs, rfl, _⟩ := r; rfl
  | dct ks xs => obtain ⟨p, vs, rfl, _⟩ := r; rfl
  | obj c ns xs => obtain ⟨p, C, dx, vs, rfl, _⟩ := r; rfl
  | cell n => obtain ⟨p, rfl, _⟩ := r; rfl
  | ty n => rw [show v = _ from r]; rfl
  | cls c => obtain ⟨p, rfl, _⟩ := r; rfl
  | exc c ns xs => obtain ⟨p, C, oe, u, od, vs, rfl, _⟩ := r; rfl
theorem ok_isN {K : PySem.W.Frag} {mg : Str → Option Value} : Ok2 K mg (fun x y H Q => y = .non ∧ Q (.bl (decide (x = .non))) H) (isN false) := by
  intro H F ι S x y d v u Q w rx ry ho t
  unfold isN at ho
  split at ho
  · cases ho
    rw [show u = _ from ry]
    exact ⟨rfl, by rw [rep_non rx]; exact t.here w rfl⟩
  · rename_i hx
    cases ho
    rw [show u = _ from ry]
    refine ⟨rfl, ?_⟩
    rw [rep_non rx]
    cases x with
    | non => exact absurd rfl hx
    | _ => exact t.here w rfl
  · cases ho
theorem ok_isNN {K : PySem.W.Frag} {mg : Str → Option Value} : Ok2 K mg (fun x y H Q => y = .non ∧ Q (.bl (!decide (x = .non))) H) (isN true) := by
  intro H F ι S x y d v u Q w rx ry ho t
  unfold isN at ho
  split at ho
  · cases ho
    rw [show u = _ from ry]
    exact ⟨rfl, by rw [rep_non rx]; exact t.here w rfl⟩
  · rename_i hx
    cases ho
    rw [show u = _ from ry]
    refine ⟨rfl, ?_⟩
    rw [rep_non rx]
    cases x with
    | non => exact absurd rfl hx
    | _ => exact t.here w rfl
  · cases ho
/-- a new empty dict -/
theorem v_dict0 : VE X E (.Dict [] [] pos) (mC (.dct [] [])) := fun g => pe_dnewK.imp fun σ H Q ⟨F, ι, env, S, w, q⟩ p hp => by
  obtain ⟨e, wd⟩ := w.wd.lay (o := .dK []) hp
  exact q _ _ _ e (w.step e wd) (.ref p) ⟨p, [], rfl, .inr rfl, .inl upd_same, rfl, rfl⟩
/-- a, b = x, y -/
def mPar2 (i j : Nat) (fa : Ex (List D)) : Sm := fun env S => (fa env S).go env fun ds S1 => match ds with
  | [d, d'] => .nx ((env.set i (.val d)).set j (.val d')) S1
  | _ => .bad
theorem s_par (i j : Nat) {x y : Str} {px py pt : Pos} {kt k2 pt2} (ha : VA X E [a, b] fa) (hc : X.calm = true) (hN : X.N.Nodup) (hi : X.N[i]? = some x := by rfl) (hj : X.N[j]? = some y := by rfl) (hij : i ≠ j := by decide)
    (hx : X.env.scope.names.lookup x = some .local := by rfl) (hy : X.env.scope.names.lookup y = some .local := by rfl) (hw : swappedStores [.Tuple [.Name x px, .Name y py] kt pt] (.Tuple [a, b] k2 pt2) X.env = pure (some [x, y]) := by rfl)
    (hs : swapsWithSole [.Tuple [.Name x px, .Name y py] kt pt] (.Tuple [a, b] k2 pt2) pos.line X.env = pure false := by rfl) :
    VS X E (.Assign [.Tuple [.Name x px, .Name y py] kt pt] (.Tuple [a, b] k2 pt2) pos) (mPar2 i j fa) := fun g => (ps_par hc hN hi hj hij hx hy (ha g) hw hs).imp fun D σ H ⟨F, ι, env, S, w, q⟩ =>
  ⟨F, ι, env, S, w, rd_mono (rd_go w.wd q) fun ds H1 F1 ι1 S1 _ e1 w1 ⟨_, _, q1⟩ vs hvs => by
    match ds, q1 with
    | [d, d'], q1 =>
      obtain ⟨v, u, rfl, hv, hu⟩ := two_of hvs
      exact ⟨v, u, rfl, q1 _ H1 F1 ι1 ((w1.put i hv).put j hu) Grow.refl⟩⟩
end
end DL

/-! DLq: the law's end. -/
namespace DL
open PySem PySem.Spec L2
open PyProof.Rows hiding St

theorem rm_caller {k : Nat} (h : Room k callerA) (hq : callerA.guards = some [] := by rfl) : Rm k callerA := ⟨h, hq⟩
def scriptD (ns : List Int) : D := .ro (ns.map .int)
theorem mean_of_law {P : Program} {w : World} {K : PySem.W.Frag} {mg mb : Str → Option Value} {k : Nat} {fa a : Addr} {fd : FuncData} {x : Str} {m : Fn} {s1 : Shared} {vs : List Value} {ns : List Int}
    (KX : K.In s1.heap) (nG : s1.heap.Ns mainGlobals mg) (nB : s1.heap.Ns builtinsNs mb) (bB : ∀ x : Str, x ≠ "__name__" → mb x = bootBuiltins x) (lim : s1.heap.NoLimit) (noG : s1.gens = #[])
    (at_ : s1.heap.get? a = some { cls := .type "list", data := .seq vs.toArray }) (hi : IntsAre vs ns) (hl : ns.length ≤ sizeLine) (rm : Rm k callerA)
    (G : ∀ base : Heap, K.In base → base.Ns mainGlobals mg → FnG P w K mg base k fa fd [x] (SpM K mg 1 m)) (bd : ∀ (s : Shared) (u : Value), BindsTo s fd ⟨[u], []⟩ [(x, u)])
    (hm : ∃ S', m [scriptD ns] [] = .ok (.bl true) S') :
    codeAny (model P w) callerA (.call (.ref fa) ⟨[.ref a], []⟩) (fun r s' => r = .ok (.ret (.bool true)) ∧ OldK s1.heap s'.heap ∧ s'.os = s1.os ∧ AllBare s'.gens) s1 := by
  have rv := vals_ints hi
  have lenV := hi.length
  let scr : HO := .frz { cls := .type "list", data := .seq vs.toArray } (.lst (ns.map V.int))
  have main : ∀ (H : Hp) (F0 : Fz), (∀ b u, H b = some u → b = a ∧ u = scr ∧ K.lookup a = none) → (∀ b, F0 b → H b ≠ none) → HOk P w H s1.heap → RoAt K F0 H a (ns.map V.int) →
      codeAny (model P w) callerA (.call (.ref fa) ⟨[.ref a], []⟩) (fun r s' => r = .ok (.ret (.bool true)) ∧ OldK s1.heap s'.heap ∧ s'.os = s1.os ∧ AllBare s'.gens) s1 := by
    intro H F0 only f0 hok ro
    have hid : ∀ {b : Addr} {o : Obj}, s1.heap.get? b = some o → H b = none → (hidT s1.heap H).get? b = some o := fun e n => hidT_get e n
    have free : ∀ {b : Addr} {o : Obj}, s1.heap.get? b = some o → (b = a → o = { cls := .type "list", data := .seq vs.toArray } → K.lookup a = none → False) → H b = none := fun {b o} e no => by
      cases q : H b with
      | none => rfl
      | some u =>
        obtain ⟨rfl, _, hK⟩ := only b u q
        rw [at_] at e
        exact (no rfl (by cases e; rfl) hK).elim
    have nsT : ∀ {b : Addr} {mm : Str → Option Value}, s1.heap.Ns b mm → (hidT s1.heap H).Ns b mm := fun {b mm} ⟨o, es, ep, e, d, r⟩ => ⟨o, es, ep, hid e (free e fun _ z _ => by
      rw [z] at d
      have d' : Data.seq vs.toArray _ = Data.dict es ep := d
      cases d'), d, r⟩
    have kin : K.In (hidT s1.heap H) := fun b o e => hid (KX b o e) (free (KX b o e) fun z _ hK => by
      rw [z, hK] at e
      cases e)
    have md : Mod K mg (hidT s1.heap H) := ⟨kin, nsT nG, ⟨mb, nsT nB, bB⟩, let ⟨mc, h1, h2⟩ := lim; ⟨mc, nsT h1, h2⟩⟩
    have e0 : Env0 P w K mg (hidT s1.heap H) callerA [] s1 H := ⟨rfl, md, fun b o e => of_hidT e, Nat.le_of_eq (hidT_size _ _), trivial, fun b hb => absurd (show b ∈ ([] : List Addr) from hb) (by simp), hok, .of_eq noG⟩
    have wd : Wd K mg F0 [] H [] := ⟨f0, fun b hb => absurd hb (by simp), by simp, rfl, fun n c b h _ => by simp at h⟩
    have sp : SpM K mg 1 m [.ref a] H (fun v _ => v = .bl true) (fun _ _ _ => False) := by
      refine ⟨rfl, F0, [], [scriptD ns], [], wd, .one ⟨a, ns.map V.int, rfl, ro, reps_ints ns⟩, ?_⟩
      obtain ⟨S', hS⟩ := hm
      rw [hS]
      exact fun v H' F' ι' _ _ hv => hv
    refine codeAny_mono ((G _ kin (nsT nG)).go callerA [] s1 H ⟨[.ref a], []⟩ [.ref a] [.ref a] _ _ rm e0 (bd s1 (.ref a)) (.cons rfl .nil) sp) fun r s' h => ?_
    cases r with
    | error e =>
      obtain ⟨_, _, _, _, _, _, _, _, _, _, _, _, h⟩ := h
      exact h.elim
    | ok fl =>
      cases fl with
      | ret u =>
        obtain ⟨v, H', os, bare, un, hok', r', q⟩ := h
        obtain rfl : v = .bl true := q
        obtain rfl : u = Value.bool true := r'
        refine ⟨rfl, OldK.of_keep fun b o e => ?_, os, bare⟩
        cases q : H b with
        | none => exact un.keep b o e q (by intro z; exact absurd (show b ∈ ([] : List Addr) from z) (by simp)) (by simp)
        | some u =>
          obtain ⟨rfl, rfl, _⟩ := only b u q
          obtain ⟨e1, _⟩ := hok' b _ (un.frzs b _ _ q)
          rw [at_] at e
          cases e
          exact e1
      | _ => exact False.elim h
  cases hk : K.lookup a with
  | some o =>
    have e := KX a o hk
    rw [at_] at e
    cases e
    exact main noH (fun _ => False) (fun b u z => nomatch z) (fun _ z => z.elim) (fun b u z => nomatch z)
      (.inr (.inr ⟨_, vs.toArray, _, hk, rfl, rfl, rfl, by rw [List.size_toArray, lenV]; exact hl, by simpa using rv⟩))
  | none =>
    refine main (upd noH a scr) (fun b => b = a) (fun b u z => ?_) (fun b z => ?_) (fun b u z => ?_) (.inl ⟨rfl, .inr ⟨_, upd_same⟩⟩)
    · by_cases hb : b = a
      · subst hb
        rw [upd_same] at z
        cases z
        exact ⟨rfl, rfl, hk⟩
      · rw [upd_ne hb] at z
        exact nomatch z
    · rw [z, upd_same]; simp
    · by_cases hb : b = a
      · subst hb
        rw [upd_same] at z
        cases z
        exact ⟨at_, by rw [List.length_map]; exact hl, vs, _, rv, at_⟩
      · rw [upd_ne hb] at z
        exact nomatch z
/-- the goal that k_head leaves -/
theorem walkG {l : PySem.W.OpenLaw} {n k : Nat} {q : Program} {loose : List Str} {XP : (Str → Option Value) → Heap → Prop} {YP : World → Heap → Prop} {d : DefRec} {K : Params → PySem.W.Frag} {x : Str} {m : Fn}
    (hn : l.most = some n) (hn2 : n ≤ sizeLine) (hdf : d.params.defaults = []) (hr : Room k callerA)
    (hY : ∀ (w : World) (h : Heap), YP w h → (K w.params).In h)
    (F : ∀ (w : World) (mg : Str → Option Value) (fa : Addr) (h : Heap), (K w.params).In h → h.Ns mainGlobals mg → mg d.name = some (.ref fa) →
      ∃ fd : FuncData, (∀ (s : Shared) (u : Value), BindsTo s fd ⟨[u], []⟩ [(x, u)]) ∧
        ∀ base : Heap, (K w.params).In base → base.Ns mainGlobals mg → FnG l.prog w (K w.params) mg base k fa fd [x] (SpM (K w.params) mg 1 m))
    (hm : ∀ ns : List Int, ns.length ≤ n → ∃ S', m [scriptD ns] [] = .ok (.bl true) S') :
    PySem.W.WalkO q loose XP YP l.row.toRowW d [] (fun f vs => PySem.call f vs) := by
  refine Att.attach_call hn hdf fun w s0 s1 mg mb fa o pm cd doc a vs ns G Y ho hd hcd hmg hobj hints hlen hg => ?_
  obtain ⟨fd, hb, hF⟩ := F w mg fa _ (hY w _ Y) G.T.g hmg
  exact mean_of_law (hY w _ Y) G.T.g G.T.b G.T.builtins G.T.nolimit hg hobj hints (Nat.le_trans hlen hn2) (rm_caller hr) hF hb (hm ns hlen)
end DL

/-! DLr: small helpers for written-out defs. -/
namespace DL
open PySem PySem.Spec L2
open PyProof.Rows hiding St

section
variable {X : Cx} {E : EE} {es : List Expr} {x : Str} {pos : Pos} {n : Int}
theorem pp_nm (i : Nat) (hN : X.N.Nodup) (hi : X.N[i]? = some x := by rfl) (hx : Loc X.env.scope x := by first | exact Or.inl rfl | exact Or.inr rfl) (hf : X.fn x = true ∨ X.env.scope.names.lookup x = some .local := by first | exact .inl rfl | exact .inr rfl) :
    PG X (.Name x pos) (gPat X.K (.nm i)) := pg_name hN hi hx hf
theorem pp_tp {k : Nat} {ps : List Pat} (hc : X.calm = true) (h : PGs X es (gPats X.K ps)) (hn : (assignEach es X.env).length = ps.length := by rfl) (hst : (assignEach es X.env).findIdx? (·.1) = none := by rfl) :
    PG X (.Tuple es k pos) (gPat X.K (.tp ps)) := pg_or (pg_tup hc h hn hst) (pg_unl hc h hn hst)
theorem pp_nil : PGs X [] (gPats X.K []) := pgs_nil
theorem pp_cons {e : Expr} {p : Pat} {ps : List Pat} (h1 : PG X e (gPat X.K p)) (h2 : PGs X es (gPats X.K ps)) (hs : (assignEach (e :: es) X.env).map (·.2) = assign e X.env :: (assignEach es X.env).map (·.2) := by rfl) :
    PGs X (e :: es) (gPats X.K (p :: ps)) := pgs_cons h1 h2 hs
/-- a module's number -/
theorem v_gint (h : ∃ t, X.mg x = some (.int n t)) (hg : Gl X x := by rfl) (hd : (x == ("__debug__" : Str)) = false := by decide) : VE X E (.Name x pos) (mC (.int n)) := by
  obtain ⟨t, h⟩ := h
  exact v_glob (v := .int n) hg h ⟨t, rfl⟩ (fun _ _ _ => rfl) hd
/-- an own class -/
theorem v_cls {C : Addr} (h : X.mg x = some (.ref C)) (hg : Gl X x := by rfl) (hd : (x == ("__debug__" : Str)) = false := by decide) : VE X E (.Name x pos) (mC (.cls x)) :=
  v_glob (v := .ref C) hg h rfl (fun _ _ _ => ⟨C, rfl, h⟩) hd
end
/-- what is known of classes, from rows -/
def isaOf (oo : List (Str × Str × Bool)) (ob : List (Str × String × Bool)) (own : List Str) : KT → KT → Option Bool
  | .b m, .b n => isTB m n
  | .b m, .o c => if own.contains c && tyNames.contains m then some false else none
  | .o c, .o d => (oo.find? fun r => r.1 == c && r.2.1 == d).map (·.2.2)
  | .o c, .b n => (ob.find? fun r => r.1 == c && r.2.1 == n).map (·.2.2)
theorem isa_ok {K : PySem.W.Frag} {mg : Str → Option Value} {oo : List (Str × Str × Bool)} {ob : List (Str × String × Bool)} {own : List Str}
    (h1 : ∀ c d b, (c, d, b) ∈ oo → ∃ C D, mg c = some (.ref C) ∧ mg d = some (.ref D) ∧ PySem.W.kitOne K (.ref C) (.ref D) = some b)
    (h2 : ∀ c n b, (c, n, b) ∈ ob → ∃ C, mg c = some (.ref C) ∧ PySem.W.kitOne K (.ref C) (.type n) = some b)
    (h3 : ∀ c ∈ own, ∀ m ∈ tyNames, ∃ C, mg c = some (.ref C) ∧ PySem.W.kitOne K (.type m) (.ref C) = some false) :
    ∀ a b r, isaOf oo ob own a b = some r → ∀ u, ktv mg a u → ∃ w, ktv mg b w ∧ PySem.W.kitOne K u w = some r := by
  intro a b r h u hu
  cases a with
  | b m =>
    cases b with
    | b n =>
      rw [show u = _ from hu]
      exact ⟨_, rfl, kit_ty (isTB_ok h)⟩
    | o c =>
      unfold isaOf at h
      dsimp only at h
      split at h
      · rename_i hc
        rw [Bool.and_eq_true] at hc
        cases h
        obtain ⟨C, e1, e2⟩ := h3 c (by simpa using hc.1) m (by simpa using hc.2)
        rw [show u = _ from hu]
        exact ⟨_, ⟨C, rfl, e1⟩, e2⟩
      · cases h
  | o c =>
    obtain ⟨C', rfl, e0⟩ := hu
    cases b with
    | b n =>
      obtain ⟨⟨c', n', b'⟩, hf, rfl⟩ := Option.map_eq_some_iff.mp h
      have hp := List.find?_some hf
      rw [Bool.and_eq_true, beq_iff_eq, beq_iff_eq] at hp
      obtain ⟨hp1, hp2⟩ := hp
      dsimp only at hp1 hp2
      subst hp1 hp2
      obtain ⟨C, e1, e2⟩ := h2 _ _ _ (List.mem_of_find?_eq_some hf)
      rw [e0] at e1
      cases e1
      exact ⟨_, rfl, e2⟩
    | o d =>
      obtain ⟨⟨c', n', b'⟩, hf, rfl⟩ := Option.map_eq_some_iff.mp h
      have hp := List.find?_some hf
      rw [Bool.and_eq_true, beq_iff_eq, beq_iff_eq] at hp
      obtain ⟨hp1, hp2⟩ := hp
      dsimp only at hp1 hp2
      subst hp1 hp2
      obtain ⟨C, D, e1, e3, e2⟩ := h1 _ _ _ (List.mem_of_find?_eq_some hf)
      rw [e0] at e1
      cases e1
      exact ⟨_, ⟨D, rfl, e3⟩, e2⟩
/-- who catches whom, from rows -/
def subOf (oo : List (Str × Str × Bool)) (c d : Str) : Option Bool := (oo.find? fun r => r.1 == c && r.2.1 == d).map (·.2.2)
theorem sub_ok {K : PySem.W.Frag} {mg : Str → Option Value} {oo : List (Str × Str × Bool)} (h : ∀ c d b, (c, d, b) ∈ oo → ∃ C D, mg c = some (.ref C) ∧ mg d = some (.ref D) ∧ PySem.W.exmOne K (.ref C) (.ref D) = some b) : SubOk K mg (subOf oo) := by
  intro c x b hs C hC
  obtain ⟨⟨c', d', b'⟩, hf, rfl⟩ := Option.map_eq_some_iff.mp hs
  have hp := List.find?_some hf
  rw [Bool.and_eq_true, beq_iff_eq, beq_iff_eq] at hp
  obtain ⟨hp1, hp2⟩ := hp
  dsimp only at hp1 hp2
  subst hp1 hp2
  obtain ⟨C', D, e1, e3, e2⟩ := h _ _ _ (List.mem_of_find?_eq_some hf)
  rw [hC] at e1
  cases e1
  exact ⟨D, e3, e2⟩
theorem Rm.units {k : Nat} {A : Around} (r : Rm k A) : A.units + 64 < cLine := r.room.units
end DL

/-! DLs: targets that raise nothing. -/
namespace DL
open PySem PySem.Spec L2
open PyProof.Rows hiding St

def NxE {α : Type} (f : Ex α) : Prop := ∀ env S, (∃ d S', f env S = .ok d S') ∨ f env S = .bad
def NxG (t : D → Sm) : Prop := ∀ d env S, (∃ e S', t d env S = .nx e S') ∨ t d env S = .bad
def LenB (n : Nat) (ts : List D → Sm) : Prop := ∀ ds env S, ds.length ≠ n → ts ds env S = .bad
def NxGs (ts : List D → Sm) : Prop := ∀ ds env S, (∃ e S', ts ds env S = .nx e S') ∨ ts ds env S = .bad
theorem nx_var (i : Nat) : NxE (mVar i) := fun env S => by
  unfold mVar
  split
  · exact .inl ⟨_, _, rfl⟩
  · exact .inr rfl
theorem nx_c (d : D) : NxE (mC d) := fun env S => .inl ⟨_, _, rfl⟩
theorem ng_name (k : Nat) : NxG (gName' k) := fun d env S => .inl ⟨_, _, rfl⟩
theorem ng_sub {f h : Ex D} (hf : NxE f) (hh : NxE h) : NxG (gSubC f h) := fun d env S => by
  unfold gSubC
  rcases hf env S with ⟨x, S1, e⟩ | e
  · rw [e, go_ok]
    rcases hh env S1 with ⟨y, S2, e2⟩ | e2
    · rw [e2, go_ok]
      split
      · exact .inl ⟨_, _, rfl⟩
      · exact .inr rfl
    · rw [e2]; exact .inr rfl
  · rw [e]; exact .inr rfl
theorem ngs_nil : NxGs gNil' := fun ds env S => by
  unfold gNil'
  split
  · exact .inl ⟨_, _, rfl⟩
  · exact .inr rfl
theorem ngs_cons {t : D → Sm} {ts : List D → Sm} (h1 : NxG t) (h2 : NxGs ts) : NxGs (gCons' t ts) := fun ds env S => by
  cases ds with
  | nil => exact .inr rfl
  | cons d r =>
    have key : ∀ fl, fl = t d env S → (∃ e S', (match (motive := Fl → Fl) fl with | .nx e S' => ts r e S' | .ex c ns es e' S' => .ex c ns es e' S' | _ => .bad) = Fl.nx e S') ∨ (match (motive := Fl → Fl) fl with | .nx e S' => ts r e S' | .ex c ns es e' S' => .ex c ns es e' S' | _ => .bad) = Fl.bad := fun fl hfl => by
      rcases h1 d env S with ⟨e, S', q⟩ | q
      · rw [hfl, q]; exact h2 r e S'
      · rw [hfl, q]; exact .inr rfl
    exact key _ rfl
theorem ng_tup {ts : List D → Sm} (h : NxGs ts) : NxG (gTup' ts) := fun d env S => by
  cases d with
  | tup ds => exact h ds env S
  | lst ds => exact h ds env S
  | _ => exact .inr rfl
theorem lb_nil : LenB 0 gNil' := fun ds env S h => by
  cases ds with
  | nil => exact absurd rfl h
  | cons d r => rfl
theorem lb_cons {n : Nat} {t : D → Sm} {ts : List D → Sm} (h1 : NxG t) (h2 : LenB n ts) : LenB (n + 1) (gCons' t ts) := fun ds env S h => by
  cases ds with
  | nil => rfl
  | cons d r =>
    show (match t d env S with | .nx e S' => ts r e S' | .ex c ns es e' S' => .ex c ns es e' S' | _ => .bad) = Fl.bad
    rcases h1 d env S with ⟨e, S', q⟩ | q
    · rw [q]; exact h2 r e S' fun z => h (by rw [List.length_cons, z])
    · rw [q]
theorem hno_of {t : D → Sm} (h : NxG t) : ∀ d env S, (∃ e S', t d env S = .nx e S') ∨ (∃ c ns ds e' S', t d env S = .ex c ns ds e' S') ∨ t d env S = .bad := fun d env S => (h d env S).elim .inl fun z => .inr (.inr z)
end DL

/-! DLt: mirrors worked out: plain lemmas. -/
namespace DL
open PySem PySem.Spec L2
open PyProof.Rows hiding St

@[simp] theorem mSeq_ap (a b : Sm) (env : List Sl) (S : List Cell) : mSeq a b env S = (match a env S with | .nx e S' => b e S' | r => r) := rfl
@[simp] theorem mSet_ap (i : Nat) (f : Ex D) (env : List Sl) (S : List Cell) : mSet i f env S = (f env S).go env fun d S1 => .nx (env.set i (.val d)) S1 := rfl
@[simp] theorem mIfS_ap (p : Ex Bool) (a b : Sm) (env : List Sl) (S : List Cell) : mIfS p a b env S = (p env S).go env fun b' S1 => if b' = true then a env S1 else b env S1 := rfl
@[simp] theorem mRet_ap (f : Ex D) (env : List Sl) (S : List Cell) : mRet f env S = (f env S).go env fun d S1 => .rt d S1 := rfl
@[simp] theorem mExpr_ap (f : Ex D) (env : List Sl) (S : List Cell) : mExpr f env S = (f env S).go env fun _ S1 => .nx env S1 := rfl
@[simp] theorem mSkip_ap (env : List Sl) (S : List Cell) : mSkip env S = .nx env S := rfl
@[simp] theorem mVar_ap (i : Nat) (env : List Sl) (S : List Cell) : mVar i env S = (match env[i]? with | some (.val d) => .ok d S | _ => .bad) := rfl
@[simp] theorem mC_ap (d : D) (env : List Sl) (S : List Cell) : mC d env S = .ok d S := rfl
@[simp] theorem mOp_ap (o : Op2) (f h : Ex D) (env : List Sl) (S : List Cell) : mOp o f h env S = (f env S).andThen fun x S1 => (h env S1).andThen fun y S2 => ofO (o x y S2) S2 := rfl
@[simp] theorem mUn_ap (o : Op1) (f : Ex D) (env : List Sl) (S : List Cell) : mUn o f env S = (f env S).andThen fun x S1 => ofO (o x S1) S1 := rfl
@[simp] theorem mB_ap (f : Ex D) (env : List Sl) (S : List Cell) : mB f env S = (f env S).andThen asB := rfl
@[simp] theorem mNot_ap (p : Ex Bool) (env : List Sl) (S : List Cell) : mNot p env S = (p env S).andThen fun b S1 => .ok (!b) S1 := rfl
@[simp] theorem mAnd_ap (p q : Ex Bool) (env : List Sl) (S : List Cell) : mAnd p q env S = (p env S).andThen fun b S1 => if b = true then q env S1 else .ok false S1 := rfl
@[simp] theorem mOr_ap (p q : Ex Bool) (env : List Sl) (S : List Cell) : mOr p q env S = (p env S).andThen fun b S1 => if b = true then .ok true S1 else q env S1 := rfl
@[simp] theorem mAndV_ap (f h : Ex D) (env : List Sl) (S : List Cell) : mAndV f h env S = (mB f env S).andThen fun b S1 => if b = true then h env S1 else .ok (.bl false) S1 := rfl
@[simp] theorem mOrV_ap (f h : Ex D) (env : List Sl) (S : List Cell) : mOrV f h env S = (mB f env S).andThen fun b S1 => if b = true then .ok (.bl true) S1 else h env S1 := rfl
@[simp] theorem mNotV_ap (f : Ex D) (env : List Sl) (S : List Cell) : mNotV f env S = (mB f env S).andThen fun b S1 => .ok (.bl (!b)) S1 := rfl
@[simp] theorem mIf_ap (p : Ex Bool) (f h : Ex D) (env : List Sl) (S : List Cell) : mIf p f h env S = (p env S).andThen fun b S1 => if b = true then f env S1 else h env S1 := rfl
@[simp] theorem mChain_ap (o o' : Op2) (f h k : Ex D) (env : List Sl) (S : List Cell) : mChain o o' f h k env S = (f env S).andThen fun x S1 => (h env S1).andThen fun y S2 => ((ofO (o x y S2) S2).andThen asB).andThen fun b S3 =>
  if b = true then (k env S3).andThen fun z S4 => ofO (o' y z S4) S4 else .ok (.bl false) S3 := rfl
@[simp] theorem mCall_ap (o : OpN) (fa : Ex (List D)) (env : List Sl) (S : List Cell) : mCall o fa env S = (fa env S).andThen fun xs S1 => ofO (o xs S1) S1 := rfl
@[simp] theorem mFn_ap (n : Nat) (m : Fn) (fa : Ex (List D)) (env : List Sl) (S : List Cell) : mFn n m fa env S = (fa env S).andThen fun xs S1 => if xs.length = n then m xs S1 else .bad := rfl
@[simp] theorem mFnK_ap (n np nk : Nat) (p : List Nat) (m : Fn) (fa fk : Ex (List D)) (env : List Sl) (S : List Cell) : mFnK n np nk p m fa fk env S = (fa env S).andThen fun xs S1 => if xs.length = np then (fk env S1).andThen (fun zs S2 =>
  if zs.length = nk then (if (pickL p (xs ++ zs)).length = n then m (pickL p (xs ++ zs)) S2 else .bad) else .bad) else .bad := rfl
@[simp] theorem mCons_ap (f : Ex D) (r : Ex (List D)) (env : List Sl) (S : List Cell) : mCons f r env S = (f env S).andThen fun x S1 => (r env S1).andThen fun xs S2 => .ok (x :: xs) S2 := rfl
@[simp] theorem mNil_ap (env : List Sl) (S : List Cell) : mNil env S = .ok [] S := rfl
@[simp] theorem mTup_ap (f : Ex (List D)) (env : List Sl) (S : List Cell) : mTup f env S = (f env S).andThen fun xs S1 => if xs.length ≤ 100000 then .ok (.tup xs) S1 else .bad := rfl
@[simp] theorem mLst_ap (f : Ex (List D)) (env : List Sl) (S : List Cell) : mLst f env S = (f env S).andThen fun xs S1 => if xs.length ≤ 100000 then .ok xs S1 else .bad := rfl
@[simp] theorem mFr_ap (f : Ex (List D)) (env : List Sl) (S : List Cell) : mFr f env S = (f env S).andThen fun xs S1 => .ok (.lst xs) S1 := rfl
@[simp] theorem mCell_ap (f : Ex (List D)) (env : List Sl) (S : List Cell) : mCell f env S = (f env S).andThen fun xs S1 => .ok (.cell S1.length) (S1 ++ [.lst xs]) := rfl
@[simp] theorem mUnp_ap (p : Pat) (f : Ex D) (env : List Sl) (S : List Cell) : mUnp p f env S = (f env S).go env fun d S1 => (match bindP p d env with | some env' => .nx env' S1 | none => .bad) := rfl
@[simp] theorem mPar2_ap (i j : Nat) (fa : Ex (List D)) (env : List Sl) (S : List Cell) : mPar2 i j fa env S = (fa env S).go env fun ds S1 => (match ds with | [d, d'] => .nx ((env.set i (.val d)).set j (.val d')) S1 | _ => .bad) := rfl
@[simp] theorem mAsg_ap (f : Ex D) (t : D → Sm) (env : List Sl) (S : List Cell) : mAsg f t env S = (f env S).go env fun d S1 => t d env S1 := rfl
@[simp] theorem gName_ap (k : Nat) (d : D) (env : List Sl) (S : List Cell) : gName' k d env S = .nx (env.set k (.val d)) S := rfl
@[simp] theorem gNil_ap (env : List Sl) (S : List Cell) : gNil' [] env S = .nx env S := rfl
@[simp] theorem gCons_ap (t : D → Sm) (ts : List D → Sm) (d : D) (r : List D) (env : List Sl) (S : List Cell) : gCons' t ts (d :: r) env S = (match t d env S with | .nx e S' => ts r e S' | .ex c ns es e' S' => .ex c ns es e' S' | _ => .bad) := rfl
@[simp] theorem gTup_tup (ts : List D → Sm) (ds : List D) (env : List Sl) (S : List Cell) : gTup' ts (.tup ds) env S = ts ds env S := rfl
@[simp] theorem gTup_lst (ts : List D → Sm) (ds : List D) (env : List Sl) (S : List Cell) : gTup' ts (.lst ds) env S = ts ds env S := rfl
@[simp] theorem mSlice_ap (o : D → Option Int → Option Int → Option D) (f : Ex D) (l h : ExO) (env : List Sl) (S : List Cell) : mSlice o f l h env S = (f env S).andThen fun x S1 => (l env S1).andThen fun a S2 => (h env S2).andThen fun b S3 => ofO (o x a b) S3 := rfl
@[simp] theorem mNoPart_ap (env : List Sl) (S : List Cell) : mNoPart env S = .ok none S := rfl
@[simp] theorem mPart_ap (f : Ex D) (env : List Sl) (S : List Cell) : mPart f env S = (f env S).andThen asI := rfl
@[simp] theorem asI_int (i : Int) (S : List Cell) : asI (.int i) S = .ok (some i) S := rfl
@[simp] theorem mRange1_ap (f : Ex (List D)) (env : List Sl) (S : List Cell) : mRange1 f env S = (f env S).andThen range1D := rfl
@[simp] theorem mRange2_ap (f : Ex (List D)) (env : List Sl) (S : List Cell) : mRange2 f env S = (f env S).andThen range2D := rfl
@[simp] theorem mItems_ap (f : Ex D) (env : List Sl) (S : List Cell) : mItems f env S = (f env S).andThen itemsOf := rfl
@[simp] theorem mEnum_ap (f : Ex (List D)) (env : List Sl) (S : List Cell) : mEnum f env S = (f env S).andThen enumD := rfl
@[simp] theorem mZip_ap (f : Ex (List D)) (env : List Sl) (S : List Cell) : mZip f env S = (f env S).andThen zipD := rfl
@[simp] theorem mFor_ap (it : Ex (List D)) (p : Pat) (m : Sm) (env : List Sl) (S : List Cell) : mFor it p m env S = (it env S).go env fun ds S1 => forL p m ds env S1 := rfl
@[simp] theorem mYes_ap (env : List Sl) (S : List Cell) : mYes env S = .ok true S := rfl
@[simp] theorem items_lst (xs : List D) (S : List Cell) : itemsOf (.lst xs) S = .ok xs S := rfl
@[simp] theorem items_tup (xs : List D) (S : List Cell) : itemsOf (.tup xs) S = .ok xs S := rfl
@[simp] theorem items_ro (xs : List D) (S : List Cell) : itemsOf (.ro xs) S = .ok xs S := rfl
@[simp] theorem bindP_nm (i : Nat) (d : D) (env : List Sl) : bindP (.nm i) d env = some (env.set i (.val d)) := by unfold bindP; rfl
@[simp] theorem bindP_tup (ps : List Pat) (ds : List D) (env : List Sl) : bindP (.tp ps) (.tup ds) env = bindPs ps ds env := by unfold bindP; rfl
@[simp] theorem bindP_lst (ps : List Pat) (ds : List D) (env : List Sl) : bindP (.tp ps) (.lst ds) env = bindPs ps ds env := by unfold bindP; rfl
@[simp] theorem bindPs_nil (env : List Sl) : bindPs [] [] env = some env := by unfold bindPs; rfl
@[simp] theorem bindPs_cons (p : Pat) (ps : List Pat) (d : D) (ds : List D) (env : List Sl) : bindPs (p :: ps) (d :: ds) env = (match bindP p d env with | some env' => bindPs ps ds env' | none => none) := by first | (rw [bindPs]; done) | (rw [bindPs]; cases bindP p d env <;> rfl)
@[simp] theorem wipeE_nil (env : List Sl) : wipeE env [] = env := rfl
@[simp] theorem wipeE_cons (env : List Sl) (v : Nat) (vs : List Nat) : wipeE env (v :: vs) = (wipeE env vs).set v .un := rfl
theorem mComp_ap (it : Ex (List D)) (vs : List Nat) (p : Pat) (c : Ex Bool) (e : Ex D) (env : List Sl) (S : List Cell) : mComp it vs p c e env S = (it env S).andThen fun ds S1 => if ds.length ≤ 100000 then noX (compL vs p c e ds env S1) else .bad := rfl
@[simp] theorem noX_ok' {α : Type} (a : α) (S : List Cell) : noX (.ok a S) = .ok a S := rfl
theorem forL_nil (p : Pat) (m : Sm) (env : List Sl) (S : List Cell) : forL p m [] env S = .nx env S := rfl
theorem forL_cons (p : Pat) (m : Sm) (d : D) (ds : List D) (env : List Sl) (S : List Cell) : forL p m (d :: ds) env S = (match bindP p d env with
    | none => .bad
    | some env1 => match m env1 S with
      | .nx e S' => forL p m ds e S'
      | .ct e S' => forL p m ds e S'
      | .bk e S' => .nx e S'
      | r => r) := rfl
theorem mDef_ap (n : Nat) (m : Sm) (ds : List D) (S : List Cell) : mDef n m ds S = (match m (startE n ds) S with
  | .nx _ S' => .ok .non S'
  | .rt d S' => .ok d S'
  | .ex c ns es _ S' => .ex c ns es S'
  | _ => .bad) := rfl
theorem startE_ap (n : Nat) (ds : List D) : startE n ds = ds.map .val ++ List.replicate (n - ds.length) .un := rfl
@[simp] theorem gSubC_ap (f h : Ex D) (d : D) (env : List Sl) (S : List Cell) : gSubC f h d env S = (f env S).go env fun x S1 => (h env S1).go env fun y S2 => match putC x y d S2 with | some S3 => .nx env S3 | none => .bad := rfl
/-- a loop that runs through: an invariant by the place -/
theorem forL_thru {p : Pat} {m : Sm} (I : Nat → List Sl → List Cell → Prop) : ∀ (ds : List D) (i : Nat) (env : List Sl) (S : List Cell), I i env S →
    (∀ (j : Nat) (d : D) (env : List Sl) (S : List Cell), ds[j]? = some d → I (i + j) env S → ∃ env1, bindP p d env = some env1 ∧ ∃ env' S', (m env1 S = .nx env' S' ∨ m env1 S = .ct env' S') ∧ I (i + j + 1) env' S') →
    ∃ env' S', forL p m ds env S = .nx env' S' ∧ I (i + ds.length) env' S'
  | [], i, env, S, h, _ => ⟨env, S, rfl, h⟩
  | d :: ds, i, env, S, h, st => by
    obtain ⟨env1, e1, env', S', e2, h'⟩ := st 0 d env S rfl h
    obtain ⟨env2, S2, e3, h2⟩ := forL_thru I ds (i + 1) env' S' h' fun j x en S hx hI => by
      have := st (j + 1) x en S (by simpa using hx) (by rw [show i + (j + 1) = i + 1 + j by omega]; exact hI)
      rw [show i + (j + 1) = i + 1 + j by omega] at this
      exact this
    refine ⟨env2, S2, ?_, by rw [List.length_cons, show i + (ds.length + 1) = i + 1 + ds.length by omega]; exact h2⟩
    unfold forL
    rw [e1]
    dsimp only
    rcases e2 with e2 | e2 <;> rw [e2] <;> exact e3
/-- a comprehension that takes all, element by element -/
theorem compL_all {vs : List Nat} {p : Pat} {cond : Ex Bool} {elt : Ex D} {env : List Sl} (I : Nat → List Cell → Prop) (R : Nat → D → Prop) : ∀ (ds : List D) (i : Nat) (S : List Cell), I i S →
    (∀ (j : Nat) (d : D) (S : List Cell), ds[j]? = some d → I (i + j) S → ∃ env1, bindP p d (wipeE env vs) = some env1 ∧ cond env1 S = .ok true S ∧ ∃ x S', elt env1 S = .ok x S' ∧ R (i + j) x ∧ I (i + j + 1) S') →
    ∃ xs S', compL vs p cond elt ds env S = .ok xs S' ∧ xs.length = ds.length ∧ (∀ (j : Nat) x, xs[j]? = some x → R (i + j) x) ∧ I (i + ds.length) S'
  | [], i, S, h, _ => ⟨[], S, rfl, rfl, fun j x z => by simp at z, h⟩
  | d :: ds, i, S, h, st => by
    obtain ⟨env1, e1, e2, x, S', e3, r, h'⟩ := st 0 d S rfl h
    obtain ⟨xs, S2, e4, e5, e6, h2⟩ := compL_all I R ds (i + 1) S' h' fun j y S hy hI => by
      have := st (j + 1) y S (by simpa using hy) (by rw [show i + (j + 1) = i + 1 + j by omega]; exact hI)
      rw [show i + (j + 1) = i + 1 + j by omega] at this
      exact this
    refine ⟨x :: xs, S2, ?_, by simp [e5], fun j y hy => ?_, by rw [List.length_cons, show i + (ds.length + 1) = i + 1 + ds.length by omega]; exact h2⟩
    · unfold compL
      rw [e1]
      dsimp only
      rw [e2, noX_ok, andThen_ok, if_pos rfl, e3, noX_ok, andThen_ok, e4, andThen_ok]
    · cases j with
      | zero => cases hy; exact r
      | succ j =>
        have := e6 j y (by simpa using hy)
        rw [show i + (j + 1) = i + 1 + j by omega]
        exact this
/-- a comprehension by plain functions, the store as it was -/
theorem compL_pure {vs : List Nat} {p : Pat} {cond : Ex Bool} {elt : Ex D} {env : List Sl} {S : List Cell} (c : D → Bool) (f : D → D) : ∀ (ds : List D),
    (∀ d ∈ ds, ∃ env1, bindP p d (wipeE env vs) = some env1 ∧ cond env1 S = .ok (c d) S ∧ (c d = true → elt env1 S = .ok (f d) S)) →
    compL vs p cond elt ds env S = .ok ((ds.filter c).map f) S
  | [], _ => rfl
  | d :: ds, h => by
    obtain ⟨env1, e1, e2, e3⟩ := h d (by simp)
    have ih := compL_pure c f ds fun x hx => h x (by simp [hx])
    unfold compL
    rw [e1]
    dsimp only
    rw [e2, noX_ok, andThen_ok]
    cases hc : c d with
    | true => rw [if_pos rfl, e3 hc, noX_ok, andThen_ok, ih, andThen_ok, List.filter_cons_of_pos hc, List.map_cons]
    | false => rw [if_neg (by simp), ih, List.filter_cons_of_neg (by simp [hc])]
@[simp] theorem intD_int (c : Int → Int → Bool) (f : Int → Int → D) (i j : Int) (S : List Cell) : intD c f (.int i) (.int j) S = if c i j then some (f i j) else none := rfl
@[simp] theorem subD_int (i j : Int) (S : List Cell) : subD (.int i) (.int j) S = some (.int (i - j)) := rfl
@[simp] theorem ltD_int (i j : Int) (S : List Cell) : ltD (.int i) (.int j) S = some (.bl (decide (i < j))) := rfl
@[simp] theorem leD_int (i j : Int) (S : List Cell) : leD (.int i) (.int j) S = some (.bl (decide (i ≤ j))) := rfl
@[simp] theorem gtD_int (i j : Int) (S : List Cell) : gtD (.int i) (.int j) S = some (.bl (decide (j < i))) := rfl
@[simp] theorem geD_int (i j : Int) (S : List Cell) : geD (.int i) (.int j) S = some (.bl (decide (j ≤ i))) := rfl
@[simp] theorem addD_int (i j : Int) (S : List Cell) : addD (.int i) (.int j) S = some (.int (i + j)) := rfl
@[simp] theorem negD_int (i : Int) (S : List Cell) : negD (.int i) S = some (.int (-i)) := rfl
theorem modD_int {i j : Int} {S : List Cell} (h : 0 < j) : modD (.int i) (.int j) S = some (.int (i % j)) := by
  show (if decide (0 < j) = true then _ else _) = _
  rw [if_pos (by simpa using h)]
theorem divD_int {i j : Int} {S : List Cell} (h : 0 < j) (h2 : j.natAbs.log2 < 9000) : divD (.int i) (.int j) S = some (.int (i / j)) := by
  show (if okDiv j = true then _ else _) = _
  rw [if_pos (by unfold okDiv; simp [h, h2])]
theorem powD_int {i j : Int} {S : List Cell} (h : (decide (0 ≤ j ∧ j ≤ 1000000 ∧ i.natAbs < 2 ^ 64)) = true) : powD (.int i) (.int j) S = some (.int (i ^ j.toNat)) := by
  show (if _ = true then _ else _) = _
  rw [if_pos h]
/-- products of numbers that are not very great -/
theorem log2_lt {n k : Nat} (h : n < 2 ^ k) (hk : 0 < k) : n.log2 < k := by
  by_cases hn : n = 0
  · subst hn; simpa using hk
  · exact (Nat.log2_lt hn).mpr h
theorem mulD_int {i j : Int} {S : List Cell} (h : okMul i j = true) : mulD (.int i) (.int j) S = some (.int (i * j)) := by
  show (if okMul i j = true then _ else _) = _
  rw [if_pos h]
theorem okMul_of {i j : Int} (h1 : i.natAbs < 2 ^ 400000) (h2 : j.natAbs < 2 ^ 400000) : okMul i j = true := by
  unfold okMul
  have a := log2_lt h1 (by decide)
  have b := log2_lt h2 (by decide)
  exact decide_eq_true (by omega)
theorem mulD_small {i j : Int} {S : List Cell} (h1 : i.natAbs < 2 ^ 1000) (h2 : j.natAbs < 2 ^ 1000) : mulD (.int i) (.int j) S = some (.int (i * j)) :=
  mulD_int (by
    unfold okMul
    have a := log2_lt h1 (by decide)
    have b := log2_lt h2 (by decide)
    exact decide_eq_true (by omega))
end DL

namespace K67
open PySem PySem.Spec L2 DL
open PyProof.Rows hiding St
def topS (i : Nat) : Stmt := PySem.Challenge.pw_bentthrough_k67_sign_changes_counted.main.body.getD i (.Pass ⟨0, 0, 0, 0⟩)
abbrev si_InvalidHeights : Stmt := match topS 4 with
  | .ClassDef _ _ _ b _ _ _ _ _ _ _ => b.getD 0 (.Pass ⟨0, 0, 0, 0⟩)
  | _ => .Pass ⟨0, 0, 0, 0⟩
def ooT : List (Str × Str × Bool) := [("InvalidHeights", "NotRight", true), ("InvalidHeights", "InvalidAmounts", false), ("InvalidHeights", "InvalidPlaces", false), ("InvalidHeights", "InvalidHeights", true), ("InvalidHeights", "InvalidOffers", false)]
def obT : List (Str × String × Bool) := []
def subT : List (Str × Str × Bool) := [("InvalidHeights", "InvalidHeights", true)]
def tabT : Tab := ⟨[], ["InvalidHeights"], isaOf ooT obT []⟩
def xfT : List (Str × Str) := [("InvalidHeights", "index")]
section
variable {P : Program} {w : World} {K : PySem.W.Frag} {mg : Str → Option Value} {base : Heap}
/-- _law_well -/
abbrev s_l_well : Stmt := topS 14
def m_l_well : Sm := (mSeq (mSet 2 (mIf (mB (mOp ltD (mVar 1) (mCall lenD (mCons (mVar 0) mNil)))) (mCall toIntD (mCons (mOp ixD (mVar 0) (mVar 1)) mNil)) (mOp mulD (mC (.int 71011)) (mOp addD (mVar 1) (mC (.int 2))))))
  (mSeq (mSet 3 (mOp addD (mC (.int 52027)) (mOp mulD (mC (.int 7019)) (mVar 1))))
  (mSeq (mFor (mItems (mOp addD (mSlice sliceD (mVar 0) mNoPart (mPart (mC (.int 5)))) (mFr (mLst (mCons (mVar 2) mNil))))) (.nm 4) (mSet 3 (mOp modD (mCall toIntD (mCons (mOp addD (mOp addD (mOp mulD (mVar 3) (mC (.int 40829))) (mOp modD (mCall toIntD (mCons (mVar 4) mNil)) (mC (.int 2147483423)))) (mC (.int 41))) mNil)) (mC (.int 2147483423)))))
  (mRet (mCell (mLst (mCons (mIf (mOr (mB (mOp ltD (mVar 2) (mC (.int 0)))) (mB (mOp geD (mVar 2) (mOp powD (mC (.int 10)) (mC (.int 18)))))) (mCall absD (mCons (mVar 2) mNil)) (mC (.int 0))) (mCons (mVar 3) mNil))))))))
def f_l_well : Fn := mDef 5 m_l_well

/-- is_integer -/
abbrev s_p_is_integer : Stmt := topS 8
def m_p_is_integer : Sm := (mRet (mAndV (mCall (isAD tabT) (mCons (mVar 0) (mCons (mC (.ty "int")) mNil))) (mNotV (mCall (isAD tabT) (mCons (mVar 0) (mCons (mC (.ty "bool")) mNil))))))
def f_p_is_integer : Fn := mDef 1 m_p_is_integer

/-- is_between -/
abbrev s_p_is_between : Stmt := topS 9
def m_p_is_between : Sm := (mRet (mAndV (mFn 1 f_p_is_integer (mCons (mVar 0) mNil)) (mChain leD leD (mVar 1) (mVar 0) (mVar 2))))
def f_p_is_between : Fn := mDef 3 m_p_is_between

/-- is_height -/
abbrev s_p_is_height : Stmt := topS 10
def m_p_is_height : Sm := (mRet (mFn 3 f_p_is_between (mCons (mVar 0) (mCons (mUn negD (mC (.int 100000000000000000000))) (mCons (mC (.int 100000000000000000000)) mNil)))))
def f_p_is_height : Fn := mDef 1 m_p_is_height

/-- changes -/
abbrev s_p_changes : Stmt := topS 12
def m_p_changes : Sm := (mSeq (mIfS (mNot (mB (mCall (isAD tabT) (mCons (mVar 0) (mCons (mC (.ty "tuple")) mNil))))) (mRaise "InvalidHeights" "index" (mC .non)) mSkip)
  (mSeq (mFor (mEnum (mCons (mVar 0) mNil)) (.tp [(.nm 1), (.nm 2)]) (mIfS (mNot (mB (mFn 1 f_p_is_height (mCons (mVar 2) mNil)))) (mRaise "InvalidHeights" "index" (mVar 1)) mSkip))
  (mSeq (mSet 3 (mFr (mComp (mItems (mVar 0)) [2] (.nm 2) (mB (mOp neD (mVar 2) (mC (.int 0)))) (mVar 2))))
  (mRet (mCall lenD (mCons (mFr (mComp (mZip (mCons (mVar 3) (mCons (mSlice sliceD (mVar 3) (mPart (mC (.int 1))) mNoPart) mNil))) [4, 5] (.tp [(.nm 4), (.nm 5)]) (mB (mOp neD (mOp gtD (mVar 4) (mC (.int 0))) (mOp gtD (mVar 5) (mC (.int 0))))) (mVar 4))) mNil))))))
def f_p_changes : Fn := mDef 6 m_p_changes

/-- _law_draw -/
abbrev s_l_draw : Stmt := topS 15
def m_l_draw : Sm := (mSeq (mIfS (mB (mOp gtD (mOp ixD (mVar 0) (mC (.int 0))) (mC (.int 0)))) (mSeq (mAsg (mCall divmodD (mCons (mOp ixD (mVar 0) (mC (.int 0))) (mCons (mVar 1) mNil))) (gTup' (gCons' (gSubC (mVar 0) (mC (.int 0))) (gCons' (gName' 2) gNil'))))
  (mRet (mVar 2))) mSkip)
  (mSeq (mAsg (mOp modD (mCall toIntD (mCons (mOp addD (mOp mulD (mOp ixD (mVar 0) (mC (.int 1))) (mC (.int 48889))) (mC (.int 12289))) mNil)) (mC (.int 2147483423))) (gSubC (mVar 0) (mC (.int 1))))
  (mRet (mOp modD (mCall toIntD (mCons (mOp divD (mOp ixD (mVar 0) (mC (.int 1))) (mC (.int 1021))) mNil)) (mVar 1)))))
def f_l_draw : Fn := mDef 3 m_l_draw

/-- _law_one -/
abbrev s_l_one : Stmt := topS 16
def m_l_one : Sm := (mRet (mOp ixD (mVar 1) (mFn 2 f_l_draw (mCons (mVar 0) (mCons (mCall lenD (mCons (mVar 1) mNil)) mNil)))))
def f_l_one : Fn := mDef 2 m_l_one

/-- _law_tall_row -/
abbrev s_l_tall_row : Stmt := topS 17
def m_l_tall_row : Sm := (mSeq (mSet 1 (mFr (mLst mNil)))
  (mSeq (mFor (mRange1 (mCons (mFn 2 f_l_draw (mCons (mVar 0) (mCons (mC (.int 11)) mNil))) mNil)) (.nm 2) (mSeq (mSet 3 (mOp subD (mFn 2 f_l_draw (mCons (mVar 0) (mCons (mC (.int 41)) mNil))) (mC (.int 20))))
  (mSeq (mSet 4 (mFn 2 f_l_one (mCons (mVar 0) (mCons (mFr (mLst (mCons (mC (.int 0)) (mCons (mC (.int 0)) (mCons (mC (.int 1)) (mCons (mUn negD (mC (.int 1))) (mCons (mVar 3) (mCons (mVar 3) (mCons (mOp powD (mC (.int 10)) (mC (.int 20))) (mCons (mUn negD (mOp powD (mC (.int 10)) (mC (.int 20)))) mNil)))))))))) mNil))))
  (mSet 1 (mOp addD (mVar 1) (mOp mulD (mFr (mLst (mCons (mVar 4) mNil))) (mOp addD (mC (.int 1)) (mFn 2 f_l_draw (mCons (mVar 0) (mCons (mC (.int 4)) mNil))))))))))
  (mRet (mCall tupleD (mCons (mVar 1) mNil)))))
def f_l_tall_row : Fn := mDef 5 m_l_tall_row

/-- _law_due -/
abbrev s_l_due : Stmt := topS 18
def m_l_due : Sm := (mSeq (mUnp (.tp [(.nm 1), (.nm 2)]) (mTup (mCons (mC (.int 0)) (mCons (mC (.int 0)) mNil))))
  (mSeq (mFor (mItems (mVar 0)) (.nm 3) (mIfS (mB (mOp neD (mVar 3) (mC (.int 0)))) (mSeq (mSet 1 (mOp addD (mVar 1) (mCall toIntD (mCons (mOp ltD (mOp mulD (mVar 2) (mVar 3)) (mC (.int 0))) mNil))))
  (mSet 2 (mVar 3))) mSkip))
  (mRet (mVar 1))))
def f_l_due : Fn := mDef 4 m_l_due

/-- _law_caught -/
abbrev s_l_caught : Stmt := topS 19
def m_l_caught : Sm := (mTry (subOf subT) (mRet (mFr (mLst (mCons (mC (.str "told")) (mCons (mFn 1 f_p_changes (mCons (mVar 0) mNil)) mNil)))))
  [(["InvalidHeights"], some 1, (mSeq (mSet 2 (mOrV (mCall (isAD tabT) (mCons (mVar 1) (mCons (mC (.cls "InvalidPlaces")) mNil))) (mOrV (mCall (isAD tabT) (mCons (mVar 1) (mCons (mC (.cls "InvalidAmounts")) mNil))) (mCall (isAD tabT) (mCons (mVar 1) (mCons (mC (.cls "InvalidOffers")) mNil))))))
  (mRet (mFr (mLst (mCons (mC (.str "heights")) (mCons (mUn (xfD xfT "index") (mVar 1)) (mCons (mCall (isAD tabT) (mCons (mVar 1) (mCons (mC (.cls "NotRight")) mNil))) (mCons (mVar 2) mNil)))))))))])
def f_l_caught : Fn := mDef 3 m_l_caught

/-- _law_right -/
abbrev s_l_right : Stmt := topS 20
def m_l_right : Sm := (mSeq (mFor (mRange1 (mCons (mC (.int 4)) mNil)) (.nm 1) (mSeq (mSet 2 (mFn 1 f_l_tall_row (mCons (mVar 0) mNil)))
  (mSeq (mSet 3 (mFn 1 f_l_due (mCons (mVar 2) mNil)))
  (mSeq (mIfS (mB (mOp neD (mCall reprD (mCons (mFr (mLst (mCons (mFn 1 f_p_changes (mCons (mVar 2) mNil)) (mCons (mFnK 1 0 1 [0] f_p_changes mNil (mCons (mVar 2) mNil)) mNil)))) mNil)) (mCall reprD (mCons (mFr (mLst (mCons (mVar 3) (mCons (mVar 3) mNil)))) mNil)))) (mRet (mC (.bl false))) mSkip)
  (mSeq (mSet 4 (mFn 2 f_l_one (mCons (mVar 0) (mCons (mFr (mLst (mCons (mC (.bl true)) (mCons (mC .non) (mCons (mOp addD (mOp powD (mC (.int 10)) (mC (.int 20))) (mC (.int 1))) (mCons (mOp subD (mUn negD (mOp powD (mC (.int 10)) (mC (.int 20)))) (mC (.int 1))) (mCons (mC (.str "1")) (mCons (mTup (mCons (mC (.int 1)) mNil)) (mCons (mFr (mLst (mCons (mC (.int 1)) mNil))) (mCons (mC (.dct [] [])) (mCons (mC (.bl false)) (mCons (mC (.str "")) mNil)))))))))))) mNil))))
  (mSeq (mSet 5 (mFn 2 f_l_draw (mCons (mVar 0) (mCons (mOp addD (mCall lenD (mCons (mVar 2) mNil)) (mC (.int 1))) mNil))))
  (mSeq (mSet 6 (mOp addD (mOp addD (mSlice sliceD (mVar 2) mNoPart (mPart (mVar 5))) (mTup (mCons (mVar 4) mNil))) (mFn 2 f_l_one (mCons (mVar 0) (mCons (mFr (mLst (mCons (mSlice sliceD (mVar 2) (mPart (mVar 5)) mNoPart) (mCons (mSlice sliceD (mVar 2) (mPart (mOp addD (mVar 5) (mC (.int 1)))) mNoPart) (mCons (mOp addD (mTup (mCons (mC .non) mNil)) (mSlice sliceD (mVar 2) (mPart (mVar 5)) mNoPart)) mNil))))) mNil)))))
  (mSeq (mIfS (mB (mOp neD (mCall reprD (mCons (mFn 1 f_l_caught (mCons (mVar 6) mNil)) mNil)) (mCall reprD (mCons (mFr (mLst (mCons (mC (.str "heights")) (mCons (mVar 5) (mCons (mC (.bl true)) (mCons (mC (.bl false)) mNil)))))) mNil)))) (mRet (mC (.bl false))) mSkip)
  (mSeq (mSet 7 (mFn 2 f_l_one (mCons (mVar 0) (mCons (mFr (mLst (mCons (mC .non) (mCons (mCall listD (mCons (mVar 2) mNil)) (mCons (mC (.dct [] [])) (mCons (mC (.int 0)) (mCons (mC (.str "")) (mCons (mC (.str "1")) (mCons (mC (.bl true)) mNil))))))))) mNil))))
  (mSeq (mIfS (mB (mOp neD (mCall reprD (mCons (mFn 1 f_l_caught (mCons (mVar 7) mNil)) mNil)) (mCall reprD (mCons (mFr (mLst (mCons (mC (.str "heights")) (mCons (mC .non) (mCons (mC (.bl true)) (mCons (mC (.bl false)) mNil)))))) mNil)))) (mRet (mC (.bl false))) mSkip)
  (mIfS (mB (mOp neD (mCall reprD (mCons (mFn 1 f_l_caught (mCons (mVar 2) mNil)) mNil)) (mCall reprD (mCons (mFr (mLst (mCons (mC (.str "told")) (mCons (mVar 3) mNil)))) mNil)))) (mRet (mC (.bl false))) mSkip)))))))))))
  (mRet (mC (.bl true))))
def f_l_right : Fn := mDef 8 m_l_right

/-- law -/
abbrev s_p_law : Stmt := topS 21
def m_p_law : Sm := (mRet (mCall allD (mCons (mFr (mComp (mRange1 (mCons (mCall maxD (mCons (mC (.int 2)) (mCons (mCall minD (mCons (mCall lenD (mCons (mVar 0) mNil)) (mCons (mC (.int 6)) mNil))) mNil))) mNil)) [1] (.nm 1) mYes (mFn 1 f_l_right (mCons (mFn 2 f_l_well (mCons (mVar 0) (mCons (mVar 1) mNil))) mNil)))) mNil)))
def f_p_law : Fn := mDef 2 m_p_law

structure Lf (K : PySem.W.Frag) (mg : Str → Option Value) where
  a_l_well : Addr
  d_l_well : FuncData
  F_l_well : Fun K "_law_well" "_law_well" s_l_well a_l_well d_l_well
  m_l_well : mg "_law_well" = some (.ref a_l_well)
  a_p_is_integer : Addr
  d_p_is_integer : FuncData
  F_p_is_integer : Fun K "is_integer" "is_integer" s_p_is_integer a_p_is_integer d_p_is_integer
  m_p_is_integer : mg "is_integer" = some (.ref a_p_is_integer)
  a_p_is_between : Addr
  d_p_is_between : FuncData
  F_p_is_between : Fun K "is_between" "is_between" s_p_is_between a_p_is_between d_p_is_between
  m_p_is_between : mg "is_between" = some (.ref a_p_is_between)
  a_p_is_height : Addr
  d_p_is_height : FuncData
  F_p_is_height : Fun K "is_height" "is_height" s_p_is_height a_p_is_height d_p_is_height
  m_p_is_height : mg "is_height" = some (.ref a_p_is_height)
  a_p_changes : Addr
  d_p_changes : FuncData
  F_p_changes : Fun K "changes" "changes" s_p_changes a_p_changes d_p_changes
  m_p_changes : mg "changes" = some (.ref a_p_changes)
  a_l_draw : Addr
  d_l_draw : FuncData
  F_l_draw : Fun K "_law_draw" "_law_draw" s_l_draw a_l_draw d_l_draw
  m_l_draw : mg "_law_draw" = some (.ref a_l_draw)
  a_l_one : Addr
  d_l_one : FuncData
  F_l_one : Fun K "_law_one" "_law_one" s_l_one a_l_one d_l_one
  m_l_one : mg "_law_one" = some (.ref a_l_one)
  a_l_tall_row : Addr
  d_l_tall_row : FuncData
  F_l_tall_row : Fun K "_law_tall_row" "_law_tall_row" s_l_tall_row a_l_tall_row d_l_tall_row
  m_l_tall_row : mg "_law_tall_row" = some (.ref a_l_tall_row)
  a_l_due : Addr
  d_l_due : FuncData
  F_l_due : Fun K "_law_due" "_law_due" s_l_due a_l_due d_l_due
  m_l_due : mg "_law_due" = some (.ref a_l_due)
  a_l_caught : Addr
  d_l_caught : FuncData
  F_l_caught : Fun K "_law_caught" "_law_caught" s_l_caught a_l_caught d_l_caught
  m_l_caught : mg "_law_caught" = some (.ref a_l_caught)
  a_l_right : Addr
  d_l_right : FuncData
  F_l_right : Fun K "_law_right" "_law_right" s_l_right a_l_right d_l_right
  m_l_right : mg "_law_right" = some (.ref a_l_right)
  a_p_law : Addr
  d_p_law : FuncData
  F_p_law : Fun K "law" "law" s_p_law a_p_law d_p_law
  m_p_law : mg "law" = some (.ref a_p_law)
  z_abs : mg "abs" = none
  z_all : mg "all" = none
  z_bool : mg "bool" = none
  z_divmod : mg "divmod" = none
  z_enumerate : mg "enumerate" = none
  z_int : mg "int" = none
  z_isinstance : mg "isinstance" = none
  z_len : mg "len" = none
  z_list : mg "list" = none
  z_max : mg "max" = none
  z_min : mg "min" = none
  z_range : mg "range" = none
  z_repr : mg "repr" = none
  z_tuple : mg "tuple" = none
  z_zip : mg "zip" = none
  g_MOST_HEIGHT : ∃ t, mg "MOST_HEIGHT" = some (.int 100000000000000000000 t)
  C_NotRight : Addr
  c_NotRight : mg "NotRight" = some (.ref C_NotRight)
  C_InvalidAmounts : Addr
  c_InvalidAmounts : mg "InvalidAmounts" = some (.ref C_InvalidAmounts)
  C_InvalidPlaces : Addr
  c_InvalidPlaces : mg "InvalidPlaces" = some (.ref C_InvalidPlaces)
  C_InvalidHeights : Addr
  c_InvalidHeights : mg "InvalidHeights" = some (.ref C_InvalidHeights)
  C_InvalidOffers : Addr
  c_InvalidOffers : mg "InvalidOffers" = some (.ref C_InvalidOffers)
  x_InvalidHeights : OexG K C_InvalidHeights
  e_InvalidHeights : L2.ExcC K C_InvalidHeights
  xf_InvalidHeights : XfC K C_InvalidHeights
  no_InvalidHeights : PySem.W.findIn K (.ref C_InvalidHeights) "index" = some none
  fi_InvalidHeights : Addr
  di_InvalidHeights : FuncData
  Fi_InvalidHeights : Fun K "__init__" "InvalidHeights.__init__" si_InvalidHeights fi_InvalidHeights di_InvalidHeights
  ii_InvalidHeights : PySem.W.findIn K (.ref C_InvalidHeights) "__init__" = some (some (.ref fi_InvalidHeights))
  ti_InvalidHeights : PySem.W.typeIn K (.ref fi_InvalidHeights) = some (.type "function")
  tk_InvalidHeights : PySem.W.takerIn K C_InvalidHeights "index" = some none
  oo_InvalidHeights_NotRight : PySem.W.kitOne K (.ref C_InvalidHeights) (.ref C_NotRight) = some true
  oo_InvalidHeights_InvalidAmounts : PySem.W.kitOne K (.ref C_InvalidHeights) (.ref C_InvalidAmounts) = some false
  oo_InvalidHeights_InvalidPlaces : PySem.W.kitOne K (.ref C_InvalidHeights) (.ref C_InvalidPlaces) = some false
  oo_InvalidHeights_InvalidHeights : PySem.W.kitOne K (.ref C_InvalidHeights) (.ref C_InvalidHeights) = some true
  oo_InvalidHeights_InvalidOffers : PySem.W.kitOne K (.ref C_InvalidHeights) (.ref C_InvalidOffers) = some false
  cc_InvalidHeights_InvalidHeights : PySem.W.exmOne K (.ref C_InvalidHeights) (.ref C_InvalidHeights) = some true
theorem tab_ok (L : Lf K mg) : TabOk K mg tabT := by
  refine ⟨fun c h => absurd h (by simp [tabT]), fun c h C e => ?_, isa_ok (fun c d b h => ?_) (fun c n b h => ?_) (fun c h => absurd h (by simp))⟩
  · simp only [tabT, List.mem_cons, List.not_mem_nil, or_false] at h
    subst h
    · rw [L.c_InvalidHeights] at e; cases e; exact L.e_InvalidHeights
  · simp only [ooT, List.mem_cons, Prod.mk.injEq, List.not_mem_nil, or_false] at h
    rcases h with ⟨rfl, rfl, rfl⟩ | ⟨rfl, rfl, rfl⟩ | ⟨rfl, rfl, rfl⟩ | ⟨rfl, rfl, rfl⟩ | ⟨rfl, rfl, rfl⟩
    · exact ⟨_, _, L.c_InvalidHeights, L.c_NotRight, L.oo_InvalidHeights_NotRight⟩
    · exact ⟨_, _, L.c_InvalidHeights, L.c_InvalidAmounts, L.oo_InvalidHeights_InvalidAmounts⟩
    · exact ⟨_, _, L.c_InvalidHeights, L.c_InvalidPlaces, L.oo_InvalidHeights_InvalidPlaces⟩
    · exact ⟨_, _, L.c_InvalidHeights, L.c_InvalidHeights, L.oo_InvalidHeights_InvalidHeights⟩
    · exact ⟨_, _, L.c_InvalidHeights, L.c_InvalidOffers, L.oo_InvalidHeights_InvalidOffers⟩
  · simp only [obT, List.mem_cons, Prod.mk.injEq, List.not_mem_nil, or_false] at h
theorem sub_ok' (L : Lf K mg) : SubOk K mg (subOf subT) := by
  refine sub_ok fun c d b h => ?_
  simp only [subT, List.mem_cons, Prod.mk.injEq, List.not_mem_nil, or_false] at h
  rcases h with ⟨rfl, rfl, rfl⟩
  · exact ⟨_, _, L.c_InvalidHeights, L.c_InvalidHeights, L.cc_InvalidHeights_InvalidHeights⟩
theorem xf_ok (L : Lf K mg) : XfOk K mg xfT := by
  intro c f h C e
  simp only [xfT, List.mem_cons, Prod.mk.injEq, List.not_mem_nil, or_false] at h
  rcases h with ⟨rfl, rfl⟩
  · rw [L.c_InvalidHeights] at e; cases e; exact ⟨L.xf_InvalidHeights, L.no_InvalidHeights⟩
theorem sci_InvalidHeights : FnScope ["self", "index"] ["self", "index"] (defScope si_InvalidHeights) := ⟨rfl, rfl, rfl, by decide +kernel, rfl, by decide +kernel, by decide +kernel⟩
theorem Z_InvalidHeights (L : Lf K mg) : Rz P w K mg base "InvalidHeights" "index" := ⟨_, _, _, _, L.c_InvalidHeights, L.x_InvalidHeights, L.ii_InvalidHeights, L.ti_InvalidHeights, init1 L.Fi_InvalidHeights rfl sci_InvalidHeights L.x_InvalidHeights L.tk_InvalidHeights, L.Fi_InvalidHeights.binds fun _ _ _ _ _ _ us hl => match us, hl with | [_, _], _ => rfl⟩
theorem bk_p_changes_0_row (L : Lf K mg) : BindsW K L.d_p_changes ["row"] 0 ["row"] [0] := L.F_p_changes.bindsW fun _ _ _ _ _ _ us ws h1 h2 => match us, ws, h1, h2 with | [], [_], _, _ => rfl
theorem sc_l_well : FnScope ["_law_cells", "_law_turn", "_law_cell", "_law_mixed", "_law_each"] ["_law_cells", "_law_turn"] (defScope s_l_well) := ⟨rfl, rfl, rfl, by decide +kernel, rfl, by decide +kernel, by decide +kernel⟩
theorem b_l_well (L : Lf K mg) : Binds K L.d_l_well ["_law_cells", "_law_turn"] [] := L.F_l_well.binds fun _ _ _ _ _ _ us hl => match us, hl with | [_, _], _ => rfl
theorem G_l_well (L : Lf K mg) : FnG P w K mg base 1 L.a_l_well L.d_l_well ["_law_cells", "_law_turn"] (SpM K mg 2 f_l_well) := fnM L.F_l_well sc_l_well rfl fun cd A outer s H E rm =>
  (b_cons (s_set 2 (v_if (t_cmp op_lt ok_lt (v_var 1) (v_callB call_lenAll ok_len rfl L.z_len rfl (a_cons (v_var 0) a_nil)) rfl) (v_callTy call_int1 ok_toInt rfl L.z_int rfl (a_cons (v_ix ix_all ok_ix (v_var 0) (v_var 1) (fun _ _ => rfl)) a_nil)) (v_op op_mulAll ok_mul v_int (v_op op_addAll ok_add (v_var 1) v_int))) sc_l_well.nd)
  (b_cons (s_set 3 (v_op op_addAll ok_add v_int (v_op op_mulAll ok_mul v_int (v_var 1))) sc_l_well.nd)
  (b_cons (s_for po_def rfl (i_seq (v_op op_addAll ok_add (v_slice sl_all ok_slice (v_var 0) p_none (p_some v_int)) (v_fr (o_lst (a_cons (v_var 2) a_nil))))) (pp_nm 4 sc_l_well.nd) (b_one (s_set 3 (v_op op_mod ok_mod (v_callTy call_int1 ok_toInt rfl L.z_int rfl (a_cons (v_op op_addAll ok_add (v_op op_addAll ok_add (v_op op_mulAll ok_mul (v_var 3) v_int) (v_op op_mod ok_mod (v_callTy call_int1 ok_toInt rfl L.z_int rfl (a_cons (v_var 4) a_nil)) v_int)) v_int) a_nil)) v_int) sc_l_well.nd)))
  (b_one (s_ret (v_cell (o_lst (a_cons (v_if (t_w (w_or (t_cmp op_lt ok_lt (v_var 2) v_int rfl) (w_or1 (t_cmp op_ge ok_ge (v_var 2) (v_op op_pow ok_pow v_int v_int) rfl)))) (v_callB call_abs ok_abs rfl L.z_abs rfl (a_cons (v_var 2) a_nil)) v_int) (a_cons (v_var 3) a_nil)))))))))

theorem sc_p_is_integer : FnScope ["value"] ["value"] (defScope s_p_is_integer) := ⟨rfl, rfl, rfl, by decide +kernel, rfl, by decide +kernel, by decide +kernel⟩
theorem b_p_is_integer (L : Lf K mg) : Binds K L.d_p_is_integer ["value"] [] := L.F_p_is_integer.binds fun _ _ _ _ _ _ us hl => match us, hl with | [_], _ => rfl
theorem G_p_is_integer (L : Lf K mg) : FnG P w K mg base 1 L.a_p_is_integer L.d_p_is_integer ["value"] (SpM K mg 1 f_p_is_integer) := fnM L.F_p_is_integer sc_p_is_integer rfl fun cd A outer s H E rm =>
  (b_one (s_ret (v_and (v_callB call_isAll (ok_isA (tab_ok L)) rfl L.z_isinstance rfl (a_cons (v_var 0) (a_cons (v_bty L.z_int rfl) a_nil))) (v_and1 (v_not (v_callB call_isAll (ok_isA (tab_ok L)) rfl L.z_isinstance rfl (a_cons (v_var 0) (a_cons (v_bty L.z_bool rfl) a_nil))))))))

theorem sc_p_is_between : FnScope ["value", "least", "most"] ["value", "least", "most"] (defScope s_p_is_between) := ⟨rfl, rfl, rfl, by decide +kernel, rfl, by decide +kernel, by decide +kernel⟩
theorem b_p_is_between (L : Lf K mg) : Binds K L.d_p_is_between ["value", "least", "most"] [] := L.F_p_is_between.binds fun _ _ _ _ _ _ us hl => match us, hl with | [_, _, _], _ => rfl
theorem G_p_is_between (L : Lf K mg) : FnG P w K mg base 2 L.a_p_is_between L.d_p_is_between ["value", "least", "most"] (SpM K mg 3 f_p_is_between) := fnM L.F_p_is_between sc_p_is_between rfl fun cd A outer s H E rm =>
  (b_one (s_ret (v_and (v_call (G_p_is_integer L) (rm.less (by decide)) L.m_p_is_integer L.F_p_is_integer.kp (b_p_is_integer L) px_def (a_cons (v_var 0) a_nil)) (v_and1 (v_chain op_le ok_le op_le ok_le (v_var 1) (v_var 0) (v_var 2))))))

theorem sc_p_is_height : FnScope ["value"] ["value"] (defScope s_p_is_height) := ⟨rfl, rfl, rfl, by decide +kernel, rfl, by decide +kernel, by decide +kernel⟩
theorem b_p_is_height (L : Lf K mg) : Binds K L.d_p_is_height ["value"] [] := L.F_p_is_height.binds fun _ _ _ _ _ _ us hl => match us, hl with | [_], _ => rfl
theorem G_p_is_height (L : Lf K mg) : FnG P w K mg base 3 L.a_p_is_height L.d_p_is_height ["value"] (SpM K mg 1 f_p_is_height) := fnM L.F_p_is_height sc_p_is_height rfl fun cd A outer s H E rm =>
  (b_one (s_ret (v_call (G_p_is_between L) (rm.less (by decide)) L.m_p_is_between L.F_p_is_between.kp (b_p_is_between L) px_def (a_cons (v_var 0) (a_cons (v_un un_neg ok_neg (v_gint L.g_MOST_HEIGHT)) (a_cons (v_gint L.g_MOST_HEIGHT) a_nil))))))

theorem sc_p_changes : FnScope ["row", "index", "height", "left", "one", "other"] ["row"] (defScope s_p_changes) := ⟨rfl, rfl, rfl, by decide +kernel, rfl, by decide +kernel, by decide +kernel⟩
theorem b_p_changes (L : Lf K mg) : Binds K L.d_p_changes ["row"] [] := L.F_p_changes.binds fun _ _ _ _ _ _ us hl => match us, hl with | [_], _ => rfl
theorem G_p_changes (L : Lf K mg) : FnG P w K mg base 4 L.a_p_changes L.d_p_changes ["row"] (SpM K mg 1 f_p_changes) := fnM L.F_p_changes sc_p_changes rfl fun cd A outer s H E rm =>
  (b_cons (s_if (t_not (t_val (v_callB call_isAll (ok_isA (tab_ok L)) rfl L.z_isinstance rfl (a_cons (v_var 0) (a_cons (v_bty L.z_tuple rfl) a_nil))))) (b_one (s_raise1 (Z_InvalidHeights L) rfl (L2N.takes_of rfl rfl rfl rfl) (rm.less (by decide)) v_non)) b_nil)
  (b_cons (s_for po_def rfl (i_enum L.z_enumerate (a_cons (v_var 0) a_nil)) (pp_tp rfl (pp_cons (pp_nm 1 sc_p_changes.nd) (pp_cons (pp_nm 2 sc_p_changes.nd) pp_nil))) (b_one (s_if (t_not (t_val (v_call (G_p_is_height L) (rm.less (by decide)) L.m_p_is_height L.F_p_is_height.kp (b_p_is_height L) px_def (a_cons (v_var 2) a_nil)))) (b_one (s_raise1 (Z_InvalidHeights L) rfl (L2N.takes_of rfl rfl rfl rfl) (rm.less (by decide)) (v_var 1))) b_nil)))
  (b_cons (s_setLc 3 (own := [("height", 2)]) rfl sc_p_changes.nd rfl (i_seq (v_var 0)) (blkOk_by (N := ["row", "index", "height", "left", "one", "other"]) (sc := defScope s_p_changes) (by decide +kernel)) (fun _ _ _ _ _ => (pp_nm 2 sc_p_changes.nd)) (fun _ _ _ _ _ => (ts_one (t_cmp (op_neAll rm.units) ok_ne (v_var 2) v_int rfl))) (fun _ _ _ _ _ => (v_var 2)))
  (b_one (s_ret (v_callB call_lenAll ok_len rfl L.z_len rfl (a_cons (v_fr (o_lc (own := [("one", 4), ("other", 5)]) rfl sc_p_changes.nd rfl (i_zip L.z_zip (a_cons (v_var 3) (a_cons (v_slice sl_all ok_slice (v_var 3) (p_some v_int) p_none) a_nil))) (blkOk_by (N := ["row", "index", "height", "left", "one", "other"]) (sc := defScope s_p_changes) (by decide +kernel)) (fun _ _ _ _ _ => (pp_tp rfl (pp_cons (pp_nm 4 sc_p_changes.nd) (pp_cons (pp_nm 5 sc_p_changes.nd) pp_nil)))) (fun _ _ _ _ _ => (ts_one (t_cmp (op_neAll rm.units) ok_ne (v_cmp op_gt ok_gt (v_var 4) v_int rfl) (v_cmp op_gt ok_gt (v_var 5) v_int rfl) rfl))) (fun _ _ _ _ _ => (v_var 4)))) a_nil)))))))

theorem sc_l_draw : FnScope ["_law_well_here", "_law_many", "_law_digit"] ["_law_well_here", "_law_many"] (defScope s_l_draw) := ⟨rfl, rfl, rfl, by decide +kernel, rfl, by decide +kernel, by decide +kernel⟩
theorem b_l_draw (L : Lf K mg) : Binds K L.d_l_draw ["_law_well_here", "_law_many"] [] := L.F_l_draw.binds fun _ _ _ _ _ _ us hl => match us, hl with | [_, _], _ => rfl
theorem G_l_draw (L : Lf K mg) : FnG P w K mg base 1 L.a_l_draw L.d_l_draw ["_law_well_here", "_law_many"] (SpM K mg 2 f_l_draw) := fnM L.F_l_draw sc_l_draw rfl fun cd A outer s H E rm =>
  (b_cons (s_if (t_cmp op_gt ok_gt (v_ix ix_all ok_ix (v_var 0) v_int (fun _ _ => rfl)) v_int rfl) (b_cons (s_asg (v_callB call_divmod ok_divmod rfl L.z_divmod rfl (a_cons (v_ix ix_all ok_ix (v_var 0) v_int (fun _ _ => rfl)) (a_cons (v_var 1) a_nil))) (g_tup (n := 2) rfl (gs_cons (g_subC (v_var 0) v_int) (gs_cons (g_name 2 sc_l_draw.nd) gs_nil)) (lb_cons (ng_sub (nx_var 0) (nx_c _)) (lb_cons (ng_name 2) lb_nil))) (hno_of (ng_tup (ngs_cons (ng_sub (nx_var 0) (nx_c _)) (ngs_cons (ng_name 2) ngs_nil)))))
  (b_one (s_ret (v_var 2)))) b_nil)
  (b_cons (s_asg (v_op op_mod ok_mod (v_callTy call_int1 ok_toInt rfl L.z_int rfl (a_cons (v_op op_addAll ok_add (v_op op_mulAll ok_mul (v_ix ix_all ok_ix (v_var 0) v_int (fun _ _ => rfl)) v_int) v_int) a_nil)) v_int) (g_subC (v_var 0) v_int) (hno_of (ng_sub (nx_var 0) (nx_c _))))
  (b_one (s_ret (v_op op_mod ok_mod (v_callTy call_int1 ok_toInt rfl L.z_int rfl (a_cons (v_op op_fdivW ok_div (v_ix ix_all ok_ix (v_var 0) v_int (fun _ _ => rfl)) v_int) a_nil)) (v_var 1))))))

theorem sc_l_one : FnScope ["_law_well_here", "_law_things"] ["_law_well_here", "_law_things"] (defScope s_l_one) := ⟨rfl, rfl, rfl, by decide +kernel, rfl, by decide +kernel, by decide +kernel⟩
theorem b_l_one (L : Lf K mg) : Binds K L.d_l_one ["_law_well_here", "_law_things"] [] := L.F_l_one.binds fun _ _ _ _ _ _ us hl => match us, hl with | [_, _], _ => rfl
theorem G_l_one (L : Lf K mg) : FnG P w K mg base 2 L.a_l_one L.d_l_one ["_law_well_here", "_law_things"] (SpM K mg 2 f_l_one) := fnM L.F_l_one sc_l_one rfl fun cd A outer s H E rm =>
  (b_one (s_ret (v_ix ix_all ok_ix (v_var 1) (v_call (G_l_draw L) (rm.less (by decide)) L.m_l_draw L.F_l_draw.kp (b_l_draw L) px_def (a_cons (v_var 0) (a_cons (v_callB call_lenAll ok_len rfl L.z_len rfl (a_cons (v_var 1) a_nil)) a_nil))) (fun _ _ => rfl))))

theorem sc_l_tall_row : FnScope ["_law_well_here", "_law_found", "_law_turn", "_law_small", "_law_each"] ["_law_well_here"] (defScope s_l_tall_row) := ⟨rfl, rfl, rfl, by decide +kernel, rfl, by decide +kernel, by decide +kernel⟩
theorem b_l_tall_row (L : Lf K mg) : Binds K L.d_l_tall_row ["_law_well_here"] [] := L.F_l_tall_row.binds fun _ _ _ _ _ _ us hl => match us, hl with | [_], _ => rfl
theorem G_l_tall_row (L : Lf K mg) : FnG P w K mg base 3 L.a_l_tall_row L.d_l_tall_row ["_law_well_here"] (SpM K mg 1 f_l_tall_row) := fnM L.F_l_tall_row sc_l_tall_row rfl fun cd A outer s H E rm =>
  (b_cons (s_set 1 (v_fr (o_lst a_nil)) sc_l_tall_row.nd)
  (b_cons (s_for po_def rfl (i_range1 L.z_range (a_cons (v_call (G_l_draw L) (rm.less (by decide)) L.m_l_draw L.F_l_draw.kp (b_l_draw L) px_def (a_cons (v_var 0) (a_cons v_int a_nil))) a_nil)) (pp_nm 2 sc_l_tall_row.nd) (b_cons (s_set 3 (v_op op_sub ok_sub (v_call (G_l_draw L) (rm.less (by decide)) L.m_l_draw L.F_l_draw.kp (b_l_draw L) px_def (a_cons (v_var 0) (a_cons v_int a_nil))) v_int) sc_l_tall_row.nd)
  (b_cons (s_set 4 (v_call (G_l_one L) (rm.less (by decide)) L.m_l_one L.F_l_one.kp (b_l_one L) px_def (a_cons (v_var 0) (a_cons (v_fr (o_lst (a_cons v_int (a_cons v_int (a_cons v_int (a_cons (v_un un_neg ok_neg v_int) (a_cons (v_var 3) (a_cons (v_var 3) (a_cons (v_op op_pow ok_pow v_int v_int) (a_cons (v_un un_neg ok_neg (v_op op_pow ok_pow v_int v_int)) a_nil)))))))))) a_nil))) sc_l_tall_row.nd)
  (b_one (s_set 1 (v_op op_addAll ok_add (v_var 1) (v_op op_mulAll ok_mul (v_fr (o_lst (a_cons (v_var 4) a_nil))) (v_op op_addAll ok_add v_int (v_call (G_l_draw L) (rm.less (by decide)) L.m_l_draw L.F_l_draw.kp (b_l_draw L) px_def (a_cons (v_var 0) (a_cons v_int a_nil)))))) sc_l_tall_row.nd)))))
  (b_one (s_ret (v_callTy call_tuple_of ok_tuple rfl L.z_tuple rfl (a_cons (v_var 1) a_nil))))))

theorem sc_l_due : FnScope ["_law_tall", "_law_found", "_law_last", "_law_each"] ["_law_tall"] (defScope s_l_due) := ⟨rfl, rfl, rfl, by decide +kernel, rfl, by decide +kernel, by decide +kernel⟩
theorem b_l_due (L : Lf K mg) : Binds K L.d_l_due ["_law_tall"] [] := L.F_l_due.binds fun _ _ _ _ _ _ us hl => match us, hl with | [_], _ => rfl
theorem G_l_due (L : Lf K mg) : FnG P w K mg base 1 L.a_l_due L.d_l_due ["_law_tall"] (SpM K mg 1 f_l_due) := fnM L.F_l_due sc_l_due rfl fun cd A outer s H E rm =>
  (b_cons (s_unp (pt := (.tp [(.nm 1), (.nm 2)])) (v_tup (a_cons v_int (a_cons v_int a_nil))) (pp_tp rfl (pp_cons (pp_nm 1 sc_l_due.nd) (pp_cons (pp_nm 2 sc_l_due.nd) pp_nil))))
  (b_cons (s_for po_def rfl (i_seq (v_var 0)) (pp_nm 3 sc_l_due.nd) (b_one (s_if (t_cmp (op_neAll rm.units) ok_ne (v_var 3) v_int rfl) (b_cons (s_set 1 (v_op op_addAll ok_add (v_var 1) (v_callTy call_int1 ok_toInt rfl L.z_int rfl (a_cons (v_cmp op_lt ok_lt (v_op op_mulAll ok_mul (v_var 2) (v_var 3)) v_int rfl) a_nil))) sc_l_due.nd)
  (b_one (s_set 2 (v_var 3) sc_l_due.nd))) b_nil)))
  (b_one (s_ret (v_var 1)))))

theorem sc_l_caught : FnScope ["_law_given", "e", "_law_others"] ["_law_given"] (defScope s_l_caught) := ⟨rfl, rfl, rfl, by decide +kernel, rfl, by decide +kernel, by decide +kernel⟩
theorem b_l_caught (L : Lf K mg) : Binds K L.d_l_caught ["_law_given"] [] := L.F_l_caught.binds fun _ _ _ _ _ _ us hl => match us, hl with | [_], _ => rfl
theorem G_l_caught (L : Lf K mg) : FnG P w K mg base 5 L.a_l_caught L.d_l_caught ["_law_given"] (SpM K mg 1 f_l_caught) := fnM L.F_l_caught sc_l_caught rfl fun cd A outer s H E rm =>
  (b_one (s_try rfl rfl sc_l_caught.nd (L2N.takes_of rfl rfl rfl rfl) (sub_ok' L)
  (fun E1 pn xe tk po => (b_one (s_ret (v_fr (o_lst (a_cons v_str (a_cons (v_call (G_p_changes L) (rm.less (by decide)) L.m_p_changes L.F_p_changes.kp (b_p_changes L) (px_of tk) (a_cons (v_var 0) a_nil)) a_nil)))))))
  (.named tst1 rfl rfl (fun a pn oe hot => (b_cons (s_set 2 (v_or (v_callB call_isAll (ok_isA (tab_ok L)) rfl L.z_isinstance rfl (a_cons (v_var 1) (a_cons (v_cls L.c_InvalidPlaces) a_nil))) (v_or (v_callB call_isAll (ok_isA (tab_ok L)) rfl L.z_isinstance rfl (a_cons (v_var 1) (a_cons (v_cls L.c_InvalidAmounts) a_nil))) (v_or1 (v_callB call_isAll (ok_isA (tab_ok L)) rfl L.z_isinstance rfl (a_cons (v_var 1) (a_cons (v_cls L.c_InvalidOffers) a_nil)))))) sc_l_caught.nd)
  (b_one (s_ret (v_fr (o_lst (a_cons v_str (a_cons (v_xf (xf_ok L) (v_var 1)) (a_cons (v_callB call_isAll (ok_isA (tab_ok L)) rfl L.z_isinstance rfl (a_cons (v_var 1) (a_cons (v_cls L.c_NotRight) a_nil))) (a_cons (v_var 2) a_nil)))))))))) .nil)))

theorem sc_l_right : FnScope ["_law_well_here", "_law_turn", "_law_tall", "_law_due_here", "_law_odd", "_law_at", "_law_bent", "_law_other"] ["_law_well_here"] (defScope s_l_right) := ⟨rfl, rfl, rfl, by decide +kernel, rfl, by decide +kernel, by decide +kernel⟩
theorem b_l_right (L : Lf K mg) : Binds K L.d_l_right ["_law_well_here"] [] := L.F_l_right.binds fun _ _ _ _ _ _ us hl => match us, hl with | [_], _ => rfl
theorem G_l_right (L : Lf K mg) : FnG P w K mg base 6 L.a_l_right L.d_l_right ["_law_well_here"] (SpM K mg 1 f_l_right) := fnM L.F_l_right sc_l_right rfl fun cd A outer s H E rm =>
  (b_cons (s_for po_def rfl (i_range1 L.z_range (a_cons v_int a_nil)) (pp_nm 1 sc_l_right.nd) (b_cons (s_set 2 (v_call (G_l_tall_row L) (rm.less (by decide)) L.m_l_tall_row L.F_l_tall_row.kp (b_l_tall_row L) px_def (a_cons (v_var 0) a_nil)) sc_l_right.nd)
  (b_cons (s_set 3 (v_call (G_l_due L) (rm.less (by decide)) L.m_l_due L.F_l_due.kp (b_l_due L) px_def (a_cons (v_var 2) a_nil)) sc_l_right.nd)
  (b_cons (s_if (t_cmp (op_neAll rm.units) ok_ne (v_callB (call_repr rm) ok_repr rfl L.z_repr rfl (a_cons (v_fr (o_lst (a_cons (v_call (G_p_changes L) (rm.less (by decide)) L.m_p_changes L.F_p_changes.kp (b_p_changes L) px_def (a_cons (v_var 2) a_nil)) (a_cons (v_callK0 (G_p_changes L) (rm.less (by decide)) L.m_p_changes L.F_p_changes.kp (bk_p_changes_0_row L) px_def (k_cons (v_var 2) k_nil)) a_nil)))) a_nil)) (v_callB (call_repr rm) ok_repr rfl L.z_repr rfl (a_cons (v_fr (o_lst (a_cons (v_var 3) (a_cons (v_var 3) a_nil)))) a_nil)) rfl) (b_one (s_ret v_bl)) b_nil)
  (b_cons (s_set 4 (v_call (G_l_one L) (rm.less (by decide)) L.m_l_one L.F_l_one.kp (b_l_one L) px_def (a_cons (v_var 0) (a_cons (v_fr (o_lst (a_cons v_bl (a_cons v_non (a_cons (v_op op_addAll ok_add (v_op op_pow ok_pow v_int v_int) v_int) (a_cons (v_op op_sub ok_sub (v_un un_neg ok_neg (v_op op_pow ok_pow v_int v_int)) v_int) (a_cons v_str (a_cons (v_tup (a_cons v_int a_nil)) (a_cons (v_fr (o_lst (a_cons v_int a_nil))) (a_cons v_dict0 (a_cons v_bl (a_cons v_str a_nil)))))))))))) a_nil))) sc_l_right.nd)
  (b_cons (s_set 5 (v_call (G_l_draw L) (rm.less (by decide)) L.m_l_draw L.F_l_draw.kp (b_l_draw L) px_def (a_cons (v_var 0) (a_cons (v_op op_addAll ok_add (v_callB call_lenAll ok_len rfl L.z_len rfl (a_cons (v_var 2) a_nil)) v_int) a_nil))) sc_l_right.nd)
  (b_cons (s_set 6 (v_op op_addAll ok_add (v_op op_addAll ok_add (v_slice sl_all ok_slice (v_var 2) p_none (p_some (v_var 5))) (v_tup (a_cons (v_var 4) a_nil))) (v_call (G_l_one L) (rm.less (by decide)) L.m_l_one L.F_l_one.kp (b_l_one L) px_def (a_cons (v_var 0) (a_cons (v_fr (o_lst (a_cons (v_slice sl_all ok_slice (v_var 2) (p_some (v_var 5)) p_none) (a_cons (v_slice sl_all ok_slice (v_var 2) (p_some (v_op op_addAll ok_add (v_var 5) v_int)) p_none) (a_cons (v_op op_addAll ok_add (v_tup (a_cons v_non a_nil)) (v_slice sl_all ok_slice (v_var 2) (p_some (v_var 5)) p_none)) a_nil))))) a_nil)))) sc_l_right.nd)
  (b_cons (s_if (t_cmp (op_neAll rm.units) ok_ne (v_callB (call_repr rm) ok_repr rfl L.z_repr rfl (a_cons (v_call (G_l_caught L) (rm.less (by decide)) L.m_l_caught L.F_l_caught.kp (b_l_caught L) px_def (a_cons (v_var 6) a_nil)) a_nil)) (v_callB (call_repr rm) ok_repr rfl L.z_repr rfl (a_cons (v_fr (o_lst (a_cons v_str (a_cons (v_var 5) (a_cons v_bl (a_cons v_bl a_nil)))))) a_nil)) rfl) (b_one (s_ret v_bl)) b_nil)
  (b_cons (s_set 7 (v_call (G_l_one L) (rm.less (by decide)) L.m_l_one L.F_l_one.kp (b_l_one L) px_def (a_cons (v_var 0) (a_cons (v_fr (o_lst (a_cons v_non (a_cons (v_callTy call_list_of ok_list rfl L.z_list rfl (a_cons (v_var 2) a_nil)) (a_cons v_dict0 (a_cons v_int (a_cons v_str (a_cons v_str (a_cons v_bl a_nil))))))))) a_nil))) sc_l_right.nd)
  (b_cons (s_if (t_cmp (op_neAll rm.units) ok_ne (v_callB (call_repr rm) ok_repr rfl L.z_repr rfl (a_cons (v_call (G_l_caught L) (rm.less (by decide)) L.m_l_caught L.F_l_caught.kp (b_l_caught L) px_def (a_cons (v_var 7) a_nil)) a_nil)) (v_callB (call_repr rm) ok_repr rfl L.z_repr rfl (a_cons (v_fr (o_lst (a_cons v_str (a_cons v_non (a_cons v_bl (a_cons v_bl a_nil)))))) a_nil)) rfl) (b_one (s_ret v_bl)) b_nil)
  (b_one (s_if (t_cmp (op_neAll rm.units) ok_ne (v_callB (call_repr rm) ok_repr rfl L.z_repr rfl (a_cons (v_call (G_l_caught L) (rm.less (by decide)) L.m_l_caught L.F_l_caught.kp (b_l_caught L) px_def (a_cons (v_var 2) a_nil)) a_nil)) (v_callB (call_repr rm) ok_repr rfl L.z_repr rfl (a_cons (v_fr (o_lst (a_cons v_str (a_cons (v_var 3) a_nil)))) a_nil)) rfl) (b_one (s_ret v_bl)) b_nil))))))))))))
  (b_one (s_ret v_bl)))

theorem sc_p_law : FnScope ["_law_cells", "_law_turn"] ["_law_cells"] (defScope s_p_law) := ⟨rfl, rfl, rfl, by decide +kernel, rfl, by decide +kernel, by decide +kernel⟩
theorem b_p_law (L : Lf K mg) : Binds K L.d_p_law ["_law_cells"] [] := L.F_p_law.binds fun _ _ _ _ _ _ us hl => match us, hl with | [_], _ => rfl
theorem G_p_law (L : Lf K mg) : FnG P w K mg base 7 L.a_p_law L.d_p_law ["_law_cells"] (SpM K mg 1 f_p_law) := fnM L.F_p_law sc_p_law rfl fun cd A outer s H E rm =>
  (b_one (s_ret (v_callB (cr_all rfl) ok_all rfl L.z_all rfl (a_cons (v_fr (o_lc (own := [("_law_turn", 1)]) rfl sc_p_law.nd rfl (i_range1 L.z_range (a_cons (v_callB (call_max2 rfl) ok_max rfl L.z_max rfl (a_cons v_int (a_cons (v_callB (call_min2 rfl) ok_min rfl L.z_min rfl (a_cons (v_callB call_lenAll ok_len rfl L.z_len rfl (a_cons (v_var 0) a_nil)) (a_cons v_int a_nil))) a_nil))) a_nil)) (blkOk_by (N := ["_law_cells", "_law_turn"]) (sc := defScope s_p_law) (by decide +kernel)) (fun _ _ _ _ _ => (pp_nm 1 sc_p_law.nd)) (fun _ _ _ _ _ => ts_nil) (fun _ _ _ _ _ => (v_call (G_l_right L) (rm.less (by decide)) L.m_l_right L.F_l_right.kp (b_l_right L) px_0 (a_cons (v_call (G_l_well L) (rm.less (by decide)) L.m_l_well L.F_l_well.kp (b_l_well L) px_0 (a_cons (v_var 0) (a_cons (v_var 1) a_nil))) a_nil))))) a_nil))))

end
end K67

namespace K67
open PySem PySem.Spec L2 DL
open PyProof.Rows hiding St
/-- a well: [a, b] -/
def WellAt (S : List Cell) (n : Nat) : Prop := ∃ a b : Int, S[n]? = some (.lst [.int a, .int b]) ∧ 0 ≤ a ∧ 0 ≤ b ∧ b < 2147483423
theorem at0 {α : Type} (x y : α) : atI [x, y] 0 = some x := rfl
theorem at1 {α : Type} (x y : α) : atI [x, y] 1 = some y := rfl
theorem ix_cell {S : List Cell} {n : Nat} {xs : List D} (h : S[n]? = some (.lst xs)) (i : Int) : ixD (.cell n) (.int i) S = atI xs i := by
  show (match S[n]? with | some (.lst xs) => atI xs i | _ => none) = _
  rw [h]
theorem put0 {S : List Cell} {n : Nat} {x y d : D} (h : S[n]? = some (.lst [x, y])) : putC (.cell n) (.int 0) d S = some (S.set n (.lst [d, y])) := by
  show (match S[n]? with | some (.lst xs) => (ixN xs.length 0).map fun m => S.set n (.lst (xs.set m d)) | _ => none) = _
  rw [h]; rfl
theorem put1 {S : List Cell} {n : Nat} {x y d : D} (h : S[n]? = some (.lst [x, y])) : putC (.cell n) (.int 1) d S = some (S.set n (.lst [x, d])) := by
  show (match S[n]? with | some (.lst xs) => (ixN xs.length 1).map fun m => S.set n (.lst (xs.set m d)) | _ => none) = _
  rw [h]; rfl
theorem get_set {S : List Cell} {n : Nat} {c c' : Cell} (h : S[n]? = some c) : (S.set n c')[n]? = some c' := by
  have hl := (List.getElem?_eq_some_iff.mp h).1
  simp [hl]
theorem mul60 {i j : Int} {S : List Cell} (h1 : i.natAbs < 2 ^ 60) (h2 : j.natAbs < 2 ^ 60) : mulD (.int i) (.int j) S = some (.int (i * j)) :=
  mulD_int (by
    unfold okMul
    have a := log2_lt h1 (by decide)
    have b := log2_lt h2 (by decide)
    exact decide_eq_true (by omega))
theorem draw_ok {S : List Cell} {n : Nat} {many : Int} (w : WellAt S n) (h1 : 0 < many) (h2 : many < 1073741824) : ∃ d S', f_l_draw [.cell n, .int many] S = .ok (.int d) S' ∧ 0 ≤ d ∧ d < many ∧ WellAt S' n ∧ S'.length = S.length := by
  obtain ⟨a, b, h, ha, hb, hb2⟩ := w
  by_cases hp : 0 < a
  · refine ⟨a % many, S.set n (.lst [.int (a / many), .int b]), ?_, Int.emod_nonneg _ (by omega), Int.emod_lt_of_pos _ h1, ⟨a / many, b, get_set h, Int.ediv_nonneg ha (by omega), hb, hb2⟩, by simp⟩
    have dm : divmodD [.int a, .int many] S = some (.tup [.int (a / many), .int (a % many)]) := by
      show (if 0 < many ∧ many < 1073741824 then _ else _) = _
      rw [if_pos ⟨h1, h2⟩]
    simp [f_l_draw, mDef_ap, startE_ap, m_l_draw, ix_cell h, at0, hp, dm, put0 h]
  · refine ⟨(b * 48889 + 12289) % 2147483423 / 1021 % many, S.set n (.lst [.int a, .int ((b * 48889 + 12289) % 2147483423)]), ?_, Int.emod_nonneg _ (by omega), Int.emod_lt_of_pos _ h1, ⟨a, _, get_set h, ha, Int.emod_nonneg _ (by decide), Int.emod_lt_of_pos _ (by decide)⟩, by simp⟩
    have hm : mulD (.int b) (.int 48889) S = some (.int (b * 48889)) := mul60 (by omega) (by decide)
    have ti : ∀ (i : Int) S, toIntD [.int i] S = some (.int i) := fun _ _ => rfl
    have h' := get_set (c' := .lst [.int a, .int ((b * 48889 + 12289) % 2147483423)]) h
    simp [f_l_draw, mDef_ap, startE_ap, m_l_draw, ix_cell h, at0, at1, hp, hm, ti, modD_int, put1 h, ix_cell h', divD_int]
    rw [divD_int (by decide) (by decide)]
    simp [ti, modD_int h1]

theorem one_ok {S : List Cell} {n : Nat} {xs : List D} (w : WellAt S n) (h1 : 0 < xs.length) (h2 : xs.length < 100000) : ∃ d S', f_l_one [.cell n, .lst xs] S = .ok d S' ∧ d ∈ xs ∧ WellAt S' n ∧ S'.length = S.length := by
  obtain ⟨i, S', e, i0, i1, w', hl⟩ := draw_ok (many := (xs.length : Nat)) w (by omega) (by omega)
  have ln : lenD [.lst xs] S = some (.int (xs.length : Nat)) := rfl
  have hi : i.toNat < xs.length := by omega
  have ix : ixD (.lst xs) (.int i) S' = some xs[i.toNat] := by
    show atI xs i = _
    unfold atI ixN
    rw [if_pos i0, if_pos i1, Option.bind_some, List.getElem?_eq_getElem hi]
  refine ⟨xs[i.toNat], S', ?_, List.getElem_mem hi, w', hl⟩
  simp [f_l_one, mDef_ap, startE_ap, m_l_one, ln, e, ix]
/-! ### heights -/
def isH : D → Bool
  | .int i => decide (-100000000000000000000 ≤ i ∧ i ≤ 100000000000000000000)
  | _ => false
theorem isa_int {d : D} {a : String} (S : List Cell) (h : tyName d = some a) : isAD tabT [d, .ty "int"] S = some (.bl (match d with | .int _ => true | .bl _ => true | _ => false)) := by
  cases d <;> first | rfl | (cases h)
theorem isa_bool {d : D} {a : String} (S : List Cell) (h : tyName d = some a) : isAD tabT [d, .ty "bool"] S = some (.bl (match d with | .bl _ => true | _ => false)) := by
  cases d <;> first | rfl | (cases h)
theorem isa_tup {d : D} {a : String} (S : List Cell) (h : tyName d = some a) : isAD tabT [d, .ty "tuple"] S = some (.bl (match d with | .tup _ => true | _ => false)) := by
  cases d <;> first | rfl | (cases h)
theorem isH_ok {d : D} {a : String} (S : List Cell) (h : tyName d = some a) : f_p_is_height [d] S = .ok (.bl (isH d)) S := by
  have e1 := isa_int S h
  have e2 := isa_bool S h
  cases d with
  | int i =>
    by_cases hh : -100000000000000000000 ≤ i <;> simp [f_p_is_height, m_p_is_height, f_p_is_between, m_p_is_between, f_p_is_integer, m_p_is_integer, mDef_ap, startE_ap, e1, e2, isH, hh]
  | _ => first | (cases h; done) | (simp [f_p_is_height, m_p_is_height, f_p_is_between, m_p_is_between, f_p_is_integer, m_p_is_integer, mDef_ap, startE_ap, e1, e2, isH])

theorem ne_int (i j : Int) (S : List Cell) : neD (.int i) (.int j) S = some (.bl (!decide (i = j))) := rfl
theorem ne_bl (i j : Bool) (S : List Cell) : neD (.bl i) (.bl j) S = some (.bl (!decide (i = j))) := by
  cases i <;> cases j <;> rfl
theorem ne_same (i : Str) (S : List Cell) : neD (.str i) (.str i) S = some (.bl false) := by simp [neD, eqA]
/-! ### changes -/
def pz : Nat → List D → List D
  | _, [] => []
  | i, d :: r => .tup [.int (i : Nat), d] :: pz (i + 1) r
theorem pairs_pz (xs : List D) : pairsI xs = pz 0 xs := by
  have key : ∀ (xs : List D) (k : Nat), (xs.mapIdx fun i d => D.tup [.int ((i + k : Nat)), d]) = pz k xs := by
    intro xs
    induction xs with
    | nil => intro k; rfl
    | cons d r ih =>
      intro k
      rw [List.mapIdx_cons, pz]
      have := ih (k + 1)
      simp only [Nat.zero_add]
      rw [← this]
      congr 2
      funext i d
      rw [show i + 1 + k = i + (k + 1) by omega]
  exact key xs 0
def firstBad : List D → Option Nat
  | [] => none
  | d :: r => if isH d then (firstBad r).map (· + 1) else some 0
def plainD (xs : List D) : Prop := ∀ d ∈ xs, ∃ a, tyName d = some a
abbrev chBody : Sm := mIfS (mNot (mB (mFn 1 f_p_is_height (mCons (mVar 2) mNil)))) (mRaise "InvalidHeights" "index" (mVar 1)) mSkip
theorem ch_loop (v : D) (S : List Cell) : ∀ (xs : List D) (i : Nat) (s1 s2 : Sl), plainD xs →
    match firstBad xs with
    | some j => ∃ e', forL (.tp [.nm 1, .nm 2]) chBody (pz i xs) [.val v, s1, s2, .un, .un, .un] S = .ex "InvalidHeights" ["index"] [.int ((i + j : Nat))] e' S
    | none => ∃ s1' s2', forL (.tp [.nm 1, .nm 2]) chBody (pz i xs) [.val v, s1, s2, .un, .un, .un] S = .nx [.val v, s1', s2', .un, .un, .un] S
  | [], i, s1, s2, h => ⟨s1, s2, rfl⟩
  | d :: r, i, s1, s2, h => by
    obtain ⟨a, ha⟩ := h d (by simp)
    have e1 := isH_ok S ha
    have ih := ch_loop v S r (i + 1) (.val (.int (i : Nat))) (.val d) fun x hx => h x (by simp [hx])
    rw [firstBad, pz, forL_cons]
    cases hh : isH d with
    | false =>
      rw [hh] at e1
      simp only [Bool.false_eq_true, if_false]
      exact ⟨_, by simp [e1, mRaise]; rfl⟩
    | true =>
      rw [hh] at e1
      simp only [if_true]
      cases hb : firstBad r with
      | none =>
        rw [hb] at ih
        obtain ⟨t1, t2, ih⟩ := ih
        exact ⟨t1, t2, by simpa [e1] using ih⟩
      | some j =>
        rw [hb] at ih
        obtain ⟨e', ih⟩ := ih
        refine ⟨e', ?_⟩
        rw [show i + (j + 1) = i + 1 + j by omega]
        simpa [e1] using ih
theorem ch_notup {d : D} {a : String} (S : List Cell) (h : tyName d = some a) (hn : a ≠ "tuple") : f_p_changes [d] S = .ex "InvalidHeights" ["index"] [.non] S := by
  have e := isa_tup S h
  cases d with
  | tup xs => cases h; exact absurd rfl hn
  | _ => first | (cases h; done) | (simp [f_p_changes, mDef_ap, startE_ap, m_p_changes, e, mRaise])
theorem ch_bad {xs : List D} {j : Nat} (S : List Cell) (h : plainD xs) (hb : firstBad xs = some j) : f_p_changes [.tup xs] S = .ex "InvalidHeights" ["index"] [.int (j : Nat)] S := by
  have e := isa_tup S (d := .tup xs) rfl
  have en : enumD [.tup xs] S = .ok (pz 0 xs) S := by
    show Rs.ok (pairsI xs) S = _
    rw [pairs_pz]
  have lp := ch_loop (.tup xs) S xs 0 .un .un h
  rw [hb] at lp
  obtain ⟨e', lp⟩ := lp
  rw [Nat.zero_add] at lp
  simp [f_p_changes, mDef_ap, startE_ap, m_p_changes, e, en, lp]
/-- the rest of it -/
def nz (ns : List Int) : List Int := ns.filter fun i => decide (i ≠ 0)
def flips : List Int → Nat
  | x :: y :: r => (if decide (x > 0) ≠ decide (y > 0) then 1 else 0) + flips (y :: r)
  | _ => 0
theorem good_none : ∀ (ns : List Int), (∀ n ∈ ns, isH (.int n) = true) → firstBad (ns.map D.int) = none
  | [], _ => rfl
  | n :: r, h => by
    rw [List.map_cons, firstBad, if_pos (h n (by simp)), good_none r fun x hx => h x (by simp [hx])]
    rfl
theorem cut1 (xs : List D) : DL.cutD xs (some 1) none = xs.drop 1 := by
  unfold DL.cutD
  rw [show HT.sIx xs.length 0 (some 1) = min 1 xs.length from HT.sIx_nat xs.length 0 1, HT.sIx_none]
  cases xs with
  | nil => rfl
  | cons x r =>
    rw [show min 1 (x :: r).length = 1 by rw [List.length_cons]; omega]
    show (List.take ((x :: r).length - 1) r) = r
    rw [List.length_cons, Nat.add_sub_cancel]
    exact List.take_length
def pc : D → Bool
  | .tup [.int x, .int y] => decide (x > 0) != decide (y > 0)
  | _ => false
def p1 : D → D
  | .tup [x, _] => x
  | d => d
theorem flips_len : ∀ ns : List Int, ((pairsZ (ns.map D.int) ((ns.map D.int).drop 1)).filter pc).length = flips ns
  | [] => rfl
  | [x] => rfl
  | x :: y :: r => by
    have ih := flips_len (y :: r)
    have e : pairsZ ((x :: y :: r).map D.int) (((x :: y :: r).map D.int).drop 1) = .tup [.int x, .int y] :: pairsZ ((y :: r).map D.int) (((y :: r).map D.int).drop 1) := by
      simp [pairsZ]
    rw [e, List.filter_cons, flips]
    by_cases hp : decide (x > 0) = decide (y > 0)
    · have : pc (.tup [.int x, .int y]) = false := by simp [pc, hp]
      rw [this, if_neg (by simp), ih, if_neg (by simpa using hp)]
      omega
    · have : pc (.tup [.int x, .int y]) = true := by simp [pc]; simpa using hp
      rw [this, if_pos rfl, List.length_cons, ih, if_pos hp]
      omega

def c0 : D → Bool
  | .int i => decide (i ≠ 0)
  | _ => false
theorem filter_c0 : ∀ ns : List Int, ((ns.map D.int).filter c0) = (nz ns).map D.int
  | [] => rfl
  | n :: r => by
    have ih := filter_c0 r
    unfold nz at ih ⊢
    rw [List.map_cons, List.filter_cons, List.filter_cons, ih]
    show (if decide (n ≠ 0) = true then _ else _) = _
    by_cases h : n = 0
    · simp [h]
    · simp [h]
theorem ch_good {ns : List Int} (S : List Cell) (h : ∀ n ∈ ns, isH (.int n) = true) (hl : ns.length ≤ 1000) : f_p_changes [.tup (ns.map D.int)] S = .ok (.int (flips (nz ns) : Nat)) S := by
  have e := isa_tup S (d := .tup (ns.map D.int)) rfl
  have en : enumD [.tup (ns.map D.int)] S = .ok (pz 0 (ns.map D.int)) S := by
    show Rs.ok (pairsI _) S = _
    rw [pairs_pz]
  have lp := ch_loop (.tup (ns.map D.int)) S (ns.map D.int) 0 .un .un (fun d hd => by
    obtain ⟨n, _, rfl⟩ := List.mem_map.mp hd
    exact ⟨_, rfl⟩)
  rw [good_none ns h] at lp
  obtain ⟨t1, t2, lp⟩ := lp
  have hn : (nz ns).length ≤ 1000 := Nat.le_trans (List.length_filter_le _ _) hl
  have c1 : ∀ env, compL [2] (.nm 2) (mB (mOp neD (mVar 2) (mC (.int 0)))) (mVar 2) (ns.map D.int) [.val (.tup (ns.map D.int)), t1, t2, env, .un, .un] S = .ok ((nz ns).map D.int) S := fun env => by
    rw [compL_pure c0 id, filter_c0, List.map_id]
    intro d hd
    obtain ⟨n, _, rfl⟩ := List.mem_map.mp hd
    refine ⟨_, rfl, ?_, fun _ => ?_⟩
    · simp [ne_int, c0]
    · simp
  have z1 : zipD [.lst ((nz ns).map D.int), .lst (((nz ns).map D.int).drop 1)] S = .ok (pairsZ ((nz ns).map D.int) (((nz ns).map D.int).drop 1)) S := rfl
  have sl : sliceD (.lst ((nz ns).map D.int)) (some 1) none = some (.lst (((nz ns).map D.int).drop 1)) := by
    show some (D.lst (DL.cutD _ _ _)) = _
    rw [cut1]
  have zl : (pairsZ ((nz ns).map D.int) (((nz ns).map D.int).drop 1)).length ≤ 1000 := by
    unfold pairsZ
    rw [List.length_zipWith]
    simp
    omega
  have c2 : compL [4, 5] (.tp [.nm 4, .nm 5]) (mB (mOp neD (mOp gtD (mVar 4) (mC (.int 0))) (mOp gtD (mVar 5) (mC (.int 0))))) (mVar 4) (pairsZ ((nz ns).map D.int) (((nz ns).map D.int).drop 1))
      [.val (.tup (ns.map D.int)), t1, t2, .val (.lst ((nz ns).map D.int)), .un, .un] S = .ok (((pairsZ ((nz ns).map D.int) (((nz ns).map D.int).drop 1)).filter pc).map p1) S := by
    rw [compL_pure pc p1]
    intro d hd
    obtain ⟨x, y, rfl⟩ : ∃ x y : Int, d = .tup [.int x, .int y] := by
      unfold pairsZ at hd
      rw [← List.map_drop, List.zipWith_map] at hd
      obtain ⟨k, hk⟩ := List.getElem?_of_mem hd
      rw [List.getElem?_zipWith] at hk
      cases h1 : (nz ns)[k]? with
      | none => rw [h1] at hk; simp at hk
      | some x =>
        cases h2 : ((nz ns).drop 1)[k]? with
        | none => rw [h1, h2] at hk; simp at hk
        | some y => rw [h1, h2] at hk; cases hk; exact ⟨x, y, rfl⟩
    refine ⟨_, rfl, ?_, fun _ => ?_⟩
    · simp [ne_bl, pc]
      by_cases a : 0 < x <;> by_cases b : 0 < y <;> simp [a, b]
    · simp [p1]
  have ln : ∀ xs : List D, lenD [.lst xs] S = some (.int (xs.length : Nat)) := fun _ => rfl
  have hl2 : ns.length ≤ 100000 := by omega
  have zl2 : (pairsZ ((nz ns).map D.int) (((nz ns).map D.int).drop 1)).length ≤ 100000 := by omega
  simp [f_p_changes, mDef_ap, startE_ap, m_p_changes, e, en, lp, mComp_ap, c1, hl2]
  simp at z1 sl zl2 c2
  simp [z1, sl, zl2, c2, ln]
  have := flips_len (nz ns)
  simp at this
  rw [this]

/-! ### the law's own count -/
def flipsFrom (last : Int) (xs : List Int) : Nat := if last = 0 then flips xs else flips (last :: xs)
theorem flips1 (x : Int) : flips [x] = 0 := rfl
theorem flips_cons (x y : Int) (r : List Int) : flips (x :: y :: r) = (if decide (x > 0) ≠ decide (y > 0) then 1 else 0) + flips (y :: r) := rfl
theorem neg_prod {x y : Int} (hx : x ≠ 0) (hy : y ≠ 0) : decide (x * y < 0) = decide (decide (x > 0) ≠ decide (y > 0)) := by
  rcases Int.lt_or_gt_of_ne hx with a | a <;> rcases Int.lt_or_gt_of_ne hy with b | b
  · have := Int.mul_pos_of_neg_of_neg a b
    have h1 : ¬ x * y < 0 := by omega
    have h2 : ¬ x > 0 := by omega
    have h3 : ¬ y > 0 := by omega
    simp [h1, h2, h3]
  · have := Int.mul_neg_of_neg_of_pos a b
    have h2 : ¬ x > 0 := by omega
    simp [this, h2, b]
  · have := Int.mul_neg_of_pos_of_neg a b
    have h2 : ¬ y > 0 := by omega
    simp [this, h2, a]
  · have := Int.mul_pos a b
    have h1 : ¬ x * y < 0 := by omega
    simp [h1, a, b]
abbrev dueBody : Sm := mIfS (mB (mOp neD (mVar 3) (mC (.int 0)))) (mSeq (mSet 1 (mOp addD (mVar 1) (mCall toIntD (mCons (mOp ltD (mOp mulD (mVar 2) (mVar 3)) (mC (.int 0))) mNil))))
  (mSet 2 (mVar 3))) mSkip
theorem toInt_bl (b : Bool) (S : List Cell) : toIntD [.bl b] S = some (.int (if b = true then 1 else 0)) := rfl
def big (n : Int) : Prop := n.natAbs < 2 ^ 80
theorem mul80 {i j : Int} {S : List Cell} (h1 : big i) (h2 : big j) : mulD (.int i) (.int j) S = some (.int (i * j)) :=
  mulD_int (by
    unfold okMul
    have a := log2_lt h1 (by decide)
    have b := log2_lt h2 (by decide)
    exact decide_eq_true (by omega))
theorem due_loop (v : D) (S : List Cell) : ∀ (ns : List Int) (f last : Int) (s3 : Sl), (∀ n ∈ ns, big n) → big last →
    ∃ l' s', forL (.nm 3) dueBody (ns.map D.int) [.val v, .val (.int f), .val (.int last), s3] S = .nx [.val v, .val (.int (f + (flipsFrom last (nz ns) : Nat))), .val (.int l'), s'] S
  | [], f, last, s3, _, _ => ⟨last, s3, by
      have : flipsFrom last (nz []) = 0 := by unfold flipsFrom nz; split <;> rfl
      rw [this]; simp [forL_nil]⟩
  | n :: r, f, last, s3, h, hl => by
    have hn : big n := h n (by simp)
    by_cases h0 : n = 0
    · obtain ⟨l', s', ih⟩ := due_loop v S r f last (.val (.int n)) (fun x hx => h x (by simp [hx])) hl
      refine ⟨l', s', ?_⟩
      have : nz (n :: r) = nz r := by unfold nz; simp [h0]
      rw [this, List.map_cons, forL_cons]
      simp only [bindP_nm]
      have st : dueBody [.val v, .val (.int f), .val (.int last), .val (.int n)] S = .nx [.val v, .val (.int f), .val (.int last), .val (.int n)] S := by simp [ne_int, h0]
      show (match dueBody [.val v, .val (.int f), .val (.int last), .val (.int n)] S with | .nx e S' => forL (.nm 3) dueBody (r.map D.int) e S' | .ct e S' => forL (.nm 3) dueBody (r.map D.int) e S' | .bk e S' => .nx e S' | r => r) = _
      rw [st]
      exact ih
    · have hz : nz (n :: r) = n :: nz r := by unfold nz; simp [h0]
      obtain ⟨l', s', ih⟩ := due_loop v S r (f + (if decide (last * n < 0) = true then 1 else 0)) n (.val (.int n)) (fun x hx => h x (by simp [hx])) hn
      refine ⟨l', s', ?_⟩
      rw [List.map_cons, forL_cons]
      simp only [bindP_nm]
      have st : dueBody [.val v, .val (.int f), .val (.int last), .val (.int n)] S = .nx [.val v, .val (.int (f + (if decide (last * n < 0) = true then 1 else 0))), .val (.int n), .val (.int n)] S := by
        simp [ne_int, h0, mul80 hl hn, toInt_bl]
      show (match dueBody [.val v, .val (.int f), .val (.int last), .val (.int n)] S with | .nx e S' => forL (.nm 3) dueBody (r.map D.int) e S' | .ct e S' => forL (.nm 3) dueBody (r.map D.int) e S' | .bk e S' => .nx e S' | r => r) = _
      rw [st]
      have e1 : f + (if decide (last * n < 0) = true then 1 else 0) + ((flipsFrom n (nz r) : Nat) : Int) = f + ((flipsFrom last (nz (n :: r)) : Nat) : Int) := by
        rw [hz]
        unfold flipsFrom
        rw [if_neg h0]
        by_cases hl0 : last = 0
        · subst hl0
          simp
        · rw [if_neg hl0, flips_cons, neg_prod hl0 h0]
          by_cases q : decide (last > 0) ≠ decide (n > 0)
          · rw [if_pos q, if_pos (by simpa using q)]
            omega
          · rw [if_neg q, if_neg (by simpa using q)]
            omega
      rw [← e1]
      exact ih
theorem due_ok {ns : List Int} (S : List Cell) (h : ∀ n ∈ ns, big n) : f_l_due [.tup (ns.map D.int)] S = .ok (.int (flips (nz ns) : Nat)) S := by
  obtain ⟨l', s', lp⟩ := due_loop (.tup (ns.map D.int)) S ns 0 0 .un h (by unfold big; decide)
  have e : flipsFrom 0 (nz ns) = flips (nz ns) := by unfold flipsFrom; rw [if_pos rfl]
  rw [e, Int.zero_add] at lp
  simp [f_l_due, mDef_ap, startE_ap, m_l_due, lp]
/-! ### drawn rows -/
theorem isH_of {n : Int} (h : -100000000000000000000 ≤ n ∧ n ≤ 100000000000000000000) : isH (.int n) = true := by
  unfold isH; exact decide_eq_true h
theorem isH_big {n : Int} (h : isH (.int n) = true) : big n := by
  have := of_decide_eq_true h
  unfold big
  omega
abbrev rowBody : Sm := mSeq (mSet 3 (mOp subD (mFn 2 f_l_draw (mCons (mVar 0) (mCons (mC (.int 41)) mNil))) (mC (.int 20))))
  (mSeq (mSet 4 (mFn 2 f_l_one (mCons (mVar 0) (mCons (mFr (mLst (mCons (mC (.int 0)) (mCons (mC (.int 0)) (mCons (mC (.int 1)) (mCons (mUn negD (mC (.int 1))) (mCons (mVar 3) (mCons (mVar 3) (mCons (mOp powD (mC (.int 10)) (mC (.int 20))) (mCons (mUn negD (mOp powD (mC (.int 10)) (mC (.int 20)))) mNil)))))))))) mNil))))
  (mSet 1 (mOp addD (mVar 1) (mOp mulD (mFr (mLst (mCons (mVar 4) mNil))) (mOp addD (mC (.int 1)) (mFn 2 f_l_draw (mCons (mVar 0) (mCons (mC (.int 4)) mNil))))))))
theorem ten20 (S : List Cell) : powD (.int 10) (.int 20) S = some (.int 100000000000000000000) := by
  rw [powD_int (by decide)]; rfl
theorem row_step {S : List Cell} {n : Nat} (w : WellAt S n) (ns : List Int) (d : D) (s2 s3 s4 : Sl) (hn : ∀ x ∈ ns, isH (.int x) = true) (hl : ns.length ≤ 36) :
    ∃ (ns' : List Int) (S' : List Cell) (t3 t4 : Sl), rowBody [.val (.cell n), .val (.lst (ns.map D.int)), .val d, s3, s4] S = .nx [.val (.cell n), .val (.lst (ns'.map D.int)), .val d, t3, t4] S' ∧ (∀ x ∈ ns', isH (.int x) = true) ∧ ns'.length ≤ ns.length + 4 ∧ WellAt S' n ∧ S'.length = S.length := by
  obtain ⟨a, S1, e1, a0, a1, w1, l1⟩ := draw_ok (many := 41) w (by decide) (by decide)
  obtain ⟨x, S2, e2, hx, w2, l2⟩ := one_ok (xs := [.int 0, .int 0, .int 1, .int (-1), .int (a - 20), .int (a - 20), .int 100000000000000000000, .int (-100000000000000000000)]) w1 (by simp) (by simp)
  obtain ⟨b, S3, e3, b0, b1, w3, l3⟩ := draw_ok (many := 4) w2 (by decide) (by decide)
  obtain ⟨y, rfl, hy⟩ : ∃ y : Int, x = .int y ∧ isH (.int y) = true := by
    simp only [List.mem_cons, List.not_mem_nil, or_false] at hx
    rcases hx with h | h | h | h | h | h | h | h <;> subst h <;> refine ⟨_, rfl, isH_of ?_⟩ <;> omega
  have mm : mulD (.lst [.int y]) (.int (1 + b)) S3 = some (.lst ((List.replicate (1 + b).toNat y).map D.int)) := by
    show (if _ = true then some (D.lst (List.replicate (1 + b).toNat [D.int y]).flatten) else none) = _
    rw [if_pos]
    · congr 2
      rw [List.map_replicate]
      induction (1 + b).toNat with
      | zero => rfl
      | succ k ih => rw [List.replicate_succ, List.flatten_cons, ih, List.replicate_succ]; rfl
    · unfold okLen
      simp
      omega
  have aa : addD (.lst (ns.map D.int)) (.lst ((List.replicate (1 + b).toNat y).map D.int)) S3 = some (.lst ((ns ++ List.replicate (1 + b).toNat y).map D.int)) := by
    rw [List.map_append]
    show (if _ = true then _ else _) = _
    rw [if_pos]
    unfold okLen
    simp
    omega
  refine ⟨ns ++ List.replicate (1 + b).toNat y, S3, .val (.int (a - 20)), .val (.int y), ?_, ?_, ?_, w3, by rw [l3, l2, l1]⟩
  · simp at aa
    simp [e1, e2, e3, ten20, mm, aa]
  · intro z hz
    rcases List.mem_append.mp hz with h | h
    · exact hn z h
    · rw [(List.mem_replicate.mp h).2]; exact hy
  · rw [List.length_append, List.length_replicate]; omega

theorem row_loop {n : Nat} : ∀ (ds : List D) (S : List Cell) (ns : List Int) (s2 s3 s4 : Sl), WellAt S n → (∀ x ∈ ns, isH (.int x) = true) → ns.length + 4 * ds.length ≤ 40 →
    ∃ (ns' : List Int) (S' : List Cell) (t2 t3 t4 : Sl), forL (.nm 2) rowBody ds [.val (.cell n), .val (.lst (ns.map D.int)), s2, s3, s4] S = .nx [.val (.cell n), .val (.lst (ns'.map D.int)), t2, t3, t4] S' ∧ (∀ x ∈ ns', isH (.int x) = true) ∧ ns'.length ≤ 40 ∧ WellAt S' n ∧ S'.length = S.length
  | [], S, ns, s2, s3, s4, w, h, hl => ⟨ns, S, s2, s3, s4, rfl, h, by simpa using hl, w, rfl⟩
  | d :: ds, S, ns, s2, s3, s4, w, h, hl => by
    rw [List.length_cons] at hl
    obtain ⟨n1, S1, t3, t4, e1, h1, l1, w1, q1⟩ := row_step w ns d s2 s3 s4 h (by omega)
    obtain ⟨n2, S2, u2, u3, u4, e2, h2, l2, w2, q2⟩ := row_loop ds S1 n1 (.val d) t3 t4 w1 h1 (by omega)
    refine ⟨n2, S2, u2, u3, u4, ?_, h2, l2, w2, by rw [q2, q1]⟩
    rw [forL_cons]
    simp only [bindP_nm]
    show (match rowBody [.val (.cell n), .val (.lst (ns.map D.int)), .val d, s3, s4] S with | .nx e S' => forL (.nm 2) rowBody ds e S' | .ct e S' => forL (.nm 2) rowBody ds e S' | .bk e S' => .nx e S' | r => r) = _
    rw [e1]
    exact e2
theorem row_ok {S : List Cell} {n : Nat} (w : WellAt S n) : ∃ (ns : List Int) (S' : List Cell), f_l_tall_row [.cell n] S = .ok (.tup (ns.map D.int)) S' ∧ (∀ x ∈ ns, isH (.int x) = true) ∧ ns.length ≤ 40 ∧ WellAt S' n ∧ S'.length = S.length := by
  obtain ⟨a, S1, e1, a0, a1, w1, l1⟩ := draw_ok (many := 11) w (by decide) (by decide)
  have hr : range1D [.int a] S1 = .ok ((List.range a.toNat).map fun i => D.int (i : Nat)) S1 := by
    show (if smallI a then _ else _) = _
    rw [if_pos (by unfold smallI; exact decide_eq_true (by omega))]
  obtain ⟨ns, S2, t2, t3, t4, e2, h2, l2, w2, q2⟩ := row_loop ((List.range a.toNat).map fun i => D.int (i : Nat)) S1 [] .un .un .un w1 (by simp) (by simp; omega)
  refine ⟨ns, S2, ?_, h2, l2, w2, by rw [q2, l1]⟩
  have tp : tupleD [.lst (ns.map D.int)] S2 = some (.tup (ns.map D.int)) := rfl
  simp at e2
  simp [f_l_tall_row, mDef_ap, startE_ap, m_l_tall_row, e1, hr, e2, tp]
/-! ### what is caught -/
theorem caught_ex {d f : D} {S : List Cell} (h : f_p_changes [d] S = .ex "InvalidHeights" ["index"] [f] S) : f_l_caught [d] S = .ok (.lst [.str "heights", f, .bl true, .bl false]) S := by
  have i1 : ∀ S, isAD tabT [.exc "InvalidHeights" ["index"] [f], .cls "InvalidPlaces"] S = some (.bl false) := fun S => rfl
  have i2 : ∀ S, isAD tabT [.exc "InvalidHeights" ["index"] [f], .cls "InvalidAmounts"] S = some (.bl false) := fun S => rfl
  have i3 : ∀ S, isAD tabT [.exc "InvalidHeights" ["index"] [f], .cls "InvalidOffers"] S = some (.bl false) := fun S => rfl
  have i4 : ∀ S, isAD tabT [.exc "InvalidHeights" ["index"] [f], .cls "NotRight"] S = some (.bl true) := fun S => rfl
  have x1 : ∀ S, xfD xfT "index" (.exc "InvalidHeights" ["index"] [f]) S = some f := fun S => rfl
  have c1 : catches (subOf subT) "InvalidHeights" ["InvalidHeights"] = some true := rfl
  simp [f_l_caught, mDef_ap, startE_ap, m_l_caught, mTry, h, runH, c1, suiteOut, i1, i2, i3, i4, x1]
theorem caught_ok {d v : D} {S : List Cell} (h : f_p_changes [d] S = .ok v S) : f_l_caught [d] S = .ok (.lst [.str "told", v]) S := by
  simp [f_l_caught, mDef_ap, startE_ap, m_l_caught, mTry, h]

/-! ### slices -/
theorem cut_to (xs : List D) {k : Int} (h : 0 ≤ k) : DL.cutD xs none (some k) = xs.take k.toNat := by
  obtain ⟨m, rfl⟩ := Int.eq_ofNat_of_zero_le h
  unfold DL.cutD
  rw [HT.sIx_none, HT.sIx_nat, List.drop_zero, Nat.sub_zero, Int.toNat_natCast]
  rw [List.take_eq_take_iff]
  omega
theorem cut_from (xs : List D) {k : Int} (h : 0 ≤ k) : DL.cutD xs (some k) none = xs.drop k.toNat := by
  obtain ⟨m, rfl⟩ := Int.eq_ofNat_of_zero_le h
  unfold DL.cutD
  rw [HT.sIx_none, HT.sIx_nat, Int.toNat_natCast]
  by_cases hm : m ≤ xs.length
  · rw [Nat.min_eq_left hm]
    exact List.take_of_length_le (by simp)
  · rw [Nat.min_eq_right (by omega), List.drop_of_length_le (Nat.le_refl _), List.drop_of_length_le (by omega)]
    simp
theorem slice_to (xs : List D) {k : Int} (h : 0 ≤ k) : sliceD (.tup xs) none (some k) = some (.tup (xs.take k.toNat)) := by
  show some (D.tup (DL.cutD _ _ _)) = _
  rw [cut_to xs h]
theorem slice_from (xs : List D) {k : Int} (h : 0 ≤ k) : sliceD (.tup xs) (some k) none = some (.tup (xs.drop k.toNat)) := by
  show some (D.tup (DL.cutD _ _ _)) = _
  rw [cut_from xs h]
theorem add_tup (xs ys : List D) (S : List Cell) (h : xs.length + ys.length ≤ 100000) : addD (.tup xs) (.tup ys) S = some (.tup (xs ++ ys)) := by
  show (if _ = true then _ else _) = _
  rw [if_pos (by unfold okLen; exact decide_eq_true h)]
/-! ### texts -/
theorem rep2 (m : Nat) (h : m < 64) (S : List Cell) : reprD [.lst [.int (m : Nat), .int (m : Nat)]] S = some (.str (PyData.shown (.list [.int (m : Nat), .int (m : Nat)]))) := by
  have k : ∀ j : Fin 64, okShow (.list [.int (j.val : Nat), .int (j.val : Nat)]) = true := by decide +kernel
  show (if okShow (.list [.int (m : Nat), .int (m : Nat)]) = true then _ else _) = _
  rw [if_pos (k ⟨m, h⟩)]
theorem repH (m : Nat) (h : m < 64) (S : List Cell) : reprD [.lst [.str "heights", .int (m : Nat), .bl true, .bl false]] S = some (.str (PyData.shown (.list [.str "heights", .int (m : Nat), .bool true, .bool false]))) := by
  have k : ∀ j : Fin 64, okShow (.list [.str "heights", .int (j.val : Nat), .bool true, .bool false]) = true := by decide +kernel
  show (if okShow (.list [.str "heights", .int (m : Nat), .bool true, .bool false]) = true then _ else _) = _
  rw [if_pos (k ⟨m, h⟩)]
theorem repN (S : List Cell) : reprD [.lst [.str "heights", .non, .bl true, .bl false]] S = some (.str (PyData.shown (.list [.str "heights", .none, .bool true, .bool false]))) := by
  have k : okShow (.list [.str "heights", .none, .bool true, .bool false]) = true := by decide +kernel
  show (if okShow (.list [.str "heights", .none, .bool true, .bool false]) = true then _ else _) = _
  rw [if_pos k]
theorem repT (m : Nat) (h : m < 64) (S : List Cell) : reprD [.lst [.str "told", .int (m : Nat)]] S = some (.str (PyData.shown (.list [.str "told", .int (m : Nat)]))) := by
  have k : ∀ j : Fin 64, okShow (.list [.str "told", .int (j.val : Nat)]) = true := by decide +kernel
  show (if okShow (.list [.str "told", .int (m : Nat)]) = true then _ else _) = _
  rw [if_pos (k ⟨m, h⟩)]
theorem flips_le : ∀ ns : List Int, flips ns ≤ ns.length
  | [] => Nat.le_refl _
  | [x] => Nat.zero_le _
  | x :: y :: r => by
    have := flips_le (y :: r)
    rw [flips_cons, List.length_cons]
    split <;> omega
theorem bad_at : ∀ (xs : List D) (d : D) (ys : List D), (∀ x ∈ xs, isH x = true) → isH d = false → firstBad (xs ++ d :: ys) = some xs.length
  | [], d, ys, _, h => by
    rw [List.nil_append, firstBad, h]
    simp
  | x :: r, d, ys, hx, h => by
    rw [List.cons_append, firstBad, if_pos (hx x (by simp)), bad_at r d ys (fun y hy => hx y (by simp [hy])) h]
    rfl

/-! ### one turn -/
abbrev rightBody : Sm := (mSeq (mSet 2 (mFn 1 f_l_tall_row (mCons (mVar 0) mNil)))
  (mSeq (mSet 3 (mFn 1 f_l_due (mCons (mVar 2) mNil)))
  (mSeq (mIfS (mB (mOp neD (mCall reprD (mCons (mFr (mLst (mCons (mFn 1 f_p_changes (mCons (mVar 2) mNil)) (mCons (mFnK 1 0 1 [0] f_p_changes mNil (mCons (mVar 2) mNil)) mNil)))) mNil)) (mCall reprD (mCons (mFr (mLst (mCons (mVar 3) (mCons (mVar 3) mNil)))) mNil)))) (mRet (mC (.bl false))) mSkip)
  (mSeq (mSet 4 (mFn 2 f_l_one (mCons (mVar 0) (mCons (mFr (mLst (mCons (mC (.bl true)) (mCons (mC .non) (mCons (mOp addD (mOp powD (mC (.int 10)) (mC (.int 20))) (mC (.int 1))) (mCons (mOp subD (mUn negD (mOp powD (mC (.int 10)) (mC (.int 20)))) (mC (.int 1))) (mCons (mC (.str "1")) (mCons (mTup (mCons (mC (.int 1)) mNil)) (mCons (mFr (mLst (mCons (mC (.int 1)) mNil))) (mCons (mC (.dct [] [])) (mCons (mC (.bl false)) (mCons (mC (.str "")) mNil)))))))))))) mNil))))
  (mSeq (mSet 5 (mFn 2 f_l_draw (mCons (mVar 0) (mCons (mOp addD (mCall lenD (mCons (mVar 2) mNil)) (mC (.int 1))) mNil))))
  (mSeq (mSet 6 (mOp addD (mOp addD (mSlice sliceD (mVar 2) mNoPart (mPart (mVar 5))) (mTup (mCons (mVar 4) mNil))) (mFn 2 f_l_one (mCons (mVar 0) (mCons (mFr (mLst (mCons (mSlice sliceD (mVar 2) (mPart (mVar 5)) mNoPart) (mCons (mSlice sliceD (mVar 2) (mPart (mOp addD (mVar 5) (mC (.int 1)))) mNoPart) (mCons (mOp addD (mTup (mCons (mC .non) mNil)) (mSlice sliceD (mVar 2) (mPart (mVar 5)) mNoPart)) mNil))))) mNil)))))
  (mSeq (mIfS (mB (mOp neD (mCall reprD (mCons (mFn 1 f_l_caught (mCons (mVar 6) mNil)) mNil)) (mCall reprD (mCons (mFr (mLst (mCons (mC (.str "heights")) (mCons (mVar 5) (mCons (mC (.bl true)) (mCons (mC (.bl false)) mNil)))))) mNil)))) (mRet (mC (.bl false))) mSkip)
  (mSeq (mSet 7 (mFn 2 f_l_one (mCons (mVar 0) (mCons (mFr (mLst (mCons (mC .non) (mCons (mCall listD (mCons (mVar 2) mNil)) (mCons (mC (.dct [] [])) (mCons (mC (.int 0)) (mCons (mC (.str "")) (mCons (mC (.str "1")) (mCons (mC (.bl true)) mNil))))))))) mNil))))
  (mSeq (mIfS (mB (mOp neD (mCall reprD (mCons (mFn 1 f_l_caught (mCons (mVar 7) mNil)) mNil)) (mCall reprD (mCons (mFr (mLst (mCons (mC (.str "heights")) (mCons (mC .non) (mCons (mC (.bl true)) (mCons (mC (.bl false)) mNil)))))) mNil)))) (mRet (mC (.bl false))) mSkip)
  (mIfS (mB (mOp neD (mCall reprD (mCons (mFn 1 f_l_caught (mCons (mVar 2) mNil)) mNil)) (mCall reprD (mCons (mFr (mLst (mCons (mC (.str "told")) (mCons (mVar 3) mNil)))) mNil)))) (mRet (mC (.bl false))) mSkip))))))))))
theorem odd_plain {d : D} (h : d ∈ ([.bl true, .non, .int 100000000000000000001, .int (-100000000000000000001), .str "1", .tup [.int 1], .lst [.int 1], .dct [] [], .bl false, .str ""] : List D)) : isH d = false ∧ ∃ a, tyName d = some a := by
  simp only [List.mem_cons, List.not_mem_nil, or_false] at h
  rcases h with h | h | h | h | h | h | h | h | h | h <;> subst h <;> exact ⟨rfl, _, rfl⟩
theorem right_step {S : List Cell} {n : Nat} (w : WellAt S n) (s1 s2 s3 s4 s5 s6 s7 : Sl) :
    ∃ (t2 t3 t4 t5 t6 t7 : Sl) (S' : List Cell), rightBody [.val (.cell n), s1, s2, s3, s4, s5, s6, s7] S = .nx [.val (.cell n), s1, t2, t3, t4, t5, t6, t7] S' ∧ WellAt S' n ∧ S'.length = S.length := by
  obtain ⟨ns, S1, e1, h1, l1, w1, q1⟩ := row_ok w
  have hb : ∀ x ∈ ns, big x := fun x hx => isH_big (h1 x hx)
  have d1 : ∀ S, f_l_due [.tup (ns.map D.int)] S = .ok (.int (flips (nz ns) : Nat)) S := fun S => due_ok S hb
  have c1 : ∀ S, f_p_changes [.tup (ns.map D.int)] S = .ok (.int (flips (nz ns) : Nat)) S := fun S => ch_good S h1 (by omega)
  have hf : flips (nz ns) < 64 := by
    have a := flips_le (nz ns)
    have b : (nz ns).length ≤ ns.length := List.length_filter_le _ _
    omega
  have r1 := rep2 (flips (nz ns)) hf
  obtain ⟨odd, S2, e2, ho, w2, q2⟩ := one_ok (xs := [.bl true, .non, .int 100000000000000000001, .int (-100000000000000000001), .str "1", .tup [.int 1], .lst [.int 1], .dct [] [], .bl false, .str ""]) w1 (by simp) (by simp)
  obtain ⟨ob, a0, oa⟩ := odd_plain ho
  obtain ⟨k, S3, e3, k0, k1, w3, q3⟩ := draw_ok (many := (ns.length : Nat) + 1) w2 (by omega) (by omega)
  have hk : k.toNat ≤ ns.length := by omega
  obtain ⟨rest, S4, e4, hr, w4, q4⟩ := one_ok (xs := [.tup ((ns.map D.int).drop k.toNat), .tup ((ns.map D.int).drop (k + 1).toNat), .tup (.non :: (ns.map D.int).drop k.toNat)]) w3 (by simp) (by simp)
  obtain ⟨rs, rfl, hp, hrl⟩ : ∃ rs : List D, rest = .tup rs ∧ plainD rs ∧ rs.length ≤ 41 := by
    have pd : ∀ j, plainD ((ns.map D.int).drop j) := fun j d hd => by
      obtain ⟨z, _, rfl⟩ := List.mem_map.mp (List.mem_of_mem_drop hd)
      exact ⟨_, rfl⟩
    simp only [List.mem_cons, List.not_mem_nil, or_false] at hr
    rcases hr with h | h | h <;> subst h
    · exact ⟨_, rfl, pd _, by simp; omega⟩
    · exact ⟨_, rfl, pd _, by simp; omega⟩
    · refine ⟨_, rfl, fun d hd => ?_, by simp; omega⟩
      rcases List.mem_cons.mp hd with h | h
      · subst h; exact ⟨_, rfl⟩
      · exact pd _ d h
  have good : ∀ x ∈ (ns.map D.int).take k.toNat, isH x = true := fun x hx => by
    obtain ⟨z, hz, rfl⟩ := List.mem_map.mp (List.mem_of_mem_take hx)
    exact h1 z hz
  have fb := bad_at ((ns.map D.int).take k.toNat) odd rs good ob
  have hlen : ((ns.map D.int).take k.toNat).length = k.toNat := by simp; omega
  rw [hlen] at fb
  have pl : plainD ((ns.map D.int).take k.toNat ++ odd :: rs) := fun d hd => by
    rcases List.mem_append.mp hd with h | h
    · obtain ⟨z, _, rfl⟩ := List.mem_map.mp (List.mem_of_mem_take h)
      exact ⟨_, rfl⟩
    · rcases List.mem_cons.mp h with h | h
      · subst h; exact ⟨a0, oa⟩
      · exact hp d h
  have c2 : f_l_caught [.tup ((ns.map D.int).take k.toNat ++ odd :: rs)] S4 = .ok (.lst [.str "heights", .int (k.toNat : Nat), .bl true, .bl false]) S4 := caught_ex (ch_bad S4 pl fb)
  have kk : ((k.toNat : Nat) : Int) = k := Int.toNat_of_nonneg k0
  have rk := repH k.toNat (by omega)
  rw [kk] at c2 rk
  obtain ⟨oth, S5, e5, h5, w5, q5⟩ := one_ok (xs := [.non, .lst (ns.map D.int), .dct [] [], .int 0, .str "", .str "1", .bl true]) w4 (by simp) (by simp)
  have c3 : f_l_caught [oth] S5 = .ok (.lst [.str "heights", .non, .bl true, .bl false]) S5 := by
    simp only [List.mem_cons, List.not_mem_nil, or_false] at h5
    rcases h5 with h | h | h | h | h | h | h <;> subst h <;> exact caught_ex (ch_notup S5 rfl (by decide))
  have c4 : f_l_caught [.tup (ns.map D.int)] S5 = .ok (.lst [.str "told", .int (flips (nz ns) : Nat)]) S5 := caught_ok (c1 S5)
  have r4 := repT (flips (nz ns)) hf
  have ln : ∀ S, lenD [.tup (ns.map D.int)] S = some (.int (ns.length : Nat)) := fun S => by
    show some (D.int ((ns.map D.int).length : Nat)) = _
    rw [List.length_map]
  have s1' := slice_to (ns.map D.int) k0
  have s2' := slice_from (ns.map D.int) k0
  have s3' := slice_from (ns.map D.int) (k := k + 1) (by omega)
  have a1 : ∀ S, addD (.tup ((ns.map D.int).take k.toNat)) (.tup [odd]) S = some (.tup ((ns.map D.int).take k.toNat ++ [odd])) := fun S => add_tup _ _ S (by rw [hlen]; simp; omega)
  have a2 : ∀ S, addD (.tup ((ns.map D.int).take k.toNat ++ [odd])) (.tup rs) S = some (.tup ((ns.map D.int).take k.toNat ++ odd :: rs)) := fun S => by
    rw [add_tup _ _ S (by rw [List.length_append, hlen]; simp; omega)]
    simp
  have a3 : ∀ S, addD (.tup [.non]) (.tup ((ns.map D.int).drop k.toNat)) S = some (.tup (.non :: (ns.map D.int).drop k.toNat)) := fun S => by
    rw [add_tup _ _ S (by simp; omega)]
    rfl
  have li : ∀ S, listD [.tup (ns.map D.int)] S = some (.lst (ns.map D.int)) := fun S => rfl
  refine ⟨.val (.tup (ns.map D.int)), .val (.int (flips (nz ns) : Nat)), .val odd, .val (.int k), .val (.tup ((ns.map D.int).take k.toNat ++ odd :: rs)), .val oth, S5, ?_, w5, by rw [q5, q4, q3, q2, q1]⟩
  generalize ns.map D.int = xs at *
  simp [e1, d1, c1, r1, ne_same, ten20, e2, ln, e3, s1', s2', s3', a1, a3, e4, a2, c2, rk, li, e5, c3, repN, c4, r4, pickL]

/-! ### wells -/
abbrev wellBody : Sm := mSet 3 (mOp modD (mCall toIntD (mCons (mOp addD (mOp addD (mOp mulD (mVar 3) (mC (.int 40829))) (mOp modD (mCall toIntD (mCons (mVar 4) mNil)) (mC (.int 2147483423)))) (mC (.int 41))) mNil)) (mC (.int 2147483423)))
theorem toInt_int (i : Int) (S : List Cell) : toIntD [.int i] S = some (.int i) := rfl
theorem well_loop (a b c : Sl) (S : List Cell) : ∀ (ns : List Int) (m : Int) (s4 : Sl), m.natAbs < 2 ^ 50 →
    ∃ (m' : Int) (t4 : Sl), forL (.nm 4) wellBody (ns.map D.int) [a, b, c, .val (.int m), s4] S = .nx [a, b, c, .val (.int m'), t4] S ∧ (ns ≠ [] → 0 ≤ m' ∧ m' < 2147483423)
  | [], m, s4, _ => ⟨m, s4, rfl, fun h => absurd rfl h⟩
  | n :: r, m, s4, hm => by
    have st : wellBody [a, b, c, .val (.int m), .val (.int n)] S = .nx [a, b, c, .val (.int ((m * 40829 + n % 2147483423 + 41) % 2147483423)), .val (.int n)] S := by
      have hmul : mulD (.int m) (.int 40829) S = some (.int (m * 40829)) := mul60 (by omega) (by decide)
      simp [hmul, toInt_int, modD_int]
    have lo : 0 ≤ (m * 40829 + n % 2147483423 + 41) % 2147483423 := Int.emod_nonneg _ (by decide)
    have hi : (m * 40829 + n % 2147483423 + 41) % 2147483423 < 2147483423 := Int.emod_lt_of_pos _ (by decide)
    obtain ⟨m', t4, e, q⟩ := well_loop a b c S r _ (.val (.int n)) (show ((m * 40829 + n % 2147483423 + 41) % 2147483423).natAbs < 2 ^ 50 by omega)
    refine ⟨m', t4, ?_, fun _ => ?_⟩
    · rw [List.map_cons, forL_cons]
      simp only [bindP_nm]
      show (match wellBody [a, b, c, .val (.int m), .val (.int n)] S with | .nx e S' => forL (.nm 4) wellBody (r.map D.int) e S' | .ct e S' => forL (.nm 4) wellBody (r.map D.int) e S' | .bk e S' => .nx e S' | r => r) = _
      rw [st]
      exact e
    · cases r with
      | nil =>
        have e' : Fl.nx [a, b, c, .val (.int ((m * 40829 + n % 2147483423 + 41) % 2147483423)), .val (.int n)] S = Fl.nx [a, b, c, .val (.int m'), t4] S := e
        injection e' with e1 e2
        injection e1 with _ e1
        injection e1 with _ e1
        injection e1 with _ e1
        injection e1 with e1 _
        injection e1 with e1
        injection e1 with e1
        rw [← e1]
        exact ⟨lo, hi⟩
      | cons x r => exact q (by simp)
theorem well_ok (ns : List Int) (hl : ns.length ≤ 63) (S : List Cell) (t : Nat) (ht : t < 100) : ∃ S', f_l_well [scriptD ns, .int (t : Nat)] S = .ok (.cell S.length) S' ∧ WellAt S' S.length ∧ S'.length = S.length + 1 := by
  have ln : ∀ S, lenD [.ro (ns.map D.int)] S = some (.int (ns.length : Nat)) := fun S => by
    show some (D.int ((ns.map D.int).length : Nat)) = _
    rw [List.length_map]
  have sl : sliceD (.ro (ns.map D.int)) none (some 5) = some (.lst ((ns.take 5).map D.int)) := by
    show some (D.lst (DL.cutD _ _ _)) = _
    rw [cut_to _ (by decide), List.map_take]
    rfl
  have e18 : ∀ S, powD (.int 10) (.int 18) S = some (.int 1000000000000000000) := fun S => by rw [powD_int (by decide)]; rfl
  have ab : ∀ (i : Int) S, absD [.int i] S = some (.int (if i < 0 then -i else i)) := fun _ _ => rfl
  -- the cell
  obtain ⟨c, hc⟩ : ∃ c : Int, (mIf (mB (mOp ltD (mVar 1) (mCall lenD (mCons (mVar 0) mNil)))) (mCall toIntD (mCons (mOp ixD (mVar 0) (mVar 1)) mNil)) (mOp mulD (mC (.int 71011)) (mOp addD (mVar 1) (mC (.int 2))))) [.val (.ro (ns.map D.int)), .val (.int (t : Nat)), .un, .un, .un] S = .ok (.int c) S := by
    by_cases h : t < ns.length
    · have ix : ixD (.ro (ns.map D.int)) (.int (t : Nat)) S = some (.int ns[t]) := by
        show atI (ns.map D.int) (t : Nat) = _
        unfold atI ixN
        rw [if_pos (by omega), if_pos (by rw [List.length_map]; omega), Option.bind_some]
        simp [h]
      have h' : (t : Int) < (ns.length : Int) := by omega
      exact ⟨ns[t], by simp [ln, h', ix, toInt_int, h]⟩
    · have h' : ¬ (t : Int) < (ns.length : Int) := by omega
      have hm : mulD (.int 71011) (.int ((t : Int) + 2)) S = some (.int (71011 * ((t : Int) + 2))) := mul60 (by decide) (by omega)
      exact ⟨_, by simp [ln, h', hm, h]; rfl⟩
  have hm0 : mulD (.int 7019) (.int (t : Nat)) S = some (.int (7019 * (t : Nat))) := mul60 (by decide) (by omega)
  obtain ⟨m', t4, lp, hb⟩ := well_loop (.val (.ro (ns.map D.int))) (.val (.int (t : Nat))) (.val (.int c)) S (ns.take 5 ++ [c]) (52027 + 7019 * (t : Nat)) .un (by omega)
  obtain ⟨b0, b1⟩ := hb (by simp)
  have aa : addD (.lst ((ns.take 5).map D.int)) (.lst [.int c]) S = some (.lst ((ns.take 5 ++ [c]).map D.int)) := by
    rw [List.map_append]
    show (if _ = true then _ else _) = _
    rw [if_pos]
    · rfl
    · unfold okLen
      simp
      omega
  obtain ⟨a, ha, a0⟩ : ∃ a : Int, (mIf (mOr (mB (mOp ltD (mVar 2) (mC (.int 0)))) (mB (mOp geD (mVar 2) (mOp powD (mC (.int 10)) (mC (.int 18)))))) (mCall absD (mCons (mVar 2) mNil)) (mC (.int 0))) [.val (.ro (ns.map D.int)), .val (.int (t : Nat)), .val (.int c), .val (.int m'), t4] S = .ok (.int a) S ∧ 0 ≤ a := by
    by_cases h1 : c < 0
    · exact ⟨-c, by simp [h1, ab], by omega⟩
    · by_cases h2 : 1000000000000000000 ≤ c
      · exact ⟨c, by simp [h1, h2, ab, e18], by omega⟩
      · exact ⟨0, by simp [h1, h2, e18], by omega⟩
  refine ⟨S ++ [.lst [.int a, .int m']], ?_, ⟨a, m', by simp, a0, b0, b1⟩, by simp⟩
  have st1 : mSet 2 (mIf (mB (mOp ltD (mVar 1) (mCall lenD (mCons (mVar 0) mNil)))) (mCall toIntD (mCons (mOp ixD (mVar 0) (mVar 1)) mNil)) (mOp mulD (mC (.int 71011)) (mOp addD (mVar 1) (mC (.int 2))))) [.val (.ro (ns.map D.int)), .val (.int (t : Nat)), .un, .un, .un] S = .nx [.val (.ro (ns.map D.int)), .val (.int (t : Nat)), .val (.int c), .un, .un] S := by
    rw [mSet_ap, hc]
    rfl
  have st2 : mSet 3 (mOp addD (mC (.int 52027)) (mOp mulD (mC (.int 7019)) (mVar 1))) [.val (.ro (ns.map D.int)), .val (.int (t : Nat)), .val (.int c), .un, .un] S = .nx [.val (.ro (ns.map D.int)), .val (.int (t : Nat)), .val (.int c), .val (.int (52027 + 7019 * (t : Nat))), .un] S := by
    simp [hm0]
  have st3 : mFor (mItems (mOp addD (mSlice sliceD (mVar 0) mNoPart (mPart (mC (.int 5)))) (mFr (mLst (mCons (mVar 2) mNil))))) (.nm 4) wellBody [.val (.ro (ns.map D.int)), .val (.int (t : Nat)), .val (.int c), .val (.int (52027 + 7019 * (t : Nat))), .un] S = .nx [.val (.ro (ns.map D.int)), .val (.int (t : Nat)), .val (.int c), .val (.int m'), t4] S := by
    have sl' := sl
    have aa' := aa
    have lp' := lp
    generalize ns.map D.int = xs at *
    generalize (ns.take 5).map D.int = ys at *
    generalize (ns.take 5 ++ [c]).map D.int = zs at *
    simp [sl', aa', lp']
  have all : m_l_well [.val (.ro (ns.map D.int)), .val (.int (t : Nat)), .un, .un, .un] S = .rt (.cell S.length) (S ++ [.lst [.int a, .int m']]) := by
    refine (mSeq_nx st1).trans ((mSeq_nx st2).trans ((mSeq_nx st3).trans ?_))
    rw [mRet_ap, mCell_ap, mLst_ap, mCons_ap, ha]
    simp
  show mDef 5 m_l_well [.ro (ns.map D.int), .int (t : Nat)] S = _
  rw [mDef_ap]
  have se : startE 5 [.ro (ns.map D.int), .int (t : Nat)] = [.val (.ro (ns.map D.int)), .val (.int (t : Nat)), .un, .un, .un] := rfl
  rw [se, all]
/-! ### the law -/
theorem right_loop {n : Nat} : ∀ (ds : List D) (S : List Cell) (s1 s2 s3 s4 s5 s6 s7 : Sl), WellAt S n →
    ∃ (e : List Sl) (S' : List Cell), forL (.nm 1) rightBody ds [.val (.cell n), s1, s2, s3, s4, s5, s6, s7] S = .nx e S' ∧ S'.length = S.length
  | [], S, s1, s2, s3, s4, s5, s6, s7, w => ⟨_, S, rfl, rfl⟩
  | d :: ds, S, s1, s2, s3, s4, s5, s6, s7, w => by
    obtain ⟨t2, t3, t4, t5, t6, t7, S1, e1, w1, q1⟩ := right_step w (.val d) s2 s3 s4 s5 s6 s7
    obtain ⟨e, S2, e2, q2⟩ := right_loop ds S1 (.val d) t2 t3 t4 t5 t6 t7 w1
    refine ⟨e, S2, ?_, by rw [q2, q1]⟩
    rw [forL_cons]
    simp only [bindP_nm]
    show (match rightBody [.val (.cell n), .val d, s2, s3, s4, s5, s6, s7] S with | .nx e S' => forL (.nm 1) rightBody ds e S' | .ct e S' => forL (.nm 1) rightBody ds e S' | .bk e S' => .nx e S' | r => r) = _
    rw [e1]
    exact e2
theorem right_ok {S : List Cell} {n : Nat} (w : WellAt S n) : ∃ S', f_l_right [.cell n] S = .ok (.bl true) S' ∧ S'.length = S.length := by
  have hr : range1D [.int 4] S = .ok ((List.range 4).map fun i => D.int (i : Nat)) S := rfl
  obtain ⟨e, S1, h, q⟩ := right_loop ((List.range 4).map fun i => D.int (i : Nat)) S .un .un .un .un .un .un .un w
  refine ⟨S1, ?_, q⟩
  have st : mFor (mRange1 (mCons (mC (.int 4)) mNil)) (.nm 1) rightBody [.val (.cell n), .un, .un, .un, .un, .un, .un, .un] S = .nx e S1 := by
    rw [mFor_ap, mRange1_ap]
    have : (mCons (mC (.int 4)) mNil) [.val (.cell n), .un, .un, .un, .un, .un, .un, .un] S = .ok [.int 4] S := by simp
    rw [this, andThen_ok, hr, go_ok]
    exact h
  have all : m_l_right [.val (.cell n), .un, .un, .un, .un, .un, .un, .un] S = .rt (.bl true) S1 := (mSeq_nx st).trans (by simp)
  show mDef 8 m_l_right [.cell n] S = _
  rw [mDef_ap]
  have se : startE 8 [.cell n] = [.val (.cell n), .un, .un, .un, .un, .un, .un, .un] := rfl
  rw [se, all]
theorem law_true (ns : List Int) (h : ns.length ≤ 63) : ∃ S', f_p_law [scriptD ns] [] = .ok (.bl true) S' := by
  have ln : lenD [scriptD ns] [] = some (.int (ns.length : Nat)) := by
    show some (D.int ((ns.map D.int).length : Nat)) = _
    rw [List.length_map]
  have mn : minD [.int (ns.length : Nat), .int 6] [] = some (.int (if (6 : Int) < (ns.length : Nat) then 6 else (ns.length : Nat))) := rfl
  have mx : ∀ j, maxD [.int 2, .int j] [] = some (.int (if j > 2 then j else 2)) := fun _ => rfl
  obtain ⟨k, hk, hm⟩ : ∃ k : Nat, k ≤ 6 ∧ (if (if (6 : Int) < (ns.length : Nat) then (6 : Int) else (ns.length : Nat)) > 2 then (if (6 : Int) < (ns.length : Nat) then (6 : Int) else (ns.length : Nat)) else 2) = (k : Int) := by
    by_cases a : (6 : Int) < (ns.length : Nat)
    · exact ⟨6, by omega, by simp [a]⟩
    · by_cases b : ((ns.length : Nat) : Int) > 2
      · exact ⟨ns.length, by omega, by simp [a, b]⟩
      · exact ⟨2, by omega, by simp [a, b]⟩
  have rg : range1D [.int (k : Nat)] [] = .ok ((List.range k).map fun i => D.int (i : Nat)) [] := by
    show (if smallI (k : Nat) then Rs.ok ((List.range ((k : Nat) : Int).toNat).map fun i => D.int (i : Nat)) [] else .bad) = _
    rw [if_pos (by unfold smallI; exact decide_eq_true (by omega)), Int.toNat_natCast]
  obtain ⟨xs, S', e, hl, hx, _⟩ := compL_all (vs := [1]) (p := .nm 1) (cond := mYes) (elt := mFn 1 f_l_right (mCons (mFn 2 f_l_well (mCons (mVar 0) (mCons (mVar 1) mNil))) mNil)) (env := [.val (scriptD ns), .un]) (fun _ _ => True) (fun _ d => d = .bl true)
    ((List.range k).map fun i => D.int (i : Nat)) 0 [] True.intro (fun j d S hd _ => by
      rw [List.getElem?_map] at hd
      by_cases hj : j < k
      · rw [List.getElem?_range hj] at hd
        cases hd
        obtain ⟨S1, e1, w1, _⟩ := well_ok ns h S j (by omega)
        obtain ⟨S2, e2, _⟩ := right_ok w1
        exact ⟨_, rfl, rfl, .bl true, S2, by simp [e1, e2], rfl, True.intro⟩
      · rw [List.getElem?_eq_none (by simpa using hj)] at hd
        cases hd)
  have hall : ∀ xs : List D, (∀ (j : Nat) x, xs[j]? = some x → x = .bl true) → ∃ bs : List Bool, xs = bs.map D.bl ∧ bs.all id = true := by
    intro xs
    induction xs with
    | nil => intro _; exact ⟨[], rfl, rfl⟩
    | cons x r ih =>
      intro hh
      obtain ⟨bs, e1, e2⟩ := ih fun j y hy => hh (j + 1) y (by simpa using hy)
      have := hh 0 x rfl
      subst this
      exact ⟨true :: bs, by rw [e1]; rfl, by simpa using e2⟩
  obtain ⟨bs, rfl, hb⟩ := hall xs hx
  have al : allD [.lst (bs.map D.bl)] S' = some (.bl true) := by
    show (boolsOf (bs.map D.bl)).map _ = _
    rw [boolsOf_map, ← hb]
    rfl
  refine ⟨S', ?_⟩
  show mDef 2 m_p_law [scriptD ns] [] = _
  rw [mDef_ap]
  have se : startE 2 [scriptD ns] = [.val (scriptD ns), .un] := rfl
  rw [se]
  have e' : compL [1] (.nm 1) mYes (mFn 1 f_l_right (mCons (mFn 2 f_l_well (mCons (mVar 0) (mCons (mVar 1) mNil))) mNil)) ((List.range k).map fun i => D.int (i : Nat)) [.val (scriptD ns), .un] [] = .ok (bs.map D.bl) S' := e
  have kl : ((List.range k).map fun i => D.int (i : Nat)).length ≤ 100000 := by simp; omega
  have ra : (mRange1 (mCons (mCall maxD (mCons (mC (.int 2)) (mCons (mCall minD (mCons (mCall lenD (mCons (mVar 0) mNil)) (mCons (mC (.int 6)) mNil))) mNil))) mNil)) [.val (scriptD ns), .un] [] = .ok ((List.range k).map fun i => D.int (i : Nat)) [] := by
    simp [ln, mn, mx, hm, rg]
  have all : m_p_law [.val (scriptD ns), .un] [] = .rt (.bl true) S' := by
    unfold m_p_law
    rw [mRet_ap, mCall_ap, mCons_ap, mFr_ap, mComp_ap, ra, andThen_ok, if_pos kl, e']
    simp [al]
  rw [all]
end K67

namespace K67
open PySem PySem.Spec L2 DL
open PyProof.Rows hiding St
theorem all_mk {P : Program} {w : World} {K : PySem.W.Frag} {h : Heap} {mg : Str → Option Value} {fa : Addr} (X : K.In h) (G : h.Ns mainGlobals mg) (hfa : mg "law" = some (.ref fa))
    {ad_l_well : Addr} {oc_l_well kV_l_well dc_l_well pm_l_well cd_l_well ct_l_well : Value} {od_l_well an_l_well : Option Addr} {sl_l_well : Array (Option Value)}
    {ad_p_is_integer : Addr} {oc_p_is_integer kV_p_is_integer dc_p_is_integer pm_p_is_integer cd_p_is_integer ct_p_is_integer : Value} {od_p_is_integer an_p_is_integer : Option Addr} {sl_p_is_integer : Array (Option Value)}
    {ad_p_is_between : Addr} {oc_p_is_between kV_p_is_between dc_p_is_between pm_p_is_between cd_p_is_between ct_p_is_between : Value} {od_p_is_between an_p_is_between : Option Addr} {sl_p_is_between : Array (Option Value)}
    {ad_p_is_height : Addr} {oc_p_is_height kV_p_is_height dc_p_is_height pm_p_is_height cd_p_is_height ct_p_is_height : Value} {od_p_is_height an_p_is_height : Option Addr} {sl_p_is_height : Array (Option Value)}
    {ad_p_changes : Addr} {oc_p_changes kV_p_changes dc_p_changes pm_p_changes cd_p_changes ct_p_changes : Value} {od_p_changes an_p_changes : Option Addr} {sl_p_changes : Array (Option Value)}
    {ad_l_draw : Addr} {oc_l_draw kV_l_draw dc_l_draw pm_l_draw cd_l_draw ct_l_draw : Value} {od_l_draw an_l_draw : Option Addr} {sl_l_draw : Array (Option Value)}
    {ad_l_one : Addr} {oc_l_one kV_l_one dc_l_one pm_l_one cd_l_one ct_l_one : Value} {od_l_one an_l_one : Option Addr} {sl_l_one : Array (Option Value)}
    {ad_l_tall_row : Addr} {oc_l_tall_row kV_l_tall_row dc_l_tall_row pm_l_tall_row cd_l_tall_row ct_l_tall_row : Value} {od_l_tall_row an_l_tall_row : Option Addr} {sl_l_tall_row : Array (Option Value)}
    {ad_l_due : Addr} {oc_l_due kV_l_due dc_l_due pm_l_due cd_l_due ct_l_due : Value} {od_l_due an_l_due : Option Addr} {sl_l_due : Array (Option Value)}
    {ad_l_caught : Addr} {oc_l_caught kV_l_caught dc_l_caught pm_l_caught cd_l_caught ct_l_caught : Value} {od_l_caught an_l_caught : Option Addr} {sl_l_caught : Array (Option Value)}
    {ad_l_right : Addr} {oc_l_right kV_l_right dc_l_right pm_l_right cd_l_right ct_l_right : Value} {od_l_right an_l_right : Option Addr} {sl_l_right : Array (Option Value)}
    {ad_p_law : Addr} {oc_p_law kV_p_law dc_p_law pm_p_law cd_p_law ct_p_law : Value} {od_p_law an_p_law : Option Addr} {sl_p_law : Array (Option Value)}
    {t_MOST_HEIGHT : Tok}
    {C_NotRight : Addr}
    {C_InvalidAmounts : Addr}
    {C_InvalidPlaces : Addr}
    {C_InvalidHeights : Addr}
    {C_InvalidOffers : Addr}
    {fi_InvalidHeights : Addr} {ioc_InvalidHeights ikV_InvalidHeights idc_InvalidHeights ipm_InvalidHeights icd_InvalidHeights ict_InvalidHeights : Value} {iod_InvalidHeights ian_InvalidHeights : Option Addr} {isl_InvalidHeights : Array (Option Value)}
    (a_l_well : PySem.W.nsIn K mainGlobals "_law_well" = some (some (.ref ad_l_well)))
    (l_l_well : K.lookup ad_l_well = some ⟨oc_l_well, od_l_well, .func (PySem.W.fnOf "_law_well" "_law_well" (defArgs s_l_well) (defBody s_l_well) (defScope s_l_well) .none kV_l_well dc_l_well pm_l_well an_l_well cd_l_well ct_l_well), sl_l_well⟩)
    (c_l_well : PySem.W.codeIn K cd_l_well "_law_well" = true)
    (k_l_well : PySem.W.keepIn K (.ref ad_l_well) = true)
    (a_p_is_integer : PySem.W.nsIn K mainGlobals "is_integer" = some (some (.ref ad_p_is_integer)))
    (l_p_is_integer : K.lookup ad_p_is_integer = some ⟨oc_p_is_integer, od_p_is_integer, .func (PySem.W.fnOf "is_integer" "is_integer" (defArgs s_p_is_integer) (defBody s_p_is_integer) (defScope s_p_is_integer) .none kV_p_is_integer dc_p_is_integer pm_p_is_integer an_p_is_integer cd_p_is_integer ct_p_is_integer), sl_p_is_integer⟩)
    (c_p_is_integer : PySem.W.codeIn K cd_p_is_integer "is_integer" = true)
    (k_p_is_integer : PySem.W.keepIn K (.ref ad_p_is_integer) = true)
    (a_p_is_between : PySem.W.nsIn K mainGlobals "is_between" = some (some (.ref ad_p_is_between)))
    (l_p_is_between : K.lookup ad_p_is_between = some ⟨oc_p_is_between, od_p_is_between, .func (PySem.W.fnOf "is_between" "is_between" (defArgs s_p_is_between) (defBody s_p_is_between) (defScope s_p_is_between) .none kV_p_is_between dc_p_is_between pm_p_is_between an_p_is_between cd_p_is_between ct_p_is_between), sl_p_is_between⟩)
    (c_p_is_between : PySem.W.codeIn K cd_p_is_between "is_between" = true)
    (k_p_is_between : PySem.W.keepIn K (.ref ad_p_is_between) = true)
    (a_p_is_height : PySem.W.nsIn K mainGlobals "is_height" = some (some (.ref ad_p_is_height)))
    (l_p_is_height : K.lookup ad_p_is_height = some ⟨oc_p_is_height, od_p_is_height, .func (PySem.W.fnOf "is_height" "is_height" (defArgs s_p_is_height) (defBody s_p_is_height) (defScope s_p_is_height) .none kV_p_is_height dc_p_is_height pm_p_is_height an_p_is_height cd_p_is_height ct_p_is_height), sl_p_is_height⟩)
    (c_p_is_height : PySem.W.codeIn K cd_p_is_height "is_height" = true)
    (k_p_is_height : PySem.W.keepIn K (.ref ad_p_is_height) = true)
    (a_p_changes : PySem.W.nsIn K mainGlobals "changes" = some (some (.ref ad_p_changes)))
    (l_p_changes : K.lookup ad_p_changes = some ⟨oc_p_changes, od_p_changes, .func (PySem.W.fnOf "changes" "changes" (defArgs s_p_changes) (defBody s_p_changes) (defScope s_p_changes) .none kV_p_changes dc_p_changes pm_p_changes an_p_changes cd_p_changes ct_p_changes), sl_p_changes⟩)
    (c_p_changes : PySem.W.codeIn K cd_p_changes "changes" = true)
    (k_p_changes : PySem.W.keepIn K (.ref ad_p_changes) = true)
    (a_l_draw : PySem.W.nsIn K mainGlobals "_law_draw" = some (some (.ref ad_l_draw)))
    (l_l_draw : K.lookup ad_l_draw = some ⟨oc_l_draw, od_l_draw, .func (PySem.W.fnOf "_law_draw" "_law_draw" (defArgs s_l_draw) (defBody s_l_draw) (defScope s_l_draw) .none kV_l_draw dc_l_draw pm_l_draw an_l_draw cd_l_draw ct_l_draw), sl_l_draw⟩)
    (c_l_draw : PySem.W.codeIn K cd_l_draw "_law_draw" = true)
    (k_l_draw : PySem.W.keepIn K (.ref ad_l_draw) = true)
    (a_l_one : PySem.W.nsIn K mainGlobals "_law_one" = some (some (.ref ad_l_one)))
    (l_l_one : K.lookup ad_l_one = some ⟨oc_l_one, od_l_one, .func (PySem.W.fnOf "_law_one" "_law_one" (defArgs s_l_one) (defBody s_l_one) (defScope s_l_one) .none kV_l_one dc_l_one pm_l_one an_l_one cd_l_one ct_l_one), sl_l_one⟩)
    (c_l_one : PySem.W.codeIn K cd_l_one "_law_one" = true)
    (k_l_one : PySem.W.keepIn K (.ref ad_l_one) = true)
    (a_l_tall_row : PySem.W.nsIn K mainGlobals "_law_tall_row" = some (some (.ref ad_l_tall_row)))
    (l_l_tall_row : K.lookup ad_l_tall_row = some ⟨oc_l_tall_row, od_l_tall_row, .func (PySem.W.fnOf "_law_tall_row" "_law_tall_row" (defArgs s_l_tall_row) (defBody s_l_tall_row) (defScope s_l_tall_row) .none kV_l_tall_row dc_l_tall_row pm_l_tall_row an_l_tall_row cd_l_tall_row ct_l_tall_row), sl_l_tall_row⟩)
    (c_l_tall_row : PySem.W.codeIn K cd_l_tall_row "_law_tall_row" = true)
    (k_l_tall_row : PySem.W.keepIn K (.ref ad_l_tall_row) = true)
    (a_l_due : PySem.W.nsIn K mainGlobals "_law_due" = some (some (.ref ad_l_due)))
    (l_l_due : K.lookup ad_l_due = some ⟨oc_l_due, od_l_due, .func (PySem.W.fnOf "_law_due" "_law_due" (defArgs s_l_due) (defBody s_l_due) (defScope s_l_due) .none kV_l_due dc_l_due pm_l_due an_l_due cd_l_due ct_l_due), sl_l_due⟩)
    (c_l_due : PySem.W.codeIn K cd_l_due "_law_due" = true)
    (k_l_due : PySem.W.keepIn K (.ref ad_l_due) = true)
    (a_l_caught : PySem.W.nsIn K mainGlobals "_law_caught" = some (some (.ref ad_l_caught)))
    (l_l_caught : K.lookup ad_l_caught = some ⟨oc_l_caught, od_l_caught, .func (PySem.W.fnOf "_law_caught" "_law_caught" (defArgs s_l_caught) (defBody s_l_caught) (defScope s_l_caught) .none kV_l_caught dc_l_caught pm_l_caught an_l_caught cd_l_caught ct_l_caught), sl_l_caught⟩)
    (c_l_caught : PySem.W.codeIn K cd_l_caught "_law_caught" = true)
    (k_l_caught : PySem.W.keepIn K (.ref ad_l_caught) = true)
    (a_l_right : PySem.W.nsIn K mainGlobals "_law_right" = some (some (.ref ad_l_right)))
    (l_l_right : K.lookup ad_l_right = some ⟨oc_l_right, od_l_right, .func (PySem.W.fnOf "_law_right" "_law_right" (defArgs s_l_right) (defBody s_l_right) (defScope s_l_right) .none kV_l_right dc_l_right pm_l_right an_l_right cd_l_right ct_l_right), sl_l_right⟩)
    (c_l_right : PySem.W.codeIn K cd_l_right "_law_right" = true)
    (k_l_right : PySem.W.keepIn K (.ref ad_l_right) = true)
    (a_p_law : PySem.W.nsIn K mainGlobals "law" = some (some (.ref ad_p_law)))
    (l_p_law : K.lookup ad_p_law = some ⟨oc_p_law, od_p_law, .func (PySem.W.fnOf "law" "law" (defArgs s_p_law) (defBody s_p_law) (defScope s_p_law) .none kV_p_law dc_p_law pm_p_law an_p_law cd_p_law ct_p_law), sl_p_law⟩)
    (c_p_law : PySem.W.codeIn K cd_p_law "law" = true)
    (k_p_law : PySem.W.keepIn K (.ref ad_p_law) = true)
    (z_abs : PySem.W.nsIn K mainGlobals "abs" = some none)
    (z_all : PySem.W.nsIn K mainGlobals "all" = some none)
    (z_bool : PySem.W.nsIn K mainGlobals "bool" = some none)
    (z_divmod : PySem.W.nsIn K mainGlobals "divmod" = some none)
    (z_enumerate : PySem.W.nsIn K mainGlobals "enumerate" = some none)
    (z_int : PySem.W.nsIn K mainGlobals "int" = some none)
    (z_isinstance : PySem.W.nsIn K mainGlobals "isinstance" = some none)
    (z_len : PySem.W.nsIn K mainGlobals "len" = some none)
    (z_list : PySem.W.nsIn K mainGlobals "list" = some none)
    (z_max : PySem.W.nsIn K mainGlobals "max" = some none)
    (z_min : PySem.W.nsIn K mainGlobals "min" = some none)
    (z_range : PySem.W.nsIn K mainGlobals "range" = some none)
    (z_repr : PySem.W.nsIn K mainGlobals "repr" = some none)
    (z_tuple : PySem.W.nsIn K mainGlobals "tuple" = some none)
    (z_zip : PySem.W.nsIn K mainGlobals "zip" = some none)
    (g_MOST_HEIGHT : PySem.W.nsIn K mainGlobals "MOST_HEIGHT" = some (some (.int 100000000000000000000 t_MOST_HEIGHT)))
    (b_NotRight : PySem.W.nsIn K mainGlobals "NotRight" = some (some (.ref C_NotRight)))
    (b_InvalidAmounts : PySem.W.nsIn K mainGlobals "InvalidAmounts" = some (some (.ref C_InvalidAmounts)))
    (b_InvalidPlaces : PySem.W.nsIn K mainGlobals "InvalidPlaces" = some (some (.ref C_InvalidPlaces)))
    (b_InvalidHeights : PySem.W.nsIn K mainGlobals "InvalidHeights" = some (some (.ref C_InvalidHeights)))
    (b_InvalidOffers : PySem.W.nsIn K mainGlobals "InvalidOffers" = some (some (.ref C_InvalidOffers)))
    (w_sp : PySem.W.specialIn K (.builtin "object.__class__") "__get__" = some (some (.builtin "getset_descriptor.__get__")))
    (w_tk : PySem.W.takesIn K (.builtin "object.__class__") = some true)
    (x1_InvalidHeights : PySem.W.excInitIn K C_InvalidHeights [.type "ValueError", .type "Exception", .type "BaseException", .type "object"] "ValueError.__new__" = true)
    (x2_InvalidHeights : PySem.W.excOver K C_InvalidHeights [.type "ValueError", .type "Exception", .type "BaseException", .type "object"] = true)
    (x3_InvalidHeights : PySem.W.hasDictIn K C_InvalidHeights = true)
    (x4_InvalidHeights : PySem.W.findIn K (.ref C_InvalidHeights) "__setattr__" = some (some (.builtin "object.__setattr__")))
    (x5_InvalidHeights : PySem.W.subIn K (.ref C_InvalidHeights) (.type "BaseException") = some true)
    (x6_InvalidHeights : PySem.W.typeIn K (.ref C_InvalidHeights) = some (.type "type"))
    (x7_InvalidHeights : PySem.W.keepIn K (.ref C_InvalidHeights) = true)
    (e1_InvalidHeights : PySem.W.findIn K (.ref C_InvalidHeights) "__getattribute__" = some (some (.builtin "BaseException.__getattribute__")))
    (e2_InvalidHeights : PySem.W.findIn K (.ref C_InvalidHeights) "__getattr__" = some none)
    (e5_InvalidHeights : PySem.W.findIn K (.ref C_InvalidHeights) "__class__" = some (some (.builtin "object.__class__")))
    (e8_InvalidHeights : PySem.W.mroIn K C_InvalidHeights (.type "object") = some true)
    (no_InvalidHeights : PySem.W.findIn K (.ref C_InvalidHeights) "index" = some none)
    (ii_InvalidHeights : PySem.W.findIn K (.ref C_InvalidHeights) "__init__" = some (some (.ref fi_InvalidHeights)))
    (il_InvalidHeights : K.lookup fi_InvalidHeights = some ⟨ioc_InvalidHeights, iod_InvalidHeights, .func (PySem.W.fnOf "__init__" "InvalidHeights.__init__" (defArgs si_InvalidHeights) (defBody si_InvalidHeights) (defScope si_InvalidHeights) .none ikV_InvalidHeights idc_InvalidHeights ipm_InvalidHeights ian_InvalidHeights icd_InvalidHeights ict_InvalidHeights), isl_InvalidHeights⟩)
    (ic_InvalidHeights : PySem.W.codeIn K icd_InvalidHeights "InvalidHeights.__init__" = true)
    (ik_InvalidHeights : PySem.W.keepIn K (.ref fi_InvalidHeights) = true)
    (it_InvalidHeights : PySem.W.typeIn K (.ref fi_InvalidHeights) = some (.type "function"))
    (ta_InvalidHeights : PySem.W.takerIn K C_InvalidHeights "index" = some none)
    (oo_InvalidHeights_NotRight : PySem.W.kitOne K (.ref C_InvalidHeights) (.ref C_NotRight) = some true)
    (oo_InvalidHeights_InvalidAmounts : PySem.W.kitOne K (.ref C_InvalidHeights) (.ref C_InvalidAmounts) = some false)
    (oo_InvalidHeights_InvalidPlaces : PySem.W.kitOne K (.ref C_InvalidHeights) (.ref C_InvalidPlaces) = some false)
    (oo_InvalidHeights_InvalidHeights : PySem.W.kitOne K (.ref C_InvalidHeights) (.ref C_InvalidHeights) = some true)
    (oo_InvalidHeights_InvalidOffers : PySem.W.kitOne K (.ref C_InvalidHeights) (.ref C_InvalidOffers) = some false)
    (cc_InvalidHeights_InvalidHeights : PySem.W.exmOne K (.ref C_InvalidHeights) (.ref C_InvalidHeights) = some true)
    : ∃ fd : FuncData, (∀ (s : Shared) (v : Value), BindsTo s fd ⟨[v], []⟩ [("_law_cells", v)]) ∧ ∀ base : Heap, K.In base → base.Ns mainGlobals mg → FnG P w K mg base 7 fa fd ["_law_cells"] (SpM K mg 1 f_p_law) := by
  have e := hfa.symm.trans (PySem.W.mg_of X G a_p_law)
  cases e
  let L : Lf K mg := {
    a_l_well := _, d_l_well := _, F_l_well := fun_mk l_l_well c_l_well k_l_well, m_l_well := PySem.W.mg_of X G a_l_well,
    a_p_is_integer := _, d_p_is_integer := _, F_p_is_integer := fun_mk l_p_is_integer c_p_is_integer k_p_is_integer, m_p_is_integer := PySem.W.mg_of X G a_p_is_integer,
    a_p_is_between := _, d_p_is_between := _, F_p_is_between := fun_mk l_p_is_between c_p_is_between k_p_is_between, m_p_is_between := PySem.W.mg_of X G a_p_is_between,
    a_p_is_height := _, d_p_is_height := _, F_p_is_height := fun_mk l_p_is_height c_p_is_height k_p_is_height, m_p_is_height := PySem.W.mg_of X G a_p_is_height,
    a_p_changes := _, d_p_changes := _, F_p_changes := fun_mk l_p_changes c_p_changes k_p_changes, m_p_changes := PySem.W.mg_of X G a_p_changes,
    a_l_draw := _, d_l_draw := _, F_l_draw := fun_mk l_l_draw c_l_draw k_l_draw, m_l_draw := PySem.W.mg_of X G a_l_draw,
    a_l_one := _, d_l_one := _, F_l_one := fun_mk l_l_one c_l_one k_l_one, m_l_one := PySem.W.mg_of X G a_l_one,
    a_l_tall_row := _, d_l_tall_row := _, F_l_tall_row := fun_mk l_l_tall_row c_l_tall_row k_l_tall_row, m_l_tall_row := PySem.W.mg_of X G a_l_tall_row,
    a_l_due := _, d_l_due := _, F_l_due := fun_mk l_l_due c_l_due k_l_due, m_l_due := PySem.W.mg_of X G a_l_due,
    a_l_caught := _, d_l_caught := _, F_l_caught := fun_mk l_l_caught c_l_caught k_l_caught, m_l_caught := PySem.W.mg_of X G a_l_caught,
    a_l_right := _, d_l_right := _, F_l_right := fun_mk l_l_right c_l_right k_l_right, m_l_right := PySem.W.mg_of X G a_l_right,
    a_p_law := _, d_p_law := _, F_p_law := fun_mk l_p_law c_p_law k_p_law, m_p_law := PySem.W.mg_of X G a_p_law,
    z_abs := PySem.W.mg_none_of X G z_abs,
    z_all := PySem.W.mg_none_of X G z_all,
    z_bool := PySem.W.mg_none_of X G z_bool,
    z_divmod := PySem.W.mg_none_of X G z_divmod,
    z_enumerate := PySem.W.mg_none_of X G z_enumerate,
    z_int := PySem.W.mg_none_of X G z_int,
    z_isinstance := PySem.W.mg_none_of X G z_isinstance,
    z_len := PySem.W.mg_none_of X G z_len,
    z_list := PySem.W.mg_none_of X G z_list,
    z_max := PySem.W.mg_none_of X G z_max,
    z_min := PySem.W.mg_none_of X G z_min,
    z_range := PySem.W.mg_none_of X G z_range,
    z_repr := PySem.W.mg_none_of X G z_repr,
    z_tuple := PySem.W.mg_none_of X G z_tuple,
    z_zip := PySem.W.mg_none_of X G z_zip,
    g_MOST_HEIGHT := ⟨_, PySem.W.mg_of X G g_MOST_HEIGHT⟩,
    C_NotRight := _, c_NotRight := PySem.W.mg_of X G b_NotRight,
    C_InvalidAmounts := _, c_InvalidAmounts := PySem.W.mg_of X G b_InvalidAmounts,
    C_InvalidPlaces := _, c_InvalidPlaces := PySem.W.mg_of X G b_InvalidPlaces,
    C_InvalidHeights := _, c_InvalidHeights := PySem.W.mg_of X G b_InvalidHeights,
    C_InvalidOffers := _, c_InvalidOffers := PySem.W.mg_of X G b_InvalidOffers,
    x_InvalidHeights := ⟨⟨_, _, _, _, PySem.F.excBase_ValueError, PySem.F.store_ValueError, x1_InvalidHeights, x2_InvalidHeights⟩, x3_InvalidHeights, x4_InvalidHeights, x5_InvalidHeights, x6_InvalidHeights, x7_InvalidHeights⟩,
    e_InvalidHeights := ⟨e1_InvalidHeights, e2_InvalidHeights, x5_InvalidHeights, x3_InvalidHeights, e5_InvalidHeights, w_sp, w_tk, e8_InvalidHeights⟩, xf_InvalidHeights := ⟨e1_InvalidHeights, e2_InvalidHeights, x5_InvalidHeights, x3_InvalidHeights⟩, no_InvalidHeights := no_InvalidHeights,
    fi_InvalidHeights := _, di_InvalidHeights := _, Fi_InvalidHeights := fun_mk il_InvalidHeights ic_InvalidHeights ik_InvalidHeights, ii_InvalidHeights := ii_InvalidHeights, ti_InvalidHeights := it_InvalidHeights, tk_InvalidHeights := ta_InvalidHeights,
    oo_InvalidHeights_NotRight := oo_InvalidHeights_NotRight,
    oo_InvalidHeights_InvalidAmounts := oo_InvalidHeights_InvalidAmounts,
    oo_InvalidHeights_InvalidPlaces := oo_InvalidHeights_InvalidPlaces,
    oo_InvalidHeights_InvalidHeights := oo_InvalidHeights_InvalidHeights,
    oo_InvalidHeights_InvalidOffers := oo_InvalidHeights_InvalidOffers,
    cc_InvalidHeights_InvalidHeights := cc_InvalidHeights_InvalidHeights }
  exact ⟨L.d_p_law, fun s v => .of_eq rfl, fun base _ _ => G_p_law L⟩
end K67

open PySem PySem.W PyProof.Rows
set_option maxHeartbeats 0 in
theorem PySem.Challenge.cw_bentthrough_k67_sign_changes_counted_holds : PySem.Challenge.rw_bentthrough_k67_sign_changes_counted.Holds := by
  w_on; o_law; k_head; (case hw => w_witness2)
  k_fill
  refine DL.walkG (l := PySem.Challenge.rw_bentthrough_k67_sign_changes_counted) (n := 63) (k := 7) (x := "_law_cells") (m := K67.f_p_law) rfl (by decide) rfl ⟨rfl, by decide, by decide⟩ (fun w h Y => PySem.W.kIn_of Y) ?F K67.law_true
  case F =>
    intro w mg fa h KX G hmg
    refine' K67.all_mk KX G hmg ?a_l_well ?l_l_well ?c_l_well ?k_l_well ?a_p_is_integer ?l_p_is_integer ?c_p_is_integer ?k_p_is_integer ?a_p_is_between ?l_p_is_between ?c_p_is_between ?k_p_is_between ?a_p_is_height ?l_p_is_height ?c_p_is_height ?k_p_is_height ?a_p_changes ?l_p_changes ?c_p_changes ?k_p_changes ?a_l_draw ?l_l_draw ?c_l_draw ?k_l_draw ?a_l_one ?l_l_one ?c_l_one ?k_l_one ?a_l_tall_row ?l_l_tall_row ?c_l_tall_row ?k_l_tall_row ?a_l_due ?l_l_due ?c_l_due ?k_l_due ?a_l_caught ?l_l_caught ?c_l_caught ?k_l_caught ?a_l_right ?l_l_right ?c_l_right ?k_l_right ?a_p_law ?l_p_law ?c_p_law ?k_p_law ?z_abs ?z_all ?z_bool ?z_divmod ?z_enumerate ?z_int ?z_isinstance ?z_len ?z_list ?z_max ?z_min ?z_range ?z_repr ?z_tuple ?z_zip ?g_MOST_HEIGHT ?b_NotRight ?b_InvalidAmounts ?b_InvalidPlaces ?b_InvalidHeights ?b_InvalidOffers ?w_sp ?w_tk ?x1_InvalidHeights ?x2_InvalidHeights ?x3_InvalidHeights ?x4_InvalidHeights ?x5_InvalidHeights ?x6_InvalidHeights ?x7_InvalidHeights ?e1_InvalidHeights ?e2_InvalidHeights ?e5_InvalidHeights ?e8_InvalidHeights ?no_InvalidHeights ?ii_InvalidHeights ?il_InvalidHeights ?ic_InvalidHeights ?ik_InvalidHeights ?it_InvalidHeights ?ta_InvalidHeights ?oo_InvalidHeights_NotRight ?oo_InvalidHeights_InvalidAmounts ?oo_InvalidHeights_InvalidPlaces ?oo_InvalidHeights_InvalidHeights ?oo_InvalidHeights_InvalidOffers ?cc_InvalidHeights_InvalidHeights
    (case a_l_well => k_is)
    (case l_l_well => k_is)
    (case c_l_well => k_is)
    (case k_l_well => k_is)
    (case a_p_is_integer => k_is)
    (case l_p_is_integer => k_is)
    (case c_p_is_integer => k_is)
    (case k_p_is_integer => k_is)
    (case a_p_is_between => k_is)
    (case l_p_is_between => k_is)
    (case c_p_is_between => k_is)
    (case k_p_is_between => k_is)
    (case a_p_is_height => k_is)
    (case l_p_is_height => k_is)
    (case c_p_is_height => k_is)
    (case k_p_is_height => k_is)
    (case a_p_changes => k_is)
    (case l_p_changes => k_is)
    (case c_p_changes => k_is)
    (case k_p_changes => k_is)
    (case a_l_draw => k_is)
    (case l_l_draw => k_is)
    (case c_l_draw => k_is)
    (case k_l_draw => k_is)
    (case a_l_one => k_is)
    (case l_l_one => k_is)
    (case c_l_one => k_is)
    (case k_l_one => k_is)
    (case a_l_tall_row => k_is)
    (case l_l_tall_row => k_is)
    (case c_l_tall_row => k_is)
    (case k_l_tall_row => k_is)
    (case a_l_due => k_is)
    (case l_l_due => k_is)
    (case c_l_due => k_is)
    (case k_l_due => k_is)
    (case a_l_caught => k_is)
    (case l_l_caught => k_is)
    (case c_l_caught => k_is)
    (case k_l_caught => k_is)
    (case a_l_right => k_is)
    (case l_l_right => k_is)
    (case c_l_right => k_is)
    (case k_l_right => k_is)
    (case a_p_law => k_is)
    (case l_p_law => k_is)
    (case c_p_law => k_is)
    (case k_p_law => k_is)
    (case z_abs => k_is)
    (case z_all => k_is)
    (case z_bool => k_is)
    (case z_divmod => k_is)
    (case z_enumerate => k_is)
    (case z_int => k_is)
    (case z_isinstance => k_is)
    (case z_len => k_is)
    (case z_list => k_is)
    (case z_max => k_is)
    (case z_min => k_is)
    (case z_range => k_is)
    (case z_repr => k_is)
    (case z_tuple => k_is)
    (case z_zip => k_is)
    (case g_MOST_HEIGHT => k_is)
    (case b_NotRight => k_is)
    (case b_InvalidAmounts => k_is)
    (case b_InvalidPlaces => k_is)
    (case b_InvalidHeights => k_is)
    (case b_InvalidOffers => k_is)
    (case w_sp => k_is)
    (case w_tk => k_is)
    (case x1_InvalidHeights => first | exact rfl | kernel_rfl)
    (case x2_InvalidHeights => first | exact rfl | kernel_rfl)
    (case x3_InvalidHeights => k_is)
    (case x4_InvalidHeights => k_is)
    (case x5_InvalidHeights => k_is)
    (case x6_InvalidHeights => k_is)
    (case x7_InvalidHeights => k_is)
    (case e1_InvalidHeights => k_is)
    (case e2_InvalidHeights => k_is)
    (case e5_InvalidHeights => k_is)
    (case e8_InvalidHeights => k_is)
    (case no_InvalidHeights => k_is)
    (case ii_InvalidHeights => k_is)
    (case il_InvalidHeights => k_is)
    (case ic_InvalidHeights => k_is)
    (case ik_InvalidHeights => k_is)
    (case it_InvalidHeights => k_is)
    (case ta_InvalidHeights => k_is)
    (case oo_InvalidHeights_NotRight => first | exact rfl | kernel_rfl)
    (case oo_InvalidHeights_InvalidAmounts => first | exact rfl | kernel_rfl)
    (case oo_InvalidHeights_InvalidPlaces => first | exact rfl | kernel_rfl)
    (case oo_InvalidHeights_InvalidHeights => first | exact rfl | kernel_rfl)
    (case oo_InvalidHeights_InvalidOffers => first | exact rfl | kernel_rfl)
    (case cc_InvalidHeights_InvalidHeights => first | exact rfl | kernel_rfl)

