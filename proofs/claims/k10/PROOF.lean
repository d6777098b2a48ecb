import PyProof.Rows.All
import HandS.ForMost
import HandS.Defaults
import HandS.Wide
import HandS.WideBits
import HandS.HeadEnd
import HandS.Lambda
import HandS.ExcInit
import HandS.ExcIs
import KE.KExcIs
import KE.GoesEnum
import HandS.Zip
import HandS.IsInst
import HandS.SortInts
import HandS.Strs
import HandS.SetFor
import HandS.TupAny
import HandS.FStr
import HandS.ExcSuper
import KE.KExcSuper
import KE.KSuper
import PyProof.RowDictHeap
import HandS.HeadWalk
import HandS.ExcField
import HandS.HeadHook3
import HandS.HeadHook4
import HandS.SetKeys
import HandS.Star
import KE.GoesZip
import KE.GoesMore
import HandS.Conv
import HandS.Sort
import HandS.TupMul
import HandS.Text
import HandS.Style
import PyProof.AutoSeq1
import HandS.SetBool
import HandS.NoneIn
import HandS.MakeKw
import HandS.CallRecv
import HandS.WordsDict
import KE.SortData
import KE.SortKeyHeap
import HandS.Deep
import PyProof.Rows.SumAny
import PyProof.SumWalkG
import KE.KDictZip
import HandS.ListItems
import HandS.Rev
import PyProof.Rows.ReprOcc
import PyProof.PureStr
import KE.DatumOrd
import HandS.Property
import HandS.ClsMeth
import HandS.MakeKwOnly
import HandS.Codes
import HandS.DictTup
import HandS.StrMore
import HandS.StrSplit
import KE.KUnpackStar
import HandS.ExcValue
import HandS.Small
import PyProof.InstEq
import PyProof.Rows.StrOr
import HandS.Head0
import HandS.Head1
import HandS.Head2
import HandS.HeadHook1
import HandS.HeadHook2
import PySem.Challenge.RW_xorbanks_k10_values_of_polynomials
set_option Elab.async false
set_option linter.all false
set_option maxRecDepth 100000
set_option maxHeartbeats 4000000
/-! XA: defs whose promise leans on the repr guards (none is under way), their calls, a law's end. -/
namespace XB
open PySem PySem.Spec PyProof.Rows L2

/-- nothing is being shown -/
def Gd (A : Around) : Prop := A.guards = some []

structure FnG (P : Program) (w : World) (K : PySem.W.Frag) (mg : Str → Option Value) (base : Heap) (CX : CXT) (k : Nat) (f : Addr) (fd : FuncData) (ps : List Str) (sp : Sp) : Prop where
  len : ∀ vs H Q E, sp vs H Q E → vs.length = ps.length
  run : ∀ (A : Around) (outer : List Env) (s : Shared) (H : Hp) (args : Args) (us : List Value) (vs : List V) (Q : VK) (E : XK),
    Room k A → Gd A → Env0 P w K mg base A outer s H → BindsTo s fd args (ps.zip us) → Vals vs us → sp vs H Q E →
    codeAny (model P w) A (.call (.ref f) args) (CR CX outer P w H s Q E) s

section
variable {P : Program} {w : World} {K : PySem.W.Frag} {mg : Str → Option Value} {base : Heap} {CX : CXT} {k : Nat} {f : Addr} {fd : FuncData} {ps : List Str} {sp : Sp}
theorem FnG.of (F : FnOk P w K mg base CX k f fd ps sp) : FnG P w K mg base CX k f fd ps sp :=
  ⟨F.len, fun A outer s H args us vs Q E hr _ => F.run A outer s H args us vs Q E hr⟩
theorem FnG.up {j : Nat} (F : FnG P w K mg base CX j f fd ps sp) (h : j ≤ k) : FnG P w K mg base CX k f fd ps sp :=
  ⟨F.len, fun A outer s H args us vs Q E hr => F.run A outer s H args us vs Q E (hr.mono h)⟩

/-- a def of the text, by its body -/
theorem fnG_of {x qual : Str} {params : Arguments} {body : List Stmt} {scope : Scope} {dvs : List V} {kws : List (Str × V)} {N : List Str}
    (F : FunD K x qual params body scope dvs kws f fd) (S : FnScope N ps scope)
    (len : ∀ vs H Q E, sp vs H Q E → vs.length = ps.length)
    (hbody : ∀ (cdv : Value) (A : Around) (outer : List Env) (s : Shared) (H : Hp) (vs : List V) (Q : VK) (E : XK),
      Room k (A.deeper (envOfC qual scope s.heap.objs.size f cdv)) → Gd (A.deeper (envOfC qual scope s.heap.objs.size f cdv)) → sp vs H Q E →
      ∃ t, PSs (cxOf CX P w K mg base N qual scope f cdv A outer s H E) body t ∧ t { nx := fun _ H' => Q .non H', rt := Q } (start N vs) H) :
    FnG P w K mg base CX (k + 1) f fd ps sp := by
  obtain ⟨oc, od, dV, kV, doc, pm, an, cdv, ct, osl, rfl, lk, hcd, _, _⟩ := F.ex
  constructor
  · exact len
  intro A outer s H args us vs Q E room gd env bind rel want
  have hlen := len vs H Q E want
  have inH : K.In s.heap := env.mod.kin.keeps (fun b o e => (env.bs b o e).1)
  have limH : s.heap.NoLimit := env.mod.nolimit.keeps (fun b o e => (env.bs b o e).1)
  have kinds : ∀ y ∈ ps.zip us, scope.names.lookup y.1 = some .local ∨
      (scope.names.lookup y.1 = some .cell ∧ ((cellsFrom (s.heap.objs.size + 1) scope.names []).lookup y.1).isSome = true) := by
    rintro ⟨n, v⟩ hy
    cases S.par n (List.of_mem_zip hy).1 with
    | inl q => exact Or.inl q
    | inr q => exact Or.inr ⟨q, PySem.W.cellsFrom_some _ _ _ (Or.inl q)⟩
  apply codeAny_call_function room.depth (inH _ _ lk) rfl S.co S.gen rfl (PySem.W.codeRec_of inH hcd)
  apply bind
  refine wpAny_newFunctionEnv_cells S.kind kinds (fun env' he s1 x => ?_)
  subst he
  refine ⟨limH.keeps x.toInCall.keep, codeAny_func ?_⟩
  obtain ⟨t, ht, hq⟩ := hbody cdv A outer s H vs Q E (room.deeper _) gd want
  have I : Inv (cxOf CX P w K mg base N qual scope f cdv A outer s H E) [] (start N vs) H s1 := inv_start S room.hd env hlen rel x
  refine wpAny_mono (ht.run [] s1 (start N vs) H _ I hq) ?_ (fun e s' hs => hs)
  intro fl s' hs
  cases fl with
  | ret u =>
    obtain ⟨v, σ', H', J, rv, q⟩ := hs
    exact ⟨v, H', J.os, J.bare, J.base, J.hok, rv, q⟩
  | next =>
    obtain ⟨σ', H', J, q⟩ := hs
    exact ⟨V.non, H', J.os, J.bare, J.base, J.hok, rfl, q⟩
  | brk => obtain ⟨_, _, _, q⟩ := hs; exact q.elim
  | cont => obtain ⟨_, _, _, q⟩ := hs; exact q.elim
end

section
variable {X : Cx} {CX : CXT} {k : Nat} {f : Addr} {fd : FuncData} {ps : List Str} {sp : Sp} {dvs : List V} {ds : List Value} {E : XK} {x : Str} {p pos : Pos} {e : Expr} {es : List Expr} {t tk : TA}
theorem callG {pins : List (Addr × Obj)} {σ : L2.St} {H : Hp} {s : Shared} {Q : VK} {us : List Value} {vs : List V} {args : Args} (F : FnG X.prog X.w X.K X.mg X.base CX k f fd ps sp) (hr : Room k X.A) (hg : Gd X.A)
    (hx : Passes CX X E) (I : Inv X pins σ H s) (hb : BindsTo s fd args (ps.zip us)) (r : Vals vs us) (h : sp vs H Q E) :
    codeAny (model X.prog X.w) X.A (.call (.ref f) args) (fun r s' => match r with
      | .ok (.ret u) => EP X pins σ Q u s'
      | .ok _ => False
      | .error e => X.xe e s') s := by
  refine codeAny_mono (F.run X.A X.stack s H args us vs Q E hr hg I.env0 hb r h) (fun r s' hq => ?_)
  match r, hq with
  | .error e, hq => exact hx pins σ H s e s' I hq
  | .ok (.ret u), hq => exact I.after hq
  | .ok .next, hq => exact hq.elim
  | .ok .brk, hq => exact hq.elim
  | .ok .cont, hq => exact hq.elim
theorem runG {pins : List (Addr × Obj)} {σ : L2.St} {H : Hp} {s : Shared} {Q : VK} {us : List Value} {vs : List V} (F : FnG X.prog X.w X.K X.mg X.base CX k f fd ps sp) (hr : Room k X.A) (hg : Gd X.A) (hb : Binds X.K fd ps ds) (hd : Vals dvs ds) (hx : Passes CX X E)
    (I : Inv X pins σ H s) (r : Vals vs us) (h : sp (vs ++ dvs) H Q E) : wpAny (model X.prog X.w) X.A (call (.ref f) us) (EP X pins σ Q) X.xe s := by
  have r2 : Vals (vs ++ dvs) (us ++ ds) := r.append hd
  have hl : (us ++ ds).length = ps.length := by rw [← r2.length]; exact F.len _ _ _ _ h
  refine wpAny_call (codeAny_mono (callG F hr hg hx I (hb s us I.kIn hl) r2 h) fun r s' hq => ?_)
  match r, hq with
  | .error e, hq => exact hq
  | .ok (.ret u), hq => exact hq
  | .ok .next, hq => exact hq.elim
  | .ok .brk, hq => exact hq.elim
  | .ok .cont, hq => exact hq.elim
theorem peG_call (F : FnG X.prog X.w X.K X.mg X.base CX k f fd ps sp) (hr : Room k X.A) (hgd : Gd X.A) (hg : Gl X x) (hm : X.mg x = some (.ref f)) (hk : PySem.W.keepIn X.K (.ref f) = true) (hb : Binds X.K fd ps ds) (hd : Vals dvs ds) (hx : Passes CX X E)
    (ha : PA X (e :: es) t) (hdb : (x == ("__debug__" : Str)) = false := by decide) (he : starEach (e :: es) X.env = (false, eval e X.env) :: starEach es X.env := by rfl) (hpl : (backTo pos (starEach es X.env)).any (·.1) = false := by rfl) :
    PE X (.Call (.Name x p) (e :: es) [] pos) (tCall sp dvs E t) := by
  constructor
  intro pins s σ H Q I h
  apply wpAny_Call_Name_kw
  refine ld_glob I hg hm ?_ hdb
  refine PySem.W.callWith_K (h₀ := X.base) I.ok.mod.kin hk (thn (ha.run pos pins s σ H _ I h) ?_) he hpl
  rintro us s1 ⟨vs, H1, I1, r, q⟩
  exact ⟨I1.kIn, runG F hr hgd hb hd hx I1 r q⟩
end

end XB

/-! XC: deep data, owned objects, judgements over them. -/
namespace XB
open PySem PySem.Spec PyProof.Rows L2

abbrev D := PyData
def keyD : Key → D
  | .inl i => .int i
  | .inr x => .str x

/-! ### v is the datum d, in H, by no object of A -/
mutual
inductive Dd (K : PySem.W.Frag) (H : Hp) (A : List Addr) : V → D → Prop
  | non : Dd K H A .non .none
  | bl (b : Bool) : Dd K H A (.bl b) (.bool b)
  | int (i : Int) : Dd K H A (.int i) (.int i)
  | str (x : Str) : Dd K H A (.str x) (.str x)
  | lst {a : Addr} {xs : List V} {ds : List D} : Rd H a (.lst xs) → a ∉ A → DdAll K H A xs ds → Dd K H A (.ref a) (.list ds)
  | lstK {a : Addr} {xs : List V} {ds : List D} : SqL K (fun _ => none) a xs → DdAll K H A xs ds → Dd K H A (.ref a) (.list ds)
  | tup {a : Addr} {xs : List V} {ds : List D} : Rd H a (.tup xs) → a ∉ A → DdAll K H A xs ds → Dd K H A (.ref a) (.tuple ds)
  | tupK {a : Addr} {xs : List V} {ds : List D} : SqT K (fun _ => none) a xs → DdAll K H A xs ds → Dd K H A (.ref a) (.tuple ds)
  | dic {a : Addr} {kvs : List (Key × V)} {ds : List (D × D)} : Rd H a (.dK kvs) → a ∉ A → DdKv K H A kvs ds → Dd K H A (.ref a) (.dict ds)
inductive DdAll (K : PySem.W.Frag) (H : Hp) (A : List Addr) : List V → List D → Prop
  | nil : DdAll K H A [] []
  | cons {v : V} {vs : List V} {d : D} {ds : List D} : Dd K H A v d → DdAll K H A vs ds → DdAll K H A (v :: vs) (d :: ds)
inductive DdKv (K : PySem.W.Frag) (H : Hp) (A : List Addr) : List (Key × V) → List (D × D) → Prop
  | nil : DdKv K H A [] []
  | cons {k : Key} {v : V} {d : D} {kvs : List (Key × V)} {ds : List (D × D)} : Dd K H A v d → DdKv K H A kvs ds → DdKv K H A ((k, v) :: kvs) ((keyD k, d) :: ds)
end

section
variable {K : PySem.W.Frag} {H H' : Hp} {A A' : List Addr}
/-- what may be moved -/
def Mv (H H' : Hp) (A A' : List Addr) : Prop := ∀ b o, H b = some o → b ∉ A → H' b = some o ∧ b ∉ A'
theorem Mv.rd (m : Mv H H' A A') {b : Addr} {u : HO} (r : Rd H b u) (n : b ∉ A) : Rd H' b u ∧ b ∉ A' := by
  rcases r with r | ⟨o, r⟩
  · exact ⟨.inl (m _ _ r n).1, (m _ _ r n).2⟩
  · exact ⟨.inr ⟨o, (m _ _ r n).1⟩, (m _ _ r n).2⟩
mutual
theorem Dd.mv (m : Mv H H' A A') {v : V} {d : D} (h : Dd K H A v d) : Dd K H' A' v d := by
  cases h with
  | non => exact .non
  | bl b => exact .bl b
  | int i => exact .int i
  | str x => exact .str x
  | lst r n a => obtain ⟨r', n'⟩ := m.rd r n; exact .lst r' n' (a.mv m)
  | lstK r a => exact .lstK r (a.mv m)
  | tup r n a => obtain ⟨r', n'⟩ := m.rd r n; exact .tup r' n' (a.mv m)
  | tupK r a => exact .tupK r (a.mv m)
  | dic r n a => obtain ⟨r', n'⟩ := m.rd r n; exact .dic r' n' (a.mv m)
theorem DdAll.mv (m : Mv H H' A A') {vs : List V} {ds : List D} (h : DdAll K H A vs ds) : DdAll K H' A' vs ds := by
  cases h with
  | nil => exact .nil
  | cons a r => exact .cons (a.mv m) (r.mv m)
theorem DdKv.mv (m : Mv H H' A A') {vs : List (Key × V)} {ds : List (D × D)} (h : DdKv K H A vs ds) : DdKv K H' A' vs ds := by
  cases h with
  | nil => exact .nil
  | cons a r => exact .cons (a.mv m) (r.mv m)
end
end

/-! ### what a slot holds; what is owned -/
inductive W where
  | dat (d : D) | raw (v : V)
  /-- an instance of the class at C that nobody here owns, with its attributes -/
  | obj (C : Addr) (fds : List (Str × D))
/-- the attributes of such an instance -/
inductive FdAll (K : PySem.W.Frag) (H : Hp) (A : List Addr) : List (Str × V) → List (Str × D) → Prop
  | nil : FdAll K H A [] []
  | cons {f : Str} {v : V} {d : D} {fs : List (Str × V)} {fds : List (Str × D)} : Dd K H A v d → FdAll K H A fs fds → FdAll K H A ((f, v) :: fs) ((f, d) :: fds)
theorem FdAll.mv {K : PySem.W.Frag} {H H' : Hp} {A A' : List Addr} (m : Mv H H' A A') : ∀ {fs : List (Str × V)} {fds : List (Str × D)}, FdAll K H A fs fds → FdAll K H' A' fs fds
  | _, _, .nil => .nil
  | _, _, .cons a r => .cons (Dd.mv m a) (FdAll.mv m r)
/-- a lambda: its words, its cells, its code object -/
structure Lam where
  params : Arguments
  body : Expr
  scope : Scope
  qual : Str
  cl : List (Str × Addr)
  c : Addr
inductive Ow where
  | lst (ds : List D) | dic (kvs : List (Key × D)) | any (o : HO)
  /-- a code object's table, whose code objects bear the name q -/
  | tab (q : Str)
  /-- an exception of the class at C, whose value is d -/
  | err (C : Addr) (d : D)
  /-- an instance of the class at C with its attributes -/
  | ins (C : Addr) (fws : List (Str × W))
  /-- a list, a tuple, a dict of what slots may hold -/
  | lsW (ws : List W) | tpW (ws : List W) | dcW (kws : List (Key × W))
  /-- a cell that a lambda captured, its frame gone; a lambda -/
  | cel (w : W) | clo (F : Lam)
def LamO (a : Addr) (F : Lam) : HO := .ext fun h => ∃ pm ct : Value, h.get? a = some (PySem.W.kla_obj "<lambda>" F.qual F.params F.body F.scope F.cl pm F.c ct)
def CellO (a : Addr) (v : V) : HO := .ext fun h => ∃ (o : Obj) (u : Value), h.get? a = some o ∧ o.data = .cell (some u) ∧ L2.RelV v u
/-- an exception of the class at C, its dict at dx -/
def ExH (a C dx : Addr) : HO := .ext fun h => ∃ (oe : Obj) (vs : Array Value), h.get? a = some oe ∧ oe.cls = .ref C ∧ oe.dict = some dx ∧ oe.data = .fields vs
def TabW (H : Hp) (A : List Addr) (a : Addr) (q : Str) : Prop := ∃ ps : Array Value, H a = some (.tbl ps) ∧ TriplesOk ps.toList ∧ ∀ (pos : Pos) (cv : Value), codeAmong pos ps.toList = some cv → ∃ c, cv = .ref c ∧ Rd H c (LamX.CodeO c q) ∧ c ∉ A
def ErrW (K : PySem.W.Frag) (H : Hp) (A : List Addr) (a C : Addr) (d : D) : Prop := ∃ (dx : Addr) (v : V) (fs : List (Str × V)), H a = some (ExH a C dx) ∧ Rd H dx (.xd (("value", v) :: fs)) ∧ dx ∉ A ∧ Dd K H A v d
abbrev Mem := List (Addr × Ow)
def ads (M : Mem) : List Addr := M.map (·.1)
def SW (K : PySem.W.Frag) (H : Hp) (A : List Addr) (v : V) : W → Prop
  | .dat d => Dd K H A v d
  | .raw u => v = u
  | .obj C fds => ∃ a dx fs, v = .ref a ∧ H a = some (.ins C dx fs) ∧ a ∉ A ∧ FdAll K H A fs fds
theorem SW.mv0 {K : PySem.W.Frag} {H H' : Hp} {A A' : List Addr} (m : Mv H H' A A') {v : V} : ∀ {w : W}, SW K H A v w → SW K H' A' v w
  | .dat _, h => Dd.mv m h
  | .raw _, h => h
  | .obj _ _, ⟨a, dx, fs, e, h, n, r⟩ => ⟨a, dx, fs, e, (m _ _ h n).1, (m _ _ h n).2, r.mv m⟩
/-- the attributes of an instance -/
inductive FsAll (K : PySem.W.Frag) (H : Hp) (A : List Addr) : List (Str × V) → List (Str × W) → Prop
  | nil : FsAll K H A [] []
  | cons {f : Str} {v : V} {w : W} {fs : List (Str × V)} {fws : List (Str × W)} : SW K H A v w → FsAll K H A fs fws → FsAll K H A ((f, v) :: fs) ((f, w) :: fws)
theorem FsAll.mv {K : PySem.W.Frag} {H H' : Hp} {A A' : List Addr} (m : Mv H H' A A') : ∀ {fs : List (Str × V)} {fws : List (Str × W)}, FsAll K H A fs fws → FsAll K H' A' fs fws
  | _, _, .nil => .nil
  | _, _, .cons a r => .cons (a.mv0 m) (FsAll.mv m r)
inductive SWs (K : PySem.W.Frag) (H : Hp) (A : List Addr) : List V → List W → Prop
  | nil : SWs K H A [] []
  | cons {v : V} {vs : List V} {w : W} {ws : List W} : SW K H A v w → SWs K H A vs ws → SWs K H A (v :: vs) (w :: ws)
theorem SWs.mv0 {K : PySem.W.Frag} {H H' : Hp} {A A' : List Addr} (m : Mv H H' A A') : ∀ {vs : List V} {ws : List W}, SWs K H A vs ws → SWs K H' A' vs ws
  | _, _, .nil => .nil
  | _, _, .cons a r => .cons (a.mv0 m) (SWs.mv0 m r)
inductive KwAll (K : PySem.W.Frag) (H : Hp) (A : List Addr) : List (Key × V) → List (Key × W) → Prop
  | nil : KwAll K H A [] []
  | cons {k : Key} {v : V} {w : W} {kvs : List (Key × V)} {ds : List (Key × W)} : SW K H A v w → KwAll K H A kvs ds → KwAll K H A ((k, v) :: kvs) ((k, w) :: ds)
theorem KwAll.mv {K : PySem.W.Frag} {H H' : Hp} {A A' : List Addr} (m : Mv H H' A A') : ∀ {vs : List (Key × V)} {ds : List (Key × W)}, KwAll K H A vs ds → KwAll K H' A' vs ds
  | _, _, .nil => .nil
  | _, _, .cons a r => .cons (a.mv0 m) (KwAll.mv m r)
inductive DkAll (K : PySem.W.Frag) (H : Hp) (A : List Addr) : List (Key × V) → List (Key × D) → Prop
  | nil : DkAll K H A [] []
  | cons {k : Key} {v : V} {d : D} {kvs : List (Key × V)} {ds : List (Key × D)} : Dd K H A v d → DkAll K H A kvs ds → DkAll K H A ((k, v) :: kvs) ((k, d) :: ds)
def OwOk (K : PySem.W.Frag) (H : Hp) (A : List Addr) (a : Addr) : Ow → Prop
  | .lst ds => ∃ xs, H a = some (.lst xs) ∧ DdAll K H A xs ds
  | .dic kvs => ∃ ys, H a = some (.dK ys) ∧ DkAll K H A ys kvs
  | .any o => H a = some o
  | .tab q => TabW H A a q
  | .err C d => ErrW K H A a C d
  | .ins C fws => ∃ dx fs, H a = some (.ins C dx fs) ∧ FsAll K H A fs fws
  | .lsW ws => ∃ xs, H a = some (.lst xs) ∧ SWs K H A xs ws
  | .tpW ws => ∃ xs, H a = some (.tup xs) ∧ SWs K H A xs ws
  | .dcW kws => ∃ ys, H a = some (.dK ys) ∧ KwAll K H A ys kws
  | .cel w => ∃ v, H a = some (CellO a v) ∧ SW K H A v w
  | .clo F => H a = some (LamO a F) ∧ Rd H F.c (LamX.CodeO F.c F.qual) ∧ F.c ∉ A
structure MemOk (K : PySem.W.Frag) (H : Hp) (M : Mem) : Prop where
  nd : (ads M).Nodup
  ok : ∀ p ∈ M, OwOk K H (ads M) p.1 p.2
abbrev Ro := List (Option W)
structure StOk (K : PySem.W.Frag) (H : Hp) (A : List Addr) (ρ : Ro) (σ : L2.St) : Prop where
  len : σ.length = ρ.length
  at_ : ∀ (i : Nat) (w : W), ρ[i]? = some (some w) → ∃ v, σ[i]? = some (some v) ∧ SW K H A v w
structure Ok (K : PySem.W.Frag) (H : Hp) (ρ : Ro) (M : Mem) (σ : L2.St) : Prop where
  mem : MemOk K H M
  st : StOk K H (ads M) ρ σ
theorem TabW.mv {H H' : Hp} {A A' : List Addr} {a : Addr} {q : Str} (m : Mv H H' A A') (e : H a = H' a) (h : TabW H A a q) : TabW H' A' a q := by
  obtain ⟨ps, h1, h2, h3⟩ := h
  refine ⟨ps, e ▸ h1, h2, fun pos cv hc => ?_⟩
  obtain ⟨c, e1, r, n⟩ := h3 pos cv hc
  obtain ⟨r', n'⟩ := m.rd r n
  exact ⟨c, e1, r', n'⟩
theorem ErrW.mv {K : PySem.W.Frag} {H H' : Hp} {A A' : List Addr} {a C : Addr} {d : D} (m : Mv H H' A A') (e : H a = H' a) (h : ErrW K H A a C d) : ErrW K H' A' a C d := by
  obtain ⟨dx, v, fs, h1, r, n, hd⟩ := h
  obtain ⟨r', n'⟩ := m.rd r n
  exact ⟨dx, v, fs, e ▸ h1, r', n', hd.mv m⟩
theorem OwOk.ne {K : PySem.W.Frag} {H : Hp} {A : List Addr} {q : Addr} {o : Ow} (h : OwOk K H A q o) : H q ≠ none := by
  cases o with
  | lst ds => obtain ⟨xs, h1, h2⟩ := h; rw [h1]; simp
  | dic ds => obtain ⟨xs, h1, h2⟩ := h; rw [h1]; simp
  | any o => rw [show H q = some o from h]; simp
  | tab q => obtain ⟨ps, h1, _⟩ := h; rw [h1]; simp
  | err C d => obtain ⟨_, _, _, h1, _⟩ := h; rw [h1]; simp
  | ins C fws => obtain ⟨_, _, h1, _⟩ := h; rw [h1]; simp
  | lsW ws => obtain ⟨_, h1, _⟩ := h; rw [h1]; simp
  | tpW ws => obtain ⟨_, h1, _⟩ := h; rw [h1]; simp
  | dcW kws => obtain ⟨_, h1, _⟩ := h; rw [h1]; simp
  | cel w => obtain ⟨_, h1, _⟩ := h; rw [h1]; simp
  | clo F => obtain ⟨h1, _⟩ := h; rw [h1]; simp
theorem DkAll.mv {K : PySem.W.Frag} {H H' : Hp} {A A' : List Addr} (m : Mv H H' A A') : ∀ {vs : List (Key × V)} {ds : List (Key × D)}, DkAll K H A vs ds → DkAll K H' A' vs ds
  | _, _, .nil => .nil
  | _, _, .cons a r => .cons (a.mv m) (DkAll.mv m r)
theorem OwOk.mv {K : PySem.W.Frag} {H H' : Hp} {A A' : List Addr} {q : Addr} {o : Ow} (hq : H q = H' q) (m : Mv H H' A A') (h : OwOk K H A q o) : OwOk K H' A' q o := by
  cases o with
  | lst ds => obtain ⟨xs, h1, h2⟩ := h; exact ⟨xs, hq ▸ h1, h2.mv m⟩
  | dic ds => obtain ⟨xs, h1, h2⟩ := h; exact ⟨xs, hq ▸ h1, h2.mv m⟩
  | any o =>
    show H' q = some o
    rw [← hq]
    exact h
  | tab q => exact TabW.mv m hq h
  | err C d => exact ErrW.mv m hq h
  | ins C fws => obtain ⟨dx, fs, h1, h2⟩ := h; exact ⟨dx, fs, hq ▸ h1, h2.mv m⟩
  | lsW ws => obtain ⟨xs, h1, h2⟩ := h; exact ⟨xs, hq ▸ h1, h2.mv0 m⟩
  | tpW ws => obtain ⟨xs, h1, h2⟩ := h; exact ⟨xs, hq ▸ h1, h2.mv0 m⟩
  | dcW kws => obtain ⟨xs, h1, h2⟩ := h; exact ⟨xs, hq ▸ h1, h2.mv m⟩
  | cel w => obtain ⟨v, h1, h2⟩ := h; exact ⟨v, hq ▸ h1, h2.mv0 m⟩
  | clo F =>
    obtain ⟨h1, h2, h3⟩ := h
    obtain ⟨r, n⟩ := m.rd h2 h3
    exact ⟨hq ▸ h1, r, n⟩
/-- all but the owned stays -/
def Ext (A : List Addr) (H H' : Hp) : Prop := ∀ b o, H b = some o → b ∉ A → H' b = some o

section
variable {K : PySem.W.Frag} {H H1 H2 H' : Hp} {A A' : List Addr} {M M' : Mem} {ρ : Ro} {σ : L2.St}
theorem Ext.refl (A : List Addr) (H : Hp) : Ext A H H := fun _ _ h _ => h
theorem Ext.trans (a : Ext A H H1) (b : Ext A H1 H2) : Ext A H H2 := fun c o h n => b c o (a c o h n) n
theorem Ext.of (a : Same H H1) : Ext A H H1 := fun c o h _ => a c o h
theorem Ext.mv (e : Ext A H H') : Mv H H' A A := fun b u r n => ⟨e _ _ r n, n⟩
theorem Mv.sub (h : ∀ b ∈ A', b ∈ A) : Mv H H A A' := fun b u r n => ⟨r, fun z => n (h b z)⟩
theorem Mv.add {p : Addr} (h : H p = none) : Mv H H A (p :: A) := fun b u r n => ⟨r, fun z => by
  rcases List.mem_cons.mp z with e | z
  · subst e
    rw [h] at r
    cases r
  · exact n z⟩
theorem Mv.trans {H2 : Hp} {A2 : List Addr} (a : Mv H H' A A') (b : Mv H' H2 A' A2) : Mv H H2 A A2 := fun c u r n => let ⟨r', n'⟩ := a c u r n; b c u r' n'
theorem SW.mv (m : Mv H H' A A') {v : V} {w : W} (h : SW K H A v w) : SW K H' A' v w := h.mv0 m
theorem StOk.mv (m : Mv H H' A A') (h : StOk K H A ρ σ) : StOk K H' A' ρ σ := ⟨h.len, fun i w e => let ⟨v, e', s⟩ := h.at_ i w e; ⟨v, e', s.mv m⟩⟩
theorem MemOk.same (s : Same H H') (h : MemOk K H M) : MemOk K H' M := ⟨h.nd, fun p hp => by
  have m : Mv H H' (ads M) (ads M) := (Ext.of s).mv
  have := h.ok p hp
  refine this.mv ?_ m
  cases e : H p.1 with
  | none => exact absurd e this.ne
  | some u => exact (s _ _ e).symm⟩
theorem Ok.same (s : Same H H') (h : Ok K H ρ M σ) : Ok K H' ρ M σ := ⟨h.mem.same s, h.st.mv (Ext.of s).mv⟩
theorem MemOk.tracked (h : MemOk K H M) {a : Addr} (ha : a ∈ ads M) : H a ≠ none := by
  obtain ⟨p, hp, e⟩ := List.mem_map.mp ha
  have := (h.ok p hp).ne
  have e' : p.1 = a := e
  rw [e'] at this
  exact this
theorem MemOk.fresh (h : MemOk K H M) {p : Addr} (hp : H p = none) : p ∉ ads M := fun z => h.tracked z hp
theorem same_upd {p : Addr} {o : HO} (h : H p = none) : Same H (upd H p o) := fun b x e => by
  rw [upd_ne (ne_of_none e h)]; exact e
theorem Ok.set {i : Nat} {v : V} {w : W} (h : Ok K H ρ M σ) (s : SW K H (ads M) v w) : Ok K H (ρ.set i (some w)) M (σ.set i (some v)) := ⟨h.mem, by
  refine ⟨by rw [List.length_set, List.length_set]; exact h.st.len, fun j x e => ?_⟩
  rw [List.getElem?_set] at e
  by_cases hij : i = j
  · subst hij
    rw [if_pos rfl] at e
    by_cases hl : i < ρ.length
    · rw [if_pos hl] at e
      cases e
      exact ⟨v, by rw [List.getElem?_set_self (by rw [h.st.len]; exact hl)], s⟩
    · rw [if_neg hl] at e; cases e
  · rw [if_neg hij] at e
    obtain ⟨v', e', s'⟩ := h.st.at_ j x e
    exact ⟨v', by rw [List.getElem?_set_ne hij]; exact e', s'⟩⟩
end

/-! ### a piece of syntax by what it does, whatever is wanted -/
section
variable (X : Cx)
@[irreducible] def rd (e : Expr) : TE := fun σ H Q => ∀ pins s, L2.Inv X pins σ H s → wpAny (model X.prog X.w) X.A (eval e X.env) (EP X pins σ Q) X.xe s
def rt (e : Expr) : TT := fun σ H Q => ∀ pins s, L2.Inv X pins σ H s → wpAny (model X.prog X.w) X.A (isTrue e X.env (eval e X.env)) (TP X pins σ Q) X.xe s
def rw_ (e : Expr) : TT := fun σ H Q => ∀ whole pins s, L2.Inv X pins σ H s → wpAny (model X.prog X.w) X.A (isTrue e X.env whole) (TP X pins σ Q) X.xe s
@[irreducible] def ra (es : List Expr) : TA := fun σ H Q => ∀ pos pins s, L2.Inv X pins σ H s → wpAny (model X.prog X.w) X.A (spliced (backTo pos (starEach es X.env))) (AP X pins σ Q) X.xe s
@[irreducible] def rs (st : Stmt) : TS := fun D σ H => ∀ pins s, L2.Inv X pins σ H s → wpAny (model X.prog X.w) X.A (exec st X.env) (SP X pins D) X.xe s
@[irreducible] def rss (st : List Stmt) : TS := fun D σ H => ∀ pins s, L2.Inv X pins σ H s → wpAny (model X.prog X.w) X.A (execs st X.env) (SP X pins D) X.xe s
def rg (tg : Expr) : TG := fun v σ H Q => ∀ pins s u, L2.Inv X pins σ H s → RelV v u → wpAny (model X.prog X.w) X.A (assign tg X.env u) (fun _ s' => ∃ σ' H', L2.Inv X pins σ' H' s' ∧ Q σ' H') X.xe s
def ri (tg iter : Expr) : TI := fun σ H R => ∀ pins s, L2.Inv X pins σ H s → wpAny (model X.prog X.w) X.A (eval iter X.env) (fun v s1 => wpAny (model X.prog X.w) X.A (pyIter v) (PIE X pins σ tg R) X.xe s1) X.xe s
end
section
variable {X : Cx} {e : Expr} {es : List Expr} {st : Stmt} {sts : List Stmt} {tg iter : Expr} {σ : L2.St} {H : Hp}
theorem rd_i {Q : VK} (h : ∀ pins s, L2.Inv X pins σ H s → wpAny (model X.prog X.w) X.A (eval e X.env) (EP X pins σ Q) X.xe s) : rd X e σ H Q := by
  unfold rd
  exact h
theorem rd_e {Q : VK} (h : rd X e σ H Q) : ∀ pins s, L2.Inv X pins σ H s → wpAny (model X.prog X.w) X.A (eval e X.env) (EP X pins σ Q) X.xe s := by
  unfold rd at h
  exact h
theorem ra_i {Q : List V → Hp → Prop} (h : ∀ pos pins s, L2.Inv X pins σ H s → wpAny (model X.prog X.w) X.A (spliced (backTo pos (starEach es X.env))) (AP X pins σ Q) X.xe s) : ra X es σ H Q := by
  unfold ra
  exact h
theorem ra_e {Q : List V → Hp → Prop} (h : ra X es σ H Q) : ∀ pos pins s, L2.Inv X pins σ H s → wpAny (model X.prog X.w) X.A (spliced (backTo pos (starEach es X.env))) (AP X pins σ Q) X.xe s := by
  unfold ra at h
  exact h
theorem p_rd : PE X e (rd X e) := ⟨fun pins s σ H Q I h => rd_e h pins s I⟩
theorem p_rt : PT X e (rt X e) := ⟨fun pins s σ H Q I h => h pins s I⟩
theorem p_rw : PW X e (rw_ X e) := ⟨fun wh pins s σ H Q I h => h wh pins s I⟩
theorem p_ra : PA X es (ra X es) := ⟨fun pos pins s σ H Q I h => ra_e h pos pins s I⟩
theorem rs_i {E : Ends} (h : ∀ pins s, L2.Inv X pins σ H s → wpAny (model X.prog X.w) X.A (exec st X.env) (SP X pins E) X.xe s) : rs X st E σ H := by
  unfold rs
  exact h
theorem rs_e {E : Ends} (h : rs X st E σ H) : ∀ pins s, L2.Inv X pins σ H s → wpAny (model X.prog X.w) X.A (exec st X.env) (SP X pins E) X.xe s := by
  unfold rs at h
  exact h
theorem rss_i {E : Ends} (h : ∀ pins s, L2.Inv X pins σ H s → wpAny (model X.prog X.w) X.A (execs sts X.env) (SP X pins E) X.xe s) : rss X sts E σ H := by
  unfold rss
  exact h
theorem rss_e {E : Ends} (h : rss X sts E σ H) : ∀ pins s, L2.Inv X pins σ H s → wpAny (model X.prog X.w) X.A (execs sts X.env) (SP X pins E) X.xe s := by
  unfold rss at h
  exact h
theorem p_rs : PS X st (rs X st) := ⟨fun pins s σ H Q I h => rs_e h pins s I⟩
theorem p_rss : PSs X sts (rss X sts) := ⟨fun pins s σ H Q I h => rss_e h pins s I⟩
theorem p_rg : PG X tg (rg X tg) := ⟨fun pins s σ H v u Q I r h => h pins s u I r⟩
theorem p_ri : PI X tg iter (ri X tg iter) := ⟨fun pins s σ H Q I h => h pins s I⟩
theorem of_pe {t : TE} {Q : VK} (h : PE X e t) (q : t σ H Q) : rd X e σ H Q := rd_i fun pins s I => h.run pins s σ H Q I q
theorem of_pt {t : TT} {Q : Bool → Hp → Prop} (h : PT X e t) (q : t σ H Q) : rt X e σ H Q := fun pins s I => h.run pins s σ H Q I q
theorem of_pw {t : TT} {Q : Bool → Hp → Prop} (h : PW X e t) (q : t σ H Q) : rw_ X e σ H Q := fun wh pins s I => h.run wh pins s σ H Q I q
theorem of_pa {t : TA} {Q : List V → Hp → Prop} (h : PA X es t) (q : t σ H Q) : ra X es σ H Q := ra_i fun pos pins s I => h.run pos pins s σ H Q I q
theorem of_ps {t : TS} {E : Ends} (h : PS X st t) (q : t E σ H) : rs X st E σ H := rs_i fun pins s I => h.run pins s σ H E I q
theorem of_pss {t : TS} {E : Ends} (h : PSs X sts t) (q : t E σ H) : rss X sts E σ H := rss_i fun pins s I => h.run pins s σ H E I q
theorem of_pg {t : TG} {v : V} {Q : L2.St → Hp → Prop} (h : PG X tg t) (q : t v σ H Q) : rg X tg v σ H Q := fun pins s u I r => h.run pins s σ H v u Q I r q
theorem of_pi {t : TI} {R : It → Hp → Prop} (h : PI X tg iter t) (q : t σ H R) : ri X tg iter σ H R := fun pins s I => h.run pins s σ H R I q
end

/-! ### pure evaluation: nothing that stood changes -/
section
variable (X : Cx)
def EvD (e : Expr) (ρ : Ro) (M : Mem) (w : W) : Prop := ∀ σ H Q, Ok X.K H ρ M σ → (∀ v H', Same H H' → SW X.K H' (ads M) v w → Q v H') → rd X e σ H Q
/-- a new list -/
def EvN (e : Expr) (ρ : Ro) (M : Mem) (ds : List D) : Prop := ∀ σ H Q, Ok X.K H ρ M σ → (∀ p xs H', H p = none → Same H H' → H' p = some (.lst xs) → DdAll X.K H' (p :: ads M) xs ds → Q (.ref p) H') → rd X e σ H Q
/-- a list that may be read, owned or not; a tuple -/
def EvL (e : Expr) (ρ : Ro) (M : Mem) (ds : List D) : Prop := ∀ σ H Q, Ok X.K H ρ M σ → (∀ a xs H', Same H H' → SqL X.K H' a xs → DdAll X.K H' (ads M) xs ds → Q (.ref a) H') → rd X e σ H Q
def EvT (e : Expr) (ρ : Ro) (M : Mem) (ds : List D) : Prop := ∀ σ H Q, Ok X.K H ρ M σ → (∀ a xs H', Same H H' → SqT X.K H' a xs → DdAll X.K H' (ads M) xs ds → Q (.ref a) H') → rd X e σ H Q
def EtD (e : Expr) (ρ : Ro) (M : Mem) (b : Bool) : Prop := ∀ σ H Q, Ok X.K H ρ M σ → (∀ H', Same H H' → Q b H') → rt X e σ H Q
def EwD (e : Expr) (ρ : Ro) (M : Mem) (b : Bool) : Prop := ∀ σ H Q, Ok X.K H ρ M σ → (∀ H', Same H H' → Q b H') → rw_ X e σ H Q
def EaD (es : List Expr) (ρ : Ro) (M : Mem) (ws : List W) : Prop := ∀ σ H Q, Ok X.K H ρ M σ → (∀ vs H', Same H H' → SWs X.K H' (ads M) vs ws → Q vs H') → ra X es σ H Q
/-- evaluation that may turn what is owned; Φ: what is wanted -/
def Ev (e : Expr) (ρ : Ro) (M : Mem) (Φ : W → Mem → Prop) : Prop := ∀ σ H Q, Ok X.K H ρ M σ →
  (∀ w M' v H', Φ w M' → ads M' = ads M → Ext (ads M) H H' → MemOk X.K H' M' → SW X.K H' (ads M) v w → Q v H') → rd X e σ H Q
def Ea (es : List Expr) (ρ : Ro) (M : Mem) (Φ : List W → Mem → Prop) : Prop := ∀ σ H Q, Ok X.K H ρ M σ →
  (∀ ws M' vs H', Φ ws M' → ads M' = ads M → Ext (ads M) H H' → MemOk X.K H' M' → SWs X.K H' (ads M) vs ws → Q vs H') → ra X es σ H Q
end
section
variable {X : Cx} {K : PySem.W.Frag} {H H' : Hp} {A A' : List Addr} {e : Expr} {es : List Expr} {ρ : Ro} {M M' : Mem} {w : W} {ws : List W}
theorem SWs.mv (m : Mv H H' A A') : ∀ {vs : List V} {ws : List W}, SWs K H A vs ws → SWs K H' A' vs ws
  | _, _, .nil => .nil
  | _, _, .cons a r => .cons (a.mv m) (SWs.mv m r)
theorem Ok.ext {σ : L2.St} (h : Ok K H ρ M σ) (ea : ads M' = ads M) (x : Ext (ads M) H H') (m : MemOk K H' M') : Ok K H' ρ M' σ := ⟨m, by rw [ea]; exact h.st.mv x.mv⟩
theorem EvD.ev {Φ : W → Mem → Prop} (h : EvD X e ρ M w) (hΦ : Φ w M) : Ev X e ρ M Φ := fun σ H Q ok q => h σ H Q ok fun v H' s r => q w M v H' hΦ rfl (Ext.of s) (ok.mem.same s) r
theorem EaD.ea {Φ : List W → Mem → Prop} (h : EaD X es ρ M ws) (hΦ : Φ ws M) : Ea X es ρ M Φ := fun σ H Q ok q => h σ H Q ok fun v H' s r => q ws M v H' hΦ rfl (Ext.of s) (ok.mem.same s) r
theorem EvN.d {ds : List D} (h : EvN X e ρ M ds) : EvD X e ρ M (.dat (.list ds)) := fun σ H Q ok q => h σ H Q ok fun p xs H' n s hp r =>
  q _ H' s (.lst (.inl hp) (ok.mem.fresh n) (r.mv (Mv.sub fun b hb => List.mem_cons_of_mem _ hb)))
theorem EvN.l {ds : List D} (h : EvN X e ρ M ds) : EvL X e ρ M ds := fun σ H Q ok q => h σ H Q ok fun p xs H' n s hp r => q p xs H' s (.of hp) (r.mv (Mv.sub fun b hb => List.mem_cons_of_mem _ hb))
/-- what a datum list, a datum tuple reads as -/
theorem Dd.l {v : V} {ds : List D} (h : Dd K H A v (.list ds)) : ∃ a xs, v = .ref a ∧ SqL K H a xs ∧ DdAll K H A xs ds := by
  cases h with
  | lst r n a => exact ⟨_, _, rfl, .inl r, a⟩
  | lstK r a => exact ⟨_, _, rfl, .inr (by rcases r with (r | ⟨o, r⟩) | r; exact (nomatch r); exact (nomatch r); exact r), a⟩
theorem Dd.t {v : V} {ds : List D} (h : Dd K H A v (.tuple ds)) : ∃ a xs, v = .ref a ∧ SqT K H a xs ∧ DdAll K H A xs ds := by
  cases h with
  | tup r n a => exact ⟨_, _, rfl, .inl r, a⟩
  | tupK r a => exact ⟨_, _, rfl, .inr (by rcases r with (r | ⟨o, r⟩) | r; exact (nomatch r); exact (nomatch r); exact r), a⟩
theorem Dd.int_of {v : V} {i : Int} (h : Dd K H A v (.int i)) : v = .int i := by cases h; rfl
theorem Dd.bl_of {v : V} {b : Bool} (h : Dd K H A v (.bool b)) : v = .bl b := by cases h; rfl
theorem Dd.str_of {v : V} {x : Str} (h : Dd K H A v (.str x)) : v = .str x := by cases h; rfl
theorem EvD.l {ds : List D} (h : EvD X e ρ M (.dat (.list ds))) : EvL X e ρ M ds := fun σ H Q ok q => h σ H Q ok fun v H' s r => by
  obtain ⟨a, xs, rfl, h1, h2⟩ := Dd.l r
  exact q a xs H' s h1 h2
theorem EvD.t {ds : List D} (h : EvD X e ρ M (.dat (.tuple ds))) : EvT X e ρ M ds := fun σ H Q ok q => h σ H Q ok fun v H' s r => by
  obtain ⟨a, xs, rfl, h1, h2⟩ := Dd.t r
  exact q a xs H' s h1 h2
/-- an owned list, read -/
theorem EvD.own {p : Addr} {ds : List D} (h : EvD X e ρ M (.raw (.ref p))) (hm : (p, Ow.lst ds) ∈ M) : EvL X e ρ M ds := fun σ H Q ok q => h σ H Q ok fun v H' s r => by
  have r' : v = .ref p := r
  subst r'
  obtain ⟨xs, h1, h2⟩ := (ok.mem.same s).ok _ hm
  exact q p xs H' s (.of h1) h2
theorem DdAll.length : ∀ {xs : List V} {ds : List D}, DdAll K H A xs ds → xs.length = ds.length
  | _, _, .nil => rfl
  | _, _, .cons _ r => by rw [List.length_cons, List.length_cons, DdAll.length r]
theorem DdAll.get' : ∀ {xs : List V} {ds : List D} {i : Nat} {d : D}, DdAll K H A xs ds → ds[i]? = some d → ∃ x, xs[i]? = some x ∧ Dd K H A x d
  | _, _, _, _, .nil, e => by simp at e
  | _, _, 0, _, .cons r _, e => by simp at e; subst e; exact ⟨_, rfl, r⟩
  | _, _, i + 1, x, .cons _ t, e => DdAll.get' (i := i) t (by simpa using e)
theorem DdAll.append : ∀ {xs ys : List V} {ds es : List D}, DdAll K H A xs ds → DdAll K H A ys es → DdAll K H A (xs ++ ys) (ds ++ es)
  | _, _, _, _, .nil, s => s
  | _, _, _, _, .cons r t, s => .cons r (DdAll.append t s)
theorem DdAll.take : ∀ {xs : List V} {ds : List D} (n : Nat), DdAll K H A xs ds → DdAll K H A (xs.take n) (ds.take n)
  | _, _, 0, _ => .nil
  | _, _, _ + 1, .nil => .nil
  | _, _, n + 1, .cons r t => .cons r (DdAll.take n t)
theorem DdAll.drop : ∀ {xs : List V} {ds : List D} (n : Nat), DdAll K H A xs ds → DdAll K H A (xs.drop n) (ds.drop n)
  | _, _, 0, r => r
  | _, _, _ + 1, .nil => .nil
  | _, _, n + 1, .cons _ t => DdAll.drop n t
theorem DdAll.set {v : V} {d : D} (r : Dd K H A v d) : ∀ {xs : List V} {ds : List D} (i : Nat), DdAll K H A xs ds → DdAll K H A (xs.set i v) (ds.set i d)
  | _, _, _, .nil => .nil
  | _, _, 0, .cons _ t => .cons r t
  | _, _, i + 1, .cons q t => .cons q (DdAll.set r i t)
theorem DdAll.reverse : ∀ {xs : List V} {ds : List D}, DdAll K H A xs ds → DdAll K H A xs.reverse ds.reverse
  | _, _, .nil => .nil
  | _, _, .cons r t => by rw [List.reverse_cons, List.reverse_cons]; exact (DdAll.reverse t).append (.cons r .nil)
theorem DdAll.of_ints : ∀ (ns : List Int), DdAll K H A (ns.map V.int) (ns.map .int)
  | [] => .nil
  | n :: ns => .cons (.int n) (DdAll.of_ints ns)
theorem DdAll.bools : ∀ {xs : List V} {bs : List Bool}, DdAll K H A xs (bs.map .bool) → xs = bs.map V.bl
  | [], [], _ => rfl
  | _, n :: ns, .cons r t => by rw [r.bl_of, DdAll.bools (bs := ns) t]; rfl
theorem DdAll.strs : ∀ {xs : List V} {bs : List Str}, DdAll K H A xs (bs.map .str) → xs = bs.map V.str
  | [], [], _ => rfl
  | _, n :: ns, .cons r t => by rw [r.str_of, DdAll.strs (bs := ns) t]; rfl
theorem SWs.dats : ∀ {vs : List V} {ds : List D}, SWs K H A vs (ds.map .dat) → DdAll K H A vs ds
  | [], [], _ => .nil
  | _, d :: ds, .cons r t => .cons r (SWs.dats (ds := ds) t)
end

/-! ### deep data as the library reads it -/
section
variable {K : PySem.W.Frag} {H : Hp} {A : List Addr}
mutual
theorem Dd.dp : ∀ {v : V} {d : D}, Dd K H A v d → d.hasDict = false → Dp K H v d
  | _, _, .non, _ => .non
  | _, _, .bl b, _ => .bl b
  | _, _, .int i, _ => .int i
  | _, _, .str x, _ => .str x
  | _, _, .lst r n a, h => .lst (.inl r) (DdAll.dp a (by simpa [PyData.hasDict] using h))
  | _, _, .lstK r a, h => .lst (.inr (by rcases r with (r | ⟨o, r⟩) | r; exact (nomatch r); exact (nomatch r); exact r)) (DdAll.dp a (by simpa [PyData.hasDict] using h))
  | _, _, .tup r n a, h => .tup (.inl r) (DdAll.dp a (by simpa [PyData.hasDict] using h))
  | _, _, .tupK r a, h => .tup (.inr (by rcases r with (r | ⟨o, r⟩) | r; exact (nomatch r); exact (nomatch r); exact r)) (DdAll.dp a (by simpa [PyData.hasDict] using h))
  | _, _, .dic r n a, h => by simp [PyData.hasDict] at h
theorem DdAll.dp : ∀ {vs : List V} {ds : List D}, DdAll K H A vs ds → PyData.hasDictAll ds = false → DpAll K H vs ds
  | _, _, .nil, _ => .nil
  | _, _, .cons a r, h => by
    simp only [PyData.hasDictAll, Bool.or_eq_false_iff] at h
    exact .cons (Dd.dp a h.1) (DdAll.dp r h.2)
end
end
end XB

/-! XD: rules for expressions. -/
namespace XB
open PySem PySem.Spec PyProof.Rows L2
section
variable {X : Cx} {ρ : Ro} {M : Mem} {a b c e : Expr} {es : List Expr} {pos p : Pos} {w wa wb : W} {i j : Int}

/-! ### names, constants -/
theorem ev_v (i : Nat) {x : Str} {w : W} (h : ρ[i]? = some (some w) := by rfl) (hN : X.N[i]? = some x := by rfl) (hv : Vis X.env.scope x := by first | exact Or.inl rfl | exact Or.inr (Or.inl rfl) | exact Or.inr (Or.inr rfl))
    (hd : (x == ("__debug__" : Str)) = false := by decide) (hcd : (x == ("__classdict__" : Str)) = false := by decide) : EvD X (.Name x pos) ρ M w := fun σ H Q ok q => by
  obtain ⟨v, e, s⟩ := ok.st.at_ i w h
  exact of_pe (pe_var hN hv hd hcd) ⟨v, e, q v H (Same.refl H) s⟩
theorem ev_int {k} : EvD X (.Constant (.int i) k pos) ρ M (.dat (.int i)) := fun σ H Q ok q => of_pe pe_int (q _ H (Same.refl H) (.int i))
theorem ev_bl {k} {b : Bool} : EvD X (.Constant (.bool b) k pos) ρ M (.dat (.bool b)) := fun σ H Q ok q => of_pe pe_bl (q _ H (Same.refl H) (.bl b))
theorem ev_non {k} : EvD X (.Constant .none k pos) ρ M (.dat .none) := fun σ H Q ok q => of_pe pe_non (q _ H (Same.refl H) .non)
theorem ev_str {k} {x : String} : EvD X (.Constant (.str x) k pos) ρ M (.dat (.str x)) := fun σ H Q ok q => of_pe pe_str (q _ H (Same.refl H) (.str x))
/-! ### two operands -/
theorem ev_bin {op : Operator} {r : R2} (ho : OpR X (binaryOp op) r) (ha : EvD X a ρ M wa) (hb : EvD X b ρ M wb)
    (hr : ∀ H x y (Q : VK), MemOk X.K H M → SW X.K H (ads M) x wa → SW X.K H (ads M) y wb → (∀ v H', Same H H' → SW X.K H' (ads M) v w → Q v H') → r x y H Q) : EvD X (.BinOp a op b pos) ρ M w := fun σ H Q ok q =>
  of_pe (pe_op ho p_rd p_rd) (ha σ H _ ok fun x H1 s1 r1 => hb σ H1 _ (ok.same s1) fun y H2 s2 r2 =>
    hr H2 x y Q (ok.mem.same (s1.trans s2)) (r1.mv (Ext.of s2).mv) r2 fun v H' s3 r3 => q v H' ((s1.trans s2).trans s3) r3)
theorem ev_cmp {op : CmpOp} {r : R2} (ho : OpR X (compareOp op) r) (hm : behindInMarks op b = false) (ha : EvD X a ρ M wa) (hb : EvD X b ρ M wb)
    (hr : ∀ H x y (Q : VK), MemOk X.K H M → SW X.K H (ads M) x wa → SW X.K H (ads M) y wb → (∀ v H', Same H H' → SW X.K H' (ads M) v w → Q v H') → r x y H Q) : EvD X (.Compare a [op] [b] pos) ρ M w := fun σ H Q ok q =>
  of_pe (pe_cmpR ho p_rd p_rd hm) (ha σ H _ ok fun x H1 s1 r1 => hb σ H1 _ (ok.same s1) fun y H2 s2 r2 =>
    hr H2 x y Q (ok.mem.same (s1.trans s2)) (r1.mv (Ext.of s2).mv) r2 fun v H' s3 r3 => q v H' ((s1.trans s2).trans s3) r3)
theorem ev_opI {op : Operator} {C : Int → Int → Prop} {g : Int → Int → Int} (ho : OpR X (binaryOp op) (rI C fun i j => .int (g i j))) (ha : EvD X a ρ M (.dat (.int i))) (hb : EvD X b ρ M (.dat (.int j))) (hc : C i j) :
    EvD X (.BinOp a op b pos) ρ M (.dat (.int (g i j))) := ev_bin ho ha hb fun H x y Q _ rx ry q => ⟨i, j, Dd.int_of rx, Dd.int_of ry, hc, q _ H (Same.refl H) (.int _)⟩
theorem ev_op0 {op : Operator} {g : Int → Int → Int} (ho : OpR X (binaryOp op) (rI0 fun i j => .int (g i j))) (ha : EvD X a ρ M (.dat (.int i))) (hb : EvD X b ρ M (.dat (.int j))) :
    EvD X (.BinOp a op b pos) ρ M (.dat (.int (g i j))) := ev_bin ho ha hb fun H x y Q _ rx ry q => ⟨i, j, Dd.int_of rx, Dd.int_of ry, q _ H (Same.refl H) (.int _)⟩
theorem ev_cmpI {op : CmpOp} {g : Int → Int → Bool} (ho : OpR X (compareOp op) (rI0 fun i j => .bl (g i j))) (ha : EvD X a ρ M (.dat (.int i))) (hb : EvD X b ρ M (.dat (.int j))) (hm : behindInMarks op b = false := by first | exact nobehind _ (by decide) (by decide) | rfl) :
    EvD X (.Compare a [op] [b] pos) ρ M (.dat (.bool (g i j))) := ev_cmp ho hm ha hb fun H x y Q _ rx ry q => ⟨i, j, Dd.int_of rx, Dd.int_of ry, q _ H (Same.refl H) (.bl _)⟩
abbrev ev_add (ha : EvD X a ρ M (.dat (.int i))) (hb : EvD X b ρ M (.dat (.int j))) := ev_op0 (pos := pos) op_add ha hb
abbrev ev_sub (ha : EvD X a ρ M (.dat (.int i))) (hb : EvD X b ρ M (.dat (.int j))) := ev_op0 (pos := pos) op_sub ha hb
abbrev ev_mul (ha : EvD X a ρ M (.dat (.int i))) (hb : EvD X b ρ M (.dat (.int j))) (hc : CMul i j) := ev_opI (pos := pos) op_mul ha hb hc
abbrev ev_mod (ha : EvD X a ρ M (.dat (.int i))) (hb : EvD X b ρ M (.dat (.int j))) (hc : 0 < j) := ev_opI (pos := pos) op_mod ha hb hc
abbrev ev_fdiv (ha : EvD X a ρ M (.dat (.int i))) (hb : EvD X b ρ M (.dat (.int j))) (hc : CDiv i j) := ev_opI (pos := pos) op_fdiv ha hb hc
abbrev ev_pow (ha : EvD X a ρ M (.dat (.int i))) (hb : EvD X b ρ M (.dat (.int j))) (hc : CPow i j) := ev_opI (pos := pos) op_pow ha hb hc
theorem ev_ge (ha : EvD X a ρ M (.dat (.int i))) (hb : EvD X b ρ M (.dat (.int j))) : EvD X (.Compare a [.GtE] [b] pos) ρ M (.dat (.bool (decide (j ≤ i)))) := ev_cmpI op_ge ha hb
/-- == and != of ints, bools, texts -/
theorem ev_eqI (ha : EvD X a ρ M (.dat (.int i))) (hb : EvD X b ρ M (.dat (.int j))) : EvD X (.Compare a [.Eq] [b] pos) ρ M (.dat (.bool (decide (i = j)))) :=
  ev_cmp op_eq (nobehind _ (by decide) (by decide)) ha hb fun H x y Q _ rx ry q => by
    obtain rfl := Dd.int_of rx
    obtain rfl := Dd.int_of ry
    refine ⟨rfl, ?_⟩
    have e : decide (V.int i = V.int j) = decide (i = j) := by
      by_cases h : i = j
      · rw [decide_eq_true h, decide_eq_true (by rw [h])]
      · rw [decide_eq_false h, decide_eq_false fun z => h (V.int.inj z)]
    rw [e]
    exact q _ H (Same.refl H) (.bl _)
/-! ### one operand -/
theorem ev_neg (ha : EvD X a ρ M (.dat (.int i))) : EvD X (.UnaryOp .USub a pos) ρ M (.dat (.int (-i))) := fun σ H Q ok q =>
  of_pe (pe_un un_neg p_rd) (ha σ H _ ok fun x H1 s1 r1 => ⟨i, Dd.int_of r1, q _ H1 s1 (.int _)⟩)
theorem ev_not {b : Bool} (ha : EvD X a ρ M (.dat (.bool b))) : EvD X (.UnaryOp .Not a pos) ρ M (.dat (.bool (!b))) := fun σ H Q ok q =>
  of_pe (pe_not p_rd) (ha σ H _ ok fun x H1 s1 r1 => ⟨b, Dd.bl_of r1, q _ H1 s1 (.bl _)⟩)
def isN : D → Bool
  | .none => true
  | _ => false
/-! ### tests -/
theorem et_of {b : Bool} (h : EvD X e ρ M (.dat (.bool b))) (he : ∀ whole, isTrue e X.env whole = (do let v ← whole; standAt e.pos; holding [v] (truthy v)) := by intro _; rfl) : EtD X e ρ M b := fun σ H Q ok q =>
  of_pt (pt_val p_rd he) (h σ H _ ok fun x H1 s1 r1 => ⟨b, Dd.bl_of r1, q H1 s1⟩)
theorem et_cmp {op : CmpOp} {r : R2} {k : Bool} (ho : OpR X (compareOp op) r) (hm : behindInMarks op b = false) (ha : EvD X a ρ M wa) (hb : EvD X b ρ M wb)
    (hr : ∀ H x y (Q : VK), MemOk X.K H M → SW X.K H (ads M) x wa → SW X.K H (ads M) y wb → (∀ H', Same H H' → Q (.bl k) H') → r x y H Q) : EtD X (.Compare a [op] [b] pos) ρ M k := fun σ H Q ok q =>
  of_pt (pt_cmpR ho p_rd p_rd hm) (ha σ H _ ok fun x H1 s1 r1 => hb σ H1 _ (ok.same s1) fun y H2 s2 r2 =>
    hr H2 x y _ (ok.mem.same (s1.trans s2)) (r1.mv (Ext.of s2).mv) r2 fun H' s3 => ⟨k, rfl, q H' ((s1.trans s2).trans s3)⟩)
theorem et_cmpI {op : CmpOp} {g : Int → Int → Bool} (ho : OpR X (compareOp op) (rI0 fun i j => .bl (g i j))) (ha : EvD X a ρ M (.dat (.int i))) (hb : EvD X b ρ M (.dat (.int j))) (hm : behindInMarks op b = false := by first | exact nobehind _ (by decide) (by decide) | rfl) :
    EtD X (.Compare a [op] [b] pos) ρ M (g i j) := et_cmp ho hm ha hb fun H x y Q _ rx ry q => ⟨i, j, Dd.int_of rx, Dd.int_of ry, q H (Same.refl H)⟩
theorem et_lt (ha : EvD X a ρ M (.dat (.int i))) (hb : EvD X b ρ M (.dat (.int j))) : EtD X (.Compare a [.Lt] [b] pos) ρ M (decide (i < j)) := et_cmpI op_lt ha hb
theorem et_gt (ha : EvD X a ρ M (.dat (.int i))) (hb : EvD X b ρ M (.dat (.int j))) : EtD X (.Compare a [.Gt] [b] pos) ρ M (decide (j < i)) := et_cmpI op_gt ha hb
theorem et_neI (ha : EvD X a ρ M (.dat (.int i))) (hb : EvD X b ρ M (.dat (.int j))) : EtD X (.Compare a [.NotEq] [b] pos) ρ M (!decide (i = j)) :=
  et_cmp op_ne (nobehind _ (by decide) (by decide)) ha hb fun H x y Q _ rx ry q => by
    obtain rfl := Dd.int_of rx
    obtain rfl := Dd.int_of ry
    refine ⟨rfl, ?_⟩
    have e : decide (V.int i = V.int j) = decide (i = j) := by
      by_cases h : i = j
      · rw [decide_eq_true h, decide_eq_true (by rw [h])]
      · rw [decide_eq_false h, decide_eq_false fun z => h (V.int.inj z)]
    rw [e]
    exact q H (Same.refl H)
theorem et_neS {x y : Str} (ha : EvD X a ρ M (.dat (.str x))) (hb : EvD X b ρ M (.dat (.str y))) : EtD X (.Compare a [.NotEq] [b] pos) ρ M (!decide (x = y)) :=
  et_cmp op_ne (nobehind _ (by decide) (by decide)) ha hb fun H v u Q _ rx ry q => by
    obtain rfl := Dd.str_of rx
    obtain rfl := Dd.str_of ry
    refine ⟨rfl, ?_⟩
    have e : decide (V.str x = V.str y) = decide (x = y) := by
      by_cases h : x = y
      · rw [decide_eq_true h, decide_eq_true (by rw [h])]
      · rw [decide_eq_false h, decide_eq_false fun z => h (V.str.inj z)]
    rw [e]
    exact q H (Same.refl H)
theorem et_not {b : Bool} (ha : EtD X a ρ M b) : EtD X (.UnaryOp .Not a pos) ρ M (!b) := fun σ H Q ok q => of_pt (pt_not p_rt) (ha σ H _ ok fun H1 s1 => q H1 s1)
theorem EwD.t {b : Bool} (h : EwD X e ρ M b) : EtD X e ρ M b := fun σ H Q ok q pins s I => h σ H Q ok q _ pins s I
theorem ew_and1 {x : Bool} (ha : EtD X a ρ M x) : EwD X (.BoolOp .And [a] pos) ρ M x := fun σ H Q ok q => of_pw (pw_and1 p_rt) (ha σ H _ ok fun H1 s1 => q H1 s1)
theorem ew_or1 {x : Bool} (ha : EtD X a ρ M x) : EwD X (.BoolOp .Or [a] pos) ρ M x := fun σ H Q ok q => of_pw (pw_or1 p_rt) (ha σ H _ ok fun H1 s1 => q H1 s1)
theorem ew_and {x y : Bool} (ha : EtD X a ρ M x) (hb : x = true → EwD X (.BoolOp .And (b :: es) pos) ρ M y) : EwD X (.BoolOp .And (a :: b :: es) pos) ρ M (x && y) := fun σ H Q ok q =>
  of_pw (pw_and p_rt p_rw) (ha σ H _ ok fun H1 s1 => by
    cases x with
    | true => exact (if_pos rfl).symm ▸ hb rfl σ H1 _ (ok.same s1) fun H2 s2 => q H2 (s1.trans s2)
    | false => exact (if_neg Bool.false_ne_true).symm ▸ q H1 s1)
theorem ew_or {x y : Bool} (ha : EtD X a ρ M x) (hb : x = false → EwD X (.BoolOp .Or (b :: es) pos) ρ M y) : EwD X (.BoolOp .Or (a :: b :: es) pos) ρ M (x || y) := fun σ H Q ok q =>
  of_pw (pw_or p_rt p_rw) (ha σ H _ ok fun H1 s1 => by
    cases x with
    | true => exact (if_pos rfl).symm ▸ q H1 s1
    | false => exact (if_neg Bool.false_ne_true).symm ▸ hb rfl σ H1 _ (ok.same s1) fun H2 s2 => q H2 (s1.trans s2))
/-! ### and, or as values (bools); a if t else b -/
theorem ev_one {op} (ha : EvD X a ρ M w) : EvD X (.BoolOp op [a] pos) ρ M w := fun σ H Q ok q => of_pe (pe_one p_rd) (ha σ H _ ok q)
theorem ev_andV {x y : Bool} (ha : EvD X a ρ M (.dat (.bool x))) (hb : x = true → EvD X (.BoolOp .And (b :: es) pos) ρ M (.dat (.bool y))) : EvD X (.BoolOp .And (a :: b :: es) pos) ρ M (.dat (.bool (x && y))) := fun σ H Q ok q =>
  of_pe (pe_and p_rd p_rd) (ha σ H _ ok fun v H1 s1 r1 => ⟨x, Dd.bl_of r1, by
    cases x with
    | true => exact (if_pos rfl).symm ▸ hb rfl σ H1 _ (ok.same s1) fun v2 H2 s2 r2 => q v2 H2 (s1.trans s2) r2
    | false => exact (if_neg Bool.false_ne_true).symm ▸ q _ H1 s1 (.bl _)⟩)
theorem ev_if {x : Bool} (hc : EtD X c ρ M x) (ha : x = true → EvD X a ρ M w) (hb : x = false → EvD X b ρ M w) : EvD X (.IfExp c a b pos) ρ M w := fun σ H Q ok q =>
  of_pe (pe_ifExp p_rt p_rd p_rd) (hc σ H _ ok fun H1 s1 => by
    cases x with
    | true => exact (if_pos rfl).symm ▸ ha rfl σ H1 _ (ok.same s1) fun v H2 s2 r => q v H2 (s1.trans s2) r
    | false => exact (if_neg Bool.false_ne_true).symm ▸ hb rfl σ H1 _ (ok.same s1) fun v H2 s2 r => q v H2 (s1.trans s2) r)
/-! ### arguments, displays -/
theorem ea_nil : EaD X [] ρ M [] := fun σ H Q ok q => of_pa pa_nil (q [] H (Same.refl H) .nil)
theorem ea_cons {ws : List W} (ha : EvD X e ρ M w) (hr : EaD X es ρ M ws) (hs : starEach (e :: es) X.env = (false, eval e X.env) :: starEach es X.env := by rfl) : EaD X (e :: es) ρ M (w :: ws) := fun σ H Q ok q =>
  of_pa (pa_cons p_rd p_ra hs) (ha σ H _ ok fun v H1 s1 r1 => hr σ H1 _ (ok.same s1) fun vs H2 s2 r2 => q (v :: vs) H2 (s1.trans s2) (.cons (r1.mv (Ext.of s2).mv) r2))
theorem ev_tup {ds : List D} {k} (h : EaD X es ρ M (ds.map .dat)) (hl : ds.length ≤ sizeLine := by first | decide | (simp only [List.length_cons, List.length_nil, List.length_map]; decide)) : EvD X (.Tuple es k pos) ρ M (.dat (.tuple ds)) := fun σ H Q ok q =>
  of_pe (pe_tup p_ra) (h σ H _ ok fun vs H1 s1 r1 => ⟨by rw [r1.dats.length]; exact hl, fun p hp => q _ _ (s1.trans (same_upd hp)) (.tup (.inl upd_same) ((ok.mem.same s1).fresh hp) (r1.dats.mv (Ext.of (same_upd hp)).mv))⟩)
theorem en_lst {ds : List D} (h : EaD X es ρ M (ds.map .dat)) (hl : ds.length ≤ sizeLine := by first | decide | (simp only [List.length_cons, List.length_nil, List.length_map]; decide)) : EvN X (.List es pos) ρ M ds := fun σ H Q ok q =>
  of_pe (pe_lst p_ra) (h σ H _ ok fun vs H1 s1 r1 => ⟨by rw [r1.dats.length]; exact hl, fun p hp => q p vs _ (s1.free hp) (s1.trans (same_upd hp)) upd_same (r1.dats.mv ((Mv.add hp).trans (Ext.of (same_upd hp)).mv))⟩)

/-! ### items -/
theorem atI_dd {K : PySem.W.Frag} {H : Hp} {A : List Addr} {xs : List V} {ds : List D} {i : Int} {d : D} (h : DdAll K H A xs ds) (e : atI ds i = some d) : ∃ v, atI xs i = some v ∧ Dd K H A v d := by
  unfold atI at e ⊢
  rw [h.length]
  cases q : ixN ds.length i with
  | none => rw [q] at e; cases e
  | some j =>
    rw [q] at e
    exact h.get' e
theorem ev_ixL {ds : List D} {d : D} (ha : EvL X a ρ M ds) (hb : EvD X b ρ M (.dat (.int i))) (hi : atI ds i = some d) (hs : PlainIx b := by intro _ _; rfl) : EvD X (.Subscript a b pos) ρ M (.dat d) := fun σ H Q ok q =>
  of_pe (pe_ix ix_list p_rd p_rd hs) (ha σ H _ ok fun p xs H1 s1 h1 r1 => hb σ H1 _ (ok.same s1) fun y H2 s2 r2 => by
    obtain ⟨v, e, r⟩ := atI_dd (r1.mv (Ext.of s2).mv) hi
    exact ⟨p, xs, i, v, rfl, Dd.int_of r2, s2.seq h1, e, q v H2 (s1.trans s2) r⟩)
theorem Same.seqT {K : PySem.W.Frag} {H H' : Hp} {a : Addr} {xs : List V} (e : Same H H') (h : SqT K H a xs) : SqT K H' a xs := by
  rcases h with (h | ⟨o, h⟩) | h
  · exact .inl (.inl (e _ _ h))
  · exact .inl (.inr ⟨o, e _ _ h⟩)
  · exact .inr h
theorem ev_ixT {ds : List D} {d : D} (ha : EvT X a ρ M ds) (hb : EvD X b ρ M (.dat (.int i))) (hi : atI ds i = some d) (hs : PlainIx b := by intro _ _; rfl) : EvD X (.Subscript a b pos) ρ M (.dat d) := fun σ H Q ok q =>
  of_pe (pe_ix ix_tup p_rd p_rd hs) (ha σ H _ ok fun p xs H1 s1 h1 r1 => hb σ H1 _ (ok.same s1) fun y H2 s2 r2 => by
    obtain ⟨v, e, r⟩ := atI_dd (r1.mv (Ext.of s2).mv) hi
    exact ⟨p, xs, i, v, rfl, Dd.int_of r2, Same.seqT s2 h1, e, q v H2 (s1.trans s2) r⟩)

/-! ### calls of built-ins -/
theorem ev_cb {id : String} {x : Str} {r : List V → Hp → VK → Prop} {ws : List W} (hc : CallR X (.builtin id) r) (hm : X.mg x = none) (hv : bootBuiltins x = some (.builtin id)) (ha : EaD X (e :: es) ρ M ws)
    (hr : ∀ H vs (Q : VK), MemOk X.K H M → SWs X.K H (ads M) vs ws → (∀ v H', Same H H' → SW X.K H' (ads M) v w → Q v H') → r vs H Q) (hg : Gl X x := by rfl) (hn : x ≠ "__name__" := by decide) (hdb : (x == ("__debug__" : Str)) = false := by decide)
    (he : starEach (e :: es) X.env = (false, eval e X.env) :: starEach es X.env := by rfl) (hpl : (backTo pos (starEach es X.env)).any (·.1) = false := by rfl) : EvD X (.Call (.Name x p) (e :: es) [] pos) ρ M w := fun σ H Q ok q =>
  of_pe (pe_callB hc hg hm hv p_ra hn hdb he hpl) (ha σ H _ ok fun vs H1 s1 r1 => hr H1 vs Q (ok.mem.same s1) r1 fun v H2 s2 r2 => q v H2 (s1.trans s2) r2)
/-- one argument that is a list, a tuple to be read -/
theorem ea_l {ds : List D} {Q : List V → Hp → Prop} {σ : L2.St} {H : Hp} (h : EvL X e ρ M ds) (ok : Ok X.K H ρ M σ) (q : ∀ a xs H', Same H H' → SqL X.K H' a xs → DdAll X.K H' (ads M) xs ds → Q [.ref a] H') (hs : starEach [e] X.env = (false, eval e X.env) :: starEach [] X.env := by rfl) : ra X [e] σ H Q :=
  of_pa (pa_cons p_rd pa_nil hs) (h σ H _ ok fun a xs H1 s1 h1 r1 => q a xs H1 s1 h1 r1)
theorem ea_t {ds : List D} {Q : List V → Hp → Prop} {σ : L2.St} {H : Hp} (h : EvT X e ρ M ds) (ok : Ok X.K H ρ M σ) (q : ∀ a xs H', Same H H' → SqT X.K H' a xs → DdAll X.K H' (ads M) xs ds → Q [.ref a] H') (hs : starEach [e] X.env = (false, eval e X.env) :: starEach [] X.env := by rfl) : ra X [e] σ H Q :=
  of_pa (pa_cons p_rd pa_nil hs) (h σ H _ ok fun a xs H1 s1 h1 r1 => q a xs H1 s1 h1 r1)
theorem ev_lenL {ds : List D} (hm : X.mg "len" = none) (ha : EvL X e ρ M ds) (hg : Gl X "len" := by rfl) (hs : starEach [e] X.env = (false, eval e X.env) :: starEach [] X.env := by rfl) (hpl : (backTo pos (starEach [] X.env)).any (·.1) = false := by rfl) : EvD X (.Call (.Name "len" p) [e] [] pos) ρ M (.dat (.int (ds.length : Int))) := fun σ H Q ok q =>
  of_pe (pe_callB call_len_seq hg hm boot_len p_ra (by decide) (by decide) hs hpl) (ea_l ha ok (fun a xs H1 s1 h1 r1 => ⟨a, xs, rfl, .inl h1, by rw [r1.length]; exact q _ H1 s1 (.int _)⟩) hs)
theorem ev_lenT {ds : List D} (hm : X.mg "len" = none) (ha : EvT X e ρ M ds) (hg : Gl X "len" := by rfl) (hs : starEach [e] X.env = (false, eval e X.env) :: starEach [] X.env := by rfl) (hpl : (backTo pos (starEach [] X.env)).any (·.1) = false := by rfl) : EvD X (.Call (.Name "len" p) [e] [] pos) ρ M (.dat (.int (ds.length : Int))) := fun σ H Q ok q =>
  of_pe (pe_callB call_len_seq hg hm boot_len p_ra (by decide) (by decide) hs hpl) (ea_t ha ok (fun a xs H1 s1 h1 r1 => ⟨a, xs, rfl, .inr h1, by rw [r1.length]; exact q _ H1 s1 (.int _)⟩) hs)
theorem ev_all {bs : List Bool} (hc : X.calm = true) (hm : X.mg "all" = none) (ha : EvL X e ρ M (bs.map .bool)) (hg : Gl X "all" := by rfl) (hs : starEach [e] X.env = (false, eval e X.env) :: starEach [] X.env := by rfl) (hpl : (backTo pos (starEach [] X.env)).any (·.1) = false := by rfl) : EvD X (.Call (.Name "all" p) [e] [] pos) ρ M (.dat (.bool (bs.all id))) := fun σ H Q ok q =>
  of_pe (pe_callB (cr_all hc) hg hm (by decide +kernel) p_ra (by decide) (by decide) hs hpl) (ea_l ha ok (fun a xs H1 s1 h1 r1 => ⟨a, bs, rfl, by rw [← r1.bools]; exact h1, q _ H1 s1 (.bl _)⟩) hs)
theorem en_listT {ds : List D} (hm : X.mg "list" = none) (ha : EvT X e ρ M ds) (hg : Gl X "list" := by rfl) (hs : starEach [e] X.env = (false, eval e X.env) :: starEach [] X.env := by rfl) (hpl : (backTo pos (starEach [] X.env)).any (·.1) = false := by rfl) : EvN X (.Call (.Name "list" p) [e] [] pos) ρ M ds := fun σ H Q ok q =>
  of_pe (pe_callTy call_list_of hg hm (by decide +kernel) p_ra (by decide) (by decide) hs hpl) (ea_t ha ok (fun a xs H1 s1 h1 r1 => ⟨a, xs, rfl, .inr h1, fun l hl =>
    q l xs _ (s1.free hl) (s1.trans (same_upd hl)) upd_same (r1.mv ((Mv.add hl).trans (Ext.of (same_upd hl)).mv))⟩) hs)
theorem ev_abs (hm : X.mg "abs" = none) (ha : EvD X e ρ M (.dat (.int i))) (hg : Gl X "abs" := by rfl) (hs : starEach [e] X.env = (false, eval e X.env) :: starEach [] X.env := by rfl) (hpl : (backTo pos (starEach [] X.env)).any (·.1) = false := by rfl) : EvD X (.Call (.Name "abs" p) [e] [] pos) ρ M (.dat (.int (if i < 0 then -i else i))) := fun σ H Q ok q =>
  of_pe (pe_callB call_abs hg hm (by decide +kernel) (pa_cons p_rd pa_nil hs) (by decide) (by decide) hs hpl) (ha σ H _ ok fun v H1 s1 r1 => ⟨i, by rw [Dd.int_of r1], q _ H1 s1 (.int _)⟩)
theorem ev_intB {b : Bool} (hm : X.mg "int" = none) (ha : EvD X e ρ M (.dat (.bool b))) (hg : Gl X "int" := by rfl) (hs : starEach [e] X.env = (false, eval e X.env) :: starEach [] X.env := by rfl) (hpl : (backTo pos (starEach [] X.env)).any (·.1) = false := by rfl) : EvD X (.Call (.Name "int" p) [e] [] pos) ρ M (.dat (.int (if b = true then 1 else 0))) := fun σ H Q ok q =>
  of_pe (pe_callTy call_int1 hg hm (by decide +kernel) (pa_cons p_rd pa_nil hs) (by decide) (by decide) hs hpl) (ha σ H _ ok fun v H1 s1 r1 => .inr ⟨b, by rw [Dd.bl_of r1], by
    have := q (.int (if b = true then 1 else 0)) H1 s1 (.int _)
    cases b <;> exact this⟩)
theorem ev_max2 (hm : X.mg "max" = none) (ha : EaD X [a, b] ρ M [.dat (.int i), .dat (.int j)]) (hc : X.calm = true) (hg : Gl X "max" := by rfl) (he : starEach [a, b] X.env = (false, eval a X.env) :: starEach [b] X.env := by rfl) (hpl : (backTo pos (starEach [b] X.env)).any (·.1) = false := by rfl) :
    EvD X (.Call (.Name "max" p) [a, b] [] pos) ρ M (.dat (.int (max i j))) :=
  ev_cb (call_max2 hc) hm (by decide +kernel) ha (fun H vs Q _ r q => by
    cases r with
    | cons r1 r =>
      cases r with
      | cons r2 r =>
        cases r
        rw [Dd.int_of r1, Dd.int_of r2]
        refine ⟨i, j, rfl, ?_⟩
        have e : (if j > i then j else i) = max i j := by
          by_cases h : j > i
          · rw [if_pos h]; omega
          · rw [if_neg h]; omega
        rw [e]
        exact q _ H (Same.refl H) (.int _)) hg (by decide) (by decide) he hpl
theorem ev_min2 (hm : X.mg "min" = none) (ha : EaD X [a, b] ρ M [.dat (.int i), .dat (.int j)]) (hc : X.calm = true) (hg : Gl X "min" := by rfl) (he : starEach [a, b] X.env = (false, eval a X.env) :: starEach [b] X.env := by rfl) (hpl : (backTo pos (starEach [b] X.env)).any (·.1) = false := by rfl) :
    EvD X (.Call (.Name "min" p) [a, b] [] pos) ρ M (.dat (.int (min i j))) :=
  ev_cb (call_min2 hc) hm (by decide +kernel) ha (fun H vs Q _ r q => by
    cases r with
    | cons r1 r =>
      cases r with
      | cons r2 r =>
        cases r
        rw [Dd.int_of r1, Dd.int_of r2]
        refine ⟨i, j, rfl, ?_⟩
        have e : (if j < i then j else i) = min i j := by
          by_cases h : j < i
          · rw [if_pos h]; omega
          · rw [if_neg h]; omega
        rw [e]
        exact q _ H (Same.refl H) (.int _)) hg (by decide) (by decide) he hpl
end
end XB

/-! XE: contracts, calls, statements. -/
namespace XB
open PySem PySem.Spec PyProof.Rows L2

/-! ### contracts -/
/-- pure: C arguments result -/
def spP (K : PySem.W.Frag) (C : List W → W → Prop) : Sp := fun vs H Q _ => ∃ M ws w, MemOk K H M ∧ (∀ p ∈ M, ∃ o, p.2 = Ow.any o) ∧ SWs K H (ads M) vs ws ∧ C ws w ∧ ∀ v H', Same H H' → SW K H' (ads M) v w → Q v H'
/-- with effects on what is owned: C arguments memory wanted -/
abbrev Ct := List W → Mem → (W → Mem → Prop) → Prop
def spE (K : PySem.W.Frag) (C : Ct) : Sp := fun vs H Q _ => ∃ M ws Φ, MemOk K H M ∧ SWs K H (ads M) vs ws ∧ C ws M Φ ∧
  ∀ w M' v H', Φ w M' → ads M' = ads M → Ext (ads M) H H' → MemOk K H' M' → SW K H' (ads M) v w → Q v H'
theorem SWs.length {K : PySem.W.Frag} {H : Hp} {A : List Addr} : ∀ {vs : List V} {ws : List W}, SWs K H A vs ws → vs.length = ws.length
  | _, _, .nil => rfl
  | _, _, .cons _ r => congrArg Nat.succ r.length
section
variable {P : Program} {w : World} {K : PySem.W.Frag} {mg : Str → Option Value} {base : Heap} {k : Nat} {f : Addr} {fd : FuncData} {ps : List Str}
abbrev FnP (P : Program) (w : World) (K : PySem.W.Frag) (mg : Str → Option Value) (base : Heap) (k : Nat) (f : Addr) (fd : FuncData) (ps : List Str) (C : List W → W → Prop) : Prop := FnG P w K mg base CX0 k f fd ps (spP K C)
abbrev FnE (P : Program) (w : World) (K : PySem.W.Frag) (mg : Str → Option Value) (base : Heap) (k : Nat) (f : Addr) (fd : FuncData) (ps : List Str) (C : Ct) : Prop := FnG P w K mg base CX0 k f fd ps (spE K C)
end

/-- a def as it is called by its name: everything a call wants -/
structure Def (P : Program) (w : World) (K : PySem.W.Frag) (mg : Str → Option Value) (base : Heap) (k : Nat) (x : Str) (st : Stmt) (ps : List Str) (sp : Sp) : Prop where
  ex : ∃ (f : Addr) (fd : FuncData), FnG P w K mg base CX0 k f fd ps sp ∧ mg x = some (.ref f) ∧ PySem.W.keepIn K (.ref f) = true ∧ Binds K fd ps [] ∧ FunD K x x (defArgs st) (defBody st) (defScope st) [] [] f fd
abbrev DefP (P : Program) (w : World) (K : PySem.W.Frag) (mg : Str → Option Value) (base : Heap) (k : Nat) (x : Str) (st : Stmt) (ps : List Str) (C : List W → W → Prop) : Prop := Def P w K mg base k x st ps (spP K C)
abbrev DefE (P : Program) (w : World) (K : PySem.W.Frag) (mg : Str → Option Value) (base : Heap) (k : Nat) (x : Str) (st : Stmt) (ps : List Str) (C : Ct) : Prop := Def P w K mg base k x st ps (spE K C)
theorem Def.up {P : Program} {w : World} {K : PySem.W.Frag} {mg : Str → Option Value} {base : Heap} {j k : Nat} {x : Str} {st : Stmt} {ps : List Str} {sp : Sp} (F : Def P w K mg base j x st ps sp) (h : j ≤ k) : Def P w K mg base k x st ps sp := by
  obtain ⟨f, fd, G, r⟩ := F.ex
  exact ⟨f, fd, G.up h, r⟩

/-- what is owned, as it lies -/
theorem MemOk.any {K : PySem.W.Frag} {H : Hp} {M : Mem} (h : MemOk K H M) : ∃ M', ads M' = ads M ∧ MemOk K H M' ∧ ∀ p ∈ M', ∃ o, p.2 = Ow.any o := by
  have hv : ∀ p ∈ M, ∃ o, H p.1 = some o := fun p hp => by
    cases q : H p.1 with
    | none => exact absurd q (h.tracked (List.mem_map.mpr ⟨p, hp, rfl⟩))
    | some o => exact ⟨o, rfl⟩
  have ea : ads (M.map fun p => (p.1, Ow.any ((H p.1).getD (.lst [])))) = ads M := by
    unfold ads; rw [List.map_map]; rfl
  refine ⟨M.map fun p => (p.1, Ow.any ((H p.1).getD (.lst []))), ea, ⟨by rw [ea]; exact h.nd, fun p hp => ?_⟩, fun p hp => ?_⟩
  · obtain ⟨q, hq, rfl⟩ := List.mem_map.mp hp
    obtain ⟨o, e⟩ := hv q hq
    show H q.1 = some ((H q.1).getD (.lst []))
    rw [e]; rfl
  · obtain ⟨q, hq, rfl⟩ := List.mem_map.mp hp
    exact ⟨_, rfl⟩
section
variable {X : Cx} {ρ : Ro} {M : Mem} {e : Expr} {es : List Expr} {pos p : Pos} {w : W} {ws : List W} {k : Nat} {x : Str} {ps : List Str} {sd : Stmt}
/-- f(e, ..) pure -/
theorem ev_call {C : List W → W → Prop} (F : DefP X.prog X.w X.K X.mg X.base k x sd ps C) (hr : Room k X.A) (hg : Gd X.A) (ha : EaD X (e :: es) ρ M ws) (hC : C ws w) (hgl : Gl X x := by rfl) (hdb : (x == ("__debug__" : Str)) = false := by decide)
    (he : starEach (e :: es) X.env = (false, eval e X.env) :: starEach es X.env := by rfl) (hpl : (backTo pos (starEach es X.env)).any (·.1) = false := by rfl) : EvD X (.Call (.Name x p) (e :: es) [] pos) ρ M w := fun σ H Q ok q => by
  obtain ⟨f, fd, G, hm, hk, hb, _⟩ := F.ex
  refine of_pe (peG_call G hr hg hgl hm hk hb .nil pass0 p_ra hdb he hpl) (ha σ H _ ok fun vs H1 s1 r1 => ?_)
  rw [List.append_nil]
  obtain ⟨M', ea, m', hany⟩ := (ok.mem.same s1).any
  exact ⟨M', ws, w, m', hany, by rw [ea]; exact r1, hC, fun v H2 s2 r2 => q v H2 (s1.trans s2) (by rw [← ea]; exact r2)⟩
/-- f(e, ..) with effects -/
theorem Ev.call {C : Ct} {Φ : W → Mem → Prop} (F : DefE X.prog X.w X.K X.mg X.base k x sd ps C) (hr : Room k X.A) (hg : Gd X.A) (ha : Ea X (e :: es) ρ M fun ws M1 => C ws M1 Φ) (hgl : Gl X x := by rfl) (hdb : (x == ("__debug__" : Str)) = false := by decide)
    (he : starEach (e :: es) X.env = (false, eval e X.env) :: starEach es X.env := by rfl) (hpl : (backTo pos (starEach es X.env)).any (·.1) = false := by rfl) : Ev X (.Call (.Name x p) (e :: es) [] pos) ρ M Φ := fun σ H Q ok q => by
  obtain ⟨f, fd, G, hm, hk, hb, _⟩ := F.ex
  refine of_pe (peG_call G hr hg hgl hm hk hb .nil pass0 p_ra hdb he hpl) (ha σ H _ ok fun ws M1 vs H1 hC ea x1 m1 r1 => ?_)
  rw [List.append_nil]
  refine ⟨M1, ws, Φ, m1, by rw [ea]; exact r1, hC, fun w' M2 v H2 hΦ ea2 x2 m2 r2 => ?_⟩
  rw [ea] at ea2 x2 r2
  exact q w' M2 v H2 hΦ ea2 (x1.trans x2) m2 r2
/-! ### effects in arguments and operands -/
theorem Ea.nil {Φ : List W → Mem → Prop} (h : Φ [] M) : Ea X [] ρ M Φ := EaD.ea ea_nil h
theorem Ea.cons {Φ : List W → Mem → Prop} (h : Ev X e ρ M fun w M1 => Ea X es ρ M1 fun ws M2 => Φ (w :: ws) M2) (hs : starEach (e :: es) X.env = (false, eval e X.env) :: starEach es X.env := by rfl) : Ea X (e :: es) ρ M Φ := fun σ H Q ok q =>
  of_pa (pa_cons p_rd p_ra hs) (h σ H _ ok fun w M1 v H1 h1 ea1 x1 m1 r1 => h1 σ H1 _ (ok.ext ea1 x1 m1) fun ws M2 vs H2 h2 ea2 x2 m2 r2 => by
    rw [ea1] at ea2 x2 r2
    exact q (w :: ws) M2 (v :: vs) H2 h2 ea2 (x1.trans x2) m2 (.cons (r1.mv x2.mv) r2))
theorem Ev.tup {Φ : W → Mem → Prop} {k} (h : Ea X es ρ M fun ws M1 => ∃ ds : List D, ws = ds.map .dat ∧ ds.length ≤ sizeLine ∧ Φ (.dat (.tuple ds)) M1) : Ev X (.Tuple es k pos) ρ M Φ := fun σ H Q ok q =>
  of_pe (pe_tup p_ra) (h σ H _ ok fun ws M1 vs H1 h1 ea1 x1 m1 r1 => by
    obtain ⟨ds, rfl, hl, h1⟩ := h1
    refine ⟨by rw [r1.dats.length]; exact hl, fun p hp => q _ M1 _ _ h1 ea1 (x1.trans (Ext.of (same_upd hp))) (m1.same (same_upd hp)) (.tup (.inl upd_same) ?_ (r1.dats.mv (Ext.of (same_upd hp)).mv))⟩
    rw [← ea1]; exact m1.fresh hp)
theorem Ev.lst {Φ : W → Mem → Prop} (h : Ea X es ρ M fun ws M1 => ∃ ds : List D, ws = ds.map .dat ∧ ds.length ≤ sizeLine ∧ Φ (.dat (.list ds)) M1) : Ev X (.List es pos) ρ M Φ := fun σ H Q ok q =>
  of_pe (pe_lst p_ra) (h σ H _ ok fun ws M1 vs H1 h1 ea1 x1 m1 r1 => by
    obtain ⟨ds, rfl, hl, h1⟩ := h1
    refine ⟨by rw [r1.dats.length]; exact hl, fun p hp => q _ M1 _ _ h1 ea1 (x1.trans (Ext.of (same_upd hp))) (m1.same (same_upd hp)) (.lst (.inl upd_same) ?_ (r1.dats.mv (Ext.of (same_upd hp)).mv))⟩
    rw [← ea1]; exact m1.fresh hp)
variable {a b c : Expr} {Φ : W → Mem → Prop}
theorem Ev.opI {op : Operator} {C : Int → Int → Prop} {g : Int → Int → Int} (ho : OpR X (binaryOp op) (rI C fun i j => .int (g i j)))
    (h : Ev X a ρ M fun wa M1 => ∃ i, wa = .dat (.int i) ∧ Ev X b ρ M1 fun wb M2 => ∃ j, wb = .dat (.int j) ∧ C i j ∧ Φ (.dat (.int (g i j))) M2) : Ev X (.BinOp a op b pos) ρ M Φ := fun σ H Q ok q =>
  of_pe (pe_op ho p_rd p_rd) (h σ H _ ok fun w1 M1 v1 H1 h1 ea1 x1 m1 r1 => by
    obtain ⟨i, rfl, h1⟩ := h1
    refine h1 σ H1 _ (ok.ext ea1 x1 m1) fun w2 M2 v2 H2 h2 ea2 x2 m2 r2 => ?_
    obtain ⟨j, rfl, hc, h2⟩ := h2
    rw [ea1] at ea2 x2
    exact ⟨i, j, Dd.int_of r1, Dd.int_of r2, hc, q _ M2 _ H2 h2 ea2 (x1.trans x2) m2 (.int _)⟩)
theorem Ev.op0 {op : Operator} {g : Int → Int → Int} (ho : OpR X (binaryOp op) (rI0 fun i j => .int (g i j)))
    (h : Ev X a ρ M fun wa M1 => ∃ i, wa = .dat (.int i) ∧ Ev X b ρ M1 fun wb M2 => ∃ j, wb = .dat (.int j) ∧ Φ (.dat (.int (g i j))) M2) : Ev X (.BinOp a op b pos) ρ M Φ := fun σ H Q ok q =>
  of_pe (pe_op ho p_rd p_rd) (h σ H _ ok fun w1 M1 v1 H1 h1 ea1 x1 m1 r1 => by
    obtain ⟨i, rfl, h1⟩ := h1
    refine h1 σ H1 _ (ok.ext ea1 x1 m1) fun w2 M2 v2 H2 h2 ea2 x2 m2 r2 => ?_
    obtain ⟨j, rfl, h2⟩ := h2
    rw [ea1] at ea2 x2
    exact ⟨i, j, Dd.int_of r1, Dd.int_of r2, q _ M2 _ H2 h2 ea2 (x1.trans x2) m2 (.int _)⟩)
/-- a test with effects -/
def Et (X : Cx) (e : Expr) (ρ : Ro) (M : Mem) (Φ : Bool → Mem → Prop) : Prop := ∀ σ H Q, Ok X.K H ρ M σ → (∀ b M' H', Φ b M' → ads M' = ads M → Ext (ads M) H H' → MemOk X.K H' M' → Q b H') → rt X e σ H Q
theorem Et.of {Φ : Bool → Mem → Prop} (h : Ev X e ρ M fun w M1 => ∃ b, w = .dat (.bool b) ∧ Φ b M1) (he : ∀ whole, isTrue e X.env whole = (do let v ← whole; standAt e.pos; holding [v] (truthy v)) := by intro _; rfl) : Et X e ρ M Φ := fun σ H Q ok q =>
  of_pt (pt_val p_rd he) (h σ H _ ok fun w1 M1 v1 H1 h1 ea1 x1 m1 r1 => by
    obtain ⟨b, rfl, h1⟩ := h1
    exact ⟨b, Dd.bl_of r1, q b M1 H1 h1 ea1 x1 m1⟩)
theorem Et.not {Φ : Bool → Mem → Prop} (h : Et X e ρ M fun b M1 => Φ (!b) M1) : Et X (.UnaryOp .Not e pos) ρ M Φ := fun σ H Q ok q => of_pt (pt_not p_rt) (h σ H _ ok fun b M1 H1 h1 ea1 x1 m1 => q (!b) M1 H1 h1 ea1 x1 m1)
theorem Ev.mono {Φ Ψ : W → Mem → Prop} (h : Ev X e ρ M Φ) (hm : ∀ w M, Φ w M → Ψ w M) : Ev X e ρ M Ψ := fun σ H Q ok q => h σ H Q ok fun w M1 v H1 h1 => q w M1 v H1 (hm w M1 h1)
/-- an item of a list with effects inside -/
theorem Ev.ixL {Φ : W → Mem → Prop} (h : Ev X a ρ M fun wa M1 => ∃ ds, wa = .dat (.list ds) ∧ Ev X b ρ M1 fun wb M2 => ∃ (i : Int) (d : D), wb = .dat (.int i) ∧ atI ds i = some d ∧ Φ (.dat d) M2) (hs : PlainIx b := by intro _ _; rfl) : Ev X (.Subscript a b pos) ρ M Φ := fun σ H Q ok q =>
  of_pe (pe_ix ix_list p_rd p_rd hs) (h σ H _ ok fun w1 M1 v1 H1 h1 ea1 x1 m1 r1 => by
    obtain ⟨ds, rfl, h1⟩ := h1
    refine h1 σ H1 _ (ok.ext ea1 x1 m1) fun w2 M2 v2 H2 h2 ea2 x2 m2 r2 => ?_
    obtain ⟨i, d, rfl, hi, h2⟩ := h2
    rw [ea1] at ea2 x2
    obtain ⟨p, xs, rfl, hq, hd⟩ := Dd.l (r1.mv x2.mv : SW X.K H2 (ads M) v1 (.dat (.list ds)))
    obtain ⟨v, e, r⟩ := atI_dd hd hi
    exact ⟨p, xs, i, v, rfl, Dd.int_of r2, hq, e, q _ M2 v H2 h2 ea2 (x1.trans x2) m2 r⟩)
end

/-! ### statements -/
structure En where
  nx : Ro → Mem → Prop
  rt : W → Mem → Prop
  bk : Ro → Mem → Prop := fun _ _ => False
  ct : Ro → Mem → Prop := fun _ _ => False
/-- since the entry: all but Ab is kept; what is owned was Ab's or is new -/
structure Bs (Hb : Hp) (Ab : List Addr) (H : Hp) (M : Mem) : Prop where
  ext : Ext Ab Hb H
  own : ∀ p ∈ ads M, p ∈ Ab ∨ Hb p = none
structure Lift (K : PySem.W.Frag) (Hb : Hp) (Ab : List Addr) (E : En) (D : Ends) : Prop where
  nx : ∀ ρ M σ H, E.nx ρ M → Ok K H ρ M σ → Bs Hb Ab H M → D.nx σ H
  rt : ∀ w M v H, E.rt w M → MemOk K H M → SW K H (ads M) v w → Bs Hb Ab H M → D.rt v H
  bk : ∀ ρ M σ H, E.bk ρ M → Ok K H ρ M σ → Bs Hb Ab H M → D.bk σ H
  ct : ∀ ρ M σ H, E.ct ρ M → Ok K H ρ M σ → Bs Hb Ab H M → D.ct σ H
def Sv (X : Cx) (Hb : Hp) (Ab : List Addr) (ss : List Stmt) (E : En) (ρ : Ro) (M : Mem) : Prop := ∀ σ H D, Ok X.K H ρ M σ → Bs Hb Ab H M → Lift X.K Hb Ab E D → rss X ss D σ H
def S1 (X : Cx) (Hb : Hp) (Ab : List Addr) (st : Stmt) (E : En) (ρ : Ro) (M : Mem) : Prop := ∀ σ H D, Ok X.K H ρ M σ → Bs Hb Ab H M → Lift X.K Hb Ab E D → rs X st D σ H
section
variable {X : Cx} {Hb : Hp} {Ab : List Addr} {E : En} {ρ : Ro} {M M' : Mem} {H H' : Hp} {st : Stmt} {rest ss tt : List Stmt} {e a b c : Expr} {pos : Pos} {w : W}
theorem Bs.same (h : Bs Hb Ab H M) (s : Same H H') : Bs Hb Ab H' M := ⟨h.ext.trans (Ext.of s), h.own⟩
theorem Bs.step (h : Bs Hb Ab H M) (ea : ads M' = ads M) (x : Ext (ads M) H H') : Bs Hb Ab H' M' := by
  refine ⟨fun b o e n => x b o (h.ext b o e n) fun z => ?_, by rw [ea]; exact h.own⟩
  rcases h.own b z with q | q
  · exact n q
  · rw [e] at q; cases q
theorem Bs.add {p : Addr} {o : Ow} (h : Bs Hb Ab H M) (hp : H p = none) : Bs Hb Ab H ((p, o) :: M) := ⟨h.ext, fun q hq => by
  rcases List.mem_cons.mp (show q ∈ p :: ads M from hq) with z | z
  · subst z
    by_cases hA : q ∈ Ab
    · exact .inl hA
    · refine .inr ?_
      cases e : Hb q with
      | none => rfl
      | some u => rw [h.ext q u e hA] at hp; cases hp
  · exact h.own q z⟩
theorem sv_nil (h : E.nx ρ M) : Sv X Hb Ab [] E ρ M := fun σ H D ok bs l => of_pss pss_nil (l.nx ρ M σ H h ok bs)
theorem sv_cons (h : S1 X Hb Ab st { E with nx := Sv X Hb Ab rest E } ρ M) : Sv X Hb Ab (st :: rest) E ρ M := fun σ H D ok bs l =>
  of_pss (pss_cons p_rs p_rss) (h σ H { D with nx := rss X rest D } ok bs ⟨fun ρ' M' σ' H' hs ok' bs' => hs σ' H' D ok' bs' l, l.rt, l.bk, l.ct⟩)
theorem sv_one (h : S1 X Hb Ab st E ρ M) : Sv X Hb Ab [st] E ρ M := fun σ H D ok bs l => of_pss (pss_one p_rs) (h σ H D ok bs l)
/-- what is owned by a name becomes a datum -/
theorem MemOk.drop {K : PySem.W.Frag} {p : Addr} {o : Ow} (h : MemOk K H ((p, o) :: M)) : MemOk K H M := ⟨(List.nodup_cons.mp (show (p :: ads M).Nodup from h.nd)).2, fun q hq => by
  have m : Mv H H (ads ((p, o) :: M)) (ads M) := Mv.sub fun b hb => List.mem_cons_of_mem _ hb
  exact (h.ok q (List.mem_cons_of_mem _ hq)).mv rfl m⟩
theorem Bs.drop {p : Addr} {o : Ow} (h : Bs Hb Ab H ((p, o) :: M)) : Bs Hb Ab H M := ⟨h.ext, fun q hq => h.own q (List.mem_cons_of_mem _ hq)⟩
/-- x = e -/
theorem s1_set (i : Nat) {x : Str} {pos' : Pos} (he : EvD X e ρ M w) (h : E.nx (ρ.set i (some w)) M) (hN : X.N.Nodup) (hi : X.N[i]? = some x := by rfl) (hx : Loc X.env.scope x := by first | exact Or.inl rfl | exact Or.inr rfl)
    (hs : swapsWith e (some (.Name x pos')) pos.line X.env = pure false := by rfl) (hf : X.fn x = true ∨ X.env.scope.names.lookup x = some .local := by first | exact .inl rfl | exact .inr rfl) : S1 X Hb Ab (.Assign [.Name x pos'] e pos) E ρ M := fun σ H D ok bs l =>
  of_ps (ps_set hN hi hx p_rd hs hf) (he σ H _ ok fun v H1 s1 r1 => l.nx _ M _ H1 h ((ok.same s1).set r1) (bs.same s1))
theorem s1_setE (i : Nat) {x : Str} {pos' : Pos} (he : Ev X e ρ M fun w M1 => E.nx (ρ.set i (some w)) M1) (hN : X.N.Nodup) (hi : X.N[i]? = some x := by rfl) (hx : Loc X.env.scope x := by first | exact Or.inl rfl | exact Or.inr rfl)
    (hs : swapsWith e (some (.Name x pos')) pos.line X.env = pure false := by rfl) (hf : X.fn x = true ∨ X.env.scope.names.lookup x = some .local := by first | exact .inl rfl | exact .inr rfl) : S1 X Hb Ab (.Assign [.Name x pos'] e pos) E ρ M := fun σ H D ok bs l =>
  of_ps (ps_set hN hi hx p_rd hs hf) (he σ H _ ok fun w1 M1 v H1 h1 ea1 x1 m1 r1 => l.nx _ M1 _ H1 h1 ((ok.ext ea1 x1 m1).set (by rw [ea1]; exact r1)) (bs.step ea1 x1))
theorem Ok.own {K : PySem.W.Frag} {p : Addr} {o : Ow} {σ : L2.St} (h : Ok K H ρ M σ) (n : H p = none) (s : Same H H') (hp : OwOk K H' (p :: ads M) p o) : Ok K H' ρ ((p, o) :: M) σ := by
  have m : Mv H H' (ads M) (p :: ads M) := (Mv.add n).trans (Ext.mv (A := p :: ads M) (Ext.of s))
  have np := h.mem.fresh n
  refine ⟨⟨List.nodup_cons.mpr ⟨np, h.mem.nd⟩, fun q hq => ?_⟩, h.st.mv m⟩
  rcases List.mem_cons.mp hq with z | z
  · subst z; exact hp
  · have ow := h.mem.ok q z
    have e : H q.1 = H' q.1 := by
      cases q1 : H q.1 with
      | none => exact absurd q1 ow.ne
      | some u => rw [s _ _ q1]
    exact ow.mv e m
theorem Bs.own_ {p : Addr} {o : Ow} (h : Bs Hb Ab H M) (n : H p = none) (s : Same H H') : Bs Hb Ab H' ((p, o) :: M) := ⟨h.ext.trans (Ext.of s), (h.add (o := o) n).own⟩
/-- x = a new list, owned -/
theorem s1_own (i : Nat) {x : Str} {pos' : Pos} {ds : List D} (he : EvN X e ρ M ds) (h : ∀ p, p ∉ ads M → E.nx (ρ.set i (some (.raw (.ref p)))) ((p, .lst ds) :: M)) (hN : X.N.Nodup) (hi : X.N[i]? = some x := by rfl) (hx : Loc X.env.scope x := by first | exact Or.inl rfl | exact Or.inr rfl)
    (hs : swapsWith e (some (.Name x pos')) pos.line X.env = pure false := by rfl) (hf : X.fn x = true ∨ X.env.scope.names.lookup x = some .local := by first | exact .inl rfl | exact .inr rfl) : S1 X Hb Ab (.Assign [.Name x pos'] e pos) E ρ M := fun σ H D ok bs l =>
  of_ps (ps_set hN hi hx p_rd hs hf) (he σ H _ ok fun p xs H1 n s1 hp r => l.nx _ _ _ H1 (h p (ok.mem.fresh n)) ((ok.own (o := .lst ds) n s1 ⟨xs, hp, r⟩).set rfl) (bs.own_ n s1))
/-- return e -/
theorem s1_ret (he : EvD X e ρ M w) (h : E.rt w M) : S1 X Hb Ab (.Return (some e) pos) E ρ M := fun σ H D ok bs l => of_ps (ps_ret p_rd) (he σ H _ ok fun v H1 s1 r1 => l.rt w M v H1 h (ok.mem.same s1) r1 (bs.same s1))
theorem s1_retE (he : Ev X e ρ M E.rt) : S1 X Hb Ab (.Return (some e) pos) E ρ M := fun σ H D ok bs l => of_ps (ps_ret p_rd) (he σ H _ ok fun w1 M1 v H1 h1 ea1 x1 m1 r1 => l.rt w1 M1 v H1 h1 m1 (by rw [ea1]; exact r1) (bs.step ea1 x1))
/-- an expression whose value is dropped -/
theorem s1_expr (he : EvD X e ρ M w) (h : E.nx ρ M) (hs : swapsWith e none pos.line X.env = pure false := by rfl) : S1 X Hb Ab (.Expr e pos) E ρ M := fun σ H D ok bs l => of_ps (ps_expr p_rd hs) (he σ H _ ok fun v H1 s1 r1 => l.nx ρ M σ H1 h (ok.same s1) (bs.same s1))
theorem s1_if {x : Bool} (hc : EtD X c ρ M x) (ha : x = true → Sv X Hb Ab ss E ρ M) (hb : x = false → Sv X Hb Ab tt E ρ M) : S1 X Hb Ab (.If c ss tt pos) E ρ M := fun σ H D ok bs l =>
  of_ps (ps_if p_rt p_rss p_rss) (hc σ H _ ok fun H1 s1 => by
    cases x with
    | true => exact (if_pos rfl).symm ▸ ha rfl σ H1 D (ok.same s1) (bs.same s1) l
    | false => exact (if_neg Bool.false_ne_true).symm ▸ hb rfl σ H1 D (ok.same s1) (bs.same s1) l)
theorem s1_ifE (hc : Et X c ρ M fun x M1 => if x = true then Sv X Hb Ab ss E ρ M1 else Sv X Hb Ab tt E ρ M1) : S1 X Hb Ab (.If c ss tt pos) E ρ M := fun σ H D ok bs l =>
  of_ps (ps_if p_rt p_rss p_rss) (hc σ H _ ok fun x M1 H1 h1 ea1 x1 m1 => by
    cases x with
    | true =>
      rw [if_pos rfl] at h1 ⊢
      exact h1 σ H1 D (ok.ext ea1 x1 m1) (bs.step ea1 x1) l
    | false =>
      rw [if_neg Bool.false_ne_true] at h1 ⊢
      exact h1 σ H1 D (ok.ext ea1 x1 m1) (bs.step ea1 x1) l)
/-- x, y = a, b -/
theorem s1_par (i j : Nat) {x y : Str} {px py pt : Pos} {kt k2 pt2} {w1 w2 : W} (ha : EaD X [a, b] ρ M [w1, w2]) (h : E.nx ((ρ.set i (some w1)).set j (some w2)) M) (hN : X.N.Nodup) (hij : i ≠ j) (hc : X.calm = true := by rfl) (hi : X.N[i]? = some x := by rfl) (hj : X.N[j]? = some y := by rfl)
    (hx : X.env.scope.names.lookup x = some .local := by rfl) (hy : X.env.scope.names.lookup y = some .local := by rfl)
    (hw : swappedStores [.Tuple [.Name x px, .Name y py] kt pt] (.Tuple [a, b] k2 pt2) X.env = pure (some [x, y]) := by rfl)
    (hs : swapsWithSole [.Tuple [.Name x px, .Name y py] kt pt] (.Tuple [a, b] k2 pt2) pos.line X.env = pure false := by rfl) : S1 X Hb Ab (.Assign [.Tuple [.Name x px, .Name y py] kt pt] (.Tuple [a, b] k2 pt2) pos) E ρ M := fun σ H D ok bs l =>
  of_ps (ps_par hc hN hi hj hij hx hy p_ra hw hs) (ha σ H _ ok fun vs H1 s1 r1 => by
    cases r1 with
    | cons r1 r2 =>
      cases r2 with
      | cons r2 r3 =>
        cases r3
        exact ⟨_, _, rfl, l.nx _ M _ H1 h (((ok.same s1).set r1).set r2) (bs.same s1)⟩)
/-! ### what is owned is changed -/
theorem MemOk.put {K : PySem.W.Frag} {k : Nat} {p : Addr} {o o' : Ow} {ho : HO} (h : MemOk K H M) (hk : M[k]? = some (p, o)) (hn : OwOk K (upd H p ho) (ads M) p o') : MemOk K (upd H p ho) (M.set k (p, o')) := by
  have ea : ads (M.set k (p, o')) = ads M := by
    unfold ads
    rw [List.map_set]
    obtain ⟨hl, he⟩ := List.getElem?_eq_some_iff.mp hk
    have : (M.map (·.1))[k]'(by simpa using hl) = p := by rw [List.getElem_map, he]
    rw [← this]
    exact List.set_getElem_self _
  have hp : p ∈ ads M := List.mem_map.mpr ⟨(p, o), List.mem_of_getElem? hk, rfl⟩
  have x : Ext (ads M) H (upd H p ho) := fun b u e n => by
    rw [upd_ne (fun z => n (by rw [z]; exact hp))]; exact e
  refine ⟨by rw [ea]; exact h.nd, fun q hq => ?_⟩
  rw [ea]
  by_cases hqp : q.1 = p
  · obtain ⟨j, hj⟩ := List.getElem?_of_mem hq
    by_cases hjk : k = j
    · subst hjk
      rw [List.getElem?_set_self (List.getElem?_eq_some_iff.mp hk).1] at hj
      cases hj
      exact hn
    · exfalso
      have e1 : (ads (M.set k (p, o')))[j]? = some p := by
        unfold ads; rw [List.getElem?_map, hj]; exact congrArg some hqp
      have e2 : (ads M)[k]? = some p := by unfold ads; rw [List.getElem?_map, hk]; rfl
      rw [ea] at e1
      obtain ⟨_, e1⟩ := List.getElem?_eq_some_iff.mp e1
      obtain ⟨_, e2⟩ := List.getElem?_eq_some_iff.mp e2
      exact hjk ((List.getElem_inj h.nd).mp (e2.trans e1.symm))
  · have hq' : q ∈ M := by
      rcases List.mem_or_eq_of_mem_set hq with z | z
      · exact z
      · exact absurd (by rw [z]) hqp
    have ow := h.ok q hq'
    refine ow.mv ?_ x.mv
    rw [upd_ne hqp]
theorem ads_set {k : Nat} {p : Addr} {o o' : Ow} (hk : M[k]? = some (p, o)) : ads (M.set k (p, o')) = ads M := by
  unfold ads
  rw [List.map_set]
  obtain ⟨hl, he⟩ := List.getElem?_eq_some_iff.mp hk
  have : (M.map (·.1))[k]'(by simpa using hl) = p := by rw [List.getElem_map, he]
  rw [← this]
  exact List.set_getElem_self _
theorem Ok.put {K : PySem.W.Frag} {k : Nat} {p : Addr} {o o' : Ow} {ho : HO} {σ : L2.St} (h : Ok K H ρ M σ) (hk : M[k]? = some (p, o)) (hn : OwOk K (upd H p ho) (ads M) p o') : Ok K (upd H p ho) ρ (M.set k (p, o')) σ := by
  have hp : p ∈ ads M := List.mem_map.mpr ⟨(p, o), List.mem_of_getElem? hk, rfl⟩
  have x : Ext (ads M) H (upd H p ho) := fun b u e n => by
    rw [upd_ne (fun z => n (by rw [z]; exact hp))]; exact e
  exact h.ext (ads_set hk) x (h.mem.put hk hn)
theorem Bs.put {k : Nat} {p : Addr} {o o' : Ow} {ho : HO} (h : Bs Hb Ab H M) (hk : M[k]? = some (p, o)) : Bs Hb Ab (upd H p ho) (M.set k (p, o')) := by
  have hp : p ∈ ads M := List.mem_map.mpr ⟨(p, o), List.mem_of_getElem? hk, rfl⟩
  have x : Ext (ads M) H (upd H p ho) := fun b u e n => by
    rw [upd_ne (fun z => n (by rw [z]; exact hp))]; exact e
  exact h.step (ads_set hk) x
theorem ext_upd {k : Nat} {p : Addr} {o : Ow} {ho : HO} (hk : M[k]? = some (p, o)) : Ext (ads M) H (upd H p ho) := fun b u e n => by
  have hp : p ∈ ads M := List.mem_map.mpr ⟨(p, o), List.mem_of_getElem? hk, rfl⟩
  rw [upd_ne (fun z => n (by rw [z]; exact hp))]; exact e
/-- xs[i] = e, xs owned -/
theorem s1_setitem (k : Nat) {x ix : Expr} {spos : Pos} {p : Addr} {ds : List D} {d : D} {i : Int} {j : Nat} (he : EvD X e ρ M (.dat d)) (hx : EvD X x ρ M (.raw (.ref p))) (hi : EvD X ix ρ M (.dat (.int i))) (hj : ixN ds.length i = some j) (h : E.nx ρ (M.set k (p, .lst (ds.set j d)))) (hk : M[k]? = some (p, .lst ds) := by rfl)
    (ha : ∀ v, assign (.Subscript x ix spos) X.env v = (do
      let ov ← holding [v] (eval x X.env)
      let iv ← holding [v, ov] (eval ix X.env)
      standAt spos
      holding [v, ov, iv] (setItem ov iv v)
      release [v, ov, iv] []) := by intro _; rfl)
    (hs : swapsWithSole [.Subscript x ix spos] e pos.line X.env = pure false := by rfl) (hw : swappedStores [.Subscript x ix spos] e X.env = pure none := by rfl) (h1 : (assignEach [.Subscript x ix spos] X.env).map (·.2) = [assign (.Subscript x ix spos) X.env] := by rfl) :
    S1 X Hb Ab (.Assign [.Subscript x ix spos] e pos) E ρ M := fun σ H D ok bs l =>
  of_ps (ps_asg p_rd (pg_sub p_rd p_rd set_list ha) hs hw h1) (he σ H _ ok fun y H1 s1 r1 => hx σ H1 _ (ok.same s1) fun v H2 s2 r2 => hi σ H2 _ ((ok.same s1).same s2) fun z H3 s3 r3 => by
    have e1 : v = .ref p := r2
    subst e1
    have ok3 := ((ok.same s1).same s2).same s3
    obtain ⟨xs, q1, q2⟩ := ok3.mem.ok _ (List.mem_of_getElem? hk)
    refine ⟨p, xs, i, j, rfl, Dd.int_of r3, q1, by rw [q2.length]; exact hj, l.nx ρ _ σ _ h (ok3.put hk ⟨_, upd_same, ?_⟩) ((((bs.same s1).same s2).same s3).put hk)⟩
    exact (q2.set ((r1.mv (Ext.of s2).mv).mv (Ext.of s3).mv) j).mv (ext_upd hk).mv)
end
end XB

/-! XF: what is walked, loops, comprehensions, a def's entry. -/
namespace XB
open PySem PySem.Spec PyProof.Rows L2

/-! ### what is walked -/
/-- iter walked gives ws; pu: only while nothing at all changes -/
def Src (X : Cx) (pu : Bool) (tg iter : Expr) (ρ : Ro) (M : Mem) (ws : List W) : Prop := ∀ σ H R, Ok X.K H ρ M σ →
  (∀ J H1, Same H H1 → (∀ i H2 A', (pu = true → Same H1 H2) → Mv H1 H2 (ads M) A' → (∀ p ∈ A', H2 p ≠ none) →
    (∀ w, ws[i]? = some w → J.go i H2 ∧ ∀ x H3, J.yld i H2 x H3 → Same H2 H3 ∧ SW X.K H3 A' x w) ∧ (ws.length ≤ i → J.stop i H2)) → R J H1) → ri X tg iter σ H R
section
variable {X : Cx} {tg e a b : Expr} {ρ : Ro} {M : Mem} {p pos : Pos}
theorem Dd.tmv {K : PySem.W.Frag} {H : Hp} {A : List Addr} {v : V} {ds : List D} (h : Dd K H A v (.tuple ds)) : ∃ a xs, v = .ref a ∧ ∀ H' A', Mv H H' A A' → SqT K H' a xs ∧ DdAll K H' A' xs ds := by
  cases h with
  | tup r n al => exact ⟨_, _, rfl, fun H' A' m => ⟨.inl (m.rd r n).1, al.mv m⟩⟩
  | tupK r al => exact ⟨_, _, rfl, fun H' A' m => ⟨.inr (by rcases r with (r | ⟨o, r⟩) | r; exact (nomatch r); exact (nomatch r); exact r), al.mv m⟩⟩
theorem Mv.refl (H : Hp) (A : List Addr) : Mv H H A A := fun _ _ r n => ⟨r, n⟩
theorem src_tup {ds : List D} {pu : Bool} (h : EvD X e ρ M (.dat (.tuple ds))) : Src X pu tg e ρ M (ds.map .dat) := fun σ H R ok r =>
  of_pi (pi_tup p_rd) (h σ H _ ok fun v H1 s1 r1 => by
    obtain ⟨a, xs, rfl, hm⟩ := Dd.tmv r1
    refine ⟨a, rfl, ⟨xs, (hm H1 _ (Mv.refl _ _)).1⟩, r _ H1 s1 fun i H2 A' _ m hA => ?_⟩
    obtain ⟨hq, hd⟩ := hm H2 A' m
    refine ⟨fun w hw => ?_, fun hl => ⟨xs, hq, by rw [List.length_map] at hl; rw [hd.length]; exact hl⟩⟩
    rw [List.getElem?_map] at hw
    cases e1 : ds[i]? with
    | none => rw [e1] at hw; cases hw
    | some d =>
      rw [e1] at hw
      cases hw
      obtain ⟨x, hx, rx⟩ := hd.get' e1
      refine ⟨⟨xs, x, hq, hx⟩, fun y H3 hy => ?_⟩
      obtain ⟨rfl, hy⟩ := hy
      have : x = y := by have := hy xs hq; rw [hx] at this; exact Option.some.inj this
      subst this
      exact ⟨Same.refl _, rx⟩)
/-- lo, lo + 1, .. -/
def upFrom (lo : Int) (n : Nat) : List Int := (List.range n).map fun (i : Nat) => lo + (i : Int)
theorem src_rng {pu : Bool} {lo : Int} {n : Nat} {H1 : Hp} {A : List Addr} {K : PySem.W.Frag} : ∀ i H2 A', (pu = true → Same H1 H2) → Mv H1 H2 A A' → (∀ p ∈ A', H2 p ≠ none) →
    (∀ w, ((upFrom lo n).map fun i => W.dat (.int i))[i]? = some w → (Itr lo n).go i H2 ∧ ∀ x H3, (Itr lo n).yld i H2 x H3 → Same H2 H3 ∧ SW K H3 A' x w) ∧ (((upFrom lo n).map fun i => W.dat (.int i)).length ≤ i → (Itr lo n).stop i H2) := fun i H2 A' _ m hA => by
  refine ⟨fun w hw => ?_, fun hl => ?_⟩
  · unfold upFrom at hw
    rw [List.map_map, List.getElem?_map] at hw
    by_cases hi : i < n
    · rw [List.getElem?_range hi] at hw
      cases hw
      refine ⟨hi, fun x H3 hy => ?_⟩
      obtain ⟨rfl, rfl⟩ := hy
      exact ⟨Same.refl _, .int _⟩
    · rw [List.getElem?_eq_none (by simpa using hi)] at hw; cases hw
  · unfold upFrom at hl
    have hl' : n ≤ i := by simpa using hl
    exact hl'
theorem src_range1 {n : Int} {pu : Bool} (hm : X.mg "range" = none) (h : EvD X a ρ M (.dat (.int n))) (h1 : -(2 ^ 62) ≤ n) (h2 : n < 2 ^ 62) (hg : Gl X "range" := by rfl) (hs : starEach [a] X.env = [(false, eval a X.env)] := by rfl) :
    Src X pu tg (.Call (.Name "range" p) [a] [] pos) ρ M ((upFrom 0 n.toNat).map fun i => .dat (.int i)) := fun σ H R ok r =>
  of_pi (pi_range1 hg hm (pa_cons p_rd pa_nil hs) hs) (h σ H _ ok fun v H1 s1 r1 => ⟨n, by rw [Dd.int_of r1], h1, h2, r _ H1 s1 src_rng⟩)
end

/-! ### targets -/
/-- ts: the slots that the target stores to -/
def TgD (X : Cx) (tg : Expr) (ts : List Nat) (ρ : Ro) (M : Mem) (w : W) (ρ' : Ro) : Prop := ∀ x σ H Q, SW X.K H (ads M) x w → Ok X.K H ρ M σ → (∀ σ' H', Same H H' → Ok X.K H' ρ' M σ' → wipe σ' ts = wipe σ ts → Q σ' H') → rg X tg x σ H Q
theorem wipe_set {σ : L2.St} {i : Nat} {v : Option V} : ∀ {vs : List Nat}, i ∈ vs → wipe (σ.set i v) vs = wipe σ vs
  | [], h => by simp at h
  | j :: vs, h => by
    show (wipe (σ.set i v) vs).set j none = (wipe σ vs).set j none
    by_cases hi : i ∈ vs
    · rw [wipe_set hi]
    · have e : i = j := by rcases List.mem_cons.mp h with z | z; exact z; exact absurd z hi
      subst e
      have out : wipe (σ.set i v) vs = (wipe σ vs).set i v := by
        clear h
        induction vs with
        | nil => rfl
        | cons k vs ih =>
          have hk : i ≠ k := fun z => hi (by simp [z])
          show (wipe (σ.set i v) vs).set k none = ((wipe σ vs).set k none).set i v
          rw [ih (fun z => hi (List.mem_cons_of_mem _ z)), List.set_comm _ _ hk]
      rw [out, List.set_set]
theorem wipe_idem (σ : L2.St) (vs : List Nat) : wipe (wipe σ vs) vs = wipe σ vs := by
  apply List.ext_getElem?
  intro i
  by_cases hi : i ∈ vs
  · have h : ∀ (τ : L2.St), (wipe τ vs)[i]? = if i < τ.length then some none else none := by
      intro τ
      clear σ
      induction vs with
      | nil => simp at hi
      | cons k vs ih =>
        show ((wipe τ vs).set k none)[i]? = _
        by_cases hk : k = i
        · subst hk
          rw [List.getElem?_set]
          simp [wipe_length]
        · rw [List.getElem?_set_ne hk]
          exact ih (by rcases List.mem_cons.mp hi with z | z; exact absurd z.symm hk; exact z)
    rw [h, h, wipe_length]
  · rw [wipe_out hi]
theorem Ok.wipe {K : PySem.W.Frag} {H : Hp} {ρ : Ro} {M : Mem} {σ : L2.St} {vs : List Nat} (h : Ok K H ρ M σ) (hv : ∀ i ∈ vs, ∀ w, ρ[i]? ≠ some (some w)) : Ok K H ρ M (wipe σ vs) := ⟨h.mem, by rw [wipe_length]; exact h.st.len, fun i w e => by
  have hi : i ∉ vs := fun z => hv i z w e
  obtain ⟨v, e', s⟩ := h.st.at_ i w e
  exact ⟨v, by rw [wipe_out hi]; exact e', s⟩⟩
section
variable {X : Cx} {ρ : Ro} {M : Mem} {w : W} {pos : Pos}
theorem tg_name (i : Nat) {x : Str} (hN : X.N.Nodup) (hi : X.N[i]? = some x := by rfl) (hx : Loc X.env.scope x := by first | exact Or.inl rfl | exact Or.inr rfl) (hf : X.fn x = true ∨ X.env.scope.names.lookup x = some .local := by first | exact .inl rfl | exact .inr rfl) :
    TgD X (.Name x pos) [i] ρ M w (ρ.set i (some w)) := fun v σ H Q s ok q => of_pg (pg_name hN hi hx hf) (q _ H (Same.refl H) (ok.set s) (wipe_set (by simp)))
theorem tg_pair (i j : Nat) {x y : Str} {px py : Pos} {k : Nat} {d1 d2 : D} (hN : X.N.Nodup) (hc : X.calm = true := by rfl) (hi : X.N[i]? = some x := by rfl) (hj : X.N[j]? = some y := by rfl) (hx : Loc X.env.scope x := by first | exact Or.inl rfl | exact Or.inr rfl) (hy : Loc X.env.scope y := by first | exact Or.inl rfl | exact Or.inr rfl)
    (hf : X.fn x = true ∨ X.env.scope.names.lookup x = some .local := by first | exact .inl rfl | exact .inr rfl) (hf2 : X.fn y = true ∨ X.env.scope.names.lookup y = some .local := by first | exact .inl rfl | exact .inr rfl)
    (hs1 : (assignEach [.Name x px, .Name y py] X.env).map (·.2) = assign (.Name x px) X.env :: (assignEach [.Name y py] X.env).map (·.2) := by rfl) (hs2 : (assignEach [.Name y py] X.env).map (·.2) = assign (.Name y py) X.env :: (assignEach [] X.env).map (·.2) := by rfl)
    (hn : (assignEach [.Name x px, .Name y py] X.env).length = 2 := by rfl) (hst : (assignEach [.Name x px, .Name y py] X.env).findIdx? (·.1) = none := by rfl) :
    TgD X (.Tuple [.Name x px, .Name y py] k pos) [i, j] ρ M (.dat (.tuple [d1, d2])) ((ρ.set i (some (.dat d1))).set j (some (.dat d2))) := fun v σ H Q s ok q => by
  refine of_pg (pg_tup hc (pgs_cons (pg_name hN hi hx hf) (pgs_cons (pg_name hN hj hy hf2) pgs_nil hs2) hs1) hn hst) ?_
  obtain ⟨a, xs, rfl, hq, hd⟩ := Dd.t s
  cases hd with
  | cons r1 r2 =>
    cases r2 with
    | cons r2 r3 =>
      cases r3
      refine ⟨a, _, rfl, hq, rfl, _, _, rfl, _, _, rfl, rfl, q _ H (Same.refl H) ((ok.set (w := .dat d1) r1).set (w := .dat d2) r2) ?_⟩
      rw [wipe_set (by simp), wipe_set (by simp)]
end

/-! ### for, while -/
section
variable {X : Cx} {Hb : Hp} {Ab : List Addr} {E : En} {ρ : Ro} {M : Mem} {tg iter c : Expr} {body : List Stmt} {pos : Pos} {H H1 : Hp}
theorem Bs.trans {Hm : Hp} {Mm M' : Mem} (h : Bs Hb Ab Hm Mm) (h2 : Bs Hm (ads Mm) H M') : Bs Hb Ab H M' := by
  refine ⟨fun b o e n => h2.ext b o (h.ext b o e n) fun z => ?_, fun p hp => ?_⟩
  · rcases h.own b z with q | q
    · exact n q
    · rw [e] at q; cases q
  · rcases h2.own p hp with q | q
    · exact h.own p q
    · by_cases hA : p ∈ Ab
      · exact .inl hA
      · refine .inr ?_
        cases e : Hb p with
        | none => rfl
        | some u => rw [h.ext p u e hA] at q; cases q
theorem Bs.refl (H : Hp) (M : Mem) : Bs H (ads M) H M := ⟨Ext.refl _ _, fun p hp => .inl hp⟩
theorem Lift.trans {K : PySem.W.Frag} {Hm : Hp} {Mm : Mem} {D : Ends} (l : Lift K Hb Ab E D) (h : Bs Hb Ab Hm Mm) : Lift K Hm (ads Mm) E D :=
  ⟨fun ρ M σ H e ok bs => l.nx ρ M σ H e ok (h.trans bs), fun w M v H e m s bs => l.rt w M v H e m s (h.trans bs), fun ρ M σ H e ok bs => l.bk ρ M σ H e ok (h.trans bs), fun ρ M σ H e ok bs => l.ct ρ M σ H e ok (h.trans bs)⟩
theorem Bs.mv {M' : Mem} (h : Bs H1 (ads M) H M') : Mv H1 H (ads M) (ads M') := fun b u r n => by
  refine ⟨h.ext b _ r n, fun z => ?_⟩
  rcases h.own b z with q | q
  · exact n q
  · rw [q] at r
    cases r
/-- for: P by the turn -/
theorem s1_for {ws : List W} {ts : List Nat} (P : Nat → Ro → Mem → Prop) (src : Src X false tg iter ρ M ws) (h0 : P 0 ρ M)
    (hs : ∀ (Hb' : Hp) i w ρ1 M1, ws[i]? = some w → P i ρ1 M1 → ∃ ρ2, TgD X tg ts ρ1 M1 w ρ2 ∧ Sv X Hb' (ads M) body { nx := P (i + 1), ct := P (i + 1), bk := E.nx, rt := E.rt } ρ2 M1)
    (hd : ∀ ρ1 M1, P ws.length ρ1 M1 → E.nx ρ1 M1) (hp : PassesOwn (model X.prog X.w) X.A X.env X.xe) (hc : X.calm = true := by rfl) (hf : ∀ x, foldedSetIterable iter X.env x = pure x := by intro _; rfl) : S1 X Hb Ab (.For tg iter body [] pos) E ρ M := fun σ H D ok bs l =>
  of_ps (ps_for hp hc p_ri p_rg p_rss hf) (src σ H _ ok fun J H1 s1 hJ => by
    refine ⟨fun i m σ' H' => m = ws.length - i ∧ i ≤ ws.length ∧ ∃ ρ1 M1, P i ρ1 M1 ∧ Ok X.K H' ρ1 M1 σ' ∧ Bs H1 (ads M) H' M1, ⟨ws.length, by simp, Nat.zero_le _, ρ, M, h0, ok.same s1, Bs.refl H1 M⟩, ?_⟩
    rintro i m σ' H' ⟨rfl, hi, ρ1, M1, hP, ok1, bs1⟩
    have hA : ∀ p ∈ ads M1, H' p ≠ none := fun p hp => ok1.mem.tracked hp
    obtain ⟨j1, j2⟩ := hJ i H' (ads M1) (fun z => nomatch z) bs1.mv hA
    by_cases hlt : i < ws.length
    · obtain ⟨w, hw⟩ : ∃ w, ws[i]? = some w := ⟨ws[i], List.getElem?_eq_getElem hlt⟩
      obtain ⟨go, yl⟩ := j1 w hw
      refine .inr ⟨go, fun σ2 H2 => ∃ ρ1 M1, P (i + 1) ρ1 M1 ∧ Ok X.K H2 ρ1 M1 σ2 ∧ Bs H1 (ads M) H2 M1, fun σ2 H2 h => ⟨ws.length - (i + 1), by omega, rfl, hlt, h⟩, fun x H3 hy => ?_⟩
      obtain ⟨s3, r3⟩ := yl x H3 hy
      obtain ⟨ρ2, tgd, sv⟩ := hs H1 i w ρ1 M1 hw hP
      refine tgd x σ' H3 _ r3 (ok1.same s3) fun σ4 H4 s4 ok4 _ => ?_
      refine sv σ4 H4 _ ok4 ((bs1.same s3).same s4) ⟨fun ρ5 M5 σ5 H5 h5 ok5 bs5 => ⟨ρ5, M5, h5, ok5, bs5⟩, ?_, ?_, fun ρ5 M5 σ5 H5 h5 ok5 bs5 => ⟨ρ5, M5, h5, ok5, bs5⟩⟩
      · exact (l.trans (bs.same s1)).rt
      · exact (l.trans (bs.same s1)).nx
    · have e : i = ws.length := by omega
      subst e
      exact .inl ⟨j2 (Nat.le_refl _), (l.trans (bs.same s1)).nx ρ1 M1 σ' H' (hd ρ1 M1 hP) ok1 bs1⟩)
end

/-! ### comprehensions -/
/-- in every block of the comprehension -/
def Bk (X : Cx) (scope : Scope) (P : Cx → Prop) : Prop := ∀ (s : Shared) (H : Hp) (C : Addr) (cl : List (Str × Addr)) (fp : List Addr), P (X.blk s H scope (compEnvC scope cl C X.env) fp)
/-- a clause's tests, pure -/
inductive Its (X : Cx) (ρ : Ro) (M : Mem) : List Expr → Bool → Prop
  | nil : Its X ρ M [] true
  | one {c : Expr} {b : Bool} : EtD X c ρ M b → Its X ρ M [c] b
section
variable {X : Cx} {ρ : Ro} {M : Mem} {tg iter elt : Expr} {ifs : List Expr} {scope : Scope} {pos : Pos} {α : Type} {own : List (Str × Nat)}
def teF (X : Cx) (scope : Scope) (e : Expr) : TE := fun σ H Q => Bk X scope fun Xb => rd Xb e σ H Q
def tgF (X : Cx) (scope : Scope) (e : Expr) : TG := fun v σ H Q => Bk X scope fun Xb => rg Xb e v σ H Q
def ttF (X : Cx) (scope : Scope) (ifs : List Expr) : TT := fun σ H Q => Bk X scope fun Xb => ∀ pins s, L2.Inv Xb pins σ H s →
  wpAny (model Xb.prog Xb.w) Xb.A (forIn ifs true fun c r => if r = true then do let ok ← isTrue c Xb.env (eval c Xb.env); pure (ForInStep.yield ok) else pure (ForInStep.yield r)) (TP Xb pins σ Q) Xb.xe s
theorem p_teF : ∀ (s : Shared) (H : Hp) (C : Addr) (cl : List (Str × Addr)) (fp : List Addr), PE (X.blk s H scope (compEnvC scope cl C X.env) fp) elt (teF X scope elt) := fun s H C cl fp => ⟨fun pins s' σ H' Q I h => rd_e (h s H C cl fp) pins s' I⟩
theorem p_tgF : ∀ (s : Shared) (H : Hp) (C : Addr) (cl : List (Str × Addr)) (fp : List Addr), PG (X.blk s H scope (compEnvC scope cl C X.env) fp) tg (tgF X scope tg) := fun s H C cl fp => ⟨fun pins s' σ H' v u Q I r h => h s H C cl fp pins s' u I r⟩
theorem p_ttF : ∀ (s : Shared) (H : Hp) (C : Addr) (cl : List (Str × Addr)) (fp : List Addr), PTs (X.blk s H scope (compEnvC scope cl C X.env) fp) ifs (ttF X scope ifs) := fun s H C cl fp => ⟨fun pins s' σ H' Q I h => h s H C cl fp pins s' I⟩
theorem its_run {Y : Cx} {b : Bool} {σ : L2.St} {H : Hp} {Q : Bool → Hp → Prop} {ρ' : Ro} {M' : Mem} (h : Its Y ρ' M' ifs b) (ok : Ok Y.K H ρ' M' σ) (q : ∀ H', Same H H' → Q b H') : ∀ pins s, L2.Inv Y pins σ H s →
    wpAny (model Y.prog Y.w) Y.A (forIn ifs true fun c r => if r = true then do let ok ← isTrue c Y.env (eval c Y.env); pure (ForInStep.yield ok) else pure (ForInStep.yield r)) (TP Y pins σ Q) Y.xe s := by
  intro pins s I
  cases h with
  | nil => exact pts_nil.run pins s σ H Q I (q H (Same.refl H))
  | one hc => exact (pts_one p_rt).run pins s σ H Q I (hc σ H Q ok q)
/-- the pure comprehension's reading -/
theorem lc_pure {σ : L2.St} {H : Hp} {Q : VK} {pu : Bool} {l : List α} {f : α → W} {qq : α → Bool} {g : α → D} (ok : Ok X.K H ρ M σ) (src : Src X pu tg iter ρ M (l.map f)) (hown : ∀ i ∈ own.map (·.2), ∀ w, ρ[i]? ≠ some (some w)) (hl : l.length ≤ sizeLine)
    (hb : ∀ a ∈ l, ∀ D acc, D ∉ ads M → ∃ ρ', Bk X scope fun Xb => TgD Xb tg (own.map (·.2)) ρ ((D, .lst acc) :: M) (f a) ρ' ∧ Its Xb ρ' ((D, .lst acc) :: M) ifs (qq a) ∧ (qq a = true → EvD Xb elt ρ' ((D, .lst acc) :: M) (.dat (g a))))
    (q : ∀ p xs H', H p = none → Same H H' → H' p = some (.lst xs) → DdAll X.K H' (p :: ads M) xs ((l.filter qq).map g) → Q (.ref p) H') :
    tLc (ri X tg iter) (tgF X scope tg) (ttF X scope ifs) (teF X scope elt) (own.map (·.2)) σ H Q := by
  refine src σ H _ ok fun J H1 s1 hJ => fun D hD => ?_
  have ok1 := ok.same s1
  have lm : (l.map f).length = l.length := List.length_map _
  have nD : D ∉ ads M := ok1.mem.fresh hD
  refine ⟨fun i m H' => m = l.length - i ∧ i ≤ l.length ∧ Same H1 H' ∧ ∃ xs, H' D = some (.lst xs) ∧ DdAll X.K H' (D :: ads M) xs (((l.take i).filter qq).map g), ⟨l.length, by simp, Nat.zero_le _, same_upd hD, [], upd_same, .nil⟩, ?_⟩
  rintro i m H' ⟨rfl, hi, sm, xs, hx, hd⟩
  have mv1 : Mv H1 H' (ads M) (D :: ads M) := (Mv.add hD).trans (Ext.mv (A := D :: ads M) (Ext.of sm))
  have okD : Ok X.K H' ρ ((D, .lst (((l.take i).filter qq).map g)) :: M) σ := ok1.own (o := .lst (((l.take i).filter qq).map g)) hD sm ⟨xs, hx, hd⟩
  have hA : ∀ p ∈ D :: ads M, H' p ≠ none := fun p hp => okD.mem.tracked hp
  obtain ⟨j1, j2⟩ := hJ i H' (D :: ads M) (fun _ => sm) mv1 hA
  rw [lm] at j2
  by_cases hlt : i < l.length
  · have ha : l[i]? = some l[i] := List.getElem?_eq_getElem hlt
    obtain ⟨go, yl⟩ := j1 (f l[i]) (by rw [List.getElem?_map, ha]; rfl)
    have tk : l.take (i + 1) = l.take i ++ [l[i]] := by rw [List.take_add_one, ha]; rfl
    refine .inr ⟨go, fun H2 => i + 1 ≤ l.length ∧ Same H1 H2 ∧ ∃ xs, H2 D = some (.lst xs) ∧ DdAll X.K H2 (D :: ads M) xs (((l.take (i + 1)).filter qq).map g), fun H2 h => ⟨l.length - (i + 1), by omega, rfl, h⟩, fun x H3 hy => ?_⟩
    obtain ⟨s3, r3⟩ := yl x H3 hy
    obtain ⟨ρ', hb'⟩ := hb l[i] (List.getElem_mem hlt) D (((l.take i).filter qq).map g) nD
    intro s0 H0 C cl fp
    obtain ⟨tgd, hts, hel⟩ := hb' s0 H0 C cl fp
    refine tgd x _ H3 _ r3 ((okD.same s3).wipe hown) fun σ4 H4 s4 ok4 hw => ⟨by rw [hw, wipe_idem], ?_⟩
    clear tgd hts hel
    intro s0 H0 C cl fp
    obtain ⟨_, hts, hel⟩ := hb' s0 H0 C cl fp
    refine its_run hts ok4 fun H5 s5 => ?_
    have s35 : Same H' H5 := (s3.trans s4).trans s5
    by_cases hq : qq l[i] = true
    · rw [if_pos hq]
      intro s0 H0 C cl fp
      obtain ⟨_, _, hel⟩ := hb' s0 H0 C cl fp
      refine hel hq σ4 H5 _ (ok4.same s5) fun y H6 s6 r6 => ?_
      have s36 := s35.trans s6
      have hx6 := s36 _ _ hx
      have d6 := hd.mv (Ext.of s36).mv
      have xD : Ext (D :: ads M) H6 (upd H6 D (.lst (xs ++ [y]))) := fun b o e n => by
        rw [upd_ne (fun z => n (by simp [z]))]; exact e
      have lt : xs.length < sizeLine := by
        rw [hd.length, List.length_map]
        have h1 := List.length_filter_le qq (l.take i)
        rw [List.length_take] at h1
        omega
      refine ⟨xs, hx6, lt, hlt, fun b o e => ?_, xs ++ [y], upd_same, ?_⟩
      · rw [upd_ne (ne_of_none e hD)]
        exact s36 _ _ (sm _ _ e)
      · rw [tk, List.filter_append, List.map_append]
        have e1 : List.filter qq [l[i]] = [l[i]] := by simp [hq]
        rw [e1]
        exact (d6.append (.cons (show Dd X.K H6 (D :: ads M) y (g l[i]) from r6) .nil)).mv xD.mv
    · rw [if_neg hq]
      refine ⟨hlt, sm.trans s35, xs, s35 _ _ hx, ?_⟩
      rw [tk, List.filter_append]
      have e1 : List.filter qq [l[i]] = [] := by simp [hq]
      rw [e1, List.append_nil]
      exact hd.mv (Ext.of s35).mv
  · have e : i = l.length := by omega
    subst e
    rw [List.take_length] at hd
    exact .inl ⟨j2 (Nat.le_refl _), q D xs H' (s1.free hD) (s1.trans sm) hx hd⟩
/-- [elt for tg in iter if ..] -/
theorem en_lc {pu : Bool} {l : List α} {f : α → W} {qq : α → Bool} {g : α → D} (own : List (Str × Nat)) (hN : X.N.Nodup) (src : Src X pu tg iter ρ M (l.map f)) (bk : BlkOk X.N X.env.scope scope own) (hown : ∀ i ∈ own.map (·.2), ∀ w, ρ[i]? ≠ some (some w)) (hl : l.length ≤ sizeLine)
    (hb : ∀ a ∈ l, ∀ D acc, D ∉ ads M → ∃ ρ', Bk X scope fun Xb => TgD Xb tg (own.map (·.2)) ρ ((D, .lst acc) :: M) (f a) ρ' ∧ Its Xb ρ' ((D, .lst acc) :: M) ifs (qq a) ∧ (qq a = true → EvD Xb elt ρ' ((D, .lst acc) :: M) (.dat (g a))))
    (hc : X.calm = true := by rfl) (hs : ∀ x, foldedSetIterable iter X.env x = pure x := by intro _; rfl) : EvN X (.ListComp elt [⟨tg, iter, ifs, 0⟩] scope pos) ρ M ((l.filter qq).map g) := fun σ H Q ok q =>
  of_pe (pe_lc hc hN p_ri bk p_tgF p_ttF p_teF hs) (lc_pure ok src hown hl hb q)
variable {Hb : Hp} {Ab : List Addr} {E : En} {spos : Pos}
end

/-! ### a def's entry -/
def startW (N : List Str) (ws : List W) : Ro := ws.map some ++ List.replicate (N.length - ws.length) none
theorem start_ok {K : PySem.W.Frag} {H : Hp} {M : Mem} {N : List Str} {vs : List V} {ws : List W} (m : MemOk K H M) (h : SWs K H (ads M) vs ws) : Ok K H (startW N ws) M (L2.start N vs) := by
  refine ⟨m, ?_, fun i w e => ?_⟩
  · unfold L2.start startW
    rw [List.length_append, List.length_append, List.length_map, List.length_map, List.length_replicate, List.length_replicate, h.length]
  · unfold startW at e
    have hi : i < ws.length := by
      by_cases hi : i < ws.length
      · exact hi
      · rw [List.getElem?_append_right (by simpa using hi), List.getElem?_replicate] at e
        split at e <;> cases e
    rw [List.getElem?_append_left (by simpa using hi), List.getElem?_map] at e
    have hg : ∀ {vs : List V} {ws : List W} {i : Nat} {w : W}, SWs K H (ads M) vs ws → ws[i]? = some w → ∃ v, vs[i]? = some v ∧ SW K H (ads M) v w := by
      intro vs ws i w h e
      induction h generalizing i with
      | nil => simp at e
      | cons r t ih =>
        cases i with
        | zero => simp at e; subst e; exact ⟨_, rfl, r⟩
        | succ i => exact ih (by simpa using e)
    cases e1 : ws[i]? with
    | none => rw [e1] at e; cases e
    | some x =>
      rw [e1] at e
      cases e
      obtain ⟨v, ev, s⟩ := hg h e1
      refine ⟨v, ?_, s⟩
      unfold L2.start
      rw [List.getElem?_append_left (by rw [List.length_map, h.length]; exact hi), List.getElem?_map, ev]
      rfl
abbrev cx0 (P : Program) (w : World) (K : PySem.W.Frag) (mg : Str → Option Value) (base : Heap) (N : List Str) (qual : Str) (scope : Scope) (f : Addr) (cdv : Value) (A : Around) (outer : List Env) (s : Shared) (H : Hp) (E : XK) : Cx :=
  (cxOf CX0 P w K mg base N qual scope f cdv A outer s H E).nox
section
variable {P : Program} {w : World} {K : PySem.W.Frag} {mg : Str → Option Value} {base : Heap} {k : Nat} {f : Addr} {fd : FuncData} {ps N : List Str} {x qual : Str} {params : Arguments} {body : List Stmt} {scope : Scope} {dvs : List V} {kws : List (Str × V)}
/-- a pure def -/
theorem fnP_of {C : List W → W → Prop} (F : FunD K x qual params body scope dvs kws f fd) (S : FnScope N ps scope) (len : ∀ ws w, C ws w → ws.length = ps.length)
    (hb : ∀ (cdv : Value) (A : Around) (outer : List Env) (s : Shared) (H : Hp) (E : XK) (ws : List W) (r : W) (M : Mem), Room k (cx0 P w K mg base N qual scope f cdv A outer s H E).A → Gd (cx0 P w K mg base N qual scope f cdv A outer s H E).A → C ws r →
      Sv (cx0 P w K mg base N qual scope f cdv A outer s H E) H (ads M) body { nx := fun _ M1 => r = .dat .none ∧ ∃ Ml, M1 = Ml ++ M, rt := fun r1 M1 => r1 = r ∧ ∃ Ml, M1 = Ml ++ M } (startW N ws) M) :
    FnP P w K mg base (k + 1) f fd ps C := by
  refine fnG_of F S (fun vs H Q E h => ?_) fun cdv A outer s H vs Q E hr hg h => ?_
  · obtain ⟨M, ws, r, m, _, sw, hC, _⟩ := h
    rw [sw.length]
    exact len ws r hC
  · obtain ⟨M, ws, r, m, hany, sw, hC, q⟩ := h
    have same : ∀ {H' : Hp} {Ml : Mem}, MemOk K H' (Ml ++ M) → Bs H (ads M) H' (Ml ++ M) → Same H H' := fun {H' Ml} m' bs b o e => by
      by_cases hb : b ∈ ads M
      · obtain ⟨p, hp, rfl⟩ := List.mem_map.mp hb
        obtain ⟨u, hu⟩ := hany p hp
        have h1 := m.ok p hp
        have h2 := m'.ok p (List.mem_append_right _ hp)
        rw [hu] at h1 h2
        have h1 : H p.1 = some u := h1
        have h2 : H' p.1 = some u := h2
        rw [h2, ← h1]; exact e
      · exact bs.ext b o e hb
    have sub : ∀ {H' : Hp} {Ml : Mem}, Mv H' H' (ads (Ml ++ M)) (ads M) := fun {H' Ml} => Mv.sub fun b hb => by
      unfold ads at hb ⊢
      rw [List.map_append]
      exact List.mem_append_right _ hb
    refine ⟨_, PSs.nox p_rss, hb cdv A outer s H E ws r M hr hg hC (L2.start N vs) H _ (start_ok m sw) (Bs.refl H M) ⟨?_, ?_, fun _ _ _ _ z => z.elim, fun _ _ _ _ z => z.elim⟩⟩
    · rintro ρ1 M1 σ1 H1 ⟨rfl, Ml, rfl⟩ ok1 bs1
      exact q _ H1 (same ok1.mem bs1) .non
    · rintro r1 M1 v H1 ⟨rfl, Ml, rfl⟩ m1 s1 bs1
      exact q _ H1 (same m1 bs1) (s1.mv sub)
/-- a def with effects on what is owned -/
theorem fnE_of {C : Ct} (F : FunD K x qual params body scope dvs kws f fd) (S : FnScope N ps scope) (len : ∀ ws M Φ, C ws M Φ → ws.length = ps.length)
    (hb : ∀ (cdv : Value) (A : Around) (outer : List Env) (s : Shared) (H : Hp) (E : XK) (ws : List W) (Φ : W → Mem → Prop) (M : Mem), Room k (cx0 P w K mg base N qual scope f cdv A outer s H E).A → Gd (cx0 P w K mg base N qual scope f cdv A outer s H E).A → C ws M Φ →
      Sv (cx0 P w K mg base N qual scope f cdv A outer s H E) H (ads M) body { nx := fun _ M1 => ∃ Ml M2, M1 = Ml ++ M2 ∧ ads M2 = ads M ∧ Φ (.dat .none) M2, rt := fun r M1 => ∃ Ml M2, M1 = Ml ++ M2 ∧ ads M2 = ads M ∧ Φ r M2 } (startW N ws) M) :
    FnE P w K mg base (k + 1) f fd ps C := by
  refine fnG_of F S (fun vs H Q E h => ?_) fun cdv A outer s H vs Q E hr hg h => ?_
  · obtain ⟨M, ws, r, m, sw, hC, _⟩ := h
    rw [sw.length]
    exact len ws M r hC
  · obtain ⟨M, ws, Φ, m, sw, hC, q⟩ := h
    have sub : ∀ {H' : Hp} {Ml M2 : Mem}, Mv H' H' (ads (Ml ++ M2)) (ads M2) := fun {H' Ml M2} => Mv.sub fun b hb => by
      unfold ads at hb ⊢
      rw [List.map_append]
      exact List.mem_append_right _ hb
    have dropM : ∀ {H' : Hp} {Ml M2 : Mem}, MemOk K H' (Ml ++ M2) → MemOk K H' M2 := fun {H' Ml M2} h => by
      induction Ml with
      | nil => exact h
      | cons p Ml ih => exact ih (MemOk.drop (p := p.1) (o := p.2) h)
    refine ⟨_, PSs.nox p_rss, hb cdv A outer s H E ws Φ M hr hg hC (L2.start N vs) H _ (start_ok m sw) (Bs.refl H M) ⟨?_, ?_, fun _ _ _ _ z => z.elim, fun _ _ _ _ z => z.elim⟩⟩
    · rintro ρ1 M1 σ1 H1 ⟨Ml, M2, rfl, ea, h2⟩ ok1 bs1
      exact q _ M2 _ H1 h2 ea bs1.ext (dropM ok1.mem) .non
    · rintro r1 M1 v H1 ⟨Ml, M2, rfl, ea, h2⟩ m1 s1 bs1
      refine q _ M2 _ H1 h2 ea bs1.ext (dropM m1) ?_
      rw [← ea]
      exact s1.mv sub
end
end XB

/-! XG: enumerate of a tuple, zip of a list and a tuple, sorted of dicts and sets, repr, isinstance, keywords. -/
namespace XB
open PySem PySem.Spec PyProof.Rows L2

section
variable {X : Cx} {e a b : Expr} {ρ : Ro} {M : Mem} {p pos tpos : Pos} {elts : List Expr} {kk : Nat}
end

/-! ### isinstance of built-in classes -/
def tyD : D → String
  | .none => "NoneType"
  | .bool _ => "bool"
  | .int _ => "int"
  | .str _ => "str"
  | .list _ => "list"
  | .tuple _ => "tuple"
  | .dict _ => "dict"
theorem Dd.ty {K : PySem.W.Frag} {H : Hp} {A : List Addr} {v : V} {d : D} (h : Dd K H A v d) : TyX K H v (.type (tyD d)) := by
  cases h with
  | non => exact .base .non
  | bl b => exact .base (.bl b)
  | int i => exact .base (.int i)
  | str x => exact .base (.str x)
  | lst r n a =>
    rcases r with r | ⟨o, r⟩
    · exact .base (.lst r)
    · exact .base (.frz r)
  | lstK r a =>
    rcases r with (r | ⟨o, r⟩) | ⟨o, its, n, hk, hc, _⟩
    · exact nomatch r
    · exact nomatch r
    · exact .kList hk hc
  | tup r n a =>
    rcases r with r | ⟨o, r⟩
    · exact .base (.tup r)
    · exact .fTuple r
  | tupK r a =>
    rcases r with (r | ⟨o, r⟩) | ⟨o, its, n, hk, hc, _⟩
    · exact nomatch r
    · exact nomatch r
    · exact .kTuple hk hc
  | dic r n a =>
    rcases r with r | ⟨o, r⟩
    · exact .base (.dK r)
    · exact .fDict r
section
variable {X : Cx} {e : Expr} {ρ : Ro} {M : Mem} {p pos tp : Pos}
theorem ev_isi {x : Str} {T : String} {d : D} {r : Bool} (hm : X.mg "isinstance" = none) (hmT : X.mg x = none) (he : EvD X e ρ M (.dat d)) (hk : kitB (tyD d) T = some r) (hv : bootBuiltins x = some (.type T) := by decide +kernel) (hg : Gl X "isinstance" := by rfl) (hgT : Gl X x := by rfl)
    (hn : x ≠ "__name__" := by decide) (hdb : (x == ("__debug__" : Str)) = false := by decide)
    (hs : starEach [e, .Name x tp] X.env = (false, eval e X.env) :: starEach [.Name x tp] X.env := by rfl) (hs2 : starEach [.Name x tp] X.env = (false, eval (.Name x tp) X.env) :: starEach [] X.env := by rfl) (hpl : (backTo pos (starEach [.Name x tp] X.env)).any (·.1) = false := by rfl) :
    EvD X (.Call (.Name "isinstance" p) [e, .Name x tp] [] pos) ρ M (.dat (.bool r)) := fun σ H Q ok q =>
  of_pe (pe_callB call_isi hg hm (by decide +kernel) (pa_cons p_rd (pa_cons (pe_bltn (v := .ty T) hgT hmT hv rfl hn hdb) pa_nil hs2) hs) (by decide) (by decide) hs hpl) (he σ H _ ok fun v H1 s1 r1 =>
    ⟨v, .ty T, .type (tyD d), .type T, r, rfl, .ty T, Dd.ty r1, kit_ty hk, q _ H1 s1 (.bl r)⟩)
end
end XB

/-! XH: repr, keywords, defs that hand back a new list, effects in loops and comprehensions. -/
namespace XB
open PySem PySem.Spec PyProof.Rows L2

/-! ### repr -/
theorem call_reprD {X : Cx} {d : D} (hg : Gd X.A) (hu : X.A.units + (d.depth + 1) < cLine) (hs : d.showable = true) (hd : d.hasDict = false) (hz : d.shown.length ≤ sizeLine) :
    CallR X (.builtin "repr") (fun xs H Q => ∃ v, xs = [v] ∧ Dp X.K H v d ∧ Q (.str d.shown) H) := by
  intro pins s σ H xs us Q I r h
  obtain ⟨v, rfl, dp, q⟩ := h
  cases r with
  | cons rv rr =>
    cases rr
    rename_i u
    have scal : ∀ t tk, EP X pins σ Q (.str d.shown t) { s with toks := tk } := fun t tk => ⟨.str d.shown, H, I.tok tk, ⟨t, rfl⟩, q⟩
    obtain ⟨as, rr⟩ := Dp.reads I d v u dp rv
    cases dp with
    | non =>
      cases rv
      exact PySem.P.repr_of_none (scal _ _)
    | bl b =>
      cases rv
      exact PySem.P.repr_of_bool (scal _ _)
    | int i =>
      obtain ⟨t, rfl⟩ := rv
      exact PySem.P.repr_of_int (by simpa [PyData.showable] using hs) (scal _ _)
    | str x =>
      obtain ⟨t, rfl⟩ := rv
      exact PySem.P.repr_of_str (scal _ _) hz
    | lst _ _ =>
      cases rv
      exact repr_of_reads' rr hs (PyData.noDict_hsm hd) hg hu (fun _ _ e => e) (fun h' u tk hk => ⟨.str _, H, I.kept hk, ⟨u, rfl⟩, q⟩) hz
    | tup _ _ =>
      cases rv
      exact repr_of_reads' rr hs (PyData.noDict_hsm hd) hg hu (fun _ _ e => e) (fun h' u tk hk => ⟨.str _, H, I.kept hk, ⟨u, rfl⟩, q⟩) hz
/-- what repr wants of a datum -/
structure Shows (d : D) : Prop where
  ok : d.showable = true
  nodict : d.hasDict = false
  size : d.shown.length ≤ sizeLine
  deep : d.depth ≤ 40
section
variable {X : Cx} {e : Expr} {ρ : Ro} {M : Mem} {p pos : Pos} {k : Nat}
end

section
variable {X : Cx} {e : Expr} {ρ : Ro} {M : Mem} {p pos kpos : Pos} {k : Nat} {w : W} {ws : List W} {kws : List Keyword} {nm : Option Str} {x : Str} {ps : List Str} {sd : Stmt}
end

/-! ### defs that hand back a new list -/
def spN (K : PySem.W.Frag) (C : List W → List D → Prop) : Sp := fun vs H Q _ => ∃ M ws ds, MemOk K H M ∧ (∀ p ∈ M, ∃ o, p.2 = Ow.any o) ∧ SWs K H (ads M) vs ws ∧ C ws ds ∧
  ∀ p xs H', H p = none → Same H H' → H' p = some (.lst xs) → DdAll K H' (p :: ads M) xs ds → Q (.ref p) H'
abbrev DefN (P : Program) (w : World) (K : PySem.W.Frag) (mg : Str → Option Value) (base : Heap) (k : Nat) (x : Str) (st : Stmt) (ps : List Str) (C : List W → List D → Prop) : Prop := Def P w K mg base k x st ps (spN K C)
section
variable {X : Cx} {ρ : Ro} {M : Mem} {e : Expr} {es : List Expr} {pos p : Pos} {ws : List W} {k : Nat} {x : Str} {ps : List Str} {sd : Stmt}
theorem en_call {C : List W → List D → Prop} {ds : List D} (F : DefN X.prog X.w X.K X.mg X.base k x sd ps C) (hr : Room k X.A) (hg : Gd X.A) (ha : EaD X (e :: es) ρ M ws) (hC : C ws ds) (hgl : Gl X x := by rfl) (hdb : (x == ("__debug__" : Str)) = false := by decide)
    (he : starEach (e :: es) X.env = (false, eval e X.env) :: starEach es X.env := by rfl) (hpl : (backTo pos (starEach es X.env)).any (·.1) = false := by rfl) : EvN X (.Call (.Name x p) (e :: es) [] pos) ρ M ds := fun σ H Q ok q => by
  obtain ⟨f, fd, G, hm, hk, hb, _⟩ := F.ex
  refine of_pe (peG_call G hr hg hgl hm hk hb .nil pass0 p_ra hdb he hpl) (ha σ H _ ok fun vs H1 s1 r1 => ?_)
  rw [List.append_nil]
  obtain ⟨M', ea, m', hany⟩ := (ok.mem.same s1).any
  exact ⟨M', ws, ds, m', hany, by rw [ea]; exact r1, hC, fun p xs H2 n s2 hp r2 => q p xs H2 (s1.free n) (s1.trans s2) hp (by rw [← ea]; exact r2)⟩
end
section
variable {X : Cx} {Hb : Hp} {Ab : List Addr} {E : En} {ρ : Ro} {M : Mem} {e : Expr} {pos : Pos}
/-- return of a new list, still owned -/
theorem s1_retN {ds : List D} (he : EvN X e ρ M ds) (h : ∀ p, p ∉ ads M → E.rt (.raw (.ref p)) ((p, .lst ds) :: M)) : S1 X Hb Ab (.Return (some e) pos) E ρ M := fun σ H D ok bs l =>
  of_ps (ps_ret p_rd) (he σ H _ ok fun p xs H1 n s1 hp r => l.rt _ _ _ H1 (h p (ok.mem.fresh n)) (ok.own (o := .lst ds) n s1 ⟨xs, hp, r⟩).mem rfl (bs.own_ n s1))
end
section
variable {P : Program} {w : World} {K : PySem.W.Frag} {mg : Str → Option Value} {base : Heap} {k : Nat} {f : Addr} {fd : FuncData} {ps N : List Str} {x qual : Str} {params : Arguments} {body : List Stmt} {scope : Scope} {dvs : List V} {kws : List (Str × V)}
theorem fnN_of {C : List W → List D → Prop} (F : FunD K x qual params body scope dvs kws f fd) (S : FnScope N ps scope) (len : ∀ ws ds, C ws ds → ws.length = ps.length)
    (hb : ∀ (cdv : Value) (A : Around) (outer : List Env) (s : Shared) (H : Hp) (E : XK) (ws : List W) (ds : List D) (M : Mem), Room k (cx0 P w K mg base N qual scope f cdv A outer s H E).A → Gd (cx0 P w K mg base N qual scope f cdv A outer s H E).A → C ws ds →
      Sv (cx0 P w K mg base N qual scope f cdv A outer s H E) H (ads M) body { nx := fun _ M1 => False, rt := fun r1 M1 => ∃ p Ml, p ∉ ads M ∧ r1 = .raw (.ref p) ∧ M1 = (p, .lst ds) :: (Ml ++ M) } (startW N ws) M) :
    FnG P w K mg base CX0 (k + 1) f fd ps (spN K C) := by
  refine fnG_of F S (fun vs H Q E h => ?_) fun cdv A outer s H vs Q E hr hg h => ?_
  · obtain ⟨M, ws, r, m, _, sw, hC, _⟩ := h
    rw [sw.length]
    exact len ws r hC
  · obtain ⟨M, ws, ds, m, hany, sw, hC, q⟩ := h
    refine ⟨_, PSs.nox p_rss, hb cdv A outer s H E ws ds M hr hg hC (L2.start N vs) H _ (start_ok m sw) (Bs.refl H M) ⟨fun _ _ _ _ z => z.elim, ?_, fun _ _ _ _ z => z.elim, fun _ _ _ _ z => z.elim⟩⟩
    rintro r1 M1 v H1 ⟨p, Ml, np, rfl, rfl⟩ m1 s1 bs1
    have e1 : v = .ref p := s1
    subst e1
    have same : Same H H1 := fun b o e => by
      by_cases hb : b ∈ ads M
      · obtain ⟨q, hq, rfl⟩ := List.mem_map.mp hb
        obtain ⟨u, hu⟩ := hany q hq
        have h1 := m.ok q hq
        have h2 := m1.ok q (List.mem_cons_of_mem _ (List.mem_append_right _ hq))
        rw [hu] at h1 h2
        have h1 : H q.1 = some u := h1
        have h2 : H1 q.1 = some u := h2
        rw [h2, ← h1]; exact e
      · exact bs1.ext b o e hb
    have fresh : H p = none := by
      rcases bs1.own p (List.mem_cons_self ..) with z | z
      · exact absurd z np
      · exact z
    obtain ⟨xs, h1, h2⟩ := m1.ok (p, .lst ds) (List.mem_cons_self ..)
    refine q p xs H1 fresh same h1 (h2.mv (Mv.sub fun b hb => ?_))
    rcases List.mem_cons.mp hb with z | z
    · rw [z]; exact List.mem_cons_self ..
    · refine List.mem_cons_of_mem _ ?_
      show b ∈ (Ml ++ M).map (·.1)
      rw [List.map_append]
      exact List.mem_append_right _ z
end

/-! ### effects: a def called with a new list that it alone holds -/
section
variable {X : Cx} {ρ : Ro} {M : Mem} {e : Expr} {pos p : Pos} {k : Nat} {x : Str} {ps : List Str} {sd : Stmt}
end

/-! ### effects in a for's head, in a comprehension's element -/
section
variable {X : Cx} {Hb : Hp} {Ab : List Addr} {E : En} {ρ : Ro} {M : Mem} {tg iter : Expr} {body : List Stmt} {pos : Pos}
end
section
variable {X : Cx} {ρ : Ro} {M : Mem} {tg iter elt : Expr} {scope : Scope} {pos : Pos} {own : List (Str × Nat)}
/-- [elt for tg in iter], the element with effects: P turn list memory -/
theorem lc_eff {σ : L2.St} {H : Hp} {Q : VK} {ws : List W} {Φ : List D → Mem → Prop} {ti : TI} (P : Nat → List D → Mem → Prop) (ok : Ok X.K H ρ M σ)
    (src : ∀ R : It → Hp → Prop, (∀ J H1, Same H H1 → (∀ i H2 A', Mv H1 H2 (ads M) A' → (∀ p ∈ A', H2 p ≠ none) → (∀ w, ws[i]? = some w → J.go i H2 ∧ ∀ x H3, J.yld i H2 x H3 → Same H2 H3 ∧ SW X.K H3 A' x w) ∧ (ws.length ≤ i → J.stop i H2)) → R J H1) → ti σ H R) (hown : ∀ i ∈ own.map (·.2), ∀ w, ρ[i]? ≠ some (some w)) (hl : ws.length ≤ sizeLine) (h0 : P 0 [] M)
    (hb : ∀ i w, ws[i]? = some w → ∀ D acc M1, D ∉ ads M1 → ads M1 = ads M → acc.length = i → P i acc M1 → ∃ ρ', Bk X scope fun Xb => TgD Xb tg (own.map (·.2)) ρ ((D, .lst acc) :: M1) w ρ' ∧ Ev Xb elt ρ' ((D, .lst acc) :: M1) fun w2 M2 => ∃ d M3, w2 = .dat d ∧ M2 = (D, .lst acc) :: M3 ∧ ads M3 = ads M ∧ P (i + 1) (acc ++ [d]) M3)
    (hd : ∀ acc M1, P ws.length acc M1 → acc.length = ws.length → Φ acc M1)
    (q : ∀ p xs acc M1 H', H p = none → Φ acc M1 → ads M1 = ads M → Ext (ads M) H H' → MemOk X.K H' M1 → H' p = some (.lst xs) → DdAll X.K H' (p :: ads M) xs acc → Q (.ref p) H') :
    tLc ti (tgF X scope tg) tYes (teF X scope elt) (own.map (·.2)) σ H Q := by
  refine src _ fun J H1 s1 hJ => fun D hD => ?_
  have ok1 := ok.same s1
  refine ⟨fun i m H' => m = ws.length - i ∧ i ≤ ws.length ∧ ∃ acc M1, P i acc M1 ∧ acc.length = i ∧ ads M1 = ads M ∧ Ok X.K H' ρ ((D, .lst acc) :: M1) σ ∧ Ext (ads M) H1 H', ⟨ws.length, by simp, Nat.zero_le _, [], M, h0, rfl, rfl, ok1.own (o := .lst []) hD (same_upd hD) ⟨[], upd_same, .nil⟩, Ext.of (same_upd hD)⟩, ?_⟩
  rintro i m H' ⟨rfl, hi, acc, M1, hP, hlen, ea, okD, x1⟩
  have ea2 : ads ((D, .lst acc) :: M1) = D :: ads M := by show D :: ads M1 = _; rw [ea]
  have mv1 : Mv H1 H' (ads M) (D :: ads M) := fun b u r n => by
    have nb : b ∉ D :: ads M := fun z => by
      rcases List.mem_cons.mp z with z | z
      · subst z
        rw [hD] at r
        cases r
      · exact n z
    exact ⟨(x1.mv b u r n).1, nb⟩
  have hA : ∀ p ∈ D :: ads M, H' p ≠ none := fun p hp => okD.mem.tracked (by rw [ea2]; exact hp)
  obtain ⟨j1, j2⟩ := hJ i H' (D :: ads M) mv1 hA
  by_cases hlt : i < ws.length
  · have hw : ws[i]? = some ws[i] := List.getElem?_eq_getElem hlt
    obtain ⟨go, yl⟩ := j1 ws[i] hw
    have nD : D ∉ ads M1 := (List.nodup_cons.mp (show (D :: ads M1).Nodup from okD.mem.nd)).1
    refine .inr ⟨go, fun H2 => ∃ acc M1, P (i + 1) acc M1 ∧ acc.length = i + 1 ∧ ads M1 = ads M ∧ Ok X.K H2 ρ ((D, .lst acc) :: M1) σ ∧ Ext (ads M) H1 H2, fun H2 h => ⟨ws.length - (i + 1), by omega, rfl, hlt, h⟩, fun x H3 hy => ?_⟩
    obtain ⟨s3, r3⟩ := yl x H3 hy
    obtain ⟨ρ', hb'⟩ := hb i ws[i] hw D acc M1 nD ea hlen hP
    intro s0 H0 C cl fp
    obtain ⟨tgd, _⟩ := hb' s0 H0 C cl fp
    refine tgd x _ H3 _ (by rw [ea2]; exact r3) ((okD.same s3).wipe hown) fun σ4 H4 s4 ok4 hw4 => ⟨by rw [hw4, wipe_idem], ?_⟩
    dsimp only [tYes]
    rw [if_pos rfl]
    clear tgd
    intro s0 H0 C cl fp
    obtain ⟨_, hel⟩ := hb' s0 H0 C cl fp
    refine hel σ4 H4 _ ok4 fun w2 M2 y H5 h2 ea5 x5 m5 r5 => ?_
    obtain ⟨d, M3, rfl, rfl, ea3, hP'⟩ := h2
    rw [ea2] at x5 r5
    obtain ⟨xs, hx, hdd⟩ := m5.ok (D, .lst acc) (List.mem_cons_self ..)
    have ea6 : ads ((D, .lst acc) :: M3) = D :: ads M := by show D :: ads M3 = _; rw [ea3]
    have okX : Ok X.K H5 ρ ((D, .lst acc) :: M3) σ := by
      refine ((okD.same s3).same s4).ext (by rw [ea6, ea2]) (by rw [ea2]; exact x5) m5
    have lt : xs.length < sizeLine := by
      rw [hdd.length, hlen]
      exact Nat.lt_of_lt_of_le hlt hl
    refine ⟨xs, hx, lt, acc ++ [d], M3, hP', by rw [List.length_append, hlen]; rfl, ea3, ?_, ?_⟩
    · have := okX.put (k := 0) (p := D) (o := .lst acc) (o' := .lst (acc ++ [d])) (ho := .lst (xs ++ [y])) rfl ⟨xs ++ [y], upd_same, ?_⟩
      · exact this
      · rw [ea6] at hdd ⊢
        refine (hdd.append (.cons (show Dd X.K H5 (D :: ads M) y d from r5) .nil)).mv ?_
        refine Ext.mv fun b o e n => ?_
        rw [upd_ne (fun z => n (by simp [z]))]; exact e
    · intro b o e n
      have hbD : b ≠ D := ne_of_none e hD
      rw [upd_ne hbD]
      exact x5 b o (s4 _ _ (s3 _ _ (x1 b o e n))) (fun z => by
        rcases List.mem_cons.mp z with z | z
        · exact hbD z
        · exact n z)
  · have e : i = ws.length := by omega
    subst e
    obtain ⟨xs, hx, hdd⟩ := okD.mem.ok (D, .lst acc) (List.mem_cons_self ..)
    refine .inl ⟨j2 (Nat.le_refl _), q D xs acc M1 H' (s1.free hD) (hd acc M1 hP hlen) ea ((Ext.of s1).trans x1) okD.mem.drop hx ?_⟩
    rw [ea2] at hdd
    exact hdd
theorem Ev.lc {ws : List W} {Φ : W → Mem → Prop} (own : List (Str × Nat)) (P : Nat → List D → Mem → Prop) (hN : X.N.Nodup) (src : Src X false tg iter ρ M ws) (bk : BlkOk X.N X.env.scope scope own) (hown : ∀ i ∈ own.map (·.2), ∀ w, ρ[i]? ≠ some (some w)) (hl : ws.length ≤ sizeLine) (h0 : P 0 [] M)
    (hb : ∀ i w, ws[i]? = some w → ∀ D acc M1, D ∉ ads M1 → ads M1 = ads M → acc.length = i → P i acc M1 → ∃ ρ', Bk X scope fun Xb => TgD Xb tg (own.map (·.2)) ρ ((D, .lst acc) :: M1) w ρ' ∧ Ev Xb elt ρ' ((D, .lst acc) :: M1) fun w2 M2 => ∃ d M3, w2 = .dat d ∧ M2 = (D, .lst acc) :: M3 ∧ ads M3 = ads M ∧ P (i + 1) (acc ++ [d]) M3)
    (hd : ∀ acc M1, P ws.length acc M1 → acc.length = ws.length → Φ (.dat (.list acc)) M1)
    (hc : X.calm = true := by rfl) (hs : ∀ x, foldedSetIterable iter X.env x = pure x := by intro _; rfl) : Ev X (.ListComp elt [⟨tg, iter, [], 0⟩] scope pos) ρ M Φ := fun σ H Q ok q =>
  of_pe (pe_lc hc hN p_ri bk p_tgF (fun _ _ _ _ _ => pts_nil) p_teF hs) (lc_eff (Φ := fun acc M1 => Φ (.dat (.list acc)) M1) P ok (fun R r => src σ H R ok fun J H1 s1 hJ => r J H1 s1 fun i H2 A' => hJ i H2 A' fun z => nomatch z) hown hl h0 hb hd fun p xs acc M1 H' n h1 ea x m hp r =>
    q _ M1 _ H' h1 ea x m (.lst (.inl hp) (ok.mem.fresh n) (r.mv (Mv.sub fun b hb => List.mem_cons_of_mem _ hb))))
/-- all([..]) with effects -/
theorem Ev.all {e : Expr} {p : Pos} {Φ : W → Mem → Prop} (hm : X.mg "all" = none) (h : Ev X e ρ M fun w M1 => ∃ bs : List Bool, w = .dat (.list (bs.map .bool)) ∧ Φ (.dat (.bool (bs.all id))) M1) (hc : X.calm = true := by rfl) (hg : Gl X "all" := by rfl)
    (hs : starEach [e] X.env = (false, eval e X.env) :: starEach [] X.env := by rfl) (hpl : (backTo pos (starEach [] X.env)).any (·.1) = false := by rfl) : Ev X (.Call (.Name "all" p) [e] [] pos) ρ M Φ := fun σ H Q ok q =>
  of_pe (pe_callB (cr_all hc) hg hm (by decide +kernel) (pa_cons p_rd pa_nil hs) (by decide) (by decide) hs hpl) (h σ H _ ok fun w M1 v H1 h1 ea x m r => by
    obtain ⟨bs, rfl, h1⟩ := h1
    obtain ⟨a, xs, rfl, h2, h3⟩ := Dd.l r
    exact ⟨a, bs, rfl, by rw [← h3.bools]; exact h2, q _ M1 _ H1 h1 ea x m (.bl _)⟩)
end
end XB

/-! XI: defs by their place in the text; small things. -/
namespace XB
open PySem PySem.Spec PyProof.Rows L2

/-- the def of the statement st stands under its name -/
def Here (K : PySem.W.Frag) (mg : Str → Option Value) (x : Str) (st : Stmt) : Prop := ∃ f fd, FunD K x x (defArgs st) (defBody st) (defScope st) [] [] f fd ∧ mg x = some (.ref f)
section
variable {P : Program} {w : World} {K : PySem.W.Frag} {mg : Str → Option Value} {base : Heap} {k : Nat} {ps N : List Str} {x : Str} {st : Stmt}
abbrev BindF (x : Str) (st : Stmt) (ps : List Str) : Prop := ∀ (kV doc pm : Value) (an : Option Addr) (cdv ct : Value) (us : List Value), us.length = ps.length → bindArgs (PySem.W.fnOf x x (defArgs st) (defBody st) (defScope st) .none kV doc pm an cdv ct) ⟨us, []⟩ = pure (ps.zip us)
theorem Def.of {sp : Sp} (F : Here K mg x st) (hb : BindF x st ps) (G : ∀ f fd, FunD K x x (defArgs st) (defBody st) (defScope st) [] [] f fd → FnG P w K mg base CX0 k f fd ps sp) : Def P w K mg base k x st ps sp := by
  obtain ⟨f, fd, FD, hm⟩ := F
  exact ⟨f, fd, G f fd FD, hm, FD.kp, FD.bindsN hb, FD⟩
theorem DefP.of {C : List W → W → Prop} (F : Here K mg x st) (S : FnScope N ps (defScope st)) (hb : BindF x st ps) (len : ∀ ws w, C ws w → ws.length = ps.length)
    (body : ∀ (f : Addr) (cdv : Value) (A : Around) (outer : List Env) (s : Shared) (H : Hp) (E : XK) (ws : List W) (r : W) (M : Mem), Room k (cx0 P w K mg base N x (defScope st) f cdv A outer s H E).A → Gd (cx0 P w K mg base N x (defScope st) f cdv A outer s H E).A → C ws r →
      Sv (cx0 P w K mg base N x (defScope st) f cdv A outer s H E) H (ads M) (defBody st) { nx := fun _ M1 => r = .dat .none ∧ ∃ Ml, M1 = Ml ++ M, rt := fun r1 M1 => r1 = r ∧ ∃ Ml, M1 = Ml ++ M } (startW N ws) M) :
    DefP P w K mg base (k + 1) x st ps C :=
  Def.of F hb fun f fd FD => fnP_of FD S len (body f)
theorem DefE.of {C : Ct} (F : Here K mg x st) (S : FnScope N ps (defScope st)) (hb : BindF x st ps) (len : ∀ ws M Φ, C ws M Φ → ws.length = ps.length)
    (body : ∀ (f : Addr) (cdv : Value) (A : Around) (outer : List Env) (s : Shared) (H : Hp) (E : XK) (ws : List W) (Φ : W → Mem → Prop) (M : Mem), Room k (cx0 P w K mg base N x (defScope st) f cdv A outer s H E).A → Gd (cx0 P w K mg base N x (defScope st) f cdv A outer s H E).A → C ws M Φ →
      Sv (cx0 P w K mg base N x (defScope st) f cdv A outer s H E) H (ads M) (defBody st) { nx := fun _ M1 => ∃ Ml M2, M1 = Ml ++ M2 ∧ ads M2 = ads M ∧ Φ (.dat .none) M2, rt := fun r M1 => ∃ Ml M2, M1 = Ml ++ M2 ∧ ads M2 = ads M ∧ Φ r M2 } (startW N ws) M) :
    DefE P w K mg base (k + 1) x st ps C :=
  Def.of F hb fun f fd FD => fnE_of FD S len (body f)
theorem DefN.of {C : List W → List D → Prop} (F : Here K mg x st) (S : FnScope N ps (defScope st)) (hb : BindF x st ps) (len : ∀ ws ds, C ws ds → ws.length = ps.length)
    (body : ∀ (f : Addr) (cdv : Value) (A : Around) (outer : List Env) (s : Shared) (H : Hp) (E : XK) (ws : List W) (ds : List D) (M : Mem), Room k (cx0 P w K mg base N x (defScope st) f cdv A outer s H E).A → Gd (cx0 P w K mg base N x (defScope st) f cdv A outer s H E).A → C ws ds →
      Sv (cx0 P w K mg base N x (defScope st) f cdv A outer s H E) H (ads M) (defBody st) { nx := fun _ M1 => False, rt := fun r1 M1 => ∃ p Ml, p ∉ ads M ∧ r1 = .raw (.ref p) ∧ M1 = (p, .lst ds) :: (Ml ++ M) } (startW N ws) M) :
    DefN P w K mg base (k + 1) x st ps C :=
  Def.of F hb fun f fd FD => fnN_of FD S len (body f)
end

/-! ### kinds -/
def isI : D → Bool
  | .int _ => true
  | _ => false
def isB : D → Bool
  | .bool _ => true
  | _ => false
def isT : D → Bool
  | .tuple _ => true
  | _ => false
theorem kit_int (d : D) : kitB (tyD d) "int" = some (isI d || isB d) := by
  have h : ∀ s ∈ ["NoneType", "bool", "int", "str", "list", "tuple", "dict"], kitB s "int" = some (s == "int" || s == "bool") := by decide +kernel
  cases d <;> exact h _ (by simp [tyD])
theorem kit_bool (d : D) : kitB (tyD d) "bool" = some (isB d) := by
  have h : ∀ s ∈ ["NoneType", "bool", "int", "str", "list", "tuple", "dict"], kitB s "bool" = some (s == "bool") := by decide +kernel
  cases d <;> exact h _ (by simp [tyD])
theorem kit_tuple (d : D) : kitB (tyD d) "tuple" = some (isT d) := by
  have h : ∀ s ∈ ["NoneType", "bool", "int", "str", "list", "tuple", "dict"], kitB s "tuple" = some (s == "tuple") := by decide +kernel
  cases d <;> exact h _ (by simp [tyD])
/-! ### great powers -/
def CPowW (i j : Int) : Prop := 1 < i ∧ 0 < j ∧ j ≤ 1000 ∧ i.natAbs < 2 ^ 4000
theorem op_powW {X : Cx} : OpR X (binaryOp .Pow) (rI CPowW fun i j => .int (i ^ j.toNat)) := opI fun i j _ _ s Q E hc q => by
  obtain ⟨h1, h2, h3, h4⟩ := hc
  refine PySem.AutoIntOps.pow_4 (by omega) (by simp; omega) (by simp; omega) (by simp; omega) ?_ q
  have hb : Builtin.Int.intBits i ≤ 4000 := by
    unfold Builtin.Int.intBits
    split
    · omega
    · have := PySem.Flt.log2_lt_of (by decide : 0 < 4000) h4
      omega
  intro z
  unfold Builtin.Int.intTooBig at z
  have z := of_decide_eq_true z
  have e : bitsLine = 134217728 := by decide
  rw [e] at z
  have h5 : ((Builtin.Int.intBits i : Nat) : Int) * j ≤ 4000 * 1000 := Int.mul_le_mul (by omega) h3 (by omega) (by decide)
  omega
end XB
namespace XB
open PySem PySem.Spec PyProof.Rows L2
end XB

/-! XJ: numbers that are not negative. -/
namespace XB
open PySem PySem.Spec PyProof.Rows L2
abbrev dn (n : Nat) : D := .int (n : Int)
abbrev dns (l : List Nat) : List D := l.map dn
section
variable {X : Cx} {ρ : Ro} {M : Mem} {a b c e : Expr} {pos : Pos} {m n k : Nat}
theorem ev_nat {j} {i : Nat} : EvD X (.Constant (.int (i : Int)) j pos) ρ M (.dat (dn i)) := ev_int
end

/-! ### parity -/
def par (n : Nat) : Nat := if h : n = 0 then 0 else (n % 2 + par (n / 2)) % 2
termination_by n
decreasing_by omega
theorem par_zero : par 0 = 0 := by unfold par; rfl
theorem par_eq (n : Nat) : par n = (n % 2 + par (n / 2)) % 2 := by
  by_cases h : n = 0
  · subst h
    rw [show 0 / 2 = 0 from rfl, par_zero]
  · rw [par, dif_neg h]
theorem par_lt (n : Nat) : par n < 2 := by
  rw [par_eq]
  exact Nat.mod_lt _ (by decide)
/-- the bank of an address -/
def bankN : List Nat → Nat → Nat
  | [], _ => 0
  | m :: ms, a => par (m &&& a) + 2 * bankN ms a
end XB

/-! XK: lists joined and cut, deep equality, easier comprehensions. -/
namespace XB
open PySem PySem.Spec PyProof.Rows L2

/-! ### list + list, any two lists -/
theorem list_add_any (l : Addr) (items : Array Value) (n : Nat) (b : Addr) (items2 : Array Value) (n2 : Nat) (sl sl2 : Array (Option Value)) (hc0 : items.size + items2.size ≤ sizeLine) :
    Meets (Builtin.«list.__add__» ⟨[.ref l, .ref b], []⟩) (fun _ R s => s.heap.get? l = some { cls := .type "list", dict := none, data := .seq items n, slots := sl } ∧ s.heap.get? b = some { cls := .type "list", dict := none, data := .seq items2 n2, slots := sl2 } ∧
      R (.ok (.ret (Value.ref s.heap.objs.size))) { s with heap := s.heap.push { cls := Value.type "list", data := Data.seq (items ++ items2) }, toks := s.toks }) :=
  .of_wp fun prog w A R s h => by
    obtain ⟨hp, g, d, tk, os⟩ := s
    obtain ⟨hl, hb, h⟩ := h
    have f1 := PySem.AutoSeq1.idx_int
    have f2 := PySem.AutoSeq1.sub_tuple_tuple
    have f3 := PySem.AutoSeq1.sub_list_list
    have f4 := PySem.AutoSeq1.sub_tuple_list
    have f5 := PySem.AutoSeq1.sub_list_tuple
    wp_walk using wpAny_loadPart' hl, wpAny_loadPart' hb
    exact ⟨_, rfl, h⟩
def rCatL (K : PySem.W.Frag) : R2 := fun x y H Q => ∃ l b xs zs, x = .ref l ∧ y = .ref b ∧ SqL K H l xs ∧ SqL K H b zs ∧ xs.length + zs.length ≤ sizeLine ∧ ∀ p, H p = none → Q (.ref p) (upd H p (.lst (xs ++ zs)))
theorem op_catL {X : Cx} : OpR X (binaryOp .Add) (rCatL X.K) := by
  intro pins s σ H x y v u Q I rx ry h
  obtain ⟨l, b, xs, zs, rfl, rfl, hH, hB, hz, q⟩ := h
  cases rx
  cases ry
  obtain ⟨its, r, ⟨o, n, ho, hc, hd, hs⟩, hz1⟩ := I.list hH
  obtain ⟨its2, r2, ⟨o2, n2, ho2, hc2, hd2, hs2⟩, hz2⟩ := I.list hB
  obtain ⟨c, d, da, sl⟩ := o
  obtain ⟨c2, d2, da2, sl2⟩ := o2
  simp only at hc hd hs hc2 hd2 hs2
  subst hc; subst hd; subst hs; subst hc2; subst hd2; subst hs2
  have e1 := r.length
  have e2 := r2.length
  refine PySem.concat_meets ⟨_, ho, rfl⟩ ⟨_, ho2, rfl⟩ noFill_list_add seq_list_add F.slot_list_add F.entry_list_add (F.args_list_add_2 _ _) (list_add_any l its.toArray n b its2.toArray n2 sl sl2 (by rw [List.size_toArray, List.size_toArray]; omega)) ⟨ho, ho2, ?_⟩
  have ea : its.toArray ++ its2.toArray = (its ++ its2).toArray := by simp
  rw [ea]
  exact ⟨.ref _, _, I.lnew (t' := s.toks) (r.append r2) (by rw [List.length_append]; omega), rfl, q _ I.fresh⟩
theorem SqL.same {K : PySem.W.Frag} {H H' : Hp} {a : Addr} {xs : List V} (e : Same H H') (h : SqL K H a xs) : SqL K H' a xs := by
  rcases h with h | h
  · rcases h with h | ⟨o, h⟩
    · exact .inl (.inl (e _ _ h))
    · exact .inl (.inr ⟨o, e _ _ h⟩)
  · exact .inr h
section
variable {X : Cx} {ρ : Ro} {M : Mem} {a b e : Expr} {pos : Pos}
theorem en_cat {ds es : List D} (ha : EvL X a ρ M ds) (hb : EvL X b ρ M es) (hl : ds.length + es.length ≤ sizeLine) : EvN X (.BinOp a .Add b pos) ρ M (ds ++ es) := fun σ H Q ok q =>
  of_pe (pe_op op_catL p_rd p_rd) (ha σ H _ ok fun p xs H1 s1 h1 r1 => hb σ H1 _ (ok.same s1) fun p2 ys H2 s2 h2 r2 => by
    have r1' := r1.mv (Ext.of s2).mv
    refine ⟨p, p2, xs, ys, rfl, rfl, SqL.same s2 h1, h2, by rw [r1.length, r2.length]; exact hl, fun z hz => ?_⟩
    refine q z _ _ ((s1.trans s2).free hz) ((s1.trans s2).trans (same_upd hz)) upd_same ?_
    have hn : z ∉ ads M := (ok.same (s1.trans s2)).mem.fresh hz
    exact ((r1'.append r2).mv ((Mv.add hz).trans (Ext.mv (A := z :: ads M) (Ext.of (same_upd hz))))))
/-! ### cuts of lists -/
def cutL (ds : List D) (lo hi : Option Int) : List D := (ds.drop (HT.sIx ds.length 0 lo)).take (HT.sIx ds.length ds.length hi - HT.sIx ds.length 0 lo)
theorem cut_dd {K : PySem.W.Frag} {H : Hp} {A : List Addr} {xs : List V} {ds : List D} (h : DdAll K H A xs ds) (lo hi : Option Int) : DdAll K H A (cutV xs lo hi) (cutL ds lo hi) := by
  unfold cutV cutL
  rw [h.length]
  exact (h.drop _).take _
inductive Part (X : Cx) (ρ : Ro) (M : Mem) : Option Expr → Option Int → Prop
  | no : Part X ρ M none none
  | some {e : Expr} {i : Int} : EvD X e ρ M (.dat (.int i)) → Part X ρ M (some e) (some i)
def rpart (X : Cx) (o : Option Expr) : TO := fun σ H Q => ∀ pins s, L2.Inv X pins σ H s → wpAny (model X.prog X.w) X.A (evalPart o X.env) (fun u s' => ∃ o H', L2.Inv X pins σ H' s' ∧ IsPart u o ∧ Q o H') X.xe s
theorem p_rpart {o : Option Expr} : PO X o (rpart X o) := ⟨fun pins s σ H Q I h => h pins s I⟩
theorem Part.run {o : Option Expr} {i : Option Int} {σ : L2.St} {H : Hp} {Q : Option Int → Hp → Prop} (h : Part X ρ M o i) (ok : Ok X.K H ρ M σ) (q : ∀ H', Same H H' → Q i H') : rpart X o σ H Q := fun pins s I => by
  cases h with
  | no => exact po_none.run pins s σ H Q I (q H (Same.refl H))
  | some he => exact (po_some p_rd).run pins s σ H Q I (he σ H _ ok fun v H1 s1 r1 => ⟨_, Dd.int_of r1, q H1 s1⟩)
variable {lo hi : Option Expr} {i j : Option Int} {p2 : Pos}
/-! ### deep == and != -/
def EvR (X : Cx) (e : Expr) (ρ : Ro) (M : Mem) (d : D) : Prop := ∀ σ H Q, Ok X.K H ρ M σ → (∀ v H', Same H H' → Dp X.K H' v d → Q v H') → rd X e σ H Q
theorem EvD.r {d : D} (h : EvD X e ρ M (.dat d)) (hd : d.hasDict = false) : EvR X e ρ M d := fun σ H Q ok q => h σ H Q ok fun v H1 s1 r1 => q v H1 s1 (Dd.dp r1 hd)
theorem EvL.r {ds : List D} (h : EvL X e ρ M ds) (hd : PyData.hasDictAll ds = false) : EvR X e ρ M (.list ds) := fun σ H Q ok q => h σ H Q ok fun p xs H1 s1 h1 r1 => q _ H1 s1 (.lst h1 (r1.dp hd))
mutual
theorem Dp.same {K : PySem.W.Frag} {H H' : Hp} (e : Same H H') : ∀ {v : V} {d : D}, Dp K H v d → Dp K H' v d
  | _, _, .non => .non
  | _, _, .bl b => .bl b
  | _, _, .int i => .int i
  | _, _, .str x => .str x
  | _, _, .lst h r => .lst (SqL.same e h) (DpAll.same e r)
  | _, _, .tup h r => .tup (Same.seqT e h) (DpAll.same e r)
theorem DpAll.same {K : PySem.W.Frag} {H H' : Hp} (e : Same H H') : ∀ {v : List V} {d : List D}, DpAll K H v d → DpAll K H' v d
  | _, _, .nil => .nil
  | _, _, .cons h r => .cons (Dp.same e h) (DpAll.same e r)
end
variable {d d2 : D} {k : Nat}
theorem et_eqD (hr : Room k X.A) (ha : EvR X a ρ M d) (hb : EvR X b ρ M d2) (h1 : SeqAt.shaped d = true) (h2 : SeqAt.shaped d2 = true) (hm : behindInMarks CmpOp.Eq b = false := by first | exact nobehind _ (by decide) (by decide) | rfl) : EtD X (.Compare a [.Eq] [b] pos) ρ M (PyData.eqv d d2) := fun σ H Q ok q =>
  of_pt (pt_cmpR (op_eqD (by have := hr.units; omega)) p_rd p_rd hm) (ha σ H _ ok fun v1 H1 s1 r1 => hb σ H1 _ (ok.same s1) fun v2 H2 s2 r2 => ⟨d, d2, Dp.same s2 r1, r2, h1, h2, _, rfl, q H2 (s1.trans s2)⟩)
end

/-! ### an item of an owned list, the index with effects -/
section
variable {X : Cx} {ρ : Ro} {M : Mem} {a b e : Expr} {pos : Pos}
theorem Ev.ixO {Φ : W → Mem → Prop} {p : Addr} (ha : EvD X a ρ M (.raw (.ref p))) (h : Ev X b ρ M fun wb M2 => ∃ (ds : List D) (i : Int) (d : D), (p, Ow.lst ds) ∈ M2 ∧ wb = .dat (.int i) ∧ atI ds i = some d ∧ Φ (.dat d) M2) (hs : PlainIx b := by intro _ _; rfl) : Ev X (.Subscript a b pos) ρ M Φ := fun σ H Q ok q =>
  of_pe (pe_ix ix_list p_rd p_rd hs) (ha σ H _ ok fun v1 H1 s1 r1 => h σ H1 _ (ok.same s1) fun w2 M2 v2 H2 h2 ea2 x2 m2 r2 => by
    have e1 : v1 = .ref p := r1
    subst e1
    obtain ⟨ds, i, d, hm, rfl, hi, h2⟩ := h2
    obtain ⟨xs, q1, q2⟩ := m2.ok _ hm
    obtain ⟨v, e, r⟩ := atI_dd q2 hi
    exact ⟨p, xs, i, v, rfl, Dd.int_of r2, .of q1, e, q _ M2 v H2 h2 ea2 ((Ext.of s1).trans x2) m2 (by rw [← ea2]; exact r)⟩)
end

/-! ### comprehensions over a name or a pair -/
def noneAt (ρ : Ro) (i : Nat) : Bool := match ρ[i]? with
  | some (some _) => false
  | _ => true
theorem noneAt_of {ρ : Ro} {i : Nat} (h : noneAt ρ i = true) (w : W) : ρ[i]? ≠ some (some w) := fun e => by
  unfold noneAt at h
  rw [e] at h
  cases h
theorem filter_yes {α : Type} (l : List α) : l.filter (fun _ => true) = l := List.filter_eq_self.mpr fun _ _ => rfl
section
variable {X : Cx} {ρ : Ro} {M : Mem} {iter elt : Expr} {scope : Scope} {pos tp : Pos} {α : Type} {pu : Bool} {x y : Str} {ws : List W} {l : List α} {g : α → D} {ifs : List Expr} {qq : α → Bool}
abbrev BlkX (X : Cx) (scope : Scope) (s : Shared) (H : Hp) (C : Addr) (cl : List (Str × Addr)) (fp : List Addr) : Cx := X.blk s H scope (compEnvC scope cl C X.env) fp
/-- [elt for x in iter] -/
theorem en_lcN {ds : List D} (i : Nat) (f : α → W) (hds : l.map g = ds) (src : Src X pu (.Name x tp) iter ρ M ws) (hws : ws = l.map f) (bk : BlkOk X.N X.env.scope scope [(x, i)]) (hN : X.N.Nodup) (hl : l.length ≤ sizeLine)
    (hb : ∀ a ∈ l, ∀ D acc, D ∉ ads M → Bk X scope fun Xb => EvD Xb elt (ρ.set i (some (f a))) ((D, .lst acc) :: M) (.dat (g a))) (hn : noneAt ρ i = true := by rfl)
    (hi : X.N[i]? = some x := by rfl) (hx : ∀ s H C cl fp, Loc (BlkX X scope s H C cl fp).env.scope x := by first | exact fun _ _ _ _ _ => Or.inl rfl | exact fun _ _ _ _ _ => Or.inr rfl)
    (hf : ∀ s H C cl fp, (BlkX X scope s H C cl fp).fn x = true ∨ (BlkX X scope s H C cl fp).env.scope.names.lookup x = some .local := by first | exact fun _ _ _ _ _ => Or.inl rfl | exact fun _ _ _ _ _ => Or.inr rfl)
    (hc : X.calm = true := by rfl) (hs : ∀ x, foldedSetIterable iter X.env x = pure x := by intro _; rfl) : EvN X (.ListComp elt [⟨.Name x tp, iter, [], 0⟩] scope pos) ρ M ds := by
  subst hws
  subst hds
  have h := en_lc (pos := pos) (qq := fun _ => true) (g := g) (ifs := []) [(x, i)] hN src bk (fun j hj w => by
    have e : j = i := by simpa using hj
    subst e
    exact noneAt_of hn w) hl (fun a ha D acc hD => ⟨_, fun s H C cl fp => ⟨tg_name i hN hi (hx s H C cl fp) (hf s H C cl fp), .nil, fun _ => hb a ha D acc hD s H C cl fp⟩⟩) hc hs
  rw [filter_yes] at h
  exact h
end
end XB

/-! XL: what is walked, made with effects; append with effects. -/
namespace XB
open PySem PySem.Spec PyProof.Rows L2
/-- iter with effects -/
def SrcE (X : Cx) (tg iter : Expr) (ρ : Ro) (M : Mem) (Φ : List W → Mem → Prop) : Prop := ∀ σ H R, Ok X.K H ρ M σ →
  (∀ ws M1 J H1, Φ ws M1 → ads M1 = ads M → Ext (ads M) H H1 → MemOk X.K H1 M1 → (∀ i H2 A', Mv H1 H2 (ads M1) A' → (∀ p ∈ A', H2 p ≠ none) →
    (∀ w, ws[i]? = some w → J.go i H2 ∧ ∀ x H3, J.yld i H2 x H3 → Same H2 H3 ∧ SW X.K H3 A' x w) ∧ (ws.length ≤ i → J.stop i H2)) → R J H1) → ri X tg iter σ H R
section
variable {X : Cx} {tg e a b : Expr} {ρ : Ro} {M : Mem} {p pos : Pos}
theorem srcE_range1 {Φ : List W → Mem → Prop} (hm : X.mg "range" = none) (h : Ev X a ρ M fun w M1 => ∃ n : Int, w = .dat (.int n) ∧ -(2 ^ 62) ≤ n ∧ n < 2 ^ 62 ∧ Φ ((upFrom 0 n.toNat).map fun i => .dat (.int i)) M1) (hg : Gl X "range" := by rfl) (hs : starEach [a] X.env = [(false, eval a X.env)] := by rfl) :
    SrcE X tg (.Call (.Name "range" p) [a] [] pos) ρ M Φ := fun σ H R ok r =>
  of_pi (pi_range1 hg hm (pa_cons p_rd pa_nil hs) hs) (h σ H _ ok fun w M1 v H1 h1 ea x1 m1 r1 => by
    obtain ⟨n, rfl, b1, b2, h1⟩ := h1
    exact ⟨n, by rw [Dd.int_of r1], b1, b2, r _ M1 _ H1 h1 ea x1 m1 fun i H2 A' m hA => src_rng i H2 A' (pu := false) (fun z => nomatch z) m hA⟩)
end
section
variable {X : Cx} {Hb : Hp} {Ab : List Addr} {E : En} {ρ : Ro} {M : Mem} {tg iter e : Expr} {body : List Stmt} {pos : Pos}
/-- for, its iterable made with effects -/
theorem s1_forE {ts : List Nat} (src : SrcE X tg iter ρ M fun ws M1 => ∃ P : Nat → Ro → Mem → Prop, P 0 ρ M1 ∧
      (∀ (Hb' : Hp) i w ρ1 M2, ws[i]? = some w → P i ρ1 M2 → ∃ ρ2, TgD X tg ts ρ1 M2 w ρ2 ∧ Sv X Hb' (ads M1) body { nx := P (i + 1), ct := P (i + 1), bk := E.nx, rt := E.rt } ρ2 M2) ∧
      ∀ ρ1 M2, P ws.length ρ1 M2 → E.nx ρ1 M2)
    (hp : PassesOwn (model X.prog X.w) X.A X.env X.xe) (hc : X.calm = true := by rfl) (hf : ∀ x, foldedSetIterable iter X.env x = pure x := by intro _; rfl) : S1 X Hb Ab (.For tg iter body [] pos) E ρ M := fun σ H D ok bs l =>
  of_ps (ps_for hp hc p_ri p_rg p_rss hf) (src σ H _ ok fun ws M0 J H1 h1 ea1 x1 m1 hJ => by
    obtain ⟨P, h0, hs, hd⟩ := h1
    have ok1 := ok.ext ea1 x1 m1
    have bs1 : Bs Hb Ab H1 M0 := bs.step ea1 x1
    refine ⟨fun i m σ' H' => m = ws.length - i ∧ i ≤ ws.length ∧ ∃ ρ1 M1, P i ρ1 M1 ∧ Ok X.K H' ρ1 M1 σ' ∧ Bs H1 (ads M0) H' M1, ⟨ws.length, by simp, Nat.zero_le _, ρ, M0, h0, ok1, Bs.refl H1 M0⟩, ?_⟩
    rintro i m σ' H' ⟨rfl, hi, ρ1, M1, hP, ok1, bs2⟩
    have hA : ∀ p ∈ ads M1, H' p ≠ none := fun p hp => ok1.mem.tracked hp
    obtain ⟨j1, j2⟩ := hJ i H' (ads M1) bs2.mv hA
    by_cases hlt : i < ws.length
    · obtain ⟨w, hw⟩ : ∃ w, ws[i]? = some w := ⟨ws[i], List.getElem?_eq_getElem hlt⟩
      obtain ⟨go, yl⟩ := j1 w hw
      refine .inr ⟨go, fun σ2 H2 => ∃ ρ1 M1, P (i + 1) ρ1 M1 ∧ Ok X.K H2 ρ1 M1 σ2 ∧ Bs H1 (ads M0) H2 M1, fun σ2 H2 h => ⟨ws.length - (i + 1), by omega, rfl, hlt, h⟩, fun x H3 hy => ?_⟩
      obtain ⟨s3, r3⟩ := yl x H3 hy
      obtain ⟨ρ2, tgd, sv⟩ := hs H1 i w ρ1 M1 hw hP
      refine tgd x σ' H3 _ r3 (ok1.same s3) fun σ4 H4 s4 ok4 _ => ?_
      exact sv σ4 H4 _ ok4 ((bs2.same s3).same s4) ⟨fun ρ5 M5 σ5 H5 h5 ok5 bs5 => ⟨ρ5, M5, h5, ok5, bs5⟩, (l.trans bs1).rt, (l.trans bs1).nx, fun ρ5 M5 σ5 H5 h5 ok5 bs5 => ⟨ρ5, M5, h5, ok5, bs5⟩⟩
    · have e : i = ws.length := by omega
      subst e
      exact .inl ⟨j2 (Nat.le_refl _), (l.trans bs1).nx ρ1 M1 σ' H' (hd ρ1 M1 hP) ok1 bs2⟩)
end
section
variable {X : Cx} {Hb : Hp} {Ab : List Addr} {E : En} {ρ : Ro} {M : Mem} {st : Stmt} {rest : List Stmt}
/-- the ways out meet in J -/
theorem S1.meet {J : Ro → Mem → Prop} (h : S1 X Hb Ab st { E with nx := J } ρ M) (hj : ∀ ρ' M', J ρ' M' → E.nx ρ' M') : S1 X Hb Ab st E ρ M := fun σ H D ok bs l =>
  h σ H D ok bs ⟨fun ρ1 M1 σ1 H1 h1 => l.nx ρ1 M1 σ1 H1 (hj _ _ h1), l.rt, l.bk, l.ct⟩
/-- a statement, then the rest from J -/
theorem sv_meet (J : Ro → Mem → Prop) (h : S1 X Hb Ab st { E with nx := J } ρ M) (hj : ∀ ρ' M', J ρ' M' → Sv X Hb Ab rest E ρ' M') : Sv X Hb Ab (st :: rest) E ρ M := sv_cons (S1.meet (E := { E with nx := Sv X Hb Ab rest E }) (J := J) h hj)
end
section
variable {X : Cx} {ρ : Ro} {M : Mem} {a b : Expr} {pos : Pos}
end
section
variable {X : Cx} {ρ : Ro} {M : Mem} {e : Expr} {es : List Expr} {w : W}
theorem Ea.p {Φ : List W → Mem → Prop} (h : EvD X e ρ M w) (h2 : Ea X es ρ M fun ws M1 => Φ (w :: ws) M1) (hs : starEach (e :: es) X.env = (false, eval e X.env) :: starEach es X.env := by rfl) : Ea X (e :: es) ρ M Φ := Ea.cons (EvD.ev h h2) hs
end
section
variable {X : Cx} {ρ : Ro} {M : Mem} {tg iter elt : Expr} {scope : Scope} {pos : Pos}
/-- [elt for tg in iter], both with effects -/
theorem Ev.lcE {Φ : W → Mem → Prop} (own : List (Str × Nat)) (hN : X.N.Nodup) (bk : BlkOk X.N X.env.scope scope own) (hown : ∀ i ∈ own.map (·.2), ∀ w, ρ[i]? ≠ some (some w))
    (src : SrcE X tg iter ρ M fun ws M0 => ws.length ≤ sizeLine ∧ ∃ P : Nat → List D → Mem → Prop, P 0 [] M0 ∧
      (∀ i w, ws[i]? = some w → ∀ D acc M1, D ∉ ads M1 → ads M1 = ads M0 → acc.length = i → P i acc M1 → ∃ ρ', Bk X scope fun Xb => TgD Xb tg (own.map (·.2)) ρ ((D, .lst acc) :: M1) w ρ' ∧ Ev Xb elt ρ' ((D, .lst acc) :: M1) fun w2 M2 => ∃ d M3, w2 = .dat d ∧ M2 = (D, .lst acc) :: M3 ∧ ads M3 = ads M0 ∧ P (i + 1) (acc ++ [d]) M3) ∧
      ∀ acc M1, P ws.length acc M1 → acc.length = ws.length → Φ (.dat (.list acc)) M1)
    (hc : X.calm = true := by rfl) (hs : ∀ x, foldedSetIterable iter X.env x = pure x := by intro _; rfl) : Ev X (.ListComp elt [⟨tg, iter, [], 0⟩] scope pos) ρ M Φ := fun σ H Q ok q =>
  of_pe (pe_lc hc hN p_ri bk p_tgF (fun _ _ _ _ _ => pts_nil) p_teF hs) (src σ H _ ok fun ws M0 J H1 h1 ea1 x1 m1 hJ => by
    obtain ⟨hl, P, h0, hb, hd⟩ := h1
    have ok1 := ok.ext ea1 x1 m1
    exact lc_eff (ti := fun _ H R => R J H) (Φ := fun acc M1 => Φ (.dat (.list acc)) M1) P ok1 (fun R r => r J H1 (Same.refl H1) hJ) hown hl h0 hb hd fun p xs acc M2 H' n h2 ea2 x2 m2 hp r => by
      rw [ea1] at ea2 x2 r
      have np : p ∉ ads M := by rw [← ea1]; exact m1.fresh n
      exact q _ M2 _ H' h2 ea2 (x1.trans x2) m2 (.lst (.inl hp) np (r.mv (Mv.sub fun b hb => List.mem_cons_of_mem _ hb))))
end
end XB

/-! XM: the length of a shown datum; data of numbers. -/
namespace XB
open PySem PySem.Spec PyProof.Rows L2
mutual
def cost : D → Nat
  | .none => 4
  | .bool _ => 5
  | .int i => i.natAbs.log2 + 2
  | .str x => (PyData.shown (.str x)).length
  | .list xs | .tuple xs => costAll xs + 3
  | .dict _ => 0
def costAll : List D → Nat
  | [] => 0
  | x :: xs => cost x + 2 + costAll xs
end
theorem textFrom_le : ∀ (ts : List Str) (k : Nat) (acc : Str), (textFrom k acc ts).length ≤ acc.length + piled ts
  | [], k, acc => by show acc.length ≤ _; omega
  | t :: r, k, acc => by
    have ih := textFrom_le r (k + 1) (acc ++ (if k > 0 then ", " else "" : String) ++ t)
    have e : (acc ++ (if k > 0 then ", " else "" : String) ++ t).length = acc.length + (if k > 0 then 2 else 0) + t.length := by
      rw [strLen_append, strLen_append]
      split <;> rfl
    rw [e] at ih
    show (textFrom (k + 1) (acc ++ (if k > 0 then ", " else "" : String) ++ t) r).length ≤ _
    have e2 : piled (t :: r) = t.length + 2 + piled r := by simp [piled]
    rw [e2]
    have e3 : (if k > 0 then 2 else 0) ≤ 2 := by split <;> omega
    omega
/-- may be shown and compared; no more than c signs long, no deeper than k -/
structure Sm (c k : Nat) (d : D) : Prop where
  ok : d.showable = true
  lay : d.canLay0 = true
  size : cost d ≤ c
  deep : d.depth ≤ k
theorem Sm.nodict {c k : Nat} {d : D} (h : Sm c k d) : d.hasDict = false := PyData.hasDict_of_canLay d h.lay
theorem Sm.shaped {c k : Nat} {d : D} (h : Sm c k d) (hk : k ≤ 64) : SeqAt.shaped d = true := by
  unfold SeqAt.shaped
  rw [h.lay, decide_eq_true (Nat.le_trans h.deep hk)]
  rfl
theorem Sm.mono {c k c' k' : Nat} {d : D} (h : Sm c k d) (hc : c ≤ c') (hk : k ≤ k') : Sm c' k' d := ⟨h.ok, h.lay, Nat.le_trans h.size hc, Nat.le_trans h.deep hk⟩
structure SmAll (c k : Nat) (ds : List D) : Prop where
  ok : PyData.showableAll ds = true
  lay : PyData.canLayAll0 ds = true
  size : costAll ds ≤ c
  deep : PyData.depthAll ds ≤ k
theorem SmAll.nil {k : Nat} : SmAll 0 k [] := ⟨rfl, rfl, Nat.le_refl _, Nat.zero_le _⟩
theorem SmAll.cons {c c2 k : Nat} {d : D} {ds : List D} (h : Sm c k d) (h2 : SmAll c2 k ds) : SmAll (c + 2 + c2) k (d :: ds) := by
  refine ⟨?_, ?_, ?_, ?_⟩
  · show (d.showable && PyData.showableAll ds) = true
    rw [h.ok, h2.ok]; rfl
  · show (d.canLay0 && PyData.canLayAll0 ds) = true
    rw [h.lay, h2.lay]; rfl
  · have := h.size
    have := h2.size
    show cost d + 2 + costAll ds ≤ _
    omega
  · show max d.depth (PyData.depthAll ds) ≤ k
    exact Nat.max_le.mpr ⟨h.deep, h2.deep⟩
theorem SmAll.of {c k : Nat} : ∀ {ds : List D}, (∀ d ∈ ds, Sm c k d) → SmAll (ds.length * (c + 2)) k ds
  | [], _ => by rw [List.length_nil, Nat.zero_mul]; exact .nil
  | d :: ds, h => by
    have h2 := SmAll.cons (h d (List.mem_cons_self ..)) (SmAll.of (ds := ds) fun x hx => h x (List.mem_cons_of_mem _ hx))
    rw [List.length_cons, Nat.succ_mul, Nat.add_comm]
    exact h2
theorem Sm.list {c k : Nat} {ds : List D} (h : SmAll c k ds) : Sm (c + 3) (k + 1) (.list ds) := ⟨h.ok, h.lay, Nat.add_le_add_right h.size 3, by
  show PyData.depthAll ds + 1 ≤ k + 1
  exact Nat.succ_le_succ h.deep⟩
theorem Sm.tuple {c k : Nat} {ds : List D} (h : SmAll c k ds) : Sm (c + 3) (k + 1) (.tuple ds) := ⟨h.ok, h.lay, Nat.add_le_add_right h.size 3, by
  show PyData.depthAll ds + 1 ≤ k + 1
  exact Nat.succ_le_succ h.deep⟩
theorem Sm.int {i : Int} {b : Nat} (h : i.natAbs < 2 ^ b) (hb : b ≤ 1900) : Sm (b + 2) 1 (.int i) := by
  have h1 : i.natAbs.log2 ≤ b := by
    by_cases h0 : i.natAbs = 0
    · rw [h0]; exact Nat.zero_le _
    · exact Nat.le_of_lt ((Nat.log2_lt h0).mpr h)
  exact ⟨decide_eq_true (by omega), rfl, by show i.natAbs.log2 + 2 ≤ _; omega, Nat.zero_le _⟩
theorem Sm.bool {b : Bool} : Sm 5 1 (.bool b) := ⟨rfl, rfl, Nat.le_refl _, Nat.zero_le _⟩
theorem Sm.none : Sm 4 1 .none := ⟨rfl, rfl, Nat.le_refl _, Nat.zero_le _⟩
end XB

/-! QA: deep data with dicts, read and shown. -/
namespace XB
open PySem PySem.Spec PyProof.Rows L2

/-- the dict of loaded modules is part of the written heap -/
def SysM (K : PySem.W.Frag) : Prop := ∃ o, K.lookup sysModules = some o ∧ o.cls = .type "dict"
theorem notSys {K : PySem.W.Frag} {h : Heap} {a : Addr} {o : Obj} {T : String} (S : SysM K) (k : K.In h) (e : h.get? a = some o) (hc : o.cls = .type T) (hT : T ≠ "dict") : a ≠ sysModules := fun z => by
  obtain ⟨u, hu, cu⟩ := S
  have e2 := k _ _ hu
  rw [← z, e] at e2
  cases e2
  rw [hc] at cu
  exact hT (Value.type.inj cu)
theorem key_reads {h : Heap} {k : Key} {u : Value} (e : keyIs k u = true) : Reads h u (keyD k) [] := by
  rcases keyIs_shape e with ⟨i, t, rfl, rfl⟩ | ⟨x, t, rfl, rfl⟩
  · exact Reads.int i t
  · exact Reads.str x t
section
variable {X : Cx} {pins : List (Addr × Obj)} {σ : L2.St} {H : Hp} {s : Shared} {A : List Addr}
mutual
theorem Dd.reads (I : L2.Inv X pins σ H s) (S : SysM X.K) {v : V} {d : D} {u : Value} (h : Dd X.K H A v d) (r : RelV v u) : ∃ as, Reads s.heap u d as ∧ sysModules ∉ as := by
  cases h with
  | non => cases r; exact ⟨_, .none, by simp⟩
  | bl b => cases r; exact ⟨_, .bool b, by simp⟩
  | int i => obtain ⟨t, rfl⟩ := r; exact ⟨_, .int i t, by simp⟩
  | str x => obtain ⟨t, rfl⟩ := r; exact ⟨_, .str x t, by simp⟩
  | lst rr n a =>
    cases r
    obtain ⟨its, rv, ⟨o, n, ho, hc, _, hd⟩, _⟩ := I.list (.inl rr)
    obtain ⟨as, hr, na⟩ := DdAll.reads I S a rv
    exact ⟨_, .list ho hc hd hr, fun z => (List.mem_cons.mp z).elim (fun q => notSys S I.kIn ho hc (by decide) q.symm) na⟩
  | lstK rr a =>
    cases r
    obtain ⟨its, rv, ⟨o, n, ho, hc, _, hd⟩, _⟩ := I.list (.inr (by rcases rr with (rr | ⟨o, rr⟩) | rr; exact (nomatch rr); exact (nomatch rr); exact rr))
    obtain ⟨as, hr, na⟩ := DdAll.reads I S a rv
    exact ⟨_, .list ho hc hd hr, fun z => (List.mem_cons.mp z).elim (fun q => notSys S I.kIn ho hc (by decide) q.symm) na⟩
  | tup rr n a =>
    cases r
    obtain ⟨its, rv, ⟨o, ho, hc, n, hd⟩, _⟩ := I.tuple (.inl rr)
    obtain ⟨as, hr, na⟩ := DdAll.reads I S a rv
    exact ⟨_, .tuple ho hc hd hr, na⟩
  | tupK rr a =>
    cases r
    obtain ⟨its, rv, ⟨o, ho, hc, n, hd⟩, _⟩ := I.tuple (.inr (by rcases rr with (rr | ⟨o, rr⟩) | rr; exact (nomatch rr); exact (nomatch rr); exact rr))
    obtain ⟨as, hr, na⟩ := DdAll.reads I S a rv
    exact ⟨_, .tuple ho hc hd hr, na⟩
  | dic rr n a =>
    cases r
    obtain ⟨_, ne, vs, kv, hD⟩ := dk_rd I.hok rr
    obtain ⟨bs, p, nb⟩ := DdKv.reads I S a kv
    refine ⟨_, PyProof.V.reads_dictOf (enc := keyD) (fun k key e => key_reads e) hD p, fun z => (List.mem_cons.mp z).elim (fun q => ?_) nb⟩
    rw [q] at ne
    simp at ne
theorem DdAll.reads (I : L2.Inv X pins σ H s) (S : SysM X.K) {vs : List V} {ds : List D} {us : List Value} (h : DdAll X.K H A vs ds) (r : Vals vs us) : ∃ as, ReadsAll s.heap us ds as ∧ sysModules ∉ as := by
  cases h with
  | nil => cases r; exact ⟨_, .nil, by simp⟩
  | cons a t =>
    cases r with
    | cons r1 r2 =>
      obtain ⟨as, q1, n1⟩ := Dd.reads I S a r1
      obtain ⟨bs, q2, n2⟩ := DdAll.reads I S t r2
      exact ⟨_, .cons q1 q2, fun z => (List.mem_append.mp z).elim n1 n2⟩
theorem DdKv.reads (I : L2.Inv X pins σ H s) (S : SysM X.K) {ys : List (Key × V)} {ds : List (D × D)} {vs : List (Key × Value)} (h : DdKv X.K H A ys ds) (r : KV ys vs) : ∃ as, PyProof.V.PairsRead s.heap keyD vs ds as ∧ sysModules ∉ as := by
  cases h with
  | nil => cases r; exact ⟨_, .nil, by simp⟩
  | cons a t =>
    cases r with
    | @cons _ q _ _ r1 r2 =>
      obtain ⟨k, u⟩ := q
      obtain ⟨e, rv⟩ := r1
      have e : _ = k := e
      subst e
      obtain ⟨as, q1, n1⟩ := Dd.reads I S a rv
      obtain ⟨bs, q2, n2⟩ := DdKv.reads I S t r2
      exact ⟨_, .cons q1 q2, fun z => (List.mem_append.mp z).elim n1 n2⟩
end
end

/-! ### how long a datum's text is -/
mutual
def cst : D → Nat
  | .none => 4
  | .bool _ => 5
  | .int i => i.natAbs.log2 + 2
  | .str x => (PyData.shown (.str x)).length
  | .list xs | .tuple xs => cstAll xs + 3
  | .dict kvs => cstKv kvs + 3
def cstAll : List D → Nat
  | [] => 0
  | x :: xs => cst x + 2 + cstAll xs
def cstKv : List (D × D) → Nat
  | [] => 0
  | (k, v) :: r => cst k + cst v + 4 + cstKv r
end
mutual
theorem shown_cst : ∀ d : D, d.shown.length ≤ cst d
  | .none => Nat.le_refl 4
  | .bool b => by cases b <;> decide
  | .int i => by
    show (Str.ofString (toString i)).length ≤ _
    have h := int_text_length_le (a := i) (k := i.natAbs.log2 + 1) (by omega) (by omega)
    rw [PySem.ofString_length]
    unfold cst
    omega
  | .str x => Nat.le_refl _
  | .list xs => by
    have ih := shownAll_cst xs
    show (listText (PyData.shownAll xs)).length ≤ cstAll xs + 3
    unfold listText
    rw [strLen_append]
    have h2 := textFrom_le (PyData.shownAll xs) 0 "["
    have e1 : (("[" : String) : Str).length = 1 := rfl
    have e2 : (("]" : String) : Str).length = 1 := rfl
    rw [e1] at h2
    rw [e2]
    omega
  | .tuple xs => by
    have ih := shownAll_cst xs
    show (tupleText (PyData.shownAll xs)).length ≤ cstAll xs + 3
    unfold tupleText
    rw [strLen_append, strLen_append]
    have e1 : (("(" : String) : Str).length = 1 := rfl
    rw [e1]
    have h2 : (Str.join ", " (PyData.shownAll xs)).length ≤ piled (PyData.shownAll xs) := by
      by_cases hn : PyData.shownAll xs = []
      · rw [hn]; exact Nat.zero_le _
      · have := join_length_add (PyData.shownAll xs) hn
        omega
    have h3 : (Str.ofString (if ((PyData.shownAll xs).length == 1) = true then ",)" else ")" : String)).length ≤ 2 := by
      split <;> decide
    omega
  | .dict kvs => by
    have ih := shownKv_cst kvs
    show (dictText (PyData.shownKv kvs)).length ≤ cstKv kvs + 3
    unfold dictText
    rw [strLen_append, strLen_append]
    have h2 : (Str.join ", " (PyData.shownKv kvs)).length ≤ piled (PyData.shownKv kvs) := by
      by_cases hn : PyData.shownKv kvs = []
      · rw [hn]; exact Nat.zero_le _
      · have := join_length_add (PyData.shownKv kvs) hn
        omega
    have e1 : (("{" : String) : Str).length = 1 := rfl
    have e2 : (("}" : String) : Str).length = 1 := rfl
    rw [e1, e2]
    omega
theorem shownAll_cst : ∀ ds : List D, piled (PyData.shownAll ds) ≤ cstAll ds
  | [] => Nat.zero_le _
  | d :: ds => by
    have h1 := shown_cst d
    have h2 := shownAll_cst ds
    show piled (d.shown :: PyData.shownAll ds) ≤ cst d + 2 + cstAll ds
    have e2 : piled (d.shown :: PyData.shownAll ds) = d.shown.length + 2 + piled (PyData.shownAll ds) := by simp [piled]
    rw [e2]
    omega
theorem shownKv_cst : ∀ ds : List (D × D), piled (PyData.shownKv ds) ≤ cstKv ds
  | [] => Nat.zero_le _
  | (k, v) :: ds => by
    have h1 := shown_cst k
    have h3 := shown_cst v
    have h2 := shownKv_cst ds
    show piled ((k.shown ++ ": " ++ v.shown) :: PyData.shownKv ds) ≤ cst k + cst v + 4 + cstKv ds
    have e2 : piled ((k.shown ++ ": " ++ v.shown) :: PyData.shownKv ds) = (k.shown ++ ": " ++ v.shown).length + 2 + piled (PyData.shownKv ds) := by simp [piled]
    rw [e2, strLen_append, strLen_append]
    have e1 : ((": " : String) : Str).length = 2 := rfl
    rw [e1]
    omega
end
/-- may be shown; its text no longer than c, no deeper than k -/
structure Sh (c k : Nat) (d : D) : Prop where
  ok : d.showable = true
  size : cst d ≤ c
  deep : d.depth ≤ k
structure ShAll (c k : Nat) (ds : List D) : Prop where
  ok : PyData.showableAll ds = true
  size : cstAll ds ≤ c
  deep : PyData.depthAll ds ≤ k
theorem Sh.mono {c k c' k' : Nat} {d : D} (h : Sh c k d) (hc : c ≤ c') (hk : k ≤ k') : Sh c' k' d := ⟨h.ok, Nat.le_trans h.size hc, Nat.le_trans h.deep hk⟩
theorem ShAll.mono {c k c' k' : Nat} {d : List D} (h : ShAll c k d) (hc : c ≤ c') (hk : k ≤ k') : ShAll c' k' d := ⟨h.ok, Nat.le_trans h.size hc, Nat.le_trans h.deep hk⟩
theorem ShAll.nil {k : Nat} : ShAll 0 k [] := ⟨rfl, Nat.le_refl _, Nat.zero_le _⟩
theorem ShAll.cons {c c2 k : Nat} {d : D} {ds : List D} (h : Sh c k d) (h2 : ShAll c2 k ds) : ShAll (c + 2 + c2) k (d :: ds) := by
  refine ⟨?_, ?_, ?_⟩
  · show (d.showable && PyData.showableAll ds) = true
    rw [h.ok, h2.ok]; rfl
  · have := h.size
    have := h2.size
    show cst d + 2 + cstAll ds ≤ _
    omega
  · show max d.depth (PyData.depthAll ds) ≤ k
    exact Nat.max_le.mpr ⟨h.deep, h2.deep⟩
theorem ShAll.of {c k : Nat} : ∀ {ds : List D}, (∀ d ∈ ds, Sh c k d) → ShAll (ds.length * (c + 2)) k ds
  | [], _ => by rw [List.length_nil, Nat.zero_mul]; exact .nil
  | d :: ds, h => by
    have h2 := ShAll.cons (h d (List.mem_cons_self ..)) (ShAll.of (ds := ds) fun x hx => h x (List.mem_cons_of_mem _ hx))
    rw [List.length_cons, Nat.succ_mul, Nat.add_comm]
    exact h2
theorem ShAll.mem {c k : Nat} : ∀ {ds : List D}, ShAll c k ds → ∀ d ∈ ds, Sh c k d
  | [], _, d, hd => by cases hd
  | x :: xs, h, d, hd => by
    have h1 : (x.showable && PyData.showableAll xs) = true := h.ok
    have h2 : cst x + 2 + cstAll xs ≤ c := h.size
    have h3 : max x.depth (PyData.depthAll xs) ≤ k := h.deep
    rw [Bool.and_eq_true] at h1
    rcases List.mem_cons.mp hd with z | z
    · subst z; exact ⟨h1.1, by omega, (Nat.max_le.mp h3).1⟩
    · exact (ShAll.mem (ds := xs) (c := c) (k := k) ⟨h1.2, by omega, (Nat.max_le.mp h3).2⟩) d z
theorem cstAll_append : ∀ (xs ys : List D), cstAll (xs ++ ys) = cstAll xs + cstAll ys
  | [], ys => by show cstAll ys = 0 + cstAll ys; omega
  | x :: xs, ys => by
    show cst x + 2 + cstAll (xs ++ ys) = (cst x + 2 + cstAll xs) + cstAll ys
    rw [cstAll_append xs ys]; omega
theorem showableAll_append : ∀ (xs ys : List D), PyData.showableAll (xs ++ ys) = (PyData.showableAll xs && PyData.showableAll ys)
  | [], ys => rfl
  | x :: xs, ys => by
    show (x.showable && PyData.showableAll (xs ++ ys)) = ((x.showable && PyData.showableAll xs) && PyData.showableAll ys)
    rw [showableAll_append xs ys, Bool.and_assoc]
theorem depthAll_append : ∀ (xs ys : List D), PyData.depthAll (xs ++ ys) = max (PyData.depthAll xs) (PyData.depthAll ys)
  | [], ys => by show PyData.depthAll ys = max 0 _; omega
  | x :: xs, ys => by
    show max x.depth (PyData.depthAll (xs ++ ys)) = max (max x.depth (PyData.depthAll xs)) (PyData.depthAll ys)
    rw [depthAll_append xs ys]; omega
theorem ShAll.append {c c2 k : Nat} {xs ys : List D} (h : ShAll c k xs) (h2 : ShAll c2 k ys) : ShAll (c + c2) k (xs ++ ys) :=
  ⟨by rw [showableAll_append, h.ok, h2.ok]; rfl, by rw [cstAll_append]; exact Nat.add_le_add h.size h2.size, by rw [depthAll_append]; exact Nat.max_le.mpr ⟨h.deep, h2.deep⟩⟩
theorem ShAll.split {c k : Nat} {xs ys : List D} (h : ShAll c k (xs ++ ys)) : ∃ c1 c2, c1 + c2 ≤ c ∧ ShAll c1 k xs ∧ ShAll c2 k ys := by
  have h1 := h.ok
  have h2 := h.size
  have h3 := h.deep
  rw [showableAll_append, Bool.and_eq_true] at h1
  rw [cstAll_append] at h2
  rw [depthAll_append] at h3
  exact ⟨cstAll xs, cstAll ys, h2, ⟨h1.1, Nat.le_refl _, (Nat.max_le.mp h3).1⟩, ⟨h1.2, Nat.le_refl _, (Nat.max_le.mp h3).2⟩⟩
theorem ShAll.take {c k : Nat} {xs : List D} (h : ShAll c k xs) (n : Nat) : ShAll c k (xs.take n) := by
  have h' : ShAll c k (xs.take n ++ xs.drop n) := by rw [List.take_append_drop]; exact h
  obtain ⟨c1, c2, hc, h1, _⟩ := h'.split
  exact h1.mono (by omega) (Nat.le_refl _)
theorem ShAll.drop {c k : Nat} {xs : List D} (h : ShAll c k xs) (n : Nat) : ShAll c k (xs.drop n) := by
  have h' : ShAll c k (xs.take n ++ xs.drop n) := by rw [List.take_append_drop]; exact h
  obtain ⟨c1, c2, hc, _, h1⟩ := h'.split
  exact h1.mono (by omega) (Nat.le_refl _)
theorem ShAll.reverse {c k : Nat} : ∀ {xs : List D}, ShAll c k xs → ShAll c k xs.reverse
  | [], h => h
  | x :: xs, h => by
    have h' : ShAll c k ([x] ++ xs) := h
    obtain ⟨c1, c2, hc, h1, h2⟩ := h'.split
    rw [List.reverse_cons]
    exact (ShAll.append h2.reverse h1).mono (by omega) (Nat.le_refl _)
theorem Sh.list {c k : Nat} {ds : List D} (h : ShAll c k ds) : Sh (c + 3) (k + 1) (.list ds) := ⟨h.ok, Nat.add_le_add_right h.size 3, Nat.succ_le_succ h.deep⟩
theorem Sh.tuple {c k : Nat} {ds : List D} (h : ShAll c k ds) : Sh (c + 3) (k + 1) (.tuple ds) := ⟨h.ok, Nat.add_le_add_right h.size 3, Nat.succ_le_succ h.deep⟩
theorem Sh.dict1 {c k : Nat} {x : Str} {d : D} (h : Sh c k d) (hx : (PyData.shown (.str x)).length ≤ 10) : Sh (c + 17) (k + 1) (.dict [(.str x, d)]) := by
  refine ⟨?_, ?_, ?_⟩
  · show (true && d.showable && true) = true
    rw [h.ok]; rfl
  · have := h.size
    show (PyData.shown (.str x)).length + cst d + 4 + 0 + 3 ≤ _
    omega
  · have := h.deep
    show max (max 0 d.depth) 0 + 1 ≤ k + 1
    omega
theorem Sh.none {k : Nat} : Sh 4 k .none := ⟨rfl, Nat.le_refl _, Nat.zero_le _⟩
theorem Sh.bool {b : Bool} {k : Nat} : Sh 5 k (.bool b) := ⟨rfl, Nat.le_refl _, Nat.zero_le _⟩
theorem Sh.int {i : Int} {b k : Nat} (h : i.natAbs < 2 ^ b) (hb : b ≤ 1900) : Sh (b + 2) k (.int i) := by
  have h1 : i.natAbs.log2 ≤ b := by
    by_cases h0 : i.natAbs = 0
    · rw [h0]; exact Nat.zero_le _
    · exact Nat.le_of_lt ((Nat.log2_lt h0).mpr h)
  exact ⟨decide_eq_true (by omega), by show i.natAbs.log2 + 2 ≤ _; omega, Nat.zero_le _⟩
theorem Sh.str {x : Str} {n k : Nat} (h : (PyData.shown (.str x)).length ≤ n) : Sh n k (.str x) := ⟨rfl, h, Nat.zero_le _⟩

/-! ### repr, f"{v!r}" -/
theorem call_reprX {X : Cx} {A : List Addr} {d : D} (S : SysM X.K) (hg : Gd X.A) (hu : X.A.units + (d.depth + 1) < cLine) (hs : d.showable = true) (hz : d.shown.length ≤ sizeLine) :
    CallR X (.builtin "repr") (fun xs H Q => ∃ v, xs = [v] ∧ Dd X.K H A v d ∧ Q (.str d.shown) H) := by
  intro pins s σ H xs us Q I r h
  obtain ⟨v, rfl, dp, q⟩ := h
  cases r with
  | cons rv rr =>
    cases rr
    rename_i u
    have scal : ∀ t tk, EP X pins σ Q (.str d.shown t) { s with toks := tk } := fun t tk => ⟨.str d.shown, H, I.tok tk, ⟨t, rfl⟩, q⟩
    obtain ⟨as, rr, na⟩ := Dd.reads I S dp rv
    have deep : ∀ a : Addr, u = .ref a → wpAny (model X.prog X.w) X.A (call (.builtin "repr") [u]) (EP X pins σ Q) X.xe s := fun a e => by
      subst e
      exact repr_of_reads' rr hs (fun _ => na) hg hu (fun _ _ e => e) (fun h' t tk hk => ⟨.str _, H, I.kept hk, ⟨t, rfl⟩, q⟩) hz
    cases dp with
    | non => cases rv; exact PySem.P.repr_of_none (scal _ _)
    | bl b => cases rv; exact PySem.P.repr_of_bool (scal _ _)
    | int i =>
      obtain ⟨t, rfl⟩ := rv
      exact PySem.P.repr_of_int (by simpa [PyData.showable] using hs) (scal _ _)
    | str x =>
      obtain ⟨t, rfl⟩ := rv
      exact PySem.P.repr_of_str (scal _ _) hz
    | lst _ _ _ => cases rv; exact deep _ rfl
    | lstK _ _ => cases rv; exact deep _ rfl
    | tup _ _ _ => cases rv; exact deep _ rfl
    | tupK _ _ => cases rv; exact deep _ rfl
    | dic _ _ _ => cases rv; exact deep _ rfl
section
variable {X : Cx} {e : Expr} {ρ : Ro} {M : Mem} {p pos : Pos} {k c kd : Nat}
theorem ev_reprX {d : D} (S : SysM X.K) (hg : Gd X.A) (hr : Room k X.A) (hm : X.mg "repr" = none) (he : EvD X e ρ M (.dat d)) (hd : Sh c kd d) (hc : c ≤ sizeLine := by decide) (hk : kd ≤ 60 := by decide) (hgl : Gl X "repr" := by rfl) (hs : starEach [e] X.env = (false, eval e X.env) :: starEach [] X.env := by rfl) (hpl : (backTo pos (starEach [] X.env)).any (·.1) = false := by rfl) :
    EvD X (.Call (.Name "repr" p) [e] [] pos) ρ M (.dat (.str d.shown)) := fun σ H Q ok q =>
  of_pe (pe_callB (call_reprX (A := ads M) S hg (by have := hr.units; have := hd.deep; omega) hd.ok (Nat.le_trans (Nat.le_trans (shown_cst d) hd.size) hc)) hgl hm (by decide +kernel) (pa_cons p_rd pa_nil hs) (by decide) (by decide) hs hpl) (he σ H _ ok fun v H1 s1 r1 =>
    ⟨v, rfl, r1, q _ H1 s1 (.str _)⟩)
/-- {v!r} in an f-string, any datum -/
def tFmtX (K : PySem.W.Frag) (d : D) (te : TE) : TE := fun σ H Q => te σ H fun x H1 => ∃ A, Dd K H1 A x d ∧ Q (.str d.shown) H1
theorem pe_fmtX {d : D} {te : TE} (S : SysM X.K) (hg : Gd X.A) (hu : X.A.units + (d.depth + 1) < cLine) (hsd : d.showable = true) (hz : d.shown.length ≤ sizeLine) (he : PE X e te) : PE X (.FormattedValue e 114 none pos) (tFmtX X.K d te) := by
  refine ⟨fun pins s σ H Q I h => ?_⟩
  refine wpAny_FormattedValue_repr (thn (he.run pins s σ H _ I h) fun v s1 hv => ?_)
  obtain ⟨x, H1, I1, r1, A, dp, q⟩ := hv
  have fin : ∀ t tk h', (∀ b o, s1.heap.get? b = some o → h'.get? b = some o) → wpAny (model X.prog X.w) X.A (formatField (.str d.shown t) Str.empty) (EP X pins σ Q) X.xe { s1 with heap := h', toks := tk } := fun t tk h' hk =>
    wpAny_formatField_str ⟨.str d.shown, H1, I1.kept hk, ⟨_, rfl⟩, q⟩ ⟨.str d.shown, H1, I1.kept hk, ⟨_, rfl⟩, q⟩ hz
  obtain ⟨as, rr, na⟩ := Dd.reads I1 S dp r1
  have deep : ∀ a : Addr, v = .ref a → wpAny (model X.prog X.w) X.A (pyReprObj v) (fun u s2 => wpAny (model X.prog X.w) X.A (formatField u Str.empty) (EP X pins σ Q) X.xe s2) X.xe s1 := fun a e => by
    subst e
    exact pyReprObj_of_reads rr hsd (fun _ => na) hg (by omega) (fun _ _ e => e) (fun h' t tk hk => fin t tk h' hk) hz
  cases dp with
  | non => cases r1; exact pyReprObj_none (fin _ _ _ fun _ _ e => e)
  | bl b => cases r1; exact pyReprObj_bool (by cases b <;> exact fin _ _ _ fun _ _ e => e)
  | int i => obtain ⟨t, rfl⟩ := r1; exact pyReprObj_int (by simpa [PyData.showable] using hsd) (fin _ _ _ fun _ _ e => e)
  | str x => obtain ⟨t, rfl⟩ := r1; exact pyReprObj_str (fin _ _ _ fun _ _ e => e) hz
  | lst _ _ _ => cases r1; exact deep _ rfl
  | lstK _ _ => cases r1; exact deep _ rfl
  | tup _ _ _ => cases r1; exact deep _ rfl
  | tupK _ _ => cases r1; exact deep _ rfl
  | dic _ _ _ => cases r1; exact deep _ rfl
end
end XB

/-! QB: the base error's __init__, which calls that of ValueError through super(). -/
namespace XB
open PySem PySem.Spec PyProof.Rows L2
open PySem.W (Frag Looks)

/-- the body of the base error's __init__ -/
def baseBody (bl : Nat) : List Stmt :=
  [.Expr (.Call (.Attribute (.Call (.Name "super" ⟨bl, 8, bl, 13⟩) [] [] ⟨bl, 8, bl, 15⟩) "__init__" ⟨bl, 8, bl, 24⟩) [.Name "value" ⟨bl, 25, bl, 30⟩] [] ⟨bl, 8, bl, 31⟩) ⟨bl, 8, bl, 31⟩,
   .Assign [.Attribute (.Name "self" ⟨bl + 1, 8, bl + 1, 12⟩) "value" ⟨bl + 1, 8, bl + 1, 18⟩] (.Name "value" ⟨bl + 1, 21, bl + 1, 26⟩) ⟨bl + 1, 8, bl + 1, 26⟩]
def baseScope : Scope := { kind := .function, names := [(Str.ofString "self", .local), (Str.ofString "value", .local), (Str.ofString "__class__", .free), (Str.ofString "super", .globalImplicit)], isGenerator := false, isCoroutine := false, more := [] }
/-- what the written part says of the base error at B and of its __init__ at fB -/
structure BaseTxt (P : Program) (K : Frag) (mg : Str → Option Value) (B fB : Addr) : Prop where
  gB : mg "BankError" = some (.ref B)
  fn : ∃ (bl : Nat), (bl = 5 ∨ bl = 8) ∧ ∃ (oc : Value) (od : Option Addr) (osl : Array (Option Value)) (qual : Str) (params : Arguments) (dV kV doc pm ct : Value) (an : Option Addr) (cda cc : Addr),
    K.lookup fB = some ⟨oc, od, .func (PySem.W.ksFn "__init__" qual params (baseBody bl) baseScope dV kV doc pm an (.ref cda) ct cc), osl⟩ ∧ PySem.W.codeIn K (.ref cda) qual = true ∧
    (∃ ar, (params.posonlyargs ++ params.args).head? = some ar ∧ ar.arg = "self") ∧
    (∀ (s : Shared) (x v : Value), K.In s.heap → BindsTo s (PySem.W.ksFn "__init__" qual params (baseBody bl) baseScope dV kV doc pm an (.ref cda) ct cc) ⟨[x, v], []⟩ [("self", x), ("value", v)]) ∧
    (∀ (s : Shared) (x : Value), K.In s.heap → BindsTo s (PySem.W.ksFn "__init__" qual params (baseBody bl) baseScope dV kV doc pm an (.ref cda) ct cc) ⟨[x], []⟩ [("self", x), ("value", .none)]) ∧
    (∃ (ccl : Value) (cdd : Option Addr) (vs : Array Value) (ccs : Array (Option Value)) (file : Str) (tf : Tok), K.lookup cda = some ⟨ccl, cdd, .fields vs, ccs⟩ ∧ vs[2]? = some (.str file tf) ∧ ((P.main.file : Str) == file) = true) ∧
    (∃ cl cld csl, K.lookup cc = some ⟨cl, cld, .cell (some (.ref B)), csl⟩)
  cls : ∃ cd, PySem.W.clsIn K B = some cd
  any : PySem.W.nsIn K PySem.cStatics "thirdparty.any" = some none
  sup : mg "super" = none
  top : (P.main.scope.names.lookup ("super" : Str)).isSome = false
/-- .. of a class C over it -/
structure OverB (K : Frag) (B C : Addr) : Prop where
  ex : OexC K C
  sub : PySem.W.mroIn K C (.ref B) = some true
  ve : PySem.W.subIn K (.ref C) (.type "ValueError") = some true
  nx : PySem.W.ks_superIn K C B "__init__" = some (some (.builtin "ValueError.__init__"))
  nv : PySem.W.findIn K (.ref C) "value" = some none

section
variable {prog : Program} {w : World} {A : Around} {E : Value → Shared → Prop} {h : Heap} {g : Array GenState} {d : Drawn} {t : Nat} {os : OsState} {K : Frag} {mg : Str → Option Value} {B fB C : Addr}
/-- ValueError's __init__, bound to x by super(), called -/
theorem call_wrap {u x t0 : Addr} {nm q : Str} {N : Addr} {bs bm : List Value} {hd : Bool} {sn : List Str} {sub : List Value} {ab : Bool} {col : Option Bool} {dd : Option Addr} {k0 k1 k2 k3 k5 : Option Value} {rest : List Value} {Q : Value → Shared → Prop}
    (hC : h.get? C = some (excClassObj nm q C N bs bm hd sn sub ab col dd k0 k1 k2 k3 k5 "ValueError.__new__")) (hx : h.get? x = some (HandSPX.excO C t0)) (hu : h.get? u = some (PySem.W.kxs_mw "ValueError.__init__" x)) (hz : rest.length ≤ sizeLine)
    (hq : ∀ h' t1, (∀ b o, b ≠ x → h.get? b = some o → h'.get? b = some o) → h'.get? x = some (HandSPX.excO C t1) → Q .none ⟨h', g, d, t, os⟩) : wpAny (model prog w) A (call (.ref u) rest) Q E ⟨h, g, d, t, os⟩ := by
  refine wpAny_call (codeAny_of_tree ?_)
  show wpAny _ A.in1 (callAny (.ref u) ⟨rest, []⟩) _ _ _
  simp only [callAny]
  refine wpAny_bind (wpAny_load hu ?_)
  have e1 : (Value.type "method-wrapper" == Value.type "method" || Value.type "method-wrapper" == Value.type "builtin_function_or_method" || Value.type "method-wrapper" == Value.type "method-wrapper") = true := by decide
  simp only [PySem.W.kxs_mw, e1, if_true]
  refine PySem.W.KFB.if_so (by decide) (wpAny_bind (PySem.W.check_bound_init PySem.F.excBase_ValueError.toExcCallFacts hC hx rfl ?_))
  refine wpAny_bind (wpAny_pure (wpAny_pure ⟨plainId_quiet PySem.F.excBase_ValueError.init.plain _, codeAny_builtin PySem.F.excBase_ValueError.initEntry ?_⟩))
  exact PySem.W.exc_init_tree (cls := .ref C) (t0 := t0) (dv := none) (c2 := .none) (c3 := .none) (b4 := .bool false) hx hz fun h' k e _ => hq h' _ k e
end
section
variable {P : Program} {w : World} {A : Around} {s : Shared} {K : Frag} {mg : Str → Option Value} {base : Heap} {B fB C : Addr} {R : Result → Shared → Prop}
theorem base_initA {args : List Value} (T : BaseTxt P K mg B fB) (O : OverB K B C) (M : L2.Mod K mg base) (kb : ∀ b o, base.get? b = some o → s.heap.get? b = some o) {x t0 : Addr} {v : Value} (hargs : args = [.ref x, v] ∨ (args = [.ref x] ∧ v = .none)) (hx : s.heap.get? x = some (HandSPX.excO C t0)) (hbx : base.get? x = none) (room : A.depth < recursionLimit)
    (hq : ∀ h' tk dx t1, (∀ b o, b ≠ x → s.heap.get? b = some o → h'.get? b = some o) → h'.get? x = some ({ cls := .ref C, dict := some dx, data := .fields #[.ref t1, .none, .none, .none, .bool false, .none] } : Obj) → s.heap.objs.size ≤ dx → dx ≠ x →
      h'.Ns1 dx (fun y => if y = "value" then some v else none) → R (.ok (.ret .none)) { s with heap := h', toks := tk }) :
    codeAny (model P w) A (.call (.ref fB) ⟨args, []⟩) R s := by
  obtain ⟨bl, hbl, oc, od, osl, qual, params, dV, kV, doc, pm, ct, an, cda, cc, ho, hcd, ⟨ar, har, hself⟩, hbind2, hbind1, ⟨ccl, cdd, vs, ccs, file, tf, hcda, hvs, hfile⟩, ⟨cl, cld, csl, hcc⟩⟩ := T.fn
  obtain ⟨nm, qn, N, bs, bm, sn, sub, ab, col, dd, k0, k1, k2, k3, k5, hC, hbm⟩ := O.ex.cls
  obtain ⟨cdB, hB⟩ := T.cls
  have hcl : PySem.W.clsIn K C = some { name := nm, bases := bs, mro := .ref C :: bm, ns := N, qualname := qn, hasDict := true, slotNames := sn, subclasses := sub, abstract := ab, collection := col, hasDel := false } := by unfold PySem.W.clsIn; rw [hC] <;> rfl
  have X0 : K.In s.heap := M.kin.keeps kb
  have hbind : BindsTo s (PySem.W.ksFn "__init__" qual params (baseBody bl) baseScope dV kV doc pm an (.ref cda) ct cc) ⟨args, []⟩ [("self", .ref x), ("value", v)] := by
    rcases hargs with rfl | ⟨rfl, rfl⟩
    · exact hbind2 _ _ _ X0
    · exact hbind1 _ _ X0
  refine PySem.ks_codeAny_call_defAt (fd := PySem.W.ksFn "__init__" qual params (baseBody bl) baseScope dV kV doc pm an (.ref cda) ct cc) (body := baseBody bl) (binds := [("self", .ref x), ("value", v)]) room (X0 _ _ ho) rfl (M.nolimit.keeps kb) (PySem.W.codeRec_of X0 hcd) rfl hbind (show ∀ y ∈ baseScope.names, y.2 ≠ NameKind.cell by decide) (fun y hy => ?_) (fun h0 hns hk => ?_) rfl rfl rfl
  · rcases List.mem_cons.mp hy with z | z
    · subst z; rfl
    · rcases List.mem_cons.mp z with z | z
      · subst z; rfl
      · cases z
  have hxL : s.heap.objs.size ≠ x := Nat.ne_of_gt (Heap.lt_size hx)
  have X1 : K.In h0 := X0.keeps hk
  have kb1 : ∀ b o, base.get? b = some o → h0.get? b = some o := fun b o e => hk b o (kb b o e)
  have hx1 := hk _ _ hx
  have look : ∀ {h1 : Heap} {tk : Nat} {y : Str} {u : Value} {pos : Pos} {Q : Value → Shared → Prop} {E : Value → Shared → Prop}, h1.Ns s.heap.objs.size (fun x_1 => [(("self" : Str), Value.ref x), ("value", v)].reverse.lookup x_1) → baseScope.names.lookup y = some .local → [(("self" : Str), Value.ref x), ("value", v)].reverse.lookup y = some u → (y == ("__debug__" : Str)) = false → Q u { s with heap := h1, toks := tk } →
      wpAny (model P w) (A.deeper (callEnv (PySem.W.ksFn "__init__" qual params (baseBody bl) baseScope dV kV doc pm an (.ref cda) ct cc) s.heap.objs.size fB)) (eval (.Name y pos) (callEnv (PySem.W.ksFn "__init__" qual params (baseBody bl) baseScope dV kV doc pm an (.ref cda) ct cc) s.heap.objs.size fB)) Q E { s with heap := h1, toks := tk } := by
    intro h1 tk y u pos Q E n1 n2 n3 n4 q1
    exact ldc rfl n2 n1 n3 q1 n4
  refine PySem.ks_wpAt_execs_cons (PySem.ks_wpAt_Expr_any (PySem.ks_wpAt_MethodCall (he := by rcases hbl with rfl | rfl <;> rfl) (PySem.ks_wpAt_super_base rfl rfl rfl rfl (X1 _ _ ho) rfl har rfl (X1 _ _ hcda) rfl hvs hfile T.top ?_)))
  obtain ⟨mb, hmb, hbb⟩ := M.blt
  refine PySem.W.ks_loadName_global rfl rfl (PySem.Calls.loadGlobal_builtin (env := callEnv (PySem.W.ksFn "__init__" qual params (baseBody bl) baseScope dV kV doc pm an (.ref cda) ct cc) s.heap.objs.size fB) (M.glob.keeps kb1) T.sup (hmb.keeps kb1) ((hbb _ (by decide)).trans PyProof.Rows.Boot.«super») ⟨rfl, ?_⟩)
  refine wpAny_loadName_free rfl rfl rfl ⟨_, X1 _ _ hcc, rfl⟩ ?_
  rw [hself]
  refine wpAny_loadName_local rfl rfl hns rfl ?_
  obtain ⟨oD, hD1, hD2⟩ : ∃ oD, h0.get? B = some oD ∧ oD.data = .cls cdB := by
    unfold PySem.W.clsIn at hB
    split at hB
    · rename_i c d cd' sl hoB
      cases hB
      exact ⟨_, X1 _ _ hoB, rfl⟩
    · cases hB
  refine PySem.ks_wpAny_isType_cls hD1 hD2 ⟨rfl, ?_⟩
  refine PySem.ks_wpAny_call_super hD1 hD2 hx1 rfl (fun c e => by cases e) (PySem.W.looks_mroIn X1 O.sub) (fun h2 hso k2 => ?_)
  have X2 : K.In h2 := X1.keeps k2
  have hxC : x ≠ C := fun z => by
    have e2 := X1 _ _ hC
    rw [← z, hx1] at e2
    cases e2
  have hx2 := k2 _ _ hx1
  have hT2 : PySem.W.Looks (model P w) h2 (isInstance (.ref x) (.type "ValueError")) true := PySem.W.Looks.andThen (fun A Q E s k q => wpAny_typeOf_ref (k _ _ hx2) q) (PySem.W.looks_subIn X2 O.ve)
  have hnx := O.nx
  unfold PySem.W.ks_superIn at hnx
  rw [hcl] at hnx
  refine PySem.W.kxs_getMethod PySem.W.kxs_ValueError hso (PySem.W.looks_opaque X2 T.any) (l₀ := .ref C :: bm) (fun A Q E s k q => wpAny_bind ((PySem.W.looks_clsIn X2 hcl) A _ E s k (wpAny_pure q))) rfl X2 hnx hT2 hxC rfl ?_
  have k3 : ∀ b o, h2.get? b = some o → (h2.push (PySem.W.kxs_mw "ValueError.__init__" x)).get? b = some o := fun b o e => Heap.get?_push_of_some _ e
  have hu3 : (h2.push (PySem.W.kxs_mw "ValueError.__init__" x)).get? h2.objs.size = some (PySem.W.kxs_mw "ValueError.__init__" x) := Heap.get?_push_at rfl rfl
  have nsk : ∀ {h5 : Heap}, (∀ b o, h0.get? b = some o → h5.get? b = some o) → h5.Ns s.heap.objs.size (fun x_1 => [(("self" : Str), Value.ref x), ("value", v)].reverse.lookup x_1) := fun k => hns.keeps k
  refine PySem.W.kxs_callWith (i := "ValueError.__init__") (x := x) rfl (PySem.Calls.evalArgs_plain ?_)
  refine PySem.Calls.spliced_cons (look (nsk fun b o e => k3 b o (k2 b o e)) rfl rfl rfl (PySem.Calls.spliced_nil ⟨hu3, ?_⟩))
  refine call_wrap (C := C) (k3 _ _ (X2 _ _ hC)) (k3 _ _ hx2) hu3 (by show 1 ≤ sizeLine; decide) (fun h4 t1 k4 hx4 => ?_)
  have kx : ∀ b o, b ≠ x → h0.get? b = some o → h4.get? b = some o := fun b o hb e => k4 b o hb (k3 b o (k2 b o e))
  have X4 : K.In h4 := fun b o e => kx b o (fun z => by
    have e2 := M.kin b o e
    rw [z, hbx] at e2
    cases e2) (X1 b o e)
  have ns4 : h4.Ns s.heap.objs.size (fun x_1 => [(("self" : Str), Value.ref x), ("value", v)].reverse.lookup x_1) := by
    obtain ⟨o, es, ep, e1, r⟩ := hns
    exact ⟨o, es, ep, kx _ _ hxL e1, r⟩
  refine PySem.ks_wpAt_execs_cons (wpAt_of_wpAny (plainObj_wpAny_Assign_Attribute ?_))
  refine look ns4 rfl rfl rfl (look ns4 rfl rfl rfl ?_)
  refine PySem.W.set_plain X4 (ox := HandSPX.excO C t1) (od := none) ⟨hx4, rfl, rfl, trivial⟩ O.ex.sa ?_
  refine HandSPX.exc_osa X4 hx4 hcl (show HandSPX.refsVE (.ref C :: bm) = true from hbm) rfl O.nv (fun h5 tk5 dx k5 dn dne hx5 hn5 => ?_)
  have lt : s.heap.objs.size < h4.objs.size := ns4.lt
  refine wpAt_of_wpAny (wpAny_execs_nil (hq h5 tk5 dx t1 (fun b o hb e => k5 b o hb (kx b o hb (hk b o e))) hx5 (Nat.le_of_lt (Nat.lt_of_lt_of_le lt dn)) dne hn5))
theorem base_init (T : BaseTxt P K mg B fB) (O : OverB K B C) (M : L2.Mod K mg base) (kb : ∀ b o, base.get? b = some o → s.heap.get? b = some o) {x t0 : Addr} {v : Value} (hx : s.heap.get? x = some (HandSPX.excO C t0)) (hbx : base.get? x = none) (room : A.depth < recursionLimit)
    (hq : ∀ h' tk dx t1, (∀ b o, b ≠ x → s.heap.get? b = some o → h'.get? b = some o) → h'.get? x = some ({ cls := .ref C, dict := some dx, data := .fields #[.ref t1, .none, .none, .none, .bool false, .none] } : Obj) → s.heap.objs.size ≤ dx → dx ≠ x →
      h'.Ns1 dx (fun y => if y = "value" then some v else none) → R (.ok (.ret .none)) { s with heap := h', toks := tk }) :
    codeAny (model P w) A (.call (.ref fB) ⟨[.ref x, v], []⟩) R s := base_initA T O M kb (.inl rfl) hx hbx room hq
end
end XB

/-! QC: the errors' own __init__; raising one. -/
namespace XB
open PySem PySem.Spec PyProof.Rows L2

/-- what the class B must have for B.__init__ to be its def fB -/
structure BaseAt (P : Program) (K : PySem.W.Frag) (mg : Str → Option Value) (B fB : Addr) : Prop where
  txt : BaseTxt P K mg B fB
  rd : PySem.W.readsIn K B (.type "type") = true
  ga : PySem.W.specialIn K (.ref B) "__getattribute__" = some (some (.builtin "type.__getattribute__"))
  ini : PySem.W.findCls K (.ref B) (.type "type") "__init__" = some (.val (.ref fB))
  kB : PySem.W.keepIn K (.ref fB) = true

section
variable {X : Cx} {pins : List (Addr × Obj)} {σ : L2.St} {H : Hp} {s : Shared} {a C dx : Addr} {f : Str} {y : V} {u : Value}
/-- a fresh exception has got its dict -/
theorem inv_made {h' : Heap} {tk : Nat} (I : L2.Inv X pins σ H s) (e : H a = some (exo a C none)) (k : ∀ b o, b ≠ a → s.heap.get? b = some o → h'.get? b = some o) (dn : s.heap.objs.size ≤ dx) (dne : dx ≠ a)
    (hx : ∃ t1 : Addr, h'.get? a = some ({ cls := .ref C, dict := some dx, data := .fields #[.ref t1, .none, .none, .none, .bool false, .none] } : Obj)) (hn : h'.Ns1 dx fun y => if y = f then some u else none) (ry : RelV y u) :
    L2.Inv X pins σ (upd (upd H dx (exd dx [(f, y)])) a (exo a C (some dx))) { s with heap := h', toks := tk } := by
  have hd : H dx = none := I.hok.fresh dn
  have nd : ∀ {b : Addr} {o : Obj}, s.heap.get? b = some o → b ≠ dx := fun q => Nat.ne_of_lt (Nat.lt_of_lt_of_le (Heap.lt_size q) dn)
  have na : ∀ {b : Addr}, H b = none → b ≠ a := fun n z => by
    rw [z, e] at n
    cases n
  have at_ : ∀ {b : Addr} {o : HO}, H b = some o → exo a C none ≠ o → upd (upd H dx (exd dx [(f, y)])) a (exo a C (some dx)) b = some o := fun q n => by
    rw [upd_ne (at_ne e q n), upd_ne (ne_of_none q hd)]
    exact q
  have un : Un X.fs [] H (upd (upd H dx (exd dx [(f, y)])) a (exo a C (some dx))) s.heap h' := by
    refine ⟨fun b o q n _ _ => k b o (na n) q, fun b o q n _ _ => ⟨o.slots, k b o (na n) q⟩, fun b o q n _ => ?_, fun b o q _ => ?_, fun b xs q => at_ q exo_tup, fun b o v q => at_ q exo_frz, fun b ps q => ⟨#[], ?_⟩⟩
    · rw [upd_ne (na n), upd_ne (nd q)]
      exact n
    · by_cases hb : b = a
      · obtain ⟨t1, z⟩ := hx
        exact ⟨_, hb ▸ z⟩
      · exact ⟨o, k b o hb q⟩
    · rw [at_ q exo_tbl]
      simp
  refine I.un (t' := tk) un fun b o q => ?_
  by_cases hb : b = a
  · subst hb
    rw [upd_same] at q
    cases q
    obtain ⟨t1, z⟩ := hx
    exact exo_ok z
  · rw [upd_ne hb] at q
    by_cases hbd : b = dx
    · subst hbd
      rw [upd_same] at q
      cases q
      exact exd_ok hn (relO_put (fs := []) ry fun _ => True.intro)
    · rw [upd_ne hbd] at q
      refine (I.hok b o q).stay (fun c v hc z => k c v ?_ z) (fun c hc => at_ hc exo_own) fun c xs hc => at_ hc exo_tup
      rcases hc with hc | hc
      · rw [hc]
        exact hb
      · exact at_ne e hc exo_own
/-- B.__init__(self, text) -/
def tBase (K : PySem.W.Frag) (B : Addr) (ta : TA) : TE := fun σ H Q => ta σ H fun vs H1 => ∃ (a C : Addr) (y : V), vs = [.ref a, y] ∧ OverB K B C ∧ H1 a = some (exo a C none) ∧ ∀ dx, H1 dx = none → dx ≠ a → Q .non (upd (upd H1 dx (exd dx [("value", y)])) a (exo a C (some dx)))
theorem pe_base {B fB : Addr} {k : Nat} {pl : Sem Bool} {e1 e2 : Expr} {ta : TA} {p1 p2 pos : Pos} (T : BaseAt X.prog X.K X.mg B fB) (hr : Room k X.A) (hg : Gl X "BankError") (ha : PA X [e1, e2] ta)
    (hc : eval (.Call (.Attribute (.Name "BankError" p1) "__init__" p2) [e1, e2] [] pos) X.env = (do
      let ov ← eval (.Name "BankError" p1) X.env
      standAt p2.atName
      let (f, first) ← holding [ov] (getMethod ov "__init__" pl)
      callWith pos f first (backTo pos (starEach [e1, e2] X.env)) (backToKw pos (keywordEach [] X.env))) := by rfl)
    (he : starEach [e1, e2] X.env = (false, eval e1 X.env) :: starEach [e2] X.env := by rfl) (hpl : (backTo pos (starEach [e2] X.env)).any (·.1) = false := by rfl) :
    PE X (.Call (.Attribute (.Name "BankError" p1) "__init__" p2) [e1, e2] [] pos) (tBase X.K B ta) := by
  refine ⟨fun pins s σ H Q I h => ?_⟩
  refine PySem.W.methodCall_KW (ld_glob I hg T.txt.gB ?_ (by decide)) hc
  refine PySem.W.method_cls I.kIn T.ga (PySem.W.cls_value I.kIn T.rd T.ini rfl ?_)
  refine PySem.W.callWith_K (h₀ := X.base) I.ok.mod.kin T.kB (thn (ha.run pos pins _ σ H _ (I.tok _) h) fun us s1 hh => ?_) he hpl
  obtain ⟨vs, H1, I1, r1, a, C, y, rfl, O, ea, q⟩ := hh
  cases r1 with
  | cons ra rr =>
    cases rr with
    | cons ry rr =>
      cases rr
      cases ra
      rename_i uy
      obtain ⟨t0, hx⟩ := exo_at I1.hok ea
      have hb : X.base.get? a = none := by
        cases z : X.base.get? a with
        | none => rfl
        | some o =>
          have w := (I1.bs a o z).2
          rw [ea] at w
          cases w
      refine ⟨I1.kIn, wpAny_call (base_init T.txt O I1.ok.mod I1.bk hx hb hr.depth fun h' tk dx t1 k hx' dn dne hn => ?_)⟩
      exact ⟨.non, _, inv_made I1 ea k dn dne ⟨t1, hx'⟩ hn ry, rfl, q dx (I1.hok.fresh dn) dne⟩
end

/-! ### the __init__ of an error's class -/
/-- its body, written with the text t -/
def errBody (q : Nat → Pos) (t : String) : List Stmt :=
  [.Expr (.Call (.Attribute (.Name "BankError" (q 0)) "__init__" (q 1)) [.Name "self" (q 2), .JoinedStr [.FormattedValue (.Name "value" (q 3)) 114 none (q 4), .Constant (.str t) 0 (q 5)] (q 6)] [] (q 7)) (q 8),
   .Assign [.Attribute (.Name "self" (q 9)) "value" (q 10)] (.Name "value" (q 11)) (q 12)]
def errScope : Scope := { kind := .function, names := [(Str.ofString "self", .local), (Str.ofString "value", .local), (Str.ofString "BankError", .globalImplicit)], isGenerator := false, isCoroutine := false, more := [] }
theorem errScope_ok : FnScope ["self", "value"] ["self", "value"] errScope := ⟨rfl, rfl, rfl, by decide +kernel, rfl, by decide +kernel, by decide +kernel⟩
/-- called with a fresh exception and a datum to be shown -/
def spErr (K : PySem.W.Frag) (B : Addr) : Sp := fun vs H Q _ => ∃ (a C : Addr) (v : V) (d : D) (A : List Addr), vs = [.ref a, v] ∧ OverB K B C ∧ H a = some (exo a C none) ∧ Dd K H A v d ∧ Sh 1000000 60 d ∧
  ∀ dx t, H dx = none → dx ≠ a → Q .non (upd (upd (upd H dx (exd dx [("value", .str t)])) a (exo a C (some dx))) dx (exd dx [("value", v), ("value", .str t)]))
section
variable {P : Program} {w : World} {K : PySem.W.Frag} {mg : Str → Option Value} {base : Heap} {fd : FuncData} {fI B fB : Addr} {x qual : Str} {params : Arguments} {scope : Scope}
theorem err_init {q : Nat → Pos} {t : String} {pl : Env → Sem Bool} (T : BaseAt P K mg B fB) (S : SysM K) (F : FunD K x qual params (errBody q t) errScope [] [] fI fd) (ht : (Str.ofString t).length ≤ 60)
    (hc : ∀ env : Env, eval (.Call (.Attribute (.Name "BankError" (q 0)) "__init__" (q 1)) [.Name "self" (q 2), .JoinedStr [.FormattedValue (.Name "value" (q 3)) 114 none (q 4), .Constant (.str t) 0 (q 5)] (q 6)] [] (q 7)) env = (do
      let ov ← eval (.Name "BankError" (q 0)) env
      standAt (q 1).atName
      let (f, first) ← holding [ov] (getMethod ov "__init__" (pl env))
      callWith (q 7) f first (backTo (q 7) (starEach [.Name "self" (q 2), .JoinedStr [.FormattedValue (.Name "value" (q 3)) 114 none (q 4), .Constant (.str t) 0 (q 5)] (q 6)] env)) (backToKw (q 7) (keywordEach [] env))))
    (hs : ∀ env : Env, swapsWith (.Call (.Attribute (.Name "BankError" (q 0)) "__init__" (q 1)) [.Name "self" (q 2), .JoinedStr [.FormattedValue (.Name "value" (q 3)) 114 none (q 4), .Constant (.str t) 0 (q 5)] (q 6)] [] (q 7)) none (q 8).line env = pure false) (hs2 : ∀ env : Env, swapsWith (.Name "value" (q 11)) (some (.Attribute (.Name "self" (q 9)) "value" (q 10))) (q 12).line env = pure false) :
    FnG P w K mg base CX0 1 fI fd ["self", "value"] (spErr K B) := by
  refine fnG_of F errScope_ok (fun vs H Q E h => ?_) fun cdv A outer s H vs Q E hr hg h => ?_
  · obtain ⟨a, C, v, d, A, rfl, _⟩ := h
    rfl
  · obtain ⟨a, C, v, d, A1, rfl, O, ea, hd, sh, hq2⟩ := h
    have cost : d.shown.length ≤ 1000000 := by have := shown_cst d; have := sh.size; omega
    have un : (A.deeper (envOfC qual errScope s.heap.objs.size fI cdv)).units + (d.depth + 1) < cLine := by have h2 := hr.un; have h3 := sh.deep; omega
    have zl : d.shown.length ≤ sizeLine := Nat.le_trans cost (by decide)
    refine ⟨_, pss_cons (ps_expr (pe_base T hr rfl (pa_cons (pv 0) (pa_cons (pe_joined (.cons (pe_fmtX (d := d) S hg un sh.ok zl (pv 1)) (.cons pe_str .nil))) pa_nil)) (hc _)) (hs _)) (pss_one (ps_ost (pv 0) (pv 1) (hs2 _))), ?_⟩
    refine ⟨_, rfl, ⟨_, rfl, A1, hd, ⟨_, rfl, ?_, ⟨_, rfl, ?_, ?_⟩⟩⟩⟩
    · show (Str.empty ++ d.shown).length ≤ sizeLine
      rw [strLen_append]
      show 0 + d.shown.length ≤ sizeLine
      omega
    · rw [strLen_append, strLen_append]
      show 0 + d.shown.length + (Str.ofString t).length ≤ sizeLine
      have : (1000060 : Nat) ≤ sizeLine := by decide
      omega
    · refine ⟨a, C, _, rfl, O, ea, fun dx n ne => ⟨_, rfl, ⟨_, rfl, a, C, rfl, O.ex, O.nv, .inr ⟨dx, [("value", .str (Str.empty ++ d.shown ++ Str.ofString t))], upd_same, ?_, by show 1 ≤ 900; decide, ?_⟩⟩⟩⟩
      · rw [upd_ne ne]
        exact upd_same
      · exact hq2 dx _ n ne
/-- the errors' classes without an own __init__ -/
def bareN : List Str := ["NotInvertible", "Dependent", "NothingToUndo", "NoLayout"]
/-- an error's class x, at C, over B: what raising it and looking at it ask -/
structure ErrC (P : Program) (w : World) (K : PySem.W.Frag) (mg : Str → Option Value) (base : Heap) (B : Addr) (x : Str) (C : Addr) : Prop where
  gC : mg x = some (.ref C)
  ov : OverB K B C
  ini : x ∉ bareN → ∃ (fI : Addr) (fd : FuncData), PySem.W.findIn K (.ref C) "__init__" = some (some (.ref fI)) ∧ PySem.W.typeIn K (.ref fI) = some (.type "function") ∧ FnG P w K mg base CX0 1 fI fd ["self", "value"] (spErr K B) ∧ Binds K fd ["self", "value"] []
  bar : x ∈ bareN → ∃ fB : Addr, BaseAt P K mg B fB ∧ PySem.W.findIn K (.ref C) "__init__" = some (some (.ref fB)) ∧ PySem.W.typeIn K (.ref fB) = some (.type "function")
  xf : XfC K C
end
section
variable {X : Cx} {B C : Addr} {k : Nat} {x : Str} {e : Expr} {te : TE} {p pos : Pos}
/-- x(e): a new exception -/
def tErr (C : Addr) (te : TE) (K : PySem.W.Frag) : L2.St → Hp → XK → Prop := fun σ H Q => te σ H fun v H1 => ∃ (d : D) (A : List Addr), Dd K H1 A v d ∧ Sh 1000000 60 d ∧ ∀ dx t, H1 dx = none → Q (.ref C) (some dx) (upd H1 dx (.xd [("value", v), ("value", .str t)]))
theorem pmk_err (T : ErrC X.prog X.w X.K X.mg X.base B x C) (hr : Room (k + 2) X.A) (hgd : Gd X.A) (hg : Gl X x) (he : PE X e te) (hs : starEach [e] X.env = (false, eval e X.env) :: starEach [] X.env := by rfl)
    (hdb : (x == ("__debug__" : Str)) = false := by decide) (hbare : x ∉ bareN := by decide +kernel) : PMk X (.Call (.Name x p) [e] [] pos) (tErr C te X.K) := by
  intro pins s σ H Q I h
  obtain ⟨nm, q, N, bs, bm, sn, sub, ab, col, dd, k0, k1, k2, k3, k5, hC, hbm⟩ := T.ov.ex.cls
  obtain ⟨fI, fd, iC, tI, F, hb⟩ := T.ini hbare
  refine wpAny_Call_Name_kw (ld_glob I hg T.gC ?_ hdb)
  refine PySem.W.callWith_K (h₀ := X.base) I.ok.mod.kin T.ov.ex.kC ?_ hs (by rfl)
  rw [hs]
  show wpAny _ _ (spliced ((false, eval e X.env) :: backTo pos (starEach [] X.env))) _ _ s
  refine Calls.spliced_cons (thn (he.run pins s σ H _ I h) fun u s1 hh => ?_)
  obtain ⟨v, H1, I1, rv, d, A, hd, sh, q1⟩ := hh
  refine Calls.spliced_nil ⟨I1.kIn, ?_⟩
  show wpAny _ _ (call (.ref C) [u]) _ _ _
  obtain ⟨hp, g, dr, tk, os⟩ := s1
  have nw : hp.objs.size ≤ hp.objs.size + 1 := Nat.le_succ _
  have na : H1 (hp.objs.size + 1) = none := I1.hok.fresh nw
  have kk : ∀ b o, hp.get? b = some o → ((hp.push (PySem.W.kdv_tup [u])).push (HandSPX.excO C hp.objs.size)).get? b = some o := fun b o e => Heap.get?_push_of_some _ (Heap.get?_push_of_some _ e)
  have hg2 : ((hp.push (PySem.W.kdv_tup [u])).push (HandSPX.excO C hp.objs.size)).get? (hp.objs.size + 1) = some (HandSPX.excO C hp.objs.size) := by heap_get
  have I2 := I1.laid (t' := tk) (a := hp.objs.size + 1) (o := exo (hp.objs.size + 1) C none) kk nw (exo_ok hg2)
  have want : spErr X.K B [.ref (hp.objs.size + 1), v] (upd H1 (hp.objs.size + 1) (exo (hp.objs.size + 1) C none)) (fun r H2 => r = .non ∧ ∃ (dx : Addr) (t : Str), H1 dx = none ∧ dx ≠ hp.objs.size + 1 ∧
      H2 = upd (upd (upd (upd H1 (hp.objs.size + 1) (exo (hp.objs.size + 1) C none)) dx (exd dx [("value", .str t)])) (hp.objs.size + 1) (exo (hp.objs.size + 1) C (some dx))) dx (exd dx [("value", v), ("value", .str t)])) (fun _ _ _ => False) := by
    refine ⟨_, C, v, d, A, rfl, T.ov, upd_same, hd.mv (fun b u r n => ⟨?_, n⟩), sh, fun dx t n ne => ⟨rfl, dx, t, ?_, ne, rfl⟩⟩
    · rw [upd_ne (ne_of_none r na)]
      exact r
    · rw [upd_ne ne] at n
      exact n
  refine wpAny_call (HandSPX.call_own PySem.F.excBase_ValueError (fun Y => HandSPX.refsVE_contains Y bm hbm) (I1.kIn _ _ hC) (PySem.W.looks_findIn I1.kIn iC) (fun self => PySem.W.bind_fn I1.kIn self tI) (by show 1 ≤ sizeLine; decide)
    (codeAny_mono (F.run _ X.stack _ _ ⟨[Value.ref (hp.objs.size + 1), u], []⟩ [Value.ref (hp.objs.size + 1), u] _ _ (fun _ _ _ => False) ((hr.mono (by omega : 2 ≤ k + 2)).make C [u] []) ?_ (I2.env0.make C [u] []) (hb _ [Value.ref (hp.objs.size + 1), u] I2.kIn rfl) (show Vals [V.ref (hp.objs.size + 1), v] [Value.ref (hp.objs.size + 1), u] from .cons (show L2.RelV (V.ref (hp.objs.size + 1)) (Value.ref (hp.objs.size + 1)) from rfl) (.cons rv .nil)) want) fun r s' hq' => ?_))
  · exact hgd
  · cases r with
    | error er => exact (show False from hq').elim
    | ok fl =>
      cases fl with
      | ret w' =>
        obtain ⟨r', H2, os2, bare2, un2, hok2, rr, ev, dx, t, n, ne, eH⟩ := hq'
        subst ev
        obtain ⟨h2, g2, d2, t2, os'⟩ := s'
        have ea : H2 (hp.objs.size + 1) = some (exo (hp.objs.size + 1) C (some dx)) := by rw [eH, upd_ne (Ne.symm ne), upd_same]
        have ed : H2 dx = some (exd dx [("value", v), ("value", .str t)]) := by rw [eH, upd_same]
        refine ⟨rr, mk_end (raises_own T.ov.ex.exC T.ov.ex.tyC) I1 nw kk un2 hok2 os2 bare2 ea ed n ?_⟩
        have e2 : upd (del H2 (hp.objs.size + 1)) dx (.xd [("value", v), ("value", .str t)]) = upd H1 dx (.xd [("value", v), ("value", .str t)]) := by
          funext b
          by_cases hb : b = dx
          · rw [hb, upd_same, upd_same]
          · rw [upd_ne hb, upd_ne hb]
            by_cases hb2 : b = hp.objs.size + 1
            · rw [hb2, del_same, na]
            · rw [del_ne hb2, eH, upd_ne hb, upd_ne hb2, upd_ne hb, upd_ne hb2]
        rw [e2]
        exact q1 dx t n
      | next => exact False.elim hq'
      | brk => exact False.elim hq'
      | cont => exact False.elim hq'
end
end XB

/-! QD: defs that raise. -/
namespace XB
open PySem PySem.Spec PyProof.Rows L2

/-- an error of the class named x, whose value is d, is in the air -/
def Raised (K : PySem.W.Frag) (mg : Str → Option Value) (A : List Addr) (x : Str) (d : D) : XK := fun cls dd H => ∃ (C dx : Addr) (v : V) (fs : List (Str × V)), cls = .ref C ∧ dd = some dx ∧ mg x = some (.ref C) ∧ H dx = some (.xd (("value", v) :: fs)) ∧ dx ∉ A ∧ Dd K H A v d
/-- it may leave X: since Hb all but what M0 owns is kept -/
def TkR (X : Cx) (Hb : Hp) (M0 : Mem) (x : Str) (d : D) : Prop := ∃ W : WX, Takes X W ∧ ∀ cls dd σ H Ml, Bs Hb (ads M0) H (Ml ++ M0) → MemOk X.K H (Ml ++ M0) → Raised X.K X.mg (ads (Ml ++ M0)) x d cls dd H → W cls dd σ H
/-- e raises such an error, whatever is wanted -/
def EvX (X : Cx) (e : Expr) (ρ : Ro) (M : Mem) (x : Str) (d : D) : Prop := ∀ σ H Q (W : WX), Ok X.K H ρ M σ → Takes X W → (∀ cls dd H', Same H H' → Raised X.K X.mg (ads M) x d cls dd H' → W cls dd σ H') → rd X e σ H Q
/-- a def that raises: C arguments error value -/
def spR (K : PySem.W.Frag) (mg : Str → Option Value) (C : List W → Str → D → Prop) : Sp := fun vs H _ E => ∃ M ws x d, MemOk K H M ∧ (∀ p ∈ M, ∃ o, p.2 = Ow.any o) ∧ SWs K H (ads M) vs ws ∧ C ws x d ∧ ∀ cls dd H', Same H H' → Raised K mg (ads M) x d cls dd H' → E cls dd H'
structure DefR (P : Program) (w : World) (K : PySem.W.Frag) (mg : Str → Option Value) (base : Heap) (k : Nat) (x : Str) (st : Stmt) (ps : List Str) (C : List W → Str → D → Prop) : Prop where
  ex : ∃ (f : Addr) (fd : FuncData), FnG P w K mg base (L2.CX P w) k f fd ps (spR K mg C) ∧ mg x = some (.ref f) ∧ PySem.W.keepIn K (.ref f) = true ∧ Binds K fd ps [] ∧ FunD K x x (defArgs st) (defBody st) (defScope st) [] [] f fd
theorem DefR.up {P : Program} {w : World} {K : PySem.W.Frag} {mg : Str → Option Value} {base : Heap} {j k : Nat} {x : Str} {st : Stmt} {ps : List Str} {C : List W → Str → D → Prop} (F : DefR P w K mg base j x st ps C) (h : j ≤ k) : DefR P w K mg base k x st ps C := by
  obtain ⟨f, fd, G, r⟩ := F.ex
  exact ⟨f, fd, G.up h, r⟩
theorem Raised.mv {K : PySem.W.Frag} {mg : Str → Option Value} {A A' : List Addr} {x : Str} {d : D} {cls : Value} {dd : Option Addr} {H : Hp} (h : Raised K mg A x d cls dd H) (s : ∀ b ∈ A', b ∈ A) : Raised K mg A' x d cls dd H := by
  obtain ⟨C, dx, v, fs, e1, e2, e3, e4, n, hd⟩ := h
  exact ⟨C, dx, v, fs, e1, e2, e3, e4, fun z => n (s _ z), hd.mv (Mv.sub s)⟩
/-- the context of a def that may raise -/
abbrev cxR (P : Program) (w : World) (K : PySem.W.Frag) (mg : Str → Option Value) (base : Heap) (N : List Str) (qual : Str) (scope : Scope) (f : Addr) (cdv : Value) (A : Around) (outer : List Env) (s : Shared) (H : Hp) (E : XK) : Cx :=
  cxOf (L2.CX P w) P w K mg base N qual scope f cdv A outer s H E
section
variable {P : Program} {w : World} {K : PySem.W.Frag} {mg : Str → Option Value} {base : Heap} {k : Nat} {f : Addr} {fd : FuncData} {ps N : List Str} {x qual : Str} {params : Arguments} {body : List Stmt} {scope : Scope} {dvs : List V} {kws : List (Str × V)}
theorem fnR_of {C : List W → Str → D → Prop} (F : FunD K x qual params body scope dvs kws f fd) (S : FnScope N ps scope) (len : ∀ ws y d, C ws y d → ws.length = ps.length)
    (hb : ∀ (cdv : Value) (A : Around) (outer : List Env) (s : Shared) (H : Hp) (E : XK) (ws : List W) (y : Str) (d : D) (M : Mem), Room k (cxR P w K mg base N qual scope f cdv A outer s H E).A → Gd (cxR P w K mg base N qual scope f cdv A outer s H E).A → C ws y d → TkR (cxR P w K mg base N qual scope f cdv A outer s H E) H M y d →
      Sv (cxR P w K mg base N qual scope f cdv A outer s H E) H (ads M) body { nx := fun _ _ => False, rt := fun _ _ => False } (startW N ws) M) :
    FnG P w K mg base (L2.CX P w) (k + 1) f fd ps (spR K mg C) := by
  refine fnG_of F S (fun vs H Q E h => ?_) fun cdv A outer s H vs Q E hr hg h => ?_
  · obtain ⟨M, ws, y, d, m, _, sw, hC, _⟩ := h
    rw [sw.length]
    exact len ws y d hC
  · obtain ⟨M, ws, y, d, m, hany, sw, hC, q⟩ := h
    refine ⟨_, p_rss, hb cdv A outer s H E ws y d M hr hg hC ⟨fun cls dd _ H' => E cls dd H', takes_of rfl rfl rfl rfl, fun cls dd σ1 H1 Ml bs1 m1 r1 => q cls dd H1 (fun b o e => ?_) (r1.mv fun b hb => ?_)⟩ (L2.start N vs) H _ (start_ok m sw) (Bs.refl H M) ⟨fun _ _ _ _ z => z.elim, fun _ _ _ _ z => z.elim, fun _ _ _ _ z => z.elim, fun _ _ _ _ z => z.elim⟩⟩
    · by_cases hb : b ∈ ads M
      · obtain ⟨p, hp, rfl⟩ := List.mem_map.mp hb
        obtain ⟨u, hu⟩ := hany p hp
        have h1 := m.ok p hp
        have h2 := m1.ok p (List.mem_append_right _ hp)
        rw [hu] at h1 h2
        have h1 : H p.1 = some u := h1
        have h2 : H1 p.1 = some u := h2
        rw [h2, ← h1]
        exact e
      · exact bs1.ext b o e hb
    · unfold ads at hb ⊢
      rw [List.map_append]
      exact List.mem_append_right _ hb
theorem DefR.of {st : Stmt} {C : List W → Str → D → Prop} (F : Here K mg x st) (S : FnScope N ps (defScope st)) (hb : BindF x st ps) (len : ∀ ws y d, C ws y d → ws.length = ps.length)
    (body : ∀ (f : Addr) (cdv : Value) (A : Around) (outer : List Env) (s : Shared) (H : Hp) (E : XK) (ws : List W) (y : Str) (d : D) (M : Mem), Room k (cxR P w K mg base N x (defScope st) f cdv A outer s H E).A → Gd (cxR P w K mg base N x (defScope st) f cdv A outer s H E).A → C ws y d → TkR (cxR P w K mg base N x (defScope st) f cdv A outer s H E) H M y d →
      Sv (cxR P w K mg base N x (defScope st) f cdv A outer s H E) H (ads M) (defBody st) { nx := fun _ _ => False, rt := fun _ _ => False } (startW N ws) M) :
    DefR P w K mg base (k + 1) x st ps C := by
  obtain ⟨f, fd, FD, hm⟩ := F
  exact ⟨f, fd, fnR_of FD S len (body f), hm, FD.kp, FD.bindsN hb, FD⟩
end
section
variable {X : Cx} {Hb : Hp} {E : En} {ρ : Ro} {M M0 Ml : Mem} {e : Expr} {es : List Expr} {p p' pos pos' : Pos} {x y : Str} {d : D} {ws : List W} {k : Nat} {ps : List Str} {sd : Stmt} {B C : Addr}
theorem EvX.tk (h : EvX X e ρ M x d) (tk : TkR X Hb M0 x d) (hM : M = Ml ++ M0) {σ : L2.St} {H : Hp} {Q : VK} (ok : Ok X.K H ρ M σ) (bs : Bs Hb (ads M0) H M) : rd X e σ H Q := by
  obtain ⟨W, t, hW⟩ := tk
  refine h σ H Q W ok t fun cls dd H' s r => ?_
  subst hM
  exact hW cls dd σ H' Ml (bs.same s) (ok.mem.same s) r
/-- statements that raise by their expression -/
theorem s1_exprX (h : EvX X e ρ M x d) (tk : TkR X Hb M0 x d) (hM : M = Ml ++ M0 := by exact (List.nil_append _).symm) (hs : swapsWith e none pos.line X.env = pure false := by rfl) : S1 X Hb (ads M0) (.Expr e pos) E ρ M := fun σ H D ok bs l => of_ps (ps_expr p_rd hs) (h.tk tk hM ok bs)
/-- raise x(e) -/
theorem s1_raise (T : ErrC X.prog X.w X.K X.mg X.base B x C) (hr : Room (k + 2) X.A) (hgd : Gd X.A) (he : EvD X e ρ M (.dat d)) (sh : Sh 1000000 60 d) (tk : TkR X Hb M0 x d) (hM : M = Ml ++ M0 := by exact (List.nil_append _).symm) (hc : X.calm = true := by rfl) (hg : Gl X x := by rfl)
    (hs : starEach [e] X.env = (false, eval e X.env) :: starEach [] X.env := by rfl) (hdb : (x == ("__debug__" : Str)) = false := by decide) (hbare : x ∉ bareN := by decide +kernel) : S1 X Hb (ads M0) (.Raise (some (.Call (.Name x p) [e] [] pos)) none pos') E ρ M := fun σ H D ok bs l => by
  obtain ⟨W, t, hW⟩ := tk
  refine of_ps (ps_raise hc t (pmk_err T hr hgd hg p_rd hs hdb hbare)) (he σ H _ ok fun v H1 s1 r1 => ⟨d, ads M, r1, sh, fun dx tx n => ?_⟩)
  subst hM
  have s2 : Same H1 (upd H1 dx (.xd [("value", v), ("value", .str tx)])) := same_upd n
  exact hW _ _ σ _ Ml (bs.same (s1.trans s2)) (ok.mem.same (s1.trans s2)) ⟨C, dx, v, _, rfl, rfl, T.gC, upd_same, (ok.mem.same s1).fresh n, SW.mv (Ext.of s2).mv r1⟩
/-- f(e, ..) that raises -/
theorem callGS {CX : CXT} {f : Addr} {fd : FuncData} {sp : Sp} {E : XK} {pins : List (Addr × Obj)} {σ : L2.St} {H : Hp} {s : Shared} {Q : VK} {us : List Value} {vs : List V} (F : FnG X.prog X.w X.K X.mg X.base CX k f fd ps sp) (hr : Room k X.A) (hg : Gd X.A) (hb : Binds X.K fd ps [])
    (hx : ∀ e s', CX X.stack H s E e s' → X.xe e s') (I : L2.Inv X pins σ H s) (r : Vals vs us) (h : sp vs H Q E) : wpAny (model X.prog X.w) X.A (call (.ref f) us) (EP X pins σ Q) X.xe s := by
  have hl : us.length = ps.length := by rw [← r.length]; exact F.len _ _ _ _ h
  have hb' := hb s us I.kIn (by rw [List.append_nil]; exact hl)
  rw [List.append_nil] at hb'
  refine wpAny_call (codeAny_mono (F.run X.A X.stack s H _ us vs Q E hr hg I.env0 hb' r h) fun r s' hq => ?_)
  match r, hq with
  | .error e, hq => exact hx e s' hq
  | .ok (.ret u), hq => exact I.after hq
  | .ok .next, hq => exact hq.elim
  | .ok .brk, hq => exact hq.elim
  | .ok .cont, hq => exact hq.elim
theorem evX_call {C : List W → Str → D → Prop} (F : DefR X.prog X.w X.K X.mg X.base k y sd ps C) (hr : Room k X.A) (hg : Gd X.A) (ha : EaD X (e :: es) ρ M ws) (hC : C ws x d) (hgl : Gl X y := by rfl) (hdb : (y == ("__debug__" : Str)) = false := by decide)
    (he : starEach (e :: es) X.env = (false, eval e X.env) :: starEach es X.env := by rfl) (hpl : (backTo pos (starEach es X.env)).any (·.1) = false := by rfl) : EvX X (.Call (.Name y p) (e :: es) [] pos) ρ M x d := fun σ H Q W ok t hW => rd_i fun pins s I => by
  obtain ⟨f, fd, G, hm, hk, hb, _⟩ := F.ex
  refine wpAny_Call_Name_kw (ld_glob I hgl hm ?_ hdb)
  refine PySem.W.callWith_K (h₀ := X.base) I.ok.mod.kin hk (thn (ra_e (ha σ H (fun vs H1 => Same H H1 ∧ SWs X.K H1 (ads M) vs ws) ok (fun vs H1 s1 r1 => ⟨s1, r1⟩)) pos pins s I) ?_) he hpl
  rintro us s1 ⟨vs, H1, I1, rv, sm, r1⟩
  refine ⟨I1.kIn, ?_⟩
  obtain ⟨M', ea, m', hany⟩ := (ok.mem.same sm).any
  refine callGS (E := fun cls dd H' => W cls dd σ H') G hr hg hb (fun u s' c => t u s' (XE.of_call I1 (fun cls dd H' h => h) c)) I1 rv ⟨M', ws, x, d, m', hany, by rw [ea]; exact r1, hC, fun cls dd H2 s2 r2 => ?_⟩
  rw [ea] at r2
  exact hW cls dd H2 (sm.trans s2) r2
end
end XB

/-! QE: an error caught and kept. -/
namespace XB
open PySem PySem.Spec PyProof.Rows L2

section
variable {X : Cx} {pins : List (Addr × Obj)} {σ : L2.St} {H : Hp} {s : Shared} {a C dx : Addr}
/-- a new record of ours is tracked from now on -/
theorem inv_track {o : HO} {oe : Obj} {vs : Array Value} (I : L2.Inv X pins σ H s) (na : H a = none) (ha : s.heap.get? a = some oe) (hd : oe.data = .fields vs) (new : ObjOk X.prog X.w (upd H a o) s.heap a o)
    (n0 : X.s_0.heap.get? a = none) (nL : a ≠ X.env.locals) (nP : ∀ p ∈ X.pn ++ pins, p.1 ≠ a) : L2.Inv X pins σ (upd H a o) s := by
  have up : ∀ {b : Addr} {u : HO}, H b = some u → upd H a o b = some u := fun q => by
    rw [upd_ne (ne_of_none q na)]
    exact q
  refine ⟨I.ok, I.os, I.bare, ⟨I.base.keep, I.base.slot, fun b u q n hx => ?_, I.base.there, fun b xs q => up (I.base.tups b xs q), fun b u v q => up (I.base.frzs b u v q), fun b ps q => ?_⟩, I.loc, I.cell, ?_, fun y c q => ?_, fun p hp => ?_, fun b u q => ?_, I.len⟩
  · rw [upd_ne (fun z => by rw [z, n0] at q; cases q)]
    exact I.base.free b u q n hx
  · obtain ⟨m, z⟩ := I.base.tbls b ps q
    exact ⟨m, up z⟩
  · rw [upd_ne (Ne.symm nL)]
    exact I.free
  · rw [upd_ne (fun z => by
      obtain ⟨v, oc, e1, e2⟩ := I.cell y c q
      rw [z, ha] at e1
      cases e1
      rw [hd] at e2
      cases e2)]
    exact I.freeC y c q
  · obtain ⟨e1, n, ne, nf, hc⟩ := I.pin p hp
    exact ⟨e1, by rw [upd_ne (nP p hp)]; exact n, ne, nf, hc⟩
  · by_cases hb : b = a
    · subst hb
      rw [upd_same] at q
      cases q
      exact new
    · rw [upd_ne hb] at q
      exact (I.hok b u q).stay (fun _ _ _ z => z) (fun c z => up z) fun c xs z => up z
theorem exH_ok {P : Program} {w : World} {h : Heap} {oe : Obj} {vs : Array Value} (e : h.get? a = some oe) (hz : Zc (.ref C) (some dx) oe) (hd : oe.data = .fields vs) : ObjOk P w H h a (ExH a C dx) :=
  ⟨⟨oe, vs, e, hz.1, hz.2, hd⟩, ⟨oe, e⟩, fun h1 h2 z k => by
    obtain ⟨o, ws, q, r1, r2, r3⟩ := z
    exact ⟨o, ws, k o q, r1, r2, r3⟩⟩
theorem inv_suite (I : L2.Inv X pins σ H s) : L2.Inv (X.suite a (X.pn ++ pins)) [] σ H s :=
  ⟨I.ok.suite _ _, I.os, I.bare, I.base, I.loc, I.cell, I.free, I.freeC, fun p hp => I.pin p (by simpa using hp), I.hok, I.len⟩
theorem inv_unsuite {ps : List (Addr × Obj)} (I : L2.Inv (X.suite a (X.pn ++ pins)) ps σ H s) (ok : X.Ok) : L2.Inv X pins σ H s :=
  ⟨ok, I.os, I.bare, I.base, I.loc, I.cell, I.free, I.freeC, fun p hp => I.pin p (List.mem_append_left _ hp), I.hok, I.len⟩
/-- what the clause wishes of an error: it is of the class c, and then the suite is done with it tracked -/
def wKeep (K : PySem.W.Frag) (c : Value) (i : Nat) (ts : TS) (D : Ends) : WX := fun cls dd σ H => ∃ C dx, cls = .ref C ∧ dd = some dx ∧ PySem.W.exmOne K cls c = some true ∧
  ∀ a, H a = none → ts { nx := fun σ' H' => D.nx (σ'.set i none) H', rt := D.rt, bk := fun σ' H' => D.bk (σ'.set i none) H', ct := fun σ' H' => D.ct (σ'.set i none) H' } (σ.set i (some (.ref a))) (upd H a (ExH a C dx))
theorem ps_keep {x n : Str} {c : Value} {i : Nat} {body suite : List Stmt} {b0 : Stmt} {np pos pos' : Pos} {tb : WX → TS} {ts : TS} (hs : X.stack = X.env :: X.outer) (hf : X.env.frame = some X.env.locals) (hex : X.ex = []) (hN : X.N.Nodup) (hi : X.N[i]? = some n) (hl : X.env.kindOf n = some .local) (hc : Names X x c)
    (hb : ∀ (W : WX) (pn : List (Addr × Obj)) (xe : Value → Shared → Prop), Takes (X.tr pn xe) W → PSs (X.tr pn xe) body (tb W)) (hsu : ∀ (a : Addr) (pn : List (Addr × Obj)), PSs (X.suite a pn) (b0 :: suite) ts) :
    PS X (.Try body [.ExceptHandler (some (.Name x np)) (some n) (b0 :: suite) pos'] [] [] pos) (fun D σ H => tb (wKeep X.K c i ts D) D σ H) := by
  refine ⟨fun pins s σ H D I h => wpAny_Try_except ?_⟩
  have ok := I.ok
  have fr : X.A.frames = some (X.env :: X.outer) := by rw [ok.frames, hs]
  let look : Value → Shared → Prop := fun e s1 => wpAny (model X.prog X.w) X.A (noteFrame e X.env) (fun _ s2 => wpAny (model X.prog X.w) X.A (setFlight e none)
    (fun _ s3 => wpAny (model X.prog X.w) X.A (handleBy e X.env [.ExceptHandler (some (.Name x np)) (some n) (b0 :: suite) pos']) (SP X pins D) X.xe s3) X.xe s2) X.xe s1
  refine wpAny_mono ((hb (wKeep X.K c i ts D) (X.pn ++ pins) look (fun u s' xx => ?_)).run [] s σ H D (I.toTry _) h) (fun fl s1 q => ?_) fun e s1 q => q
  · obtain ⟨a, B, sI, pi, σ1, H1, cls, dd, rfl, J0, nb, up, sky, na, os, ag, C, dx, rfl, rfl, hm, go⟩ := xx
    have J : L2.Inv X pins σ1 H1 sI := J0.ofTry ok
    rw [show (X.tr (X.pn ++ pins) look).stack = X.env :: X.outer from hs] at sky
    refine Sky.land (B := B) Zc.steady fr hf sky fun h3 f3 up3 => ?_
    have J3 : L2.Inv X pins σ1 H1 { s' with heap := h3 } := J.landed nb f3.1 (up.trans up3) os ag
    obtain ⟨o3, v3, e3, z3, d3⟩ := f3.there
    have nf : a ∉ frs (X.env :: X.outer) := fun hm => by
      obtain ⟨_, o', e', hn⟩ := f3.2.2.1.mem hm
      rw [e3] at e'
      cases e'
      exact hn _ d3
    have nL : a ≠ X.env.locals := fun z => nf (List.mem_filterMap.mpr ⟨X.env, List.mem_cons_self, by rw [hf, z]⟩)
    have nI : sI.heap.get? a = none := by
      cases z : sI.heap.get? a with
      | none => rfl
      | some o =>
        have w := nb a o z (by rw [show (X.tr (X.pn ++ pins) look).stack = X.env :: X.outer from hs]; exact nf)
        rw [f3.2.1] at w
        cases w
    have n0 : X.s_0.heap.get? a = none := by
      cases z : X.s_0.heap.get? a with
      | none => rfl
      | some o =>
        obtain ⟨o', w⟩ := J.base.there a o z (by rw [hex]; exact fun q => nomatch q)
        rw [nI] at w
        cases w
    have nP : ∀ p ∈ X.pn ++ pins, p.1 ≠ a := fun p hp z => by
      have w := (J.pin p hp).1
      rw [z, nI] at w
      cases w
    have K3 : L2.Inv X pins σ1 (upd H1 a (ExH a C dx)) { s' with heap := h3 } := inv_track J3 na e3 d3 (exH_ok e3 z3 d3) n0 nL nP
    have S3 := inv_suite (a := a) K3
    refine wpAny_handleBy_cons (codeAny_handlers_test ?_) (by intro q; cases q)
    have LM := PySem.W.exm_one (M := model X.prog X.w) K3.kIn (fun A Q E s k q => wpAny_typeOf_ref (k _ _ e3) (by rw [z3.1]; exact q)) hm
    have test : ∀ {Q : Value → Shared → Prop} {E : Value → Shared → Prop}, Q c { s' with heap := h3 } → wpAny (model X.prog X.w) (X.A.mark (some (.ref a))) (eval (.Name x np) X.env) Q E { s' with heap := h3 } := fun q => by
      obtain ⟨hg, hdb, hm | ⟨hm, hv, hn⟩⟩ := hc
      · exact ld_glob (X := X.suite a (X.pn ++ pins)) S3 hg hm q hdb
      · exact ld_blt (X := X.suite a (X.pn ++ pins)) S3 hg hm hv q hn hdb
    refine test (LM.here (codeAny_handlers_suite_as ?_))
    refine HandSPX.lands_againZ f3 fun h4 f4 up4 => ?_
    have J4 : L2.Inv X pins σ1 H1 { s' with heap := h4 } := J.landed nb f4.1 ((up.trans up3).trans up4) os ag
    obtain ⟨o4, v4, e4, z4, d4⟩ := f4.there
    have K4 := inv_track J4 na e4 d4 (exH_ok e4 z4 d4) n0 nL nP
    refine store_ok (X := X.suite a (X.pn ++ pins)) (v := .ref a) (inv_suite (a := a) K4) hN hi (.inl hl) rfl (fun s5 S5 => ?_) (.inr hl)
    have fin : ∀ {σ6 : L2.St} {H6 : Hp} {s6 : Shared} {Q : Shared → Prop}, L2.Inv (X.suite a (X.pn ++ pins)) [] σ6 H6 s6 → (∀ s7, L2.Inv X pins (σ6.set i none) H6 s7 → Q s7) →
        wpAny (model X.prog X.w) X.A (do bindName X.env n .none; unbindBehindTheSuite X.env n pos') (fun _ s7 => Q s7) X.xe s6 := fun S6 hq => gone_ok (inv_unsuite S6 ok) hN hi hl hq
    refine wpAny_mono ((hsu a (X.pn ++ pins)).run [] s5 _ _ _ S5 (go a na)) (fun fl s6 q => ?_) fun _ _ z => False.elim z
    cases fl with
    | next => obtain ⟨σ6, H6, S6, q6⟩ := q; exact fin S6 fun s7 J7 => ⟨_, _, J7, q6⟩
    | brk => obtain ⟨σ6, H6, S6, q6⟩ := q; exact fin S6 fun s7 J7 => ⟨_, _, J7, q6⟩
    | cont => obtain ⟨σ6, H6, S6, q6⟩ := q; exact fin S6 fun s7 J7 => ⟨_, _, J7, q6⟩
    | ret u => obtain ⟨v6, σ6, H6, S6, r6, q6⟩ := q; exact fin S6 fun s7 J7 => ⟨_, _, _, J7, r6, q6⟩
  · cases fl with
    | next => obtain ⟨σ1, H1, J, q⟩ := q; exact wpAny_execs_nil ⟨σ1, H1, J.ofTry ok, q⟩
    | brk => obtain ⟨σ1, H1, J, q⟩ := q; exact ⟨σ1, H1, J.ofTry ok, q⟩
    | cont => obtain ⟨σ1, H1, J, q⟩ := q; exact ⟨σ1, H1, J.ofTry ok, q⟩
    | ret u => obtain ⟨v, σ1, H1, J, r, q⟩ := q; exact ⟨v, σ1, H1, J.ofTry ok, r, q⟩
end
end XB

/-! QF: try .. except B as n: kept = n; what is asked of the kept error. -/
namespace XB
open PySem PySem.Spec PyProof.Rows L2

section
variable {X : Cx} {Hb : Hp} {Ab : List Addr} {E : En} {ρ : Ro} {M : Mem} {e : Expr} {p p' pos pos' : Pos} {x : Str} {d : D} {a C : Addr} {w : W}
/-- with what was kept since Hb told -/
def EvDb (X : Cx) (Hb : Hp) (Ab : List Addr) (e : Expr) (ρ : Ro) (M : Mem) (w : W) : Prop := ∀ σ H Q, Ok X.K H ρ M σ → Bs Hb Ab H M → (∀ v H', Same H H' → SW X.K H' (ads M) v w → Q v H') → rd X e σ H Q
def EvXb (X : Cx) (Hb : Hp) (Ab : List Addr) (e : Expr) (ρ : Ro) (M : Mem) (x : Str) (d : D) : Prop := ∀ σ H Q (W : WX), Ok X.K H ρ M σ → Bs Hb Ab H M → Takes X W → (∀ cls dd H', Same H H' → Raised X.K X.mg (ads M) x d cls dd H' → W cls dd σ H') → rd X e σ H Q
theorem EvX.b (h : EvX X e ρ M x d) : EvXb X Hb Ab e ρ M x d := fun σ H Q W ok _ t hW => h σ H Q W ok t hW
theorem s1_setB (i : Nat) {y : Str} (he : EvDb X Hb Ab e ρ M w) (h : E.nx (ρ.set i (some w)) M) (hN : X.N.Nodup) (hi : X.N[i]? = some y := by rfl) (hx : Loc X.env.scope y := by first | exact Or.inl rfl | exact Or.inr rfl)
    (hs : swapsWith e (some (.Name y pos')) pos.line X.env = pure false := by rfl) (hf : X.fn y = true ∨ X.env.scope.names.lookup y = some .local := by first | exact .inl rfl | exact .inr rfl) : S1 X Hb Ab (.Assign [.Name y pos'] e pos) E ρ M := fun σ H D ok bs l =>
  of_ps (ps_set hN hi hx p_rd hs hf) (he σ H _ ok bs fun v H1 s1 r1 => l.nx _ M _ H1 h ((ok.same s1).set r1) (bs.same s1))
/-- a body that raises nothing -/
theorem s1_try0 {body : List Stmt} {h0 : ExceptHandler} {hs : List ExceptHandler} (h : Sv X.nox Hb Ab body E ρ M) : S1 X Hb Ab (.Try body (h0 :: hs) [] [] pos) E ρ M := fun σ H D ok bs l => of_ps (ps_try_thru0 p_rss) (h σ H D ok bs l)
/-- try: y = e / except B as n: z = n, where e raises -/
theorem s1_tryE {y n z xB : Str} {iy i iz : Nat} {cB : Value} {py pn pz pe p1 p2 p3 p4 : Pos} (hcall : ∀ pn xe, EvXb (X.tr pn xe) Hb Ab e ρ M x d) (gC : X.mg x = some (.ref C)) (hm : PySem.W.exmOne X.K (.ref C) cB = some true) (hcB : Names X xB cB)
    (h : ∀ a, a ∉ ads M → E.nx (ρ.set iz (some (.raw (.ref a)))) ((a, .err C d) :: M)) (hN : X.N.Nodup) (h0 : ρ[i]? = some none) (hne : iz ≠ i)
    (hs : X.stack = X.env :: X.outer := by rfl) (hf : X.env.frame = some X.env.locals := by rfl) (hex : X.ex = [] := by rfl) (hi : X.N[i]? = some n := by rfl) (hl : X.env.kindOf n = some .local := by rfl)
    (hiy : X.N[iy]? = some y := by rfl) (hxy : Loc X.env.scope y := by first | exact Or.inl rfl | exact Or.inr rfl) (hsy : swapsWith e (some (.Name y py)) p1.line X.env = pure false := by rfl) (hfy : X.fn y = true ∨ X.env.scope.names.lookup y = some .local := by first | exact .inl rfl | exact .inr rfl)
    (hiz : X.N[iz]? = some z := by rfl) (hxz : Loc X.env.scope z := by first | exact Or.inl rfl | exact Or.inr rfl) (hsz : swapsWith (.Name n pn) (some (.Name z pz)) p2.line X.env = pure false := by rfl) (hfz : X.fn z = true ∨ X.env.scope.names.lookup z = some .local := by first | exact .inl rfl | exact .inr rfl)
    (hd1 : (n == ("__debug__" : Str)) = false := by decide) (hd2 : (n == ("__classdict__" : Str)) = false := by decide) :
    S1 X Hb Ab (.Try [.Assign [.Name y py] e p1] [.ExceptHandler (some (.Name xB pe)) (some n) [.Assign [.Name z pz] (.Name n pn) p2] p3] [] [] p4) E ρ M := fun σ H D ok bs l => by
  refine of_ps (ps_keep (tb := fun W D σ H => ∀ pn xe, Takes (X.tr pn xe) W → rss (X.tr pn xe) [.Assign [.Name y py] e p1] D σ H) (ts := fun D σ H => ∀ a pk, rss (X.suite a pk) [.Assign [.Name z pz] (.Name n pn) p2] D σ H) hs hf hex hN hi hl hcB
    (fun W pk xe t => ⟨fun pins s σ H D I h => rss_e (h pk xe t) pins s I⟩) (fun a pk => ⟨fun pins s σ H D I h => rss_e (h a pk) pins s I⟩)) fun pk xe t => ?_
  refine of_pss (pss_one (ps_set (X := X.tr pk xe) hN hiy hxy p_rd hsy hfy)) (hcall pk xe σ H _ _ ok bs t fun cls dd H' sm r => ?_)
  obtain ⟨C', dx, v, fs, rfl, rfl, g2, hx, nx, hd⟩ := r
  have eC : C' = C := by
    rw [show X.mg x = some (.ref C') from g2] at gC
    exact Value.ref.inj (Option.some.inj gC)
  subst eC
  refine ⟨C', dx, rfl, rfl, hm, fun a na a' pk' => ?_⟩
  have il : i < σ.length := by
    rw [ok.st.len]
    exact (List.getElem?_eq_some_iff.mp h0).1
  refine of_pss (pss_one (ps_set (X := X.suite a' pk') (i := iz) hN hiz hxz (pe_var (X := X.suite a' pk') (i := i) hi (.inl hl) hd1 hd2) hsz hfz)) ⟨.ref a, List.getElem?_set_self il, ?_⟩
  have ok1 := ok.same sm
  have nd : dx ≠ a := ne_of_none hx na
  have ok2 : Ok X.K (upd H' a (ExH a C' dx)) ρ ((a, .err C' d) :: M) σ := ok1.own (o := .err C' d) na (same_upd na) ⟨dx, v, fs, upd_same, .inl (by rw [upd_ne nd]; exact hx), fun z => (List.mem_cons.mp z).elim nd nx, hd.mv ((Mv.add na).trans (Ext.of (same_upd na)).mv)⟩
  refine l.nx _ _ _ _ (h a (ok1.mem.fresh na)) ⟨ok2.mem, ?_⟩ (bs.own_ (o := .err C' d) ?_ (sm.trans (same_upd na)))
  · have hst := ok2.st
    refine ⟨by rw [List.length_set, List.length_set, List.length_set, List.length_set]; exact hst.len, fun j w e => ?_⟩
    by_cases hj : iz = j
    · subst hj
      have hlt : iz < ρ.length := by
        by_cases q : iz < ρ.length
        · exact q
        · rw [List.getElem?_eq_none (by rw [List.length_set]; omega)] at e
          cases e
      rw [List.getElem?_set_self hlt] at e
      cases e
      exact ⟨.ref a, by rw [List.getElem?_set_ne (Ne.symm hne), List.getElem?_set_self (by rw [List.length_set, hst.len]; exact hlt)], rfl⟩
    · rw [List.getElem?_set_ne hj] at e
      have hji : i ≠ j := fun q => by
        rw [← q, h0] at e
        cases e
      obtain ⟨v', e', r'⟩ := hst.at_ j w e
      exact ⟨v', by rw [List.getElem?_set_ne hji, List.getElem?_set_ne hj, List.getElem?_set_ne hji]; exact e', r'⟩
  · exact sm.free na
theorem ev_gC {c : Addr} (hm : X.mg x = some (.ref c)) (hg : Gl X x := by rfl) (hd : (x == ("__debug__" : Str)) = false := by decide) : EvD X (.Name x pos) ρ M (.raw (.ref c)) := fun σ H Q ok q => of_pe (pe_glob hg hm (v := .ref c) rfl hd) (q _ H (Same.refl H) rfl)
theorem ev_gT {T : String} (hm : X.mg x = none) (hv : bootBuiltins x = some (.type T)) (hg : Gl X x := by rfl) (hn : x ≠ "__name__" := by decide) (hd : (x == ("__debug__" : Str)) = false := by decide) : EvD X (.Name x pos) ρ M (.raw (.ty T)) := fun σ H Q ok q => of_pe (pe_bltn hg hm hv (v := .ty T) rfl hn hd) (q _ H (Same.refl H) rfl)
theorem err_inst {K : PySem.W.Frag} {P : Program} {wd : World} {H : Hp} {A : List Addr} {h : Heap} (ok : HOk P wd H h) (r : ErrW K H A a C d) : ∃ oe dx od v mA, PySem.W.InstAt h a oe C (some od) ∧ h.Ns1 dx mA ∧ (∀ name, PySem.W.lookIn name od = some (mA name)) ∧ RelO (some v) (mA "value") ∧ Dd K H A v d := by
  obtain ⟨dx, v, fs, h1, h2, n, hd⟩ := r
  obtain ⟨⟨oe, vs, e1, c1, d1, f1⟩, _⟩ := (show ObjOk P wd H h a (ExH a C dx) from ok a _ h1)
  obtain ⟨mA, hns, hr⟩ := (show ObjOk P wd H h dx (.xd (("value", v) :: fs)) from h2.ok ok)
  obtain ⟨od, ho, hl⟩ := lookIn_ns hns
  refine ⟨oe, dx, od, v, mA, ⟨e1, c1, by unfold PySem.W.notCls; rw [f1] <;> rfl, by rw [d1]; exact ho⟩, hns, hl, ?_, hd⟩
  have z := hr "value"
  rw [lookup_put, if_pos rfl] at z
  exact z
def rIsErr (K : PySem.W.Frag) (A : List Addr) (a C : Addr) (d : D) : List V → Hp → VK → Prop := fun xs H Q => ∃ (c : V) (cv : Value) (b : Bool), xs = [.ref a, c] ∧ ErrW K H A a C d ∧ (∀ u, RelV c u → u = cv) ∧ PySem.W.kitOne K (.ref C) cv = some b ∧ Q (.bl b) H
theorem call_isErr {A : List Addr} (T : ExcC X.K C) : CallR X (.builtin "isinstance") (rIsErr X.K A a C d) := by
  intro pins s σ H xs us Q I r h
  obtain ⟨c, cv, b, rfl, he, hcv, e, q⟩ := h
  cases r with
  | cons rx rr =>
    cases rr with
    | cons rt rr =>
      cases rr
      cases rx
      have ec := hcv _ rt
      subst ec
      obtain ⟨oe, dx, od, v, mA, J, _⟩ := err_inst I.hok he
      obtain ⟨cd, hc, _⟩ := PySem.W.any_some T.hd
      exact PySem.W.kia_one (PySem.W.kitx_exc (ox := oe) (od := some od) (by rw [hc]; rfl) T.hg T.hk T.hs T.ha T.hn T.ht T.hm) I.kIn J e (fun z => nomatch z) fun tk => ⟨.bl b, H, I.tok tk, rfl, q⟩
theorem ev_isErr {e2 : Expr} {c : V} {cv : Value} {b : Bool} (T : ExcC X.K C) (hm : X.mg "isinstance" = none) (he : EvD X e ρ M (.raw (.ref a))) (hk : (a, Ow.err C d) ∈ M) (h2 : EvD X e2 ρ M (.raw c)) (hcv : ∀ u, RelV c u → u = cv) (hb : PySem.W.kitOne X.K (.ref C) cv = some b) (hg : Gl X "isinstance" := by rfl)
    (hst : starEach [e, e2] X.env = (false, eval e X.env) :: starEach [e2] X.env := by rfl) (hst2 : starEach [e2] X.env = (false, eval e2 X.env) :: starEach [] X.env := by rfl) (hpl : (backTo pos (starEach [e2] X.env)).any (·.1) = false := by rfl) :
    EvD X (.Call (.Name "isinstance" p) [e, e2] [] pos) ρ M (.dat (.bool b)) := fun σ H Q ok q =>
  of_pe (pe_callB (call_isErr (A := ads M) (a := a) (d := d) T) hg hm (by decide +kernel) (pa_cons p_rd (pa_cons p_rd pa_nil hst2) hst) (by decide) (by decide) hst hpl) (he σ H _ ok fun v H1 s1 r1 => h2 σ H1 _ (ok.same s1) fun v2 H2 s2 r2 => by
    have e1 : v = .ref a := r1
    have e2 : v2 = c := r2
    subst e1 e2
    exact ⟨v2, cv, b, rfl, ((ok.same s1).same s2).mem.ok _ hk, hcv, hb, q _ H2 (s1.trans s2) (.bl _)⟩)
/-- e.value -/
theorem ev_value (T : XfC X.K C) (nv : PySem.W.findIn X.K (.ref C) "value" = some none) (he : EvD X e ρ M (.raw (.ref a))) (hk : (a, Ow.err C d) ∈ M) (hb : attributeBase e "value" X.env (eval e X.env) = eval e X.env := by rfl) : EvD X (.Attribute e "value" pos) ρ M (.dat d) := fun σ H Q ok q => rd_i fun pins s I => by
  refine attr_of hb (thn (rd_e (he σ H (fun v H1 => v = .ref a ∧ Same H H1) ok (fun v H1 s1 r1 => ⟨r1, s1⟩)) pins s I) fun u s1 hh => ?_)
  obtain ⟨v, H1, I1, rv, ev, sm⟩ := hh
  subst ev
  obtain rfl : u = Value.ref a := rv
  obtain ⟨oe, dx, od, y, mA, J, hns, hl, ry, hd⟩ := err_inst I1.hok ((ok.mem.same sm).ok _ hk)
  obtain ⟨u, hu, ru⟩ := RelO.some_of (v := y) (o := mA "value") ry
  exact HandSPX.exc_get I1.kIn J T.ga T.gg T.exC (PySem.W.findObj_own T.hdC nv rfl (by rw [hl, hu])) (handed_of ru) ⟨y, H1, I1.tok _, ru, q _ H1 sm hd⟩
end
end XB

/-! QG: f(lambda: e), f a def that tries what it got. -/
namespace XB
open PySem PySem.Spec PyProof.Rows L2
open LamX (CodeO TabB LamS lamCx lamEnv)

section
variable {X : Cx} {pins : List (Addr × Obj)} {σ : L2.St} {H : Hp} {s : Shared} {A : List Addr}
/-- a lambda is made: the table of its maker's code object, owned, may grow -/
theorem lam_made {c P : Addr} {params : Arguments} {body : Expr} {scope : Scope} {pos : Pos} {E : Value → Shared → Prop} {Q : Value → Shared → Prop} (I : L2.Inv X pins σ H s) (TB : TabB X.base X.mg c P) (hcode : X.env.code = .ref c) (hT : TabW H A P (X.env.qual ++ "<lambda>")) (hA : ∀ b ∈ A, H b ≠ none)
    (hdef : defaultsOf params X.env = ([], [])) (hfree : ∀ y ∈ scope.names, y.2 = .free → ∃ c, X.env.cells.lookup y.1 = some c)
    (h : ∀ (f k : Addr) (pm ct : Value) (H1 : Hp) (s1 : Shared), L2.Inv X pins σ H1 s1 → (∀ b o, H b = some o → b ≠ P → H1 b = some o) → (∀ b, H b ≠ none → H1 b ≠ none) → TabW H1 A P (X.env.qual ++ "<lambda>") →
      s1.heap.get? f = some (PySem.W.kla_obj "<lambda>" (X.env.qual ++ "<lambda>") params body scope (cloFrom X.env.cells scope.names []) pm k ct) → H1 f = none → f ∉ frs X.stack → Rd H1 k (CodeO k (X.env.qual ++ "<lambda>")) → k ∉ A → Q (.ref f) s1) :
    wpAny (model X.prog X.w) X.A (eval (.Lambda params body scope pos) X.env) Q E s := by
  obtain ⟨ps, hP, ht, ha⟩ := hT
  refine PySem.W.kla_eval hdef ?_
  have bP : s.heap.BuiltinsAt X.mg P := TB.bm.keeps I.bk
  have oP : s.heap.get? P = some { cls := .none, data := .fields ps } := I.hok P _ hP
  have nofr : ∀ f, s.heap.objs.size ≤ f → f ∉ frs X.stack := fun f hf z => (List.mem_cons.mp (I.stkSub _ z)).elim
    (fun e => Nat.lt_irrefl _ (Nat.lt_of_lt_of_le (e ▸ I.lt) hf)) fun e => I.nofs hf e
  have G := I.mod.glob.keeps I.bk
  have C := TB.code.keeps I.bk
  cases hc : codeAmong pos ps.toList with
  | some cv =>
    obtain ⟨k, e, hk, nk⟩ := ha pos cv hc
    subst e
    refine PySem.W.kla_makeFunctionHit (mg := X.mg) (c := c) (P := P) (ps := ps) (closure_ok hfree) I.ok.glob G hcode C oP ht hc bP fun ct h' tk hx hz => ?_
    exact h h'.objs.size k _ ct H _ (I.kept fun b o e => Heap.get?_push_of_some _ (hx b o e)) (fun _ _ e _ => e) (fun _ e => e) ⟨ps, hP, ht, ha⟩ (Heap.get?_push_size _ rfl) (I.hok.fresh hz) (nofr _ hz) hk nk
  | none =>
    refine PySem.W.kla_makeFunction (mg := X.mg) (c := c) (P := P) (ps := ps) (closure_ok hfree) I.ok.glob G hcode C oP ht hc TB.gP bP fun k ct h' tk hx hge hlt hrec htb => ?_
    obtain ⟨k2, oc, vs, t, e2, hoc, hd, hv⟩ := hrec
    cases e2
    have hz : s.heap.objs.size ≤ h'.objs.size := Nat.le_trans hge (Nat.le_of_lt hlt)
    have nk : H k = none := I.hok.fresh hge
    have I1 := LamX.inv_table (t' := tk) (more := #[rawInt pos.line, rawInt pos.col, .ref k]) (h' := h'.push (PySem.W.kla_obj "<lambda>" (X.env.qual ++ "<lambda>") params body scope (cloFrom X.env.cells scope.names []) ((X.mg "__name__").getD .none) k ct)) I hP
      (fun b o hb e => Heap.get?_push_of_some _ (hx b o hb e)) (Heap.get?_push_of_some _ htb) hge ⟨oc, vs, t, Heap.get?_push_of_some _ hoc, hd, hv⟩
    have nPk : P ≠ k := ne_of_none hP nk
    have keep : ∀ b o, H b = some o → b ≠ P → upd (upd H P (.tbl (ps ++ #[rawInt pos.line, rawInt pos.col, .ref k]))) k (CodeO k (X.env.qual ++ "<lambda>")) b = some o := fun b o e n => by
      rw [upd_ne (ne_of_none e nk), upd_ne n]
      exact e
    have rdk : ∀ {b q}, Rd H b (CodeO b q) → Rd (upd (upd H P (.tbl (ps ++ #[rawInt pos.line, rawInt pos.col, .ref k]))) k (CodeO k (X.env.qual ++ "<lambda>"))) b (CodeO b q) := fun {b q} r => by
      have ne : b ≠ P := fun z => by
        rcases r with r | ⟨o, r⟩
        · rw [z, hP] at r
          exact LamX.codeO_ne _ (Option.some.inj r).symm
        · rw [z, hP] at r
          cases r
      rcases r with r | ⟨o, r⟩
      · exact .inl (keep _ _ r ne)
      · exact .inr ⟨o, keep _ _ r ne⟩
    have eL : (ps ++ #[rawInt pos.line, rawInt pos.col, .ref k]).toList = ps.toList ++ [rawInt pos.line, rawInt pos.col, .ref k] := by simp
    refine h h'.objs.size k _ ct _ _ I1 keep (fun b e => ?_) ⟨_, by rw [upd_ne nPk, upd_same], by rw [eL]; exact PySem.TriplesOk_snoc _ _ _ _ ht, fun p' cv hcv => ?_⟩ (Heap.get?_push_size _ rfl) ?_ (nofr _ hz) (.inl upd_same) (fun q => hA k q nk)
    · by_cases h1 : b = k
      · rw [h1, upd_same]; simp
      · by_cases h2 : b = P
        · rw [h2, upd_ne nPk, upd_same]; simp
        · rw [upd_ne h1, upd_ne h2]; exact e
    · rw [eL] at hcv
      rcases LamX.among_app _ ht hcv with z | z
      · obtain ⟨k0, e1, r, n⟩ := ha p' cv z
        exact ⟨k0, e1, rdk r, n⟩
      · exact ⟨k, z, .inl upd_same, fun q => hA k q nk⟩
    · rw [upd_ne (Nat.ne_of_gt hlt), upd_ne (Nat.ne_of_gt (Nat.lt_of_lt_of_le (Heap.lt_size oP) hz))]
      exact I.hok.fresh hz
end

/-- what may come of a call -/
inductive Out where
  | ret (d : D) | err (x : Str) (d : D)
/-- the lambda's body, in the context of its maker's names -/
def LamB (X : Cx) (body : Expr) (scope : Scope) (ρ : Ro) (M : Mem) (k : Nat) : Out → Prop
  | .ret d => ∀ (A : Around) (outer : List Env) (s : Shared) (H : Hp) (E : XK) (f c' : Addr), Room k (A.deeper (lamEnv X scope s.heap.objs.size f c')) → Gd A → EvD (lamCx X A outer s H E scope f c') body ρ M (.dat d)
  | .err x d => ∀ (A : Around) (outer : List Env) (s : Shared) (H : Hp) (E : XK) (f c' : Addr), Room k (A.deeper (lamEnv X scope s.heap.objs.size f c')) → Gd A → EvX (lamCx X A outer s H E scope f c') body ρ M x d
/-- the call of what was got, in the def Z that got it -/
def AskX (Z : Cx) (Hb : Hp) (a : Str) (M : Mem) (f : Addr) : Out → Prop
  | .ret d => ∀ (ρ : Ro) (p1 p2 : Pos), ρ[0]? = some (some (.raw (.ref f))) → EvDb Z.nox Hb (ads M) (.Call (.Name a p1) [] [] p2) ρ M (.dat d)
  | .err x d => ∀ (ρ : Ro) (p1 p2 : Pos) (pn : List (Addr × Obj)) (xe : Value → Shared → Prop), ρ[0]? = some (some (.raw (.ref f))) → EvXb (Z.tr pn xe) Hb (ads M) (.Call (.Name a p1) [] [] p2) ρ M x d
section
variable {X : Cx} {pins : List (Addr × Obj)} {σ : L2.St} {H : Hp} {s : Shared}
theorem ask_run {Ng : List Str} {qg : Str} {sg : Scope} {g f k : Addr} {cdg pm ct : Value} {params : Arguments} {body : Expr} {scope : Scope} {j : Nat} {a : Str} {ρ : Ro} {M : Mem} {o : Out} (I : L2.Inv X pins σ H s) (ok : Ok X.K H ρ M σ) (L : LamS X.env.scope scope)
    (hf : s.heap.get? f = some (PySem.W.kla_obj "<lambda>" (X.env.qual ++ "<lambda>") params body scope (cloFrom X.env.cells scope.names []) pm k ct)) (hfn : H f = none) (hfr : f ∉ frs X.stack) (hk : Rd H k (CodeO k (X.env.qual ++ "<lambda>"))) (nk : k ∉ ads M)
    (hbind : bindArgs (PySem.W.kla_fn "<lambda>" (X.env.qual ++ "<lambda>") params body scope (cloFrom X.env.cells scope.names []) pm (.ref k) ct) ⟨[], []⟩ = pure []) (hr : Room (j + 1) (X.A.deeper (envOfC qg sg s.heap.objs.size g cdg))) (hgd : Gd X.A) (hb : LamB X body scope ρ M j o)
    (hN : Ng[0]? = some a) (hv : Vis sg a) (hd : (a == ("__debug__" : Str)) = false := by decide) (hcd : (a == ("__classdict__" : Str)) = false := by decide) :
    AskX (cxOf CX0 X.prog X.w X.K X.mg X.base Ng qg sg g cdg X.A X.stack s H E0) H a M f o := by
  -- the call, whatever is wished of it
  have core : ∀ (pn : List (Addr × Obj)) (xe : Value → Shared → Prop) (ρZ : Ro) (p1 p2 : Pos) (pz : List (Addr × Obj)) (sZ : Shared) (σZ : L2.St) (HZ : Hp) (Q : VK) (E : XK), ρZ[0]? = some (some (.raw (.ref f))) → Ok X.K HZ ρZ M σZ → Bs H (ads M) HZ M →
      L2.Inv ((cxOf CX0 X.prog X.w X.K X.mg X.base Ng qg sg g cdg X.A X.stack s H E0).tr pn xe) pz σZ HZ sZ →
      (∀ (A : Around) (outer : List Env) (s1 : Shared) (t0 : Shared), Room j (A.deeper (lamEnv X scope s1.heap.objs.size f k)) → Gd A → Ok X.K HZ ρ M σ → L2.Inv (lamCx X A outer s1 HZ E scope f k) [] σ HZ t0 →
        wpAny (model X.prog X.w) (lamCx X A outer s1 HZ E scope f k).A (eval body (lamCx X A outer s1 HZ E scope f k).env) (EP (lamCx X A outer s1 HZ E scope f k) [] σ Q) (lamCx X A outer s1 HZ E scope f k).xe t0) →
      (∀ e s1 s2, L2.Inv ((cxOf CX0 X.prog X.w X.K X.mg X.base Ng qg sg g cdg X.A X.stack s H E0).tr pn xe) pz σZ HZ s1 → L2.CX X.prog X.w (envOfC qg sg s.heap.objs.size g cdg :: X.stack) HZ s1 E e s2 → xe e s2) →
      wpAny (model X.prog X.w) (X.A.deeper (envOfC qg sg s.heap.objs.size g cdg)) (eval (.Call (.Name a p1) [] [] p2) (envOfC qg sg s.heap.objs.size g cdg)) (EP ((cxOf CX0 X.prog X.w X.K X.mg X.base Ng qg sg g cdg X.A X.stack s H E0).tr pn xe) pz σZ Q) xe sZ := by
    intro pn xe ρZ p1 p2 pz sZ σZ HZ Q E h0 okZ bsZ IZ hbody hx
    obtain ⟨v0, ev0, rv0⟩ := okZ.st.at_ 0 _ h0
    have e0 : v0 = .ref f := rv0
    subst e0
    refine wpAny_Call_Name_kw (thn ((pe_var (X := (cxOf CX0 X.prog X.w X.K X.mg X.base Ng qg sg g cdg X.A X.stack s H E0).tr pn xe) (pos := p1) (i := 0) hN hv hd hcd).run pz sZ σZ HZ (fun v H1 => v = .ref f ∧ H1 = HZ) IZ ⟨.ref f, ev0, rfl, rfl⟩) fun u s1 hh => ?_)
    obtain ⟨v, H1, I1, r1, rfl, rfl⟩ := hh
    obtain rfl : u = Value.ref f := r1
    have of1 := I1.base.keep f _ hf hfn hfr (fun z => nomatch (show f ∈ ([] : List Addr) from z))
    refine PySem.W.callWith_F0 ⟨_, _, _, _, of1⟩ ?_
    have un : Un (frs X.stack) [] H H1 s.heap s1.heap := I1.base
    have hk1 : Rd H1 k (CodeO k (X.env.qual ++ "<lambda>")) := (bsZ.ext.mv.rd (A := ads M) hk nk).1
    obtain ⟨⟨oc, vs, t, hoc, hdc, hvc⟩, _⟩ := (show ObjOk X.prog X.w H1 s1.heap k (CodeO k (X.env.qual ++ "<lambda>")) from hk1.ok I1.hok)
    refine wpAny_call (codeAny_mono (R := CR (L2.CX X.prog X.w) (envOfC qg sg s.heap.objs.size g cdg :: X.stack) X.prog X.w H1 s1 Q E) (PySem.W.kla_callFunE hr.depth of1 rfl L.co L.gen rfl ⟨k, oc, vs, t, rfl, hoc, hdc, hvc⟩ ?_) fun r s2 hq => ?_)
    · rw [show (([] : List Value) ++ []) = [] from rfl, hbind]
      refine wpAny_pure (wpAny_newFunctionEnv (fun y hy => (L.own y hy).2) (fun y hy => absurd hy (by simp)) (fun h1 hns hsb => ⟨I1.nolimit.fresh _ hsb, ?_⟩) L.kind)
      show codeAny _ _ (.expr body (lamEnv X scope s1.heap.objs.size f k)) _ _
      have kp : ∀ b u, s1.heap.get? b = some u → h1.get? b = some u := fun b u e => hsb.extBut b u (Nat.ne_of_lt (Heap.lt_size e)) (Heap.get?_push_of_some _ e)
      have J : L2.Inv (lamCx X (X.A.deeper (envOfC qg sg s.heap.objs.size g cdg)) (envOfC qg sg s.heap.objs.size g cdg :: X.stack) s1 H1 E scope f k) [] σ H1 { s1 with heap := h1, toks := s1.toks + ([] : List (Str × Value)).length } := LamX.lam_start2 I L I1.env0 hr.hd un hns kp
      refine PySem.W.kla_codeExpr (wpAny_mono (hbody _ _ s1 _ (hr.deeper _) hgd ⟨okZ.mem, ok.st.mv bsZ.ext.mv⟩ J) (fun v s' hq => ?_) fun e s' hq => hq)
      obtain ⟨w', H', J', rv, q⟩ := hq
      exact ⟨w', H', J'.os, J'.bare, J'.base, J'.hok, rv, q⟩
    · cases r with
      | error e => exact hx e s1 s2 I1 hq
      | ok fl =>
        cases fl with
        | ret u => exact I1.after hq
        | next => exact False.elim hq
        | brk => exact False.elim hq
        | cont => exact False.elim hq
  cases o with
  | ret d =>
    intro ρZ p1 p2 h0 σZ HZ Q okZ bsZ q
    refine rd_i fun pz sZ IZ => ?_
    refine core [] (fun _ _ => False) ρZ p1 p2 pz sZ σZ HZ Q (fun _ _ _ => False) h0 okZ bsZ IZ (fun A outer s1 t0 hr2 hg2 ok2 J => rd_e (hb A outer s1 HZ _ f k hr2 hg2 σ HZ Q ok2 q) [] t0 J) fun e s1 s2 _ c => ?_
    obtain ⟨_, _, _, _, _, _, _, _, _, _, _, _, z⟩ := c
    exact z.elim
  | err x d =>
    intro ρZ p1 p2 pn xe h0 σZ HZ Q W okZ bsZ t hW
    refine rd_i fun pz sZ IZ => ?_
    refine core pn xe ρZ p1 p2 pz sZ σZ HZ Q (fun cls dd H' => W cls dd σZ H') h0 okZ bsZ IZ (fun A outer s1 t0 hr2 hg2 ok2 J => rd_e (hb A outer s1 HZ _ f k hr2 hg2 σ HZ Q (fun cls dd _ H' => W cls dd σZ H') ok2 (takes_of rfl rfl rfl rfl) (fun cls dd H' sm r => hW cls dd H' sm r)) [] t0 J) fun e s1 s2 I1 c => ?_
    exact t e s2 (XE.of_call I1 (fun _ _ _ h => h) c)
end

/-- a def that calls what it got, within a try: T outcome answer -/
structure Told (P : Program) (w : World) (K : PySem.W.Frag) (mg : Str → Option Value) (base : Heap) (k : Nat) (x : Str) (st : Stmt) (a : Str) (N : List Str) (T : Out → D → Prop) : Prop where
  here : Here K mg x st
  sc : FnScope N [a] (defScope st)
  at0 : N[0]? = some a
  vis : Vis (defScope st) a
  bind : BindF x st [a]
  body : ∀ (g : Addr) (cdg : Value) (A : Around) (outer : List Env) (s : Shared) (H : Hp) (f : Addr) (o : Out) (r : D) (M : Mem), Room k (cx0 P w K mg base N x (defScope st) g cdg A outer s H E0).A → Gd (cx0 P w K mg base N x (defScope st) g cdg A outer s H E0).A → T o r →
    AskX (cxOf CX0 P w K mg base N x (defScope st) g cdg A outer s H E0) H a M f o →
    Sv (cx0 P w K mg base N x (defScope st) g cdg A outer s H E0) H (ads M) (defBody st) { nx := fun _ _ => False, rt := fun r1 M1 => r1 = .dat r ∧ ∃ Ml, M1 = Ml ++ M } (startW N [.raw (.ref f)]) M
theorem MemOk.dropL {K : PySem.W.Frag} {H : Hp} {M : Mem} : ∀ {Ml : Mem}, MemOk K H (Ml ++ M) → MemOk K H M
  | [], h => h
  | p :: Ml, h => MemOk.dropL (Ml := Ml) (MemOk.drop (p := p.1) (o := p.2) h)
theorem own_one : ∀ {M : Mem} {p q : Addr × Ow}, (ads M).Nodup → p ∈ M → q ∈ M → p.1 = q.1 → p = q
  | [], _, _, _, h, _, _ => nomatch h
  | m :: M, p, q, nd, hp, hq, e => by
    obtain ⟨n1, n2⟩ := List.nodup_cons.mp (show (m.1 :: ads M).Nodup from nd)
    rcases List.mem_cons.mp hp with z | z <;> rcases List.mem_cons.mp hq with y | y
    · rw [z, y]
    · exact absurd (List.mem_map.mpr ⟨q, y, by rw [← e, z]⟩) n1
    · exact absurd (List.mem_map.mpr ⟨p, z, by rw [e, y]⟩) n1
    · exact own_one n2 z y e
theorem ads_sub {Ml M : Mem} : ∀ b ∈ ads M, b ∈ ads (Ml ++ M) := fun b hb => by
  unfold ads at hb ⊢
  rw [List.map_append]
  exact List.mem_append_right _ hb
section
variable {X : Cx} {ρ : Ro} {M : Mem} {x a : Str} {st : Stmt} {N : List Str} {T : Out → D → Prop} {k j : Nat} {o : Out} {r : D} {c P : Addr} {params : Arguments} {body : Expr} {scope : Scope} {p lpos pos : Pos}
/-- x(lambda: body) -/
theorem ev_told (TO : Told X.prog X.w X.K X.mg X.base k x st a N T) (hr : Room (k + 1) X.A) (hj : j + 1 ≤ k) (hgd : Gd X.A) (hP : (P, Ow.tab (X.env.qual ++ "<lambda>")) ∈ M) (TB : TabB X.base X.mg c P) (hcode : X.env.code = .ref c) (L : LamS X.env.scope scope)
    (hb : LamB X body scope ρ M j o) (hT : T o r) (hdef : defaultsOf params X.env = ([], []) := by rfl) (hbind : ∀ (q : Str) (cl : List (Str × Addr)) (pm cv ctv : Value), bindArgs (PySem.W.kla_fn "<lambda>" q params body scope cl pm cv ctv) ⟨[], []⟩ = pure [] := by intros; rfl) (hg : Gl X x := by rfl)
    (hdb : (x == ("__debug__" : Str)) = false := by decide) (hd : (a == ("__debug__" : Str)) = false := by decide) (hcd : (a == ("__classdict__" : Str)) = false := by decide) :
    Ev X (.Call (.Name x p) [.Lambda params body scope lpos] [] pos) ρ M (fun w M1 => w = .dat r ∧ M1 = M) := fun σ H Q ok q => rd_i fun pins s I => by
  obtain ⟨g, fd, F, hm⟩ := TO.here
  obtain ⟨oc, od, dV, kV, doc, pm, an, cdv, ct, osl, rfl, lk, hcdv, hdV, _⟩ := F.ex
  have hPa : P ∈ ads M := List.mem_map.mpr ⟨_, hP, rfl⟩
  refine wpAny_Call_Name_kw (ld_glob I hg hm ?_ hdb)
  refine PySem.W.callWith_K (h₀ := X.base) I.ok.mod.kin F.kp ?_ (by rfl) (by rfl)
  show wpAny _ _ (spliced ((false, eval (.Lambda params body scope lpos) X.env) :: backTo pos (starEach [] X.env))) _ _ s
  refine Calls.spliced_cons (lam_made (A := ads M) I TB hcode (ok.mem.ok _ hP) (fun b hb => ok.mem.tracked hb) hdef (L.has I.ok) fun f k' pm' ctv H1 s1 I1 keep live T1 hf hfn hfr hk nk => ?_)
  have x1 : Ext (ads M) H H1 := fun b u e n => keep b u e fun z => n (z ▸ hPa)
  have m1 : MemOk X.K H1 M := ⟨ok.mem.nd, fun p hp => by
    by_cases hpP : p.1 = P
    · have e2 : p = (P, Ow.tab (X.env.qual ++ "<lambda>")) := by
        exact own_one ok.mem.nd hp hP hpP
      rw [e2]
      exact T1
    · refine (ok.mem.ok p hp).mv ?_ x1.mv
      cases e : H p.1 with
      | none => exact absurd e (ok.mem.ok p hp).ne
      | some u => exact (keep _ _ e hpP).symm⟩
  have ok1 : Ok X.K H1 ρ M σ := ok.ext rfl x1 m1
  refine Calls.spliced_nil ⟨I1.kIn, ?_⟩
  have run : codeAny (model X.prog X.w) X.A (.call (.ref g) ⟨[.ref f], []⟩) (CR CX0 X.stack X.prog X.w H1 s1 Q E0) s1 := by
    have dn : dV = .none := by
      rcases hdV with ⟨_, z⟩ | ⟨z, _⟩
      · exact z
      · exact absurd rfl z
    subst dn
    refine LamX.run_ofS (N := N) (ps := [a]) (us := [.ref f]) (vs := [.ref f]) lk hcdv TO.sc hr I1.env0 (.of_eq (TO.bind kV doc pm an cdv ct [.ref f] rfl)) (.cons rfl .nil) rfl fun hr2 => ?_
    refine ⟨_, PSs.nox p_rss, TO.body g cdv X.A X.stack s1 H1 f o r M hr2 hgd hT (ask_run I1 ok1 L hf hfn hfr hk nk (hbind _ _ _ _ _) (hr2.mono hj) hgd hb TO.at0 TO.vis hd hcd) (L2.start N [.ref f]) H1 _ (start_ok m1 (.cons rfl .nil)) (Bs.refl H1 M) ⟨fun _ _ _ _ z => z.elim, ?_, fun _ _ _ _ z => z.elim, fun _ _ _ _ z => z.elim⟩⟩
    rintro r1 M1 v H2 ⟨rfl, Ml, rfl⟩ m2 sw bs
    exact q _ M v H2 ⟨rfl, rfl⟩ rfl (x1.trans bs.ext) m2.dropL (SW.mv (Mv.sub ads_sub) sw)
  refine wpAny_call (codeAny_mono run fun r2 s2 hq => ?_)
  cases r2 with
  | error e => exact (show False from hq).elim
  | ok fl =>
    cases fl with
    | ret u => exact I1.after hq
    | next => exact False.elim hq
    | brk => exact False.elim hq
    | cont => exact False.elim hq
end
end XB

/-! QH: defs with lambdas; the law with tables; what the head tells of the errors. -/
namespace XB
open PySem PySem.Spec PyProof.Rows L2

section
variable {P : Program} {w : World} {K : PySem.W.Frag} {mg : Str → Option Value} {base : Heap} {CX : CXT} {k : Nat} {f : Addr} {fd : FuncData} {ps : List Str} {sp : Sp}
/-- a def of the text, by its body, its code object known -/
theorem fnG_ofC {Cd : Value → Prop} {x qual : Str} {params : Arguments} {body : List Stmt} {scope : Scope} {dvs : List V} {kws : List (Str × V)} {N : List Str}
    (F : FunD K x qual params body scope dvs kws f fd) (S : FnScope N ps scope)
    (len : ∀ vs H Q E, sp vs H Q E → vs.length = ps.length)
    (hcd0 : ∀ (oc : Value) (od : Option Addr) (osl : Array (Option Value)) (dV kV doc pm cdv ct : Value) (an : Option Addr), K.lookup f = some ⟨oc, od, .func (PySem.W.fnOf x qual params body scope dV kV doc pm an cdv ct), osl⟩ → PySem.W.codeIn K cdv qual = true → Cd cdv)
    (hbody : ∀ (cdv : Value) (A : Around) (outer : List Env) (s : Shared) (H : Hp) (vs : List V) (Q : VK) (E : XK),
      Room k (A.deeper (envOfC qual scope s.heap.objs.size f cdv)) → Gd (A.deeper (envOfC qual scope s.heap.objs.size f cdv)) → Cd cdv → sp vs H Q E →
      ∃ t, PSs (cxOf CX P w K mg base N qual scope f cdv A outer s H E) body t ∧ t { nx := fun _ H' => Q .non H', rt := Q } (start N vs) H) :
    FnG P w K mg base CX (k + 1) f fd ps sp := by
  obtain ⟨oc, od, dV, kV, doc, pm, an, cdv, ct, osl, rfl, lk, hcd, _, _⟩ := F.ex
  constructor
  · exact len
  intro A outer s H args us vs Q E room gd env bind rel want
  have hlen := len vs H Q E want
  have inH : K.In s.heap := env.mod.kin.keeps (fun b o e => (env.bs b o e).1)
  have limH : s.heap.NoLimit := env.mod.nolimit.keeps (fun b o e => (env.bs b o e).1)
  have kinds : ∀ y ∈ ps.zip us, scope.names.lookup y.1 = some .local ∨
      (scope.names.lookup y.1 = some .cell ∧ ((cellsFrom (s.heap.objs.size + 1) scope.names []).lookup y.1).isSome = true) := by
    rintro ⟨n, v⟩ hy
    cases S.par n (List.of_mem_zip hy).1 with
    | inl q => exact Or.inl q
    | inr q => exact Or.inr ⟨q, PySem.W.cellsFrom_some _ _ _ (Or.inl q)⟩
  apply codeAny_call_function room.depth (inH _ _ lk) rfl S.co S.gen rfl (PySem.W.codeRec_of inH hcd)
  apply bind
  refine wpAny_newFunctionEnv_cells S.kind kinds (fun env' he s1 x => ?_)
  subst he
  refine ⟨limH.keeps x.toInCall.keep, codeAny_func ?_⟩
  obtain ⟨t, ht, hq⟩ := hbody cdv A outer s H vs Q E (room.deeper _) gd (hcd0 _ _ _ _ _ _ _ _ _ _ lk hcd) want
  have I : Inv (cxOf CX P w K mg base N qual scope f cdv A outer s H E) [] (start N vs) H s1 := inv_start S room.hd env hlen rel x
  refine wpAny_mono (ht.run [] s1 (start N vs) H _ I hq) ?_ (fun e s' hs => hs)
  intro fl s' hs
  cases fl with
  | ret u =>
    obtain ⟨v, σ', H', J, rv, q⟩ := hs
    exact ⟨v, H', J.os, J.bare, J.base, J.hok, rv, q⟩
  | next =>
    obtain ⟨σ', H', J, q⟩ := hs
    exact ⟨V.non, H', J.os, J.bare, J.base, J.hok, rfl, q⟩
  | brk => obtain ⟨_, _, _, q⟩ := hs; exact q.elim
  | cont => obtain ⟨_, _, _, q⟩ := hs; exact q.elim
end
section
variable {P : Program} {w : World} {K : PySem.W.Frag} {mg : Str → Option Value} {base : Heap} {k : Nat} {f : Addr} {fd : FuncData} {ps N : List Str} {x qual : Str} {params : Arguments} {body : List Stmt} {scope : Scope} {dvs : List V} {kws : List (Str × V)}
/-- .. with effects on what is owned -/
theorem fnE_ofC {Cd : Value → Prop} {C : Ct} (F : FunD K x qual params body scope dvs kws f fd) (S : FnScope N ps scope) (len : ∀ ws M Φ, C ws M Φ → ws.length = ps.length)
    (hcd0 : ∀ (oc : Value) (od : Option Addr) (osl : Array (Option Value)) (dV kV doc pm cdv ct : Value) (an : Option Addr), K.lookup f = some ⟨oc, od, .func (PySem.W.fnOf x qual params body scope dV kV doc pm an cdv ct), osl⟩ → PySem.W.codeIn K cdv qual = true → Cd cdv)
    (hb : ∀ (cdv : Value) (A : Around) (outer : List Env) (s : Shared) (H : Hp) (E : XK) (ws : List W) (Φ : W → Mem → Prop) (M : Mem), Room k (cx0 P w K mg base N qual scope f cdv A outer s H E).A → Gd (cx0 P w K mg base N qual scope f cdv A outer s H E).A → Cd cdv → C ws M Φ →
      Sv (cx0 P w K mg base N qual scope f cdv A outer s H E) H (ads M) body { nx := fun _ M1 => ∃ Ml M2, M1 = Ml ++ M2 ∧ ads M2 = ads M ∧ Φ (.dat .none) M2, rt := fun r M1 => ∃ Ml M2, M1 = Ml ++ M2 ∧ ads M2 = ads M ∧ Φ r M2 } (startW N ws) M) :
    FnE P w K mg base (k + 1) f fd ps C := by
  refine fnG_ofC (Cd := Cd) F S (fun vs H Q E h => ?_) hcd0 fun cdv A outer s H vs Q E hr hg hcd h => ?_
  · obtain ⟨M, ws, r, m, sw, hC, _⟩ := h
    rw [sw.length]
    exact len ws M r hC
  · obtain ⟨M, ws, Φ, m, sw, hC, q⟩ := h
    have sub : ∀ {H' : Hp} {Ml M2 : Mem}, Mv H' H' (ads (Ml ++ M2)) (ads M2) := fun {H' Ml M2} => Mv.sub fun b hb => by
      unfold ads at hb ⊢
      rw [List.map_append]
      exact List.mem_append_right _ hb
    have dropM : ∀ {H' : Hp} {Ml M2 : Mem}, MemOk K H' (Ml ++ M2) → MemOk K H' M2 := fun {H' Ml M2} h => by
      induction Ml with
      | nil => exact h
      | cons p Ml ih => exact ih (MemOk.drop (p := p.1) (o := p.2) h)
    refine ⟨_, PSs.nox p_rss, hb cdv A outer s H E ws Φ M hr hg hcd hC (L2.start N vs) H _ (start_ok m sw) (Bs.refl H M) ⟨?_, ?_, fun _ _ _ _ z => z.elim, fun _ _ _ _ z => z.elim⟩⟩
    · rintro ρ1 M1 σ1 H1 ⟨Ml, M2, rfl, ea, h2⟩ ok1 bs1
      exact q _ M2 _ H1 h2 ea bs1.ext (dropM ok1.mem) .non
    · rintro r1 M1 v H1 ⟨Ml, M2, rfl, ea, h2⟩ m1 s1 bs1
      refine q _ M2 _ H1 h2 ea bs1.ext (dropM m1) ?_
      rw [← ea]
      exact s1.mv sub
end
/-- a def that makes lambdas: its code object is told -/
theorem DefE.ofC {P : Program} {w : World} {K : PySem.W.Frag} {mg : Str → Option Value} {base : Heap} {k : Nat} {ps N : List Str} {x : Str} {st : Stmt} {C : Ct} (F : Here K mg x st) (g : mg x = some (.ref (He.ga K x))) (S : FnScope N ps (defScope st)) (hb : BindF x st ps) (len : ∀ ws M Φ, C ws M Φ → ws.length = ps.length)
    (body : ∀ (f : Addr) (cdv : Value) (A : Around) (outer : List Env) (s : Shared) (H : Hp) (E : XK) (ws : List W) (Φ : W → Mem → Prop) (M : Mem), Room k (cx0 P w K mg base N x (defScope st) f cdv A outer s H E).A → Gd (cx0 P w K mg base N x (defScope st) f cdv A outer s H E).A → cdv = .ref (He.cT K (x, none)).1 → C ws M Φ →
      Sv (cx0 P w K mg base N x (defScope st) f cdv A outer s H E) H (ads M) (defBody st) { nx := fun _ M1 => ∃ Ml M2, M1 = Ml ++ M2 ∧ ads M2 = ads M ∧ Φ (.dat .none) M2, rt := fun r M1 => ∃ Ml M2, M1 = Ml ++ M2 ∧ ads M2 = ads M ∧ Φ r M2 } (startW N ws) M) :
    DefE P w K mg base (k + 1) x st ps C := by
  obtain ⟨f, fd, FD, hm⟩ := F
  have ef : f = He.ga K x := by
    rw [hm] at g
    exact Value.ref.inj (Option.some.inj g)
  refine ⟨f, fd, fnE_ofC (Cd := fun cdv => cdv = .ref (He.cT K (x, none)).1) FD S len (fun oc od osl dV kV doc pm cdv ct an lk hc => ?_) (body f), hm, FD.kp, FD.bindsN hb, FD⟩
  obtain ⟨c, rfl⟩ := He.codeIn_ref hc
  have e := He.codeOf_eq (K := K) (p := (x, none)) (c := c) (by rw [show He.fAd K (x, none) = He.ga K x from rfl, ← ef]; exact lk) rfl
  show Value.ref c = Value.ref (He.codeOf K (x, none))
  rw [e]

/-- a law's def, from its promise; cs: code objects whose tables may grow -/
theorem lawT {P : Program} {w : World} {K : PySem.W.Frag} {mg mb : Str → Option Value} {CX : CXT} {k : Nat} {fa a : Addr} {cs : List (Addr × Addr)} {fd : FuncData} {x : Str} {sp : Sp} {s₁ : Shared} {vs : List Value} {ns : List Int}
    (KX : K.In s₁.heap) (hns : s₁.heap.Ns mainGlobals mg) (hb : s₁.heap.Ns builtinsNs mb) (hbb : ∀ x : Str, x ≠ "__name__" → mb x = bootBuiltins x) (hlim : s₁.heap.NoLimit) (hg : s₁.gens = #[])
    (hT : ∀ p ∈ cs, s₁.heap.get? p.2 = some { cls := .none, data := .fields #[] }) (nT : ∀ p ∈ cs, K.lookup p.2 = none) (hC : ∀ p ∈ cs, PySem.W.CodeHd s₁.heap p.1 p.2)
    (hbm : ∃ (bm : Addr) (ob : Obj), mg "__builtins__" = some (.ref bm) ∧ bm ≠ builtinsNs ∧ s₁.heap.get? bm = some ob ∧ ob.cls = .type "module" ∧ ob.dict = some builtinsNs ∧ ob.data = .plain)
    (ha : s₁.heap.get? a = some { cls := .type "list", data := .seq vs.toArray }) (hi : IntsAre vs ns) (hl : ns.length ≤ sizeLine) (hr : Room k callerA)
    (F : ∀ base : Heap, K.In base → base.Ns mainGlobals mg → (∀ p ∈ cs, LamX.TabB base mg p.1 p.2) → FnG P w K mg base CX k fa fd [x] sp) (hbind : ∀ (s : Shared) (u : Value), BindsTo s fd ⟨[u], []⟩ [(x, u)])
    (hsp : ∀ H : Hp, (∀ p ∈ cs, H p.2 = some (.tbl #[])) → (∀ p ∈ cs, p.2 ≠ a) → SqL K H a (ns.map V.int) → sp [.ref a] H (fun v _ => v = .bl true) fun _ _ _ => False)
    (hCX : ∀ H e s', CX [] H s₁ (fun _ _ _ => False) e s' → False) :
    codeAny (model P w) callerA (.call (.ref fa) ⟨[.ref a], []⟩) (fun r s' => r = .ok (.ret (.bool true)) ∧ OldK s₁.heap s'.heap ∧ s'.os = s₁.os ∧ AllBare s'.gens) s₁ := by
  have rv := vals_ints hi
  have lenV := hi.length
  have tabAt : ∀ b ∈ cs.map (·.2), s₁.heap.get? b = some { cls := .none, data := .fields #[] } := fun b hm => by
    obtain ⟨p, hp, rfl⟩ := List.mem_map.mp hm
    exact hT p hp
  have inT : ∀ p ∈ cs, p.2 ∈ cs.map (·.2) := fun p hp => List.mem_map.mpr ⟨p, hp, rfl⟩
  have notA : ∀ p ∈ cs, p.2 ≠ a := fun p hp z => by
    have q := hT p hp
    rw [z, ha] at q
    exact absurd (congrArg Obj.data (Option.some.inj q)) (fun y => by cases (show Data.seq vs.toArray _ = Data.fields #[] from y))
  have aOut : a ∉ cs.map (·.2) := fun z => by
    obtain ⟨p, hp, e⟩ := List.mem_map.mp z
    exact notA p hp e
  suffices core : ∀ H : Hp, (∀ p ∈ cs, H p.2 = some (.tbl #[])) → (∀ b, H b = none ∨ b ∈ cs.map (·.2) ∨ ∃ o xs, H b = some (.frz o (.lst xs))) → SqL K H a (ns.map V.int) → HOk P w H s₁.heap → (∀ b, H b ≠ none → b = a ∨ b ∈ cs.map (·.2)) → (H a ≠ none → K.lookup a = none) →
      codeAny (model P w) callerA (.call (.ref fa) ⟨[.ref a], []⟩) (fun r s' => r = .ok (.ret (.bool true)) ∧ OldK s₁.heap s'.heap ∧ s'.os = s₁.os ∧ AllBare s'.gens) s₁ by
    cases hk : K.lookup a with
    | some o =>
      have e := KX a o hk
      rw [ha] at e
      cases e
      let H0 : Hp := fun b => if b ∈ cs.map (·.2) then some (.tbl #[]) else none
      have in_ : ∀ b, b ∈ cs.map (·.2) → H0 b = some (.tbl #[]) := fun b hm => if_pos hm
      have out : ∀ b, b ∉ cs.map (·.2) → H0 b = none := fun b hm => if_neg hm
      refine core H0 (fun p hp => in_ _ (inT p hp)) (fun b => ?_) (.inr ⟨_, vs.toArray, _, hk, rfl, rfl, rfl, by rw [List.size_toArray, lenV]; exact hl, by simpa using rv⟩) (fun b u z => ?_) (fun b z => ?_) fun z => absurd (out a aOut) z
      · by_cases hm : b ∈ cs.map (·.2)
        · exact .inr (.inl hm)
        · exact .inl (out b hm)
      · by_cases hm : b ∈ cs.map (·.2)
        · rw [in_ b hm] at z
          cases z
          exact tabAt b hm
        · rw [out b hm] at z
          cases z
      · by_cases hm : b ∈ cs.map (·.2)
        · exact .inr hm
        · exact absurd (out b hm) z
    | none =>
      let H0 : Hp := fun b => if b = a then some (.frz { cls := .type "list", data := .seq vs.toArray } (.lst (ns.map V.int))) else if b ∈ cs.map (·.2) then some (.tbl #[]) else none
      have atA : H0 a = some (.frz { cls := .type "list", data := .seq vs.toArray } (.lst (ns.map V.int))) := if_pos rfl
      have in_ : ∀ b, b ∈ cs.map (·.2) → H0 b = some (.tbl #[]) := fun b hm => (if_neg (show ¬ b = a from fun z => aOut (z ▸ hm))).trans (if_pos hm)
      have out : ∀ b, b ≠ a → b ∉ cs.map (·.2) → H0 b = none := fun b hn hm => (if_neg hn).trans (if_neg hm)
      refine core H0 (fun p hp => in_ _ (inT p hp)) (fun b => ?_) (.inl (.inr ⟨_, atA⟩)) (fun b u z => ?_) (fun b z => ?_) fun _ => hk
      · by_cases h1 : b = a
        · exact .inr (.inr ⟨_, _, h1 ▸ atA⟩)
        · by_cases hm : b ∈ cs.map (·.2)
          · exact .inr (.inl hm)
          · exact .inl (out b h1 hm)
      · by_cases h1 : b = a
        · subst h1
          rw [atA] at z
          cases z
          exact ⟨ha, by rw [List.length_map]; exact hl, vs, _, rv, ha⟩
        · by_cases hm : b ∈ cs.map (·.2)
          · rw [in_ b hm] at z
            cases z
            exact tabAt b hm
          · rw [out b h1 hm] at z
            cases z
      · by_cases h1 : b = a
        · exact .inl h1
        · by_cases hm : b ∈ cs.map (·.2)
          · exact .inr hm
          · exact absurd (out b h1 hm) z
  intro H hH hO hS hok hA hK
  have free : ∀ {b : Addr} {o : Obj}, s₁.heap.get? b = some o → (∀ vs n, o.data ≠ .seq vs n) → o.data ≠ .fields #[] → H b = none := fun {b o} e h1 h2 => by
    cases q : H b with
    | none => rfl
    | some u =>
      rcases hA b (by rw [q]; simp) with e' | e'
      · rw [e', ha] at e
        cases e
        exact (h1 _ _ rfl).elim
      · rw [tabAt b e'] at e
        cases e
        exact (h2 rfl).elim
  have ns_ : ∀ {b : Addr} {m : Str → Option Value}, s₁.heap.Ns b m → (hidT s₁.heap H).Ns b m := by
    rintro b m ⟨o, es, ep, e, d, r⟩
    exact ⟨o, es, ep, hidT_get e (free e (fun vs n z => by rw [d] at z; cases z) fun z => by rw [d] at z; cases z), d, r⟩
  have hKb : K.In (hidT s₁.heap H) := fun b o e => hidT_get (KX b o e) (by
    cases q : H b with
    | none => rfl
    | some u =>
      rcases hA b (by rw [q]; simp) with e' | e'
      · rw [e'] at e q
        rw [hK (by rw [q]; simp)] at e
        cases e
      · obtain ⟨p, hp, rfl⟩ := List.mem_map.mp e'
        rw [nT p hp] at e
        cases e)
  have hM : Mod K mg (hidT s₁.heap H) := by
    obtain ⟨mc, h1, h2⟩ := hlim
    exact ⟨hKb, ns_ hns, ⟨mb, ns_ hb, hbb⟩, mc, ns_ h1, h2⟩
  have TB : ∀ p ∈ cs, LamX.TabB (hidT s₁.heap H) mg p.1 p.2 := fun p hp => by
    have tp := hT p hp
    obtain ⟨bm, ob, b1, b2, b3, b4, b5, b6⟩ := hbm
    refine ⟨?_, ⟨bm, ob, b1, b2, fun q => ?_, fun q => ?_, hidT_get b3 (free b3 (fun vs n z => by rw [b6] at z; cases z) fun z => by rw [b6] at z; cases z), b4, b5, b6⟩, fun z => ?_⟩
    · obtain ⟨o, us, file, tf, flags, tg, inF, text, tt, e1, r1, r2, r3, r4, r5, r6, r7, r8, hne⟩ := hC p hp
      refine ⟨o, us, file, tf, flags, tg, inF, text, tt, hidT_get e1 (free e1 (fun vs n z => ?_) fun z => ?_), r1, r2, r3, r4, r5, r6, r7, r8, hne⟩
      · rw [r2] at z
        cases z
      · rw [r2] at z
        cases z
        simp at r3
    · obtain ⟨o, es, ep, e, hd, _⟩ := hns
      rw [q, e] at b3
      cases b3
      rw [hd] at b6
      cases b6
    · rw [q, tp] at b3
      cases b3
      cases b6
    · obtain ⟨o, es, ep, e, hd, _⟩ := hns
      rw [z, tp] at e
      cases e
      cases hd
  have e0 : Env0 P w K mg (hidT s₁.heap H) callerA [] s₁ H :=
    ⟨rfl, hM, fun b o e => of_hidT e, Nat.le_of_eq (hidT_size _ _), trivial, fun b hb => absurd (show b ∈ ([] : List Addr) from hb) (by simp), hok, .of_eq hg⟩
  refine codeAny_mono ((F _ hKb (ns_ hns) TB).run callerA [] s₁ H ⟨[.ref a], []⟩ [.ref a] [.ref a] _ _ hr rfl e0 (hbind s₁ (.ref a)) (.cons rfl .nil) (hsp H hH notA hS)) fun r s' h => ?_
  match r, h with
  | .error e, h => exact (hCX H e s' h).elim
  | .ok .next, h => exact h.elim
  | .ok .brk, h => exact h.elim
  | .ok .cont, h => exact h.elim
  | .ok (.ret u), ⟨v, H', os, bare, un, hok', r', q⟩ =>
    have q' : v = .bl true := q
    subst q'
    obtain rfl : u = Value.bool true := r'
    have same : ∀ b o, b ∉ cs.map (·.2) → s₁.heap.get? b = some o → s'.heap.get? b = some o := fun b o nb e => by
      cases q : H b with
      | none => exact un.keep b o e q (fun z => absurd (show b ∈ ([] : List Addr) from z) (by simp)) (by simp)
      | some u =>
        rcases hO b with z | z | ⟨ob, xs, z⟩
        · rw [q] at z; cases z
        · exact absurd z nb
        · have z2 := un.frzs b ob _ z
          obtain ⟨e1, _⟩ := hok b _ z
          obtain ⟨e2, _⟩ := hok' b _ z2
          rw [e] at e1
          cases e1
          exact e2
    have more : ∀ p ∈ cs, ∃ m : Array Value, s'.heap.get? p.2 = some { cls := .none, data := .fields m } := fun p hp => by
      obtain ⟨m, z⟩ := un.tbls p.2 #[] (hH p hp)
      exact ⟨_, hok' p.2 _ z⟩
    refine ⟨rfl, ⟨fun b o e => ?_, fun b o e => ?_⟩, os, bare⟩
    · by_cases hm : b ∈ cs.map (·.2)
      · obtain ⟨p, hp, rfl⟩ := List.mem_map.mp hm
        obtain ⟨m, z⟩ := more p hp
        rw [hT p hp] at e
        cases e
        exact .inr (.inl ⟨((hC p hp).tab (hT p hp)).isCodeTable, rfl, #[], m, rfl, by rw [Array.empty_append]; exact z⟩)
      · exact .inl (same b o hm e)
    · by_cases hm : b ∈ cs.map (·.2)
      · obtain ⟨p, hp, rfl⟩ := List.mem_map.mp hm
        obtain ⟨m, z⟩ := more p hp
        exact ⟨_, z⟩
      · exact ⟨o, same b o hm e⟩
theorem walkT {l : PySem.W.OpenLaw} {n k : Nat} {q : Program} {loose : List Str} {XP : (Str → Option Value) → Heap → Prop} {YP : World → Heap → Prop} {d : DefRec} {CX : CXT} {x : Str}
    (hn : l.most = some n) (hn2 : n ≤ sizeLine) (hdf : d.params.defaults = []) (hr : Room k callerA)
    (F : ∀ (w : World) (mg : Str → Option Value) (fa : Addr) (h : Heap), YP w h → h.Ns mainGlobals mg → mg d.name = some (.ref fa) →
      ∃ (K : PySem.W.Frag) (fd : FuncData) (cs : List (Addr × Addr)) (sp : Sp), K.In h ∧ (∀ p ∈ cs, h.get? p.2 = some { cls := .none, data := .fields #[] }) ∧ (∀ p ∈ cs, K.lookup p.2 = none) ∧ (∀ p ∈ cs, PySem.W.CodeHd h p.1 p.2) ∧ (∀ (s : Shared) (u : Value), BindsTo s fd ⟨[u], []⟩ [(x, u)]) ∧
        (∀ (H : Hp) (a : Addr) (ns : List Int), ns.length ≤ n → (∀ p ∈ cs, H p.2 = some (.tbl #[])) → (∀ p ∈ cs, p.2 ≠ a) → SqL K H a (ns.map V.int) → sp [.ref a] H (fun v _ => v = .bl true) fun _ _ _ => False) ∧
        ∀ base : Heap, K.In base → base.Ns mainGlobals mg → (∀ p ∈ cs, LamX.TabB base mg p.1 p.2) → FnG l.prog w K mg base CX k fa fd [x] sp)
    (hCX : ∀ (H : Hp) (s : Shared) (e : Value) (s' : Shared), CX [] H s (fun _ _ _ => False) e s' → False) :
    PySem.W.WalkO q loose XP YP l.row.toRowW d [] (fun f vs => PySem.call f vs) := by
  apply Att.attach_call hn hdf
  intro w s₀ s₁ mg mb fa o pm cd doc a vs ns G Y ho hd hcd hmg hobj hints hlen hg
  obtain ⟨K, fd, cs, sp, KX, hT, nT, hC, hb, hsp, hF⟩ := F w mg fa _ Y G.T.g hmg
  exact lawT KX G.T.g G.T.b G.T.builtins G.T.nolimit hg hT nT hC G.T.bmain hobj hints (Nat.le_trans hlen hn2) hr hF hb (fun H h1 h2 hS => hsp H a ns hlen h1 h2 hS) (fun H e s' => hCX H s₁ e s')
end XB

/-! QI: what the head tells of the errors. -/
namespace XB
open PySem PySem.Spec PyProof.Rows L2
open PySem.W (Frag)

/-! ### the written classes -/
/-- a class's first def -/
def clsDef : Stmt → Stmt
  | .ClassDef (body := s :: _) .. => s
  | s => s
def errPos (b : List Stmt) (i : Nat) : Pos := match b with
  | [.Expr (.Call (.Attribute (.Name _ q0) _ q1) [.Name _ q2, .JoinedStr [.FormattedValue (.Name _ q3) _ _ q4, .Constant _ _ q5] q6] _ q7) q8, .Assign [.Attribute (.Name _ q9) _ q10] (.Name _ q11) q12] =>
    [q0, q1, q2, q3, q4, q5, q6, q7, q8, q9, q10, q11, q12].getD i ⟨0, 0, 0, 0⟩
  | _ => ⟨0, 0, 0, 0⟩

/-! ### tests of the written part -/
def oexB (K : Frag) (C : Addr) : Bool := match K.lookup C with
  | some ⟨.type c, _, .cls cd, sl⟩ => decide (c = "type") && (match cd.mro, sl.toList with
    | .ref C' :: bm, [_, _, _, _, some (.builtin n), _] => C' == C && (decide (n = "ValueError.__new__") && (!cd.hasDel && (cd.hasDict && HandSPX.refsVE bm)))
    | _, _ => false)
  | _ => false
theorem oexB_ok {K : Frag} {C : Addr} (q : oexB K C = true) : ∃ nm q N bs bm sn sub ab col dd k0 k1 k2 k3 k5, K.lookup C = some (excClassObj nm q C N bs bm true sn sub ab col dd k0 k1 k2 k3 k5 "ValueError.__new__") ∧ HandSPX.refsVE bm = true := by
  unfold oexB at q
  split at q
  · rename_i c dd cd sl ho
    obtain ⟨hc, q1⟩ := He.ba q
    clear q
    have ec := of_decide_eq_true hc
    subst ec
    split at q1
    · rename_i C' bm k0 k1 k2 k3 n k5 hm hs
      obtain ⟨h1, q2⟩ := He.ba q1
      obtain ⟨h2, q3⟩ := He.ba q2
      obtain ⟨h3, q4⟩ := He.ba q3
      obtain ⟨h4, h5⟩ := He.ba q4
      clear q1 q2 q3 q4
      have e1 := beq_iff_eq.mp h1
      have e2 := of_decide_eq_true h2
      subst e1 e2
      obtain ⟨nm, bs, mro, ns, qn, hd, sn, sub, ab, col, del⟩ := cd
      dsimp only at hm h3 h4
      subst hm h4
      have hdel : del = false := by
        cases del with
        | false => rfl
        | true => cases h3
      subst hdel
      have hsl : sl = #[k0, k1, k2, k3, some (.builtin "ValueError.__new__"), k5] := by
        obtain ⟨l⟩ := sl
        have hs : l = _ := hs
        rw [hs]
      subst hsl
      exact ⟨nm, qn, ns, bs, bm, sn, sub, ab, col, dd, k0, k1, k2, k3, k5, ho, h5⟩
    · cases q1
  · cases q
/-- an error's class C over B, its __init__ at fI -/
def overB (K : Frag) (B C : Addr) : Bool :=
  oexB K C && (He.eqO (PySem.W.findIn K (.ref C) "__setattr__") (some (some (.builtin "object.__setattr__"))) && (decide (PySem.W.subIn K (.ref C) (.type "BaseException") = some true) && (decide (PySem.W.typeIn K (.ref C) = some (.type "type")) && (PySem.W.keepIn K (.ref C) &&
  (decide (PySem.W.mroIn K C (.ref B) = some true) && (decide (PySem.W.subIn K (.ref C) (.type "ValueError") = some true) && (decide (PySem.W.ks_superIn K C B "__init__" = some (some (.builtin "ValueError.__init__"))) && (He.eqO (PySem.W.findIn K (.ref C) "value") (some none) && (xfB K C &&
  (He.eqO (PySem.W.findIn K (.ref C) "__class__") (some (some (.builtin "object.__class__"))) && (decide (PySem.W.mroIn K C (.type "object") = some true) && (decide (PySem.W.exmOne K (.ref C) (.ref B) = some true) && decide (PySem.W.kitOne K (.ref C) (.type "ValueError") = some true)))))))))))))
structure OverF (K : Frag) (B C : Addr) : Prop where
  ov : OverB K B C
  xf : XfC K C
  cl : PySem.W.findIn K (.ref C) "__class__" = some (some (.builtin "object.__class__"))
  ob : PySem.W.mroIn K C (.type "object") = some true
  ex : PySem.W.exmOne K (.ref C) (.ref B) = some true
  kv : PySem.W.kitOne K (.ref C) (.type "ValueError") = some true
theorem overB_ok {K : Frag} {B C : Addr} (q : overB K B C = true) : OverF K B C := by
  obtain ⟨h1, q⟩ := He.ba q
  obtain ⟨h2, q⟩ := He.ba q
  obtain ⟨h3, q⟩ := He.ba q
  obtain ⟨h4, q⟩ := He.ba q
  obtain ⟨h5, q⟩ := He.ba q
  obtain ⟨h6, q⟩ := He.ba q
  obtain ⟨h7, q⟩ := He.ba q
  obtain ⟨h8, q⟩ := He.ba q
  obtain ⟨h9, q⟩ := He.ba q
  obtain ⟨h10, q⟩ := He.ba q
  obtain ⟨h11, q⟩ := He.ba q
  obtain ⟨h12, q⟩ := He.ba q
  obtain ⟨h13, h14⟩ := He.ba q
  exact ⟨⟨⟨oexB_ok h1, He.eqO_ok h2, of_decide_eq_true h3, of_decide_eq_true h4, h5⟩, of_decide_eq_true h6, of_decide_eq_true h7, of_decide_eq_true h8, He.eqO_ok h9⟩, xfB_ok h10, He.eqO_ok h11, of_decide_eq_true h12, of_decide_eq_true h13, of_decide_eq_true h14⟩
/-- its def -/
def iniAt (K : Frag) (x : Str) : Addr := if x ∈ bareN then He.ma K (He.ga K "BankError") "__init__" else He.ma K (He.ga K x) "__init__"
def iniB (K : Frag) (x : Str) : Bool := He.eqO (PySem.W.nsIn K mainGlobals x) (some (some (.ref (He.ga K x)))) && (He.eqO (PySem.W.findIn K (.ref (He.ga K x)) "__init__") (some (some (.ref (iniAt K x)))) && decide (PySem.W.typeIn K (.ref (iniAt K x)) = some (.type "function")))
/-- all of the errors xs over BankError; of two of them neither is the other -/
def errsB (K : Frag) (xs : List Str) : Bool :=
  (xs.all fun x => overB K (He.ga K "BankError") (He.ga K x) && iniB K x) && ((xs.all fun x => xs.all fun y => decide (PySem.W.kitOne K (.ref (He.ga K x)) (.ref (He.ga K y)) = some (decide (x = y))) && decide (PySem.W.exmOne K (.ref (He.ga K x)) (.ref (He.ga K y)) = some (decide (x = y)))) &&
  (decide (PySem.W.specialIn K (.builtin "object.__class__") "__get__" = some (some (.builtin "getset_descriptor.__get__"))) && decide (PySem.W.takesIn K (.builtin "object.__class__") = some true)))
/-! ### the base error -/
abbrev BaseW : Type := Str × Str × Arguments × FuncBody × Scope × Addr × List Str × Addr
def baseW (K : Frag) : Option BaseW := (He.fnW K ("BankError", some "__init__")).map fun q => (q.1, q.2.1, q.2.2.1, q.2.2.2.1, q.2.2.2.2.1, q.2.2.2.2.2.1, q.2.2.2.2.2.2.1.map (·.1), q.2.2.2.2.2.2.2)
def baseV (bl : Nat) (qual : Str) (params : Arguments) : Option BaseW := some ("__init__", qual, params, .stmts (baseBody bl), baseScope, mainGlobals, ["__class__"], builtinsNs)
def baseB (K : Frag) (file : Str) : Bool :=
  let B := He.ga K "BankError"
  let fB := He.ma K B "__init__"
  (PySem.W.clsIn K B).isSome && (PySem.W.readsIn K B (.type "type") && (He.eqO (PySem.W.specialIn K (.ref B) "__getattribute__") (some (some (.builtin "type.__getattribute__"))) && ((match PySem.W.findCls K (.ref B) (.type "type") "__init__" with
    | some (.val (.ref f)) => f == fB
    | _ => false) && (PySem.W.keepIn K (.ref fB) && (He.eqO (PySem.W.nsIn K mainGlobals "BankError") (some (some (.ref B))) && (He.eqO (PySem.W.nsIn K cStatics "thirdparty.any") (some none) && (He.eqO (PySem.W.nsIn K mainGlobals "super") (some none) && (He.dictB K sysModules && (match K.lookup fB with
    | some ⟨_, _, .func fd, _⟩ => (PySem.W.codeIn K fd.code fd.qualname && He.dflB K fd.defaults [.non]) && ((match fd.code with
      | .ref c => (match K.lookup c with
        | some ⟨_, _, .fields vs, _⟩ => (match (vs[2]? : Option Value) with
          | some (Value.str f _) => file == f
          | _ => false)
        | _ => false)
      | _ => false) && (match fd.closure with
      | [(_, cc)] => (match K.lookup cc with
        | some ⟨_, _, .cell (some (.ref B')), _⟩ => B' == B
        | _ => false)
      | _ => false))
    | _ => false)))))))))
theorem baseB_ok {P : Program} {K : Frag} {h : Heap} {mg : Str → Option Value} {bl : Nat} {qual : Str} {params : Arguments} {file : Str} (X : K.In h) (G : h.Ns mainGlobals mg) (q : baseB K file = true) (w : baseW K = baseV bl qual params) (hbl : bl = 5 ∨ bl = 8) (hfile : P.main.file = file) (top : (P.main.scope.names.lookup ("super" : Str)).isSome = false)
    (har : ∃ ar, (params.posonlyargs ++ params.args).head? = some ar ∧ ar.arg = "self")
    (hbind : ∀ (T : Addr) (kV doc pm ct cdv : Value) (an : Option Addr) (cc : Addr) (s : Shared) (o : Obj) (u : Value) (n : Nat) (x v : Value), s.heap.get? T = some o → o.data = .seq #[u] n → BindsTo s (PySem.W.ksFn "__init__" qual params (baseBody bl) baseScope (.ref T) kV doc pm an cdv ct cc) ⟨[x, v], []⟩ [("self", x), ("value", v)])
    (hbind1 : ∀ (T : Addr) (kV doc pm ct cdv : Value) (an : Option Addr) (cc : Addr) (s : Shared) (o : Obj) (n : Nat) (x : Value), s.heap.get? T = some o → o.data = .seq #[.none] n → BindsTo s (PySem.W.ksFn "__init__" qual params (baseBody bl) baseScope (.ref T) kV doc pm an cdv ct cc) ⟨[x], []⟩ [("self", x), ("value", .none)]) :
    BaseAt P K mg (He.ga K "BankError") (He.ma K (He.ga K "BankError") "__init__") ∧ SysM K := by
  obtain ⟨h1, q⟩ := He.ba q
  obtain ⟨h2, q⟩ := He.ba q
  obtain ⟨h3, q⟩ := He.ba q
  obtain ⟨h4, q⟩ := He.ba q
  obtain ⟨h5, q⟩ := He.ba q
  obtain ⟨h6, q⟩ := He.ba q
  obtain ⟨h7, q⟩ := He.ba q
  obtain ⟨h8, q⟩ := He.ba q
  obtain ⟨h9, h10⟩ := He.ba q
  have gB := PySem.W.mg_of X G (He.eqO_ok h6)
  have sup := PySem.W.mg_none_of X G (He.eqO_ok h8)
  obtain ⟨es, n, sl, hs⟩ := He.dictB_ok h9
  refine ⟨⟨⟨gB, ?_, ?_, He.eqO_ok h7, sup, top⟩, h2, He.eqO_ok h3, ?_, h5⟩, ⟨_, hs, rfl⟩⟩
  · split at h10
    · rename_i oc od fd osl ho
      obtain ⟨c1a, qa⟩ := He.ba h10
      obtain ⟨c1, c0⟩ := He.ba c1a
      obtain ⟨c2, c3⟩ := He.ba qa
      clear c1a qa h10
      have dfl := He.dflB_ok c0
      clear c0
      obtain ⟨n1, n2, n3, n4, n5, n6, n7, n8, n9, n10, n11, n12, n13, n14, n15⟩ := fd
      unfold baseW He.fnW at w
      rw [show He.fAd K ("BankError", some "__init__") = He.ma K (He.ga K "BankError") "__init__" from rfl, ho] at w
      have e2 : (some (n1, n2, n3, n4, n5, n6, n7.map (·.1), n15) : Option BaseW) = baseV bl qual params := w
      unfold baseV at e2
      simp only [Option.some.injEq, Prod.mk.injEq] at e2
      obtain ⟨g1, g2, g3, g4, g5, g6, g7, g8⟩ := e2
      dsimp only at c1 c2 c3 dfl
      subst g1 g2 g3 g4 g5 g6 g8
      split at c3
      · rename_i y cc
        have gy : y = "__class__" := by simpa using g7
        subst gy
        split at c2
        · rename_i cda
          split at c2
          · rename_i ccl cdd vs ccs hcda
            split at c2
            · rename_i f tf hvs
              split at c3
              · rename_i cl cld B' csl hcc
                have eB := beq_iff_eq.mp c3
                rw [eB] at hcc
                refine ⟨bl, hbl, oc, od, osl, n2, n3, n8, n9, n10, n11, n14, n12, cda, cc, ho, c1, har, fun s x v hX => ?_, fun s x hX => ?_, ⟨ccl, cdd, vs, ccs, f, tf, hcda, hvs, ?_⟩, ⟨cl, cld, csl, hcc⟩⟩
                · rcases dfl with ⟨z, _⟩ | ⟨_, T, o, its, m, rfl, lT, oT, rT⟩
                  · cases z
                  · cases rT with
                    | cons r1 r2 =>
                      cases r2
                      exact hbind T _ _ _ _ _ _ _ s o _ m x v (hX _ _ lT) oT
                · rcases dfl with ⟨z, _⟩ | ⟨_, T, o, its, m, rfl, lT, oT, rT⟩
                  · cases z
                  · cases rT with
                    | cons r1 r2 =>
                      cases r2
                      cases r1
                      exact hbind1 T _ _ _ _ _ _ _ s o m x (hX _ _ lT) oT
                · rw [hfile]
                  exact c2
              · cases c3
            · cases c2
          · cases c2
        · cases c2
      · cases c3
    · cases h10
  · exact Option.isSome_iff_exists.mp h1
  · split at h4
    · rename_i f hf
      rw [hf, beq_iff_eq.mp h4]
    · cases h4
end XB

/-! QJ: the head's Hook for a law with errors and lambdas; its end. -/
namespace XB
open PySem PySem.Spec PyProof.Rows L2
open PySem.W (Frag)

/-! ### the Hook -/
abbrev AlZ : Type := He.AlX × Option BaseW
def asZ (g : Addr → Option Obj) (n : Nat) : List Addr := sysModules :: cStatics :: He.asD g n
def obsK (fa : List He.Fa) (fn : List He.DefD) (tf : List He.Defn) (ex : Frag → Bool) (g : Addr → Option Obj) (K : Frag) : AlZ := ((He.obsT fa fn [] K, ex K && He.tabsB g tf K), baseW K)
def obsZ (n : Nat) (fa : List He.Fa) (fn : List He.DefD) (tf : List He.Defn) (ex : Frag → Bool) (g : Addr → Option Obj) : AlZ := obsK fa fn tf ex g (He.frT g (asZ g n))
def valZ (fn : List He.DefD) (bl : Nat) (qual : Str) (params : Arguments) (w : World) : AlZ := ((He.valT fn [] w, true), baseV bl qual params)
structure SaysZ (fa : List He.Fa) (fn : List He.DefD) (tf : List He.Defn) (ex : Frag → Bool) (bl : Nat) (qual : Str) (params : Arguments) (w : World) (h : Heap) (K : Frag) : Prop where
  d : He.SaysD fa fn K
  more : ex K = true
  tab : ∀ p ∈ tf, PySem.W.codeHdIn K (He.cT K p).1 (He.cT K p).2 = true ∧ K.lookup (He.cT K p).2 = none ∧ h.get? (He.cT K p).2 = some { cls := .none, data := .fields #[] }
  base : baseW K = baseV bl qual params
theorem saysZ_of {n : Nat} {fa : List He.Fa} {fn : List He.DefD} {tf : List He.Defn} {ex : Frag → Bool} {bl : Nat} {qual : Str} {params : Arguments} {w : World} {h : Heap} (e : obsZ n fa fn tf ex h.get? = valZ fn bl qual params w) : SaysZ fa fn tf ex bl qual params w h (He.frT h.get? (asZ h.get? n)) := by
  generalize hK : He.frT h.get? (asZ h.get? n) = K
  unfold obsZ at e
  rw [hK] at e
  have e1 : He.obsT fa fn [] K = He.valT fn [] w := congrArg (fun z : AlZ => z.1.1) e
  have e2 : (ex K && He.tabsB h.get? tf K) = true := congrArg (fun z : AlZ => z.1.2) e
  obtain ⟨h1, h2⟩ := He.ba e2
  refine ⟨congrArg (fun z : He.AlT => z.1) e1, h1, fun p hp => ?_, congrArg (fun z : AlZ => z.2) e⟩
  obtain ⟨h3, h4⟩ := He.ba (List.all_eq_true.mp h2 p hp)
  cases q : h.get? (He.cT K p).2 with
  | none =>
    rw [q] at h4
    cases h4
  | some o =>
    rw [q] at h4
    refine ⟨h3, ?_, by rw [He.emptyTab_eq h4]⟩
    have z := He.frT_none (as := asZ h.get? n) q h4
    rw [hK] at z
    exact z
/-- what is tested of the written part -/
def exZ (errs : List Str) (tf : List He.Defn) (file : Str) (K : Frag) : Bool := baseB K file && (errsB K errs && decide ((tf.map fun p => (He.cT K p).2).Nodup))

/-! ### the errors, in a law -/
def lamQ (x : Str) : Str := x ++ ".<locals>." ++ "<lambda>"
structure EnvX (P : Program) (K : Frag) (mg : Str → Option Value) (errs : List Str) (tf : List He.Defn) : Prop where
  base : BaseAt P K mg (He.ga K "BankError") (He.ma K (He.ga K "BankError") "__init__")
  sys : SysM K
  er : ∀ x ∈ errs, ∀ (w : World) (b : Heap), ErrC P w K mg b (He.ga K "BankError") x (He.ga K x)
  is : ∀ x ∈ errs, ExcC K (He.ga K x)
  kit : ∀ x ∈ errs, ∀ y ∈ errs, PySem.W.kitOne K (.ref (He.ga K x)) (.ref (He.ga K y)) = some (decide (x = y))
  kve : ∀ x ∈ errs, PySem.W.kitOne K (.ref (He.ga K x)) (.type "ValueError") = some true
  exm : ∀ x ∈ errs, PySem.W.exmOne K (.ref (He.ga K x)) (.ref (He.ga K "BankError")) = some true
  gl : ∀ p ∈ tf, p.2 = none → mg p.1 = some (.ref (He.ga K p.1))
  nd : (tf.map fun p => (He.cT K p).2).Nodup
  exq : ∀ x ∈ errs, ∀ y ∈ errs, PySem.W.exmOne K (.ref (He.ga K x)) (.ref (He.ga K y)) = some (decide (x = y))
section
variable {P : Program} {w : World} {K : Frag} {mg : Str → Option Value} {h : Heap} {B fB : Addr} {x qual : Str} {st : Stmt} {t : String}
theorem er_of (T : BaseAt P K mg B fB) (S : SysM K) (O : OverF K B (He.ga K x)) (X : K.In h) (G : h.Ns mainGlobals mg) (hi : iniB K x = true) (F : ∃ fd, FunD K "__init__" qual (defArgs (clsDef st)) (defBody (clsDef st)) (defScope (clsDef st)) [] [] (He.fAd K (x, some "__init__")) fd)
    (hb : defBody (clsDef st) = errBody (errPos (defBody (clsDef st))) t) (hs : defScope (clsDef st) = errScope) (ht : (Str.ofString t).length ≤ 60)
    (hc : ∀ env : Env, eval (.Call (.Attribute (.Name "BankError" (errPos (defBody (clsDef st)) 0)) "__init__" (errPos (defBody (clsDef st)) 1)) [.Name "self" (errPos (defBody (clsDef st)) 2), .JoinedStr [.FormattedValue (.Name "value" (errPos (defBody (clsDef st)) 3)) 114 none (errPos (defBody (clsDef st)) 4), .Constant (.str t) 0 (errPos (defBody (clsDef st)) 5)] (errPos (defBody (clsDef st)) 6)] [] (errPos (defBody (clsDef st)) 7)) env = (do
      let ov ← eval (.Name "BankError" (errPos (defBody (clsDef st)) 0)) env
      standAt (errPos (defBody (clsDef st)) 1).atName
      let (f, first) ← holding [ov] (getMethod ov "__init__" (plainOf (.Name "BankError" (errPos (defBody (clsDef st)) 0)) env))
      callWith (errPos (defBody (clsDef st)) 7) f first (backTo (errPos (defBody (clsDef st)) 7) (starEach [.Name "self" (errPos (defBody (clsDef st)) 2), .JoinedStr [.FormattedValue (.Name "value" (errPos (defBody (clsDef st)) 3)) 114 none (errPos (defBody (clsDef st)) 4), .Constant (.str t) 0 (errPos (defBody (clsDef st)) 5)] (errPos (defBody (clsDef st)) 6)] env)) (backToKw (errPos (defBody (clsDef st)) 7) (keywordEach [] env))))
    (hs1 : ∀ env : Env, swapsWith (.Call (.Attribute (.Name "BankError" (errPos (defBody (clsDef st)) 0)) "__init__" (errPos (defBody (clsDef st)) 1)) [.Name "self" (errPos (defBody (clsDef st)) 2), .JoinedStr [.FormattedValue (.Name "value" (errPos (defBody (clsDef st)) 3)) 114 none (errPos (defBody (clsDef st)) 4), .Constant (.str t) 0 (errPos (defBody (clsDef st)) 5)] (errPos (defBody (clsDef st)) 6)] [] (errPos (defBody (clsDef st)) 7)) none (errPos (defBody (clsDef st)) 8).line env = pure false)
    (hs2 : ∀ env : Env, swapsWith (.Name "value" (errPos (defBody (clsDef st)) 11)) (some (.Attribute (.Name "self" (errPos (defBody (clsDef st)) 9)) "value" (errPos (defBody (clsDef st)) 10))) (errPos (defBody (clsDef st)) 12).line env = pure false)
    (hbd : ∀ (kV doc pm : Value) (an : Option Addr) (cdv ct : Value) (us : List Value), us.length = 2 → bindArgs (PySem.W.fnOf "__init__" qual (defArgs (clsDef st)) (defBody (clsDef st)) (defScope (clsDef st)) .none kV doc pm an cdv ct) ⟨us, []⟩ = pure ((["self", "value"] : List Str).zip us)) (hno : x ∉ bareN) (b : Heap) :
    ErrC P w K mg b B x (He.ga K x) := by
  obtain ⟨fd, FD⟩ := F
  obtain ⟨i1, i2⟩ := He.ba hi
  obtain ⟨i2, i3⟩ := He.ba i2
  have ei : iniAt K x = He.ma K (He.ga K x) "__init__" := if_neg hno
  rw [ei] at i2 i3
  refine ⟨PySem.W.mg_of X G (He.eqO_ok i1), O.ov, fun _ => ⟨_, fd, He.eqO_ok i2, of_decide_eq_true i3, ?_, FD.bindsN (fun kV doc pm an cdv ct us hl => hbd kV doc pm an cdv ct us hl)⟩, fun z => absurd z hno, O.xf⟩
  rw [hb, hs] at FD
  exact err_init T S FD ht hc hs1 hs2
/-- what a law with lambdas asks -/
def CLawT (tabs : List (Addr × Str)) : Ct := fun ws M Φ => ∃ ns : List Int, ws = [.dat (.list (ns.map .int))] ∧ ns.length ≤ 63 ∧ (∀ t ∈ tabs, (t.1, Ow.tab t.2) ∈ M) ∧ Φ (.dat (.bool true)) M
def tabsOf (K : Frag) (tf : List He.Defn) : List (Addr × Str) := tf.map fun p => ((He.cT K p).2, lamQ p.1)
theorem end_ofT {fa : Addr} {fs : List He.Fa} {fn : List He.DefD} {tf : List He.Defn} {ex : Frag → Bool} {bl : Nat} {params : Arguments} {k : Nat} {y : Str} (KX : K.In h) (hmg : mg "law" = some (.ref fa)) (c : SaysZ fs fn tf ex bl qual params w h K) (nd : (tf.map fun p => (He.cT K p).2).Nodup) (F : Here K mg "law" st)
    (ok : ∀ base, K.In base → base.Ns mainGlobals mg → (∀ p ∈ tf, LamX.TabB base mg (He.cT K p).1 (He.cT K p).2) → DefE P w K mg base k "law" st [y] (CLawT (tabsOf K tf)))
    (hb : BindF "law" st [y] := by exact fun _ _ _ _ _ _ us hl => match us, hl with | [_], _ => rfl) :
    ∃ (K : Frag) (fd : FuncData) (cs : List (Addr × Addr)) (sp : Sp), K.In h ∧ (∀ p ∈ cs, h.get? p.2 = some { cls := .none, data := .fields #[] }) ∧ (∀ p ∈ cs, K.lookup p.2 = none) ∧ (∀ p ∈ cs, PySem.W.CodeHd h p.1 p.2) ∧ (∀ (s : Shared) (u : Value), BindsTo s fd ⟨[u], []⟩ [(y, u)]) ∧
        (∀ (H : Hp) (a : Addr) (ns : List Int), ns.length ≤ 63 → (∀ p ∈ cs, H p.2 = some (.tbl #[])) → (∀ p ∈ cs, p.2 ≠ a) → SqL K H a (ns.map V.int) → sp [.ref a] H (fun v _ => v = .bl true) fun _ _ _ => False) ∧
        ∀ base : Heap, K.In base → base.Ns mainGlobals mg → (∀ p ∈ cs, LamX.TabB base mg p.1 p.2) → FnG P w K mg base CX0 k fa fd [y] sp := by
  obtain ⟨f, fd, FD, hm⟩ := F
  obtain rfl : f = fa := by rw [hmg] at hm; cases hm; rfl
  have inc : ∀ {p}, p ∈ tf.map (He.cT K) → ∃ q ∈ tf, He.cT K q = p := fun hp => by
    obtain ⟨q, hq, e⟩ := List.mem_map.mp hp
    exact ⟨q, hq, e⟩
  refine ⟨K, fd, tf.map (He.cT K), spE K (CLawT (tabsOf K tf)), KX, fun p hp => ?_, fun p hp => ?_, fun p hp => ?_, fun s u => FD.bindsA (ps := [y]) hb s [u] rfl, fun H a ns hl hT hne hS => ?_, fun base hK hN hB => ?_⟩
  · obtain ⟨q, hq, rfl⟩ := inc hp
    exact (c.tab q hq).2.2
  · obtain ⟨q, hq, rfl⟩ := inc hp
    exact (c.tab q hq).2.1
  · obtain ⟨q, hq, rfl⟩ := inc hp
    exact PySem.W.codeHd_of_K KX (c.tab q hq).1
  · have ea : ads ((tabsOf K tf).map fun t => (t.1, Ow.tab t.2)) = tf.map fun p => (He.cT K p).2 := by
      unfold ads tabsOf
      rw [List.map_map, List.map_map]
      rfl
    have nA : a ∉ ads ((tabsOf K tf).map fun t => (t.1, Ow.tab t.2)) := fun z => by
      rw [ea] at z
      obtain ⟨q, hq, e⟩ := List.mem_map.mp z
      exact hne _ (List.mem_map.mpr ⟨q, hq, rfl⟩) e
    refine ⟨(tabsOf K tf).map fun t => (t.1, Ow.tab t.2), [.dat (.list (ns.map .int))], fun w _ => w = .dat (.bool true), ⟨by rw [ea]; exact nd, fun p hp => ?_⟩, .cons ?_ .nil, ⟨ns, rfl, hl, fun t ht => List.mem_map.mpr ⟨t, ht, rfl⟩, rfl⟩, fun w' M' v H' e _ _ _ r => ?_⟩
    · obtain ⟨t, ht, rfl⟩ := List.mem_map.mp hp
      obtain ⟨q, hq, rfl⟩ := List.mem_map.mp ht
      refine ⟨#[], hT _ (List.mem_map.mpr ⟨q, hq, rfl⟩), True.intro, fun pos cv hc => ?_⟩
      have z : codeAmong pos [] = some cv := hc
      simp [codeAmong] at z
    · rcases hS with hS | hS
      · exact .lst hS nA (DdAll.of_ints ns)
      · exact .lstK (.inr hS) (DdAll.of_ints ns)
    · subst e
      exact Dd.bl_of r
  · obtain ⟨f', fd', G, hm', _, _, FD'⟩ := (ok base hK hN fun p hp => hB _ (List.mem_map.mpr ⟨p, hp, rfl⟩)).ex
    obtain rfl : f' = f := by rw [hm] at hm'; cases hm'; rfl
    obtain rfl : fd' = fd := by
      obtain ⟨_, _, _, _, _, _, _, _, _, _, rfl, l1, _⟩ := FD.ex
      obtain ⟨_, _, _, _, _, _, _, _, _, _, rfl, l2, _⟩ := FD'.ex
      rw [l1] at l2
      cases l2
      rfl
    exact G
theorem errs_over {K : Frag} {xs : List Str} (q : errsB K xs = true) {x : Str} (hx : x ∈ xs) : OverF K (He.ga K "BankError") (He.ga K x) ∧ iniB K x = true := by
  obtain ⟨h1, _⟩ := He.ba q
  obtain ⟨h2, h3⟩ := He.ba (List.all_eq_true.mp h1 x hx)
  exact ⟨overB_ok h2, h3⟩
theorem envX_mk {P : Program} {K : Frag} {mg : Str → Option Value} {xs : List Str} {tf : List He.Defn} (B : BaseAt P K mg (He.ga K "BankError") (He.ma K (He.ga K "BankError") "__init__")) (S : SysM K) (q : errsB K xs = true) (nd : decide ((tf.map fun p => (He.cT K p).2).Nodup) = true)
    (er : ∀ x ∈ xs, ∀ (w : World) (b : Heap), ErrC P w K mg b (He.ga K "BankError") x (He.ga K x)) (gl : ∀ p ∈ tf, p.2 = none → mg p.1 = some (.ref (He.ga K p.1))) : EnvX P K mg xs tf := by
  obtain ⟨_, q2⟩ := He.ba q
  obtain ⟨h2, q3⟩ := He.ba q2
  obtain ⟨h3, h4⟩ := He.ba q3
  refine ⟨B, S, er, fun x hx => ?_, fun x hx y hy => of_decide_eq_true (He.ba (List.all_eq_true.mp (List.all_eq_true.mp h2 x hx) y hy)).1, fun x hx => (errs_over q hx).1.kv, fun x hx => (errs_over q hx).1.ex, gl, of_decide_eq_true nd, fun x hx y hy => of_decide_eq_true (He.ba (List.all_eq_true.mp (List.all_eq_true.mp h2 x hx) y hy)).2⟩
  have O := (errs_over q hx).1
  exact ⟨O.xf.ga, O.xf.gg, O.xf.exC, O.xf.hdC, O.cl, of_decide_eq_true h3, of_decide_eq_true h4, O.ob⟩
end
end XB

/-! XN: sorted of lists, dicts and sets of numbers, set of a list, dicts that are owned. -/
namespace XB
open PySem PySem.Spec PyProof.Rows L2

/-! ### ascending lists -/
def insN (x : Nat) : List Nat → List Nat
  | [] => [x]
  | y :: ys => if x < y then x :: y :: ys else if x = y then y :: ys else y :: insN x ys
/-- the members, ascending, each once -/
def ascN (l : List Nat) : List Nat := l.foldr insN []
theorem mem_insN {x k : Nat} : ∀ {l : List Nat}, k ∈ insN x l ↔ k = x ∨ k ∈ l
  | [] => by simp [insN]
  | y :: ys => by
    unfold insN
    by_cases h1 : x < y
    · rw [if_pos h1]; simp
    · rw [if_neg h1]
      by_cases h2 : x = y
      · rw [if_pos h2]; subst h2; simp
      · rw [if_neg h2, List.mem_cons, mem_insN (l := ys), List.mem_cons]
        constructor
        · rintro (h | h | h)
          · exact .inr (.inl h)
          · exact .inl h
          · exact .inr (.inr h)
        · rintro (h | h | h)
          · exact .inr (.inl h)
          · exact .inl h
          · exact .inr (.inr h)
theorem insN_asc {x : Nat} : ∀ {l : List Nat}, l.Pairwise (· < ·) → (insN x l).Pairwise (· < ·)
  | [], _ => by simp [insN]
  | y :: ys, h => by
    obtain ⟨h1, h2⟩ := List.pairwise_cons.mp h
    unfold insN
    by_cases c1 : x < y
    · rw [if_pos c1]
      refine List.pairwise_cons.mpr ⟨fun z hz => ?_, h⟩
      rcases List.mem_cons.mp hz with rfl | hz
      · exact c1
      · exact Nat.lt_trans c1 (h1 z hz)
    · rw [if_neg c1]
      by_cases c2 : x = y
      · rw [if_pos c2]; exact h
      · rw [if_neg c2]
        refine List.pairwise_cons.mpr ⟨fun z hz => ?_, insN_asc h2⟩
        rcases mem_insN.mp hz with rfl | hz
        · omega
        · exact h1 z hz
theorem mem_ascN {k : Nat} : ∀ {l : List Nat}, k ∈ ascN l ↔ k ∈ l
  | [] => by simp [ascN]
  | x :: l => by
    show k ∈ insN x (ascN l) ↔ _
    rw [mem_insN, mem_ascN (l := l), List.mem_cons]
theorem ascN_asc : ∀ (l : List Nat), (ascN l).Pairwise (· < ·)
  | [] => List.Pairwise.nil
  | x :: l => insN_asc (ascN_asc l)
theorem asc_uniq : ∀ {a b : List Nat}, a.Pairwise (· < ·) → b.Pairwise (· < ·) → (∀ k, k ∈ a ↔ k ∈ b) → a = b
  | [], [], _, _, _ => rfl
  | [], y :: b, _, _, h => by have := (h y).mpr (List.mem_cons_self ..); simp at this
  | x :: a, [], _, _, h => by have := (h x).mp (List.mem_cons_self ..); simp at this
  | x :: a, y :: b, ha, hb, h => by
    obtain ⟨a1, a2⟩ := List.pairwise_cons.mp ha
    obtain ⟨b1, b2⟩ := List.pairwise_cons.mp hb
    have e : x = y := by
      rcases List.mem_cons.mp ((h x).mp (List.mem_cons_self ..)) with e | e
      · exact e
      · rcases List.mem_cons.mp ((h y).mpr (List.mem_cons_self ..)) with e2 | e2
        · exact e2.symm
        · have := a1 y e2
          have := b1 x e
          omega
    subst e
    congr 1
    refine asc_uniq a2 b2 fun k => ⟨fun hk => ?_, fun hk => ?_⟩
    · rcases List.mem_cons.mp ((h k).mp (List.mem_cons_of_mem _ hk)) with e | e
      · subst e; exact absurd (a1 k hk) (Nat.lt_irrefl _)
      · exact e
    · rcases List.mem_cons.mp ((h k).mpr (List.mem_cons_of_mem _ hk)) with e | e
      · subst e; exact absurd (b1 k hk) (Nat.lt_irrefl _)
      · exact e
/-! ### sorted(list): ascending, as many times -/
def putN (x : Nat) : List Nat → List Nat
  | [] => [x]
  | y :: ys => if x ≤ y then x :: y :: ys else y :: putN x ys
def srtN (l : List Nat) : List Nat := l.foldr putN []
theorem putN_perm (x : Nat) : ∀ l : List Nat, (putN x l).Perm (x :: l)
  | [] => List.Perm.refl _
  | y :: ys => by
    unfold putN
    split
    · exact List.Perm.refl _
    · exact ((putN_perm x ys).cons y).trans (List.Perm.swap x y ys)
theorem putN_up (x : Nat) : ∀ {l : List Nat}, l.Pairwise (· ≤ ·) → (putN x l).Pairwise (· ≤ ·)
  | [], _ => by simp [putN]
  | y :: ys, h => by
    obtain ⟨h1, h2⟩ := List.pairwise_cons.mp h
    unfold putN
    split
    · rename_i c
      refine List.pairwise_cons.mpr ⟨fun z hz => ?_, h⟩
      rcases List.mem_cons.mp hz with rfl | hz
      · exact c
      · exact Nat.le_trans c (h1 z hz)
    · rename_i c
      refine List.pairwise_cons.mpr ⟨fun z hz => ?_, putN_up x h2⟩
      rcases List.mem_cons.mp ((putN_perm x ys).mem_iff.mp hz) with rfl | hz
      · omega
      · exact h1 z hz
theorem srtN_perm : ∀ l : List Nat, (srtN l).Perm l
  | [] => List.Perm.refl _
  | x :: l => (putN_perm x _).trans ((srtN_perm l).cons x)
theorem srtN_up : ∀ l : List Nat, (srtN l).Pairwise (· ≤ ·)
  | [] => List.Pairwise.nil
  | x :: l => putN_up x (srtN_up l)
section
variable {X : Cx} {ρ : Ro} {M : Mem} {e : Expr} {p p2 pos pos2 : Pos}
end

end XB

/-! XO: set of a list of numbers, sorted of it; owned dicts. -/
namespace XB
open PySem PySem.Spec PyProof.Rows L2

section
variable {X : Cx} {ρ : Ro} {M : Mem} {e : Expr} {p p2 pos pos2 : Pos}
end
end XB

/-! XP: owned dicts: put, get, in, sorted. -/
namespace XB
open PySem PySem.Spec PyProof.Rows L2
def valG {α : Type} (kvs : List (Key × α)) (k : Key) : Option α := (kvs.find? fun kv => decide (kv.1 = k)).map (·.2)
def putG {α : Type} (kvs : List (Key × α)) (k : Key) (v : α) : List (Key × α) :=
  if (kvs.any fun kv => decide (kv.1 = k)) = true then kvs.map (fun kv => if kv.1 = k then (kv.1, v) else kv) else kvs ++ [(k, v)]
section
variable {K : PySem.W.Frag} {H : Hp} {A : List Addr}
theorem DkAll.length : ∀ {ys : List (Key × V)} {kvs : List (Key × D)}, DkAll K H A ys kvs → ys.length = kvs.length
  | _, _, .nil => rfl
  | _, _, .cons _ r => congrArg (· + 1) r.length
theorem DkAll.any (k : Key) : ∀ {ys : List (Key × V)} {kvs : List (Key × D)}, DkAll K H A ys kvs → (ys.any fun kv => decide (kv.1 = k)) = kvs.any fun kv => decide (kv.1 = k)
  | _, _, .nil => rfl
  | _, _, .cons _ r => by rw [List.any_cons, List.any_cons, r.any k]
theorem DkAll.over (k : Key) {v : V} {d : D} (hv : Dd K H A v d) : ∀ {ys : List (Key × V)} {kvs : List (Key × D)}, DkAll K H A ys kvs → DkAll K H A (ys.map fun kv => if kv.1 = k then (kv.1, v) else kv) (kvs.map fun kv => if kv.1 = k then (kv.1, d) else kv)
  | _, _, .nil => .nil
  | _, _, .cons (k := k2) r1 r => by
    rw [List.map_cons, List.map_cons]
    by_cases e : k2 = k
    · rw [if_pos e, if_pos e]; exact .cons hv (r.over k hv)
    · rw [if_neg e, if_neg e]; exact .cons r1 (r.over k hv)
theorem DkAll.snoc (k : Key) {v : V} {d : D} (hv : Dd K H A v d) : ∀ {ys : List (Key × V)} {kvs : List (Key × D)}, DkAll K H A ys kvs → DkAll K H A (ys ++ [(k, v)]) (kvs ++ [(k, d)])
  | _, _, .nil => .cons hv .nil
  | _, _, .cons r1 r => .cons r1 (r.snoc k hv)
theorem DkAll.put {k : Key} {v : V} {d : D} {ys : List (Key × V)} {kvs : List (Key × D)} (h : DkAll K H A ys kvs) (hv : Dd K H A v d) : DkAll K H A (putK ys k v) (putG kvs k d) := by
  unfold putK putG
  rw [h.any k]
  split
  · exact h.over k hv
  · exact h.snoc k hv
theorem DkAll.val (k : Key) : ∀ {ys : List (Key × V)} {kvs : List (Key × D)}, DkAll K H A ys kvs → (∀ d, valG kvs k = some d → ∃ v, valV ys k = some v ∧ Dd K H A v d) ∧ (valV ys k).isSome = (valG kvs k).isSome
  | _, _, .nil => ⟨fun d h => (by cases h), rfl⟩
  | _, _, .cons (k := k2) r1 r => by
    by_cases e : k2 = k
    · refine ⟨fun d h => ?_, ?_⟩
      · simp [valG, List.find?_cons, e] at h
        subst h
        exact ⟨_, valV_pos e, r1⟩
      · rw [valV_pos e]
        simp [valG, List.find?_cons, e]
    · have ih := r.val k
      have e1 : ∀ (v : D) (kvs : List (Key × D)), valG ((k2, v) :: kvs) k = valG kvs k := fun v kvs => by simp [valG, List.find?_cons, e]
      rw [valV_neg e, e1]
      exact ih
theorem Dd.key {v : V} {k : Key} (h : Dd K H A v (keyD k)) : v = kV k := by
  cases k with
  | inl i => exact Dd.int_of h
  | inr x => exact Dd.str_of h
end
section
variable {X : Cx} {Hb : Hp} {Ab : List Addr} {E : En} {ρ : Ro} {M : Mem} {e o ix : Expr} {pos pos' : Pos} {j : Nat}
end

def addN (l : List Nat) (n : Nat) : List Nat := if n ∈ l then l else l ++ [n]
theorem mem_addN {l : List Nat} {n k : Nat} : k ∈ addN l n ↔ k ∈ l ∨ k = n := by
  unfold addN
  split
  · constructor
    · exact .inl
    · rintro (h | rfl)
      · exact h
      · assumption
  · simp
theorem addN_nodup {l : List Nat} {n : Nat} (h : l.Nodup) : (addN l n).Nodup := by
  unfold addN
  split
  · exact h
  · rename_i c
    refine List.nodup_append.mpr ⟨h, by simp, fun a ha b hb => ?_⟩
    rw [List.mem_singleton.mp hb]
    rintro rfl
    exact c ha
theorem addN_len (l : List Nat) (n : Nat) : (addN l n).length ≤ l.length + 1 := by
  unfold addN
  split
  · omega
  · rw [List.length_append]; simp
section
variable {X : Cx} {ρ : Ro} {M : Mem} {e : Expr} {p pos : Pos}
end
section
variable {X : Cx} {Hb : Hp} {Ab : List Addr} {E : En} {ρ : Ro} {M : Mem} {b : Expr} {pos : Pos}
end
section
variable {X : Cx} {Hb : Hp} {Ab : List Addr} {E : En} {ρ : Ro} {M : Mem} {ss : List Stmt}
theorem Ok.drop {K : PySem.W.Frag} {H : Hp} {p : Addr} {o : Ow} {σ : L2.St} (h : Ok K H ρ ((p, o) :: M) σ) : Ok K H ρ M σ := ⟨h.mem.drop, h.st.len, fun i w e => by
  obtain ⟨v, e', r⟩ := h.st.at_ i w e
  exact ⟨v, e', r.mv (Mv.sub fun b hb => List.mem_cons_of_mem _ hb)⟩⟩
/-- what was owned is let go -/
theorem sv_drop {p : Addr} {o : Ow} (h : Sv X Hb Ab ss E ρ M) : Sv X Hb Ab ss E ρ ((p, o) :: M) := fun σ H D ok bs l => h σ H D ok.drop bs.drop l
end
end XB

/-! XQ: dicts walked, dict(pairs), update, displays. -/
namespace XB
open PySem PySem.Spec PyProof.Rows L2
section
variable {X : Cx} {ρ : Ro} {M : Mem} {e o : Expr} {p pos : Pos}
/-- a new dict -/
def EvDi (X : Cx) (e : Expr) (ρ : Ro) (M : Mem) (kvs : List (Key × D)) : Prop := ∀ σ H Q, Ok X.K H ρ M σ → (∀ p ys H', H p = none → Same H H' → H' p = some (.dK ys) → DkAll X.K H' (p :: ads M) ys kvs → Q (.ref p) H') → rd X e σ H Q
/-- {k: v} -/
theorem ed_one {ke ve : Expr} {key : Key} {d : D} (hk : EvD X ke ρ M (.dat (keyD key))) (hv : ∀ z, z ∉ ads M → EvD X ve ρ ((z, .dic []) :: M) (.dat d)) (hk2 : ∀ z, z ∉ ads M → EvD X ke ρ ((z, .dic []) :: M) (.dat (keyD key))) : EvDi X (.Dict [some ke] [ve] pos) ρ M [(key, d)] := fun σ H Q ok q =>
  of_pe (pe_disp (pps_cons p_rd p_rd pps_nil) rfl rfl (by simp) (show 1 ≤ 15 by decide)) (fun z hz => by
    have ok1 := ok.own (o := .dic []) hz (same_upd hz) ⟨[], upd_same, .nil⟩
    have nz := ok.mem.fresh hz
    refine hk2 z nz σ _ _ ok1 fun x H1 s1 r1 => hv z nz σ H1 _ (ok1.same s1) fun y H2 s2 r2 => ?_
    obtain rfl := Dd.key r1
    have hz2 : H2 z = some (.dK []) := s2 _ _ (s1 _ _ upd_same)
    refine ⟨hz2, [(key, y)], rfl, (show 1 ≤ 15 by decide), ?_⟩
    have sm : Same H (upd H2 z (.dK (mergeK [] [(key, y)]))) := fun b u e => by
      have hb : b ≠ z := ne_of_none e hz
      rw [upd_ne hb]
      exact s2 _ _ (s1 _ _ (by rw [upd_ne hb]; exact e))
    refine q z _ _ hz sm upd_same (.cons ?_ .nil)
    refine Dd.mv (fun b u r n => ?_) r2
    have hb : b ≠ z := fun zz => n (by rw [zz]; exact List.mem_cons_self ..)
    exact ⟨by rw [upd_ne hb]; exact r, n⟩)
end
section
variable {X : Cx} {Hb : Hp} {Ab : List Addr} {E : En} {ρ : Ro} {M : Mem} {e o : Expr} {pos apos cpos : Pos}
end

/-! ### a dict locked while it is walked -/
section
variable {X : Cx} {ρ : Ro} {M : Mem} {e tg : Expr}
end
end XB

/-! XR: zip, cuts of tuples as data. -/
namespace XB
open PySem PySem.Spec PyProof.Rows L2
section
variable {X : Cx} {ρ : Ro} {M : Mem} {a b e : Expr} {p pos tpos p2 : Pos} {elts : List Expr} {kk : Nat}
variable {lo hi : Option Expr} {i j : Option Int}
/-- t[lo:hi] as a datum -/
theorem ev_cutD {ds : List D} (he : EvD X e ρ M (.dat (.tuple ds))) (hl : Part X ρ M lo i) (hu : Part X ρ M hi j) : EvD X (.Subscript e (.Slice lo hi none p2) pos) ρ M (.dat (.tuple (cutL ds i j))) := fun σ H Q ok q =>
  of_pe (pe_slice sl_tupA p_rd p_rpart p_rpart) (he σ H _ ok fun v H1 s1 r0 => hl.run (ok.same s1) fun H2 s2 => hu.run ((ok.same s1).same s2) fun H3 s3 => by
    have s23 := s2.trans s3
    have s13 := s1.trans s23
    have r3 : Dd X.K H3 (ads M) v (.tuple ds) := r0.mv (Ext.of s23).mv
    obtain ⟨p, xs, rfl, hq, hd⟩ := Dd.t r3
    refine ⟨p, xs, rfl, hq, fun hw => ?_, fun _ z hz => ?_⟩
    · have e1 : cutL ds i j = ds := by
        unfold cutL
        rw [hd.length] at hw
        rw [hw.1, hw.2, List.drop_zero, Nat.sub_zero, List.take_length]
      refine q _ H3 s13 ?_
      rw [e1]
      exact r3
    · have nz : z ∉ ads M := (ok.same s13).mem.fresh hz
      exact q _ _ (s13.trans (same_upd hz)) (.tup (.inl upd_same) nz ((cut_dd hd i j).mv (Ext.of (same_upd hz)).mv)))
theorem cut_from (ds : List D) (n : Nat) : cutL ds (some (n : Int)) none = ds.drop n := by
  unfold cutL
  rw [HT.sIx_nat, HT.sIx_none]
  by_cases h : n ≤ ds.length
  · rw [Nat.min_eq_left h]
    exact List.take_of_length_le (by rw [List.length_drop]; exact Nat.le_refl _)
  · rw [Nat.min_eq_right (by omega), List.drop_length, List.drop_eq_nil_of_le (by omega)]
    simp
theorem cut_to (ds : List D) (n : Nat) : cutL ds none (some (n : Int)) = ds.take n := by
  unfold cutL
  rw [HT.sIx_nat, HT.sIx_none, List.drop_zero, Nat.sub_zero]
  by_cases h : n ≤ ds.length
  · rw [Nat.min_eq_left h]
  · rw [Nat.min_eq_right (by omega), List.take_length, List.take_of_length_le (by omega)]
end
end XB

/-! XS: lists of numbers: added, spans, sizes. -/
namespace XB
open PySem PySem.Spec PyProof.Rows L2
def addAll (l xs : List Nat) : List Nat := xs.foldl addN l
theorem mem_addAll {k : Nat} : ∀ {xs l : List Nat}, k ∈ addAll l xs ↔ k ∈ l ∨ k ∈ xs
  | [], l => by simp [addAll]
  | x :: xs, l => by
    show k ∈ addAll (addN l x) xs ↔ _
    rw [mem_addAll, mem_addN, List.mem_cons, or_assoc]
theorem addAll_nodup : ∀ {xs l : List Nat}, l.Nodup → (addAll l xs).Nodup
  | [], l, h => h
  | x :: xs, l, h => addAll_nodup (xs := xs) (addN_nodup h)
theorem addAll_len : ∀ (xs l : List Nat), (addAll l xs).length ≤ l.length + xs.length
  | [], l => Nat.le_refl _
  | x :: xs, l => by
    have h1 := addAll_len xs (addN l x)
    have h2 := addN_len l x
    show (addAll (addN l x) xs).length ≤ _
    rw [List.length_cons]
    omega
theorem nodup_len : ∀ (n : Nat) (l : List Nat), l.Nodup → (∀ x ∈ l, x < n) → l.length ≤ n
  | 0, [], _, _ => Nat.le_refl _
  | 0, x :: l, _, h => absurd (h x (List.mem_cons_self ..)) (Nat.not_lt_zero _)
  | n + 1, l, nd, h => by
    have h1 := nodup_len n (l.erase n) (nd.erase n) fun x hx => by
      have hx2 := (nd.mem_erase_iff).mp hx
      have := h x hx2.2
      omega
    by_cases hn : n ∈ l
    · have := List.length_erase_of_mem hn
      omega
    · rw [List.erase_of_not_mem hn] at h1
      omega
/-! ### all sums -/
def grow (S : List Nat) (x : Nat) : List Nat := if x ∈ S then S else addAll S (addAll [] (S.map (x ^^^ ·)))
def spanL (l : List Nat) : List Nat := l.foldl grow [0]
theorem grow_nodup {S : List Nat} {x : Nat} (h : S.Nodup) : (grow S x).Nodup := by
  unfold grow
  split
  · exact h
  · exact addAll_nodup h
theorem grow_lt {S : List Nat} {x b : Nat} (h : ∀ y ∈ S, y < 2 ^ b) (hx : x < 2 ^ b) : ∀ y ∈ grow S x, y < 2 ^ b := by
  intro y hy
  unfold grow at hy
  split at hy
  · exact h y hy
  · rcases mem_addAll.mp hy with hy | hy
    · exact h y hy
    · rcases mem_addAll.mp hy with hy | hy
      · simp at hy
      · obtain ⟨z, hz, rfl⟩ := List.mem_map.mp hy
        exact Nat.xor_lt_two_pow hx (h z hz)
structure SpOk (b : Nat) (S : List Nat) : Prop where
  nd : S.Nodup
  lt : ∀ y ∈ S, y < 2 ^ b
theorem SpOk.len {b : Nat} {S : List Nat} (h : SpOk b S) : S.length ≤ 2 ^ b := nodup_len _ S h.nd h.lt
theorem SpOk.zero (b : Nat) : SpOk b [0] := ⟨by simp, fun y hy => by rw [List.mem_singleton.mp hy]; exact Nat.two_pow_pos b⟩
theorem SpOk.grow {b : Nat} {S : List Nat} {x : Nat} (h : SpOk b S) (hx : x < 2 ^ b) : SpOk b (grow S x) := ⟨grow_nodup h.nd, grow_lt h.lt hx⟩
section
variable {X : Cx} {ρ : Ro} {M : Mem} {o ix : Expr} {pos : Pos} {j : Nat}
end
end XB

/-! XT: a comprehension with effects given to a name; tuple of what has effects. -/
namespace XB
open PySem PySem.Spec PyProof.Rows L2
section
variable {X : Cx} {Hb : Hp} {Ab : List Addr} {E : En} {ρ : Ro} {M : Mem} {tg iter elt : Expr} {scope : Scope} {pos spos : Pos}
end
section
variable {X : Cx} {ρ : Ro} {M : Mem} {e : Expr} {p pos : Pos}
theorem Ev.tuple {Φ : W → Mem → Prop} (hm : X.mg "tuple" = none) (h : Ev X e ρ M fun w M1 => ∃ ds, w = .dat (.list ds) ∧ Φ (.dat (.tuple ds)) M1) (hg : Gl X "tuple" := by rfl) (hs : starEach [e] X.env = (false, eval e X.env) :: starEach [] X.env := by rfl) (hpl : (backTo pos (starEach [] X.env)).any (·.1) = false := by rfl) :
    Ev X (.Call (.Name "tuple" p) [e] [] pos) ρ M Φ := fun σ H Q ok q =>
  of_pe (pe_callTy call_tuple_of hg hm (by decide +kernel) (pa_cons p_rd pa_nil hs) (by decide) (by decide) hs hpl) (h σ H _ ok fun w M1 v H1 h1 ea x m r => by
    obtain ⟨ds, rfl, h1⟩ := h1
    obtain ⟨a, xs, rfl, hq, hd⟩ := Dd.l r
    refine ⟨a, xs, rfl, .inl ⟨hq, fun z hz => ?_⟩⟩
    have nz : z ∉ ads M := by rw [← ea]; exact m.fresh hz
    exact q _ M1 _ _ h1 ea (x.trans (Ext.of (same_upd hz))) (m.same (same_upd hz)) (.tup (.inl upd_same) nz (hd.mv (Ext.of (same_upd hz)).mv)))
end
theorem noneOwn {ρ : Ro} {own : List (Str × Nat)} (h : (own.all fun p => noneAt ρ p.2) = true) : ∀ i ∈ own.map (·.2), ∀ w, ρ[i]? ≠ some (some w) := fun i hi w => by
  obtain ⟨p, hp, rfl⟩ := List.mem_map.mp hi
  exact noneAt_of (List.all_eq_true.mp h p hp) w
theorem grow_len (S : List Nat) (x : Nat) : (grow S x).length ≤ 2 * S.length := by
  unfold grow
  split
  · omega
  · have h1 := addAll_len (addAll [] (S.map (x ^^^ ·))) S
    have h2 := addAll_len (S.map (x ^^^ ·)) []
    rw [List.length_map, List.length_nil] at h2
    omega
theorem span_len : ∀ (l S : List Nat), (l.foldl grow S).length ≤ 2 ^ l.length * S.length
  | [], S => by simp
  | x :: l, S => by
    have h1 := span_len l (grow S x)
    have h2 := grow_len S x
    rw [List.length_cons, Nat.pow_succ, Nat.mul_assoc]
    exact Nat.le_trans h1 (Nat.mul_le_mul_left _ h2)
theorem upFrom_get {lo : Int} {n i : Nat} {w : W} (h : ((upFrom lo n).map fun i => W.dat (.int i))[i]? = some w) : w = .dat (.int (lo + i)) ∧ i < n := by
  unfold upFrom at h
  rw [List.map_map, List.getElem?_map] at h
  by_cases hi : i < n
  · rw [List.getElem?_range hi] at h
    cases h
    exact ⟨rfl, hi⟩
  · rw [List.getElem?_eq_none (by simpa using hi)] at h
    cases h
theorem upFrom_len (lo : Int) (n : Nat) : ((upFrom lo n).map fun i => W.dat (.int i)).length = n := by
  unfold upFrom; rw [List.length_map, List.length_map, List.length_range]
section
variable {X : Cx} {Hb : Hp} {Ab : List Addr} {E : En} {ρ : Ro} {M : Mem} {tg e : Expr} {pos : Pos}
/-- tg = e, any target -/
theorem s1_asgE {ts : List Nat} (he : Ev X e ρ M fun w M1 => ∃ ρ', TgD X tg ts ρ M1 w ρ' ∧ E.nx ρ' M1) (hs : swapsWithSole [tg] e pos.line X.env = pure false := by rfl) (hw : swappedStores [tg] e X.env = pure none := by rfl) (h1 : (assignEach [tg] X.env).map (·.2) = [assign tg X.env] := by rfl) :
    S1 X Hb Ab (.Assign [tg] e pos) E ρ M := fun σ H D ok bs l =>
  of_ps (ps_asg p_rd p_rg hs hw h1) (he σ H _ ok fun w M1 v H1 h1 ea x m r => by
    obtain ⟨ρ', tgd, hE⟩ := h1
    rw [← ea] at r
    exact tgd v σ H1 _ r (ok.ext ea x m) fun σ2 H2 s2 ok2 _ => l.nx ρ' M1 σ2 H2 hE ok2 ((bs.step ea x).same s2))
end
end XB

/-! XU: t[::-1] of a tuple; list * int. -/
namespace XB
open PySem PySem.Spec PyProof.Rows L2
section
variable {prog : Program} {w : World} {A : Around} {E : Value → Shared → Prop} {s : Shared}
theorem back_adjust (n : Nat) : Builtin.Slice.sliceAdjust none none (-1) (n : Int) = ((n : Int) - 1, -1) := by
  unfold Builtin.Slice.sliceAdjust
  simp
theorem back_places (n : Nat) : Builtin.Slice.slicePlaces ((n : Int) - 1) (-1) (-1) = n := by
  unfold Builtin.Slice.slicePlaces
  by_cases h : n = 0
  · subst h; decide
  · simp
    omega
theorem back_pick (xs : Array Value) : ((List.range xs.size).filterMap fun (m : Nat) => xs[(((xs.size : Int) - 1) + (m : Int) * (-1)).toNat]?).toArray = xs.toList.reverse.toArray := by
  congr 1
  have e : (List.range xs.size).filterMap (fun (m : Nat) => xs[(((xs.size : Int) - 1) + (m : Int) * (-1)).toNat]?) = ((List.range xs.size).map fun k => xs.size - 1 - k).filterMap (xs[·]?) := by
    rw [List.filterMap_map]
    have key : ∀ l : List Nat, (∀ m ∈ l, m < xs.size) → l.filterMap (fun (m : Nat) => xs[(((xs.size : Int) - 1) + (m : Int) * (-1)).toNat]?) = l.filterMap ((fun x => xs[x]?) ∘ fun k => xs.size - 1 - k) := by
      intro l hl
      induction l with
      | nil => rfl
      | cons m l ih =>
        have hm := hl m (List.mem_cons_self ..)
        have e1 : (((xs.size : Int) - 1) + (m : Int) * (-1)).toNat = xs.size - 1 - m := by omega
        rw [List.filterMap_cons, List.filterMap_cons, ih fun x hx => hl x (List.mem_cons_of_mem _ hx), e1]
        rfl
    exact key _ fun m hm => List.mem_range.mp hm
  rw [e, PySem.W.krv_range, List.filterMap_reverse, PySem.W.krv_all]
theorem back_applied {sl : Addr} {vs : Value} {n : Nat} {Q : Int × Int × Nat → Shared → Prop} (hs : s.heap.IsSliceOf sl .none .none vs) (ps : IsPart vs (some (-1))) (h : Q ((n : Int) - 1, -1, n) s) : wpAny (model prog w) A (Builtin.Slice.sliceApplied (.ref sl) (pure (n : Int))) Q E s := by
  obtain ⟨os, ho, hc, hd⟩ := id hs
  unfold Builtin.Slice.sliceApplied Builtin.Slice.sliceFields
  refine wpAny_bind (wpAny_bind (wpAny_field ho hd (x := .none) rfl (wpAny_bind (wpAny_field ho hd (x := .none) rfl (wpAny_bind (wpAny_field ho hd (x := vs) rfl (wpAny_pure ?_)))))))
  refine wpAny_bind (HT.slicePart_ ps ?_)
  show wpAny _ _ (if ((-1 : Int) == 0) = true then _ else _) _ _ s
  rw [if_neg (by decide)]
  refine wpAny_bind (HT.slicePart_ .none (wpAny_bind (HT.slicePart_ .none (wpAny_bind (wpAny_pure ?_)))))
  show wpAny _ _ (match Builtin.Slice.sliceAdjust none none (-1) (n : Int) with | (a, b) => pure (a, (-1 : Int), Builtin.Slice.slicePlaces a b (-1))) _ _ s
  rw [back_adjust]
  show wpAny _ _ (pure ((n : Int) - 1, (-1 : Int), Builtin.Slice.slicePlaces ((n : Int) - 1) (-1) (-1))) _ _ s
  rw [back_places]
  exact wpAny_pure h
theorem getItem_back {t sl : Addr} {items : Array Value} {vs : Value} {Q : Value → Shared → Prop} (ht : IsTup s.heap t items) (hs : s.heap.IsSliceOf sl .none .none vs) (ps : IsPart vs (some (-1)))
    (h : Q (.ref s.heap.objs.size) { s with heap := s.heap.push { cls := .type "tuple", data := .seq items.toList.reverse.toArray } }) (hz : items.size ≤ sizeLine) : wpAny (model prog w) A (getItem (.ref t) (.ref sl)) Q E s := by
  have fit : sizeOk (.seq items.toList.reverse.toArray) := by
    show items.toList.reverse.toArray.size ≤ sizeLine
    rw [List.size_toArray, List.length_reverse, Array.length_toList]
    exact hz
  have ty : s.TypeIs (.ref sl) "slice" := let ⟨os, ho, hc, _⟩ := hs; ⟨os, ho, hc⟩
  unfold getItem
  try with_reducible refine wpAny_holding ?_
  first | refine wpAny_bind (wpAny_pure ?_) | skip
  refine wpAny_bind (wpAny_sequenceKey ht.typeIs (by decide) (wpAny_bind (wpAny_callSpecial?_slot (name := Str.ofString "__getitem__") ht.typeIs PyProof.Rows.slot_tuple_getitem (wpAny_call_entry PyProof.Rows.slot_tuple_getitem ht.typeIs entry_tuple_getitem ?_ (args_tuple_getitem _ _)))))
  show wpAny _ _ (Builtin.Tuple.tupleItemsOf (.ref t) >>= _) _ _ s
  refine wpAny_bind (tupleItemsOf_ ht (wpAny_bind (wpAny_typeOf ty ?_)))
  rw [if_pos (by decide)]
  refine wpAny_bind (back_applied hs ps ?_)
  show wpAny _ _ (if (((items.size : Int) - 1) == 0 && (-1 : Int) == 1 && items.size == items.size) = true then _ else _) _ _ s
  rw [if_neg (by simp), back_pick]
  first
    | exact wpAny_bind (m := Builtin.Tuple.tupleExact _) (wpAny_newObj_type (wpAny_pure ⟨_, rfl, wpAny_pure h⟩) fit)
    | exact wpAny_bind (m := Builtin.Tuple.tupleExact _) (wpAny_newObj_type (wpAny_bind (wpAny_pure (wpAny_pure ⟨_, rfl, wpAny_pure h⟩))) fit)
    | exact wpAny_bind (wpAny_bind (m := Builtin.Tuple.tupleExact _) (wpAny_newObj_type (wpAny_pure (wpAny_pure ⟨_, rfl, wpAny_pure h⟩)) fit))
    | exact wpAny_bind (wpAny_bind (m := Builtin.Tuple.tupleExact _) (wpAny_newObj_type (wpAny_pure ⟨_, rfl, wpAny_pure h⟩) fit))
end
section
variable {X : Cx} {ρ : Ro} {M : Mem} {e a b : Expr} {k : Nat} {p1 p2 p3 pos : Pos}
def tBack (K : PySem.W.Frag) (te : TE) : TE := fun σ H Q => te σ H fun x H1 => ∃ a xs, x = .ref a ∧ SqT K H1 a xs ∧ ∀ p, H1 p = none → Q (.ref p) (upd H1 p (.tup xs.reverse))
theorem pe_back {te : TE} (he : PE X e te) : PE X (.Subscript e (.Slice none none (some (.UnaryOp .USub (.Constant (.int 1) k p1) p2)) p3) pos) (tBack X.K te) := by
  refine ⟨fun pins s σ H Q I h => Subscript_ (thn (he.run pins s σ H _ I h) fun v s1 ⟨x, H1, I1, r1, a, xs, ex, hx, q⟩ => ?_)⟩
  subst ex
  cases r1
  refine wpAny_Slice ?_
  rw [evalPart_none]
  refine wpAny_pure ?_
  refine wpAny_pure ?_
  refine thn ((po_some (pe_un un_neg pe_int)).run pins s1 σ H1 (fun o H4 => o = some (-1) ∧ H4 = H1) I1 ⟨1, rfl, -1, rfl, rfl, rfl⟩) fun vs s4 ⟨o, H4, I4, ps, eo, e4⟩ => ?_
  subst eo e4
  have I5 : L2.Inv X pins σ H4 { s4 with heap := s4.heap.push { cls := .type "slice", data := .fields #[.none, .none, vs] } } := I4.kept (t' := s4.toks) fun b ob q => Heap.get?_push_of_some _ q
  obtain ⟨its, r, ht, hz⟩ := I5.tuple hx
  have hlen := r.length
  refine tail_any (ops := [.ref a, .ref s4.heap.objs.size]) ht.typeIs PyProof.Rows.slot_tuple_getitem.lookup ?_ (by with_unfolding_all rfl)
  refine getItem_back ht (Heap.IsSliceOf.new _ .none .none vs) ps ?_ (by rw [List.size_toArray]; omega)
  refine ⟨.ref _, _, I5.laid (t' := s4.toks) (o := .tup xs.reverse) (fun b ob q => Heap.get?_push_of_some _ q) (Nat.le_refl _) ?_, rfl, q _ (I5.hok.fresh (Nat.le_refl _))⟩
  exact ⟨by rw [List.length_reverse]; exact hz, _, r.reverse, IsTup.new _ _⟩
/-- t[::-1] -/
theorem ev_back {ds : List D} (he : EvD X e ρ M (.dat (.tuple ds))) : EvD X (.Subscript e (.Slice none none (some (.UnaryOp .USub (.Constant (.int 1) k p1) p2)) p3) pos) ρ M (.dat (.tuple ds.reverse)) := fun σ H Q ok q =>
  of_pe (pe_back p_rd) (he σ H _ ok fun v H1 s1 r1 => by
    obtain ⟨a, xs, rfl, hq, hd⟩ := Dd.t r1
    refine ⟨a, xs, rfl, hq, fun z hz => ?_⟩
    exact q _ _ (s1.trans (same_upd hz)) (.tup (.inl upd_same) ((ok.same s1).mem.fresh hz) (hd.reverse.mv (Ext.of (same_upd hz)).mv)))
end
end XB

/-! XV: bit_length, in, setdefault, min of naturals, comprehensions over pairs with a test, starred displays. -/
namespace XB
open PySem PySem.Spec PyProof.Rows L2
def bitsN (n : Nat) : Nat := if n = 0 then 0 else n.log2 + 1
section
variable {X : Cx} {ρ : Ro} {M : Mem} {a b c e o : Expr} {es : List Expr} {pos p apos sp_ : Pos} {m n : Nat} {w : W} {ws : List W}
/-! ### starred displays -/
theorem SWs.app {K : PySem.W.Frag} {H : Hp} {A : List Addr} : ∀ {vs us : List V} {ws xs : List W}, SWs K H A vs ws → SWs K H A us xs → SWs K H A (vs ++ us) (ws ++ xs)
  | _, _, _, _, .nil, s => s
  | _, _, _, _, .cons r t, s => .cons r (SWs.app t s)
end
section
variable {X : Cx} {Hb : Hp} {Ab : List Addr} {E : En} {ρ : Ro} {M : Mem} {e f o : Expr} {pos apos cpos : Pos} {j : Nat}
end
/-! ### [elt for x, y in iter if c] -/
section
variable {X : Cx} {ρ : Ro} {M : Mem} {elt iter : Expr} {pos tp : Pos} {scope : Scope} {α : Type} {l : List α} {g : α → D} {pu : Bool} {ws : List W} {x y : Str}
end
end XB

/-! XW: zip of a list and a tuple. -/
namespace XB
open PySem PySem.Spec PyProof.Rows L2
section
variable {X : Cx} {ρ : Ro} {M : Mem} {a b e : Expr} {p pos tpos : Pos} {elts : List Expr} {kk : Nat}
end
end XB

/-! YA: spans of numbers under XOR, reduced rows, bases. -/
namespace XB
/-! ### the highest bit decides -/
theorem xor_lt_of {x z : Nat} (hz : z ≠ 0) (h : x.testBit z.log2 = true) : x ^^^ z < x := by
  apply Nat.lt_of_div_lt_div (c := 2 ^ z.log2)
  rw [Nat.xor_div_two_pow]
  have h1 : z / 2 ^ z.log2 = 1 := by
    have a := Nat.log2_self_le hz
    have b := Nat.lt_log2_self (n := z)
    have hp := Nat.two_pow_pos z.log2
    rw [Nat.pow_succ] at b
    rw [Nat.div_eq_iff hp]
    omega
  rw [h1]
  rw [Nat.testBit_eq_decide_div_mod_eq] at h
  have h2 := of_decide_eq_true h
  generalize x / 2 ^ z.log2 = y at h2
  have : (y ^^^ 1) = y - 1 := by
    apply Nat.eq_of_testBit_eq
    intro i
    rw [Nat.testBit_xor]
    cases i with
    | zero =>
      rw [Nat.testBit_zero, Nat.testBit_zero, Nat.testBit_zero]
      have : (y - 1) % 2 = 0 := by omega
      rw [this, h2]; rfl
    | succ i =>
      rw [Nat.testBit_succ, Nat.testBit_succ, Nat.testBit_succ]
      have : (y - 1) / 2 = y / 2 := by omega
      rw [this]; simp
  rw [this]
  omega
theorem lt_xor_of {x z : Nat} (hz : z ≠ 0) (h : x.testBit z.log2 = false) : x < x ^^^ z := by
  have h2 : (x ^^^ z).testBit z.log2 = true := by rw [Nat.testBit_xor, h, Nat.testBit_log2 hz]; rfl
  have := xor_lt_of hz h2
  rwa [Nat.xor_assoc, Nat.xor_self, Nat.xor_zero] at this
theorem min_xor {x z : Nat} (hz : z ≠ 0) : min x (x ^^^ z) = if x.testBit z.log2 = true then x ^^^ z else x := by
  by_cases h : x.testBit z.log2 = true
  · rw [if_pos h]
    exact Nat.min_eq_right (Nat.le_of_lt (xor_lt_of hz h))
  · rw [if_neg h]
    exact Nat.min_eq_left (Nat.le_of_lt (lt_xor_of hz (by simpa using h)))
theorem xor_xor_self (x y : Nat) : x ^^^ y ^^^ y = x := by rw [Nat.xor_assoc, Nat.xor_self, Nat.xor_zero]
theorem xor_eq_zero {x y : Nat} (h : x ^^^ y = 0) : x = y := by
  have := xor_xor_self x y
  rw [h, Nat.zero_xor] at this
  exact this.symm
theorem xor_ne_zero {x y : Nat} (h : x ≠ y) : x ^^^ y ≠ 0 := fun e => h (xor_eq_zero e)
theorem testBit_le_log2 {x i : Nat} (h : x.testBit i = true) : i ≤ x.log2 := by
  have hx : x ≠ 0 := by rintro rfl; simp at h
  have h1 := Nat.ge_two_pow_of_testBit h
  have h2 := Nat.lt_log2_self (n := x)
  have := (Nat.pow_lt_pow_iff_right (a := 2) (by decide)).mp (Nat.lt_of_le_of_lt h1 h2)
  omega
theorem testBit_above {x i : Nat} (h : x.log2 < i) : x.testBit i = false := by
  cases e : x.testBit i with
  | false => rfl
  | true => have := testBit_le_log2 e; omega
theorem log2_of {x i : Nat} (h : x.testBit i = true) (h2 : ∀ j, i < j → x.testBit j = false) : x.log2 = i := by
  have hx : x ≠ 0 := by rintro rfl; simp at h
  have h1 := testBit_le_log2 h
  rcases Nat.lt_or_ge i x.log2 with h3 | h3
  · have := h2 _ h3
    rw [Nat.testBit_log2 hx] at this
    cases this
  · omega

/-! ### spans -/
inductive Sp (l : List Nat) : Nat → Prop
  | zero : Sp l 0
  | add {x y : Nat} : y ∈ l → Sp l x → Sp l (x ^^^ y)
theorem Sp.xor {l : List Nat} {x y : Nat} (hx : Sp l x) (hy : Sp l y) : Sp l (x ^^^ y) := by
  induction hy with
  | zero => rw [Nat.xor_zero]; exact hx
  | add h _ ih => rw [← Nat.xor_assoc]; exact .add h ih
theorem Sp.mem {l : List Nat} {y : Nat} (h : y ∈ l) : Sp l y := by
  have := Sp.add h .zero
  rwa [Nat.zero_xor] at this
theorem Sp.sub {l l' : List Nat} {x : Nat} (hx : Sp l x) (h : ∀ y ∈ l, Sp l' y) : Sp l' x := by
  induction hx with
  | zero => exact .zero
  | add hy _ ih => exact ih.xor (h _ hy)
theorem Sp.lt {l : List Nat} {x n : Nat} (hx : Sp l x) (h : ∀ y ∈ l, y < 2 ^ n) : x < 2 ^ n := by
  induction hx with
  | zero => exact Nat.two_pow_pos n
  | add hy _ ih => exact Nat.xor_lt_two_pow ih (h _ hy)
theorem Sp.nil {x : Nat} (h : Sp [] x) : x = 0 := by
  induction h with
  | zero => rfl
  | add h _ _ => cases h
theorem sp_congr {l l' : List Nat} (h : ∀ y ∈ l, Sp l' y) (h' : ∀ y ∈ l', Sp l y) (x : Nat) : Sp l x ↔ Sp l' x := ⟨fun hx => hx.sub h, fun hx => hx.sub h'⟩
theorem sp_mem {l l' : List Nat} (h : ∀ y, y ∈ l ↔ y ∈ l') (x : Nat) : Sp l x ↔ Sp l' x := sp_congr (fun y hy => .mem ((h y).mp hy)) (fun y hy => .mem ((h y).mpr hy)) x
theorem sp_append {l l' : List Nat} {x : Nat} : Sp (l ++ l') x ↔ ∃ a b, Sp l a ∧ Sp l' b ∧ x = a ^^^ b := by
  constructor
  · intro h
    induction h with
    | zero => exact ⟨0, 0, .zero, .zero, rfl⟩
    | @add x y hy _ ih =>
      obtain ⟨a, b, ha, hb, rfl⟩ := ih
      rcases List.mem_append.mp hy with h | h
      · exact ⟨a ^^^ y, b, .add h ha, hb, by rw [Nat.xor_assoc, Nat.xor_comm b, ← Nat.xor_assoc]⟩
      · exact ⟨a, b ^^^ y, ha, .add h hb, by rw [Nat.xor_assoc]⟩
  · rintro ⟨a, b, ha, hb, rfl⟩
    exact (ha.sub fun y hy => .mem (List.mem_append_left _ hy)).xor (hb.sub fun y hy => .mem (List.mem_append_right _ hy))
theorem sp_snoc {l : List Nat} {v x : Nat} : Sp (l ++ [v]) x ↔ Sp l x ∨ Sp l (x ^^^ v) := by
  rw [sp_append]
  constructor
  · rintro ⟨a, b, ha, hb, rfl⟩
    have hb' : b = 0 ∨ b = v := by
      clear ha
      induction hb with
      | zero => exact .inl rfl
      | add hy _ ih =>
        rw [List.mem_singleton.mp hy]
        rcases ih with rfl | rfl
        · right; rw [Nat.zero_xor]
        · left; rw [Nat.xor_self]
    rcases hb' with rfl | rfl
    · left; rwa [Nat.xor_zero]
    · right; rwa [xor_xor_self]
  · rintro (h | h)
    · exact ⟨x, 0, h, .zero, (Nat.xor_zero x).symm⟩
    · exact ⟨x ^^^ v, v, h, .mem (List.mem_singleton.mpr rfl), (xor_xor_self x v).symm⟩
theorem mem_spanL {x : Nat} (l : List Nat) : x ∈ spanL l ↔ Sp l x := by
  have key : ∀ (l done S : List Nat), (∀ x, x ∈ S ↔ Sp done x) → (x ∈ l.foldl grow S ↔ Sp (done ++ l) x) := by
    intro l
    induction l with
    | nil => intro done S h; rw [List.append_nil]; exact h x
    | cons v l ih =>
      intro done S h
      have e : done ++ v :: l = (done ++ [v]) ++ l := by simp
      rw [List.foldl_cons, e]
      refine ih (done ++ [v]) (grow S v) fun y => ?_
      rw [sp_snoc]
      unfold grow
      split
      · rename_i hv
        constructor
        · exact fun hy => .inl ((h y).mp hy)
        · rintro (hy | hy)
          · exact (h y).mpr hy
          · have := hy.xor ((h v).mp hv)
            rw [xor_xor_self] at this
            exact (h y).mpr this
      · rw [mem_addAll, mem_addAll]
        simp only [List.not_mem_nil, false_or, List.mem_map]
        constructor
        · rintro (hy | ⟨z, hz, rfl⟩)
          · exact .inl ((h y).mp hy)
          · right
            rw [Nat.xor_comm v z, xor_xor_self]
            exact (h z).mp hz
        · rintro (hy | hy)
          · exact .inl ((h y).mpr hy)
          · exact .inr ⟨y ^^^ v, (h _).mpr hy, by rw [Nat.xor_comm v, xor_xor_self]⟩
  have := key l [] [0] (fun y => by
    rw [List.mem_singleton]
    exact ⟨fun h => h ▸ .zero, Sp.nil⟩)
  rwa [List.nil_append] at this

/-! ### reduced rows -/
structure Red (R : List Nat) : Prop where
  pos : ∀ r ∈ R, r ≠ 0
  red : R.Pairwise fun r s => s.testBit r.log2 = false ∧ r.testBit s.log2 = false
theorem Red.ne {R : List Nat} (h : Red R) {r s : Nat} (hr : r ∈ R) (hs : s ∈ R) (hn : r ≠ s) : s.testBit r.log2 = false := by
  have key : ∀ {R : List Nat}, R.Pairwise (fun r s => s.testBit r.log2 = false ∧ r.testBit s.log2 = false) → r ∈ R → s ∈ R → s.testBit r.log2 = false := by
    intro R h hr hs
    induction h with
    | nil => cases hr
    | cons h1 _ ih =>
      rcases List.mem_cons.mp hr with e | hr' <;> rcases List.mem_cons.mp hs with e' | hs'
      · exact absurd (e.trans e'.symm) hn
      · subst e; exact (h1 _ hs').1
      · subst e'; exact (h1 _ hr').2
      · exact ih hr' hs'
  exact key h.red hr hs
theorem Red.nil : Red [] := ⟨by simp, List.Pairwise.nil⟩
theorem Red.nodup {R : List Nat} (h : Red R) : R.Nodup := by
  have h1 := h.pos
  refine List.Pairwise.imp_of_mem (S := (· ≠ ·)) ?_ h.red
  rintro a b ha _ ⟨e, _⟩ rfl
  rw [Nat.testBit_log2 (h1 a ha)] at e
  cases e
theorem Red.tops {R : List Nat} (h : Red R) {r s : Nat} (hr : r ∈ R) (hs : s ∈ R) (he : r.log2 = s.log2) : r = s := Classical.byContradiction fun hn => by
  have := h.ne hr hs hn
  rw [he, Nat.testBit_log2 (h.pos s hs)] at this
  cases this
theorem Red.perm {R R' : List Nat} (h : Red R) (hp : R.Perm R') : Red R' := ⟨fun r hr => h.pos r (hp.mem_iff.mpr hr), h.red.perm hp (fun {a b} h => ⟨h.2, h.1⟩)⟩
/-- the rows that a number names by its bits -/
def comb (R : List Nat) (y : Nat) : Nat := R.foldr (fun r acc => if y.testBit r.log2 = true then r ^^^ acc else acc) 0
theorem comb_zero (R : List Nat) : comb R 0 = 0 := by
  induction R with
  | nil => rfl
  | cons r R ih => show (if (0 : Nat).testBit r.log2 = true then r ^^^ comb R 0 else comb R 0) = 0; rw [Nat.zero_testBit, if_neg (by decide)]; exact ih
theorem comb_xor (R : List Nat) (x y : Nat) : comb R (x ^^^ y) = comb R x ^^^ comb R y := by
  induction R with
  | nil => exact (Nat.xor_self 0).symm
  | cons r R ih =>
    show (if (x ^^^ y).testBit r.log2 = true then r ^^^ comb R (x ^^^ y) else comb R (x ^^^ y)) = (if x.testBit r.log2 = true then r ^^^ comb R x else comb R x) ^^^ (if y.testBit r.log2 = true then r ^^^ comb R y else comb R y)
    rw [ih, Nat.testBit_xor]
    cases x.testBit r.log2 <;> cases y.testBit r.log2 <;> simp
    · rw [← Nat.xor_assoc, ← Nat.xor_assoc, Nat.xor_comm r]
    · rw [Nat.xor_assoc]
    · rw [Nat.xor_comm r (comb R x), Nat.xor_assoc (comb R x), ← Nat.xor_assoc r r, Nat.xor_self, Nat.zero_xor]
theorem comb_none {R : List Nat} {y : Nat} (h : ∀ r ∈ R, y.testBit r.log2 = false) : comb R y = 0 := by
  induction R with
  | nil => rfl
  | cons r R ih =>
    show (if y.testBit r.log2 = true then r ^^^ comb R y else comb R y) = 0
    rw [h r (List.mem_cons_self ..), if_neg (by decide)]
    exact ih fun s hs => h s (List.mem_cons_of_mem _ hs)
theorem comb_row : ∀ {R : List Nat} (_ : Red R) {r : Nat}, r ∈ R → comb R r = r
  | s :: R, h, r, hr => by
    have hR : Red R := ⟨fun x hx => h.pos x (List.mem_cons_of_mem _ hx), (List.pairwise_cons.mp h.red).2⟩
    show (if r.testBit s.log2 = true then s ^^^ comb R r else comb R r) = r
    by_cases e : r = s
    · subst e
      rw [Nat.testBit_log2 (h.pos r (List.mem_cons_self ..)), if_pos rfl, comb_none fun x hx => ((List.pairwise_cons.mp h.red).1 x hx).2, Nat.xor_zero]
    · have hr' : r ∈ R := (List.mem_cons.mp hr).resolve_left e
      rw [((List.pairwise_cons.mp h.red).1 r hr').1, if_neg (by decide)]
      exact comb_row hR hr'
theorem Sp.comb {R : List Nat} (h : Red R) {y : Nat} (hy : Sp R y) : comb R y = y := by
  induction hy with
  | zero => exact comb_zero R
  | add hr _ ih => rw [comb_xor, ih, comb_row h hr]
/-- an element's highest bit is a row's -/
theorem Red.top {R : List Nat} (h : Red R) {y : Nat} (hy : Sp R y) (h0 : y ≠ 0) : ∃ r ∈ R, r.log2 = y.log2 := by
  have key : ∀ (l : List Nat) (t : Nat), (∀ r ∈ l, y.testBit r.log2 = true → r.log2 ≤ t) → (comb l y).testBit t = true → ∃ r ∈ l, r.log2 = t := by
    intro l t
    induction l with
    | nil => intro _ e; simp [comb] at e
    | cons r l ih =>
      intro hl e
      have e' : (if y.testBit r.log2 = true then r ^^^ comb l y else comb l y).testBit t = true := e
      have hl' : ∀ s ∈ l, y.testBit s.log2 = true → s.log2 ≤ t := fun s hs => hl s (List.mem_cons_of_mem _ hs)
      by_cases c : y.testBit r.log2 = true
      · rw [if_pos c, Nat.testBit_xor] at e'
        by_cases c2 : r.testBit t = true
        · have := testBit_le_log2 c2
          have := hl r (List.mem_cons_self ..) c
          exact ⟨r, List.mem_cons_self .., by omega⟩
        · have c3 : r.testBit t = false := by simpa using c2
          rw [c3, Bool.false_xor] at e'
          obtain ⟨s, hs, e2⟩ := ih hl' e'
          exact ⟨s, List.mem_cons_of_mem _ hs, e2⟩
      · rw [if_neg c] at e'
        obtain ⟨s, hs, e2⟩ := ih hl' e'
        exact ⟨s, List.mem_cons_of_mem _ hs, e2⟩
  refine key R y.log2 (fun r _ e => testBit_le_log2 e) ?_
  rw [hy.comb h]
  exact Nat.testBit_log2 h0
/-- the row is the least one with its highest bit -/
theorem Red.least {R : List Nat} (h : Red R) {r y : Nat} (hr : r ∈ R) (hy : Sp R y) (h0 : y ≠ 0) (ht : y.log2 = r.log2) : r ≤ y := by
  by_cases e : r = y
  · omega
  have hz := xor_ne_zero e
  obtain ⟨s, hs, es⟩ := h.top ((Sp.mem hr).xor hy) hz
  have hn : s ≠ r := by
    rintro rfl
    have h1 : (s ^^^ y).testBit s.log2 = false := by rw [Nat.testBit_xor, Nat.testBit_log2 (h.pos s hr), ← ht, Nat.testBit_log2 h0]; rfl
    rw [es, Nat.testBit_log2 hz] at h1
    cases h1
  have h1 := h.ne hs hr hn
  rw [es] at h1
  have := lt_xor_of hz h1
  rw [← Nat.xor_assoc, Nat.xor_self, Nat.zero_xor] at this
  omega
/-! ### what remains -/
def remN (x : Nat) (R : List Nat) : Nat := R.foldl (fun l r => min l (l ^^^ r)) x
theorem rem_step {R : List Nat} (l x : Nat) (hl : ∀ r ∈ R, r ≠ 0) : Sp R (x ^^^ l) → Sp R (x ^^^ remN l R) := by
  have key : ∀ (T : List Nat) (l : Nat), (∀ r ∈ T, r ∈ R) → Sp R (x ^^^ l) → Sp R (x ^^^ remN l T) := by
    intro T
    induction T with
    | nil => intro l _ h; exact h
    | cons t T ih =>
      intro l hT h
      refine ih (min l (l ^^^ t)) (fun r hr => hT r (List.mem_cons_of_mem _ hr)) ?_
      rw [min_xor (hl t (hT t (List.mem_cons_self ..)))]
      split
      · rw [← Nat.xor_assoc]; exact .add (hT t (List.mem_cons_self ..)) h
      · exact h
  exact key R l fun r hr => hr
theorem rem_sp {R : List Nat} (h : ∀ r ∈ R, r ≠ 0) (x : Nat) : Sp R (x ^^^ remN x R) := rem_step x x h (by rw [Nat.xor_self]; exact .zero)
theorem rem_bits {R : List Nat} (h : Red R) : ∀ (x : Nat), ∀ r ∈ R, (remN x R).testBit r.log2 = false := by
  have keep : ∀ (T : List Nat) (x b : Nat), (∀ t ∈ T, t ≠ 0 ∧ t.testBit b = false) → x.testBit b = false → (remN x T).testBit b = false := by
    intro T
    induction T with
    | nil => intro x b _ h; exact h
    | cons t T ih =>
      intro x b hT hx
      refine ih _ b (fun s hs => hT s (List.mem_cons_of_mem _ hs)) ?_
      have := hT t (List.mem_cons_self ..)
      show (min x (x ^^^ t)).testBit b = false
      rw [min_xor this.1]
      split
      · rw [Nat.testBit_xor, hx, this.2]; rfl
      · exact hx
  have key : ∀ (T : List Nat), Red T → ∀ x, ∀ r ∈ T, (remN x T).testBit r.log2 = false := by
    intro T
    induction T with
    | nil => intro _ _ _ h; cases h
    | cons t T ih =>
      intro h x r hr
      have hT : Red T := ⟨fun x hx => h.pos x (List.mem_cons_of_mem _ hx), (List.pairwise_cons.mp h.red).2⟩
      rcases List.mem_cons.mp hr with e | hr
      · subst e
        refine keep T _ _ (fun s hs => ⟨hT.pos s hs, ((List.pairwise_cons.mp h.red).1 s hs).1⟩) ?_
        have h0 := h.pos r (List.mem_cons_self ..)
        show (min x (x ^^^ r)).testBit r.log2 = false
        rw [min_xor h0]
        split
        · rename_i c
          rw [Nat.testBit_xor, c, Nat.testBit_log2 h0]; rfl
        · rename_i c
          simpa using c
      · exact ih hT _ r hr
  exact key R h
theorem rem_zero {R : List Nat} (h : Red R) (x : Nat) : remN x R = 0 ↔ Sp R x := by
  constructor
  · intro e
    have := rem_sp h.pos x
    rwa [e, Nat.xor_zero] at this
  · intro hx
    have h1 : Sp R (remN x R) := by
      have := hx.xor (rem_sp h.pos x)
      rwa [← Nat.xor_assoc, Nat.xor_self, Nat.zero_xor] at this
    rw [← h1.comb h]
    exact comb_none (rem_bits h x)
/-! ### the rows of a basis -/
def addRow (R : List Nat) (v : Nat) : List Nat := if 0 < remN v R then R.map (fun r => min r (r ^^^ remN v R)) ++ [remN v R] else R
def rowsN (vs : List Nat) : List Nat := vs.foldl addRow []
theorem addRow_ok {R done : List Nat} {v : Nat} (h : Red R) (hs : ∀ x, Sp R x ↔ Sp done x) : Red (addRow R v) ∧ ∀ x, Sp (addRow R v) x ↔ Sp (done ++ [v]) x := by
  unfold addRow
  have hrem := rem_sp h.pos v
  have hz := rem_zero h v
  have hb := rem_bits h v
  generalize remN v R = l at *
  by_cases hl : 0 < l
  · rw [if_pos hl]
    have l0 : l ≠ 0 := by omega
    have lt : ∀ r ∈ R, l.log2 ≠ r.log2 := fun r hr e => by
      have := hb r hr
      rw [← e, Nat.testBit_log2 l0] at this
      cases this
    have new : ∀ r ∈ R, min r (r ^^^ l) = (if r.testBit l.log2 = true then r ^^^ l else r) ∧ (min r (r ^^^ l)).log2 = r.log2 ∧ (min r (r ^^^ l)).testBit l.log2 = false ∧ min r (r ^^^ l) ≠ 0 := by
      intro r hr
      have e := min_xor (x := r) l0
      refine ⟨e, ?_⟩
      rw [e]
      by_cases c : r.testBit l.log2 = true
      · rw [if_pos c]
        have h1 := testBit_le_log2 c
        have h2 := lt r hr
        have h4 : (r ^^^ l).testBit r.log2 = true := by rw [Nat.testBit_xor, Nat.testBit_log2 (h.pos r hr), hb r hr]; rfl
        have h3 : (r ^^^ l).log2 = r.log2 := log2_of h4 (fun j hj => by
          rw [Nat.testBit_xor, testBit_above hj, testBit_above (x := l) (by omega)]; rfl)
        refine ⟨h3, by rw [Nat.testBit_xor, c, Nat.testBit_log2 l0]; rfl, fun z => ?_⟩
        rw [z] at h4; simp at h4
      · rw [if_neg c]
        exact ⟨rfl, by simpa using c, h.pos r hr⟩
    refine ⟨⟨?_, ?_⟩, fun x => ?_⟩
    · intro r hr
      rcases List.mem_append.mp hr with hr | hr
      · obtain ⟨s, hs, rfl⟩ := List.mem_map.mp hr
        exact (new s hs).2.2.2
      · rw [List.mem_singleton.mp hr]; exact l0
    · refine List.pairwise_append.mpr ⟨List.pairwise_map.mpr (h.red.imp_of_mem ?_), List.pairwise_singleton .., ?_⟩
      · rintro a b ha hb' ⟨h1, h2⟩
        rw [(new a ha).2.1, (new b hb').2.1, (new a ha).1, (new b hb').1]
        constructor
        · split
          · rw [Nat.testBit_xor, h1, hb a ha]; rfl
          · exact h1
        · split
          · rw [Nat.testBit_xor, h2, hb b hb']; rfl
          · exact h2
      · intro a ha b hb'
        obtain ⟨s, hs, rfl⟩ := List.mem_map.mp ha
        rw [List.mem_singleton.mp hb', (new s hs).2.1]
        exact ⟨hb s hs, (new s hs).2.2.1⟩
    · have hspan : ∀ x, Sp (R.map (fun r => min r (r ^^^ l)) ++ [l]) x ↔ Sp (R ++ [l]) x := by
        refine sp_congr (fun y hy => ?_) (fun y hy => ?_)
        · rcases List.mem_append.mp hy with hy | hy
          · obtain ⟨s, hs, rfl⟩ := List.mem_map.mp hy
            rw [(new s hs).1]
            have h1 : Sp (R ++ [l]) s := .mem (List.mem_append_left _ hs)
            split
            · exact h1.xor (.mem (List.mem_append_right _ (List.mem_singleton.mpr rfl)))
            · exact h1
          · exact .mem (List.mem_append_right _ hy)
        · rcases List.mem_append.mp hy with hy | hy
          · have h1 : Sp (R.map (fun r => min r (r ^^^ l)) ++ [l]) (min y (y ^^^ l)) := .mem (List.mem_append_left _ (List.mem_map.mpr ⟨y, hy, rfl⟩))
            rw [(new y hy).1] at h1
            split at h1
            · have := h1.xor (.mem (List.mem_append_right _ (List.mem_singleton.mpr rfl)))
              rwa [xor_xor_self] at this
            · exact h1
          · exact .mem (List.mem_append_right _ hy)
      rw [hspan, sp_snoc, sp_snoc, hs, hs]
      have hvl : Sp done (v ^^^ l) := (hs _).mp hrem
      constructor
      · rintro (h1 | h1)
        · exact .inl h1
        · right
          have := h1.xor hvl
          rwa [Nat.xor_comm v l, ← Nat.xor_assoc, xor_xor_self] at this
      · rintro (h1 | h1)
        · exact .inl h1
        · right
          have := h1.xor hvl
          rwa [← Nat.xor_assoc, xor_xor_self] at this
  · rw [if_neg hl]
    have hv : Sp done v := (hs v).mp (hz.mp (by omega))
    refine ⟨h, fun x => ?_⟩
    rw [hs, sp_snoc]
    constructor
    · exact .inl
    · rintro (h1 | h1)
      · exact h1
      · have := h1.xor hv
        rwa [xor_xor_self] at this
theorem rows_fold : ∀ (vs R done : List Nat), Red R → (∀ x, Sp R x ↔ Sp done x) → Red (vs.foldl addRow R) ∧ ∀ x, Sp (vs.foldl addRow R) x ↔ Sp (done ++ vs) x
  | [], R, done, h, hs => by rw [List.append_nil]; exact ⟨h, hs⟩
  | v :: vs, R, done, h, hs => by
    have := addRow_ok (v := v) h hs
    have r := rows_fold vs (addRow R v) (done ++ [v]) this.1 this.2
    have e : done ++ v :: vs = (done ++ [v]) ++ vs := by simp
    rw [e]
    exact r
theorem rows_red (vs : List Nat) : Red (rowsN vs) := (rows_fold vs [] [] .nil fun x => Iff.rfl).1
theorem rows_sp (vs : List Nat) (x : Nat) : Sp (rowsN vs) x ↔ Sp vs x := by
  have := (rows_fold vs [] [] .nil fun x => Iff.rfl).2 x
  rwa [List.nil_append] at this
/-! ### the basis of a space -/
structure IsBas (S : Nat → Prop) (B : List Nat) : Prop where
  up : B.Pairwise (· < ·)
  sub : ∀ b ∈ B, S b
  ne : ∀ b ∈ B, b ≠ 0
  least : ∀ b ∈ B, ∀ y, S y → y ≠ 0 → y.log2 = b.log2 → b ≤ y
  all : ∀ y, S y → y ≠ 0 → ∃ b ∈ B, b.log2 = y.log2
theorem IsBas.uniq {S : Nat → Prop} {B B' : List Nat} (h : IsBas S B) (h' : IsBas S B') : B = B' := by
  have key : ∀ {B B' : List Nat}, IsBas S B → IsBas S B' → ∀ x ∈ B, x ∈ B' := by
    intro B B' h h' x hx
    obtain ⟨b, hb, e⟩ := h'.all x (h.sub x hx) (h.ne x hx)
    have h1 := h'.least b hb x (h.sub x hx) (h.ne x hx) e.symm
    have h2 := h.least x hx b (h'.sub b hb) (h'.ne b hb) e
    have : b = x := by omega
    rwa [this] at hb
  exact asc_uniq h.up h'.up fun k => ⟨key h h' k, key h' h k⟩
theorem IsBas.congr {S S' : Nat → Prop} {B : List Nat} (h : IsBas S B) (e : ∀ x, S x ↔ S' x) : IsBas S' B :=
  ⟨h.up, fun b hb => (e b).mp (h.sub b hb), h.ne, fun b hb y hy => h.least b hb y ((e y).mpr hy), fun y hy => h.all y ((e y).mpr hy)⟩
def basN (vs : List Nat) : List Nat := ascN (rowsN vs)
theorem srt_asc {l : List Nat} (h : l.Nodup) : srtN l = ascN l := by
  have h1 : (srtN l).Nodup := (srtN_perm l).symm.nodup h
  refine asc_uniq ?_ (ascN_asc l) fun k => ?_
  · exact (List.pairwise_and_iff.mpr ⟨srtN_up l, h1⟩).imp fun {a b} ⟨h1, h2⟩ => by omega
  · rw [mem_ascN]; exact (srtN_perm l).mem_iff
theorem asc_perm {l : List Nat} (h : l.Nodup) : (ascN l).Perm l := by rw [← srt_asc h]; exact srtN_perm l
theorem bas_red (vs : List Nat) : Red (basN vs) := (rows_red vs).perm (asc_perm (rows_red vs).nodup).symm
theorem bas_sp (vs : List Nat) (x : Nat) : Sp (basN vs) x ↔ Sp vs x := by rw [← rows_sp vs]; exact sp_mem (fun y => mem_ascN) x
theorem Red.isBas {R : List Nat} (h : Red R) (hu : R.Pairwise (· < ·)) : IsBas (Sp R) R :=
  ⟨hu, fun b hb => .mem hb, h.pos, fun b hb y hy h0 e => h.least hb hy h0 e, fun y hy h0 => h.top hy h0⟩
theorem bas_is (vs : List Nat) : IsBas (Sp vs) (basN vs) := ((bas_red vs).isBas (ascN_asc _)).congr (bas_sp vs)
theorem bas_uniq {vs B : List Nat} (h : IsBas (Sp vs) B) : basN vs = B := (bas_is vs).uniq h
theorem bas_congr {vs ws : List Nat} (h : ∀ x, Sp vs x ↔ Sp ws x) : basN vs = basN ws := bas_uniq ((bas_is ws).congr fun x => (h x).symm)
theorem bas_lt {vs : List Nat} {n : Nat} (h : ∀ v ∈ vs, v < 2 ^ n) : ∀ b ∈ basN vs, b < 2 ^ n := fun b hb => ((bas_sp vs b).mp (.mem hb)).lt h
/-! ### elements, counted -/
def elsN (R : List Nat) : List Nat := R.foldl (fun f r => f ++ f.map (· ^^^ r)) [0]
theorem els_len (R : List Nat) : (elsN R).length = 2 ^ R.length := by
  have key : ∀ (R f : List Nat), (R.foldl (fun f r => f ++ f.map (· ^^^ r)) f).length = f.length * 2 ^ R.length := by
    intro R
    induction R with
    | nil => intro f; simp
    | cons r R ih =>
      intro f
      rw [List.foldl_cons, ih, List.length_append, List.length_map, List.length_cons, Nat.pow_succ, ← Nat.two_mul, Nat.mul_comm 2, Nat.mul_assoc, Nat.mul_comm 2]
  unfold elsN
  rw [key]
  simp
theorem mem_els {x : Nat} (R : List Nat) : x ∈ elsN R ↔ Sp R x := by
  have key : ∀ (R done f : List Nat), (∀ y, y ∈ f ↔ Sp done y) → (x ∈ R.foldl (fun f r => f ++ f.map (· ^^^ r)) f ↔ Sp (done ++ R) x) := by
    intro R
    induction R with
    | nil => intro done f h; rw [List.append_nil]; exact h x
    | cons r R ih =>
      intro done f h
      have e : done ++ r :: R = (done ++ [r]) ++ R := by simp
      rw [List.foldl_cons, e]
      refine ih _ _ fun y => ?_
      rw [List.mem_append, sp_snoc, h]
      refine or_congr Iff.rfl ?_
      rw [List.mem_map]
      constructor
      · rintro ⟨z, hz, rfl⟩
        rw [xor_xor_self]
        exact (h z).mp hz
      · intro hy
        exact ⟨y ^^^ r, (h _).mpr hy, xor_xor_self y r⟩
  have := key R [] [0] fun y => by
    rw [List.mem_singleton]
    exact ⟨fun h => h ▸ .zero, Sp.nil⟩
  rwa [List.nil_append] at this
theorem nodup_els {R : List Nat} (h : Red R) : (elsN R).Nodup := by
  have key : ∀ (R done f : List Nat), Red (done ++ R) → (∀ y, y ∈ f ↔ Sp done y) → f.Nodup → (R.foldl (fun f r => f ++ f.map (· ^^^ r)) f).Nodup := by
    intro R
    induction R with
    | nil => intro _ f _ _ h; exact h
    | cons r R ih =>
      intro done f hR h hn
      have e : done ++ r :: R = (done ++ [r]) ++ R := by simp
      rw [List.foldl_cons]
      have hd : Red done := ⟨fun x hx => hR.pos x (List.mem_append_left _ hx), (List.pairwise_append.mp hR.red).1⟩
      have hnr : ¬ Sp done r := fun z => by
        have h1 := z.comb hd
        rw [comb_none fun s hs => ((List.pairwise_append.mp hR.red).2.2 s hs r (List.mem_cons_self ..)).1] at h1
        exact hR.pos r (List.mem_append_right _ (List.mem_cons_self ..)) h1.symm
      refine ih (done ++ [r]) _ (e ▸ hR) (fun y => ?_) ?_
      · rw [List.mem_append, sp_snoc, h]
        refine or_congr Iff.rfl ?_
        rw [List.mem_map]
        constructor
        · rintro ⟨z, hz, rfl⟩
          rw [xor_xor_self]
          exact (h z).mp hz
        · intro hy
          exact ⟨y ^^^ r, (h _).mpr hy, xor_xor_self y r⟩
      · refine List.nodup_append.mpr ⟨hn, ?_, ?_⟩
        · refine List.pairwise_map.mpr (hn.imp fun {a b} hab e => hab ?_)
          have := congrArg (· ^^^ r) e
          simpa [xor_xor_self] using this
        · rintro a ha b hb rfl
          obtain ⟨z, hz, e⟩ := List.mem_map.mp hb
          have h1 := ((h z).mp hz).xor ((h a).mp ha)
          rw [← e, ← Nat.xor_assoc, Nat.xor_self, Nat.zero_xor] at h1
          exact hnr h1
  exact key R [] [0] h (fun y => by
    rw [List.mem_singleton]
    exact ⟨fun h => h ▸ .zero, Sp.nil⟩) (by simp)
theorem len_of_mem {a b : List Nat} (ha : a.Nodup) (hb : b.Nodup) (h : ∀ x, x ∈ a ↔ x ∈ b) : a.length = b.length := ((List.perm_ext_iff_of_nodup ha hb).mpr h).length_eq
theorem span_nodup (l : List Nat) : (spanL l).Nodup := by
  have key : ∀ (l S : List Nat), S.Nodup → (l.foldl grow S).Nodup := by
    intro l
    induction l with
    | nil => intro S h; exact h
    | cons x l ih => intro S h; exact ih _ (grow_nodup h)
  exact key l [0] (by simp)
theorem span_count (l : List Nat) : (spanL l).length = 2 ^ (basN l).length := by
  rw [← els_len]
  exact len_of_mem (span_nodup l) (nodup_els (bas_red l)) fun x => by rw [mem_spanL, mem_els, bas_sp]
theorem asc_len {l : List Nat} (h : l.Nodup) : (ascN l).length = l.length := (asc_perm h).length_eq
theorem bas_len_le {vs : List Nat} {n : Nat} (h : ∀ v ∈ vs, v < 2 ^ n) : (basN vs).length ≤ n := by
  have h1 := nodup_len (2 ^ n) (spanL vs) (span_nodup vs) (fun x hx => ((mem_spanL vs).mp hx).lt h)
  rw [span_count] at h1
  exact (Nat.pow_le_pow_iff_right (by decide)).mp h1
end XB

/-! YB: parity of common bits, annihilators, dimensions, banks. -/
namespace XB
theorem par_xor (a b : Nat) : par (a ^^^ b) = (par a + par b) % 2 := by
  have key : ∀ n a b : Nat, a + b ≤ n → par (a ^^^ b) = (par a + par b) % 2 := by
    intro n
    induction n with
    | zero =>
      intro a b h
      have h1 : a = 0 := by omega
      have h2 : b = 0 := by omega
      subst h1 h2
      rw [Nat.xor_self, par_zero]
    | succ n ih =>
      intro a b h
      by_cases h0 : a + b = 0
      · exact ih a b (by omega)
      · rw [par_eq (a ^^^ b), par_eq a, par_eq b, Nat.xor_div_two, ih (a / 2) (b / 2) (by omega)]
        have e : (a ^^^ b) % 2 = (a % 2 + b % 2) % 2 := by
          have h1 := Nat.testBit_xor a b 0
          simp only [Nat.testBit_zero] at h1
          rcases Nat.mod_two_eq_zero_or_one a with x | x <;> rcases Nat.mod_two_eq_zero_or_one b with y | y <;> rcases Nat.mod_two_eq_zero_or_one (a ^^^ b) with z | z <;> rw [x, y, z] at h1 <;> simp_all
        rw [e]
        omega
  exact key (a + b) a b (Nat.le_refl _)
/-- odd: the number of common bits -/
def od (m x : Nat) : Bool := decide (par (m &&& x) = 1)
theorem par_od (m x : Nat) : par (m &&& x) = (od m x).toNat := by
  have := par_lt (m &&& x)
  unfold od
  rcases (by omega : par (m &&& x) = 0 ∨ par (m &&& x) = 1) with h | h <;> rw [h] <;> rfl
theorem od_false {m x : Nat} : od m x = false ↔ par (m &&& x) = 0 := by
  rw [par_od]
  cases od m x <;> simp
theorem od_comm (m x : Nat) : od m x = od x m := by unfold od; rw [Nat.and_comm]
theorem od_xor (m x y : Nat) : od m (x ^^^ y) = (od m x ^^ od m y) := by
  have h := par_xor (m &&& x) (m &&& y)
  rw [← Nat.and_xor_distrib_left, par_od, par_od, par_od] at h
  revert h
  cases od m (x ^^^ y) <;> cases od m x <;> cases od m y <;> decide
theorem od_xor_left (m n x : Nat) : od (m ^^^ n) x = (od m x ^^ od n x) := by rw [od_comm, od_xor, od_comm x, od_comm x]
theorem od_zero (m : Nat) : od m 0 = false := by rw [od_false, Nat.and_zero, par_zero]
theorem zero_od (m : Nat) : od 0 m = false := by rw [od_comm, od_zero]
theorem par_pow (i : Nat) : par (2 ^ i) = 1 := by
  induction i with
  | zero => rw [Nat.pow_zero, par_eq]; show (1 + par 0) % 2 = 1; rw [par_zero]
  | succ i ih =>
    have h1 : 2 ^ (i + 1) % 2 = 0 := by rw [Nat.pow_succ]; omega
    have h2 : 2 ^ (i + 1) / 2 = 2 ^ i := by rw [Nat.pow_succ]; omega
    rw [par_eq, h1, h2, ih]
theorem od_pow (i x : Nat) : od (2 ^ i) x = x.testBit i := by
  have e : 2 ^ i &&& x = if x.testBit i = true then 2 ^ i else 0 := by
    apply Nat.eq_of_testBit_eq
    intro j
    rw [Nat.testBit_and, Nat.testBit_two_pow]
    by_cases h : i = j
    · subst h
      cases hx : x.testBit i <;> simp
    · rw [decide_eq_false h, Bool.false_and]
      split
      · rw [Nat.testBit_two_pow, decide_eq_false h]
      · rw [Nat.zero_testBit]
  unfold od
  rw [e]
  cases x.testBit i with
  | true => rw [if_pos rfl, par_pow]; rfl
  | false => rw [if_neg (by decide), par_zero]; rfl
theorem od_sp {l : List Nat} {m x : Nat} (h : ∀ v ∈ l, od m v = false) (hx : Sp l x) : od m x = false := by
  induction hx with
  | zero => exact od_zero m
  | add hy _ ih => rw [od_xor, ih, h _ hy]; rfl
/-! ### sums of powers of two -/
theorem pow_add_xor {i x : Nat} (h : x.testBit i = false) : 2 ^ i + x = 2 ^ i ^^^ x := by
  induction i generalizing x with
  | zero =>
    rw [Nat.testBit_zero] at h
    have hx : x % 2 = 0 := by have := of_decide_eq_false h; omega
    apply Nat.eq_of_testBit_eq
    intro j
    rw [Nat.testBit_xor]
    cases j with
    | zero =>
      rw [Nat.testBit_zero, Nat.testBit_zero, Nat.testBit_zero, hx]
      have : (2 ^ 0 + x) % 2 = 1 := by omega
      rw [this]; rfl
    | succ j =>
      rw [Nat.testBit_succ, Nat.testBit_succ, Nat.testBit_succ]
      have : (2 ^ 0 + x) / 2 = x / 2 := by omega
      rw [this]; simp
  | succ i ih =>
    rw [Nat.testBit_succ] at h
    have h1 := ih h
    have h2 : (2 ^ (i + 1) ^^^ x) / 2 = 2 ^ i ^^^ x / 2 := by
      rw [Nat.xor_div_two]
      congr 1
      rw [Nat.pow_succ]; omega
    have h3 : (2 ^ (i + 1) ^^^ x) % 2 = x % 2 := by
      have := Nat.testBit_xor (2 ^ (i + 1)) x 0
      simp only [Nat.testBit_zero] at this
      have h4 : 2 ^ (i + 1) % 2 = 0 := by rw [Nat.pow_succ]; omega
      rw [h4] at this
      rcases Nat.mod_two_eq_zero_or_one x with y | y <;> rcases Nat.mod_two_eq_zero_or_one (2 ^ (i + 1) ^^^ x) with z | z <;> rw [y, z] at this <;> simp_all
    have h5 : 2 ^ (i + 1) = 2 * 2 ^ i := by rw [Nat.pow_succ, Nat.mul_comm]
    omega
def powSum (ts : List Nat) : Nat := (ts.map (2 ^ ·)).sum
theorem powSum_bit : ∀ {ts : List Nat}, ts.Nodup → ∀ i, (powSum ts).testBit i = decide (i ∈ ts)
  | [], _, i => by simp [powSum]
  | t :: ts, h, i => by
    obtain ⟨h1, h2⟩ := List.nodup_cons.mp h
    have ih := powSum_bit h2
    have e : powSum (t :: ts) = 2 ^ t ^^^ powSum ts := by
      show 2 ^ t + powSum ts = _
      exact pow_add_xor (by rw [ih]; exact decide_eq_false h1)
    rw [e, Nat.testBit_xor, ih, Nat.testBit_two_pow]
    by_cases c : t = i
    · subst c; simp [h1]
    · have : ¬ i = t := fun z => c z.symm
      simp [c, this]
theorem powSum_cons {t : Nat} {ts : List Nat} (h : (t :: ts).Nodup) : powSum (t :: ts) = 2 ^ t ^^^ powSum ts := by
  obtain ⟨h1, h2⟩ := List.nodup_cons.mp h
  show 2 ^ t + powSum ts = _
  exact pow_add_xor (by rw [powSum_bit h2]; exact decide_eq_false h1)
def oddOf (ts : List Nat) (x : Nat) : Bool := ts.foldr (fun t acc => x.testBit t ^^ acc) false
theorem od_powSum : ∀ {ts : List Nat}, ts.Nodup → ∀ x, od (powSum ts) x = oddOf ts x
  | [], _, x => zero_od x
  | t :: ts, h, x => by
    rw [powSum_cons h, od_xor_left, od_pow, od_powSum (List.nodup_cons.mp h).2]
    rfl
theorem powSum_lt {ts : List Nat} {n : Nat} (h : ts.Nodup) (hl : ∀ t ∈ ts, t < n) : powSum ts < 2 ^ n := Nat.lt_pow_two_of_testBit _ fun i hi => by
  rw [powSum_bit h]
  exact decide_eq_false fun z => by have := hl i z; omega
/-! ### annihilators -/
def topsOf (R : List Nat) : List Nat := R.map Nat.log2
def annTs (R : List Nat) (b : Nat) : List Nat := (R.filter (fun r => r.testBit b)).map Nat.log2
def annMask (R : List Nat) (b : Nat) : Nat := powSum (b :: annTs R b)
theorem Red.topsNodup {R : List Nat} (h : Red R) : (topsOf R).Nodup := by
  refine List.pairwise_map.mpr (List.Pairwise.imp_of_mem (S := fun a b => a.log2 ≠ b.log2) ?_ h.red)
  rintro a b ha hb ⟨h1, _⟩ e
  rw [e, Nat.testBit_log2 (h.pos b hb)] at h1
  cases h1
theorem annTs_sub {R : List Nat} {b i : Nat} (h : i ∈ annTs R b) : i ∈ topsOf R := by
  obtain ⟨r, hr, rfl⟩ := List.mem_map.mp h
  exact List.mem_map.mpr ⟨r, (List.mem_filter.mp hr).1, rfl⟩
theorem annTs_nodup {R : List Nat} (h : Red R) (b : Nat) : (annTs R b).Nodup := by
  have := h.topsNodup
  exact this.sublist (List.Sublist.map _ List.filter_sublist)
theorem ann_nodup {R : List Nat} (h : Red R) {b : Nat} (hb : b ∉ topsOf R) : (b :: annTs R b).Nodup := List.nodup_cons.mpr ⟨fun z => hb (annTs_sub z), annTs_nodup h b⟩
theorem oddOf_none {ts : List Nat} {x : Nat} (h : ∀ t ∈ ts, x.testBit t = false) : oddOf ts x = false := by
  induction ts with
  | nil => rfl
  | cons t ts ih =>
    show (x.testBit t ^^ oddOf ts x) = false
    rw [h t (List.mem_cons_self ..), ih fun s hs => h s (List.mem_cons_of_mem _ hs)]; rfl
theorem oddOf_row (p : Nat → Bool) : ∀ {R : List Nat}, Red R → ∀ {r : Nat}, r ∈ R → oddOf ((R.filter p).map Nat.log2) r = p r
  | s :: R, h, r, hr => by
    have hR : Red R := ⟨fun x hx => h.pos x (List.mem_cons_of_mem _ hx), (List.pairwise_cons.mp h.red).2⟩
    have hp := (List.pairwise_cons.mp h.red).1
    rw [List.filter_cons]
    by_cases e : r = s
    · subst e
      have hz : oddOf ((R.filter p).map Nat.log2) r = false := oddOf_none fun t ht => by
        obtain ⟨u, hu, rfl⟩ := List.mem_map.mp ht
        exact (hp u (List.mem_filter.mp hu).1).2
      cases hpr : p r with
      | true =>
        rw [if_pos rfl]
        show (r.testBit r.log2 ^^ oddOf ((R.filter p).map Nat.log2) r) = true
        rw [hz, Nat.testBit_log2 (h.pos r (List.mem_cons_self ..))]; rfl
      | false => rw [if_neg (by decide)]; exact hz
    · have hr' : r ∈ R := (List.mem_cons.mp hr).resolve_left e
      have ih := oddOf_row p hR hr'
      split
      · show (r.testBit s.log2 ^^ oddOf ((R.filter p).map Nat.log2) r) = p r
        rw [(hp r hr').1, ih]; simp
      · exact ih
theorem ann_row {R : List Nat} (h : Red R) {b r : Nat} (hb : b ∉ topsOf R) (hr : r ∈ R) : od (annMask R b) r = false := by
  unfold annMask
  rw [od_powSum (ann_nodup h hb)]
  show (r.testBit b ^^ oddOf (annTs R b) r) = false
  unfold annTs
  rw [oddOf_row _ h hr]
  simp
theorem ann_free {R : List Nat} (h : Red R) {b x : Nat} (hb : b ∉ topsOf R) (hx : ∀ t ∈ topsOf R, x.testBit t = false) : od (annMask R b) x = x.testBit b := by
  unfold annMask
  rw [od_powSum (ann_nodup h hb)]
  show (x.testBit b ^^ oddOf (annTs R b) x) = _
  rw [oddOf_none fun t ht => hx t (annTs_sub ht)]
  simp
def freeOf (w : Nat) (R : List Nat) : List Nat := (List.range w).filter fun b => !decide (b ∈ topsOf R)
theorem mem_free {w b : Nat} {R : List Nat} : b ∈ freeOf w R ↔ b < w ∧ b ∉ topsOf R := by
  unfold freeOf
  rw [List.mem_filter, List.mem_range]
  simp
theorem free_nodup (w : Nat) (R : List Nat) : (freeOf w R).Nodup := List.nodup_range.sublist List.filter_sublist
def annL (w : Nat) (R : List Nat) : List Nat := (freeOf w R).map (annMask R)
theorem log2_lt_of {r w : Nat} (h : r < 2 ^ w) (h0 : r ≠ 0) : r.log2 < w := (Nat.log2_lt h0).mpr h
theorem ann_lt {R : List Nat} {w b : Nat} (h : Red R) (hl : ∀ r ∈ R, r < 2 ^ w) (hb : b ∈ freeOf w R) : annMask R b < 2 ^ w := by
  obtain ⟨h1, h2⟩ := mem_free.mp hb
  refine powSum_lt (ann_nodup h h2) fun t ht => ?_
  rcases List.mem_cons.mp ht with rfl | ht
  · exact h1
  · obtain ⟨r, hr, rfl⟩ := List.mem_map.mp ht
    exact log2_lt_of (hl r (List.mem_filter.mp hr).1) (h.pos r (List.mem_filter.mp hr).1)
theorem ann_bit {R : List Nat} {b c : Nat} (h : Red R) (hb : b ∉ topsOf R) (hc : c ∉ topsOf R) : (annMask R b).testBit c = decide (c = b) := by
  unfold annMask
  rw [powSum_bit (ann_nodup h hb)]
  by_cases e : c = b
  · simp [e]
  · have : c ∉ annTs R b := fun z => hc (annTs_sub z)
    simp [e, this]
/-- the masks of a width with no odd common part with any of the vectors -/
def An (w : Nat) (vs : List Nat) (m : Nat) : Prop := m < 2 ^ w ∧ ∀ v ∈ vs, od m v = false
theorem an_congr {w : Nat} {vs ws : List Nat} (h : ∀ x, Sp vs x ↔ Sp ws x) (m : Nat) : An w vs m ↔ An w ws m := by
  constructor
  · rintro ⟨h1, h2⟩
    exact ⟨h1, fun v hv => od_sp h2 ((h v).mpr (.mem hv))⟩
  · rintro ⟨h1, h2⟩
    exact ⟨h1, fun v hv => od_sp h2 ((h v).mp (.mem hv))⟩
theorem annL_sp {R : List Nat} {w : Nat} (h : Red R) (hl : ∀ r ∈ R, r < 2 ^ w) (m : Nat) : Sp (annL w R) m ↔ An w R m := by
  constructor
  · intro hm
    refine ⟨hm.lt fun y hy => ?_, fun r hr => ?_⟩
    · obtain ⟨b, hb, rfl⟩ := List.mem_map.mp hy
      exact ann_lt h hl hb
    · rw [od_comm]
      refine od_sp (fun y hy => ?_) hm
      obtain ⟨b, hb, rfl⟩ := List.mem_map.mp hy
      rw [od_comm]
      exact ann_row h (mem_free.mp hb).2 hr
  · rintro ⟨h1, h2⟩
    -- clear the free bits one by one
    have key : ∀ (F : List Nat) (m : Nat), (∀ b ∈ F, b ∈ freeOf w R) → F.Nodup → m < 2 ^ w → (∀ r ∈ R, od m r = false) → (∀ c, c ∈ freeOf w R → m.testBit c = true → c ∈ F) → Sp (annL w R) m := by
      intro F
      induction F with
      | nil =>
        intro m _ _ hm hr hc
        have : m = 0 := by
          apply Nat.eq_of_testBit_eq
          intro i
          rw [Nat.zero_testBit]
          cases e : m.testBit i with
          | false => rfl
          | true =>
            exfalso
            by_cases ht : i ∈ topsOf R
            · obtain ⟨r, hrR, rfl⟩ := List.mem_map.mp ht
              have h3 := hr r hrR
              have e2 : m &&& r = 2 ^ r.log2 := by
                apply Nat.eq_of_testBit_eq
                intro j
                rw [Nat.testBit_and, Nat.testBit_two_pow]
                by_cases hj : r.log2 = j
                · subst hj; rw [e, Nat.testBit_log2 (h.pos r hrR)]; simp
                · rw [decide_eq_false hj]
                  cases e3 : r.testBit j with
                  | false => simp
                  | true =>
                    cases e4 : m.testBit j with
                    | false => rfl
                    | true =>
                      exfalso
                      by_cases hjt : j ∈ topsOf R
                      · obtain ⟨s, hs, rfl⟩ := List.mem_map.mp hjt
                        have := h.ne hs hrR (fun z => hj (by rw [z]))
                        rw [this] at e3; cases e3
                      · have hjw : j < w := by
                          rcases Nat.lt_or_ge j w with z | z
                          · exact z
                          · have := Nat.testBit_lt_two_pow (Nat.lt_of_lt_of_le hm (Nat.pow_le_pow_right (by decide) z))
                            rw [this] at e4; cases e4
                        have := hc j (mem_free.mpr ⟨hjw, hjt⟩) e4
                        cases this
              rw [od_false, e2, par_pow] at h3
              cases h3
            · have hiw : i < w := by
                rcases Nat.lt_or_ge i w with z | z
                · exact z
                · have := Nat.testBit_lt_two_pow (Nat.lt_of_lt_of_le hm (Nat.pow_le_pow_right (by decide) z))
                  rw [this] at e; cases e
              have := hc i (mem_free.mpr ⟨hiw, ht⟩) e
              cases this
        rw [this]; exact .zero
      | cons b F ih =>
        intro m hF hn hm hr hc
        obtain ⟨n1, n2⟩ := List.nodup_cons.mp hn
        have hb := hF b (List.mem_cons_self ..)
        have hb2 := (mem_free.mp hb).2
        have hF' : ∀ c ∈ F, c ∈ freeOf w R := fun c hcF => hF c (List.mem_cons_of_mem _ hcF)
        cases e : m.testBit b with
        | false =>
          refine ih m hF' n2 hm hr fun c hcf hcb => ?_
          rcases List.mem_cons.mp (hc c hcf hcb) with rfl | z
          · rw [e] at hcb; cases hcb
          · exact z
        | true =>
          have hs : Sp (annL w R) (annMask R b) := .mem (List.mem_map.mpr ⟨b, hb, rfl⟩)
          have := ih (m ^^^ annMask R b) hF' n2 (Nat.xor_lt_two_pow hm (ann_lt h hl hb)) (fun r hrR => by rw [od_xor_left, hr r hrR, ann_row h hb2 hrR]; rfl) fun c hcf hcb => by
            rw [Nat.testBit_xor, ann_bit h hb2 (mem_free.mp hcf).2] at hcb
            by_cases z : c = b
            · subst z
              rw [e] at hcb
              simp at hcb
            · rw [decide_eq_false z, Bool.xor_false] at hcb
              exact (List.mem_cons.mp (hc c hcf hcb)).resolve_left z
          have := this.xor hs
          rwa [xor_xor_self] at this
    exact key (freeOf w R) m (fun _ z => z) (free_nodup w R) h1 h2 (fun c hc _ => hc)
def annN (w : Nat) (vs : List Nat) : List Nat := basN (annL w (basN vs))
theorem ann_sp {w : Nat} {vs : List Nat} (hv : ∀ v ∈ vs, v < 2 ^ w) (m : Nat) : Sp (annN w vs) m ↔ An w vs m := by
  unfold annN
  rw [bas_sp, annL_sp (bas_red vs) (bas_lt hv)]
  exact an_congr (bas_sp vs) m
theorem ann_is {w : Nat} {vs : List Nat} (hv : ∀ v ∈ vs, v < 2 ^ w) : IsBas (An w vs) (annN w vs) := by
  have := bas_is (annL w (basN vs))
  exact this.congr fun m => by rw [annL_sp (bas_red vs) (bas_lt hv)]; exact an_congr (bas_sp vs) m
theorem annN_lt {w : Nat} {vs : List Nat} (hv : ∀ v ∈ vs, v < 2 ^ w) : ∀ m ∈ annN w vs, m < 2 ^ w := fun m hm => ((ann_sp hv m).mp (.mem hm)).1
/-- twice -/
theorem an_an {w : Nat} {vs : List Nat} (hv : ∀ v ∈ vs, v < 2 ^ w) (x : Nat) : An w (annN w vs) x ↔ Sp vs x := by
  constructor
  · rintro ⟨h1, h2⟩
    have hR := bas_red vs
    have hl := bas_lt hv
    rw [← bas_sp vs, ← rem_zero hR]
    have hb := rem_bits hR x
    have hs := rem_sp hR.pos x
    generalize remN x (basN vs) = y at *
    have h3 : ∀ b ∈ freeOf w (basN vs), od (annMask (basN vs) b) y = false := by
      intro b hb
      have e : y = x ^^^ (x ^^^ y) := by rw [← Nat.xor_assoc, Nat.xor_self, Nat.zero_xor]
      rw [e, od_xor, od_sp (fun r hr => ann_row hR (mem_free.mp hb).2 hr) hs, Bool.xor_false, od_comm]
      have : Sp (annN w vs) (annMask (basN vs) b) := by
        unfold annN
        rw [bas_sp]
        exact .mem (List.mem_map.mpr ⟨b, hb, rfl⟩)
      exact od_sp h2 this
    have hy : y < 2 ^ w := by
      have e : y = x ^^^ (x ^^^ y) := by rw [← Nat.xor_assoc, Nat.xor_self, Nat.zero_xor]
      rw [e]
      exact Nat.xor_lt_two_pow h1 (hs.lt hl)
    apply Nat.eq_of_testBit_eq
    intro i
    rw [Nat.zero_testBit]
    by_cases ht : i ∈ topsOf (basN vs)
    · obtain ⟨r, hr, rfl⟩ := List.mem_map.mp ht
      exact hb r hr
    · rcases Nat.lt_or_ge i w with z | z
      · rw [← ann_free hR ht fun t ht => ?_]
        · exact h3 i (mem_free.mpr ⟨z, ht⟩)
        · obtain ⟨r, hr, rfl⟩ := List.mem_map.mp ht
          exact hb r hr
      · exact Nat.testBit_lt_two_pow (Nat.lt_of_lt_of_le hy (Nat.pow_le_pow_right (by decide) z))
  · intro hx
    refine ⟨hx.lt hv, fun m hm => ?_⟩
    rw [od_comm]
    exact od_sp ((ann_sp hv m).mp (.mem hm)).2 hx
/-! ### independent lists -/
def Ind (l : List Nat) : Prop := ∀ done r rest, l = done ++ r :: rest → ¬ Sp done r
theorem Ind.nil : Ind [] := fun done r rest h => by cases done <;> cases h
theorem Ind.init {l l' : List Nat} (h : Ind (l ++ l')) : Ind l := fun done r rest e => h done r (rest ++ l') (by rw [e]; simp)
theorem Ind.snoc {l : List Nat} {r : Nat} (h : Ind l) (hr : ¬ Sp l r) : Ind (l ++ [r]) := fun done s rest e => by
  rcases List.eq_nil_or_concat rest with rfl | ⟨rest', z, rfl⟩
  · obtain ⟨e1, e2⟩ := List.append_inj' e rfl
    cases e2
    rw [← e1]; exact hr
  · rw [← List.concat_eq_append] at e
    have e' : l ++ [r] = (done ++ s :: rest') ++ [z] := by rw [← List.concat_eq_append, e]; simp
    obtain ⟨e1, _⟩ := List.append_inj' e' rfl
    exact h done s rest' e1
theorem Ind.els {R : List Nat} (h : Ind R) : (elsN R).Nodup := by
  have key : ∀ (R done f : List Nat), Ind (done ++ R) → (∀ y, y ∈ f ↔ Sp done y) → f.Nodup → (R.foldl (fun f r => f ++ f.map (· ^^^ r)) f).Nodup := by
    intro R
    induction R with
    | nil => intro _ f _ _ h; exact h
    | cons r R ih =>
      intro done f hR h hn
      have e : done ++ r :: R = (done ++ [r]) ++ R := by simp
      rw [List.foldl_cons]
      have hnr : ¬ Sp done r := hR done r R rfl
      refine ih (done ++ [r]) _ (e ▸ hR) (fun y => ?_) ?_
      · rw [List.mem_append, sp_snoc, h]
        refine or_congr Iff.rfl ?_
        rw [List.mem_map]
        constructor
        · rintro ⟨z, hz, rfl⟩
          rw [xor_xor_self]
          exact (h z).mp hz
        · intro hy
          exact ⟨y ^^^ r, (h _).mpr hy, xor_xor_self y r⟩
      · refine List.nodup_append.mpr ⟨hn, ?_, ?_⟩
        · refine List.pairwise_map.mpr (hn.imp fun {a b} hab e => hab ?_)
          have := congrArg (· ^^^ r) e
          simpa [xor_xor_self] using this
        · rintro a ha b hb rfl
          obtain ⟨z, hz, e⟩ := List.mem_map.mp hb
          have h1 := ((h z).mp hz).xor ((h a).mp ha)
          rw [← e, ← Nat.xor_assoc, Nat.xor_self, Nat.zero_xor] at h1
          exact hnr h1
  exact key R [] [0] h (fun y => by
    rw [List.mem_singleton]
    exact ⟨fun h => h ▸ .zero, Sp.nil⟩) (by simp)
theorem pow2_inj {a b : Nat} (h : 2 ^ a = 2 ^ b) : a = b := by
  have h1 := (Nat.pow_le_pow_iff_right (a := 2) (by decide)).mp (Nat.le_of_eq h)
  have h2 := (Nat.pow_le_pow_iff_right (a := 2) (by decide)).mp (Nat.le_of_eq h.symm)
  omega
theorem Ind.rank {l : List Nat} (h : Ind l) : (basN l).length = l.length := by
  have h1 : (elsN l).length = (elsN (basN l)).length := len_of_mem h.els (nodup_els (bas_red l)) fun x => by rw [mem_els, mem_els, bas_sp]
  rw [els_len, els_len] at h1
  exact (pow2_inj h1).symm
/-- private bits -/
theorem Ind.bits (f : Nat → Nat) : ∀ (F : List Nat), F.Nodup → (∀ b ∈ F, ∀ c ∈ F, (f b).testBit c = decide (c = b)) → Ind (F.map f) := by
  intro F hn hf done r rest e hs
  obtain ⟨F1, F2, e1, e2, e3⟩ := List.map_eq_append_iff.mp e
  obtain ⟨b, F3, e4, e5, e6⟩ := List.map_eq_cons_iff.mp e3
  subst e1 e2 e4 e5 e6
  have hb : b ∈ F1 ++ b :: F3 := by simp
  have h1 : (f b).testBit b = true := by rw [hf b hb b hb]; simp
  have h2 : ∀ x, Sp (F1.map f) x → x.testBit b = false := by
    intro x hx
    induction hx with
    | zero => exact Nat.zero_testBit b
    | add hy _ ih =>
      obtain ⟨c, hc, rfl⟩ := List.mem_map.mp hy
      have hne : b ≠ c := by
        rintro rfl
        have := (List.nodup_append.mp hn).2.2 b hc b (List.mem_cons_self ..)
        exact this rfl
      rw [Nat.testBit_xor, ih, hf c (List.mem_append_left _ hc) b hb, decide_eq_false hne]
      rfl
  rw [h2 _ hs] at h1
  cases h1
theorem free_len {w : Nat} {R : List Nat} (h : Red R) (hl : ∀ r ∈ R, r < 2 ^ w) : (freeOf w R).length + R.length = w := by
  have h1 : ((List.range w).filter fun b => decide (b ∈ topsOf R)).length = (topsOf R).length := by
    refine len_of_mem (List.nodup_range.sublist List.filter_sublist) h.topsNodup fun x => ?_
    rw [List.mem_filter, List.mem_range]
    constructor
    · rintro ⟨_, h⟩; exact of_decide_eq_true h
    · intro hx
      refine ⟨?_, decide_eq_true hx⟩
      obtain ⟨r, hr, rfl⟩ := List.mem_map.mp hx
      exact log2_lt_of (hl r hr) (h.pos r hr)
  have h2 : (topsOf R).length = R.length := List.length_map ..
  have h3 : ∀ l : List Nat, (l.filter fun b => !decide (b ∈ topsOf R)).length + (l.filter fun b => decide (b ∈ topsOf R)).length = l.length := by
    intro l
    induction l with
    | nil => rfl
    | cons x l ih =>
      rw [List.filter_cons, List.filter_cons]
      by_cases c : x ∈ topsOf R
      · simp [c] at ih ⊢; omega
      · simp [c] at ih ⊢; omega
  have h4 := h3 (List.range w)
  rw [h1, h2, List.length_range] at h4
  exact h4
theorem ann_len {w : Nat} {vs : List Nat} (hv : ∀ v ∈ vs, v < 2 ^ w) : (annN w vs).length + (basN vs).length = w := by
  have hR := bas_red vs
  have hI : Ind (annL w (basN vs)) := Ind.bits _ _ (free_nodup _ _) fun b hb c hc => ann_bit hR (mem_free.mp hb).2 (mem_free.mp hc).2
  unfold annN
  rw [hI.rank]
  unfold annL
  rw [List.length_map]
  exact free_len hR (bas_lt hv)
theorem red_ind {R : List Nat} (h : Red R) : Ind R := fun done r rest e hs => by
  subst e
  have hd : Red done := ⟨fun x hx => h.pos x (List.mem_append_left _ hx), (List.pairwise_append.mp h.red).1⟩
  have h1 := hs.comb hd
  rw [comb_none fun s hs => ((List.pairwise_append.mp h.red).2.2 s hs r (List.mem_cons_self ..)).1] at h1
  exact h.pos r (List.mem_append_right _ (List.mem_cons_self ..)) h1.symm
/-- an independent list, made longer to span more -/
theorem Ind.extend : ∀ (l B : List Nat), Ind B → ∃ C, Ind (B ++ C) ∧ (∀ x, Sp (B ++ C) x ↔ Sp (B ++ l) x) ∧ ∀ c ∈ C, c ∈ l
  | [], B, h => ⟨[], by rw [List.append_nil]; exact h, fun x => Iff.rfl, by simp⟩
  | v :: l, B, h => by
    by_cases hv : Sp B v
    · obtain ⟨C, h1, h2, h3⟩ := Ind.extend l B h
      refine ⟨C, h1, fun x => (h2 x).trans (sp_congr (fun y hy => ?_) (fun y hy => ?_) x), fun c hc => List.mem_cons_of_mem _ (h3 c hc)⟩
      · rcases List.mem_append.mp hy with z | z
        · exact .mem (List.mem_append_left _ z)
        · exact .mem (List.mem_append_right _ (List.mem_cons_of_mem _ z))
      · rcases List.mem_append.mp hy with z | z
        · exact .mem (List.mem_append_left _ z)
        · rcases List.mem_cons.mp z with rfl | z
          · exact hv.sub fun y hy => .mem (List.mem_append_left _ hy)
          · exact .mem (List.mem_append_right _ z)
    · obtain ⟨C, h1, h2, h3⟩ := Ind.extend l (B ++ [v]) (h.snoc hv)
      have e : ∀ L : List Nat, B ++ v :: L = (B ++ [v]) ++ L := fun L => by simp
      exact ⟨v :: C, by rw [e]; exact h1, fun x => by rw [e C, e l]; exact h2 x, fun c hc => by
        rcases List.mem_cons.mp hc with rfl | hc
        · exact List.mem_cons_self ..
        · exact List.mem_cons_of_mem _ (h3 c hc)⟩
/-- dimensions of a sum and a common part -/
theorem dim_sum {U V I : List Nat} (hI : ∀ x, Sp I x ↔ Sp U x ∧ Sp V x) : (basN I).length + (basN (U ++ V)).length = (basN U).length + (basN V).length := by
  have hB : Ind (basN I) := red_ind (bas_red I)
  have hBs : ∀ x, Sp (basN I) x ↔ Sp U x ∧ Sp V x := fun x => (bas_sp I x).trans (hI x)
  generalize basN I = B at *
  obtain ⟨C, c1, c2, _⟩ := Ind.extend U B hB
  obtain ⟨E, e1, e2, _⟩ := Ind.extend V B hB
  have hU : ∀ x, Sp (B ++ C) x ↔ Sp U x := fun x => (c2 x).trans (sp_congr (fun y hy => by
    rcases List.mem_append.mp hy with z | z
    · exact ((hBs y).mp (.mem z)).1
    · exact .mem z) (fun y hy => .mem (List.mem_append_right _ hy)) x)
  have hV : ∀ x, Sp (B ++ E) x ↔ Sp V x := fun x => (e2 x).trans (sp_congr (fun y hy => by
    rcases List.mem_append.mp hy with z | z
    · exact ((hBs y).mp (.mem z)).2
    · exact .mem z) (fun y hy => .mem (List.mem_append_right _ hy)) x)
  have key : ∀ n, n ≤ E.length → Ind ((B ++ C) ++ E.take n) := by
    intro n
    induction n with
    | zero => intro _; rw [List.take_zero, List.append_nil]; exact c1
    | succ n ih =>
      intro hn
      have h1 := ih (by omega)
      have hd : E[n]? = some E[n] := List.getElem?_eq_getElem (by omega)
      rw [List.take_add_one, hd]
      show Ind (B ++ C ++ (E.take n ++ [E[n]]))
      rw [← List.append_assoc]
      have he : E = E.take n ++ E[n] :: E.drop (n + 1) := by rw [← List.drop_eq_getElem_cons (by omega), List.take_append_drop]
      have hmem : E[n] ∈ E := List.getElem_mem _
      generalize E[n] = d at *
      refine h1.snoc fun hs => ?_
      obtain ⟨a, b, ha, hb, hab⟩ := sp_append.mp hs
      have hbV : Sp V b := (hV b).mp (hb.sub fun y hy => .mem (List.mem_append_right _ (List.mem_of_mem_take hy)))
      have hdV : Sp V d := (hV d).mp (.mem (List.mem_append_right _ hmem))
      have ea : a = d ^^^ b := by rw [hab, xor_xor_self]
      have haB : Sp B a := (hBs a).mpr ⟨(hU a).mp ha, ea ▸ hdV.xor hbV⟩
      refine e1 (B ++ E.take n) d (E.drop (n + 1)) (by rw [List.append_assoc, ← he]) ?_
      rw [hab]
      exact sp_append.mpr ⟨a, b, haB, hb, rfl⟩
  have hW := key E.length (Nat.le_refl _)
  rw [List.take_length] at hW
  have hWs : ∀ x, Sp ((B ++ C) ++ E) x ↔ Sp (U ++ V) x := by
    refine sp_congr (fun y hy => ?_) (fun y hy => ?_)
    · rcases List.mem_append.mp hy with z | z
      · exact ((hU y).mp (.mem z)).sub fun y hy => .mem (List.mem_append_left _ hy)
      · exact ((hV y).mp (.mem (List.mem_append_right _ z))).sub fun y hy => .mem (List.mem_append_right _ hy)
    · rcases List.mem_append.mp hy with z | z
      · exact ((hU y).mpr (.mem z)).sub fun y hy => .mem (List.mem_append_left _ hy)
      · refine ((hV y).mpr (.mem z)).sub fun y hy => ?_
        rcases List.mem_append.mp hy with q | q
        · exact .mem (by simp [q])
        · exact .mem (by simp [q])
  have l1 : (basN (U ++ V)).length = B.length + C.length + E.length := by rw [← bas_congr hWs, hW.rank]; simp [Nat.add_assoc]
  have l2 : (basN U).length = B.length + C.length := by rw [← bas_congr hU, c1.rank]; simp
  have l3 : (basN V).length = B.length + E.length := by rw [← bas_congr hV, e1.rank]; simp
  omega
/-! ### banks -/
theorem bankN_bit (a : Nat) : ∀ (ms : List Nat) (i : Nat), (bankN ms a).testBit i = match ms[i]? with | some m => od m a | none => false
  | [], i => by simp [bankN]
  | m :: ms, i => by
    have e : bankN (m :: ms) a = par (m &&& a) + 2 * bankN ms a := rfl
    rw [e, par_od]
    cases i with
    | zero =>
      rw [Nat.testBit_zero]
      show decide (((od m a).toNat + 2 * bankN ms a) % 2 = 1) = od m a
      cases od m a
      · simp
      · simp
    | succ i =>
      rw [Nat.testBit_succ]
      have : ((od m a).toNat + 2 * bankN ms a) / 2 = bankN ms a := by cases od m a <;> simp [Bool.toNat] <;> omega
      rw [this, bankN_bit a ms i]
      rfl
theorem bankN_eq {ms : List Nat} {a b : Nat} : bankN ms a = bankN ms b ↔ ∀ m ∈ ms, od m (a ^^^ b) = false := by
  constructor
  · intro h m hm
    obtain ⟨i, hi⟩ := List.getElem?_of_mem hm
    have h1 := bankN_bit a ms i
    have h2 := bankN_bit b ms i
    rw [hi] at h1 h2
    have h1' : (bankN ms a).testBit i = od m a := h1
    have h2' : (bankN ms b).testBit i = od m b := h2
    rw [od_xor, ← h1', ← h2', h]
    simp
  · intro h
    apply Nat.eq_of_testBit_eq
    intro i
    rw [bankN_bit, bankN_bit]
    cases hi : ms[i]? with
    | none => rfl
    | some m =>
      have := h m (List.mem_of_getElem? hi)
      rw [od_xor] at this
      show od m a = od m b
      cases ha : od m a <;> cases hb : od m b <;> rw [ha, hb] at this <;> first | rfl | cases this
theorem bankN_zero {ms : List Nat} {a : Nat} : bankN ms a = 0 ↔ ∀ m ∈ ms, od m a = false := by
  have h0 : bankN ms 0 = 0 := by
    apply Nat.eq_of_testBit_eq
    intro i
    rw [bankN_bit, Nat.zero_testBit]
    split
    · exact od_zero _
    · rfl
  have := bankN_eq (ms := ms) (a := a) (b := 0)
  rwa [h0, Nat.xor_zero] at this
theorem bankN_xor (ms : List Nat) (a b : Nat) : bankN ms (a ^^^ b) = bankN ms a ^^^ bankN ms b := by
  apply Nat.eq_of_testBit_eq
  intro i
  rw [Nat.testBit_xor, bankN_bit, bankN_bit, bankN_bit]
  cases ms[i]? with
  | none => rfl
  | some m => exact od_xor m a b
end XB

/-! YC: how many banks there are. -/
namespace XB
def units (w : Nat) : List Nat := (List.range w).map (2 ^ ·)
end XB

/-! YD: the first ones of each highest bit. -/
namespace XB
end XB

/-! XX: shorter forms of often used rules; lists of numbers read by place. -/
namespace XB
open PySem PySem.Spec PyProof.Rows L2
/-- small enough -/
theorem sz {n m : Nat} (h : n ≤ m) (h2 : m ≤ sizeLine := by decide) : n ≤ sizeLine := Nat.le_trans h h2
section
variable {X : Cx} {Hb : Hp} {Ab : List Addr} {E : En} {ρ : Ro} {M : Mem} {e : Expr} {pos : Pos}
end
section
variable {X : Cx} {ρ : Ro} {M : Mem} {elt iter : Expr} {pos tp : Pos} {scope : Scope} {α : Type} {l : List Nat} {pu : Bool} {x : Str}
end
section
variable {X : Cx} {Hb : Hp} {Ab : List Addr} {E : En} {ρ : Ro} {M : Mem} {elt iter c : Expr} {pos tp spos : Pos} {scope : Scope} {α : Type} {pu : Bool} {x y : Str} {py : Pos} {ws : List W}
end
section
variable {X : Cx} {Hb : Hp} {Ab : List Addr} {E : En} {ρ : Ro} {M : Mem} {e : Expr} {pos : Pos}
end
section
variable {X : Cx} {ρ : Ro} {M : Mem} {e : Expr} {p pos : Pos}
end
end XB

/-! XY: set of a tuple, how many members a set has, any, the greatest of a list, tuple + tuple. -/
namespace XB
open PySem PySem.Spec PyProof.Rows L2
section
variable {X : Cx} {ρ : Ro} {M : Mem} {a b e : Expr} {p p2 pos pos2 : Pos}
end
/-! ### tuple + tuple -/
theorem DdAll.nil_iff {K : PySem.W.Frag} {H : Hp} {A : List Addr} {xs : List V} {ds : List D} (h : DdAll K H A xs ds) : xs = [] ↔ ds = [] := by
  cases h with
  | nil => simp
  | cons _ _ => simp
section
variable {X : Cx} {ρ : Ro} {M : Mem} {a b e : Expr} {pos : Pos}
theorem ev_catT {ds es : List D} (ha : EvD X a ρ M (.dat (.tuple ds))) (hb : EvD X b ρ M (.dat (.tuple es))) (hl : ds.length + es.length ≤ sizeLine) : EvD X (.BinOp a .Add b pos) ρ M (.dat (.tuple (ds ++ es))) := fun σ H Q ok q =>
  of_pe (pe_op op_catA p_rd p_rd) (ha σ H _ ok fun x H1 s1 r1 => hb σ H1 _ (ok.same s1) fun y H2 s2 r2 => by
    have r1' : Dd X.K H2 (ads M) x (.tuple ds) := Dd.mv (Ext.of s2).mv r1
    obtain ⟨a, xs, rfl, ha2, hd⟩ := Dd.t r1'
    obtain ⟨b, ys, rfl, hb2, he⟩ := Dd.t r2
    have s12 := s1.trans s2
    refine ⟨a, b, xs, ys, rfl, rfl, ha2, hb2, by rw [hd.length, he.length]; exact hl, fun z => ?_, fun _ z => ?_, fun _ _ p hp => ?_⟩
    · have e1 := hd.nil_iff.mp z
      subst e1
      exact q _ H2 s12 r2
    · have e1 := he.nil_iff.mp z
      subst e1
      rw [List.append_nil] at q
      exact q _ H2 s12 r1'
    · exact q _ _ (s12.trans (same_upd hp)) (.tup (.inl upd_same) ((ok.same s12).mem.fresh hp) ((hd.append he).mv (Ext.of (same_upd hp)).mv)))
/-- with effects -/
theorem Ev.catT {Φ : W → Mem → Prop} (h : Ev X a ρ M fun wa M1 => ∃ ds, wa = .dat (.tuple ds) ∧ Ev X b ρ M1 fun wb M2 => ∃ es, wb = .dat (.tuple es) ∧ ds.length + es.length ≤ sizeLine ∧ Φ (.dat (.tuple (ds ++ es))) M2) : Ev X (.BinOp a .Add b pos) ρ M Φ := fun σ H Q ok q =>
  of_pe (pe_op op_catA p_rd p_rd) (h σ H _ ok fun wa M1 x H1 g1 ea1 x1 m1 r1 => by
    obtain ⟨ds, rfl, g1⟩ := g1
    refine g1 σ H1 _ (ok.ext ea1 x1 m1) fun wb M2 y H2 g2 ea2 x2 m2 r2 => ?_
    obtain ⟨es, rfl, hl, hΦ⟩ := g2
    rw [ea1] at x2 ea2
    rw [ea1] at r2
    have r1' : Dd X.K H2 (ads M) x (.tuple ds) := Dd.mv x2.mv r1
    obtain ⟨a, xs, rfl, ha2, hd⟩ := Dd.t r1'
    obtain ⟨b, ys, rfl, hb2, he⟩ := Dd.t r2
    refine ⟨a, b, xs, ys, rfl, rfl, ha2, hb2, by rw [hd.length, he.length]; exact hl, fun z => ?_, fun _ z => ?_, fun _ _ p hp => ?_⟩
    · have e1 := hd.nil_iff.mp z
      subst e1
      exact q _ M2 _ H2 hΦ ea2 (x1.trans x2) m2 r2
    · have e1 := he.nil_iff.mp z
      subst e1
      rw [List.append_nil] at hΦ
      exact q _ M2 _ H2 hΦ ea2 (x1.trans x2) m2 r1'
    · refine q _ M2 _ _ hΦ ea2 ((x1.trans x2).trans (Ext.of (same_upd hp))) (m2.same (same_upd hp)) (.tup (.inl upd_same) ?_ ((hd.append he).mv (Ext.of (same_upd hp)).mv))
      rw [← ea2]
      exact m2.fresh hp)
end
/-! ### tests whose answer is known -/
section
variable {X : Cx} {ρ : Ro} {M : Mem} {a b c e : Expr} {es : List Expr} {pos : Pos} {k : Nat}
theorem ew_orF (ha : EtD X a ρ M false) (hb : EwD X (.BoolOp .Or (b :: es) pos) ρ M false) : EwD X (.BoolOp .Or (a :: b :: es) pos) ρ M false := ew_or (x := false) (y := false) ha fun _ => hb
end
end XB

/-! XZ: sorted(set(..)) and len(set(..)) of what has no two alike. -/
namespace XB
open PySem PySem.Spec PyProof.Rows L2
section
variable {X : Cx} {ρ : Ro} {M : Mem} {a b e : Expr} {p p2 pos pos2 : Pos}
end
end XB

/-! ZA: x, y = ([], e); xs.extend(..). -/
namespace XB
open PySem PySem.Spec PyProof.Rows L2
section
variable {X : Cx} {Hb : Hp} {Ab : List Addr} {E : En} {ρ : Ro} {M : Mem} {a b e : Expr} {pos : Pos}
end
end XB

/-! YE: the common part of two spaces; the least elements by their lengths. -/
namespace XB
theorem an_app {w : Nat} {a b : List Nat} {x : Nat} : An w (a ++ b) x ↔ An w a x ∧ An w b x := by
  unfold An
  constructor
  · rintro ⟨h1, h2⟩
    exact ⟨⟨h1, fun v hv => h2 v (List.mem_append_left _ hv)⟩, h1, fun v hv => h2 v (List.mem_append_right _ hv)⟩
  · rintro ⟨⟨h1, h2⟩, _, h3⟩
    refine ⟨h1, fun v hv => ?_⟩
    rcases List.mem_append.mp hv with h | h
    · exact h2 v h
    · exact h3 v h
def meetN (n : Nat) (U V : List Nat) : List Nat := annN n (annN n U ++ annN n V)
section
variable {n : Nat} {U V : List Nat} (hU : ∀ v ∈ U, v < 2 ^ n) (hV : ∀ v ∈ V, v < 2 ^ n)
include hU hV
theorem ann2_lt : ∀ v ∈ annN n U ++ annN n V, v < 2 ^ n := fun v hv => by
  rcases List.mem_append.mp hv with h | h
  · exact annN_lt hU v h
  · exact annN_lt hV v h
theorem meet_is : IsBas (fun x => Sp U x ∧ Sp V x) (meetN n U V) := (ann_is (ann2_lt hU hV)).congr fun x => by rw [an_app, an_an hU, an_an hV]
theorem meet_sp (x : Nat) : Sp (meetN n U V) x ↔ Sp U x ∧ Sp V x := by
  unfold meetN
  rw [ann_sp (ann2_lt hU hV), an_app, an_an hU, an_an hV]
end
theorem ann_bas (n : Nat) (vs : List Nat) : basN (annN n vs) = annN n vs := by
  have h := (bas_red (annL n (basN vs))).isBas (ascN_asc _)
  exact bas_uniq h
theorem meet_dim {n : Nat} {U V : List Nat} (hU : ∀ v ∈ U, v < 2 ^ n) (hV : ∀ v ∈ V, v < 2 ^ n) : (meetN n U V).length + (basN (U ++ V)).length = (basN U).length + (basN V).length := by
  have h := dim_sum (I := meetN n U V) fun x => meet_sp hU hV x
  have e : basN (meetN n U V) = meetN n U V := ann_bas n _
  rwa [e] at h
theorem bits_log {x b : Nat} (h : bitsN x = b + 1) : x ≠ 0 ∧ x.log2 = b := by
  unfold bitsN at h
  by_cases hx : x = 0
  · rw [if_pos hx] at h; omega
  · rw [if_neg hx] at h; exact ⟨hx, by omega⟩
end XB

/-! ZB: letting go of several owned things. -/
namespace XB
open PySem PySem.Spec PyProof.Rows L2
end XB

/-! ZC: list(range(..)). -/
namespace XB
open PySem PySem.Spec PyProof.Rows L2
section
variable {X : Cx} {ρ : Ro} {M : Mem} {a b e : Expr} {p p2 pos pos2 : Pos} {n : Nat}
end
end XB

/-! YF: dual masks; a map shared by two spaces. -/
namespace XB
theorem addRow_len' (R : List Nat) (v : Nat) : (addRow R v).length ≤ R.length + 1 := by
  unfold addRow
  split
  · rw [List.length_append, List.length_map]; exact Nat.le_refl _
  · omega
theorem bas_le (vs : List Nat) : (basN vs).length ≤ vs.length := by
  have key : ∀ (vs R : List Nat), (vs.foldl addRow R).length ≤ R.length + vs.length := by
    intro vs
    induction vs with
    | nil => intro R; exact Nat.le_refl _
    | cons v vs ih =>
      intro R
      have h1 := ih (addRow R v)
      have h2 := addRow_len' R v
      rw [List.foldl_cons, List.length_cons]
      omega
  have h := key vs []
  unfold basN
  rw [asc_len (rows_red vs).nodup]
  rwa [List.length_nil, Nat.zero_add] at h
section
variable {n : Nat} {F : List Nat} (hF : Ind F) (hl : F.length = n) (hlt : ∀ v ∈ F, v < 2 ^ n)
include hF hl hlt
end
section
variable {n : Nat} {C L R Q : List Nat} (hF : Ind (C ++ L ++ R ++ Q)) (hl : (C ++ L ++ R ++ Q).length = n) (hlt : ∀ v ∈ C ++ L ++ R ++ Q, v < 2 ^ n) (hRL : R.length ≤ L.length)
include hF hl hlt hRL
end
end XB

/-! ZD: xs[i] op= e. -/
namespace XB
open PySem PySem.Spec PyProof.Rows L2
section
variable {X : Cx} {Hb : Hp} {Ab : List Addr} {E : En} {ρ : Ro} {M : Mem} {e : Expr} {pos : Pos}
end
end XB

/-! ZE: low <= x < high. -/
namespace XB
open PySem PySem.Spec PyProof.Rows L2
section
variable {X : Cx} {ρ : Ro} {M : Mem} {a b c : Expr} {pos : Pos} {i j k : Int}
end
end XB

/-! ZF: pure defs with a starred parameter. -/
namespace XB
open PySem PySem.Spec PyProof.Rows L2
theorem SWs.split {K : PySem.W.Frag} {H : Hp} {A : List Addr} : ∀ {w1 w2 : List W} {vs : List V}, SWs K H A vs (w1 ++ w2) → ∃ v1 v2, vs = v1 ++ v2 ∧ SWs K H A v1 w1 ∧ SWs K H A v2 w2
  | [], _, vs, h => ⟨[], vs, rfl, .nil, h⟩
  | _ :: w1, w2, _, .cons r t => by
    obtain ⟨v1, v2, e, h1, h2⟩ := SWs.split (w1 := w1) (w2 := w2) t
    exact ⟨_ :: v1, v2, by rw [e]; rfl, .cons r h1, h2⟩
structure DefS (P : Program) (w : World) (K : PySem.W.Frag) (mg : Str → Option Value) (base : Heap) (k : Nat) (x : Str) (C : List W → W → Prop) : Prop where
  ex : ∃ f, mg x = some (.ref f) ∧ PySem.W.keepIn K (.ref f) = true ∧ ∀ (A : Around) (outer : List Env) (s : Shared) (H : Hp) (us : List Value) (vs : List V) (Q : VK) (E : XK), Room k A → Gd A → Env0 P w K mg base A outer s H → Vals vs us → spP K C vs H Q E →
    codeAny (model P w) A (.call (.ref f) ⟨us, []⟩) (CR CX0 outer P w H s Q E) s
section
variable {P : Program} {w : World} {K : PySem.W.Frag} {mg : Str → Option Value} {base : Heap} {k : Nat} {ps N : List Str} {x pv : Str} {st : Stmt}
theorem DefS.of {C : List W → W → Prop} (F : Here K mg x st) (S : FnScope N (ps ++ [pv]) (defScope st))
    (hb : ∀ (kV doc pm : Value) (an : Option Addr) (cdv ct : Value) (us rest : List Value), us.length = ps.length → bindArgs (PySem.W.fnOf x x (defArgs st) (defBody st) (defScope st) .none kV doc pm an cdv ct) ⟨us ++ rest, []⟩ = (newTuple rest >>= fun t => pure (ps.zip us ++ [(pv, t)])))
    (len : ∀ ws r, C ws r → ∃ (w1 : List W) (ds : List D), ws = w1 ++ ds.map W.dat ∧ w1.length = ps.length ∧ ds.length ≤ sizeLine)
    (body : ∀ (f : Addr) (cdv : Value) (A : Around) (outer : List Env) (s : Shared) (H : Hp) (E : XK) (w1 : List W) (ds : List D) (r : W) (M : Mem), Room k (cx0 P w K mg base N x (defScope st) f cdv A outer s H E).A → Gd (cx0 P w K mg base N x (defScope st) f cdv A outer s H E).A → C (w1 ++ ds.map W.dat) r → w1.length = ps.length →
      Sv (cx0 P w K mg base N x (defScope st) f cdv A outer s H E) H (ads M) (defBody st) { nx := fun _ M1 => r = .dat .none ∧ ∃ Ml, M1 = Ml ++ M, rt := fun r1 M1 => r1 = r ∧ ∃ Ml, M1 = Ml ++ M } (startW N (w1 ++ [.dat (.tuple ds)])) M) :
    DefS P w K mg base (k + 1) x C := by
  obtain ⟨f, fd, FD, hm⟩ := F
  have hkp := FD.kp
  obtain ⟨oc, od, dV, kV, doc, pm, an, cdv, ct, osl, rfl, lk, hcd, hD, _⟩ := FD.ex
  have hdV : dV = .none := by
    rcases hD with ⟨_, z⟩ | ⟨z, _⟩
    · exact z
    · exact absurd rfl z
  subst hdV
  refine ⟨f, hm, hkp, fun A outer s H us vs Q E hr gd e0 rv hsp => ?_⟩
  obtain ⟨M, ws, r, m, hany, sw, hC, q⟩ := hsp
  obtain ⟨w1, ds, rfl, hl, hz⟩ := len ws r hC
  obtain ⟨v1, v2, rfl, sw1, sw2⟩ := SWs.split sw
  obtain ⟨u1, u2, rfl, r1, r2⟩ := StX.vals_split rv
  have sd := SWs.dats sw2
  have fresh : H s.heap.objs.size = none := e0.hok.fresh (Nat.le_refl _)
  have n1 : v1.length = ps.length := by rw [sw1.length]; exact hl
  have n2 : v2.length ≤ sizeLine := by rw [sd.length]; exact hz
  refine StX.run_bnd (G := fun xs H2 => ∃ p, H p = none ∧ xs = v1 ++ [V.ref p] ∧ H2 = upd H p (.tup v2)) lk hcd S hr e0 (fun A' Ex Q' h => ?_) fun s2 H2 xs hG hr' => ?_
  · rw [hb kV doc pm an cdv ct u1 u2 (by rw [← r1.length]; exact n1)]
    refine wpAny_bind (wpAny_newTuple (wpAny_pure ?_) (by rw [← r2.length]; exact n2))
    have laid : ObjOk P w (upd H s.heap.objs.size (.tup v2)) (s.heap.push ({ cls := .type "tuple", data := .seq u2.toArray } : Obj)) s.heap.objs.size (.tup v2) := ⟨n2, u2, r2, ⟨_, Heap.get?_push_size _ rfl, rfl, _, rfl⟩⟩
    have ul := StX.un_laid (s := s) (fs := frs outer) (u := .tup v2) (o := ({ cls := .type "tuple", data := .seq u2.toArray } : Obj)) fresh
    have z := h _ _ (v1 ++ [V.ref s.heap.objs.size]) (u1 ++ [Value.ref s.heap.objs.size]) (StX.env0_laid e0 laid) ul rfl (fun e s' y => y) (r1.append (.cons rfl .nil)) (by rw [List.length_append, List.length_append, n1]; rfl) ⟨_, fresh, rfl, rfl⟩
    have nu : ps.length = u1.length := by rw [← r1.length]; exact n1.symm
    rw [List.zip_append nu] at z
    exact z
  · obtain ⟨p, hp, rfl, rfl⟩ := hG
    have sm := same_upd (o := .tup v2) hp
    have m2 := m.same sm
    have swp : SWs K (upd H p (.tup v2)) (ads M) (v1 ++ [V.ref p]) (w1 ++ [.dat (.tuple ds)]) := (sw1.mv (Ext.of sm).mv).app (.cons (.tup (.inl upd_same) (m.fresh hp) (sd.mv (Ext.of sm).mv)) .nil)
    have same : ∀ {H' : Hp} {Ml : Mem}, MemOk K H' (Ml ++ M) → Bs (upd H p (.tup v2)) (ads M) H' (Ml ++ M) → Same (upd H p (.tup v2)) H' := fun {H' Ml} m' bs b o e => by
      by_cases hb : b ∈ ads M
      · obtain ⟨y, hy, rfl⟩ := List.mem_map.mp hb
        obtain ⟨u, hu⟩ := hany y hy
        have h1 := m2.ok y hy
        have h2 := m'.ok y (List.mem_append_right _ hy)
        rw [hu] at h1 h2
        have h1 : upd H p (.tup v2) y.1 = some u := h1
        have h2 : H' y.1 = some u := h2
        rw [h2, ← h1]; exact e
      · exact bs.ext b o e hb
    have sub : ∀ {H' : Hp} {Ml : Mem}, Mv H' H' (ads (Ml ++ M)) (ads M) := fun {H' Ml} => Mv.sub fun b hb => by
      unfold ads at hb ⊢
      rw [List.map_append]
      exact List.mem_append_right _ hb
    refine ⟨_, PSs.nox p_rss, body f cdv A outer s2 _ E w1 ds r M hr' gd hC hl (L2.start N (v1 ++ [V.ref p])) _ _ (start_ok m2 swp) (Bs.refl _ M) ⟨?_, ?_, fun _ _ _ _ z => z.elim, fun _ _ _ _ z => z.elim⟩⟩
    · rintro ρ1 M1 σ1 H1 ⟨rfl, Ml, rfl⟩ ok1 bs1
      exact q _ H1 (sm.trans (same ok1.mem bs1)) .non
    · rintro r1 M1 v H1 ⟨rfl, Ml, rfl⟩ m1 s1 bs1
      exact q _ H1 (sm.trans (same m1 bs1)) (s1.mv sub)
end
section
variable {X : Cx} {ρ : Ro} {M : Mem} {e : Expr} {es : List Expr} {pos p : Pos} {w : W} {ws : List W} {k : Nat} {x : Str}
end
end XB

/-! ZG: forgetting a slot; tests with `and` whose first part has effects; degrees of blocks. -/
namespace XB
open PySem PySem.Spec PyProof.Rows L2
section
variable {X : Cx} {ρ : Ro} {M : Mem} {a b e : Expr} {pos : Pos}
end
/-! ### degrees of blocks -/
theorem ker_sp {n : Nat} {ms : List Nat} (h : ∀ m ∈ ms, m < 2 ^ n) {x : Nat} : Sp (annN n ms) x ↔ x < 2 ^ n ∧ bankN ms x = 0 := by
  rw [ann_sp h, bankN_zero]
  unfold An
  constructor
  · rintro ⟨h1, h2⟩
    exact ⟨h1, fun m hm => by rw [od_comm]; exact h2 m hm⟩
  · rintro ⟨h1, h2⟩
    exact ⟨h1, fun m hm => by rw [od_comm]; exact h2 m hm⟩
def degB (n : Nat) (ms V : List Nat) : Nat := 2 ^ (meetN n (annN n ms) V).length
theorem degB_one {n : Nat} {ms V : List Nat} (hm : ∀ m ∈ ms, m < 2 ^ n) (hV : ∀ v ∈ V, v < 2 ^ n) : degB n ms V = 1 ↔ ∀ x, Sp V x → x ≠ 0 → bankN ms x ≠ 0 := by
  have hA := annN_lt hm
  have h1 : degB n ms V = 1 ↔ meetN n (annN n ms) V = [] := by
    unfold degB
    constructor
    · intro h
      have := pow2_inj (a := (meetN n (annN n ms) V).length) (b := 0) (by rw [h])
      exact List.length_eq_zero_iff.mp this
    · intro h
      rw [h]
      rfl
  rw [h1]
  have hi := meet_is hA hV
  constructor
  · intro h x hx h0 hb
    rw [h] at hi
    obtain ⟨b, hb2, _⟩ := hi.all x ⟨(ker_sp hm).mpr ⟨hx.lt hV, hb⟩, hx⟩ h0
    cases hb2
  · intro h
    cases e : meetN n (annN n ms) V with
    | nil => rfl
    | cons b B =>
      rw [e] at hi
      have hb := hi.sub b (List.mem_cons_self ..)
      exact absurd ((ker_sp hm).mp hb.1).2 (h b hb.2 (hi.ne b (List.mem_cons_self ..)))
end XB

/-! ZH: max(d.values()), d.get(k, x), xs.count(x). -/
namespace XB
open PySem PySem.Spec PyProof.Rows L2
section
variable {X : Cx} {ρ : Ro} {M : Mem} {o e f : Expr} {p pos apos mpos cpos : Pos} {j : Nat}
end
end XB

/-! ZI: sum of a tuple. -/
namespace XB
open PySem PySem.Spec PyProof.Rows L2
section
variable {X : Cx} {ρ : Ro} {M : Mem} {e : Expr} {p pos : Pos}
end
end XB

/-! ZJ: sorted(set(..)) and cuts of what has effects; tuple(range(..)); blocks. -/
namespace XB
open PySem PySem.Spec PyProof.Rows L2
section
variable {X : Cx} {ρ : Ro} {M : Mem} {e : Expr} {p p2 pos pos2 : Pos} {n : Nat}
variable {lo hi : Option Expr} {i j : Option Int}
end
theorem nodup_sub_len : ∀ {a b : List Nat}, a.Nodup → (∀ x ∈ a, x ∈ b) → a.length ≤ b.length
  | [], _, _, _ => Nat.zero_le _
  | x :: a, b, hn, h => by
    obtain ⟨n1, n2⟩ := List.nodup_cons.mp hn
    have hx := h x (List.mem_cons_self ..)
    have h1 := nodup_sub_len (b := b.erase x) n2 fun y hy => (List.mem_erase_of_ne (by rintro rfl; exact n1 hy)).mpr (h y (List.mem_cons_of_mem _ hy))
    rw [List.length_erase_of_mem hx] at h1
    have h2 := List.length_pos_of_mem hx
    rw [List.length_cons]
    omega
section
variable {X : Cx} {ρ : Ro} {M : Mem} {o ix : Expr} {pos : Pos} {j : Nat}
end
end XB

/-! ZK: for over an owned list, with effects in the body. -/
namespace XB
open PySem PySem.Spec PyProof.Rows L2
section
variable {X : Cx} {ρ : Ro} {M : Mem} {E : En} {Hb : Hp} {Ab : List Addr} {tg iter : Expr} {body : List Stmt} {pos : Pos}
end
section
variable {X : Cx} {ρ : Ro} {M : Mem} {tg iter elt : Expr} {scope : Scope} {pos : Pos} {own : List (Str × Nat)}
end
section
variable {X : Cx} {Hb : Hp} {Ab : List Addr} {E : En} {ρ : Ro} {M : Mem} {tg iter elt : Expr} {scope : Scope} {pos spos : Pos}
end
end XB

/-! ZL: is True, is not True; fewer masks than the rank; maps one to one. -/
namespace XB
open PySem PySem.Spec PyProof.Rows L2
section
variable {X : Cx} {ρ : Ro} {M : Mem} {a b : Expr} {pos : Pos}
end
theorem bas_len_self (l : List Nat) : (basN l).length ≤ l.length := by
  have h1 := span_count l
  have h2 : (spanL l).length ≤ 2 ^ l.length * 1 := span_len l [0]
  rw [h1, Nat.mul_one] at h2
  exact (Nat.pow_le_pow_iff_right (by decide)).mp h2
theorem deg_few {n : Nat} {ms V : List Nat} (hm : ∀ m ∈ ms, m < 2 ^ n) (hV : ∀ v ∈ V, v < 2 ^ n) (h : ms.length < (basN V).length) : degB n ms V ≠ 1 := by
  have hA := annN_lt hm
  have h1 := meet_dim hA hV
  have h2 := ann_len hm
  have h3 := bas_len_self ms
  have h4 : (basN (annN n ms ++ V)).length ≤ n := bas_len_le fun v hv => by
    rcases List.mem_append.mp hv with hv | hv
    · exact hA v hv
    · exact hV v hv
  rw [ann_bas] at h1
  have h5 : 0 < (meetN n (annN n ms) V).length := by omega
  unfold degB
  have h6 : 2 ^ 1 ≤ 2 ^ (meetN n (annN n ms) V).length := Nat.pow_le_pow_right (by decide) h5
  omega
end XB

/-! ZM: sorted(d.values()). -/
namespace XB
open PySem PySem.Spec PyProof.Rows L2
section
variable {X : Cx} {ρ : Ro} {M : Mem} {o e f : Expr} {p pos apos mpos cpos : Pos} {j : Nat}
end
end XB

/-! ZN: [elt for tg in iter if test], the test and the element with effects. -/
namespace XB
open PySem PySem.Spec PyProof.Rows L2
section
variable {X : Cx} {ρ : Ro} {M : Mem} {tg iter elt tst : Expr} {scope : Scope} {pos : Pos} {own : List (Str × Nat)}
end
section
variable {X : Cx} {Hb : Hp} {Ab : List Addr} {E : En} {ρ : Ro} {M : Mem} {tg iter elt tst : Expr} {scope : Scope} {pos spos : Pos}
end
section
variable {X : Cx} {ρ : Ro} {M : Mem} {e : Expr} {p pos : Pos}
end
theorem up_len_le {l : List Nat} {N : Nat} (h : l.Pairwise (· < ·)) (hl : ∀ x ∈ l, x < N) : l.length ≤ N := by
  have := nodup_sub_len (b := List.range N) (h.imp fun {a b} h => by omega) fun x hx => List.mem_range.mpr (hl x hx)
  rwa [List.length_range] at this
section
variable {X : Cx} {ρ : Ro} {M : Mem} {a b : Expr} {pos : Pos}
theorem EvD.cast {w w' : W} (e : w = w') (h : EvD X a ρ M w) : EvD X a ρ M w' := e ▸ h
theorem Et.gtI {Φ : Bool → Mem → Prop} (h : Ev X a ρ M fun wa M1 => ∃ i : Int, wa = .dat (.int i) ∧ Ev X b ρ M1 fun wb M2 => ∃ j : Int, wb = .dat (.int j) ∧ Φ (decide (j < i)) M2) : Et X (.Compare a [.Gt] [b] pos) ρ M Φ := fun σ H Q ok q =>
  of_pt (pt_cmpR op_gt p_rd p_rd (nobehind _ (by decide) (by decide))) (h σ H _ ok fun w1 M1 v1 H1 h1 ea1 x1 m1 r1 => by
    obtain ⟨i, rfl, h1⟩ := h1
    refine h1 σ H1 _ (ok.ext ea1 x1 m1) fun w2 M2 v2 H2 h2 ea2 x2 m2 r2 => ?_
    obtain ⟨j, rfl, h2⟩ := h2
    rw [ea1] at ea2 x2
    obtain rfl := Dd.int_of r1
    obtain rfl := Dd.int_of r2
    exact ⟨i, j, rfl, rfl, decide (j < i), rfl, q _ M2 H2 h2 ea2 (x1.trans x2) m2⟩)
end
/-- differences: ascending, above 0 -/
structure Dfs (n : Nat) (ds : List Nat) : Prop where
  up : ds.Pairwise (· < ·)
  pos : ∀ x ∈ ds, 0 < x
  lt : ∀ x ∈ ds, x < 2 ^ n
theorem Dfs.len {n : Nat} {ds : List Nat} (h : Dfs n ds) : ds.length ≤ 2 ^ n := up_len_le h.up h.lt
theorem Dfs.filter {n : Nat} {ds : List Nat} (h : Dfs n ds) (p : Nat → Bool) : Dfs n (ds.filter p) := ⟨h.up.filter _, fun x hx => h.pos x (List.mem_filter.mp hx).1, fun x hx => h.lt x (List.mem_filter.mp hx).1⟩
theorem Dfs.nil {n : Nat} : Dfs n [] := ⟨List.Pairwise.nil, by simp, by simp⟩
end XB

/-! ZO: == and != of bools; kernels by all addresses. -/
namespace XB
open PySem PySem.Spec PyProof.Rows L2
section
variable {X : Cx} {ρ : Ro} {M : Mem} {a b : Expr} {pos : Pos}
end
end XB

/-! ZP: y = [elt for x in iter for y in iter1], pure. -/
namespace XB
open PySem PySem.Spec PyProof.Rows L2
section
variable {X : Cx} {ρ : Ro} {M : Mem} {tg iter tg1 iter1 elt : Expr} {scope : Scope} {pos : Pos} {α β : Type} {own : List (Str × Nat)} {vs1 : List Nat}
theorem TgD.two {w : W} {ρ' : Ro} {i j : Nat} (h : TgD X tg [i] ρ M w ρ') : TgD X tg [i, j] ρ M w ρ' := fun x σ H Q r ok q => h x σ H Q r ok fun σ' H' s o e => q σ' H' s o (by
  have e : σ'.set i none = σ.set i none := e
  show (σ'.set j none).set i none = (σ.set j none).set i none
  by_cases hij : i = j
  · subst hij
    rw [e]
  · rw [List.set_comm _ _ (Ne.symm hij), e, List.set_comm _ _ hij])
variable {Hb : Hp} {Ab : List Addr} {E : En} {spos : Pos}
end
section
variable {X : Cx} {Hb : Hp} {Ab : List Addr} {E : En} {ρ : Ro} {M : Mem} {a b : Expr} {pos : Pos}
end
end XB

/-! YG: choices of banks, one for each kernel. -/
namespace XB
open PySem PySem.Spec PyProof.Rows L2
def newN (c : List Nat) : Nat := c.foldl (fun k b => if b = 2 ^ k then k + 1 else k) 0
theorem newN_snoc (c : List Nat) (b : Nat) : newN (c ++ [b]) = if b = 2 ^ newN c then newN c + 1 else newN c := by
  unfold newN
  rw [List.foldl_append]
  rfl
def nextN (c : List Nat) (bits : Nat) : List Nat := if newN c < bits then List.range (2 ^ newN c) ++ [2 ^ newN c] else List.range (2 ^ newN c)
def bbN (c : List Nat) (x : Nat) : Nat := c.zipIdx.foldl (fun acc p => if x.testBit p.2 = true then acc ^^^ p.1 else acc) 0
theorem bbN_snoc (c : List Nat) (b x : Nat) : bbN (c ++ [b]) x = if x.testBit c.length = true then bbN c x ^^^ b else bbN c x := by
  unfold bbN
  rw [List.zipIdx_append, List.foldl_append]
  simp
/-- a choice of a length: as it may stand -/
structure Cho (s : Nat) (c : List Nat) : Prop where
  len : c.length = s
  new : newN c ≤ s
  lt : ∀ b ∈ c, b < 2 ^ newN c
theorem Cho.nil : Cho 0 [] := ⟨rfl, Nat.le_refl _, by simp⟩
theorem mem_nextN {c : List Nat} {bits b : Nat} : b ∈ nextN c bits ↔ b < 2 ^ newN c ∨ (newN c < bits ∧ b = 2 ^ newN c) := by
  unfold nextN
  split
  · rename_i h
    rw [List.mem_append, List.mem_range, List.mem_singleton]
    exact ⟨fun z => z.elim .inl fun z => .inr ⟨h, z⟩, fun z => z.elim .inl fun z => .inr z.2⟩
  · rename_i h
    rw [List.mem_range]
    exact ⟨.inl, fun z => z.elim id fun z => absurd z.1 h⟩
theorem Cho.next {s bits : Nat} {c : List Nat} (h : Cho s c) {b : Nat} (hb : b ∈ nextN c bits) : Cho (s + 1) (c ++ [b]) := by
  have hn := newN_snoc c b
  have h1 := h.new
  refine ⟨by rw [List.length_append, h.len]; rfl, by rw [hn]; split <;> omega, fun x hx => ?_⟩
  rw [hn]
  rcases mem_nextN.mp hb with hb | ⟨_, rfl⟩
  · rw [if_neg (by omega)]
    rcases List.mem_append.mp hx with hx | hx
    · exact h.lt x hx
    · rw [List.mem_singleton.mp hx]; exact hb
  · rw [if_pos rfl]
    have hp : 2 ^ newN c < 2 ^ (newN c + 1) := Nat.pow_lt_pow_right (by decide) (by omega)
    rcases List.mem_append.mp hx with hx | hx
    · exact Nat.lt_trans (h.lt x hx) hp
    · rw [List.mem_singleton.mp hx]; exact hp
end XB

/-! ZQ: tuple * 0, tuple * 1; texts. -/
namespace XB
open PySem PySem.Spec PyProof.Rows L2
section
variable {X : Cx} {ρ : Ro} {M : Mem} {a b e o : Expr} {p pos apos cpos : Pos} {tg : Expr}
end
end XB

/-! YH: texts of numbers. -/
namespace XB
open PySem PySem.Spec PyProof.Rows L2 TL
section
variable {X : Cx} {ρ : Ro} {M : Mem} {a : Expr} {pos : Pos}
theorem EtD.cast {x y : Bool} (e : x = y) (h : EtD X a ρ M x) : EtD X a ρ M y := e ▸ h
theorem et_isN {d : D} {k pos'} (ha : EvD X a ρ M (.dat d)) : EtD X (.Compare a [.Is] [.Constant .none k pos'] pos) ρ M (isN d) := fun σ H Q ok q =>
  of_pt (pt_cmp (pc_isN p_rd)) (ha σ H _ ok fun x H1 s1 r1 => by
    have e : decide (x = V.non) = isN d := by
      have r : Dd X.K H1 (ads M) x d := r1
      cases r <;> first | rfl | exact decide_eq_false (fun z => nomatch z)
    rw [e]
    exact ⟨_, rfl, q H1 s1⟩)
end
end XB

/-! YI: texts of groups. -/
namespace XB
open PySem PySem.Spec PyProof.Rows L2 TL
end XB

/-! YK: how many maps have each kernel. -/
namespace XB
open PySem PySem.Spec PyProof.Rows L2
theorem bbN_xor (x y : Nat) : ∀ (n : Nat) (c : List Nat), c.length = n → bbN c (x ^^^ y) = bbN c x ^^^ bbN c y
  | 0, [], _ => by show (0 : Nat) = 0 ^^^ 0; rfl
  | n + 1, c, h => by
    have hne : c ≠ [] := fun z => by rw [z] at h; cases h
    obtain ⟨c0, b, rfl⟩ : ∃ c0 b, c = c0 ++ [b] := ⟨c.dropLast, c.getLast hne, (List.dropLast_concat_getLast hne).symm⟩
    have h0 : c0.length = n := by rw [List.length_append] at h; exact Nat.succ.inj h
    rw [bbN_snoc, bbN_snoc, bbN_snoc, bbN_xor x y n c0 h0, Nat.testBit_xor]
    cases x.testBit c0.length <;> cases y.testBit c0.length
    · rfl
    · simp [Nat.xor_assoc]
    · simp [Nat.xor_assoc, Nat.xor_comm b]
    · simp only [bne_self_eq_false, Bool.false_eq_true, if_false, if_true]
      rw [Nat.xor_assoc, Nat.xor_comm b, Nat.xor_assoc, Nat.xor_self, Nat.xor_zero]
theorem bb_xor (c : List Nat) (x y : Nat) : bbN c (x ^^^ y) = bbN c x ^^^ bbN c y := bbN_xor x y _ c rfl
theorem bb_lt {k : Nat} (x : Nat) : ∀ (n : Nat) (c : List Nat), c.length = n → (∀ b ∈ c, b < 2 ^ k) → bbN c x < 2 ^ k
  | 0, [], _, _ => Nat.two_pow_pos k
  | n + 1, c, h, hb => by
    have hne : c ≠ [] := fun z => by rw [z] at h; cases h
    obtain ⟨c0, b, rfl⟩ : ∃ c0 b, c = c0 ++ [b] := ⟨c.dropLast, c.getLast hne, (List.dropLast_concat_getLast hne).symm⟩
    have h0 : c0.length = n := by rw [List.length_append] at h; exact Nat.succ.inj h
    have h1 := bb_lt x n c0 h0 fun z hz => hb z (List.mem_append_left _ hz)
    have h2 := hb b (List.mem_append_right _ (List.mem_singleton.mpr rfl))
    rw [bbN_snoc]
    split
    · exact Nat.xor_lt_two_pow h1 h2
    · exact h1
theorem bb_low {c : List Nat} (x : Nat) : ∀ (n : Nat) (c : List Nat), c.length = n → ∀ m, n ≤ m → bbN c (x % 2 ^ m) = bbN c x
  | 0, [], _, m, _ => rfl
  | n + 1, c, h, m, hm => by
    have hne : c ≠ [] := fun z => by rw [z] at h; cases h
    obtain ⟨c0, b, rfl⟩ : ∃ c0 b, c = c0 ++ [b] := ⟨c.dropLast, c.getLast hne, (List.dropLast_concat_getLast hne).symm⟩
    have h0 : c0.length = n := by rw [List.length_append] at h; exact Nat.succ.inj h
    rw [bbN_snoc, bbN_snoc, bb_low (c := c0) x n c0 h0 m (by omega), Nat.testBit_mod_two_pow, h0, decide_eq_true (show n < m by omega), Bool.true_and]
theorem bb_mod (c : List Nat) (x : Nat) {m : Nat} (hm : c.length ≤ m) : bbN c (x % 2 ^ m) = bbN c x := bb_low (c := c) x _ c rfl m hm
/-- where a bank is met -/
def idxN (g : List Nat) (v : Nat) : Option Nat := (List.range (2 ^ g.length)).find? fun y => decide (bbN g y = v)
theorem idx_some {g : List Nat} {v y : Nat} (h : idxN g v = some y) : y < 2 ^ g.length ∧ bbN g y = v := by
  have h1 := List.mem_of_find?_eq_some h
  have h2 := List.find?_some h
  exact ⟨List.mem_range.mp h1, of_decide_eq_true h2⟩
theorem idx_none {g : List Nat} {v : Nat} (h : idxN g v = none) (y : Nat) : bbN g y ≠ v := fun e => by
  have h1 := List.find?_eq_none.mp h (y % 2 ^ g.length) (List.mem_range.mpr (Nat.mod_lt _ (Nat.two_pow_pos _)))
  exact h1 (decide_eq_true (by rw [bb_mod g y (Nat.le_refl _)]; exact e))
/-- the choice of a list of banks -/
def nfR : List Nat → List Nat
  | [] => []
  | v :: r => nfR r ++ [match idxN r.reverse v with | some y => bbN (nfR r) y | none => 2 ^ newN (nfR r)]
def nfN (g : List Nat) : List Nat := nfR g.reverse
def nxN (g : List Nat) (v : Nat) : Nat := match idxN g v with | some y => bbN (nfN g) y | none => 2 ^ newN (nfN g)
theorem nfR_cons (v : Nat) (r : List Nat) : nfR (v :: r) = nfR r ++ [match idxN r.reverse v with | some y => bbN (nfR r) y | none => 2 ^ newN (nfR r)] := rfl
theorem nf_snoc (g : List Nat) (v : Nat) : nfN (g ++ [v]) = nfN g ++ [nxN g v] := by
  have e : (g ++ [v]).reverse = v :: g.reverse := by rw [List.reverse_append]; rfl
  show nfR (g ++ [v]).reverse = _
  rw [e, nfR_cons, List.reverse_reverse]
  rfl
structure Nf (g c : List Nat) : Prop where
  cho : Cho g.length c
  ker : ∀ x, bbN c x = 0 ↔ bbN g x = 0
  onto : ∀ u, u < 2 ^ newN c → ∃ y, y < 2 ^ g.length ∧ bbN c y = u
theorem Nf.low {g c : List Nat} (h : Nf g c) (x : Nat) : bbN c x < 2 ^ newN c := bb_lt x _ c rfl h.cho.lt
theorem bit_split {x s : Nat} (h : x < 2 ^ (s + 1)) (hb : x.testBit s = true) : ∃ x', x' < 2 ^ s ∧ x = x' ^^^ 2 ^ s := by
  refine ⟨x % 2 ^ s, Nat.mod_lt _ (Nat.two_pow_pos s), Nat.eq_of_testBit_eq fun i => ?_⟩
  rw [Nat.testBit_xor, Nat.testBit_mod_two_pow, Nat.testBit_two_pow]
  rcases Nat.lt_trichotomy i s with hi | rfl | hi
  · rw [decide_eq_true hi, decide_eq_false (show ¬ s = i by omega)]; simp
  · rw [decide_eq_false (Nat.lt_irrefl i), decide_eq_true rfl, hb]; rfl
  · rw [decide_eq_false (show ¬ i < s by omega), decide_eq_false (show ¬ s = i by omega)]
    have : x.testBit i = false := Nat.testBit_lt_two_pow (Nat.lt_of_lt_of_le h (Nat.pow_le_pow_right (by decide) (by omega)))
    rw [this]; rfl
theorem Nf.next {g c : List Nat} (h : Nf g c) (hc : c = nfN g) (v : Nat) : Nf (g ++ [v]) (nfN (g ++ [v])) ∧ nxN g v ∈ nextN c (g.length + 1) := by
  have hl : c.length = g.length := h.cho.len
  have hnew := h.cho.new
  rw [nf_snoc, ← hc]
  have hnx : nxN g v = match idxN g v with | some y => bbN c y | none => 2 ^ newN c := by unfold nxN; rw [hc]
  generalize nxN g v = b at hnx
  cases hi : idxN g v with
  | some y =>
    rw [hi] at hnx
    have hb : b = bbN c y := hnx
    obtain ⟨hy1, hy2⟩ := idx_some hi
    have hblt : b < 2 ^ newN c := by rw [hb]; exact h.low y
    have hmem : b ∈ nextN c (g.length + 1) := mem_nextN.mpr (.inl hblt)
    have hn : newN (c ++ [b]) = newN c := by rw [newN_snoc, if_neg (by omega)]
    refine ⟨⟨by rw [List.length_append]; exact h.cho.next hmem, fun x => ?_, fun u hu => ?_⟩, hmem⟩
    · rw [bbN_snoc, bbN_snoc, hl]
      split
      · rw [hb, ← hy2, ← bb_xor, ← bb_xor]
        exact h.ker _
      · exact h.ker x
    · rw [hn] at hu
      obtain ⟨z, hz, e⟩ := h.onto u hu
      refine ⟨z, Nat.lt_of_lt_of_le hz (Nat.pow_le_pow_right (by decide) (by rw [List.length_append]; exact Nat.le_succ _)), ?_⟩
      rw [bbN_snoc, hl, Nat.testBit_lt_two_pow hz, if_neg (by decide)]
      exact e
  | none =>
    rw [hi] at hnx
    have hb : b = 2 ^ newN c := hnx
    have hmem : b ∈ nextN c (g.length + 1) := mem_nextN.mpr (.inr ⟨by omega, hb⟩)
    have hn : newN (c ++ [b]) = newN c + 1 := by rw [newN_snoc, if_pos hb]
    refine ⟨⟨by rw [List.length_append]; exact h.cho.next hmem, fun x => ?_, fun u hu => ?_⟩, hmem⟩
    · rw [bbN_snoc, bbN_snoc, hl]
      split
      · constructor
        · intro e
          have h1 := xor_eq_zero e
          have h2 := h.low x
          rw [hb] at h1
          omega
        · intro e
          exact absurd (xor_eq_zero e) (idx_none hi x)
      · exact h.ker x
    · rw [hn] at hu
      by_cases hub : u < 2 ^ newN c
      · obtain ⟨z, hz, e⟩ := h.onto u hub
        refine ⟨z, Nat.lt_of_lt_of_le hz (Nat.pow_le_pow_right (by decide) (by rw [List.length_append]; exact Nat.le_succ _)), ?_⟩
        rw [bbN_snoc, hl, Nat.testBit_lt_two_pow hz, if_neg (by decide)]
        exact e
      · have hbit : u.testBit (newN c) = true := by
          rw [Nat.testBit_eq_decide_div_mod_eq]
          have h1 : u / 2 ^ newN c = 1 := by
            rw [Nat.pow_succ] at hu
            exact Nat.div_eq_of_lt_le (by omega) (by omega)
          rw [h1]
          rfl
        obtain ⟨u', hu', e'⟩ := bit_split hu hbit
        obtain ⟨z, hz, e⟩ := h.onto u' hu'
        have hp : 2 ^ g.length < 2 ^ (g ++ [v]).length := by rw [List.length_append]; exact Nat.pow_lt_pow_right (by decide) (Nat.lt_succ_self _)
        refine ⟨z ^^^ 2 ^ g.length, Nat.xor_lt_two_pow (Nat.lt_trans hz hp) hp, ?_⟩
        have hzb : (z ^^^ 2 ^ g.length).testBit g.length = true := by
          rw [Nat.testBit_xor, Nat.testBit_lt_two_pow hz, Nat.testBit_two_pow_self]; rfl
        rw [bbN_snoc, hl, hzb, if_pos rfl]
        have h3 : bbN c (z ^^^ 2 ^ g.length) = u' := by
          rw [← bb_mod c (z ^^^ 2 ^ g.length) (m := g.length) (by omega), Nat.xor_mod_two_pow, Nat.mod_eq_of_lt hz, Nat.mod_self, Nat.xor_zero]
          exact e
        rw [h3, hb]
        exact e'.symm
end XB

/-! YL: the number of free maps. -/
namespace XB
open PySem PySem.Spec PyProof.Rows L2
def allN (B : Nat) : Nat → List (List Nat)
  | 0 => [[]]
  | s + 1 => (allN B s).flatMap fun g => (List.range B).map fun v => g ++ [v]
/-- the number of lists of banks without a difference at 0 -/
def freeC (ds : List Nat) (b w : Nat) : Nat := ((allN (2 ^ b) w).filter fun g => ds.all fun d => decide (bbN g d ≠ 0)).length
end XB

/-! YM: maps and lists of banks; the polynomial. -/
namespace XB
open PySem PySem.Spec PyProof.Rows L2
/-! ### the polynomial -/
def evP (q : Int) : List Int → Int
  | [] => 0
  | a :: l => evP q l * q + a
section
variable {X : Cx} {ρ : Ro} {M : Mem} {e : Expr}
theorem EvL.cast {ds es : List D} (h0 : ds = es) (h : EvL X e ρ M ds) : EvL X e ρ M es := h0 ▸ h
end
end XB

/-! YN: free maps by the choices of so many masks. -/
namespace XB
open PySem PySem.Spec PyProof.Rows L2
section
variable {X : Cx} {ρ : Ro} {M : Mem} {e : Expr} {p p2 pos pos2 : Pos} {n : Nat}
end
end XB

/-! YO: free maps of each rank. -/
namespace XB
open PySem PySem.Spec PyProof.Rows L2
end XB

/-! ZR: x, y, z = a, b, c; x, y = (new list, new list). -/
namespace XB
open PySem PySem.Spec PyProof.Rows L2
section
variable {X : Cx} {Hb : Hp} {Ab : List Addr} {E : En} {ρ : Ro} {M : Mem} {a b c : Expr} {pos : Pos}
end
/-- numbers of any sign: their shape -/
theorem lay_ints : ∀ l : List Int, PyData.canLayAll0 (l.map PyData.int) = true ∧ PyData.depthAll (l.map PyData.int) = 0
  | [] => ⟨rfl, rfl⟩
  | x :: l => by
    obtain ⟨h1, h2⟩ := lay_ints l
    refine ⟨?_, ?_⟩
    · show (true && PyData.canLayAll0 (l.map PyData.int)) = true
      rw [h1]; rfl
    · show max 0 (PyData.depthAll (l.map PyData.int)) = 0
      rw [h2]; rfl
theorem shaped_ints (l : List Int) : SeqAt.shaped (.tuple (l.map PyData.int)) = true := by
  obtain ⟨h1, h2⟩ := lay_ints l
  unfold SeqAt.shaped
  have e1 : PyData.canLay0 (.tuple (l.map PyData.int)) = PyData.canLayAll0 (l.map PyData.int) := rfl
  have e2 : PyData.depth (.tuple (l.map PyData.int)) = PyData.depthAll (l.map PyData.int) + 1 := rfl
  rw [e1, e2, h1, h2]
  rfl
theorem nodict_ints : ∀ l : List Int, PyData.hasDictAll (l.map PyData.int) = false
  | [] => rfl
  | x :: l => by
    show (false || PyData.hasDictAll (l.map PyData.int)) = false
    rw [nodict_ints l]; rfl
section
variable {X : Cx} {ρ : Ro} {M : Mem} {a b : Expr} {pos : Pos}
end
end XB

/-! ZS: y = [elt for a, b in iter]. -/
namespace XB
open PySem PySem.Spec PyProof.Rows L2
section
variable {X : Cx} {Hb : Hp} {Ab : List Addr} {E : En} {ρ : Ro} {M : Mem} {elt iter c : Expr} {pos tp spos : Pos} {scope : Scope} {α : Type} {pu : Bool} {x y z : Str} {pz : Pos} {ws : List W}
end
end XB

/-! YP: the fewest cycles of all choices. -/
namespace XB
open PySem PySem.Spec PyProof.Rows L2
end XB

/-! ZT: a def of the module as a value; a call of a name that holds it. -/
namespace XB
open PySem PySem.Spec PyProof.Rows L2
section
variable {X : Cx} {CX : L2.CXT} {k : Nat} {f : Addr} {fd : FuncData} {ps : List Str} {sp : L2.Sp} {dvs : List V} {ds : List Value} {E : XK} {y : Str} {p pos : Pos} {e : Expr} {es : List Expr} {t : TA} {i : Nat}
end
section
variable {X : Cx} {ρ : Ro} {M : Mem} {e : Expr} {es : List Expr} {pos p : Pos} {w : W} {ws : List W} {k : Nat} {x y : Str} {ps : List Str} {sd : Stmt} {f : Addr}
end
end XB

/-! ZU: xs.extend(tuple), xs.pop(). -/
namespace XB
open PySem PySem.Spec PyProof.Rows L2
section
variable {X : Cx}
end
section
variable {X : Cx} {Hb : Hp} {Ab : List Addr} {E : En} {ρ : Ro} {M : Mem} {e : Expr} {pos : Pos}
end
section
variable {X : Cx} {ρ : Ro} {M : Mem}
end
end XB

/-! YQ: divisions into cases. -/
namespace XB
open PySem PySem.Spec PyProof.Rows L2
section
variable {X : Cx} {ρ : Ro} {M : Mem} {a b : Expr} {pos : Pos}
end
end XB

/-! YR: divisions that are known by hand. -/
namespace XB
open PySem PySem.Spec PyProof.Rows L2
end XB

/-! YS: either a free map or a division. -/
namespace XB
open PySem PySem.Spec PyProof.Rows L2
theorem bitsN_le {d s : Nat} (h : d < 2 ^ s) : bitsN d ≤ s := by
  unfold bitsN
  split
  · exact Nat.zero_le _
  · rename_i h0
    have := (Nat.log2_lt h0).mpr h
    omega
end XB

/-! YT: sorted of a set comprehension of numbers. -/
namespace XB
open PySem PySem.Spec PyProof.Rows L2 PpSet
section
variable {X : Cx}
end
section
variable {X : Cx} {ρ : Ro} {M : Mem} {tg iter elt : Expr} {ifs : List Expr} {scope : Scope} {pos : Pos} {α : Type} {own : List (Str × Nat)}
end
section
variable {X : Cx} {ρ : Ro} {M : Mem} {iter elt : Expr} {scope : Scope} {x : Str} {tp pos p pos2 : Pos} {l : List Nat}
end
section
variable {X : Cx} {Hb : Hp} {Ab : List Addr} {E : En} {ρ : Ro} {M : Mem} {a b c : Expr} {pos : Pos}
end
/-! ### data without dicts, by depth -/
structure Ly (k : Nat) (d : D) : Prop where
  lay : d.canLay0 = true
  deep : d.depth ≤ k
structure LyA (k : Nat) (ds : List D) : Prop where
  lay : PyData.canLayAll0 ds = true
  deep : PyData.depthAll ds ≤ k
theorem LyA.nil {k : Nat} : LyA k [] := ⟨rfl, Nat.zero_le _⟩
theorem LyA.cons {k : Nat} {d : D} {ds : List D} (h : Ly k d) (h2 : LyA k ds) : LyA k (d :: ds) := ⟨by
  show (d.canLay0 && PyData.canLayAll0 ds) = true
  rw [h.lay, h2.lay]; rfl, Nat.max_le.mpr ⟨h.deep, h2.deep⟩⟩
theorem LyA.of {k : Nat} : ∀ {ds : List D}, (∀ d ∈ ds, Ly k d) → LyA k ds
  | [], _ => .nil
  | d :: ds, h => .cons (h d (List.mem_cons_self ..)) (LyA.of fun x hx => h x (List.mem_cons_of_mem _ hx))
theorem LyA.tup {k : Nat} {ds : List D} (h : LyA k ds) : Ly (k + 1) (.tuple ds) := ⟨h.lay, Nat.succ_le_succ h.deep⟩
theorem LyA.lst {k : Nat} {ds : List D} (h : LyA k ds) : Ly (k + 1) (.list ds) := ⟨h.lay, Nat.succ_le_succ h.deep⟩
theorem Ly.mono {k k' : Nat} {d : D} (h : Ly k d) (hk : k ≤ k') : Ly k' d := ⟨h.lay, Nat.le_trans h.deep hk⟩
theorem Ly.nodict {k : Nat} {d : D} (h : Ly k d) : d.hasDict = false := PyData.hasDict_of_canLay d h.lay
theorem Ly.shaped {k : Nat} {d : D} (h : Ly k d) (hk : k ≤ 64) : SeqAt.shaped d = true := by
  unfold SeqAt.shaped
  rw [h.lay, decide_eq_true (Nat.le_trans h.deep hk)]
  rfl
section
variable {X : Cx} {ρ : Ro} {M : Mem} {a b : Expr} {pos : Pos} {k j : Nat} {d : D}
end
end XB

/-! YU: one bit taken away, the quotient by an address, deletion and contraction, the signs of the polynomial. -/
namespace XB
open PySem PySem.Spec PyProof.Rows L2

/-! ### one bit taken away -/
def dropB (t x : Nat) : Nat := x % 2 ^ t + x / 2 ^ (t + 1) * 2 ^ t
theorem drop_bit (t x i : Nat) : (dropB t x).testBit i = if i < t then x.testBit i else x.testBit (i + 1) := by
  have e : dropB t x = 2 ^ t * (x / 2 ^ (t + 1)) + x % 2 ^ t := by unfold dropB; rw [Nat.mul_comm, Nat.add_comm]
  rw [e, Nat.testBit_two_pow_mul_add _ (Nat.mod_lt _ (Nat.two_pow_pos t))]
  split
  · rename_i h
    rw [Nat.testBit_mod_two_pow, decide_eq_true h, Bool.true_and]
  · rename_i h
    rw [Nat.testBit_div_two_pow]
    congr 1
    omega
theorem drop_zero (t : Nat) : dropB t 0 = 0 := Nat.eq_of_testBit_eq fun i => by rw [drop_bit, Nat.zero_testBit, Nat.zero_testBit]; split <;> rfl
section
variable {d n : Nat}
end

end XB

/-! YV: an invertible change of the bits, one more bit: numbers of maps, polynomials, numbers of kernels. -/
namespace XB
open PySem PySem.Spec PyProof.Rows L2

section
variable {ds es : List Nat} {n : Nat}
end

/-! ### an invertible change of the bits -/
structure Chg (n : Nat) (rows : List Nat) : Prop where
  len : rows.length = n
  lt : ∀ r ∈ rows, r < 2 ^ n
  ker : ∀ x, x < 2 ^ n → bankN rows x = 0 → x = 0
/-- the mask ahead of the change -/
def psi : List Nat → Nat → Nat
  | [], _ => 0
  | r :: rs, m => (if m % 2 = 1 then r else 0) ^^^ psi rs (m / 2)
/-- what maps a finite range into itself one to one reaches all of it -/
theorem onto {B : Nat} {f : Nat → Nat} (h1 : ∀ x, x < B → f x < B) (h2 : ∀ x y, x < B → y < B → f x = f y → x = y) (y : Nat) (hy : y < B) : ∃ x, x < B ∧ f x = y := by
  refine Classical.byContradiction fun hn => ?_
  have nd : ((List.range B).map f).Nodup := List.pairwise_map.mpr (List.Pairwise.imp_of_mem (fun {a b} ha hb hne e => hne (h2 a b (List.mem_range.mp ha) (List.mem_range.mp hb) e)) List.nodup_range)
  have nd2 : (y :: (List.range B).map f).Nodup := List.nodup_cons.mpr ⟨fun hm => by
    obtain ⟨x, hx, e⟩ := List.mem_map.mp hm
    exact hn ⟨x, List.mem_range.mp hx, e⟩, nd⟩
  have := nodup_sub_len (b := List.range B) nd2 fun z hz => by
    rcases List.mem_cons.mp hz with rfl | hz
    · exact List.mem_range.mpr hy
    · obtain ⟨x, hx, rfl⟩ := List.mem_map.mp hz
      exact List.mem_range.mpr (h1 x (List.mem_range.mp hx))
  rw [List.length_cons, List.length_map, List.length_range] at this
  omega
section
variable {n : Nat} {rows : List Nat}
theorem xor_eq_zero' {a b : Nat} (h : a ^^^ b = 0) : a = b := by
  have := congrArg (· ^^^ b) h
  simp only [Nat.xor_assoc, Nat.xor_self, Nat.xor_zero, Nat.zero_xor] at this
  exact this
theorem Chg.inj (h : Chg n rows) {x y : Nat} (hx : x < 2 ^ n) (hy : y < 2 ^ n) (e : bankN rows x = bankN rows y) : x = y := by
  refine xor_eq_zero' (h.ker (x ^^^ y) (Nat.xor_lt_two_pow hx hy) ?_)
  rw [bankN_xor, e, Nat.xor_self]
theorem Chg.pos (h : Chg n rows) {x : Nat} (h0 : 0 < x) (hx : x < 2 ^ n) : 0 < bankN rows x := by
  rcases Nat.eq_zero_or_pos (bankN rows x) with z | z
  · have := h.ker x hx z
    omega
  · exact z
end

end XB

/-! ZV: tuple(range(m, n)). -/
namespace XB
open PySem PySem.Spec PyProof.Rows L2
section
variable {X : Cx} {ρ : Ro} {M : Mem} {a b e : Expr} {p p2 pos pos2 : Pos} {m n : Nat}
end
end XB

/-! ZW: min(list); how further bits change. -/
namespace XB
open PySem PySem.Spec PyProof.Rows L2
section
variable {X : Cx} {ρ : Ro} {M : Mem} {e : Expr} {p pos : Pos}
end
end XB

/-! ZX: an int in a tuple of ints; one difference more; counts by all choices. -/
namespace XB
open PySem PySem.Spec PyProof.Rows L2
section
variable {X : Cx} {ρ : Ro} {M : Mem} {a b : Expr} {pos : Pos} {x : Int} {l : List Int}
end
end XB

/-! ZY: numbers of bits known by hand. -/
namespace XB
open PySem PySem.Spec PyProof.Rows L2
section
variable {X : Cx} {ρ : Ro} {M : Mem} {a b : Expr} {pos : Pos} {x : Int} {l : List Int}
end
end XB

/-! YW: a basis as coordinates, differences side by side, two spaces without a common part. -/
namespace XB
open PySem PySem.Spec PyProof.Rows L2

/-! ### coordinates -/
theorem psi_xor : ∀ (B : List Nat) (x y : Nat), psi B (x ^^^ y) = psi B x ^^^ psi B y
  | [], _, _ => by show (0 : Nat) = 0 ^^^ 0; decide
  | r :: B, x, y => by
    show (if (x ^^^ y) % 2 = 1 then r else 0) ^^^ psi B ((x ^^^ y) / 2) = ((if x % 2 = 1 then r else 0) ^^^ psi B (x / 2)) ^^^ ((if y % 2 = 1 then r else 0) ^^^ psi B (y / 2))
    have e1 : (x ^^^ y) / 2 = x / 2 ^^^ y / 2 := Nat.xor_div_two
    have e2 : ((x ^^^ y) % 2 = 1) ↔ ¬ ((x % 2 = 1) ↔ (y % 2 = 1)) := by
      have h := Nat.testBit_xor x y 0
      rw [Nat.testBit_zero, Nat.testBit_zero, Nat.testBit_zero] at h
      by_cases h1 : x % 2 = 1 <;> by_cases h2 : y % 2 = 1 <;> simp [h1, h2] at h ⊢ <;> omega
    rw [e1, psi_xor B (x / 2) (y / 2)]
    generalize psi B (x / 2) = u
    generalize psi B (y / 2) = v
    have c1 : ∀ a b : Nat, (r ^^^ a) ^^^ (r ^^^ b) = a ^^^ b := fun a b => by
      rw [Nat.xor_assoc, Nat.xor_comm a (r ^^^ b), Nat.xor_assoc, ← Nat.xor_assoc r r, Nat.xor_self, Nat.zero_xor, Nat.xor_comm]
    by_cases h1 : x % 2 = 1 <;> by_cases h2 : y % 2 = 1
    · rw [if_neg (by rw [e2]; simp [h1, h2]), if_pos h1, if_pos h2, Nat.zero_xor, c1]
    · rw [if_pos (by rw [e2]; simp [h1, h2]), if_pos h1, if_neg h2, Nat.zero_xor, Nat.xor_assoc]
    · rw [if_pos (by rw [e2]; simp [h1, h2]), if_neg h1, if_pos h2, Nat.zero_xor, ← Nat.xor_assoc, Nat.xor_comm r u, Nat.xor_assoc]
    · rw [if_neg (by rw [e2]; simp [h1, h2]), if_neg h1, if_neg h2, Nat.zero_xor, Nat.zero_xor, Nat.zero_xor]
theorem psi_two : ∀ (B : List Nat) (i : Nat) (h : i < B.length), psi B (2 ^ i) = B[i]
  | r :: B, 0, _ => by
    show (if 1 % 2 = 1 then r else 0) ^^^ psi B (1 / 2) = r
    have e : psi B (1 / 2) = 0 := by
      have : ∀ B : List Nat, psi B 0 = 0 := fun B => by
        induction B with
        | nil => rfl
        | cons r B ih => show (if 0 % 2 = 1 then r else 0) ^^^ psi B (0 / 2) = 0; rw [if_neg (by decide), Nat.zero_div, ih]; rfl
      exact this B
    rw [e, if_pos (by decide), Nat.xor_zero]
  | r :: B, i + 1, h => by
    show (if 2 ^ (i + 1) % 2 = 1 then r else 0) ^^^ psi B (2 ^ (i + 1) / 2) = B[i]'(Nat.lt_of_succ_lt_succ h)
    have e1 : 2 ^ (i + 1) % 2 = 0 := by rw [Nat.pow_succ]; omega
    have e2 : 2 ^ (i + 1) / 2 = 2 ^ i := by rw [Nat.pow_succ]; omega
    rw [e1, if_neg (by decide), e2, Nat.zero_xor, psi_two B i (Nat.lt_of_succ_lt_succ h)]
theorem psi_zero (B : List Nat) : psi B 0 = 0 := by
  have := psi_xor B 0 0
  rw [Nat.xor_self, Nat.xor_self] at this
  exact this
/-! ### two spaces -/
section
variable {n : Nat} {U V ds : List Nat} (hU : ∀ v ∈ U, v < 2 ^ n) (hV : ∀ v ∈ V, v < 2 ^ n) (hds : ∀ x, x ∈ ds ↔ x ≠ 0 ∧ (Sp U x ∨ Sp V x))
include hU hV hds
variable (hm : meetN n U V = []) (hr : (basN U).length + (basN V).length = n)
include hm hr
omit hds in
end
end XB

/-! YX: x, y = a list of two; << of any int; t[:h] with effects in h. -/
namespace XB
open PySem PySem.Spec PyProof.Rows L2
section
variable {X : Cx} {ρ : Ro} {M : Mem} {w : W} {pos p2 : Pos} {a b e h0 : Expr}
end

end XB

/-! VA: instances of own classes, owned: attributes, methods, making. -/
namespace XB
open PySem PySem.Spec PyProof.Rows L2

/-! ### attributes -/
def putW (f : Str) (w : W) : List (Str × W) → List (Str × W)
  | [] => [(f, w)]
  | (g, x) :: r => if g = f then (g, w) :: r else (g, x) :: putW f w r
section
variable {K : PySem.W.Frag} {H H' : Hp} {A A' : List Addr}
theorem FsAll.put {f : Str} {v : V} {w : W} (s : SW K H A v w) : ∀ {fs : List (Str × V)} {fws : List (Str × W)}, FsAll K H A fs fws → FsAll K H A (putF f v fs) (putW f w fws)
  | _, _, .nil => .cons s .nil
  | _, _, .cons (f := g) (v := x) (w := y) (fs := fs) (fws := fws) a r => by
    show FsAll K H A (if g = f then (g, v) :: fs else (g, x) :: putF f v fs) (if g = f then (g, w) :: fws else (g, y) :: putW f w fws)
    split
    · exact .cons s r
    · exact .cons a (FsAll.put s r)
theorem FsAll.look {f : Str} {w : W} : ∀ {fs : List (Str × V)} {fws : List (Str × W)}, FsAll K H A fs fws → fws.lookup f = some w → ∃ v, fs.lookup f = some v ∧ SW K H A v w
  | _, _, .nil, h => by cases h
  | _, _, .cons (f := g) (v := x) (w := y) (fs := fs) (fws := fws) a r, h => by
    rw [List.lookup_cons] at h ⊢
    by_cases e : (f == g) = true
    · rw [e] at h ⊢
      exact ⟨x, rfl, by cases h; exact a⟩
    · rw [Bool.eq_false_iff.mpr e] at h ⊢
      exact FsAll.look r h
theorem FsAll.no {f : Str} : ∀ {fs : List (Str × V)} {fws : List (Str × W)}, FsAll K H A fs fws → fws.lookup f = none → fs.lookup f = none
  | _, _, .nil, h => rfl
  | _, _, .cons (f := g) (v := x) (w := y) (fs := fs) (fws := fws) a r, h => by
    rw [List.lookup_cons] at h ⊢
    by_cases e : (f == g) = true
    · rw [e] at h; cases h
    · rw [Bool.eq_false_iff.mpr e] at h ⊢
      exact FsAll.no r h
theorem FsAll.length : ∀ {fs : List (Str × V)} {fws : List (Str × W)}, FsAll K H A fs fws → fs.length = fws.length
  | _, _, .nil => rfl
  | _, _, .cons _ r => congrArg Nat.succ r.length
end
section
variable {X : Cx} {ρ : Ro} {M : Mem} {w : W} {pos pos' pd : Pos} {o e : Expr} {a C : Addr} {f : Str} {fws : List (Str × W)} {Hb : Hp} {Ab : List Addr} {E : En}
end

/-! ### methods -/
/-- a method of the class at C, and what it keeps -/
structure Met (P : Program) (w : World) (K : PySem.W.Frag) (mg : Str → Option Value) (base : Heap) (k : Nat) (C : Addr) (m : Str) (ps : List Str) (sp : L2.Sp) : Prop where
  ex : ∃ (f : Addr) (fd : FuncData), FnG P w K mg base CX0 k f fd ps sp ∧ Meth K C m f ∧ Binds K fd ps []
abbrev MetE (P : Program) (w : World) (K : PySem.W.Frag) (mg : Str → Option Value) (base : Heap) (k : Nat) (C : Addr) (m : Str) (ps : List Str) (T : Ct) : Prop := Met P w K mg base k C m ps (spE K T)
/-- the method m of the class at C is the def of the text -/
def HereM (K : PySem.W.Frag) (C : Addr) (m qual : Str) (st : Stmt) : Prop := ∃ f fd, FunD K m qual (defArgs st) (defBody st) (defScope st) [] [] f fd ∧ Meth K C m f
abbrev BindM (m qual : Str) (st : Stmt) (ps : List Str) : Prop := ∀ (kV doc pm : Value) (an : Option Addr) (cdv ct : Value) (us : List Value), us.length = ps.length → bindArgs (PySem.W.fnOf m qual (defArgs st) (defBody st) (defScope st) .none kV doc pm an cdv ct) ⟨us, []⟩ = pure (ps.zip us)
section
variable {P : Program} {w : World} {K : PySem.W.Frag} {mg : Str → Option Value} {base : Heap} {k : Nat} {C : Addr} {ps N : List Str} {m qual : Str} {st : Stmt}
theorem MetE.of {T : Ct} (F : HereM K C m qual st) (S : FnScope N ps (defScope st)) (hb : BindM m qual st ps) (len : ∀ ws M Φ, T ws M Φ → ws.length = ps.length)
    (body : ∀ (f : Addr) (cdv : Value) (A : Around) (outer : List Env) (s : Shared) (H : Hp) (E : XK) (ws : List W) (Φ : W → Mem → Prop) (M : Mem), Room k (cx0 P w K mg base N qual (defScope st) f cdv A outer s H E).A → Gd (cx0 P w K mg base N qual (defScope st) f cdv A outer s H E).A → T ws M Φ →
      Sv (cx0 P w K mg base N qual (defScope st) f cdv A outer s H E) H (ads M) (defBody st) { nx := fun _ M1 => ∃ Ml M2, M1 = Ml ++ M2 ∧ ads M2 = ads M ∧ Φ (.dat .none) M2, rt := fun r M1 => ∃ Ml M2, M1 = Ml ++ M2 ∧ ads M2 = ads M ∧ Φ r M2 } (startW N ws) M) :
    MetE P w K mg base (k + 1) C m ps T := by
  obtain ⟨f, fd, FD, hm⟩ := F
  exact ⟨f, fd, fnE_of FD S len (body f), hm, FD.bindsN hb⟩
end
section
variable {X : Cx} {CX : CXT} {k : Nat} {f C a : Addr} {fd : FuncData} {ps : List Str} {sp : L2.Sp} {dvs : List V} {ds : List Value} {E : XK} {m : Str} {pos apos : Pos} {e o : Expr} {es : List Expr} {ta : TE} {t : TA} {ρ : Ro} {M : Mem} {fws : List (Str × W)}
end

/-! ### making -/
abbrev CtI := List W → Mem → (Mem → Mem → Prop) → Prop
/-- what __init__ is asked: what it adds stays -/
def spI (K : PySem.W.Frag) (T : CtI) : L2.Sp := fun vs H Q _ => ∃ M ws Φ, MemOk K H M ∧ SWs K H (ads M) vs ws ∧ T ws M Φ ∧
  ∀ ex M' H', Φ ex M' → ads M' = ads M → (∀ p ∈ ads ex, H p = none) → Ext (ads M) H H' → MemOk K H' (ex ++ M') → Q .non H'
/-- the class x at C is made, and what its __init__ keeps -/
structure Maker (P : Program) (w : World) (K : PySem.W.Frag) (mg : Str → Option Value) (base : Heap) (k : Nat) (x : Str) (C : Addr) (ps : List Str) (T : CtI) : Prop where
  ex : ∃ (f : Addr) (fd : FuncData), FnG P w K mg base CX0 k f fd ps (spI K T) ∧ Mk K C f ∧ Binds K fd ps []
  gC : mg x = some (.ref C)
/-- the class's __init__ is the def of the text -/
def HereI (K : PySem.W.Frag) (mg : Str → Option Value) (x : Str) (C : Addr) (qual : Str) (st : Stmt) : Prop := mg x = some (.ref C) ∧ ∃ f fd, FunD K "__init__" qual (defArgs st) (defBody st) (defScope st) [] [] f fd ∧ Mk K C f
theorem ads_app (A B : Mem) : ads (A ++ B) = ads A ++ ads B := List.map_append
section
variable {P : Program} {w : World} {K : PySem.W.Frag} {mg : Str → Option Value} {base : Heap} {k : Nat} {C : Addr} {ps N : List Str} {x qual : Str} {st : Stmt}
theorem fnI_of {T : CtI} {params : Arguments} {body : List Stmt} {scope : Scope} {dvs : List V} {kws : List (Str × V)} {f : Addr} {fd : FuncData} (F : FunD K x qual params body scope dvs kws f fd) (S : FnScope N ps scope) (len : ∀ ws M Φ, T ws M Φ → ws.length = ps.length)
    (hb : ∀ (cdv : Value) (A : Around) (outer : List Env) (s : Shared) (H : Hp) (E : XK) (ws : List W) (Φ : Mem → Mem → Prop) (M : Mem), Room k (cx0 P w K mg base N qual scope f cdv A outer s H E).A → Gd (cx0 P w K mg base N qual scope f cdv A outer s H E).A → T ws M Φ →
      Sv (cx0 P w K mg base N qual scope f cdv A outer s H E) H (ads M) body { nx := fun _ M1 => ∃ Ml M2, M1 = Ml ++ M2 ∧ ads M2 = ads M ∧ Φ Ml M2, rt := fun _ _ => False } (startW N ws) M) :
    FnG P w K mg base CX0 (k + 1) f fd ps (spI K T) := by
  refine fnG_of F S (fun vs H Q E h => ?_) fun cdv A outer s H vs Q E hr hg h => ?_
  · obtain ⟨M, ws, r, m, sw, hC, _⟩ := h
    rw [sw.length]
    exact len ws M r hC
  · obtain ⟨M, ws, Φ, m, sw, hC, q⟩ := h
    refine ⟨_, PSs.nox p_rss, hb cdv A outer s H E ws Φ M hr hg hC (L2.start N vs) H _ (start_ok m sw) (Bs.refl H M) ⟨?_, fun _ _ _ _ z => z.elim, fun _ _ _ _ z => z.elim, fun _ _ _ _ z => z.elim⟩⟩
    rintro ρ1 M1 σ1 H1 ⟨Ml, M2, rfl, ea, h2⟩ ok1 bs1
    refine q Ml M2 H1 h2 ea (fun p hp => ?_) bs1.ext ok1.mem
    have nd := ok1.mem.nd
    rw [ads_app] at nd
    rcases bs1.own p (by rw [ads_app]; exact List.mem_append_left _ hp) with h | h
    · rw [← ea] at h
      exact absurd rfl ((List.nodup_append.mp nd).2.2 p hp p h)
    · exact h
theorem Maker.of {T : CtI} (F : HereI K mg x C qual st) (S : FnScope N ps (defScope st)) (hb : BindM "__init__" qual st ps) (len : ∀ ws M Φ, T ws M Φ → ws.length = ps.length)
    (body : ∀ (f : Addr) (cdv : Value) (A : Around) (outer : List Env) (s : Shared) (H : Hp) (E : XK) (ws : List W) (Φ : Mem → Mem → Prop) (M : Mem), Room k (cx0 P w K mg base N qual (defScope st) f cdv A outer s H E).A → Gd (cx0 P w K mg base N qual (defScope st) f cdv A outer s H E).A → T ws M Φ →
      Sv (cx0 P w K mg base N qual (defScope st) f cdv A outer s H E) H (ads M) (defBody st) { nx := fun _ M1 => ∃ Ml M2, M1 = Ml ++ M2 ∧ ads M2 = ads M ∧ Φ Ml M2, rt := fun _ _ => False } (startW N ws) M) :
    Maker P w K mg base (k + 1) x C ps T := by
  obtain ⟨g, f, fd, FD, hm⟩ := F
  exact ⟨⟨f, fd, fnI_of FD S len (body f), hm, FD.bindsN hb⟩, g⟩
end
section
variable {X : Cx} {k : Nat} {f C : Addr} {fd : FuncData} {ps : List Str} {sp : L2.Sp} {dvs : List V} {ds : List Value} {E : XK} {CX : CXT} {x : Str} {p pos : Pos} {e o : Expr} {es : List Expr} {t : TA} {ρ : Ro} {M : Mem}
theorem runG_make {pins : List (Addr × Obj)} {σ : L2.St} {H : Hp} {s : Shared} {Q : VK} {us : List Value} {vs : List V} (Mk_ : Mk X.K C f) (F : FnG X.prog X.w X.K X.mg X.base CX k f fd ps sp) (hr : Room (k + 1) X.A) (hgd : Gd X.A) (hb : Binds X.K fd ps ds) (hd : Vals dvs ds)
    (hx : Passes CX X E) (I : Inv X pins σ H s) (r : Vals vs us)
    (h : ∀ x dx, H x = none → H dx = none → dx ≠ x → sp (.ref x :: (vs ++ dvs)) (upd (upd H dx (.own x)) x (.ins C dx [])) (fun v H2 => v = .non ∧ Q (.ref x) H2) E) :
    wpAny (model X.prog X.w) X.A (call (.ref C) us) (EP X pins σ Q) X.xe s := by
  have hq := h (s.heap.objs.size + 1) s.heap.objs.size (I.hok.fresh (Nat.le_succ _)) (I.hok.fresh (Nat.le_refl _)) (Nat.ne_of_lt (Nat.lt_succ_self _))
  have I2 := Inv.made (C := C) I
  have r2 : Vals (V.ref (s.heap.objs.size + 1) :: (vs ++ dvs)) (Value.ref (s.heap.objs.size + 1) :: (us ++ ds)) := .cons rfl (r.append hd)
  have hl : (Value.ref (s.heap.objs.size + 1) :: us ++ ds).length = ps.length := by
    have e := r2.length
    rw [F.len _ _ _ _ hq] at e
    exact e.symm
  refine wpAny_call (make_map (f := f) I.kIn Mk_.makes Mk_.init (beq_iff_eq.mp Mk_.fn) (codeAny_mono (F.run _ X.stack _ _ ⟨Value.ref (s.heap.objs.size + 1) :: us, []⟩ (Value.ref (s.heap.objs.size + 1) :: (us ++ ds)) _ _ E (hr.make C us []) ?_
    (I2.env0.make C us []) (hb _ (Value.ref (s.heap.objs.size + 1) :: us) I2.kIn hl) r2 hq) fun r s' hq' => ?_))
  · exact hgd
  · cases r with
    | error e => exact hx pins σ _ _ e s' I2 hq'
    | ok fl =>
      cases fl with
      | ret u =>
        obtain ⟨v, H', I3, rv, ev, q3⟩ := I2.after hq'
        subst ev
        exact ⟨rv, ⟨V.ref (s.heap.objs.size + 1), H', I3, rfl, q3⟩⟩
      | next => exact False.elim hq'
      | brk => exact False.elim hq'
      | cont => exact False.elim hq'
theorem peG_make (M : Mk X.K C f) (F : FnG X.prog X.w X.K X.mg X.base CX k f fd ps sp) (hr : Room (k + 1) X.A) (hgd : Gd X.A) (hg : Gl X x) (hm : X.mg x = some (.ref C)) (hb : Binds X.K fd ps ds) (hd : Vals dvs ds) (hx : Passes CX X E)
    (ha : PA X (e :: es) t) (hdb : (x == ("__debug__" : Str)) = false := by decide) (he : starEach (e :: es) X.env = (false, eval e X.env) :: starEach es X.env := by rfl) (hpl : (backTo pos (starEach es X.env)).any (·.1) = false := by rfl) :
    PE X (.Call (.Name x p) (e :: es) [] pos) (tMake C sp dvs E t) := by
  refine ⟨fun pins s σ H Q I h => ?_⟩
  refine wpAny_Call_Name_kw (ld_glob I hg hm ?_ hdb)
  refine PySem.W.callWith_K (h₀ := X.base) I.ok.mod.kin M.kp (thn (ha.run pos pins s σ H _ I h) fun us s1 ⟨vs, H1, I1, r, q⟩ => ⟨I1.kIn, ?_⟩) he hpl
  exact runG_make M F hr hgd hb hd hx I1 r q
/-- a new instance, and what it holds -/
def EvI (X : Cx) (e : Expr) (ρ : Ro) (M : Mem) (Φ : Addr → Mem → Mem → Prop) : Prop := ∀ σ H Q, Ok X.K H ρ M σ →
  (∀ a ex M' H', Φ a ex M' → ads M' = ads M → (∀ p ∈ ads ex, H p = none) → Ext (ads M) H H' → MemOk X.K H' (ex ++ M') → Q (.ref a) H') → rd X e σ H Q
theorem Mv.grow {H H' : Hp} {A E : List Addr} (x : Ext A H H') (n : ∀ p ∈ E, H p = none) : Mv H H' A (E ++ A) := fun b u r nb => by
  refine ⟨(x.mv b u r nb).1, fun z => ?_⟩
  rcases List.mem_append.mp z with z | z
  · have := n b z
    rw [this] at r
    cases r
  · exact nb z
/-- x(e, ..): a new instance -/
theorem EvI.make {T : CtI} {Φ : Addr → Mem → Mem → Prop} (F : Maker X.prog X.w X.K X.mg X.base k x C ps T) (hr : Room (k + 1) X.A) (hg : Gd X.A)
    (ha : Ea X (e :: es) ρ M fun ws M1 => ∀ a, a ∉ ads M1 → T (.raw (.ref a) :: ws) ((a, .ins C []) :: M1) fun ex M2 => ∃ o M3, M2 = (a, o) :: M3 ∧ Φ a (ex ++ [(a, o)]) M3) (hgl : Gl X x := by rfl)
    (hdb : (x == ("__debug__" : Str)) = false := by decide) (he : starEach (e :: es) X.env = (false, eval e X.env) :: starEach es X.env := by rfl) (hpl : (backTo pos (starEach es X.env)).any (·.1) = false := by rfl) : EvI X (.Call (.Name x p) (e :: es) [] pos) ρ M Φ := fun σ H Q ok q => by
  obtain ⟨f, fd, G, hM, hb⟩ := F.ex
  refine of_pe (peG_make hM G hr hg hgl F.gC hb .nil pass0 p_ra hdb he hpl) (ha σ H _ ok fun ws M1 vs H1 hT ea x1 m1 r1 => fun a dx na nd ne => ?_)
  rw [List.append_nil]
  have nda : upd H1 dx (.own a) a = none := by rw [upd_ne (Ne.symm ne)]; exact na
  have s2 : Same H1 (upd (upd H1 dx (.own a)) a (.ins C dx [])) := (same_upd nd).trans (same_upd nda)
  have ok1 : Ok X.K H1 [] M1 [] := ⟨m1, rfl, fun i w e => by cases e⟩
  have ok2 := ok1.own (o := .ins C []) na s2 ⟨dx, [], upd_same, .nil⟩
  have nm := m1.fresh na
  have hm : Mv H1 (upd (upd H1 dx (.own a)) a (.ins C dx [])) (ads M1) (a :: ads M1) := (Mv.add na).trans (Ext.mv (A := a :: ads M1) (Ext.of s2))
  refine ⟨(a, .ins C []) :: M1, .raw (.ref a) :: ws, _, ok2.mem, .cons rfl ((by rw [← ea] at r1; exact r1 : SWs X.K H1 (ads M1) vs ws).mv hm), hT a nm, ?_⟩
  rintro ex M2 H2 ⟨o, M3, rfl, hΦ⟩ ea2 nex x2 m2
  refine ⟨rfl, q a (ex ++ [(a, o)]) M3 H2 hΦ ?_ ?_ ?_ ?_⟩
  · have : a :: ads M3 = a :: ads M1 := ea2
    rw [← ea]
    exact (List.cons.inj this).2
  · intro p hp
    have h1 : H1 p = none := by
      rw [ads_app] at hp
      rcases List.mem_append.mp hp with hp | hp
      · cases h : H1 p with
        | none => rfl
        | some u =>
          have := s2 p u h
          rw [nex p hp] at this
          cases this
      · have : p = a := List.mem_singleton.mp hp
        rw [this]; exact na
    cases h : H p with
    | none => rfl
    | some u =>
      by_cases hA : p ∈ ads M
      · rw [← ea] at hA
        exact absurd h1 (m1.tracked hA)
      · rw [x1 p u h hA] at h1
        cases h1
  · intro b u h nb
    have h1 := x1 b u h nb
    have h2 := s2 b u h1
    refine x2 b u h2 fun z => ?_
    have z : b ∈ a :: ads M1 := z
    rcases List.mem_cons.mp z with z | z
    · rw [z, na] at h1; cases h1
    · rw [ea] at z
      exact nb z
  · rw [List.append_assoc]
    exact m2
variable {Hb : Hp} {Ab : List Addr} {EE : En} {y : Str} {pos' : Pos}
theorem Ok.grow {H H' : Hp} {σ : L2.St} {ex M' : Mem} (ok : Ok X.K H ρ M σ) (ea : ads M' = ads M) (nx : ∀ p ∈ ads ex, H p = none) (x : Ext (ads M) H H') (m : MemOk X.K H' (ex ++ M')) : Ok X.K H' ρ (ex ++ M') σ := ⟨m, by
  rw [ads_app, ea]
  exact ok.st.mv (Mv.grow x nx)⟩
theorem Bs.grow {H H' : Hp} {ex M' : Mem} (bs : Bs Hb Ab H M) (ea : ads M' = ads M) (nx : ∀ p ∈ ads ex, H p = none) (x : Ext (ads M) H H') : Bs Hb Ab H' (ex ++ M') := by
  have b1 := bs.step (M' := M') ea x
  refine ⟨b1.ext, fun p hp => ?_⟩
  rw [ads_app] at hp
  rcases List.mem_append.mp hp with hp | hp
  · by_cases hA : p ∈ Ab
    · exact .inl hA
    · refine .inr ?_
      cases h : Hb p with
      | none => rfl
      | some u =>
        have := bs.ext p u h hA
        rw [nx p hp] at this
        cases this
  · exact b1.own p hp
end
section
variable {X : Cx} {ρ : Ro} {M : Mem} {a b : Expr} {pos : Pos}
end
end XB

/-! VB: sums of masks: rows by their highest bits, division by them, recodings, completions. -/
namespace XB
open PySem PySem.Spec PyProof.Rows L2

theorem bits_xor {m r : Nat} (h0 : m ≠ 0) (h : bitsN r = bitsN m) : bitsN (m ^^^ r) < bitsN m := by
  have hm : bitsN m = m.log2 + 1 := by unfold bitsN; rw [if_neg h0]
  rw [hm] at h ⊢
  obtain ⟨hr, hl⟩ := bits_log h
  refine Nat.lt_succ_of_le (bitsN_le (Nat.lt_pow_two_of_testBit _ fun i hi => ?_))
  rw [Nat.testBit_xor]
  rcases Nat.lt_or_eq_of_le hi with hi | rfl
  · rw [testBit_above hi, testBit_above (by rw [hl]; exact hi)]; rfl
  · rw [Nat.testBit_log2 h0]
    rw [← hl, Nat.testBit_log2 hr]; rfl
abbrev SR := List (Nat × Nat)
def rowOf (R : SR) (L : Nat) : Option (Nat × Nat) := R.find? fun r => decide (bitsN r.1 = L)
theorem row_some {R : SR} {L : Nat} {r : Nat × Nat} (h : rowOf R L = some r) : r ∈ R ∧ bitsN r.1 = L := ⟨List.mem_of_find?_eq_some h, of_decide_eq_true (List.find?_some (p := fun r : Nat × Nat => decide (bitsN r.1 = L)) h)⟩
theorem row_none {R : SR} {L : Nat} (h : rowOf R L = none) : ∀ r ∈ R, bitsN r.1 ≠ L := fun r hr e => by
  have := List.find?_eq_none.mp h r hr
  exact this (decide_eq_true e)
def divN (R : SR) : Nat → Nat → Nat → Nat × Nat
  | 0, m, c => (m, c)
  | n + 1, m, c => match rowOf R (bitsN m) with
    | some r => divN R n (m ^^^ r.1) (c ^^^ r.2)
    | none => (m, c)
def divS (R : SR) (m c : Nat) : Nat × Nat := divN R (bitsN m + 1) m c
section
variable {R : SR} (nz : ∀ r ∈ R, r.1 ≠ 0)
include nz
theorem row_ne {m : Nat} {r : Nat × Nat} (h : rowOf R (bitsN m) = some r) : m ≠ 0 := fun z => by
  obtain ⟨h1, h2⟩ := row_some h
  rw [z] at h2
  have := nz r h1
  unfold bitsN at h2
  rw [if_neg this, if_pos rfl] at h2
  omega
theorem div_fuel : ∀ (n m c : Nat), bitsN m < n → divN R n m c = divS R m c
  | n + 1, m, c, h => by
    unfold divS
    show (match rowOf R (bitsN m) with | some r => divN R n (m ^^^ r.1) (c ^^^ r.2) | none => (m, c)) = (match rowOf R (bitsN m) with | some r => divN R (bitsN m) (m ^^^ r.1) (c ^^^ r.2) | none => (m, c))
    cases e : rowOf R (bitsN m) with
    | none => rfl
    | some r =>
      have hlt := bits_xor (row_ne nz e) (row_some e).2
      show divN R n (m ^^^ r.1) (c ^^^ r.2) = divN R (bitsN m) (m ^^^ r.1) (c ^^^ r.2)
      rw [div_fuel n _ _ (by omega), div_fuel (bitsN m) _ _ hlt]
  termination_by n => n
theorem div_step {m c : Nat} {r : Nat × Nat} (h : rowOf R (bitsN m) = some r) : divS R m c = divS R (m ^^^ r.1) (c ^^^ r.2) := by
  have hlt := bits_xor (row_ne nz h) (row_some h).2
  rw [← div_fuel nz (bitsN m) _ _ hlt]
  show (match rowOf R (bitsN m) with | some r => divN R (bitsN m) (m ^^^ r.1) (c ^^^ r.2) | none => (m, c)) = _
  rw [h]
omit nz in
theorem div_stop {m c : Nat} (h : rowOf R (bitsN m) = none) : divS R m c = (m, c) := by
  show (match rowOf R (bitsN m) with | some r => divN R (bitsN m) (m ^^^ r.1) (c ^^^ r.2) | none => (m, c)) = _
  rw [h]
/-- what holds at the beginning and is kept by each step holds at the end -/
theorem div_ind (P : Nat → Nat → Prop) (hs : ∀ m c r, P m c → rowOf R (bitsN m) = some r → P (m ^^^ r.1) (c ^^^ r.2)) : ∀ (n m c : Nat), bitsN m < n → P m c → P (divS R m c).1 (divS R m c).2 ∧ rowOf R (bitsN (divS R m c).1) = none
  | n + 1, m, c, h, p => by
    cases e : rowOf R (bitsN m) with
    | none =>
      rw [div_stop e]
      exact ⟨p, e⟩
    | some r =>
      have hlt := bits_xor (row_ne nz e) (row_some e).2
      rw [div_step nz e]
      exact div_ind P hs n _ _ (by omega) (hs m c r p e)
theorem div_end (m c : Nat) : rowOf R (bitsN (divS R m c).1) = none := (div_ind nz (fun _ _ => True) (fun _ _ _ _ _ => trivial) (bitsN m + 1) m c (Nat.lt_succ_self _) trivial).2
theorem div_sp (m c : Nat) : Sp (R.map (·.1)) ((divS R m c).1 ^^^ m) := by
  refine (div_ind nz (fun m' _ => Sp (R.map (·.1)) (m' ^^^ m)) (fun m' c' r p h => ?_) (bitsN m + 1) m c (Nat.lt_succ_self _) (by rw [Nat.xor_self]; exact .zero)).1
  have := p.xor (Sp.mem (List.mem_map.mpr ⟨r, (row_some h).1, rfl⟩))
  rwa [Nat.xor_assoc, Nat.xor_comm m, ← Nat.xor_assoc] at this
end
/-- rows for some masks -/
structure SumOk (ms : List Nat) (R : SR) : Prop where
  nz : ∀ r ∈ R, r.1 ≠ 0
  nd : (R.map fun r => bitsN r.1).Nodup
  its : ∀ r ∈ R, psi ms r.2 = r.1 ∧ r.2 < 2 ^ ms.length
  sp : ∀ x, Sp (R.map (·.1)) x ↔ Sp ms x
theorem SumOk.nil : SumOk [] [] := ⟨fun _ h => absurd h List.not_mem_nil, List.Pairwise.nil, fun _ h => absurd h List.not_mem_nil, fun _ => Iff.rfl⟩
section
variable {ms : List Nat} {R : SR} (h : SumOk ms R)
include h
theorem SumOk.sum (m c : Nat) : (divS R m c).1 ^^^ psi ms (divS R m c).2 = m ^^^ psi ms c := by
  refine (div_ind h.nz (fun m' c' => m' ^^^ psi ms c' = m ^^^ psi ms c) (fun m' c' r p e => ?_) (bitsN m + 1) m c (Nat.lt_succ_self _) rfl).1
  rw [psi_xor, (h.its r (row_some e).1).1, ← p]
  have : ∀ a b d : Nat, (a ^^^ b) ^^^ (d ^^^ b) = a ^^^ d := fun a b d => by
    rw [Nat.xor_comm d, Nat.xor_assoc, ← Nat.xor_assoc b b, Nat.xor_self, Nat.zero_xor]
  exact this _ _ _
theorem SumOk.lt (m : Nat) {c : Nat} (hc : c < 2 ^ ms.length) : (divS R m c).2 < 2 ^ ms.length :=
  (div_ind h.nz (fun _ c' => c' < 2 ^ ms.length) (fun m' c' r p e => Nat.xor_lt_two_pow p (h.its r (row_some e).1).2) (bitsN m + 1) m c (Nat.lt_succ_self _) hc).1
theorem SumOk.lead {x : Nat} (hx : Sp ms x) (h0 : x ≠ 0) : ∃ r ∈ R, bitsN r.1 = bitsN x := by
  have hs := (h.sp x).mpr hx
  obtain ⟨b, hb, eb⟩ := (bas_red (R.map (·.1))).top ((bas_sp _ x).mpr hs) h0
  have bl : ∀ y : Nat, y ≠ 0 → bitsN y = y.log2 + 1 := fun y hy => by unfold bitsN; rw [if_neg hy]
  have nb : ((basN (R.map (·.1))).map fun y => bitsN y).Nodup := by
    refine List.pairwise_map.mpr (List.Pairwise.imp_of_mem (fun {y z} hy hz (hn : y ≠ z) e => hn ?_) (show List.Pairwise (· ≠ ·) (basN (R.map (·.1))) from (bas_red (R.map fun r : Nat × Nat => r.1)).nodup))
    have p := (bas_red (R.map (·.1))).pos
    have py : y ≠ 0 := by have := p y hy; omega
    have pz : z ≠ 0 := by have := p z hz; omega
    rw [bl y py, bl z pz] at e
    exact (bas_red _).tops hy hz (by omega)
  have sub : ∀ L ∈ R.map (fun r => bitsN r.1), L ∈ (basN (R.map (·.1))).map fun y => bitsN y := fun L hL => by
    obtain ⟨r, hr, rfl⟩ := List.mem_map.mp hL
    have hrn := h.nz r hr
    obtain ⟨y, hy, ey⟩ := (bas_red (R.map (·.1))).top ((bas_sp _ r.1).mpr (.mem (List.mem_map.mpr ⟨r, hr, rfl⟩))) hrn
    have py : y ≠ 0 := by have := (bas_red (R.map (·.1))).pos y hy; omega
    exact List.mem_map.mpr ⟨y, hy, by rw [bl y py, bl r.1 hrn, ey]⟩
  have hlen : (basN (R.map (·.1))).length ≤ R.length := by
    have := bas_le (R.map (·.1))
    rwa [List.length_map] at this
  have pb : b ≠ 0 := by have := (bas_red (R.map (·.1))).pos b hb; omega
  refine Classical.byContradiction fun hn => ?_
  have nm : bitsN x ∉ R.map fun r => bitsN r.1 := fun hm => by
    obtain ⟨r, hr, e⟩ := List.mem_map.mp hm
    exact hn ⟨r, hr, e⟩
  have := nodup_sub_len (a := bitsN x :: R.map fun r => bitsN r.1) (b := (basN (R.map (·.1))).map fun y => bitsN y) (List.nodup_cons.mpr ⟨nm, h.nd⟩) fun L hL => by
    rcases List.mem_cons.mp hL with rfl | hL
    · exact List.mem_map.mpr ⟨b, hb, by rw [bl b pb, bl x h0, eb]⟩
    · exact sub L hL
  rw [List.length_cons, List.length_map, List.length_map] at this
  omega
theorem SumOk.zero (m c : Nat) : (divS R m c).1 = 0 ↔ Sp ms m := by
  constructor
  · intro e
    have := div_sp h.nz m c
    rw [e, Nat.zero_xor] at this
    exact (h.sp m).mp this
  · intro hm
    refine Classical.byContradiction fun h0 => ?_
    have h1 := (h.sp _).mp (div_sp h.nz m c)
    have h2 := h1.xor hm
    rw [Nat.xor_assoc, Nat.xor_self, Nat.xor_zero] at h2
    obtain ⟨r, hr, e⟩ := h.lead h2 h0
    exact row_none (div_end h.nz m c) r hr e
end
theorem psi_snoc (m : Nat) : ∀ (ms : List Nat) (c : Nat), c < 2 ^ ms.length → psi (ms ++ [m]) c = psi ms c
  | [], c, h => by
    have : c = 0 := by simp at h; omega
    subst this
    exact psi_zero _
  | r :: ms, c, h => by
    show (if c % 2 = 1 then r else 0) ^^^ psi (ms ++ [m]) (c / 2) = (if c % 2 = 1 then r else 0) ^^^ psi ms (c / 2)
    rw [psi_snoc m ms (c / 2) (by rw [List.length_cons, Nat.pow_succ] at h; omega)]
/-- one mask more -/
def sumStep (R : SR) (i m : Nat) : SR := if (divS R m 0).1 ≠ 0 then R ++ [((divS R m 0).1, (divS R m 0).2 ^^^ 2 ^ i)] else R
theorem SumOk.step {ms : List Nat} {R : SR} (h : SumOk ms R) (m : Nat) : SumOk (ms ++ [m]) (sumStep R ms.length m) := by
  have hl : (ms ++ [m]).length = ms.length + 1 := by rw [List.length_append]; rfl
  have hp : 2 ^ ms.length < 2 ^ (ms.length + 1) := Nat.pow_lt_pow_right (by decide) (Nat.lt_succ_self _)
  have old : ∀ r ∈ R, psi (ms ++ [m]) r.2 = r.1 ∧ r.2 < 2 ^ (ms ++ [m]).length := fun r hr => by
    obtain ⟨h1, h2⟩ := h.its r hr
    rw [hl]
    exact ⟨by rw [psi_snoc m ms _ h2, h1], Nat.lt_trans h2 hp⟩
  unfold sumStep
  by_cases c : (divS R m 0).1 ≠ 0
  · rw [if_pos c]
    have hd := h.sum m 0
    rw [psi_zero, Nat.xor_zero] at hd
    have hlt := h.lt m (Nat.two_pow_pos ms.length)
    refine ⟨fun r hr => ?_, ?_, fun r hr => ?_, fun x => ?_⟩
    · rcases List.mem_append.mp hr with hr | hr
      · exact h.nz r hr
      · rw [List.mem_singleton.mp hr]; exact c
    · rw [List.map_append]
      refine List.nodup_append.mpr ⟨h.nd, List.pairwise_singleton _ _, fun a ha b hb e => ?_⟩
      obtain ⟨r, hr, e1⟩ := List.mem_map.mp ha
      have e2 := List.mem_singleton.mp hb
      exact row_none (div_end h.nz m 0) r hr (by rw [e1, e, e2])
    · rcases List.mem_append.mp hr with hr | hr
      · exact old r hr
      · rw [List.mem_singleton.mp hr]
        refine ⟨?_, by rw [hl]; exact Nat.xor_lt_two_pow (Nat.lt_trans hlt hp) hp⟩
        show psi (ms ++ [m]) ((divS R m 0).2 ^^^ 2 ^ ms.length) = (divS R m 0).1
        rw [psi_xor, psi_snoc m ms _ hlt, psi_two (ms ++ [m]) ms.length (by rw [hl]; omega), List.getElem_append_right (Nat.le_refl _)]
        simp only [Nat.sub_self, List.getElem_cons_zero]
        generalize (divS R m 0).1 = d1 at hd ⊢
        generalize (divS R m 0).2 = d2 at hd ⊢
        rw [← hd, Nat.xor_comm, Nat.xor_assoc, Nat.xor_self, Nat.xor_zero]
    · rw [List.map_append]
      have e1 : ∀ x, Sp (R.map (·.1) ++ [(divS R m 0).1]) x ↔ Sp (R.map (·.1) ++ [m]) x := fun x => by
        have hq := div_sp h.nz m 0
        rw [sp_snoc, sp_snoc]
        have t1 : ∀ u v : Nat, x ^^^ u = (x ^^^ v) ^^^ (u ^^^ v) := fun u v => by
          rw [Nat.xor_assoc, Nat.xor_comm v, Nat.xor_assoc, Nat.xor_self, Nat.xor_zero]
        constructor
        · rintro (z | z)
          · exact .inl z
          · refine .inr ?_
            rw [t1 m (divS R m 0).1, Nat.xor_comm m]
            exact z.xor hq
        · rintro (z | z)
          · exact .inl z
          · refine .inr ?_
            rw [t1 (divS R m 0).1 m]
            exact z.xor hq
      show Sp (R.map (·.1) ++ [(divS R m 0).1]) x ↔ _
      rw [e1, sp_snoc, sp_snoc, h.sp, h.sp]
  · rw [if_neg c]
    have c : (divS R m 0).1 = 0 := Classical.byContradiction c
    have hm := (h.zero m 0).mp c
    refine ⟨h.nz, h.nd, old, fun x => ?_⟩
    rw [h.sp, sp_snoc]
    constructor
    · exact .inl
    · rintro (z | z)
      · exact z
      · have := z.xor hm
        rwa [Nat.xor_assoc, Nat.xor_self, Nat.xor_zero] at this
section
variable {n : Nat} {P T : List Nat} (hP : ∀ m ∈ P, m < 2 ^ n) (hT : ∀ m ∈ T, m < 2 ^ n)
include hP hT
end
section
variable {X : Cx} {ρ : Ro} {M : Mem} {e tg : Expr}
end
end XB

/-! VC: products of polynomials; differences on separate bits. -/
namespace XB
open PySem PySem.Spec PyProof.Rows L2

section
variable {n m : Nat} {ds es : List Nat}
end
section
variable {X : Cx} {ρ : Ro} {M : Mem} {e : Expr}
theorem EvN.cast {ds es : List D} (h0 : ds = es) (h : EvN X e ρ M ds) : EvN X e ρ M es := h0 ▸ h
end
end XB

/-! VD: owned lists lent to pure defs. -/
namespace XB
open PySem PySem.Spec PyProof.Rows L2
/-- data without lists and dicts -/
inductive Fl : D → Prop
  | non : Fl .none
  | bl (b : Bool) : Fl (.bool b)
  | int (i : Int) : Fl (.int i)
  | str (x : Str) : Fl (.str x)
  | tup {ds : List D} : (∀ d ∈ ds, Fl d) → Fl (.tuple ds)
theorem Fl.dns (l : List Nat) : ∀ d ∈ dns l, Fl d := fun d hd => by
  obtain ⟨i, _, rfl⟩ := List.mem_map.mp hd
  exact .int _
section
variable {K : PySem.W.Frag} {H : Hp} {A A0 : List Addr}
mutual
theorem Dd.fl (hb : ∀ b ∈ A, b ∈ A0 ∨ ∃ xs, H b = some (.lst xs)) : ∀ {v : V} {d : D}, Dd K H A0 v d → Fl d → Dd K H A v d
  | _, _, .non, _ => .non
  | _, _, .bl b, _ => .bl b
  | _, _, .int i, _ => .int i
  | _, _, .str x, _ => .str x
  | _, _, .lst r n a, f => by cases f
  | _, _, .lstK r a, f => by cases f
  | _, _, .dic r n a, f => by cases f
  | _, _, .tupK r a, f => .tupK r (DdAll.fl hb a (by cases f with | tup h => exact h))
  | _, _, .tup r n a, f => .tup r (fun z => by
      rcases hb _ z with h | ⟨xs, h⟩
      · exact n h
      · rcases r with r | ⟨o, r⟩ <;> (rw [h] at r; cases r)) (DdAll.fl hb a (by cases f with | tup h => exact h))
theorem DdAll.fl (hb : ∀ b ∈ A, b ∈ A0 ∨ ∃ xs, H b = some (.lst xs)) : ∀ {vs : List V} {ds : List D}, DdAll K H A0 vs ds → (∀ d ∈ ds, Fl d) → DdAll K H A vs ds
  | _, _, .nil, _ => .nil
  | _, _, .cons a r, f => .cons (Dd.fl hb a (f _ (List.mem_cons_self ..))) (DdAll.fl hb r fun d hd => f d (List.mem_cons_of_mem _ hd))
end
end
section
variable {X : Cx} {ρ : Ro} {M : Mem} {e : Expr} {es : List Expr} {pos p : Pos} {ws ws' : List W} {k : Nat} {x : Str} {ps : List Str} {sd : Stmt} {d : D} {ds : List D}
end
section
variable {X : Cx} {ρ : Ro} {M : Mem} {e : Expr} {pos p : Pos}
end
end XB

/-! VE: sorted lists of data; the order by weight. -/
namespace XB
open PySem PySem.Spec PyProof.Rows L2
section
variable {X : Cx} {ρ : Ro} {M : Mem} {e : Expr} {p pos : Pos} {A0 : List Addr} {K : PySem.W.Frag}
end
/-! ### the order by weight -/
def popN (n : Nat) : Nat := if h : n = 0 then 0 else n % 2 + popN (n / 2)
termination_by n
decreasing_by omega
end XB

/-! VF: a value among those of a list, any data. -/
namespace XB
open PySem PySem.Spec PyProof.Rows L2
section
variable {X : Cx} {ρ : Ro} {M : Mem} {a b : Expr} {pos : Pos} {d : D} {ds : List D} {k : Nat}
/-- repr of what a call with effects gives -/
theorem Ev.repr {Φ : W → Mem → Prop} {e : Expr} {p : Pos} (hg : Gd X.A) (hr : Room k X.A) (hm : X.mg "repr" = none) (hd : Shows d) (h : Ev X e ρ M fun w M1 => w = .dat d ∧ Φ (.dat (.str d.shown)) M1) (hgl : Gl X "repr" := by rfl) (hs : starEach [e] X.env = (false, eval e X.env) :: starEach [] X.env := by rfl) (hpl : (backTo pos (starEach [] X.env)).any (·.1) = false := by rfl) :
    Ev X (.Call (.Name "repr" p) [e] [] pos) ρ M Φ := fun σ H Q ok q =>
  of_pe (pe_callB (call_reprD hg (by have := hr.units; have := hd.deep; omega) hd.ok hd.nodict hd.size) hgl hm (by decide +kernel) (pa_cons p_rd pa_nil hs) (by decide) (by decide) hs hpl) (h σ H _ ok fun w M1 v H1 h1 ea x1 m1 r1 => by
    obtain ⟨rfl, h2⟩ := h1
    exact ⟨v, rfl, Dd.dp (r1 : Dd X.K H1 (ads M) v d) hd.nodict, q (.dat (.str d.shown)) M1 _ H1 h2 ea x1 m1 (.str _)⟩)
end
end XB

/-! VG: xs.pop(i), two new lists at once; the least weight for two spaces of three bits each. -/
namespace XB
open PySem PySem.Spec PyProof.Rows L2
section
variable {X : Cx} {ρ : Ro} {M : Mem}
end
section
variable {X : Cx} {Hb : Hp} {Ab : List Addr} {E : En} {ρ : Ro} {M : Mem} {a b : Expr} {pos : Pos}
end
section
variable {X : Cx} {Hb : Hp} {Ab : List Addr} {E : En} {ρ : Ro} {M : Mem} {α : Type} {iter elt c : Expr} {scope : Scope} {pos spos tp pz : Pos} {x y z : Str} {pu : Bool} {ws : List W}
end
section
variable {X : Cx} {ρ : Ro} {M : Mem} {a b : Expr} {es : List Expr} {pos : Pos}
end
section
variable {X : Cx} {ρ : Ro} {M : Mem} {a : Expr} {pos : Pos}
/-- e is None, e with effects -/
theorem Ev.isN {Φ : W → Mem → Prop} {k pos'} (h : Ev X a ρ M fun w M1 => ∃ d, w = .dat d ∧ Φ (.dat (.bool (XB.isN d))) M1) : Ev X (.Compare a [.Is] [.Constant .none k pos'] pos) ρ M Φ := fun σ H Q ok q =>
  of_pe (pe_cmp (pc_isN p_rd) rfl) (h σ H _ ok fun w M1 x H1 h1 ea1 x1 m1 r1 => by
    obtain ⟨d, rfl, hΦ⟩ := h1
    have e : decide (x = .non) = XB.isN d := by
      have r2 : Dd X.K H1 (ads M) x d := r1
      cases r2 <;> rfl
    rw [e]
    exact q _ M1 _ H1 hΦ ea1 x1 m1 (.bl _))
end
/-! ### two spaces of three bits each -/
def unF (F : List Nat) : List Nat := F.map (2 ^ ·)
theorem sp_unF {F : List Nat} {x c : Nat} (h : Sp (unF F) x) (hc : c ∉ F) : x.testBit c = false := by
  induction h with
  | zero => exact Nat.zero_testBit c
  | add hy hx ih =>
    obtain ⟨a, ha, rfl⟩ := List.mem_map.mp hy
    rw [Nat.testBit_xor, ih, Nat.testBit_two_pow, decide_eq_false (fun z : a = c => hc (z ▸ ha))]
    rfl
theorem ind_unF {F : List Nat} (h : F.Nodup) : Ind (unF F) := Ind.bits (fun b => 2 ^ b) F h fun b _ c _ => by
  rw [Nat.testBit_two_pow]
  exact decide_eq_decide.mpr eq_comm
theorem pop_two_all : ((List.range 64).all fun m => (List.range 6).all fun a => (List.range 6).all fun b => decide (a = b) || !m.testBit a || !m.testBit b || decide (2 ≤ popN m)) = true := by decide +kernel
theorem pop_two_bits (m : Nat) (hm : m < 64) (a : Nat) (ha : a < 6) (b : Nat) (hb : b < 6) (hab : a ≠ b) (h1 : m.testBit a = true) (h2 : m.testBit b = true) : 2 ≤ popN m := by
  have h := List.all_eq_true.mp (List.all_eq_true.mp (List.all_eq_true.mp pop_two_all m (List.mem_range.mpr hm)) a (List.mem_range.mpr ha)) b (List.mem_range.mpr hb)
  rw [h1, h2, decide_eq_false hab] at h
  exact of_decide_eq_true h
theorem pop_pair : ∀ a < 6, ∀ b < 6, a ≠ b → popN (2 ^ a ^^^ 2 ^ b) = 2 := by decide +kernel
theorem few_hit {F ms : List Nat} (hF : F.Nodup) (h6 : ∀ a ∈ F, a < 6) (hm : ∀ m ∈ ms, m < 2 ^ 6) (hl : ms.length < F.length) : ∃ x, Sp (unF F) x ∧ x ≠ 0 ∧ bankN ms x = 0 := by
  have hV : ∀ v ∈ unF F, v < 2 ^ 6 := fun v hv => by
    obtain ⟨a, ha, rfl⟩ := List.mem_map.mp hv
    exact Nat.pow_lt_pow_right (by decide) (h6 a ha)
  have h1 := deg_few hm hV (by rw [(ind_unF hF).rank]; unfold unF; rw [List.length_map]; exact hl)
  rw [Ne, degB_one hm hV] at h1
  exact Classical.byContradiction fun z => h1 fun x hx h0 hb => z ⟨x, hx, h0, hb⟩
/-- the differences of both spaces -/
def gapsAB (A B : List Nat) : List Nat := ascN ((ascN (spanL (unF A)) ++ ascN (spanL (unF B))).filter fun x => decide (0 < x))
theorem mem_gapsAB {A B : List Nat} {x : Nat} : x ∈ gapsAB A B ↔ (Sp (unF A) x ∨ Sp (unF B) x) ∧ 0 < x := by
  unfold gapsAB
  rw [mem_ascN, List.mem_filter, List.mem_append, mem_ascN, mem_ascN, mem_spanL, mem_spanL, decide_eq_true_eq]
structure AB (A B : List Nat) : Prop where
  na : A.Nodup
  nb : B.Nodup
  la : A.length = 3
  lb : B.length = 3
  a6 : ∀ a ∈ A, a < 6
  b6 : ∀ b ∈ B, b < 6
  dis : ∀ a ∈ A, a ∉ B
theorem AB.swap {A B : List Nat} (h : AB A B) : AB B A := ⟨h.nb, h.na, h.lb, h.la, h.b6, h.a6, fun b hb ha => h.dis b ha hb⟩
theorem gapsAB_swap {A B : List Nat} {x : Nat} : x ∈ gapsAB A B ↔ x ∈ gapsAB B A := by rw [mem_gapsAB, mem_gapsAB, or_comm]
theorem AB.hits {A B l : List Nat} (h : AB A B) (hl : l.length = 3) (hm : ∀ m ∈ l, m < 2 ^ 6) (hf : ∀ x ∈ gapsAB A B, bankN l x ≠ 0) {m : Nat} (hmm : m ∈ l) : ∃ a ∈ A, m.testBit a = true := by
  refine Classical.byContradiction fun z => ?_
  have hz : ∀ a ∈ A, m.testBit a = false := fun a ha => by
    cases hb : m.testBit a with
    | false => rfl
    | true => exact absurd ⟨a, ha, hb⟩ z
  obtain ⟨s, t, rfl⟩ := List.append_of_mem hmm
  have hl2 : (s ++ t).length < A.length := by
    rw [h.la]
    rw [List.length_append, List.length_cons] at hl
    rw [List.length_append]
    omega
  obtain ⟨x, hx, h0, hb⟩ := few_hit h.na h.a6 (ms := s ++ t) (fun y hy => hm y (by
    rcases List.mem_append.mp hy with q | q
    · exact List.mem_append_left _ q
    · exact List.mem_append_right _ (List.mem_cons_of_mem _ q))) hl2
  refine hf x (mem_gapsAB.mpr ⟨.inl hx, by omega⟩) ?_
  rw [bankN_zero] at hb ⊢
  intro y hy
  rcases List.mem_append.mp hy with q | q
  · exact hb y (List.mem_append_left _ q)
  · rcases List.mem_cons.mp q with rfl | q
    · refine od_sp (l := unF A) (fun v hv => ?_) hx
      obtain ⟨a, ha, rfl⟩ := List.mem_map.mp hv
      rw [od_comm, od_pow]
      exact hz a ha
    · exact hb y (List.mem_append_right _ q)
theorem AB.low {A B l : List Nat} (h : AB A B) (hl : l.length = 3) (hm : ∀ m ∈ l, m < 2 ^ 6) (hf : ∀ x ∈ gapsAB A B, bankN l x ≠ 0) : ∀ m ∈ l, 2 ≤ popN m := fun m hmm => by
  obtain ⟨a, ha, h1⟩ := h.hits hl hm hf hmm
  obtain ⟨b, hb, h2⟩ := h.swap.hits hl hm (fun x hx => hf x (gapsAB_swap.mpr hx)) hmm
  exact pop_two_bits m (hm m hmm) a (h.a6 a ha) b (h.b6 b hb) (fun z => h.dis a ha (z ▸ hb)) h1 h2
/-- pairs of bits -/
def prsN (A B : List Nat) : List Nat := (A.zip B).map fun p => 2 ^ p.1 ^^^ 2 ^ p.2
theorem AB.free {A B : List Nat} (h : AB A B) {x : Nat} (hx : x ∈ gapsAB A B) : bankN (prsN A B) x ≠ 0 := fun hz => by
  rw [bankN_zero] at hz
  obtain ⟨hs, h0⟩ := mem_gapsAB.mp hx
  have key : ∀ a b, (a, b) ∈ A.zip B → x.testBit a = x.testBit b := fun a b hab => by
    have h1 := hz _ (List.mem_map.mpr ⟨(a, b), hab, rfl⟩)
    rw [od_xor_left, od_pow, od_pow] at h1
    dsimp only at h1
    cases h2 : x.testBit a <;> cases h3 : x.testBit b <;> rw [h2, h3] at h1 <;> first | rfl | cases h1
  have hlz : (A.zip B).length = 3 := by rw [List.length_zip, h.la, h.lb]; rfl
  have hA : ∀ a ∈ A, ∃ b ∈ B, x.testBit a = x.testBit b := fun a ha => by
    obtain ⟨i, hi, rfl⟩ := List.getElem_of_mem ha
    have hi2 : i < B.length := by rw [h.lb]; rw [h.la] at hi; exact hi
    refine ⟨B[i], List.getElem_mem hi2, key _ _ ?_⟩
    have : (A.zip B)[i]'(by rw [hlz]; rw [h.la] at hi; exact hi) = (A[i], B[i]) := by rw [List.getElem_zip]
    rw [← this]
    exact List.getElem_mem _
  have hB : ∀ b ∈ B, ∃ a ∈ A, x.testBit a = x.testBit b := fun b hb => by
    obtain ⟨i, hi, rfl⟩ := List.getElem_of_mem hb
    have hi2 : i < A.length := by rw [h.la]; rw [h.lb] at hi; exact hi
    refine ⟨A[i], List.getElem_mem hi2, key _ _ ?_⟩
    have : (A.zip B)[i]'(by rw [hlz]; rw [h.lb] at hi; exact hi) = (A[i], B[i]) := by rw [List.getElem_zip]
    rw [← this]
    exact List.getElem_mem _
  have hx0 : x = 0 := Nat.eq_of_testBit_eq fun c => by
    rw [Nat.zero_testBit]
    rcases hs with hs | hs
    · by_cases hc : c ∈ A
      · obtain ⟨b, hb, e⟩ := hA c hc
        rw [e]
        exact sp_unF hs fun z => h.dis b z hb
      · exact sp_unF hs hc
    · by_cases hc : c ∈ B
      · obtain ⟨a, ha, e⟩ := hB c hc
        rw [← e]
        exact sp_unF hs fun z => h.dis a ha z
      · exact sp_unF hs hc
  omega
theorem AB.pairs {A B : List Nat} (h : AB A B) : (prsN A B).length = 3 ∧ (∀ m ∈ prsN A B, m < 2 ^ 6) ∧ ∀ m ∈ prsN A B, popN m = 2 := by
  have hin : ∀ p ∈ A.zip B, p.1 ∈ A ∧ p.2 ∈ B := fun p hp => List.of_mem_zip (a := p.1) (b := p.2) hp
  refine ⟨?_, fun m hm => ?_, fun m hm => ?_⟩
  · unfold prsN
    rw [List.length_map, List.length_zip, h.la, h.lb]
    rfl
  · obtain ⟨p, hp, rfl⟩ := List.mem_map.mp hm
    obtain ⟨h1, h2⟩ := hin p hp
    exact Nat.xor_lt_two_pow (Nat.pow_lt_pow_right (by decide) (h.a6 _ h1)) (Nat.pow_lt_pow_right (by decide) (h.b6 _ h2))
  · obtain ⟨p, hp, rfl⟩ := List.mem_map.mp hm
    obtain ⟨h1, h2⟩ := hin p hp
    exact pop_pair _ (h.a6 _ h1) _ (h.b6 _ h2) fun z => h.dis _ h1 (z ▸ h2)
end XB

/-! VH: sum(a list of tuples, ()). -/
namespace XB
open PySem PySem.Spec PyProof.Rows L2
section
variable {prog : Program} {w : World} {A : Around} {E : Value → Shared → Prop} {s : Shared} {R : Result → Shared → Prop}
end
section
variable {X : Cx} {ρ : Ro} {M : Mem} {e1 e2 : Expr} {p pos : Pos}
end
end XB

/-! VI: a list owned that was made by a comprehension with effects; xs[i] = e with effects. -/
namespace XB
open PySem PySem.Spec PyProof.Rows L2
section
variable {X : Cx} {Hb : Hp} {Ab : List Addr} {E : En} {ρ : Ro} {M : Mem} {e tg iter elt : Expr} {scope : Scope} {pos : Pos}
end
section
variable {X : Cx} {Hb : Hp} {Ab : List Addr} {E : En} {ρ : Ro} {M : Mem} {ss : List Stmt}
end
end XB

/-! VJ: list(enumerate(a tuple)), reversed(list), f-strings, abs, text + text, range downwards. -/
namespace XB
open PySem PySem.Spec PyProof.Rows L2
section
variable {prog : Program} {w : World} {A : Around} {E : Value → Shared → Prop} {s : Shared}
/-- the enumerate at e over the iterator it, i drawn; what it handed out last is not S -/
def EnSt (h : Heap) (e it : Addr) (i : Int) (S : Addr) : Prop := (∃ old, IsEnum h e it i old) ∨ ∃ old T f oT, IsEnumHeld h e it i old T f ∧ h.get? T = some oT ∧ T ≠ e ∧ T ≠ it ∧ T ≠ S
theorem EnSt.keep {h h' : Heap} {e it S : Addr} {i : Int} (g : EnSt h e it i S) (hk : ∀ b o, b ≠ S → h.get? b = some o → h'.get? b = some o) (hne : e ≠ S) : EnSt h' e it i S := by
  rcases g with ⟨old, g⟩ | ⟨old, T, f, oT, g, hT, a, b, c⟩
  · exact .inl ⟨old, hk _ _ hne g⟩
  · exact .inr ⟨old, T, f, oT, hk _ _ hne g, hk _ _ c hT, a, b, c⟩
theorem EnSt.lt {h : Heap} {e it S : Addr} {i : Int} (g : EnSt h e it i S) : e < h.objs.size := by
  rcases g with ⟨old, g⟩ | ⟨old, T, f, oT, g, hT, a, b, c⟩
  · exact Heap.lt_size g
  · exact Heap.lt_size g
end
/-- the pairs (number, item) that were made, one behind the other -/
structure MadeE (its : Array Value) (lo : Addr) (h : Heap) (as : List Addr) : Prop where
  rise : as.Pairwise (· < ·)
  above : ∀ a ∈ as, lo ≤ a
  pairs : ∀ (j : Nat) (a : Addr), as[j]? = some a → ∃ x t, its[j]? = some x ∧ h.get? a = some { cls := .type "tuple", data := .seq #[.int j t, x] }
theorem MadeE.there {its : Array Value} {lo : Addr} {h : Heap} {as : List Addr} (g : MadeE its lo h as) {a : Addr} (ha : a ∈ as) : a < h.objs.size := by
  obtain ⟨j, hj⟩ := List.mem_iff_getElem?.mp ha
  obtain ⟨_, _, _, e⟩ := g.pairs j a hj
  exact Heap.lt_size e
section
variable {prog : Program} {w : World} {A : Around} {s : Shared} {R : Result → Shared → Prop} {its : Array Value}
end
section
variable {prog : Program} {w : World} {A : Around} {E : Value → Shared → Prop} {s : Shared} {its : Array Value} {e it a : Addr}
end
section
variable {X : Cx} {e : Expr} {te : TE} {p p2 apos cpos pos pos2 : Pos}
end
section
variable {X : Cx} {e a b c tg : Expr} {ρ : Ro} {M : Mem} {p p2 pos pos2 : Pos}
/-- the parts of a joined text -/
inductive EvJ (X : Cx) (ρ : Ro) (M : Mem) : List Expr → List Str → Prop where
  | nil : EvJ X ρ M [] []
  | cons {e : Expr} {y : Str} {es : List Expr} {ys : List Str} (h : EvD X e ρ M (.dat (.str y))) (r : EvJ X ρ M es ys) : EvJ X ρ M (e :: es) (y :: ys)
def catS : Str → List Str → Str
  | acc, [] => acc
  | acc, y :: ys => catS (acc ++ y) ys
theorem catS_len : ∀ (ys : List Str) (acc : Str), acc.length ≤ (catS acc ys).length
  | [], acc => Nat.le_refl _
  | y :: ys, acc => Nat.le_trans (by rw [strLen_append]; exact Nat.le_add_right _ _) (catS_len ys (acc ++ y))
theorem EvJ.run {es : List Expr} {ys : List Str} (h : EvJ X ρ M es ys) : ∃ ts : List TE, PJ X es ts ∧ ∀ σ H (acc : Str) (Q : Str → Hp → Prop), Ok X.K H ρ M σ → (catS acc ys).length ≤ sizeLine → (∀ H', Same H H' → Q (catS acc ys) H') → tJs ts acc σ H Q := by
  induction h with
  | nil => exact ⟨[], .nil, fun σ H acc Q ok hl q => q H (Same.refl _)⟩
  | @cons e y es ys h r ih =>
    obtain ⟨ts, p1, p2⟩ := ih
    refine ⟨_, .cons p_rd p1, fun σ H acc Q ok hl q => ?_⟩
    refine h σ H _ ok fun v H1 s1 r1 => ?_
    exact ⟨y, Dd.str_of r1, Nat.le_trans (catS_len ys _) hl, p2 σ H1 (acc ++ y) Q (ok.same s1) hl fun H' s2 => q H' (s1.trans s2)⟩
end
section
variable {X : Cx} {e a b : Expr} {ρ : Ro} {M : Mem} {pos : Pos} {k : Nat}
/-! ### tuple == () -/
def rEqNil (K : PySem.W.Frag) : R2 := fun x y H Q => ∃ a b xs, x = .ref a ∧ y = .ref b ∧ SqT K H a xs ∧ SqT K H b [] ∧ Q (.bl xs.isEmpty) H
theorem op_eqNil (hu : X.A.units + 64 < cLine) : OpR X (compareOp .Eq) (rEqNil X.K) := by
  intro pins s σ H x y v u Q I rx ry h
  obtain ⟨a, b, xs, rfl, rfl, h1, h2, q⟩ := h
  cases rx
  cases ry
  obtain ⟨its, rv, ⟨o, ho, hc, n, hd⟩, _⟩ := I.tuple h1
  obtain ⟨its2, rv2, ⟨o2, ho2, hc2, n2, hd2⟩, _⟩ := I.tuple h2
  cases rv2
  refine SeqAt.RcAt.tuples (A := X.A) (e := fun _ => true) ⟨o, ho, hc, n, hd⟩ ⟨o2, ho2, hc2, n2, hd2⟩ (by omega) (fun j _ j2 => absurd j2 (Nat.not_lt_zero j)) _ _ _ _ ⟨.bl _, H, I, ?_, q⟩
  have hl := rv.length
  cases xs with
  | nil =>
    cases rv
    rfl
  | cons x xs =>
    cases rv
    rfl
theorem et_eqNil {ds : List D} (hr : Room k X.A) (ha : EvD X a ρ M (.dat (.tuple ds))) (hb : EvD X b ρ M (.dat (.tuple []))) (hm : behindInMarks CmpOp.Eq b = false := by first | exact nobehind _ (by decide) (by decide) | rfl) : EtD X (.Compare a [.Eq] [b] pos) ρ M ds.isEmpty := fun σ H Q ok q =>
  of_pt (pt_cmpR (op_eqNil (by have := hr.units; omega)) p_rd p_rd hm) (ha σ H _ ok fun v1 H1 s1 r1 => hb σ H1 _ (ok.same s1) fun v2 H2 s2 r2 => by
    obtain ⟨a1, xs, rfl, h1, d1⟩ := Dd.t (r1.mv (Ext.of s2).mv : SW X.K H2 (ads M) v1 (.dat (.tuple ds)))
    obtain ⟨a2, ys, rfl, h2, d2⟩ := Dd.t r2
    cases d2
    refine ⟨a1, a2, xs, rfl, rfl, h1, h2, xs.isEmpty, rfl, ?_⟩
    have e1 : xs.isEmpty = ds.isEmpty := by cases d1 <;> rfl
    rw [e1]
    exact q H2 (s1.trans s2))
end
end XB

/-! VK: sorted(a tuple of ints). -/
namespace XB
open PySem PySem.Spec PyProof.Rows L2
section
variable {X : Cx} {ρ : Ro} {M : Mem} {e : Expr} {p pos : Pos}
end
end XB

/-! QK: f(k = e, ..) that raises. -/
namespace XB
open PySem PySem.Spec PyProof.Rows L2
section
variable {X : Cx} {ρ : Ro} {M : Mem} {p pos : Pos} {k : Nat} {ws : List W} {kws : List Keyword} {x y : Str} {d : D} {ps : List Str} {sd : Stmt}
theorem et_isNraw {a : Expr} {v : V} {kk pk} (hv : v ≠ .non) (he : EvD X a ρ M (.raw v)) : EtD X (.Compare a [.Is] [.Constant .none kk pk] pos) ρ M false := fun σ H Q ok q =>
  of_pt (pt_cmp (pc_isN p_rd)) (he σ H _ ok fun x H1 s1 r1 => by
    have e : x = v := r1
    rw [e, decide_eq_false hv]
    exact ⟨_, rfl, q H1 s1⟩)
end
section
variable {X : Cx} {ρ : Ro} {M : Mem} {pos p1 p2 p3 p4 p5 p6 p7 p8 : Pos} {k : Nat} {word : String} {d : D} {e : Expr} {kt : Nat} {kk : Nat}
end
end XB

/-! QL: shown texts are texts; lists of texts compared; the table stays. -/
namespace XB
open PySem PySem.Spec PyProof.Rows L2

def Lo (t : Str) : Prop := ∀ c ∈ t.cps.toList, c < 1114112
def LoD (d : D) : Prop := Lo d.shown
theorem Lo.app {a b : Str} (h : Lo a) (h2 : Lo b) : Lo (a ++ b) := fun c hc => (mem_cps_append.mp hc).elim (h c) (h2 c)
theorem Lo.join {sep : Str} {ts : List Str} (h : Lo sep) (ht : ∀ t ∈ ts, Lo t) : Lo (Str.join sep ts) := fun c hc => (mem_join sep c ts |>.mp hc).elim (fun ⟨t, m, z⟩ => ht t m c z) fun z => h c z.2
theorem lo_ascii {s : String} (h : ((Str.ofString s).cps.toList.all fun c => decide (c < 1114112)) = true) : Lo s := fun c hc => of_decide_eq_true (List.all_eq_true.mp h c hc)
theorem LoD.int {i : Int} : LoD (.int i) := fun c hc => by
  by_cases h : c < 1114112
  · exact h
  · exact absurd hc (shown_int_free' ⟨by omega, .inr (by omega)⟩ i)
theorem LoD.bool {b : Bool} : LoD (.bool b) := by
  show Lo (PyData.bool b).shown
  rw [PyData.shown_bool]
  cases b
  · exact lo_ascii (s := "False") (by decide)
  · exact lo_ascii (s := "True") (by decide)
theorem LoD.none : LoD .none := by
  show Lo (PyData.none).shown
  rw [PyData.shown_none]
  exact lo_ascii (s := "None") (by decide)
theorem loAll : ∀ {ds : List D}, (∀ d ∈ ds, LoD d) → ∀ t ∈ PyData.shownAll ds, Lo t
  | [], _, t, ht => by rw [PyData.shownAll_nil] at ht; exact absurd ht (by simp)
  | x :: r, h, t, ht => by
    rw [PyData.shownAll_cons, List.mem_cons] at ht
    rcases ht with rfl | ht
    · exact h x (List.mem_cons_self ..)
    · exact loAll (fun d hd => h d (List.mem_cons_of_mem _ hd)) t ht
theorem LoD.list {ds : List D} (h : ∀ d ∈ ds, LoD d) : LoD (.list ds) := by
  show Lo (PyData.list ds).shown
  rw [PyData.shown_list]
  exact ((lo_ascii (s := "[") (by decide)).app (Lo.join (lo_ascii (s := ", ") (by decide)) (loAll h))).app (lo_ascii (s := "]") (by decide))
theorem LoD.tuple {ds : List D} (h : ∀ d ∈ ds, LoD d) : LoD (.tuple ds) := by
  show Lo (PyData.tuple ds).shown
  rw [PyData.shown_tuple]
  refine ((lo_ascii (s := "(") (by decide)).app (Lo.join (lo_ascii (s := ", ") (by decide)) (loAll h))).app ?_
  split
  · exact lo_ascii (s := ",)") (by decide)
  · exact lo_ascii (s := ")") (by decide)
theorem LoD.two {a b : D} (h : LoD a) (h2 : LoD b) : LoD (.tuple [a, b]) := LoD.tuple fun d hd => by
  rcases List.mem_cons.mp hd with rfl | hd
  · exact h
  · rcases List.mem_cons.mp hd with rfl | hd
    · exact h2
    · cases hd
theorem LoD.word {s : String} (h : (((PyData.str s).shown).cps.toList.all fun c => decide (c < 1114112)) = true) : LoD (.str s) := fun c hc => of_decide_eq_true (List.all_eq_true.mp h c hc)
section
variable {X : Cx} {ρ : Ro} {M : Mem} {a b : Expr} {pos : Pos} {k : Nat}
end
section
variable {X : Cx} {Hb : Hp} {Ab : List Addr} {E : En} {ρ : Ro} {M : Mem} {es : List Expr} {pos lp : Pos}
end
section
variable {X : Cx} {ρ : Ro} {M : Mem} {a b : Expr} {pos : Pos} {k : Nat}
/-- a == b, texts, with effects -/
theorem Ev.eqS {Φ : W → Mem → Prop} (h : Ev X a ρ M fun wa M1 => ∃ x : Str, wa = .dat (.str x) ∧ Ev X b ρ M1 fun wb M2 => ∃ y : Str, wb = .dat (.str y) ∧ Φ (.dat (.bool (decide (x = y)))) M2) : Ev X (.Compare a [.Eq] [b] pos) ρ M Φ := fun σ H Q ok q =>
  of_pe (pe_cmpR op_eq p_rd p_rd (nobehind _ (by decide) (by decide))) (h σ H _ ok fun w1 M1 v1 H1 h1 ea1 x1 m1 r1 => by
    obtain ⟨x, rfl, h1⟩ := h1
    refine h1 σ H1 _ (ok.ext ea1 x1 m1) fun w2 M2 v2 H2 h2 ea2 x2 m2 r2 => ?_
    obtain ⟨y, rfl, h2⟩ := h2
    rw [ea1] at ea2 x2
    obtain rfl := Dd.str_of r1
    obtain rfl := Dd.str_of r2
    refine ⟨rfl, ?_⟩
    have e : decide (V.str x = V.str y) = decide (x = y) := by
      by_cases h : x = y
      · rw [decide_eq_true h, decide_eq_true (by rw [h])]
      · rw [decide_eq_false h, decide_eq_false fun z => h (V.str.inj z)]
    rw [e]
    exact q _ M2 _ H2 h2 ea2 (x1.trans x2) m2 (.bl _))
end
end XB

/-! QM: values of any kind: dicts as data, tuple != (), str(int). -/
namespace XB
open PySem PySem.Spec PyProof.Rows L2

section
variable {X : Cx} {ρ : Ro} {M : Mem} {a b e : Expr} {p pos : Pos} {k : Nat}
theorem DkAll.kv {K : PySem.W.Frag} {H : Hp} {A : List Addr} : ∀ {ys : List (Key × V)} {kvs : List (Key × D)}, DkAll K H A ys kvs → DdKv K H A ys (kvs.map fun p => (keyD p.1, p.2))
  | _, _, .nil => .nil
  | _, _, .cons h r => .cons h r.kv
theorem DdKv.mv' {K : PySem.W.Frag} {H H' : Hp} {A A' : List Addr} (m : Mv H H' A A') : ∀ {ys : List (Key × V)} {ds : List (D × D)}, DdKv K H A ys ds → DdKv K H' A' ys ds
  | _, _, .nil => .nil
  | _, _, .cons h r => .cons (h.mv m) (DdKv.mv' m r)
theorem EvDi.d {kvs : List (Key × D)} (h : EvDi X e ρ M kvs) : EvD X e ρ M (.dat (.dict (kvs.map fun p => (keyD p.1, p.2)))) := fun σ H Q ok q => h σ H Q ok fun p ys H' n s hp r =>
  q _ H' s (.dic (.inl hp) (ok.mem.fresh n) (r.kv.mv' (Mv.sub fun b hb => List.mem_cons_of_mem _ hb)))
/-- {} -/
theorem ev_dict0 : EvD X (.Dict [] [] pos) ρ M (.dat (.dict [])) := fun σ H Q ok q => of_pe pe_dnewK fun p hp => q _ _ (same_upd hp) (.dic (.inl upd_same) (ok.mem.fresh hp) .nil)
/-- {"x": v} -/
theorem ev_dict1 {x : String} {ve : Expr} {d : D} {kk : Nat} {kp : Pos} (hv : ∀ z, z ∉ ads M → EvD X ve ρ ((z, .dic []) :: M) (.dat d)) : EvD X (.Dict [some (.Constant (.str x) kk kp)] [ve] pos) ρ M (.dat (.dict [(.str x, d)])) :=
  EvDi.d (kvs := [(.inr x, d)]) (ed_one (key := .inr x) ev_str hv fun _ _ => ev_str)
/-- str(i) -/
theorem ev_strI {i : Int} (hm : X.mg "str" = none) (ha : EvD X e ρ M (.dat (.int i))) (hn : i.natAbs.log2 < 1920) (hg : Gl X "str" := by rfl) (hs : starEach [e] X.env = (false, eval e X.env) :: starEach [] X.env := by rfl) (hpl : (backTo pos (starEach [] X.env)).any (·.1) = false := by rfl) :
    EvD X (.Call (.Name "str" p) [e] [] pos) ρ M (.dat (.str (Str.ofString (toString i)))) := fun σ H Q ok q =>
  of_pe (pe_callTy call_str_int hg hm (by decide +kernel) (pa_cons p_rd pa_nil hs) (by decide) (by decide) hs hpl) (ha σ H _ ok fun v H1 s1 r1 => ⟨i, by rw [Dd.int_of r1], hn, q _ H1 s1 (.str _)⟩)
/-! ### long displays: the default rfl of ea_cons doubles with each item -/
def isStar : Expr → Bool
  | .Starred .. => true
  | _ => false
theorem se {e : Expr} {es : List Expr} {env : Env} (h : isStar e = false) : starEach (e :: es) env = (false, eval e env) :: starEach es env := by
  cases e <;> first | rfl | cases h
theorem ea_c {e : Expr} {es : List Expr} {w : W} {ws : List W} (ha : EvD X e ρ M w) (hr : EaD X es ρ M ws) (h : isStar e = false := by rfl) : EaD X (e :: es) ρ M (w :: ws) := ea_cons ha hr (se h)
theorem Ea.c {Φ : List W → Mem → Prop} {e : Expr} {es : List Expr} (h : Ev X e ρ M fun w M1 => Ea X es ρ M1 fun ws M2 => Φ (w :: ws) M2) (hs : isStar e = false := by rfl) : Ea X (e :: es) ρ M Φ := Ea.cons h (se hs)
theorem Ea.q {Φ : List W → Mem → Prop} {e : Expr} {es : List Expr} {w : W} (h : EvD X e ρ M w) (h2 : Ea X es ρ M fun ws M1 => Φ (w :: ws) M1) (hs : isStar e = false := by rfl) : Ea X (e :: es) ρ M Φ := Ea.p h h2 (se hs)
def isComp : Expr → Bool
  | .ListComp .. | .SetComp .. | .DictComp .. => true
  | _ => false
theorem sw {e : Expr} {t : Option Expr} {l : Nat} {env : Env} (h : isComp e = false) : swapsWith e t l env = pure false := by
  cases e <;> first | rfl | cases h
theorem pl1 {e : Expr} {env : Env} {q : Pos} (h : isStar e = false) : (backTo q (starEach [e] env)).any (·.1) = false := by
  rw [se h]
  rfl
/-! ### displays of constants: judged without looking at the context -/
mutual
inductive Lit : Expr → D → Prop
  | non {k : Nat} {p : Pos} : Lit (.Constant .none k p) .none
  | bl {b : Bool} {k : Nat} {p : Pos} : Lit (.Constant (.bool b) k p) (.bool b)
  | int {i : Int} {k : Nat} {p : Pos} : Lit (.Constant (.int i) k p) (.int i)
  | str {x : String} {k : Nat} {p : Pos} : Lit (.Constant (.str x) k p) (.str x)
  | neg {i : Int} {k : Nat} {p p2 : Pos} : Lit (.UnaryOp .USub (.Constant (.int i) k p) p2) (.int (-i))
  | p30 {k k2 : Nat} {p p2 p3 : Pos} : Lit (.BinOp (.Constant (.int 10) k p) .Pow (.Constant (.int 30) k2 p2) p3) (.int (10 ^ (30 : Int).toNat))
  | tup {es : List Expr} {ds : List D} {k : Nat} {p : Pos} : LitA es ds → ds.length ≤ 100 → Lit (.Tuple es k p) (.tuple ds)
  | lst {es : List Expr} {ds : List D} {p : Pos} : LitA es ds → ds.length ≤ 100 → Lit (.List es p) (.list ds)
  | dic0 {p : Pos} : Lit (.Dict [] [] p) (.dict [])
  | dic1 {x : String} {v : Expr} {d : D} {k : Nat} {p p2 : Pos} : Lit v d → Lit (.Dict [some (.Constant (.str x) k p)] [v] p2) (.dict [(.str x, d)])
inductive LitA : List Expr → List D → Prop
  | nil : LitA [] []
  | cons {e : Expr} {es : List Expr} {d : D} {ds : List D} : Lit e d → LitA es ds → LitA (e :: es) (d :: ds)
end
theorem Lit.star {e : Expr} {d : D} (h : Lit e d) : isStar e = false := by cases h <;> rfl
mutual
theorem lit_ok {X : Cx} {ρ : Ro} : ∀ {M : Mem} {e : Expr} {d : D}, Lit e d → EvD X e ρ M (.dat d)
  | _, _, _, .non => ev_non
  | _, _, _, .bl => ev_bl
  | _, _, _, .int => ev_int
  | _, _, _, .str => ev_str
  | _, _, _, .neg => ev_neg ev_int
  | _, _, _, .p30 => ev_pow ev_int ev_int ⟨by decide, by decide, by decide⟩
  | _, _, _, .tup h hl => ev_tup (litA_ok h) (Nat.le_trans hl (by decide))
  | _, _, _, .lst h hl => EvN.d (en_lst (litA_ok h) (Nat.le_trans hl (by decide)))
  | _, _, _, .dic0 => ev_dict0
  | _, _, _, .dic1 h => ev_dict1 fun _ _ => lit_ok h
theorem litA_ok {X : Cx} {ρ : Ro} : ∀ {M : Mem} {es : List Expr} {ds : List D}, LitA es ds → EaD X es ρ M (ds.map .dat)
  | _, _, _, .nil => ea_nil
  | _, _, _, .cons h r => ea_c (lit_ok h) (litA_ok r) h.star
end
theorem lit_l {X : Cx} {ρ : Ro} {M : Mem} {es : List Expr} {ds : List D} (h : LitA es ds) (hl : ds.length ≤ 100) : EvN X (.List es pos) ρ M ds := en_lst (litA_ok h) (Nat.le_trans hl (by decide))
/-! ### tuple != () -/
def rNeNil (K : PySem.W.Frag) : R2 := fun x y H Q => ∃ a b xs, x = .ref a ∧ y = .ref b ∧ SqT K H a xs ∧ SqT K H b [] ∧ Q (.bl (!xs.isEmpty)) H
theorem op_neNil (hu : X.A.units + 64 < cLine) : OpR X (compareOp .NotEq) (rNeNil X.K) := by
  intro pins s σ H x y v u Q I rx ry h
  obtain ⟨a, b, xs, rfl, rfl, h1, h2, q⟩ := h
  cases rx
  cases ry
  obtain ⟨its, rv, ⟨o, ho, hc, n, hd⟩, _⟩ := I.tuple h1
  obtain ⟨its2, rv2, ⟨o2, ho2, hc2, n2, hd2⟩, _⟩ := I.tuple h2
  cases rv2
  refine SeqAt.RcNeAt.tuples (A := X.A) (e := fun _ => true) ⟨o, ho, hc, n, hd⟩ ⟨o2, ho2, hc2, n2, hd2⟩ (by omega) (fun j _ j2 => absurd j2 (Nat.not_lt_zero j)) _ _ _ _ ⟨.bl _, H, I, ?_, q⟩
  have hl := rv.length
  cases xs with
  | nil =>
    cases rv
    rfl
  | cons x xs =>
    cases rv
    rfl
theorem et_neNil {ds : List D} (hr : Room k X.A) (ha : EvD X a ρ M (.dat (.tuple ds))) (hb : EvD X b ρ M (.dat (.tuple []))) (hm : behindInMarks CmpOp.NotEq b = false := by first | exact nobehind _ (by decide) (by decide) | rfl) : EtD X (.Compare a [.NotEq] [b] pos) ρ M (!ds.isEmpty) := fun σ H Q ok q =>
  of_pt (pt_cmpR (op_neNil (by have := hr.units; omega)) p_rd p_rd hm) (ha σ H _ ok fun v1 H1 s1 r1 => hb σ H1 _ (ok.same s1) fun v2 H2 s2 r2 => by
    obtain ⟨a1, xs, rfl, h1, d1⟩ := Dd.t (r1.mv (Ext.of s2).mv : SW X.K H2 (ads M) v1 (.dat (.tuple ds)))
    obtain ⟨a2, ys, rfl, h2, d2⟩ := Dd.t r2
    cases d2
    refine ⟨a1, a2, xs, rfl, rfl, h1, h2, !xs.isEmpty, rfl, ?_⟩
    have e1 : xs.isEmpty = ds.isEmpty := by cases d1 <;> rfl
    rw [e1]
    exact q H2 (s1.trans s2))
end
end XB

/-! QN: xs.count(x), xs.index(x) of data. -/
namespace XB
open PySem PySem.Spec PyProof.Rows L2
section
variable {X : Cx}
def rCntD (K : PySem.W.Frag) : V → List V → Hp → VK → Prop := fun x xs H Q => ∃ (a : Addr) (y : V) (d : PyData) (ds : List PyData), x = V.ref a ∧ xs = [y] ∧ Dp K H (V.ref a) (.list ds) ∧ Dp K H y d ∧
  SeqAt.shaped (.list ds) = true ∧ SeqAt.shaped d = true ∧ Q (.int (ds.countP fun z => PyData.eqv z d)) H
theorem mt_countD (hu : X.A.units + 65 < cLine) : MtR X "list.count" (rCntD X.K) := by
  intro pins s σ H x xs v us Q I rx rxs h
  obtain ⟨a, y, d, ds, rfl, rfl, hl, hy, sl, sd, q⟩ := h
  cases rx
  cases rxs with
  | cons ry rt =>
    rename_i uy ut
    cases rt
    obtain ⟨bs, r1⟩ := Dp.reads I d y uy hy ry
    have hxs : PyData.canLayAll0 ds = true := SeqAt.canLay_of_shaped sl
    have hroom : X.A.units + 1 + min (PyData.depthAll ds) d.depth < cLine := room_in_shaped sd hu
    cases hl with
    | lst hs ha =>
      obtain ⟨its, rv, ⟨⟨cls, dd, data, sls⟩, n, ho, hc, hdn, hdt⟩, hlen⟩ := I.list hs
      simp only at hc hdt
      subst hc hdt
      obtain ⟨as, h4⟩ := Dp.readsAll I ds _ its ha rv
      have hmap : its.map (SeqAt.readOf s.heap) = ds := SeqAt.readsAll_map ds its as hxs h4
      refine call_meets PySem.F.slot_list_count ⟨_, ho, rfl⟩ PySem.F.entry_list_count (PySem.F.args_list_count_2 _ _)
        (SeqAt.list_countAt a its.toArray n dd sls uy (fun u => PyData.eqv (SeqAt.readOf s.heap u) d)) ⟨ho, ?_, ?_⟩
      · exact SeqAt.items_eqAt (vs := its.toArray) (show ReadsAll s.heap its.toArray.toList ds as from h4) r1 hxs (SeqAt.canLay_of_shaped sd) hroom
      · refine ⟨.int (ds.countP fun z => PyData.eqv z d), H, I.tok _, ⟨s.toks, ?_⟩, q⟩
        have e1 : its.toArray.toList.countP (fun u => PyData.eqv (SeqAt.readOf s.heap u) d) = ds.countP fun z => PyData.eqv z d := by
          rw [← hmap, List.countP_map]
          simp [Function.comp_def]
        rw [e1]
end
section
variable {X : Cx} {ρ : Ro} {M : Mem} {o e : Expr} {apos cpos : Pos} {j : Nat}
/-- xs.count(x), data -/
theorem ev_countD {ds : List D} {d : D} (hr : Room j X.A) (hx : EvL X o ρ M ds) (hd : PyData.hasDictAll ds = false) (he : EvD X e ρ M (.dat d)) (hde : d.hasDict = false) (s1 : SeqAt.shaped (.list ds) = true) (s2 : SeqAt.shaped d = true) (hst : starEach [e] X.env = (false, eval e X.env) :: starEach [] X.env := by rfl)
    (hb : MtR X "list.count" (rCntD X.K) → PE X (.Call (.Attribute o "count" apos) [e] [] cpos) (tBM X.K "list" (rCntD X.K) (rd X o) (ra X [e])) := by exact fun mt => pe_bm PySem.F.plainAttrs_list PySem.F.slot_list_count PySem.F.type_list_count mt p_rd p_ra) : EvD X (.Call (.Attribute o "count" apos) [e] [] cpos) ρ M (.dat (.int (ds.countP fun z => PyData.eqv z d))) := fun σ H Q ok q =>
  of_pe (hb (mt_countD (by have := hr.un; omega))) (hx σ H _ ok fun p xs H1 s1 h1 r1 => by
    refine ⟨.inl ⟨rfl, xs, h1⟩, of_pa (pa_cons p_rd pa_nil hst) (he σ H1 _ (ok.same s1) fun y H2 s2 r2 => ?_)⟩
    exact ⟨p, y, d, ds, rfl, rfl, .lst (SqL.same s2 h1) (DpAll.same s2 (r1.dp hd)), Dd.dp r2 hde, ‹_›, ‹_›, q _ H2 (s1.trans s2) (.int _)⟩)
/-- xs.index(x), data -/
theorem ev_indexD {ds : List D} {d z : D} {i : Nat} (hr : Room j X.A) (hx : EvL X o ρ M ds) (hd : PyData.hasDictAll ds = false) (he : EvD X e ρ M (.dat d)) (hde : d.hasDict = false) (s1 : SeqAt.shaped (.list ds) = true) (s2 : SeqAt.shaped d = true) (hz : ds[i]? = some z) (hz2 : PyData.eqv z d = true) (hno : ∀ (m : Nat) (z' : PyData), m < i → ds[m]? = some z' → PyData.eqv z' d = false) (hst : starEach [e] X.env = (false, eval e X.env) :: starEach [] X.env := by rfl)
    (hb : MtR X "list.index" (rIndexD X.K) → PE X (.Call (.Attribute o "index" apos) [e] [] cpos) (tBM X.K "list" (rIndexD X.K) (rd X o) (ra X [e])) := by exact fun mt => pe_bm PySem.F.plainAttrs_list PySem.F.slot_list_index PySem.F.type_list_index mt p_rd p_ra) : EvD X (.Call (.Attribute o "index" apos) [e] [] cpos) ρ M (.dat (.int (i : Nat))) := fun σ H Q ok q =>
  of_pe (hb (mt_indexD (by have := hr.un; omega))) (hx σ H _ ok fun p xs H1 s1 h1 r1 => by
    refine ⟨.inl ⟨rfl, xs, h1⟩, of_pa (pa_cons p_rd pa_nil hst) (he σ H1 _ (ok.same s1) fun y H2 s2 r2 => ?_)⟩
    exact ⟨p, y, d, ds, i, z, rfl, rfl, .lst (SqL.same s2 h1) (DpAll.same s2 (r1.dp hd)), Dd.dp r2 hde, ‹_›, ‹_›, hz, hz2, hno, q _ H2 (s1.trans s2) (.int _)⟩)
end
end XB

/-! QO: a and b and c, the last with effects; bounds of bent data. -/
namespace XB
open PySem PySem.Spec PyProof.Rows L2
section
variable {X : Cx} {ρ : Ro} {M : Mem} {a b c e : Expr} {pos : Pos}
theorem Et.and3 {Φ : Bool → Mem → Prop} {x y : Bool} (ha : EtD X a ρ M x) (hb : x = true → EtD X b ρ M y) (hc : x = true → y = true → Et X c ρ M Φ) (hf : (x && y) = false → Φ false M) : Et X (.BoolOp .And [a, b, c] pos) ρ M Φ := fun σ H Q ok q pins s I => by
  have h2 := of_pw (e := .BoolOp .And [a, b, c] pos) (pw_and (pos := pos) (p_rt (X := X) (e := a)) (pw_and (pos := pos) (p_rt (X := X) (e := b)) (pw_and1 (pos := pos) (p_rt (X := X) (e := c))))) (σ := σ) (H := H) (Q := Q) ?_
  · exact h2 _ pins s I
  · refine ha σ H _ ok fun H1 s1 => ?_
    cases x with
    | true =>
      refine (if_pos rfl).symm ▸ hb rfl σ H1 _ (ok.same s1) fun H2 s2 => ?_
      have s12 := s1.trans s2
      cases y with
      | true =>
        refine (if_pos rfl).symm ▸ hc rfl rfl σ H2 _ (ok.same s12) fun z M3 H3 h3 ea3 x3 m3 => ?_
        exact q z M3 H3 h3 ea3 ((Ext.of s12).trans x3) m3
      | false =>
        refine (if_neg Bool.false_ne_true).symm ▸ ?_
        exact q false M H2 (hf rfl) rfl (Ext.of s12) (ok.mem.same s12)
    | false =>
      refine (if_neg Bool.false_ne_true).symm ▸ ?_
      exact q false M H1 (hf rfl) rfl (Ext.of s1) (ok.mem.same s1)
end
/-! ### bounds -/
theorem ShAll.unone {c k : Nat} {d : D} (h : ShAll c k [d]) : Sh (c - 2) k d ∧ 2 ≤ c := by
  obtain ⟨h1, h2, h3⟩ := h
  have e2 : cst d + 2 + 0 ≤ c := h2
  refine ⟨⟨?_, by omega, ?_⟩, by omega⟩
  · have h1 : (d.showable && true) = true := h1
    rwa [Bool.and_true] at h1
  · have h3 : max d.depth 0 ≤ k := h3
    omega
end XB

/-! QP: bounds of data: the ints in it, the text of a text of an int. -/
namespace XB
open PySem PySem.Spec PyProof.Rows L2
open PySem.Builtin.Str (reprChar)
theorem foldl_len {f : Nat → Nat} : ∀ {l : List Nat} {n : Nat}, (∀ c ∈ l, f c = 1) → l.foldl (fun n c => n + f c) n = n + l.length
  | [], n, _ => rfl
  | c :: l, n, h => by
    rw [List.foldl_cons, foldl_len (fun d hd => h d (List.mem_cons_of_mem _ hd)), h c (List.mem_cons_self ..), List.length_cons]
    omega
theorem quote_or (x : Str) : reprQuote x = 34 ∨ reprQuote x = 39 := by
  unfold reprQuote
  split
  · first | exact .inl rfl | exact .inr rfl
  · first | exact .inl rfl | exact .inr rfl
theorem reprChar_digit {q c : Nat} (hq : q = 34 ∨ q = 39) (hc : c = 45 ∨ (48 ≤ c ∧ c ≤ 57)) : (reprChar q c).length = 1 := by
  have key : ∀ c : Fin 58, (c.1 = 45 ∨ 48 ≤ c.1) → (reprChar 34 c.1).length = 1 ∧ (reprChar 39 c.1).length = 1 := by decide +kernel
  have h := key ⟨c, by omega⟩ (by
    show c = 45 ∨ 48 ≤ c
    omega)
  rcases hq with rfl | rfl
  · exact h.1
  · exact h.2
/-- the text of an int's text -/
theorem repr_int (i : Int) : (PyData.shown (.str (Str.ofString (toString i)))).length = (Str.ofString (toString i)).length + 2 := by
  rw [PyData.shown_str, ← reprLen_eq, ← Array.foldl_toList, foldl_len (f := fun c => (reprChar (reprQuote (Str.ofString (toString i))) c).length) fun c hc => ?_]
  · show 2 + (Str.ofString (toString i)).cps.toList.length = (Str.ofString (toString i)).cps.size + 2
    rw [Array.length_toList]
    omega
  · refine reprChar_digit (quote_or _) ?_
    by_cases h : c = 45 ∨ (48 ≤ c ∧ c ≤ 57)
    · exact h
    · exact absurd hc (int_text_free' c ⟨by omega, by omega⟩ i)
theorem cst_str_int (i : Int) : cst (.str (Str.ofString (toString i))) ≤ cst (.int i) + 2 := by
  show (PyData.shown (.str (Str.ofString (toString i)))).length ≤ i.natAbs.log2 + 2 + 2
  rw [repr_int]
  have h := shown_cst (.int i)
  have e : (PyData.int i).shown = Str.ofString (toString i) := by rw [PyData.shown_int]
  rw [e] at h
  have h2 : cst (.int i) = i.natAbs.log2 + 2 := rfl
  omega
/-! ### how great the ints are -/
mutual
def bg : D → Nat
  | .none | .bool _ | .str _ => 0
  | .int i => i.natAbs.log2
  | .list xs | .tuple xs => bgAll xs
  | .dict kvs => bgKv kvs
def bgAll : List D → Nat
  | [] => 0
  | x :: xs => max (bg x) (bgAll xs)
def bgKv : List (D × D) → Nat
  | [] => 0
  | (k, v) :: r => max (max (bg k) (bg v)) (bgKv r)
end
theorem bgAll_le {b : Nat} : ∀ {ds : List D}, bgAll ds ≤ b ↔ ∀ x ∈ ds, bg x ≤ b
  | [] => ⟨fun _ x hx => absurd hx (List.not_mem_nil), fun _ => Nat.zero_le _⟩
  | d :: ds => by
    show max (bg d) (bgAll ds) ≤ b ↔ _
    constructor
    · intro h x hx
      rcases List.mem_cons.mp hx with rfl | hx
      · omega
      · exact bgAll_le.mp (by omega) x hx
    · intro h
      have h1 := h d (List.mem_cons_self ..)
      have h2 := bgAll_le.mpr fun x hx => h x (List.mem_cons_of_mem _ hx)
      omega
/-- c: its text, k: how deep, b: its ints -/
structure Bd (c k b : Nat) (d : D) : Prop where
  sh : Sh c k d
  bg : bg d ≤ b
theorem Bd.mono {c k b c' k' b' : Nat} {d : D} (h : Bd c k b d) (hc : c ≤ c') (hk : k ≤ k') (hb : b ≤ b') : Bd c' k' b' d := ⟨h.sh.mono hc hk, Nat.le_trans h.bg hb⟩
theorem cutL_shAll {c k : Nat} {ds : List D} (h : ShAll c k ds) (i j : Option Int) : ShAll c k (cutL ds i j) := by
  unfold cutL
  exact (h.drop _).take _
theorem cutL_mem {ds : List D} {i j : Option Int} {x : D} (h : x ∈ cutL ds i j) : x ∈ ds := by
  unfold cutL at h
  exact List.mem_of_mem_drop (List.mem_of_mem_take h)
theorem log2_add1 {i : Int} (j : Int) (hj : j.natAbs ≤ 1) : (i + j).natAbs.log2 ≤ i.natAbs.log2 + 1 := by
  rcases Nat.eq_zero_or_pos (i + j).natAbs with h | h
  · rw [h]; exact Nat.zero_le _
  · have h1 : i.natAbs < 2 ^ (i.natAbs.log2 + 1) := Nat.lt_log2_self
    have h2 : (i + j).natAbs ≤ i.natAbs + 1 := by omega
    have h3 : 1 ≤ 2 ^ (i.natAbs.log2 + 1) := Nat.one_le_two_pow
    have h4 : (i + j).natAbs < 2 ^ (i.natAbs.log2 + 1 + 1) := by
      rw [Nat.pow_succ]
      omega
    have := (Nat.log2_lt (by omega)).mpr h4
    omega
theorem log2_mul {i : Int} : (i * 70000).natAbs.log2 ≤ i.natAbs.log2 + 17 := by
  rcases Nat.eq_zero_or_pos (i * 70000).natAbs with h | h
  · rw [h]; exact Nat.zero_le _
  · have h1 : i.natAbs < 2 ^ (i.natAbs.log2 + 1) := Nat.lt_log2_self
    have h4 : (i * 70000).natAbs < 2 ^ (i.natAbs.log2 + 1 + 17) := by
      rw [Int.natAbs_mul, Nat.pow_add]
      have e : (70000 : Int).natAbs = 70000 := rfl
      have e2 : (2 : Nat) ^ 17 = 131072 := rfl
      rw [e, e2]
      omega
    have := (Nat.log2_lt (by omega)).mpr h4
    omega
end XB

/-! QR: tuple * int; a lambda that calls a def, by its outcome. -/
namespace XB
open PySem PySem.Spec PyProof.Rows L2
open LamX (TabB LamS lamCx lamEnv)
section
variable {X : Cx} {ρ : Ro} {M : Mem} {a b : Expr} {pos : Pos}
end
section
variable {X : Cx} {ρ : Ro} {M : Mem} {a b c : Expr} {pos : Pos} {i j k : Int}
end
section
variable {X : Cx} {ρ : Ro} {M : Mem} {a b : Expr} {es : List Expr} {pos : Pos} {op : BoolOp}
theorem Ev.one {Φ : W → Mem → Prop} (h : Ev X a ρ M Φ) : Ev X (.BoolOp op [a] pos) ρ M Φ := fun σ H Q ok q => of_pe (pe_one p_rd) (h σ H _ ok q)
end
/-- what a call of the def x with ws comes to -/
def Outc (P : Program) (w : World) (K : PySem.W.Frag) (mg : Str → Option Value) (base : Heap) (k : Nat) (x : Str) (st : Stmt) (ps : List Str) (ws : List W) : Out → Prop
  | .ret d => ∃ C, DefP P w K mg base k x st ps C ∧ C ws (.dat d)
  | .err y v => ∃ C, DefR P w K mg base k x st ps C ∧ C ws y v
theorem Outc.up {P : Program} {w : World} {K : PySem.W.Frag} {mg : Str → Option Value} {base : Heap} {j k : Nat} {x : Str} {st : Stmt} {ps : List Str} {ws : List W} {o : Out} (h : Outc P w K mg base j x st ps ws o) (hk : j ≤ k) : Outc P w K mg base k x st ps ws o := by
  cases o with
  | ret d => obtain ⟨C, F, h⟩ := h; exact ⟨C, F.up hk, h⟩
  | err y v => obtain ⟨C, F, h⟩ := h; exact ⟨C, F.up hk, h⟩
section
variable {X : Cx} {ρ : Ro} {M : Mem} {x a : Str} {st : Stmt} {N : List Str} {T : Out → D → Prop} {k j : Nat} {o : Out} {r : D} {c P : Addr} {params : Arguments} {scope : Scope} {p p1 p2 lpos pos : Pos} {e : Expr} {es : List Expr} {F : Str} {sF : Stmt} {pF : List Str} {ws : List W}
theorem lamB_call (ho : Outc X.prog X.w X.K X.mg X.base j F sF pF ws o) (ha : ∀ (A : Around) (outer : List Env) (s : Shared) (H : Hp) (E : XK) (f c' : Addr), EaD (lamCx X A outer s H E scope f c') (e :: es) ρ M ws)
    (hgl : ∀ (A : Around) (outer : List Env) (s : Shared) (H : Hp) (E : XK) (f c' : Addr), Gl (lamCx X A outer s H E scope f c') F := by intros; rfl) (hF : (F == ("__debug__" : Str)) = false := by decide) (hs : isStar e = false := by rfl) (hpl : ∀ env : Env, (backTo p2 (starEach es env)).any (·.1) = false := by intro _; rfl) :
    LamB X (.Call (.Name F p1) (e :: es) [] p2) scope ρ M j o := by
  cases o with
  | ret d =>
    obtain ⟨C, D, hC⟩ := ho
    intro A outer s H E f c' hr hg
    exact ev_call (X := lamCx X A outer s H E scope f c') D hr hg (ha A outer s H E f c') hC (hgl ..) hF (se hs) (hpl _)
  | err y v =>
    obtain ⟨C, D, hC⟩ := ho
    intro A outer s H E f c' hr hg
    exact evX_call (X := lamCx X A outer s H E scope f c') D hr hg (ha A outer s H E f c') hC (hgl ..) hF (se hs) (hpl _)
/-- x(lambda: F(e, ..)) -/
theorem ev_toldO (TO : Told X.prog X.w X.K X.mg X.base k x st a N T) (hr : Room (k + 1) X.A) (hgd : Gd X.A) (hP : (P, Ow.tab (X.env.qual ++ "<lambda>")) ∈ M) (TB : TabB X.base X.mg c P) (hcode : X.env.code = .ref c) (L : LamS X.env.scope scope)
    (ho : Outc X.prog X.w X.K X.mg X.base j F sF pF ws o) (hT : T o r) (ha : ∀ (A : Around) (outer : List Env) (s : Shared) (H : Hp) (E : XK) (f c' : Addr), EaD (lamCx X A outer s H E scope f c') (e :: es) ρ M ws) (hj : j + 1 ≤ k := by decide)
    (hgl : ∀ (A : Around) (outer : List Env) (s : Shared) (H : Hp) (E : XK) (f c' : Addr), Gl (lamCx X A outer s H E scope f c') F := by intros; rfl) (hF : (F == ("__debug__" : Str)) = false := by decide) (hs : isStar e = false := by rfl) (hpl : ∀ env : Env, (backTo p2 (starEach es env)).any (·.1) = false := by intro _; rfl)
    (hdef : defaultsOf params X.env = ([], []) := by rfl) (hbind : ∀ (q : Str) (cl : List (Str × Addr)) (pm cv ctv : Value), bindArgs (PySem.W.kla_fn "<lambda>" q params (.Call (.Name F p1) (e :: es) [] p2) scope cl pm cv ctv) ⟨[], []⟩ = pure [] := by intros; rfl) (hg : Gl X x := by rfl)
    (hdb : (x == ("__debug__" : Str)) = false := by decide) (hd : (a == ("__debug__" : Str)) = false := by decide) (hcd : (a == ("__classdict__" : Str)) = false := by decide) :
    Ev X (.Call (.Name x p) [.Lambda params (.Call (.Name F p1) (e :: es) [] p2) scope lpos] [] pos) ρ M (fun w M1 => w = .dat r ∧ M1 = M) :=
  ev_told TO hr hj hgd hP TB hcode L (lamB_call ho ha hgl hF hs hpl) hT hdef hbind hg hdb hd hcd
end
end XB

/-! QS: new lists made with effects; extend. -/
namespace XB
open PySem PySem.Spec PyProof.Rows L2
section
variable {X : Cx} {ρ : Ro} {M : Mem} {a b c : Expr} {pos : Pos} {i j : Int}
end
/-- a new list, made with effects -/
def EvO (X : Cx) (e : Expr) (ρ : Ro) (M : Mem) (Φ : List D → Mem → Prop) : Prop := ∀ σ H Q, Ok X.K H ρ M σ →
  (∀ p xs ds M1 H0 H1, Φ ds M1 → ads M1 = ads M → Ext (ads M) H H0 → MemOk X.K H0 M1 → H0 p = none → Same H0 H1 → H1 p = some (.lst xs) → DdAll X.K H1 (p :: ads M) xs ds → Q (.ref p) H1) → rd X e σ H Q
section
variable {X : Cx} {ρ : Ro} {M : Mem} {a b e x : Expr} {es : List Expr} {pos apos cpos : Pos}
theorem EvO.lst {Φ : List D → Mem → Prop} (h : Ea X es ρ M fun ws M1 => ∃ ds : List D, ws = ds.map .dat ∧ ds.length ≤ sizeLine ∧ Φ ds M1) : EvO X (.List es pos) ρ M Φ := fun σ H Q ok q =>
  of_pe (pe_lst p_ra) (h σ H _ ok fun ws M1 vs H1 h1 ea1 x1 m1 r1 => by
    obtain ⟨ds, rfl, hl, h1⟩ := h1
    refine ⟨by rw [r1.dats.length]; exact hl, fun z hz => ?_⟩
    exact q z _ _ M1 H1 _ h1 ea1 x1 m1 hz (same_upd hz) upd_same (r1.dats.mv ((Mv.add hz).trans (Ext.of (same_upd hz)).mv)))
theorem EvO.d {Φ : W → Mem → Prop} (h : EvO X e ρ M fun ds M1 => Φ (.dat (.list ds)) M1) : Ev X e ρ M Φ := fun σ H Q ok q => h σ H Q ok fun p xs ds M1 H0 H1 h1 ea1 x1 m1 hp sm hq r => by
  have np : p ∉ ads M := by rw [← ea1]; exact m1.fresh hp
  exact q _ M1 _ H1 h1 ea1 (x1.trans (Ext.of sm)) (m1.same sm) (.lst (.inl hq) np (r.mv (Mv.sub fun c hc => List.mem_cons_of_mem _ hc)))
variable {Hb : Hp} {Ab : List Addr} {E : En}
end
end XB

/-! QT: several except clauses. -/
namespace XB
open PySem PySem.Spec PyProof.Rows L2
section
variable {X : Cx} {pins : List (Addr × Obj)} {σ : L2.St} {H : Hp} {s : Shared} {a C dx : Addr}
end
section
variable {X : Cx} {Hb : Hp} {Ab : List Addr} {E : En} {ρ : Ro} {M : Mem} {e : Expr} {pos p1 pos' np : Pos} {x : Str} {d : D} {a C : Addr} {xB : Str} {cB : Value} {h0 : ExceptHandler} {hs0 pre post : List ExceptHandler} {b0 : Stmt} {suite : List Stmt}
end
end XB

/-! QU: defs with a starred parameter that raise. -/
namespace XB
open PySem PySem.Spec PyProof.Rows L2
open LamX (TabB LamS lamCx lamEnv)
structure DefRS (P : Program) (w : World) (K : PySem.W.Frag) (mg : Str → Option Value) (base : Heap) (k : Nat) (x : Str) (C : List W → Str → D → Prop) : Prop where
  ex : ∃ f, mg x = some (.ref f) ∧ PySem.W.keepIn K (.ref f) = true ∧ ∀ (A : Around) (outer : List Env) (s : Shared) (H : Hp) (us : List Value) (vs : List V) (Q : VK) (E : XK), Room k A → Gd A → Env0 P w K mg base A outer s H → Vals vs us → spR K mg C vs H Q E →
    codeAny (model P w) A (.call (.ref f) ⟨us, []⟩) (CR (L2.CX P w) outer P w H s Q E) s
section
variable {P : Program} {w : World} {K : PySem.W.Frag} {mg : Str → Option Value} {base : Heap} {k : Nat} {ps N : List Str} {x pv : Str} {st : Stmt}
theorem DefRS.of {C : List W → Str → D → Prop} (F : Here K mg x st) (S : FnScope N (ps ++ [pv]) (defScope st))
    (hb : ∀ (kV doc pm : Value) (an : Option Addr) (cdv ct : Value) (us rest : List Value), us.length = ps.length → bindArgs (PySem.W.fnOf x x (defArgs st) (defBody st) (defScope st) .none kV doc pm an cdv ct) ⟨us ++ rest, []⟩ = (newTuple rest >>= fun t => pure (ps.zip us ++ [(pv, t)])))
    (len : ∀ ws y d, C ws y d → ∃ (w1 : List W) (ds : List D), ws = w1 ++ ds.map W.dat ∧ w1.length = ps.length ∧ ds.length ≤ sizeLine)
    (body : ∀ (f : Addr) (cdv : Value) (A : Around) (outer : List Env) (s : Shared) (H : Hp) (E : XK) (w1 : List W) (ds : List D) (y : Str) (d : D) (M : Mem), Room k (cxR P w K mg base N x (defScope st) f cdv A outer s H E).A → Gd (cxR P w K mg base N x (defScope st) f cdv A outer s H E).A → C (w1 ++ ds.map W.dat) y d → w1.length = ps.length → TkR (cxR P w K mg base N x (defScope st) f cdv A outer s H E) H M y d →
      Sv (cxR P w K mg base N x (defScope st) f cdv A outer s H E) H (ads M) (defBody st) { nx := fun _ _ => False, rt := fun _ _ => False } (startW N (w1 ++ [.dat (.tuple ds)])) M) :
    DefRS P w K mg base (k + 1) x C := by
  obtain ⟨f, fd, FD, hm⟩ := F
  have hkp := FD.kp
  obtain ⟨oc, od, dV, kV, doc, pm, an, cdv, ct, osl, rfl, lk, hcd, hD, _⟩ := FD.ex
  have hdV : dV = .none := by
    rcases hD with ⟨_, z⟩ | ⟨z, _⟩
    · exact z
    · exact absurd rfl z
  subst hdV
  refine ⟨f, hm, hkp, fun A outer s H us vs Q E hr gd e0 rv hsp => ?_⟩
  obtain ⟨M, ws, y, d, m, hany, sw, hC, q⟩ := hsp
  obtain ⟨w1, ds, rfl, hl, hz⟩ := len ws y d hC
  obtain ⟨v1, v2, rfl, sw1, sw2⟩ := SWs.split sw
  obtain ⟨u1, u2, rfl, r1, r2⟩ := StX.vals_split rv
  have sd := SWs.dats sw2
  have fresh : H s.heap.objs.size = none := e0.hok.fresh (Nat.le_refl _)
  have n1 : v1.length = ps.length := by rw [sw1.length]; exact hl
  have n2 : v2.length ≤ sizeLine := by rw [sd.length]; exact hz
  refine StX.run_bnd (G := fun xs H2 => ∃ p, H p = none ∧ xs = v1 ++ [V.ref p] ∧ H2 = upd H p (.tup v2)) lk hcd S hr e0 (fun A' Ex Q' h => ?_) fun s2 H2 xs hG hr' => ?_
  · rw [hb kV doc pm an cdv ct u1 u2 (by rw [← r1.length]; exact n1)]
    refine wpAny_bind (wpAny_newTuple (wpAny_pure ?_) (by rw [← r2.length]; exact n2))
    have laid : ObjOk P w (upd H s.heap.objs.size (.tup v2)) (s.heap.push ({ cls := .type "tuple", data := .seq u2.toArray } : Obj)) s.heap.objs.size (.tup v2) := ⟨n2, u2, r2, ⟨_, Heap.get?_push_size _ rfl, rfl, _, rfl⟩⟩
    have ul := StX.un_laid (s := s) (fs := frs outer) (u := .tup v2) (o := ({ cls := .type "tuple", data := .seq u2.toArray } : Obj)) fresh
    have z := h _ _ (v1 ++ [V.ref s.heap.objs.size]) (u1 ++ [Value.ref s.heap.objs.size]) (StX.env0_laid e0 laid) ul rfl (fun e s' => StX.cxUp outer s H _ _ E e s' ul (fun b o q => Heap.get?_push_of_some _ q) rfl) (r1.append (.cons rfl .nil)) (by rw [List.length_append, List.length_append, n1]; rfl) ⟨_, fresh, rfl, rfl⟩
    have nu : ps.length = u1.length := by rw [← r1.length]; exact n1.symm
    rw [List.zip_append nu] at z
    exact z
  · obtain ⟨p, hp, rfl, rfl⟩ := hG
    have sm := same_upd (o := .tup v2) hp
    have m2 := m.same sm
    have swp : SWs K (upd H p (.tup v2)) (ads M) (v1 ++ [V.ref p]) (w1 ++ [.dat (.tuple ds)]) := (sw1.mv (Ext.of sm).mv).app (.cons (.tup (.inl upd_same) (m.fresh hp) (sd.mv (Ext.of sm).mv)) .nil)
    have same : ∀ {H' : Hp} {Ml : Mem}, MemOk K H' (Ml ++ M) → Bs (upd H p (.tup v2)) (ads M) H' (Ml ++ M) → Same (upd H p (.tup v2)) H' := fun {H' Ml} m' bs b o e => by
      by_cases hb : b ∈ ads M
      · obtain ⟨y, hy, rfl⟩ := List.mem_map.mp hb
        obtain ⟨u, hu⟩ := hany y hy
        have h1 := m2.ok y hy
        have h2 := m'.ok y (List.mem_append_right _ hy)
        rw [hu] at h1 h2
        have h1 : upd H p (.tup v2) y.1 = some u := h1
        have h2 : H' y.1 = some u := h2
        rw [h2, ← h1]; exact e
      · exact bs.ext b o e hb
    have sub : ∀ {H' : Hp} {Ml : Mem}, Mv H' H' (ads (Ml ++ M)) (ads M) := fun {H' Ml} => Mv.sub fun b hb => by
      unfold ads at hb ⊢
      rw [List.map_append]
      exact List.mem_append_right _ hb
    refine ⟨_, p_rss, body f cdv A outer s2 _ E w1 ds y d M hr' gd hC hl ⟨fun cls dd _ H' => E cls dd H', takes_of rfl rfl rfl rfl, fun cls dd σ1 H1 Ml bs1 m1 r1 => q cls dd H1 (sm.trans (same m1 bs1)) (r1.mv fun b hb => ?_)⟩ (L2.start N (v1 ++ [V.ref p])) _ _ (start_ok m2 swp) (Bs.refl _ M) ⟨fun _ _ _ _ z => z.elim, fun _ _ _ _ z => z.elim, fun _ _ _ _ z => z.elim, fun _ _ _ _ z => z.elim⟩⟩
    unfold ads at hb ⊢
    rw [List.map_append]
    exact List.mem_append_right _ hb
end
section
variable {X : Cx} {ρ : Ro} {M : Mem} {e : Expr} {es : List Expr} {pos p : Pos} {ws : List W} {k : Nat} {x y : Str} {d : D}
end
theorem TkR.step {X : Cx} {Hb H1 : Hp} {M0 Ml : Mem} {x : Str} {d : D} (tk : TkR X Hb M0 x d) (bs : Bs Hb (ads M0) H1 (Ml ++ M0)) : TkR X H1 (Ml ++ M0) x d := by
  obtain ⟨W, t, hW⟩ := tk
  refine ⟨W, t, fun cls dd σ H Ml' b m r => hW cls dd σ H (Ml' ++ Ml) ?_ ?_ ?_⟩
  · rw [List.append_assoc]; exact bs.trans b
  · rw [List.append_assoc]; exact m
  · rw [List.append_assoc]; exact r
section
variable {X : Cx} {Hb : Hp} {Ab : List Addr} {E : En} {ρ : Ro} {M : Mem} {tg iter c : Expr} {body : List Stmt} {pos : Pos} {H H1 : Hp}
end
section
variable {X : Cx} {e : Expr} {ρ : Ro} {M : Mem} {p pos : Pos} {k c kd : Nat}
end
section
variable {X : Cx} {ρ : Ro} {M : Mem} {e h0 : Expr} {pos p2 : Pos}
/-- t[:h], h with effects -/
theorem Ev.hiT {Φ : W → Mem → Prop} {ds : List D} (he : EvD X e ρ M (.dat (.tuple ds))) (h : Ev X h0 ρ M fun w M1 => ∃ j : Int, w = .dat (.int j) ∧ Φ (.dat (.tuple (cutL ds none (some j)))) M1) : Ev X (.Subscript e (.Slice none (some h0) none p2) pos) ρ M Φ := fun σ H Q ok q =>
  of_pe (pe_slice sl_tupA p_rd p_rpart p_rpart) (he σ H _ ok fun v H1 s1 r0 => Part.run (X := X) .no (ok.same s1) fun H2 s2 => fun pins s I => (po_some p_rd).run pins s σ H2 _ I (h σ H2 _ ((ok.same s1).same s2) fun w M1 v1 H3 h1 ea x1 m1 r1 => by
    obtain ⟨j, rfl, hΦ⟩ := h1
    refine ⟨j, Dd.int_of r1, ?_⟩
    have x13 := (Ext.of (A := ads M) (s1.trans s2)).trans x1
    have x23 := (Ext.of (A := ads M) s2).trans x1
    have r3 : Dd X.K H3 (ads M) v (.tuple ds) := r0.mv x23.mv
    obtain ⟨p, xs, rfl, hq, hd⟩ := Dd.t r3
    refine ⟨p, xs, rfl, hq, fun hw => ?_, fun _ z hz => ?_⟩
    · have e1 : cutL ds none (some j) = ds := by
        unfold cutL
        rw [hd.length] at hw
        rw [hw.1, hw.2, List.drop_zero, Nat.sub_zero, List.take_length]
      rw [e1] at hΦ
      exact q _ M1 _ H3 hΦ ea x13 m1 r3
    · have s4 := same_upd (o := .tup (cutV xs none (some j))) hz
      refine q _ M1 _ _ hΦ ea (x13.trans (Ext.of s4)) (m1.same s4) (.tup (.inl upd_same) ?_ ((cut_dd hd none (some j)).mv (Ext.of s4).mv))
      rw [← ea]
      exact m1.fresh hz))
end
section
variable {X : Cx} {ρ : Ro} {M : Mem} {x a : Str} {st : Stmt} {N : List Str} {T : Out → D → Prop} {k j : Nat} {o : Out} {r : D} {c P : Addr} {params : Arguments} {scope : Scope} {p p1 p2 lpos pos : Pos} {e : Expr} {es : List Expr} {F : Str} {ws : List W}
end
end XB

/-! QV: x = (.., e) within a try. -/
namespace XB
open PySem PySem.Spec PyProof.Rows L2
section
variable {X : Cx} {ρ : Ro} {M : Mem} {c e : Expr} {pos : Pos} {k : Nat} {x : Str} {d : D} {w : W}
end
section
variable {X : Cx} {Hb : Hp} {Ab : List Addr} {E : En} {ρ : Ro} {M : Mem} {e : Expr} {pos p1 pos' np : Pos} {x : Str} {d : D} {a C : Addr} {xB : Str} {cB : Value} {h0 : ExceptHandler} {hs0 pre post : List ExceptHandler} {b0 : Stmt} {suite : List Stmt}
end
end XB

/-! QW: b is True; x, y = e, [..] with effects in e. -/
namespace XB
open PySem PySem.Spec PyProof.Rows L2
section
variable {M : Model} {A : Around} {E : Value → Shared → Prop} {s : Shared} {Q : Value → Shared → Prop}
end
section
variable {X : Cx} {ρ : Ro} {M : Mem} {a : Expr} {ta : TE} {pos pos' : Pos} {j : Nat} {b c : Bool}
end
section
variable {X : Cx} {Hb : Hp} {Ab : List Addr} {E : En} {ρ : Ro} {M : Mem} {a b : Expr} {pos : Pos}
end
end XB

/-! QX: list != [], its items any data. -/
namespace XB
open PySem PySem.Spec PyProof.Rows L2
section
variable {X : Cx} {ρ : Ro} {M : Mem} {a b : Expr} {k : Nat} {pos : Pos}
end
/-- it may leave X: since Hb all but Ab is kept -/
def TkG (X : Cx) (Hb : Hp) (Ab : List Addr) (M0 : Mem) (x : Str) (d : D) : Prop := ∃ W : WX, Takes X W ∧ ∀ cls dd σ H Ml, Bs Hb Ab H (Ml ++ M0) → MemOk X.K H (Ml ++ M0) → Raised X.K X.mg (ads (Ml ++ M0)) x d cls dd H → W cls dd σ H
theorem TkR.g {X : Cx} {Hb : Hp} {M0 : Mem} {x : Str} {d : D} (tk : TkR X Hb M0 x d) : TkG X Hb (ads M0) M0 x d := tk
theorem TkG.step {X : Cx} {Hb H1 : Hp} {Ab : List Addr} {M0 M : Mem} {x : Str} {d : D} (tk : TkG X Hb Ab M0 x d) (bs : Bs Hb Ab H1 M) : TkG X H1 (ads M) M0 x d := by
  obtain ⟨W, t, hW⟩ := tk
  exact ⟨W, t, fun cls dd σ H Ml b m r => hW cls dd σ H Ml (bs.trans b) m r⟩
section
variable {X : Cx} {Hb : Hp} {Ab : List Addr} {E : En} {ρ : Ro} {M : Mem} {tg iter c : Expr} {body : List Stmt} {pos : Pos} {H H1 : Hp}
end
section
variable {X : Cx} {Hb : Hp} {E : En} {ρ : Ro} {M M0 Ml : Mem} {e : Expr} {es : List Expr} {p p' pos pos' : Pos} {x y : Str} {d : D} {ws : List W} {k : Nat} {ps : List Str} {sd : Stmt} {B C : Addr}
end
end XB

/-! QY: isinstance(e, (A, B)), e a kept error. -/
namespace XB
open PySem PySem.Spec PyProof.Rows L2
section
variable {X : Cx} {Hb : Hp} {Ab : List Addr} {ρ : Ro} {M : Mem} {e : Expr} {p pos tpos : Pos} {x : Str} {d : D} {a C : Addr} {kt : Nat}
end
section
variable {X : Cx} {ρ : Ro} {M : Mem} {c e : Expr} {p p1 p2 p3 p4 p5 p6 pos : Pos} {kk1 kk2 kt k : Nat} {d : D} {b : Bool} {w1 w2 : String}
end
end XB

/-! QYA: told(lambda: F(k = e, ..)). -/
namespace XB
open PySem PySem.Spec PyProof.Rows L2 LamX
section
variable {X : Cx} {ρ : Ro} {M : Mem} {x a : Str} {st : Stmt} {N : List Str} {T : Out → D → Prop} {k j : Nat} {o : Out} {r : D} {c P : Addr} {params : Arguments} {scope : Scope} {p p1 p2 lpos pos : Pos} {kws : List Keyword} {F : Str} {sF : Stmt} {pF : List Str} {ws : List W}
end
end XB

/-! QYB: sorted(xs, key=lambda x: e). -/
namespace XB
open PySem PySem.Spec PyProof.Rows L2
open LamX (CodeO TabB)

/-! ### the sort, its keys' calls told by what stands between them -/
section
variable {prog : Program} {w : World} {A : Around} {E : Value → Shared → Prop} {s : Shared} {a kS : Addr} {b : Bool} {vs : List Value} {kz : List PyData} {e1 : Nat} {P : PySem.Fin → Shared → Prop}
end
section
variable {X : Cx} {pins : List (Addr × Obj)} {σ : L2.St} {H : Hp} {s : Shared} {A0 : List Addr}
end
section
variable {P : Program} {w : World} {K : PySem.W.Frag} {mg : Str → Option Value} {base : Heap} {j : Nat} {f k : Addr} {q : Str} {params : Arguments} {body : Expr} {scope : Scope} {pm ct : Value} {N ps : List Str} {A : Around} {outer : List Env} {s : Shared} {H : Hp} {us : List Value} {vs : List V} {Q : VK}
end
section
variable {X : Cx} {ρ : Ro} {M : Mem} {e : Expr} {p pos lpos kpos : Pos} {c P : Addr} {params : Arguments} {body : Expr} {scope : Scope} {N : List Str} {a : Str} {j : Nat}
end
end XB

/-! QYC: what is shown of any data is a text; isinstance(None, an error); more. -/
namespace XB
open PySem PySem.Spec PyProof.Rows L2
theorem within_lt : ∀ (l : List (Nat × Nat)) (c : Nat), (l.all fun p => decide (p.2 < 1114112)) = true → Unicode.within l c = true → c < 1114112
  | [], c, _, h => by simp [Unicode.within] at h
  | (a, b) :: r, c, hl, h => by
    rw [List.all_cons, Bool.and_eq_true] at hl
    unfold Unicode.within at h
    split at h
    · cases h
    · rw [Bool.or_eq_true] at h
      rcases h with h | h
      · have h1 := of_decide_eq_true hl.1
        have h2 := of_decide_eq_true h
        dsimp only at h1
        omega
      · exact within_lt r c hl.2 h
theorem printable_lt {c : Nat} (h : Unicode.isPrintable c = true) : c < 1114112 := within_lt _ c (by decide +kernel) h
theorem char_lt (c : Char) : c.toNat < 1114112 := by
  have h : c.val.toNat.isValidChar := c.valid
  show c.val.toNat < _
  rcases h with h | h <;> omega
theorem hex_lt {x n c : Nat} (h : x ∈ List.replicate n 48 ++ (Nat.toDigits 16 c).map Char.toNat) : x < 1114112 := by
  rcases List.mem_append.mp h with h | h
  · rw [List.eq_of_mem_replicate h]; decide
  · obtain ⟨d, _, rfl⟩ := List.mem_map.mp h
    exact char_lt d
theorem reprChar_lt {q c x : Nat} (hq : q < 1114112) (h : x ∈ Builtin.Str.reprChar q c) : x < 1114112 := by
  unfold Builtin.Str.reprChar at h
  dsimp only at h
  have two : ∀ {a b : Nat}, a < 1114112 → b < 1114112 → x ∈ [a, b] → x < 1114112 := fun ha hb hx => by
    simp only [List.mem_cons, List.not_mem_nil, or_false] at hx
    rcases hx with rfl | rfl
    · exact ha
    · exact hb
  split at h
  · rename_i hc
    rw [Bool.or_eq_true] at hc
    refine two (by decide) ?_ h
    rcases hc with hc | hc
    · have := eq_of_beq hc; omega
    · have := eq_of_beq hc; omega
  split at h
  · exact two (by decide) (by decide) h
  split at h
  · exact two (by decide) (by decide) h
  split at h
  · exact two (by decide) (by decide) h
  split at h
  · rename_i hp
    rw [List.mem_singleton.mp h]
    exact printable_lt hp
  split at h
  · rcases List.mem_append.mp h with h | h
    · exact two (by decide) (by decide) h
    · exact hex_lt h
  split at h
  · rcases List.mem_append.mp h with h | h
    · exact two (by decide) (by decide) h
    · exact hex_lt h
  · rcases List.mem_append.mp h with h | h
    · exact two (by decide) (by decide) h
    · exact hex_lt h
theorem fold_lt {q : Nat} (hq : q < 1114112) : ∀ (l : List Nat) (acc : Array Nat), (∀ x ∈ acc.toList, x < 1114112) → ∀ x ∈ (l.foldl (fun out c => out ++ (Builtin.Str.reprChar q c).toArray) acc).toList, x < 1114112
  | [], acc, h, x, hx => h x hx
  | c :: r, acc, h, x, hx => by
    rw [List.foldl_cons] at hx
    refine fold_lt hq r _ (fun y hy => ?_) x hx
    rw [Array.toList_append] at hy
    rcases List.mem_append.mp hy with hy | hy
    · exact h y hy
    · exact reprChar_lt hq hy
theorem lo_repr (x : Str) : Lo (PyData.str x).shown := by
  intro c hc
  simp only [PyData.shown] at hc
  unfold reprText at hc
  have hq : reprQuote x < 1114112 := by unfold reprQuote; split <;> decide
  simp only [Array.toList_push] at hc
  rcases List.mem_append.mp hc with hc | hc
  · rw [← Array.foldl_toList] at hc
    exact fold_lt hq _ _ (fun y hy => by
      rw [List.mem_singleton.mp hy]; exact hq) c hc
  · rw [List.mem_singleton.mp hc]; exact hq
mutual
theorem LoD.all : ∀ d : D, LoD d
  | .none => LoD.none
  | .bool _ => LoD.bool
  | .int _ => LoD.int
  | .str x => lo_repr x
  | .list ds => LoD.list (loAllL ds)
  | .tuple ds => LoD.tuple (loAllL ds)
  | .dict kvs => by
    show Lo (PyData.dict kvs).shown
    rw [PyData.shown_dict]
    exact ((lo_ascii (s := "{") (by decide)).app (Lo.join (lo_ascii (s := ", ") (by decide)) (loKv kvs))).app (lo_ascii (s := "}") (by decide))
theorem loAllL : ∀ ds : List D, ∀ d ∈ ds, LoD d
  | [], d, h => absurd h List.not_mem_nil
  | x :: r, d, h => by
    rcases List.mem_cons.mp h with h1 | h1
    · rw [h1]
      exact LoD.all x
    · exact loAllL r d h1
theorem loKv : ∀ kvs : List (D × D), ∀ t ∈ PyData.shownKv kvs, Lo t
  | [], t, h => by simp only [PyData.shownKv] at h; exact absurd h List.not_mem_nil
  | (k, v) :: r, t, h => by
    rw [PyData.shownKv_cons, List.mem_cons] at h
    rcases h with h1 | h1
    · rw [h1]
      exact ((LoD.all k).app (lo_ascii (s := ": ") (by decide))).app (LoD.all v)
    · exact loKv r t h1
end
end XB

/-! QYD: told(lambda: F(..)) where F has effects on what is owned. -/
namespace XB
open PySem PySem.Spec PyProof.Rows L2
open LamX (CodeO TabB LamS lamCx lamEnv)
section
variable {X : Cx} {pins : List (Addr × Obj)} {σ : L2.St} {H : Hp} {s : Shared}
end
section
variable {X : Cx} {ρ : Ro} {M : Mem} {x a : Str} {st : Stmt} {N : List Str} {T : D → D → Prop} {k j : Nat} {r d : D} {Ψ : Mem → Prop} {c P : Addr} {params : Arguments} {body : Expr} {scope : Scope} {p lpos pos : Pos}
end
section
variable {X : Cx} {Hb : Hp} {Ab : List Addr} {E : En} {ρ : Ro} {M : Mem} {e : Expr} {pos : Pos} {d : D} {Ψ : Mem → Prop}
end
section
variable {X : Cx} {ρ : Ro} {M : Mem} {x a : Str} {st : Stmt} {N : List Str} {T : D → D → Prop} {k j : Nat} {r d : D} {Ψ : Mem → Prop} {c P : Addr} {params : Arguments} {scope : Scope} {p p1 p2 lpos pos : Pos} {e : Expr} {es : List Expr} {F : Str} {sF : Stmt} {pF : List Str} {ws : List W} {C : Ct}
end
section
variable {X : Cx} {ρ : Ro} {M : Mem} {a b : Expr} {pos : Pos}
end
end XB

/-! QYE: max(xs, default=d). -/
namespace XB
open PySem PySem.Spec PyProof.Rows L2
section
variable {X : Cx} {ρ : Ro} {M : Mem} {e e2 : Expr} {p pos kpos : Pos} {k : Nat}
end
end XB

/-! LA: own classes with properties, constants, keyword-only parameters: what stands in the module. -/
namespace XB
open PySem PySem.Spec PyProof.Rows L2
open PySem.W (Frag)

/-! ### functions found by a path of one's own -/
def fnWA (K : Frag) (a : Addr) : He.FnW := match K.lookup a with
  | some ⟨_, _, .func fd, _⟩ => some (fd.name, fd.qualname, fd.params, fd.body, fd.scope, fd.globals, fd.closure, fd.builtins)
  | _ => none
structure DefA where
  at_ : Frag → Addr
  name : Str
  qual : Str
  params : Arguments
  body : List Stmt
  scope : Scope
def DefA.val (d : DefA) : He.FnW := some (d.name, d.qual, d.params, .stmts d.body, d.scope, mainGlobals, [], builtinsNs)
def DefA.ok (K : Frag) (d : DefA) : Bool := PySem.W.keepIn K (.ref (d.at_ K)) && (match K.lookup (d.at_ K) with
  | some ⟨_, _, .func fd, _⟩ => PySem.W.codeIn K fd.code d.qual && (He.dflB K fd.defaults [] && He.kwdB K fd.kwdefaults [])
  | _ => false)
theorem DefA.funD {K : Frag} {d : DefA} (e : fnWA K (d.at_ K) = d.val) (c : d.ok K = true) : ∃ fd, FunD K d.name d.qual d.params d.body d.scope [] [] (d.at_ K) fd := by
  obtain ⟨kp, c2⟩ := He.ba c
  unfold fnWA at e
  cases q : K.lookup (d.at_ K) with
  | none =>
    rw [q] at c2
    cases c2
  | some o =>
    obtain ⟨oc, od, dt, osl⟩ := o
    rw [q] at c2 e
    cases dt with
    | func fd =>
      obtain ⟨n1, n2, n3, n4, n5, n6, n7, n8, n9, n10, n11, n12, n13, n14, n15⟩ := fd
      have e2 : (some (n1, n2, n3, n4, n5, n6, n7, n15) : He.FnW) = some (d.name, d.qual, d.params, .stmts d.body, d.scope, mainGlobals, [], builtinsNs) := e
      simp only [Option.some.injEq, Prod.mk.injEq] at e2
      obtain ⟨h1, h2, h3, h4, h5, h6, h7, h8⟩ := e2
      subst h1 h2 h3 h4 h5 h6 h7 h8
      have c3 : (PySem.W.codeIn K n13 d.qual && (He.dflB K n8 [] && He.kwdB K n9 [])) = true := c2
      obtain ⟨k1, k2⟩ := He.ba c3
      obtain ⟨k3, k4⟩ := He.ba k2
      exact ⟨_, ⟨oc, od, n8, n9, n10, n11, n12, n13, n14, osl, rfl, q, k1, He.dflB_ok k3, He.kwdB_ok k4⟩, kp⟩
    | _ => cases c2

/-- the property f of the class at C has the def of the text as its getter -/
def HereP (K : Frag) (C : Addr) (f qual : Str) (st : Stmt) : Prop := ∃ p g fd, FunD K f qual (defArgs st) (defBody st) (defScope st) [] [] g fd ∧ PropOf K C f p g

theorem kit_ty {K : Frag} {C2 : Addr} {T : String} (h : PySem.W.kitOne K (.type "NoneType") (.ref C2) = some false) (hT : T = "NoneType" ∨ T = "bool" ∨ T = "int" ∨ T = "str" ∨ T = "list" ∨ T = "tuple" ∨ T = "dict") : PySem.W.kitOne K (.type T) (.ref C2) = some false := by
  unfold PySem.W.kitOne at h ⊢
  split at h
  · cases h
  have hne : ¬ ((Value.type T == Value.ref C2) = true) := fun z => by
    have := eq_of_beq z
    cases this
  rw [if_neg hne]
  unfold PySem.W.kitCls at h ⊢
  dsimp only at h ⊢
  split at h
  · rename_i z
    rw [if_pos z]
    show (fastBuiltinMro T).map (·.contains (.ref C2)) = some false
    rcases hT with rfl | rfl | rfl | rfl | rfl | rfl | rfl
    · rw [show fastBuiltinMro "NoneType" = some [.type "NoneType", .type "object"] by decide +kernel]; rfl
    · rw [show fastBuiltinMro "bool" = some [.type "bool", .type "int", .type "object"] by decide +kernel]; rfl
    · rw [show fastBuiltinMro "int" = some [.type "int", .type "object"] by decide +kernel]; rfl
    · rw [show fastBuiltinMro "str" = some [.type "str", .type "object"] by decide +kernel]; rfl
    · rw [show fastBuiltinMro "list" = some [.type "list", .type "object"] by decide +kernel]; rfl
    · rw [show fastBuiltinMro "tuple" = some [.type "tuple", .type "object"] by decide +kernel]; rfl
    · rw [show fastBuiltinMro "dict" = some [.type "dict", .type "object"] by decide +kernel]; rfl
  · cases h
/-! ### the Hook -/
abbrev AlY : Type := AlZ × List He.FnW
def obsY (n : Nat) (fa : List He.Fa) (fn : List He.DefD) (gn : List DefA) (tf : List He.Defn) (ex : Frag → Bool) (g : Addr → Option Obj) : AlY := (obsK fa fn tf (fun K => ex K && gn.all fun d => d.ok K) g (He.frT g (asZ g n)), gn.map fun d => fnWA (He.frT g (asZ g n)) (d.at_ (He.frT g (asZ g n))))
def valY (fn : List He.DefD) (gn : List DefA) (bl : Nat) (qual : Str) (params : Arguments) (w : World) : AlY := (valZ fn bl qual params w, gn.map DefA.val)
structure SaysY (fa : List He.Fa) (fn : List He.DefD) (gn : List DefA) (tf : List He.Defn) (ex : Frag → Bool) (bl : Nat) (qual : Str) (params : Arguments) (w : World) (h : Heap) (K : Frag) : Prop where
  z : SaysZ fa fn tf ex bl qual params w h K
  g : ∀ d ∈ gn, ∃ fd, FunD K d.name d.qual d.params d.body d.scope [] [] (d.at_ K) fd
theorem saysY_of {n : Nat} {fa : List He.Fa} {fn : List He.DefD} {gn : List DefA} {tf : List He.Defn} {ex : Frag → Bool} {bl : Nat} {qual : Str} {params : Arguments} {w : World} {h : Heap} (e : obsY n fa fn gn tf ex h.get? = valY fn gn bl qual params w) : SaysY fa fn gn tf ex bl qual params w h (He.frT h.get? (asZ h.get? n)) := by
  have e1 : obsZ n fa fn tf (fun K => ex K && gn.all fun d => d.ok K) h.get? = valZ fn bl qual params w := congrArg (fun z : AlY => z.1) e
  have e2 : (gn.map fun d => fnWA (He.frT h.get? (asZ h.get? n)) (d.at_ (He.frT h.get? (asZ h.get? n)))) = gn.map DefA.val := congrArg (fun z : AlY => z.2) e
  have c := saysZ_of e1
  obtain ⟨m1, m2⟩ := He.ba c.more
  refine ⟨⟨c.d, m1, c.tab, c.base⟩, fun d hd => ?_⟩
  obtain ⟨i, hi, ei⟩ := List.mem_iff_getElem.mp hd
  have h1 : gn[i]? = some d := by rw [List.getElem?_eq_getElem hi, ei]
  have e3 : (gn.map fun d => fnWA (He.frT h.get? (asZ h.get? n)) (d.at_ (He.frT h.get? (asZ h.get? n))))[i]? = (gn.map DefA.val)[i]? := by rw [e2]
  rw [List.getElem?_map, List.getElem?_map, h1] at e3
  exact DefA.funD (Option.some.inj e3) (List.all_eq_true.mp m2 d hd)
def hookY (n : Nat) (fa : List He.Fa) (fn : List He.DefD) (gn : List DefA) (tf : List He.Defn) (ex : Frag → Bool) (bl : Nat) (qual : Str) (params : Arguments) : PySem.W.Hook where
  α := AlY
  obs := fun s => obsY n fa fn gn tf ex s.heap.get?
  val := fun w => valY fn gn bl qual params w
  says := fun w h => ∃ K : Frag, K.In h ∧ SaysY fa fn gn tf ex bl qual params w h K
  of := fun _ _ e => ⟨_, He.frT_in, saysY_of e⟩
  keeps := fun _ _ _ ⟨K, hK, c⟩ k => ⟨K, PySem.W.Frag.In.keeps hK k, ⟨⟨c.z.d, c.z.more, fun p hp => ⟨(c.z.tab p hp).1, (c.z.tab p hp).2.1, k _ _ (c.z.tab p hp).2.2⟩, c.z.base⟩, c.g⟩⟩
theorem obsY_eq {n : Nat} {fa : List He.Fa} {fn : List He.DefD} {gn : List DefA} {tf : List He.Defn} {ex : Frag → Bool} {bl : Nat} {qual : Str} {params : Arguments} {g : Addr → Option Obj} {s : Shared} (h : ∀ a, g a = s.heap.get? a) : obsY n fa fn gn tf ex g = (hookY n fa fn gn tf ex bl qual params).obs s := by
  obtain rfl : g = s.heap.get? := funext h
  rfl
end XB

/-! LB: instances lent to pure defs, methods, properties, ==. -/
namespace XB
open PySem PySem.Spec PyProof.Rows L2

/-! ### lending -/
def Ow.mut : Ow → Bool
  | .lst _ => true
  | .ins _ _ => true
  | _ => false
def NoTup (H : Hp) (b : Addr) : Prop := ∀ xs, ¬ Rd H b (.tup xs)
theorem NoTup.same {H H' : Hp} {b : Addr} {K : PySem.W.Frag} {A : List Addr} {o : Ow} (h : OwOk K H A b o) (hm : o.mut = true) (s : Same H H') : NoTup H' b := fun xs r => by
  cases o with
  | lst ds =>
    obtain ⟨ys, h1, _⟩ := h
    have h1 := s _ _ h1
    rcases r with r | ⟨o, r⟩ <;> (rw [h1] at r; cases r)
  | ins C fws =>
    obtain ⟨dx, fs, h1, _⟩ := h
    have h1 := s _ _ h1
    rcases r with r | ⟨o, r⟩ <;> (rw [h1] at r; cases r)
  | _ => cases hm
section
variable {K : PySem.W.Frag} {H : Hp} {A A0 : List Addr}
end
inductive FdL (M : Mem) (L : List Addr) : List (Str × W) → List (Str × D) → Prop
  | nil : FdL M L [] []
  | dat {f : Str} {d : D} {fws : List (Str × W)} {fds : List (Str × D)} : FdL M L fws fds → FdL M L ((f, .dat d) :: fws) ((f, d) :: fds)
  | lst {f : Str} {p : Addr} {ds : List D} {fws : List (Str × W)} {fds : List (Str × D)} : (p, Ow.lst ds) ∈ M → p ∈ L → FdL M L fws fds → FdL M L ((f, .raw (.ref p)) :: fws) ((f, .list ds) :: fds)
inductive LdW (M : Mem) (L : List Addr) : W → W → Prop
  | keep {w : W} : LdW M L w w
  | lst {p : Addr} {ds : List D} : (p, Ow.lst ds) ∈ M → p ∈ L → LdW M L (.raw (.ref p)) (.dat (.list ds))
  | obj {a C : Addr} {fws : List (Str × W)} {fds : List (Str × D)} : (a, Ow.ins C fws) ∈ M → a ∈ L → FdL M L fws fds → LdW M L (.raw (.ref a)) (.obj C fds)
inductive Lds (M : Mem) (L : List Addr) : List W → List W → Prop
  | nil : Lds M L [] []
  | cons {w w' : W} {ws ws' : List W} : LdW M L w w' → Lds M L ws ws' → Lds M L (w :: ws) (w' :: ws')
theorem Lds.refl {M : Mem} {L : List Addr} : ∀ ws : List W, Lds M L ws ws
  | [] => .nil
  | _ :: ws => .cons .keep (Lds.refl ws)
section
variable {K : PySem.W.Frag} {H : Hp} {A' L : List Addr} {M : Mem}
theorem FdL.all (m : MemOk K H M) (hA : ∀ b ∈ A', b ∈ ads M ∧ b ∉ L) : ∀ {fs : List (Str × V)} {fws : List (Str × W)} {fds : List (Str × D)}, FsAll K H (ads M) fs fws → FdL M L fws fds → FdAll K H A' fs fds := by
  intro fs fws fds h
  induction h generalizing fds with
  | nil => intro t; cases t; exact .nil
  | @cons f v w fs fws r rs ih =>
    intro t
    cases t with
    | dat t => exact .cons (Dd.mv (Mv.sub fun b hb => (hA b hb).1) r) (ih t)
    | @lst _ p ds _ _ hp hl t =>
      have e1 : v = .ref p := r
      subst e1
      obtain ⟨xs, h1, h2⟩ := m.ok _ hp
      exact .cons (.lst (.inl h1) (fun z => (hA p z).2 hl) (h2.mv (Mv.sub fun b hb => (hA b hb).1))) (ih t)
theorem LdW.sw (m : MemOk K H M) (hA : ∀ b ∈ A', b ∈ ads M ∧ b ∉ L) {v : V} {w w' : W} (t : LdW M L w w') (r : SW K H (ads M) v w) : SW K H A' v w' := by
  cases t with
  | keep => exact r.mv (Mv.sub fun b hb => (hA b hb).1)
  | lst hp hl =>
    rename_i p ds
    have e1 : v = .ref p := r
    subst e1
    obtain ⟨xs, h1, h2⟩ := m.ok _ hp
    exact .lst (.inl h1) (fun z => (hA p z).2 hl) (h2.mv (Mv.sub fun b hb => (hA b hb).1))
  | obj hp hl t =>
    rename_i a C fws fds
    have e1 : v = .ref a := r
    obtain ⟨dx, fs, h1, h2⟩ := m.ok _ hp
    exact ⟨a, dx, fs, e1, h1, fun z => (hA a z).2 hl, t.all m hA h2⟩
end
/-- what is lent can be lent -/
def LnOk (M : Mem) (L : List Addr) : Prop := ∀ b ∈ L, ∃ o, (b, o) ∈ M ∧ o.mut = true
theorem LnOk.nil {M : Mem} : LnOk M [] := fun b hb => absurd hb List.not_mem_nil
theorem LnOk.cons {M : Mem} {L : List Addr} {b : Addr} {o : Ow} (h : (b, o) ∈ M) (hm : o.mut = true) (l : LnOk M L) : LnOk M (b :: L) := fun c hc => by
  rcases List.mem_cons.mp hc with e | hc
  · subst e
    exact ⟨o, h, hm⟩
  · exact l c hc
/-! ### calls -/
section
variable {X : Cx} {ρ : Ro} {M : Mem} {e o : Expr} {es : List Expr} {pos p apos : Pos} {ws ws' : List W} {w w0 : W} {k : Nat} {x m f : Str} {ps : List Str} {sd : Stmt} {C : Addr}
/-! ### who is asked -/
/-- w0 is an instance of the class at C, without an own m -/
def Rcv (K : PySem.W.Frag) (M : Mem) (C : Addr) (m : Str) (w0 : W) : Prop := ∀ H v, MemOk K H M → SW K H (ads M) v w0 → ∃ a dx fs, v = .ref a ∧ H a = some (.ins C dx fs) ∧ fs.lookup m = none
theorem FdAll.no {K : PySem.W.Frag} {H : Hp} {A : List Addr} {f : Str} : ∀ {fs : List (Str × V)} {fds : List (Str × D)}, FdAll K H A fs fds → fds.lookup f = none → fs.lookup f = none
  | _, _, .nil, h => rfl
  | _, _, .cons (f := g) (v := x) (d := y) (fs := fs) (fds := fds) a r, h => by
    rw [List.lookup_cons] at h ⊢
    by_cases e : (f == g) = true
    · rw [e] at h; cases h
    · rw [Bool.eq_false_iff.mpr e] at h ⊢
      exact FdAll.no r h
theorem FdAll.look {K : PySem.W.Frag} {H : Hp} {A : List Addr} {f : Str} {d : D} : ∀ {fs : List (Str × V)} {fds : List (Str × D)}, FdAll K H A fs fds → fds.lookup f = some d → ∃ v, fs.lookup f = some v ∧ Dd K H A v d
  | _, _, .nil, h => by cases h
  | _, _, .cons (f := g) (v := x) (d := y) (fs := fs) (fds := fds) a r, h => by
    rw [List.lookup_cons] at h ⊢
    by_cases e : (f == g) = true
    · rw [e] at h ⊢
      exact ⟨x, rfl, by cases h; exact a⟩
    · rw [Bool.eq_false_iff.mpr e] at h ⊢
      exact FdAll.look r h
theorem Rcv.obj {K : PySem.W.Frag} {C : Addr} {m : Str} {fds : List (Str × D)} (h : fds.lookup m = none) : Rcv K M C m (.obj C fds) := fun H v _ r => by
  obtain ⟨a, dx, fs, e, h1, n, r⟩ := r
  exact ⟨a, dx, fs, e, h1, r.no h⟩
theorem Rcv.own {K : PySem.W.Frag} {C a : Addr} {m : Str} {fws : List (Str × W)} (hm : (a, Ow.ins C fws) ∈ M) (h : fws.lookup m = none) : Rcv K M C m (.raw (.ref a)) := fun H v mo r => by
  obtain ⟨dx, fs, h1, h2⟩ := mo.ok _ hm
  exact ⟨a, dx, fs, r, h1, h2.no h⟩

/-! ### methods that read alone -/
abbrev MetP (P : Program) (w : World) (K : PySem.W.Frag) (mg : Str → Option Value) (base : Heap) (k : Nat) (C : Addr) (m : Str) (ps : List Str) (T : List W → W → Prop) : Prop := Met P w K mg base k C m ps (spP K T)
theorem Met.up {P : Program} {w : World} {K : PySem.W.Frag} {mg : Str → Option Value} {base : Heap} {j k : Nat} {C : Addr} {m : Str} {ps : List Str} {sp : L2.Sp} (F : Met P w K mg base j C m ps sp) (h : j ≤ k) : Met P w K mg base k C m ps sp := by
  obtain ⟨f, fd, G, r⟩ := F.ex
  exact ⟨f, fd, G.up h, r⟩
/-! ### properties -/
structure PropP (P : Program) (w : World) (K : PySem.W.Frag) (mg : Str → Option Value) (base : Heap) (k : Nat) (C : Addr) (f : Str) (T : List W → W → Prop) : Prop where
  ex : ∃ (p g : Addr) (fd : FuncData), FnG P w K mg base CX0 k g fd ["self"] (spP K T) ∧ PropOf K C f p g ∧ Binds K fd ["self"] []
theorem PropP.up {P : Program} {w : World} {K : PySem.W.Frag} {mg : Str → Option Value} {base : Heap} {j k : Nat} {C : Addr} {f : Str} {T : List W → W → Prop} (F : PropP P w K mg base j C f T) (h : j ≤ k) : PropP P w K mg base k C f T := by
  obtain ⟨p, g, fd, G, r⟩ := F.ex
  exact ⟨p, g, fd, G.up h, r⟩
end
end XB

/-! LC: making with a keyword-only parameter; defs that return a new instance; attributes with effects. -/
namespace XB
open PySem PySem.Spec PyProof.Rows L2

/-! ### making, a keyword-only parameter with the default () -/
structure MakerK (P : Program) (w : World) (K : PySem.W.Frag) (mg : Str → Option Value) (base : Heap) (k : Nat) (x : Str) (C : Addr) (ps : List Str) (kw : Str) (T : CtI) : Prop where
  ex : ∃ (f : Addr) (fd : FuncData) (a0 : Addr), FnG P w K mg base CX0 k f fd ps (spI K T) ∧ Mk K C f ∧ SqT K (fun _ => none) a0 [] ∧ (∃ mv : List Value, KBn K fd ps 2 [] (fun us ws => us ++ mv) (fun vs zs => vs ++ [.ref a0])) ∧ KBn K fd ps 2 [kw] (fun us ws => us ++ ws) (fun vs zs => vs ++ zs)
  gC : mg x = some (.ref C)
theorem MakerK.up {P : Program} {w : World} {K : PySem.W.Frag} {mg : Str → Option Value} {base : Heap} {j k : Nat} {x : Str} {C : Addr} {ps : List Str} {kw : Str} {T : CtI} (F : MakerK P w K mg base j x C ps kw T) (h : j ≤ k) : MakerK P w K mg base k x C ps kw T := by
  obtain ⟨⟨f, fd, a0, G, r⟩, g⟩ := F
  exact ⟨⟨f, fd, a0, G.up h, r⟩, g⟩
/-- the class's __init__ is the def of the text -/
def HereIK (K : PySem.W.Frag) (mg : Str → Option Value) (x : Str) (C : Addr) (qual : Str) (st : Stmt) (kw : Str) : Prop := mg x = some (.ref C) ∧ ∃ f fd a0, FunD K "__init__" qual (defArgs st) (defBody st) (defScope st) [] [(kw, .ref a0)] f fd ∧ Mk K C f ∧ SqT K (fun _ => none) a0 []
section
variable {P : Program} {w : World} {K : PySem.W.Frag} {mg : Str → Option Value} {base : Heap} {k : Nat} {C : Addr} {ps N : List Str} {x qual kw : Str} {st : Stmt}
theorem MakerK.of {T : CtI} (F : HereIK K mg x C qual st kw) (S : FnScope N ps (defScope st)) (len : ∀ ws M Φ, T ws M Φ → ws.length = ps.length)
    (hb0 : ∀ (D : Addr) (doc pm : Value) (an : Option Addr) (cdv ct a b c : Value), KwChain D [(kw, c)] (bindArgs (PySem.W.fnOf "__init__" qual (defArgs st) (defBody st) (defScope st) .none (.ref D) doc pm an cdv ct) ⟨[a, b], []⟩) (ps.zip [a, b, c]))
    (hb1 : ∀ (D : Addr) (doc pm : Value) (an : Option Addr) (cdv ct a b c : Value), bindArgs (PySem.W.fnOf "__init__" qual (defArgs st) (defBody st) (defScope st) .none (.ref D) doc pm an cdv ct) ⟨[a, b], [(kw, c)]⟩ = pure (ps.zip [a, b, c]))
    (body : ∀ (f : Addr) (cdv : Value) (A : Around) (outer : List Env) (s : Shared) (H : Hp) (E : XK) (ws : List W) (Φ : Mem → Mem → Prop) (M : Mem), Room k (cx0 P w K mg base N qual (defScope st) f cdv A outer s H E).A → Gd (cx0 P w K mg base N qual (defScope st) f cdv A outer s H E).A → T ws M Φ →
      Sv (cx0 P w K mg base N qual (defScope st) f cdv A outer s H E) H (ads M) (defBody st) { nx := fun _ M1 => ∃ Ml M2, M1 = Ml ++ M2 ∧ ads M2 = ads M ∧ Φ Ml M2, rt := fun _ _ => False } (startW N ws) M) :
    MakerK P w K mg base (k + 1) x C ps kw T := by
  obtain ⟨g, f, fd, a0, FD, hm, h0⟩ := F
  refine ⟨⟨f, fd, a0, fnI_of FD S len (body f), hm, h0, ?_, ?_⟩, g⟩
  · exact FD.kbinds0 2 [] [(kw, .ref a0)] (fun us mv ws => us ++ mv) (List.cons_ne_nil _ _) (fun q hq => hq) (fun r1 r2 r3 => r1.append r2) (fun D doc pm an cdv ct us mv ws l1 l2 l3 => match us, mv, ws, l1, l2, l3 with
      | [a, b], [c], [], _, _, _ => hb0 D doc pm an cdv ct a b c)
  · obtain ⟨mv, h⟩ := FD.kbinds0 2 [kw] [] (fun us mv ws => us ++ ws) (List.cons_ne_nil _ _) (fun q hq => absurd hq List.not_mem_nil) (fun r1 r2 r3 => r1.append r3) (fun D doc pm an cdv ct us mv ws l1 l2 l3 => match us, mv, ws, l1, l2, l3 with
      | [a, b], [], [c], _, _, _ => hb1 D doc pm an cdv ct a b c)
    exact h
end
section
variable {X : Cx} {k : Nat} {f C : Addr} {fd : FuncData} {ps ks : List Str} {sp : L2.Sp} {E : XK} {CX : CXT} {x kw : Str} {p pos : Pos} {e o : Expr} {es : List Expr} {kws : List Keyword} {ρ : Ro} {M : Mem} {n : Nat} {g : List Value → List Value → List Value} {gV : List V → List V → List V}
end

/-! ### defs that return a new instance -/
abbrev CtN := List W → Mem → (Addr → Mem → Mem → Prop) → Prop
def spNI (K : PySem.W.Frag) (T : CtN) : L2.Sp := fun vs H Q _ => ∃ M ws Φ, MemOk K H M ∧ SWs K H (ads M) vs ws ∧ T ws M Φ ∧
  ∀ a ex M' H', Φ a ex M' → ads M' = ads M → (∀ p ∈ ads ex, H p = none) → Ext (ads M) H H' → MemOk K H' (ex ++ M') → Q (.ref a) H'
abbrev DefI (P : Program) (w : World) (K : PySem.W.Frag) (mg : Str → Option Value) (base : Heap) (k : Nat) (x : Str) (st : Stmt) (ps : List Str) (T : CtN) : Prop := Def P w K mg base k x st ps (spNI K T)
section
variable {P : Program} {w : World} {K : PySem.W.Frag} {mg : Str → Option Value} {base : Heap} {k : Nat} {ps N : List Str} {x qual : Str} {st : Stmt}
theorem fnNI_of {T : CtN} {params : Arguments} {body : List Stmt} {scope : Scope} {dvs : List V} {kws : List (Str × V)} {f : Addr} {fd : FuncData} (F : FunD K x qual params body scope dvs kws f fd) (S : FnScope N ps scope) (len : ∀ ws M Φ, T ws M Φ → ws.length = ps.length)
    (hb : ∀ (cdv : Value) (A : Around) (outer : List Env) (s : Shared) (H : Hp) (E : XK) (ws : List W) (Φ : Addr → Mem → Mem → Prop) (M : Mem), Room k (cx0 P w K mg base N qual scope f cdv A outer s H E).A → Gd (cx0 P w K mg base N qual scope f cdv A outer s H E).A → T ws M Φ →
      Sv (cx0 P w K mg base N qual scope f cdv A outer s H E) H (ads M) body { nx := fun _ _ => False, rt := fun r M1 => ∃ a Ml M2, r = .raw (.ref a) ∧ M1 = Ml ++ M2 ∧ ads M2 = ads M ∧ Φ a Ml M2 } (startW N ws) M) :
    FnG P w K mg base CX0 (k + 1) f fd ps (spNI K T) := by
  refine fnG_of F S (fun vs H Q E h => ?_) fun cdv A outer s H vs Q E hr hg h => ?_
  · obtain ⟨M, ws, r, m, sw, hC, _⟩ := h
    rw [sw.length]
    exact len ws M r hC
  · obtain ⟨M, ws, Φ, m, sw, hC, q⟩ := h
    refine ⟨_, PSs.nox p_rss, hb cdv A outer s H E ws Φ M hr hg hC (L2.start N vs) H _ (start_ok m sw) (Bs.refl H M) ⟨fun _ _ _ _ z => z.elim, ?_, fun _ _ _ _ z => z.elim, fun _ _ _ _ z => z.elim⟩⟩
    rintro r M1 v H1 ⟨a, Ml, M2, rfl, rfl, ea, h2⟩ m1 r1 bs1
    have e1 : v = .ref a := r1
    subst e1
    refine q a Ml M2 H1 h2 ea (fun p hp => ?_) bs1.ext m1
    have nd := m1.nd
    rw [ads_app] at nd
    rcases bs1.own p (by rw [ads_app]; exact List.mem_append_left _ hp) with h | h
    · rw [← ea] at h
      exact absurd rfl ((List.nodup_append.mp nd).2.2 p hp p h)
    · exact h
theorem DefI.of {T : CtN} (F : Here K mg x st) (S : FnScope N ps (defScope st)) (hb : BindF x st ps) (len : ∀ ws M Φ, T ws M Φ → ws.length = ps.length)
    (body : ∀ (f : Addr) (cdv : Value) (A : Around) (outer : List Env) (s : Shared) (H : Hp) (E : XK) (ws : List W) (Φ : Addr → Mem → Mem → Prop) (M : Mem), Room k (cx0 P w K mg base N x (defScope st) f cdv A outer s H E).A → Gd (cx0 P w K mg base N x (defScope st) f cdv A outer s H E).A → T ws M Φ →
      Sv (cx0 P w K mg base N x (defScope st) f cdv A outer s H E) H (ads M) (defBody st) { nx := fun _ _ => False, rt := fun r M1 => ∃ a Ml M2, r = .raw (.ref a) ∧ M1 = Ml ++ M2 ∧ ads M2 = ads M ∧ Φ a Ml M2 } (startW N ws) M) :
    DefI P w K mg base (k + 1) x st ps T := Def.of F hb fun f fd FD => fnNI_of FD S len (body f)
end
section
variable {X : Cx} {k : Nat} {C : Addr} {ps : List Str} {sd : Stmt} {x m : Str} {p pos apos : Pos} {e o : Expr} {es : List Expr} {ρ : Ro} {M : Mem}
/-- f(e, ..): a new instance -/
theorem EvI.call {T : CtN} {Φ : Addr → Mem → Mem → Prop} (F : DefI X.prog X.w X.K X.mg X.base k x sd ps T) (hr : Room k X.A) (hg : Gd X.A) (ha : Ea X (e :: es) ρ M fun ws M1 => T ws M1 Φ) (hgl : Gl X x := by rfl) (hdb : (x == ("__debug__" : Str)) = false := by decide)
    (he : starEach (e :: es) X.env = (false, eval e X.env) :: starEach es X.env := by rfl) (hpl : (backTo pos (starEach es X.env)).any (·.1) = false := by rfl) : EvI X (.Call (.Name x p) (e :: es) [] pos) ρ M Φ := fun σ H Q ok q => by
  obtain ⟨f, fd, G, hm, hk, hb, _⟩ := F.ex
  refine of_pe (peG_call G hr hg hgl hm hk hb .nil pass0 p_ra hdb he hpl) (ha σ H _ ok fun ws M1 vs H1 hC ea x1 m1 r1 => ?_)
  rw [List.append_nil]
  refine ⟨M1, ws, Φ, m1, by rw [ea]; exact r1, hC, fun a ex M2 H2 hΦ ea2 nx x2 m2 => q a ex M2 H2 hΦ (ea2.trans ea) (fun p hp => ?_) (x1.trans (by rw [← ea]; exact x2)) m2⟩
  cases h : H p with
  | none => rfl
  | some u =>
    by_cases hA : p ∈ ads M
    · rw [← ea] at hA
      exact absurd (nx p hp) (m1.tracked hA)
    · have := x1 p u h hA
      rw [nx p hp] at this
      cases this
theorem EvI.mono {Φ Ψ : Addr → Mem → Mem → Prop} (h : EvI X e ρ M Φ) (hm : ∀ a ex M', Φ a ex M' → Ψ a ex M') : EvI X e ρ M Ψ := fun σ H Q ok q => h σ H Q ok fun a ex M' H' h1 => q a ex M' H' (hm a ex M' h1)
variable {Hb : Hp} {Ab : List Addr} {E : En} {f : Str} {fws : List (Str × W)} {a : Addr} {pos' : Pos}
end
end XB

/-! LD: named groups, sorted by their names. -/
namespace XB
open PySem PySem.Spec PyProof.Rows L2
/-! ### == of data of ints, texts, tuples -/
inductive Cl : D → Prop
  | int (i : Int) : Cl (.int i)
  | str (x : Str) : Cl (.str x)
  | tup {ds : List D} : (∀ d ∈ ds, Cl d) → Cl (.tuple ds)
theorem Cl.dns (l : List Nat) : Cl (.tuple (dns l)) := .tup fun d hd => by
  obtain ⟨i, _, rfl⟩ := List.mem_map.mp hd
  exact .int _

/-! ### pairs -/
abbrev Pr := Str × List Nat
theorem Cl.fl : ∀ {d : D}, Cl d → Fl d
  | _, .int i => .int i
  | _, .str x => .str x
  | _, .tup h => .tup fun d hd => Cl.fl (h d hd)
/-! ### the order of names -/
def nlt (x y : Str) : Prop := x.cps.toList < y.cps.toList
instance (x y : Str) : Decidable (nlt x y) := by unfold nlt; infer_instance
theorem nlt_trans {x y z : Str} (h : nlt x y) (h2 : nlt y z) : nlt x z := List.lt_trans h h2
theorem nlt_irrefl (x : Str) : ¬ nlt x x := List.lt_irrefl _
def ascP (ps : List Pr) : Prop := ps.Pairwise fun p q => nlt p.1 q.1
theorem ascP.uniq {a b : List Pr} (ha : ascP a) (hb : ascP b) (h : ∀ p, p ∈ a ↔ p ∈ b) : a = b := by
  have na : a.Nodup := List.Pairwise.imp (S := fun p q : Pr => p ≠ q) (fun {p q} h e => nlt_irrefl p.1 (by rw [← e] at h; exact h)) ha
  have nb : b.Nodup := List.Pairwise.imp (S := fun p q : Pr => p ≠ q) (fun {p q} h e => nlt_irrefl p.1 (by rw [← e] at h; exact h)) hb
  have hp : a.Perm b := (List.perm_ext_iff_of_nodup na nb).mpr h
  exact List.Perm.eq_of_pairwise (le := fun p q : Pr => nlt p.1 q.1) (fun p q _ _ h1 h2 => absurd (nlt_trans h1 h2) (nlt_irrefl _)) ha hb hp
theorem ascP.inj {a : List Pr} (ha : ascP a) {p q : Pr} (hp : p ∈ a) (hq : q ∈ a) (h : p.1 = q.1) : p = q := by
  induction ha with
  | nil => cases hp
  | @cons x l hx _ ih =>
    rcases List.mem_cons.mp hp with rfl | hp'
    · rcases List.mem_cons.mp hq with rfl | hq'
      · rfl
      · have := hx q hq'
        rw [h] at this
        exact absurd this (nlt_irrefl _)
    · rcases List.mem_cons.mp hq with rfl | hq'
      · have := hx p hp'
        rw [h] at this
        exact absurd this (nlt_irrefl _)
      · exact ih hp' hq'
end XB

/-! LE: methods and properties that read alone, by their bodies. -/
namespace XB
open PySem PySem.Spec PyProof.Rows L2
section
variable {P : Program} {w : World} {K : PySem.W.Frag} {mg : Str → Option Value} {base : Heap} {k : Nat} {C : Addr} {ps N : List Str} {m qual : Str} {st : Stmt}
theorem MetP.of {T : List W → W → Prop} (F : HereM K C m qual st) (S : FnScope N ps (defScope st)) (hb : BindM m qual st ps) (len : ∀ ws r, T ws r → ws.length = ps.length)
    (body : ∀ (f : Addr) (cdv : Value) (A : Around) (outer : List Env) (s : Shared) (H : Hp) (E : XK) (ws : List W) (r : W) (M : Mem), Room k (cx0 P w K mg base N qual (defScope st) f cdv A outer s H E).A → Gd (cx0 P w K mg base N qual (defScope st) f cdv A outer s H E).A → T ws r →
      Sv (cx0 P w K mg base N qual (defScope st) f cdv A outer s H E) H (ads M) (defBody st) { nx := fun _ M1 => r = .dat .none ∧ ∃ Ml, M1 = Ml ++ M, rt := fun r1 M1 => r1 = r ∧ ∃ Ml, M1 = Ml ++ M } (startW N ws) M) :
    MetP P w K mg base (k + 1) C m ps T := by
  obtain ⟨f, fd, FD, hm⟩ := F
  exact ⟨f, fd, fnP_of FD S len (body f), hm, FD.bindsN hb⟩
theorem PropP.of {T : List W → W → Prop} (F : HereP K C m qual st) (S : FnScope N ["self"] (defScope st)) (hb : BindM m qual st ["self"]) (len : ∀ ws r, T ws r → ws.length = 1)
    (body : ∀ (f : Addr) (cdv : Value) (A : Around) (outer : List Env) (s : Shared) (H : Hp) (E : XK) (ws : List W) (r : W) (M : Mem), Room k (cx0 P w K mg base N qual (defScope st) f cdv A outer s H E).A → Gd (cx0 P w K mg base N qual (defScope st) f cdv A outer s H E).A → T ws r →
      Sv (cx0 P w K mg base N qual (defScope st) f cdv A outer s H E) H (ads M) (defBody st) { nx := fun _ M1 => r = .dat .none ∧ ∃ Ml, M1 = Ml ++ M, rt := fun r1 M1 => r1 = r ∧ ∃ Ml, M1 = Ml ++ M } (startW N ws) M) :
    PropP P w K mg base (k + 1) C m T := by
  obtain ⟨p, g, fd, FD, hp⟩ := F
  exact ⟨p, g, fd, fnP_of FD S len (body g), hp, FD.bindsN hb⟩
end
end XB

/-! LF: sorted(d.items()), d of texts. -/
namespace XB
open PySem PySem.Spec PyProof.Rows L2
mutual
theorem Fl.nodict : ∀ (d : D), Fl d → d.hasDict = false
  | .none, _ => rfl
  | .bool _, _ => rfl
  | .int _, _ => rfl
  | .str _, _ => rfl
  | .list _, f => nomatch f
  | .dict _, f => nomatch f
  | .tuple ds, f => by
    have := Fl.nodictAll ds (by cases f with | tup h => exact h)
    simpa [PyData.hasDict] using this
theorem Fl.nodictAll : ∀ (ds : List D), (∀ d ∈ ds, Fl d) → PyData.hasDictAll ds = false
  | [], _ => rfl
  | d :: ds, f => by
    simp only [PyData.hasDictAll, Bool.or_eq_false_iff]
    exact ⟨Fl.nodict d (f d (List.mem_cons_self ..)), Fl.nodictAll ds fun e he => f e (List.mem_cons_of_mem _ he)⟩
end
theorem DkAll.at_ {K : PySem.W.Frag} {H : Hp} {A : List Addr} : ∀ {ys : List (Key × V)} {kds : List (Key × D)} {i : Nat} {k : Key} {v : V}, DkAll K H A ys kds → ys[i]? = some (k, v) → ∃ d, kds[i]? = some (k, d) ∧ Dd K H A v d
  | _, _, _, _, _, .nil, e => by simp at e
  | _, _, 0, _, _, .cons r _, e => by simp at e; obtain ⟨rfl, rfl⟩ := e; exact ⟨_, rfl, r⟩
  | _, _, i + 1, _, _, .cons _ t, e => DkAll.at_ (i := i) t (by simpa using e)
section
variable {X : Cx} {ρ : Ro} {M : Mem} {o : Expr} {p pos apos mpos : Pos} {k : Nat}
end
end XB

/-! LG: texts cut once, x, *y = a list, startswith, removeprefix, text < text. -/
namespace XB
open PySem PySem.Spec PyProof.Rows L2
open PySem.Builtin.Str (occurrences partsBetween strSub)
section
variable {X : Cx} {ρ : Ro} {M : Mem} {o e f a b : Expr} {apos pos : Pos}
end
section
variable {prog : Program} {w : World} {A : Around} {E : Value → Shared → Prop} {s : Shared} {env : Env} {elts : List Expr} {k : Nat} {pos : Pos}
end
section
variable {X : Cx} {ρ : Ro} {M : Mem} {pos p1 p2 p3 : Pos}
end
section
variable {X : Cx} {Hb : Hp} {Ab : List Addr} {E : En} {ρ : Ro} {M : Mem} {e : Expr} {pos : Pos}
end
end XB

/-! LH: told(lambda: F(e)) where e has effects and F raises. -/
namespace XB
open PySem PySem.Spec PyProof.Rows L2
open LamX (CodeO TabB LamS lamCx lamEnv)
/-- e raises such an error behind its effects -/
def EvXE (X : Cx) (e : Expr) (ρ : Ro) (M : Mem) (x : Str) (d : D) (Ψ : Mem → Prop) : Prop := ∀ σ H Q (W : WX), Ok X.K H ρ M σ → Takes X W → (∀ M' cls dd H', Ψ M' → ads M' = ads M → Ext (ads M) H H' → MemOk X.K H' M' → Raised X.K X.mg (ads M) x d cls dd H' → W cls dd σ H') → rd X e σ H Q
section
variable {X : Cx} {ρ : Ro} {M : Mem} {e : Expr} {es : List Expr} {p pos : Pos} {x y : Str} {d : D} {k : Nat} {ps : List Str} {sd : Stmt} {Ψ : Mem → Prop}
end
section
variable {X : Cx} {pins : List (Addr × Obj)} {σ : L2.St} {H : Hp} {s : Shared}
end
section
variable {X : Cx} {ρ : Ro} {M : Mem} {x a : Str} {st : Stmt} {N : List Str} {T : Str → D → D → Prop} {k j : Nat} {x1 : Str} {r d : D} {Ψ : Mem → Prop} {c P : Addr} {params : Arguments} {body : Expr} {scope : Scope} {p lpos pos : Pos}
end
section
variable {X : Cx} {Hb : Hp} {Ab : List Addr} {E : En} {ρ : Ro} {M : Mem} {e : Expr} {p p' pos pos' : Pos} {x : Str} {d : D} {a C : Addr} {w : W} {Ψ : Mem → Prop}
end
end XB

/-! LI: sorted(dict of texts); texts drawn; x, y = a new instance, a new list. -/
namespace XB
open PySem PySem.Spec PyProof.Rows L2
section
variable {X : Cx} {ρ : Ro} {M : Mem} {e o a b : Expr} {p pos apos : Pos} {k : Nat}
/-- sep.join(e), e with effects -/
theorem Ev.join {sep : Str} {Φ : W → Mem → Prop} (ho : EvD X o ρ M (.dat (.str sep))) (he : Ev X e ρ M fun w M1 => ∃ ys : List Str, w = .dat (.list (ys.map .str)) ∧ (ys.map (·.length)).sum + ys.length * sep.length ≤ 16777216 ∧ Φ (.dat (.str (Txt.join sep ys))) M1) (hs : starEach [e] X.env = [(false, eval e X.env)] := by rfl) (hbase : attributeBase o "join" X.env (eval o X.env) = eval o X.env := by rfl) (hline : (apos.endLine == pos.line) = true := by rfl) :
    Ev X (.Call (.Attribute o "join" apos) [e] [] pos) ρ M Φ := fun σ H Q ok q =>
  of_pe (pe_join p_rd p_rd hs hbase hline) (ho σ H _ ok fun v H1 s1 r1 => ⟨⟨sep, Dd.str_of r1⟩, he σ H1 _ (ok.same s1) fun w M1 u H2 hΦ ea x1 m1 r2 => by
    obtain ⟨ys, rfl, hl, hΦ⟩ := hΦ
    obtain ⟨a, xs, rfl, h2, h3⟩ := Dd.l r2
    obtain rfl := DdAll.strs h3
    exact ⟨sep, a, ys, Dd.str_of r1, rfl, .inl h2, hl, q _ M1 _ H2 hΦ ea ((Ext.of s1).trans x1) m1 (.str _)⟩⟩)
end
section
variable {X : Cx} {Hb : Hp} {Ab : List Addr} {E : En} {ρ : Ro} {M : Mem} {a b : Expr} {pos : Pos}
end
end XB

/-! LJ: dict(pairs drawn), keyword calls with what is owned lent, == of a new instance. -/
namespace XB
open PySem PySem.Spec PyProof.Rows L2
section
variable {X : Cx} {Hb : Hp} {Ab : List Addr} {E : En} {ρ : Ro} {M : Mem} {e : Expr} {pos p pc : Pos}
end
section
variable {X : Cx} {e : Expr} {ρ : Ro} {M : Mem} {p pos kpos : Pos} {k : Nat} {w : W} {ws ws' : List W} {kws : List Keyword} {nm : Option Str} {x : Str} {ps : List Str} {sd : Stmt}
end
section
variable {X : Cx} {ρ : Ro} {M : Mem} {b1 b2 : Expr} {pos : Pos} {k : Nat} {C : Addr} {Φ : Bool → Mem → Prop}
end
/-! ### a or b or .., any of them with effects -/
def Ew (X : Cx) (e : Expr) (ρ : Ro) (M : Mem) (Φ : Bool → Mem → Prop) : Prop := ∀ σ H Q, Ok X.K H ρ M σ → (∀ b M' H', Φ b M' → ads M' = ads M → Ext (ads M) H H' → MemOk X.K H' M' → Q b H') → rw_ X e σ H Q
section
variable {X : Cx} {ρ : Ro} {M : Mem} {a b e : Expr} {es : List Expr} {pos : Pos} {Φ : Bool → Mem → Prop}
theorem Ew.t (h : Ew X e ρ M Φ) : Et X e ρ M Φ := fun σ H Q ok q pins s I => h σ H Q ok q _ pins s I
end
end XB

/-! LK: exceptions as values: made by position and by name, kept in lists. -/
namespace XB
open PySem PySem.Spec PyProof.Rows L2 HandSPX
section
variable {MM : Model} {AA : Around} {EE : Value → Shared → Prop} {h0 : Heap} {g0 : Array GenState} {d0 : Drawn} {t0 : Nat} {os0 : OsState}
variable {nmm qq : Str} {Cl Nn : Addr} {bss bmm bmb : List Value} {hdd : Bool} {snn : List Str} {sbb : List Value} {abb : Bool} {coll : Option Bool} {ddd : Option Addr} {k0 k1 k2 k3 k5 : Option Value} {BB nId iId : String}
end
section
variable {pr : Program} {ww : World} {AA : Around} {EE : Value → Shared → Prop} {RR : Result → Shared → Prop} {h0 : Heap} {g0 : Array GenState} {d0 : Drawn} {t0 : Nat} {os0 : OsState}
variable {nmm qq : Str} {Cl Nn : Addr} {bss bmm bmb : List Value} {hdd : Bool} {snn : List Str} {sbb : List Value} {abb : Bool} {coll : Option Bool} {ddd : Option Addr} {k0 k1 k2 k3 k5 : Option Value} {BB nId iId : String}

end
section
variable {X : Cx} {B C : Addr} {k : Nat} {x : Str} {e : Expr} {te : TE} {p pos kp : Pos}
/-- what makes an exception, as a value: tracked from then on -/
theorem pe_mk {t : L2.St → Hp → XK → Prop} (h : PMk X e t) : PE X e (fun σ H Q => t σ H fun cls d H' => ∃ C dx, cls = .ref C ∧ d = some dx ∧ ∀ a, H' a = none → Q (.ref a) (upd H' a (ExH a C dx))) := by
  refine ⟨fun pins s σ H Q I q => thn (h pins s σ H _ I q) fun u s' hu => ?_⟩
  obtain ⟨a, oe, vs, sI, H', cls, d, rfl, J, k', hne, ha, hz, hd, h1, na, os, bare, r, C, dx, rfl, rfl, q⟩ := hu
  obtain ⟨hh, g, dr, tk, o⟩ := s'
  obtain rfl : o = sI.os := os
  exact ⟨.ref a, _, J.call (h' := hh) (g' := g) (d' := dr) (t' := tk) (ch := []) (Un.laidN k' hne na) (J.hok.laidN k' na (exH_ok ha hz hd)) bare (fun b z => absurd z (by simp)), rfl, q a na⟩
end
section
variable {X : Cx} {B C : Addr} {k : Nat} {x : Str} {e : Expr} {ρ : Ro} {M : Mem} {p pos kp : Pos} {d : D}
theorem err_own {H H1 : Hp} {σ : L2.St} {v : V} {a dx : Addr} {fs : List (Str × V)} {Q : VK} (ok : Ok X.K H ρ M σ) (s1 : Same H H1) (r1 : Dd X.K H1 (ads M) v d) (n : H1 dx = none) (na : upd H1 dx (.xd (("value", v) :: fs)) a = none)
    (q : ∀ a H', H a = none → Same H H' → MemOk X.K H' ((a, .err C d) :: M) → Q (.ref a) H') : Q (.ref a) (upd (upd H1 dx (.xd (("value", v) :: fs))) a (ExH a C dx)) := by
  have ne : a ≠ dx := fun z => by
    rw [z, upd_same] at na
    cases na
  have na1 : H1 a = none := by rwa [upd_ne ne] at na
  have ok1 := ok.same s1
  have s2 : Same H1 (upd (upd H1 dx (.xd (("value", v) :: fs))) a (ExH a C dx)) := (same_upd n).trans (same_upd na)
  have nD := ok1.mem.fresh n
  have ok2 := ok1.own (o := .err C d) na1 s2 ⟨dx, v, fs, upd_same, .inl (by rw [upd_ne (Ne.symm ne), upd_same]), fun z => by
    rcases List.mem_cons.mp z with z | z
    · exact ne z.symm
    · exact nD z, r1.mv ((Mv.add na1).trans (Ext.mv (A := a :: ads M) (Ext.of s2)))⟩
  exact q a _ (s1.free na1) (s1.trans s2) ok2.mem
/-- a new exception of the class at C, whose value is d -/
def EvE (X : Cx) (e : Expr) (ρ : Ro) (M : Mem) (C : Addr) (d : D) : Prop := ∀ σ H Q, Ok X.K H ρ M σ → (∀ a H', H a = none → Same H H' → MemOk X.K H' ((a, .err C d) :: M) → Q (.ref a) H') → rd X e σ H Q
/-- x(e): a new exception -/
theorem EvE.err (T : ErrC X.prog X.w X.K X.mg X.base B x C) (hr : Room (k + 2) X.A) (hgd : Gd X.A) (he : EvD X e ρ M (.dat d)) (sh : Sh 1000000 60 d) (hg : Gl X x := by rfl) (hs : starEach [e] X.env = (false, eval e X.env) :: starEach [] X.env := by rfl)
    (hdb : (x == ("__debug__" : Str)) = false := by decide) (hbare : x ∉ bareN := by decide +kernel) : EvE X (.Call (.Name x p) [e] [] pos) ρ M C d := fun σ H Q ok q =>
  of_pe (pe_mk (pmk_err T hr hgd hg p_rd hs hdb hbare)) (he σ H _ ok fun v H1 s1 r1 => ⟨d, ads M, r1, sh, fun dx t n => ⟨C, dx, rfl, rfl, fun a na => err_own ok s1 r1 n na q⟩⟩)
end
end XB

/-! LL: lists of exceptions. -/
namespace XB
open PySem PySem.Spec PyProof.Rows L2
/-- exceptions at as of the classes at cs, all with the value d -/
def errM (d : D) : List Addr → List Addr → Mem
  | C :: cs, a :: as => errM d cs as ++ [(a, .err C d)]
  | _, _ => []
abbrev refL (as : List Addr) : Ow := .any (.lst (as.map V.ref))
/-- exceptions in turn -/
def EaE (X : Cx) (es : List Expr) (ρ : Ro) (M : Mem) (cs : List Addr) (d : D) : Prop := ∀ σ H Q, Ok X.K H ρ M σ → (∀ as H', as.length = cs.length → (∀ p ∈ as, H p = none) → Same H H' → MemOk X.K H' (errM d cs as ++ M) → Q (as.map V.ref) H') → ra X es σ H Q
/-- a new list of those at as0 and of new exceptions -/
def EnE (X : Cx) (e : Expr) (ρ : Ro) (M : Mem) (as0 cs : List Addr) (d : D) : Prop := ∀ σ H Q, Ok X.K H ρ M σ → (∀ S as H', as.length = cs.length → H S = none → (∀ p ∈ as, H p = none) → Same H H' → MemOk X.K H' ((S, refL (as0 ++ as)) :: (errM d cs as ++ M)) → Q (.ref S) H') → rd X e σ H Q
section
variable {X : Cx} {ρ : Ro} {M : Mem} {e a : Expr} {es : List Expr} {C : Addr} {cs as0 : List Addr} {d : D} {pos lp : Pos}
theorem EaE.nil : EaE X [] ρ M [] d := fun σ H Q ok q => of_pa pa_nil (q [] H rfl (fun p hp => absurd hp List.not_mem_nil) (Same.refl H) ok.mem)
theorem EaE.cons (h : EvE X e ρ M C d) (hr : ∀ a, EaE X es ρ ((a, .err C d) :: M) cs d) (hs : starEach (e :: es) X.env = (false, eval e X.env) :: starEach es X.env := by rfl) : EaE X (e :: es) ρ M (C :: cs) d := fun σ H Q ok q =>
  of_pa (pa_cons p_rd p_ra hs) (h σ H _ ok fun a H1 n s1 m1 => hr a σ H1 _ (ok.grow (ex := [(a, .err C d)]) (M' := M) rfl (fun p hp => by rw [List.mem_singleton.mp hp]; exact n) (Ext.of s1) m1) fun as H2 hl hf s2 m2 => by
    refine q (a :: as) H2 (by rw [List.length_cons, List.length_cons, hl]) (fun p hp => ?_) (s1.trans s2) ?_
    · rcases List.mem_cons.mp hp with rfl | hp
      · exact n
      · exact s1.free (hf p hp)
    · show MemOk X.K H2 ((errM d cs as ++ [(a, .err C d)]) ++ M)
      rw [List.append_assoc]
      exact m2)
theorem mem_ok0 {K : PySem.W.Frag} {H : Hp} {M : Mem} (m : MemOk K H M) : Ok K H [] M [] := ⟨m, rfl, fun i w e => by cases e⟩
theorem EnE.lst (h : EaE X es ρ M cs d) (hl : cs.length ≤ sizeLine) : EnE X (.List es pos) ρ M [] cs d := fun σ H Q ok q =>
  of_pe (pe_lst p_ra) (h σ H _ ok fun as H1 hl1 hf s1 m1 => ⟨by rw [List.length_map, hl1]; exact hl, fun S hS => q S as _ hl1 (s1.free hS) hf (s1.trans (same_upd hS)) ((mem_ok0 m1).own (o := refL ([] ++ as)) hS (same_upd hS) upd_same).mem⟩)
variable {Φ : Addr → Mem → Mem → Prop} {b : Expr}
theorem EvI.raw {S : Addr} (h : EvD X e ρ M (.raw (.ref S))) (hΦ : Φ S [] M) : EvI X e ρ M Φ := fun σ H Q ok q => h σ H _ ok fun v H1 s1 r1 => by
  have e1 : v = .ref S := r1
  subst e1
  exact q S [] M H1 hΦ rfl (fun p hp => absurd hp List.not_mem_nil) (Ext.of s1) (ok.mem.same s1)
end
section
variable {X : Cx} {Hb : Hp} {Ab : List Addr} {E : En} {ρ : Ro} {M : Mem} {e e1 e2 tg : Expr} {body : List Stmt} {pos : Pos}
end
end XB

/-! LM: the errors of a law that makes them itself. -/
namespace XB
open PySem PySem.Spec PyProof.Rows L2
open PySem.W (Frag)
section
variable {X : Cx} {B C : Addr} {k : Nat} {x : Str} {p pos : Pos} {ρ : Ro} {M : Mem}
end
section
variable {P : Program} {w : World} {K : Frag} {mg : Str → Option Value} {h : Heap} {B fB : Addr} {x qual : Str} {st : Stmt} {t : String}
end
section
variable {X : Cx} {ρ : Ro} {M : Mem} {a b e e2 : Expr} {pos p : Pos} {k : Nat} {x : Str} {C : Addr} {d : D}
theorem Ev.any {Φ : W → Mem → Prop} (hm : X.mg "any" = none) (h : Ev X e ρ M fun w M1 => ∃ bs : List Bool, w = .dat (.list (bs.map .bool)) ∧ Φ (.dat (.bool (bs.any id))) M1) (hc : X.calm = true := by rfl) (hg : Gl X "any" := by rfl)
    (hs : starEach [e] X.env = (false, eval e X.env) :: starEach [] X.env := by rfl) (hpl : (backTo pos (starEach [] X.env)).any (·.1) = false := by rfl) : Ev X (.Call (.Name "any" p) [e] [] pos) ρ M Φ := fun σ H Q ok q =>
  of_pe (pe_callB (cr_any hc) hg hm (by decide +kernel) (pa_cons p_rd pa_nil hs) (by decide) (by decide) hs hpl) (h σ H _ ok fun w M1 v H1 h1 ea x m r => by
    obtain ⟨bs, rfl, h1⟩ := h1
    obtain ⟨a, xs, rfl, h2, h3⟩ := Dd.l r
    exact ⟨a, bs, rfl, by rw [← h3.bools]; exact h2, q _ M1 _ H1 h1 ea x m (.bl _)⟩)
end
end XB

/-! LN: dicts and lists of what slots hold: read, put, append, pop. -/
namespace XB
open PySem PySem.Spec PyProof.Rows L2

/-! ### M' is M but for what stands at S -/
structure But (S : List Addr) (M M' : Mem) : Prop where
  ea : ads M' = ads M
  keep : ∀ q ∈ M, q.1 ∉ S → q ∈ M'
theorem But.refl {S : List Addr} {M : Mem} : But S M M := ⟨rfl, fun _ h _ => h⟩
theorem But.trans {S : List Addr} {M M1 M2 : Mem} (a : But S M M1) (b : But S M1 M2) : But S M M2 := ⟨b.ea.trans a.ea, fun q h n => b.keep q (a.keep q h n) n⟩
theorem But.mono {S T : List Addr} {M M' : Mem} (a : But S M M') (h : ∀ x ∈ S, x ∈ T) : But T M M' := ⟨a.ea, fun q hq n => a.keep q hq fun z => n (h _ z)⟩
theorem But.set {M : Mem} {k : Nat} {a : Addr} {o : Ow} (o' : Ow) (h : M[k]? = some (a, o)) : But [a] M (M.set k (a, o')) := ⟨ads_set h, fun q hq n => by
  obtain ⟨j, hj⟩ := List.mem_iff_getElem?.mp hq
  have hne : k ≠ j := fun e => by
    subst e
    rw [h] at hj
    cases hj
    exact n (List.mem_singleton.mpr rfl)
  exact List.mem_of_getElem? (i := j) (by rw [List.getElem?_set_ne hne]; exact hj)⟩
/-! ### dicts of what slots hold -/
section
variable {K : PySem.W.Frag} {H : Hp} {A : List Addr}
theorem KwAll.length : ∀ {ys : List (Key × V)} {kvs : List (Key × W)}, KwAll K H A ys kvs → ys.length = kvs.length
  | _, _, .nil => rfl
  | _, _, .cons _ r => congrArg (· + 1) r.length
theorem KwAll.any (k : Key) : ∀ {ys : List (Key × V)} {kvs : List (Key × W)}, KwAll K H A ys kvs → (ys.any fun kv => decide (kv.1 = k)) = kvs.any fun kv => decide (kv.1 = k)
  | _, _, .nil => rfl
  | _, _, .cons _ r => by rw [List.any_cons, List.any_cons, r.any k]
theorem KwAll.over (k : Key) {v : V} {d : W} (hv : SW K H A v d) : ∀ {ys : List (Key × V)} {kvs : List (Key × W)}, KwAll K H A ys kvs → KwAll K H A (ys.map fun kv => if kv.1 = k then (kv.1, v) else kv) (kvs.map fun kv => if kv.1 = k then (kv.1, d) else kv)
  | _, _, .nil => .nil
  | _, _, .cons (k := k2) r1 r => by
    rw [List.map_cons, List.map_cons]
    by_cases e : k2 = k
    · rw [if_pos e, if_pos e]; exact .cons hv (r.over k hv)
    · rw [if_neg e, if_neg e]; exact .cons r1 (r.over k hv)
theorem KwAll.snoc (k : Key) {v : V} {d : W} (hv : SW K H A v d) : ∀ {ys : List (Key × V)} {kvs : List (Key × W)}, KwAll K H A ys kvs → KwAll K H A (ys ++ [(k, v)]) (kvs ++ [(k, d)])
  | _, _, .nil => .cons hv .nil
  | _, _, .cons r1 r => .cons r1 (r.snoc k hv)
theorem KwAll.put {k : Key} {v : V} {d : W} {ys : List (Key × V)} {kvs : List (Key × W)} (h : KwAll K H A ys kvs) (hv : SW K H A v d) : KwAll K H A (putK ys k v) (putG kvs k d) := by
  unfold putK putG
  rw [h.any k]
  split
  · exact h.over k hv
  · exact h.snoc k hv
theorem KwAll.val (k : Key) : ∀ {ys : List (Key × V)} {kvs : List (Key × W)}, KwAll K H A ys kvs → ∀ d, valG kvs k = some d → ∃ v, valV ys k = some v ∧ SW K H A v d
  | _, _, .nil => fun d h => (by cases h)
  | _, _, .cons (k := k2) r1 r => by
    by_cases e : k2 = k
    · intro d h
      simp [valG, List.find?_cons, e] at h
      subst h
      exact ⟨_, valV_pos e, r1⟩
    · have ih := r.val k
      have e1 : ∀ (v : W) (kvs : List (Key × W)), valG ((k2, v) :: kvs) k = valG kvs k := fun v kvs => by simp [valG, List.find?_cons, e]
      rw [valV_neg e, e1]
      exact ih
theorem SWs.snoc {v : V} {w : W} (hv : SW K H A v w) : ∀ {vs : List V} {ws : List W}, SWs K H A vs ws → SWs K H A (vs ++ [v]) (ws ++ [w])
  | _, _, .nil => .cons hv .nil
  | _, _, .cons r1 r => .cons r1 (r.snoc hv)
def dropG {α : Type} (kvs : List (Key × α)) (k : Key) : List (Key × α) := kvs.filter fun kv => decide (kv.1 ≠ k)
theorem DkAll.drop (k : Key) : ∀ {ys : List (Key × V)} {kvs : List (Key × D)}, DkAll K H A ys kvs → DkAll K H A (dropK ys k) (dropG kvs k)
  | _, _, .nil => .nil
  | _, _, .cons (k := k2) (v := v) (d := d) (kvs := ys) (ds := ds) r1 r => by
    have ih := r.drop k
    unfold dropK dropG at ih ⊢
    by_cases e : k2 = k
    · rw [List.filter_cons_of_neg (by simp [e]), List.filter_cons_of_neg (by simp [e])]
      exact ih
    · rw [List.filter_cons_of_pos (by simp [e]), List.filter_cons_of_pos (by simp [e])]
      exact .cons r1 ih
end
section
variable {X : Cx} {Hb : Hp} {Ab : List Addr} {E : En} {ρ : Ro} {M : Mem} {e o ix : Expr} {pos pos' : Pos} {j : Nat} {w : W}
end
/-! ### list == [] -/
section
variable {X : Cx} {ρ : Ro} {M : Mem} {a b : Expr} {k : Nat} {pos : Pos}
end
/-! ### what is made anew -/
section
variable {X : Cx} {Hb : Hp} {Ab : List Addr} {E : En} {ρ : Ro} {M : Mem} {e o : Expr} {pos pos' : Pos} {j : Nat} {w : W}
end
end XB

/-! LO: defs behind which more is owned; methods that raise; a record made; return (.., e) within a try. -/
namespace XB
open PySem PySem.Spec PyProof.Rows L2

/-! ### more is owned behind it -/
def EvG (X : Cx) (e : Expr) (ρ : Ro) (M : Mem) (Φ : W → Mem → Mem → Prop) : Prop := ∀ σ H Q, Ok X.K H ρ M σ →
  (∀ w ex M' v H', Φ w ex M' → ads M' = ads M → (∀ p ∈ ads ex, H p = none) → Ext (ads M) H H' → MemOk X.K H' (ex ++ M') → SW X.K H' (ads (ex ++ M')) v w → Q v H') → rd X e σ H Q
abbrev CtG := List W → Mem → (W → Mem → Mem → Prop) → Prop
def spG (K : PySem.W.Frag) (T : CtG) : L2.Sp := fun vs H Q _ => ∃ M ws Φ, MemOk K H M ∧ SWs K H (ads M) vs ws ∧ T ws M Φ ∧
  ∀ w ex M' v H', Φ w ex M' → ads M' = ads M → (∀ p ∈ ads ex, H p = none) → Ext (ads M) H H' → MemOk K H' (ex ++ M') → SW K H' (ads (ex ++ M')) v w → Q v H'
abbrev DefG (P : Program) (w : World) (K : PySem.W.Frag) (mg : Str → Option Value) (base : Heap) (k : Nat) (x : Str) (st : Stmt) (ps : List Str) (T : CtG) : Prop := Def P w K mg base k x st ps (spG K T)
section
variable {P : Program} {w : World} {K : PySem.W.Frag} {mg : Str → Option Value} {base : Heap} {k : Nat} {ps N : List Str} {x qual : Str} {st : Stmt}
theorem fnGr_of {T : CtG} {params : Arguments} {body : List Stmt} {scope : Scope} {dvs : List V} {kws : List (Str × V)} {f : Addr} {fd : FuncData} (F : FunD K x qual params body scope dvs kws f fd) (S : FnScope N ps scope) (len : ∀ ws M Φ, T ws M Φ → ws.length = ps.length)
    (hb : ∀ (cdv : Value) (A : Around) (outer : List Env) (s : Shared) (H : Hp) (E : XK) (ws : List W) (Φ : W → Mem → Mem → Prop) (M : Mem), Room k (cx0 P w K mg base N qual scope f cdv A outer s H E).A → Gd (cx0 P w K mg base N qual scope f cdv A outer s H E).A → T ws M Φ →
      Sv (cx0 P w K mg base N qual scope f cdv A outer s H E) H (ads M) body { nx := fun _ _ => False, rt := fun r M1 => ∃ Ml M2, M1 = Ml ++ M2 ∧ ads M2 = ads M ∧ Φ r Ml M2 } (startW N ws) M) :
    FnG P w K mg base CX0 (k + 1) f fd ps (spG K T) := by
  refine fnG_of F S (fun vs H Q E h => ?_) fun cdv A outer s H vs Q E hr hg h => ?_
  · obtain ⟨M, ws, r, m, sw, hC, _⟩ := h
    rw [sw.length]
    exact len ws M r hC
  · obtain ⟨M, ws, Φ, m, sw, hC, q⟩ := h
    refine ⟨_, PSs.nox p_rss, hb cdv A outer s H E ws Φ M hr hg hC (L2.start N vs) H _ (start_ok m sw) (Bs.refl H M) ⟨fun _ _ _ _ z => z.elim, ?_, fun _ _ _ _ z => z.elim, fun _ _ _ _ z => z.elim⟩⟩
    rintro r M1 v H1 ⟨Ml, M2, rfl, ea, h2⟩ m1 r1 bs1
    refine q r Ml M2 v H1 h2 ea (fun p hp => ?_) bs1.ext m1 r1
    have nd := m1.nd
    rw [ads_app] at nd
    rcases bs1.own p (by rw [ads_app]; exact List.mem_append_left _ hp) with h | h
    · rw [← ea] at h
      exact absurd rfl ((List.nodup_append.mp nd).2.2 p hp p h)
    · exact h
theorem DefG.of {T : CtG} (F : Here K mg x st) (S : FnScope N ps (defScope st)) (hb : BindF x st ps) (len : ∀ ws M Φ, T ws M Φ → ws.length = ps.length)
    (body : ∀ (f : Addr) (cdv : Value) (A : Around) (outer : List Env) (s : Shared) (H : Hp) (E : XK) (ws : List W) (Φ : W → Mem → Mem → Prop) (M : Mem), Room k (cx0 P w K mg base N x (defScope st) f cdv A outer s H E).A → Gd (cx0 P w K mg base N x (defScope st) f cdv A outer s H E).A → T ws M Φ →
      Sv (cx0 P w K mg base N x (defScope st) f cdv A outer s H E) H (ads M) (defBody st) { nx := fun _ _ => False, rt := fun r M1 => ∃ Ml M2, M1 = Ml ++ M2 ∧ ads M2 = ads M ∧ Φ r Ml M2 } (startW N ws) M) :
    DefG P w K mg base (k + 1) x st ps T := Def.of F hb fun f fd FD => fnGr_of FD S len (body f)
end
theorem grow_back {K : PySem.W.Frag} {H H1 : Hp} {M M1 ex : Mem} (x1 : Ext (ads M) H H1) (ea : ads M1 = ads M) (m1 : MemOk K H1 M1) (nx : ∀ p ∈ ads ex, H1 p = none) : ∀ p ∈ ads ex, H p = none := fun p hp => by
  cases h : H p with
  | none => rfl
  | some u =>
    by_cases hA : p ∈ ads M
    · rw [← ea] at hA
      exact absurd (nx p hp) (m1.tracked hA)
    · have := x1 p u h hA
      rw [nx p hp] at this
      cases this
section
variable {X : Cx} {k : Nat} {C : Addr} {ps : List Str} {sd : Stmt} {x m : Str} {p pos apos : Pos} {e o : Expr} {es : List Expr} {ρ : Ro} {M : Mem}
/-- f(e, ..), more is owned behind it -/
theorem EvG.call {T : CtG} {Φ : W → Mem → Mem → Prop} (F : DefG X.prog X.w X.K X.mg X.base k x sd ps T) (hr : Room k X.A) (hg : Gd X.A) (ha : Ea X (e :: es) ρ M fun ws M1 => T ws M1 Φ) (hgl : Gl X x := by rfl) (hdb : (x == ("__debug__" : Str)) = false := by decide)
    (he : starEach (e :: es) X.env = (false, eval e X.env) :: starEach es X.env := by rfl) (hpl : (backTo pos (starEach es X.env)).any (·.1) = false := by rfl) : EvG X (.Call (.Name x p) (e :: es) [] pos) ρ M Φ := fun σ H Q ok q => by
  obtain ⟨f, fd, G, hm, hk, hb, _⟩ := F.ex
  refine of_pe (peG_call G hr hg hgl hm hk hb .nil pass0 p_ra hdb he hpl) (ha σ H _ ok fun ws M1 vs H1 hC ea x1 m1 r1 => ?_)
  rw [List.append_nil]
  refine ⟨M1, ws, Φ, m1, by rw [ea]; exact r1, hC, fun w ex M2 v H2 hΦ ea2 nx x2 m2 r2 => q w ex M2 v H2 hΦ (ea2.trans ea) (grow_back x1 ea m1 nx) (x1.trans (by rw [← ea]; exact x2)) m2 r2⟩
theorem EvG.mono {Φ Ψ : W → Mem → Mem → Prop} (h : EvG X e ρ M Φ) (hm : ∀ a ex M', Φ a ex M' → Ψ a ex M') : EvG X e ρ M Ψ := fun σ H Q ok q => h σ H Q ok fun a ex M' v H' h1 => q a ex M' v H' (hm a ex M' h1)
theorem Ev.g {Φ : W → Mem → Mem → Prop} (h : Ev X e ρ M fun w M' => Φ w [] M') : EvG X e ρ M Φ := fun σ H Q ok q => h σ H Q ok fun w M' v H' hΦ ea x m r => q w [] M' v H' hΦ ea (fun p hp => absurd hp List.not_mem_nil) x m (by rw [List.nil_append, ea]; exact r)
theorem EvI.g {Φ : W → Mem → Mem → Prop} (h : EvI X e ρ M fun a ex M' => Φ (.raw (.ref a)) ex M') : EvG X e ρ M Φ := fun σ H Q ok q => h σ H Q ok fun a ex M' H' hΦ ea nx x m => q _ ex M' _ H' hΦ ea nx x m rfl
variable {Hb : Hp} {Ab : List Addr} {E : En} {y : Str} {pos' : Pos}
end

/-! ### methods that raise -/
structure MetR (P : Program) (w : World) (K : PySem.W.Frag) (mg : Str → Option Value) (base : Heap) (k : Nat) (C : Addr) (m : Str) (ps : List Str) (T : List W → Str → D → Prop) : Prop where
  ex : ∃ (f : Addr) (fd : FuncData), FnG P w K mg base (L2.CX P w) k f fd ps (spR K mg T) ∧ Meth K C m f ∧ Binds K fd ps []
theorem MetR.of {P : Program} {w : World} {K : PySem.W.Frag} {mg : Str → Option Value} {base : Heap} {k : Nat} {Cl : Addr} {m qual : Str} {N ps : List Str} {st : Stmt} {C : List W → Str → D → Prop} (F : HereM K Cl m qual st) (S : FnScope N ps (defScope st)) (hb : BindM m qual st ps) (len : ∀ ws y d, C ws y d → ws.length = ps.length)
    (body : ∀ (f : Addr) (cdv : Value) (A : Around) (outer : List Env) (s : Shared) (H : Hp) (E : XK) (ws : List W) (y : Str) (d : D) (M : Mem), Room k (cxR P w K mg base N qual (defScope st) f cdv A outer s H E).A → Gd (cxR P w K mg base N qual (defScope st) f cdv A outer s H E).A → C ws y d → TkR (cxR P w K mg base N qual (defScope st) f cdv A outer s H E) H M y d →
      Sv (cxR P w K mg base N qual (defScope st) f cdv A outer s H E) H (ads M) (defBody st) { nx := fun _ _ => False, rt := fun _ _ => False } (startW N ws) M) :
    MetR P w K mg base (k + 1) Cl m ps C := by
  obtain ⟨f, fd, FD, hm⟩ := F
  exact ⟨f, fd, fnR_of FD S len (body f), hm, FD.bindsN hb⟩
section
variable {X : Cx} {ρ : Ro} {M : Mem} {e o : Expr} {es : List Expr} {pos p apos : Pos} {ws ws' : List W} {w w0 : W} {k : Nat} {x m f : Str} {ps : List Str} {sd : Stmt} {C : Addr}
end

section
variable {X : Cx} {ρ : Ro} {M : Mem} {pos : Pos} {k1 k2 k3 k4 e1 e2 e3 e4 : Expr} {q1 q2 q3 q4 : Key} {d1 d2 : D}
end

/-! ### asked within a try -/
section
variable {X : Cx} {Hb : Hp} {Ab : List Addr} {E : En} {ρ : Ro} {M : Mem} {c e : Expr} {pos pos' : Pos} {x : Str} {d d1 : D} {a C : Addr} {kk : Nat} {Ψ : Mem → Prop}
end
end XB

/-! LP: how long a text may be; what is owned is owned once. -/
namespace XB
open PySem PySem.Spec PyProof.Rows L2
section
variable {X : Cx} {Hb : Hp} {Ab : List Addr} {E : En} {ρ : Ro} {M : Mem} {ss : List Stmt} {st : Stmt}
end
section
variable {X : Cx} {Hb : Hp} {Ab : List Addr} {E : En} {ρ : Ro} {M : Mem} {a b c e : Expr} {pos : Pos} {y : Str} {d : D} {w : W} {kk : Nat} {d1 : D}
end
section
variable {X : Cx} {ρ : Ro} {M : Mem} {o ix : Expr} {pos : Pos} {j : Nat}
end
theorem EvDi.cast {X : Cx} {e : Expr} {ρ : Ro} {M : Mem} {k k' : List (Key × D)} (h : k = k') (a : EvDi X e ρ M k) : EvDi X e ρ M k' := h ▸ a
end XB

/-! LQ: defs and methods that raise, what is owned given as it is; return (.., e) within a try. -/
namespace XB
open PySem PySem.Spec PyProof.Rows L2
open LamX (CodeO TabB LamS lamCx lamEnv)
/-- it raises, and what is owned is as before -/
abbrev EvXM (X : Cx) (e : Expr) (ρ : Ro) (M : Mem) (x : Str) (d : D) : Prop := EvXE X e ρ M x d fun M' => M' = M
theorem EvX.m {X : Cx} {e : Expr} {ρ : Ro} {M : Mem} {x : Str} {d : D} (h : EvX X e ρ M x d) : EvXM X e ρ M x d := fun σ H Q W ok t hW => h σ H Q W ok t fun cls dd H' s r => hW M cls dd H' rfl rfl (Ext.of s) (ok.mem.same s) r
def spRM (K : PySem.W.Frag) (mg : Str → Option Value) (C : List W → Mem → Str → D → Prop) : L2.Sp := fun vs H _ E => ∃ M ws x d, MemOk K H M ∧ SWs K H (ads M) vs ws ∧ C ws M x d ∧ ∀ cls dd H', Ext (ads M) H H' → MemOk K H' M → Raised K mg (ads M) x d cls dd H' → E cls dd H'
structure DefRM (P : Program) (w : World) (K : PySem.W.Frag) (mg : Str → Option Value) (base : Heap) (k : Nat) (x : Str) (st : Stmt) (ps : List Str) (C : List W → Mem → Str → D → Prop) : Prop where
  ex : ∃ (f : Addr) (fd : FuncData), FnG P w K mg base (L2.CX P w) k f fd ps (spRM K mg C) ∧ mg x = some (.ref f) ∧ PySem.W.keepIn K (.ref f) = true ∧ Binds K fd ps []
theorem DefRM.up {P : Program} {w : World} {K : PySem.W.Frag} {mg : Str → Option Value} {base : Heap} {j k : Nat} {x : Str} {st : Stmt} {ps : List Str} {C : List W → Mem → Str → D → Prop} (F : DefRM P w K mg base j x st ps C) (h : j ≤ k) : DefRM P w K mg base k x st ps C := by
  obtain ⟨f, fd, G, r⟩ := F.ex
  exact ⟨f, fd, G.up h, r⟩
structure MetRM (P : Program) (w : World) (K : PySem.W.Frag) (mg : Str → Option Value) (base : Heap) (k : Nat) (C : Addr) (m : Str) (ps : List Str) (T : List W → Mem → Str → D → Prop) : Prop where
  ex : ∃ (f : Addr) (fd : FuncData), FnG P w K mg base (L2.CX P w) k f fd ps (spRM K mg T) ∧ Meth K C m f ∧ Binds K fd ps []
section
variable {P : Program} {w : World} {K : PySem.W.Frag} {mg : Str → Option Value} {base : Heap} {k : Nat} {f : Addr} {fd : FuncData} {ps N : List Str} {x qual m : Str} {params : Arguments} {body : List Stmt} {scope : Scope} {dvs : List V} {kws : List (Str × V)} {st : Stmt}
theorem fnRM_of {C : List W → Mem → Str → D → Prop} (F : FunD K x qual params body scope dvs kws f fd) (S : FnScope N ps scope) (len : ∀ ws M y d, C ws M y d → ws.length = ps.length)
    (hb : ∀ (cdv : Value) (A : Around) (outer : List Env) (s : Shared) (H : Hp) (E : XK) (ws : List W) (y : Str) (d : D) (M : Mem), Room k (cxR P w K mg base N qual scope f cdv A outer s H E).A → Gd (cxR P w K mg base N qual scope f cdv A outer s H E).A → C ws M y d → TkR (cxR P w K mg base N qual scope f cdv A outer s H E) H M y d →
      Sv (cxR P w K mg base N qual scope f cdv A outer s H E) H (ads M) body { nx := fun _ _ => False, rt := fun _ _ => False } (startW N ws) M) :
    FnG P w K mg base (L2.CX P w) (k + 1) f fd ps (spRM K mg C) := by
  refine fnG_of F S (fun vs H Q E h => ?_) fun cdv A outer s H vs Q E hr hg h => ?_
  · obtain ⟨M, ws, y, d, m, sw, hC, _⟩ := h
    rw [sw.length]
    exact len ws M y d hC
  · obtain ⟨M, ws, y, d, m, sw, hC, q⟩ := h
    refine ⟨_, p_rss, hb cdv A outer s H E ws y d M hr hg hC ⟨fun cls dd _ H' => E cls dd H', takes_of rfl rfl rfl rfl, fun cls dd σ1 H1 Ml bs1 m1 r1 => q cls dd H1 bs1.ext m1.dropL (r1.mv fun b hb => ads_sub b hb)⟩ (L2.start N vs) H _ (start_ok m sw) (Bs.refl H M) ⟨fun _ _ _ _ z => z.elim, fun _ _ _ _ z => z.elim, fun _ _ _ _ z => z.elim, fun _ _ _ _ z => z.elim⟩⟩
theorem DefRM.of {C : List W → Mem → Str → D → Prop} (F : Here K mg x st) (S : FnScope N ps (defScope st)) (hb : BindF x st ps) (len : ∀ ws M y d, C ws M y d → ws.length = ps.length)
    (body : ∀ (f : Addr) (cdv : Value) (A : Around) (outer : List Env) (s : Shared) (H : Hp) (E : XK) (ws : List W) (y : Str) (d : D) (M : Mem), Room k (cxR P w K mg base N x (defScope st) f cdv A outer s H E).A → Gd (cxR P w K mg base N x (defScope st) f cdv A outer s H E).A → C ws M y d → TkR (cxR P w K mg base N x (defScope st) f cdv A outer s H E) H M y d →
      Sv (cxR P w K mg base N x (defScope st) f cdv A outer s H E) H (ads M) (defBody st) { nx := fun _ _ => False, rt := fun _ _ => False } (startW N ws) M) :
    DefRM P w K mg base (k + 1) x st ps C := by
  obtain ⟨f, fd, FD, hm⟩ := F
  exact ⟨f, fd, fnRM_of FD S len (body f), hm, FD.kp, FD.bindsN hb⟩
theorem MetRM.of {Cl : Addr} {C : List W → Mem → Str → D → Prop} (F : HereM K Cl m qual st) (S : FnScope N ps (defScope st)) (hb : BindM m qual st ps) (len : ∀ ws M y d, C ws M y d → ws.length = ps.length)
    (body : ∀ (f : Addr) (cdv : Value) (A : Around) (outer : List Env) (s : Shared) (H : Hp) (E : XK) (ws : List W) (y : Str) (d : D) (M : Mem), Room k (cxR P w K mg base N qual (defScope st) f cdv A outer s H E).A → Gd (cxR P w K mg base N qual (defScope st) f cdv A outer s H E).A → C ws M y d → TkR (cxR P w K mg base N qual (defScope st) f cdv A outer s H E) H M y d →
      Sv (cxR P w K mg base N qual (defScope st) f cdv A outer s H E) H (ads M) (defBody st) { nx := fun _ _ => False, rt := fun _ _ => False } (startW N ws) M) :
    MetRM P w K mg base (k + 1) Cl m ps C := by
  obtain ⟨f, fd, FD, hm⟩ := F
  exact ⟨f, fd, fnRM_of FD S len (body f), hm, FD.bindsN hb⟩
end
section
variable {X : Cx} {Hb : Hp} {Ab : List Addr} {E : En} {ρ : Ro} {M M0 Ml : Mem} {e o : Expr} {es : List Expr} {p p' pos pos' apos : Pos} {x y m : Str} {d : D} {ws : List W} {k : Nat} {ps : List Str} {sd : Stmt} {B C : Addr} {w0 : W}
theorem EvXE.tk (h : EvXM X e ρ M x d) (tk : TkR X Hb M0 x d) (hM : M = Ml ++ M0) {σ : L2.St} {H : Hp} {Q : VK} (ok : Ok X.K H ρ M σ) (bs : Bs Hb (ads M0) H M) : rd X e σ H Q := by
  obtain ⟨W, t, hW⟩ := tk
  refine h σ H Q W ok t fun M' cls dd H' hΨ ea xx mm r => ?_
  subst hΨ
  subst hM
  exact hW cls dd σ H' Ml (bs.step ea xx) mm r
end
section
variable {X : Cx} {Hb : Hp} {Ab : List Addr} {E : En} {ρ : Ro} {M : Mem} {c e : Expr} {pos pos' : Pos} {x : Str} {d d1 : D} {a C : Addr} {kk : Nat} {Ψ : Mem → Prop}
end
end XB

/-! LR: == and != by a class's own __eq__, whatever stands right. -/
namespace PySem.W
open PySem PySem.Calls PyProof.Rows
section
variable {prog : Program} {w : World} {A A₀ : Around} {E : Value → Shared → Prop} {s : Shared} {K : Frag} {x C L f : Addr} {h₀ : Heap} {m : Str → Option Value} {ox : Obj} {od : Option Obj} {name : Str} {b tb : Value}
end
end PySem.W

namespace XB
open PySem PySem.Spec PyProof.Rows L2
theorem notFirst_ty (K : PySem.W.Frag) (C : Addr) (d : D) : PySem.W.notFirst K C (.type (tyD d)) = true := by
  have h : PySem.W.subIn K (.type (tyD d)) (.ref C) = some false := by
    show (fastBuiltinMro (tyD d)).map (·.contains (.ref C)) = some false
    cases d with
    | none => rw [show fastBuiltinMro (tyD (PyData.none)) = some [.type "NoneType", .type "object"] by decide +kernel]; rfl
    | bool b => rw [show fastBuiltinMro (tyD (PyData.bool b)) = some [.type "bool", .type "int", .type "object"] from (by decide +kernel : fastBuiltinMro "bool" = _)]; rfl
    | int i => rw [show fastBuiltinMro (tyD (PyData.int i)) = some [.type "int", .type "object"] from (by decide +kernel : fastBuiltinMro "int" = _)]; rfl
    | str x => rw [show fastBuiltinMro (tyD (PyData.str x)) = some [.type "str", .type "object"] from (by decide +kernel : fastBuiltinMro "str" = _)]; rfl
    | list x => rw [show fastBuiltinMro (tyD (PyData.list x)) = some [.type "list", .type "object"] from (by decide +kernel : fastBuiltinMro "list" = _)]; rfl
    | tuple x => rw [show fastBuiltinMro (tyD (PyData.tuple x)) = some [.type "tuple", .type "object"] from (by decide +kernel : fastBuiltinMro "tuple" = _)]; rfl
    | dict x => rw [show fastBuiltinMro (tyD (PyData.dict x)) = some [.type "dict", .type "object"] from (by decide +kernel : fastBuiltinMro "dict" = _)]; rfl
  unfold PySem.W.notFirst
  rw [h]
  simp
/-- what may stand right: an instance of the same class, or data -/
def TyL (K : PySem.W.Frag) (C : Addr) (H : Hp) (y : V) : Prop := (∃ b dy gs, y = .ref b ∧ H b = some (.ins C dy gs)) ∨ ∃ d : D, TyX K H y (.type (tyD d))
def rEqA (K : PySem.W.Frag) (C : Addr) (g : Bool → Bool) (sp : L2.Sp) (E : XK) : R2 := fun x y H Q => ∃ a dx fs, x = .ref a ∧ H a = some (.ins C dx fs) ∧ TyL K C H y ∧ sp [.ref a, y] H (fun v H' => ∃ r, v = .bl r ∧ Q (.bl (g r)) H') E
section
variable {X : Cx} {k : Nat} {C g : Addr} {fd : FuncData} {ps : List Str} {sp : L2.Sp} {E : XK} {CX : CXT}
theorem ty_looks {pins : List (Addr × Obj)} {σ : L2.St} {H : Hp} {s : Shared} {y : V} {u : Value} (I : Inv X pins σ H s) (ry : RelV y u) (t : TyL X.K C H y) : ∃ tb, (∀ M, PySem.W.Looks M s.heap (typeOf u) tb) ∧ PySem.W.notFirst X.K C tb = true := by
  rcases t with ⟨b, dy, gs, rfl, hb⟩ | ⟨d, t⟩
  · cases ry
    obtain ⟨mB, J, _⟩ := ins_get I.hok hb
    obtain ⟨od, J, _⟩ := J.look
    exact ⟨_, fun M => J.type, by simp [PySem.W.notFirst]⟩
  · obtain ⟨P, hK, hP, _⟩ := kit_of I ry t
    exact ⟨_, fun M => hK.ty M _ I.kIn hP, notFirst_ty X.K C d⟩
theorem op_eqA (hm : Meth X.K C "__eq__" g) (F : FnG X.prog X.w X.K X.mg X.base CX k g fd ps sp) (hr : Room k X.A) (hgd : Gd X.A) (hb : Binds X.K fd ps []) (hx : Passes CX X E) : OpR X (compareOp .Eq) (rEqA X.K C id sp E) := by
  intro pins s σ H x y v u Q I rx ry hq
  obtain ⟨a, dx, fs, rfl, ha, hy, hr'⟩ := hq
  show wpAny (model X.prog X.w) X.A (richCompare .Eq v u) (EP X pins σ Q) X.xe s
  cases rx
  obtain ⟨mA, J, _⟩ := ins_get I.hok ha
  obtain ⟨od, J, _⟩ := J.look
  obtain ⟨tb, hL, hn⟩ := ty_looks I ry hy
  obtain ⟨m, hF⟩ := I.fr
  refine PySem.W.cmp_K (op := .Eq) (tb := tb) hr.units0 hF I.ok.mod.kin J (hL _) hn hm.at_ hm.fn ?_
  have hl := F.len _ _ _ _ hr'
  have r2 : Vals [V.ref a, y] [Value.ref a, u] := .cons rfl (.cons ry .nil)
  refine wpAny_call (codeAny_mono (F.run X.A X.stack s H ⟨[.ref a, u], []⟩ [.ref a, u] [.ref a, y] _ E hr hgd I.env0 (by
    have := hb s [.ref a, u] I.kIn (by simpa using hl)
    simpa using this) r2 hr') fun r s' hq => ?_)
  cases r with
  | error e => exact hx pins σ H s e s' I hq
  | ok fl =>
    cases fl with
    | ret w =>
      obtain ⟨z, H', I', rz, r, ez, q⟩ := I.after hq
      subst ez
      cases rz
      exact ⟨.bl r, H', I', rfl, q⟩
    | next => exact False.elim hq
    | brk => exact False.elim hq
    | cont => exact False.elim hq
end
/-- what may stand right, owned as it is -/
def TyW (M : Mem) (C : Addr) (w2 : W) : Prop := (∃ b gs, w2 = .raw (.ref b) ∧ (b, Ow.ins C gs) ∈ M) ∨ ∃ d : D, w2 = .dat d
section
variable {X : Cx} {k : Nat} {C a : Addr} {b1 b2 : Expr} {ρ : Ro} {M : Mem} {pos : Pos} {T : Ct}
theorem Ev.cmpOwn {op : CmpOp} {g : Bool → Bool} {Φ : W → Mem → Prop} {E : XK} (O : OpR X (compareOp op) (rEqA X.K C g (spE X.K T) E)) (h1 : EvD X b1 ρ M (.raw (.ref a)))
    (h2 : EvG X b2 ρ M fun w2 ex M1 => TyW (ex ++ M1) C w2 ∧ (∃ fws, (a, Ow.ins C fws) ∈ ex ++ M1) ∧ T [.raw (.ref a), w2] (ex ++ M1) fun w M2 => ∃ r exx M3, w = .dat (.bool r) ∧ M2 = exx ++ M3 ∧ ads M3 = ads M ∧ Φ (.dat (.bool (g r))) M3)
    (hm : behindInMarks op b2 = false) : Ev X (.Compare b1 [op] [b2] pos) ρ M Φ := fun σ H Q ok q =>
  of_pe (pe_cmpR O p_rd p_rd hm) (h1 σ H _ ok fun x H1 s1 r1 => h2 σ H1 _ (ok.same s1) fun w2 ex M1 y H2 hΦ ea nx x2 m2 r2 => by
    have e1 : x = .ref a := r1
    subst e1
    obtain ⟨hT, ⟨fws, hf⟩, hC⟩ := hΦ
    obtain ⟨dx, fs, h1, _⟩ := m2.ok _ hf
    refine ⟨a, dx, fs, rfl, h1, ?_, ex ++ M1, [.raw (.ref a), w2], _, m2, .cons rfl (.cons r2 .nil), hC, fun w' M2 v H3 hΦ ea2 x3 m3 r3 => ?_⟩
    · rcases hT with ⟨b, gs, rfl, hb⟩ | ⟨d, rfl⟩
      · have e2 : y = .ref b := r2
        subst e2
        obtain ⟨dy, gs', h2, _⟩ := m2.ok _ hb
        exact .inl ⟨b, dy, gs', rfl, h2⟩
      · exact .inr ⟨d, Dd.ty r2⟩
    · obtain ⟨r, exx, M3, rfl, rfl, ea3, hΦ⟩ := hΦ
      refine ⟨r, Dd.bl_of r3, q _ M3 _ H3 hΦ ea3 (fun p u h hA => x3 p u (x2 p u (s1 p u h) hA) ?_) m3.dropL (.bl _)⟩
      rw [ads_app]
      intro z
      rcases List.mem_append.mp z with z | z
      · have := nx p z
        rw [s1 p u h] at this
        cases this
      · rw [ea] at z
        exact hA z)
/-- x == y -/
theorem Ev.eqO {Φ : W → Mem → Prop} (F : MetE X.prog X.w X.K X.mg X.base k C "__eq__" ["self", "other"] T) (hr : Room k X.A) (hg : Gd X.A) (h1 : EvD X b1 ρ M (.raw (.ref a)))
    (h2 : EvG X b2 ρ M fun w2 ex M1 => TyW (ex ++ M1) C w2 ∧ (∃ fws, (a, Ow.ins C fws) ∈ ex ++ M1) ∧ T [.raw (.ref a), w2] (ex ++ M1) fun w M2 => ∃ r exx M3, w = .dat (.bool r) ∧ M2 = exx ++ M3 ∧ ads M3 = ads M ∧ Φ (.dat (.bool r)) M3)
    (hm : behindInMarks CmpOp.Eq b2 = false := by first | exact nobehind _ (by decide) (by decide) | rfl) : Ev X (.Compare b1 [.Eq] [b2] pos) ρ M Φ := by
  obtain ⟨f, fd, G, hM, hb⟩ := F.ex
  exact Ev.cmpOwn (op_eqA (CX := CX0) (E := fun _ _ _ => False) hM G hr hg hb pass0) h1 h2 hm
end
end XB
namespace XB
open PySem PySem.Spec PyProof.Rows L2
/-! ### methods behind which more is owned -/
structure MetG (P : Program) (w : World) (K : PySem.W.Frag) (mg : Str → Option Value) (base : Heap) (k : Nat) (C : Addr) (m : Str) (ps : List Str) (T : CtG) : Prop where
  ex : ∃ (f : Addr) (fd : FuncData), FnG P w K mg base CX0 k f fd ps (spG K T) ∧ Meth K C m f ∧ Binds K fd ps []
theorem MetG.of {P : Program} {w : World} {K : PySem.W.Frag} {mg : Str → Option Value} {base : Heap} {k : Nat} {C : Addr} {m qual : Str} {N ps : List Str} {st : Stmt} {T : CtG} (F : HereM K C m qual st) (S : FnScope N ps (defScope st)) (hb : BindM m qual st ps) (len : ∀ ws M Φ, T ws M Φ → ws.length = ps.length)
    (body : ∀ (f : Addr) (cdv : Value) (A : Around) (outer : List Env) (s : Shared) (H : Hp) (E : XK) (ws : List W) (Φ : W → Mem → Mem → Prop) (M : Mem), Room k (cx0 P w K mg base N qual (defScope st) f cdv A outer s H E).A → Gd (cx0 P w K mg base N qual (defScope st) f cdv A outer s H E).A → T ws M Φ →
      Sv (cx0 P w K mg base N qual (defScope st) f cdv A outer s H E) H (ads M) (defBody st) { nx := fun _ _ => False, rt := fun r M1 => ∃ Ml M2, M1 = Ml ++ M2 ∧ ads M2 = ads M ∧ Φ r Ml M2 } (startW N ws) M) :
    MetG P w K mg base (k + 1) C m ps T := by
  obtain ⟨f, fd, FD, hm⟩ := F
  exact ⟨f, fd, fnGr_of FD S len (body f), hm, FD.bindsN hb⟩
section
variable {X : Cx} {k : Nat} {C a : Addr} {ps : List Str} {m : Str} {pos apos : Pos} {e o : Expr} {es : List Expr} {ρ : Ro} {M : Mem} {fws : List (Str × W)} {T : CtG}
end
end XB

/-! LS: tuple * int for 0 and 1; f(a new instance). -/
namespace L2
open PySem PySem.Spec PyProof.Rows
open AutoSeq1 (wpAny_loadPart')
open MeetsSeq MeetsSeq2 MeetsSeq3 SeqRoads2
section
variable {X : Cx}
end
end L2
namespace XB
open PySem PySem.Spec PyProof.Rows L2
section
variable {X : Cx} {ρ : Ro} {M : Mem} {a b : Expr} {pos : Pos}
end
end XB
namespace XB
open PySem PySem.Spec PyProof.Rows L2
section
variable {X : Cx} {k : Nat} {ps : List Str} {sd : Stmt} {x : Str} {p pos : Pos} {e : Expr} {ρ : Ro} {M : Mem}
end
end XB
namespace XB
open PySem PySem.Spec PyProof.Rows L2
/-! ### == and != by an own __eq__, both sides lent -/
section
variable {X : Cx} {k : Nat} {C : Addr} {b1 b2 : Expr} {ρ : Ro} {M : Mem} {pos : Pos} {T : List W → W → Prop} {w1 w2 : W} {r : Bool} {ws' : List W}
end
end XB

namespace XB
open PySem PySem.Spec PyProof.Rows L2
section
variable {X : Cx} {ρ : Ro} {M : Mem} {a b e : Expr} {p pos tpos p2 : Pos} {elts : List Expr} {kk : Nat}
end
end XB
namespace XB
open PySem PySem.Spec PyProof.Rows L2
section
variable {X : Cx} {Hb : Hp} {Ab : List Addr} {E : En} {ρ : Ro} {M : Mem} {a b c : Expr} {pos : Pos}
end
end XB
namespace XB
open PySem PySem.Spec PyProof.Rows L2
section
variable {X : Cx} {k : Nat} {ps : List Str} {sd : Stmt} {x : Str} {p pos : Pos} {e : Expr} {ρ : Ro} {M : Mem}
end
end XB

/-! LT: class methods called through the class, makings that raise, a told that throws the value away. -/
namespace XB
open PySem PySem.Spec PyProof.Rows L2
open LamX (CodeO TabB LamS lamCx lamEnv)

section
variable {P : Program} {w : World} {K : PySem.W.Frag} {mg : Str → Option Value} {base : Heap} {k : Nat} {ps N : List Str} {x qual m : Str} {st : Stmt} {Cl : Addr}
end
section
variable {X : Cx} {ps : List Str} {k : Nat} {e o : Expr} {es : List Expr} {ρ : Ro} {M : Mem} {ws : List W} {x m : Str} {d : D} {C : Addr} {pos apos p : Pos}
/-- what is new is thrown away -/
theorem EvI.drop {Φ : Addr → Mem → Mem → Prop} {Ψ : Mem → Prop} (h : EvI X e ρ M Φ) (hΨ : ∀ a ex M', Φ a ex M' → Ψ M') : Ev X e ρ M fun _ M1 => Ψ M1 := fun σ H Q ok q =>
  h σ H Q ok fun a ex M' H' hΦ ea nx x m => q (.raw (.ref a)) M' (.ref a) H' (hΨ a ex M' hΦ) ea x m.dropL rfl
end

/-! ### makings that raise -/
structure MakerRK (P : Program) (w : World) (K : PySem.W.Frag) (mg : Str → Option Value) (base : Heap) (k : Nat) (x : Str) (C : Addr) (ps : List Str) (kw : Str) (T : List W → Mem → Str → D → Prop) : Prop where
  ex : ∃ (f : Addr) (fd : FuncData), FnG P w K mg base (L2.CX P w) k f fd ps (spRM K mg T) ∧ Mk K C f ∧ KBn K fd ps 2 [kw] (fun us ws => us ++ ws) (fun vs zs => vs ++ zs)
  gC : mg x = some (.ref C)
section
variable {P : Program} {w : World} {K : PySem.W.Frag} {mg : Str → Option Value} {base : Heap} {k : Nat} {C : Addr} {ps N : List Str} {x qual kw : Str} {st : Stmt}
theorem MakerRK.of {T : List W → Mem → Str → D → Prop} (F : HereIK K mg x C qual st kw) (S : FnScope N ps (defScope st)) (len : ∀ ws M y d, T ws M y d → ws.length = ps.length)
    (hb1 : ∀ (D : Addr) (doc pm : Value) (an : Option Addr) (cdv ct a b c : Value), bindArgs (PySem.W.fnOf "__init__" qual (defArgs st) (defBody st) (defScope st) .none (.ref D) doc pm an cdv ct) ⟨[a, b], [(kw, c)]⟩ = pure (ps.zip [a, b, c]))
    (body : ∀ (f : Addr) (cdv : Value) (A : Around) (outer : List Env) (s : Shared) (H : Hp) (E : XK) (ws : List W) (y : Str) (d : D) (M : Mem), Room k (cxR P w K mg base N qual (defScope st) f cdv A outer s H E).A → Gd (cxR P w K mg base N qual (defScope st) f cdv A outer s H E).A → T ws M y d → TkR (cxR P w K mg base N qual (defScope st) f cdv A outer s H E) H M y d →
      Sv (cxR P w K mg base N qual (defScope st) f cdv A outer s H E) H (ads M) (defBody st) { nx := fun _ _ => False, rt := fun _ _ => False } (startW N ws) M) :
    MakerRK P w K mg base (k + 1) x C ps kw T := by
  obtain ⟨g, f, fd, a0, FD, hm, h0⟩ := F
  refine ⟨⟨f, fd, fnRM_of FD S len (body f), hm, ?_⟩, g⟩
  obtain ⟨mv, h⟩ := FD.kbinds0 2 [kw] [] (fun us mv ws => us ++ ws) (List.cons_ne_nil _ _) (fun q hq => absurd hq List.not_mem_nil) (fun r1 r2 r3 => r1.append r3) (fun D doc pm an cdv ct us mv ws l1 l2 l3 => match us, mv, ws, l1, l2, l3 with
      | [a, b], [], [c], _, _, _ => hb1 D doc pm an cdv ct a b c)
  exact h
end
section
variable {X : Cx} {k : Nat} {f C : Addr} {fd : FuncData} {ps ks : List Str} {sp : L2.Sp} {x kw y : Str} {d : D} {p pos : Pos} {e o : Expr} {ρ : Ro} {M : Mem} {n : Nat} {g : List Value → List Value → List Value} {gV : List V → List V → List V}
end

section
variable {X : Cx} {pins : List (Addr × Obj)} {σ : L2.St} {H : Hp} {s : Shared}
end
section
variable {X : Cx} {ρ : Ro} {M : Mem} {x a : Str} {st : Stmt} {N : List Str} {T : D → Prop} {k j : Nat} {r : D} {Ψ : Mem → Prop} {c P : Addr} {params : Arguments} {body : Expr} {scope : Scope} {p lpos pos : Pos}
end

section
variable {X : Cx} {Hb : Hp} {Ab : List Addr} {E : En} {ρ : Ro} {M : Mem} {e : Expr} {pos : Pos} {Ψ : Mem → Prop}
end
section
variable {X : Cx} {Hb : Hp} {Ab : List Addr} {E : En} {ρ : Ro} {M : Mem} {c e : Expr} {pos pos' : Pos} {x : Str} {d d1 : D} {a C : Addr} {kk : Nat} {Ψ : Mem → Prop}
end
end XB

/-! LU: x, y = a, b with a cell among the names. -/
namespace XB
open PySem PySem.Spec PyProof.Rows L2
section
variable {X : Cx} {Hb : Hp} {Ab : List Addr} {E : En} {ρ : Ro} {M : Mem} {a b : Expr} {pos : Pos}
end
end XB

/-! NK: repr of an int of any size below the interpreter's limit of digits, and of a pair of a text and such an int; * of great ints. -/
namespace XB
open PySem PySem.Spec PyProof.Rows L2
theorem ns_none {K : PySem.W.Frag} {h : Heap} {mg : Str → Option Value} {a : Addr} {n : Str} (X : K.In h) (G : h.Ns a mg) (e : PySem.W.nsIn K a n = some none) : mg n = none := by
  obtain ⟨o, es, ep, ho, hd, _, hf⟩ := G
  unfold PySem.W.nsIn at e
  split at e
  · rename_i c d es' n' sl q
    have := X _ _ q
    rw [ho] at this
    cases this
    cases hd
    split at e
    · cases e
    · rename_i he
      rw [← hf]
      unfold nsFind findBy
      rw [← Array.find?_toList, he]
      rfl
  · cases e
/-- no limit of digits was set -/
def DigM (K : PySem.W.Frag) : Prop := PySem.W.nsIn K cStatics "sys.int_max_str_digits" = some none
def digM (K : PySem.W.Frag) : Bool := match PySem.W.nsIn K cStatics "sys.int_max_str_digits" with
  | some none => true
  | _ => false
theorem dig_ok {K : PySem.W.Frag} (h : digM K = true) : DigM K := by
  unfold digM at h
  unfold DigM
  split at h
  · assumption
  · cases h
theorem noDigits {K : PySem.W.Frag} {h : Heap} (D : DigM K) (X : K.In h) (L : h.NoLimit) : h.NoDigits := by
  obtain ⟨mc, a, _⟩ := L
  exact ⟨mc, a, ns_none X a D⟩
section
variable {prog : Program} {w : World} {A : Around} {E : Value → Shared → Prop} {s : Shared} {a : Int} {t : Tok} {Q : Value → Shared → Prop}
theorem call_int_big (hn : s.heap.NoDigits) (hlt : a.natAbs < 10 ^ 4300) (h : Q (.str (toString a) s.toks) { s with toks := s.toks + 1 }) : wpAny (model prog w) A (call (.builtin "int.__repr__") [.int a t]) Q E s := by
  refine wpAny_call_entry F.slot_int_repr (typeIs_int s a t) F.entry_int_repr ?_ (F.args_int_repr_1 _)
  unfold Builtin.«int.__repr__»
  show wpAny _ _ (do let r ← Builtin.overDigitLimit? a; _) _ _ s
  refine wpAny_bind (overDigitLimit_any hn (fun _ => ?_) (fun hge => absurd hlt (Nat.not_lt.mpr hge)))
  exact wpAny_bind (wpAny_mkStr (wpAny_pure ⟨_, rfl, h⟩) (int_text_fits10 hlt))
theorem pyReprObj_big (hn : s.heap.NoDigits) (hlt : a.natAbs < 10 ^ 4300) (h : Q (.str (toString a) s.toks) { s with toks := s.toks + 1 }) : wpAny (model prog w) A (pyReprObj (.int a t)) Q E s := by
  unfold pyReprObj
  have hv : [Value.int a t].any Value.onHeap = false := rfl
  simp only [cRoomFor, hv, Bool.false_eq_true, if_false, pure_bind]
  refine wpAny_bind (wpAny_specialOf (name := Str.ofString "__repr__") (typeIs_int s a t) F.slot_int_repr.lookup ?_)
  refine wpAny_bind (m := callSpecialIfBound? (.int a t) (Str.ofString "__repr__")) (wpAny_callSpecialIfBound?_slot (name := Str.ofString "__repr__") (typeIs_int s a t) F.slot_int_repr (call_int_big hn hlt ?_))
  exact wpAny_bind (wpAny_isInstance (T := "str") (b := true) rfl isSubtype_str_str (wpAny_pure h))
theorem repr_of_big (hn : s.heap.NoDigits) (hlt : a.natAbs < 10 ^ 4300) (h : Q (.str (toString a) s.toks) { s with toks := s.toks + 1 }) : wpAny (model prog w) A (call (.builtin "repr") [.int a t]) Q E s := by
  refine Calls.call_function_entry F.kind_repr F.plain_repr F.entry_repr (F.args_repr1 _) ?_
  unfold Builtin.«repr»
  have hv : [Value.int a t].any Value.onHeap = false := rfl
  refine wpAny_bind (m := oneArg "repr" _) (wpAny_pure ?_)
  simp only [cRoomFor, hv, Bool.false_eq_true, if_false, pure_bind]
  refine wpAny_bind (wpAny_specialOf (name := Str.ofString "__repr__") (typeIs_int s a t) F.slot_int_repr.lookup ?_)
  refine wpAny_bind (m := callSpecialIfBound? (.int a t) (Str.ofString "__repr__")) (wpAny_callSpecialIfBound?_slot (name := Str.ofString "__repr__") (typeIs_int s a t) F.slot_int_repr (call_int_big hn hlt ?_))
  refine wpAny_bind (wpAny_isInstance (T := "str") (b := true) rfl isSubtype_str_str ?_)
  exact wpAny_pure ⟨_, rfl, h⟩
theorem ReprK.big {h₀ : Heap} {as : List Addr} {d : Nat} (hn : h₀.NoDigits) (hlt : a.natAbs < 10 ^ 4300) : ReprK prog w as h₀ d (.int a t) (toString a) := fun base hb A g E s Q hg hcl hu hk hQ => by
  have hn' : base ≤ sizeLine := by omega
  rw [pyReprUnder_leaf (v := .int a t) hn' (fun _ e => nomatch e)]
  unfold pyRepr
  exact wpAny_bind (pyReprObj_big (hn.keeps hk) hlt (wpAny_pure (hQ s.heap _ fun _ _ e => e)))
end
theorem readsAll_cons {h : Heap} {l : List Value} {d : D} {ds : List D} {as : List Addr} (r : ReadsAll h l (d :: ds) as) : ∃ v l' a1 a2, l = v :: l' ∧ Reads h v d a1 ∧ ReadsAll h l' ds a2 := by
  cases r with
  | cons r rs => exact ⟨_, _, _, _, rfl, r, rs⟩
theorem readsAll_nil {h : Heap} {l : List Value} {as : List Addr} (r : ReadsAll h l [] as) : l = [] := by
  cases r
  rfl
theorem reads_str {h : Heap} {v : Value} {x : Str} {as : List Addr} (r : Reads h v (.str x) as) : ∃ t, v = .str x t := by
  cases r
  exact ⟨_, rfl⟩
theorem reads_int {h : Heap} {v : Value} {i : Int} {as : List Addr} (r : Reads h v (.int i) as) : ∃ t, v = .int i t := by
  cases r
  exact ⟨_, rfl⟩
theorem call_reprI {X : Cx} {i : Int} (D : DigM X.K) (hi : i.natAbs < 10 ^ 4300) : CallR X (.builtin "repr") (fun xs H Q => xs = [.int i] ∧ Q (.str (toString i)) H) := by
  intro pins s σ H xs us Q I r h
  obtain ⟨rfl, q⟩ := h
  obtain ⟨u, rfl, t, rfl⟩ := vals1 r
  exact repr_of_big (noDigits D I.kIn I.nolimit) hi ⟨.str _, H, I.tok _, ⟨_, rfl⟩, q⟩
theorem call_repr2 {X : Cx} {A : List Addr} {x : Str} {i : Int} (D : DigM X.K) (S : SysM X.K) (hg : Gd X.A) (hu : X.A.units + 2 < cLine) (hi : i.natAbs < 10 ^ 4300) (hx : (reprText x).length ≤ sizeLine) (hz : (PyData.shown (.tuple [.str x, .int i])).length ≤ sizeLine) :
    CallR X (.builtin "repr") (fun xs H Q => ∃ v, xs = [v] ∧ Dd X.K H A v (.tuple [.str x, .int i]) ∧ Q (.str (PyData.shown (.tuple [.str x, .int i]))) H) := by
  intro pins s σ H xs us Q I r h
  obtain ⟨v, rfl, dp, q⟩ := h
  cases r with
  | cons rv rr =>
    cases rr
    rename_i u
    have nd := noDigits D I.kIn I.nolimit
    obtain ⟨as, rr, na⟩ := Dd.reads I S dp rv
    cases rr with
    | tuple h1 h2 h3 h4 =>
      rename_i a o vs n
      obtain ⟨l⟩ := vs
      have h4 : ReadsAll s.heap l [.str x, .int i] as := h4
      obtain ⟨v1, l1, _, _, rfl, r1, h5⟩ := readsAll_cons h4
      obtain ⟨v2, l2, _, _, rfl, r2, h6⟩ := readsAll_cons h5
      obtain rfl := readsAll_nil h6
      obtain ⟨t1, rfl⟩ := reads_str r1
      obtain ⟨t2, rfl⟩ := reads_int r2
      have hk : ReprAllK X.prog X.w [] s.heap 0 [.str x t1, .int i t2] [reprText x, toString i] := .cons (.of_is (ReprIs.str x t1 hx) _ _ _) (.cons (ReprK.big nd hi) .nil)
      exact call_repr_slot (by omega) ⟨o, h1, h2⟩ F.slot_tuple_repr (call_tuple_reprK h1 h2 h3 List.not_mem_nil hk hg (fun b _ => Clear.nil b) (by show X.A.units + 1 + 1 < cLine; omega) (fun _ _ e => e) (fun h' u tk hk2 => ⟨_, _, rfl, ⟨.str _, H, I.kept hk2, ⟨u, rfl⟩, q⟩⟩) hz)
section
variable {X : Cx} {e a b : Expr} {ρ : Ro} {M : Mem} {p pos : Pos} {k : Nat} {i j : Int} {Φ : W → Mem → Prop}
/-- repr(i) -/
theorem ev_reprI (D : DigM X.K) (hm : X.mg "repr" = none) (he : EvD X e ρ M (.dat (.int i))) (hi : i.natAbs < 10 ^ 4300) (hgl : Gl X "repr" := by rfl) (hs : starEach [e] X.env = (false, eval e X.env) :: starEach [] X.env := by rfl) (hpl : (backTo pos (starEach [] X.env)).any (·.1) = false := by rfl) :
    EvD X (.Call (.Name "repr" p) [e] [] pos) ρ M (.dat (.str (toString i))) := fun σ H Q ok q =>
  of_pe (pe_callB (call_reprI D hi) hgl hm (by decide +kernel) (pa_cons p_rd pa_nil hs) (by decide) (by decide) hs hpl) (he σ H _ ok fun v H1 s1 r1 => ⟨by rw [Dd.int_of r1], q _ H1 s1 (.str _)⟩)
/-- repr((x, i)) -/
theorem Ev.repr2 {x : Str} (D : DigM X.K) (S : SysM X.K) (hg : Gd X.A) (hr : Room k X.A) (hm : X.mg "repr" = none) (hi : i.natAbs < 10 ^ 4300) (hx : (reprText x).length ≤ sizeLine) (hz : (PyData.shown (.tuple [.str x, .int i])).length ≤ sizeLine) (h : Ev X e ρ M fun w M1 => w = .dat (.tuple [.str x, .int i]) ∧ Φ (.dat (.str (PyData.shown (.tuple [.str x, .int i])))) M1)
    (hgl : Gl X "repr" := by rfl) (hs : starEach [e] X.env = (false, eval e X.env) :: starEach [] X.env := by rfl) (hpl : (backTo pos (starEach [] X.env)).any (·.1) = false := by rfl) :
    Ev X (.Call (.Name "repr" p) [e] [] pos) ρ M Φ := fun σ H Q ok q =>
  of_pe (pe_callB (call_repr2 (A := ads M) D S hg (by have := hr.units; omega) hi hx hz) hgl hm (by decide +kernel) (pa_cons p_rd pa_nil hs) (by decide) (by decide) hs hpl) (h σ H _ ok fun w M1 v H1 h1 ea1 x1 m1 r1 => by
    obtain ⟨rfl, hΦ⟩ := h1
    exact ⟨v, rfl, r1, q _ M1 _ H1 hΦ ea1 x1 m1 (.str _)⟩)
/-- i * j, great ints -/
theorem ev_mulW (ha : EvD X a ρ M (.dat (.int i))) (hb : EvD X b ρ M (.dat (.int j))) (hc : CMulW i j) : EvD X (.BinOp a .Mult b pos) ρ M (.dat (.int (i * j))) := ev_opI op_mulW ha hb hc
end
end XB

namespace Hd
open PySem PySem.Spec PyProof.Rows L2
def top (i : Nat) : Stmt := PySem.Challenge.pw_xorbanks_k10_values_of_polynomials.main.body.getD i (.Pass ⟨0, 0, 0, 0⟩)
abbrev s_is_int : Stmt := top 11
abbrev s_value_of : Stmt := top 13
abbrev s_check_coefficients : Stmt := top 14
abbrev s_value_at : Stmt := top 15
abbrev s__law_box : Stmt := top 17
abbrev s__law_take : Stmt := top 18
abbrev s__law_of : Stmt := top 19
abbrev s__law_any : Stmt := top 20
abbrev s__law_bent : Stmt := top 21
abbrev s__law_told : Stmt := top 22
abbrev s__law_is_whole : Stmt := top 23
abbrev s__law_number : Stmt := top 24
abbrev s__law_value : Stmt := top 25
abbrev s__law_right : Stmt := top 26
abbrev s_law : Stmt := top 27
def d_is_int : He.DefD := ⟨("is_int", none), "is_int", "is_int", defArgs s_is_int, defBody s_is_int, defScope s_is_int, [], []⟩
def d_value_of : He.DefD := ⟨("value_of", none), "value_of", "value_of", defArgs s_value_of, defBody s_value_of, defScope s_value_of, [], []⟩
def d_check_coefficients : He.DefD := ⟨("check_coefficients", none), "check_coefficients", "check_coefficients", defArgs s_check_coefficients, defBody s_check_coefficients, defScope s_check_coefficients, [], []⟩
def d_value_at : He.DefD := ⟨("value_at", none), "value_at", "value_at", defArgs s_value_at, defBody s_value_at, defScope s_value_at, [], []⟩
def d__law_box : He.DefD := ⟨("_law_box", none), "_law_box", "_law_box", defArgs s__law_box, defBody s__law_box, defScope s__law_box, [], []⟩
def d__law_take : He.DefD := ⟨("_law_take", none), "_law_take", "_law_take", defArgs s__law_take, defBody s__law_take, defScope s__law_take, [], []⟩
def d__law_of : He.DefD := ⟨("_law_of", none), "_law_of", "_law_of", defArgs s__law_of, defBody s__law_of, defScope s__law_of, [], []⟩
def d__law_any : He.DefD := ⟨("_law_any", none), "_law_any", "_law_any", defArgs s__law_any, defBody s__law_any, defScope s__law_any, [], []⟩
def d__law_bent : He.DefD := ⟨("_law_bent", none), "_law_bent", "_law_bent", defArgs s__law_bent, defBody s__law_bent, defScope s__law_bent, [], []⟩
def d__law_told : He.DefD := ⟨("_law_told", none), "_law_told", "_law_told", defArgs s__law_told, defBody s__law_told, defScope s__law_told, [], []⟩
def d__law_is_whole : He.DefD := ⟨("_law_is_whole", none), "_law_is_whole", "_law_is_whole", defArgs s__law_is_whole, defBody s__law_is_whole, defScope s__law_is_whole, [], []⟩
def d__law_number : He.DefD := ⟨("_law_number", none), "_law_number", "_law_number", defArgs s__law_number, defBody s__law_number, defScope s__law_number, [], []⟩
def d__law_value : He.DefD := ⟨("_law_value", none), "_law_value", "_law_value", defArgs s__law_value, defBody s__law_value, defScope s__law_value, [], []⟩
def d__law_right : He.DefD := ⟨("_law_right", none), "_law_right", "_law_right", defArgs s__law_right, defBody s__law_right, defScope s__law_right, [], []⟩
def d_law : He.DefD := ⟨("law", none), "law", "law", defArgs s_law, defBody s_law, defScope s_law, [], []⟩
def gn : List XB.DefA := []
def exy (K : PySem.W.Frag) : Bool := XB.digM K && (true)
abbrev s_BankError : Stmt := top 1
abbrev s_InvalidWidth : Stmt := top 2
def d_InvalidWidth : He.DefD := ⟨("InvalidWidth", some "__init__"), "__init__", "InvalidWidth.__init__", defArgs (XB.clsDef s_InvalidWidth), defBody (XB.clsDef s_InvalidWidth), defScope (XB.clsDef s_InvalidWidth), [], []⟩
abbrev s_InvalidVectors : Stmt := top 3
def d_InvalidVectors : He.DefD := ⟨("InvalidVectors", some "__init__"), "__init__", "InvalidVectors.__init__", defArgs (XB.clsDef s_InvalidVectors), defBody (XB.clsDef s_InvalidVectors), defScope (XB.clsDef s_InvalidVectors), [], []⟩
abbrev s_InvalidAddress : Stmt := top 4
def d_InvalidAddress : He.DefD := ⟨("InvalidAddress", some "__init__"), "__init__", "InvalidAddress.__init__", defArgs (XB.clsDef s_InvalidAddress), defBody (XB.clsDef s_InvalidAddress), defScope (XB.clsDef s_InvalidAddress), [], []⟩
abbrev s_InvalidDifferences : Stmt := top 5
def d_InvalidDifferences : He.DefD := ⟨("InvalidDifferences", some "__init__"), "__init__", "InvalidDifferences.__init__", defArgs (XB.clsDef s_InvalidDifferences), defBody (XB.clsDef s_InvalidDifferences), defScope (XB.clsDef s_InvalidDifferences), [], []⟩
abbrev s_InvalidBits : Stmt := top 6
def d_InvalidBits : He.DefD := ⟨("InvalidBits", some "__init__"), "__init__", "InvalidBits.__init__", defArgs (XB.clsDef s_InvalidBits), defBody (XB.clsDef s_InvalidBits), defScope (XB.clsDef s_InvalidBits), [], []⟩
abbrev s_InvalidNumber : Stmt := top 7
def d_InvalidNumber : He.DefD := ⟨("InvalidNumber", some "__init__"), "__init__", "InvalidNumber.__init__", defArgs (XB.clsDef s_InvalidNumber), defBody (XB.clsDef s_InvalidNumber), defScope (XB.clsDef s_InvalidNumber), [], []⟩
abbrev s_NotIncluded : Stmt := top 8
def d_NotIncluded : He.DefD := ⟨("NotIncluded", some "__init__"), "__init__", "NotIncluded.__init__", defArgs (XB.clsDef s_NotIncluded), defBody (XB.clsDef s_NotIncluded), defScope (XB.clsDef s_NotIncluded), [], []⟩
abbrev s_TooMany : Stmt := top 9
def d_TooMany : He.DefD := ⟨("TooMany", some "__init__"), "__init__", "TooMany.__init__", defArgs (XB.clsDef s_TooMany), defBody (XB.clsDef s_TooMany), defScope (XB.clsDef s_TooMany), [], []⟩
def errs : List PySem.Str := ["InvalidWidth", "InvalidVectors", "InvalidAddress", "InvalidDifferences", "InvalidBits", "InvalidNumber", "NotIncluded", "TooMany"]
def tf : List He.Defn := [("_law_right", none)]
def fn0 : List He.DefD := [d_is_int, d_value_of, d_check_coefficients, d_value_at, d__law_box, d__law_take, d__law_of, d__law_any, d__law_bent, d__law_told, d__law_is_whole, d__law_number, d__law_value, d__law_right, d_law, d_InvalidWidth, d_InvalidVectors, d_InvalidAddress, d_InvalidDifferences, d_InvalidBits, d_InvalidNumber, d_NotIncluded, d_TooMany]
def fn : List He.DefD := fn0
def fa0 : List He.Fa := [.glo "is_int", .glo "value_of", .glo "check_coefficients", .glo "value_at", .glo "_law_box", .glo "_law_take", .glo "_law_of", .glo "_law_any", .glo "_law_bent", .glo "_law_told", .glo "_law_is_whole", .glo "_law_number", .glo "_law_value", .glo "_law_right", .glo "law", .free "ValueError", .free "abs", .free "all", .free "bool", .free "int", .free "isinstance", .free "len", .free "list", .free "max", .free "min", .free "range", .free "repr", .free "str", .free "super", .free "tuple"]
def fa : List He.Fa := fa0
abbrev R : PySem.W.OpenRow := PySem.W.OpenLaw.row PySem.Challenge.rw_xorbanks_k10_values_of_polynomials
abbrev ex (K : PySem.W.Frag) : Bool := XB.exZ errs tf PySem.Challenge.pw_xorbanks_k10_values_of_polynomials.main.file K && exy K
abbrev hk : PySem.W.Hook := XB.hookY 5 fa fn gn tf ex 5 "BankError.__init__" (defArgs (XB.clsDef s_BankError))
def ob (s : PySem.W.SharedT) : XB.AlY := XB.obsY 5 fa fn gn tf ex (HandSHeadRun.getT s)
theorem ob_eq (s : PySem.W.SharedT) : ob s = hk.obs s.abs := XB.obsY_eq (HandSHeadRun.getT_eq s)
def loose0 : List PySem.Str := ["BankError", "InvalidWidth", "InvalidVectors", "InvalidAddress", "InvalidDifferences", "InvalidBits", "InvalidNumber", "NotIncluded", "TooMany", "is_int", "value_of", "check_coefficients", "value_at", "_law_box", "_law_take", "_law_of", "_law_any", "_law_bent", "_law_told", "_law_is_whole", "_law_number", "_law_value", "_law_right"]
def loose : List PySem.Str := loose0
set_option maxHeartbeats 0 in
theorem run (w : World) : HandSHeadRun.RunEq R (PySem.W.view R.prog [27]) hk ob 6000 loose w := by
  intro os
  kernel_rfl
end Hd

namespace Lw
open PySem PySem.Spec PyProof.Rows L2 XB Hd
abbrev n_is_int : List Str := ["value"]
theorem sc_is_int : FnScope n_is_int ["value"] (defScope s_is_int) := ⟨rfl, rfl, rfl, by decide +kernel, rfl, by decide +kernel, by decide +kernel⟩
abbrev n_value_of : List Str := ["coefficients", "number", "found", "coefficient"]
theorem sc_value_of : FnScope n_value_of ["coefficients", "number"] (defScope s_value_of) := ⟨rfl, rfl, rfl, by decide +kernel, rfl, by decide +kernel, by decide +kernel⟩
abbrev n_check_coefficients : List Str := ["coefficients", "one"]
theorem sc_check_coefficients : FnScope n_check_coefficients ["coefficients"] (defScope s_check_coefficients) := ⟨rfl, rfl, rfl, by decide +kernel, rfl, by decide +kernel, by decide +kernel⟩
abbrev n_value_at : List Str := ["coefficients", "number"]
theorem sc_value_at : FnScope n_value_at ["coefficients", "number"] (defScope s_value_at) := ⟨rfl, rfl, rfl, by decide +kernel, rfl, by decide +kernel, by decide +kernel⟩
abbrev n__law_box : List Str := ["_law_script", "_law_k", "_law_cell", "_law_own"]
theorem sc__law_box : FnScope n__law_box ["_law_script", "_law_k"] (defScope s__law_box) := ⟨rfl, rfl, rfl, by decide +kernel, rfl, by decide +kernel, by decide +kernel⟩
abbrev n__law_take : List Str := ["_law_box_here", "_law_many", "_law_digit", "_law_mixed"]
theorem sc__law_take : FnScope n__law_take ["_law_box_here", "_law_many"] (defScope s__law_take) := ⟨rfl, rfl, rfl, by decide +kernel, rfl, by decide +kernel, by decide +kernel⟩
abbrev n__law_of : List Str := ["_law_box_here", "_law_some"]
theorem sc__law_of : FnScope n__law_of ["_law_box_here", "_law_some"] (defScope s__law_of) := ⟨rfl, rfl, rfl, by decide +kernel, rfl, by decide +kernel, by decide +kernel⟩
abbrev n__law_any : List Str := ["_law_box_here", "_law_some", "_law_found", "_law_turn"]
theorem sc__law_any : FnScope n__law_any ["_law_box_here"] (defScope s__law_any) := ⟨rfl, rfl, rfl, by decide +kernel, rfl, by decide +kernel, by decide +kernel⟩
abbrev n__law_bent : List Str := ["_law_box_here", "_law_thing", "_law_at", "_law_odd"]
theorem sc__law_bent : FnScope n__law_bent ["_law_box_here", "_law_thing"] (defScope s__law_bent) := ⟨rfl, rfl, rfl, by decide +kernel, rfl, by decide +kernel, by decide +kernel⟩
abbrev n__law_told : List Str := ["_law_ask", "_law_caught", "_law_found", "error", "_law_marks", "_law_words"]
theorem sc__law_told : FnScope n__law_told ["_law_ask"] (defScope s__law_told) := ⟨rfl, rfl, rfl, by decide +kernel, rfl, by decide +kernel, by decide +kernel⟩
abbrev n__law_is_whole : List Str := ["_law_thing"]
theorem sc__law_is_whole : FnScope n__law_is_whole ["_law_thing"] (defScope s__law_is_whole) := ⟨rfl, rfl, rfl, by decide +kernel, rfl, by decide +kernel, by decide +kernel⟩
abbrev n__law_number : List Str := ["_law_box_here", "_law_sign"]
theorem sc__law_number : FnScope n__law_number ["_law_box_here"] (defScope s__law_number) := ⟨rfl, rfl, rfl, by decide +kernel, rfl, by decide +kernel, by decide +kernel⟩
abbrev n__law_value : List Str := ["_law_row", "_law_spot", "_law_found", "_law_power", "_law_one"]
theorem sc__law_value : FnScope n__law_value ["_law_row", "_law_spot"] (defScope s__law_value) := ⟨rfl, rfl, rfl, by decide +kernel, rfl, by decide +kernel, by decide +kernel⟩
abbrev n__law_right : List Str := ["_law_box_here", "_law_row", "_law_turn", "_law_spot", "_law_due", "_law_one"]
theorem sc__law_right : FnScope n__law_right ["_law_box_here"] (defScope s__law_right) := ⟨rfl, rfl, rfl, by decide +kernel, rfl, by decide +kernel, by decide +kernel⟩
abbrev n_law : List Str := ["_law_script", "_law_k", "_law_box_here", "_law_turn"]
theorem sc_law : FnScope n_law ["_law_script"] (defScope s_law) := ⟨rfl, rfl, rfl, by decide +kernel, rfl, by decide +kernel, by decide +kernel⟩
structure Env (K : PySem.W.Frag) (mg : Str → Option Value) : Prop where
  h_is_int : Here K mg "is_int" s_is_int
  h_value_of : Here K mg "value_of" s_value_of
  h_check_coefficients : Here K mg "check_coefficients" s_check_coefficients
  h_value_at : Here K mg "value_at" s_value_at
  h__law_box : Here K mg "_law_box" s__law_box
  h__law_take : Here K mg "_law_take" s__law_take
  h__law_of : Here K mg "_law_of" s__law_of
  h__law_any : Here K mg "_law_any" s__law_any
  h__law_bent : Here K mg "_law_bent" s__law_bent
  h__law_told : Here K mg "_law_told" s__law_told
  h__law_is_whole : Here K mg "_law_is_whole" s__law_is_whole
  h__law_number : Here K mg "_law_number" s__law_number
  h__law_value : Here K mg "_law_value" s__law_value
  h__law_right : Here K mg "_law_right" s__law_right
  h_law : Here K mg "law" s_law
  b_ValueError : mg "ValueError" = none
  b_abs : mg "abs" = none
  b_all : mg "all" = none
  b_bool : mg "bool" = none
  b_int : mg "int" = none
  b_isinstance : mg "isinstance" = none
  b_len : mg "len" = none
  b_list : mg "list" = none
  b_max : mg "max" = none
  b_min : mg "min" = none
  b_range : mg "range" = none
  b_repr : mg "repr" = none
  b_str : mg "str" = none
  b_super : mg "super" = none
  b_tuple : mg "tuple" = none
  dg : XB.DigM K
end Lw

/-! ### the box: a cell of the script, drawn from -/
namespace Lw
open PySem PySem.Spec PyProof.Rows L2 XB Hd
section
variable {P : Program} {w : World} {K : PySem.W.Frag} {mg : Str → Option Value} {base : Heap}
def cellOf (ns : List Int) (k : Int) : Int := if k < (ns.length : Int) then ns.getD k.toNat 0 else 23 * k + 8
def boxO (ns : List Int) (k : Int) : Int := (if cellOf ns k < 0 then -cellOf ns k else cellOf ns k) % (10 ^ 60) ^ 5 * (if decide (10 ^ 18 ≤ (if cellOf ns k < 0 then -cellOf ns k else cellOf ns k)) = true then 1 else 0)
def boxM (ns : List Int) (k : Int) : Int := (cellOf ns k % 2305843009213693951 * 70001 + 6007 * k * k + 59) % 2305843009213693921
def bx (o m t : Int) : Ow := .lst [.int o, .int m, .int t]
structure BxOk (o m t : Int) : Prop where
  o0 : 0 ≤ o
  m0 : 0 ≤ m
  m1 : m < 2305843009213693921
  t0 : 0 ≤ t
theorem boxO_ok (ns : List Int) (k : Int) : 0 ≤ boxO ns k := by
  unfold boxO
  generalize (if cellOf ns k < 0 then -cellOf ns k else cellOf ns k) = c
  have h : (0 : Int) ≤ c % (10 ^ 60) ^ 5 := Int.emod_nonneg _ (by decide +kernel)
  split
  · rw [Int.mul_one]; exact h
  · rw [Int.mul_zero]; exact Int.le_refl 0
theorem boxM_ok (ns : List Int) (k : Int) : 0 ≤ boxM ns k ∧ boxM ns k < 2305843009213693921 := ⟨Int.emod_nonneg _ (by decide), Int.emod_lt_of_pos _ (by decide)⟩
def CBox : List W → List D → Prop := fun ws ds => ∃ (ns : List Int) (k : Int), ws = [.dat (.list (ns.map .int)), .dat (.int k)] ∧ 0 ≤ k ∧ k < 1000 ∧ ds = [.int (boxO ns k), .int (boxM ns k), .int 0]
theorem ok_box (e : Env K mg) : DefN P w K mg base 1 "_law_box" s__law_box ["_law_script", "_law_k"] CBox := by
  refine DefN.of e.h__law_box sc__law_box (fun _ _ _ _ _ _ us hl => match us, hl with | [_, _], _ => rfl) (by rintro ws r ⟨_, _, rfl, _⟩; rfl) ?_
  rintro f cdv A outer s H E ws ds M hr hg ⟨ns, k, rfl, h0, h1, rfl⟩
  refine sv_cons (s1_set 2 (w := .dat (.int (cellOf ns k))) (ev_if (et_lt (ev_v 1) (ev_lenL e.b_len (ev_v 0).l)) (fun h => ev_ixL (ev_v 0).l (ev_v 1) ?_) fun h => ?_) ?_ sc__law_box.nd)
  · have h' := of_decide_eq_true h
    rw [List.length_map] at h'
    unfold cellOf
    rw [if_pos h']
    obtain ⟨j, rfl⟩ := Int.eq_ofNat_of_zero_le h0
    have hj : j < ns.length := by omega
    refine atI_nat ?_
    rw [List.getElem?_map, List.getElem?_eq_getElem hj]
    show some (PyData.int ns[j]) = some (.int (ns.getD (Int.toNat (j : Int)) 0))
    rw [Int.toNat_natCast, List.getD_eq_getElem?_getD, List.getElem?_eq_getElem hj]
    rfl
  · have h' := of_decide_eq_false h
    rw [List.length_map] at h'
    unfold cellOf
    rw [if_neg h']
    exact ev_add (ev_mul ev_int (ev_v 1) (.inl ⟨by decide, by decide⟩)) ev_int
  refine sv_cons (s1_set 3 (ev_mul (ev_mod (ev_abs e.b_abs (ev_v 2)) (ev_opI op_powW (ev_pow ev_int ev_int ⟨by decide, by decide, by decide⟩) ev_int ⟨by decide, by decide, by decide, by decide +kernel⟩) (by decide +kernel))
    (ev_intB e.b_int (ev_ge (ev_abs e.b_abs (ev_v 2)) (ev_pow ev_int ev_int ⟨by decide, by decide, by decide⟩))) (.inr ?_)) ?_ sc__law_box.nd)
  · have hz : ∀ b : Bool, (-(2 ^ 64) < (if b = true then (1 : Int) else 0)) ∧ (if b = true then (1 : Int) else 0) < 2 ^ 64 := by decide
    exact hz _
  refine sv_one (s1_retN (en_lst (ds := [.int (boxO ns k), .int (boxM ns k), .int 0]) (ea_cons (ev_v 3) (ea_cons (ev_mod (ev_add (ev_add (ev_mul (ev_mod (ev_v 2) ev_int (by decide)) ev_int (.inr (by decide))) (ev_mul (ev_mul ev_int (ev_v 1) (.inl (by decide))) (ev_v 1) (.inr (by omega)))) ev_int) ev_int (by decide))
    (ea_cons ev_int ea_nil)))) fun p np => ⟨p, [], np, rfl, rfl⟩)
def CTake : Ct := fun ws M Φ => ∃ (k : Nat) (a : Addr) (o m t n : Int), ws = [.raw (.ref a), .dat (.int n)] ∧ M[k]? = some (a, bx o m t) ∧ 0 < n ∧ n < 2 ^ 2000 ∧ BxOk o m t ∧ t < 1099511627776 ∧
  ∀ d o' m' t', 0 ≤ d → d < n → BxOk o' m' t' → t' ≤ t + 1 → Φ (.dat (.int d)) (M.set k (a, bx o' m' t'))
theorem ok_take (e : Env K mg) : DefE P w K mg base 1 "_law_take" s__law_take ["_law_box_here", "_law_many"] CTake := by
  refine DefE.of e.h__law_take sc__law_take (fun _ _ _ _ _ _ us hl => match us, hl with | [_, _], _ => rfl) (by rintro ws M r ⟨_, _, _, _, _, _, rfl, _⟩; rfl) ?_
  rintro f cdv A outer s H E ws Φ M hr hg ⟨k, a, o, m, t, n, rfl, hk, hn0, hn1, hb, ht, q⟩
  have hmem : (a, Ow.lst [.int o, .int m, .int t]) ∈ M := List.mem_of_getElem? hk
  refine sv_cons (s1_if (et_gt (ev_ixL (EvD.own (ev_v 0) hmem) ev_int rfl) ev_int) (fun h => ?_) fun h => sv_nil ?_)
  · have ho : 0 < o := of_decide_eq_true h
    refine sv_cons (s1_set 2 (ev_mod (ev_ixL (EvD.own (ev_v 0) hmem) ev_int rfl) (ev_v 1) hn0) ?_ sc__law_take.nd)
    refine sv_cons (s1_setitem k (ev_opI op_fdivW (ev_ixL (EvD.own (ev_v 0) hmem) ev_int rfl) (ev_v 1) (wide_div hn0 (b := 2000) ?_ (by decide) (by decide))) (ev_v 0) ev_int rfl ?_ hk)
    · have h2 : ((n.natAbs : Nat) : Int) < ((2 ^ 2000 : Nat) : Int) := by
        rw [Int.natAbs_of_nonneg (Int.le_of_lt hn0)]
        exact hn1
      exact Int.ofNat_lt.mp h2
    refine sv_one (s1_ret (ev_v 2) ⟨[], _, rfl, ads_set hk, q _ (o / n) m t (Int.emod_nonneg _ (by omega)) (Int.emod_lt_of_pos _ hn0) ⟨Int.ediv_nonneg hb.o0 (by omega), hb.m0, hb.m1, hb.t0⟩ (by omega)⟩)
  · refine sv_cons (s1_setitem k (ev_add (ev_ixL (EvD.own (ev_v 0) hmem) ev_int rfl) ev_int) (ev_v 0) ev_int rfl ?_ hk)
    have hk1 : (M.set k (a, Ow.lst [.int o, .int m, .int (t + 1)]))[k]? = some (a, Ow.lst [.int o, .int m, .int (t + 1)]) := List.getElem?_set_self (List.getElem?_eq_some_iff.mp hk).1
    have hmem1 : (a, Ow.lst [.int o, .int m, .int (t + 1)]) ∈ M.set k (a, Ow.lst [.int o, .int m, .int (t + 1)]) := List.mem_of_getElem? hk1
    have t0 := hb.t0
    have m0 := hb.m0
    have m1 := hb.m1
    refine sv_cons (s1_set 3 (ev_mod (ev_mul (ev_add (ev_add (ev_ixL (EvD.own (ev_v 0) hmem1) ev_int rfl) (ev_mul (ev_mul ev_int (ev_ixL (EvD.own (ev_v 0) hmem1) ev_int rfl) (.inl (by decide))) (ev_ixL (EvD.own (ev_v 0) hmem1) ev_int rfl) (.inr (by omega)))) ev_int) ev_int (.inr (by decide))) ev_int (by decide)) ?_ sc__law_take.nd)
    generalize hx : (m + 65551 * (t + 1) * (t + 1) + 17) * 48299 % 2305843009213693921 = x
    have x0 : 0 ≤ x := by rw [← hx]; exact Int.emod_nonneg _ (by decide)
    have x1 : x < 2305843009213693921 := by rw [← hx]; exact Int.emod_lt_of_pos _ (by decide)
    refine sv_cons (s1_set 3 (ev_mod (ev_mul (ev_v 3) (ev_add (ev_mod (ev_v 3) ev_int (by decide)) (ev_mul ev_int (ev_ixL (EvD.own (ev_v 0) hmem1) ev_int rfl) (.inl (by decide)))) (.inl (by omega))) ev_int (by decide)) ?_ sc__law_take.nd)
    generalize hy : x * (x % 1000033 + 99991 * (t + 1)) % 2305843009213693907 = y
    refine sv_one (s1_ret (ev_mod (ev_add (ev_fdiv (ev_v 3) ev_int ⟨by decide, by decide⟩) (ev_fdiv (ev_v 3) ev_int ⟨by decide, by decide⟩)) (ev_v 1) hn0) ⟨[], _, rfl, ads_set hk, q _ o m (t + 1) (Int.emod_nonneg _ (by omega)) (Int.emod_lt_of_pos _ hn0) ⟨hb.o0, hb.m0, hb.m1, by omega⟩ (by omega)⟩)
/-- one of a list's items; the list a datum or owned -/
def COf : Ct := fun ws M Φ => ∃ (k : Nat) (a : Addr) (o m t : Int) (wl : W) (ds : List D), ws = [.raw (.ref a), wl] ∧ (wl = .dat (.list ds) ∨ ∃ (j : Nat) (b : Addr), j ≠ k ∧ wl = .raw (.ref b) ∧ M[j]? = some (b, .lst ds)) ∧
  M[k]? = some (a, bx o m t) ∧ 0 < ds.length ∧ ds.length < 1000000 ∧ BxOk o m t ∧ t < 1099511627776 ∧ ∀ d o' m' t', d ∈ ds → BxOk o' m' t' → t' ≤ t + 1 → Φ (.dat d) (M.set k (a, bx o' m' t'))
theorem ok_of (e : Env K mg) : DefE P w K mg base 2 "_law_of" s__law_of ["_law_box_here", "_law_some"] COf := by
  refine DefE.of e.h__law_of sc__law_of (fun _ _ _ _ _ _ us hl => match us, hl with | [_, _], _ => rfl) (by rintro ws M r ⟨_, _, _, _, _, _, _, rfl, _⟩; rfl) ?_
  rintro f cdv A outer s H E ws Φ M hr hg ⟨k, a, o, m, t, wl, ds, rfl, hwl, hk, hn0, hn1, hb, ht, q⟩
  have hbig : (ds.length : Int) < 2 ^ 2000 := Int.lt_trans (show ((ds.length : Nat) : Int) < 1000000 by omega) (by decide +kernel)
  rcases hwl with rfl | ⟨j, b, hjk, rfl, hj⟩
  · refine sv_one (s1_retE (Ev.ixL (EvD.ev (ev_v 1) ⟨ds, rfl, Ev.call (ok_take e) hr hg (Ea.cons (EvD.ev (ev_v 0) (EaD.ea (ea_cons (ev_lenL e.b_len (ev_v 1).l) ea_nil) ⟨k, a, o, m, t, _, rfl, hk, by omega, hbig, hb, ht, ?_⟩)))⟩)))
    intro d o' m' t' d0 d1 hb' ht'
    obtain ⟨j, rfl⟩ := Int.eq_ofNat_of_zero_le d0
    have hj : j < ds.length := by omega
    exact ⟨(j : Int), ds[j], rfl, atI_nat (List.getElem?_eq_getElem hj), [], _, rfl, ads_set hk, q ds[j] o' m' t' (List.getElem_mem hj) hb' ht'⟩
  · refine sv_one (s1_retE (Ev.ixO (ev_v 1) (Ev.call (ok_take e) hr hg (Ea.cons (EvD.ev (ev_v 0) (EaD.ea (ea_cons (ev_lenL e.b_len (EvD.own (ev_v 1) (List.mem_of_getElem? hj))) ea_nil) ⟨k, a, o, m, t, _, rfl, hk, by omega, hbig, hb, ht, ?_⟩))))))
    intro d o' m' t' d0 d1 hb' ht'
    obtain ⟨i, rfl⟩ := Int.eq_ofNat_of_zero_le d0
    have hi : i < ds.length := by omega
    refine ⟨ds, (i : Int), ds[i], List.mem_of_getElem? (i := j) ?_, rfl, atI_nat (List.getElem?_eq_getElem hi), [], _, rfl, ads_set hk, q ds[i] o' m' t' (List.getElem_mem hi) hb' ht'⟩
    rw [List.getElem?_set_ne (Ne.symm hjk)]
    exact hj
end
/-! ### drawing, by what is left of the box -/
theorem big {n : Nat} (h : n < 2 ^ 64) : n < 2 ^ 2000 := Nat.lt_trans h (Nat.pow_lt_pow_right (by decide) (by decide))
/-- the box stands at k; it has been asked no more than T times -/
def Bx (M : Mem) (k : Nat) (a : Addr) (T : Int) : Prop := ∃ o m t, M[k]? = some (a, bx o m t) ∧ BxOk o m t ∧ t ≤ T
/-- M' is M after drawing -/
def Dr (M : Mem) (k : Nat) (a : Addr) (T : Int) (M' : Mem) : Prop := ∃ o m t, M' = M.set k (a, bx o m t) ∧ BxOk o m t ∧ t ≤ T
section
variable {M M' M'' : Mem} {k j : Nat} {a : Addr} {T T' : Int}
theorem Bx.ads (h : Bx M k a T) (d : Dr M k a T' M') : ads M' = ads M := by
  obtain ⟨_, _, _, e, _⟩ := h
  obtain ⟨_, _, _, rfl, _⟩ := d
  exact ads_set e
theorem Dr.bx (d : Dr M k a T' M') (h : Bx M k a T) : Bx M' k a T' := by
  obtain ⟨_, _, _, e, _⟩ := h
  obtain ⟨o, m, t, rfl, h2, h3⟩ := d
  exact ⟨o, m, t, List.getElem?_set_self (List.getElem?_eq_some_iff.mp e).1, h2, h3⟩
theorem Dr.trans (d : Dr M k a T M') (d2 : Dr M' k a T' M'') : Dr M k a T' M'' := by
  obtain ⟨_, _, _, rfl, _⟩ := d
  obtain ⟨o, m, t, rfl, h2, h3⟩ := d2
  exact ⟨o, m, t, by rw [List.set_set], h2, h3⟩
theorem Dr.le (d : Dr M k a T M') (h : T ≤ T') : Dr M k a T' M' := by
  obtain ⟨o, m, t, e, h2, h3⟩ := d
  exact ⟨o, m, t, e, h2, Int.le_trans h3 h⟩
theorem Bx.le (d : Bx M k a T) (h : T ≤ T') : Bx M k a T' := by
  obtain ⟨o, m, t, e, h2, h3⟩ := d
  exact ⟨o, m, t, e, h2, Int.le_trans h3 h⟩
theorem Bx.dr (h : Bx M k a T) : Dr M k a T M := by
  obtain ⟨o, m, t, e, h2, h3⟩ := h
  refine ⟨o, m, t, ?_, h2, h3⟩
  obtain ⟨hl, he⟩ := List.getElem?_eq_some_iff.mp e
  rw [← he, List.set_getElem_self]
theorem Dr.cons {x : Addr × Ow} (d : Dr (x :: M) (k + 1) a T M') : ∃ M1, M' = x :: M1 ∧ Dr M k a T M1 := by
  obtain ⟨o, m, t, rfl, h⟩ := d
  exact ⟨M.set k (a, Lw.bx o m t), rfl, o, m, t, rfl, h⟩
theorem Bx.cons {x : Addr × Ow} (h : Bx M k a T) : Bx (x :: M) (k + 1) a T := h
end
section
variable {X : Cx} {ρ : Ro} {M : Mem} {b e : Expr} {p pos : Pos} {Φ : W → Mem → Prop} {a : Addr} {T : Int} {j : Nat}
/-- _law_take(box, n) -/
theorem ev_tk (k : Nat) {n : Nat} (F : DefE X.prog X.w X.K X.mg X.base 1 "_law_take" s__law_take ["_law_box_here", "_law_many"] CTake) (hr : Room j X.A) (hg : Gd X.A) (hj : 1 ≤ j) (hv : EvD X b ρ M (.raw (.ref a))) (he : EvD X e ρ M (.dat (dn n))) (hB : Bx M k a T) (h0 : 0 < n) (h1 : n < 2 ^ 2000) (hT : T < 1099511627776)
    (q : ∀ (d : Nat) M', d < n → Dr M k a (T + 1) M' → Φ (.dat (dn d)) M') (hgl : Gl X "_law_take" := by rfl) (hs : starEach [b, e] X.env = (false, eval b X.env) :: starEach [e] X.env := by rfl) (hs2 : starEach [e] X.env = (false, eval e X.env) :: starEach [] X.env := by rfl) (hpl : (backTo pos (starEach [e] X.env)).any (·.1) = false := by rfl) :
    Ev X (.Call (.Name "_law_take" p) [b, e] [] pos) ρ M Φ := by
  obtain ⟨o, m, t, hk, hb, ht⟩ := hB
  refine Ev.call F (hr.mono hj) hg (EaD.ea (ea_cons hv (ea_cons he ea_nil hs2) hs) ⟨k, a, o, m, t, (n : Int), rfl, hk, by omega, ?_, hb, by omega, fun d o' m' t' d0 d1 hb' ht' => ?_⟩) hgl (by decide) hs hpl
  · have h2 := Int.ofNat_lt.mpr h1
    rw [Int.natCast_pow] at h2
    exact h2
  · obtain ⟨i, rfl⟩ := Int.eq_ofNat_of_zero_le d0
    exact q i _ (by omega) ⟨o', m', t', rfl, hb', by omega⟩
/-- _law_of(box, list) -/
theorem ev_dof (k : Nat) (F : DefE X.prog X.w X.K X.mg X.base 2 "_law_of" s__law_of ["_law_box_here", "_law_some"] COf) (hr : Room j X.A) (hg : Gd X.A) (hj : 2 ≤ j) (hv : EvD X b ρ M (.raw (.ref a)))
    (he : Ev X e ρ M fun wl M1 => ∃ (ds : List D) (T : Int), (wl = .dat (.list ds) ∨ ∃ (j : Nat) (b : Addr), j ≠ k ∧ wl = .raw (.ref b) ∧ M1[j]? = some (b, .lst ds)) ∧ Bx M1 k a T ∧ 0 < ds.length ∧ ds.length < 1000000 ∧ T < 1099511627776 ∧ ∀ d M', d ∈ ds → Dr M1 k a (T + 1) M' → Φ (.dat d) M')
    (hgl : Gl X "_law_of" := by rfl) (hs : starEach [b, e] X.env = (false, eval b X.env) :: starEach [e] X.env := by rfl) (hs2 : starEach [e] X.env = (false, eval e X.env) :: starEach [] X.env := by rfl) (hpl : (backTo pos (starEach [e] X.env)).any (·.1) = false := by rfl) :
    Ev X (.Call (.Name "_law_of" p) [b, e] [] pos) ρ M Φ := by
  refine Ev.call F (hr.mono hj) hg (Ea.cons (EvD.ev hv (Ea.cons (he.mono fun wl M1 h => Ea.nil ?_) hs2)) hs) hgl (by decide) hs hpl
  obtain ⟨ds, T, hwl, ⟨o, m, t, hk, hb, ht⟩, h0, h1, hT, q⟩ := h
  exact ⟨k, a, o, m, t, wl, ds, rfl, hwl, hk, h0, h1, hb, by omega, fun d o' m' t' hd hb' ht' => q d _ hd ⟨o', m', t', rfl, hb', by omega⟩⟩
end
end Lw

namespace Lw
open PySem PySem.Spec PyProof.Rows L2 XB Hd
section
variable {P : Program} {w : World} {K : PySem.W.Frag} {mg : Str → Option Value} {base : Heap}
def CIsInt : List W → W → Prop := fun ws r => ∃ d, ws = [.dat d] ∧ r = .dat (.bool (isI d))
theorem ok_is_int (e : Env K mg) : DefP P w K mg base 1 "is_int" s_is_int ["value"] CIsInt := by
  refine DefP.of e.h_is_int sc_is_int (fun _ _ _ _ _ _ us hl => match us, hl with | [_], _ => rfl) (by rintro ws r ⟨_, rfl, _⟩; rfl) ?_
  rintro f cdv A outer s H E ws r M hr hg ⟨d, rfl, rfl⟩
  refine sv_one (s1_ret (ev_andV (ev_isi e.b_isinstance e.b_int (ev_v 0) (kit_int d)) fun _ => ev_one (ev_not (ev_isi e.b_isinstance e.b_bool (ev_v 0) (kit_bool d)))) ⟨?_, [], rfl⟩)
  cases d <;> rfl

/-! the value of a polynomial, great ints -/
def ils (l : List Int) : List D := l.map .int
theorem ils_len (l : List Int) : (ils l).length = l.length := List.length_map ..
theorem evP_fold (q : Int) (l : List Int) : l.reverse.foldl (fun acc a => acc * q + a) 0 = evP q l := by
  rw [List.foldl_reverse]
  induction l with
  | nil => rfl
  | cons a l ih =>
    rw [List.foldr_cons, ih]
    rfl
theorem hb10 {x q a : Int} {B : Nat} (hx : x.natAbs < 2 ^ B) (hq : q.natAbs < 2 ^ 120) (ha : a.natAbs < 2 ^ 250) (hB : 250 ≤ B) : (x * q + a).natAbs < 2 ^ (B + 121) := by
  have h1 := L2.wide_lt hx hq
  have h2 : (x * q + a).natAbs ≤ (x * q).natAbs + a.natAbs := Int.natAbs_add_le _ _
  have h3 : 2 ^ 250 ≤ 2 ^ (B + 120) := Nat.pow_le_pow_right (by decide) (by omega)
  have h4 : 2 ^ (B + 121) = 2 ^ (B + 120) * 2 := Nat.pow_succ ..
  omega
theorem fb10 {q : Int} (hq : q.natAbs < 2 ^ 120) : ∀ (l : List Int) (x : Int) (B : Nat), (∀ a ∈ l, a.natAbs < 2 ^ 250) → x.natAbs < 2 ^ B → 250 ≤ B → (l.foldl (fun acc a => acc * q + a) x).natAbs < 2 ^ (B + 121 * l.length)
  | [], x, B, _, hx, _ => hx
  | a :: l, x, B, h, hx, hB => by
    have h1 := fb10 hq l (x * q + a) (B + 121) (fun b hb => h b (List.mem_cons_of_mem _ hb)) (hb10 hx hq (h a (List.mem_cons_self ..)) hB) (by omega)
    have e : B + 121 + 121 * l.length = B + 121 * (a :: l).length := by rw [List.length_cons]; omega
    rw [e] at h1
    exact h1
def Row10 (l : List Int) : Prop := l.length ≤ 40 ∧ ∀ a ∈ l, a.natAbs < 2 ^ 250
theorem ev_lt10 {q : Int} {l : List Int} (hq : q.natAbs < 2 ^ 120) (h : Row10 l) : (evP q l).natAbs < 10 ^ 4300 := by
  rw [← evP_fold]
  have h1 := fb10 hq l.reverse 0 250 (fun a ha => h.2 a (List.mem_reverse.mp ha)) (by decide +kernel) (Nat.le_refl _)
  refine Nat.lt_of_lt_of_le h1 (Nat.le_trans (Nat.pow_le_pow_right (by decide) (show _ ≤ 12900 from ?_)) pow_lo)
  rw [List.length_reverse]
  have := h.1
  omega
def CVal10 : List W → W → Prop := fun ws r => ∃ (l : List Int) (q : Int), ws = [.dat (.tuple (ils l)), .dat (.int q)] ∧ Row10 l ∧ q.natAbs < 2 ^ 120 ∧ r = .dat (.int (evP q l))
theorem ok_value_of (e : Env K mg) : DefP P w K mg base 1 "value_of" s_value_of ["coefficients", "number"] CVal10 := by
  refine DefP.of e.h_value_of sc_value_of (fun _ _ _ _ _ _ us hl => match us, hl with | [_, _], _ => rfl) (by rintro ws r ⟨_, _, rfl, _⟩; rfl) ?_
  rintro f cdv A outer s H E ws r M hr hg ⟨l, q, rfl, h1, h2, rfl⟩
  have hrev : (ils l).reverse = ils l.reverse := by unfold ils; rw [List.map_reverse]
  refine sv_cons (s1_set 2 (ev_int (i := 0)) ?_ sc_value_of.nd)
  refine sv_cons (s1_for (ts := [3]) (fun i ρ1 M1 => M1 = M ∧ ∃ o3, ρ1 = [some (.dat (.tuple (ils l))), some (.dat (.int q)), some (.dat (.int ((l.reverse.take i).foldl (fun acc a => acc * q + a) 0))), o3]) (src_tup (ev_back (ev_v 0))) ⟨rfl, _, rfl⟩ ?_ ?_ PassesOwn.never)
  · rintro Hb' i w ρ1 M1 hw ⟨rfl, o3, rfl⟩
    rw [hrev] at hw
    obtain ⟨a, ha, rfl⟩ : ∃ a, l.reverse[i]? = some a ∧ w = .dat (.int a) := by
      unfold ils at hw
      rw [List.map_map, List.getElem?_map] at hw
      cases e1 : l.reverse[i]? with
      | none => rw [e1] at hw; cases hw
      | some x => rw [e1] at hw; cases hw; exact ⟨x, rfl, rfl⟩
    have htk : (l.reverse.take (i + 1)).foldl (fun acc a => acc * q + a) 0 = (l.reverse.take i).foldl (fun acc a => acc * q + a) 0 * q + a := by
      rw [List.take_add_one, ha, List.foldl_append]
      rfl
    rw [htk]
    have hb := fb10 h2 (l.reverse.take i) 0 250 (fun a ha => h1.2 a (List.mem_reverse.mp (List.mem_of_mem_take ha))) (by decide +kernel) (Nat.le_refl _)
    have hl : (l.reverse.take i).length ≤ 40 := Nat.le_trans (List.length_take_le ..) (by have hl := (List.getElem?_eq_some_iff.mp ha).1; rw [List.length_reverse] at hl; have := h1.1; omega)
    refine ⟨_, tg_name 3 sc_value_of.nd, ?_⟩
    exact sv_one (s1_set 2 (ev_add (ev_mulW (ev_v 2) (ev_v 1) (L2.wide_mul hb h2 (by omega) (by decide) (by omega))) (ev_v 3)) ⟨rfl, _, rfl⟩ sc_value_of.nd)
  · rintro ρ1 M1 ⟨rfl, o3, rfl⟩
    have e3 : ((ils l).reverse.map W.dat).length = l.reverse.length := by rw [List.length_map, List.length_reverse, ils_len, List.length_reverse]
    rw [e3, List.take_length, evP_fold]
    exact sv_one (s1_ret (ev_v 2) ⟨rfl, [], rfl⟩)
/-- coefficients -/
def coefB : D → Bool
  | .tuple ds => !ds.isEmpty && ds.all isI
  | _ => false
theorem ints_of : ∀ {ds : List D}, ds.all isI = true → ∃ l : List Int, ds = ils l
  | [], _ => ⟨[], rfl⟩
  | d :: ds, h => by
    rw [List.all_cons, Bool.and_eq_true] at h
    obtain ⟨l, rfl⟩ := ints_of h.2
    cases d <;> first | exact Bool.noConfusion h.1 | skip
    rename_i i
    exact ⟨i :: l, rfl⟩
theorem coef_of {d : D} (h : coefB d = true) : ∃ l : List Int, d = .tuple (ils l) ∧ l ≠ [] := by
  cases d <;> first | exact Bool.noConfusion h | skip
  rename_i ds
  obtain ⟨h1, h2⟩ := (Bool.and_eq_true _ _).mp (show (!ds.isEmpty && ds.all isI) = true from h)
  obtain ⟨l, rfl⟩ := ints_of h2
  refine ⟨l, rfl, fun z => ?_⟩
  subst z
  exact Bool.noConfusion h1
def CCoef : List W → W → Prop := fun ws r => ∃ (l : List Int), ws = [.dat (.tuple (ils l))] ∧ l ≠ [] ∧ l.length ≤ 1000 ∧ r = .dat .none
theorem ok_check_coefficients (e : Env K mg) : DefP P w K mg base 2 "check_coefficients" s_check_coefficients ["coefficients"] CCoef := by
  refine DefP.of e.h_check_coefficients sc_check_coefficients (fun _ _ _ _ _ _ us hl => match us, hl with | [_], _ => rfl) (by rintro ws r ⟨_, rfl, _⟩; rfl) ?_
  rintro f cdv A outer s H E ws r M hr hg ⟨l, rfl, h1, h2, rfl⟩
  have hne : PyData.eqv (.tuple (ils l)) (.tuple (dns [])) = false := by
    cases l with
    | nil => exact absurd rfl h1
    | cons x t => rfl
  have hall : (l.map fun _ => true).all id = true := by simp
  refine sv_one (s1_if (x := false) (EwD.t (ew_orF (et_not (et_of (ev_isi (d := .tuple (ils l)) (r := true) e.b_isinstance e.b_tuple (ev_v 0) (kit_tuple _)))) (ew_orF (EtD.cast hne (et_eqD (d := .tuple (ils l)) (d2 := .tuple (dns [])) hr (EvD.r (ev_v 0) (nodict_ints l)) (EvD.r (ev_tup (ds := dns []) ea_nil (Nat.zero_le _)) rfl) (shaped_ints l) rfl)) (ew_or1 (EtD.cast (x := !((l.map fun _ => true).all id)) (by rw [hall]; rfl) (et_not (et_of (ev_all (bs := l.map fun _ => true) rfl e.b_all (EvN.l ?_))))))))) (fun h => nomatch h) fun _ => sv_nil ⟨rfl, [], rfl⟩)
  exact en_lcN (l := l) (g := fun _ => .bool true) 1 (fun x => W.dat (.int x)) (by rw [List.map_map]; rfl) (src_tup (pu := false) (ds := ils l) (ev_v 0)) (by unfold ils; rw [List.map_map]; rfl) (blkOk_by (N := n_check_coefficients) (sc := defScope s_check_coefficients) (by decide +kernel)) sc_check_coefficients.nd (sz h2) (fun x hx D acc hD s H C cl fp => ev_call (ok_is_int e) hr hg (ea_cons (ev_v 1) ea_nil) ⟨_, rfl, rfl⟩)
theorem all_len10 {c k : Nat} {ds : List D} (h : Sh c k (.tuple ds)) : ds.length ≤ c := by
  have key : ∀ ds : List D, ds.length ≤ cstAll ds := by
    intro ds
    induction ds with
    | nil => exact Nat.zero_le _
    | cons d ds ih =>
      show ds.length + 1 ≤ cst d + 2 + cstAll ds
      omega
  have h1 : cstAll ds + 3 ≤ c := h.size
  have := key ds
  omega
def RCoef10 : List W → Str → D → Prop := fun ws y v => ∃ d : D, ws = [.dat d] ∧ Sh 1000000 60 d ∧ coefB d = false ∧ y = "InvalidNumber" ∧ v = d
theorem er_check_coefficients (e : Env K mg) (x : EnvX P K mg errs tf) : DefR P w K mg base 3 "check_coefficients" s_check_coefficients ["coefficients"] RCoef10 := by
  refine DefR.of e.h_check_coefficients sc_check_coefficients (fun _ _ _ _ _ _ us hl => match us, hl with | [_], _ => rfl) (by rintro ws y v ⟨_, rfl, _⟩; rfl) ?_
  rintro f cdv A outer s H E ws y v M hr hg ⟨d, rfl, sh, hf, rfl, rfl⟩ tk
  have T := x.er "InvalidNumber" (by decide +kernel) w base
  have fin : ∀ {st : Stmt} {rest : List Stmt}, True := fun {_ _} => trivial
  by_cases hT : isT v = true
  · cases v <;> first | exact Bool.noConfusion hT | skip
    rename_i ds
    have hl := all_len10 sh
    by_cases h0 : ds = []
    · subst h0
      exact sv_cons (s1_if (x := true) (EtD.cast (x := false || (([] : List D).isEmpty || true)) rfl (EwD.t (ew_or (et_not (et_of (ev_isi (d := .tuple []) (r := true) e.b_isinstance e.b_tuple (ev_v 0) (kit_tuple _)))) fun _ => ew_or (et_eqNil hr (ev_v 0) (ev_tup (ds := []) ea_nil)) fun h => nomatch h))) (fun _ => sv_one (s1_raise (k := 0) T (hr.mono (by decide)) hg (ev_v 0) sh tk)) fun h => nomatch h)
    · have h1 : ds.isEmpty = false := by
        cases ds with
        | nil => exact absurd rfl h0
        | cons a b => rfl
      have h2 : (ds.map isI).all id = false := by
        rw [List.all_map]
        have h3 : (!ds.isEmpty && ds.all isI) = false := hf
        rw [h1] at h3
        exact h3
      exact sv_cons (s1_if (x := true) (EtD.cast (x := false || (ds.isEmpty || !((ds.map isI).all id))) (by rw [h1, h2]; rfl) (EwD.t (ew_or (et_not (et_of (ev_isi (d := .tuple ds) (r := true) e.b_isinstance e.b_tuple (ev_v 0) (kit_tuple _)))) fun _ => ew_or (et_eqNil hr (ev_v 0) (ev_tup (ds := []) ea_nil)) fun _ => ew_or1 (et_not (et_of (ev_all (bs := ds.map isI) rfl e.b_all (EvN.l (en_lcN (l := ds) (g := fun d => .bool (isI d)) 1 (fun d => W.dat d) (by rw [List.map_map]; rfl) (src_tup (pu := false) (ds := ds) (ev_v 0)) rfl (blkOk_by (N := n_check_coefficients) (sc := defScope s_check_coefficients) (by decide +kernel)) sc_check_coefficients.nd (Nat.le_trans hl (by decide)) (fun d hd D acc hD s H C cl fp => ev_call (ok_is_int e) (hr.mono (by decide)) hg (ea_cons (ev_v 1) ea_nil) ⟨_, rfl, rfl⟩)))))))) ) (fun _ => sv_one (s1_raise (k := 0) T (hr.mono (by decide)) hg (ev_v 0) sh tk)) fun h => nomatch h)
  · have hT : isT v = false := by simpa using hT
    exact sv_cons (s1_if (x := true) (EtD.cast (x := !(isT v) || true) (by rw [hT]; rfl) (EwD.t (ew_or (et_not (et_of (ev_isi (d := v) e.b_isinstance e.b_tuple (ev_v 0) (kit_tuple v)))) fun h => absurd h (by rw [hT]; decide)))) (fun _ => sv_one (s1_raise (k := 0) T (hr.mono (by decide)) hg (ev_v 0) sh tk)) fun h => nomatch h)
def CVat : List W → W → Prop := fun ws r => ∃ (l : List Int) (q : Int), ws = [.dat (.tuple (ils l)), .dat (.int q)] ∧ l ≠ [] ∧ Row10 l ∧ q.natAbs < 2 ^ 120 ∧ r = .dat (.int (evP q l))
theorem ok_value_at (e : Env K mg) : DefP P w K mg base 3 "value_at" s_value_at ["coefficients", "number"] CVat := by
  refine DefP.of e.h_value_at sc_value_at (fun _ _ _ _ _ _ us hl => match us, hl with | [_, _], _ => rfl) (by rintro ws r ⟨_, _, rfl, _⟩; rfl) ?_
  rintro f cdv A outer s H E ws r M hr hg ⟨l, q, rfl, hl, h1, h2, rfl⟩
  refine sv_cons (s1_expr (ev_call (ok_check_coefficients e) hr hg (ea_cons (ev_v 0) ea_nil) ⟨l, rfl, hl, Nat.le_trans h1.1 (by decide), rfl⟩) ?_)
  refine sv_cons (s1_if (x := false) (et_not (et_of (b := true) (ev_call (ok_is_int e) (hr.mono (by decide)) hg (ea_cons (ev_v 1) ea_nil) ⟨_, rfl, rfl⟩))) (fun h => nomatch h) fun _ => sv_nil ?_)
  exact sv_one (s1_ret (ev_call (ok_value_of e) (hr.mono (by decide)) hg (ea_cons (ev_v 0) (ea_cons (ev_v 1) ea_nil)) ⟨l, q, rfl, h1, h2, rfl⟩) ⟨rfl, [], rfl⟩)
def RVat : List W → Str → D → Prop := fun ws y v => ∃ d n : D, ws = [.dat d, .dat n] ∧ Sh 1000000 60 d ∧ Sh 1000000 60 n ∧ y = "InvalidNumber" ∧ ((coefB d = false ∧ v = d) ∨ ((∃ l : List Int, d = .tuple (ils l) ∧ l ≠ [] ∧ l.length ≤ 1000) ∧ isI n = false ∧ v = n))
theorem er_value_at (e : Env K mg) (x : EnvX P K mg errs tf) : DefR P w K mg base 6 "value_at" s_value_at ["coefficients", "number"] RVat := by
  refine DefR.of e.h_value_at sc_value_at (fun _ _ _ _ _ _ us hl => match us, hl with | [_, _], _ => rfl) (by rintro ws y v ⟨_, _, rfl, _⟩; rfl) ?_
  rintro f cdv A outer s H E ws y v M hr hg ⟨d, n, rfl, s1, s2, rfl, h⟩ tk
  have T := x.er "InvalidNumber" (by decide +kernel) w base
  rcases h with ⟨hb, rfl⟩ | ⟨⟨l, rfl, hl, hll⟩, hn, rfl⟩
  · exact sv_cons (s1_exprX (evX_call (er_check_coefficients e x) (hr.mono (by decide)) hg (ea_cons (ev_v 0) ea_nil) ⟨_, rfl, s1, hb, rfl, rfl⟩) tk)
  · refine sv_cons (s1_expr (ev_call (ok_check_coefficients e) (hr.mono (by decide)) hg (ea_cons (ev_v 0) ea_nil) ⟨l, rfl, hl, hll, rfl⟩) ?_)
    exact sv_cons (s1_if (x := true) (EtD.cast (x := !(isI v)) (by rw [hn]; rfl) (et_not (et_of (ev_call (ok_is_int e) (hr.mono (by decide)) hg (ea_cons (ev_v 1) ea_nil) ⟨_, rfl, rfl⟩)))) (fun _ => sv_one (s1_raise (k := 0) T (hr.mono (by decide)) hg (ev_v 1) s2 tk)) fun h => nomatch h)

/-! the law's own numbers and sums -/
def CNum10 : Ct := fun ws M Φ => ∃ (k : Nat) (a : Addr) (T : Int), ws = [.raw (.ref a)] ∧ Bx M k a T ∧ T < 100000000 ∧ ∀ (i : Int) M', i.natAbs < 2 ^ 67 → Dr M k a (T + 3) M' → Φ (.dat (.int i)) M'
theorem ok_law_number (e : Env K mg) : DefE P w K mg base 3 "_law_number" s__law_number ["_law_box_here"] CNum10 := by
  refine DefE.of e.h__law_number sc__law_number (fun _ _ _ _ _ _ us hl => match us, hl with | [_], _ => rfl) (by rintro ws M r ⟨_, _, _, rfl, _⟩; rfl) ?_
  rintro f cdv A outer s H E ws Φ M hr hg ⟨k, a, T, rfl, hB, hT, q⟩
  have N := sc__law_number.nd
  refine sv_cons (s1_setE (hN := N) 1 (Ev.op0 op_sub (EvD.ev ev_int ⟨_, rfl, Ev.opI op_mul (EvD.ev ev_int ⟨_, rfl, ev_tk (n := 2) k (ok_take e) hr hg (by decide) (ev_v 0) (ev_nat (i := 2)) hB (by decide) (big (by decide)) (by omega) fun z M1 hz hM1 => ⟨_, rfl, .inl ⟨by decide, by decide⟩, _, rfl, ?_⟩⟩)⟩)))
  have hB1 := hM1.bx hB
  refine sv_one (s1_retE (Ev.opI op_mul (EvD.ev (ev_v 1) ⟨_, rfl, ev_dof k (ok_of e) hr hg (by decide) (ev_v 0) (Ev.lst (Ea.q (ev_int (i := 0)) <| Ea.q (ev_int (i := 1)) <| Ea.q (ev_int (i := 2)) <| Ea.q (ev_int (i := 7)) <| Ea.q (EvD.cast (w := .dat (.int (10 ^ (20 : Int).toNat))) (w' := .dat (.int (10 ^ 20))) rfl (ev_opI op_pow ev_int ev_int ⟨by decide, by decide, by decide⟩)) <| Ea.c <| ev_tk (n := 100) k (ok_take e) hr hg (by decide) (ev_v 0) (ev_nat (i := 100)) hB1 (by decide) (big (by decide)) (by omega) fun y M2 hy hM2 => Ea.nil ⟨[.int 0, .int 1, .int 2, .int 7, .int (10 ^ 20), dn y], rfl, (show 6 ≤ sizeLine by decide), ⟨[.int 0, .int 1, .int 2, .int 7, .int (10 ^ 20), dn y], _, .inl rfl, hM2.bx hB1, (show 0 < 6 by decide), (show 6 < 1000000 by decide), by omega, fun d M3 hd hM3 => ?_⟩⟩))⟩)))
  have hi : ∃ i : Int, d = .int i ∧ i.natAbs < 2 ^ 67 := by
    simp only [List.mem_cons, List.not_mem_nil, or_false] at hd
    rcases hd with rfl | rfl | rfl | rfl | rfl | rfl
    · exact ⟨0, rfl, by decide⟩
    · exact ⟨1, rfl, by decide⟩
    · exact ⟨2, rfl, by decide⟩
    · exact ⟨7, rfl, by decide⟩
    · exact ⟨10 ^ 20, rfl, by decide⟩
    · exact ⟨_, rfl, by rw [Int.natAbs_natCast]; exact Nat.lt_trans hy (by decide)⟩
  obtain ⟨i, rfl, hi⟩ := hi
  have hs : (1 - 2 * (z : Int)).natAbs = 1 := by omega
  refine ⟨i, rfl, .inl ⟨by omega, by omega⟩, [], _, rfl, hB.ads ((hM1.trans hM2).trans hM3), q _ _ ?_ (((hM1.trans hM2).trans hM3).le (by omega))⟩
  rw [Int.natAbs_mul, hs, Nat.one_mul]
  exact hi
/-- term by term -/
def tmF (q : Int) (p : Int × Int) (a : Int) : Int × Int := (p.1 + a * p.2, p.2 * q)
theorem tm_eq (q : Int) : ∀ (l : List Int) (f p : Int), (l.foldl (tmF q) (f, p)).1 = f + p * evP q l
  | [], f, p => by
    show f = f + p * 0
    rw [Int.mul_zero, Int.add_zero]
  | a :: l, f, p => by
    have h := tm_eq q l (f + a * p) (p * q)
    rw [List.foldl_cons]
    show (l.foldl (tmF q) (f + a * p, p * q)).1 = _
    rw [h]
    show f + a * p + p * q * evP q l = f + p * (evP q l * q + a)
    rw [Int.mul_add, Int.mul_comm p a, Int.mul_assoc, Int.mul_comm q (evP q l)]
    omega
theorem tm_bd {q : Int} (hq : q.natAbs < 2 ^ 120) : ∀ (l : List Int) (f p : Int) (F G : Nat), (∀ a ∈ l, a.natAbs < 2 ^ 250) → f.natAbs < 2 ^ F → p.natAbs < 2 ^ G → G + 250 ≤ F → (l.foldl (tmF q) (f, p)).1.natAbs < 2 ^ (F + 121 * l.length) ∧ (l.foldl (tmF q) (f, p)).2.natAbs < 2 ^ (G + 120 * l.length)
  | [], f, p, F, G, _, hf, hp, _ => ⟨hf, hp⟩
  | a :: l, f, p, F, G, h, hf, hp, hFG => by
    have h1 := L2.wide_lt (h a (List.mem_cons_self ..)) hp
    have h2 : (f + a * p).natAbs ≤ f.natAbs + (a * p).natAbs := Int.natAbs_add_le _ _
    have h3 : 2 ^ (250 + G) ≤ 2 ^ F := Nat.pow_le_pow_right (by decide) (by omega)
    have h4 : 2 ^ (F + 1) = 2 ^ F * 2 := Nat.pow_succ ..
    have h5 : 2 ^ (F + 1) ≤ 2 ^ (F + 121) := Nat.pow_le_pow_right (by decide) (by omega)
    have h6 := L2.wide_lt hp hq
    obtain ⟨g1, g2⟩ := tm_bd hq l (f + a * p) (p * q) (F + 121) (G + 120) (fun b hb => h b (List.mem_cons_of_mem _ hb)) (by omega) h6 (by omega)
    have e1 : F + 121 + 121 * l.length = F + 121 * (a :: l).length := by rw [List.length_cons]; omega
    have e2 : G + 120 + 120 * l.length = G + 120 * (a :: l).length := by rw [List.length_cons]; omega
    rw [e1] at g1
    rw [e2] at g2
    exact ⟨g1, g2⟩
theorem ok_law_value (e : Env K mg) : DefP P w K mg base 1 "_law_value" s__law_value ["_law_row", "_law_spot"] CVal10 := by
  refine DefP.of e.h__law_value sc__law_value (fun _ _ _ _ _ _ us hl => match us, hl with | [_, _], _ => rfl) (by rintro ws r ⟨_, _, rfl, _⟩; rfl) ?_
  rintro f cdv A outer s H E ws r M hr hg ⟨l, q, rfl, h1, h2, rfl⟩
  have N := sc__law_value.nd
  refine sv_cons <| s1_asgE (ts := [2, 3]) <| EvD.ev (ev_tup (ds := [.int 0, .int 1]) (ea_cons ev_int (ea_cons ev_int ea_nil)) (show 2 ≤ sizeLine by decide)) ⟨_, tg_pair 2 3 N, ?_⟩
  refine sv_cons (s1_for (ts := [4]) (fun i ρ1 M1 => M1 = M ∧ ∃ o4, ρ1 = [some (.dat (.tuple (ils l))), some (.dat (.int q)), some (.dat (.int ((l.take i).foldl (tmF q) (0, 1)).1)), some (.dat (.int ((l.take i).foldl (tmF q) (0, 1)).2)), o4]) (src_tup (ev_v 0)) ⟨rfl, _, rfl⟩ ?_ ?_ PassesOwn.never)
  · rintro Hb' i w ρ1 M1 hw ⟨rfl, o4, rfl⟩
    obtain ⟨a, ha, rfl⟩ : ∃ a, l[i]? = some a ∧ w = .dat (.int a) := by
      unfold ils at hw
      rw [List.map_map, List.getElem?_map] at hw
      cases e1 : l[i]? with
      | none => rw [e1] at hw; cases hw
      | some x => rw [e1] at hw; cases hw; exact ⟨x, rfl, rfl⟩
    have htk : (l.take (i + 1)).foldl (tmF q) (0, 1) = tmF q ((l.take i).foldl (tmF q) (0, 1)) a := by
      rw [List.take_add_one, ha, List.foldl_append]
      rfl
    rw [htk]
    obtain ⟨b1, b2⟩ := tm_bd h2 (l.take i) 0 1 260 1 (fun a ha => h1.2 a (List.mem_of_mem_take ha)) (by decide +kernel) (by decide) (by decide)
    have hl : (l.take i).length ≤ 40 := Nat.le_trans (List.length_take_le' ..) h1.1
    have hab := h1.2 a (List.mem_of_getElem? ha)
    refine ⟨_, tg_name 4 N, ?_⟩
    exact sv_one (s1_par 2 3 (ea_c (ev_add (ev_v 2) (ev_mulW (ev_v 4) (ev_v 3) (L2.wide_mul hab b2 (by decide) (by omega) (by omega)))) (ea_c (ev_mulW (ev_v 3) (ev_v 1) (L2.wide_mul b2 h2 (by omega) (by decide) (by omega))) ea_nil)) ⟨rfl, _, rfl⟩ N (by decide))
  · rintro ρ1 M1 ⟨rfl, o4, rfl⟩
    have e3 : ((ils l).map W.dat).length = l.length := by rw [List.length_map, ils_len]
    have e4 : (l.foldl (tmF q) (0, 1)).1 = evP q l := by rw [tm_eq, Int.zero_add, Int.one_mul]
    rw [e3, List.take_length, e4]
    exact sv_one (s1_ret (ev_v 2) ⟨rfl, [], rfl⟩)

section
theorem ok_law_is_whole (e : Env K mg) : DefP P w K mg base 1 "_law_is_whole" s__law_is_whole ["_law_thing"] CIsInt := by
  refine DefP.of e.h__law_is_whole sc__law_is_whole (fun _ _ _ _ _ _ us hl => match us, hl with | [_], _ => rfl) (by rintro ws r ⟨_, rfl, _⟩; rfl) ?_
  rintro f cdv A outer s H E ws r M hr hg ⟨d, rfl, rfl⟩
  refine sv_one (s1_ret (ev_andV (ev_isi e.b_isinstance e.b_int (ev_v 0) (kit_int d)) fun _ => ev_one (ev_not (ev_isi e.b_isinstance e.b_bool (ev_v 0) (kit_bool d)))) ⟨?_, [], rfl⟩)
  cases d <;> rfl
end

def anyL : List D := [.none, .bool true, .bool false, .int 0, .int 1, .int (-1), .int 7, .int 16, .int 17, .int 65, .int (10 ^ (30 : Int).toNat), .str "", .str "a", .str "5 10", .str "toolongname", .tuple [], .list [], .dict [], .tuple [.int 1]]
def anyM : List D := [.tuple [.int 1, .int 2], .tuple [.int 2, .int 1], .list [.int 1, .int 2], .tuple [.int 0, .int 0], .tuple [.bool true], .tuple [.int (-1)], .tuple [.int 1, .str "a"], .tuple [.tuple [.int 0, .int 1], .tuple [.int 0, .int 4]], .tuple [.tuple [.int 1, .int 0]], .dict [(.str "a", .int 1)]]
theorem any_sh : ∀ d ∈ anyL ++ anyM, Sh 110 3 d := fun d hd => by
  have h : ((anyL ++ anyM).all fun d => d.showable && (decide (cst d ≤ 110) && decide (d.depth ≤ 3))) = true := by decide +kernel
  have h := List.all_eq_true.mp h d hd
  obtain ⟨h1, h2⟩ := He.ba h
  obtain ⟨h2, h3⟩ := He.ba h2
  exact ⟨h1, of_decide_eq_true h2, of_decide_eq_true h3⟩
/-- how many items a tuple has -/
def tl : D → Nat
  | .tuple ds => ds.length
  | _ => 0
theorem any_tl : ∀ d ∈ anyL ++ anyM, tl d ≤ 2 := fun d hd => by
  have h : ((anyL ++ anyM).all fun d => decide (tl d ≤ 2)) = true := by decide +kernel
  exact of_decide_eq_true (List.all_eq_true.mp h d hd)
theorem any_bg : ∀ d ∈ anyL ++ anyM, bg d ≤ 110 := fun d hd => by
  have h : ((anyL ++ anyM).all fun d => decide (bg d ≤ 110)) = true := by decide +kernel
  exact of_decide_eq_true (List.all_eq_true.mp h d hd)
/-- how deep a value of any kind may be -/
abbrev dpA : Nat := 26 + 3
/-- a value of any kind -/
def CAny : Ct := fun ws M Φ => ∃ (k : Nat) (a : Addr) (T : Int), ws = [.raw (.ref a)] ∧ Bx M k a T ∧ T < 1000000000 ∧ ∀ d M', Bd 700 dpA 110 d → tl d ≤ 2 → Dr M k a (T + 32) M' → Φ (.dat d) M'
section
theorem ok_law_any (e : Env K mg) : DefE P w K mg base 3 "_law_any" s__law_any ["_law_box_here"] CAny := by
  refine DefE.of e.h__law_any sc__law_any (fun _ _ _ _ _ _ us hl => match us, hl with | [_], _ => rfl) (by rintro ws M r ⟨_, _, _, rfl, _⟩; rfl) ?_
  rintro f cdv A outer s H E ws Φ M hr hg ⟨k, a, T, rfl, hB, hT, q⟩
  refine sv_cons (s1_set 1 (w := .dat (.list anyL)) (lit_ok (by unfold anyL; (repeat' first | exact LitA.nil | refine LitA.cons ?_ ?_ | exact Lit.int | exact Lit.str | exact Lit.non | exact Lit.bl | exact Lit.neg | refine Lit.tup ?_ ?_ | refine Lit.lst ?_ ?_ | exact Lit.dic0 | refine Lit.dic1 ?_ | exact Lit.p30 | decide))) ?_ sc__law_any.nd (hs := sw rfl))
  refine sv_cons (s1_set 1 (w := .dat (.list (anyL ++ anyM))) (EvN.d (en_cat (ev_v 1).l (EvN.l (lit_l (ds := anyM) (by unfold anyM; (repeat' first | exact LitA.nil | refine LitA.cons ?_ ?_ | exact Lit.int | exact Lit.str | exact Lit.non | exact Lit.bl | exact Lit.neg | refine Lit.tup ?_ ?_ | refine Lit.lst ?_ ?_ | exact Lit.dic0 | refine Lit.dic1 ?_ | exact Lit.p30 | decide)) (by decide))) (show 19 + 10 ≤ sizeLine by decide))) ?_ sc__law_any.nd (hs := sw rfl))
  refine sv_cons <| s1_setE (hN := sc__law_any.nd) 2 <| ev_dof k (ok_of e) hr hg (by decide) (ev_v 0) (EvD.ev (ev_v 1) ⟨anyL ++ anyM, _, .inl rfl, hB, by decide, by decide, by omega, fun d0 M1 hd0 hM1 => ?_⟩)
  have hB1 := hM1.bx hB
  refine sv_cons (s1_forE (ts := [3]) (srcE_range1 e.b_range (ev_dof k (ok_of e) hr hg (by decide) (ev_v 0) (EvD.ev (EvN.d (en_lst (ds := dns [0, 0, 0, 1, 2, 26]) (litA_ok (ds := [.int 0, .int 0, .int 0, .int 1, .int 2, .int 26]) (by (repeat' first | exact LitA.nil | refine LitA.cons ?_ ?_ | exact Lit.int | exact Lit.str | exact Lit.non | exact Lit.bl | exact Lit.neg | refine Lit.tup ?_ ?_ | refine Lit.lst ?_ ?_ | exact Lit.dic0 | refine Lit.dic1 ?_ | exact Lit.p30 | decide))) (show 6 ≤ sizeLine by decide))) ⟨_, _, .inl rfl, hB1, by decide, by decide, by omega, fun dt M2 hdt hM2 => ?_⟩) (hs := se rfl) (hs2 := se rfl) (hpl := pl1 rfl))) PassesOwn.never)
  obtain ⟨n, hn, rfl⟩ := List.mem_map.mp hdt
  have hn26 : n ≤ 26 := by
    simp only [List.mem_cons, List.not_mem_nil, or_false] at hn
    omega
  refine ⟨(n : Int), rfl, by omega, by omega, fun i ρ1 M1 => ∃ (d : D) (o3 : Option W), i ≤ n ∧ Bd (110 + 20 * i) (3 + i) 110 d ∧ tl d ≤ 2 ∧ Dr M k a (T + 2 + i) M1 ∧ ρ1 = [some (.raw (.ref a)), some (.dat (.list (anyL ++ anyM))), some (.dat d), o3], ?_, ?_, ?_⟩
  · exact ⟨d0, none, Nat.zero_le _, ⟨any_sh d0 hd0, any_bg d0 hd0⟩, any_tl d0 hd0, (hM1.trans hM2).le (by omega), rfl⟩
  · rintro Hb' i w1 ρ1 M1' hw ⟨d, o3, hi, ⟨hsh, hbg⟩, htl, hD, rfl⟩
    obtain ⟨rfl, hi2⟩ := upFrom_get hw
    have hin : i < n := by omega
    have hBD := hD.bx hB
    refine ⟨_, tg_name 3 sc__law_any.nd, ?_⟩
    refine sv_one <| s1_setE (hN := sc__law_any.nd) 2 <| ev_dof k (ok_of e) hr hg (by decide) (ev_v 0) (EvD.ev (EvN.d (en_lst (ds := [.tuple [d], .list [d], .dict [(.str "a", d)], .tuple [d, .int 1], .tuple [.int 1, d]]) (ea_c (ev_tup (ds := [d]) (ea_c (ev_v 2) ea_nil) (show 1 ≤ sizeLine by decide)) (ea_c (EvN.d (en_lst (ds := [d]) (ea_c (ev_v 2) ea_nil) (show 1 ≤ sizeLine by decide))) (ea_c (ev_dict1 fun _ _ => ev_v 2)
      (ea_c (ev_tup (ds := [d, .int 1]) (ea_c (ev_v 2) (ea_c ev_int ea_nil)) (show 2 ≤ sizeLine by decide)) (ea_c (ev_tup (ds := [.int 1, d]) (ea_c ev_int (ea_c (ev_v 2) ea_nil)) (show 2 ≤ sizeLine by decide)) ea_nil))))) (show 5 ≤ sizeLine by decide))) ⟨_, _, .inl rfl, hBD, (show 0 < 5 by decide), (show 5 < 1000000 by decide), by omega, fun d2 M3 hd2 hM3 => ?_⟩) (hs := se rfl) (hs2 := se rfl) (hpl := pl1 rfl)
    have one : Sh 3 0 (.int 1) := Sh.int (b := 1) (by decide) (by decide)
    have sh2 : Sh (110 + 20 * (i + 1)) (3 + (i + 1)) d2 := by
      simp only [List.mem_cons, List.not_mem_nil, or_false] at hd2
      rcases hd2 with rfl | rfl | rfl | rfl | rfl
      · exact (Sh.tuple (ShAll.cons hsh ShAll.nil)).mono (by omega) (by omega)
      · exact (Sh.list (ShAll.cons hsh ShAll.nil)).mono (by omega) (by omega)
      · exact (Sh.dict1 hsh (by decide +kernel)).mono (by omega) (by omega)
      · exact (Sh.tuple (ShAll.cons hsh (ShAll.cons (one.mono (Nat.le_refl _) (by omega)) ShAll.nil))).mono (by omega) (by omega)
      · exact (Sh.tuple (ShAll.cons (one.mono (Nat.le_refl _) (by omega)) (ShAll.cons hsh ShAll.nil))).mono (by omega) (by omega)
    have bg2 : bg d2 ≤ 110 := by
      have one2 : bg (.int 1) ≤ 110 := by decide +kernel
      have z : ∀ a b : Nat, a ≤ 110 → b ≤ 110 → max a b ≤ 110 := fun a b h1 h2 => Nat.max_le.mpr ⟨h1, h2⟩
      simp only [List.mem_cons, List.not_mem_nil, or_false] at hd2
      rcases hd2 with rfl | rfl | rfl | rfl | rfl
      · exact z _ _ hbg (Nat.zero_le _)
      · exact z _ _ hbg (Nat.zero_le _)
      · exact z _ _ (z _ _ (Nat.zero_le _) hbg) (Nat.zero_le _)
      · exact z _ _ hbg (z _ _ one2 (Nat.zero_le _))
      · exact z _ _ one2 (z _ _ hbg (Nat.zero_le _))
    have tl2 : tl d2 ≤ 2 := by
      simp only [List.mem_cons, List.not_mem_nil, or_false] at hd2
      rcases hd2 with rfl | rfl | rfl | rfl | rfl <;> first | exact Nat.zero_le _ | exact (show 1 ≤ 2 by decide) | exact (show 2 ≤ 2 by decide)
    exact ⟨d2, _, by omega, ⟨sh2, bg2⟩, tl2, (hD.trans hM3).le (by push_cast; omega), rfl⟩
  · rintro ρ1 M1' ⟨d, o3, hi, hsh, htl, hD, rfl⟩
    exact sv_one (s1_ret (ev_v 2) ⟨[], _, rfl, hB.ads hD, q d _ (hsh.mono (by omega) (show _ ≤ 26 + 3 by omega) (Nat.le_refl _)) htl (hD.le (by omega))⟩)
end

/-- how much deeper what is bent may be -/
abbrev dpB : Nat := dpA + 2
def CBent (kd : Nat) : Ct := fun ws M Φ => ∃ (k : Nat) (a : Addr) (T : Int) (c b : Nat) (d : D), ws = [.raw (.ref a), .dat d] ∧ Bx M k a T ∧ T + 2 * kd < 900000000 ∧ Bd c kd b d ∧ c ≤ 450000 ∧ b ≤ 1700 ∧
  ∀ d' M', Bd (10 * c + 800) (kd + dpB) (b + 120) d' → tl d' ≤ tl d + 2 → Dr M k a (T + 2 * kd + 40) M' → Φ (.dat d') M'
theorem cutL_len (ds : List D) (i j : Option Int) : (cutL ds i j).length ≤ ds.length := by
  unfold cutL
  rw [List.length_take, List.length_drop]
  omega
theorem cutL_last (ds : List D) : (cutL ds (some (-1)) none).length ≤ 1 := by
  unfold cutL
  rw [List.length_take, List.length_drop]
  have : ds.length ≤ HT.sIx ds.length 0 (some (-1)) + 1 := by
    unfold HT.sIx
    simp
    omega
  omega
theorem bg_bend {b : Nat} {ds : List D} {d' : D} (i : Nat) (h : bgAll ds ≤ b) (hd : bg d' ≤ b) : bgAll (ds.take i ++ [d'] ++ ds.drop (i + 1)) ≤ b := by
  refine bgAll_le.mpr fun x hx => ?_
  rcases List.mem_append.mp hx with hx | hx
  · rcases List.mem_append.mp hx with hx | hx
    · exact bgAll_le.mp h x (List.mem_of_mem_take hx)
    · rw [List.mem_singleton.mp hx]
      exact hd
  · exact bgAll_le.mp h x (List.mem_of_mem_drop hx)
theorem all_len {c k : Nat} : ∀ {ds : List D}, ShAll c k ds → 2 * ds.length ≤ c := by
  intro ds h
  have key : ∀ ds : List D, 2 * ds.length ≤ cstAll ds := by
    intro ds
    induction ds with
    | nil => exact Nat.zero_le _
    | cons d ds ih =>
      show 2 * (ds.length + 1) ≤ cst d + 2 + cstAll ds
      omega
  exact Nat.le_trans (key ds) h.size
theorem tup_all {c k : Nat} {ds : List D} (h : Sh c k (.tuple ds)) : ShAll (c - 3) (k - 1) ds ∧ 3 ≤ c ∧ 1 ≤ k := by
  have h1 : cstAll ds + 3 ≤ c := h.size
  have h2 : PyData.depthAll ds + 1 ≤ k := h.deep
  exact ⟨⟨h.ok, by omega, by omega⟩, by omega, by omega⟩
theorem bend2 {c k m n : Nat} {ds : List D} {d' : D} {i : Nat} (h : ShAll c k ds) (hi : i < ds.length) (hd' : Sh (10 * cst ds[i] + n) m d') (hk : k ≤ m) : ShAll (10 * c + n) m (ds.take i ++ [d'] ++ ds.drop (i + 1)) := by
  have e1 : ds = ds.take i ++ ([ds[i]] ++ ds.drop (i + 1)) := by
    have : ds.drop i = ds[i] :: ds.drop (i + 1) := List.drop_eq_getElem_cons hi
    show ds = ds.take i ++ (ds[i] :: ds.drop (i + 1))
    rw [← this, List.take_append_drop]
  have h2 := h
  rw [e1] at h2
  obtain ⟨c1, c2, h12, hA1, hA2⟩ := h2.split
  obtain ⟨c3, c4, h34, hA3, hA4⟩ := hA2.split
  obtain ⟨hd, hc3⟩ := hA3.unone
  have hsz := hd.size
  exact (((hA1.mono (Nat.le_refl _) hk).append (ShAll.cons hd' (ShAll.nil))).append (hA4.mono (Nat.le_refl _) hk)).mono (by omega) (Nat.le_refl _)
theorem bd_int {i : Int} {c k b : Nat} (h : bg (.int i) ≤ b) (hb : b ≤ 1890) (hc : b + 2 ≤ c) : Bd c k b (.int i) := by
  have h1 : i.natAbs < 2 ^ (b + 1) := Nat.lt_of_lt_of_le Nat.lt_log2_self (Nat.pow_le_pow_right (by decide) (by have : i.natAbs.log2 ≤ b := h; omega))
  have h2 : Sh (b + 1 + 2) k (.int i) := Sh.int h1 (by omega)
  exact ⟨⟨h2.ok, Nat.le_trans (show i.natAbs.log2 + 2 ≤ b + 2 from Nat.add_le_add_right h 2) hc, Nat.zero_le _⟩, h⟩
theorem bd_str_int {i : Int} {c k b : Nat} (h : cst (.int i) ≤ c) : Bd (c + 2) k b (.str (Str.ofString (toString i))) := ⟨⟨rfl, Nat.le_trans (cst_str_int i) (by omega), Nat.zero_le _⟩, Nat.zero_le _⟩
theorem bd_tup {c k b : Nat} {ds : List D} (h : ShAll c k ds) (hb : bgAll ds ≤ b) : Bd (c + 3) (k + 1) b (.tuple ds) := ⟨Sh.tuple h, hb⟩
theorem bd_lst {c k b : Nat} {ds : List D} (h : ShAll c k ds) (hb : bgAll ds ≤ b) : Bd (c + 3) (k + 1) b (.list ds) := ⟨Sh.list h, hb⟩
theorem bd_one {c k b : Nat} {d : D} (h : Bd c k b d) : Bd (c + 5) (k + 1) b (.tuple [d]) := ⟨(Sh.tuple (ShAll.cons h.sh ShAll.nil)).mono (by omega) (Nat.le_refl _), Nat.max_le.mpr ⟨h.bg, Nat.zero_le _⟩⟩
theorem sh_one {k : Nat} : Sh 3 k (.int 1) := Sh.int (b := 1) (by decide) (by decide)
section
theorem bent_step (e : Env K mg) (kd : Nat) (IH : ∀ j, kd = j + 1 → DefE P w K mg base (4 + j) "_law_bent" s__law_bent ["_law_box_here", "_law_thing"] (CBent j)) : DefE P w K mg base (3 + kd + 1) "_law_bent" s__law_bent ["_law_box_here", "_law_thing"] (CBent kd) := by
  refine DefE.of e.h__law_bent sc__law_bent (fun _ _ _ _ _ _ us hl => match us, hl with | [_, _], _ => rfl) (by rintro ws M r ⟨_, _, _, _, _, _, rfl, _⟩; rfl) ?_
  rintro f cdv A outer s H E ws Φ M hr hg ⟨k, a, T, c, b, d, rfl, hB, hT, hd, hc, hb, q⟩
  have t0 : 0 ≤ (kd : Int) := Int.natCast_nonneg kd
  have hdp : dpB = dpA + 2 := rfl
  refine sv_meet (fun ρ1 M1 => ρ1 = [some (.raw (.ref a)), some (.dat d), none, none] ∧ Dr M k a (T + 1) M1) (s1_ifE ?_) ?_
  · by_cases hiT : isT d = true
    · obtain ⟨ds, rfl⟩ : ∃ ds, d = .tuple ds := by cases d <;> first | exact ⟨_, rfl⟩ | cases hiT
      obtain ⟨hA, hc3, hk1⟩ := tup_all hd.sh
      have hlen := all_len hA
      have hsz : ds.length ≤ sizeLine := Nat.le_trans (show ds.length ≤ 450000 by omega) (by decide)
      refine Et.and3 (x := true) (y := !ds.isEmpty) (et_of (ev_isi e.b_isinstance e.b_tuple (ev_v 1) (kit_tuple _))) (fun _ => et_neNil hr (ev_v 1) (ev_tup (ds := []) ea_nil)) (fun _ hne => ?_) (fun _ => sv_nil ⟨rfl, hB.dr.le (by omega)⟩)
      have hpos : 0 < ds.length := by
        cases ds with
        | nil => cases hne
        | cons _ _ => exact Nat.succ_pos _
      refine Et.gtI <| ev_tk k (ok_take e) hr hg (by omega) (ev_v 0) (ev_nat (i := 4)) hB (by decide) (big (by decide)) (by omega) fun z M1 hz hM1 => ⟨_, rfl, EvD.ev ev_int ⟨_, rfl, ?_⟩⟩
      have hB1 := hM1.bx hB
      by_cases hz0 : decide ((0 : Int) < (z : Int)) = true
      · rw [if_pos hz0]
        refine sv_cons <| s1_setE (hN := sc__law_bent.nd) 2 <| ev_tk k (n := ds.length) (ok_take e) hr hg (by omega) (ev_v 0) (ev_lenT e.b_len (ev_v 1).t) hB1 hpos (Nat.lt_of_le_of_lt (show ds.length ≤ 450000 by omega) (big (by decide))) (by omega) fun at' M2 hat hM2 => ?_
        have hB2 := hM2.bx hB1
        obtain ⟨j, rfl⟩ : ∃ j, kd = j + 1 := ⟨kd - 1, by omega⟩
        have hi : ds[at']? = some ds[at'] := List.getElem?_eq_getElem hat
        refine sv_one <| s1_retE <| Ev.catT <| Ev.catT <| EvD.ev (ev_cutD (ev_v 1) .no (.some (ev_v 2))) ⟨_, rfl, Ev.tup <| Ea.cons <| Ev.call (IH j rfl) (hr.mono (by omega)) hg <| Ea.p (ev_v 0) <| Ea.p (ev_ixT (ev_v 1).t (ev_v 2) (atI_nat hi)) <| Ea.nil ⟨k, a, _, cst ds[at'], b, ds[at'], rfl, hB2, by omega, ⟨⟨?_, ?_, ?_⟩, ?_⟩, ?_, hb, fun d' M3 hd' htl' hM3 => Ea.nil ⟨[d'], rfl, (show 1 ≤ sizeLine by decide), _, rfl, ?_, _, rfl, EvD.ev (ev_cutD (ev_v 1) (.some (ev_add (ev_v 2) ev_int)) .no) ⟨_, rfl, ?_, [], M3, rfl, ?_, q _ _ ⟨?_, ?_⟩ ?_ ?_⟩⟩⟩⟩
        · exact (hA.mem _ (List.getElem_mem hat)).ok
        · exact Nat.le_refl _
        · have := (hA.mem _ (List.getElem_mem hat)).deep
          omega
        · exact bgAll_le.mp hd.bg _ (List.getElem_mem hat)
        · have := (hA.mem _ (List.getElem_mem hat)).size
          omega
        · exact Nat.le_trans (Nat.add_le_add_right (cutL_len ..) 1) (Nat.le_trans (show ds.length + 1 ≤ 450001 by omega) (by decide))
        · refine Nat.le_trans (show _ ≤ 2 * ds.length + 1 from ?_) (Nat.le_trans (show 2 * ds.length + 1 ≤ 900001 by omega) (by decide))
          have e1 : (cutL ds none (some (at' : Int))).length ≤ ds.length := cutL_len ..
          have e2 : (cutL ds (some ((at' : Int) + 1)) none).length ≤ ds.length := cutL_len ..
          rw [List.length_append]
          show _ + 1 + _ ≤ _
          omega
        · rw [hM3.bx hB2 |> fun _ => hB2.ads hM3, hB1.ads hM2, hB.ads hM1]
        · have e1 : cutL ds none (some (at' : Int)) = ds.take at' := cut_to ds at'
          have e2 : cutL ds (some ((at' : Int) + 1)) none = ds.drop (at' + 1) := cut_from ds (at' + 1)
          rw [e1, e2]
          exact ((Sh.tuple (bend2 hA hat hd'.sh (by omega)))).mono (by omega) (by omega)
        · have e1 : cutL ds none (some (at' : Int)) = ds.take at' := cut_to ds at'
          have e2 : cutL ds (some ((at' : Int) + 1)) none = ds.drop (at' + 1) := cut_from ds (at' + 1)
          rw [e1, e2]
          exact bg_bend at' (Nat.le_trans hd.bg (by omega)) hd'.bg
        · show (_ ++ [d'] ++ _).length ≤ ds.length + 2
          have e1 : cutL ds none (some (at' : Int)) = ds.take at' := cut_to ds at'
          have e2 : cutL ds (some ((at' : Int) + 1)) none = ds.drop (at' + 1) := cut_from ds (at' + 1)
          rw [e1, e2, List.length_append, List.length_append, List.length_take, List.length_drop, List.length_singleton]
          omega
        · exact (((hM1.trans hM2).trans hM3)).le (by push_cast; omega)
      · rw [if_neg hz0]
        exact sv_nil ⟨rfl, hM1⟩
    · have hiT' : isT d = false := by simpa using hiT
      exact Et.and3 (x := false) (y := false) (EtD.cast hiT' (et_of (ev_isi e.b_isinstance e.b_tuple (ev_v 1) (kit_tuple _)))) (fun h => nomatch h) (fun h => nomatch h) (fun _ => sv_nil ⟨rfl, hB.dr.le (by omega)⟩)
  · rintro ρ1 M1 ⟨rfl, hM1⟩
    have hB1 := hM1.bx hB
    refine sv_cons <| s1_setE (hN := sc__law_bent.nd) 3 <| Ev.call (ok_law_any e) (hr.mono (by omega)) hg <| Ea.p (ev_v 0) <| Ea.nil ⟨k, a, _, rfl, hB1, by omega, fun o M2 ho hot hM2 => ?_⟩
    have hB2 := hM2.bx hB1
    have hD2 := hM1.trans hM2
    have ho' : Bd (10 * c + 800) (kd + dpB) (b + 120) o := ho.mono (by omega) (by omega) (by omega)
    have fin : ∀ (d' : D) (M3 : Mem), Bd (10 * c + 800) (kd + dpB) (b + 120) d' → tl d' ≤ tl d + 2 → Dr M2 k a (T + 1 + 32 + 1) M3 → ∃ Ml M2' , M3 = Ml ++ M2' ∧ ads M2' = ads M ∧ Φ (.dat d') M2' := fun d' M3 h3 h4 hM3 => ⟨[], M3, rfl, hB.ads (hD2.trans hM3), q _ _ h3 h4 ((hD2.trans hM3).le (by omega))⟩
    by_cases hiT : isT d = true
    · obtain ⟨ds, rfl⟩ : ∃ ds, d = .tuple ds := by cases d <;> first | exact ⟨_, rfl⟩ | cases hiT
      obtain ⟨hA, hc3, hk1⟩ := tup_all hd.sh
      have hlen := all_len hA
      have hbg : bgAll ds ≤ b := hd.bg
      have hcut : ∀ i j : Option Int, (cutL ds i j).length ≤ ds.length := fun i j => cutL_len ..
      have hcb : ∀ i j : Option Int, bgAll (cutL ds i j) ≤ b := fun i j => bgAll_le.mpr fun x hx => bgAll_le.mp hbg x (cutL_mem hx)
      have big2 : ∀ n : Nat, n ≤ 900000 → n ≤ sizeLine := fun n hn => Nat.le_trans hn (by decide)
      refine sv_cons (s1_if (x := true) (et_of (ev_isi e.b_isinstance e.b_tuple (ev_v 1) (kit_tuple _))) (fun _ => ?_) fun h => nomatch h)
      refine sv_one <| s1_retE <| ev_dof k (ok_of e) hr hg (by omega) (ev_v 0) (EvD.ev (EvN.d (en_lst (ds := [.list ds, .tuple (ds ++ cutL ds (some (-1)) none), .tuple ds.reverse, .tuple (cutL ds (some 1) none), .tuple [.tuple ds], .tuple (ds ++ [.int 1]), o])
        (ea_c (EvN.d (en_listT e.b_list (ev_v 1).t (hs := se rfl))) (ea_c (ev_catT (ev_v 1) (ev_cutD (ev_v 1) (.some (ev_neg ev_int)) .no) (big2 _ (by have := hcut (some (-1)) none; omega))) (ea_c (ev_back (ev_v 1)) (ea_c (ev_cutD (ev_v 1) (.some ev_int) .no) (ea_c (ev_tup (ds := [.tuple ds]) (ea_c (ev_v 1) ea_nil) (show 1 ≤ sizeLine by decide))
        (ea_c (ev_catT (ev_v 1) (ev_tup (ds := [.int 1]) (ea_c ev_int ea_nil) (show 1 ≤ sizeLine by decide)) (big2 _ (by show ds.length + 1 ≤ _; omega))) (ea_c (ev_v 3) ea_nil))))))) (show 7 ≤ sizeLine by decide))) ⟨_, _, .inl rfl, hB2, (show 0 < 7 by decide), (show 7 < 1000000 by decide), by omega, fun d' M3 hd' hM3 => fin d' M3 ?_ ?_ (hM3.le (by omega))⟩) (hs := se rfl) (hs2 := se rfl) (hpl := pl1 rfl)
      rotate_left
      · simp only [List.mem_cons, List.not_mem_nil, or_false] at hd'
        have hc1 := hcut (some (-1)) none
        have hc2 := hcut (some 1) none
        rcases hd' with rfl | rfl | rfl | rfl | rfl | rfl | rfl
        · exact Nat.zero_le _
        · show (ds ++ cutL ds (some (-1)) none).length ≤ ds.length + 2
          rw [List.length_append]
          have : (cutL ds (some (-1)) none).length ≤ 1 := cutL_last ds
          omega
        · show ds.reverse.length ≤ ds.length + 2
          rw [List.length_reverse]
          omega
        · exact Nat.le_trans hc2 (Nat.le_add_right _ _)
        · exact Nat.le_trans (show 1 ≤ 2 by decide) (Nat.le_add_left _ _)
        · show (ds ++ [PyData.int 1]).length ≤ ds.length + 2
          rw [List.length_append, List.length_singleton]
          omega
        · exact Nat.le_trans hot (Nat.le_add_left _ _)
      have up : ∀ {x : D} {c' k' : Nat}, Bd c' k' b x → c' ≤ 10 * c + 800 → k' ≤ kd + dpB → Bd (10 * c + 800) (kd + dpB) (b + 120) x := fun h h1 h2 => h.mono h1 h2 (by omega)
      have hb1 : b = b + 0 := rfl
      simp only [List.mem_cons, List.not_mem_nil, or_false] at hd'
      rcases hd' with rfl | rfl | rfl | rfl | rfl | rfl | rfl
      · exact up (bd_lst hA hbg) (by omega) (by omega)
      · exact up (bd_tup (hA.append (cutL_shAll hA _ _)) (bgAll_le.mpr fun x hx => (List.mem_append.mp hx).elim (bgAll_le.mp hbg x) (bgAll_le.mp (hcb _ _) x))) (by omega) (by omega)
      · exact up (bd_tup hA.reverse (bgAll_le.mpr fun x hx => bgAll_le.mp hbg x (List.mem_reverse.mp hx))) (by omega) (by omega)
      · exact up (bd_tup (cutL_shAll hA _ _) (hcb _ _)) (by omega) (by omega)
      · exact up (bd_one hd) (by omega) (by omega)
      · have h9 : bgAll (ds ++ [.int 1]) ≤ b + 120 := bgAll_le.mpr fun x hx => (List.mem_append.mp hx).elim (fun h => Nat.le_trans (bgAll_le.mp hbg x h) (by omega)) fun h => by
          rw [List.mem_singleton.mp h]
          exact Nat.le_trans (show bg (.int 1) ≤ 1 by decide +kernel) (by omega)
        exact (bd_tup (hA.append (ShAll.cons sh_one ShAll.nil)) h9).mono (by omega) (by omega) (Nat.le_refl _)
      · exact ho'
    · have hiT' : isT d = false := by simpa using hiT
      refine sv_cons (s1_if (x := false) (EtD.cast hiT' (et_of (ev_isi e.b_isinstance e.b_tuple (ev_v 1) (kit_tuple _)))) (fun h => nomatch h) fun _ => sv_nil ?_)
      by_cases hI : isI d = true
      · obtain ⟨i, rfl⟩ : ∃ i, d = .int i := by cases d <;> first | exact ⟨_, rfl⟩ | cases hI
        have hbi : i.natAbs.log2 ≤ b := hd.bg
        have hci : i.natAbs.log2 + 2 ≤ c := hd.sh.size
        refine sv_cons (s1_if (x := true) (EwD.t (ew_and (x := true) (y := true) (et_of (ev_isi e.b_isinstance e.b_int (ev_v 1) (kit_int _))) fun _ => ew_and1 (et_not (b := false) (et_of (ev_isi e.b_isinstance e.b_bool (ev_v 1) (kit_bool _)))))) (fun _ => ?_) fun h => nomatch h)
        refine sv_one <| s1_retE <| ev_dof k (ok_of e) hr hg (by omega) (ev_v 0) (EvD.ev (EvN.d (en_lst (ds := [.int (i + 1), .int (i - 1), .int (0 - i), .int (i * 70000), .str (Str.ofString (toString i)), .tuple [.int i], .bool (decide (i = 1)), o])
          (ea_c (ev_add (ev_v 1) ev_int) (ea_c (ev_sub (ev_v 1) ev_int) (ea_c (ev_sub ev_int (ev_v 1)) (ea_c (ev_mul (ev_v 1) ev_int (.inr (by decide))) (ea_c (ev_strI e.b_str (ev_v 1) (by omega) (hs := se rfl)) (ea_c (ev_tup (ds := [.int i]) (ea_c (ev_v 1) ea_nil) (show 1 ≤ sizeLine by decide)) (ea_c (ev_eqI (ev_v 1) ev_int) (ea_c (ev_v 3) ea_nil)))))))) (show 8 ≤ sizeLine by decide))) ⟨_, _, .inl rfl, hB2, (show 0 < 8 by decide), (show 8 < 1000000 by decide), by omega, fun d' M3 hd' hM3 => fin d' M3 ?_ ?_ (hM3.le (by omega))⟩) (hs := se rfl) (hs2 := se rfl) (hpl := pl1 rfl)
        rotate_left
        · simp only [List.mem_cons, List.not_mem_nil, or_false] at hd'
          rcases hd' with rfl | rfl | rfl | rfl | rfl | rfl | rfl | rfl
          all_goals first | exact Nat.zero_le _ | exact Nat.le_trans hot (Nat.le_add_left _ _) | exact Nat.le_trans (show 1 ≤ 2 by decide) (Nat.le_add_left _ _)
        have l1 := log2_add1 (i := i) 1 (by decide)
        have l2 := log2_add1 (i := i) (-1) (by decide)
        have l3 : (0 - i).natAbs.log2 = i.natAbs.log2 := by rw [Int.zero_sub, Int.natAbs_neg]
        have l4 := log2_mul (i := i)
        have ib : ∀ j : Int, j.natAbs.log2 ≤ i.natAbs.log2 + 17 → Bd (10 * c + 800) (kd + dpB) (b + 120) (.int j) := fun j hj => (bd_int (k := 0) (c := i.natAbs.log2 + 19) (b := i.natAbs.log2 + 17) hj (by omega) (by omega)).mono (by omega) (Nat.zero_le _) (by omega)
        simp only [List.mem_cons, List.not_mem_nil, or_false] at hd'
        rcases hd' with rfl | rfl | rfl | rfl | rfl | rfl | rfl | rfl
        · exact ib _ (by omega)
        · exact ib _ (by rw [Int.sub_eq_add_neg]; omega)
        · exact ib _ (by omega)
        · exact ib _ l4
        · exact (bd_str_int (k := 0) (b := 0) hd.sh.size).mono (by omega) (Nat.zero_le _) (Nat.zero_le _)
        · exact (bd_one hd).mono (by omega) (by omega) (by omega)
        · exact ⟨(Sh.bool (k := 0)).mono (by omega) (Nat.zero_le _), Nat.zero_le _⟩
        · exact ho'
      · have key : (isI d || isB d) = true → isB d = true := by cases d <;> simp_all [isI, isB]
        refine sv_cons (s1_if (x := false) (EtD.cast (x := (isI d || isB d) && !isB d) (by have : isI d = false := by simpa using hI
                                                                                           rw [this]
                                                                                           cases isB d <;> rfl) (EwD.t (ew_and (et_of (ev_isi e.b_isinstance e.b_int (ev_v 1) (kit_int _))) fun _ => ew_and1 (et_not (et_of (ev_isi e.b_isinstance e.b_bool (ev_v 1) (kit_bool _))))))) (fun h => nomatch h) fun _ => sv_nil ?_)
        exact sv_one (s1_ret (ev_v 3) (fin o M2 ho' (Nat.le_trans hot (Nat.le_add_left _ _)) (hB2.dr.le (by omega))))
theorem ok_law_bent (e : Env K mg) : ∀ kd, DefE P w K mg base (4 + kd) "_law_bent" s__law_bent ["_law_box_here", "_law_thing"] (CBent kd) := by
  intro kd
  induction kd with
  | zero => exact bent_step e 0 (fun j h => absurd h (by omega))
  | succ n ih =>
    have := bent_step (P := P) (w := w) (base := base) e (n + 1) (fun j h => by
      obtain rfl : n = j := by omega
      exact ih)
    have e1 : 3 + (n + 1) + 1 = 4 + (n + 1) := by omega
    rw [e1] at this
    exact this
end

abbrev tws : List (Str × String) := [("InvalidWidth", "width"), ("InvalidVectors", "vectors"), ("InvalidAddress", "address"), ("InvalidDifferences", "differences"), ("InvalidBits", "bits"), ("InvalidNumber", "number"), ("NotIncluded", "included"), ("TooMany", "many")]
/-- told's answer: a word and what came, or the value -/
def TM : Out → D → Prop
  | .ret d, r => r = .tuple [.str "returned", d]
  | .err x d, r => ∃ w : String, (x, w) ∈ tws ∧ r = .tuple [.str w, d]
def mk (y : Str) : List D := tws.map fun p => .bool (decide (y = p.1))
theorem mk_cnt {y : Str} {w : String} (h : (y, w) ∈ tws) : ((mk y).countP fun z => PyData.eqv z (.bool true)) = 1 ∧ ∃ i : Nat, i < 8 ∧ (tws.map fun p => (.str p.2 : D))[i]? = some (.str w) ∧ (mk y)[i]? = some (.bool true) ∧ ∀ (m : Nat) (z' : D), m < i → (mk y)[m]? = some z' → PyData.eqv z' (.bool true) = false := by
  have key : ∀ i : Fin 8, ((mk (tws[i].1)).countP fun z => PyData.eqv z (.bool true)) = 1 := by decide +kernel
  have key2 : ∀ i m : Fin 8, m.1 < i.1 → tws[i].1 ≠ tws[m].1 := by decide +kernel
  obtain ⟨i, hi⟩ := List.mem_iff_getElem?.mp h
  have hl : i < 8 := (List.getElem?_eq_some_iff.mp hi).1
  have e : tws[(⟨i, hl⟩ : Fin 8)] = (y, w) := (List.getElem?_eq_some_iff.mp hi).2
  have k1 := key ⟨i, hl⟩
  have k2 := key2 ⟨i, hl⟩
  rw [e] at k1 k2
  refine ⟨k1, i, hl, by rw [List.getElem?_map, hi]; rfl, ?_, fun m z' hm hz => ?_⟩
  · unfold mk
    rw [List.getElem?_map, hi]
    show some (PyData.bool (decide (y = y))) = _
    rw [decide_eq_true rfl]
  · unfold mk at hz
    have hm8 : m < 8 := by omega
    have hm2 : tws[m]? = some tws[(⟨m, hm8⟩ : Fin 8)] := List.getElem?_eq_getElem (show m < tws.length from hm8)
    rw [List.getElem?_map, hm2] at hz
    obtain rfl := Option.some.inj hz
    have h2 : decide (y = tws[(⟨m, hm8⟩ : Fin 8)].1) = false := decide_eq_false (k2 ⟨m, hm8⟩ hm)
    show PyData.eqv (.bool (decide (y = tws[(⟨m, hm8⟩ : Fin 8)].1))) (.bool true) = false
    rw [h2]
    rfl
section
theorem ok_law_told (e : Env K mg) (x : EnvX P K mg errs tf) : Told P w K mg base 30 "_law_told" s__law_told "_law_ask" n__law_told TM := by
  refine ⟨e.h__law_told, sc__law_told, rfl, Or.inl rfl, fun _ _ _ _ _ _ us hl => match us, hl with | [_], _ => rfl, ?_⟩
  rintro g cdg A outer s H f o r M hr hg hT ask
  refine sv_cons <| s1_asgE (ts := [1, 2]) <| EvD.ev (ev_tup (ds := [.none, .none]) (ea_cons ev_non (ea_cons ev_non ea_nil)) (show 2 ≤ sizeLine by decide)) ⟨_, tg_pair 1 2 sc__law_told.nd, ?_⟩
  cases o with
  | ret d =>
    obtain rfl := hT
    refine sv_cons (s1_try0 (sv_one (s1_setB 2 (ask _ _ _ rfl) ?_ sc__law_told.nd)))
    refine sv_cons (s1_if (et_isN (ev_v 1)) (fun _ => ?_) fun h => absurd h (by decide))
    exact sv_one (s1_ret (ev_tup (ds := [.str "returned", d]) (ea_c ev_str (ea_c (ev_v 2) ea_nil)) (show 2 ≤ sizeLine by decide)) ⟨rfl, [], rfl⟩)
  | err y d =>
    obtain ⟨wd, hw, rfl⟩ := hT
    have hgB : ∀ q : Addr, (q, Ow.err (He.ga K y) d) ∈ (q, Ow.err (He.ga K y) d) :: M := fun q => List.mem_cons_self ..
    have hy : y ∈ errs := by
      have h2 : y ∈ tws.map (·.1) := List.mem_map.mpr ⟨_, hw, rfl⟩
      have h3 : ∀ z ∈ tws.map (·.1), z ∈ errs := by decide +kernel
      exact h3 y h2
    have T := x.er y hy w base
    refine sv_cons (s1_tryE (iy := 2) (i := 3) (iz := 1) (fun pn xe => ask _ _ _ pn xe rfl) T.gC (x.exm y hy) ⟨rfl, by decide, .inl x.base.txt.gB⟩ (fun q hq => ?_) sc__law_told.nd rfl (by decide))
    refine sv_cons (s1_if (et_isNraw (v := .ref q) (fun h => V.noConfusion h) (ev_v 1)) (fun h => nomatch h) fun _ => sv_nil ?_)
    have is := x.is y hy
    have ise : ∀ {ρ : Ro} (c : String) (hc : (c : Str) ∈ errs) {p1 p2 p3 p4 : Pos} (h1 : ρ[1]? = some (some (.raw (.ref q)))) (hg2 : Gl (cx0 P w K mg base n__law_told "_law_told" (defScope s__law_told) g cdg A outer s H E0) (c : Str)) (hd : ((c : Str) == ("__debug__" : Str)) = false),
        EvD (cx0 P w K mg base n__law_told "_law_told" (defScope s__law_told) g cdg A outer s H E0) (.Call (.Name "isinstance" p1) [.Name "_law_caught" p2, .Name c p3] [] p4) ρ ((q, Ow.err (He.ga K y) d) :: M) (.dat (.bool (decide (y = (c : Str))))) :=
      by
        intro ρ c hc p1 p2 p3 p4 h1 hg2 hd
        exact ev_isErr is e.b_isinstance (ev_v 1 h1) (hgB q) (ev_gC (x.er c hc w base).gC hg2 hd) (fun u hu => hu) (x.kit _ hy _ hc)
    refine sv_cons (s1_set 4 (w := .dat (.list ((mk y).take 3))) (EvN.d (en_lst (ds := (mk y).take 3) (ea_c (ise "InvalidWidth" (by decide +kernel) rfl rfl (by decide)) (ea_c (ise "InvalidVectors" (by decide +kernel) rfl rfl (by decide)) (ea_c (ise "InvalidAddress" (by decide +kernel) rfl rfl (by decide)) ea_nil))) (show 3 ≤ sizeLine by decide))) ?_ sc__law_told.nd (hs := sw rfl))
    refine sv_cons (s1_set 4 (w := .dat (.list ((mk y).take 5))) (EvN.d (en_cat (ds := (mk y).take 3) (ev_v 4).l (EvN.l (en_lst (ds := [.bool (decide (y = "InvalidDifferences")), .bool (decide (y = "InvalidBits"))]) (ea_c (ise "InvalidDifferences" (by decide +kernel) rfl rfl (by decide)) (ea_c (ise "InvalidBits" (by decide +kernel) rfl rfl (by decide)) ea_nil)) (show 2 ≤ sizeLine by decide))) (show 5 ≤ sizeLine by decide))) ?_ sc__law_told.nd (hs := sw rfl))
    refine sv_cons (s1_set 4 (w := .dat (.list (mk y))) (EvN.d (en_cat (ds := (mk y).take 5) (ev_v 4).l (EvN.l (en_lst (ds := [.bool (decide (y = "InvalidNumber")), .bool (decide (y = "NotIncluded")), .bool (decide (y = "TooMany"))]) (ea_c (ise "InvalidNumber" (by decide +kernel) rfl rfl (by decide)) (ea_c (ise "NotIncluded" (by decide +kernel) rfl rfl (by decide)) (ea_c (ise "TooMany" (by decide +kernel) rfl rfl (by decide)) ea_nil))) (show 3 ≤ sizeLine by decide))) (show 8 ≤ sizeLine by decide))) ?_ sc__law_told.nd (hs := sw rfl))
    obtain ⟨hcnt, i, hi, hword, hmk, hno⟩ := mk_cnt hw
    have hsh : SeqAt.shaped (.list (mk y)) = true := rfl
    refine sv_cons (s1_if (x := false) (EwD.t (ew_orF (EtD.cast (by rw [hcnt]; rfl) (et_neI (i := (((mk y).countP fun z => PyData.eqv z (.bool true) : Nat) : Int)) (j := 1) (ev_countD hr (ev_v 4).l (ds := mk y) rfl ev_bl (d := .bool true) rfl hsh rfl) ev_int)) (ew_or1 (EtD.cast (x := !true) rfl (et_not (et_of (ev_isErr is e.b_isinstance (ev_v 1) (hgB q) (ev_gT (T := "ValueError") e.b_ValueError (by decide +kernel)) (fun u hu => hu) (x.kve y hy)))))))) (fun h => nomatch h) fun _ => sv_nil ?_)
    refine sv_cons (s1_set 5 (w := .dat (.list (tws.map fun p => .str p.2))) (lit_ok (d := .list (tws.map fun p => .str p.2)) (by (repeat' first | exact LitA.nil | refine LitA.cons ?_ ?_ | exact Lit.int | exact Lit.str | exact Lit.non | exact Lit.bl | exact Lit.neg | refine Lit.tup ?_ ?_ | refine Lit.lst ?_ ?_ | exact Lit.dic0 | refine Lit.dic1 ?_ | exact Lit.p30 | decide))) ?_ sc__law_told.nd (hs := sw rfl))
    exact sv_one (s1_ret (ev_tup (ds := [.str wd, d]) (ea_c (ev_ixL (ds := tws.map fun p => .str p.2) (ev_v 5).l (ev_indexD hr (ev_v 4).l (ds := mk y) rfl ev_bl (d := .bool true) rfl hsh rfl hmk rfl hno) (atI_nat hword)) (ea_c (ev_value T.xf T.ov.nv (ev_v 1) (hgB q)) ea_nil)) (show 2 ≤ sizeLine by decide)) ⟨rfl, [_], rfl⟩)
end

theorem outc_err {k : Nat} {x : Str} {st : Stmt} {ps : List Str} {ws : List W} {C : List W → Str → D → Prop} {y : Str} {v : D} (F : DefR P w K mg base k x st ps C) (h : C ws y v) : Outc P w K mg base k x st ps ws (.err y v) := ⟨C, F, h⟩
theorem outc_ret {k : Nat} {x : Str} {st : Stmt} {ps : List Str} {ws : List W} {C : List W → W → Prop} {d : D} (F : DefP P w K mg base k x st ps C) (h : C ws (.dat d)) : Outc P w K mg base k x st ps ws (.ret d) := ⟨C, F, h⟩

theorem Ev.reprX {X : Cx} {ρ : Ro} {M : Mem} {e : Expr} {p pos : Pos} {k c kd : Nat} {d : D} {Φ : W → Mem → Prop} (S : SysM X.K) (hg : Gd X.A) (hr : Room k X.A) (hm : X.mg "repr" = none) (hd : Sh c kd d) (h : Ev X e ρ M fun w M1 => w = .dat d ∧ Φ (.dat (.str d.shown)) M1) (hc : c ≤ sizeLine := by decide) (hk : kd ≤ 60 := by decide) (hgl : Gl X "repr" := by rfl) (hs : starEach [e] X.env = (false, eval e X.env) :: starEach [] X.env := by rfl) (hpl : (backTo pos (starEach [] X.env)).any (·.1) = false := by rfl) :
    Ev X (.Call (.Name "repr" p) [e] [] pos) ρ M Φ := fun σ H Q ok q =>
  of_pe (pe_callB (call_reprX (A := ads M) S hg (by have := hr.units; have := hd.deep; omega) hd.ok (Nat.le_trans (Nat.le_trans (shown_cst d) hd.size) hc)) hgl hm (by decide +kernel) (pa_cons p_rd pa_nil hs) (by decide) (by decide) hs hpl) (h σ H _ ok fun w M1 v H1 h1 ea1 x1 m1 r1 => by
    obtain ⟨rfl, hΦ⟩ := h1
    exact ⟨v, rfl, r1, q _ M1 _ H1 hΦ ea1 x1 m1 (.str _)⟩)

/-- the tables stay while a box is drawn from -/
theorem Dr.tab {M M' : Mem} {k : Nat} {a P : Addr} {T T' : Int} {q : Str} (d : Dr M k a T M') (h : Bx M k a T') (hp : (P, Ow.tab q) ∈ M) : (P, Ow.tab q) ∈ M' := by
  obtain ⟨_, _, _, e, _⟩ := h
  obtain ⟨o, m, t, rfl, _⟩ := d
  obtain ⟨j, hj⟩ := List.mem_iff_getElem?.mp hp
  have hne : k ≠ j := fun z => by
    subst z
    rw [e] at hj
    have h2 := congrArg (fun p : Addr × Ow => p.2) (Option.some.inj hj)
    exact absurd h2 (fun z => by cases z)
  exact List.mem_of_getElem? (i := j) (by rw [List.getElem?_set_ne hne]; exact hj)
/-- what the law asks of a box, lambdas among it -/
def CRightT (K : PySem.W.Frag) (c : Int) : Ct := fun ws M Φ => ∃ (k : Nat) (a : Addr) (T : Int), ws = [.raw (.ref a)] ∧ Bx M k a T ∧ T ≤ 1000000 ∧ ((He.cT K ("_law_right", none)).2, Ow.tab (lamQ "_law_right")) ∈ M ∧ ∀ M', Dr M k a (T + c) M' → Φ (.dat (.bool true)) M'

abbrev lr : Nat := 60
abbrev rc : Int := 1000
abbrev rn : Nat := 12
theorem bd_ils {l : List Int} (h : ∀ x ∈ l, x.natAbs < 2 ^ 67) (hl : l.length ≤ 30) : Bd 2500 1 67 (.tuple (ils l)) := by
  have h1 : ∀ d ∈ ils l, Sh 69 0 d := fun d hd => by
    obtain ⟨i, hi, rfl⟩ := List.mem_map.mp hd
    exact Sh.int (h i hi) (by decide)
  have h2 : ShAll ((ils l).length * (69 + 2)) 0 (ils l) := ShAll.of h1
  refine ⟨(Sh.tuple h2).mono (by rw [ils_len]; omega) (by decide), bgAll_le.mpr fun d hd => ?_⟩
  obtain ⟨i, hi, rfl⟩ := List.mem_map.mp hd
  show i.natAbs.log2 ≤ 67
  have := h i hi
  by_cases h0 : i.natAbs = 0
  · rw [h0]; decide
  · exact Nat.le_of_lt ((Nat.log2_lt h0).mpr (h i hi))
theorem big_int {i : Int} {b : Nat} (h : i.natAbs.log2 ≤ b) : i.natAbs < 2 ^ (b + 1) := Nat.lt_of_lt_of_le Nat.lt_log2_self (Nat.pow_le_pow_right (by decide) (by omega))
theorem row_of {l : List Int} (h : bg (.tuple (ils l)) ≤ 240) (ht : tl (.tuple (ils l)) ≤ 40) : Row10 l := by
  refine ⟨by have : (ils l).length ≤ 40 := ht; rwa [ils_len] at this, fun a ha => ?_⟩
  have h1 : a.natAbs.log2 ≤ 240 := bgAll_le.mp h (.int a) (List.mem_map.mpr ⟨a, ha, rfl⟩)
  exact Nat.lt_of_lt_of_le (big_int h1) (Nat.pow_le_pow_right (by decide) (by decide))
theorem pair_len {i : Int} (h : i.natAbs < 10 ^ 4300) : (PyData.shown (.tuple [.str "returned", .int i])).length ≤ sizeLine := by
  have e : PyData.shown (.tuple [.str "returned", .int i]) = (("(" : String) : Str) ++ (PyData.shown (.str "returned") ++ ((", " : String) : Str) ++ Str.ofString (toString i)) ++ ((")" : String) : Str) := rfl
  have h1 := int_text_length_le10 (k := 4300) (by decide) h
  have h2 : (PyData.shown (.str "returned")).length = 10 := by decide +kernel
  rw [e, strLen_append, strLen_append, strLen_append, strLen_append, h2, PySem.ofString_length (toString i), show ((("(" : String) : Str)).length = 1 from rfl, show (((", " : String) : Str)).length = 2 from rfl, show (((")" : String) : Str)).length = 1 from rfl]
  exact Nat.le_trans (show _ ≤ 10000 by omega) (by decide)
theorem out_val (e : Env K mg) {l : List Int} {q' : Int} (hl : l ≠ []) (hR : Row10 l) (hq : q'.natAbs < 2 ^ 120) : Outc P w K mg base 6 "value_at" s_value_at ["coefficients", "number"] [.dat (.tuple (ils l)), .dat (.int q')] (.ret (.int (evP q' l))) := outc_ret ((ok_value_at e).up (by decide)) ⟨l, q', rfl, hl, hR, hq, rfl⟩
def due1 (n : D) : D := if isI n = true then .none else .tuple [.str "number", n]
def due2 (d n : D) : D := if coefB d = true then due1 n else .tuple [.str "number", d]
theorem isI_int {d : D} (h : isI d = true) : ∃ i, d = .int i := by
  cases d <;> first | exact Bool.noConfusion h | exact ⟨_, rfl⟩
theorem ok_law_right (e : Env K mg) (x : EnvX P K mg errs tf) (tb : ∀ p ∈ tf, LamX.TabB base mg (He.cT K p).1 (He.cT K p).2) : DefE P w K mg base lr "_law_right" s__law_right ["_law_box_here"] (CRightT K rc) := by
  refine DefE.ofC e.h__law_right (x.gl ("_law_right", none) (by decide) rfl) sc__law_right (fun _ _ _ _ _ _ us hl => match us, hl with | [_], _ => rfl) (by rintro ws M r ⟨_, _, _, rfl, _⟩; rfl) ?_
  rintro f cdv A outer s H E ws Φ M hr hg rfl ⟨k, a, T, rfl, hB, hT, hP, q⟩
  have told := ok_law_told (base := base) (w := w) e x
  have hTB := tb ("_law_right", none) (by decide)
  have N := sc__law_right.nd
  refine sv_cons <| s1_setE (hN := N) 1 <| Ev.tuple e.b_tuple <| Ev.lcE [("_law_turn", 2)] N (blkOk_by (N := n__law_right) (sc := defScope s__law_right) (by decide +kernel)) (noneOwn rfl) <| srcE_range1 e.b_range <| ev_dof k (ok_of e) hr hg (by decide) (ev_v 0) (Ev.lst <| Ea.c <| Ev.op0 op_add <| EvD.ev (ev_nat (i := 1)) ⟨_, rfl, ev_tk (n := 9) k (ok_take e) hr hg (by decide) (ev_v 0) (ev_nat (i := 9)) hB (by decide) (big (by decide)) (by omega) fun y1 M1 hy1 hM1 => ⟨_, rfl, Ea.c <| Ev.op0 op_add <| EvD.ev (ev_nat (i := 1)) ⟨_, rfl, ev_tk (n := 9) k (ok_take e) hr hg (by decide) (ev_v 0) (ev_nat (i := 9)) (hM1.bx hB) (by decide) (big (by decide)) (by omega) fun y2 M2 hy2 hM2 => ⟨_, rfl, Ea.q (ev_nat (i := 30)) <| Ea.nil ⟨[dn (1 + y1), dn (1 + y2), dn 30], ?_, (show 3 ≤ sizeLine by decide), ⟨[dn (1 + y1), dn (1 + y2), dn 30], _, .inl rfl, hM2.bx (hM1.bx hB), (show 0 < 3 by decide), (show 3 < 1000000 by decide), by omega, fun dq M3 hdq hM3 => ?_⟩⟩⟩⟩⟩⟩)
  · show [W.dat (.int (((1 : Nat) : Int) + (y1 : Int))), W.dat (.int (((1 : Nat) : Int) + (y2 : Int))), W.dat (dn 30)] = _
    have e1 : ∀ y : Nat, (((1 : Nat) : Int) + (y : Int)) = ((1 + y : Nat) : Int) := fun y => by push_cast; rfl
    rw [e1, e1]
    rfl
  obtain ⟨m, rfl, hm1, hm2⟩ : ∃ m : Nat, dq = dn m ∧ 1 ≤ m ∧ m ≤ 30 := by
    simp only [List.mem_cons, List.not_mem_nil, or_false] at hdq
    rcases hdq with rfl | rfl | rfl
    · exact ⟨_, rfl, by omega, by omega⟩
    · exact ⟨_, rfl, by omega, by omega⟩
    · exact ⟨30, rfl, by decide, by decide⟩
  have hD3 : Dr M k a (T + 10) M3 := ((hM1.trans hM2).trans hM3).le (by omega)
  clear hM1 hM2 hM3 hdq
  refine ⟨(m : Int), rfl, by omega, by omega, by rw [upFrom_len]; exact Nat.le_trans (show _ ≤ 100 by omega) (by decide), fun i acc M' => ∃ us : List Int, us.length = i ∧ acc = ils us ∧ (∀ x ∈ us, x.natAbs < 2 ^ 67) ∧ Dr M k a (T + 10 + 3 * (i : Int)) M', ⟨[], rfl, rfl, by simp, by simpa using hD3⟩, ?_, ?_⟩
  · rintro i w hw D acc M4 nD ea hlen ⟨us, rfl, rfl, hus, hD4⟩
    have hi := (upFrom_get hw).2
    refine ⟨_, fun s' H' C cl fp => ⟨tg_name 2 N, Ev.call (ok_law_number e) (hr.mono (by decide)) hg (EaD.ea (ea_cons (ev_v 0) ea_nil) ⟨k + 1, a, _, rfl, (hD4.bx hB).cons, by omega, fun v M5 hv hM5 => ?_⟩)⟩⟩
    obtain ⟨M6, rfl, hD6⟩ := hM5.cons
    refine ⟨.int v, M6, rfl, rfl, by rw [(hD4.bx hB).ads hD6, ea], us ++ [v], by simp, by unfold ils; rw [List.map_append]; rfl, fun x hx => ?_, (hD4.trans hD6).le (by push_cast; omega)⟩
    rcases List.mem_append.mp hx with hx | hx
    · exact hus x hx
    · rw [List.mem_singleton.mp hx]; exact hv
  rintro acc M4 ⟨us, hlen, rfl, hus, hD4⟩ _
  rw [upFrom_len] at hlen hD4
  have hul : us.length ≤ 30 := by omega
  have hu0 : us ≠ [] := fun z => by rw [z] at hlen; simp at hlen; omega
  have hD4 : Dr M k a (T + 110) M4 := hD4.le (by omega)
  have hB4 := hD4.bx hB
  refine ⟨ils us, rfl, ?_⟩
  refine sv_cons <| s1_setE (hN := N) 3 <| Ev.call (ok_law_number e) (hr.mono (by decide)) hg <| EaD.ea (ea_cons (ev_v 0) ea_nil) ⟨k, a, _, rfl, hB4, by omega, fun sp M5 hsp hM5 => ?_⟩
  have hD5 : Dr M k a (T + 120) M5 := (hD4.trans hM5).le (by omega)
  have hB5 := hD5.bx hB
  have hR0 : Row10 us := ⟨by omega, fun a ha => Nat.lt_trans (hus a ha) (Nat.pow_lt_pow_right (by decide) (by decide))⟩
  have hq0 : sp.natAbs < 2 ^ 120 := Nat.lt_trans hsp (Nat.pow_lt_pow_right (by decide) (by decide))
  have hv0 := ev_lt10 hq0 hR0
  refine sv_cons (s1_if (x := false) (EtD.cast (by rw [decide_eq_true rfl]; rfl) (et_neS (ev_reprI e.dg e.b_repr (ev_call (ok_value_at e) (hr.mono (by decide)) hg (ea_cons (ev_v 1) (ea_cons (ev_v 3) ea_nil)) ⟨us, sp, rfl, hu0, hR0, hq0, rfl⟩) hv0) (ev_reprI e.dg e.b_repr (ev_call (ok_law_value e) (hr.mono (by decide)) hg (ea_cons (ev_v 1) (ea_cons (ev_v 3) ea_nil)) ⟨us, sp, rfl, hR0, hq0, rfl⟩) hv0))) (fun h => nomatch h) fun _ => sv_nil ?_)
  have bd0 := bd_ils hus hul
  refine sv_cons <| s1_setE (hN := N) 1 <| ev_dof k (ok_of e) hr hg (by decide) (ev_v 0) (Ev.lst <| Ea.q (ev_v 1) <| Ea.q (ev_tup (ds := []) ea_nil (Nat.zero_le _)) <| Ea.c <| Ev.call (ok_law_bent e 1) (hr.mono (by decide)) hg <| Ea.p (ev_v 0) <| Ea.p (ev_v 1) <| Ea.nil ⟨k, a, _, 2500, 67, .tuple (ils us), rfl, hB5, by omega, bd0, by decide, by decide, fun db M8 hdb hdbt hM8 => Ea.c <| Ev.call (ok_law_any e) (hr.mono (by decide)) hg <| Ea.p (ev_v 0) <| Ea.nil ⟨k, a, _, rfl, hM8.bx hB5, by omega, fun o M9 ho hot hM9 =>
    Ea.nil ⟨[.tuple (ils us), .tuple [], db, o], rfl, (show 4 ≤ sizeLine by decide), ⟨_, _, .inl rfl, hM9.bx (hM8.bx hB5), (show 0 < 4 by decide), (show 4 < 1000000 by decide), by omega, fun d M10 hd hM10 => ?_⟩⟩⟩⟩) (hs := se rfl) (hs2 := se rfl) (hpl := pl1 rfl)
  have sd : Bd 30000 45 240 d ∧ tl d ≤ 40 := by
    simp only [List.mem_cons, List.not_mem_nil, or_false] at hd
    rcases hd with rfl | rfl | rfl | rfl
    · exact ⟨bd0.mono (by decide) (by decide) (by decide), by show (ils us).length ≤ 40; rw [ils_len]; omega⟩
    · exact ⟨⟨⟨rfl, by decide, by decide⟩, Nat.zero_le _⟩, Nat.zero_le _⟩
    · refine ⟨hdb.mono (by decide) (by decide) (by decide), Nat.le_trans hdbt ?_⟩
      show (ils us).length + 2 ≤ 40
      rw [ils_len]
      omega
    · exact ⟨ho.mono (by decide) (by decide) (by decide), Nat.le_trans hot (by decide)⟩
  have hD10 : Dr M k a (T + 300) M10 := (hD5.trans ((hM8.trans hM9).trans hM10)).le (by omega)
  have hB10 := hD10.bx hB
  clear hd hdb ho hM8 hM9 hM10 hdbt hot
  refine sv_cons <| s1_setE (hN := N) 3 <| ev_dof k (ok_of e) hr hg (by decide) (ev_v 0) (Ev.lst <| Ea.q (ev_v 3) <| Ea.c <| Ev.call (ok_law_any e) (hr.mono (by decide)) hg <| Ea.p (ev_v 0) <| Ea.nil ⟨k, a, _, rfl, hB10, by omega, fun o M9 ho hot hM9 =>
    Ea.q ev_bl <| Ea.nil ⟨[.int sp, o, .bool true], rfl, (show 3 ≤ sizeLine by decide), ⟨_, _, .inl rfl, hM9.bx hB10, (show 0 < 3 by decide), (show 3 < 1000000 by decide), by omega, fun n M11 hn hM11 => ?_⟩⟩⟩) (hs := se rfl) (hs2 := se rfl) (hpl := pl1 rfl)
  have sn : Bd 30000 45 110 n := by
    simp only [List.mem_cons, List.not_mem_nil, or_false] at hn
    rcases hn with rfl | rfl | rfl
    · refine ⟨(Sh.int hsp (by decide)).mono (by decide) (Nat.zero_le _), ?_⟩
      show sp.natAbs.log2 ≤ 110
      by_cases h0 : sp.natAbs = 0
      · rw [h0]; decide
      · exact Nat.le_of_lt (Nat.lt_trans ((Nat.log2_lt h0).mpr hsp) (by decide))
    · exact ho.mono (by decide) (by decide) (by decide)
    · exact ⟨⟨rfl, by decide, by decide⟩, Nat.zero_le _⟩
  have hD : Dr M k a (T + 400) M11 := (hD10.trans (hM9.trans hM11)).le (by omega)
  have hP5 := hD.tab hB hP
  clear hn ho hM9 hM11 hot
  obtain ⟨sd, std⟩ := sd
  refine sv_cons (s1_set 4 (w := .dat .none) ev_non ?_ N)
  refine sv_meet (fun ρ1 M1 => M1 = M11 ∧ ∃ o2, ρ1 = [some (.raw (.ref a)), some (.dat d), o2, some (.dat n), some (.dat (due1 n)), none]) ?_ ?_
  · refine s1_if (x := !(isI n)) (et_not (et_of (ev_call (ok_law_is_whole e) (hr.mono (by decide)) hg (ea_cons (ev_v 3) ea_nil) ⟨_, rfl, rfl⟩))) (fun h => ?_) fun h => ?_
    · have h : isI n = false := by simpa using h
      have e1 : due1 n = .tuple [.str "number", n] := if_neg (by rw [h]; exact Bool.false_ne_true)
      rw [e1]
      exact sv_one (s1_set 4 (w := .dat (.tuple [.str "number", n])) (ev_tup (ds := [.str "number", n]) (ea_c ev_str (ea_c (ev_v 3) ea_nil)) (show 2 ≤ sizeLine by decide)) ⟨rfl, _, rfl⟩ N)
    · have h : isI n = true := by simpa using h
      have e1 : due1 n = .none := if_pos h
      rw [e1]
      exact sv_nil ⟨rfl, _, rfl⟩
  rintro ρ1 M1 ⟨rfl, o2, rfl⟩
  refine sv_meet (fun ρ1 M2 => M2 = M1 ∧ ∃ o2, ρ1 = [some (.raw (.ref a)), some (.dat d), o2, some (.dat n), some (.dat (due2 d n)), none]) ?_ ?_
  · refine s1_if (x := !(coefB d)) ?_ (fun h => ?_) fun h => ?_
    · by_cases hT : isT d = true
      · cases d <;> first | exact Bool.noConfusion hT | skip
        rename_i ds
        have hl := all_len10 sd.sh
        have hv : ∀ b1 b2 : Bool, ds.isEmpty = b1 → (ds.map isI).all id = b2 → coefB (.tuple ds) = (!b1 && b2) := fun b1 b2 h1 h2 => by
          rw [List.all_map] at h2
          show (!ds.isEmpty && ds.all isI) = _
          rw [h1, show ds.all isI = b2 from h2]
        exact EtD.cast (x := false || (ds.isEmpty || !((ds.map isI).all id))) (by rw [hv _ _ rfl rfl]; cases ds.isEmpty <;> cases (ds.map isI).all id <;> rfl) (EwD.t (ew_or (et_not (et_of (ev_isi (d := .tuple ds) (r := true) e.b_isinstance e.b_tuple (ev_v 1) (kit_tuple _)))) fun _ => ew_or (et_eqNil hr (ev_v 1) (ev_tup (ds := []) ea_nil)) fun _ => ew_or1 (et_not (et_of (ev_all (bs := ds.map isI) rfl e.b_all (EvN.l (en_lcN (l := ds) (g := fun d => .bool (isI d)) 5 (fun d => W.dat d) (by rw [List.map_map]; rfl) (src_tup (pu := false) (ds := ds) (ev_v 1)) rfl (blkOk_by (N := n__law_right) (sc := defScope s__law_right) (by decide +kernel)) N (Nat.le_trans hl (by decide)) (fun d hd D acc hD s H C cl fp => ev_call (ok_law_is_whole e) (hr.mono (by decide)) hg (ea_cons (ev_v 5) ea_nil) ⟨_, rfl, rfl⟩))))))))
      · have hT : isT d = false := by simpa using hT
        have hc : coefB d = false := by cases d <;> first | rfl | exact Bool.noConfusion hT
        exact EtD.cast (x := !(isT d) || true) (by rw [hT, hc]; rfl) (EwD.t (ew_or (et_not (et_of (ev_isi (d := d) e.b_isinstance e.b_tuple (ev_v 1) (kit_tuple d)))) fun h => absurd h (by rw [hT]; decide)))
    · have h : coefB d = false := by simpa using h
      have e1 : due2 d n = .tuple [.str "number", d] := if_neg (by rw [h]; exact Bool.false_ne_true)
      rw [e1]
      exact sv_one (s1_set 4 (w := .dat (.tuple [.str "number", d])) (ev_tup (ds := [.str "number", d]) (ea_c ev_str (ea_c (ev_v 1) ea_nil)) (show 2 ≤ sizeLine by decide)) ⟨rfl, _, rfl⟩ N)
    · have h : coefB d = true := by simpa using h
      have e1 : due2 d n = due1 n := if_pos h
      rw [e1]
      exact sv_nil ⟨rfl, _, rfl⟩
  rintro ρ1 M2 ⟨rfl, o2, rfl⟩
  have sdm : Sh 1000000 60 d := sd.sh.mono (by decide) (by decide)
  have snm : Sh 1000000 60 n := sn.sh.mono (by decide) (by decide)
  have num : ∀ {v : D}, Sh 1000000 60 v → v = d ∨ v = n → Sh 100000 50 (.tuple [.str "number", v]) := fun {v} _ h => by
    have h1 : Sh 30000 45 v := h.elim (fun e => e ▸ sd.sh) fun e => e ▸ sn.sh
    exact (Sh.tuple (ShAll.cons (Sh.str (x := "number") (n := 20) (k := 45) (by decide +kernel)) (ShAll.cons h1 ShAll.nil))).mono (by decide) (by decide)
  have wrong : ∀ {v : D}, (v = d ∨ v = n) → due2 d n = .tuple [.str "number", v] → RVat [.dat d, .dat n] "InvalidNumber" v → _ := fun {v} hv e1 hr9 => by
    have sdue := num (hv.elim (fun e => e ▸ sdm) fun e => e ▸ snm) hv
    have oc : Outc P w K mg base 6 "value_at" s_value_at ["coefficients", "number"] [.dat d, .dat n] (.err "InvalidNumber" v) := outc_err (er_value_at e x) hr9
    have tm : TM (.err "InvalidNumber" v) (.tuple [.str "number", v]) := ⟨"number", by decide +kernel, rfl⟩
    exact (⟨oc, tm, sdue⟩ : Outc P w K mg base 6 "value_at" s_value_at ["coefficients", "number"] [.dat d, .dat n] (.err "InvalidNumber" v) ∧ TM (.err "InvalidNumber" v) (.tuple [.str "number", v]) ∧ Sh 100000 50 (.tuple [.str "number", v]))
  have key : (∃ (l : List Int) (q' : Int), d = .tuple (ils l) ∧ n = .int q' ∧ l ≠ [] ∧ Row10 l ∧ q'.natAbs < 2 ^ 120 ∧ due2 d n = .none) ∨ ∃ v : D, due2 d n = .tuple [.str "number", v] ∧ Outc P w K mg base 6 "value_at" s_value_at ["coefficients", "number"] [.dat d, .dat n] (.err "InvalidNumber" v) ∧ TM (.err "InvalidNumber" v) (.tuple [.str "number", v]) ∧ Sh 100000 50 (.tuple [.str "number", v]) := by
    by_cases hc : coefB d = true
    · obtain ⟨l, rfl, hl⟩ := coef_of hc
      have hR := row_of sd.bg std
      by_cases hi : isI n = true
      · obtain ⟨q', rfl⟩ := isI_int hi
        exact .inl ⟨l, q', rfl, rfl, hl, hR, Nat.lt_of_lt_of_le (big_int sn.bg) (Nat.pow_le_pow_right (by decide) (by decide)), (if_pos hc).trans (if_pos hi)⟩
      · have hi : isI n = false := by simpa using hi
        have e1 : due2 (.tuple (ils l)) n = .tuple [.str "number", n] := (if_pos hc).trans (if_neg (by rw [hi]; exact Bool.false_ne_true))
        exact .inr ⟨n, e1, wrong (.inr rfl) e1 ⟨_, _, rfl, sdm, snm, rfl, .inr ⟨⟨l, rfl, hl, by have := hR.1; omega⟩, hi, rfl⟩⟩⟩
    · have hc : coefB d = false := by simpa using hc
      have e1 : due2 d n = .tuple [.str "number", d] := if_neg (by rw [hc]; exact Bool.false_ne_true)
      exact .inr ⟨d, e1, wrong (.inl rfl) e1 ⟨_, _, rfl, sdm, snm, rfl, .inl ⟨hc, rfl⟩⟩⟩
  rcases key with ⟨l, q', rfl, rfl, hl, hR, hq, e1⟩ | ⟨v, e1, oc, tm, sdue⟩
  · rw [e1]
    have hv := ev_lt10 hq hR
    have hx : (reprText (("returned" : String) : Str)).length ≤ sizeLine := by decide +kernel
    refine sv_cons (s1_if (x := true) (et_isN (d := .none) (ev_v 4)) (fun _ => ?_) fun h => nomatch h)
    refine sv_one (s1_set 4 (w := .dat (.tuple [.str "returned", .int (evP q' l)])) (ev_tup (ds := [.str "returned", .int (evP q' l)]) (ea_c ev_str (ea_c (ev_call (ok_law_value e) (hr.mono (by decide)) hg (ea_cons (ev_v 1) (ea_cons (ev_v 3) ea_nil)) ⟨l, q', rfl, hR, hq, rfl⟩) ea_nil)) (show 2 ≤ sizeLine by decide)) ?_ N)
    refine sv_one (s1_retE (Ev.eqS (Ev.repr2 e.dg x.sys hg hr e.b_repr hv hx (pair_len hv) ((ev_toldO told (hr.mono (by decide)) hg hP5 hTB rfl (LamX.lamS_by (sc := defScope s__law_right) (by decide +kernel)) (out_val e hl hR hq) (show TM _ _ from rfl) (fun A outer s H E f c' => ea_c (ev_v 1) (ea_c (ev_v 3) ea_nil))).mono fun w9 M9 h9 => ?_))))
    obtain ⟨rfl, rfl⟩ := h9
    refine ⟨rfl, _, rfl, Ev.repr2 e.dg x.sys hg hr e.b_repr hv hx (pair_len hv) (EvD.ev (ev_v 4) ⟨rfl, _, rfl, ?_⟩)⟩
    rw [decide_eq_true rfl]
    exact ⟨[], _, rfl, hB.ads hD, q _ (hD.le (by show _ ≤ T + 1000; omega))⟩
  · rw [e1]
    refine sv_cons (s1_if (x := false) (et_isN (d := .tuple [.str "number", v]) (ev_v 4)) (fun h => nomatch h) fun _ => sv_nil ?_)
    refine sv_one (s1_retE (Ev.eqS (Ev.reprX x.sys hg hr e.b_repr sdue ((ev_toldO told (hr.mono (by decide)) hg hP5 hTB rfl (LamX.lamS_by (sc := defScope s__law_right) (by decide +kernel)) oc tm (fun A outer s H E f c' => ea_c (ev_v 1) (ea_c (ev_v 3) ea_nil))).mono fun w9 M9 h9 => ?_))))
    obtain ⟨rfl, rfl⟩ := h9
    refine ⟨rfl, _, rfl, EvD.ev (ev_reprX x.sys hg hr e.b_repr (ev_v 4) sdue (by decide) (by decide)) ⟨_, rfl, ?_⟩⟩
    rw [decide_eq_true rfl]
    exact ⟨[], _, rfl, hB.ads hD, q _ (hD.le (by show _ ≤ T + 1000; omega))⟩

abbrev lv : Nat := lr + 1
theorem ok_law (e : Env K mg) (x : EnvX P K mg errs tf) (tb : ∀ p ∈ tf, LamX.TabB base mg (He.cT K p).1 (He.cT K p).2) : DefE P w K mg base lv "law" s_law ["_law_script"] (CLawT (tabsOf K tf)) := by
  refine DefE.of e.h_law sc_law (fun _ _ _ _ _ _ us hl => match us, hl with | [_], _ => rfl) (by rintro ws M r ⟨_, rfl, _⟩; rfl) ?_
  rintro f cdv A outer s H E ws Φ M hr hg ⟨ns, rfl, hl, htabs, q⟩
  have hP : ((He.cT K ("_law_right", none)).2, Ow.tab (lamQ "_law_right")) ∈ M := htabs _ (List.mem_map.mpr ⟨("_law_right", none), by decide, rfl⟩)
  have hlen : ((ns.map PyData.int).length : Int) ≤ 63 := by rw [List.length_map]; omega
  refine sv_cons (s1_for (ts := [1]) (fun i ρ1 M1 => M1 = M ∧ ∃ o1 o2, ρ1 = [some (.dat (.list (ns.map .int))), o1, o2, none]) (src_range1 e.b_range (ev_max2 e.b_max (ea_cons ev_int (ea_cons (ev_min2 e.b_min (ea_cons ev_int (ea_cons (ev_lenL e.b_len (ev_v 0).l) ea_nil)) rfl) ea_nil)) rfl) (by omega) (by omega)) ⟨rfl, _, _, rfl⟩ ?_ ?_ PassesOwn.never)
  · rintro Hb' i w ρ1 M1 hw ⟨rfl, o1, o2, rfl⟩
    obtain ⟨rfl, hi⟩ := upFrom_get hw
    have hi3 : i < 100 := by omega
    clear hw hi
    refine ⟨_, tg_name 1 sc_law.nd, ?_⟩
    refine sv_cons (s1_own 2 (en_call (ok_box e) (hr.mono (by decide)) hg (ea_cons (ev_v 0) (ea_cons (ev_v 1) ea_nil)) ⟨ns, 0 + (i : Int), rfl, by omega, by omega, rfl⟩) (fun p np => ?_) sc_law.nd)
    have hB : Bx ((p, Ow.lst [.int (boxO ns (0 + (i : Int))), .int (boxM ns (0 + (i : Int))), .int 0]) :: M1) 0 p 0 := ⟨_, _, _, rfl, ⟨boxO_ok _ _, (boxM_ok _ _).1, (boxM_ok _ _).2, Int.le_refl 0⟩, Int.le_refl 0⟩
    generalize (p, Ow.lst [.int (boxO ns (0 + (i : Int))), .int (boxM ns (0 + (i : Int))), .int 0]) = b0 at hB
    have hP0 : ((He.cT K ("_law_right", none)).2, Ow.tab (lamQ "_law_right")) ∈ b0 :: M1 := List.mem_cons_of_mem _ hP
    refine sv_one <| s1_ifE <| Et.not <| Et.of <| Ev.all e.b_all <| Ev.lc [("_law_turn", 3)] (fun j acc M2 => Dr (b0 :: M1) 0 p (rc * j) M2 ∧ acc = List.replicate j (.bool true)) sc_law.nd (src_range1 e.b_range ev_int (by decide) (by decide)) (blkOk_by (N := n_law) (sc := defScope s_law) (by decide +kernel)) (noneOwn rfl) ?_ ⟨by simpa using hB.dr, rfl⟩ ?_ ?_
    · rw [upFrom_len]; decide
    · rintro j w2 hw2 D acc M2 nD ea hlen2 ⟨hD, rfl⟩
      obtain ⟨_, hj⟩ := upFrom_get hw2
      have hj : j < rn := hj
      refine ⟨_, fun s' H' C cl fp => ⟨tg_name 3 sc_law.nd, Ev.call (ok_law_right e x tb) hr hg (EaD.ea (ea_cons (ev_v 2) ea_nil) ⟨1, p, rc * j, rfl, (hD.bx hB).cons, ?_, List.mem_cons_of_mem _ (hD.tab hB hP0), fun M3 hM3 => ?_⟩)⟩⟩
      · show (_ : Int) ≤ 1000000
        have h1 : rc * (j : Int) ≤ rc * rn := Int.mul_le_mul_of_nonneg_left (by omega) (by decide)
        exact Int.le_trans h1 (by decide)
      · obtain ⟨M4, rfl, hD4⟩ := hM3.cons
        refine ⟨.bool true, M4, rfl, rfl, ?_, (hD.trans hD4).le (Int.le_of_eq ?_), by rw [List.replicate_succ']⟩
        · rw [(hD.bx hB).ads hD4, ea]
        · push_cast
          rw [Int.mul_add, Int.mul_one]
    · rintro acc M2 ⟨hD, rfl⟩ _
      have hall : ∀ n : Nat, (List.replicate n true).all id = true := fun n => by simp
      refine ⟨List.replicate _ true, by rw [List.map_replicate], true, by rw [hall], ?_⟩
      rw [if_neg (by decide)]
      obtain ⟨o, m, t, rfl, _⟩ := hD
      exact sv_drop (sv_nil ⟨rfl, _, _, rfl⟩)
  · rintro ρ1 M1 ⟨rfl, o1, o2, rfl⟩
    exact sv_one (s1_ret ev_bl ⟨[], _, rfl, rfl, q⟩)

end
end Lw
namespace Lw
open PySem PySem.Spec PyProof.Rows L2 XB Hd
theorem env_of {w : World} {K : PySem.W.Frag} {h : Heap} {mg : Str → Option Value} (X : K.In h) (G : h.Ns mainGlobals mg) (cy : XB.SaysY fa fn gn tf ex 5 "BankError.__init__" (defArgs (XB.clsDef s_BankError)) w h K) : Env K mg := by
  have c := cy.z.d
  obtain ⟨_, y⟩ := He.ba cy.z.more
  obtain ⟨y0, y⟩ := He.ba y
  obtain ⟨fd0, F0⟩ := c.def_ 0 (d := d_is_int) rfl
  obtain ⟨fd1, F1⟩ := c.def_ 1 (d := d_value_of) rfl
  obtain ⟨fd2, F2⟩ := c.def_ 2 (d := d_check_coefficients) rfl
  obtain ⟨fd3, F3⟩ := c.def_ 3 (d := d_value_at) rfl
  obtain ⟨fd4, F4⟩ := c.def_ 4 (d := d__law_box) rfl
  obtain ⟨fd5, F5⟩ := c.def_ 5 (d := d__law_take) rfl
  obtain ⟨fd6, F6⟩ := c.def_ 6 (d := d__law_of) rfl
  obtain ⟨fd7, F7⟩ := c.def_ 7 (d := d__law_any) rfl
  obtain ⟨fd8, F8⟩ := c.def_ 8 (d := d__law_bent) rfl
  obtain ⟨fd9, F9⟩ := c.def_ 9 (d := d__law_told) rfl
  obtain ⟨fd10, F10⟩ := c.def_ 10 (d := d__law_is_whole) rfl
  obtain ⟨fd11, F11⟩ := c.def_ 11 (d := d__law_number) rfl
  obtain ⟨fd12, F12⟩ := c.def_ 12 (d := d__law_value) rfl
  obtain ⟨fd13, F13⟩ := c.def_ 13 (d := d__law_right) rfl
  obtain ⟨fd14, F14⟩ := c.def_ 14 (d := d_law) rfl
  exact {
    h_is_int := ⟨_, fd0, F0, He.glo_ok X G (c.fact 0 (f := .glo "is_int") rfl)⟩
    h_value_of := ⟨_, fd1, F1, He.glo_ok X G (c.fact 1 (f := .glo "value_of") rfl)⟩
    h_check_coefficients := ⟨_, fd2, F2, He.glo_ok X G (c.fact 2 (f := .glo "check_coefficients") rfl)⟩
    h_value_at := ⟨_, fd3, F3, He.glo_ok X G (c.fact 3 (f := .glo "value_at") rfl)⟩
    h__law_box := ⟨_, fd4, F4, He.glo_ok X G (c.fact 4 (f := .glo "_law_box") rfl)⟩
    h__law_take := ⟨_, fd5, F5, He.glo_ok X G (c.fact 5 (f := .glo "_law_take") rfl)⟩
    h__law_of := ⟨_, fd6, F6, He.glo_ok X G (c.fact 6 (f := .glo "_law_of") rfl)⟩
    h__law_any := ⟨_, fd7, F7, He.glo_ok X G (c.fact 7 (f := .glo "_law_any") rfl)⟩
    h__law_bent := ⟨_, fd8, F8, He.glo_ok X G (c.fact 8 (f := .glo "_law_bent") rfl)⟩
    h__law_told := ⟨_, fd9, F9, He.glo_ok X G (c.fact 9 (f := .glo "_law_told") rfl)⟩
    h__law_is_whole := ⟨_, fd10, F10, He.glo_ok X G (c.fact 10 (f := .glo "_law_is_whole") rfl)⟩
    h__law_number := ⟨_, fd11, F11, He.glo_ok X G (c.fact 11 (f := .glo "_law_number") rfl)⟩
    h__law_value := ⟨_, fd12, F12, He.glo_ok X G (c.fact 12 (f := .glo "_law_value") rfl)⟩
    h__law_right := ⟨_, fd13, F13, He.glo_ok X G (c.fact 13 (f := .glo "_law_right") rfl)⟩
    h_law := ⟨_, fd14, F14, He.glo_ok X G (c.fact 14 (f := .glo "law") rfl)⟩
    b_ValueError := He.free_ok X G (c.fact 15 (f := .free "ValueError") rfl)
    b_abs := He.free_ok X G (c.fact 16 (f := .free "abs") rfl)
    b_all := He.free_ok X G (c.fact 17 (f := .free "all") rfl)
    b_bool := He.free_ok X G (c.fact 18 (f := .free "bool") rfl)
    b_int := He.free_ok X G (c.fact 19 (f := .free "int") rfl)
    b_isinstance := He.free_ok X G (c.fact 20 (f := .free "isinstance") rfl)
    b_len := He.free_ok X G (c.fact 21 (f := .free "len") rfl)
    b_list := He.free_ok X G (c.fact 22 (f := .free "list") rfl)
    b_max := He.free_ok X G (c.fact 23 (f := .free "max") rfl)
    b_min := He.free_ok X G (c.fact 24 (f := .free "min") rfl)
    b_range := He.free_ok X G (c.fact 25 (f := .free "range") rfl)
    b_repr := He.free_ok X G (c.fact 26 (f := .free "repr") rfl)
    b_str := He.free_ok X G (c.fact 27 (f := .free "str") rfl)
    b_super := He.free_ok X G (c.fact 28 (f := .free "super") rfl)
    b_tuple := He.free_ok X G (c.fact 29 (f := .free "tuple") rfl)
    dg := XB.dig_ok y0
  }
theorem envX_of {w : World} {K : PySem.W.Frag} {h : Heap} {mg : Str → Option Value} (X : K.In h) (G : h.Ns mainGlobals mg) (c : XB.SaysZ fa fn tf ex 5 "BankError.__init__" (defArgs (XB.clsDef s_BankError)) w h K) : EnvX PySem.Challenge.pw_xorbanks_k10_values_of_polynomials K mg errs tf := by
  obtain ⟨mz, _⟩ := He.ba c.more
  obtain ⟨m1, m2⟩ := He.ba mz
  obtain ⟨m2, m3⟩ := He.ba m2
  obtain ⟨B, S⟩ := baseB_ok (P := PySem.Challenge.pw_xorbanks_k10_values_of_polynomials) X G m1 c.base (by decide) rfl (by decide +kernel) ⟨_, rfl, rfl⟩ (fun T kV doc pm ct cdv an cc s o u n x v ho hs => .of_defaults rfl ho hs rfl rfl) (fun T kV doc pm ct cdv an cc s o n x ho hs => .of_defaults rfl ho hs rfl rfl)
  refine envX_mk B S m2 m3 (fun x hx w b => ?_) fun p hp _ => ?_
  · have O := errs_over m2 hx
    simp only [errs, List.mem_cons, List.not_mem_nil, or_false] at hx
    rcases hx with rfl | rfl | rfl | rfl | rfl | rfl | rfl | rfl
    · exact er_of (st := s_InvalidWidth) (t := " is not a width") B S O.1 X G O.2 (c.d.def_ 15 (d := d_InvalidWidth) rfl) rfl rfl (by decide +kernel) (fun _ => rfl) (fun _ => rfl) (fun _ => rfl) (fun _ _ _ _ _ _ us hl => match us, hl with | [_, _], _ => rfl) (by decide +kernel) b
    · exact er_of (st := s_InvalidVectors) (t := " is not vectors of the width") B S O.1 X G O.2 (c.d.def_ 16 (d := d_InvalidVectors) rfl) rfl rfl (by decide +kernel) (fun _ => rfl) (fun _ => rfl) (fun _ => rfl) (fun _ _ _ _ _ _ us hl => match us, hl with | [_, _], _ => rfl) (by decide +kernel) b
    · exact er_of (st := s_InvalidAddress) (t := " is not an address of the width") B S O.1 X G O.2 (c.d.def_ 17 (d := d_InvalidAddress) rfl) rfl rfl (by decide +kernel) (fun _ => rfl) (fun _ => rfl) (fun _ => rfl) (fun _ _ _ _ _ _ us hl => match us, hl with | [_, _], _ => rfl) (by decide +kernel) b
    · exact er_of (st := s_InvalidDifferences) (t := " is not differences of the width") B S O.1 X G O.2 (c.d.def_ 18 (d := d_InvalidDifferences) rfl) rfl rfl (by decide +kernel) (fun _ => rfl) (fun _ => rfl) (fun _ => rfl) (fun _ _ _ _ _ _ us hl => match us, hl with | [_, _], _ => rfl) (by decide +kernel) b
    · exact er_of (st := s_InvalidBits) (t := " is not a number of masks") B S O.1 X G O.2 (c.d.def_ 19 (d := d_InvalidBits) rfl) rfl rfl (by decide +kernel) (fun _ => rfl) (fun _ => rfl) (fun _ => rfl) (fun _ _ _ _ _ _ us hl => match us, hl with | [_, _], _ => rfl) (by decide +kernel) b
    · exact er_of (st := s_InvalidNumber) (t := " is not a number of the required kind") B S O.1 X G O.2 (c.d.def_ 20 (d := d_InvalidNumber) rfl) rfl rfl (by decide +kernel) (fun _ => rfl) (fun _ => rfl) (fun _ => rfl) (fun _ _ _ _ _ _ us hl => match us, hl with | [_, _], _ => rfl) (by decide +kernel) b
    · exact er_of (st := s_NotIncluded) (t := " is not one of the differences") B S O.1 X G O.2 (c.d.def_ 21 (d := d_NotIncluded) rfl) rfl rfl (by decide +kernel) (fun _ => rfl) (fun _ => rfl) (fun _ => rfl) (fun _ _ _ _ _ _ us hl => match us, hl with | [_, _], _ => rfl) (by decide +kernel) b
    · exact er_of (st := s_TooMany) (t := " is the limit") B S O.1 X G O.2 (c.d.def_ 22 (d := d_TooMany) rfl) rfl rfl (by decide +kernel) (fun _ => rfl) (fun _ => rfl) (fun _ => rfl) (fun _ _ _ _ _ _ us hl => match us, hl with | [_, _], _ => rfl) (by decide +kernel) b
  · simp only [tf, List.mem_cons, List.not_mem_nil, or_false] at hp
    rcases hp with rfl
    · exact He.glo_ok X G (c.d.fact 13 (f := .glo "_law_right") rfl)
end Lw
open PySem PySem.W PySem.Calls PyProof.Rows
set_option maxRecDepth 100000 in
set_option maxHeartbeats 0 in
theorem PySem.Challenge.cw_xorbanks_k10_values_of_polynomials_holds : PySem.Challenge.rw_xorbanks_k10_values_of_polynomials.Holds := by
  w_on; o_law
  refine HandSHeadRun.head_any (r := OpenLaw.row PySem.Challenge.rw_xorbanks_k10_values_of_polynomials) (q := view (OpenLaw.row PySem.Challenge.rw_xorbanks_k10_values_of_polynomials).prog [27]) (H := Hd.hk) (ob := Hd.ob) (M := 6000) (loose := Hd.loose) (d := HandSHeadRun.topDef (OpenLaw.row PySem.Challenge.rw_xorbanks_k10_values_of_polynomials).prog 27) (kwd := []) Hd.ob_eq
    (by kernel_rfl) (fun s => by kernel_rfl) Hd.run (by kernel_rfl) (by kernel_rfl) (by kernel_rfl) (by rfl) (by first | assumption | decide +kernel) (by decide +kernel) ⟨rfl, rfl, rfl, rfl, rfl, by decide +kernel⟩ ?hw ?hc
  case hw => w_witness2
  case hc =>
    refine XB.walkT (l := PySem.Challenge.rw_xorbanks_k10_values_of_polynomials) (n := 63) (k := Lw.lv) (x := "_law_script") (CX := L2.CX0) rfl (by decide) (by kernel_rfl) ⟨rfl, by decide, by decide⟩ ?F (fun _ _ _ _ z => z)
    intro w mg fa h Y G hmg0
    obtain ⟨K, KX, cy⟩ := Y
    have c := cy.z
    have hmg : mg ("law" : PySem.Str) = some (.ref fa) := by
      have e : (HandSHeadRun.topDef (OpenLaw.row PySem.Challenge.rw_xorbanks_k10_values_of_polynomials).prog 27).name = ("law" : PySem.Str) := by kernel_rfl
      rw [← e]
      exact hmg0
    have e := Lw.env_of KX G cy
    have x := Lw.envX_of KX G c
    exact XB.end_ofT (P := (PySem.Challenge.rw_xorbanks_k10_values_of_polynomials).prog) KX hmg c x.nd e.h_law (fun base _ _ tb => Lw.ok_law e x tb)


