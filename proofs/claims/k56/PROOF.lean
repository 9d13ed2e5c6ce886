import PyProof.Rows.All
import Wide.All
import OpenK.AllK
import Wide.FinOn
import KE.KStateDown
import Lean
import HandS.ForMost
import HandS.Exc
import HandS.ExcOwn
import HandS.TryOnly
import HandS.WordsExc
import HandS.Defaults
import HandS.Codes
import HandS.CallSlots
import HandS.IsInst
import HandS.Flow
import HandS.Walk
import HandS.Wide
import HandS.FStr
import HandS.Flt
import HandS.Style
import KE.IntTextLaws
import KE.KExcInit
import HandS.HeadEnd
import HandS.Head0
import HandS.Head1
import HandS.Head2
import HandS.HeadHook1
import HandS.HeadHook2
import HandS.HeadNt
import PyProof.ToksMono
import HandS.Text
import HandS.FStr
import KE.KTupSum
import HandS.Lambda
import HandS.EndTab
import KE.KNestM
import HandS.Zip0
import HandS.Property
import HandS.ClsMeth
import HandS.TupAny
import HandS.Conv
import HandS.TupMul
import HandS.StrMore
import HandS.ReplaceList
import HandS.NoneIn
import HandS.Zip
import HandS.ExcInit
import HandS.Deep
import HandS.Small
import HandS.MakeKw
import HandS.Lambda
import HandS.ExcIs
import HandS.SuiteRaise
import HandS.RaiseFrom
import HandS.RaiseMore
import HandS.SortInts
import HandS.DictComp
import HandS.SetKeys
import HandS.Strs
import HandS.GenOver
import HandS.GenBody
import HandS.GenYield
import HandS.GenCall
import HandS.GenList
import HandS.Star
import HandS.MethStar
import HandS.ReplaceLit
import HandS.CallRecv
import HandS.StrSplit
import HandS.OwnEq
import PySem.Challenge.RW_fullqueue_k56_errors_of_lines
set_option Elab.async false
set_option linter.all false
set_option maxRecDepth 100000
set_option maxHeartbeats 4000000
set_option pp.deepTerms true
set_option pp.maxSteps 200000
namespace Q
open PySem PySem.Spec PyProof.Rows L2
abbrev St := L2.St
noncomputable def fdA (K : PySem.W.Frag) (a : Addr) : FuncData := match K.lookup a with
  | some ⟨_, _, .func fd, _⟩ => fd
  | _ => PySem.W.fnOf "" "" { posonlyargs := [], args := [], vararg := none, kwonlyargs := [], kw_defaults := [], kwarg := none, defaults := [] } [] { kind := .function, names := [], isGenerator := false, isCoroutine := false, more := [] } .none .none .none .none none .none .none
theorem funD_fdA {K : PySem.W.Frag} {x qual : Str} {params : Arguments} {body : List Stmt} {scope : Scope} {dvs : List V} {kws : List (Str × V)} {f : Addr}
    (h : ∃ fd, FunD K x qual params body scope dvs kws f fd) : FunD K x qual params body scope dvs kws f (fdA K f) := by
  obtain ⟨fd, F⟩ := h
  obtain ⟨oc, od, dV, kV, doc, pm, an, cdv, ct, osl, e, lk, r⟩ := F.ex
  have q : fdA K f = fd := by unfold fdA; rw [lk]
  rw [q]; exact F
def obsM (ex : List (PySem.W.Frag → Bool)) (fn : List He5.DefA) (K : PySem.W.Frag) : He.AlD := ((ex.all fun f => f K) && fn.all fun d => d.ok K, fn.map fun d => He5.fnA K (d.at_ K))
def valM (fn : List He5.DefA) : He.AlD := (true, fn.map He5.DefA.val)
def SaysM (ex : List (PySem.W.Frag → Bool)) (fn : List He5.DefA) (K : PySem.W.Frag) : Prop := obsM ex fn K = valM fn
def obsMG (n : Nat) (ex : List (PySem.W.Frag → Bool)) (fn : List He5.DefA) (g : Addr → Option Obj) : He.AlD := obsM ex fn (He.frG g (He5.asA g n))
def hookM (n : Nat) (ex : List (PySem.W.Frag → Bool)) (fn : List He5.DefA) : PySem.W.Hook where
  α := He.AlD
  obs := fun s => obsMG n ex fn s.heap.get?
  val := fun _ => valM fn
  says := fun _ h => ∃ K : PySem.W.Frag, K.In h ∧ SaysM ex fn K
  of := fun _ _ e => ⟨_, He.frG_in, e⟩
  keeps := fun _ _ _ ⟨K, hK, c⟩ k => ⟨K, PySem.W.Frag.In.keeps hK k, c⟩
section
variable {ex : List (PySem.W.Frag → Bool)} {fn : List He5.DefA} {K : PySem.W.Frag}
theorem SaysM.fact (c : SaysM ex fn K) (i : Nat) {f : PySem.W.Frag → Bool} (h : ex[i]? = some f := by rfl) : f K = true := by
  have c1 := (He.ba (show ((ex.all fun f => f K) && fn.all fun d => d.ok K) = true from congrArg (fun z : He.AlD => z.1) c)).1
  exact List.all_eq_true.mp c1 f (List.mem_of_getElem? h)
theorem SaysM.def_ (c : SaysM ex fn K) (i : Nat) {d : He5.DefA} (h : fn[i]? = some d := by rfl) : FunD K d.name d.qual d.params d.body d.scope (d.dvs K) (d.kws K) (d.at_ K) (fdA K (d.at_ K)) := by
  have c2 := (He.ba (show ((ex.all fun f => f K) && fn.all fun d => d.ok K) = true from congrArg (fun z : He.AlD => z.1) c)).2
  have e : fn.map (fun d => He5.fnA K (d.at_ K)) = fn.map He5.DefA.val := congrArg (fun z : He.AlD => z.2) c
  have e2 : (fn.map fun d => He5.fnA K (d.at_ K))[i]? = (fn.map He5.DefA.val)[i]? := by rw [e]
  rw [List.getElem?_map, List.getElem?_map, h] at e2
  exact funD_fdA (He5.DefA.funD (Option.some.inj e2) (List.all_eq_true.mp c2 d (List.mem_of_getElem? h)))
end
structure ExcF (K : PySem.W.Frag) (C : Addr) (bm : List Value) (newId : String) : Prop where
  x : PySem.W.excIn K C bm newId = true
  k : PySem.W.keepIn K (.ref C) = true
  b : PySem.W.subIn K (.ref C) (.type "BaseException") = some true
  t : PySem.W.typeIn K (.ref C) = some (.type "type")
def excB (x : Str) (bm : List Value) (newId : String) (K : PySem.W.Frag) : Bool := PySem.W.excIn K (He.ga K x) bm newId && (PySem.W.keepIn K (.ref (He.ga K x)) && (decide (PySem.W.subIn K (.ref (He.ga K x)) (.type "BaseException") = some true) && decide (PySem.W.typeIn K (.ref (He.ga K x)) = some (.type "type"))))
theorem excB_ok {K : PySem.W.Frag} {x : Str} {bm : List Value} {newId : String} (h : excB x bm newId K = true) : ExcF K (He.ga K x) bm newId := by
  obtain ⟨c1, c⟩ := He.ba h
  obtain ⟨c2, c⟩ := He.ba c
  obtain ⟨c3, c4⟩ := He.ba c
  exact ⟨c1, c2, of_decide_eq_true c3, of_decide_eq_true c4⟩
section
variable {X : Cx} {CX : CXT} {k : Nat} {f : Addr} {fd : FuncData} {ps : List Str} {sp : Sp} {E : XK} {x : Str} {p pos : Pos} {e : Expr} {es : List Expr} {t : TA} {dvs : List V}
theorem pe_callD (F : FnOk X.prog X.w X.K X.mg X.base CX k f fd ps sp) (hr : Room k X.A) (hg : Gl X x) (hm : X.mg x = some (.ref f)) (hk : PySem.W.keepIn X.K (.ref f) = true) (hb : ∃ ds, Vals dvs ds ∧ Binds X.K fd ps ds) (hx : Passes CX X E)
    (ha : PA X (e :: es) t) (hdb : (x == ("__debug__" : Str)) = false := by decide) (he : starEach (e :: es) X.env = (false, eval e X.env) :: starEach es X.env := by rfl) (hpl : (backTo pos (starEach es X.env)).any (·.1) = false := by rfl) :
    PE X (.Call (.Name x p) (e :: es) [] pos) (tCall sp dvs E t) := by
  obtain ⟨ds, hd, hb⟩ := hb
  exact pe_call F hr hg hm hk hb hd hx ha hdb he hpl
end
theorem pe_gc {X : Cx} {x : Str} {v : V} {pos : Pos} (hg : Gl X x) (h : ∃ u, X.mg x = some u ∧ RelV v u) (hd : (x == ("__debug__" : Str)) = false := by decide) : PE X (.Name x pos) (tC v) := by
  obtain ⟨u, h1, h2⟩ := h
  exact pe_glob hg h1 h2 hd
theorem passE {P : Program} {w : World} {K : PySem.W.Frag} {mg : Str → Option Value} {base : Heap} {N : List Str} {qual : Str} {scope : Scope} {f : Addr} {cdv : Value} {A : Around} {outer : List Env} {s : Shared} {H : Hp} {E : XK} :
    Passes (L2.CX P w) (cxOf (L2.CX P w) P w K mg base N qual scope f cdv A outer s H E) E :=
  passes_call (takes_of rfl rfl rfl rfl) (fun _ _ _ _ z => z)
def isStrV : V → Bool
  | .str _ => true
  | _ => false
def isBlV : V → Bool
  | .bl _ => true
  | _ => false
def isIntV : V → Bool
  | .int _ => true
  | .bl _ => true
  | _ => false
structure AnyV (K : PySem.W.Frag) (H : Hp) (v : V) : Prop where
  ty : ∃ t, TyX K H v t ∧ PySem.W.kitOne K t (.type "str") = some (isStrV v) ∧ PySem.W.kitOne K t (.type "int") = some (isIntV v) ∧ PySem.W.kitOne K t (.type "bool") = some (isBlV v)
section
variable {K : PySem.W.Frag} {H : Hp}
theorem AnyV.non : AnyV K H .non := ⟨_, .base .non, kit_ty (by decide +kernel), kit_ty (by decide +kernel), kit_ty (by decide +kernel)⟩
theorem AnyV.bl {b : Bool} : AnyV K H (.bl b) := ⟨_, .base (.bl b), kit_ty (show kitB "bool" "str" = some false by decide +kernel), kit_ty (show kitB "bool" "int" = some true by decide +kernel), kit_ty (show kitB "bool" "bool" = some true by decide +kernel)⟩
theorem AnyV.int {i : Int} : AnyV K H (.int i) := ⟨_, .base (.int i), kit_ty (show kitB "int" "str" = some false by decide +kernel), kit_ty (show kitB "int" "int" = some true by decide +kernel), kit_ty (show kitB "int" "bool" = some false by decide +kernel)⟩
theorem AnyV.str {z : Str} : AnyV K H (.str z) := ⟨_, .base (.str z), kit_ty (show kitB "str" "str" = some true by decide +kernel), kit_ty (show kitB "str" "int" = some false by decide +kernel), kit_ty (show kitB "str" "bool" = some false by decide +kernel)⟩
theorem AnyV.lst {a : Addr} {xs : List V} (h : H a = some (.lst xs)) : AnyV K H (.ref a) := ⟨_, .base (.lst h), kit_ty (show kitB "list" "str" = some false by decide +kernel), kit_ty (show kitB "list" "int" = some false by decide +kernel), kit_ty (show kitB "list" "bool" = some false by decide +kernel)⟩
theorem AnyV.tup {a : Addr} {xs : List V} (h : H a = some (.tup xs)) : AnyV K H (.ref a) := ⟨_, .base (.tup h), kit_ty (show kitB "tuple" "str" = some false by decide +kernel), kit_ty (show kitB "tuple" "int" = some false by decide +kernel), kit_ty (show kitB "tuple" "bool" = some false by decide +kernel)⟩
theorem AnyV.dK {a : Addr} {xs : List (Key × V)} (h : H a = some (.dK xs)) : AnyV K H (.ref a) := ⟨_, .base (.dK h), kit_ty (show kitB "dict" "str" = some false by decide +kernel), kit_ty (show kitB "dict" "int" = some false by decide +kernel), kit_ty (show kitB "dict" "bool" = some false by decide +kernel)⟩
theorem isi_str {v : V} {Q : VK} (a : AnyV K H v) (q : Q (.bl (isStrV v)) H) : rIsi K [v, .ty "str"] H Q := by
  obtain ⟨t, h1, h2, _⟩ := a.ty
  exact ⟨v, _, t, _, _, rfl, .ty _, h1, h2, q⟩
theorem isi_int {v : V} {Q : VK} (a : AnyV K H v) (q : Q (.bl (isIntV v)) H) : rIsi K [v, .ty "int"] H Q := by
  obtain ⟨t, h1, _, h2, _⟩ := a.ty
  exact ⟨v, _, t, _, _, rfl, .ty _, h1, h2, q⟩
theorem isi_bool {v : V} {Q : VK} (a : AnyV K H v) (q : Q (.bl (isBlV v)) H) : rIsi K [v, .ty "bool"] H Q := by
  obtain ⟨t, h1, _, _, h2⟩ := a.ty
  exact ⟨v, _, t, _, _, rfl, .ty _, h1, h2, q⟩
end
theorem Same.upd {H : Hp} {p : Addr} {o : HO} (h : H p = none) : Same H (L2.upd H p o) := fun b u q => by
  rw [upd_ne (ne_of_none q h)]; exact q
theorem Same.upd3 {H H' : Hp} {p : Addr} {o : HO} (s : Same H H') (h : H' p = none) : Same H (L2.upd H' p o) := Same.trans s (Same.upd h)
theorem kp {H : Hp} {a p : Addr} {o u : HO} (h : H a = some o) (n : H p = none) : L2.upd H p u a = some o := by rw [upd_ne (ne_of_none h n)]; exact h
theorem bool_cases {c : Bool} {A B : Prop} (h1 : c = true → A) (h2 : c = false → B) : if c = true then A else B := by
  cases c with
  | true => exact iteT (h1 rfl)
  | false => exact iteF (h2 rfl)
theorem TyOf.mono {K : PySem.W.Frag} {H H' : Hp} {v : V} {t : Value} (s : Same H H') (h : TyOf K H v t) : TyOf K H' v t := by
  cases h with
  | non => exact .non
  | bl x => exact .bl x
  | int i => exact .int i
  | str x => exact .str x
  | flt x => exact .flt x
  | lst e => exact .lst (s _ _ e)
  | frz e => exact .frz (s _ _ e)
  | tup e => exact .tup (s _ _ e)
  | dK e => exact .dK (s _ _ e)
  | dT e => exact .dT (s _ _ e)
  | ins e cl ha hn htk hm => exact .ins (s _ _ e) cl ha hn htk hm
theorem TyX.mono {K : PySem.W.Frag} {H H' : Hp} {v : V} {t : Value} (s : Same H H') (h : TyX K H v t) : TyX K H' v t := by
  cases h with
  | base b => exact .base (TyOf.mono s b)
  | byt b => exact .byt b
  | set e => exact .set (s _ _ e)
  | kList e c => exact .kList e c
  | kTuple e c => exact .kTuple e c
  | kDict e c => exact .kDict e c
  | fTuple e => exact .fTuple (s _ _ e)
  | fDict e => exact .fDict (s _ _ e)
theorem AnyV.mono {K : PySem.W.Frag} {H H' : Hp} {v : V} (s : Same H H') (h : AnyV K H v) : AnyV K H' v := by
  obtain ⟨t, h1, h2⟩ := h.ty
  exact ⟨t, TyX.mono s h1, h2⟩
theorem scal_ii (i j : Int) : scal (.int i) (.int j) = true := rfl
theorem scal_ss (i j : Str) : scal (.str i) (.str j) = true := rfl
theorem scal_bb (i j : Bool) : scal (.bl i) (.bl j) = true := rfl
def LoopOk (J : It) (g : TG) (tb : TS) (D : Ends) (σ : St) (H1 : Hp) : Prop := ∃ W : Nat → Nat → St → Hp → Prop, (∃ m, W 0 m σ H1) ∧ ∀ i m σ H, W i m σ H →
  (J.stop i H ∧ D.nx σ H) ∨ (J.go i H ∧ ∃ N : St → Hp → Prop, (∀ σ' H', N σ' H' → ∃ m', m' < m ∧ W (i + 1) m' σ' H') ∧ ∀ x H', J.yld i H x H' → g x σ H' fun σ2 H2 => tb { D with nx := N, ct := N, bk := D.nx } σ2 H2)
theorem tFor_eq (wi : TI) (g : TG) (tb : TS) (D : Ends) (σ : St) (H : Hp) : tFor wi g tb D σ H = wi σ H fun J H1 => LoopOk J g tb D σ H1 := rfl
theorem LoopOk.walk {J : It} {n : Nat} {G : Hp → Prop} {Y : Nat → Hp → V → Hp → Prop} {g : TG} {tb : TS} {D : Ends} {σ : St} {H : Hp} (w : Walk J n G Y) (Pv : Nat → St → Hp → Prop) (h0 : Pv 0 σ H) (hG : ∀ i σ H, i ≤ n → Pv i σ H → G H)
    (hs : ∀ i x σ H H', i < n → Pv i σ H → Y i H x H' → g x σ H' fun σ2 H2 => tb { D with nx := Pv (i + 1), ct := Pv (i + 1), bk := D.nx } σ2 H2) (hd : ∀ σ H, Pv n σ H → D.nx σ H) : LoopOk J g tb D σ H :=
  for_it w Pv h0 hG hs hd
def LcOk (J : It) (g : TG) (tt : TT) (te : TE) (vs : List Nat) (σ : St) (H1 : Hp) (D : Addr) (Q : VK) : Prop := ∃ W : Nat → Nat → Hp → Prop, (∃ m, W 0 m (upd H1 D (.lst []))) ∧ ∀ i m H, W i m H →
  (J.stop i H ∧ Q (.ref D) H) ∨ (J.go i H ∧ ∃ Nx : Hp → Prop, (∀ H', Nx H' → ∃ m', m' < m ∧ W (i + 1) m' H') ∧ ∀ x H', J.yld i H x H' → g x (wipe σ vs) H' fun σ2 H2 => wipe σ2 vs = wipe σ vs ∧ tt σ2 H2 fun b H3 =>
    if b = true then te σ2 H3 fun y H4 => ∃ acc, H4 D = some (.lst acc) ∧ acc.length < sizeLine ∧ Nx (upd H4 D (.lst (acc ++ [y]))) else Nx H3)
theorem tLc_eq (wi : TI) (g : TG) (tt : TT) (te : TE) (vs : List Nat) (σ : St) (H : Hp) (Q : VK) : tLc wi g tt te vs σ H Q = wi σ H fun J H1 => ∀ D, H1 D = none → LcOk J g tt te vs σ H1 D Q := rfl
theorem LcOk.walk {J : It} {n : Nat} {G : Hp → Prop} {Y : Nat → Hp → V → Hp → Prop} {g : TG} {tt : TT} {te : TE} {vs : List Nat} {σ : St} {H1 : Hp} {D : Addr} {Q : VK} (w : Walk J n G Y) (Pv : Nat → Hp → Prop) (h0 : Pv 0 (upd H1 D (.lst []))) (hG : ∀ i H, i ≤ n → Pv i H → G H)
    (hs : ∀ i x H H', i < n → Pv i H → Y i H x H' → g x (wipe σ vs) H' fun σ2 H2 => wipe σ2 vs = wipe σ vs ∧ tt σ2 H2 fun b H3 =>
      if b = true then te σ2 H3 fun y H4 => ∃ acc, H4 D = some (.lst acc) ∧ acc.length < sizeLine ∧ Pv (i + 1) (upd H4 D (.lst (acc ++ [y]))) else Pv (i + 1) H3) (hd : ∀ H, Pv n H → Q (.ref D) H) : LcOk J g tt te vs σ H1 D Q :=
  lc_it w Pv h0 hG hs hd
theorem Paired.snoc {α β : Type} {F : α → β → Prop} {a : α} {b : β} : ∀ {l : List α} {m : List β}, Paired F l m → F a b → Paired F (l ++ [a]) (m ++ [b])
  | _, _, .nil, h => .cons h .nil
  | _, _, .cons r t, h => .cons r (Paired.snoc t h)
theorem LcOk.rep {δ : Type} {J : It} {n : Nat} {G : Hp → Prop} {Y : Nat → Hp → V → Hp → Prop} {g : TG} {te : TE} {vs : List Nat} {σ : St} {H1 : Hp} {D : Addr} {Q : VK} (w : Walk J n G Y) (hD : H1 D = none) (ds : List δ) (Rp : Hp → V → δ → Prop) (hn : ds.length = n) (hsz : n ≤ sizeLine)
    (mono : ∀ H H' v d, (∃ acc, H D = some (.lst acc)) → (∀ b o, H b = some o → b ≠ D → H' b = some o) → Rp H v d → Rp H' v d) (hG : ∀ H, Same H1 H → G H)
    (hs : ∀ i d x H H' (Nx : VK), ds[i]? = some d → Same H1 H → (∃ acc, H D = some (.lst acc)) → Y i H x H' → (∀ y H4, Same H H4 → Rp H4 y d → Nx y H4) → g x (wipe σ vs) H' fun σ2 H2 => wipe σ2 vs = wipe σ vs ∧ tYes σ2 H2 fun b H3 => if b = true then te σ2 H3 Nx else Nx .non H3)
    (gx : ∀ (x : V) (σ2 : St) (H2 : Hp) (Q1 Q2 : St → Hp → Prop), (∀ σ H, Q1 σ H → Q2 σ H) → g x σ2 H2 Q1 → g x σ2 H2 Q2)
    (hd : ∀ H ys, Same H1 H → H D = some (.lst ys) → Paired (Rp H) ys ds → Q (.ref D) H) : LcOk J g tYes te vs σ H1 D Q := by
  refine LcOk.walk w (fun i H => Same H1 H ∧ ∃ ys, H D = some (.lst ys) ∧ ys.length = i ∧ Paired (Rp H) ys (ds.take i)) ⟨Same.upd hD, [], upd_same, rfl, .nil⟩ (fun i H _ h => hG H h.1) ?_ ?_
  · intro i x H H' hi ⟨s1, ys, hy, hl, hp⟩ y
    have hdi : ds[i]? = some ds[i] := List.getElem?_eq_getElem (by omega)
    refine gx _ _ _ _ _ (fun σ2 H2 h => ⟨h.1, h.2⟩) (hs i ds[i] x H H' (fun v H4 => ∃ acc, H4 D = some (.lst acc) ∧ acc.length < sizeLine ∧ (Same H1 (upd H4 D (.lst (acc ++ [v]))) ∧ ∃ ys, upd H4 D (.lst (acc ++ [v])) D = some (.lst ys) ∧ ys.length = i + 1 ∧ Paired (Rp (upd H4 D (.lst (acc ++ [v])))) ys (ds.take (i + 1)))) hdi s1 ⟨ys, hy⟩ y fun v H4 s4 r => ?_)
    have e4 : H4 D = some (.lst ys) := s4 _ _ hy
    have s5 : Same H1 (upd H4 D (.lst (ys ++ [v]))) := fun b u z => by
      rw [upd_ne (ne_of_none z hD)]; exact s4 _ _ (s1 _ _ z)
    have kp : ∀ b o, H4 b = some o → b ≠ D → upd H4 D (.lst (ys ++ [v])) b = some o := fun b o z ne => by rw [upd_ne ne]; exact z
    refine ⟨ys, e4, by omega, s5, ys ++ [v], upd_same, by simp [hl], ?_⟩
    have et : ds.take (i + 1) = ds.take i ++ [ds[i]] := by rw [List.take_succ, hdi]; rfl
    rw [et]
    exact Paired.snoc (Paired.mapP hp fun a b z => mono _ _ _ _ ⟨ys, hy⟩ (fun b o z ne => kp b o (s4 _ _ z) ne) z) (mono _ _ _ _ ⟨ys, e4⟩ kp r)
  · intro H ⟨s1, ys, hy, hl, hp⟩
    rw [List.take_of_length_le (by omega)] at hp
    exact hd H ys s1 hy hp
theorem LcOk.val {J : It} {n : Nat} {G : Hp → Prop} {Y : Nat → Hp → V → Hp → Prop} {i0 : Nat} {te : TE} {vs : List Nat} {σ : St} {H1 : Hp} {D : Addr} {Q : VK} (w : Walk J n G Y) (hD : H1 D = none) (ds : List V) (hn : ds.length = n) (hsz : n ≤ sizeLine) (hG : ∀ H, Same H1 H → G H)
    (hs : ∀ i d x H H' (Nx : VK), ds[i]? = some d → Same H1 H → (∃ acc, H D = some (.lst acc)) → Y i H x H' → (∀ H4, Same H H4 → Nx d H4) → wipe ((wipe σ vs).set i0 (some x)) vs = wipe σ vs ∧ te ((wipe σ vs).set i0 (some x)) H' Nx)
    (hd : ∀ H, Same H1 H → H D = some (.lst ds) → Q (.ref D) H) : LcOk J (gName i0) tYes te vs σ H1 D Q := by
  refine LcOk.rep w hD ds (fun _ v d => v = d) hn hsz (fun _ _ _ _ _ _ h => h) hG (fun i d x H H' Nx h1 h2 h3 h4 h5 => ?_) (fun x σ2 H2 Q1 Q2 h => h _ _) (fun H ys h1 h2 h3 => hd H h1 ?_)
  · have q := hs i d x H H' Nx h1 h2 h3 h4 (fun H4 s4 => h5 d H4 s4 rfl)
    exact ⟨q.1, by simp only [tYes, if_true]; exact q.2⟩
  · have e : ys = ds := by
      clear h2 h1 hs hd hn
      induction h3 with
      | nil => rfl
      | cons r t ih => rw [r, ih]
    rw [← e]; exact h2
def tyIs (T : String) (v : V) : Bool := if T = "str" then isStrV v else if T = "int" then isIntV v else isBlV v
def rIsiA (K : PySem.W.Frag) : List V → Hp → VK → Prop := fun xs H Q => ∃ (v : V) (T : String), xs = [v, .ty T] ∧ (T = "str" ∨ T = "int" ∨ T = "bool") ∧ AnyV K H v ∧ Q (.bl (tyIs T v)) H
theorem call_isiA {X : Cx} : CallR X (.builtin "isinstance") (rIsiA X.K) := by
  intro pins s σ H xs us Q I r h
  refine call_isi pins s σ H xs us Q I r ?_
  obtain ⟨v, T, rfl, hT, a, q⟩ := h
  rcases hT with rfl | rfl | rfl
  · exact isi_str a q
  · exact isi_int a q
  · exact isi_bool a q
theorem tyIs_str (v : V) : tyIs "str" v = isStrV v := rfl
theorem tyIs_int (v : V) : tyIs "int" v = isIntV v := rfl
theorem tyIs_bool (v : V) : tyIs "bool" v = isBlV v := rfl
def rIxM : R2 := fun x y H Q => ∃ p xs i v, x = .ref p ∧ y = .int i ∧ H p = some (.lst xs) ∧ atI xs i = some v ∧ Q v H
theorem ix_listM {X : Cx} : IxR X rIxM := by
  intro value slice pins s σ H x y v u Q I rx ry h hs
  obtain ⟨p, xs, i, z, h1, h2, h3, h4, h5⟩ := h
  exact ix_list value slice pins s σ H x y v u Q I rx ry ⟨p, xs, i, z, h1, h2, SqL.of h3, h4, h5⟩ hs
theorem ixN_nat {n j : Nat} (h : j < n) : ixN n (j : Int) = some j := by
  unfold ixN
  rw [if_pos (by omega), if_pos (by omega)]
  simp
theorem atI_zero {α : Type} {x : α} {xs : List α} : atI (x :: xs) 0 = some x := by
  unfold atI
  rw [show ixN (x :: xs).length 0 = some 0 from ixN_nat (j := 0) (by simp)]
  rfl
theorem atI_one {α : Type} {x y : α} {xs : List α} : atI (x :: y :: xs) 1 = some y := by
  unfold atI
  rw [show ixN (x :: y :: xs).length 1 = some 1 from ixN_nat (j := 1) (by simp)]
  rfl
theorem ixN_20 : ixN 2 0 = some 0 := by decide
theorem ixN_21 : ixN 2 1 = some 1 := by decide
theorem dpAll_ints {K : PySem.W.Frag} {H : Hp} : ∀ ns : List Int, DpAll K H (ns.map V.int) (ns.map PyData.int)
  | [] => .nil
  | n :: ns => .cons (.int n) (dpAll_ints ns)
def SameX (d : Addr) (H H' : Hp) : Prop := ∀ b o, H b = some o → b ≠ d → H' b = some o
theorem SameX.refl {d : Addr} {H : Hp} : SameX d H H := fun _ _ h _ => h
theorem SameX.trans {d : Addr} {H H1 H2 : Hp} (a : SameX d H H1) (b : SameX d H1 H2) : SameX d H H2 := fun c o h n => b c o (a c o h n) n
theorem SameX.of {d : Addr} {H H' : Hp} (s : Same H H') : SameX d H H' := fun b o h _ => s b o h
theorem SameX.upd {d : Addr} {H : Hp} {o : HO} : SameX d H (L2.upd H d o) := fun b u h n => by rw [upd_ne n]; exact h
theorem SameX.seq {K : PySem.W.Frag} {d : Addr} {H H' : Hp} {a : Addr} {xs : List V} (e : SameX d H H') (n : a ≠ d) (h : SqL K H a xs) : SqL K H' a xs := by
  rcases h with (h | ⟨o, h⟩) | h
  · exact .inl (.inl (e _ _ h n))
  · exact .inl (.inr ⟨o, e _ _ h n⟩)
  · exact .inr h
theorem SameX.at {d : Addr} {H H' : Hp} {a : Addr} {o : HO} (e : SameX d H H') (n : H d = none) (h : H a = some o) : H' a = some o := e _ _ h (ne_of_none h n)
section
variable {X : Cx} {CX : CXT} {k : Nat} {f : Addr} {fd : FuncData} {ps : List Str} {sp : Sp} {E : St → XK} {x : Str} {p pos : Pos} {e : Expr} {es : List Expr} {t : TA} {dvs : List V}
theorem pe_callW (F : FnOk X.prog X.w X.K X.mg X.base CX k f fd ps sp) (hr : Room k X.A) (hg : Gl X x) (hm : X.mg x = some (.ref f)) (hk : PySem.W.keepIn X.K (.ref f) = true) (hb : ∃ ds, Vals dvs ds ∧ Binds X.K fd ps ds) (hx : ∀ σ, PassesAt CX X σ (E σ))
    (ha : PA X (e :: es) t) (hdb : (x == ("__debug__" : Str)) = false := by decide) (he : starEach (e :: es) X.env = (false, eval e X.env) :: starEach es X.env := by rfl) (hpl : (backTo pos (starEach es X.env)).any (·.1) = false := by rfl) :
    PE X (.Call (.Name x p) (e :: es) [] pos) (tCallSD sp dvs E t) := by
  obtain ⟨ds, hd, hb⟩ := hb
  exact pe_callSD F hr hg hm hk hb hd hx ha hdb he hpl
end
theorem cpow_18 : CPow 10 18 ↔ True := ⟨fun _ => trivial, fun _ => ⟨by decide, by decide, by decide⟩⟩
theorem cpow_30 : CPow 10 30 ↔ True := ⟨fun _ => trivial, fun _ => ⟨by decide, by decide, by decide⟩⟩
theorem cpow_20 : CPow 10 20 ↔ True := ⟨fun _ => trivial, fun _ => ⟨by decide, by decide, by decide⟩⟩
theorem cpow_9 : CPow 10 9 ↔ True := ⟨fun _ => trivial, fun _ => ⟨by decide, by decide, by decide⟩⟩
theorem cpow_29 : CPow 10 29 ↔ True := ⟨fun _ => trivial, fun _ => ⟨by decide, by decide, by decide⟩⟩
def S (l : List Nat) : Str := ⟨l.toArray⟩
theorem S_cps (l : List Nat) : (S l).cps.toList = l := rfl
theorem S_length (l : List Nat) : (S l).length = l.length := by simp [S, Str.length]
theorem S_of (x : Str) : x = S x.cps.toList := by
  obtain ⟨c⟩ := x
  simp [S]
theorem S_ex (x : Str) : ∃ l, x = S l := ⟨_, S_of x⟩
theorem S_inj {l m : List Nat} : S l = S m ↔ l = m := ⟨fun h => by have := congrArg (fun z : Str => z.cps.toList) h; exact this, fun h => by rw [h]⟩
theorem S_append (l m : List Nat) : S l ++ S m = S (l ++ m) := by
  show Str.append (S l) (S m) = S (l ++ m)
  simp [Str.append, S]
theorem S_one (c : Nat) : (⟨#[c]⟩ : Str) = S [c] := rfl
theorem cut_within {l : List Nat} {i j : Nat} (h : i ≤ j) (h2 : j ≤ l.length) : cutS (S l) (some (i : Int)) (some (j : Int)) = S ((l.drop i).take (j - i)) := by
  unfold cutS
  rw [HT.sIx_nat, HT.sIx_nat, S_cps, S_length, Nat.min_eq_left h2, Nat.min_eq_left (by omega)]
  rfl
def WhileOk (c : TT) (tb : TS) (D : Ends) (σ : St) (H : Hp) : Prop := ∃ W : Nat → St → Hp → Prop, (∃ m, W m σ H) ∧ ∀ m σ H, W m σ H →
  c σ H fun b H1 => if b = true then ∃ N : St → Hp → Prop, (∀ σ' H', N σ' H' → ∃ m', m' < m ∧ W m' σ' H') ∧ tb { D with nx := N, ct := N, bk := D.nx } σ H1 else D.nx σ H1
theorem tWhile_eq (c : TT) (tb : TS) (D : Ends) (σ : St) (H : Hp) : tWhile c tb D σ H = WhileOk c tb D σ H := rfl
theorem WhileOk.by {c : TT} {tb : TS} {D : Ends} {σ : St} {H : Hp} (Pv : St → Hp → Prop) (μ : St → Hp → Nat) (h0 : Pv σ H)
    (hs : ∀ (σ : St) (H : Hp) (m : Nat) (W : Nat → St → Hp → Prop), Pv σ H → m = μ σ H → (∀ σ' H', Pv σ' H' → μ σ' H' < m → ∃ m', m' < m ∧ W m' σ' H') → c σ H fun b H1 => if b = true then ∃ N : St → Hp → Prop, (∀ σ' H', N σ' H' → ∃ m', m' < m ∧ W m' σ' H') ∧ tb { D with nx := N, ct := N, bk := D.nx } σ H1 else D.nx σ H1) : WhileOk c tb D σ H :=
  ⟨fun m σ H => m = μ σ H ∧ Pv σ H, ⟨_, rfl, h0⟩, fun m σ H ⟨e, p⟩ => hs σ H m _ p e fun σ' H' p' l => ⟨_, l, rfl, p'⟩⟩
theorem nxt {Pv : St → Hp → Prop} {μ : St → Hp → Nat} {m : Nat} {W : Nat → St → Hp → Prop} (k : ∀ σ' H', Pv σ' H' → μ σ' H' < m → ∃ m', m' < m ∧ W m' σ' H') : ∀ σ' H', (Pv σ' H' ∧ μ σ' H' < m) → ∃ m', m' < m ∧ W m' σ' H' := fun σ' H' h => k σ' H' h.1 h.2
def mulS (z : Str) (n : Int) : Str := S (List.replicate n.toNat z.cps.toList).flatten
theorem foldl_app {α : Type} : ∀ (ls : List (Array α)) (a : Array α), (ls.foldl (· ++ ·) a).toList = a.toList ++ (ls.map Array.toList).flatten
  | [], a => by simp
  | b :: ls, a => by simp [foldl_app ls (a ++ b)]
theorem txt_mul (z : Str) (n : Int) : Txt.mul z n = mulS z n := by
  unfold Txt.mul mulS
  by_cases h1 : n < 1
  · rw [if_pos h1, show n.toNat = 0 by omega]; rfl
  · rw [if_neg h1]
    by_cases h2 : (n == 1 || z.length == 0) = true
    · rw [if_pos h2]
      rw [Bool.or_eq_true, beq_iff_eq, beq_iff_eq] at h2
      rw [S_of z, S_inj, S_cps]
      rcases h2 with h2 | h2
      · rw [h2]; simp
      · have : z.cps.toList = [] := by
          have h3 : z.cps.size = 0 := h2
          apply List.eq_nil_of_length_eq_zero
          rw [Array.length_toList]; exact h3
        rw [this]; simp
    · rw [if_neg h2]
      have e := foldl_app (List.replicate n.toNat z.cps) #[]
      rw [List.map_replicate, List.nil_append] at e
      rw [← e, ← S_of]
theorem op_mul_str {X : Cx} : OpR X (binaryOp .Mult) (fun x y H Q => ∃ z n, x = .str z ∧ y = .int n ∧ -9223372036854775808 ≤ n ∧ n < 9223372036854775808 ∧ z.length * n.toNat ≤ 16777216 ∧ Q (.str (mulS z n)) H) := by
  intro pins s σ H x y v u Q I rx ry h
  obtain ⟨z, n, rfl, rfl, h1, h2, h3, q⟩ := h
  obtain ⟨t, rfl⟩ := rx
  obtain ⟨t', rfl⟩ := ry
  refine SB.mul ⟨?_, ?_, ?_⟩ fun t k => ⟨.str (mulS z n), H, I.tok _, ⟨t, by rw [txt_mul]⟩, q⟩
  · have a1 : ¬ n < -(2 ^ 63 : Int) := by omega
    have a2 : ¬ n ≥ 2 ^ 63 := by omega
    rw [decide_eq_false a1, decide_eq_false a2]; rfl
  · intro a1 a2 a3
    have b1 : 0 < z.length := by
      rw [Bool.or_eq_false_iff] at a2
      have := a2.2
      simp at this
      omega
    have b4 : n.toNat ≤ z.length * n.toNat := Nat.le_mul_of_pos_left _ b1
    have b5 : z.length ≤ z.length * n.toNat := Nat.le_mul_of_pos_right _ (by omega)
    have b6 : (16777217 : Int) ≤ (2 ^ 63 - 1) / n := by
      rw [Int.le_ediv_iff_mul_le (by omega)]
      have : (16777217 : Int) * n ≤ 16777217 * 16777216 := by omega
      omega
    omega
  · intro a1 a2
    show decide (_ > sizeLine) = false
    rw [sizeLine_eq]
    exact decide_eq_false (by omega)
theorem Paired.mapP_mem {α β : Type} {F G : α → β → Prop} : ∀ {l : List α} {m : List β}, Paired F l m → (∀ a b, a ∈ l → F a b → G a b) → Paired G l m
  | _, _, .nil, _ => .nil
  | _, _, .cons r t, f => .cons (f _ _ List.mem_cons_self r) (Paired.mapP_mem t fun a b h => f a b (List.mem_cons_of_mem _ h))
theorem Paired.left {α β : Type} {F : α → β → Prop} {a : α} : ∀ {l : List α} {m : List β}, Paired F l m → a ∈ l → ∃ b, F a b
  | _, _, .cons r t, h => by
    rcases List.mem_cons.mp h with e | h
    · subst e; exact ⟨_, r⟩
    · exact Paired.left t h
  | _, _, .nil, h => by cases h
theorem call_lenM {X : Cx} : CallR X (.builtin "len") (fun xs H Q => ∃ p ys, xs = [.ref p] ∧ H p = some (.lst ys) ∧ Q (.int ys.length) H) := by
  intro pins s σ H xs us Q I r h
  obtain ⟨p, ys, h1, h2, h3⟩ := h
  exact call_len_seq pins s σ H xs us Q I r ⟨p, ys, h1, .inl (SqL.of h2), h3⟩
theorem one_eq {c m : Nat} {z : Str} (h : z.cps.toList = [m]) : ((⟨#[c]⟩ : Str) = z) = (c = m) := by
  apply propext
  constructor
  · intro e
    rw [← e] at h
    exact (List.cons.inj h).1
  · intro e
    rw [S_of z, h, e]; rfl
theorem atI_last {α : Type} {xs : List α} {y : α} : atI (xs ++ [y]) (-1) = some y := by
  unfold atI ixN
  rw [if_neg (by decide), if_pos (by simp; omega)]
  have e : (-1 + (((xs ++ [y]).length : Nat) : Int)).toNat = xs.length := by simp; omega
  rw [Option.bind_some, e]
  simp
theorem tw_take {α : Type} (p : α → Bool) (l : List α) : l.take (l.takeWhile p).length = l.takeWhile p := (List.prefix_iff_eq_take.mp (List.takeWhile_prefix p)).symm
theorem tw_drop {α : Type} (p : α → Bool) : ∀ l : List α, l.drop (l.takeWhile p).length = l.dropWhile p
  | [] => rfl
  | a :: l => by
    by_cases h : p a = true
    · rw [List.takeWhile_cons_of_pos h, List.dropWhile_cons_of_pos h, List.length_cons, List.drop_succ_cons]
      exact tw_drop p l
    · rw [List.takeWhile_cons_of_neg h, List.dropWhile_cons_of_neg h]
      rfl
theorem tyV_lst {K : PySem.W.Frag} {H : Hp} {l : Addr} {xs : List V} (h : H l = some (.lst xs)) : tyV K "list" (.ref l) H := Or.inl ⟨rfl, _, SqL.of h⟩
def Short (v : V) : Prop := ∀ x, v = .str x → x.length ≤ 100000
theorem short_of {v : V} {z : Str} (h : v = .str z) (l : z.length ≤ 100000) : Short v := fun x e => by
  rw [h] at e; cases e; exact l
theorem short_no {v : V} (h : isStrV v = false) : Short v := fun x e => by
  rw [e] at h; cases h
abbrev lettersZ : Str := "abcdefghijklmnopqrstuvwxyz"
abbrev ltr : List Nat := lettersZ.cps.toList
end Q
namespace Q
open PySem PySem.Spec PyProof.Rows L2
theorem call_max3I {X : Cx} (hc : X.calm = true) : CallR X (.builtin "max") (fun xs H Q => ∃ i j k, xs = [.int i, .int j, .int k] ∧ Q (.int (if (if i < j then j else i) < k then k else (if i < j then j else i))) H) := by
  intro pins s σ H xs us Q I r h
  obtain ⟨i, j, k, rfl, q⟩ := h
  refine call_max3Nu hc pins s σ H _ us Q I r ⟨_, _, _, _, rfl, ?_, q⟩
  have e : ∀ a b : Int, nuMax2 (.int a) (.int b) = some (.int (if a < b then b else a)) := fun a b => by
    by_cases h : a < b
    · rw [if_pos h]
      simp only [nuMax2, nuLt, nuCB, decide_eq_true h, Option.map_some, if_true]
    · rw [if_neg h]
      simp only [nuMax2, nuLt, nuCB, decide_eq_false h, Option.map_some, Bool.false_eq_true, if_false]
  rw [nuMax3, e, Option.bind_some, e]
end Q
namespace L2
open PySem PySem.Spec PyProof.Rows
def Ends.gone (D : Ends) (i : Nat) : Ends := { nx := fun σ H => D.nx (σ.set i none) H, rt := D.rt, bk := fun σ H => D.bk (σ.set i none) H, ct := fun σ H => D.ct (σ.set i none) H }
def wX (K : PySem.W.Frag) (Wout : WX) (D : Ends) : List (Value × Option Nat × (Addr → Value → Option Addr → TS)) → WX
  | [] => Wout
  | (c, none, ts) :: r => fun cls d σ H => ∃ b, PySem.W.exmOne K cls c = some b ∧ (b = true → ∀ a, H a = none → ts a cls d D σ H) ∧ (b = false → wX K Wout D r cls d σ H)
  | (c, some i, ts) :: r => fun cls d σ H => ∃ b, PySem.W.exmOne K cls c = some b ∧ (b = true → ∀ a, H a = none → ts a cls d (D.gone i) (σ.set i (some (.ref a))) H) ∧ (b = false → wX K Wout D r cls d σ H)
inductive HdX (X : Cx) : List ExceptHandler → List (Value × Option Nat × (Addr → Value → Option Addr → TS)) → Prop
  | nil : HdX X [] []
  | plain {x : Str} {c : Value} {ts : Addr → Value → Option Addr → TS} {b₀ : Stmt} {suite : List Stmt} {np pos' : Pos} {hds : List ExceptHandler} {l : List (Value × Option Nat × (Addr → Value → Option Addr → TS))} (hc : Names X x c)
      (hsu : ∀ (a : Addr) (oe : Obj) (cls : Value) (d : Option Addr) (pn : List (Addr × Obj)), Zc cls d oe → (∃ vs, oe.data = .fields vs) → PSs (X.suite a ((a, oe) :: pn)) (b₀ :: suite) (ts a cls d)) (r : HdX X hds l) :
      HdX X (.ExceptHandler (some (.Name x np)) none (b₀ :: suite) pos' :: hds) ((c, none, ts) :: l)
  | named {x n : Str} {i : Nat} {c : Value} {ts : Addr → Value → Option Addr → TS} {b₀ : Stmt} {suite : List Stmt} {np pos' : Pos} {hds : List ExceptHandler} {l : List (Value × Option Nat × (Addr → Value → Option Addr → TS))} (hi : X.N[i]? = some n) (hln : X.env.kindOf n = some .local) (hc : Names X x c)
      (hsu : ∀ (a : Addr) (oe : Obj) (cls : Value) (d : Option Addr) (pn : List (Addr × Obj)), Zc cls d oe → (∃ vs, oe.data = .fields vs) → PSs (X.suite a ((a, oe) :: pn)) (b₀ :: suite) (ts a cls d)) (r : HdX X hds l) :
      HdX X (.ExceptHandler (some (.Name x np)) (some n) (b₀ :: suite) pos' :: hds) ((c, some i, ts) :: l)
section
variable {X : Cx} {body orelse : List Stmt} {h₀ : ExceptHandler} {hds : List ExceptHandler} {l : List (Value × Option Nat × (Addr → Value → Option Addr → TS))} {pos : Pos} {tb : WX → TS} {u : TS} {Wout : WX}
theorem ps_tryX (hs : X.stack = X.env :: X.outer) (hf : X.env.frame = some X.env.locals) (hN : X.N.Nodup) (tk : Takes X Wout)
    (hb : ∀ (W : WX) (pn : List (Addr × Obj)) (xe : Value → Shared → Prop), Takes (X.tr pn xe) W → PassesOwn (model X.prog X.w) X.A X.env xe → PSs (X.tr pn xe) body (tb W))
    (hh : HdX X (h₀ :: hds) l) (ho : PSs X orelse u) : PS X (.Try body (h₀ :: hds) orelse [] pos) (fun D σ H => tb (wX X.K Wout D l) { D with nx := u D } σ H) := by
  refine ⟨fun pins s σ H D I h => ?_⟩
  have ok := I.ok
  have hfr : X.A.frames = some (X.env :: X.outer) := by rw [ok.frames, hs]
  refine wpAny_Try_except ?_
  refine wpAny_mono ((hb (wX X.K Wout D l) (X.pn ++ pins) (fun e s₁ => wpAny (model X.prog X.w) X.A (noteFrame e X.env) (fun _ s₂ => wpAny (model X.prog X.w) X.A (setFlight e none) (fun _ s₃ =>
    wpAny (model X.prog X.w) X.A (handleBy e X.env (h₀ :: hds)) (SP X pins D) X.xe s₃) X.xe s₂) X.xe s₁) (fun v s' xx => ?_) PassesOwn.looking).run [] s σ H { D with nx := u D } (I.toTry _) h) (fun f s1 hsp => ?_) (fun e s1 he => he)
  · obtain ⟨a, B, sI, pins', σ', H', cls, d, rfl, J', nb, up, sky, na, os, ag, w⟩ := xx
    have J : Inv X pins σ' H' sI := J'.ofTry ok
    have sky' : Sky B (X.env :: X.outer) a (Zc cls d) X.env.locals s'.heap := by rw [← hs]; exact sky
    show wpAny (model X.prog X.w) X.A (noteFrame (.ref a) X.env) _ _ _
    refine Sky.land Zc.steady hfr hf sky' fun h3 fl3 up3 => ?_
    have J3 : Inv X pins σ' H' { s' with heap := h3 } := J.landed nb fl3.1 (up.trans up3) os ag
    obtain ⟨oe3, vs3, he3, hz3, hd3⟩ := fl3.there
    have nfr : a ∉ frs (X.env :: X.outer) := fun hm => by
      obtain ⟨_, o', e', hnf⟩ := fl3.2.2.1.mem hm
      rw [he3] at e'; cases e'
      exact hnf _ hd3
    have nL : a ≠ X.env.locals := fun z => nfr (List.mem_filterMap.mpr ⟨X.env, List.mem_cons_self, by rw [hf, z]⟩)
    have nF : a ∉ X.fs := fun hm => by
      obtain ⟨e, he, q⟩ := List.mem_filterMap.mp hm
      exact nfr (List.mem_filterMap.mpr ⟨e, List.mem_cons_of_mem _ he, q⟩)
    have S3 := J3.suite he3 hd3 na nL nF
    have LT : PySem.W.Looks (model X.prog X.w) h3 (typeOf (.ref a)) cls := fun A Q E s k q => wpAny_typeOf_ref (k _ _ he3) (by rw [hz3.1]; exact q)
    have test : ∀ {x : Str} {c : Value} {np : Pos} {Q : Value → Shared → Prop} {E : Value → Shared → Prop}, Names X x c → Q c { s' with heap := h3 } → wpAny (model X.prog X.w) (X.A.mark (some (.ref a))) (eval (.Name x np) X.env) Q E { s' with heap := h3 } := fun {x c np Q E} hc q => by
      obtain ⟨hg, hdbg, hm | ⟨hm, hv, hnn⟩⟩ := hc
      · exact ld_glob (X := X.suite a ((a, oe3) :: (X.pn ++ pins))) S3 hg hm q hdbg
      · exact ld_blt (X := X.suite a ((a, oe3) :: (X.pn ++ pins))) S3 hg hm hv q hnn hdbg
    clear h
    generalize h₀ :: hds = hl at hh
    revert w
    induction hh with
    | nil =>
      intro w
      refine wpAny_handleBy_nil ?_
      obtain ⟨k1, k2, k3, oe, vs, T, oT, ts', he, hz, hd, h1, hr⟩ := id fl3
      unfold PySem.passOn
      refine wpAny_bind (wpAny_field he hd h1 ?_)
      rw [if_neg (show ¬ ((Value.ref T == Value.none) = true) from by simp)]
      have fin : wpAny (model X.prog X.w) X.A (setFlight (.ref a) X.env.frame) (fun _ s4 => wpAny (model X.prog X.w) X.A (throw (.ref a) : Sem Flow) (SP X pins D) X.xe s4) X.xe { s' with heap := h3 } := by
        rw [hf]
        refine HandSPX.setFlight_upZ fl3 fun h4 hh4 up4 => wpAny_throw (tk _ _ ?_)
        exact ⟨a, B, sI, pins, σ', H', cls, d, rfl, J, nb, (up.trans up3).trans up4, .inr (.inr (by rw [hs]; exact hh4)), na, os, ag, w⟩
      first
        | exact wpAny_bind (wpAny_pure (wpAny_bind fin))
        | exact wpAny_bind fin
    | @plain x c ts b₀ suite np pos' hds2 l2 hc hsu r ih =>
      rintro ⟨b, hb1, hyes, hno⟩
      refine wpAny_handleBy_cons (codeAny_handlers_test ?_) (by intro q; cases q)
      refine test hc ((PySem.W.exm_one (M := model X.prog X.w) J3.kIn LT hb1).here ?_)
      cases b with
      | true =>
        refine codeAny_handlers_suite ?_
        refine HandSPX.lands_againZ fl3 fun h4 fl4 up4 => ?_
        have J4 : Inv X pins σ' H' { s' with heap := h4 } := J.landed nb fl4.1 ((up.trans up3).trans up4) os ag
        obtain ⟨oe4, vs4, he4, hz4, hd4⟩ := fl4.there
        refine wpAny_mono ((hsu a oe4 cls d (X.pn ++ pins) hz4 ⟨_, hd4⟩).run [] _ _ H' _ (J4.suite he4 hd4 na nL nF) (hyes rfl a na)) (fun f s6 hsp => ?_) (fun _ _ z => False.elim z)
        cases f with
        | ret u =>
          obtain ⟨v6, σ6, H6, S6, r6, q6⟩ := hsp
          exact ⟨_, _, _, S6.unsuite ok, r6, q6⟩
        | _ =>
          obtain ⟨σ6, H6, S6, q6⟩ := hsp
          exact ⟨_, _, S6.unsuite ok, q6⟩
      | false => exact ih (hno rfl)
    | @named x n i c ts b₀ suite np pos' hds2 l2 hi hln hc hsu r ih =>
      rintro ⟨b, hb1, hyes, hno⟩
      refine wpAny_handleBy_cons (codeAny_handlers_test ?_) (by intro q; cases q)
      refine test hc ((PySem.W.exm_one (M := model X.prog X.w) J3.kIn LT hb1).here ?_)
      cases b with
      | true =>
        refine codeAny_handlers_suite_as ?_
        refine HandSPX.lands_againZ fl3 fun h4 fl4 up4 => ?_
        have J4 : Inv X pins σ' H' { s' with heap := h4 } := J.landed nb fl4.1 ((up.trans up3).trans up4) os ag
        obtain ⟨oe4, vs4, he4, hz4, hd4⟩ := fl4.there
        refine store_ok (X := X.suite a ((a, oe4) :: (X.pn ++ pins))) (v := .ref a) (J4.suite he4 hd4 na nL nF) hN hi (.inl hln) rfl (fun s5 S5 => ?_) (.inr hln)
        refine wpAny_mono ((hsu a oe4 cls d (X.pn ++ pins) hz4 ⟨_, hd4⟩).run [] s5 _ H' _ S5 (hyes rfl a na)) (fun f s6 hsp => ?_) (fun _ _ z => False.elim z)
        have end_ : ∀ {σ6 : St} {H6 : Hp} {Q : Shared → Prop}, Inv (X.suite a ((a, oe4) :: (X.pn ++ pins))) [] σ6 H6 s6 → (∀ s7, Inv X pins (σ6.set i none) H6 s7 → Q s7) →
            wpAny (model X.prog X.w) X.A (do bindName X.env n .none; unbindBehindTheSuite X.env n pos') (fun _ s7 => Q s7) X.xe s6 := fun {σ6 H6 Q} S6 hq => gone_ok (S6.unsuite ok) hN hi hln hq
        cases f with
        | ret u =>
          obtain ⟨v6, σ6, H6, S6, r6, q6⟩ := hsp
          exact end_ S6 fun s7 J7 => ⟨_, _, _, J7, r6, q6⟩
        | _ =>
          obtain ⟨σ6, H6, S6, q6⟩ := hsp
          exact end_ S6 fun s7 J7 => ⟨_, _, J7, q6⟩
      | false => exact ih (hno rfl)
  · cases f with
    | next =>
      obtain ⟨σ', H', J', q⟩ := hsp
      exact ho.run pins s1 σ' H' D (J'.ofTry ok) q
    | ret u =>
      obtain ⟨v, σ', H', J', r, q⟩ := hsp
      exact ⟨v, σ', H', J'.ofTry ok, r, q⟩
    | _ =>
      obtain ⟨σ', H', J', q⟩ := hsp
      exact ⟨σ', H', J'.ofTry ok, q⟩
end
end L2
namespace L2
open PySem PySem.Spec PyProof.Rows
def IteS (x : Str) : It :=
  ⟨fun i _ => i < x.cps.size, fun i H v H' => ∃ T c, v = .ref T ∧ H T = none ∧ H' = upd H T (.tup [.int (i : Nat), .str ⟨#[c]⟩]) ∧ x.cps[i]? = some c, fun i _ => x.cps.size ≤ i⟩
def iEnumS (ta : TA) : TI := fun σ H R => ta σ H fun vs H1 => ∃ x, vs = [.str x] ∧ R (IteS x) H1
end L2
namespace Q
open PySem PySem.Spec PyProof.Rows L2
def hookT (n : Nat) (ex : List (PySem.W.Frag → Bool)) (fn : List He5.DefA) (N : Nat) : PySem.W.Hook where
  α := He.AlD × Bool
  obs := fun s => (obsMG n ex fn s.heap.get?, Nat.ble N s.toks)
  val := fun _ => (valM fn, true)
  says := fun _ h => ∃ K : PySem.W.Frag, K.In h ∧ SaysM ex fn K
  of := fun _ _ e => ⟨_, He.frG_in, congrArg (fun z : He.AlD × Bool => z.1) e⟩
  keeps := fun _ _ _ z k => let ⟨K, hK, c⟩ := z; ⟨K, PySem.W.Frag.In.keeps hK k, c⟩
def tokB (x z : Str) (N : Nat) (K : PySem.W.Frag) : Bool := match PySem.W.nsIn K mainGlobals x with
  | some (some (.str y t)) => decide (y = z) && (decide (t ≠ 0) && decide (t < N))
  | _ => false
theorem tokB_ok {K : PySem.W.Frag} {h : Heap} {mg : Str → Option Value} {x z : Str} {N : Nat} (X : K.In h) (G : h.Ns mainGlobals mg) (c : tokB x z N K = true) : ∃ t : Tok, mg x = some (.str z t) ∧ t ≠ 0 ∧ t < N := by
  unfold tokB at c
  split at c
  · rename_i y t e
    have b := Bool.and_eq_true_iff.mp c
    have b2 := Bool.and_eq_true_iff.mp b.2
    obtain rfl := of_decide_eq_true b.1
    exact ⟨t, PySem.W.mg_of X G e, of_decide_eq_true b2.1, of_decide_eq_true b2.2⟩
  · cases c
end Q
namespace Q
open PySem PySem.Spec PyProof.Rows L2
def cL (K : PySem.W.Frag) (x : Str) : Addr := ((PySem.W.tabIn K x).getD (0, 0)).1
def pL (K : PySem.W.Frag) (x : Str) : Addr := ((PySem.W.tabIn K x).getD (0, 0)).2
def tblB : Option Obj → Bool
  | some ⟨.none, none, .fields a, sl⟩ => a.isEmpty && sl.isEmpty
  | _ => false
theorem tblB_ok {o : Option Obj} (h : tblB o = true) : o = some { cls := .none, data := .fields #[] } := by
  unfold tblB at h
  split at h
  · simp only [Bool.and_eq_true, Array.isEmpty_iff] at h
    obtain ⟨rfl, rfl⟩ := h
    rfl
  · cases h
def distB : List Addr → Bool
  | [] => true
  | a :: r => !r.contains a && distB r
theorem distB_ok : ∀ {l : List Addr}, distB l = true → l.Nodup
  | [], _ => List.nodup_nil
  | a :: r, h => by
    simp only [distB, Bool.and_eq_true, Bool.not_eq_true'] at h
    refine List.nodup_cons.mpr ⟨fun z => ?_, distB_ok h.2⟩
    have := List.contains_iff_mem.mpr z
    rw [h.1] at this
    cases this
structure LamT (K : PySem.W.Frag) (h : Heap) (xs : List Str) : Prop where
  tab : ∀ x ∈ xs, PySem.W.tabIn K x = some (cL K x, pL K x)
  code : ∀ x ∈ xs, PySem.W.CodeHd h (cL K x) (pL K x)
  emp : ∀ x ∈ xs, h.get? (pL K x) = some { cls := .none, data := .fields #[] }
  out : ∀ x ∈ xs, K.lookup (pL K x) = none
  dist : (xs.map (pL K)).Nodup
def lamB (g : Addr → Option Obj) (K : PySem.W.Frag) (xs : List Str) : Bool :=
  (xs.all fun x => (PySem.W.tabIn K x).isSome && PySem.W.codeHdIn K (cL K x) (pL K x) && tblB (g (pL K x)) && (K.lookup (pL K x)).isNone) && distB (xs.map (pL K))
theorem lamB_ok {K : PySem.W.Frag} {h : Heap} {xs : List Str} (KX : K.In h) (b : lamB h.get? K xs = true) : LamT K h xs := by
  unfold lamB at b
  simp only [Bool.and_eq_true, List.all_eq_true, Option.isNone_iff_eq_none] at b
  obtain ⟨a, d⟩ := b
  refine ⟨fun x hx => ?_, fun x hx => PySem.W.codeHd_of_K KX (a x hx).1.1.2, fun x hx => tblB_ok (a x hx).1.2, fun x hx => (a x hx).2, distB_ok d⟩
  have := (a x hx).1.1.1
  unfold cL pL
  cases e : PySem.W.tabIn K x with
  | none => rw [e] at this; cases this
  | some p => rfl
theorem LamT.keeps {K : PySem.W.Frag} {h h' : Heap} {xs : List Str} (t : LamT K h xs) (k : ∀ b o, h.get? b = some o → h'.get? b = some o) : LamT K h' xs :=
  ⟨t.tab, fun x hx => (t.code x hx).keeps k, fun x hx => k _ _ (t.emp x hx), t.out, t.dist⟩
theorem LamT.fd {K : PySem.W.Frag} {h : Heap} {xs : List Str} (t : LamT K h xs) {x : Str} (hx : x ∈ xs) : (fdA K (He.ga K x)).code = .ref (cL K x) := by
  have e := t.tab x hx
  generalize cL K x = c at e ⊢
  generalize pL K x = p at e
  unfold PySem.W.tabIn at e
  unfold fdA He.ga
  split at e
  · rename_i f hf
    rw [hf]
    simp only
    split at e
    · rename_i fd sl hk
      rw [hk]
      simp only
      split at e
      · rename_i c2 hc
        split at e
        · split at e
          · cases e
            exact hc
          · cases e
        · cases e
      · cases e
    · cases e
  · cases e
def frL (g : Addr → Option Obj) (as : List Addr) (xs : List Str) : PySem.W.Frag :=
  let K0 := He.frG g as
  let ts := xs.map (pL K0)
  He.frG g (as.filter fun a => !ts.contains a)
def obsL (n : Nat) (ex : List (PySem.W.Frag → Bool)) (fn : List He5.DefA) (xs : List Str) (g : Addr → Option Obj) : He.AlD × Bool :=
  let K := frL g (He5.asA g n) xs
  (obsM ex fn K, lamB g K xs)
def hookL (n : Nat) (ex : List (PySem.W.Frag → Bool)) (fn : List He5.DefA) (xs : List Str) (N : Nat) : PySem.W.Hook where
  α := (He.AlD × Bool) × Bool
  obs := fun s => (obsL n ex fn xs s.heap.get?, Nat.ble N s.toks)
  val := fun _ => ((valM fn, true), true)
  says := fun _ h => ∃ K : PySem.W.Frag, K.In h ∧ SaysM ex fn K ∧ LamT K h xs
  of := fun _ s e => ⟨frL s.heap.get? (He5.asA s.heap.get? n) xs, He.frG_in, congrArg (fun z : (He.AlD × Bool) × Bool => z.1.1) e, lamB_ok He.frG_in (congrArg (fun z : (He.AlD × Bool) × Bool => z.1.2) e)⟩
  keeps := fun _ _ _ z k => by
    obtain ⟨K, hK, c, t⟩ := z
    exact ⟨K, PySem.W.Frag.In.keeps hK k, c, t.keeps k⟩
theorem hookL_toks {n N : Nat} {ex : List (PySem.W.Frag → Bool)} {fn : List He5.DefA} {xs : List Str} {w : World} {s : Shared} (e : (hookL n ex fn xs N).obs s = (hookL n ex fn xs N).val w) : N ≤ s.toks :=
  Nat.le_of_ble_eq_true (congrArg (fun z : (He.AlD × Bool) × Bool => z.2) e)
theorem obsL_eq {n N : Nat} {ex : List (PySem.W.Frag → Bool)} {fn : List He5.DefA} {xs : List Str} (s : PySem.W.SharedT) : (obsL n ex fn xs (HandSHeadRun.getT s), Nat.ble N s.toks) = (hookL n ex fn xs N).obs s.abs := by
  have e : HandSHeadRun.getT s = s.abs.heap.get? := funext (HandSHeadRun.getT_eq s)
  rw [e] <;> rfl
end Q
namespace Q
open PySem PySem.Spec PyProof.Rows L2
abbrev stepsZ : Str := "abcdefghijklmnopqrstuvwxyz-"
abbrev stp : List Nat := stepsZ.cps.toList
def isStp (c : Nat) : Bool := decide (c ∈ stp)
abbrev digsZ : Str := "0123456789"
def isDig (c : Nat) : Bool := decide (c ∈ digsZ.cps.toList)
theorem isDig_iff (c : Nat) : isDig c = true ↔ 48 ≤ c ∧ c ≤ 57 := by
  have e : digsZ.cps.toList = [48, 49, 50, 51, 52, 53, 54, 55, 56, 57] := by decide +kernel
  unfold isDig
  rw [e, decide_eq_true_eq]
  simp only [List.mem_cons, List.not_mem_nil, or_false]
  omega
abbrev dval (ds : List Nat) : Nat := NumText.digitsVal ds
def okCount (ds : List Nat) : Bool := decide (ds ≠ []) && (decide (ds.length ≤ 31) && (!(decide (ds.head? = some 48) && decide (ds ≠ [48])) && decide (dval ds ≤ 10 ^ 30)))
inductive Pg where
  | nil
  | seq (l : List Nat) (r : Pg)
  | rep (b : Pg) (n : Nat) (r : Pg)
def Pg.wr : Pg → List Nat
  | .nil => []
  | .seq l r => l ++ r.wr
  | .rep b n r => (List.replicate n b.wr).flatten ++ r.wr
def Pg.app : Pg → Pg → Pg
  | .nil, q => q
  | .seq l r, q => .seq l (r.app q)
  | .rep b n r, q => .rep b n (r.app q)
theorem Pg.wr_app (p q : Pg) : (p.app q).wr = p.wr ++ q.wr := by
  induction p with
  | nil => rfl
  | seq l r ih => simp [Pg.app, Pg.wr, ih]
  | rep b n r _ ih => simp [Pg.app, Pg.wr, ih]
def Pg.ok : Pg → Prop
  | .nil => True
  | .seq l r => (∀ c ∈ l, c ∈ stp) ∧ r.ok
  | .rep b n r => b.ok ∧ n ≤ 10 ^ 30 ∧ r.ok
theorem Pg.ok_app {p q : Pg} (hp : p.ok) (hq : q.ok) : (p.app q).ok := by
  induction p with
  | nil => exact hq
  | seq l r ih => exact ⟨hp.1, ih hp.2⟩
  | rep b n r _ ih => exact ⟨hp.1, hp.2.1, ih hp.2.2⟩
def Pg.depth : Pg → Nat
  | .nil => 0
  | .seq _ r => r.depth
  | .rep b _ r => max (b.depth + 1) r.depth
theorem Pg.depth_app (p q : Pg) : (p.app q).depth = max p.depth q.depth := by
  induction p with
  | nil => simp [Pg.app, Pg.depth]
  | seq l r ih => simp [Pg.app, Pg.depth, ih]
  | rep b n r _ ih => simp [Pg.app, Pg.depth, ih, Nat.max_assoc]
def Pg.size : Pg → Nat
  | .nil => 0
  | .seq l r => l.length + 1 + r.size
  | .rep b _ r => b.size + 1 + r.size
theorem Pg.size_app (p q : Pg) : (p.app q).size = p.size + q.size := by
  induction p with
  | nil => simp [Pg.app, Pg.size]
  | seq l r ih => simp [Pg.app, Pg.size, ih]; omega
  | rep b n r _ ih => simp [Pg.app, Pg.size, ih]; omega
def goF (t : List Nat) (st : List (List Nat)) : Option (List Nat) := match t, st with
  | [], [f] => some f
  | [], _ => none
  | _ :: _, [] => none
  | c :: t, f :: fs => if isStp c = true then goF t ((f ++ [c]) :: fs) else
    if c = 40 then (if fs.length < 20 then goF t ([] :: f :: fs) else none) else
    if c = 41 then (match fs with
      | [] => none
      | g :: gs => if okCount (t.takeWhile isDig) = true then goF (t.dropWhile isDig) ((g ++ (List.replicate (dval (t.takeWhile isDig)) f).flatten) :: gs) else none) else none
  termination_by t.length
  decreasing_by
    all_goals simp_wf
    have := (List.dropWhile_suffix (l := t) isDig).length_le
    omega
def progF (l : List Nat) : Option (List Nat) := goF l [[]]
theorem goF_step {c : Nat} {t : List Nat} {f : List Nat} {fs : List (List Nat)} (h : isStp c = true) : goF (c :: t) (f :: fs) = goF t ((f ++ [c]) :: fs) := by
  rw [goF.eq_def]
  simp only [h, if_true]
theorem goF_steps : ∀ {s t : List Nat} {f : List Nat} {fs : List (List Nat)}, (∀ c ∈ s, isStp c = true) → goF (s ++ t) (f :: fs) = goF t ((f ++ s) :: fs)
  | [], t, f, fs, _ => by simp
  | c :: s, t, f, fs, h => by
    rw [List.cons_append, goF_step (h c List.mem_cons_self), goF_steps fun d hd => h d (List.mem_cons_of_mem _ hd)]
    simp
theorem stp_40 : isStp 40 = false := by decide +kernel
theorem stp_41 : isStp 41 = false := by decide +kernel
theorem goF_open {t : List Nat} {f : List Nat} {fs : List (List Nat)} : goF (40 :: t) (f :: fs) = if fs.length < 20 then goF t ([] :: f :: fs) else none := by
  rw [goF.eq_def]
  simp only [stp_40, Bool.false_eq_true, if_false, if_true]
theorem goF_close {t : List Nat} {f g : List Nat} {gs : List (List Nat)} : goF (41 :: t) (f :: g :: gs) = if okCount (t.takeWhile isDig) = true then goF (t.dropWhile isDig) ((g ++ (List.replicate (dval (t.takeWhile isDig)) f).flatten) :: gs) else none := by
  rw [goF.eq_def]
  simp only [stp_41, Bool.false_eq_true, if_false, if_true, show ¬ ((41 : Nat) = 40) by decide]
theorem goF_close0 {t : List Nat} {f : List Nat} : goF (41 :: t) [f] = none := by
  rw [goF.eq_def]
  simp only [stp_41, Bool.false_eq_true, if_false, if_true, show ¬ ((41 : Nat) = 40) by decide]
theorem goF_other {c : Nat} {t : List Nat} {f : List Nat} {fs : List (List Nat)} (h : isStp c = false) (h1 : c ≠ 40) (h2 : c ≠ 41) : goF (c :: t) (f :: fs) = none := by
  rw [goF.eq_def]
  simp only [h, Bool.false_eq_true, if_false, h1, h2]
def goP (t : List Nat) (st : List Pg) : Option Pg := match t, st with
  | [], [f] => some f
  | [], _ => none
  | _ :: _, [] => none
  | c :: t, f :: fs => if isStp c = true then goP (t.dropWhile isStp) (f.app (.seq (c :: t.takeWhile isStp) .nil) :: fs) else
    if c = 40 then (if fs.length < 20 then goP t (.nil :: f :: fs) else none) else
    if c = 41 then (match fs with
      | [] => none
      | g :: gs => if okCount (t.takeWhile isDig) = true then goP (t.dropWhile isDig) (g.app (.rep f (dval (t.takeWhile isDig)) .nil) :: gs) else none) else none
  termination_by t.length
  decreasing_by
    all_goals simp_wf
    · have := (List.dropWhile_suffix (l := t) isStp).length_le
      omega
    · have := (List.dropWhile_suffix (l := t) isDig).length_le
      omega
def progP (l : List Nat) : Option Pg := goP l [.nil]
theorem goP_step {c : Nat} {t : List Nat} {f : Pg} {fs : List Pg} (h : isStp c = true) : goP (c :: t) (f :: fs) = goP (t.dropWhile isStp) (f.app (.seq (c :: t.takeWhile isStp) .nil) :: fs) := by
  rw [goP.eq_def]
  simp only [h, if_true]
theorem goP_open {t : List Nat} {f : Pg} {fs : List Pg} : goP (40 :: t) (f :: fs) = if fs.length < 20 then goP t (.nil :: f :: fs) else none := by
  rw [goP.eq_def]
  simp only [stp_40, Bool.false_eq_true, if_false, if_true]
theorem goP_close {t : List Nat} {f g : Pg} {gs : List Pg} : goP (41 :: t) (f :: g :: gs) = if okCount (t.takeWhile isDig) = true then goP (t.dropWhile isDig) (g.app (.rep f (dval (t.takeWhile isDig)) .nil) :: gs) else none := by
  rw [goP.eq_def]
  simp only [stp_41, Bool.false_eq_true, if_false, if_true, show ¬ ((41 : Nat) = 40) by decide]
theorem goP_close0 {t : List Nat} {f : Pg} : goP (41 :: t) [f] = none := by
  rw [goP.eq_def]
  simp only [stp_41, Bool.false_eq_true, if_false, if_true, show ¬ ((41 : Nat) = 40) by decide]
theorem goP_other {c : Nat} {t : List Nat} {f : Pg} {fs : List Pg} (h : isStp c = false) (h1 : c ≠ 40) (h2 : c ≠ 41) : goP (c :: t) (f :: fs) = none := by
  rw [goP.eq_def]
  simp only [h, Bool.false_eq_true, if_false, h1, h2]
theorem goP_F : ∀ (n : Nat) (t : List Nat) (st : List Pg), t.length ≤ n → goF t (st.map Pg.wr) = (goP t st).map Pg.wr
  | n, [], [], _ => by rw [goP.eq_def, goF.eq_def]; rfl
  | n, [], [f], _ => by rw [goP.eq_def, goF.eq_def]; rfl
  | n, [], f :: g :: fs, _ => by rw [goP.eq_def, goF.eq_def]; rfl
  | n, c :: t, [], _ => by rw [goP.eq_def, goF.eq_def]; rfl
  | 0, c :: t, f :: fs, h => by simp at h
  | n + 1, c :: t, f :: fs, h => by
    rw [List.length_cons] at h
    rw [List.map_cons]
    cases hs : isStp c with
    | true =>
      have hd := (List.dropWhile_suffix (l := t) isStp).length_le
      have ih := goP_F n (t.dropWhile isStp) (f.app (.seq (c :: t.takeWhile isStp) .nil) :: fs) (by omega)
      rw [goP_step hs, ← ih, List.map_cons, Pg.wr_app]
      have e : c :: t = (c :: t.takeWhile isStp) ++ t.dropWhile isStp := by rw [List.cons_append, List.takeWhile_append_dropWhile]
      conv => lhs; rw [e]
      rw [goF_steps (fun d hd => by
        rcases List.mem_cons.mp hd with z | z
        · rw [z]; exact hs
        · exact List.all_eq_true.mp List.all_takeWhile d z)]
      simp [Pg.wr]
    | false =>
      by_cases h40 : c = 40
      · subst h40
        rw [goP_open, goF_open, List.length_map]
        split
        · exact goP_F n t (.nil :: f :: fs) (by omega)
        · rfl
      · by_cases h41 : c = 41
        · subst h41
          cases fs with
          | nil => rw [goP_close0]; exact goF_close0
          | cons g gs =>
            rw [List.map_cons, goP_close, goF_close]
            split
            · have hd := (List.dropWhile_suffix (l := t) isDig).length_le
              have ih := goP_F n (t.dropWhile isDig) (g.app (.rep f (dval (t.takeWhile isDig)) .nil) :: gs) (by omega)
              rw [← ih, List.map_cons, Pg.wr_app]
              simp [Pg.wr]
            · rfl
        · rw [goP_other hs h40 h41, goF_other hs h40 h41]; rfl
theorem progF_P (l : List Nat) : progF l = (progP l).map Pg.wr := goP_F l.length l [.nil] (Nat.le_refl _)
def RepL (X : Addr → Prop) (H : Hp) : List V → Pg → Prop
  | vs, .nil => vs = []
  | vs, .seq l r => ∃ ws, vs = .str (S l) :: ws ∧ RepL X H ws r
  | vs, .rep b n r => ∃ (t a : Addr) (us ws : List V), vs = .ref t :: ws ∧ H t = some (.tup [.ref a, .int (n : Int)]) ∧ ¬ X t ∧ ¬ X a ∧ H a = some (.lst us) ∧ RepL X H us b ∧ RepL X H ws r
theorem RepL.mono {X X' : Addr → Prop} {H H' : Hp} (hx : ∀ a, X' a → X a) (h : ∀ b o, H b = some o → ¬ X b → H' b = some o) : ∀ {p : Pg} {vs : List V}, RepL X H vs p → RepL X' H' vs p
  | .nil, _, r => r
  | .seq l q, _, ⟨ws, e, r⟩ => ⟨ws, e, RepL.mono hx h r⟩
  | .rep b n q, _, ⟨t, a, us, ws, e, e1, n1, n2, e2, r1, r2⟩ => ⟨t, a, us, ws, e, h _ _ e1 n1, fun z => n1 (hx _ z), fun z => n2 (hx _ z), h _ _ e2 n2, RepL.mono hx h r1, RepL.mono hx h r2⟩
theorem RepL.app {X : Addr → Prop} {H : Hp} : ∀ {p q : Pg} {vs ws : List V}, RepL X H vs p → RepL X H ws q → RepL X H (vs ++ ws) (p.app q)
  | .nil, _, _, _, e, r => by
    have e' : _ = [] := e
    rw [e']; exact r
  | .seq l q, _, _, _, ⟨us, e, r⟩, s => ⟨_, by rw [e]; rfl, RepL.app r s⟩
  | .rep b n q, _, _, _, ⟨t, a, us, us2, e, e1, n1, n2, e2, r1, r2⟩, s => ⟨t, a, us, _, by rw [e]; rfl, e1, n1, n2, e2, r1, RepL.app r2 s⟩
abbrev NoX : Addr → Prop := fun _ => False
def ItemsAt (H : Hp) (a : Addr) (p : Pg) : Prop := ∃ us, H a = some (.lst us) ∧ RepL NoX H us p
theorem ItemsAt.mono {H H' : Hp} {a : Addr} {p : Pg} (s : Same H H') (h : ItemsAt H a p) : ItemsAt H' a p := by
  obtain ⟨us, e, r⟩ := h
  exact ⟨us, s _ _ e, r.mono (fun _ z => z) fun b o z _ => s b o z⟩
structure PgOk (p : Pg) : Prop where
  ok : p.ok
  depth : p.depth ≤ 20
  size : p.size ≤ 1000000
theorem RepL.fresh {X X' : Addr → Prop} {H : Hp} {n : Addr} (hn : H n = none) (hx : ∀ a, X' a → X a ∨ a = n) : ∀ {p : Pg} {vs : List V}, RepL X H vs p → RepL X' H vs p
  | .nil, _, r => r
  | .seq l q, _, ⟨ws, e, r⟩ => ⟨ws, e, RepL.fresh hn hx r⟩
  | .rep b k q, _, ⟨t, a, us, ws, e, e1, n1, n2, e2, r1, r2⟩ => ⟨t, a, us, ws, e, e1, fun z => (hx _ z).elim n1 (ne_of_none e1 hn), fun z => (hx _ z).elim n2 (ne_of_none e2 hn), e2, RepL.fresh hn hx r1, RepL.fresh hn hx r2⟩
theorem Paired.snoc_inv {α β : Type} {F : α → β → Prop} : ∀ {l : List α} {a : α} {m : List β}, Paired F (l ++ [a]) m → ∃ m' b, m = m' ++ [b] ∧ Paired F l m' ∧ F a b
  | [], a, _, .cons r .nil => ⟨[], _, rfl, .nil, r⟩
  | x :: l, a, _, .cons r t => by
    obtain ⟨m', b, e, h1, h2⟩ := Paired.snoc_inv t
    exact ⟨_ :: m', b, by rw [e]; rfl, .cons r h1, h2⟩
def XS (H0 : Hp) (l : List Addr) : Addr → Prop := fun b => b ∈ l ∨ H0 b ≠ none
structure PSt (H0 H : Hp) (o : Addr) (as : List Addr) (ps : List Pg) : Prop where
  same : Same H0 H
  fo : H0 o = none
  fas : ∀ a ∈ as, H0 a = none
  lo : H o = some (.lst (as.map V.ref))
  nd : (o :: as).Nodup
  rep : Paired (fun a p => ∃ us, H a = some (.lst us) ∧ RepL (XS H0 (o :: as)) H us p) as ps
  ok : ∀ p ∈ ps, p.ok
  dep : ∀ (i : Nat) p, ps[i]? = some p → p.depth + i ≤ 20
theorem PSt.len {H0 H : Hp} {o : Addr} {as : List Addr} {ps : List Pg} (h : PSt H0 H o as ps) : as.length = ps.length := Paired.length h.rep
theorem PSt.seq {H0 H : Hp} {o t : Addr} {as : List Addr} {ps : List Pg} {l : List Nat} (h : PSt H0 H o (as ++ [t]) ps) (hl : ∀ c ∈ l, c ∈ stp) :
    ∃ qs p us, ps = qs ++ [p] ∧ H t = some (.lst us) ∧ PSt H0 (upd H t (.lst (us ++ [.str (S l)]))) o (as ++ [t]) (qs ++ [p.app (.seq l .nil)]) := by
  obtain ⟨qs, p, rfl, h1, us, h2, h3⟩ := Paired.snoc_inv h.rep
  have hnt : H0 t = none := h.fas t (by simp)
  have hto : t ≠ o := by have := h.nd; simp at this; exact fun e => this.1.2 e.symm
  have keep : ∀ b u, H b = some u → ¬ XS H0 (o :: (as ++ [t])) b → upd H t (.lst (us ++ [.str (S l)])) b = some u := fun b u e n => by
    rw [upd_ne (fun z => n (.inl (by simp [z])))]; exact e
  refine ⟨qs, p, us, rfl, h2, ⟨fun b u e => ?_, h.fo, h.fas, ?_, h.nd, Paired.snoc (Paired.mapP_mem h1 ?_) ?_, ?_, ?_⟩⟩
  · rw [upd_ne (ne_of_none e hnt)]; exact h.same b u e
  · rw [upd_ne hto.symm]; exact h.lo
  · rintro a q ha ⟨ws, e, r⟩
    have nat : a ≠ t := by
      have := h.nd
      simp only [List.nodup_cons, List.nodup_append] at this
      exact this.2.2.2 a ha t (by simp)
    exact ⟨ws, by rw [upd_ne nat]; exact e, r.mono (fun _ z => z) keep⟩
  · exact ⟨_, upd_same, RepL.app (h3.mono (fun _ z => z) keep) ⟨[], rfl, rfl⟩⟩
  · intro q hq
    rcases List.mem_append.mp hq with z | z
    · exact h.ok q (List.mem_append_left _ z)
    · rw [List.mem_singleton.mp z]
      exact Pg.ok_app (h.ok p (by simp)) ⟨hl, trivial⟩
  · intro i q hq
    by_cases c : i < qs.length
    · rw [List.getElem?_append_left c] at hq
      exact h.dep i q (by rw [List.getElem?_append_left c]; exact hq)
    · rw [List.getElem?_append_right (by omega)] at hq
      have e0 : i - qs.length = 0 := by
        cases z : i - qs.length with
        | zero => rfl
        | succ k => rw [z] at hq; simp at hq
      rw [e0] at hq
      have e1 : p.app (.seq l .nil) = q := Option.some.inj hq
      have := h.dep i p (by rw [List.getElem?_append_right (by omega), e0]; rfl)
      rw [← e1, Pg.depth_app]
      simp only [Pg.depth]
      omega
theorem PSt.push {H0 H : Hp} {o n : Addr} {as : List Addr} {ps : List Pg} (h : PSt H0 H o as ps) (hn : H n = none) (hd : as.length ≤ 20) :
    PSt H0 (upd (upd H n (.lst [])) o (.lst ((as ++ [n]).map V.ref))) o (as ++ [n]) (ps ++ [.nil]) := by
  have h0n : H0 n = none := h.same.free hn
  have hno : n ≠ o := fun e => by rw [e, h.lo] at hn; cases hn
  have hna : ∀ a ∈ as, a ≠ n := fun a ha e => by
    obtain ⟨p, us, z, _⟩ := Paired.left h.rep ha
    rw [e, hn] at z; cases z
  have keep : ∀ b u, H b = some u → ¬ b ∈ o :: as → upd (upd H n (.lst [])) o (.lst ((as ++ [n]).map V.ref)) b = some u := fun b u e m => by
    rw [upd_ne (fun z => m (by simp [z])), upd_ne (ne_of_none e hn)]; exact e
  have conv : ∀ (q : Pg) (ws : List V), RepL (XS H0 (o :: as)) H ws q → RepL (XS H0 (o :: (as ++ [n]))) (upd (upd H n (.lst [])) o (.lst ((as ++ [n]).map V.ref))) ws q := fun q ws r =>
    (r.fresh (X' := XS H0 (o :: (as ++ [n]))) hn (fun a z => by
      rcases z with z | z
      · have : a ∈ o :: as ∨ a = n := by simpa [or_assoc] using z
        exact this.imp .inl id
      · exact .inl (.inr z))).mono (fun _ z => z) fun b u e m => keep b u e fun z => m (.inl (by
      rcases List.mem_cons.mp z with z | z
      · simp [z]
      · simp [z]))
  refine ⟨fun b u e => ?_, h.fo, ?_, upd_same, ?_, Paired.snoc (Paired.mapP_mem h.rep ?_) ⟨[], by rw [upd_ne hno, upd_same], rfl⟩, ?_, ?_⟩
  · rw [upd_ne (ne_of_none e h.fo), upd_ne (ne_of_none e h0n)]; exact h.same b u e
  · intro a ha
    rcases List.mem_append.mp ha with z | z
    · exact h.fas a z
    · rw [List.mem_singleton.mp z]; exact h0n
  · have := h.nd
    simp only [List.nodup_cons, List.nodup_append, List.mem_append, List.mem_singleton] at this ⊢
    refine ⟨fun z => z.elim this.1 (fun e => hno e.symm), this.2, by simp, ?_⟩
    intro a ha b hb
    rw [hb]
    exact hna a ha
  · rintro a q ha ⟨ws, e, r⟩
    have nao : a ≠ o := by
      have := h.nd
      simp only [List.nodup_cons] at this
      exact fun z => this.1 (z ▸ ha)
    exact ⟨ws, by rw [upd_ne nao, upd_ne (hna a ha)]; exact e, conv q ws r⟩
  · intro q hq
    rcases List.mem_append.mp hq with z | z
    · exact h.ok q z
    · rw [List.mem_singleton.mp z]; trivial
  · intro i q hq
    have hl := h.len
    by_cases c : i < ps.length
    · rw [List.getElem?_append_left c] at hq
      exact h.dep i q hq
    · rw [List.getElem?_append_right (by omega)] at hq
      cases z : i - ps.length with
      | zero =>
        rw [z] at hq
        have e1 : Pg.nil = q := Option.some.inj hq
        rw [← e1]
        show 0 + i ≤ 20
        omega
      | succ k => rw [z] at hq; simp at hq
theorem PSt.pop {H0 H : Hp} {o t u n : Addr} {as : List Addr} {ps : List Pg} {k : Nat} (h : PSt H0 H o (as ++ [u, t]) ps) (hk : k ≤ 10 ^ 30) (hn : H n = none) :
    ∃ qs p r us, ps = qs ++ [r, p] ∧ H u = some (.lst us) ∧
      PSt H0 (upd (upd (upd H o (.lst ((as ++ [u]).map V.ref))) n (.tup [.ref t, .int (k : Int)])) u (.lst (us ++ [.ref n]))) o (as ++ [u]) (qs ++ [r.app (.rep p k .nil)]) := by
  have e0 : as ++ [u, t] = (as ++ [u]) ++ [t] := by simp
  have h' : Paired (fun a p => ∃ us, H a = some (.lst us) ∧ RepL (XS H0 (o :: (as ++ [u, t]))) H us p) ((as ++ [u]) ++ [t]) ps := by rw [← e0]; exact h.rep
  obtain ⟨qs', p, e1, h1, ts, ht, rt⟩ := Paired.snoc_inv h'
  obtain ⟨qs, r, e2, h2, us, hu, ru⟩ := Paired.snoc_inv h1
  have ep : ps = qs ++ [r, p] := by rw [e1, e2]; simp
  have nd := h.nd
  simp only [List.nodup_cons, List.nodup_append, List.mem_append, List.mem_cons, List.not_mem_nil, or_false] at nd
  have hou : o ≠ u := fun e => nd.1 (.inr (.inl e))
  have hot : o ≠ t := fun e => nd.1 (.inr (.inr e))
  have hut : u ≠ t := nd.2.2.1.1
  have hno : n ≠ o := fun e => by rw [e, h.lo] at hn; cases hn
  have hnu : n ≠ u := fun e => by rw [e, hu] at hn; cases hn
  have hnt : n ≠ t := fun e => by rw [e, ht] at hn; cases hn
  have h0n : H0 n = none := h.same.free hn
  have keep : ∀ b v, H b = some v → ¬ XS H0 (o :: (as ++ [u, t])) b → upd (upd (upd H o (.lst ((as ++ [u]).map V.ref))) n (.tup [.ref t, .int (k : Int)])) u (.lst (us ++ [.ref n])) b = some v := fun b v e m => by
    rw [upd_ne (fun z => m (.inl (by simp [z]))), upd_ne (ne_of_none e hn), upd_ne (fun z => m (.inl (by simp [z])))]; exact e
  have conv : ∀ (q : Pg) (ws : List V), RepL (XS H0 (o :: (as ++ [u, t]))) H ws q → RepL (XS H0 (o :: (as ++ [u]))) (upd (upd (upd H o (.lst ((as ++ [u]).map V.ref))) n (.tup [.ref t, .int (k : Int)])) u (.lst (us ++ [.ref n]))) ws q := fun q ws z =>
    z.mono (fun a m => m.imp (fun m => by
      rcases List.mem_cons.mp m with m | m
      · simp [m]
      · rcases List.mem_append.mp m with m | m
        · simp [m]
        · simp [List.mem_singleton.mp m]) id) keep
  refine ⟨qs, p, r, us, ep, hu, ⟨fun b v e => ?_, h.fo, ?_, ?_, ?_, Paired.snoc (Paired.mapP_mem h2 ?_) ?_, ?_, ?_⟩⟩
  · have m1 := ne_of_none e (h.fas u (by simp))
    rw [upd_ne m1, upd_ne (ne_of_none e h0n), upd_ne (ne_of_none e h.fo)]; exact h.same b v e
  · intro a ha
    exact h.fas a (by
      rcases List.mem_append.mp ha with z | z
      · simp [z]
      · simp [List.mem_singleton.mp z])
  · rw [upd_ne hou, upd_ne hno.symm, upd_same]
  · simp only [List.nodup_cons, List.nodup_append, List.mem_append, List.mem_cons, List.not_mem_nil, or_false]
    refine ⟨fun z => z.elim (fun z => nd.1 (.inl z)) (fun z => hou z), nd.2.1, by simp, ?_⟩
    intro a ha b hb
    exact nd.2.2.2 a ha b (.inl hb)
  · rintro a q ha ⟨ws, e, z⟩
    have nao : a ≠ o := fun e => nd.1 (.inl (e ▸ ha))
    have nau : a ≠ u := nd.2.2.2 a ha u (.inl rfl)
    have nan : a ≠ n := fun c => by rw [c, hn] at e; cases e
    exact ⟨ws, by rw [upd_ne nau, upd_ne nan, upd_ne nao]; exact e, conv q ws z⟩
  · refine ⟨_, upd_same, RepL.app (conv r us ru) ⟨n, t, ts, [], rfl, ?_, ?_, ?_, ?_, conv p ts rt, rfl⟩⟩
    · rw [upd_ne hnu, upd_same]
    · intro m
      rcases m with m | m
      case inr => exact m h0n
      rcases List.mem_cons.mp m with m | m
      · exact hno m
      · rcases List.mem_append.mp m with m | m
        · obtain ⟨q, ws, z, _⟩ := Paired.left h2 m
          rw [hn] at z; cases z
        · exact hnu (List.mem_singleton.mp m)
    · intro m
      rcases m with m | m
      case inr => exact m (h.fas t (by simp))
      rcases List.mem_cons.mp m with m | m
      · exact hot m.symm
      · rcases List.mem_append.mp m with m | m
        · exact nd.2.2.2 t m t (.inr rfl) rfl
        · exact hut (List.mem_singleton.mp m).symm
    · rw [upd_ne hut.symm, upd_ne hnt.symm, upd_ne hot.symm]; exact ht
  · intro q hq
    rcases List.mem_append.mp hq with z | z
    · exact h.ok q (by rw [ep]; simp [z])
    · rw [List.mem_singleton.mp z]
      exact Pg.ok_app (h.ok r (by rw [ep]; simp)) ⟨h.ok p (by rw [ep]; simp), hk, trivial⟩
  · intro i q hq
    by_cases c : i < qs.length
    · rw [List.getElem?_append_left c] at hq
      exact h.dep i q (by rw [ep, List.getElem?_append_left c]; exact hq)
    · rw [List.getElem?_append_right (by omega)] at hq
      have e3 : i - qs.length = 0 := by
        cases z : i - qs.length with
        | zero => rfl
        | succ k => rw [z] at hq; simp at hq
      rw [e3] at hq
      have e4 : r.app (.rep p k .nil) = q := Option.some.inj hq
      have d1 := h.dep i r (by rw [ep, List.getElem?_append_right (by omega), e3]; rfl)
      have d2 := h.dep (i + 1) p (by rw [ep, List.getElem?_append_right (by omega), show i + 1 - qs.length = 1 by omega]; rfl)
      rw [← e4, Pg.depth_app]
      simp only [Pg.depth]
      omega
theorem RepL.len {X : Addr → Prop} {H : Hp} : ∀ {p : Pg} {vs : List V}, RepL X H vs p → vs.length ≤ p.size
  | .nil, _, e => by
    have e' : _ = [] := e
    rw [e']; exact Nat.zero_le _
  | .seq l q, _, ⟨ws, e, r⟩ => by
    have := r.len
    rw [e, List.length_cons]
    simp only [Pg.size]; omega
  | .rep b k q, _, ⟨t, a, us, ws, e, e1, n1, n2, e2, r1, r2⟩ => by
    have := r2.len
    rw [e, List.length_cons]
    simp only [Pg.size]; omega
theorem span_cut {x : Str} {k : Nat} {cs : List Nat} (h : k ≤ x.cps.toList.length) : cutS x (some (k : Int)) (some ((k + ((x.cps.toList.drop k).takeWhile fun c => decide (c ∈ cs)).length : Nat) : Int)) = S ((x.cps.toList.drop k).takeWhile fun c => decide (c ∈ cs)) := by
  obtain ⟨l, rfl⟩ := S_ex x
  rw [S_cps] at h ⊢
  have hl := (List.takeWhile_prefix (l := l.drop k) fun c => decide (c ∈ cs)).length_le
  rw [List.length_drop] at hl
  rw [cut_within (by omega) (by omega), S_inj, Nat.add_sub_cancel_left]
  exact tw_take _ _
def NoDig (l : List Nat) : Prop := ∀ c ∈ l.head?, isDig c = false
def dstep (s : Int × Int) (c : Nat) : Int × Int :=
  let d := if c = 40 then s.1 + 1 else if c = 41 then s.1 - 1 else s.1
  (d, if s.2 < d then d else s.2)
def DepIn (n : Nat) (tx : List Nat) : Prop := ∀ d m : Int, d ≤ m → ∃ m', tx.foldl dstep (d, m) = (d, m') ∧ m ≤ m' ∧ (m' ≤ m ∨ m' ≤ d + n)
theorem DepIn.flat {l : List Nat} (n : Nat) (h : ∀ c ∈ l, c ≠ 40 ∧ c ≠ 41) : DepIn n l := by
  induction l with
  | nil => exact fun d m h => ⟨m, rfl, by omega, by omega⟩
  | cons c l ih =>
    intro d m hd
    obtain ⟨h1, h2⟩ := h c List.mem_cons_self
    have e : dstep (d, m) c = (d, m) := by
      simp only [dstep, if_neg h1, if_neg h2]
      rw [if_neg (by omega)]
    rw [List.foldl_cons, e]
    exact ih (fun c hc => h c (List.mem_cons_of_mem _ hc)) d m hd
theorem DepIn.app {n : Nat} {a b : List Nat} (ha : DepIn n a) (hb : DepIn n b) : DepIn n (a ++ b) := by
  intro d m hd
  obtain ⟨m1, e1, l1, u1⟩ := ha d m hd
  obtain ⟨m2, e2, l2, u2⟩ := hb d m1 (by omega)
  exact ⟨m2, by rw [List.foldl_append, e1, e2], by omega, by omega⟩
theorem DepIn.rep {n : Nat} {a b : List Nat} (ha : DepIn n a) (hb : ∀ c ∈ b, c ≠ 40 ∧ c ≠ 41) : DepIn (n + 1) (40 :: (a ++ 41 :: b)) := by
  intro d m hd
  have e0 : dstep (d, m) 40 = (d + 1, if m < d + 1 then d + 1 else m) := rfl
  have e1 : ∀ z : Int, dstep (d + 1, z) 41 = (d, if z < d then d else z) := fun z => by
    have : (d + 1 - 1 : Int) = d := by omega
    simp only [dstep, if_neg (show ¬ ((41 : Nat) = 40) by decide), if_true, this]
  obtain ⟨m1, f1, l1, u1⟩ := ha (d + 1) (if m < d + 1 then d + 1 else m) (by split <;> omega)
  obtain ⟨m2, f2, l2, u2⟩ := DepIn.flat 0 hb d (if m1 < d then d else m1) (by split <;> omega)
  refine ⟨m2, by rw [List.foldl_cons, e0, List.foldl_append, f1, List.foldl_cons, e1, f2], ?_, ?_⟩
  · split at l1 <;> split at l2 <;> omega
  · split at l1 <;> split at u2 <;> split at u1 <;> omega
theorem DepIn.mono {m n : Nat} {a : List Nat} (h : DepIn m a) (hm : m ≤ n) : DepIn n a := fun d z hd => by
  obtain ⟨m', e, l, u⟩ := h d z hd
  exact ⟨m', e, l, by omega⟩
theorem stp_asc {c : Nat} (h : c ∈ stp) : c < 128 := by
  have e : stp.all (fun c => decide (c < 128)) = true := by decide +kernel
  exact of_decide_eq_true (List.all_eq_true.mp e c h)
theorem stp_flat {c : Nat} (h : c ∈ stp) : c ≠ 40 ∧ c ≠ 41 := by
  have e : stp.all (fun c => decide (c ≠ 40 ∧ c ≠ 41)) = true := by decide +kernel
  exact of_decide_eq_true (List.all_eq_true.mp e c h)
structure Spells (n : Nat) (tx fl : List Nat) : Prop where
  go : ∀ rest f fs, fs.length + n ≤ 20 → NoDig rest → goF (tx ++ rest) (f :: fs) = goF rest ((f ++ fl) :: fs)
  nd : ∀ rest, NoDig rest → NoDig (tx ++ rest)
  ok : ∀ c ∈ fl, c ∈ stp
  dep : DepIn n tx
  asc : ∀ c ∈ tx, c < 128
theorem NoDig.nil : NoDig [] := fun c h => by cases h
theorem Spells.nil {n : Nat} : Spells n [] [] := ⟨fun rest f fs _ _ => by simp, fun rest h => h, fun c h => (List.not_mem_nil h).elim, DepIn.flat n fun c h => (List.not_mem_nil h).elim, fun c h => (List.not_mem_nil h).elim⟩
theorem Spells.mono {m n : Nat} {tx fl : List Nat} (h : Spells m tx fl) (hm : m ≤ n) : Spells n tx fl := ⟨fun rest f fs hl hd => h.go rest f fs (by omega) hd, h.nd, h.ok, h.dep.mono hm, h.asc⟩
theorem Spells.app {n : Nat} {t1 f1 t2 f2 : List Nat} (h1 : Spells n t1 f1) (h2 : Spells n t2 f2) : Spells n (t1 ++ t2) (f1 ++ f2) :=
  ⟨fun rest f fs hl hd => by rw [List.append_assoc, h1.go _ _ _ hl (h2.nd _ hd), h2.go _ _ _ hl hd, List.append_assoc],
   fun rest hd => by rw [List.append_assoc]; exact h1.nd _ (h2.nd _ hd),
   fun c hc => (List.mem_append.mp hc).elim (h1.ok c) (h2.ok c), h1.dep.app h2.dep, fun c hc => (List.mem_append.mp hc).elim (h1.asc c) (h2.asc c)⟩
theorem stp_dig {c : Nat} (h : c ∈ stp) : isDig c = false := by
  have e : stp.all (fun c => !isDig c) = true := by decide +kernel
  have := List.all_eq_true.mp e c h
  simpa using this
theorem Spells.steps {n : Nat} {l : List Nat} (h : ∀ c ∈ l, c ∈ stp) : Spells n l l :=
  ⟨fun rest f fs _ _ => goF_steps fun c hc => decide_eq_true (h c hc),
   fun rest hd => by
    cases l with
    | nil => exact hd
    | cons a l => intro c hc; cases hc; exact stp_dig (h _ List.mem_cons_self), h, DepIn.flat n fun c hc => stp_flat (h c hc), fun c hc => stp_asc (h c hc)⟩
theorem numL_zero : ∀ {k : Nat}, (TL.numL k).head? = some 48 → TL.numL k = [48] := by
  intro k
  induction k using Nat.strongRecOn with
  | _ k ih =>
    intro h
    by_cases c : k < 10
    · rw [TL.numL_lt c] at h ⊢
      simp at h
      subst h
      rfl
    · rw [TL.numL_step (by omega)] at h
      have h2 : (TL.numL (k / 10)).head? = some 48 := by
        cases e : TL.numL (k / 10) with
        | nil => exact absurd e (TL.numL_ne _)
        | cons a l => rw [e] at h; simpa using h
      have h3 := ih (k / 10) (by omega) h2
      have h4 := TL.numL_val (k / 10)
      rw [h3] at h4
      have h5 : NumText.digitsVal [48] = 0 := by decide +kernel
      omega
theorem okCount_num {k : Nat} (h : k ≤ 10 ^ 30) : okCount (TL.numL k) = true := by
  have h1 : (TL.numL k).length ≤ 31 := TL.numL_len (by decide) (Nat.lt_of_le_of_lt h (by decide))
  have h2 : dval (TL.numL k) = k := TL.numL_val k
  have h3 : (decide ((TL.numL k).head? = some 48) && decide (TL.numL k ≠ [48])) = false := by
    by_cases c : (TL.numL k).head? = some 48
    · have : TL.numL k = [48] := numL_zero c
      simp [this]
    · simp [c]
  unfold okCount
  rw [h3, h2]
  simp [TL.numL_ne, h1, h]
theorem tw_num (k : Nat) {rest : List Nat} (h : NoDig rest) : (TL.numL k ++ rest).takeWhile isDig = TL.numL k ∧ (TL.numL k ++ rest).dropWhile isDig = rest := by
  have hd : ∀ c ∈ TL.numL k, isDig c = true := fun c hc => (isDig_iff c).mpr (TL.numL_digits k c hc)
  have hr : rest.takeWhile isDig = [] ∧ rest.dropWhile isDig = rest := by
    cases rest with
    | nil => exact ⟨rfl, rfl⟩
    | cons a l =>
      have := h a rfl
      simp [this]
  constructor
  · rw [List.takeWhile_append_of_pos hd, hr.1, List.append_nil]
  · rw [List.dropWhile_append_of_pos hd, hr.2]
theorem Spells.rep {n : Nat} {tx fl : List Nat} (h : Spells n tx fl) {k : Nat} (hk : k ≤ 10 ^ 30) : Spells (n + 1) (40 :: (tx ++ 41 :: TL.numL k)) (List.replicate k fl).flatten := by
  refine ⟨fun rest f fs hl hd => ?_, fun rest hd c hc => ?_, fun c hc => ?_, h.dep.rep fun c hc => ?_, fun c hc => ?_⟩
  · obtain ⟨e1, e2⟩ := tw_num k hd
    rw [List.cons_append, List.append_assoc, List.cons_append, goF_open, if_pos (by omega), h.go _ _ _ (by simp; omega) (fun c hc => by cases hc; decide +kernel), goF_close, e1, e2, if_pos (okCount_num hk), show dval (TL.numL k) = k from TL.numL_val k]
    simp
  · cases hc
    decide +kernel
  · obtain ⟨l, hl, hc⟩ := List.mem_flatten.mp hc
    rw [(List.mem_replicate.mp hl).2] at hc
    exact h.ok c hc
  · have := TL.numL_digits k c hc
    omega
  · rcases List.mem_cons.mp hc with z | z
    · omega
    · rcases List.mem_append.mp z with z | z
      · exact h.asc c z
      · rcases List.mem_cons.mp z with z | z
        · omega
        · have := TL.numL_digits k c z
          omega
theorem Spells.prog {n : Nat} {tx fl : List Nat} (h : Spells n tx fl) (hn : n ≤ 20) : progF tx = some fl := by
  have := h.go [] [] [] (by simpa using hn) NoDig.nil
  rw [List.append_nil] at this
  rw [progF, this, List.nil_append, goF.eq_def]
def progV (v : V) : Option (List Nat) := match v with
  | .str x => progF x.cps.toList
  | _ => none
def progPV (v : V) : Option Pg := match v with
  | .str x => progP x.cps.toList
  | _ => none
theorem progPV_S (l : List Nat) : progPV (.str (S l)) = progP l := by rw [progPV, S_cps]
theorem progV_S (l : List Nat) : progV (.str (S l)) = progF l := by rw [progV, S_cps]
theorem strOk_asc {l : List Nat} (h : ∀ c ∈ l, c < 128) : PyData.strOk (S l) = true := by
  show l.toArray.all _ = true
  rw [List.all_toArray, List.all_eq_true]
  exact fun c hc => decide_eq_true (by have := h c hc; omega)
theorem strOk_S {l : List Nat} (h : ∀ c ∈ l, c ∈ stp) : PyData.strOk (S l) = true := strOk_asc fun c hc => stp_asc (h c hc)
end Q
namespace PySem
namespace QX
open PySem.W PySem.Calls PyProof.Rows PySem.HandSPX
open Builtin Builtin.ObjectAttr
section
variable {prog : Program} {w : World} {A : Around} {E : Value → Shared → Prop} {R : Result → Shared → Prop} {hp : Heap} {g : Array GenState} {d : Drawn} {t : Nat} {os : OsState}
theorem osaG {K : W.Frag} {B : String} {bmB : List Value} {name : Str} {tk : Tok} {v : Value} {x C : Addr} {fv : Array Value} (SF : StoreFacts B bmB "object.__setattr__" "object")
    (X : K.In hp) (hx : hp.get? x = some { cls := .ref C, data := .fields fv }) (ho : excOver K C bmB = true) (hh : hasDictIn K C = true) (ht : takerIn K C name = some none)
    (hq : ∀ h' tk' dx, (∀ b o, b ≠ x → hp.get? b = some o → h'.get? b = some o) → hp.objs.size ≤ dx → dx ≠ x → h'.get? x = some { cls := .ref C, dict := some dx, data := .fields fv } →
      h'.Ns1 dx (fun y => if y = name then some v else none) → R (.ok (.ret .none)) ⟨h', g, d, tk', os⟩) :
    codeAny (model prog w) A (.call (.builtin "object.__setattr__") ⟨[.ref x, .str name tk, v], []⟩) R ⟨hp, g, d, t, os⟩ := by
  have hxs : x ≠ hp.objs.size := Nat.ne_of_lt (Heap.lt_size hx)
  have I0 : W.InstAt hp x { cls := .ref C, data := .fields fv } C none := ⟨hx, rfl, rfl, trivial⟩
  obtain ⟨cd, hc, hd⟩ := any_some (show (clsIn K C).any (·.hasDict) = true from hh)
  have Lc : W.Looks (model prog w) hp (classData C) cd := W.looks_clsIn X hc
  refine osa_openX SF X I0 ho ht fun b => ?_
  obtain ⟨nm, bs, mro, ns, qn, hd', sn, sb, ab, col, del⟩ := cd
  have hd2 : hd' = true := hd
  subst hd2
  unfold storeInOwnDict ownDictForStores
  repeat (first | with_reducible refine store_in_new ?_ ?_ | with_reducible refine wpAny_loadPart_at hx ?_ | with_reducible refine Lc.at ?_ | wp_step)
  · exact ⟨_, #[], _, (Heap.get?_update_ne _ _ _ _ hxs.symm).trans (Heap.get?_push_at rfl rfl), rfl, fun e he => absurd he (by simp), fun _ => rfl⟩
  · intro h' tk' hn' hs
    have hx1 : (hp.push { cls := .type "dict", data := .dict #[] }).get? x = some { cls := .ref C, data := .fields fv } := Heap.get?_push_of_some _ hx
    refine hq h' tk' hp.objs.size (fun c o hb hc => ?_) (Nat.le_refl _) hxs.symm ?_ hn'
    · exact (hs.2 c (Nat.ne_of_lt (Heap.lt_size hc))).trans ((Heap.get?_update_ne _ _ _ _ hb).trans (Heap.get?_push_of_some _ hc))
    · exact (hs.2 x hxs).trans (Heap.get?_update_self _ hx1 rfl)
end
structure XTxt (K : Frag) (C fI : Addr) (fld : Str) (bmB : List Value) (newId : String) : Prop where
  ini : excInitIn K C bmB newId = true
  ovr : excOver K C bmB = true
  tkr : takerIn K C fld = some none
  hd : hasDictIn K C = true
  sa : findIn K (.ref C) "__setattr__" = some (some (.builtin "object.__setattr__"))
  ga : findIn K (.ref C) "__getattribute__" = some (some (.builtin "BaseException.__getattribute__"))
  gg : findIn K (.ref C) "__getattr__" = some none
  no : findIn K (.ref C) fld = some none
  iC : findIn K (.ref C) "__init__" = some (some (.ref fI))
  tI : typeIn K (.ref fI) = some (.type "function")
  kC : keepIn K (.ref C) = true
  exC : subIn K (.ref C) (.type "BaseException") = some true
  tyC : typeIn K (.ref C) = some (.type "type")
  fnI : isFn K (.ref fI) = true
structure InitEnd (fld : Str) (h h' : Heap) (x C dx t1 : Addr) (v : Value) : Prop where
  keep : ∀ b o, b ≠ x → h.get? b = some o → h'.get? b = some o
  obj : h'.get? x = some { cls := .ref C, dict := some dx, data := .fields #[.ref t1, .none, .none, .none, .bool false, .none] }
  dbig : h.objs.size ≤ dx
  dne : dx ≠ x
  ns : h'.Ns1 dx (fun y => if y = fld then some v else none)
structure Made1 (fld : Str) (h h' : Heap) (e C d : Addr) (v : Value) : Prop where
  keep : ∀ b o, h.get? b = some o → h'.get? b = some o
  new : h.objs.size ≤ e
  obj : ∃ oe vs, h'.get? e = some oe ∧ oe.cls = .ref C ∧ oe.dict = some d ∧ oe.data = .fields vs ∧ vs[1]? = some .none
  dbig : h.objs.size ≤ d
  dne : d ≠ e
  ns : h'.Ns1 d (fun y => if y = fld then some v else none)
  ctx : ∀ oe vs, h'.get? e = some oe → oe.data = .fields vs → vs[2]? = some .none ∧ 4 < vs.size
theorem ldQ {M : Model} {s : Shared} {name : Str} {scope : Scope} {L a : Addr} {cd : Value} {m : Str → Option Value} {x : Str} {pos : Pos} {v : Value} {Q : Value → Shared → Prop} {A : Around} {E : Value → Shared → Prop} (hn : s.heap.Ns L m) (hv : m x = some v) (h : Q v s)
    (hk : scope.kind = .function := by rfl) (hl : (envOfC name scope L a cd).kindOf x = some .local := by rfl) (hd : (x == ("__debug__" : Str)) = false := by decide) :
    wpAny M A (eval (.Name x pos) (envOfC name scope L a cd)) Q E s := wpAny_Name (wpAny_loadName_local hk hl hn hv h) hd
def InitRuns (prog : Program) (w : World) (K : Frag) (C fI : Addr) (fld : Str) : Prop := ∀ (A : Around) (R : Result → Shared → Prop) (s : Shared) (x t0 : Addr) (v : Value), K.In s.heap → s.heap.NoLimit → s.heap.get? x = some (excO C t0) → K.lookup x = none → A.depth < recursionLimit →
  (∀ h' tk dx, InitEnd fld s.heap h' x C dx t0 v → R (.ok (.ret .none)) { s with heap := h', toks := tk }) → codeAny (model prog w) A (.call (.ref fI) ⟨[.ref x, v], []⟩) R s
section
variable {prog : Program} {w : World} {A : Around} {E : Value → Shared → Prop} {R : Result → Shared → Prop} {s : Shared} {K : Frag} {C fI : Addr} {fld : Str} {bmB : List Value} {newId initId B : String}
theorem made1 (FB : ExcBaseFacts B newId initId bmB) (T : XTxt K C fI fld bmB newId) (hI : InitRuns prog w K C fI fld) {v : Value} (X : K.In s.heap) (hlim : s.heap.NoLimit) (hroom : A.depth + 1 < recursionLimit)
    (hq : ∀ h' tk e d, Made1 fld s.heap h' e C d v → R (.ok (.ret (.ref e))) { s with heap := h', toks := tk }) :
    codeAny (model prog w) A (.call (.ref C) ⟨[v], []⟩) R s := by
  obtain ⟨nm, N, q, bs, bm, hdct, sn, sub, ab, col, dd, k0, k1, k2, k3, k5, hC, hT⟩ := excInit_of X T.ini
  obtain ⟨hp, g, dr, tk, os⟩ := s
  have k : ∀ b o, hp.get? b = some o → ((hp.push (kdv_tup [v])).push (excO C hp.objs.size)).get? b = some o := fun b o e => Heap.get?_push_of_some _ (Heap.get?_push_of_some _ e)
  have hget : ((hp.push (kdv_tup [v])).push (excO C hp.objs.size)).get? (hp.objs.size + 1) = some (excO C hp.objs.size) := by heap_get
  have hnx : K.lookup (hp.objs.size + 1) = none := by
    cases e : K.lookup (hp.objs.size + 1) with
    | none => rfl
    | some o =>
      have z : hp.get? (hp.objs.size + 1) = some o := X _ _ e
      exact absurd (Nat.lt_of_succ_lt (Heap.lt_size z)) (Nat.lt_irrefl _)
  have one : [v].length ≤ sizeLine := by rw [sizeLine_eq]; exact (by decide : 1 ≤ 16777216)
  refine call_own FB hT hC (looks_findIn X T.iC) (fun self => bind_fn X self T.tI) one ?_
  refine hI _ _ ⟨(hp.push (kdv_tup [v])).push (excO C hp.objs.size), g, dr, tk, os⟩ (hp.objs.size + 1) hp.objs.size v (X.keeps k) (hlim.keeps k) hget hnx ?_ fun h' tk' dx ⟨k', hx, dn, dne, hns⟩ => ?_
  · show A.depth + 1 < recursionLimit
    exact hroom
  · have old : ∀ b o, hp.get? b = some o → h'.get? b = some o := fun b o e => k' b o (Nat.ne_of_lt (Nat.lt_succ_of_lt (Heap.lt_size e))) (k b o e)
    have z : hp.objs.size + 1 + 1 ≤ dx := by
      first
        | (simpa only [Heap.size_push] using dn)
        | exact dn
        | (have q := dn; rw [Heap.size_push, Heap.size_push] at q; exact q)
    exact ⟨rfl, hq h' tk' (hp.objs.size + 1) dx ⟨old, Nat.le_succ _, ⟨_, _, hx, rfl, rfl, rfl, rfl⟩, Nat.le_trans (Nat.le_trans (Nat.le_succ _) (Nat.le_succ _)) z, dne, hns, fun oe vs e1 e2 => by
      rw [hx] at e1
      cases e1
      cases e2
      exact ⟨rfl, show 4 < 6 by decide⟩⟩⟩
end
end QX
end PySem
namespace Q
open PySem PySem.Spec PyProof.Rows L2
theorem relO_one {fld : Str} {v : V} {v' : Value} (r : RelV v v') (f : Str) : RelO (List.lookup f [(fld, v)]) (if f = fld then some v' else none) := by
  by_cases hw : f = fld
  · subst hw
    rw [if_pos rfl]
    have q : List.lookup f [(f, v)] = some v := by simp [List.lookup]
    rw [q]
    exact r
  · rw [if_neg hw]
    have qw : (f == fld) = false := by simpa using hw
    have q2 : List.lookup f [(fld, v)] = none := by simp [List.lookup, qw]
    rw [q2]
    trivial
section
variable {X : Cx} {C fI : Addr} {cn fld : Str} {bmB : List Value} {newId initId B : String}
def tMk1 (C : Addr) (fld : Str) (ta : TA) : St → Hp → XK → Prop := fun σ H Q => ta σ H fun vs H1 => ∃ v, vs = [v] ∧ ∀ d, H1 d = none → Q (.ref C) (some d) (upd H1 d (.xd [(fld, v)]))
theorem pmk_1 {a : Expr} {ta : TA} {p pos : Pos} {k : Nat} (FB : ExcBaseFacts B newId initId bmB) (T : PySem.QX.XTxt X.K C fI fld bmB newId) (hI : PySem.QX.InitRuns X.prog X.w X.K C fI fld) (gC : X.mg cn = some (.ref C)) (hr : Room k X.A) (hg : Gl X cn) (ha : PA X [a] ta)
    (hdb : (cn == ("__debug__" : Str)) = false := by decide) (he : starEach (a :: []) X.env = (false, eval a X.env) :: starEach [] X.env := by rfl) (hpl : (backTo pos (starEach [] X.env)).any (·.1) = false := by rfl) :
    PMk X (.Call (.Name cn p) [a] [] pos) (tMk1 C fld ta) := by
  intro pins s σ H Q I h
  refine wpAny_Call_Name_kw (ld_glob I hg gC ?_ hdb)
  refine PySem.W.callWith_K (h₀ := X.base) I.ok.mod.kin T.kC (thn (ha.run pos pins s σ H _ I h) fun us s1 hh => ?_) he hpl
  obtain ⟨vs, H1, I1, r1, v, ev, q1⟩ := hh
  subst ev
  refine ⟨I1.kIn, ?_⟩
  cases r1 with
  | cons rv rn =>
    rename_i v' us'
    cases rn
    show wpAny _ _ (call (.ref C) [v']) _ _ _
    have hlim := I1.nolimit
    obtain ⟨hp, g, dr, tk, os⟩ := s1
    refine wpAny_call (PySem.QX.made1 FB T hI I1.kIn hlim (by have := hr.dp; omega) fun h' tk' e d M => ?_)
    show MkP X pins σ Q (.ref e) ⟨h', g, dr, tk', os⟩
    obtain ⟨oe, fv, hoe, hc, hd, hdat, h1⟩ := M.obj
    have hns := M.ns
    obtain ⟨G', g1, g2⟩ := restrict h' fun b => decide (b ≠ e)
    have gk : ∀ b, b ≠ e → G'.get? b = h'.get? b := fun b hb => g1 b (decide_eq_true hb)
    have ge : G'.get? e = none := g2 e (by simp)
    have old : ∀ b o, hp.get? b = some o → G'.get? b = some o := fun b o q => (gk b (Nat.ne_of_lt (Nat.lt_of_lt_of_le (Heap.lt_size q) M.new))).trans (M.keep b o q)
    have ob : ObjOk X.prog X.w (upd H1 d (.xd [(fld, v)])) G' d (.xd [(fld, v)]) := ⟨_, hns.at (fun o q => (gk d M.dne).trans q), fun f => relO_one rv f⟩
    have J : Inv X pins σ (upd H1 d (.xd [(fld, v)])) ⟨G', g, dr, tk', os⟩ := I1.laid (t' := tk') old M.dbig ob
    refine ⟨e, oe, fv, ⟨G', g, dr, tk', os⟩, _, .ref C, some d, rfl, J, fun b o q => ?_, ge, hoe, ⟨hc, hd⟩, hdat, h1, ?_, rfl, I1.bare, raises_own T.exC T.tyC, q1 d (I1.hok.fresh M.dbig)⟩
    · by_cases hb : b = e
      · have q' : G'.get? b = some o := q
        rw [hb, ge] at q'; cases q'
      · exact (gk b hb).symm.trans q
    · rw [upd_ne (Ne.symm M.dne)]
      exact I1.hok.fresh M.new
def tBy1 (C : Addr) (fld : Str) (a : Addr) (cls : Value) (d : Option Addr) (te : TE) : TE := fun σ H Q => te σ H fun x H1 => x = .ref a ∧ cls = .ref C ∧ ∃ (dd : Addr) (v : V), d = some dd ∧ H1 dd = some (.xd [(fld, v)]) ∧ Q v H1
theorem pe_by1 {a : Addr} {oe : Obj} {cls : Value} {d : Option Addr} {pn : List (Addr × Obj)} {e : Expr} {te : TE} {pos : Pos} (T : PySem.QX.XTxt X.K C fI fld bmB newId) (hz : Zc cls d oe) (hf : ∃ vs, oe.data = .fields vs) (he : PE (X.suite a ((a, oe) :: pn)) e te)
    (hb : attributeBase e fld X.env (eval e X.env) = eval e X.env := by rfl) :
    PE (X.suite a ((a, oe) :: pn)) (.Attribute e fld pos) (tBy1 C fld a cls d te) := by
  refine ⟨fun pins s σ H Q I h => ?_⟩
  refine attr_of hb (thn (he.run pins s σ H _ I h) fun u s1 hh => ?_)
  obtain ⟨x, H1, I1, rx, ex, ec, dd, v, ed, ea, q⟩ := hh
  subst ex
  obtain rfl : u = Value.ref a := rx
  subst ec
  subst ed
  obtain ⟨ha, _⟩ := I1.pin (a, oe) (List.mem_append_left _ List.mem_cons_self)
  obtain ⟨vs, hd⟩ := hf
  have hx : ObjOk X.prog X.w H1 s1.heap dd (.xd [(fld, v)]) := I1.hok dd _ ea
  obtain ⟨mA, hns, hr⟩ := hx
  obtain ⟨od, ho, hl⟩ := lookIn_ns hns
  have l : List.lookup fld [(fld, v)] = some v := by simp [List.lookup]
  obtain ⟨u, hu, ru⟩ := RelO.some_of (v := v) (o := mA fld) (by rw [← l]; exact hr fld)
  have J : PySem.W.InstAt s1.heap a oe C (some od) := ⟨ha, hz.1, by unfold PySem.W.notCls; rw [hd] <;> rfl, by rw [hz.2]; exact ho⟩
  exact HandSPX.exc_get I1.kIn J T.ga T.gg T.exC (PySem.W.findObj_own T.hd T.no rfl (by rw [hl, hu])) (handed_of ru) ⟨v, H1, I1.tok _, ru, q⟩
end
def x1B (cn fld : Str) (bmB : List Value) (newId : String) (K : PySem.W.Frag) : Bool :=
  PySem.W.excInitIn K (He.ga K cn) bmB newId && (PySem.W.excOver K (He.ga K cn) bmB && (decide (PySem.W.takerIn K (He.ga K cn) fld = some none) && (PySem.W.hasDictIn K (He.ga K cn) && (He.eqO (PySem.W.findIn K (.ref (He.ga K cn)) "__setattr__") (some (some (.builtin "object.__setattr__"))) &&
  (He.eqO (PySem.W.findIn K (.ref (He.ga K cn)) "__getattribute__") (some (some (.builtin "BaseException.__getattribute__"))) && (He.eqO (PySem.W.findIn K (.ref (He.ga K cn)) "__getattr__") (some none) && (He.eqO (PySem.W.findIn K (.ref (He.ga K cn)) fld) (some none) &&
  (He.eqO (PySem.W.findIn K (.ref (He.ga K cn)) "__init__") (some (some (.ref (He.ma K (He.ga K cn) "__init__")))) && (decide (PySem.W.typeIn K (.ref (He.ma K (He.ga K cn) "__init__")) = some (.type "function")) && (PySem.W.keepIn K (.ref (He.ga K cn)) &&
  (decide (PySem.W.subIn K (.ref (He.ga K cn)) (.type "BaseException") = some true) && (decide (PySem.W.typeIn K (.ref (He.ga K cn)) = some (.type "type")) && PySem.W.isFn K (.ref (He.ma K (He.ga K cn) "__init__"))))))))))))))
theorem x1B_ok {K : PySem.W.Frag} {cn fld : Str} {bmB : List Value} {newId : String} (h : x1B cn fld bmB newId K = true) : PySem.QX.XTxt K (He.ga K cn) (He.ma K (He.ga K cn) "__init__") fld bmB newId := by
  obtain ⟨c1, h⟩ := He.ba h
  obtain ⟨c2, h⟩ := He.ba h
  obtain ⟨c3, h⟩ := He.ba h
  obtain ⟨c4, h⟩ := He.ba h
  obtain ⟨c5, h⟩ := He.ba h
  obtain ⟨c6, h⟩ := He.ba h
  obtain ⟨c7, h⟩ := He.ba h
  obtain ⟨c8, h⟩ := He.ba h
  obtain ⟨c9, h⟩ := He.ba h
  obtain ⟨c10, h⟩ := He.ba h
  obtain ⟨c11, h⟩ := He.ba h
  obtain ⟨c12, h⟩ := He.ba h
  obtain ⟨c13, c14⟩ := He.ba h
  exact ⟨c1, c2, of_decide_eq_true c3, c4, He.eqO_ok c5, He.eqO_ok c6, He.eqO_ok c7, He.eqO_ok c8, He.eqO_ok c9, of_decide_eq_true c10, c11, of_decide_eq_true c12, of_decide_eq_true c13, c14⟩
end Q
namespace PySem
namespace QX
open PySem.W PySem.Calls PyProof.Rows PySem.HandSPX
open Builtin Builtin.ObjectAttr
section
variable {prog : Program} {w : World} {A : Around} {E : Value → Shared → Prop} {R : Result → Shared → Prop} {hp : Heap} {g : Array GenState} {d : Drawn} {t : Nat} {os : OsState}
end
structure InitEnd2 (f1 f2 : Str) (h h' : Heap) (x C dx t1 : Addr) (v1 v2 : Value) : Prop where
  keep : ∀ b o, b ≠ x → h.get? b = some o → h'.get? b = some o
  obj : h'.get? x = some { cls := .ref C, dict := some dx, data := .fields #[.ref t1, .none, .none, .none, .bool false, .none] }
  dbig : h.objs.size ≤ dx
  dne : dx ≠ x
  ns : h'.Ns1 dx (fun y => if y = f2 then some v2 else if y = f1 then some v1 else none)
structure Made2 (f1 f2 : Str) (h h' : Heap) (e C d : Addr) (v1 v2 : Value) : Prop where
  keep : ∀ b o, h.get? b = some o → h'.get? b = some o
  new : h.objs.size ≤ e
  obj : ∃ oe vs, h'.get? e = some oe ∧ oe.cls = .ref C ∧ oe.dict = some d ∧ oe.data = .fields vs ∧ vs[1]? = some .none
  dbig : h.objs.size ≤ d
  dne : d ≠ e
  ns : h'.Ns1 d (fun y => if y = f2 then some v2 else if y = f1 then some v1 else none)
def InitRuns2 (prog : Program) (w : World) (K : Frag) (C fI : Addr) (f1 f2 : Str) : Prop := ∀ (A : Around) (R : Result → Shared → Prop) (s : Shared) (x t0 : Addr) (v1 v2 : Value), K.In s.heap → s.heap.NoLimit → s.heap.get? x = some (excO C t0) → K.lookup x = none → A.depth < recursionLimit →
  (∀ h' tk dx, InitEnd2 f1 f2 s.heap h' x C dx t0 v1 v2 → R (.ok (.ret .none)) { s with heap := h', toks := tk }) → codeAny (model prog w) A (.call (.ref fI) ⟨[.ref x, v1, v2], []⟩) R s
section
variable {prog : Program} {w : World} {A : Around} {E : Value → Shared → Prop} {R : Result → Shared → Prop} {s : Shared} {K : Frag} {C fI : Addr} {f1 f2 : Str} {bmB : List Value} {newId initId B : String}
end
end QX
end PySem
namespace Q
open PySem PySem.Spec PyProof.Rows L2
section
variable {X : Cx} {C fI : Addr} {cn f1 f2 fld : Str} {bmB : List Value} {newId initId B : String}
def tMk2 (C : Addr) (f1 f2 : Str) (ta : TA) : St → Hp → XK → Prop := fun σ H Q => ta σ H fun vs H1 => ∃ v1 v2, vs = [v1, v2] ∧ ∀ d, H1 d = none → Q (.ref C) (some d) (upd H1 d (.xd [(f1, v1), (f2, v2)]))
def tByN (C : Addr) (fld : Str) (a : Addr) (cls : Value) (d : Option Addr) (te : TE) : TE := fun σ H Q => te σ H fun x H1 => x = .ref a ∧ cls = .ref C ∧ ∃ (dd : Addr) (fs : List (Str × V)) (v : V), d = some dd ∧ H1 dd = some (.xd fs) ∧ fs.lookup fld = some v ∧ Q v H1
end
end Q
namespace Q
open PySem PySem.Spec PyProof.Rows L2
structure Five where
  p : Int
  t : Int
  l : Int
  h : Int
  f : Int
deriving DecidableEq
def Five.vs (F : Five) : List V := [.int F.p, .int F.t, .int F.l, .int F.h, .int F.f]
def mx (a b : Int) : Int := if a < b then b else a
def mn (a b : Int) : Int := if b < a then b else a
def Five.join (F G : Five) : Five := ⟨F.p + G.p, F.t + G.t, mn F.l (F.p - F.t + G.l), mx F.h (F.p - F.t + G.h), mx (mx F.f G.f) (F.h - (F.p - F.t) - G.l)⟩
def Five.none : Five := ⟨0, 0, 0, 0, 0⟩
structure Five.Good (F : Five) : Prop where
  l : F.l ≤ 0
  h : 0 ≤ F.h
  f : 0 ≤ F.f
  f1 : -F.l ≤ F.f
  f2 : F.h - (F.p - F.t) ≤ F.f
  lo : F.l ≤ F.p - F.t
  ho : F.p - F.t ≤ F.h
  p0 : 0 ≤ F.p
  t0 : 0 ≤ F.t
theorem Five.ext' {F G : Five} (h1 : F.p = G.p) (h2 : F.t = G.t) (h3 : F.l = G.l) (h4 : F.h = G.h) (h5 : F.f = G.f) : F = G := by
  cases F; cases G; simp_all
theorem mx_def (a b : Int) : (a ≤ mx a b ∧ b ≤ mx a b) ∧ (mx a b = a ∨ mx a b = b) := by unfold mx; split <;> omega
theorem mn_def (a b : Int) : (mn a b ≤ a ∧ mn a b ≤ b) ∧ (mn a b = a ∨ mn a b = b) := by unfold mn; split <;> omega
theorem Five.assoc (F G K : Five) : (F.join G).join K = F.join (G.join K) := by
  refine Five.ext' ?_ ?_ ?_ ?_ ?_
  · simp only [Five.join]; omega
  · simp only [Five.join]; omega
  · simp only [Five.join, mn]; (repeat' split) <;> omega
  · simp only [Five.join, mx]; (repeat' split) <;> omega
  · simp only [Five.join]
    have a1 := mx_def F.f G.f
    have a2 := mx_def (mx F.f G.f) (F.h - (F.p - F.t) - G.l)
    have a3 := mx_def (mx (mx F.f G.f) (F.h - (F.p - F.t) - G.l)) K.f
    have a4 := mx_def F.h (F.p - F.t + G.h)
    have b1 := mx_def G.f K.f
    have b2 := mx_def (mx G.f K.f) (G.h - (G.p - G.t) - K.l)
    have b3 := mx_def F.f (mx (mx G.f K.f) (G.h - (G.p - G.t) - K.l))
    have b4 := mn_def G.l (G.p - G.t + K.l)
    have c1 := mx_def (mx (mx (mx F.f G.f) (F.h - (F.p - F.t) - G.l)) K.f) (mx F.h (F.p - F.t + G.h) - (F.p + G.p - (F.t + G.t)) - K.l)
    have c2 := mx_def (mx F.f (mx (mx G.f K.f) (G.h - (G.p - G.t) - K.l))) (F.h - (F.p - F.t) - mn G.l (G.p - G.t + K.l))
    generalize mx (mx (mx (mx F.f G.f) (F.h - (F.p - F.t) - G.l)) K.f) (mx F.h (F.p - F.t + G.h) - (F.p + G.p - (F.t + G.t)) - K.l) = u at *
    generalize mx (mx F.f (mx (mx G.f K.f) (G.h - (G.p - G.t) - K.l))) (F.h - (F.p - F.t) - mn G.l (G.p - G.t + K.l)) = v at *
    omega
theorem Five.none_join {F : Five} (g : F.Good) : Five.none.join F = F := by
  obtain ⟨g1, g2, g3, g4, g5, g6, g7, _, _⟩ := g
  refine Five.ext' ?_ ?_ ?_ ?_ ?_ <;> simp only [Five.join, Five.none, mn, mx] <;> (repeat' split) <;> omega
theorem Five.join_none {F : Five} (g : F.Good) : F.join Five.none = F := by
  obtain ⟨g1, g2, g3, g4, g5, g6, g7, _, _⟩ := g
  refine Five.ext' ?_ ?_ ?_ ?_ ?_ <;> simp only [Five.join, Five.none, mn, mx] <;> (repeat' split) <;> omega
theorem Five.none_good : Five.none.Good := by constructor <;> decide
theorem Five.join_good {F G : Five} (a : F.Good) (b : G.Good) : (F.join G).Good := by
  obtain ⟨a1, a2, a3, a4, a5, a6, a7, a8, a9⟩ := a
  obtain ⟨b1, b2, b3, b4, b5, b6, b7, b8, b9⟩ := b
  constructor <;> simp only [Five.join] <;> (
    have x1 := mx_def F.f G.f
    have x2 := mx_def (mx F.f G.f) (F.h - (F.p - F.t) - G.l)
    have x3 := mx_def F.h (F.p - F.t + G.h)
    have x4 := mn_def F.l (F.p - F.t + G.l)
    omega)
def Five.pow (F : Five) : Nat → Five
  | 0 => Five.none
  | n + 1 => F.join (F.pow n)
theorem Five.pow_good {F : Five} (g : F.Good) : ∀ n, (F.pow n).Good
  | 0 => Five.none_good
  | n + 1 => Five.join_good g (Five.pow_good g n)
theorem Five.pow_add {F : Five} (g : F.Good) (m n : Nat) : F.pow (m + n) = (F.pow m).join (F.pow n) := by
  induction m with
  | zero => rw [Nat.zero_add, Five.pow, Five.none_join (Five.pow_good g n)]
  | succ m ih => rw [Nat.succ_add, Five.pow, ih, Five.pow, Five.assoc]
theorem Five.pow_two {F : Five} (g : F.Good) (n : Nat) : (F.join F).pow n = F.pow (2 * n) := by
  induction n with
  | zero => rfl
  | succ n ih =>
    rw [Five.pow, ih, Five.assoc, show 2 * (n + 1) = 2 * n + 1 + 1 by omega, Five.pow, Five.pow]
def stepF (c : Nat) : Five := if c = 45 then ⟨0, 1, -1, 0, 1⟩ else ⟨1, 0, 0, 1, 0⟩
theorem stepF_good (c : Nat) : (stepF c).Good := by
  unfold stepF; split <;> (constructor <;> decide)
def fiveF : List Nat → Five
  | [] => Five.none
  | c :: l => (stepF c).join (fiveF l)
theorem fiveF_good : ∀ l, (fiveF l).Good
  | [] => Five.none_good
  | c :: l => Five.join_good (stepF_good c) (fiveF_good l)
theorem fiveF_app (a b : List Nat) : fiveF (a ++ b) = (fiveF a).join (fiveF b) := by
  induction a with
  | nil => rw [List.nil_append, fiveF, Five.none_join (fiveF_good b)]
  | cons c a ih => rw [List.cons_append, fiveF, ih, fiveF, Five.assoc]
theorem fiveF_rep (l : List Nat) : ∀ n : Nat, fiveF (List.replicate n l).flatten = (fiveF l).pow n
  | 0 => rfl
  | n + 1 => by rw [List.replicate_succ, List.flatten_cons, fiveF_app, fiveF_rep l n, Five.pow]
theorem fiveF_one (c : Nat) : fiveF [c] = stepF c := by rw [fiveF, fiveF, Five.join_none (stepF_good c)]
def rangeF (F : Five) (c : Int) (strict : Bool) : Option (Int × Int) :=
  if strict = true then (if F.h - F.l ≤ c then some (-F.l, c - F.h) else none) else (if F.f ≤ c then some (-F.l, c) else none)
def isStrict (z : Str) : Bool := decide (z = "strict")
def modeZ (v : V) : Bool := match v with
  | .str z => isStrict z
  | _ => false
def runs (F : Five) (c : Int) (strict : Bool) (n : Int) : Bool := match rangeF F c strict with
  | none => false
  | some (x, y) => decide (x ≤ n) && decide (n ≤ y)
def endF (F : Five) (c n : Int) : Int := if c + (F.p - F.t) - F.h < n + (F.p - F.t) then c + (F.p - F.t) - F.h else n + (F.p - F.t)
def lostF (F : Five) (c n : Int) : Int := if 0 < n + F.h - c then n + F.h - c else 0
theorem runs_strict {F : Five} {c n : Int} : runs F c true n = true ↔ -F.l ≤ n ∧ n + F.h ≤ c := by
  unfold runs rangeF
  rw [if_pos rfl]
  split
  · rename_i h; split at h
    · cases h
    · simp; omega
  · rename_i x y h; split at h
    · cases h; simp; omega
    · cases h
theorem runs_lax {F : Five} {c n : Int} : runs F c false n = true ↔ F.f ≤ c ∧ -F.l ≤ n ∧ n ≤ c := by
  unfold runs rangeF
  rw [if_neg (by decide)]
  split
  · rename_i h; split at h
    · cases h
    · simp; omega
  · rename_i x y h; split at h
    · cases h; simp; omega
    · cases h
theorem end_in {F : Five} (g : F.Good) {c n : Int} {s : Bool} (hn : 0 ≤ n) (hc : n ≤ c) (h : runs F c s n = true) : 0 ≤ endF F c n ∧ endF F c n ≤ c := by
  obtain ⟨g1, g2, g3, g4, g5, g6, g7, _, _⟩ := g
  unfold endF
  cases s with
  | true => rw [runs_strict] at h; split <;> omega
  | false => rw [runs_lax] at h; split <;> omega
theorem runs_join {F G : Five} (a : F.Good) (b : G.Good) {c n : Int} {s : Bool} (hn : 0 ≤ n) (hc : n ≤ c) : runs (F.join G) c s n = true ↔ runs F c s n = true ∧ runs G c s (endF F c n) = true := by
  obtain ⟨a1, a2, a3, a4, a5, a6, a7, _, _⟩ := a
  obtain ⟨b1, b2, b3, b4, b5, b6, b7, _, _⟩ := b
  have x1 := mx_def F.f G.f
  have x2 := mx_def (mx F.f G.f) (F.h - (F.p - F.t) - G.l)
  have x3 := mx_def F.h (F.p - F.t + G.h)
  have x4 := mn_def F.l (F.p - F.t + G.l)
  cases s with
  | true => rw [runs_strict, runs_strict, runs_strict]; simp only [Five.join, endF]; split <;> omega
  | false => rw [runs_lax, runs_lax, runs_lax]; simp only [Five.join, endF]; split <;> omega
theorem end_join {F G : Five} (c n : Int) : endF (F.join G) c n = endF G c (endF F c n) := by
  simp only [Five.join, endF, mx]; (repeat' split) <;> omega
end Q
namespace PySem
open Sem (wp)
open AutoSeq1 (wpAny_loadPart')
set_option maxRecDepth 100000
section
variable {prog : Program} {w : World} {A : Around} {E : Value → Shared → Prop} {s : Shared}
end
section
variable {prog : Program} {w : World} {A : Around} {E : Value → Shared → Prop} {s : Shared}
end
end PySem
namespace L2
open PySem PySem.Spec PyProof.Rows
def IteT (K : PySem.W.Frag) (a : Addr) : It :=
  ⟨fun i H => ∃ (xs : List V) (x : V), SqT K H a xs ∧ xs[i]? = some x, fun i H v H' => ∃ T x, v = .ref T ∧ H T = none ∧ H' = upd H T (.tup [.int (i : Nat), x]) ∧ ∀ xs, SqT K H a xs → xs[i]? = some x, fun i H => ∃ xs : List V, SqT K H a xs ∧ xs.length ≤ i⟩
def iEnumT (K : PySem.W.Frag) (ta : TA) : TI := fun σ H R => ta σ H fun vs H1 => ∃ a xs, vs = [.ref a] ∧ SqT K H1 a xs ∧ R (IteT K a) H1
def propB (x f : Str) (K : PySem.W.Frag) : Bool :=
  He.eqO (PySem.W.findIn K (.ref (He.ga K x)) f) (some (some (.ref (He.ma K (He.ga K x) f)))) && (He.eqO (PySem.W.specialIn K (.ref (He.ma K (He.ga K x) f)) "__get__") (some (some (.builtin "property.__get__"))) &&
    (decide (PySem.W.takesIn K (.ref (He.ma K (He.ga K x) f)) = some true) && (match PySem.W.recIn K (He.ma K (He.ga K x) f) "property" with
      | some (.ref g :: _) => g == He5.wf K (He.ga K x) "property" f
      | _ => false)))
theorem propB_ok {K : PySem.W.Frag} {x f : Str} (h : propB x f K = true) : PropOf K (He.ga K x) f (He.ma K (He.ga K x) f) (He5.wf K (He.ga K x) "property" f) := by
  unfold propB at h
  simp only [Bool.and_eq_true] at h
  obtain ⟨h1, h2, h3, h4⟩ := h
  refine ⟨He.eqO_ok h1, He.eqO_ok h2, of_decide_eq_true h3, ?_⟩
  split at h4
  · rename_i g rest e
    exact ⟨rest, by rw [e, eq_of_beq h4]⟩
  · cases h4
def isiB (x : Str) (K : PySem.W.Frag) : Bool := ["NoneType", "bool", "int", "str", "tuple", "list", "dict"].all fun n => decide (PySem.W.kitOne K (.type n) (.ref (He.ga K x)) = some false)
def isiC (x y : Str) (b : Bool) (K : PySem.W.Frag) : Bool := decide (PySem.W.kitOne K (.ref (He.ga K x)) (.ref (He.ga K y)) = some b)
theorem isiC_ok {K : PySem.W.Frag} {x y : Str} {b : Bool} (h : isiC x y b K = true) : PySem.W.kitOne K (.ref (He.ga K x)) (.ref (He.ga K y)) = some b := of_decide_eq_true h
def dunB (x m : Str) (K : PySem.W.Frag) : Bool := He.eqO (PySem.W.findIn K (.ref (He.ga K x)) m) (some (some (.ref (He.ma K (He.ga K x) m)))) && PySem.W.isFn K (.ref (He.ma K (He.ga K x) m))
theorem dunB_ok {K : PySem.W.Frag} {x m : Str} (h : dunB x m K = true) : PySem.W.findIn K (.ref (He.ga K x)) m = some (some (.ref (He.ma K (He.ga K x) m))) ∧ PySem.W.isFn K (.ref (He.ma K (He.ga K x) m)) = true := by
  unfold dunB at h
  rw [Bool.and_eq_true] at h
  exact ⟨He.eqO_ok h.1, h.2⟩
def fnB (x m : Str) (K : PySem.W.Frag) : Bool := PySem.W.fnIn K (He.ma K (He.ga K x) m)
def neB (x : Str) (K : PySem.W.Frag) : Bool := He.eqO (PySem.W.findIn K (.ref (He.ga K x)) "__ne__") (some (some (.builtin "object.__ne__")))
def sfB (x : Str) (K : PySem.W.Frag) : Bool := PySem.W.selfFirst K (He.ga K x)
def siB (x : Str) (K : PySem.W.Frag) : Bool := decide (PySem.W.subIn K (.type "int") (.ref (He.ga K x)) = some false)
def creadB (x : Str) (K : PySem.W.Frag) : Bool := PySem.W.readsIn K (He.ga K x) (.type "type") && He.eqO (PySem.W.specialIn K (.ref (He.ga K x)) "__getattribute__") (some (some (.builtin "type.__getattribute__")))
def cmetB (x m : Str) (K : PySem.W.Frag) : Bool := He5.wrapB K (He.ga K x) "classmethod" "classmethod.__get__" m && PySem.W.fnIn K (He5.wf K (He.ga K x) "classmethod" m)
end L2
namespace L2
open PySem PySem.Spec PyProof.Rows
def iEnumQ (K : PySem.W.Frag) (ta : TA) : TI := fun σ H R => ta σ H fun vs H1 => (∃ a xs, vs = [.ref a] ∧ SqL K H1 a xs ∧ R (Ite K a) H1) ∨ ∃ a xs, vs = [.ref a] ∧ SqT K H1 a xs ∧ R (IteT K a) H1
structure InsTy (K : PySem.W.Frag) (C : Addr) : Prop where
  cl : Cls K C
  ha : PySem.W.findIn K (.ref C) "__class__" = some (some (.builtin "object.__class__"))
  hn : PySem.W.specialIn K (.builtin "object.__class__") "__get__" = some (some (.builtin "getset_descriptor.__get__"))
  htk : PySem.W.takesIn K (.builtin "object.__class__") = some true
  hm : PySem.W.mroIn K C (.type "object") = some true
def insTyB (x : Str) (K : PySem.W.Frag) : Bool := (He.Fa.cls x).ok K && (He.eqO (PySem.W.findIn K (.ref (He.ga K x)) "__class__") (some (some (.builtin "object.__class__"))) && (He.eqO (PySem.W.specialIn K (.builtin "object.__class__") "__get__") (some (some (.builtin "getset_descriptor.__get__"))) &&
  (decide (PySem.W.takesIn K (.builtin "object.__class__") = some true) && decide (PySem.W.mroIn K (He.ga K x) (.type "object") = some true))))
end L2
namespace L2
open PySem PySem.Spec PyProof.Rows
def excCB (x : Str) (K : PySem.W.Frag) : Bool := He.eqO (PySem.W.findIn K (.ref (He.ga K x)) "__getattribute__") (some (some (.builtin "BaseException.__getattribute__"))) && (He.eqO (PySem.W.findIn K (.ref (He.ga K x)) "__getattr__") (some none) &&
  (decide (PySem.W.subIn K (.ref (He.ga K x)) (.type "BaseException") = some true) && (PySem.W.hasDictIn K (He.ga K x) && (He.eqO (PySem.W.findIn K (.ref (He.ga K x)) "__class__") (some (some (.builtin "object.__class__"))) &&
  (He.eqO (PySem.W.specialIn K (.builtin "object.__class__") "__get__") (some (some (.builtin "getset_descriptor.__get__"))) && (decide (PySem.W.takesIn K (.builtin "object.__class__") = some true) && decide (PySem.W.mroIn K (He.ga K x) (.type "object") = some true)))))))
theorem excCB_ok {K : PySem.W.Frag} {x : Str} (h : excCB x K = true) : ExcC K (He.ga K x) := by
  unfold excCB at h
  simp only [Bool.and_eq_true] at h
  exact ⟨He.eqO_ok h.1, He.eqO_ok h.2.1, of_decide_eq_true h.2.2.1, h.2.2.2.1, He.eqO_ok h.2.2.2.2.1, He.eqO_ok h.2.2.2.2.2.1, of_decide_eq_true h.2.2.2.2.2.2.1, of_decide_eq_true h.2.2.2.2.2.2.2⟩
end L2
namespace L2
open PySem PySem.Spec PyProof.Rows
def sbB (x : Str) (K : PySem.W.Frag) : Bool := decide (PySem.W.subIn K (.type "bool") (.ref (He.ga K x)) = some false)
def nfB (x : Str) (K : PySem.W.Frag) : Bool := ["NoneType", "bool", "int", "str", "tuple", "list", "dict"].all fun n => decide (PySem.W.subIn K (.type n) (.ref (He.ga K x)) = some false)
end L2
namespace Q
open PySem
def isiT (x : Str) (T : String) (b : Bool) (K : PySem.W.Frag) : Bool := decide (PySem.W.kitOne K (.ref (He.ga K x)) (.type T) = some b)
end Q
namespace Q
open PySem PySem.Spec PyProof.Rows L2
def top (i : Nat) : Stmt := PySem.Challenge.pw_fullqueue_k56_errors_of_lines.main.body.getD i (.Pass ⟨0, 0, 0, 0⟩)
abbrev s_LimitExceeded_init : Stmt := inClass (top 6) 0
abbrev s_is_integer : Stmt := top 10
abbrev s_is_capacity : Stmt := top 11
abbrev s_check_capacity : Stmt := top 12
abbrev s_span_of : Stmt := top 19
abbrev s_is_count : Stmt := top 20
abbrev s_parse : Stmt := top 21
abbrev s_items_of : Stmt := top 22
abbrev s_last_of : Stmt := top 23
abbrev s_joined : Stmt := top 26
abbrev s_repeated : Stmt := top 27
abbrev s_five_of : Stmt := top 28
abbrev s_start_range : Stmt := top 30
abbrev s_Line_init : Stmt := inClass (top 33) 0
abbrev s_Line_contents : Stmt := inClass (top 33) 1
abbrev s_Line_gone : Stmt := inClass (top 33) 2
abbrev s_Line_first_end : Stmt := inClass (top 33) 3
abbrev s_Line_run : Stmt := inClass (top 33) 4
abbrev s_Line_len : Stmt := inClass (top 33) 5
abbrev s_Line_getitem : Stmt := inClass (top 33) 6
abbrev s_Line_iter : Stmt := inClass (top 33) 7
abbrev s_cut_from_end : Stmt := top 34
abbrev s_law_pool : Stmt := top 36
abbrev s_law_take : Stmt := top 37
abbrev s_law_error : Stmt := top 38
abbrev s_law_sizes_right : Stmt := top 39
abbrev s_law : Stmt := top 40
theorem sc_is_integer : FnScope ["value", "least"] ["value", "least"] (defScope s_is_integer) := ⟨rfl, rfl, rfl, by decide +kernel, rfl, by decide +kernel, by decide +kernel⟩
theorem sc_is_capacity : FnScope ["value"] ["value"] (defScope s_is_capacity) := ⟨rfl, rfl, rfl, by decide +kernel, rfl, by decide +kernel, by decide +kernel⟩
theorem sc_check_capacity : FnScope ["value"] ["value"] (defScope s_check_capacity) := ⟨rfl, rfl, rfl, by decide +kernel, rfl, by decide +kernel, by decide +kernel⟩
theorem sc_span_of : FnScope ["text", "start", "characters", "end"] ["text", "start", "characters"] (defScope s_span_of) := ⟨rfl, rfl, rfl, by decide +kernel, rfl, by decide +kernel, by decide +kernel⟩
theorem sc_is_count : FnScope ["digits"] ["digits"] (defScope s_is_count) := ⟨rfl, rfl, rfl, by decide +kernel, rfl, by decide +kernel, by decide +kernel⟩
theorem sc_parse : FnScope ["text", "open_lists", "at", "end", "items"] ["text"] (defScope s_parse) := ⟨rfl, rfl, rfl, by decide +kernel, rfl, by decide +kernel, by decide +kernel⟩
theorem sc_items_of : FnScope ["program", "items"] ["program"] (defScope s_items_of) := ⟨rfl, rfl, rfl, by decide +kernel, rfl, by decide +kernel, by decide +kernel⟩
theorem sc_last_of : FnScope ["items", "count", "found", "item", "left", "letters"] ["items", "count"] (defScope s_last_of) := ⟨rfl, rfl, rfl, by decide +kernel, rfl, by decide +kernel, by decide +kernel⟩
theorem sc_joined : FnScope ["first", "second", "offset", "low", "high", "fall"] ["first", "second"] (defScope s_joined) := ⟨rfl, rfl, rfl, by decide +kernel, rfl, by decide +kernel, by decide +kernel⟩
theorem sc_repeated : FnScope ["five", "count", "found", "factor", "left"] ["five", "count"] (defScope s_repeated) := ⟨rfl, rfl, rfl, by decide +kernel, rfl, by decide +kernel, by decide +kernel⟩
theorem sc_five_of : FnScope ["items", "found", "item", "step"] ["items"] (defScope s_five_of) := ⟨rfl, rfl, rfl, by decide +kernel, rfl, by decide +kernel, by decide +kernel⟩
theorem sc_start_range : FnScope ["five", "capacity", "mode", "puts", "takes", "low", "high", "fall"] ["five", "capacity", "mode"] (defScope s_start_range) := ⟨rfl, rfl, rfl, by decide +kernel, rfl, by decide +kernel, by decide +kernel⟩
theorem sc_Line_init : FnScope ["self", "capacities", "capacity"] ["self", "capacities"] (defScope s_Line_init) := ⟨rfl, rfl, rfl, by decide +kernel, rfl, by decide +kernel, by decide +kernel⟩
theorem sc_Line_contents : FnScope ["self"] ["self"] (defScope s_Line_contents) := ⟨rfl, rfl, rfl, by decide +kernel, rfl, by decide +kernel, by decide +kernel⟩
theorem sc_Line_gone : FnScope ["self"] ["self"] (defScope s_Line_gone) := ⟨rfl, rfl, rfl, by decide +kernel, rfl, by decide +kernel, by decide +kernel⟩
theorem sc_Line_first_end : FnScope ["self", "five", "puts", "takes", "low", "high", "fall", "length", "limits"] ["self", "five"] (defScope s_Line_first_end) := ⟨rfl, rfl, rfl, by decide +kernel, rfl, by decide +kernel, by decide +kernel⟩
theorem sc_Line_run : FnScope ["self", "program", "items", "five", "end", "text", "moving", "ends", "queue", "limit"] ["self", "program"] (defScope s_Line_run) := ⟨rfl, rfl, rfl, by decide +kernel, rfl, by decide +kernel, by decide +kernel⟩
theorem sc_Line_getitem : FnScope ["self", "at"] ["self", "at"] (defScope s_Line_getitem) := ⟨rfl, rfl, rfl, by decide +kernel, rfl, by decide +kernel, by decide +kernel⟩
theorem sc_cut_from_end : FnScope ["text", "lengths", "found", "end", "length"] ["text", "lengths"] (defScope s_cut_from_end) := ⟨rfl, rfl, rfl, by decide +kernel, rfl, by decide +kernel, by decide +kernel⟩
theorem sc_law_pool : FnScope ["_law_script", "_law_k", "_law_cell", "_law_seed"] ["_law_script", "_law_k"] (defScope s_law_pool) := ⟨rfl, rfl, rfl, by decide +kernel, rfl, by decide +kernel, by decide +kernel⟩
theorem sc_law_take : FnScope ["_law_pool_here", "_law_bound", "_law_digit"] ["_law_pool_here", "_law_bound"] (defScope s_law_take) := ⟨rfl, rfl, rfl, by decide +kernel, rfl, by decide +kernel, by decide +kernel⟩
theorem sc_law_error : FnScope ["_law_call", "e"] ["_law_call"] (defScope s_law_error) := ⟨rfl, rfl, rfl, by decide +kernel, rfl, by decide +kernel, by decide +kernel⟩
theorem sc_law_sizes_right : FnScope ["_law_bad", "_law_line"] ["_law_bad"] (defScope s_law_sizes_right) := ⟨rfl, rfl, rfl, by decide +kernel, rfl, by decide +kernel, by decide +kernel⟩
theorem sc_law : FnScope ["_law_script", "_law_k", "_law_pool_here", "_law_bad", "_law_many", "_law_line", "_law_kept", "_law_odd", "_law_at"] ["_law_script"] (defScope s_law) := ⟨rfl, rfl, rfl, by decide +kernel, rfl, by decide +kernel, by decide +kernel⟩
structure Txt (K : PySem.W.Frag) (mg : Str → Option Value) : Prop where
  b_ValueError : mg "ValueError" = none
  b_LookupError : mg "LookupError" = none
  b_OverflowError : mg "OverflowError" = none
  b_min : mg "min" = none
  b_max : mg "max" = none
  b_len : mg "len" = none
  b_tuple : mg "tuple" = none
  b_range : mg "range" = none
  b_isinstance : mg "isinstance" = none
  b_int : mg "int" = none
  b_str : mg "str" = none
  b_zip : mg "zip" = none
  b_TypeError : mg "TypeError" = none
  b_bool : mg "bool" = none
  b_abs : mg "abs" = none
  b_sum : mg "sum" = none
  c_LETTERS : ∃ u, mg "LETTERS" = some u ∧ RelV (.str "abcdefghijklmnopqrstuvwxyz") u
  c_MOST : ∃ u, mg "MOST" = some u ∧ RelV (.int 100) u
  c_TAKE : ∃ u, mg "TAKE" = some u ∧ RelV (.str "-") u
  c_STEPS : ∃ u, mg "STEPS" = some u ∧ RelV (.str "abcdefghijklmnopqrstuvwxyz-") u
  c_DIGITS : ∃ u, mg "DIGITS" = some u ∧ RelV (.str "0123456789") u
  c_MOST_COUNT : ∃ u, mg "MOST_COUNT" = some u ∧ RelV (.int 1000000000000000000000000000000) u
  c_MOST_DEPTH : ∃ u, mg "MOST_DEPTH" = some u ∧ RelV (.int 20) u
  g_NOTHING : mg "NOTHING" = some (.ref (He.ga K "NOTHING"))
  q_NOTHING : ∀ H, SqT K H (He.ga K "NOTHING") ([(.int 0), (.int 0), (.int 0), (.int 0), (.int 0)] : List V)
  c_MOST_BUFFERS : ∃ u, mg "MOST_BUFFERS" = some u ∧ RelV (.int 8) u
  g_QueueError : mg "QueueError" = some (.ref (He.ga K "QueueError"))
  x_QueueError : ExcF K (He.ga K "QueueError") [.type "ValueError", .type "Exception", .type "BaseException", .type "object"] "ValueError.__new__"
  g_InvalidInteger : mg "InvalidInteger" = some (.ref (He.ga K "InvalidInteger"))
  x_InvalidInteger : ExcF K (He.ga K "InvalidInteger") [.type "ValueError", .type "Exception", .type "BaseException", .type "object"] "ValueError.__new__"
  g_InvalidCapacity : mg "InvalidCapacity" = some (.ref (He.ga K "InvalidCapacity"))
  x_InvalidCapacity : ExcF K (He.ga K "InvalidCapacity") [.type "ValueError", .type "Exception", .type "BaseException", .type "object"] "ValueError.__new__"
  g_InvalidProgram : mg "InvalidProgram" = some (.ref (He.ga K "InvalidProgram"))
  x_InvalidProgram : ExcF K (He.ga K "InvalidProgram") [.type "ValueError", .type "Exception", .type "BaseException", .type "object"] "ValueError.__new__"
  g_EmptyQueue : mg "EmptyQueue" = some (.ref (He.ga K "EmptyQueue"))
  x_EmptyQueue : ExcF K (He.ga K "EmptyQueue") [.type "LookupError", .type "Exception", .type "BaseException", .type "object"] "LookupError.__new__"
  g_LimitExceeded : mg "LimitExceeded" = some (.ref (He.ga K "LimitExceeded"))
  x_LimitExceeded : PySem.QX.XTxt K (He.ga K "LimitExceeded") (He.ma K (He.ga K "LimitExceeded") "__init__") "size" [.type "OverflowError", .type "ArithmeticError", .type "Exception", .type "BaseException", .type "object"] "OverflowError.__new__"
  g_Line : mg "Line" = some (.ref (He.ga K "Line"))
  e_InvalidCapacity_InvalidCapacity : PySem.W.exmOne K (.ref (He.ga K "InvalidCapacity")) (.ref (He.ga K "InvalidCapacity")) = some true
  e_InvalidCapacity_InvalidProgram : PySem.W.exmOne K (.ref (He.ga K "InvalidCapacity")) (.ref (He.ga K "InvalidProgram")) = some false
  e_InvalidCapacity_InvalidInteger : PySem.W.exmOne K (.ref (He.ga K "InvalidCapacity")) (.ref (He.ga K "InvalidInteger")) = some false
  e_InvalidCapacity_LimitExceeded : PySem.W.exmOne K (.ref (He.ga K "InvalidCapacity")) (.ref (He.ga K "LimitExceeded")) = some false
  e_InvalidProgram_InvalidCapacity : PySem.W.exmOne K (.ref (He.ga K "InvalidProgram")) (.ref (He.ga K "InvalidCapacity")) = some false
  e_InvalidProgram_InvalidProgram : PySem.W.exmOne K (.ref (He.ga K "InvalidProgram")) (.ref (He.ga K "InvalidProgram")) = some true
  e_InvalidProgram_InvalidInteger : PySem.W.exmOne K (.ref (He.ga K "InvalidProgram")) (.ref (He.ga K "InvalidInteger")) = some false
  e_InvalidProgram_LimitExceeded : PySem.W.exmOne K (.ref (He.ga K "InvalidProgram")) (.ref (He.ga K "LimitExceeded")) = some false
  e_InvalidInteger_InvalidCapacity : PySem.W.exmOne K (.ref (He.ga K "InvalidInteger")) (.ref (He.ga K "InvalidCapacity")) = some false
  e_InvalidInteger_InvalidProgram : PySem.W.exmOne K (.ref (He.ga K "InvalidInteger")) (.ref (He.ga K "InvalidProgram")) = some false
  e_InvalidInteger_InvalidInteger : PySem.W.exmOne K (.ref (He.ga K "InvalidInteger")) (.ref (He.ga K "InvalidInteger")) = some true
  e_InvalidInteger_LimitExceeded : PySem.W.exmOne K (.ref (He.ga K "InvalidInteger")) (.ref (He.ga K "LimitExceeded")) = some false
  e_LimitExceeded_InvalidCapacity : PySem.W.exmOne K (.ref (He.ga K "LimitExceeded")) (.ref (He.ga K "InvalidCapacity")) = some false
  e_LimitExceeded_InvalidProgram : PySem.W.exmOne K (.ref (He.ga K "LimitExceeded")) (.ref (He.ga K "InvalidProgram")) = some false
  e_LimitExceeded_InvalidInteger : PySem.W.exmOne K (.ref (He.ga K "LimitExceeded")) (.ref (He.ga K "InvalidInteger")) = some false
  e_LimitExceeded_LimitExceeded : PySem.W.exmOne K (.ref (He.ga K "LimitExceeded")) (.ref (He.ga K "LimitExceeded")) = some true
  k_Line : Cls K (He.ga K "Line")
  n_Line_limits : NoAttr K (He.ga K "Line") "limits"
  n_Line_queues : NoAttr K (He.ga K "Line") "queues"
  n_Line_passed : NoAttr K (He.ga K "Line") "passed"
  tk_TAKE : ∃ t0 : Tok, mg "TAKE" = some (.str "-" t0) ∧ t0 ≠ 0 ∧ t0 < 600
  h_Line_first_end : Meth K (He.ga K "Line") "first_end" (He.ma K (He.ga K "Line") "first_end")
  m_Line : Mk K (He.ga K "Line") (He.ma K (He.ga K "Line") "__init__")
  h_Line_run : Meth K (He.ga K "Line") "run" (He.ma K (He.ga K "Line") "run")
  p_Line_contents : PropOf K (He.ga K "Line") "contents" (He.ma K (He.ga K "Line") "contents") (He5.wf K (He.ga K "Line") "property" "contents")
  p_Line_gone : PropOf K (He.ga K "Line") "gone" (He.ma K (He.ga K "Line") "gone") (He5.wf K (He.ga K "Line") "property" "gone")
  d_Line_getitem : PySem.W.findIn K (.ref (He.ga K "Line")) "__getitem__" = some (some (.ref (He.ma K (He.ga K "Line") "__getitem__"))) ∧ PySem.W.isFn K (.ref (He.ma K (He.ga K "Line") "__getitem__")) = true
  fi_Line_getitem : PySem.W.fnIn K (He.ma K (He.ga K "Line") "__getitem__") = true
  xc_LimitExceeded : ExcC K (He.ga K "LimitExceeded")
  ic_LimitExceeded_QueueError : PySem.W.kitOne K (.ref (He.ga K "LimitExceeded")) (.ref (He.ga K "QueueError")) = some false
  xc_InvalidInteger : ExcC K (He.ga K "InvalidInteger")
  ic_InvalidInteger_QueueError : PySem.W.kitOne K (.ref (He.ga K "InvalidInteger")) (.ref (He.ga K "QueueError")) = some true
  xc_InvalidProgram : ExcC K (He.ga K "InvalidProgram")
  ic_InvalidProgram_QueueError : PySem.W.kitOne K (.ref (He.ga K "InvalidProgram")) (.ref (He.ga K "QueueError")) = some true
  xc_InvalidCapacity : ExcC K (He.ga K "InvalidCapacity")
  ic_InvalidCapacity_QueueError : PySem.W.kitOne K (.ref (He.ga K "InvalidCapacity")) (.ref (He.ga K "QueueError")) = some true
  F_LimitExceeded_init : FunD K "__init__" "LimitExceeded.__init__" (defArgs s_LimitExceeded_init) (defBody s_LimitExceeded_init) (defScope s_LimitExceeded_init) [] [] (He.ma K (He.ga K "LimitExceeded") "__init__") (fdA K (He.ma K (He.ga K "LimitExceeded") "__init__"))
  g_is_integer : mg "is_integer" = some (.ref (He.ga K "is_integer"))
  F_is_integer : FunD K "is_integer" "is_integer" (defArgs s_is_integer) (defBody s_is_integer) (defScope s_is_integer) [(.int 0)] [] (He.ga K "is_integer") (fdA K (He.ga K "is_integer"))
  g_is_capacity : mg "is_capacity" = some (.ref (He.ga K "is_capacity"))
  F_is_capacity : FunD K "is_capacity" "is_capacity" (defArgs s_is_capacity) (defBody s_is_capacity) (defScope s_is_capacity) [] [] (He.ga K "is_capacity") (fdA K (He.ga K "is_capacity"))
  g_check_capacity : mg "check_capacity" = some (.ref (He.ga K "check_capacity"))
  F_check_capacity : FunD K "check_capacity" "check_capacity" (defArgs s_check_capacity) (defBody s_check_capacity) (defScope s_check_capacity) [] [] (He.ga K "check_capacity") (fdA K (He.ga K "check_capacity"))
  g_span_of : mg "span_of" = some (.ref (He.ga K "span_of"))
  F_span_of : FunD K "span_of" "span_of" (defArgs s_span_of) (defBody s_span_of) (defScope s_span_of) [] [] (He.ga K "span_of") (fdA K (He.ga K "span_of"))
  g_is_count : mg "is_count" = some (.ref (He.ga K "is_count"))
  F_is_count : FunD K "is_count" "is_count" (defArgs s_is_count) (defBody s_is_count) (defScope s_is_count) [] [] (He.ga K "is_count") (fdA K (He.ga K "is_count"))
  g_parse : mg "parse" = some (.ref (He.ga K "parse"))
  F_parse : FunD K "parse" "parse" (defArgs s_parse) (defBody s_parse) (defScope s_parse) [] [] (He.ga K "parse") (fdA K (He.ga K "parse"))
  g_items_of : mg "items_of" = some (.ref (He.ga K "items_of"))
  F_items_of : FunD K "items_of" "items_of" (defArgs s_items_of) (defBody s_items_of) (defScope s_items_of) [] [] (He.ga K "items_of") (fdA K (He.ga K "items_of"))
  g_last_of : mg "last_of" = some (.ref (He.ga K "last_of"))
  F_last_of : FunD K "last_of" "last_of" (defArgs s_last_of) (defBody s_last_of) (defScope s_last_of) [] [] (He.ga K "last_of") (fdA K (He.ga K "last_of"))
  g_joined : mg "joined" = some (.ref (He.ga K "joined"))
  F_joined : FunD K "joined" "joined" (defArgs s_joined) (defBody s_joined) (defScope s_joined) [] [] (He.ga K "joined") (fdA K (He.ga K "joined"))
  g_repeated : mg "repeated" = some (.ref (He.ga K "repeated"))
  F_repeated : FunD K "repeated" "repeated" (defArgs s_repeated) (defBody s_repeated) (defScope s_repeated) [] [] (He.ga K "repeated") (fdA K (He.ga K "repeated"))
  g_five_of : mg "five_of" = some (.ref (He.ga K "five_of"))
  F_five_of : FunD K "five_of" "five_of" (defArgs s_five_of) (defBody s_five_of) (defScope s_five_of) [] [] (He.ga K "five_of") (fdA K (He.ga K "five_of"))
  g_start_range : mg "start_range" = some (.ref (He.ga K "start_range"))
  F_start_range : FunD K "start_range" "start_range" (defArgs s_start_range) (defBody s_start_range) (defScope s_start_range) [] [] (He.ga K "start_range") (fdA K (He.ga K "start_range"))
  F_Line_init : FunD K "__init__" "Line.__init__" (defArgs s_Line_init) (defBody s_Line_init) (defScope s_Line_init) [] [] (He.ma K (He.ga K "Line") "__init__") (fdA K (He.ma K (He.ga K "Line") "__init__"))
  F_Line_contents : FunD K "contents" "Line.contents" (defArgs s_Line_contents) (defBody s_Line_contents) (defScope s_Line_contents) [] [] (He5.wf K (He.ga K "Line") "property" "contents") (fdA K (He5.wf K (He.ga K "Line") "property" "contents"))
  F_Line_gone : FunD K "gone" "Line.gone" (defArgs s_Line_gone) (defBody s_Line_gone) (defScope s_Line_gone) [] [] (He5.wf K (He.ga K "Line") "property" "gone") (fdA K (He5.wf K (He.ga K "Line") "property" "gone"))
  F_Line_first_end : FunD K "first_end" "Line.first_end" (defArgs s_Line_first_end) (defBody s_Line_first_end) (defScope s_Line_first_end) [] [] (He.ma K (He.ga K "Line") "first_end") (fdA K (He.ma K (He.ga K "Line") "first_end"))
  F_Line_run : FunD K "run" "Line.run" (defArgs s_Line_run) (defBody s_Line_run) (defScope s_Line_run) [] [] (He.ma K (He.ga K "Line") "run") (fdA K (He.ma K (He.ga K "Line") "run"))
  F_Line_getitem : FunD K "__getitem__" "Line.__getitem__" (defArgs s_Line_getitem) (defBody s_Line_getitem) (defScope s_Line_getitem) [] [] (He.ma K (He.ga K "Line") "__getitem__") (fdA K (He.ma K (He.ga K "Line") "__getitem__"))
  g_cut_from_end : mg "cut_from_end" = some (.ref (He.ga K "cut_from_end"))
  F_cut_from_end : FunD K "cut_from_end" "cut_from_end" (defArgs s_cut_from_end) (defBody s_cut_from_end) (defScope s_cut_from_end) [] [] (He.ga K "cut_from_end") (fdA K (He.ga K "cut_from_end"))
  g_law_pool : mg "_law_pool" = some (.ref (He.ga K "_law_pool"))
  F_law_pool : FunD K "_law_pool" "_law_pool" (defArgs s_law_pool) (defBody s_law_pool) (defScope s_law_pool) [] [] (He.ga K "_law_pool") (fdA K (He.ga K "_law_pool"))
  g_law_take : mg "_law_take" = some (.ref (He.ga K "_law_take"))
  F_law_take : FunD K "_law_take" "_law_take" (defArgs s_law_take) (defBody s_law_take) (defScope s_law_take) [] [] (He.ga K "_law_take") (fdA K (He.ga K "_law_take"))
  g_law_error : mg "_law_error" = some (.ref (He.ga K "_law_error"))
  F_law_error : FunD K "_law_error" "_law_error" (defArgs s_law_error) (defBody s_law_error) (defScope s_law_error) [] [] (He.ga K "_law_error") (fdA K (He.ga K "_law_error"))
  g_law_sizes_right : mg "_law_sizes_right" = some (.ref (He.ga K "_law_sizes_right"))
  F_law_sizes_right : FunD K "_law_sizes_right" "_law_sizes_right" (defArgs s_law_sizes_right) (defBody s_law_sizes_right) (defScope s_law_sizes_right) [] [] (He.ga K "_law_sizes_right") (fdA K (He.ga K "_law_sizes_right"))
  g_law : mg "law" = some (.ref (He.ga K "law"))
  F_law : FunD K "law" "law" (defArgs s_law) (defBody s_law) (defScope s_law) [] [] (He.ga K "law") (fdA K (He.ga K "law"))
def exs : List (PySem.W.Frag → Bool) := [(He.Fa.free "ValueError").ok,
  (He.Fa.free "LookupError").ok,
  (He.Fa.free "OverflowError").ok,
  (He.Fa.free "min").ok,
  (He.Fa.free "max").ok,
  (He.Fa.free "len").ok,
  (He.Fa.free "tuple").ok,
  (He.Fa.free "range").ok,
  (He.Fa.free "isinstance").ok,
  (He.Fa.free "int").ok,
  (He.Fa.free "str").ok,
  (He.Fa.free "zip").ok,
  (He.Fa.free "TypeError").ok,
  (He.Fa.free "bool").ok,
  (He.Fa.free "abs").ok,
  (He.Fa.free "sum").ok,
  (He.Fa.str "LETTERS" "abcdefghijklmnopqrstuvwxyz").ok,
  (He.Fa.int "MOST" 100).ok,
  (He.Fa.str "TAKE" "-").ok,
  (He.Fa.str "STEPS" "abcdefghijklmnopqrstuvwxyz-").ok,
  (He.Fa.str "DIGITS" "0123456789").ok,
  (He.Fa.int "MOST_COUNT" 1000000000000000000000000000000).ok,
  (He.Fa.int "MOST_DEPTH" 20).ok,
  (He.Fa.glo "NOTHING").ok,
  fun K => He.tupB K "NOTHING" [(.int 0), (.int 0), (.int 0), (.int 0), (.int 0)],
  (He.Fa.int "MOST_BUFFERS" 8).ok,
  (He.Fa.glo "QueueError").ok,
  excB "QueueError" [.type "ValueError", .type "Exception", .type "BaseException", .type "object"] "ValueError.__new__",
  (He.Fa.glo "InvalidInteger").ok,
  excB "InvalidInteger" [.type "ValueError", .type "Exception", .type "BaseException", .type "object"] "ValueError.__new__",
  (He.Fa.glo "InvalidCapacity").ok,
  excB "InvalidCapacity" [.type "ValueError", .type "Exception", .type "BaseException", .type "object"] "ValueError.__new__",
  (He.Fa.glo "InvalidProgram").ok,
  excB "InvalidProgram" [.type "ValueError", .type "Exception", .type "BaseException", .type "object"] "ValueError.__new__",
  (He.Fa.glo "EmptyQueue").ok,
  excB "EmptyQueue" [.type "LookupError", .type "Exception", .type "BaseException", .type "object"] "LookupError.__new__",
  (He.Fa.glo "LimitExceeded").ok,
  x1B "LimitExceeded" "size" [.type "OverflowError", .type "ArithmeticError", .type "Exception", .type "BaseException", .type "object"] "OverflowError.__new__",
  (He.Fa.glo "Line").ok,
  (He.Fa.exm "InvalidCapacity" "InvalidCapacity" true).ok,
  (He.Fa.exm "InvalidCapacity" "InvalidProgram" false).ok,
  (He.Fa.exm "InvalidCapacity" "InvalidInteger" false).ok,
  (He.Fa.exm "InvalidCapacity" "LimitExceeded" false).ok,
  (He.Fa.exm "InvalidProgram" "InvalidCapacity" false).ok,
  (He.Fa.exm "InvalidProgram" "InvalidProgram" true).ok,
  (He.Fa.exm "InvalidProgram" "InvalidInteger" false).ok,
  (He.Fa.exm "InvalidProgram" "LimitExceeded" false).ok,
  (He.Fa.exm "InvalidInteger" "InvalidCapacity" false).ok,
  (He.Fa.exm "InvalidInteger" "InvalidProgram" false).ok,
  (He.Fa.exm "InvalidInteger" "InvalidInteger" true).ok,
  (He.Fa.exm "InvalidInteger" "LimitExceeded" false).ok,
  (He.Fa.exm "LimitExceeded" "InvalidCapacity" false).ok,
  (He.Fa.exm "LimitExceeded" "InvalidProgram" false).ok,
  (He.Fa.exm "LimitExceeded" "InvalidInteger" false).ok,
  (He.Fa.exm "LimitExceeded" "LimitExceeded" true).ok,
  (He.Fa.cls "Line").ok,
  (He.Fa.noat "Line" "limits").ok,
  (He.Fa.noat "Line" "queues").ok,
  (He.Fa.noat "Line" "passed").ok,
  tokB "TAKE" "-" 600,
  (He.Fa.meth "Line" "first_end").ok,
  (He.Fa.mkr "Line").ok,
  (He.Fa.meth "Line" "run").ok,
  propB "Line" "contents",
  propB "Line" "gone",
  dunB "Line" "__getitem__",
  fnB "Line" "__getitem__",
  excCB "LimitExceeded",
  isiC "LimitExceeded" "QueueError" false,
  excCB "InvalidInteger",
  isiC "InvalidInteger" "QueueError" true,
  excCB "InvalidProgram",
  isiC "InvalidProgram" "QueueError" true,
  excCB "InvalidCapacity",
  isiC "InvalidCapacity" "QueueError" true,
  (He.Fa.glo "is_integer").ok,
  (He.Fa.glo "is_capacity").ok,
  (He.Fa.glo "check_capacity").ok,
  (He.Fa.glo "span_of").ok,
  (He.Fa.glo "is_count").ok,
  (He.Fa.glo "parse").ok,
  (He.Fa.glo "items_of").ok,
  (He.Fa.glo "last_of").ok,
  (He.Fa.glo "joined").ok,
  (He.Fa.glo "repeated").ok,
  (He.Fa.glo "five_of").ok,
  (He.Fa.glo "start_range").ok,
  (He.Fa.glo "cut_from_end").ok,
  (He.Fa.glo "_law_pool").ok,
  (He.Fa.glo "_law_take").ok,
  (He.Fa.glo "_law_error").ok,
  (He.Fa.glo "_law_sizes_right").ok,
  (He.Fa.glo "law").ok]
def fns : List He5.DefA := [{ at_ := fun K => He.ma K (He.ga K "LimitExceeded") "__init__", name := "__init__", qual := "LimitExceeded.__init__", params := defArgs s_LimitExceeded_init, body := defBody s_LimitExceeded_init, scope := defScope s_LimitExceeded_init, dfl := [], kwd := [] },
  { at_ := fun K => He.ga K "is_integer", name := "is_integer", qual := "is_integer", params := defArgs s_is_integer, body := defBody s_is_integer, scope := defScope s_is_integer, dfl := [(.int 0)], kwd := [] },
  { at_ := fun K => He.ga K "is_capacity", name := "is_capacity", qual := "is_capacity", params := defArgs s_is_capacity, body := defBody s_is_capacity, scope := defScope s_is_capacity, dfl := [], kwd := [] },
  { at_ := fun K => He.ga K "check_capacity", name := "check_capacity", qual := "check_capacity", params := defArgs s_check_capacity, body := defBody s_check_capacity, scope := defScope s_check_capacity, dfl := [], kwd := [] },
  { at_ := fun K => He.ga K "span_of", name := "span_of", qual := "span_of", params := defArgs s_span_of, body := defBody s_span_of, scope := defScope s_span_of, dfl := [], kwd := [] },
  { at_ := fun K => He.ga K "is_count", name := "is_count", qual := "is_count", params := defArgs s_is_count, body := defBody s_is_count, scope := defScope s_is_count, dfl := [], kwd := [] },
  { at_ := fun K => He.ga K "parse", name := "parse", qual := "parse", params := defArgs s_parse, body := defBody s_parse, scope := defScope s_parse, dfl := [], kwd := [] },
  { at_ := fun K => He.ga K "items_of", name := "items_of", qual := "items_of", params := defArgs s_items_of, body := defBody s_items_of, scope := defScope s_items_of, dfl := [], kwd := [] },
  { at_ := fun K => He.ga K "last_of", name := "last_of", qual := "last_of", params := defArgs s_last_of, body := defBody s_last_of, scope := defScope s_last_of, dfl := [], kwd := [] },
  { at_ := fun K => He.ga K "joined", name := "joined", qual := "joined", params := defArgs s_joined, body := defBody s_joined, scope := defScope s_joined, dfl := [], kwd := [] },
  { at_ := fun K => He.ga K "repeated", name := "repeated", qual := "repeated", params := defArgs s_repeated, body := defBody s_repeated, scope := defScope s_repeated, dfl := [], kwd := [] },
  { at_ := fun K => He.ga K "five_of", name := "five_of", qual := "five_of", params := defArgs s_five_of, body := defBody s_five_of, scope := defScope s_five_of, dfl := [], kwd := [] },
  { at_ := fun K => He.ga K "start_range", name := "start_range", qual := "start_range", params := defArgs s_start_range, body := defBody s_start_range, scope := defScope s_start_range, dfl := [], kwd := [] },
  { at_ := fun K => He.ma K (He.ga K "Line") "__init__", name := "__init__", qual := "Line.__init__", params := defArgs s_Line_init, body := defBody s_Line_init, scope := defScope s_Line_init, dfl := [], kwd := [] },
  { at_ := fun K => He5.wf K (He.ga K "Line") "property" "contents", name := "contents", qual := "Line.contents", params := defArgs s_Line_contents, body := defBody s_Line_contents, scope := defScope s_Line_contents, dfl := [], kwd := [] },
  { at_ := fun K => He5.wf K (He.ga K "Line") "property" "gone", name := "gone", qual := "Line.gone", params := defArgs s_Line_gone, body := defBody s_Line_gone, scope := defScope s_Line_gone, dfl := [], kwd := [] },
  { at_ := fun K => He.ma K (He.ga K "Line") "first_end", name := "first_end", qual := "Line.first_end", params := defArgs s_Line_first_end, body := defBody s_Line_first_end, scope := defScope s_Line_first_end, dfl := [], kwd := [] },
  { at_ := fun K => He.ma K (He.ga K "Line") "run", name := "run", qual := "Line.run", params := defArgs s_Line_run, body := defBody s_Line_run, scope := defScope s_Line_run, dfl := [], kwd := [] },
  { at_ := fun K => He.ma K (He.ga K "Line") "__getitem__", name := "__getitem__", qual := "Line.__getitem__", params := defArgs s_Line_getitem, body := defBody s_Line_getitem, scope := defScope s_Line_getitem, dfl := [], kwd := [] },
  { at_ := fun K => He.ga K "cut_from_end", name := "cut_from_end", qual := "cut_from_end", params := defArgs s_cut_from_end, body := defBody s_cut_from_end, scope := defScope s_cut_from_end, dfl := [], kwd := [] },
  { at_ := fun K => He.ga K "_law_pool", name := "_law_pool", qual := "_law_pool", params := defArgs s_law_pool, body := defBody s_law_pool, scope := defScope s_law_pool, dfl := [], kwd := [] },
  { at_ := fun K => He.ga K "_law_take", name := "_law_take", qual := "_law_take", params := defArgs s_law_take, body := defBody s_law_take, scope := defScope s_law_take, dfl := [], kwd := [] },
  { at_ := fun K => He.ga K "_law_error", name := "_law_error", qual := "_law_error", params := defArgs s_law_error, body := defBody s_law_error, scope := defScope s_law_error, dfl := [], kwd := [] },
  { at_ := fun K => He.ga K "_law_sizes_right", name := "_law_sizes_right", qual := "_law_sizes_right", params := defArgs s_law_sizes_right, body := defBody s_law_sizes_right, scope := defScope s_law_sizes_right, dfl := [], kwd := [] },
  { at_ := fun K => He.ga K "law", name := "law", qual := "law", params := defArgs s_law, body := defBody s_law, scope := defScope s_law, dfl := [], kwd := [] }]
theorem txt_of {K : PySem.W.Frag} {h : Heap} {mg : Str → Option Value} (X : K.In h) (G : h.Ns mainGlobals mg) (c : SaysM exs fns K) : Txt K mg :=
  ⟨He.free_ok X G (c.fact 0 rfl),
   He.free_ok X G (c.fact 1 rfl),
   He.free_ok X G (c.fact 2 rfl),
   He.free_ok X G (c.fact 3 rfl),
   He.free_ok X G (c.fact 4 rfl),
   He.free_ok X G (c.fact 5 rfl),
   He.free_ok X G (c.fact 6 rfl),
   He.free_ok X G (c.fact 7 rfl),
   He.free_ok X G (c.fact 8 rfl),
   He.free_ok X G (c.fact 9 rfl),
   He.free_ok X G (c.fact 10 rfl),
   He.free_ok X G (c.fact 11 rfl),
   He.free_ok X G (c.fact 12 rfl),
   He.free_ok X G (c.fact 13 rfl),
   He.free_ok X G (c.fact 14 rfl),
   He.free_ok X G (c.fact 15 rfl),
   (by obtain ⟨t, e⟩ := He.str_ok X G (c.fact 16 rfl); exact ⟨_, e, t, rfl⟩),
   (by obtain ⟨t, e⟩ := He.int_ok X G (c.fact 17 rfl); exact ⟨_, e, t, rfl⟩),
   (by obtain ⟨t, e⟩ := He.str_ok X G (c.fact 18 rfl); exact ⟨_, e, t, rfl⟩),
   (by obtain ⟨t, e⟩ := He.str_ok X G (c.fact 19 rfl); exact ⟨_, e, t, rfl⟩),
   (by obtain ⟨t, e⟩ := He.str_ok X G (c.fact 20 rfl); exact ⟨_, e, t, rfl⟩),
   (by obtain ⟨t, e⟩ := He.int_ok X G (c.fact 21 rfl); exact ⟨_, e, t, rfl⟩),
   (by obtain ⟨t, e⟩ := He.int_ok X G (c.fact 22 rfl); exact ⟨_, e, t, rfl⟩),
   He.glo_ok X G (c.fact 23 rfl),
   fun H => He.tupB_ok (c.fact 24 rfl) H,
   (by obtain ⟨t, e⟩ := He.int_ok X G (c.fact 25 rfl); exact ⟨_, e, t, rfl⟩),
   He.glo_ok X G (c.fact 26 rfl),
   excB_ok (c.fact 27 rfl),
   He.glo_ok X G (c.fact 28 rfl),
   excB_ok (c.fact 29 rfl),
   He.glo_ok X G (c.fact 30 rfl),
   excB_ok (c.fact 31 rfl),
   He.glo_ok X G (c.fact 32 rfl),
   excB_ok (c.fact 33 rfl),
   He.glo_ok X G (c.fact 34 rfl),
   excB_ok (c.fact 35 rfl),
   He.glo_ok X G (c.fact 36 rfl),
   x1B_ok (c.fact 37 rfl),
   He.glo_ok X G (c.fact 38 rfl),
   He.exm_ok (c.fact 39 rfl),
   He.exm_ok (c.fact 40 rfl),
   He.exm_ok (c.fact 41 rfl),
   He.exm_ok (c.fact 42 rfl),
   He.exm_ok (c.fact 43 rfl),
   He.exm_ok (c.fact 44 rfl),
   He.exm_ok (c.fact 45 rfl),
   He.exm_ok (c.fact 46 rfl),
   He.exm_ok (c.fact 47 rfl),
   He.exm_ok (c.fact 48 rfl),
   He.exm_ok (c.fact 49 rfl),
   He.exm_ok (c.fact 50 rfl),
   He.exm_ok (c.fact 51 rfl),
   He.exm_ok (c.fact 52 rfl),
   He.exm_ok (c.fact 53 rfl),
   He.exm_ok (c.fact 54 rfl),
   He.cls_ok (c.fact 55 rfl),
   He.noat_ok (c.fact 56 rfl),
   He.noat_ok (c.fact 57 rfl),
   He.noat_ok (c.fact 58 rfl),
   tokB_ok X G (c.fact 59 rfl),
   He.meth_ok (c.fact 60 rfl),
   He.mkr_ok (c.fact 61 rfl),
   He.meth_ok (c.fact 62 rfl),
   propB_ok (c.fact 63 rfl),
   propB_ok (c.fact 64 rfl),
   dunB_ok (c.fact 65 rfl),
   (c.fact 66 rfl),
   excCB_ok (c.fact 67 rfl),
   isiC_ok (c.fact 68 rfl),
   excCB_ok (c.fact 69 rfl),
   isiC_ok (c.fact 70 rfl),
   excCB_ok (c.fact 71 rfl),
   isiC_ok (c.fact 72 rfl),
   excCB_ok (c.fact 73 rfl),
   isiC_ok (c.fact 74 rfl),
   c.def_ 0 rfl,
   He.glo_ok X G (c.fact 75 rfl),
   c.def_ 1 rfl,
   He.glo_ok X G (c.fact 76 rfl),
   c.def_ 2 rfl,
   He.glo_ok X G (c.fact 77 rfl),
   c.def_ 3 rfl,
   He.glo_ok X G (c.fact 78 rfl),
   c.def_ 4 rfl,
   He.glo_ok X G (c.fact 79 rfl),
   c.def_ 5 rfl,
   He.glo_ok X G (c.fact 80 rfl),
   c.def_ 6 rfl,
   He.glo_ok X G (c.fact 81 rfl),
   c.def_ 7 rfl,
   He.glo_ok X G (c.fact 82 rfl),
   c.def_ 8 rfl,
   He.glo_ok X G (c.fact 83 rfl),
   c.def_ 9 rfl,
   He.glo_ok X G (c.fact 84 rfl),
   c.def_ 10 rfl,
   He.glo_ok X G (c.fact 85 rfl),
   c.def_ 11 rfl,
   He.glo_ok X G (c.fact 86 rfl),
   c.def_ 12 rfl,
   c.def_ 13 rfl,
   c.def_ 14 rfl,
   c.def_ 15 rfl,
   c.def_ 16 rfl,
   c.def_ 17 rfl,
   c.def_ 18 rfl,
   He.glo_ok X G (c.fact 87 rfl),
   c.def_ 19 rfl,
   He.glo_ok X G (c.fact 88 rfl),
   c.def_ 20 rfl,
   He.glo_ok X G (c.fact 89 rfl),
   c.def_ 21 rfl,
   He.glo_ok X G (c.fact 90 rfl),
   c.def_ 22 rfl,
   He.glo_ok X G (c.fact 91 rfl),
   c.def_ 23 rfl,
   He.glo_ok X G (c.fact 92 rfl),
   c.def_ 24 rfl⟩
variable {P : Program} {w : World} {K : PySem.W.Frag} {mg : Str → Option Value} {base : Heap}
theorem init_LimitExceeded (T : Txt K mg) : PySem.QX.InitRuns P w K (He.ga K "LimitExceeded") (He.ma K (He.ga K "LimitExceeded") "__init__") "size" := by
  intro A R s x t0 v X hlim hx hnx hroom hq
  obtain ⟨oc, od, dV, kV, doc, pm, an, cdv, ct, osl, e, ho, hcd, hD, _⟩ := T.F_LimitExceeded_init.ex
  rcases hD with ⟨_, rfl⟩ | ⟨z, _⟩
  · rw [e] at ho
    refine Att.call_fn (binds := [("self", .ref x), ("size", v)]) X hlim ho hcd hroom (BindsTo.of_eq (by first | rfl | with_unfolding_all rfl)) (by first | rfl | decide | with_unfolding_all rfl) (fun s1 IC => ?_) rfl rfl rfl
    obtain ⟨h1, tk1, rfl⟩ := IC.toInCall.same
    have k : ∀ b o, s.heap.get? b = some o → h1.get? b = some o := IC.toInCall.keep
    have hn := IC.toInCall.ns
    have X1 : K.In h1 := X.keeps k
    have hx1 := k _ _ hx
    show wpAny _ _ (execs _ _) _ _ _
    refine wpAny_execs_cons (plainObj_wpAny_Assign_Attribute ?_)
    refine PySem.QX.ldQ (v := v) hn (by first | rfl | with_unfolding_all rfl | kernel_rfl) (PySem.QX.ldQ (v := .ref x) hn (by first | rfl | with_unfolding_all rfl | kernel_rfl) ?_)
    refine PySem.W.set_plain X1 (ox := PySem.HandSPX.excO (He.ga K "LimitExceeded") t0) (od := none) ⟨hx1, rfl, rfl, trivial⟩ T.x_LimitExceeded.sa ?_
    refine PySem.QX.osaG PySem.F.store_OverflowError X1 hx1 T.x_LimitExceeded.ovr T.x_LimitExceeded.hd T.x_LimitExceeded.tkr (fun h3 tk3 dx k3 dn dne hx3 hn3 => ?_)
    show wpAny _ _ (execs _ _) _ _ _
    have z : s.heap.objs.size < h1.objs.size := hn.lt
    exact wpAny_execs_nil (hq h3 tk3 dx ⟨fun b o hb e => k3 b o hb (k b o e), hx3, Nat.le_of_lt (Nat.lt_of_lt_of_le z dn), dne, hn3⟩)
  · exact absurd rfl z
theorem bd_is_integer (T : Txt K mg) : ∃ ds, Vals ([] : List V) ds ∧ Binds K (fdA K (He.ga K "is_integer")) ["value", "least"] ds := T.F_is_integer.binds1 2 1 (by simp) rfl (fun _ _ _ _ _ _ _ us its hu hi => match us, its, hu, hi with | [_, _], [_], _, _ => ⟨_, rfl, rfl⟩)
theorem bd_is_integer_1 (T : Txt K mg) : ∃ ds, Vals ([(.int 0)] : List V) ds ∧ Binds K (fdA K (He.ga K "is_integer")) ["value", "least"] ds := T.F_is_integer.binds1 1 0 (by simp) rfl (fun _ _ _ _ _ _ _ us its hu hi => match us, its, hu, hi with | [_], [_], _, _ => ⟨_, rfl, rfl⟩)
theorem bd_is_capacity (T : Txt K mg) : ∃ ds, Vals [] ds ∧ Binds K (fdA K (He.ga K "is_capacity")) ["value"] ds := ⟨[], .nil, T.F_is_capacity.bindsN fun _ _ _ _ _ _ us hl => match us, hl with | [_], _ => rfl⟩
theorem bd_check_capacity (T : Txt K mg) : ∃ ds, Vals [] ds ∧ Binds K (fdA K (He.ga K "check_capacity")) ["value"] ds := ⟨[], .nil, T.F_check_capacity.bindsN fun _ _ _ _ _ _ us hl => match us, hl with | [_], _ => rfl⟩
theorem bd_span_of (T : Txt K mg) : ∃ ds, Vals [] ds ∧ Binds K (fdA K (He.ga K "span_of")) ["text", "start", "characters"] ds := ⟨[], .nil, T.F_span_of.bindsN fun _ _ _ _ _ _ us hl => match us, hl with | [_, _, _], _ => rfl⟩
theorem bd_is_count (T : Txt K mg) : ∃ ds, Vals [] ds ∧ Binds K (fdA K (He.ga K "is_count")) ["digits"] ds := ⟨[], .nil, T.F_is_count.bindsN fun _ _ _ _ _ _ us hl => match us, hl with | [_], _ => rfl⟩
theorem bd_parse (T : Txt K mg) : ∃ ds, Vals [] ds ∧ Binds K (fdA K (He.ga K "parse")) ["text"] ds := ⟨[], .nil, T.F_parse.bindsN fun _ _ _ _ _ _ us hl => match us, hl with | [_], _ => rfl⟩
theorem bd_items_of (T : Txt K mg) : ∃ ds, Vals [] ds ∧ Binds K (fdA K (He.ga K "items_of")) ["program"] ds := ⟨[], .nil, T.F_items_of.bindsN fun _ _ _ _ _ _ us hl => match us, hl with | [_], _ => rfl⟩
theorem bd_last_of (T : Txt K mg) : ∃ ds, Vals [] ds ∧ Binds K (fdA K (He.ga K "last_of")) ["items", "count"] ds := ⟨[], .nil, T.F_last_of.bindsN fun _ _ _ _ _ _ us hl => match us, hl with | [_, _], _ => rfl⟩
theorem bd_joined (T : Txt K mg) : ∃ ds, Vals [] ds ∧ Binds K (fdA K (He.ga K "joined")) ["first", "second"] ds := ⟨[], .nil, T.F_joined.bindsN fun _ _ _ _ _ _ us hl => match us, hl with | [_, _], _ => rfl⟩
theorem bd_repeated (T : Txt K mg) : ∃ ds, Vals [] ds ∧ Binds K (fdA K (He.ga K "repeated")) ["five", "count"] ds := ⟨[], .nil, T.F_repeated.bindsN fun _ _ _ _ _ _ us hl => match us, hl with | [_, _], _ => rfl⟩
theorem bd_five_of (T : Txt K mg) : ∃ ds, Vals [] ds ∧ Binds K (fdA K (He.ga K "five_of")) ["items"] ds := ⟨[], .nil, T.F_five_of.bindsN fun _ _ _ _ _ _ us hl => match us, hl with | [_], _ => rfl⟩
theorem bd_start_range (T : Txt K mg) : ∃ ds, Vals [] ds ∧ Binds K (fdA K (He.ga K "start_range")) ["five", "capacity", "mode"] ds := ⟨[], .nil, T.F_start_range.bindsN fun _ _ _ _ _ _ us hl => match us, hl with | [_, _, _], _ => rfl⟩
theorem bd_Line_contents (T : Txt K mg) : ∃ ds, Vals [] ds ∧ Binds K (fdA K (He5.wf K (He.ga K "Line") "property" "contents")) ["self"] ds := ⟨[], .nil, T.F_Line_contents.bindsN fun _ _ _ _ _ _ us hl => match us, hl with | [_], _ => rfl⟩
theorem bd_Line_gone (T : Txt K mg) : ∃ ds, Vals [] ds ∧ Binds K (fdA K (He5.wf K (He.ga K "Line") "property" "gone")) ["self"] ds := ⟨[], .nil, T.F_Line_gone.bindsN fun _ _ _ _ _ _ us hl => match us, hl with | [_], _ => rfl⟩
theorem bd_Line_first_end (T : Txt K mg) : ∃ ds, Vals [] ds ∧ Binds K (fdA K (He.ma K (He.ga K "Line") "first_end")) ["self", "five"] ds := ⟨[], .nil, T.F_Line_first_end.bindsN fun _ _ _ _ _ _ us hl => match us, hl with | [_, _], _ => rfl⟩
theorem bd_Line_run (T : Txt K mg) : ∃ ds, Vals [] ds ∧ Binds K (fdA K (He.ma K (He.ga K "Line") "run")) ["self", "program"] ds := ⟨[], .nil, T.F_Line_run.bindsN fun _ _ _ _ _ _ us hl => match us, hl with | [_, _], _ => rfl⟩
theorem bd_Line_getitem (T : Txt K mg) : ∃ ds, Vals [] ds ∧ Binds K (fdA K (He.ma K (He.ga K "Line") "__getitem__")) ["self", "at"] ds := ⟨[], .nil, T.F_Line_getitem.bindsN fun _ _ _ _ _ _ us hl => match us, hl with | [_, _], _ => rfl⟩
theorem bd_cut_from_end (T : Txt K mg) : ∃ ds, Vals [] ds ∧ Binds K (fdA K (He.ga K "cut_from_end")) ["text", "lengths"] ds := ⟨[], .nil, T.F_cut_from_end.bindsN fun _ _ _ _ _ _ us hl => match us, hl with | [_, _], _ => rfl⟩
theorem bd_law_pool (T : Txt K mg) : ∃ ds, Vals [] ds ∧ Binds K (fdA K (He.ga K "_law_pool")) ["_law_script", "_law_k"] ds := ⟨[], .nil, T.F_law_pool.bindsN fun _ _ _ _ _ _ us hl => match us, hl with | [_, _], _ => rfl⟩
theorem bd_law_take (T : Txt K mg) : ∃ ds, Vals [] ds ∧ Binds K (fdA K (He.ga K "_law_take")) ["_law_pool_here", "_law_bound"] ds := ⟨[], .nil, T.F_law_take.bindsN fun _ _ _ _ _ _ us hl => match us, hl with | [_, _], _ => rfl⟩
theorem bd_law_error (T : Txt K mg) : ∃ ds, Vals [] ds ∧ Binds K (fdA K (He.ga K "_law_error")) ["_law_call"] ds := ⟨[], .nil, T.F_law_error.bindsN fun _ _ _ _ _ _ us hl => match us, hl with | [_], _ => rfl⟩
theorem bd_law_sizes_right (T : Txt K mg) : ∃ ds, Vals [] ds ∧ Binds K (fdA K (He.ga K "_law_sizes_right")) ["_law_bad"] ds := ⟨[], .nil, T.F_law_sizes_right.bindsN fun _ _ _ _ _ _ us hl => match us, hl with | [_], _ => rfl⟩
end Q
namespace Q
open PySem PySem.W PySem.Calls PyProof.Rows
abbrev R : OpenRow := OpenLaw.row PySem.Challenge.rw_fullqueue_k56_errors_of_lines
def loose : List PySem.Str := (["DIGITS", "EmptyQueue", "InvalidCapacity", "InvalidInteger", "InvalidProgram", "LETTERS", "LimitExceeded", "Line", "MOST", "MOST_BUFFERS", "MOST_COUNT", "MOST_DEPTH", "NOTHING", "QueueError", "STEPS", "TAKE", "_law_error", "_law_pool", "_law_sizes_right", "_law_take", "check_capacity", "cut_from_end", "five_of", "is_capacity", "is_count", "is_integer", "items_of", "joined", "last_of", "parse"] : List PySem.Str) ++ (["repeated", "span_of", "start_range"] : List PySem.Str)
abbrev LXS : List PySem.Str := ["_law_sizes_right", "law"]
abbrev hk : Hook := hookL 5 exs fns LXS 600
def ob (s : SharedT) : (He.AlD × Bool) × Bool := (obsL 5 exs fns LXS (HandSHeadRun.getT s), Nat.ble 600 s.toks)
theorem ob_eq (s : SharedT) : ob s = hk.obs s.abs := obsL_eq s
theorem run (w : World) : HandSHeadRun.RunEq R (view R.prog [40]) hk ob 20000 loose w := by
  intro os
  kernel_rfl
end Q
namespace U
inductive D where
  | non | bl (b : Bool) | int (i : Int) | str (s : List Nat) | tup (l : List D) | lst (l : List D) | ins (c : String) (ns : List String) (ds : List D) | own (t : Nat) (d : D) | exn (c : String) (ns : List String) (ds : List D) | scr (ns : List Int) | dic (ks : List Int)
abbrev Env := List (Option D)
structure Ex where
  cls : String
  ns : List String
  ds : List D
inductive ER where
  | ok (d : D) (ρ : Env) | exc (x : Ex) (ρ : Env) | bad
inductive AR where
  | ok (ds : List D) (ρ : Env) | exc (x : Ex) (ρ : Env) | bad
inductive Fl where
  | nx (ρ : Env) | rt (d : D) (ρ : Env) | bk (ρ : Env) | ct (ρ : Env) | ex (x : Ex) (ρ : Env) | bad
abbrev E := Env → ER
abbrev As := Env → AR
abbrev St := Env → Fl
abbrev Fn := List D → ER
def D.isMut : D → Bool
  | .own _ _ => true
  | .exn _ _ _ => true
  | _ => false
def ER.bind (r : ER) (k : D → Env → ER) : ER := match r with
  | .ok d ρ => k d ρ
  | .exc x ρ => .exc x ρ
  | .bad => .bad
def ER.binds (r : ER) (k : D → Env → Fl) : Fl := match r with
  | .ok d ρ => k d ρ
  | .exc x ρ => .ex x ρ
  | .bad => .bad
def AR.bind (r : AR) (k : List D → Env → ER) : ER := match r with
  | .ok d ρ => k d ρ
  | .exc x ρ => .exc x ρ
  | .bad => .bad
def ER.bindA (r : ER) (k : D → Env → AR) : AR := match r with
  | .ok d ρ => k d ρ
  | .exc x ρ => .exc x ρ
  | .bad => .bad
def AR.bindA (r : AR) (k : List D → Env → AR) : AR := match r with
  | .ok d ρ => k d ρ
  | .exc x ρ => .exc x ρ
  | .bad => .bad
def lift (o : Option D) (ρ : Env) : ER := match o with
  | some d => .ok d ρ
  | none => .bad
def rd (o : Option (Option D)) : Option D := match o with
  | some (some (.own _ _)) => none
  | some (some (.exn _ _ _)) => none
  | some (some d) => some d
  | _ => none
def eC (d : D) : E := fun ρ => .ok d ρ
def eVar (i : Nat) : E := fun ρ => lift (rd ρ[i]?) ρ
def eOp (o : D → D → Option D) (a b : E) : E := fun ρ => (a ρ).bind fun x ρ1 => (b ρ1).bind fun y ρ2 => lift (o x y) ρ2
def eUn (o : D → Option D) (a : E) : E := fun ρ => (a ρ).bind fun x ρ1 => lift (o x) ρ1
def aNil : As := fun ρ => .ok [] ρ
def aCons (a : E) (r : As) : As := fun ρ => (a ρ).bindA fun x ρ1 => (r ρ1).bindA fun xs ρ2 => .ok (x :: xs) ρ2
def eN (o : List D → Option D) (a : As) : E := fun ρ => (a ρ).bind fun xs ρ1 => lift (o xs) ρ1
def eAnd (a b : E) : E := fun ρ => (a ρ).bind fun x ρ1 => match x with
  | .bl true => b ρ1
  | .bl false => .ok (.bl false) ρ1
  | _ => .bad
def eOr (a b : E) : E := fun ρ => (a ρ).bind fun x ρ1 => match x with
  | .bl false => b ρ1
  | .bl true => .ok (.bl true) ρ1
  | _ => .bad
def eIf (c a b : E) : E := fun ρ => (c ρ).bind fun x ρ1 => match x with
  | .bl true => a ρ1
  | .bl false => b ρ1
  | _ => .bad
def eChain (o o' : D → D → Option D) (a b c : E) : E := fun ρ => (a ρ).bind fun x ρ1 => (b ρ1).bind fun y ρ2 => match o x y with
  | some (.bl true) => (c ρ2).bind fun z ρ3 => lift (o' y z) ρ3
  | some (.bl false) => .ok (.bl false) ρ2
  | _ => .bad
def allPlain : List D → Bool
  | [] => true
  | d :: r => !d.isMut && allPlain r
def frzD : D → Option D
  | .own 0 (.lst l) => if allPlain l then some (.lst l) else none
  | .own 0 (.ins c ns l) => if allPlain l then some (.ins c ns l) else none
  | .own _ _ => none
  | .exn _ _ _ => none
  | d => some d
def eFrz (a : E) : E := fun ρ => (a ρ).bind fun x ρ1 => lift (frzD x) ρ1
def eGive (i : Nat) : E := fun ρ => match ρ[i]? with
  | some (some d) => (match frzD d with
    | some d' => .ok d' (ρ.set i (some d'))
    | none => .bad)
  | _ => .bad
inductive Ag where
  | v (a : E) | b (i : Nat)
inductive Arg where
  | v (d : D) | b (i : Nat)
inductive GR where
  | ok (l : List Arg) (ρ : Env) | exc (x : Ex) (ρ : Env) | bad
def evAg : List Ag → Env → GR
  | [], ρ => .ok [] ρ
  | .v a :: r, ρ => (match a ρ with
    | .ok d ρ1 => (match evAg r ρ1 with
      | .ok l ρ2 => .ok (.v d :: l) ρ2
      | .exc x ρ2 => .exc x ρ2
      | .bad => .bad)
    | .exc x ρ1 => .exc x ρ1
    | .bad => .bad)
  | .b i :: r, ρ => (match ρ[i]? with
    | some (some (.own _ _)) => (match evAg r ρ with
      | .ok l ρ2 => .ok (.b i :: l) ρ2
      | .exc x ρ2 => .exc x ρ2
      | .bad => .bad)
    | _ => .bad)
def hand (ρ : Env) : Nat → List Arg → Option (List D)
  | _, [] => some []
  | j, .v d :: r => (hand ρ (j + 1) r).map (d :: ·)
  | j, .b i :: r => match ρ[i]? with
    | some (some (.own _ d)) => (hand ρ (j + 1) r).map (.own (j + 1) d :: ·)
    | _ => none
def back : Nat → List Arg → Env → Env → Option Env
  | _, [], _, ρ => some ρ
  | j, .v _ :: r, o, ρ => back (j + 1) r o.tail ρ
  | j, .b i :: r, o, ρ => match o.head?, ρ[i]? with
    | some (some (.own (t' + 1) d)), some (some (.own t _)) => if t' = j then back (j + 1) r o.tail (ρ.set i (some (.own t d))) else none
    | _, _ => none
def lent : List Arg → List Nat
  | [] => []
  | .v _ :: r => lent r
  | .b i :: r => i :: lent r
def eCall (f : Fn) (g : List Ag) (dd : List D) : E := fun ρ => match evAg g ρ with
  | .ok l ρ1 => (match hand ρ1 0 l with
    | some ds => if (lent l).Nodup then (match f (ds ++ dd) with
      | .ok d o => (match back 0 l o ρ1 with
        | some ρ2 => .ok d ρ2
        | none => .bad)
      | .exc x o => (match back 0 l o ρ1 with
        | some ρ2 => .exc x ρ2
        | none => .bad)
      | .bad => .bad) else .bad
    | none => .bad)
  | .exc x ρ1 => .exc x ρ1
  | .bad => .bad
def sNil : St := fun ρ => .nx ρ
def Fl.bind (r : Fl) (k : Env → Fl) : Fl := match r with
  | .nx ρ => k ρ
  | r => r
def sSeq (a b : St) : St := fun ρ => (a ρ).bind b
def sRet (a : E) : St := fun ρ => (a ρ).binds fun d ρ1 => .rt d ρ1
def sRetN : St := fun ρ => .rt .non ρ
def sDrop (a : E) : St := fun ρ => (a ρ).binds fun _ ρ1 => .nx ρ1
def sIf (c : E) (a b : St) : St := fun ρ => (c ρ).binds fun x ρ1 => match x with
  | .bl true => a ρ1
  | .bl false => b ρ1
  | _ => .bad
def put (i : Nat) (d : D) (ρ : Env) : Option Env := match ρ[i]? with
  | some (some (.own (_ + 1) _)) => none
  | some _ => some (ρ.set i (some d))
  | none => none
def sSet (i : Nat) (a : E) : St := fun ρ => (a ρ).binds fun d ρ1 => match put i d ρ1 with
  | some ρ2 => .nx ρ2
  | none => .bad
def sBk : St := fun ρ => .bk ρ
def sCt : St := fun ρ => .ct ρ
def sRaise (c : String) (ns : List String) (a : As) : St := fun ρ => match a ρ with
  | .ok ds ρ1 => .ex ⟨c, ns, ds⟩ ρ1
  | .exc x ρ1 => .ex x ρ1
  | .bad => .bad
def putAll : List Nat → List D → Env → Option Env
  | [], [], ρ => some ρ
  | i :: is, d :: ds, ρ => (put i d ρ).bind (putAll is ds)
  | _, _, _ => none
def sPar (is : List Nat) (a : As) : St := fun ρ => match a ρ with
  | .ok ds ρ1 => (match putAll is ds ρ1 with
    | some ρ2 => .nx ρ2
    | none => .bad)
  | .exc x ρ1 => .ex x ρ1
  | .bad => .bad
def sAug (i : Nat) (o : D → D → Option D) (a : E) : St := fun ρ => match rd ρ[i]? with
  | none => .bad
  | some x => (a ρ).binds fun y ρ1 => match o x y with
    | none => .bad
    | some z => match put i z ρ1 with
      | some ρ2 => .nx ρ2
      | none => .bad
abbrev Tg := D → Env → Option Env
def gVar (i : Nat) : Tg := fun d ρ => put i d ρ
def gAll : List Tg → List D → Env → Option Env
  | [], [], ρ => some ρ
  | g :: gs, d :: ds, ρ => (g d ρ).bind (gAll gs ds)
  | _, _, _ => none
def gTup (gs : List Tg) : Tg := fun d ρ => match d with
  | .tup ds => gAll gs ds ρ
  | _ => none
def sAsg (a : E) (g : Tg) : St := fun ρ => (a ρ).binds fun d ρ1 => match g d ρ1 with
  | some ρ2 => .nx ρ2
  | none => .bad
def forL (g : Tg) (b : St) : List D → Env → Fl
  | [], ρ => .nx ρ
  | d :: ds, ρ => match g d ρ with
    | none => .bad
    | some ρ1 => match b ρ1 with
      | .nx ρ2 => forL g b ds ρ2
      | .ct ρ2 => forL g b ds ρ2
      | .bk ρ2 => .nx ρ2
      | .rt d ρ2 => .rt d ρ2
      | .ex x ρ2 => .ex x ρ2
      | .bad => .bad
inductive IR where
  | ok (ds : List D) (ρ : Env) | exc (x : Ex) (ρ : Env) | bad
abbrev Is := Env → AR
def sFor (it : Is) (g : Tg) (b : St) : St := fun ρ => match it ρ with
  | .ok ds ρ1 => forL g b ds ρ1
  | .exc x ρ1 => .ex x ρ1
  | .bad => .bad
def whileN (c : E) (b : St) : Nat → Env → Fl
  | 0, _ => .bad
  | n + 1, ρ => (c ρ).binds fun x ρ1 => match x with
    | .bl true => (match b ρ1 with
      | .nx ρ2 => whileN c b n ρ2
      | .ct ρ2 => whileN c b n ρ2
      | .bk ρ2 => .nx ρ2
      | .rt d ρ2 => .rt d ρ2
      | .ex x ρ2 => .ex x ρ2
      | .bad => .bad)
    | .bl false => .nx ρ1
    | _ => .bad
open Classical in
noncomputable def sWhile (c : E) (b : St) : St := fun ρ => if h : ∃ n, whileN c b n ρ ≠ .bad then whileN c b (choose h) ρ else .bad
def wipeE : List Nat → Env → Env
  | [], ρ => ρ
  | i :: vs, ρ => (wipeE vs ρ).set i none
def compL (g : Tg) (t : E) (e : E) (vs : List Nat) : List D → Env → List D → AR
  | [], ρ, acc => .ok acc ρ
  | d :: ds, ρ, acc => match g d ρ with
    | none => .bad
    | some ρ1 => match t ρ1 with
      | .ok (.bl true) ρ2 => (match e ρ2 with
        | .ok x ρ3 => if acc.length < 16777216 then compL g t e vs ds (wipeE vs ρ3) (acc ++ [x]) else .bad
        | _ => .bad)
      | .ok (.bl false) ρ2 => compL g t e vs ds (wipeE vs ρ2) acc
      | _ => .bad
def eComp (it : Is) (g : Tg) (t e : E) (vs : List Nat) : E := fun ρ => match it ρ with
  | .ok ds ρ1 => (match compL g t e vs ds (wipeE vs ρ1) [] with
    | .ok l ρ2 => .ok (.own 0 (.lst l)) ρ2
    | .exc x ρ2 => .exc x ρ2
    | .bad => .bad)
  | .exc x ρ1 => .exc x ρ1
  | .bad => .bad
def fnOf (n m : Nat) (b : St) : Fn := fun ds => if ds.length = n then (match b (ds.map some ++ List.replicate m none) with
  | .rt d ρ => .ok d (ρ.take n)
  | .nx ρ => .ok .non (ρ.take n)
  | .ex x ρ => .exc x (ρ.take n)
  | _ => .bad) else .bad
def lookN (f : String) : List String → List D → Option D
  | n :: ns, d :: ds => if n = f then some d else lookN f ns ds
  | _, _ => none
def eXf (i : Nat) (c f : String) : E := fun ρ => match ρ[i]? with
  | some (some (.exn c' [f'] [d])) => if c' = c ∧ f' = f then .ok d ρ else .bad
  | _ => .bad
structure Hd where
  c : String
  i : Option Nat
  s : St
abbrev Tb := List (String × String × Bool)
def Tb.at (t : Tb) (a b : String) : Option Bool := match t with
  | [] => none
  | (x, y, r) :: t => if x = a ∧ y = b then some r else Tb.at t a b
def D.isExn : D → Bool
  | .exn _ _ _ => true
  | _ => false
def noExn : Env → Bool
  | [] => true
  | none :: r => noExn r
  | some d :: r => !d.isExn && noExn r
def Fl.unset (r : Fl) (i : Nat) : Fl := match r with
  | .nx ρ => if noExn (ρ.set i none) then .nx (ρ.set i none) else .bad
  | .bk ρ => if noExn (ρ.set i none) then .bk (ρ.set i none) else .bad
  | .ct ρ => if noExn (ρ.set i none) then .ct (ρ.set i none) else .bad
  | .rt d ρ => if noExn (ρ.set i none) then .rt d (ρ.set i none) else .bad
  | _ => .bad
def catch_ (t : Tb) (x : Ex) (ρ : Env) : List Hd → Fl
  | [] => .ex x ρ
  | h :: r => match t.at x.cls h.c with
    | some true => (match h.i with
      | none => (match h.s ρ with
        | .ex _ _ => .bad
        | q => q)
      | some i => (match put i (.exn x.cls x.ns x.ds) ρ with
        | some ρ1 => if noExn ρ then (h.s ρ1).unset i else .bad
        | none => .bad))
    | some false => catch_ t x ρ r
    | none => .bad
def sTry (t : Tb) (b : St) (hs : List Hd) (e : St) : St := fun ρ => match b ρ with
  | .nx ρ1 => e ρ1
  | .ex x ρ1 => catch_ t x ρ1 hs
  | r => r
def itL : D → Option (List D)
  | .lst l => some l
  | _ => none
def itT : D → Option (List D)
  | .tup l => some l
  | _ => none
def itS : D → Option (List D)
  | .str l => some (l.map fun c => .str [c])
  | _ => none
def iOf (o : D → Option (List D)) (f : E) : Is := fun ρ => match f ρ with
  | .ok d ρ1 => (match o d with
    | some ds => .ok ds ρ1
    | none => .bad)
  | .exc x ρ1 => .exc x ρ1
  | .bad => .bad
def iOfA (o : List D → Option (List D)) (f : As) : Is := fun ρ => match f ρ with
  | .ok xs ρ1 => (match o xs with
    | some ds => .ok ds ρ1
    | none => .bad)
  | .exc x ρ1 => .exc x ρ1
  | .bad => .bad
def rangeD (lo : Int) (n : Nat) : List D := (List.range n).map fun (i : Nat) => D.int (lo + i)
def okR (i : Int) : Bool := decide (-4611686018427387904 ≤ i ∧ i < 4611686018427387904)
def itR : List D → Option (List D)
  | [.int j] => if okR j then some (rangeD 0 j.toNat) else none
  | [.int i, .int j] => if okR i && okR j then some (rangeD i (j - i).toNat) else none
  | _ => none
def enumD (l : List D) : List D := (l.zipIdx).map fun p => D.tup [.int (p.2 : Nat), p.1]
def itEL : List D → Option (List D)
  | [.lst l] => some (enumD l)
  | _ => none
def itES : List D → Option (List D)
  | [.str l] => some (enumD (l.map fun c => .str [c]))
  | _ => none
def oNot : D → Option D
  | .bl b => some (.bl (!b))
  | _ => none
end U
namespace U
def ixD (n : Nat) (i : Int) : Option Nat := if 0 ≤ i then (if i < n then some i.toNat else none) else if -(n : Int) ≤ i then some (i + n).toNat else none
def atD {α : Type} (l : List α) (i : Int) : Option α := (ixD l.length i).bind fun j => l[j]?
def oAdd : D → D → Option D
  | .int i, .int j => some (.int (i + j))
  | _, _ => none
def oSub : D → D → Option D
  | .int i, .int j => some (.int (i - j))
  | _, _ => none
def lim64 : Nat := 2 ^ 64
def lim4k : Nat := 2 ^ 4000
def lim1k : Nat := 2 ^ 1800
def oMul : D → D → Option D
  | .int i, .int j => if i.natAbs < lim64 ∨ j.natAbs < lim64 then some (.int (i * j)) else none
  | _, _ => none
def oMulW : D → D → Option D
  | .int i, .int j => if i.natAbs < lim4k ∧ j.natAbs < lim4k then some (.int (i * j)) else none
  | _, _ => none
def oDiv : D → D → Option D
  | .int i, .int j => if 0 < j ∧ j.natAbs < lim4k then some (.int (i / j)) else none
  | _, _ => none
def oMod : D → D → Option D
  | .int i, .int j => if 0 < j then some (.int (i % j)) else none
  | _, _ => none
def oPow : D → D → Option D
  | .int i, .int j => if 0 ≤ j ∧ j ≤ 1000 ∧ i.natAbs < 1000 then some (.int (i ^ j.toNat)) else none
  | _, _ => none
def oNeg : D → Option D
  | .int i => some (.int (-i))
  | _ => none
def oLt : D → D → Option D
  | .int i, .int j => some (.bl (decide (i < j)))
  | _, _ => none
def oLe : D → D → Option D
  | .int i, .int j => some (.bl (decide (i ≤ j)))
  | _, _ => none
def oGt : D → D → Option D
  | .int i, .int j => some (.bl (decide (j < i)))
  | _, _ => none
def oGe : D → D → Option D
  | .int i, .int j => some (.bl (decide (j ≤ i)))
  | _, _ => none
mutual
def D.eqv : D → D → Bool
  | .non, .non => true
  | .bl a, .bl b => a == b
  | .bl a, .int j => (if a then 1 else 0) == j
  | .int i, .bl b => i == (if b then 1 else 0)
  | .int i, .int j => i == j
  | .str x, .str y => x == y
  | .lst xs, .lst ys => eqvs xs ys
  | .tup xs, .tup ys => eqvs xs ys
  | _, _ => false
def eqvs : List D → List D → Bool
  | [], [] => true
  | x :: xs, y :: ys => x.eqv y && eqvs xs ys
  | _, _ => false
end
def okD : Nat → D → Bool
  | _, .non => true
  | _, .bl _ => true
  | _, .int _ => true
  | _, .str _ => true
  | n + 1, .tup l => l.all (okD n)
  | n + 1, .lst l => l.all (okD n)
  | _, _ => false
def oEq (a b : D) : Option D := if okD 9 a && okD 9 b then some (.bl (a.eqv b)) else none
def oNeScr : D → D → Option D
  | .scr ns, .lst [] => some (.bl (!ns.isEmpty))
  | _, _ => none
def oIxScr : D → D → Option D
  | .scr ns, .int i => (atD ns i).map .int
  | _, _ => none
def oLenScr : List D → Option D
  | [.scr ns] => some (.int ns.length)
  | _ => none
def oNe (a b : D) : Option D := if okD 9 a && okD 9 b then some (.bl (!a.eqv b)) else none
def D.isN : D → Bool
  | .non => true
  | _ => false
def oIsN : D → D → Option D
  | a, .non => if a.isMut then none else some (.bl a.isN)
  | _, _ => none
def oNotN : D → D → Option D
  | a, .non => if a.isMut then none else some (.bl (!a.isN))
  | _, _ => none
def oInS : D → D → Option D
  | .str [c], .str l => some (.bl (decide (c ∈ l)))
  | _, _ => none
def oNotInS : D → D → Option D
  | .str [c], .str l => some (.bl (!decide (c ∈ l)))
  | _, _ => none
def D.flat : D → Bool
  | .non => true
  | .bl _ => true
  | .int _ => true
  | .str _ => true
  | _ => false
def inD (x : D) (l : List D) : Bool := l.any fun y => y.eqv x
def oInQ : D → D → Option D
  | x, .tup l => if x.flat && l.all D.flat then some (.bl (inD x l)) else none
  | x, .lst l => if x.flat && l.all D.flat then some (.bl (inD x l)) else none
  | _, _ => none
def oNotInQ : D → D → Option D
  | x, .tup l => if x.flat && l.all D.flat then some (.bl (!inD x l)) else none
  | x, .lst l => if x.flat && l.all D.flat then some (.bl (!inD x l)) else none
  | _, _ => none
def cap : Nat := 16777216
def oAddS : D → D → Option D
  | .str a, .str b => if a.length + b.length ≤ cap then some (.str (a ++ b)) else none
  | _, _ => none
def oMulS : D → D → Option D
  | .str a, .int n => if -9223372036854775808 ≤ n ∧ n < 9223372036854775808 ∧ a.length * n.toNat ≤ cap then some (.str (List.replicate n.toNat a).flatten) else none
  | _, _ => none
def oCatL : D → D → Option D
  | .lst a, .lst b => if a.length + b.length ≤ cap then some (.own 0 (.lst (a ++ b))) else none
  | _, _ => none
def oRepL : D → D → Option D
  | .lst a, .int n => if -9223372036854775808 ≤ n ∧ n < 9223372036854775808 ∧ a.length * n.toNat ≤ cap then some (.own 0 (.lst (List.replicate n.toNat a).flatten)) else none
  | _, _ => none
def oCatT : D → D → Option D
  | .tup a, .tup b => if a.length + b.length ≤ cap then some (.tup (a ++ b)) else none
  | _, _ => none
def oRepT : D → D → Option D
  | .tup a, .int n => if 2 ≤ n ∧ n ≤ 1000 ∧ 0 < a.length ∧ a.length ≤ 1000 then some (.tup (List.replicate n.toNat a).flatten) else none
  | _, _ => none
def oIxL : D → D → Option D
  | .lst l, .int i => atD l i
  | _, _ => none
def oIxT : D → D → Option D
  | .tup l, .int i => atD l i
  | _, _ => none
def oIxS : D → D → Option D
  | .str l, .int i => if l.length ≤ cap then (atD l i).map fun c => .str [c] else none
  | _, _ => none
def oLen : List D → Option D
  | [.str l] => if l.length ≤ cap then some (.int l.length) else none
  | [.lst l] => some (.int l.length)
  | [.tup l] => some (.int l.length)
  | _ => none
def oLenS : List D → Option D
  | [.str l] => if l.length ≤ cap then some (.int l.length) else none
  | _ => none
def oLenQ : List D → Option D
  | [.lst l] => some (.int l.length)
  | [.tup l] => some (.int l.length)
  | _ => none
def oMax2 : List D → Option D
  | [.int i, .int j] => some (.int (if j > i then j else i))
  | _ => none
def oMin2 : List D → Option D
  | [.int i, .int j] => some (.int (if j < i then j else i))
  | _ => none
def oMax3 : List D → Option D
  | [.int i, .int j, .int k] => some (.int (if (if i < j then j else i) < k then k else (if i < j then j else i)))
  | _ => none
def oAbs : List D → Option D
  | [.int i] => some (.int (if i < 0 then -i else i))
  | _ => none
def intsD : List D → Option (List Int)
  | [] => some []
  | .int i :: r => (intsD r).map (i :: ·)
  | _ => none
def boolsD : List D → Option (List Bool)
  | [] => some []
  | .bl i :: r => (boolsD r).map (i :: ·)
  | _ => none
def strsD : List D → Option (List (List Nat))
  | [] => some []
  | .str i :: r => (strsD r).map (i :: ·)
  | _ => none
def oSum : List D → Option D
  | [.lst l] => (intsD l).map fun ns => .int ns.sum
  | _ => none
def oAll : List D → Option D
  | [.lst l] => (boolsD l).map fun bs => .bl (bs.all id)
  | _ => none
def oAny : List D → Option D
  | [.lst l] => (boolsD l).map fun bs => .bl (bs.any id)
  | _ => none
def oInt : List D → Option D
  | [.int i] => some (.int i)
  | [.bl b] => some (.int (if b then 1 else 0))
  | _ => none
def decL (n : Nat) : List Nat := (Nat.toDigits 10 n).map Char.toNat
def oStrI : List D → Option D
  | [.int i] => if 0 ≤ i ∧ i.natAbs < lim1k then some (.str (decL i.natAbs)) else none
  | _ => none
def oTupOf : List D → Option D
  | [.lst l] => some (.tup l)
  | [.tup l] => some (.tup l)
  | _ => none
def oLstOf : List D → Option D
  | [.lst l] => some (.own 0 (.lst l))
  | [.tup l] => some (.own 0 (.lst l))
  | _ => none
def sIxD (n d : Nat) : Option Int → Nat
  | none => d
  | some v => if v < 0 then (v + (n : Int)).toNat else min v.toNat n
def cutD {α : Type} (l : List α) (lo hi : Option Int) : List α := (l.drop (sIxD l.length 0 lo)).take (sIxD l.length l.length hi - sIxD l.length 0 lo)
def oSlS : D → Option Int → Option Int → Option D
  | .str l, lo, hi => if l.length ≤ cap then some (.str (cutD l lo hi)) else none
  | _, _, _ => none
def oSlL : D → Option Int → Option Int → Option D
  | .lst l, lo, hi => some (.own 0 (.lst (cutD l lo hi)))
  | _, _, _ => none
def oSlT : D → Option Int → Option Int → Option D
  | .tup l, lo, hi => some (.tup (cutD l lo hi))
  | _, _, _ => none
inductive OR where
  | ok (o : Option Int) (ρ : Env) | exc (x : Ex) (ρ : Env) | bad
def part (e : Option E) : Env → OR := fun ρ => match e with
  | none => .ok none ρ
  | some f => (match f ρ with
    | .ok (.int i) ρ1 => .ok (some i) ρ1
    | .ok _ _ => .bad
    | .exc x ρ1 => .exc x ρ1
    | .bad => .bad)
def eSl (o : D → Option Int → Option Int → Option D) (f : E) (lo hi : Option E) : E := fun ρ => (f ρ).bind fun x ρ1 => match part lo ρ1 with
  | .ok l ρ2 => (match part hi ρ2 with
    | .ok h ρ3 => lift (o x l h) ρ3
    | .exc x ρ3 => .exc x ρ3
    | .bad => .bad)
  | .exc x ρ2 => .exc x ρ2
  | .bad => .bad
def oRev : D → Option D
  | .lst l => some (.own 0 (.lst l.reverse))
  | _ => none
def joinD (a : List Nat) : List (List Nat) → List Nat
  | [] => []
  | [x] => x
  | x :: y :: r => x ++ a ++ joinD a (y :: r)
def oJoin : D → D → Option D
  | .str a, .lst l => (strsD l).bind fun ys => if (ys.map List.length).sum + ys.length * a.length ≤ cap then some (.str (joinD a ys)) else none
  | .str a, .tup l => (strsD l).bind fun ys => if (ys.map List.length).sum + ys.length * a.length ≤ cap then some (.str (joinD a ys)) else none
  | _, _ => none
def tyName : D → Option String
  | .non => some "NoneType"
  | .bl _ => some "bool"
  | .int _ => some "int"
  | .str _ => some "str"
  | .tup _ => some "tuple"
  | .lst _ => some "list"
  | .dic _ => some "dict"
  | _ => none
def oIsi (T : String) (d : D) : Option D := (tyName d).map fun n => .bl (n == T || (n == "bool" && T == "int"))
def mkTup (l : List D) : Option D := if l.length ≤ cap then some (.tup l) else none
def mkLst (l : List D) : Option D := if l.length ≤ cap then some (.own 0 (.lst l)) else none
def isOL (o : Option (Option D)) : Bool := match o with
  | some (some (.own _ (.lst _))) => true
  | _ => false
def eApp (i : Nat) (a : E) : E := fun ρ => if isOL ρ[i]? then (a ρ).bind fun x ρ1 => (match ρ1[i]? with
  | some (some (.own t (.lst l))) => if l.length < cap then .ok .non (ρ1.set i (some (.own t (.lst (l ++ [x]))))) else .bad
  | _ => .bad) else .bad
def eIxO (i : Nat) (a : E) : E := fun ρ => if isOL ρ[i]? then (a ρ).bind fun x ρ1 => (match ρ1[i]?, x with
  | some (some (.own _ (.lst l))), .int k => (match atD l k with
    | some d => if d.isMut then .bad else .ok d ρ1
    | none => .bad)
  | _, _ => .bad) else .bad
def sPutO (i : Nat) (k a : E) : St := fun ρ => (a ρ).binds fun x ρ1 => if isOL ρ1[i]? then (k ρ1).binds fun y ρ2 => (match ρ2[i]?, y with
  | some (some (.own t (.lst l))), .int j => (match ixD l.length j with
    | some m => if allPlain l then .nx (ρ2.set i (some (.own t (.lst (l.set m x))))) else .bad
    | none => .bad)
  | _, _ => .bad) else .bad
def eLenO (i : Nat) : E := fun ρ => match ρ[i]? with
  | some (some (.own _ (.lst l))) => .ok (.int l.length) ρ
  | _ => .bad
def eMs (o : D → D → Option D) (a b : E) : E := fun ρ => (a ρ).bind fun x ρ1 => match x with
  | .str s => (b ρ1).bind fun y ρ2 => lift (o (.str s) y) ρ2
  | _ => .bad
def eMs0 (o : D → Option D) (a : E) : E := fun ρ => (a ρ).bind fun x ρ1 => match x with
  | .str s => lift (o (.str s)) ρ1
  | _ => .bad
def okRg (a b : Int) : Bool := decide (-4611686018427387904 ≤ a ∧ a < 4611686018427387904 ∧ -4611686018427387904 ≤ b ∧ b < 4611686018427387904 ∧ (b - a).toNat ≤ cap)
def oLstRg : D → D → Option D
  | .int a, .int b => if okRg a b then some (.own 0 (.lst ((List.range (b - a).toNat).map fun (i : Nat) => D.int (a + i)))) else none
  | _, _ => none
def eIsi (T : String) (a : E) : E := eUn (oIsi T) a
end U
namespace U
open PySem PySem.Spec PyProof.Rows L2
abbrev Fz := Addr → Prop
def S (l : List Nat) : Str := ⟨l.toArray⟩
def chars (l : List Nat) : Prop := ∀ c ∈ l, c < 1114112
def SqLF (K : PySem.W.Frag) (F : Fz) (H : Hp) (a : Addr) (xs : List V) : Prop := F a ∧ H a = some (.lst xs)
def SqTF (K : PySem.W.Frag) (F : Fz) (H : Hp) (a : Addr) (xs : List V) : Prop :=
  (F a ∧ Rd H a (.tup xs)) ∨
    ∃ (o : Obj) (its : Array Value) (n : Nat), K.lookup a = some o ∧ o.cls = .type "tuple" ∧ o.data = .seq its n ∧ its.size ≤ sizeLine ∧ Vals xs its.toList
theorem SqLF.seq {K : PySem.W.Frag} {F : Fz} {H : Hp} {a : Addr} {xs : List V} (h : SqLF K F H a xs) : SqL K H a xs := .inl (.inl h.2)
theorem SqTF.seq {K : PySem.W.Frag} {F : Fz} {H : Hp} {a : Addr} {xs : List V} (h : SqTF K F H a xs) : SqT K H a xs := h.imp (·.2) id
section
variable (K : PySem.W.Frag) (F : Fz) (H : Hp)
mutual
def RV : V → D → Prop
  | v, .non => v = .non
  | v, .bl b => v = .bl b
  | v, .int i => v = .int i
  | v, .str l => v = .str (S l) ∧ chars l
  | v, .tup ds => ∃ a vs, v = .ref a ∧ SqTF K F H a vs ∧ RVs vs ds
  | v, .lst ds => ∃ a vs, v = .ref a ∧ SqLF K F H a vs ∧ RVs vs ds
  | v, .ins c ns ds => ∃ a dx fs, v = .ref a ∧ F a ∧ H a = some (.ins (He.ga K (Str.ofString c)) dx fs) ∧ fs.map (·.1) = ns.map Str.ofString ∧ RVs (fs.map (·.2)) ds
  | _, .own _ _ => False
  | _, .exn _ _ _ => False
  | v, .dic ks => ∃ a, v = .ref a ∧ F a ∧ H a = some (.dK (ks.map fun k => (.inl k, V.bl true)))
  | v, .scr ns => ∃ a, v = .ref a ∧ ((F a ∧ Rd H a (.lst (ns.map V.int))) ∨ SqL K (fun _ => none) a (ns.map V.int))
def RVs : List V → List D → Prop
  | [], [] => True
  | v :: vs, d :: ds => RV v d ∧ RVs vs ds
  | _, _ => False
end
mutual
def OV : V → D → List Addr → Prop
  | v, .own 0 (.lst ds), A => ∃ a vs A', v = .ref a ∧ H a = some (.lst vs) ∧ A = a :: A' ∧ OVs vs ds A'
  | v, .own 0 (.ins c ns ds), A => ∃ a dx fs A', v = .ref a ∧ H a = some (.ins (He.ga K (Str.ofString c)) dx fs) ∧ fs.map (·.1) = ns.map Str.ofString ∧ A = a :: A' ∧ OVs (fs.map (·.2)) ds A'
  | _, .own _ _, _ => False
  | v, d, A => A = [] ∧ RV K F H v d
def OVs : List V → List D → List Addr → Prop
  | [], [], A => A = []
  | v :: vs, d :: ds, A => ∃ A1 A2, OV v d A1 ∧ OVs vs ds A2 ∧ A = A1 ++ A2
  | _, _, _ => False
end
end
def XV (K : PySem.W.Frag) (F : Fz) (H : Hp) (x : Ex) (cls : Value) (dd : Option Addr) : Prop :=
  cls = .ref (He.ga K (Str.ofString x.cls)) ∧ ((x.ns = [] ∧ x.ds = [] ∧ dd = none) ∨ ∃ d fs, dd = some d ∧ F d ∧ H d = some (.xd fs) ∧ fs.map (·.1) = x.ns.map Str.ofString ∧ RVs K F H (fs.map (·.2)) x.ds)
abbrev Bx := List Addr × Option (Addr × Value × Option Addr)
section
variable (K : PySem.W.Frag) (F : Fz) (H : Hp) (B : Bx)
def OVp : V → D → List Addr → Prop
  | v, .own (j + 1) d, A => OV K F H v (.own 0 d) A ∧ ∃ a, v = .ref a ∧ B.1[j]? = some a
  | v, .exn c ns ds, A => A = [] ∧ ∃ a cls dd, v = .ref a ∧ B.2 = some (a, cls, dd) ∧ XV K F H ⟨c, ns, ds⟩ cls dd
  | v, d, A => OV K F H v d A
def OVps : List V → List D → List Addr → Prop
  | [], [], A => A = []
  | v :: vs, d :: ds, A => ∃ A1 A2, OVp K F H B v d A1 ∧ OVps vs ds A2 ∧ A = A1 ++ A2
  | _, _, _ => False
def OVo : Option V → Option D → List Addr → Prop
  | _, none, A => A = []
  | some v, some d, A => OVp K F H B v d A
  | none, some _, _ => False
def OVS : List (Option V) → List (Option D) → List Addr → Prop
  | [], [], A => A = []
  | v :: vs, d :: ds, A => ∃ A1 A2, OVo K F H B v d A1 ∧ OVS vs ds A2 ∧ A = A1 ++ A2
  | _, _, _ => False
structure Rep (σ : L2.St) (ρ : Env) (A : List Addr) : Prop where
  sl : OVS K F H B σ ρ A
  nd : A.Nodup
  nf : ∀ a ∈ A, ¬ F a
  dm : ∀ a, F a → ∃ o, H a = some o
end
structure Step (A : List Addr) (F : Fz) (H : Hp) (A' : List Addr) (F' : Fz) (H' : Hp) : Prop where
  mono : ∀ a, F a → F' a
  keep : ∀ a o, H a = some o → a ∉ A → H' a = some o
  froz : ∀ a, F' a → F a ∨ H a = none ∨ a ∈ A
  own : ∀ a ∈ A', a ∈ A ∨ H a = none
theorem Step.refl {A : List Addr} {F : Fz} {H : Hp} : Step A F H A F H := ⟨fun _ h => h, fun _ _ h _ => h, fun _ h => .inl h, fun _ h => .inl h⟩
theorem Step.trans {A A1 A2 : List Addr} {F F1 F2 : Fz} {H H1 H2 : Hp} (s : Step A F H A1 F1 H1) (t : Step A1 F1 H1 A2 F2 H2) : Step A F H A2 F2 H2 := by
  have no : ∀ a, H1 a = none → H a = none ∨ a ∈ A := fun a h => by
    by_cases ha : a ∈ A
    · exact .inr ha
    · cases e : H a with
      | none => exact .inl rfl
      | some o => rw [s.keep a o e ha] at h; cases h
  refine ⟨fun a h => t.mono a (s.mono a h), fun a o h n => t.keep a o (s.keep a o h n) fun m => ?_, fun a h => ?_, fun a h => ?_⟩
  · rcases s.own a m with q | q
    · exact n q
    · rw [h] at q; cases q
  · rcases t.froz a h with q | q | q
    · exact s.froz a q
    · rcases no a q with z | z
      · exact .inr (.inl z)
      · exact .inr (.inr z)
    · rcases s.own a q with z | z
      · exact .inr (.inr z)
      · exact .inr (.inl z)
  · rcases t.own a h with q | q
    · exact s.own a q
    · exact (no a q).symm
structure Grow (F : Fz) (H : Hp) (F' : Fz) (H' : Hp) : Prop where
  mono : ∀ a, F a → F' a
  keep : ∀ a o, H a = some o → H' a = some o
  froz : ∀ a, F' a → F a ∨ H a = none
  dm : (∀ a, F a → ∃ o, H a = some o) → ∀ a, F' a → ∃ o, H' a = some o
theorem Grow.refl {F : Fz} {H : Hp} : Grow F H F H := ⟨fun _ h => h, fun _ _ h => h, fun _ h => .inl h, fun h => h⟩
theorem Grow.trans {F F1 F2 : Fz} {H H1 H2 : Hp} (s : Grow F H F1 H1) (t : Grow F1 H1 F2 H2) : Grow F H F2 H2 := by
  refine ⟨fun a h => t.mono a (s.mono a h), fun a o h => t.keep a o (s.keep a o h), fun a h => ?_, fun h => t.dm (s.dm h)⟩
  rcases t.froz a h with q | q
  · exact s.froz a q
  · refine .inr ?_
    cases e : H a with
    | none => rfl
    | some o => rw [s.keep a o e] at q; cases q
theorem Grow.new {F : Fz} {H : Hp} {p : Addr} {o : HO} (h : H p = none) : Grow F H (fun a => F a ∨ a = p) (upd H p o) :=
  ⟨fun _ h => .inl h, fun a u e => by rw [upd_ne (ne_of_none e h)]; exact e, fun a q => q.imp id fun e => by rw [e]; exact h, fun dm a q => by
    by_cases c : a = p
    · exact ⟨o, by rw [c, upd_same]⟩
    · rcases q with q | q
      · rw [upd_ne c]; exact dm a q
      · exact absurd q c⟩
theorem Grow.raw {F : Fz} {H : Hp} {p : Addr} {o : HO} (h : H p = none) : Grow F H F (upd H p o) :=
  ⟨fun _ h => h, fun a u e => by rw [upd_ne (ne_of_none e h)]; exact e, fun a q => .inl q, fun dm a q => by
    obtain ⟨u, e⟩ := dm a q
    exact ⟨u, by rw [upd_ne (ne_of_none e h)]; exact e⟩⟩
theorem Grow.step {A : List Addr} {F F' : Fz} {H H' : Hp} (g : Grow F H F' H') : Step A F H A F' H' :=
  ⟨g.mono, fun a o h _ => g.keep a o h, fun a h => (g.froz a h).imp id .inl, fun _ h => .inl h⟩
section
variable {K : PySem.W.Frag} {B : Bx} {F F' : Fz} {H H' : Hp}
theorem SqLF.step {a : Addr} {xs : List V} (m : ∀ a, F a → F' a) (k : ∀ a o, F a → H a = some o → H' a = some o) (h : SqLF K F H a xs) : SqLF K F' H' a xs := ⟨m a h.1, k a _ h.1 h.2⟩
theorem SqTF.step {a : Addr} {xs : List V} (m : ∀ a, F a → F' a) (k : ∀ a o, F a → H a = some o → H' a = some o) (h : SqTF K F H a xs) : SqTF K F' H' a xs := by
  rcases h with ⟨f, h | ⟨o, h⟩⟩ | h
  · exact .inl ⟨m a f, .inl (k a _ f h)⟩
  · exact .inl ⟨m a f, .inr ⟨o, k a _ f h⟩⟩
  · exact .inr h
mutual
theorem RV.stay (m : ∀ a, F a → F' a) (k : ∀ a o, F a → H a = some o → H' a = some o) : ∀ {v : V} {d : D}, RV K F H v d → RV K F' H' v d
  | _, .non, h => by simp only [RV] at h ⊢; exact h
  | _, .bl _, h => by simp only [RV] at h ⊢; exact h
  | _, .int _, h => by simp only [RV] at h ⊢; exact h
  | _, .str _, h => by simp only [RV] at h ⊢; exact h
  | _, .tup _, h => by
    simp only [RV] at h ⊢
    obtain ⟨a, vs, e, s, r⟩ := h
    exact ⟨a, vs, e, s.step m k, RVs.stay m k r⟩
  | _, .lst _, h => by
    simp only [RV] at h ⊢
    obtain ⟨a, vs, e, s, r⟩ := h
    exact ⟨a, vs, e, s.step m k, RVs.stay m k r⟩
  | _, .ins _ _ _, h => by
    simp only [RV] at h ⊢
    obtain ⟨a, dx, fs, e, f, s, n, r⟩ := h
    exact ⟨a, dx, fs, e, m a f, k a _ f s, n, RVs.stay m k r⟩
  | _, .own _ _, h => by simp only [RV] at h
  | _, .exn _ _ _, h => by simp only [RV] at h
  | _, .dic _, h => by
    simp only [RV] at h ⊢
    obtain ⟨a, e, f, s⟩ := h
    exact ⟨a, e, m a f, k a _ f s⟩
  | _, .scr _, h => by
    simp only [RV] at h ⊢
    obtain ⟨a, e, h⟩ := h
    refine ⟨a, e, ?_⟩
    rcases h with ⟨f, s | ⟨o, s⟩⟩ | h
    · exact .inl ⟨m a f, .inl (k a _ f s)⟩
    · exact .inl ⟨m a f, .inr ⟨o, k a _ f s⟩⟩
    · exact .inr h
theorem RVs.stay (m : ∀ a, F a → F' a) (k : ∀ a o, F a → H a = some o → H' a = some o) : ∀ {vs : List V} {ds : List D}, RVs K F H vs ds → RVs K F' H' vs ds
  | [], [], _ => by simp only [RVs]
  | _ :: _, _ :: _, h => by
    simp only [RVs] at h ⊢
    exact ⟨RV.stay m k h.1, RVs.stay m k h.2⟩
  | [], _ :: _, h => by simp only [RVs] at h
  | _ :: _, [], h => by simp only [RVs] at h
end
theorem XV.stay (m : ∀ a, F a → F' a) (k : ∀ a o, F a → H a = some o → H' a = some o) {x : Ex} {cls : Value} {dd : Option Addr} (h : XV K F H x cls dd) : XV K F' H' x cls dd := by
  obtain ⟨e, h⟩ := h
  refine ⟨e, ?_⟩
  rcases h with h | ⟨d, fs, e1, f, e2, e3, r⟩
  · exact .inl h
  · exact .inr ⟨d, fs, e1, m d f, k d _ f e2, e3, r.stay m k⟩
end
end U
namespace U
open PySem PySem.Spec PyProof.Rows L2
section
variable {K : PySem.W.Frag} {B : Bx} {F F' : Fz} {H H' : Hp}
mutual
theorem OV.stay (m : ∀ a, F a → F' a) : ∀ {v : V} {d : D} {A : List Addr}, (∀ a o, (F a ∨ a ∈ A) → H a = some o → H' a = some o) → OV K F H v d A → OV K F' H' v d A
  | _, .own 0 (.lst ds), A, k, h => by
    simp only [OV] at h ⊢
    obtain ⟨a, vs, A', e, s, q, r⟩ := h
    subst q
    exact ⟨a, vs, A', e, k a _ (.inr List.mem_cons_self) s, rfl, OVs.stay m (fun b o hb => k b o (hb.imp id (List.mem_cons_of_mem _))) r⟩
  | _, .own 0 (.ins c ns ds), A, k, h => by
    simp only [OV] at h ⊢
    obtain ⟨a, dx, fs, A', e, s, n, q, r⟩ := h
    subst q
    exact ⟨a, dx, fs, A', e, k a _ (.inr List.mem_cons_self) s, n, rfl, OVs.stay m (fun b o hb => k b o (hb.imp id (List.mem_cons_of_mem _))) r⟩
  | _, .own (_ + 1) _, _, _, h => by simp only [OV] at h
  | _, .own 0 .non, _, _, h => by simp only [OV] at h
  | _, .own 0 (.bl _), _, _, h => by simp only [OV] at h
  | _, .own 0 (.int _), _, _, h => by simp only [OV] at h
  | _, .own 0 (.str _), _, _, h => by simp only [OV] at h
  | _, .own 0 (.tup _), _, _, h => by simp only [OV] at h
  | _, .own 0 (.own _ _), _, _, h => by simp only [OV] at h
  | _, .own 0 (.exn _ _ _), _, _, h => by simp only [OV] at h
  | _, .own 0 (.dic _), _, _, h => by simp only [OV] at h
  | _, .own 0 (.scr _), _, _, h => by simp only [OV] at h
  | _, .non, _, k, h => by simp only [OV] at h ⊢; exact ⟨h.1, h.2.stay m fun a o f => k a o (.inl f)⟩
  | _, .bl _, _, k, h => by simp only [OV] at h ⊢; exact ⟨h.1, h.2.stay m fun a o f => k a o (.inl f)⟩
  | _, .int _, _, k, h => by simp only [OV] at h ⊢; exact ⟨h.1, h.2.stay m fun a o f => k a o (.inl f)⟩
  | _, .str _, _, k, h => by simp only [OV] at h ⊢; exact ⟨h.1, h.2.stay m fun a o f => k a o (.inl f)⟩
  | _, .tup _, _, k, h => by simp only [OV] at h ⊢; exact ⟨h.1, h.2.stay m fun a o f => k a o (.inl f)⟩
  | _, .lst _, _, k, h => by simp only [OV] at h ⊢; exact ⟨h.1, h.2.stay m fun a o f => k a o (.inl f)⟩
  | _, .ins _ _ _, _, k, h => by simp only [OV] at h ⊢; exact ⟨h.1, h.2.stay m fun a o f => k a o (.inl f)⟩
  | _, .exn _ _ _, _, k, h => by simp only [OV, RV] at h; exact h.2.elim
  | _, .dic _, _, k, h => by simp only [OV] at h ⊢; exact ⟨h.1, h.2.stay m fun a o f => k a o (.inl f)⟩
  | _, .scr _, _, k, h => by simp only [OV] at h ⊢; exact ⟨h.1, h.2.stay m fun a o f => k a o (.inl f)⟩
theorem OVs.stay (m : ∀ a, F a → F' a) : ∀ {vs : List V} {ds : List D} {A : List Addr}, (∀ a o, (F a ∨ a ∈ A) → H a = some o → H' a = some o) → OVs K F H vs ds A → OVs K F' H' vs ds A
  | [], [], _, _, h => by simp only [OVs] at h ⊢; exact h
  | _ :: _, _ :: _, _, k, h => by
    simp only [OVs] at h ⊢
    obtain ⟨A1, A2, h1, h2, e⟩ := h
    subst e
    exact ⟨A1, A2, OV.stay m (fun b o hb => k b o (hb.imp id (List.mem_append_left _))) h1, OVs.stay m (fun b o hb => k b o (hb.imp id (List.mem_append_right _))) h2, rfl⟩
  | [], _ :: _, _, _, h => by simp only [OVs] at h
  | _ :: _, [], _, _, h => by simp only [OVs] at h
end
theorem OVp.stay (m : ∀ a, F a → F' a) {v : V} {d : D} {A : List Addr} (k : ∀ a o, (F a ∨ a ∈ A) → H a = some o → H' a = some o) (h : OVp K F H B v d A) : OVp K F' H' B v d A := by
  unfold OVp at h ⊢
  split at h
  · exact ⟨h.1.stay m k, h.2⟩
  · obtain ⟨e, a, cls, dd, h1, h2, h3⟩ := h
    exact ⟨e, a, cls, dd, h1, h2, h3.stay m fun a o f => k a o (.inl f)⟩
  · exact h.stay m k
theorem OV.op {v : V} {d : D} {A : List Addr} (h : OV K F H v d A) : OVp K F H B v d A := by
  unfold OVp
  split
  · simp only [OV] at h
  · simp only [OV, RV] at h; exact h.2.elim
  · exact h
theorem OVo.stay (m : ∀ a, F a → F' a) : ∀ {v : Option V} {d : Option D} {A : List Addr}, (∀ a o, (F a ∨ a ∈ A) → H a = some o → H' a = some o) → OVo K F H B v d A → OVo K F' H' B v d A
  | some _, some _, _, k, h => by simp only [OVo] at h ⊢; exact h.stay m k
  | some _, none, _, _, h => by simp only [OVo] at h ⊢; exact h
  | none, none, _, _, h => by simp only [OVo] at h ⊢; exact h
  | none, some _, _, _, h => by simp only [OVo] at h
theorem OVS.stay (m : ∀ a, F a → F' a) : ∀ {vs : List (Option V)} {ds : List (Option D)} {A : List Addr}, (∀ a o, (F a ∨ a ∈ A) → H a = some o → H' a = some o) → OVS K F H B vs ds A → OVS K F' H' B vs ds A
  | [], [], _, _, h => by simp only [OVS] at h ⊢; exact h
  | _ :: _, _ :: _, _, k, h => by
    simp only [OVS] at h ⊢
    obtain ⟨A1, A2, h1, h2, e⟩ := h
    subst e
    exact ⟨A1, A2, OVo.stay m (fun b o hb => k b o (hb.imp id (List.mem_append_left _))) h1, OVS.stay m (fun b o hb => k b o (hb.imp id (List.mem_append_right _))) h2, rfl⟩
  | [], _ :: _, _, _, h => by simp only [OVS] at h
  | _ :: _, [], _, _, h => by simp only [OVS] at h
theorem OV.plain {v : V} {d : D} {A : List Addr} (hm : d.isMut = false) (h : OV K F H v d A) : A = [] ∧ RV K F H v d := by
  cases d with
  | own t d => cases hm
  | exn c ns ds => cases hm
  | _ => simp only [OV] at h; exact h
theorem RV.own {v : V} {d : D} (h : RV K F H v d) : OV K F H v d [] := by
  cases d with
  | own t d => simp only [RV] at h
  | exn c ns ds => simp only [RV] at h
  | _ => simp only [OV]; exact ⟨trivial, h⟩
theorem RV.notMut {v : V} {d : D} (h : RV K F H v d) : d.isMut = false := by
  cases d with
  | own t d => simp only [RV] at h
  | exn c ns ds => simp only [RV] at h
  | _ => rfl
mutual
theorem OV.there : ∀ {v : V} {d : D} {A : List Addr}, OV K F H v d A → ∀ a ∈ A, ∃ o, H a = some o
  | _, .own 0 (.lst ds), A, h, a, ha => by
    simp only [OV] at h
    obtain ⟨b, vs, A', e, s, q, r⟩ := h
    subst q
    rcases List.mem_cons.mp ha with z | z
    · rw [z]; exact ⟨_, s⟩
    · exact OVs.there r a z
  | _, .own 0 (.ins c ns ds), A, h, a, ha => by
    simp only [OV] at h
    obtain ⟨b, dx, fs, A', e, s, n, q, r⟩ := h
    subst q
    rcases List.mem_cons.mp ha with z | z
    · rw [z]; exact ⟨_, s⟩
    · exact OVs.there r a z
  | _, .own (_ + 1) _, _, h, _, _ => by simp only [OV] at h
  | _, .own 0 .non, _, h, _, _ => by simp only [OV] at h
  | _, .own 0 (.bl _), _, h, _, _ => by simp only [OV] at h
  | _, .own 0 (.int _), _, h, _, _ => by simp only [OV] at h
  | _, .own 0 (.str _), _, h, _, _ => by simp only [OV] at h
  | _, .own 0 (.tup _), _, h, _, _ => by simp only [OV] at h
  | _, .own 0 (.own _ _), _, h, _, _ => by simp only [OV] at h
  | _, .own 0 (.exn _ _ _), _, h, _, _ => by simp only [OV] at h
  | _, .own 0 (.dic _), _, h, _, _ => by simp only [OV] at h
  | _, .own 0 (.scr _), _, h, _, _ => by simp only [OV] at h
  | _, .non, _, h, _, ha => by simp only [OV] at h; rw [h.1] at ha; cases ha
  | _, .bl _, _, h, _, ha => by simp only [OV] at h; rw [h.1] at ha; cases ha
  | _, .int _, _, h, _, ha => by simp only [OV] at h; rw [h.1] at ha; cases ha
  | _, .str _, _, h, _, ha => by simp only [OV] at h; rw [h.1] at ha; cases ha
  | _, .tup _, _, h, _, ha => by simp only [OV] at h; rw [h.1] at ha; cases ha
  | _, .lst _, _, h, _, ha => by simp only [OV] at h; rw [h.1] at ha; cases ha
  | _, .ins _ _ _, _, h, _, ha => by simp only [OV] at h; rw [h.1] at ha; cases ha
  | _, .exn _ _ _, _, h, _, ha => by simp only [OV] at h; rw [h.1] at ha; cases ha
  | _, .dic _, _, h, _, ha => by simp only [OV] at h; rw [h.1] at ha; cases ha
  | _, .scr _, _, h, _, ha => by simp only [OV] at h; rw [h.1] at ha; cases ha
theorem OVs.there : ∀ {vs : List V} {ds : List D} {A : List Addr}, OVs K F H vs ds A → ∀ a ∈ A, ∃ o, H a = some o
  | [], [], _, h, _, ha => by simp only [OVs] at h; rw [h] at ha; cases ha
  | _ :: _, _ :: _, _, h, a, ha => by
    simp only [OVs] at h
    obtain ⟨A1, A2, h1, h2, e⟩ := h
    subst e
    rcases List.mem_append.mp ha with z | z
    · exact OV.there h1 a z
    · exact OVs.there h2 a z
  | [], _ :: _, _, h, _, _ => by simp only [OVs] at h
  | _ :: _, [], _, h, _, _ => by simp only [OVs] at h
end
theorem OVp.there {v : V} {d : D} {A : List Addr} (h : OVp K F H B v d A) : ∀ a ∈ A, ∃ o, H a = some o := by
  unfold OVp at h
  split at h
  · exact h.1.there
  · intro a ha; rw [h.1] at ha; cases ha
  · exact h.there
theorem OVp.plain {v : V} {d : D} {A : List Addr} (hm : d.isMut = false) (h : OVp K F H B v d A) : A = [] ∧ RV K F H v d := by
  unfold OVp at h
  split at h
  · cases hm
  · cases hm
  · exact h.plain hm
theorem OVS.there : ∀ {vs : List (Option V)} {ds : List (Option D)} {A : List Addr}, OVS K F H B vs ds A → ∀ a ∈ A, ∃ o, H a = some o
  | [], [], _, h, _, ha => by simp only [OVS] at h; rw [h] at ha; cases ha
  | v :: _, d :: _, _, h, a, ha => by
    simp only [OVS] at h
    obtain ⟨A1, A2, h1, h2, e⟩ := h
    subst e
    rcases List.mem_append.mp ha with z | z
    · cases d with
      | none => simp only [OVo] at h1; rw [h1] at z; cases z
      | some d =>
        cases v with
        | none => simp only [OVo] at h1
        | some v => simp only [OVo] at h1; exact h1.there a z
    · exact OVS.there h2 a z
  | [], _ :: _, _, h, _, _ => by simp only [OVS] at h
  | _ :: _, [], _, h, _, _ => by simp only [OVS] at h
theorem OVS.get : ∀ {vs : List (Option V)} {ds : List (Option D)} {A : List Addr} {i : Nat} {d : D}, OVS K F H B vs ds A → ds[i]? = some (some d) → ∃ v A1, vs[i]? = some (some v) ∧ OVp K F H B v d A1 ∧ ∀ a ∈ A1, a ∈ A
  | v :: vs, d :: ds, _, 0, d', h, e => by
    simp only [OVS] at h
    obtain ⟨A1, A2, h1, h2, q⟩ := h
    simp only [List.getElem?_cons_zero, Option.some.injEq] at e
    subst e q
    cases v with
    | none => simp only [OVo] at h1
    | some v => simp only [OVo] at h1; exact ⟨v, A1, rfl, h1, fun a ha => List.mem_append_left _ ha⟩
  | v :: vs, d :: ds, _, i + 1, d', h, e => by
    simp only [OVS] at h
    obtain ⟨A1, A2, h1, h2, q⟩ := h
    simp only [List.getElem?_cons_succ] at e
    subst q
    obtain ⟨w, A3, h3, h4, h5⟩ := OVS.get h2 e
    exact ⟨w, A3, by simpa using h3, h4, fun a ha => List.mem_append_right _ (h5 a ha)⟩
  | [], [], _, _, _, _, e => by simp at e
  | [], _ :: _, _, _, _, h, _ => by simp only [OVS] at h
  | _ :: _, [], _, _, _, h, _ => by simp only [OVS] at h
theorem OVS.len : ∀ {vs : List (Option V)} {ds : List (Option D)} {A : List Addr}, OVS K F H B vs ds A → vs.length = ds.length
  | [], [], _, _ => rfl
  | _ :: _, _ :: _, _, h => by
    simp only [OVS] at h
    obtain ⟨A1, A2, h1, h2, e⟩ := h
    simp [h2.len]
  | [], _ :: _, _, h => by simp only [OVS] at h
  | _ :: _, [], _, h => by simp only [OVS] at h
theorem OVS.split : ∀ {vs : List (Option V)} {ds : List (Option D)} {A : List Addr} {i : Nat} {d : Option D}, OVS K F H B vs ds A → ds[i]? = some d → ∃ v A1 L R, vs[i]? = some v ∧ OVo K F H B v d A1 ∧ A = L ++ A1 ++ R ∧
    ∀ {F' : Fz} {H' : Hp} {v' : Option V} {d' : Option D} {A' : List Addr}, (∀ a, F a → F' a) → (∀ a o, (F a ∨ a ∈ L ∨ a ∈ R) → H a = some o → H' a = some o) → OVo K F' H' B v' d' A' → OVS K F' H' B (vs.set i v') (ds.set i d') (L ++ A' ++ R)
  | v :: vs, d :: ds, _, 0, d', h, e => by
    simp only [OVS] at h
    obtain ⟨A1, A2, h1, h2, q⟩ := h
    simp only [List.getElem?_cons_zero, Option.some.injEq] at e
    subst e q
    refine ⟨v, A1, [], A2, rfl, h1, rfl, fun {F' H' v' d' A'} m k h' => ?_⟩
    simp only [List.set_cons_zero, OVS]
    exact ⟨A', A2, h', h2.stay m fun a o ha => k a o (ha.imp id .inr), rfl⟩
  | v :: vs, d :: ds, _, i + 1, d', h, e => by
    simp only [OVS] at h
    obtain ⟨A1, A2, h1, h2, q⟩ := h
    simp only [List.getElem?_cons_succ] at e
    subst q
    obtain ⟨w, A3, L, R, h3, h4, h5, h6⟩ := OVS.split h2 e
    subst h5
    refine ⟨w, A3, A1 ++ L, R, by simpa using h3, h4, by simp, fun {F' H' v' d' A'} m k h' => ?_⟩
    simp only [List.set_cons_succ, OVS]
    refine ⟨A1, L ++ A' ++ R, h1.stay m fun a o ha => k a o (ha.imp id fun z => .inl (List.mem_append_left _ z)), h6 m (fun a o ha => k a o (ha.imp id fun z => z.imp (List.mem_append_right _) id)) h', by simp⟩
  | [], [], _, _, _, _, e => by simp at e
  | [], _ :: _, _, _, _, h, _ => by simp only [OVS] at h
  | _ :: _, [], _, _, _, h, _ => by simp only [OVS] at h
theorem Rep.grow {σ : L2.St} {ρ : Env} {A : List Addr} (r : Rep K F H B σ ρ A) (g : Grow F H F' H') : Rep K F' H' B σ ρ A :=
  ⟨r.sl.stay g.mono fun a o _ h => g.keep a o h, r.nd, fun a ha f => by
    rcases g.froz a f with z | z
    · exact r.nf a ha z
    · obtain ⟨o, e⟩ := r.sl.there a ha
      exact absurd (z.symm.trans e) (by simp), g.dm r.dm⟩
theorem RV.grow {v : V} {d : D} (h : RV K F H v d) (g : Grow F H F' H') : RV K F' H' v d := h.stay g.mono fun a o _ e => g.keep a o e
theorem RVs.grow {v : List V} {d : List D} (h : RVs K F H v d) (g : Grow F H F' H') : RVs K F' H' v d := h.stay g.mono fun a o _ e => g.keep a o e
theorem RV.step {v : V} {d : D} {σ : L2.St} {ρ : Env} {A A' : List Addr} (h : RV K F H v d) (r : Rep K F H B σ ρ A) (s : Step A F H A' F' H') : RV K F' H' v d := h.stay s.mono fun a o f e => s.keep a o e fun ha => r.nf a ha f
theorem RVs.step {v : List V} {d : List D} {σ : L2.St} {ρ : Env} {A A' : List Addr} (h : RVs K F H v d) (r : Rep K F H B σ ρ A) (s : Step A F H A' F' H') : RVs K F' H' v d := h.stay s.mono fun a o f e => s.keep a o e fun ha => r.nf a ha f
end
end U
namespace U
open PySem PySem.Spec PyProof.Rows L2
section
variable (K : PySem.W.Frag) (B : Bx) (W : WX)
def xend (σ : L2.St) (A : List Addr) (F : Fz) (H : Hp) (x : Ex) (ρ' : Env) : Prop := ∀ cls dd σ' F' H' A', Rep K F' H' B σ' ρ' A' → XV K F' H' x cls dd → Step A F H A' F' H' → σ'.length = σ.length → W cls dd σ' H'
def xendE (σ : L2.St) (A : List Addr) (F : Fz) (H : Hp) (x : Ex) (ρ' : Env) : Prop := ∀ cls dd F' H' A', Rep K F' H' B σ ρ' A' → XV K F' H' x cls dd → Step A F H A' F' H' → W cls dd σ H'
def tDE (f : E) : TE := fun σ H Q => ∃ F ρ A, Rep K F H B σ ρ A ∧ match f ρ with
  | .ok d ρ' => ∀ v F' H' A', Rep K F' H' B σ ρ' A' → RV K F' H' v d → Step A F H A' F' H' → Q v H'
  | .exc x ρ' => xendE K B W σ A F H x ρ'
  | .bad => False
def tDM (f : E) : TE := fun σ H Q => ∃ F ρ A, Rep K F H B σ ρ A ∧ match f ρ with
  | .ok d ρ' => ∀ v F' H' A' Ar, Rep K F' H' B σ ρ' A' → OV K F' H' v d Ar → (A' ++ Ar).Nodup → (∀ a ∈ Ar, ¬ F' a) → Step A F H (A' ++ Ar) F' H' → Q v H'
  | .exc x ρ' => xendE K B W σ A F H x ρ'
  | .bad => False
def tDT (f : E) : TT := fun σ H Q => ∃ F ρ A, Rep K F H B σ ρ A ∧ match f ρ with
  | .ok d ρ' => ∃ b, d = .bl b ∧ ∀ F' H' A', Rep K F' H' B σ ρ' A' → Step A F H A' F' H' → Q b H'
  | .exc x ρ' => xendE K B W σ A F H x ρ'
  | .bad => False
def tDA (f : As) : TA := fun σ H Q => ∃ F ρ A, Rep K F H B σ ρ A ∧ match f ρ with
  | .ok ds ρ' => ∀ vs F' H' A', Rep K F' H' B σ ρ' A' → RVs K F' H' vs ds → Step A F H A' F' H' → Q vs H'
  | .exc x ρ' => xendE K B W σ A F H x ρ'
  | .bad => False
def AV (K : PySem.W.Frag) (F : Fz) (H : Hp) (σ : L2.St) : List V → List Arg → Prop
  | [], [] => True
  | v :: vs, .v d :: l => RV K F H v d ∧ AV K F H σ vs l
  | v :: vs, .b i :: l => σ[i]? = some (some v) ∧ AV K F H σ vs l
  | _, _ => False
def tDG (g : List Ag) : TA := fun σ H Q => ∃ F ρ A, Rep K F H B σ ρ A ∧ match evAg g ρ with
  | .ok l ρ' => ∀ vs F' H' A', Rep K F' H' B σ ρ' A' → AV K F' H' σ vs l → Step A F H A' F' H' → Q vs H'
  | .exc x ρ' => xendE K B W σ A F H x ρ'
  | .bad => False
def tDS (f : St) : TS := fun D σ H => ∃ F ρ A, Rep K F H B σ ρ A ∧ match f ρ with
  | .nx ρ' => ∀ σ' F' H' A', Rep K F' H' B σ' ρ' A' → Step A F H A' F' H' → σ'.length = σ.length → D.nx σ' H'
  | .bk ρ' => ∀ σ' F' H' A', Rep K F' H' B σ' ρ' A' → Step A F H A' F' H' → σ'.length = σ.length → D.bk σ' H'
  | .ct ρ' => ∀ σ' F' H' A', Rep K F' H' B σ' ρ' A' → Step A F H A' F' H' → σ'.length = σ.length → D.ct σ' H'
  | .rt d ρ' => ∀ v σ' F' H' A' Ar, Rep K F' H' B σ' ρ' A' → OV K F' H' v d Ar → (A' ++ Ar).Nodup → (∀ a ∈ Ar, ¬ F' a) → Step A F H (A' ++ Ar) F' H' → σ'.length = σ.length → D.rt v H'
  | .ex x ρ' => xend K B W σ A F H x ρ'
  | .bad => False
end
theorem xendE.before {K : PySem.W.Frag} {B : Bx} {W : WX} {σ : L2.St} {A A1 : List Addr} {F F1 : Fz} {H H1 : Hp} {x : Ex} {ρ' : Env} (h : xendE K B W σ A F H x ρ') (s : Step A F H A1 F1 H1) : xendE K B W σ A1 F1 H1 x ρ' :=
  fun cls dd F' H' A' r x t => h cls dd F' H' A' r x (s.trans t)
theorem xendE.xend {K : PySem.W.Frag} {B : Bx} {W : WX} {σ : L2.St} {A : List Addr} {F : Fz} {H : Hp} {x : Ex} {ρ' : Env} (h : U.xend K B W σ A F H x ρ') : xendE K B W σ A F H x ρ' :=
  fun cls dd F' H' A' r x t => h cls dd σ F' H' A' r x t rfl
section
variable {X : Cx} {e : Expr} {K : PySem.W.Frag} {B : Bx} {W : WX}
theorem _root_.L2.PE.weak {t t' : TE} (h : PE X e t) (w : ∀ σ H Q, t' σ H Q → t σ H Q) : PE X e t' := ⟨fun pins s σ H Q I q => h.run pins s σ H Q I (w σ H Q q)⟩
theorem _root_.L2.PT.weak {t t' : TT} (h : PT X e t) (w : ∀ σ H Q, t' σ H Q → t σ H Q) : PT X e t' := ⟨fun pins s σ H Q I q => h.run pins s σ H Q I (w σ H Q q)⟩
theorem _root_.L2.PW.weak {t t' : TT} (h : PW X e t) (w : ∀ σ H Q, t' σ H Q → t σ H Q) : PW X e t' := ⟨fun wh pins s σ H Q I q => h.run wh pins s σ H Q I (w σ H Q q)⟩
theorem _root_.L2.PA.weak {es : List Expr} {t t' : TA} (h : PA X es t) (w : ∀ σ H Q, t' σ H Q → t σ H Q) : PA X es t' := ⟨fun p pins s σ H Q I q => h.run p pins s σ H Q I (w σ H Q q)⟩
theorem _root_.L2.PS.weak {st : Stmt} {t t' : TS} (h : PS X st t) (w : ∀ D σ H, t' D σ H → t D σ H) : PS X st t' := ⟨fun pins s σ H D I q => h.run pins s σ H D I (w D σ H q)⟩
theorem _root_.L2.PSs.weak {st : List Stmt} {t t' : TS} (h : PSs X st t) (w : ∀ D σ H, t' D σ H → t D σ H) : PSs X st t' := ⟨fun pins s σ H D I q => h.run pins s σ H D I (w D σ H q)⟩
def P1 (K : PySem.W.Frag) (o : D → Option D) (r : V → Hp → VK → Prop) : Prop := ∀ (F : Fz) (H : Hp) (x : V) (a d : D) (Q : VK), RV K F H x a → o a = some d → (∀ v F' H', Grow F H F' H' → RV K F' H' v d → Q v H') → r x H Q
def P2 (K : PySem.W.Frag) (o : D → D → Option D) (r : R2) : Prop := ∀ (F : Fz) (H : Hp) (x y : V) (a b d : D) (Q : VK), RV K F H x a → RV K F H y b → o a b = some d → (∀ v F' H', Grow F H F' H' → RV K F' H' v d → Q v H') → r x y H Q
def PN (K : PySem.W.Frag) (o : List D → Option D) (r : List V → Hp → VK → Prop) : Prop := ∀ (F : Fz) (H : Hp) (xs : List V) (ds : List D) (d : D) (Q : VK), RVs K F H xs ds → o ds = some d → (∀ v F' H', Grow F H F' H' → RV K F' H' v d → Q v H') → r xs H Q
theorem ok_inv {o : Option D} {ρ : Env} {Φ : D → Env → Prop} {Ψ : Ex → Env → Prop} (h : match lift o ρ with | .ok d ρ' => Φ d ρ' | .exc x ρ' => Ψ x ρ' | .bad => False) : ∃ d, o = some d ∧ Φ d ρ := by
  cases o with
  | none => exact h.elim
  | some d => exact ⟨d, rfl, h⟩
theorem w_op {o : D → D → Option D} {r : R2} {f g : E} (p : P2 K o r) (σ : L2.St) (H : Hp) (Q : VK) (h : tDE K B W (eOp o f g) σ H Q) : tOp r (tDE K B W f) (tDE K B W g) σ H Q := by
  obtain ⟨F, ρ, A, rp, h⟩ := h
  refine ⟨F, ρ, A, rp, ?_⟩
  unfold eOp at h
  cases e1 : f ρ with
  | bad => rw [e1] at h; exact h
  | exc x ρ1 => rw [e1] at h; exact h
  | ok d1 ρ1 =>
    rw [e1] at h
    intro v1 F1 H1 A1 r1 v1r s1
    refine ⟨F1, ρ1, A1, r1, ?_⟩
    simp only [ER.bind] at h
    cases e2 : g ρ1 with
    | bad => rw [e2] at h; exact h
    | exc x ρ2 => rw [e2] at h; exact h.before s1
    | ok d2 ρ2 =>
      rw [e2] at h
      intro v2 F2 H2 A2 r2 v2r s2
      obtain ⟨d, ed, h⟩ := ok_inv h
      refine p F2 H2 v1 v2 d1 d2 d Q (v1r.step r1 s2) v2r ed fun v F' H' g vr => h v F' H' A2 (r2.grow g) vr ((s1.trans s2).trans g.step)
theorem w_un {o : D → Option D} {r : V → Hp → VK → Prop} {f : E} (p : P1 K o r) (σ : L2.St) (H : Hp) (Q : VK) (h : tDE K B W (eUn o f) σ H Q) : tUn r (tDE K B W f) σ H Q := by
  obtain ⟨F, ρ, A, rp, h⟩ := h
  refine ⟨F, ρ, A, rp, ?_⟩
  unfold eUn at h
  cases e1 : f ρ with
  | bad => rw [e1] at h; exact h
  | exc x ρ1 => rw [e1] at h; exact h
  | ok d1 ρ1 =>
    rw [e1] at h
    intro v1 F1 H1 A1 r1 v1r s1
    obtain ⟨d, ed, h⟩ := ok_inv h
    exact p F1 H1 v1 d1 d Q v1r ed fun v F' H' g vr => h v F' H' A1 (r1.grow g) vr (s1.trans g.step)
theorem w_n {o : List D → Option D} {r : List V → Hp → VK → Prop} {f : As} (p : PN K o r) (σ : L2.St) (H : Hp) (Q : VK) (h : tDE K B W (eN o f) σ H Q) : tCB r (tDA K B W f) σ H Q := by
  obtain ⟨F, ρ, A, rp, h⟩ := h
  refine ⟨F, ρ, A, rp, ?_⟩
  unfold eN at h
  cases e1 : f ρ with
  | bad => rw [e1] at h; exact h
  | exc x ρ1 => rw [e1] at h; exact h
  | ok d1 ρ1 =>
    rw [e1] at h
    intro v1 F1 H1 A1 r1 v1r s1
    obtain ⟨d, ed, h⟩ := ok_inv h
    exact p F1 H1 v1 d1 d Q v1r ed fun v F' H' g vr => h v F' H' A1 (r1.grow g) vr (s1.trans g.step)
theorem w_anil (σ : L2.St) (H : Hp) (Q : List V → Hp → Prop) (h : tDA K B W aNil σ H Q) : tNil σ H Q := by
  obtain ⟨F, ρ, A, rp, h⟩ := h
  exact h [] F H A rp (by simp only [RVs]) Step.refl
theorem w_acons {f : E} {r : As} (σ : L2.St) (H : Hp) (Q : List V → Hp → Prop) (h : tDA K B W (aCons f r) σ H Q) : tCons (tDE K B W f) (tDA K B W r) σ H Q := by
  obtain ⟨F, ρ, A, rp, h⟩ := h
  refine ⟨F, ρ, A, rp, ?_⟩
  unfold aCons at h
  cases e1 : f ρ with
  | bad => rw [e1] at h; exact h
  | exc x ρ1 => rw [e1] at h; exact h
  | ok d1 ρ1 =>
    rw [e1] at h
    intro v1 F1 H1 A1 r1 v1r s1
    refine ⟨F1, ρ1, A1, r1, ?_⟩
    simp only [ER.bindA] at h
    cases e2 : r ρ1 with
    | bad => rw [e2] at h; exact h
    | exc x ρ2 => rw [e2] at h; exact h.before s1
    | ok d2 ρ2 =>
      rw [e2] at h
      intro v2 F2 H2 A2 r2 v2r s2
      exact h (v1 :: v2) F2 H2 A2 r2 (by simp only [RVs]; exact ⟨v1r.step r1 s2, v2r⟩) (s1.trans s2)
theorem rd_some {o : Option (Option D)} {d : D} (h : rd o = some d) : o = some (some d) ∧ d.isMut = false := by
  unfold rd at h
  split at h
  · cases h
  · cases h
  · cases h
    rename_i d' hn hn2
    refine ⟨rfl, ?_⟩
    cases d with
    | own t d' => exact absurd rfl (hn t d')
    | exn c ns ds => exact absurd rfl (hn2 c ns ds)
    | _ => rfl
  · cases h
theorem w_var {i : Nat} (σ : L2.St) (H : Hp) (Q : VK) (h : tDE K B W (eVar i) σ H Q) : tVar i σ H Q := by
  obtain ⟨F, ρ, A, rp, h⟩ := h
  obtain ⟨d, ed, h⟩ := ok_inv h
  obtain ⟨eo, hm⟩ := rd_some ed
  obtain ⟨v, A1, hv, ov, _⟩ := rp.sl.get eo
  exact ⟨v, hv, h v F H A rp (ov.plain hm).2 Step.refl⟩
theorem w_c {v : V} {d : D} (p : ∀ F H, RV K F H v d) (σ : L2.St) (H : Hp) (Q : VK) (h : tDE K B W (eC d) σ H Q) : tC v σ H Q := by
  obtain ⟨F, ρ, A, rp, h⟩ := h
  exact h v F H A rp (p F H) Step.refl
theorem w_and {f g : E} (σ : L2.St) (H : Hp) (Q : VK) (h : tDE K B W (eAnd f g) σ H Q) : tAndV (tDE K B W f) (tDE K B W g) σ H Q := by
  obtain ⟨F, ρ, A, rp, h⟩ := h
  refine ⟨F, ρ, A, rp, ?_⟩
  unfold eAnd at h
  cases e1 : f ρ with
  | bad => rw [e1] at h; exact h
  | exc x ρ1 => rw [e1] at h; exact h
  | ok d1 ρ1 =>
    rw [e1] at h
    intro v1 F1 H1 A1 r1 v1r s1
    cases d1 with
    | bl b =>
      simp only [RV] at v1r
      refine ⟨b, v1r, ?_⟩
      cases b with
      | true =>
        rw [if_pos rfl]
        refine ⟨F1, ρ1, A1, r1, ?_⟩
        simp only [ER.bind] at h
        cases e2 : g ρ1 with
        | bad => rw [e2] at h; exact h
        | exc x ρ2 => rw [e2] at h; exact h.before s1
        | ok d2 ρ2 =>
          rw [e2] at h
          intro v2 F2 H2 A2 r2 v2r s2
          exact h v2 F2 H2 A2 r2 v2r (s1.trans s2)
      | false =>
        rw [if_neg (by decide)]
        exact h (.bl false) F1 H1 A1 r1 (by simp only [RV]) s1
    | _ => exact h.elim
theorem w_tv {f : E} (σ : L2.St) (H : Hp) (Q : Bool → Hp → Prop) (h : tDT K B W f σ H Q) : tTest (tDE K B W f) σ H Q := by
  obtain ⟨F, ρ, A, rp, h⟩ := h
  refine ⟨F, ρ, A, rp, ?_⟩
  cases e1 : f ρ with
  | bad => rw [e1] at h; exact h
  | exc x ρ1 => rw [e1] at h; exact h
  | ok d1 ρ1 =>
    rw [e1] at h
    obtain ⟨b, rfl, h⟩ := h
    intro v1 F1 H1 A1 r1 v1r s1
    simp only [RV] at v1r
    exact ⟨b, v1r, h F1 H1 A1 r1 s1⟩
theorem w_tor {f g : E} (σ : L2.St) (H : Hp) (Q : Bool → Hp → Prop) (h : tDT K B W (eOr f g) σ H Q) : tOr (tDT K B W f) (tDT K B W g) σ H Q := by
  obtain ⟨F, ρ, A, rp, h⟩ := h
  refine ⟨F, ρ, A, rp, ?_⟩
  unfold eOr at h
  cases e1 : f ρ with
  | bad => rw [e1] at h; exact h
  | exc x ρ1 => rw [e1] at h; exact h
  | ok d1 ρ1 =>
    rw [e1] at h
    cases d1 with
    | bl b =>
      refine ⟨b, rfl, fun F1 H1 A1 r1 s1 => ?_⟩
      cases b with
      | false =>
        rw [if_neg (by decide)]
        refine ⟨F1, ρ1, A1, r1, ?_⟩
        simp only [ER.bind] at h
        cases e2 : g ρ1 with
        | bad => rw [e2] at h; exact h
        | exc x ρ2 => rw [e2] at h; exact h.before s1
        | ok d2 ρ2 =>
          rw [e2] at h
          obtain ⟨b2, rfl, h⟩ := h
          exact ⟨b2, rfl, fun F2 H2 A2 r2 s2 => h F2 H2 A2 r2 (s1.trans s2)⟩
      | true =>
        rw [if_pos rfl]
        obtain ⟨b2, eb, h⟩ := h
        cases eb
        exact h F1 H1 A1 r1 s1
    | _ => exact h.elim
theorem w_tnot {f : E} (σ : L2.St) (H : Hp) (Q : Bool → Hp → Prop) (h : tDT K B W (eUn oNot f) σ H Q) : L2.tNot (tDT K B W f) σ H Q := by
  obtain ⟨F, ρ, A, rp, h⟩ := h
  refine ⟨F, ρ, A, rp, ?_⟩
  unfold eUn at h
  cases e1 : f ρ with
  | bad => rw [e1] at h; exact h
  | exc x ρ1 => rw [e1] at h; exact h
  | ok d1 ρ1 =>
    rw [e1] at h
    cases d1 with
    | bl b =>
      obtain ⟨b2, eb, h⟩ := h
      cases eb
      exact ⟨b, rfl, fun F1 H1 A1 r1 s1 => h F1 H1 A1 r1 s1⟩
    | _ => exact h.elim
theorem w_not {f : E} (σ : L2.St) (H : Hp) (Q : VK) (h : tDE K B W (eUn oNot f) σ H Q) : tNotV (tDE K B W f) σ H Q := by
  obtain ⟨F, ρ, A, rp, h⟩ := h
  refine ⟨F, ρ, A, rp, ?_⟩
  unfold eUn at h
  cases e1 : f ρ with
  | bad => rw [e1] at h; exact h
  | exc x ρ1 => rw [e1] at h; exact h
  | ok d1 ρ1 =>
    rw [e1] at h
    intro v1 F1 H1 A1 r1 v1r s1
    cases d1 with
    | bl b =>
      simp only [RV] at v1r
      exact ⟨b, v1r, h (.bl (!b)) F1 H1 A1 r1 (by simp only [RV]) s1⟩
    | _ => exact h.elim
theorem w_if {c f g : E} (σ : L2.St) (H : Hp) (Q : VK) (h : tDE K B W (eIf c f g) σ H Q) : tIf (tDT K B W c) (tDE K B W f) (tDE K B W g) σ H Q := by
  obtain ⟨F, ρ, A, rp, h⟩ := h
  refine ⟨F, ρ, A, rp, ?_⟩
  unfold eIf at h
  cases e1 : c ρ with
  | bad => rw [e1] at h; exact h
  | exc x ρ1 => rw [e1] at h; exact h
  | ok d1 ρ1 =>
    rw [e1] at h
    cases d1 with
    | bl b =>
      refine ⟨b, rfl, fun F1 H1 A1 r1 s1 => ?_⟩
      cases b with
      | true =>
        rw [if_pos rfl]
        refine ⟨F1, ρ1, A1, r1, ?_⟩
        simp only [ER.bind] at h
        cases e2 : f ρ1 with
        | bad => rw [e2] at h; exact h
        | exc x ρ2 => rw [e2] at h; exact h.before s1
        | ok d2 ρ2 =>
          rw [e2] at h
          exact fun v2 F2 H2 A2 r2 v2r s2 => h v2 F2 H2 A2 r2 v2r (s1.trans s2)
      | false =>
        rw [if_neg (by decide)]
        refine ⟨F1, ρ1, A1, r1, ?_⟩
        simp only [ER.bind] at h
        cases e2 : g ρ1 with
        | bad => rw [e2] at h; exact h
        | exc x ρ2 => rw [e2] at h; exact h.before s1
        | ok d2 ρ2 =>
          rw [e2] at h
          exact fun v2 F2 H2 A2 r2 v2r s2 => h v2 F2 H2 A2 r2 v2r (s1.trans s2)
    | _ => exact h.elim
end
end U
namespace U
open PySem PySem.Spec PyProof.Rows L2
section
variable {K : PySem.W.Frag} {B B' : Bx} {F F' : Fz} {H H' : Hp} {W : WX}
theorem Step.sub {A A' A'' : List Addr} (s : Step A F H A' F' H') (h : ∀ a ∈ A'', a ∈ A') : Step A F H A'' F' H' := ⟨s.mono, s.keep, s.froz, fun a ha => s.own a (h a ha)⟩
theorem Rep.put {σ : L2.St} {ρ ρ' : Env} {A Ar : List Addr} {i : Nat} {v : V} {d : D} (r : Rep K F H B σ ρ A) (o : OV K F H v d Ar) (nd : (A ++ Ar).Nodup) (nf : ∀ a ∈ Ar, ¬ F a) (e : U.put i d ρ = some ρ') :
    ∃ A', Rep K F H B (σ.set i (some v)) ρ' A' ∧ ∀ a ∈ A', a ∈ A ++ Ar := by
  have he : ∃ c, ρ[i]? = some c ∧ ρ' = ρ.set i (some d) := by
    unfold U.put at e
    split at e
    · cases e
    · rename_i x hx hn
      cases e
      exact ⟨x, by assumption, rfl⟩
    · cases e
  obtain ⟨c, hc, rfl⟩ := he
  obtain ⟨v0, A1, L, R, h1, h2, h3, h4⟩ := r.sl.split hc
  subst h3
  refine ⟨L ++ Ar ++ R, ⟨h4 (fun _ h => h) (fun _ _ _ h => h) (by simp only [OVo]; exact o.op), ?_, fun a ha => ?_, r.dm⟩, fun a ha => ?_⟩
  · simp only [List.nodup_append, List.mem_append] at nd ⊢
    obtain ⟨⟨⟨n1, n2, n3⟩, n4, n5⟩, n6, n7⟩ := nd
    refine ⟨⟨n1, n6, fun a ha b hb e => n7 a (.inl (.inl ha)) b hb e⟩, n4, fun a ha b hb e => ?_⟩
    rcases ha with ha | ha
    · exact n5 a (.inl ha) b hb e
    · exact n7 b (.inr hb) a ha e.symm
  · simp only [List.mem_append] at ha
    rcases ha with (ha | ha) | ha
    · exact r.nf a (by simp [ha])
    · exact nf a ha
    · exact r.nf a (by simp [ha])
  · simp only [List.mem_append] at ha ⊢
    rcases ha with (ha | ha) | ha
    · exact .inl (.inl (.inl ha))
    · exact .inr ha
    · exact .inl (.inr ha)
theorem Rep.putP {σ : L2.St} {ρ ρ' : Env} {A : List Addr} {i : Nat} {v : V} {d : D} (r : Rep K F H B σ ρ A) (o : RV K F H v d) (e : U.put i d ρ = some ρ') :
    ∃ A', Rep K F H B (σ.set i (some v)) ρ' A' ∧ ∀ a ∈ A', a ∈ A := by
  obtain ⟨A', h1, h2⟩ := r.put (Ar := []) o.own (by simpa using r.nd) (fun a h => by cases h) e
  exact ⟨A', h1, fun a ha => by simpa using h2 a ha⟩
def send (K : PySem.W.Frag) (B : Bx) (W : WX) (D : Ends) (σ : L2.St) (A : List Addr) (F : Fz) (H : Hp) (r : Fl) : Prop := match r with
  | .nx ρ' => ∀ σ' F' H' A', Rep K F' H' B σ' ρ' A' → Step A F H A' F' H' → σ'.length = σ.length → D.nx σ' H'
  | .bk ρ' => ∀ σ' F' H' A', Rep K F' H' B σ' ρ' A' → Step A F H A' F' H' → σ'.length = σ.length → D.bk σ' H'
  | .ct ρ' => ∀ σ' F' H' A', Rep K F' H' B σ' ρ' A' → Step A F H A' F' H' → σ'.length = σ.length → D.ct σ' H'
  | .rt d ρ' => ∀ v σ' F' H' A' Ar, Rep K F' H' B σ' ρ' A' → OV K F' H' v d Ar → (A' ++ Ar).Nodup → (∀ a ∈ Ar, ¬ F' a) → Step A F H (A' ++ Ar) F' H' → σ'.length = σ.length → D.rt v H'
  | .ex x ρ' => xend K B W σ A F H x ρ'
  | .bad => False
theorem send.before {D : Ends} {σ σ1 : L2.St} {A A1 : List Addr} {F1 : Fz} {H1 : Hp} {r : Fl} (h : send K B W D σ A F H r) (s : Step A F H A1 F1 H1) (l : σ1.length = σ.length) : send K B W D σ1 A1 F1 H1 r := by
  cases r with
  | nx ρ' => exact fun σ' F' H' A' r t e => h σ' F' H' A' r (s.trans t) (e.trans l)
  | bk ρ' => exact fun σ' F' H' A' r t e => h σ' F' H' A' r (s.trans t) (e.trans l)
  | ct ρ' => exact fun σ' F' H' A' r t e => h σ' F' H' A' r (s.trans t) (e.trans l)
  | rt d ρ' => exact fun v σ' F' H' A' Ar r o n nf t e => h v σ' F' H' A' Ar r o n nf (s.trans t) (e.trans l)
  | ex x ρ' => exact fun cls dd σ' F' H' A' r x t e => h cls dd σ' F' H' A' r x (s.trans t) (e.trans l)
  | bad => exact h
theorem xend.expr {σ : L2.St} {A : List Addr} {x : Ex} {ρ' : Env} (h : xend K B W σ A F H x ρ') : xendE K B W σ A F H x ρ' := fun cls dd F' H' A' r x t => h cls dd σ F' H' A' r x t rfl
theorem w_dm {f : E} (σ : L2.St) (H : Hp) (Q : VK) (h : tDM K B W f σ H Q) : tDE K B W f σ H Q := by
  obtain ⟨F, ρ, A, rp, h⟩ := h
  refine ⟨F, ρ, A, rp, ?_⟩
  cases e1 : f ρ with
  | bad => rw [e1] at h; exact h
  | exc x ρ1 => rw [e1] at h; exact h
  | ok d1 ρ1 =>
    rw [e1] at h
    exact fun v F' H' A' r o s => h v F' H' A' [] r o.own (by simpa using r.nd) (fun a ha => by cases ha) (by simpa using s)
theorem frz_ov {v : V} {d d' : D} {A Ar : List Addr} {σ : L2.St} {ρ : Env} (r : Rep K F H B σ ρ A) (o : OV K F H v d Ar) (nd : (A ++ Ar).Nodup) (e : frzD d = some d') :
    ∃ F', (∀ a, F a → F' a) ∧ (∀ a, F' a → F a ∨ a ∈ Ar) ∧ RV K F' H v d' ∧ (∀ a, F' a → ∃ o, H a = some o) := by
  have dm := r.dm
  have all : ∀ {vs : List V} {ds : List D} {A' : List Addr}, OVs K F H vs ds A' → allPlain ds = true → A' = [] ∧ RVs K F H vs ds := by
    intro vs
    induction vs with
    | nil =>
      intro ds A' h hp
      cases ds with
      | nil => simp only [OVs] at h; exact ⟨h, by simp only [RVs]⟩
      | cons d ds => simp only [OVs] at h
    | cons v vs ih =>
      intro ds A' h hp
      cases ds with
      | nil => simp only [OVs] at h
      | cons d ds =>
        simp only [OVs] at h
        obtain ⟨A1, A2, h1, h2, e⟩ := h
        simp only [allPlain, Bool.and_eq_true, Bool.not_eq_true'] at hp
        obtain ⟨z1, z2⟩ := h1.plain hp.1
        obtain ⟨z3, z4⟩ := ih h2 hp.2
        subst z1 z3
        exact ⟨e, by simp only [RVs]; exact ⟨z2, z4⟩⟩
  have pl : d.isMut = false → d' = d → ∃ F', (∀ a, F a → F' a) ∧ (∀ a, F' a → F a ∨ a ∈ Ar) ∧ RV K F' H v d' ∧ (∀ a, F' a → ∃ o, H a = some o) := fun hm ed => by
    subst ed
    exact ⟨F, fun _ h => h, fun _ h => .inl h, (o.plain hm).2, dm⟩
  have m1 : ∀ {a : Addr} {ob : HO}, H a = some ob → (∀ b, (fun z => F z ∨ z = a) b → ∃ o, H b = some o) := fun {a ob} h b hb => by
    rcases hb with hb | hb
    · exact dm b hb
    · rw [hb]; exact ⟨ob, h⟩
  cases d with
  | own t d =>
    cases t with
    | succ t => simp only [frzD] at e; cases e
    | zero =>
      cases d with
      | lst l =>
        simp only [frzD] at e
        by_cases hp : allPlain l = true
        · rw [if_pos hp] at e
          cases e
          simp only [OV] at o
          obtain ⟨a, vs, A', ev, hs, eA, ro⟩ := o
          obtain ⟨z1, z2⟩ := all ro hp
          subst z1 eA
          refine ⟨fun b => F b ∨ b = a, fun _ h => .inl h, fun b h => h.imp id fun z => by simp [z], ?_, m1 hs⟩
          simp only [RV]
          exact ⟨a, vs, ev, ⟨.inr rfl, hs⟩, z2.stay (fun _ h => .inl h) fun _ _ _ h => h⟩
        · rw [if_neg hp] at e; cases e
      | ins c ns l =>
        simp only [frzD] at e
        by_cases hp : allPlain l = true
        · rw [if_pos hp] at e
          cases e
          simp only [OV] at o
          obtain ⟨a, dx, fs, A', ev, hs, en, eA, ro⟩ := o
          obtain ⟨z1, z2⟩ := all ro hp
          subst z1 eA
          refine ⟨fun b => F b ∨ b = a, fun _ h => .inl h, fun b h => h.imp id fun z => by simp [z], ?_, m1 hs⟩
          simp only [RV]
          exact ⟨a, dx, fs, ev, .inr rfl, hs, en, z2.stay (fun _ h => .inl h) fun _ _ _ h => h⟩
        · rw [if_neg hp] at e; cases e
      | _ => simp only [OV] at o
  | non => exact pl rfl (by simp only [frzD] at e; exact (Option.some.inj e).symm)
  | bl b => exact pl rfl (by simp only [frzD] at e; exact (Option.some.inj e).symm)
  | int b => exact pl rfl (by simp only [frzD] at e; exact (Option.some.inj e).symm)
  | str b => exact pl rfl (by simp only [frzD] at e; exact (Option.some.inj e).symm)
  | tup b => exact pl rfl (by simp only [frzD] at e; exact (Option.some.inj e).symm)
  | lst b => exact pl rfl (by simp only [frzD] at e; exact (Option.some.inj e).symm)
  | ins c ns b => exact pl rfl (by simp only [frzD] at e; exact (Option.some.inj e).symm)
  | exn c ns b => simp only [frzD] at e; cases e
  | dic b => exact pl rfl (by simp only [frzD] at e; exact (Option.some.inj e).symm)
  | scr b => exact pl rfl (by simp only [frzD] at e; exact (Option.some.inj e).symm)
theorem w_frz {f : E} (σ : L2.St) (H : Hp) (Q : VK) (h : tDE K B W (eFrz f) σ H Q) : tDM K B W f σ H Q := by
  obtain ⟨F, ρ, A, rp, h⟩ := h
  refine ⟨F, ρ, A, rp, ?_⟩
  unfold eFrz at h
  cases e1 : f ρ with
  | bad => rw [e1] at h; exact h
  | exc x ρ1 => rw [e1] at h; exact h
  | ok d1 ρ1 =>
    rw [e1] at h
    obtain ⟨d, ed, h⟩ := ok_inv h
    intro v F' H' A' Ar r o nd nf s
    obtain ⟨F2, m, fz, rv, dm⟩ := frz_ov r o nd ed
    rw [List.nodup_append] at nd
    refine h v F2 H' A' ⟨r.sl.stay m fun _ _ _ h => h, r.nd, fun a ha hf => ?_, dm⟩ rv ⟨fun a ha => m a (s.mono a ha), s.keep, fun a ha => ?_, fun a ha => s.own a (List.mem_append_left _ ha)⟩
    · rcases fz a hf with z | z
      · exact r.nf a ha z
      · exact nd.2.2 a ha a z rfl
    · rcases fz a ha with z | z
      · exact s.froz a z
      · rcases s.own a (List.mem_append_right _ z) with q | q
        · exact .inr (.inr q)
        · exact .inr (.inl q)
theorem w_nil (D : Ends) (σ : L2.St) (H : Hp) (h : tDS K B W sNil D σ H) : tNext D σ H := by
  obtain ⟨F, ρ, A, rp, h⟩ := h
  exact h σ F H A rp Step.refl rfl
theorem w_seq {f g : U.St} (D : Ends) (σ : L2.St) (H : Hp) (h : tDS K B W (sSeq f g) D σ H) : tSeq (tDS K B W f) (tDS K B W g) D σ H := by
  obtain ⟨F, ρ, A, rp, h⟩ := h
  refine ⟨F, ρ, A, rp, ?_⟩
  unfold sSeq at h
  cases e1 : f ρ with
  | nx ρ1 =>
    rw [e1] at h
    exact fun σ1 F1 H1 A1 r1 s1 l1 => ⟨F1, ρ1, A1, r1, send.before (r := g ρ1) h s1 l1⟩
  | bk ρ1 => rw [e1] at h; exact h
  | ct ρ1 => rw [e1] at h; exact h
  | rt d ρ1 => rw [e1] at h; exact h
  | ex x ρ1 => rw [e1] at h; exact h
  | bad => rw [e1] at h; exact h
theorem w_ret {f : E} (D : Ends) (σ : L2.St) (H : Hp) (h : tDS K B W (sRet f) D σ H) : tRet (tDM K B W f) D σ H := by
  obtain ⟨F, ρ, A, rp, h⟩ := h
  refine ⟨F, ρ, A, rp, ?_⟩
  unfold sRet at h
  cases e1 : f ρ with
  | bad => rw [e1] at h; exact h
  | exc x ρ1 => rw [e1] at h; exact xend.expr h
  | ok d1 ρ1 =>
    rw [e1] at h
    exact fun v F' H' A' Ar r o nd nf s => h v σ F' H' A' Ar r o nd nf s rfl
theorem w_drop {f : E} (D : Ends) (σ : L2.St) (H : Hp) (h : tDS K B W (sDrop f) D σ H) : tDrop (tDM K B W f) D σ H := by
  obtain ⟨F, ρ, A, rp, h⟩ := h
  refine ⟨F, ρ, A, rp, ?_⟩
  unfold sDrop at h
  cases e1 : f ρ with
  | bad => rw [e1] at h; exact h
  | exc x ρ1 => rw [e1] at h; exact xend.expr h
  | ok d1 ρ1 =>
    rw [e1] at h
    exact fun v F' H' A' Ar r o nd nf s => h σ F' H' A' r (s.sub fun a ha => List.mem_append_left _ ha) rfl
theorem w_ifs {c : E} {f g : U.St} (D : Ends) (σ : L2.St) (H : Hp) (h : tDS K B W (sIf c f g) D σ H) : tIfS (tDT K B W c) (tDS K B W f) (tDS K B W g) D σ H := by
  obtain ⟨F, ρ, A, rp, h⟩ := h
  refine ⟨F, ρ, A, rp, ?_⟩
  unfold sIf at h
  cases e1 : c ρ with
  | bad => rw [e1] at h; exact h
  | exc x ρ1 => rw [e1] at h; exact xend.expr h
  | ok d1 ρ1 =>
    rw [e1] at h
    cases d1 with
    | bl b =>
      refine ⟨b, rfl, fun F1 H1 A1 r1 s1 => ?_⟩
      cases b with
      | true =>
        rw [if_pos rfl]
        exact ⟨F1, ρ1, A1, r1, send.before (r := f ρ1) h s1 rfl⟩
      | false =>
        rw [if_neg (by decide)]
        exact ⟨F1, ρ1, A1, r1, send.before (r := g ρ1) h s1 rfl⟩
    | _ => exact h.elim
theorem w_set {i : Nat} {f : E} (D : Ends) (σ : L2.St) (H : Hp) (h : tDS K B W (sSet i f) D σ H) : tAsg (tDM K B W f) (gName i) D σ H := by
  obtain ⟨F, ρ, A, rp, h⟩ := h
  refine ⟨F, ρ, A, rp, ?_⟩
  unfold sSet at h
  cases e1 : f ρ with
  | bad => rw [e1] at h; exact h
  | exc x ρ1 => rw [e1] at h; exact xend.expr h
  | ok d1 ρ1 =>
    rw [e1] at h
    intro v F' H' A' Ar r o nd nf s
    simp only [ER.binds] at h
    cases e2 : U.put i d1 ρ1 with
    | none => rw [e2] at h; exact h.elim
    | some ρ2 =>
      rw [e2] at h
      obtain ⟨A2, r2, sub⟩ := r.put o nd nf e2
      exact h _ F' H' A2 r2 (s.sub sub) (by simp)
def WG (K : PySem.W.Frag) (B : Bx) (ks : List Nat) (g : Tg) (tg : TG) : Prop := ∀ (F : Fz) (H : Hp) (σ : L2.St) (ρ ρ' : Env) (A : List Addr) (v : V) (d : D) (Q : L2.St → Hp → Prop), Rep K F H B σ ρ A → RV K F H v d → g d ρ = some ρ' →
  (∀ σ' A', Rep K F H B σ' ρ' A' → (∀ a ∈ A', a ∈ A) → σ'.length = σ.length → (∀ j, j ∉ ks → σ'[j]? = σ[j]?) → Q σ' H) → tg v σ H Q
def WGs (K : PySem.W.Frag) (B : Bx) (ks : List Nat) (gs : List Tg) (tg : TGs) : Prop := ∀ (F : Fz) (H : Hp) (σ : L2.St) (ρ ρ' : Env) (A : List Addr) (v : List V) (d : List D) (Q : L2.St → Hp → Prop), Rep K F H B σ ρ A → RVs K F H v d → gAll gs d ρ = some ρ' →
  (∀ σ' A', Rep K F H B σ' ρ' A' → (∀ a ∈ A', a ∈ A) → σ'.length = σ.length → (∀ j, j ∉ ks → σ'[j]? = σ[j]?) → Q σ' H) → tg v σ H Q
theorem wg_var {i : Nat} : WG K B [i] (gVar i) (gName i) := fun F H σ ρ ρ' A v d Q r o e h => by
  obtain ⟨A', r', sub⟩ := r.putP o e
  exact h _ A' r' sub (by simp) fun j hj => by
    rw [List.getElem?_set_ne]
    intro z; exact hj (by simp [z])
theorem wg_nil : WGs K B [] [] gNil := fun F H σ ρ ρ' A v d Q r o e h => by
  cases d with
  | nil =>
    cases v with
    | nil =>
      simp only [gAll] at e
      cases e
      exact ⟨rfl, h σ A r (fun a ha => ha) rfl fun _ _ => rfl⟩
    | cons v vs => simp only [RVs] at o
  | cons d ds => simp only [gAll] at e; cases e
theorem wg_cons {g : Tg} {gs : List Tg} {t : TG} {ts : TGs} {k1 k2 : List Nat} (h1 : WG K B k1 g t) (h2 : WGs K B k2 gs ts) : WGs K B (k1 ++ k2) (g :: gs) (gCons t ts) := fun F H σ ρ ρ' A v d Q r o e h => by
  cases d with
  | nil => simp only [gAll] at e; cases e
  | cons d ds =>
    cases v with
    | nil => simp only [RVs] at o
    | cons v vs =>
      simp only [RVs] at o
      simp only [gAll] at e
      cases e1 : g d ρ with
      | none => rw [e1] at e; cases e
      | some ρ1 =>
        rw [e1] at e
        refine ⟨v, vs, rfl, h1 F H σ ρ ρ1 A v d _ r o.1 e1 fun σ1 A1 r1 s1 l1 j1 => ?_⟩
        exact h2 F H σ1 ρ1 ρ' A1 vs ds Q r1 o.2 e fun σ2 A2 r2 s2 l2 j2 => h σ2 A2 r2 (fun a ha => s1 a (s2 a ha)) (l2.trans l1) fun j hj => (j2 j fun z => hj (List.mem_append_right _ z)).trans (j1 j fun z => hj (List.mem_append_left _ z))
theorem RVs.len : ∀ {vs : List V} {ds : List D}, RVs K F H vs ds → vs.length = ds.length
  | [], [], _ => rfl
  | _ :: _, _ :: _, h => by simp only [RVs] at h; simp [RVs.len h.2]
  | [], _ :: _, h => by simp only [RVs] at h
  | _ :: _, [], h => by simp only [RVs] at h
theorem gAll_len : ∀ {gs : List Tg} {ds : List D} {ρ ρ' : Env}, gAll gs ds ρ = some ρ' → ds.length = gs.length
  | [], [], _, _, _ => rfl
  | _ :: _, _ :: _, _, _, h => by
    simp only [gAll] at h
    obtain ⟨ρ1, _, h2⟩ := Option.bind_eq_some_iff.mp h
    simp [gAll_len h2]
  | [], _ :: _, _, _, h => by simp only [gAll] at h; cases h
  | _ :: _, [], _, _, h => by simp only [gAll] at h; cases h
theorem wg_tup {gs : List Tg} {ts : TGs} {n : Nat} {ks : List Nat} (hn : gs.length = n) (h2 : WGs K B ks gs ts) : WG K B ks (U.gTup gs) (L2.gTup K n ts) := fun F H σ ρ ρ' A v d Q r o e h => by
  cases d with
  | tup ds =>
    simp only [RV] at o
    obtain ⟨a, vs, ev, sq, rs⟩ := o
    exact ⟨a, vs, ev, sq.seq, by rw [rs.len, gAll_len e, hn], h2 F H σ ρ ρ' A vs ds Q r rs e h⟩
  | _ => simp only [U.gTup] at e; cases e
theorem w_asg {f : E} {g : Tg} {tg : TG} {ks : List Nat} (hg : WG K B ks g tg) (D : Ends) (σ : L2.St) (H : Hp) (h : tDS K B W (sAsg f g) D σ H) : tAsg (tDE K B W f) tg D σ H := by
  obtain ⟨F, ρ, A, rp, h⟩ := h
  refine ⟨F, ρ, A, rp, ?_⟩
  unfold sAsg at h
  cases e1 : f ρ with
  | bad => rw [e1] at h; exact h
  | exc x ρ1 => rw [e1] at h; exact xend.expr h
  | ok d1 ρ1 =>
    rw [e1] at h
    intro v F' H' A' r o s
    simp only [ER.binds] at h
    cases e2 : g d1 ρ1 with
    | none => rw [e2] at h; exact h.elim
    | some ρ2 =>
      rw [e2] at h
      exact hg F' H' σ ρ1 ρ2 A' v d1 D.nx r o e2 fun σ2 A2 r2 sub l2 _ => h σ2 F' H' A2 r2 (s.sub sub) l2
theorem w_par2 {i j : Nat} {f : As} (D : Ends) (σ : L2.St) (H : Hp) (h : tDS K B W (sPar [i, j] f) D σ H) : tPar i j (tDA K B W f) D σ H := by
  obtain ⟨F, ρ, A, rp, h⟩ := h
  refine ⟨F, ρ, A, rp, ?_⟩
  unfold sPar at h
  cases e1 : f ρ with
  | bad => rw [e1] at h; exact h
  | exc x ρ1 => rw [e1] at h; exact xend.expr h
  | ok ds ρ1 =>
    rw [e1] at h
    intro vs F' H' A' r o s
    match ds, vs, o, h with
    | [d1, d2], [v1, v2], o, h =>
      simp only [RVs] at o
      simp only [putAll] at h
      cases e2 : U.put i d1 ρ1 with
      | none => rw [e2] at h; exact h.elim
      | some ρ2 =>
        rw [e2] at h
        simp only [Option.bind_some] at h
        cases e3 : U.put j d2 ρ2 with
        | none => rw [e3] at h; exact h.elim
        | some ρ3 =>
          rw [e3] at h
          obtain ⟨A2, r2, sub2⟩ := r.putP o.1 e2
          obtain ⟨A3, r3, sub3⟩ := r2.putP o.2.1 e3
          exact ⟨v1, v2, rfl, h _ F' H' A3 r3 (s.sub fun a ha => sub2 a (sub3 a ha)) (by simp)⟩
    | [], _, _, h => exact h.elim
    | [_], _, _, h => simp only [putAll, Option.bind_fun_none] at h
    | _ :: _ :: _ :: _, _, _, h =>
      simp only [putAll] at h
      cases e2 : U.put i _ ρ1 with
      | none => rw [e2] at h; exact h.elim
      | some ρ2 =>
        rw [e2] at h
        simp only [Option.bind_some] at h
        cases e3 : U.put j _ ρ2 with
        | none => rw [e3] at h; exact h.elim
        | some ρ3 => rw [e3] at h; exact h.elim
    | [_, _], [], o, _ => simp only [RVs] at o
    | [_, _], [_], o, _ => simp only [RVs] at o; exact o.2.elim
    | [_, _], _ :: _ :: _ :: _, o, _ => simp only [RVs] at o; exact o.2.2.elim
def PI2 (K : PySem.W.Frag) (o : D → D → Option D) (r : TIp) : Prop := ∀ (F : Fz) (H : Hp) (x y : V) (a b d : D) (Q : VK), RV K F H x a → RV K F H y b → o a b = some d → (∀ v F' H', Grow F H F' H' → RV K F' H' v d → Q v H') → r x y H Q
theorem w_aug {i : Nat} {o : D → D → Option D} {f : E} {ti : TIp} (p : PI2 K o ti) (D : Ends) (σ : L2.St) (H : Hp) (h : tDS K B W (sAug i o f) D σ H) : tAug i (tDE K B W f) ti D σ H := by
  obtain ⟨F, ρ, A, rp, h⟩ := h
  unfold sAug at h
  cases e0 : rd ρ[i]? with
  | none => rw [e0] at h; exact h.elim
  | some d0 =>
    rw [e0] at h
    obtain ⟨eo, hm⟩ := rd_some e0
    obtain ⟨v0, A1, hv, ov, _⟩ := rp.sl.get eo
    refine ⟨v0, hv, F, ρ, A, rp, ?_⟩
    cases e1 : f ρ with
    | bad => rw [e1] at h; exact h
    | exc x ρ1 => rw [e1] at h; exact xend.expr h
    | ok d1 ρ1 =>
      rw [e1] at h
      intro v F' H' A' r ov1 s
      simp only [ER.binds] at h
      cases e2 : o d0 d1 with
      | none => rw [e2] at h; exact h.elim
      | some z =>
        rw [e2] at h
        simp only at h
        cases e3 : U.put i z ρ1 with
        | none => rw [e3] at h; exact h.elim
        | some ρ2 =>
          rw [e3] at h
          refine p F' H' v0 v d0 d1 z _ ((ov.plain hm).2.step rp s) ov1 e2 fun w F2 H2 g rw_ => ?_
          obtain ⟨A2, r2, sub2⟩ := (r.grow g).putP rw_ e3
          exact h _ F2 H2 A2 r2 ((s.trans g.step).sub sub2) (by simp)
end
end U
namespace U
open PySem PySem.Spec PyProof.Rows L2
section
variable {K : PySem.W.Frag} {B : Bx} {F F' : Fz} {H H' : Hp} {W : WX}
def Yl (K : PySem.W.Frag) (J : It) (F : Fz) (H : Hp) (ds : List D) : Prop := ∀ (F' : Fz) (H' : Hp), (∀ a, F a → F' a) → (∀ a o, F a → H a = some o → H' a = some o) →
  (∀ i d, ds[i]? = some d → J.go i H' ∧ ∀ x H'', J.yld i H' x H'' → ∃ F'', Grow F' H' F'' H'' ∧ RV K F'' H'' x d) ∧ ∀ i, ds.length ≤ i → J.stop i H'
theorem Yl.later {J : It} {ds : List D} (y : Yl K J F H ds) (m : ∀ a, F a → F' a) (k : ∀ a o, F a → H a = some o → H' a = some o) (dm : ∀ a, F a → ∃ o, H a = some o) : Yl K J F' H' ds := fun F2 H2 m2 k2 =>
  y F2 H2 (fun a h => m2 a (m a h)) fun a o f e => k2 a o (m a f) (k a o f e)
def tDI (K : PySem.W.Frag) (B : Bx) (W : WX) (f : Is) : TI := fun σ H R => ∃ F ρ A, Rep K F H B σ ρ A ∧ match f ρ with
  | .ok ds ρ' => ∀ J F' H' A', Rep K F' H' B σ ρ' A' → Yl K J F' H' ds → Step A F H A' F' H' → R J H'
  | .exc x ρ' => xendE K B W σ A F H x ρ'
  | .bad => False
theorem w_for {it : Is} {g : Tg} {tg : TG} {b : U.St} {ks : List Nat} (hg : WG K B ks g tg) (D : Ends) (σ : L2.St) (H : Hp) (h : tDS K B W (sFor it g b) D σ H) : tFor (tDI K B W it) tg (tDS K B W b) D σ H := by
  obtain ⟨F, ρ, A, rp, h⟩ := h
  refine ⟨F, ρ, A, rp, ?_⟩
  unfold sFor at h
  cases e1 : it ρ with
  | bad => rw [e1] at h; exact h
  | exc x ρ1 => rw [e1] at h; exact xend.expr h
  | ok ds ρ1 =>
    rw [e1] at h
    intro J F1 H1 A1 r1 y s1
    have h1 : send K B W D σ A1 F1 H1 (forL g b ds ρ1) := send.before h s1 rfl
    refine ⟨fun i m σ' H' => m + i = ds.length ∧ σ'.length = σ.length ∧ ∃ F' ρ' A', Rep K F' H' B σ' ρ' A' ∧ Step A1 F1 H1 A' F' H' ∧ send K B W D σ' A' F' H' (forL g b (ds.drop i) ρ'), ⟨ds.length, rfl, rfl, F1, ρ1, A1, r1, Step.refl, h1⟩, ?_⟩
    rintro i m σ2 H2 ⟨em, l2, F2, ρ2, A2, r2, s2, h2⟩
    have yy := y F2 H2 s2.mono fun a o f e => s2.keep a o e fun ha => r1.nf a ha f
    by_cases hi : i < ds.length
    · right
      have hd : ds.drop i = ds[i] :: ds.drop (i + 1) := List.drop_eq_getElem_cons hi
      obtain ⟨go, yl⟩ := yy.1 i ds[i] (List.getElem?_eq_getElem hi)
      rw [hd] at h2
      simp only [forL] at h2
      refine ⟨go, ?_⟩
      cases e2 : g ds[i] ρ2 with
      | none => rw [e2] at h2; exact h2.elim
      | some ρ3 =>
        rw [e2] at h2
        simp only at h2
        refine ⟨fun σ' H' => σ'.length = σ.length ∧ ∃ F' ρ' A', Rep K F' H' B σ' ρ' A' ∧ Step A1 F1 H1 A' F' H' ∧ send K B W D σ' A' F' H' (forL g b (ds.drop (i + 1)) ρ'), fun σ' H' ⟨l', q⟩ => ⟨m - 1, by omega, by omega, l', q⟩, fun x H3 yd => ?_⟩
        obtain ⟨F3, g3, rv⟩ := yl x H3 yd
        refine hg F3 H3 σ2 ρ2 ρ3 A2 x ds[i] _ (r2.grow g3) rv e2 fun σ3 A3 r3 sub l3 _ => ?_
        have s3 : Step A2 F2 H2 A3 F3 H3 := g3.step.sub sub
        refine ⟨F3, ρ3, A3, r3, ?_⟩
        cases e3 : b ρ3 with
        | nx ρ4 =>
          rw [e3] at h2
          exact fun σ4 F4 H4 A4 r4 s4 l4 => ⟨by omega, F4, ρ4, A4, r4, (s2.trans s3).trans s4, send.before h2 (s3.trans s4) (by omega)⟩
        | ct ρ4 =>
          rw [e3] at h2
          exact fun σ4 F4 H4 A4 r4 s4 l4 => ⟨by omega, F4, ρ4, A4, r4, (s2.trans s3).trans s4, send.before h2 (s3.trans s4) (by omega)⟩
        | bk ρ4 =>
          rw [e3] at h2
          exact fun σ4 F4 H4 A4 r4 s4 l4 => h2 σ4 F4 H4 A4 r4 (s3.trans s4) (by omega)
        | rt d ρ4 =>
          rw [e3] at h2
          exact fun v σ4 F4 H4 A4 Ar r4 o nd nf s4 l4 => h2 v σ4 F4 H4 A4 Ar r4 o nd nf (s3.trans s4) (by omega)
        | ex x ρ4 =>
          rw [e3] at h2
          exact fun cls dd σ4 F4 H4 A4 r4 x s4 l4 => h2 cls dd σ4 F4 H4 A4 r4 x (s3.trans s4) (by omega)
        | bad => rw [e3] at h2; exact h2
    · left
      rw [List.drop_of_length_le (by omega)] at h2
      exact ⟨yy.2 i (by omega), h2 σ2 F2 H2 A2 r2 Step.refl rfl⟩
theorem w_while {c : E} {b : U.St} (D : Ends) (σ : L2.St) (H : Hp) (h : tDS K B W (sWhile c b) D σ H) : tWhile (tDT K B W c) (tDS K B W b) D σ H := by
  obtain ⟨F, ρ, A, rp, h⟩ := h
  unfold sWhile at h
  by_cases hx : ∃ n, whileN c b n ρ ≠ .bad
  case neg => rw [dif_neg hx] at h; exact h.elim
  case pos =>
    rw [dif_pos hx] at h
    generalize Classical.choose hx = n at h
    refine ⟨fun m σ' H' => σ'.length = σ.length ∧ ∃ F' ρ' A', Rep K F' H' B σ' ρ' A' ∧ send K B W D σ' A' F' H' (whileN c b m ρ'), ⟨n, rfl, F, ρ, A, rp, h⟩, ?_⟩
    rintro m σ2 H2 ⟨l2, F2, ρ2, A2, r2, h2⟩
    cases m with
    | zero => exact h2.elim
    | succ m =>
      refine ⟨F2, ρ2, A2, r2, ?_⟩
      simp only [whileN] at h2
      cases e1 : c ρ2 with
      | bad => rw [e1] at h2; exact h2
      | exc x ρ1 => rw [e1] at h2; exact xend.expr h2
      | ok d1 ρ3 =>
        rw [e1] at h2
        cases d1 with
        | bl k =>
          refine ⟨k, rfl, fun F3 H3 A3 r3 s3 => ?_⟩
          cases k with
          | false =>
            rw [if_neg (by decide)]
            exact h2 σ2 F3 H3 A3 r3 s3 rfl
          | true =>
            rw [if_pos rfl]
            simp only [ER.binds] at h2
            refine ⟨fun σ' H' => σ'.length = σ.length ∧ ∃ F' ρ' A', Rep K F' H' B σ' ρ' A' ∧ send K B W D σ' A' F' H' (whileN c b m ρ'), fun σ' H' q => ⟨m, Nat.lt_succ_self m, q⟩, F3, ρ3, A3, r3, ?_⟩
            cases e3 : b ρ3 with
            | nx ρ4 =>
              rw [e3] at h2
              exact fun σ4 F4 H4 A4 r4 s4 l4 => ⟨by omega, F4, ρ4, A4, r4, send.before h2 (s3.trans s4) l4⟩
            | ct ρ4 =>
              rw [e3] at h2
              exact fun σ4 F4 H4 A4 r4 s4 l4 => ⟨by omega, F4, ρ4, A4, r4, send.before h2 (s3.trans s4) l4⟩
            | bk ρ4 =>
              rw [e3] at h2
              exact fun σ4 F4 H4 A4 r4 s4 l4 => h2 σ4 F4 H4 A4 r4 (s3.trans s4) l4
            | rt d ρ4 =>
              rw [e3] at h2
              exact fun v σ4 F4 H4 A4 Ar r4 o nd nf s4 l4 => h2 v σ4 F4 H4 A4 Ar r4 o nd nf (s3.trans s4) l4
            | ex x ρ4 =>
              rw [e3] at h2
              exact fun cls dd σ4 F4 H4 A4 r4 x s4 l4 => h2 cls dd σ4 F4 H4 A4 r4 x (s3.trans s4) l4
            | bad => rw [e3] at h2; exact h2
        | _ => exact h2.elim
theorem getElem?_RVs : ∀ {vs : List V} {ds : List D} {i : Nat} {d : D}, RVs K F H vs ds → ds[i]? = some d → ∃ v, vs[i]? = some v ∧ RV K F H v d
  | _ :: _, _ :: _, 0, _, h, e => by simp only [RVs] at h; simp at e; subst e; exact ⟨_, rfl, h.1⟩
  | _ :: _, _ :: _, i + 1, _, h, e => by
    simp only [RVs] at h
    obtain ⟨v, h1, h2⟩ := getElem?_RVs h.2 (i := i) (by simpa using e)
    exact ⟨v, by simpa using h1, h2⟩
  | [], [], _, _, _, e => by simp at e
  | [], _ :: _, _, _, h, _ => by simp only [RVs] at h
  | _ :: _, [], _, _, h, _ => by simp only [RVs] at h
theorem yl_list {a : Addr} {vs : List V} {ds : List D} (s : SqLF K F H a vs) (r : RVs K F H vs ds) : Yl K (Itl K a) F H ds := fun F' H' m k => by
  have s' := (s.step m k).seq
  have r' := r.stay m k
  refine ⟨fun i d e => ?_, fun i hi => ⟨vs, s', by rw [r.len]; exact hi⟩⟩
  obtain ⟨v, h1, h2⟩ := getElem?_RVs r' e
  refine ⟨⟨vs, v, s', h1⟩, ?_⟩
  rintro x H'' ⟨rfl, hx⟩
  have := hx vs s'
  rw [h1] at this
  cases this
  exact ⟨F', Grow.refl, h2⟩
theorem yl_tup {a : Addr} {vs : List V} {ds : List D} (s : SqTF K F H a vs) (r : RVs K F H vs ds) : Yl K (Itt K a) F H ds := fun F' H' m k => by
  have s' := (s.step m k).seq
  have r' := r.stay m k
  refine ⟨fun i d e => ?_, fun i hi => ⟨vs, s', by rw [r.len]; exact hi⟩⟩
  obtain ⟨v, h1, h2⟩ := getElem?_RVs r' e
  refine ⟨⟨vs, v, s', h1⟩, ?_⟩
  rintro x H'' ⟨rfl, hx⟩
  have := hx vs s'
  rw [h1] at this
  cases this
  exact ⟨F', Grow.refl, h2⟩
theorem w_iof {o : D → Option (List D)} {f : E} {σ : L2.St} {H : Hp} {R : It → Hp → Prop} {k : VK} (h : tDI K B W (iOf o f) σ H R)
    (hk : ∀ (F : Fz) (H : Hp) (v : V) (d : D) (ds : List D), RV K F H v d → o d = some ds → (∀ J, Yl K J F H ds → R J H) → k v H) : tDE K B W f σ H k := by
  obtain ⟨F, ρ, A, rp, h⟩ := h
  refine ⟨F, ρ, A, rp, ?_⟩
  unfold iOf at h
  cases e1 : f ρ with
  | bad => rw [e1] at h; exact h
  | exc x ρ1 => rw [e1] at h; exact h
  | ok d ρ1 =>
    rw [e1] at h
    simp only at h
    intro v F' H' A' r o' s
    cases e2 : o d with
    | none => rw [e2] at h; exact h.elim
    | some ds =>
      rw [e2] at h
      exact hk F' H' v d ds o' e2 fun J y => h J F' H' A' r y s
theorem w_ilist {f : E} (σ : L2.St) (H : Hp) (R : It → Hp → Prop) (h : tDI K B W (iOf itL f) σ H R) : iList K (tDE K B W f) σ H R := by
  refine w_iof h fun F H v d ds r e k => ?_
  cases d with
  | lst l =>
    simp only [itL] at e
    cases e
    simp only [RV] at r
    obtain ⟨a, vs, ev, sq, rs⟩ := r
    exact ⟨a, ev, ⟨vs, sq.seq⟩, k _ (yl_list sq rs)⟩
  | _ => simp only [itL] at e; cases e
theorem w_itup {f : E} (σ : L2.St) (H : Hp) (R : It → Hp → Prop) (h : tDI K B W (iOf itT f) σ H R) : iTup K (tDE K B W f) σ H R := by
  refine w_iof h fun F H v d ds r e k => ?_
  cases d with
  | tup l =>
    simp only [itT] at e
    cases e
    simp only [RV] at r
    obtain ⟨a, vs, ev, sq, rs⟩ := r
    exact ⟨a, ev, ⟨vs, sq.seq⟩, k _ (yl_tup sq rs)⟩
  | _ => simp only [itT] at e; cases e
end
end U
namespace U
open PySem PySem.Spec PyProof.Rows L2
section
variable {K : PySem.W.Frag} {B : Bx} {F F' : Fz} {H H' : Hp} {W : WX}
theorem chars_one {l : List Nat} {c : Nat} (h : chars l) (hc : c ∈ l) : chars [c] := fun x hx => by
  rw [List.mem_singleton] at hx; subst hx; exact h x hc
theorem S_cps (l : List Nat) : (S l).cps.toList = l := rfl
theorem S_size (l : List Nat) : (S l).cps.size = l.length := by simp [S]
theorem S_length (l : List Nat) : (S l).length = l.length := by simp [S, Str.length]
theorem S_get (l : List Nat) (i : Nat) : (S l).cps[i]? = l[i]? := by simp [S]
theorem S_one (c : Nat) : (⟨#[c]⟩ : Str) = S [c] := rfl
theorem yl_str {l : List Nat} (hc : chars l) : Yl K (Its (S l)) F H (l.map fun c => D.str [c]) := fun F' H' m k => by
  refine ⟨fun i d e => ?_, fun i hi => by show (S l).cps.size ≤ i; rw [S_size]; simpa using hi⟩
  rw [List.getElem?_map] at e
  obtain ⟨c, ec, rfl⟩ := Option.map_eq_some_iff.mp e
  obtain ⟨hi, hg⟩ := List.getElem?_eq_some_iff.mp ec
  refine ⟨by show i < (S l).cps.size; rw [S_size]; exact hi, ?_⟩
  rintro x H'' ⟨rfl, c', h1, h2⟩
  rw [S_get, ec] at h1
  cases h1
  refine ⟨F', Grow.refl, ?_⟩
  simp only [RV]
  exact ⟨h2, chars_one hc (List.mem_of_getElem? ec)⟩
theorem w_istr {f : E} (σ : L2.St) (H : Hp) (R : It → Hp → Prop) (h : tDI K B W (iOf itS f) σ H R) : iStr (tDE K B W f) σ H R := by
  refine w_iof h fun F H v d ds r e k => ?_
  cases d with
  | str l =>
    simp only [itS] at e
    cases e
    simp only [RV] at r
    exact ⟨S l, r.1, k _ (yl_str r.2)⟩
  | _ => simp only [itS] at e; cases e
theorem w_iofA {o : List D → Option (List D)} {f : As} {σ : L2.St} {H : Hp} {R : It → Hp → Prop} {k : List V → Hp → Prop} (h : tDI K B W (iOfA o f) σ H R)
    (hk : ∀ (F : Fz) (H : Hp) (v : List V) (d : List D) (ds : List D), RVs K F H v d → o d = some ds → (∀ J, Yl K J F H ds → R J H) → k v H) : tDA K B W f σ H k := by
  obtain ⟨F, ρ, A, rp, h⟩ := h
  refine ⟨F, ρ, A, rp, ?_⟩
  unfold iOfA at h
  cases e1 : f ρ with
  | bad => rw [e1] at h; exact h
  | exc x ρ1 => rw [e1] at h; exact h
  | ok d ρ1 =>
    rw [e1] at h
    simp only at h
    intro v F' H' A' r o' s
    cases e2 : o d with
    | none => rw [e2] at h; exact h.elim
    | some ds =>
      rw [e2] at h
      exact hk F' H' v d ds o' e2 fun J y => h J F' H' A' r y s
theorem yl_range {lo : Int} {n : Nat} : Yl K (Itr lo n) F H (rangeD lo n) := fun F' H' m k => by
  refine ⟨fun i d e => ?_, fun i hi => by show n ≤ i; simpa [rangeD] using hi⟩
  unfold rangeD at e
  rw [List.getElem?_map] at e
  obtain ⟨c, ec, rfl⟩ := Option.map_eq_some_iff.mp e
  obtain ⟨hi, hg⟩ := List.getElem?_eq_some_iff.mp ec
  simp at hi hg
  subst hg
  refine ⟨hi, ?_⟩
  rintro x H'' ⟨rfl, hx⟩
  exact ⟨F', Grow.refl, by simp only [RV]; exact hx⟩
theorem RVs.int1 {vs : List V} {i : Int} (h : RVs K F H vs [.int i]) : vs = [.int i] := by
  match vs, h with
  | [v], h => simp only [RVs, RV] at h; rw [h.1]
  | [], h => simp only [RVs] at h
  | _ :: _ :: _, h => simp only [RVs] at h; exact h.2.elim
theorem RVs.two {vs : List V} {a b : D} (h : RVs K F H vs [a, b]) : ∃ v w, vs = [v, w] ∧ RV K F H v a ∧ RV K F H w b := by
  match vs, h with
  | [v, w], h => simp only [RVs] at h; exact ⟨v, w, rfl, h.1, h.2.1⟩
  | [], h => simp only [RVs] at h
  | [_], h => simp only [RVs] at h; exact h.2.elim
  | _ :: _ :: _ :: _, h => simp only [RVs] at h; exact h.2.2.elim
theorem RVs.one {vs : List V} {a : D} (h : RVs K F H vs [a]) : ∃ v, vs = [v] ∧ RV K F H v a := by
  match vs, h with
  | [v], h => simp only [RVs] at h; exact ⟨v, rfl, h.1⟩
  | [], h => simp only [RVs] at h
  | _ :: _ :: _, h => simp only [RVs] at h; exact h.2.elim
theorem RVs.three {vs : List V} {a b c : D} (h : RVs K F H vs [a, b, c]) : ∃ u v w, vs = [u, v, w] ∧ RV K F H u a ∧ RV K F H v b ∧ RV K F H w c := by
  match vs, h with
  | [u, v, w], h => simp only [RVs] at h; exact ⟨u, v, w, rfl, h.1, h.2.1, h.2.2.1⟩
  | [], h => simp only [RVs] at h
  | [_], h => simp only [RVs] at h; exact h.2.elim
  | [_, _], h => simp only [RVs] at h; exact h.2.2.elim
  | _ :: _ :: _ :: _ :: _, h => simp only [RVs] at h; exact h.2.2.2.elim
theorem okR_iff {i : Int} : okR i = true ↔ -(2 ^ 62) ≤ i ∧ i < 2 ^ 62 := by
  unfold okR
  rw [decide_eq_true_eq]
  constructor <;> intro h <;> omega
theorem w_irng1 {f : As} (σ : L2.St) (H : Hp) (R : It → Hp → Prop) (h : tDI K B W (iOfA itR f) σ H R) (h1 : ∀ ρ ds ρ', f ρ = .ok ds ρ' → ds.length = 1) : iRng1 (tDA K B W f) σ H R := by
  obtain ⟨F, ρ, A, rp, h⟩ := h
  refine ⟨F, ρ, A, rp, ?_⟩
  unfold iOfA at h
  cases e1 : f ρ with
  | bad => rw [e1] at h; exact h
  | exc x ρ1 => rw [e1] at h; exact h
  | ok d ρ1 =>
    rw [e1] at h
    have hl := h1 ρ d ρ1 e1
    simp only at h
    intro v F' H' A' r o' s
    cases e2 : itR d with
    | none => rw [e2] at h; exact h.elim
    | some ds =>
      rw [e2] at h
      match d, hl, o', e2 with
      | [.int j], _, o', e2 =>
        simp only [itR] at e2
        by_cases c : okR j = true
        · rw [if_pos c] at e2
          cases e2
          have := okR_iff.mp c
          exact ⟨j, o'.int1, this.1, this.2, h _ F' H' A' r yl_range s⟩
        · rw [if_neg c] at e2; cases e2
      | [.non], _, _, e2 => simp [itR] at e2
      | [.bl _], _, _, e2 => simp [itR] at e2
      | [.str _], _, _, e2 => simp [itR] at e2
      | [.tup _], _, _, e2 => simp [itR] at e2
      | [.lst _], _, _, e2 => simp [itR] at e2
      | [.ins _ _ _], _, _, e2 => simp [itR] at e2
      | [.own _ _], _, _, e2 => simp [itR] at e2
      | [.exn _ _ _], _, _, e2 => simp [itR] at e2
      | [.dic _], _, _, e2 => simp [itR] at e2
      | [.scr _], _, _, e2 => simp [itR] at e2
theorem len1 {f : E} (ρ : Env) (ds : List D) (ρ' : Env) (h : aCons f aNil ρ = .ok ds ρ') : ds.length = 1 := by
  unfold aCons aNil at h
  cases e : f ρ with
  | bad => rw [e] at h; cases h
  | exc x ρ1 => rw [e] at h; cases h
  | ok d ρ1 => rw [e] at h; cases h; rfl
theorem RV.tup2 {T : Addr} {v w : V} {a b : D} (e : F T) (h : H T = some (.tup [v, w])) (h1 : RV K F H v a) (h2 : RV K F H w b) : RV K F H (.ref T) (.tup [a, b]) := by
  simp only [RV, RVs]
  exact ⟨T, [v, w], rfl, .inl ⟨e, .inl h⟩, by simp only [RVs]; exact ⟨h1, h2, trivial⟩⟩
theorem OVS.congr : ∀ {σ σ' : L2.St} {ρ : Env} {A : List Addr}, OVS K F H B σ ρ A → σ'.length = σ.length → (∀ i : Nat, ρ[i]? ≠ some none → σ'[i]? = σ[i]?) → OVS K F H B σ' ρ A
  | [], [], [], _, h, _, _ => h
  | v :: vs, v' :: vs', d :: ds, _, h, l, k => by
    simp only [OVS] at h ⊢
    obtain ⟨A1, A2, h1, h2, e⟩ := h
    refine ⟨A1, A2, ?_, OVS.congr h2 (by simpa using l) (fun i hi => by simpa using k (i + 1) (by simpa using hi)), e⟩
    cases d with
    | none => simp only [OVo] at h1 ⊢; exact h1
    | some d =>
      have := k 0 (by simp)
      simp at this
      rw [this]; exact h1
  | [], _ :: _, _, _, _, l, _ => by simp at l
  | _ :: _, [], _, _, _, l, _ => by simp at l
  | [], [], _ :: _, _, h, _, _ => by simp only [OVS] at h
  | _ :: _, _ :: _, [], _, h, _, _ => by simp only [OVS] at h
theorem Rep.wipe {σ : L2.St} {ρ : Env} {A : List Addr} (r : Rep K F H B σ ρ A) : ∀ vs : List Nat, ∃ A', Rep K F H B (L2.wipe σ vs) (wipeE vs ρ) A' ∧ ∀ a ∈ A', a ∈ A
  | [] => ⟨A, r, fun _ h => h⟩
  | v :: vs => by
    obtain ⟨A1, r1, s1⟩ := Rep.wipe r vs
    by_cases hl : v < (wipeE vs ρ).length
    · obtain ⟨v0, A2, L, R, h1, h2, h3, h4⟩ := r1.sl.split (i := v) (d := (wipeE vs ρ)[v]) (List.getElem?_eq_getElem hl)
      subst h3
      have q := h4 (F' := F) (H' := H) (v' := none) (d' := none) (A' := []) (fun _ h => h) (fun _ _ _ h => h) (by simp only [OVo])
      have nd := r1.nd
      refine ⟨L ++ [] ++ R, ⟨q, ?_, fun a ha => r1.nf a ?_, r1.dm⟩, fun a ha => s1 a ?_⟩
      · simp only [List.append_nil, List.nodup_append, List.mem_append] at nd ⊢
        exact ⟨nd.1.1, nd.2.1, fun a ha b hb => nd.2.2 a (.inl ha) b hb⟩
      · simp only [List.append_nil, List.mem_append] at ha ⊢
        exact ha.elim (fun z => .inl (.inl z)) .inr
      · simp only [List.append_nil, List.mem_append] at ha ⊢
        exact ha.elim (fun z => .inl (.inl z)) .inr
    · refine ⟨A1, ?_, s1⟩
      simp only [wipeE, L2.wipe]
      have ll := r1.sl.len
      rw [List.set_eq_of_length_le (by omega), List.set_eq_of_length_le (by omega)]
      exact r1
abbrev W0 : WX := fun _ _ _ _ => False
theorem RVs.snoc : ∀ {vs : List V} {ds : List D} {v : V} {d : D}, RVs K F H vs ds → RV K F H v d → RVs K F H (vs ++ [v]) (ds ++ [d])
  | [], [], _, _, _, h => by simp only [List.nil_append, RVs]; exact ⟨h, trivial⟩
  | _ :: _, _ :: _, _, _, h, h' => by
    simp only [RVs] at h
    simp only [List.cons_append, RVs]
    exact ⟨h.1, RVs.snoc h.2 h'⟩
  | [], _ :: _, _, _, h, _ => by simp only [RVs] at h
  | _ :: _, [], _, _, h, _ => by simp only [RVs] at h
theorem RVs.ovs : ∀ {vs : List V} {ds : List D}, RVs K F H vs ds → OVs K F H vs ds []
  | [], [], _ => by simp only [OVs]
  | _ :: _, _ :: _, h => by
    simp only [RVs] at h
    simp only [OVs]
    exact ⟨[], [], h.1.own, RVs.ovs h.2, rfl⟩
  | [], _ :: _, h => by simp only [RVs] at h
  | _ :: _, [], h => by simp only [RVs] at h
theorem Step.beside {A A' : List Addr} {p : Addr} {o : HO} (s : Step A F H A' F' H') (hp : H p = some o) (ha : p ∉ A) (hf : ¬ F p) : H' p = some o ∧ p ∉ A' ∧ ¬ F' p := by
  refine ⟨s.keep p o hp ha, fun z => ?_, fun z => ?_⟩
  · rcases s.own p z with q | q
    · exact ha q
    · rw [hp] at q; cases q
  · rcases s.froz p z with q | q | q
    · exact hf q
    · rw [hp] at q; cases q
    · exact ha q
theorem Rep.off {σ : L2.St} {ρ : Env} {A : List Addr} {p : Addr} {o : HO} (r : Rep K F H B σ ρ A) (ha : p ∉ A) (hf : ¬ F p) (hp : ∃ u, H p = some u) : Rep K F (upd H p o) B σ ρ A :=
  ⟨r.sl.stay (fun _ h => h) (fun a u h e => by
    rw [upd_ne]; exact e
    intro z; subst z
    exact h.elim hf ha), r.nd, r.nf, fun a h => by
      by_cases c : a = p
      · subst c; exact ⟨o, upd_same⟩
      · rw [upd_ne c]; exact r.dm a h⟩
theorem Step.off {A A' : List Addr} {p : Addr} {o : HO} (s : Step A F H A' F' H') (hp : H p = none) : Step A F H A' F' (upd H' p o) :=
  ⟨s.mono, fun a u e n => by rw [upd_ne (ne_of_none e hp)]; exact s.keep a u e n, s.froz, s.own⟩
theorem RVs.off {vs : List V} {ds : List D} {p : Addr} {o : HO} (r : RVs K F H vs ds) (hf : ¬ F p) : RVs K F (upd H p o) vs ds := r.stay (fun _ h => h) fun a u f e => by
  rw [upd_ne]; exact e
  intro z; subst z; exact hf f
theorem RV.off {vs : V} {ds : D} {p : Addr} {o : HO} (r : RV K F H vs ds) (hf : ¬ F p) : RV K F (upd H p o) vs ds := r.stay (fun _ h => h) fun a u f e => by
  rw [upd_ne]; exact e
  intro z; subst z; exact hf f
end
end U
namespace U
open PySem PySem.Spec PyProof.Rows L2
def spD (K : PySem.W.Frag) (f : Fn) : Sp := fun vs H Q E => ∃ (F : Fz) (ds : List D) (A : List Addr) (B : Bx), OVps K F H B vs ds A ∧ A.Nodup ∧ (∀ a ∈ A, ¬ F a) ∧ (∀ a, F a → ∃ o, H a = some o) ∧ match f ds with
  | .ok d o => ∀ v F' H' σ' A' Ar, OVS K F' H' B σ' o A' → (A' ++ Ar).Nodup → (∀ a ∈ A' ++ Ar, ¬ F' a) → (∀ a, F' a → ∃ o, H' a = some o) → OV K F' H' v d Ar → Step A F H (A' ++ Ar) F' H' → Q v H'
  | .exc x o => ∀ cls dd F' H' σ' A', OVS K F' H' B σ' o A' → A'.Nodup → (∀ a ∈ A', ¬ F' a) → (∀ a, F' a → ∃ o, H' a = some o) → XV K F' H' x cls dd → Step A F H A' F' H' → E cls dd H'
  | .bad => False
section
variable {K : PySem.W.Frag} {B B' : Bx} {F F' : Fz} {H H' : Hp} {W : WX} {σ : L2.St}
theorem OV.root {v : V} {d : D} {A : List Addr} (h : OV K F H v (.own 0 d) A) : ∃ a, v = .ref a ∧ a ∈ A := by
  cases d with
  | lst ds => simp only [OV] at h; obtain ⟨a, vs, A', e, s, q, r⟩ := h; exact ⟨a, e, by rw [q]; exact List.mem_cons_self⟩
  | ins c ns ds => simp only [OV] at h; obtain ⟨a, dx, fs, A', e, s, n, q, r⟩ := h; exact ⟨a, e, by rw [q]; exact List.mem_cons_self⟩
  | _ => simp only [OV] at h
theorem OVp.root {v : V} {d : D} {t : Nat} {A : List Addr} (h : OVp K F H B v (.own t d) A) : OV K F H v (.own 0 d) A ∧ ∃ a, v = .ref a ∧ a ∈ A ∧ ∀ k, t = k + 1 → B.1[k]? = some a := by
  cases t with
  | zero =>
    simp only [OVp] at h
    obtain ⟨a, e, m⟩ := h.root
    exact ⟨h, a, e, m, fun k z => by cases z⟩
  | succ j =>
    simp only [OVp] at h
    obtain ⟨h1, a, e, p⟩ := h
    obtain ⟨a', e', m⟩ := h1.root
    rw [e] at e'; cases e'
    exact ⟨h1, a, e, m, fun k z => by cases z; exact p⟩
theorem OVp.tag {v : V} {d : D} {t : Nat} {a : Addr} {A : List Addr} (h : OV K F H v (.own 0 d) A) (e : v = .ref a) (p : ∀ k, t = k + 1 → B.1[k]? = some a) : OVp K F H B v (.own t d) A := by
  cases t with
  | zero => simp only [OVp]; exact h
  | succ j => simp only [OVp]; exact ⟨h, a, e, p j rfl⟩
theorem Rep.take1 {ρ : Env} {A : List Addr} {i t : Nat} {d : D} (r : Rep K F H B σ ρ A) (e : ρ[i]? = some (some (.own t d))) : ∃ a A1 A2, σ[i]? = some (some (.ref a)) ∧ OV K F H (.ref a) (.own 0 d) A1 ∧ (∀ k, t = k + 1 → B.1[k]? = some a) ∧ Rep K F H B σ (ρ.set i none) A2 ∧ (A1 ++ A2).Nodup ∧ ∀ x ∈ A1 ++ A2, x ∈ A := by
  obtain ⟨v, A1, L, R, h1, h2, h3, h4⟩ := r.sl.split e
  subst h3
  cases v with
  | none => simp only [OVo] at h2
  | some v =>
    simp only [OVo] at h2
    obtain ⟨o, a, rfl, ma, p⟩ := h2.root
    have q := h4 (F' := F) (H' := H) (v' := some (.ref a)) (d' := none) (A' := []) (fun _ h => h) (fun _ _ _ h => h) (by simp only [OVo])
    have es : σ.set i (some (.ref a)) = σ := by
      apply List.ext_getElem?
      intro j
      by_cases c : i = j
      · subst c
        rw [List.getElem?_set_self (List.getElem?_eq_some_iff.mp h1).1, h1]
      · rw [List.getElem?_set_ne c]
    rw [es] at q
    have nd := r.nd
    simp only [List.nodup_append, List.mem_append] at nd
    refine ⟨a, A1, L ++ [] ++ R, h1, o, p, ⟨q, ?_, fun x hx => r.nf x ?_, r.dm⟩, ?_, fun x hx => ?_⟩
    · simp only [List.append_nil, List.nodup_append]
      exact ⟨nd.1.1, nd.2.1, fun a ha b hb => nd.2.2 a (.inl ha) b hb⟩
    · simp only [List.append_nil, List.mem_append] at hx ⊢
      exact hx.elim (fun z => .inl (.inl z)) .inr
    · simp only [List.append_nil, List.nodup_append, List.mem_append]
      refine ⟨nd.1.2.1, ⟨nd.1.1, nd.2.1, fun a ha b hb => nd.2.2 a (.inl ha) b hb⟩, fun a ha b hb => ?_⟩
      rcases hb with hb | hb
      · exact fun z => nd.1.2.2 b hb a ha z.symm
      · exact nd.2.2 a (.inr ha) b hb
    · simp only [List.append_nil, List.mem_append] at hx ⊢
      rcases hx with hx | hx | hx
      · exact .inl (.inr hx)
      · exact .inl (.inl hx)
      · exact .inr hx
theorem Rep.give1 {ρ : Env} {A A1 : List Addr} {i : Nat} {v : V} {d : D} (r : Rep K F H B σ ρ A) (e : ρ[i]? = some none) (es : σ[i]? = some (some v)) (o : OVp K F H B v d A1) (nd : (A1 ++ A).Nodup) (nf : ∀ a ∈ A1, ¬ F a) : ∃ A', Rep K F H B σ (ρ.set i (some d)) A' ∧ ∀ x ∈ A', x ∈ A1 ++ A := by
  obtain ⟨v0, A0, L, R, h1, h2, h3, h4⟩ := r.sl.split e
  simp only [OVo] at h2
  subst h2 h3
  have q := h4 (F' := F) (H' := H) (v' := some v) (d' := some d) (A' := A1) (fun _ h => h) (fun _ _ _ h => h) (by simp only [OVo]; exact o)
  have ez : σ.set i (some v) = σ := by
    apply List.ext_getElem?
    intro j
    by_cases c : i = j
    · subst c
      rw [List.getElem?_set_self (List.getElem?_eq_some_iff.mp es).1, es]
    · rw [List.getElem?_set_ne c]
  rw [ez] at q
  simp only [List.append_nil, List.nodup_append, List.mem_append] at nd
  refine ⟨L ++ A1 ++ R, ⟨q, ?_, fun a ha => ?_, r.dm⟩, fun a ha => ?_⟩
  · simp only [List.nodup_append, List.mem_append]
    refine ⟨⟨nd.2.1.1, nd.1, fun a ha b hb z => nd.2.2 b hb a (.inl ha) z.symm⟩, nd.2.1.2.1, fun a ha b hb => ?_⟩
    rcases ha with ha | ha
    · exact nd.2.1.2.2 a ha b hb
    · exact nd.2.2 a ha b (.inr hb)
  · simp only [List.mem_append] at ha
    rcases ha with (ha | ha) | ha
    · exact r.nf a (by simp [ha])
    · exact nf a ha
    · exact r.nf a (by simp [ha])
  · simp only [List.append_nil, List.mem_append] at ha ⊢
    rcases ha with (ha | ha) | ha
    · exact .inr (.inl ha)
    · exact .inl ha
    · exact .inr (.inr ha)
def outs : List Arg → Env → Env
  | [], ρ => ρ
  | .v _ :: r, ρ => outs r ρ
  | .b i :: r, ρ => outs r (ρ.set i none)
theorem outs_set {x : Option D} {i : Nat} : ∀ {l : List Arg} {ρ : Env}, i ∉ lent l → outs l (ρ.set i x) = (outs l ρ).set i x
  | [], _, _ => rfl
  | .v _ :: r, ρ, h => by simp only [outs]; exact outs_set (l := r) h
  | .b k :: r, ρ, h => by
    simp only [outs]
    simp only [lent, List.mem_cons, not_or] at h
    rw [List.set_comm _ _ h.1, outs_set h.2]
def Lk (σ : L2.St) (B B' : Bx) : Nat → List Arg → Env → Prop
  | _, [], _ => True
  | j, .v _ :: r, ρ => Lk σ B B' (j + 1) r ρ
  | j, .b i :: r, ρ => (∃ a t d, σ[i]? = some (some (.ref a)) ∧ ρ[i]? = some (some (.own t d)) ∧ (∀ k, t = k + 1 → B.1[k]? = some a) ∧ B'.1[j]? = some a) ∧ Lk σ B B' (j + 1) r ρ
theorem lend : ∀ {l : List Arg} {j : Nat} {ρ0 ρ : Env} {A : List Addr} {vs : List V} {ds : List D}, Rep K F H B σ ρ A → (lent l).Nodup → (∀ i ∈ lent l, ρ[i]? = ρ0[i]?) → AV K F H σ vs l → hand ρ0 j l = some ds →
    ∃ (Bs Ac Ao : List Addr), Bs.length = l.length ∧ (∀ B', (∀ (k : Nat) (a : Addr), Bs[k]? = some a → B'.1[j + k]? = some a) → OVps K F H B' vs ds Ac ∧ Lk σ B B' j l ρ0) ∧ Rep K F H B σ (outs l ρ) Ao ∧ (Ac ++ Ao).Nodup ∧ (∀ x ∈ Ac ++ Ao, x ∈ A)
  | [], j, ρ0, ρ, A, vs, ds, r, _, _, av, h => by
    cases vs with
    | cons v vs => simp only [AV] at av
    | nil =>
      simp only [hand] at h
      cases h
      exact ⟨[], [], A, rfl, fun B' _ => ⟨by simp only [OVps], by simp only [Lk]⟩, by simp only [outs]; exact r, by simpa using r.nd, by simp⟩
  | .v d :: l, j, ρ0, ρ, A, vs, ds, r, nd, ag, av, h => by
    cases vs with
    | nil => simp only [AV] at av
    | cons v vs =>
      simp only [AV] at av
      simp only [hand] at h
      obtain ⟨ds', e, rfl⟩ := Option.map_eq_some_iff.mp h
      obtain ⟨Bs, Ac, Ao, b1, b2, b3, b4, b5⟩ := lend (l := l) r nd ag av.2 e
      refine ⟨0 :: Bs, Ac, Ao, by simp [b1], fun B' hB => ?_, by simp only [outs]; exact b3, b4, b5⟩
      obtain ⟨c1, c2⟩ := b2 B' fun k a hk => by
        have := hB (k + 1) a (by simpa using hk)
        rw [show j + 1 + k = j + (k + 1) by omega]; exact this
      refine ⟨?_, by simp only [Lk]; exact c2⟩
      simp only [OVps]
      exact ⟨[], Ac, av.1.own.op, c1, rfl⟩
  | .b i :: l, j, ρ0, ρ, A, vs, ds, r, nd, ag, av, h => by
    cases vs with
    | nil => simp only [AV] at av
    | cons v vs =>
      simp only [AV] at av
      simp only [lent, List.nodup_cons] at nd
      simp only [hand] at h
      split at h
      · rename_i t d e0
        obtain ⟨ds', e, rfl⟩ := Option.map_eq_some_iff.mp h
        have ei : ρ[i]? = some (some (.own t d)) := (ag i (by simp [lent])).trans e0
        obtain ⟨a, A1, A2, s1, o1, p1, r2, n1, sub1⟩ := r.take1 ei
        rw [av.1] at s1
        cases s1
        obtain ⟨Bs, Ac, Ao, b1, b2, b3, b4, b5⟩ := lend (l := l) (j := j + 1) (ρ0 := ρ0) r2 nd.2 (fun k hk => by
          rw [List.getElem?_set_ne (fun z => nd.1 (by rw [z]; exact hk))]
          exact ag k (by simp [lent, hk])) av.2 e
        refine ⟨a :: Bs, A1 ++ Ac, Ao, by simp [b1], fun B' hB => ?_, by simp only [outs]; exact b3, ?_, fun x hx => ?_⟩
        · obtain ⟨c1, c2⟩ := b2 B' fun k b hk => by
            have := hB (k + 1) b (by simpa using hk)
            rw [show j + 1 + k = j + (k + 1) by omega]; exact this
          have hBj : B'.1[j]? = some a := by simpa using hB 0 a rfl
          refine ⟨?_, ?_⟩
          · simp only [OVps]
            exact ⟨A1, Ac, OVp.tag o1 rfl (fun k z => by cases z; exact hBj), c1, rfl⟩
          · simp only [Lk]
            exact ⟨⟨a, t, d, av.1, e0, p1, hBj⟩, c2⟩
        · simp only [List.nodup_append, List.mem_append] at n1 b4 ⊢
          refine ⟨⟨n1.1, b4.1, fun x hx y hy => n1.2.2 x hx y (b5 y (by simp [hy]))⟩, b4.2.1, fun x hx y hy => ?_⟩
          rcases hx with hx | hx
          · exact n1.2.2 x hx y (b5 y (by simp [hy]))
          · exact b4.2.2 x hx y hy
        · simp only [List.mem_append] at hx
          rcases hx with (hx | hx) | hx
          · exact sub1 x (by simp [hx])
          · exact sub1 x (by simp [b5 x (by simp [hx])])
          · exact sub1 x (by simp [b5 x (by simp [hx])])
      · cases h
theorem regain : ∀ {l : List Arg} {j : Nat} {ρ0 ρ ρ2 o : Env} {σ' : L2.St} {Ac Ao : List Addr}, Rep K F H B σ (outs l ρ) Ao → (lent l).Nodup → Lk σ B B' j l ρ0 → (∀ i ∈ lent l, ρ[i]? = ρ0[i]?) → OVS K F H B' σ' o Ac → back j l o ρ = some ρ2 → (Ac ++ Ao).Nodup → (∀ a ∈ Ac, ¬ F a) →
    ∃ A2, Rep K F H B σ ρ2 A2 ∧ ∀ x ∈ A2, x ∈ Ac ++ Ao
  | [], j, ρ0, ρ, ρ2, o, σ', Ac, Ao, r, _, _, _, _, e, _, _ => by
    simp only [back] at e
    cases e
    simp only [outs] at r
    exact ⟨Ao, r, fun x hx => List.mem_append_right _ hx⟩
  | .v d :: l, j, ρ0, ρ, ρ2, o, σ', Ac, Ao, r, nd, lk, ag, os, e, n, nf => by
    simp only [back] at e
    simp only [outs] at r
    simp only [Lk] at lk
    match o, σ', os, e with
    | [], [], os, e => exact regain (l := l) (σ' := []) r nd lk ag os e n nf
    | c :: o, v :: σ', os, e =>
      simp only [OVS] at os
      obtain ⟨A1, A2, h1, h2, q⟩ := os
      subst q
      obtain ⟨A3, r3, s3⟩ := regain (l := l) r nd lk ag h2 e (by
        simp only [List.nodup_append, List.mem_append] at n ⊢
        exact ⟨n.1.2.1, n.2.1, fun a ha b hb => n.2.2 a (.inr ha) b hb⟩) (fun a ha => nf a (List.mem_append_right _ ha))
      exact ⟨A3, r3, fun x hx => by
        have := s3 x hx
        simp only [List.mem_append] at this ⊢
        exact this.elim (fun z => .inl (.inr z)) .inr⟩
    | [], _ :: _, os, _ => simp only [OVS] at os
    | _ :: _, [], os, _ => simp only [OVS] at os
  | .b i :: l, j, ρ0, ρ, ρ2, o, σ', Ac, Ao, r, nd, lk, ag, os, e, n, nf => by
    simp only [outs] at r
    simp only [Lk] at lk
    simp only [lent, List.nodup_cons] at nd
    obtain ⟨⟨a, t, d, s1, e1, p1, hB⟩, lk⟩ := lk
    have ei : ρ[i]? = some (some (.own t d)) := (ag i (by simp [lent])).trans e1
    simp only [back] at e
    match o, σ', os, e with
    | [], _, _, e => simp at e
    | c :: o, [], os, _ => simp only [OVS] at os
    | c :: o, v :: σ', os, e =>
      simp only [OVS] at os
      obtain ⟨A1, A2, h1, h2, q⟩ := os
      subst q
      simp only [List.head?_cons, List.tail_cons] at e
      split at e
      · rename_i t' d' t2 d2 hc hρ
        cases hc
        rw [ei] at hρ
        cases hρ
        split at e
        · rename_i ht
          subst ht
          cases v with
          | none => simp only [OVo] at h1
          | some v =>
            simp only [OVo] at h1
            obtain ⟨o1, a', ev, m, p⟩ := h1.root
            have := p t' rfl
            rw [hB] at this
            cases this
            subst ev
            rw [outs_set nd.1] at r
            have hl : i < (outs l ρ).length := by
              have := r.sl.len
              rw [List.length_set] at this
              rw [← this]; exact (List.getElem?_eq_some_iff.mp s1).1
            simp only [List.nodup_append, List.mem_append] at n
            obtain ⟨A3, r3, s3⟩ := r.give1 (i := i) (A1 := A1) (d := .own t d') (by rw [List.getElem?_set_self hl]) s1 (OVp.tag o1 rfl p1) (by
              simp only [List.nodup_append]
              exact ⟨n.1.1, n.2.1, fun a ha b hb => n.2.2 a (.inl ha) b hb⟩) (fun a ha => nf a (List.mem_append_left _ ha))
            rw [List.set_set, ← outs_set nd.1] at r3
            obtain ⟨A4, r4, s4⟩ := regain (l := l) (ρ0 := ρ0) r3 nd.2 lk (fun k hk => by
              rw [List.getElem?_set_ne (fun z => nd.1 (by rw [z]; exact hk))]
              exact ag k (by simp [lent, hk])) h2 e (by
                simp only [List.nodup_append, List.mem_append]
                refine ⟨n.1.2.1, r3.nd, fun a ha b hb => ?_⟩
                have := s3 b hb
                simp only [List.mem_append] at this
                rcases this with z | z
                · exact fun q => n.1.2.2 b z a ha q.symm
                · exact n.2.2 a (.inr ha) b z) (fun a ha => nf a (List.mem_append_right _ ha))
            refine ⟨A4, r4, fun x hx => ?_⟩
            have := s4 x hx
            simp only [List.mem_append] at this ⊢
            rcases this with z | z
            · exact .inl (.inr z)
            · have := s3 x z
              simp only [List.mem_append] at this
              exact this.elim (fun q => .inl (.inl q)) .inr
        · cases e
      · cases e
theorem OVps.snocP : ∀ {vs ws : List V} {ds es : List D} {A : List Addr}, OVps K F H B vs ds A → RVs K F H ws es → OVps K F H B (vs ++ ws) (ds ++ es) A
  | [], ws, [], es, A, h, r => by
    simp only [OVps] at h
    subst h
    simp only [List.nil_append]
    induction ws generalizing es with
    | nil =>
      cases es with
      | nil => simp only [OVps]
      | cons e es => simp only [RVs] at r
    | cons w ws ih =>
      cases es with
      | nil => simp only [RVs] at r
      | cons e es =>
        simp only [RVs] at r
        simp only [OVps]
        exact ⟨[], [], r.1.own.op, ih _ r.2, rfl⟩
  | v :: vs, ws, d :: ds, es, A, h, r => by
    simp only [OVps] at h
    obtain ⟨A1, A2, h1, h2, e⟩ := h
    simp only [List.cons_append, OVps]
    exact ⟨A1, A2, h1, OVps.snocP h2 r, e⟩
  | [], _, _ :: _, _, _, h, _ => by simp only [OVps] at h
  | _ :: _, _, [], _, _, h, _ => by simp only [OVps] at h
theorem w_call {f : Fn} {g : List Ag} {dd : List D} {dvs : List V} (hd : ∀ F H, RVs K F H dvs dd) (σ : L2.St) (H : Hp) (Q : VK) (h : tDM K B W (eCall f g dd) σ H Q) : tCallSD (spD K f) dvs (WE W) (tDG K B W g) σ H Q := by
  obtain ⟨F, ρ, A, rp, h⟩ := h
  refine ⟨F, ρ, A, rp, ?_⟩
  unfold eCall at h
  cases e1 : evAg g ρ with
  | bad => rw [e1] at h; exact h
  | exc x ρ1 => rw [e1] at h; exact h
  | ok l ρ1 =>
    rw [e1] at h
    simp only at h
    intro vs F1 H1 A1 r1 av s1
    cases e2 : hand ρ1 0 l with
    | none => rw [e2] at h; exact h.elim
    | some ds =>
      rw [e2] at h
      simp only at h
      by_cases hn : (lent l).Nodup
      case neg => rw [if_neg hn] at h; exact h.elim
      case pos =>
        rw [if_pos hn] at h
        obtain ⟨Bs, Ac, Ao, b1, b2, b3, b4, b5⟩ := lend r1 hn (fun _ _ => rfl) av e2
        obtain ⟨c1, c2⟩ := b2 (Bs, none) fun k a hk => by simpa using hk
        have nd := b4
        simp only [List.nodup_append] at nd
        refine ⟨F1, ds ++ dd, Ac, (Bs, none), c1.snocP (hd F1 H1), nd.1, fun a ha => r1.nf a (b5 a (List.mem_append_left _ ha)), r1.dm, ?_⟩
        -- what stands beside the lent ones stays
        have stay : ∀ {F2 : Fz} {H2 : Hp} {A' : List Addr}, Step Ac F1 H1 A' F2 H2 → (∀ a, F2 a → ∃ o, H2 a = some o) → (∀ a ∈ A', ¬ F2 a) → A'.Nodup → Rep K F2 H2 B σ (outs l ρ1) Ao ∧ (A' ++ Ao).Nodup := fun {F2 H2 A'} s dm nf n => by
          have out : ∀ a ∈ Ao, a ∉ Ac := fun a ha z => nd.2.2 a z a ha rfl
          refine ⟨⟨b3.sl.stay s.mono fun a o ha e => s.keep a o e fun z => ?_, b3.nd, fun a ha f => ?_, dm⟩, ?_⟩
          · rcases ha with ha | ha
            · exact r1.nf a (b5 a (List.mem_append_left _ z)) ha
            · exact out a ha z
          · rcases s.froz a f with q | q | q
            · exact b3.nf a ha q
            · obtain ⟨o, e⟩ := b3.sl.there a ha
              rw [q] at e; cases e
            · exact out a ha q
          · simp only [List.nodup_append]
            refine ⟨n, b3.nd, fun a ha b hb z => ?_⟩
            subst z
            rcases s.own a ha with q | q
            · exact out a hb q
            · obtain ⟨o, e⟩ := b3.sl.there a hb
              rw [q] at e; cases e
        have whole : ∀ {F2 : Fz} {H2 : Hp} {A' A2 : List Addr}, Step Ac F1 H1 A' F2 H2 → (∀ x ∈ A2, x ∈ A' ++ Ao) → Step A1 F1 H1 A2 F2 H2 := fun {F2 H2 A' A2} s sub =>
          ⟨s.mono, fun a o e n => s.keep a o e fun z => n (b5 a (List.mem_append_left _ z)), fun a ha => by
            rcases s.froz a ha with q | q | q
            · exact .inl q
            · exact .inr (.inl q)
            · exact .inr (.inr (b5 a (List.mem_append_left _ q))), fun a ha => by
            rcases List.mem_append.mp (sub a ha) with q | q
            · rcases s.own a q with z | z
              · exact .inl (b5 a (List.mem_append_left _ z))
              · exact .inr z
            · exact .inl (b5 a (List.mem_append_right _ q))⟩
        cases e3 : f (ds ++ dd) with
        | bad => rw [e3] at h; exact h
        | exc x o =>
          rw [e3] at h
          simp only at h
          intro cls d2 F2 H2 σ2 A2 o2 n2 nf2 dm2 xv s2
          cases e4 : back 0 l o ρ1 with
          | none => rw [e4] at h; exact h.elim
          | some ρ2 =>
            rw [e4] at h
            obtain ⟨k1, k2⟩ := stay s2 dm2 nf2 n2
            obtain ⟨A3, r3, s3⟩ := regain k1 hn c2 (fun _ _ => rfl) o2 e4 k2 nf2
            exact h cls d2 F2 H2 A3 r3 xv (s1.trans (whole s2 s3))
        | ok d o =>
          rw [e3] at h
          simp only at h
          intro v F2 H2 σ2 A2 Ar o2 n2 nf2 dm2 ov s2
          cases e4 : back 0 l o ρ1 with
          | none => rw [e4] at h; exact h.elim
          | some ρ2 =>
            rw [e4] at h
            obtain ⟨k1, k2⟩ := stay s2 dm2 nf2 n2
            simp only [List.nodup_append, List.mem_append] at k2 n2
            obtain ⟨A3, r3, s3⟩ := regain k1 hn c2 (fun _ _ => rfl) o2 e4 (by
              simp only [List.nodup_append]
              exact ⟨n2.1, k1.nd, fun a ha b hb => k2.2.2 a (.inl ha) b hb⟩) (fun a ha => nf2 a (List.mem_append_left _ ha))
            refine h v F2 H2 A3 Ar r3 ov ?_ (fun a ha => nf2 a (List.mem_append_right _ ha)) (s1.trans (whole s2 fun x hx => ?_))
            · simp only [List.nodup_append]
              refine ⟨r3.nd, n2.2.1, fun a ha b hb => ?_⟩
              rcases List.mem_append.mp (s3 a ha) with z | z
              · exact n2.2.2 a z b hb
              · exact fun q => k2.2.2 b (.inr hb) a z q.symm
            · simp only [List.mem_append] at hx ⊢
              rcases hx with hx | hx
              · exact (List.mem_append.mp (s3 x hx)).elim (fun z => .inl (.inl z)) .inr
              · exact .inl (.inr hx)
theorem w_gnil (σ : L2.St) (H : Hp) (Q : List V → Hp → Prop) (h : tDG K B W [] σ H Q) : tNil σ H Q := by
  obtain ⟨F, ρ, A, rp, h⟩ := h
  exact h [] F H A rp (by simp only [AV]) Step.refl
theorem AV.step {vs : List V} {l : List Arg} {ρ : Env} {A A' : List Addr} (h : AV K F H σ vs l) (r : Rep K F H B σ ρ A) (s : Step A F H A' F' H') : AV K F' H' σ vs l := by
  induction l generalizing vs with
  | nil => cases vs with
    | nil => simp only [AV]
    | cons v vs => simp only [AV] at h
  | cons g l ih =>
    cases vs with
    | nil => cases g <;> simp only [AV] at h
    | cons v vs =>
      cases g with
      | v d => simp only [AV] at h ⊢; exact ⟨h.1.step r s, ih h.2⟩
      | b i => simp only [AV] at h ⊢; exact ⟨h.1, ih h.2⟩
theorem w_gv {f : E} {g : List Ag} (σ : L2.St) (H : Hp) (Q : List V → Hp → Prop) (h : tDG K B W (.v f :: g) σ H Q) : tCons (tDE K B W f) (tDG K B W g) σ H Q := by
  obtain ⟨F, ρ, A, rp, h⟩ := h
  refine ⟨F, ρ, A, rp, ?_⟩
  simp only [evAg] at h
  cases e1 : f ρ with
  | bad => rw [e1] at h; exact h
  | exc x ρ1 => rw [e1] at h; exact h
  | ok d1 ρ1 =>
    rw [e1] at h
    simp only at h
    intro v1 F1 H1 A1 r1 v1r s1
    refine ⟨F1, ρ1, A1, r1, ?_⟩
    cases e2 : evAg g ρ1 with
    | bad => rw [e2] at h; exact h
    | exc x ρ2 => rw [e2] at h; exact h.before s1
    | ok l ρ2 =>
      rw [e2] at h
      intro v2 F2 H2 A2 r2 v2r s2
      exact h (v1 :: v2) F2 H2 A2 r2 (by simp only [AV]; exact ⟨v1r.step r1 s2, v2r⟩) (s1.trans s2)
theorem w_gb {i : Nat} {g : List Ag} (σ : L2.St) (H : Hp) (Q : List V → Hp → Prop) (h : tDG K B W (.b i :: g) σ H Q) : tCons (tVar i) (tDG K B W g) σ H Q := by
  obtain ⟨F, ρ, A, rp, h⟩ := h
  simp only [evAg] at h
  split at h
  · rename_i l ρ1 e
    split at e
    · rename_i t d hd
      obtain ⟨v, A1, hv, ov, _⟩ := rp.sl.get hd
      refine ⟨v, hv, F, ρ, A, rp, ?_⟩
      cases e2 : evAg g ρ with
      | bad => rw [e2] at e; cases e
      | exc x ρ2 => rw [e2] at e; cases e
      | ok l2 ρ2 =>
        rw [e2] at e
        cases e
        intro v2 F2 H2 A2 r2 v2r s2
        exact h (v :: v2) F2 H2 A2 r2 (by simp only [AV]; exact ⟨hv, v2r⟩) s2
    · cases e
  · rename_i x ρ1 e
    split at e
    · rename_i t d hd
      obtain ⟨v, A1, hv, ov, _⟩ := rp.sl.get hd
      refine ⟨v, hv, F, ρ, A, rp, ?_⟩
      cases e2 : evAg g ρ with
      | bad => rw [e2] at e; cases e
      | exc x ρ2 => rw [e2] at e; cases e; exact h
      | ok l2 ρ2 => rw [e2] at e; cases e
    · cases e
  · exact h.elim
end
end U
namespace U
open PySem PySem.Spec PyProof.Rows L2
section
variable {K : PySem.W.Frag} {B : Bx} {F F' : Fz} {H H' : Hp} {W : WX}
theorem p_add : P2 K oAdd (rI0 fun i j => .int (i + j)) := by
  intro F H x y a b d Q ra rb e q
  unfold oAdd at e; split at e
  · cases e; simp only [RV] at ra rb; exact ⟨_, _, ra, rb, q _ F H Grow.refl (by simp only [RV])⟩
  · cases e
theorem p_sub : P2 K oSub (rI0 fun i j => .int (i - j)) := by
  intro F H x y a b d Q ra rb e q
  unfold oSub at e; split at e
  · cases e; simp only [RV] at ra rb; exact ⟨_, _, ra, rb, q _ F H Grow.refl (by simp only [RV])⟩
  · cases e
theorem p_lt : P2 K oLt (rI0 fun i j => .bl (decide (i < j))) := by
  intro F H x y a b d Q ra rb e q
  unfold oLt at e; split at e
  · cases e; simp only [RV] at ra rb; exact ⟨_, _, ra, rb, q _ F H Grow.refl (by simp only [RV])⟩
  · cases e
theorem p_le : P2 K oLe (rI0 fun i j => .bl (decide (i ≤ j))) := by
  intro F H x y a b d Q ra rb e q
  unfold oLe at e; split at e
  · cases e; simp only [RV] at ra rb; exact ⟨_, _, ra, rb, q _ F H Grow.refl (by simp only [RV])⟩
  · cases e
theorem p_gt : P2 K oGt (rI0 fun i j => .bl (decide (j < i))) := by
  intro F H x y a b d Q ra rb e q
  unfold oGt at e; split at e
  · cases e; simp only [RV] at ra rb; exact ⟨_, _, ra, rb, q _ F H Grow.refl (by simp only [RV])⟩
  · cases e
theorem p_ge : P2 K oGe (rI0 fun i j => .bl (decide (j ≤ i))) := by
  intro F H x y a b d Q ra rb e q
  unfold oGe at e; split at e
  · cases e; simp only [RV] at ra rb; exact ⟨_, _, ra, rb, q _ F H Grow.refl (by simp only [RV])⟩
  · cases e
theorem p_mul : P2 K oMul (rI CMul fun i j => .int (i * j)) := by
  intro F H x y a b d Q ra rb e q
  unfold oMul at e; split at e
  · split at e
    · rename_i i j h
      cases e; simp only [RV] at ra rb
      refine ⟨_, _, ra, rb, ?_, q _ F H Grow.refl (by simp only [RV])⟩
      unfold lim64 at h
      unfold CMul
      rcases h with h | h
      · exact .inl ⟨by omega, by omega⟩
      · exact .inr ⟨by omega, by omega⟩
    · cases e
  · cases e
theorem p_div : P2 K oDiv (rI CDivW fun i j => .int (i / j)) := by
  intro F H x y a b d Q ra rb e q
  unfold oDiv at e; split at e
  · split at e
    · rename_i i j h
      cases e; simp only [RV] at ra rb
      exact ⟨_, _, ra, rb, wide_div h.1 h.2 (by decide) (by decide), q _ F H Grow.refl (by simp only [RV])⟩
    · cases e
  · cases e
theorem p_mod : P2 K oMod (rI (fun _ j => 0 < j) fun i j => .int (i % j)) := by
  intro F H x y a b d Q ra rb e q
  unfold oMod at e; split at e
  · split at e
    · rename_i i j h
      cases e; simp only [RV] at ra rb
      exact ⟨_, _, ra, rb, h, q _ F H Grow.refl (by simp only [RV])⟩
    · cases e
  · cases e
theorem p_pow : P2 K oPow (rI CPow fun i j => .int (i ^ j.toNat)) := by
  intro F H x y a b d Q ra rb e q
  unfold oPow at e; split at e
  · split at e
    · rename_i i j h
      cases e; simp only [RV] at ra rb
      exact ⟨_, _, ra, rb, ⟨h.1, by omega, by omega⟩, q _ F H Grow.refl (by simp only [RV])⟩
    · cases e
  · cases e
theorem p_neg : P1 K oNeg (rU fun i => .int (-i)) := by
  intro F H x a d Q ra e q
  unfold oNeg at e; split at e
  · cases e; simp only [RV] at ra; exact ⟨_, ra, q _ F H Grow.refl (by simp only [RV])⟩
  · cases e
mutual
def toPy : D → PyData
  | .non => .none
  | .bl b => .bool b
  | .int i => .int i
  | .str l => .str (S l)
  | .tup l => .tuple (toPys l)
  | .lst l => .list (toPys l)
  | .ins _ _ _ => .none
  | .own _ _ => .none
  | .exn _ _ _ => .none
  | .dic _ => .none
  | .scr _ => .none
def toPys : List D → List PyData
  | [] => []
  | d :: l => toPy d :: toPys l
end
theorem S_inj {l m : List Nat} : S l = S m ↔ l = m := ⟨fun h => by have := congrArg (fun z : Str => z.cps.toList) h; exact this, fun h => by rw [h]⟩
theorem S_beq (l m : List Nat) : (S l == S m) = (l == m) := by
  by_cases h : l = m
  · subst h; simp
  · have h' : ¬ S l = S m := fun z => h (S_inj.mp z)
    rw [beq_eq_false_iff_ne.mpr h, beq_eq_false_iff_ne.mpr h']
mutual
theorem eqv_py : ∀ {n m : Nat} {a b : D}, okD n a = true → okD m b = true → PyData.eqv (toPy a) (toPy b) = a.eqv b
  | n, m, a, b, ha, hb => by
    match a, b, n, m, ha, hb with
    | .tup l, .tup r, n + 1, m + 1, ha, hb => simp only [toPy, PyData.eqv, D.eqv]; exact eqvs_py (by simpa [okD] using ha) (by simpa [okD] using hb)
    | .lst l, .lst r, n + 1, m + 1, ha, hb => simp only [toPy, PyData.eqv, D.eqv]; exact eqvs_py (by simpa [okD] using ha) (by simpa [okD] using hb)
    | .tup _, _, 0, _, ha, _ => simp [okD] at ha
    | .lst _, _, 0, _, ha, _ => simp [okD] at ha
    | _, .tup _, _, 0, _, hb => simp [okD] at hb
    | _, .lst _, _, 0, _, hb => simp [okD] at hb
    | .ins _ _ _, _, _, _, ha, _ => simp [okD] at ha
    | .own _ _, _, _, _, ha, _ => simp [okD] at ha
    | .exn _ _ _, _, _, _, ha, _ => simp [okD] at ha
    | .dic _, _, _, _, ha, _ => simp [okD] at ha
    | .scr _, _, _, _, ha, _ => simp [okD] at ha
    | _, .ins _ _ _, _, _, _, hb => simp [okD] at hb
    | _, .own _ _, _, _, _, hb => simp [okD] at hb
    | _, .exn _ _ _, _, _, _, hb => simp [okD] at hb
    | _, .dic _, _, _, _, hb => simp [okD] at hb
    | _, .scr _, _, _, _, hb => simp [okD] at hb
    | .str x, .str y, _, _, _, _ => simp only [toPy, PyData.eqv, D.eqv]; exact S_beq x y
    | .non, .non, _, _, _, _ => simp [toPy, PyData.eqv, D.eqv]
    | .non, .bl _, _, _, _, _ => simp [toPy, PyData.eqv, D.eqv]
    | .non, .int _, _, _, _, _ => simp [toPy, PyData.eqv, D.eqv]
    | .non, .str _, _, _, _, _ => simp [toPy, PyData.eqv, D.eqv]
    | .non, .tup _, _, _, _, _ => simp [toPy, PyData.eqv, D.eqv]
    | .non, .lst _, _, _, _, _ => simp [toPy, PyData.eqv, D.eqv]
    | .bl _, .non, _, _, _, _ => simp [toPy, PyData.eqv, D.eqv]
    | .bl _, .bl _, _, _, _, _ => simp [toPy, PyData.eqv, D.eqv]
    | .bl _, .int _, _, _, _, _ => simp [toPy, PyData.eqv, D.eqv]
    | .bl _, .str _, _, _, _, _ => simp [toPy, PyData.eqv, D.eqv]
    | .bl _, .tup _, _, _, _, _ => simp [toPy, PyData.eqv, D.eqv]
    | .bl _, .lst _, _, _, _, _ => simp [toPy, PyData.eqv, D.eqv]
    | .int _, .non, _, _, _, _ => simp [toPy, PyData.eqv, D.eqv]
    | .int _, .bl _, _, _, _, _ => simp [toPy, PyData.eqv, D.eqv]
    | .int _, .int _, _, _, _, _ => simp [toPy, PyData.eqv, D.eqv]
    | .int _, .str _, _, _, _, _ => simp [toPy, PyData.eqv, D.eqv]
    | .int _, .tup _, _, _, _, _ => simp [toPy, PyData.eqv, D.eqv]
    | .int _, .lst _, _, _, _, _ => simp [toPy, PyData.eqv, D.eqv]
    | .str _, .non, _, _, _, _ => simp [toPy, PyData.eqv, D.eqv]
    | .str _, .bl _, _, _, _, _ => simp [toPy, PyData.eqv, D.eqv]
    | .str _, .int _, _, _, _, _ => simp [toPy, PyData.eqv, D.eqv]
    | .str _, .tup _, _, _, _, _ => simp [toPy, PyData.eqv, D.eqv]
    | .str _, .lst _, _, _, _, _ => simp [toPy, PyData.eqv, D.eqv]
    | .tup _, .non, _, _, _, _ => simp [toPy, PyData.eqv, D.eqv]
    | .tup _, .bl _, _, _, _, _ => simp [toPy, PyData.eqv, D.eqv]
    | .tup _, .int _, _, _, _, _ => simp [toPy, PyData.eqv, D.eqv]
    | .tup _, .str _, _, _, _, _ => simp [toPy, PyData.eqv, D.eqv]
    | .tup _, .lst _, _, _, _, _ => simp [toPy, PyData.eqv, D.eqv]
    | .lst _, .non, _, _, _, _ => simp [toPy, PyData.eqv, D.eqv]
    | .lst _, .bl _, _, _, _, _ => simp [toPy, PyData.eqv, D.eqv]
    | .lst _, .int _, _, _, _, _ => simp [toPy, PyData.eqv, D.eqv]
    | .lst _, .str _, _, _, _, _ => simp [toPy, PyData.eqv, D.eqv]
    | .lst _, .tup _, _, _, _, _ => simp [toPy, PyData.eqv, D.eqv]
theorem eqvs_py : ∀ {n m : Nat} {a b : List D}, (∀ x ∈ a, okD n x = true) → (∀ x ∈ b, okD m x = true) → PyData.eqvAll (toPys a) (toPys b) = eqvs a b
  | _, _, [], [], _, _ => by simp [toPys, PyData.eqvAll, eqvs]
  | _, _, [], _ :: _, _, _ => by simp [toPys, PyData.eqvAll, eqvs]
  | _, _, _ :: _, [], _, _ => by simp [toPys, PyData.eqvAll, eqvs]
  | n, m, x :: a, y :: b, ha, hb => by
    simp only [toPys, PyData.eqvAll, eqvs]
    rw [eqv_py (ha x List.mem_cons_self) (hb y List.mem_cons_self), eqvs_py (fun z hz => ha z (List.mem_cons_of_mem _ hz)) (fun z hz => hb z (List.mem_cons_of_mem _ hz))]
end
theorem strOk_S {l : List Nat} (h : chars l) : PyData.strOk (S l) = true := by
  unfold PyData.strOk S
  rw [show (Array.all (⟨l.toArray⟩ : Str).cps fun x => decide (x < 0x110000)) = l.all fun x => decide (x < 0x110000) from by simp]
  rw [List.all_eq_true]
  exact fun x hx => decide_eq_true (h x hx)
mutual
theorem dp_of : ∀ {n : Nat} {v : V} {d : D}, okD n d = true → RV K F H v d → Dp K H v (toPy d) ∧ (toPy d).canLay0 = true ∧ (toPy d).depth ≤ n
  | n, v, .non, _, r => by simp only [RV] at r; subst r; exact ⟨.non, by simp [toPy, PyData.canLay0], by simp [toPy, PyData.depth]⟩
  | n, v, .bl b, _, r => by simp only [RV] at r; subst r; exact ⟨.bl b, by simp [toPy, PyData.canLay0], by simp [toPy, PyData.depth]⟩
  | n, v, .int b, _, r => by simp only [RV] at r; subst r; exact ⟨.int b, by simp [toPy, PyData.canLay0], by simp [toPy, PyData.depth]⟩
  | n, v, .str l, _, r => by simp only [RV] at r; obtain ⟨rfl, c⟩ := r; exact ⟨.str _, by simp only [toPy, PyData.canLay0]; exact strOk_S c, by simp [toPy, PyData.depth]⟩
  | 0, v, .tup l, h, _ => by simp [okD] at h
  | 0, v, .lst l, h, _ => by simp [okD] at h
  | n + 1, v, .tup l, h, r => by
    simp only [RV] at r
    obtain ⟨a, vs, rfl, sq, rs⟩ := r
    obtain ⟨h1, h2, h3⟩ := dps_of (n := n) (by simpa [okD] using h) rs
    exact ⟨.tup sq.seq h1, by simp only [toPy, PyData.canLay0]; exact h2, by simp only [toPy, PyData.depth]; omega⟩
  | n + 1, v, .lst l, h, r => by
    simp only [RV] at r
    obtain ⟨a, vs, rfl, sq, rs⟩ := r
    obtain ⟨h1, h2, h3⟩ := dps_of (n := n) (by simpa [okD] using h) rs
    exact ⟨.lst sq.seq h1, by simp only [toPy, PyData.canLay0]; exact h2, by simp only [toPy, PyData.depth]; omega⟩
  | n, v, .ins _ _ _, h, _ => by simp [okD] at h
  | n, v, .own _ _, h, _ => by simp [okD] at h
  | n, v, .exn _ _ _, h, _ => by simp [okD] at h
  | n, v, .dic _, h, _ => by simp [okD] at h
  | n, v, .scr _, h, _ => by simp [okD] at h
theorem dps_of : ∀ {n : Nat} {vs : List V} {ds : List D}, (∀ x ∈ ds, okD n x = true) → RVs K F H vs ds → DpAll K H vs (toPys ds) ∧ PyData.canLayAll0 (toPys ds) = true ∧ PyData.depthAll (toPys ds) ≤ n
  | n, [], [], _, _ => ⟨.nil, by simp [toPys, PyData.canLayAll0], by simp [toPys, PyData.depthAll]⟩
  | n, v :: vs, d :: ds, h, r => by
    simp only [RVs] at r
    obtain ⟨a1, a2, a3⟩ := dp_of (h d List.mem_cons_self) r.1
    obtain ⟨b1, b2, b3⟩ := dps_of (fun z hz => h z (List.mem_cons_of_mem _ hz)) r.2
    exact ⟨.cons a1 b1, by simp only [toPys, PyData.canLayAll0, a2, b2]; rfl, by simp only [toPys, PyData.depthAll]; omega⟩
  | _, [], _ :: _, _, r => by simp only [RVs] at r
  | _, _ :: _, [], _, r => by simp only [RVs] at r
end
theorem p_eq : P2 K oEq (rEqD K) := by
  intro F H x y a b d Q ra rb e q
  unfold oEq at e; split at e
  · rename_i h
    rw [Bool.and_eq_true] at h
    cases e
    obtain ⟨a1, a2, a3⟩ := dp_of h.1 ra
    obtain ⟨b1, b2, b3⟩ := dp_of h.2 rb
    refine ⟨_, _, a1, b1, by unfold SeqAt.shaped; rw [a2, decide_eq_true (by omega)]; rfl, by unfold SeqAt.shaped; rw [b2, decide_eq_true (by omega)]; rfl, ?_⟩
    rw [eqv_py h.1 h.2]
    exact q _ F H Grow.refl (by simp only [RV])
  · cases e
theorem p_ne : P2 K oNe (rNeD K) := by
  intro F H x y a b d Q ra rb e q
  unfold oNe at e; split at e
  · rename_i h
    rw [Bool.and_eq_true] at h
    cases e
    obtain ⟨a1, a2, a3⟩ := dp_of h.1 ra
    obtain ⟨b1, b2, b3⟩ := dp_of h.2 rb
    refine ⟨_, _, a1, b1, by unfold SeqAt.shaped; rw [a2, decide_eq_true (by omega)]; rfl, by unfold SeqAt.shaped; rw [b2, decide_eq_true (by omega)]; rfl, ?_⟩
    rw [eqv_py h.1 h.2]
    exact q _ F H Grow.refl (by simp only [RV])
  · cases e
theorem RV.isN {v : V} {d : D} (r : RV K F H v d) : decide (v = .non) = d.isN := by
  cases d with
  | non => simp only [RV] at r; subst r; rfl
  | bl b => simp only [RV] at r; subst r; rfl
  | int b => simp only [RV] at r; subst r; rfl
  | str b => simp only [RV] at r; rw [r.1]; rfl
  | tup l => simp only [RV] at r; obtain ⟨a, vs, rfl, _⟩ := r; rfl
  | lst l => simp only [RV] at r; obtain ⟨a, vs, rfl, _⟩ := r; rfl
  | ins c ns l => simp only [RV] at r; obtain ⟨a, dx, vs, rfl, _⟩ := r; rfl
  | own t d => simp only [RV] at r
  | exn c ns d => simp only [RV] at r
  | dic ns => simp only [RV] at r; obtain ⟨a, rfl, _⟩ := r; rfl
  | scr ns => simp only [RV] at r; obtain ⟨a, rfl, _⟩ := r; rfl
theorem p_isN : P2 K oIsN (fun x y H Q => y = .non ∧ Q (.bl (decide (x = .non))) H) := by
  intro F H x y a b d Q ra rb e q
  unfold oIsN at e; split at e
  · split at e
    · cases e
    · cases e
      simp only [RV] at rb
      exact ⟨rb, by rw [ra.isN]; exact q _ F H Grow.refl (by simp only [RV])⟩
  · cases e
theorem scr_sq {a : Addr} {ns : List Int} (h : (F a ∧ Rd H a (.lst (ns.map V.int))) ∨ SqL K (fun _ => none) a (ns.map V.int)) : SqL K H a (ns.map V.int) := by
  rcases h with h | (z | ⟨o, z⟩) | h
  · exact .inl h.2
  · cases z
  · cases z
  · exact .inr h
theorem p_neScr : P2 K oNeScr (rNeD K) := by
  intro F H x y a b d Q ra rb e q
  unfold oNeScr at e; split at e
  · cases e
    rename_i ns
    simp only [RV] at ra rb
    obtain ⟨p, rfl, sq⟩ := ra
    replace sq := scr_sq sq
    obtain ⟨p2, vs, rfl, sq2, rs⟩ := rb
    cases vs with
    | cons v vs => simp only [RVs] at rs
    | nil =>
      refine ⟨.list (ns.map PyData.int), .list [], .lst sq (_root_.Q.dpAll_ints ns), .lst sq2.seq .nil, PySem.W.ke_shaped_ints ns, rfl, ?_⟩
      have : PyData.eqv (.list (ns.map PyData.int)) (.list []) = ns.isEmpty := by cases ns <;> simp [PyData.eqv, PyData.eqvAll]
      rw [this]
      exact q _ F H Grow.refl (by simp only [RV])
  · cases e
theorem p_ixScr : P2 K oIxScr (rIxL K) := by
  intro F H x y a b d Q ra rb e q
  unfold oIxScr at e; split at e
  · rename_i ns i
    simp only [RV] at ra rb
    obtain ⟨p, rfl, sq⟩ := ra
    replace sq := scr_sq sq
    obtain ⟨k, h1, rfl⟩ := Option.map_eq_some_iff.mp e
    refine ⟨_, _, _, .int k, rfl, rb, sq, ?_, q _ F H Grow.refl (by simp only [RV])⟩
    unfold atD at h1
    obtain ⟨j, h2, h3⟩ := Option.bind_eq_some_iff.mp h1
    unfold atI
    rw [List.length_map, show ixN ns.length i = ixD ns.length i from rfl, h2, Option.bind_some, List.getElem?_map, h3]
    rfl
  · cases e
theorem p_lenScr : PN K oLenScr (fun xs H Q => ∃ p ys, xs = [.ref p] ∧ (SqL K H p ys ∨ SqT K H p ys) ∧ Q (.int ys.length) H) := by
  intro F H xs ds d Q r e q
  unfold oLenScr at e; split at e
  · cases e
    obtain ⟨v, rfl, rv⟩ := r.one
    simp only [RV] at rv
    obtain ⟨p, rfl, sq⟩ := rv
    replace sq := scr_sq sq
    exact ⟨p, _, rfl, .inl sq, by rw [List.length_map]; exact q _ F H Grow.refl (by simp only [RV])⟩
  · cases e
end
end U
namespace U
open PySem PySem.Spec PyProof.Rows L2
section
variable {K : PySem.W.Frag} {B : Bx} {F F' : Fz} {H H' : Hp} {W : WX}
theorem RV.newTup {p : Addr} {vs : List V} {ds : List D} (hp : H p = none) (r : RVs K F H vs ds) : RV K (fun a => F a ∨ a = p) (upd H p (.tup vs)) (.ref p) (.tup ds) := by
  simp only [RV]
  exact ⟨p, vs, rfl, .inl ⟨.inr rfl, .inl upd_same⟩, r.grow (Grow.new hp)⟩
def P2M (K : PySem.W.Frag) (o : D → D → Option D) (r : R2) : Prop := ∀ (F : Fz) (H : Hp) (x y : V) (a b d : D) (Q : VK), RV K F H x a → RV K F H y b → o a b = some d →
  (∀ p vs ds, d = .own 0 (.lst ds) → H p = none → RVs K F H vs ds → Q (.ref p) (upd H p (.lst vs))) → r x y H Q
def P1M (K : PySem.W.Frag) (o : D → Option D) (r : V → Hp → VK → Prop) : Prop := ∀ (F : Fz) (H : Hp) (x : V) (a d : D) (Q : VK), RV K F H x a → o a = some d →
  (∀ p vs ds, d = .own 0 (.lst ds) → H p = none → RVs K F H vs ds → Q (.ref p) (upd H p (.lst vs))) → r x H Q
def PNM (K : PySem.W.Frag) (o : List D → Option D) (r : List V → Hp → VK → Prop) : Prop := ∀ (F : Fz) (H : Hp) (x : List V) (a : List D) (d : D) (Q : VK), RVs K F H x a → o a = some d →
  (∀ p vs ds, d = .own 0 (.lst ds) → H p = none → RVs K F H vs ds → Q (.ref p) (upd H p (.lst vs))) → r x H Q
theorem new_lst {σ : L2.St} {ρ : Env} {A A1 : List Addr} {F1 : Fz} {H1 : Hp} {p : Addr} {vs : List V} {ds : List D} (s : Step A F H A1 F1 H1) (r : Rep K F1 H1 B σ ρ A1) (hp : H1 p = none) (rs : RVs K F1 H1 vs ds) :
    Rep K F1 (upd H1 p (.lst vs)) B σ ρ A1 ∧ OV K F1 (upd H1 p (.lst vs)) (.ref p) (.own 0 (.lst ds)) [p] ∧ (A1 ++ [p]).Nodup ∧ (∀ a ∈ [p], ¬ F1 a) ∧ Step A F H (A1 ++ [p]) F1 (upd H1 p (.lst vs)) := by
  have g : Grow F1 H1 F1 (upd H1 p (.lst vs)) := Grow.raw hp
  have hA : p ∉ A1 := fun z => by
    obtain ⟨o, q⟩ := r.sl.there p z
    rw [hp] at q; cases q
  have hF : ¬ F1 p := fun z => by
    obtain ⟨o, q⟩ := r.dm p z
    rw [hp] at q; cases q
  have s2 := s.trans (g.step (A := A1))
  refine ⟨r.grow g, ?_, ?_, fun a ha => ?_, ⟨s2.mono, s2.keep, s2.froz, fun a ha => ?_⟩⟩
  · simp only [OV]
    exact ⟨p, vs, [], rfl, upd_same, rfl, (rs.grow g).ovs⟩
  · rw [List.nodup_append]
    exact ⟨r.nd, by simp, fun a ha b hb z => hA (by rw [List.mem_singleton] at hb; rw [← hb, ← z]; exact ha)⟩
  · rw [List.mem_singleton] at ha; rw [ha]; exact hF
  · rcases List.mem_append.mp ha with z | z
    · exact s2.own a z
    · rw [List.mem_singleton] at z
      subst z
      by_cases q : a ∈ A
      · exact .inl q
      · refine .inr ?_
        cases z : H a with
        | none => rfl
        | some o => rw [s.keep a o z q] at hp; cases hp
theorem w_unM {o : D → Option D} {r : V → Hp → VK → Prop} {f : E} (p : P1M K o r) (σ : L2.St) (H : Hp) (Q : VK) (h : tDM K B W (eUn o f) σ H Q) : tUn r (tDE K B W f) σ H Q := by
  obtain ⟨F, ρ, A, rp, h⟩ := h
  refine ⟨F, ρ, A, rp, ?_⟩
  unfold eUn at h
  cases e1 : f ρ with
  | bad => rw [e1] at h; exact h
  | exc x ρ1 => rw [e1] at h; exact h
  | ok d1 ρ1 =>
    rw [e1] at h
    intro v1 F1 H1 A1 r1 v1r s1
    obtain ⟨d, ed, h⟩ := ok_inv h
    refine p F1 H1 v1 d1 d Q v1r ed fun q vs ds ed hq rs => ?_
    subst ed
    obtain ⟨k1, k2, k3, k4, k5⟩ := new_lst s1 r1 hq rs
    exact h _ _ _ _ _ k1 k2 k3 k4 k5
theorem w_nM {o : List D → Option D} {r : List V → Hp → VK → Prop} {f : As} (p : PNM K o r) (σ : L2.St) (H : Hp) (Q : VK) (h : tDM K B W (eN o f) σ H Q) : tCB r (tDA K B W f) σ H Q := by
  obtain ⟨F, ρ, A, rp, h⟩ := h
  refine ⟨F, ρ, A, rp, ?_⟩
  unfold eN at h
  cases e1 : f ρ with
  | bad => rw [e1] at h; exact h
  | exc x ρ1 => rw [e1] at h; exact h
  | ok d1 ρ1 =>
    rw [e1] at h
    intro v1 F1 H1 A1 r1 v1r s1
    obtain ⟨d, ed, h⟩ := ok_inv h
    refine p F1 H1 v1 d1 d Q v1r ed fun q vs ds ed hq rs => ?_
    subst ed
    obtain ⟨k1, k2, k3, k4, k5⟩ := new_lst s1 r1 hq rs
    exact h _ _ _ _ _ k1 k2 k3 k4 k5
theorem w_tup {f : As} (σ : L2.St) (H : Hp) (Q : VK) (h : tDE K B W (eN mkTup f) σ H Q) : tTup (tDA K B W f) σ H Q := by
  refine w_n (r := fun xs H1 Q => xs.length ≤ sizeLine ∧ ∀ p, H1 p = none → Q (.ref p) (upd H1 p (.tup xs))) ?_ σ H Q h
  intro F H xs ds d Q r e q
  unfold mkTup at e; split at e
  · rename_i hl
    cases e
    exact ⟨by rw [r.len, sizeLine_eq]; exact hl, fun p hp => q _ _ _ (Grow.new hp) (RV.newTup hp r)⟩
  · cases e
theorem w_lst {f : As} (σ : L2.St) (H : Hp) (Q : VK) (h : tDM K B W (eN mkLst f) σ H Q) : tLst (tDA K B W f) σ H Q := by
  refine w_nM (r := fun xs H1 Q => xs.length ≤ sizeLine ∧ ∀ p, H1 p = none → Q (.ref p) (upd H1 p (.lst xs))) ?_ σ H Q h
  intro F H xs ds d Q r e q
  unfold mkLst at e; split at e
  · rename_i hl
    cases e
    exact ⟨by rw [r.len, sizeLine_eq]; exact hl, fun p hp => q p xs ds rfl hp r⟩
  · cases e
theorem S_append (l m : List Nat) : S l ++ S m = S (l ++ m) := by
  show Str.append (S l) (S m) = S (l ++ m)
  simp [Str.append, S]
theorem chars_app {l m : List Nat} (h : chars l) (h' : chars m) : chars (l ++ m) := fun c hc => (List.mem_append.mp hc).elim (h c) (h' c)
theorem RV.strS {l : List Nat} (h : chars l) : RV K F H (.str (S l)) (.str l) := by simp only [RV]; exact ⟨trivial, h⟩
theorem p_addS : P2 K oAddS (fun x y H Q => ∃ i j, x = .str i ∧ y = .str j ∧ i.length + j.length ≤ sizeLine ∧ Q (.str (i ++ j)) H) := by
  intro F H x y a b d Q ra rb e q
  unfold oAddS at e; split at e
  · split at e
    · rename_i h
      cases e; simp only [RV] at ra rb
      refine ⟨_, _, ra.1, rb.1, by rw [S_length, S_length, sizeLine_eq]; exact h, ?_⟩
      rw [S_append]
      exact q _ F H Grow.refl (RV.strS (chars_app ra.2 rb.2))
    · cases e
  · cases e
theorem chars_rep {l : List Nat} {n : Nat} (h : chars l) : chars (List.replicate n l).flatten := fun c hc => by
  obtain ⟨m, hm, hc⟩ := List.mem_flatten.mp hc
  rw [List.eq_of_mem_replicate hm] at hc
  exact h c hc
theorem p_mulS : P2 K oMulS (fun x y H Q => ∃ z n, x = .str z ∧ y = .int n ∧ -9223372036854775808 ≤ n ∧ n < 9223372036854775808 ∧ z.length * n.toNat ≤ 16777216 ∧ Q (.str (_root_.Q.mulS z n)) H) := by
  intro F H x y a b d Q ra rb e q
  unfold oMulS at e; split at e
  · split at e
    · rename_i h
      cases e; simp only [RV] at ra rb
      refine ⟨_, _, ra.1, rb, h.1, h.2.1, by rw [S_length]; exact h.2.2, ?_⟩
      exact q _ F H Grow.refl (RV.strS (chars_rep ra.2))
    · cases e
  · cases e
def rCatR : R2 := fun x y H Q => ∃ l b xs zs, x = .ref l ∧ y = .ref b ∧ H l = some (.lst xs) ∧ H b = some (.lst zs) ∧ xs.length + zs.length ≤ sizeLine ∧ ∀ p, H p = none → Q (.ref p) (upd H p (.lst (xs ++ zs)))
theorem RVs.app : ∀ {vs ws : List V} {ds es : List D}, RVs K F H vs ds → RVs K F H ws es → RVs K F H (vs ++ ws) (ds ++ es)
  | [], _, [], _, _, h => h
  | _ :: _, _, _ :: _, _, h, h' => by
    simp only [RVs] at h
    simp only [List.cons_append, RVs]
    exact ⟨h.1, RVs.app h.2 h'⟩
  | [], _, _ :: _, _, h, _ => by simp only [RVs] at h
  | _ :: _, _, [], _, h, _ => by simp only [RVs] at h
theorem RVs.rep {vs : List V} {ds : List D} (r : RVs K F H vs ds) : ∀ n : Nat, RVs K F H (List.replicate n vs).flatten (List.replicate n ds).flatten
  | 0 => by simp [RVs]
  | n + 1 => by
    rw [List.replicate_succ, List.replicate_succ, List.flatten_cons, List.flatten_cons]
    exact r.app (RVs.rep r n)
theorem RVs.drop : ∀ {vs : List V} {ds : List D} (n : Nat), RVs K F H vs ds → RVs K F H (vs.drop n) (ds.drop n)
  | _, _, 0, h => h
  | [], [], _ + 1, h => h
  | _ :: _, _ :: _, n + 1, h => by simp only [RVs] at h; exact RVs.drop n h.2
  | [], _ :: _, _, h => by simp only [RVs] at h
  | _ :: _, [], _, h => by simp only [RVs] at h
theorem RVs.take : ∀ {vs : List V} {ds : List D} (n : Nat), RVs K F H vs ds → RVs K F H (vs.take n) (ds.take n)
  | _, _, 0, _ => by simp only [List.take_zero, RVs]
  | [], [], _ + 1, h => h
  | _ :: _, _ :: _, n + 1, h => by simp only [RVs] at h; simp only [List.take_succ_cons, RVs]; exact ⟨h.1, RVs.take n h.2⟩
  | [], _ :: _, _, h => by simp only [RVs] at h
  | _ :: _, [], _, h => by simp only [RVs] at h
theorem RVs.reverse : ∀ {vs : List V} {ds : List D}, RVs K F H vs ds → RVs K F H vs.reverse ds.reverse
  | [], [], h => h
  | _ :: _, _ :: _, h => by
    simp only [RVs] at h
    rw [List.reverse_cons, List.reverse_cons]
    exact (RVs.reverse h.2).snoc h.1
  | [], _ :: _, h => by simp only [RVs] at h
  | _ :: _, [], h => by simp only [RVs] at h
theorem sIx_eq (n d : Nat) (o : Option Int) : HT.sIx n d o = sIxD n d o := by cases o <;> rfl
theorem ixN_eq (n : Nat) (i : Int) : ixN n i = ixD n i := rfl
theorem RVs.cut {vs : List V} {ds : List D} (r : RVs K F H vs ds) (lo hi : Option Int) : RVs K F H (cutV vs lo hi) (cutD ds lo hi) := by
  unfold cutV cutD
  rw [sIx_eq, sIx_eq, r.len]
  exact (r.drop _).take _
theorem p_repT : P2 K oRepT (rRepT K) := by
  intro F H x y a b d Q ra rb e q
  unfold oRepT at e; split at e
  · split at e
    · rename_i h
      cases e
      simp only [RV] at ra rb
      obtain ⟨p, vs, rfl, sq, rs⟩ := ra
      refine ⟨_, _, _, rfl, rb, sq.seq, fun z => ?_, h.1, h.2.1, by rw [rs.len]; exact h.2.2.2, fun p hp => q _ _ _ (Grow.new hp) (RV.newTup hp (rs.rep _))⟩
      have := rs.len
      rw [z] at this
      have h3 := h.2.2.1
      rw [← this] at h3
      cases h3
    · cases e
  · cases e
theorem atD_RVs {vs : List V} {ds : List D} {i : Int} {d : D} (r : RVs K F H vs ds) (e : atD ds i = some d) : ∃ v, atI vs i = some v ∧ RV K F H v d := by
  unfold atD at e
  unfold atI
  rw [ixN_eq, r.len]
  obtain ⟨j, h1, h2⟩ := Option.bind_eq_some_iff.mp e
  obtain ⟨v, h3, h4⟩ := getElem?_RVs r h2
  exact ⟨v, by rw [h1]; exact h3, h4⟩
theorem p_ixL : P2 K oIxL (rIxL K) := by
  intro F H x y a b d Q ra rb e q
  unfold oIxL at e; split at e
  · simp only [RV] at ra rb
    obtain ⟨p, vs, rfl, sq, rs⟩ := ra
    obtain ⟨v, h1, h2⟩ := atD_RVs rs e
    exact ⟨_, _, _, _, rfl, rb, sq.seq, h1, q _ F H Grow.refl h2⟩
  · cases e
theorem p_ixT : P2 K oIxT (rIxT K) := by
  intro F H x y a b d Q ra rb e q
  unfold oIxT at e; split at e
  · simp only [RV] at ra rb
    obtain ⟨p, vs, rfl, sq, rs⟩ := ra
    obtain ⟨v, h1, h2⟩ := atD_RVs rs e
    exact ⟨_, _, _, _, rfl, rb, sq.seq, h1, q _ F H Grow.refl h2⟩
  · cases e
theorem p_lenS : PN K oLenS (fun xs H Q => ∃ z, xs = [.str z] ∧ z.length ≤ sizeLine ∧ Q (.int z.length) H) := by
  intro F H xs ds d Q r e q
  unfold oLenS at e; split at e
  · split at e
    · rename_i h
      cases e
      obtain ⟨v, rfl, rv⟩ := r.one
      simp only [RV] at rv
      exact ⟨_, by rw [rv.1], by rw [S_length, sizeLine_eq]; exact h, by rw [S_length]; exact q _ F H Grow.refl (by simp only [RV])⟩
    · cases e
  · cases e
theorem p_lenQ : PN K oLenQ (fun xs H Q => ∃ p ys, xs = [.ref p] ∧ (SqL K H p ys ∨ SqT K H p ys) ∧ Q (.int ys.length) H) := by
  intro F H xs ds d Q r e q
  unfold oLenQ at e; split at e
  · cases e
    obtain ⟨v, rfl, rv⟩ := r.one
    simp only [RV] at rv
    obtain ⟨p, vs, rfl, sq, rs⟩ := rv
    exact ⟨p, vs, rfl, .inl sq.seq, by rw [rs.len]; exact q _ F H Grow.refl (by simp only [RV])⟩
  · cases e
    obtain ⟨v, rfl, rv⟩ := r.one
    simp only [RV] at rv
    obtain ⟨p, vs, rfl, sq, rs⟩ := rv
    exact ⟨p, vs, rfl, .inr sq.seq, by rw [rs.len]; exact q _ F H Grow.refl (by simp only [RV])⟩
  · cases e
theorem p_max2 : PN K oMax2 (fun xs H Q => ∃ i j, xs = [.int i, .int j] ∧ Q (.int (if j > i then j else i)) H) := by
  intro F H xs ds d Q r e q
  unfold oMax2 at e; split at e
  · cases e
    obtain ⟨v, w, rfl, r1, r2⟩ := r.two
    simp only [RV] at r1 r2
    exact ⟨_, _, by rw [r1, r2], q _ F H Grow.refl (by simp only [RV])⟩
  · cases e
theorem p_min2 : PN K oMin2 (fun xs H Q => ∃ i j, xs = [.int i, .int j] ∧ Q (.int (if j < i then j else i)) H) := by
  intro F H xs ds d Q r e q
  unfold oMin2 at e; split at e
  · cases e
    obtain ⟨v, w, rfl, r1, r2⟩ := r.two
    simp only [RV] at r1 r2
    exact ⟨_, _, by rw [r1, r2], q _ F H Grow.refl (by simp only [RV])⟩
  · cases e
theorem p_max3 : PN K oMax3 (fun xs H Q => ∃ i j k, xs = [.int i, .int j, .int k] ∧ Q (.int (if (if i < j then j else i) < k then k else (if i < j then j else i))) H) := by
  intro F H xs ds d Q r e q
  unfold oMax3 at e; split at e
  · cases e
    obtain ⟨u, v, w, rfl, r1, r2, r3⟩ := r.three
    simp only [RV] at r1 r2 r3
    exact ⟨_, _, _, by rw [r1, r2, r3], q _ F H Grow.refl (by simp only [RV])⟩
  · cases e
theorem p_abs : PN K oAbs (fun xs H Q => ∃ i, xs = [.int i] ∧ Q (.int (if i < 0 then -i else i)) H) := by
  intro F H xs ds d Q r e q
  unfold oAbs at e; split at e
  · cases e
    obtain ⟨v, rfl, r1⟩ := r.one
    simp only [RV] at r1
    exact ⟨_, by rw [r1], q _ F H Grow.refl (by simp only [RV])⟩
  · cases e
theorem ints_V : ∀ {ds : List D} {ns : List Int} {vs : List V}, intsD ds = some ns → RVs K F H vs ds → vs = ns.map V.int
  | [], ns, [], e, _ => by simp only [intsD] at e; cases e; rfl
  | .int i :: ds, ns, v :: vs, e, r => by
    simp only [intsD] at e
    obtain ⟨ns', h1, rfl⟩ := Option.map_eq_some_iff.mp e
    simp only [RVs, RV] at r
    rw [r.1, ints_V h1 r.2]; rfl
  | _ :: _, _, [], _, r => by simp only [RVs] at r
  | [], _, _ :: _, _, r => by simp only [RVs] at r
  | .non :: _, _, _ :: _, e, _ => by simp [intsD] at e
  | .bl _ :: _, _, _ :: _, e, _ => by simp [intsD] at e
  | .str _ :: _, _, _ :: _, e, _ => by simp [intsD] at e
  | .tup _ :: _, _, _ :: _, e, _ => by simp [intsD] at e
  | .lst _ :: _, _, _ :: _, e, _ => by simp [intsD] at e
  | .ins _ _ _ :: _, _, _ :: _, e, _ => by simp [intsD] at e
  | .own _ _ :: _, _, _ :: _, e, _ => by simp [intsD] at e
  | .exn _ _ _ :: _, _, _ :: _, e, _ => by simp [intsD] at e
  | .dic _ :: _, _, _ :: _, e, _ => by simp [intsD] at e
  | .scr _ :: _, _, _ :: _, e, _ => by simp [intsD] at e
theorem strs_V : ∀ {ds : List D} {ns : List (List Nat)} {vs : List V}, strsD ds = some ns → RVs K F H vs ds → vs = (ns.map S).map V.str ∧ ∀ l ∈ ns, chars l
  | [], ns, [], e, _ => by simp only [strsD] at e; cases e; exact ⟨rfl, fun l h => by cases h⟩
  | .str i :: ds, ns, v :: vs, e, r => by
    simp only [strsD] at e
    obtain ⟨ns', h1, rfl⟩ := Option.map_eq_some_iff.mp e
    simp only [RVs, RV] at r
    obtain ⟨h2, h3⟩ := strs_V h1 r.2
    refine ⟨by rw [r.1.1, h2]; rfl, fun l hl => ?_⟩
    rcases List.mem_cons.mp hl with z | z
    · rw [z]; exact r.1.2
    · exact h3 l z
  | _ :: _, _, [], _, r => by simp only [RVs] at r
  | [], _, _ :: _, _, r => by simp only [RVs] at r
  | .non :: _, _, _ :: _, e, _ => by simp [strsD] at e
  | .int _ :: _, _, _ :: _, e, _ => by simp [strsD] at e
  | .bl _ :: _, _, _ :: _, e, _ => by simp [strsD] at e
  | .tup _ :: _, _, _ :: _, e, _ => by simp [strsD] at e
  | .lst _ :: _, _, _ :: _, e, _ => by simp [strsD] at e
  | .ins _ _ _ :: _, _, _ :: _, e, _ => by simp [strsD] at e
  | .own _ _ :: _, _, _ :: _, e, _ => by simp [strsD] at e
  | .exn _ _ _ :: _, _, _ :: _, e, _ => by simp [strsD] at e
  | .dic _ :: _, _, _ :: _, e, _ => by simp [strsD] at e
  | .scr _ :: _, _, _ :: _, e, _ => by simp [strsD] at e
theorem p_int : PN K oInt (fun xs H Q => (∃ i, xs = [.int i] ∧ Q (.int i) H) ∨ ∃ k, xs = [.bl k] ∧ Q (.int (if k then 1 else 0)) H) := by
  intro F H xs ds d Q r e q
  unfold oInt at e; split at e
  · cases e
    obtain ⟨v, rfl, r1⟩ := r.one
    simp only [RV] at r1
    exact .inl ⟨_, by rw [r1], q _ F H Grow.refl (by simp only [RV])⟩
  · cases e
    obtain ⟨v, rfl, r1⟩ := r.one
    simp only [RV] at r1
    exact .inr ⟨_, by rw [r1], q _ F H Grow.refl (by simp only [RV])⟩
  · cases e
theorem p_tupOf : PN K oTupOf (fun xs H Q => ∃ p ys, xs = [.ref p] ∧ ((SqL K H p ys ∧ ∀ l, H l = none → Q (.ref l) (upd H l (.tup ys))) ∨ (SqT K H p ys ∧ Q (.ref p) H))) := by
  intro F H xs ds d Q r e q
  unfold oTupOf at e; split at e
  · cases e
    obtain ⟨v, rfl, rv⟩ := r.one
    simp only [RV] at rv
    obtain ⟨p, vs, rfl, sq, rs⟩ := rv
    exact ⟨p, vs, rfl, .inl ⟨sq.seq, fun l hl => q _ _ _ (Grow.new hl) (RV.newTup hl rs)⟩⟩
  · cases e
    obtain ⟨v, rfl, rv⟩ := r.one
    have rv' := rv
    simp only [RV] at rv
    obtain ⟨p, vs, rfl, sq, rs⟩ := rv
    exact ⟨p, vs, rfl, .inr ⟨sq.seq, q _ F H Grow.refl rv'⟩⟩
  · cases e
end
end U
namespace U
open PySem PySem.Spec PyProof.Rows L2
section
variable {K : PySem.W.Frag} {B : Bx} {F F' : Fz} {H H' : Hp} {W : WX}
def tDO (K : PySem.W.Frag) (B : Bx) (W : WX) (f : Env → OR) : TO := fun σ H Q => ∃ F ρ A, Rep K F H B σ ρ A ∧ match f ρ with
  | .ok o ρ' => ∀ F' H' A', Rep K F' H' B σ ρ' A' → Step A F H A' F' H' → Q o H'
  | .exc x ρ' => xendE K B W σ A F H x ρ'
  | .bad => False
theorem _root_.L2.PO.weak {X : Cx} {e : Option Expr} {t t' : TO} (h : PO X e t) (w : ∀ σ H Q, t' σ H Q → t σ H Q) : PO X e t' := ⟨fun pins s σ H Q I q => h.run pins s σ H Q I (w σ H Q q)⟩
theorem w_ponone (σ : L2.St) (H : Hp) (Q : Option Int → Hp → Prop) (h : tDO K B W (part none) σ H Q) : tNoPart σ H Q := by
  obtain ⟨F, ρ, A, rp, h⟩ := h
  exact h F H A rp Step.refl
theorem w_posome {f : E} (σ : L2.St) (H : Hp) (Q : Option Int → Hp → Prop) (h : tDO K B W (part (some f)) σ H Q) : tPart (tDE K B W f) σ H Q := by
  obtain ⟨F, ρ, A, rp, h⟩ := h
  refine ⟨F, ρ, A, rp, ?_⟩
  simp only [part] at h
  cases e1 : f ρ with
  | bad => rw [e1] at h; exact h
  | exc x ρ1 => rw [e1] at h; exact h
  | ok d1 ρ1 =>
    rw [e1] at h
    intro v1 F1 H1 A1 r1 v1r s1
    cases d1 with
    | int i => simp only [RV] at v1r; exact ⟨i, v1r, h F1 H1 A1 r1 s1⟩
    | _ => exact h.elim
def P3 (K : PySem.W.Frag) (o : D → Option Int → Option Int → Option D) (r : V → Option Int → Option Int → Hp → VK → Prop) : Prop := ∀ (F : Fz) (H : Hp) (x : V) (l u : Option Int) (a d : D) (Q : VK), RV K F H x a → o a l u = some d → (∀ v F' H', Grow F H F' H' → RV K F' H' v d → Q v H') → r x l u H Q
def P3M (K : PySem.W.Frag) (o : D → Option Int → Option Int → Option D) (r : V → Option Int → Option Int → Hp → VK → Prop) : Prop := ∀ (F : Fz) (H : Hp) (x : V) (l u : Option Int) (a d : D) (Q : VK), RV K F H x a → o a l u = some d →
  (∀ p vs ds, d = .own 0 (.lst ds) → H p = none → RVs K F H vs ds → Q (.ref p) (upd H p (.lst vs))) → r x l u H Q
theorem w_sl {o : D → Option Int → Option Int → Option D} {r : V → Option Int → Option Int → Hp → VK → Prop} {f : E} {lo hi : Option E} (p : P3 K o r) (σ : L2.St) (H : Hp) (Q : VK) (h : tDE K B W (eSl o f lo hi) σ H Q) : tSl r (tDE K B W f) (tDO K B W (part lo)) (tDO K B W (part hi)) σ H Q := by
  obtain ⟨F, ρ, A, rp, h⟩ := h
  refine ⟨F, ρ, A, rp, ?_⟩
  unfold eSl at h
  cases e1 : f ρ with
  | bad => rw [e1] at h; exact h
  | exc x ρ1 => rw [e1] at h; exact h
  | ok d1 ρ1 =>
    rw [e1] at h
    intro v1 F1 H1 A1 r1 v1r s1
    refine ⟨F1, ρ1, A1, r1, ?_⟩
    simp only [ER.bind] at h
    cases e2 : part lo ρ1 with
    | bad => rw [e2] at h; exact h
    | exc x ρ2 => rw [e2] at h; exact h.before s1
    | ok l ρ2 =>
      rw [e2] at h
      simp only at h
      intro F2 H2 A2 r2 s2
      refine ⟨F2, ρ2, A2, r2, ?_⟩
      cases e3 : part hi ρ2 with
      | bad => rw [e3] at h; exact h
      | exc x ρ3 => rw [e3] at h; exact h.before (s1.trans s2)
      | ok u ρ3 =>
        rw [e3] at h
        intro F3 H3 A3 r3 s3
        obtain ⟨d, ed, h⟩ := ok_inv h
        exact p F3 H3 v1 l u d1 d Q ((v1r.step r1 s2).step r2 s3) ed fun v F' H' g vr => h v F' H' A3 (r3.grow g) vr (((s1.trans s2).trans s3).trans g.step)
theorem mem_cut {α : Type} {l : List α} {lo hi : Option Int} {x : α} (h : x ∈ cutD l lo hi) : x ∈ l := List.mem_of_mem_drop (List.mem_of_mem_take h)
theorem p_slS : P3 K oSlS rSlS := by
  intro F H x l u a d Q ra e q
  unfold oSlS at e; split at e
  · split at e
    · rename_i ls h
      cases e; simp only [RV] at ra
      refine ⟨_, ra.1, by rw [S_length, sizeLine_eq]; exact h, ?_⟩
      have ec : cutS (S ls) l u = S (cutD ls l u) := by
        unfold cutS cutD S
        rw [sIx_eq, sIx_eq]
        simp [Str.length]
      rw [ec]
      exact q _ F H Grow.refl (RV.strS fun c hc => ra.2 c (mem_cut hc))
    · cases e
  · cases e
theorem p_slT : P3 K oSlT (rSlA K) := by
  intro F H x l u a d Q ra e q
  unfold oSlT at e; split at e
  · rename_i ds
    cases e
    have ra' := ra
    simp only [RV] at ra
    obtain ⟨p, vs, rfl, sq, rs⟩ := ra
    refine ⟨p, vs, rfl, sq.seq, fun h => ?_, fun _ p hp => q _ _ _ (Grow.new hp) (RV.newTup hp (rs.cut _ _))⟩
    rw [sIx_eq, sIx_eq, rs.len] at h
    have : cutD ds l u = ds := by unfold cutD; rw [h.1, h.2]; simp
    rw [this] at q
    exact q _ F H Grow.refl ra'
  · cases e
theorem w_revM {f : E} (σ : L2.St) (H : Hp) (Q : VK) (h : tDM K B W (eUn oRev f) σ H Q) : tRevL K (tDE K B W f) σ H Q := by
  refine w_unM (r := fun x H1 Q => ∃ a xs, x = .ref a ∧ SqL K H1 a xs ∧ ∀ p, H1 p = none → Q (.ref p) (upd H1 p (.lst xs.reverse))) ?_ σ H Q h
  intro F H x a d Q ra e q
  unfold oRev at e; split at e
  · cases e; simp only [RV] at ra
    obtain ⟨p, vs, rfl, sq, rs⟩ := ra
    exact ⟨p, vs, rfl, sq.seq, fun p hp => q p _ _ rfl hp rs.reverse⟩
  · cases e
def PM1 (K : PySem.W.Frag) (o : D → D → Option D) (r : V → List V → Hp → VK → Prop) : Prop := ∀ (F : Fz) (H : Hp) (s : List Nat) (y : V) (b d : D) (Q : VK), chars s → RV K F H y b → o (.str s) b = some d → (∀ v F' H', Grow F H F' H' → RV K F' H' v d → Q v H') → r (.str (S s)) [y] H Q
theorem w_m1 {o : D → D → Option D} {r : V → List V → Hp → VK → Prop} {f g : E} (p : PM1 K o r) (σ : L2.St) (H : Hp) (Q : VK) (h : tDE K B W (eMs o f g) σ H Q) : tM1 r (tDE K B W f) (tDE K B W g) σ H Q := by
  obtain ⟨F, ρ, A, rp, h⟩ := h
  refine ⟨F, ρ, A, rp, ?_⟩
  unfold eMs at h
  cases e1 : f ρ with
  | bad => rw [e1] at h; exact h
  | exc x ρ1 => rw [e1] at h; exact h
  | ok d1 ρ1 =>
    rw [e1] at h
    intro v1 F1 H1 A1 r1 v1r s1
    cases d1 with
    | str s =>
      simp only [RV] at v1r
      obtain ⟨rfl, hc⟩ := v1r
      refine ⟨⟨_, rfl⟩, F1, ρ1, A1, r1, ?_⟩
      simp only [ER.bind] at h
      cases e2 : g ρ1 with
      | bad => rw [e2] at h; exact h
      | exc x ρ2 => rw [e2] at h; exact h.before s1
      | ok d2 ρ2 =>
        rw [e2] at h
        intro v2 F2 H2 A2 r2 v2r s2
        obtain ⟨d, ed, h⟩ := ok_inv h
        exact p F2 H2 s v2 d2 d Q hc v2r ed fun v F' H' g vr => h v F' H' A2 (r2.grow g) vr ((s1.trans s2).trans g.step)
    | _ => exact h.elim
theorem map_S_tl (ys : List (List Nat)) : (ys.map S).map TL.tl = ys := by
  rw [List.map_map]
  conv => rhs; rw [← List.map_id ys]
  exact List.map_congr_left fun l _ => by simp [TL.tl, S]
theorem joinL_eq (a : List Nat) : ∀ ys : List (List Nat), TL.joinL a ys = joinD a ys
  | [] => rfl
  | [p] => by simp [TL.joinL, joinD]
  | p :: q :: r => by simp [TL.joinL, joinD, joinL_eq a (q :: r)]
theorem join_S (a : List Nat) (ys : List (List Nat)) : Txt.join (S a) (ys.map S) = S (joinD a ys) := by
  rw [TL.join_eq]
  have h := TL.tl_join (S a) (ys.map S)
  rw [map_S_tl, show TL.tl (S a) = a by simp [TL.tl, S], joinL_eq] at h
  rw [← h]
  obtain ⟨c⟩ := Str.join (S a) (ys.map S)
  simp [S, TL.tl]
theorem chars_join {a : List Nat} (ha : chars a) : ∀ {ys : List (List Nat)}, (∀ l ∈ ys, chars l) → chars (joinD a ys)
  | [], _ => fun c hc => by simp [joinD] at hc
  | [p], h => by simp only [joinD]; exact h p List.mem_cons_self
  | p :: q :: r, h => by
    simp only [joinD]
    exact chars_app (chars_app (h p List.mem_cons_self) ha) (chars_join ha fun l hl => h l (List.mem_cons_of_mem _ hl))
theorem p_join : PM1 K oJoin (fun x xs H Q => ∃ a p, ∃ ys : List Str, x = .str a ∧ xs = [.ref p] ∧ (SqL K H p (ys.map V.str) ∨ SqT K H p (ys.map V.str)) ∧
      (ys.map (·.length)).sum + ys.length * a.length ≤ 16777216 ∧ Q (.str (Txt.join a ys)) H) := by
  intro F H s y b d Q hc rb e q
  have len : ∀ ys : List (List Nat), ((ys.map S).map (·.length)).sum + (ys.map S).length * (S s).length = (ys.map List.length).sum + ys.length * s.length := fun ys => by
    rw [List.map_map, List.length_map, S_length]
    have e : (ys.map ((fun x : Str => x.length) ∘ S)) = ys.map List.length := List.map_congr_left fun l _ => S_length l
    rw [← e]
  unfold oJoin at e; split at e
  · rename_i a l ea
    cases ea
    obtain ⟨ys, h1, h2⟩ := Option.bind_eq_some_iff.mp e
    split at h2
    · rename_i hz
      cases h2
      simp only [RV] at rb
      obtain ⟨p, vs, rfl, sq, rs⟩ := rb
      obtain ⟨h3, h4⟩ := strs_V h1 rs
      subst h3
      exact ⟨_, p, ys.map S, rfl, rfl, .inl sq.seq, by rw [len]; exact hz, by rw [join_S]; exact q _ F H Grow.refl (RV.strS (chars_join hc h4))⟩
    · cases h2
  · rename_i a l ea
    cases ea
    obtain ⟨ys, h1, h2⟩ := Option.bind_eq_some_iff.mp e
    split at h2
    · rename_i hz
      cases h2
      simp only [RV] at rb
      obtain ⟨p, vs, rfl, sq, rs⟩ := rb
      obtain ⟨h3, h4⟩ := strs_V h1 rs
      subst h3
      exact ⟨_, p, ys.map S, rfl, rfl, .inr sq.seq, by rw [len]; exact hz, by rw [join_S]; exact q _ F H Grow.refl (RV.strS (chars_join hc h4))⟩
    · cases h2
  · cases e
theorem ty_of {v : V} {d : D} {n : String} (r : RV K F H v d) (h : tyName d = some n) : TyX K H v (.type n) := by
  cases d with
  | non => simp only [tyName] at h; cases h; simp only [RV] at r; subst r; exact .base .non
  | bl b => simp only [tyName] at h; cases h; simp only [RV] at r; subst r; exact .base (.bl b)
  | int b => simp only [tyName] at h; cases h; simp only [RV] at r; subst r; exact .base (.int b)
  | str b => simp only [tyName] at h; cases h; simp only [RV] at r; rw [r.1]; exact .base (.str _)
  | tup l =>
    simp only [tyName] at h; cases h; simp only [RV] at r
    obtain ⟨a, vs, rfl, sq, _⟩ := r
    rcases sq with ⟨_, sq | ⟨o, sq⟩⟩ | ⟨o, its, n, h1, h2, _⟩
    · exact .base (.tup sq)
    · exact .fTuple sq
    · exact .kTuple h1 h2
  | lst l => simp only [tyName] at h; cases h; simp only [RV] at r; obtain ⟨a, vs, rfl, sq, _⟩ := r; exact .base (.lst sq.2)
  | dic l => simp only [tyName] at h; cases h; simp only [RV] at r; obtain ⟨a, rfl, _, e⟩ := r; exact .base (.dK e)
  | _ => simp only [tyName] at h; cases h
theorem own_at {σ : L2.St} {ρ : Env} {A : List Addr} {i t : Nat} {l : List D} (r : Rep K F H B σ ρ A) (e : ρ[i]? = some (some (.own t (.lst l)))) : ∃ a vs A', σ[i]? = some (some (.ref a)) ∧ H a = some (.lst vs) ∧ a ∈ A ∧ OVs K F H vs l A' := by
  obtain ⟨v, A1, h1, h2, h3⟩ := r.sl.get e
  obtain ⟨o, a, rfl, m, _⟩ := h2.root
  simp only [OV] at o
  obtain ⟨a', vs, A', ev, hs, eA, ro⟩ := o
  cases ev
  exact ⟨a, vs, A', h1, hs, h3 a m, ro⟩
theorem OVs.snoc : ∀ {vs : List V} {ds : List D} {A : List Addr} {v : V} {d : D}, OVs K F H vs ds A → RV K F H v d → OVs K F H (vs ++ [v]) (ds ++ [d]) A
  | [], [], A, _, _, h, r => by
    simp only [OVs] at h
    subst h
    simp only [List.nil_append, OVs]
    exact ⟨[], [], r.own, rfl, rfl⟩
  | _ :: _, _ :: _, _, _, _, h, r => by
    simp only [OVs] at h
    obtain ⟨A1, A2, h1, h2, e⟩ := h
    simp only [List.cons_append, OVs]
    exact ⟨A1, A2, h1, h2.snoc r, e⟩
  | [], _ :: _, _, _, _, h, _ => by simp only [OVs] at h
  | _ :: _, [], _, _, _, h, _ => by simp only [OVs] at h
theorem OVs.len : ∀ {vs : List V} {ds : List D} {A : List Addr}, OVs K F H vs ds A → vs.length = ds.length
  | [], [], _, _ => rfl
  | _ :: _, _ :: _, _, h => by
    simp only [OVs] at h
    obtain ⟨A1, A2, h1, h2, e⟩ := h
    simp [OVs.len h2]
  | [], _ :: _, _, h => by simp only [OVs] at h
  | _ :: _, [], _, h => by simp only [OVs] at h
theorem OVs.get : ∀ {vs : List V} {ds : List D} {A : List Addr} {j : Nat} {d : D}, OVs K F H vs ds A → ds[j]? = some d → ∃ v A1, vs[j]? = some v ∧ OV K F H v d A1
  | _ :: _, _ :: _, _, 0, _, h, e => by
    simp only [OVs] at h
    obtain ⟨A1, A2, h1, h2, _⟩ := h
    simp at e; subst e
    exact ⟨_, A1, rfl, h1⟩
  | _ :: _, _ :: _, _, j + 1, _, h, e => by
    simp only [OVs] at h
    obtain ⟨A1, A2, h1, h2, _⟩ := h
    obtain ⟨v, A3, h3, h4⟩ := OVs.get h2 (j := j) (by simpa using e)
    exact ⟨v, A3, by simpa using h3, h4⟩
  | [], [], _, _, _, _, e => by simp at e
  | [], _ :: _, _, _, _, h, _ => by simp only [OVs] at h
  | _ :: _, [], _, _, _, h, _ => by simp only [OVs] at h
theorem OVs.atD {vs : List V} {ds : List D} {A : List Addr} {i : Int} {d : D} (o : OVs K F H vs ds A) (e : U.atD ds i = some d) (hm : d.isMut = false) : ∃ v, atI vs i = some v ∧ RV K F H v d := by
  unfold U.atD at e
  unfold atI
  rw [ixN_eq, OVs.len o]
  obtain ⟨j, h1, h2⟩ := Option.bind_eq_some_iff.mp e
  obtain ⟨v, A1, h3, h4⟩ := OVs.get o h2
  exact ⟨v, by rw [h1]; exact h3, (h4.plain hm).2⟩
theorem Rep.chg {σ : L2.St} {ρ : Env} {A : List Addr} {i t : Nat} {l l' : List D} {a : Addr} {vs vs' : List V} (r : Rep K F H B σ ρ A) (e : ρ[i]? = some (some (.own t (.lst l)))) (es : σ[i]? = some (some (.ref a))) (ha : H a = some (.lst vs))
    (ho : ∀ A', OVs K F H vs l A' → OVs K F H vs' l' A') : Rep K F (upd H a (.lst vs')) B σ (ρ.set i (some (.own t (.lst l')))) A ∧ Step A F H A F (upd H a (.lst vs')) := by
  obtain ⟨v, A1, L, R, h1, h2, h3, h4⟩ := r.sl.split e
  subst h3
  rw [es] at h1
  cases h1
  simp only [OVo] at h2
  obtain ⟨o, a', ev, m, p⟩ := h2.root
  cases ev
  simp only [OV] at o
  obtain ⟨a', vs0, A', ev, hs, eA, ro⟩ := o
  cases ev
  rw [ha] at hs
  cases hs
  subst eA
  have nf : ¬ F a := r.nf a (by simp)
  have nd := r.nd
  simp only [List.nodup_append, List.nodup_cons, List.mem_append, List.mem_cons] at nd
  have off : ∀ b o, (F b ∨ b ∈ L ∨ b ∈ R) → H b = some o → upd H a (.lst vs') b = some o := fun b o hb he => by
    rw [upd_ne]; exact he
    intro z; subst z
    rcases hb with hb | hb | hb
    · exact nf hb
    · exact nd.1.2.2 b hb b (.inl rfl) rfl
    · exact nd.2.2 b (.inr (.inl rfl)) b hb rfl
  have q := h4 (F' := F) (H' := upd H a (.lst vs')) (v' := some (.ref a)) (d' := some (.own t (.lst l'))) (A' := a :: A') (fun _ h => h) off (by
    simp only [OVo]
    refine OVp.tag ?_ rfl p
    simp only [OV]
    exact ⟨a, vs', A', rfl, upd_same, rfl, (ho A' ro).stay (fun _ h => h) fun b o hb he => by
      rw [upd_ne]; exact he
      intro z; subst z
      rcases hb with hb | hb
      · exact nf hb
      · exact nd.1.2.1.1 hb⟩)
  have ez : σ.set i (some (.ref a)) = σ := by
    apply List.ext_getElem?
    intro j
    by_cases c : i = j
    · subst c
      rw [List.getElem?_set_self (List.getElem?_eq_some_iff.mp es).1, es]
    · rw [List.getElem?_set_ne c]
  rw [ez] at q
  refine ⟨⟨q, r.nd, r.nf, fun b hb => ?_⟩, ⟨fun _ h => h, fun b o he n => ?_, fun b h => .inl h, fun b h => .inl h⟩⟩
  · by_cases c : b = a
    · subst c; exact absurd hb nf
    · rw [upd_ne c]; exact r.dm b hb
  · rw [upd_ne]; exact he
    intro z; subst z
    exact n (by simp)
theorem isOL_some {o : Option (Option D)} (h : isOL o = true) : ∃ t l, o = some (some (.own t (.lst l))) := by
  unfold isOL at h
  split at h
  · exact ⟨_, _, rfl⟩
  · cases h
theorem w_app {i : Nat} {f : E} (σ : L2.St) (H : Hp) (Q : VK) (h : tDE K B W (eApp i f) σ H Q) : tBM K "list" rAppend (tVar i) (tCons (tDE K B W f) tNil) σ H Q := by
  obtain ⟨F, ρ, A, rp, h⟩ := h
  unfold eApp at h
  by_cases c : isOL ρ[i]? = true
  case neg => rw [if_neg c] at h; exact h.elim
  case pos =>
    rw [if_pos c] at h
    obtain ⟨t0, l0, e0⟩ := isOL_some c
    obtain ⟨a, vs0, A0, s0, h0, _, _⟩ := own_at rp e0
    refine ⟨.ref a, s0, .inl ⟨rfl, vs0, .inl (.inl h0)⟩, F, ρ, A, rp, ?_⟩
    cases e1 : f ρ with
    | bad => rw [e1] at h; exact h
    | exc x ρ1 => rw [e1] at h; exact h
    | ok d1 ρ1 =>
      rw [e1] at h
      simp only [ER.bind] at h
      intro v1 F1 H1 A1 r1 v1r s1
      split at h
      · rename_i h1
        split at h1
        · rename_i t l e2
          split at h1
          · rename_i hz
            cases h1
            obtain ⟨a', vs, A2, s2, h2, _, o2⟩ := own_at r1 e2
            rw [s0] at s2
            cases s2
            obtain ⟨r3, s3⟩ := r1.chg (l' := l ++ [d1]) (vs' := vs ++ [v1]) e2 s0 h2 fun A' o => o.snoc v1r
            refine ⟨a, vs, v1, rfl, rfl, h2, ?_, h .non F1 _ A1 r3 (by simp only [RV]) (s1.trans s3)⟩
            rw [sizeLine_eq]
            have : vs.length = l.length := OVs.len o2
            rw [this]; exact hz
          · cases h1
        · cases h1
      · rename_i h1
        split at h1
        · split at h1 <;> cases h1
        · cases h1
      · exact h.elim
theorem w_ixO {i : Nat} {f : E} (σ : L2.St) (H : Hp) (Q : VK) (h : tDE K B W (eIxO i f) σ H Q) : tOp _root_.Q.rIxM (tVar i) (tDE K B W f) σ H Q := by
  obtain ⟨F, ρ, A, rp, h⟩ := h
  unfold eIxO at h
  by_cases c : isOL ρ[i]? = true
  case neg => rw [if_neg c] at h; exact h.elim
  case pos =>
    rw [if_pos c] at h
    obtain ⟨t0, l0, e0⟩ := isOL_some c
    obtain ⟨a, vs0, A0, s0, h0, _, _⟩ := own_at rp e0
    refine ⟨.ref a, s0, F, ρ, A, rp, ?_⟩
    cases e1 : f ρ with
    | bad => rw [e1] at h; exact h
    | exc x ρ1 => rw [e1] at h; exact h
    | ok d1 ρ1 =>
      rw [e1] at h
      simp only [ER.bind] at h
      intro v1 F1 H1 A1 r1 v1r s1
      split at h
      · rename_i h1
        split at h1
        · rename_i t l k e2
          split at h1
          · rename_i d e3
            split at h1
            · cases h1
            · rename_i hm
              cases h1
              obtain ⟨a', vs, A2, s2, h2, _, o2⟩ := own_at r1 e2
              rw [s0] at s2
              cases s2
              simp only [RV] at v1r
              obtain ⟨v, h3, h4⟩ := OVs.atD o2 e3 (by simpa using hm)
              exact ⟨a, vs, k, v, rfl, v1r, h2, h3, h v F1 H1 A1 r1 h4 s1⟩
          · cases h1
        · cases h1
      · rename_i h1
        split at h1
        · split at h1
          · split at h1 <;> cases h1
          · cases h1
        · cases h1
      · exact h.elim
theorem OVs.setP : ∀ {vs : List V} {l : List D} {A : List Addr} {m : Nat} {v : V} {d : D}, allPlain l = true → OVs K F H vs l A → RV K F H v d → OVs K F H (vs.set m v) (l.set m d) A
  | [], [], _, _, _, _, _, h, _ => h
  | w :: vs, e :: l, A, 0, v, d, hp, h, r => by
    simp only [OVs] at h
    obtain ⟨A1, A2, h1, h2, e⟩ := h
    simp only [allPlain, Bool.and_eq_true, Bool.not_eq_true'] at hp
    obtain ⟨z1, _⟩ := h1.plain hp.1
    subst z1
    simp only [List.set_cons_zero, OVs]
    exact ⟨[], A2, r.own, h2, e⟩
  | w :: vs, e :: l, A, m + 1, v, d, hp, h, r => by
    simp only [OVs] at h
    obtain ⟨A1, A2, h1, h2, e⟩ := h
    simp only [allPlain, Bool.and_eq_true] at hp
    simp only [List.set_cons_succ, OVs]
    exact ⟨A1, A2, h1, OVs.setP hp.2 h2 r, e⟩
  | [], _ :: _, _, _, _, _, _, h, _ => by simp only [OVs] at h
  | _ :: _, [], _, _, _, _, _, h, _ => by simp only [OVs] at h
theorem w_putO {i : Nat} {k f : E} (D : Ends) (σ : L2.St) (H : Hp) (h : tDS K B W (sPutO i k f) D σ H) : tAsg (tDE K B W f) (gSub (tVar i) (tDE K B W k) rSetL) D σ H := by
  obtain ⟨F, ρ, A, rp, h⟩ := h
  refine ⟨F, ρ, A, rp, ?_⟩
  unfold sPutO at h
  cases e1 : f ρ with
  | bad => rw [e1] at h; exact h
  | exc x ρ1 => rw [e1] at h; exact xend.expr h
  | ok d1 ρ1 =>
    rw [e1] at h
    intro v1 F1 H1 A1 r1 v1r s1
    simp only [ER.binds] at h
    by_cases c : isOL ρ1[i]? = true
    case neg => rw [if_neg c] at h; exact h.elim
    case pos =>
      rw [if_pos c] at h
      obtain ⟨t0, l0, e0⟩ := isOL_some c
      obtain ⟨a, vs0, A0, s0, h0, _, _⟩ := own_at r1 e0
      refine ⟨.ref a, s0, F1, ρ1, A1, r1, ?_⟩
      cases e2 : k ρ1 with
      | bad => rw [e2] at h; exact h
      | exc x ρ2 =>
        rw [e2] at h
        exact (xend.expr (send.before (D := D) (r := .ex x ρ2) h s1 rfl) : xendE K B W σ A1 F1 H1 x ρ2)
      | ok d2 ρ2 =>
        rw [e2] at h
        simp only at h
        intro v2 F2 H2 A2 r2 v2r s2
        split at h
        · rename_i h1
          split at h1
          · rename_i t l j e3
            split at h1
            · rename_i m e4
              split at h1
              · rename_i hp
                cases h1
                obtain ⟨a', vs, A3, s3, h3, _, o3⟩ := own_at r2 e3
                rw [s0] at s3
                cases s3
                simp only [RV] at v2r
                obtain ⟨r4, s4⟩ := r2.chg (l' := l.set m d1) (vs' := vs.set m v1) e3 s0 h3 fun A' o => o.setP hp (v1r.step r1 s2)
                exact ⟨a, vs, j, m, rfl, v2r, h3, by rw [OVs.len o3]; exact e4, h σ F2 _ A2 r4 ((s1.trans s2).trans s4) rfl⟩
              · cases h1
            · cases h1
          · cases h1
        all_goals first
          | exact h.elim
          | (rename_i h1
             split at h1
             · split at h1
               · split at h1 <;> cases h1
               · cases h1
             · cases h1)
theorem w_give {i : Nat} (σ : L2.St) (H : Hp) (Q : VK) (h : tDE K B W (eGive i) σ H Q) : tVar i σ H Q := by
  obtain ⟨F, ρ, A, rp, h⟩ := h
  unfold eGive at h
  rcases e2 : ρ[i]? with _ | _ | d
  · rw [e2] at h; exact h.elim
  · rw [e2] at h; exact h.elim
  rw [e2] at h
  simp only at h
  cases e3 : frzD d with
  | none => rw [e3] at h; exact h.elim
  | some d' =>
    rw [e3] at h
    simp only at h
    by_cases hm : ∃ d0, d = .own 0 d0
    · obtain ⟨d0, rfl⟩ := hm
      obtain ⟨a, A1, A2, k1, k2, k3, k4, k5, k6⟩ := rp.take1 e2
      obtain ⟨F2, m, fz, rv, dm⟩ := frz_ov (σ := σ) (A := A2) k4 k2 (by
        simp only [List.nodup_append] at k5 ⊢
        exact ⟨k5.2.1, k5.1, fun a ha b hb z => k5.2.2 b hb a ha z.symm⟩) e3
      simp only [List.nodup_append] at k5
      have r2 : Rep K F2 H B σ (ρ.set i none) A2 := ⟨k4.sl.stay m fun _ _ _ h => h, k4.nd, fun a ha f => by
        rcases fz a f with z | z
        · exact k4.nf a ha z
        · exact k5.2.2 a z a ha rfl, dm⟩
      obtain ⟨A3, r3, s3⟩ := r2.give1 (i := i) (A1 := []) (d := d') (by rw [List.getElem?_set_self (List.getElem?_eq_some_iff.mp e2).1]) k1 rv.own.op (by simpa using r2.nd) (fun a ha => by cases ha)
      rw [List.set_set] at r3
      refine ⟨_, k1, h _ F2 H A3 r3 rv ⟨m, fun a o e _ => e, fun a f => ?_, fun a ha => .inl ?_⟩⟩
      · rcases fz a f with z | z
        · exact .inl z
        · exact .inr (.inr (k6 a (List.mem_append_left _ z)))
      · have := s3 a ha
        simp at this
        exact k6 a (List.mem_append_right _ this)
    · have hp : d.isMut = false ∧ d' = d := by
        cases d with
        | own t d0 =>
          cases t with
          | zero => exact absurd ⟨d0, rfl⟩ hm
          | succ t => simp only [frzD] at e3; cases e3
        | exn c ns ds => simp only [frzD] at e3; cases e3
        | _ => simp only [frzD] at e3; cases e3; exact ⟨rfl, rfl⟩
      obtain ⟨hm', rfl⟩ := hp
      obtain ⟨v, A1, hv, ov, _⟩ := rp.sl.get e2
      have es : ρ.set i (some d') = ρ := by
        apply List.ext_getElem?
        intro j
        by_cases c : i = j
        · subst c
          rw [List.getElem?_set_self (List.getElem?_eq_some_iff.mp e2).1, e2]
        · rw [List.getElem?_set_ne c]
      rw [es] at h
      exact ⟨v, hv, h v F H A rp (ov.plain hm').2 Step.refl⟩
end
end U
namespace U
open PySem PySem.Spec PyProof.Rows L2
section
variable {K : PySem.W.Frag} {B : Bx} {F F' : Fz} {H H' : Hp} {W : WX}
theorem OVps.len : ∀ {vs : List V} {ds : List D} {A : List Addr}, OVps K F H B vs ds A → vs.length = ds.length
  | [], [], _, _ => rfl
  | _ :: _, _ :: _, _, h => by
    simp only [OVps] at h
    obtain ⟨A1, A2, h1, h2, e⟩ := h
    simp [OVps.len h2]
  | [], _ :: _, _, h => by simp only [OVps] at h
  | _ :: _, [], _, h => by simp only [OVps] at h
theorem OVS.nones : ∀ m : Nat, OVS K F H B (List.replicate m none) (List.replicate m none) []
  | 0 => by simp only [List.replicate_zero, OVS]
  | m + 1 => by
    simp only [List.replicate_succ, OVS]
    exact ⟨[], [], by simp only [OVo], OVS.nones m, rfl⟩
theorem OVps.start (m : Nat) : ∀ {vs : List V} {ds : List D} {A : List Addr}, OVps K F H B vs ds A → OVS K F H B (vs.map some ++ List.replicate m none) (ds.map some ++ List.replicate m none) A
  | [], [], _, h => by
    simp only [OVps] at h
    subst h
    exact OVS.nones m
  | _ :: _, _ :: _, _, h => by
    simp only [OVps] at h
    obtain ⟨A1, A2, h1, h2, e⟩ := h
    simp only [List.map_cons, List.cons_append, OVS]
    exact ⟨A1, A2, by simp only [OVo]; exact h1, OVps.start m h2, e⟩
  | [], _ :: _, _, h => by simp only [OVps] at h
  | _ :: _, [], _, h => by simp only [OVps] at h
theorem OVS.take : ∀ {σ : L2.St} {ρ : Env} {A : List Addr} (n : Nat), OVS K F H B σ ρ A → ∃ A1 A2, A = A1 ++ A2 ∧ OVS K F H B (σ.take n) (ρ.take n) A1
  | _, _, A, 0, _ => ⟨[], A, rfl, by simp only [List.take_zero, OVS]⟩
  | [], [], A, n + 1, h => ⟨A, [], by simp, h⟩
  | _ :: _, _ :: _, _, n + 1, h => by
    simp only [OVS] at h
    obtain ⟨A1, A2, h1, h2, e⟩ := h
    obtain ⟨A3, A4, e2, h3⟩ := OVS.take n h2
    subst e e2
    refine ⟨A1 ++ A3, A4, by simp, ?_⟩
    simp only [List.take_succ_cons, OVS]
    exact ⟨A1, A3, h1, h3, rfl⟩
  | [], _ :: _, _, _, h => by simp only [OVS] at h
  | _ :: _, [], _, _, h => by simp only [OVS] at h
theorem fn_ok {CX : CXT} {P : Program} {w : World} {mg : Str → Option Value} {base : Heap} {x qual : Str} {params : Arguments} {body : List Stmt} {scope : Scope} {dvs : List V} {kws : List (Str × V)} {f : Addr} {fd : FuncData} {N ps : List Str} {k n m : Nat} {b : U.St}
    (Fd : FunD K x qual params body scope dvs kws f fd) (S : FnScope N ps scope) (hn : ps.length = n) (hN : N.length = n + m)
    (hb : ∀ (cdv : Value) (A : Around) (outer : List PySem.Env) (s : Shared) (H : Hp) (E : XK) (B : Bx), Room k (A.deeper (envOfC qual scope s.heap.objs.size f cdv)) →
      PSs (cxOf CX P w K mg base N qual scope f cdv A outer s H E) body (tDS K B (fun cls d _ H => E cls d H) b)) : FnOk P w K mg base CX (k + 1) f fd ps (spD K (fnOf n m b)) := by
  refine Fd.ok S (fun vs H Q E h => ?_) (fun cdv A outer s H vs Q E hr h => ?_)
  · obtain ⟨F, ds, A, B, o, nd, nf, dm, h⟩ := h
    unfold fnOf at h
    by_cases c : ds.length = n
    · rw [o.len, c, hn]
    · rw [if_neg c] at h; exact h.elim
  · obtain ⟨F, ds, A', B, o, nd, nf, dm, h⟩ := h
    refine ⟨_, hb cdv A outer s H E B hr, ?_⟩
    unfold fnOf at h
    by_cases c : ds.length = n
    case neg => rw [if_neg c] at h; exact h.elim
    case pos =>
      rw [if_pos c] at h
      have hl := o.len
      have es : L2.start N vs = vs.map some ++ List.replicate m none := by
        unfold L2.start
        rw [hN, hl, c, Nat.add_sub_cancel_left]
      refine ⟨F, ds.map some ++ List.replicate m none, A', ⟨by rw [es]; exact o.start m, nd, nf, dm⟩, ?_⟩
      have fin : ∀ {ρ : Env} {σ' : L2.St} {F' : Fz} {H' : Hp} {A2 : List Addr}, Rep K F' H' B σ' ρ A2 → ∃ A3 A4, A2 = A3 ++ A4 ∧ OVS K F' H' B (σ'.take n) (ρ.take n) A3 := fun r => r.sl.take n
      cases e : b (ds.map some ++ List.replicate m none) with
      | bad => rw [e] at h; exact h
      | bk ρ => rw [e] at h; exact h.elim
      | ct ρ => rw [e] at h; exact h.elim
      | nx ρ =>
        rw [e] at h
        intro σ' F' H' A2 r st _
        obtain ⟨A3, A4, rfl, o3⟩ := fin r
        have nd' := r.nd
        simp only [List.nodup_append] at nd'
        exact h .non F' H' _ A3 [] o3 (by simpa using nd'.1) (fun a ha => r.nf a (List.mem_append_left _ (by simpa using ha))) r.dm (by simp only [OV, RV]; exact ⟨trivial, trivial⟩) (st.sub fun a ha => List.mem_append_left _ (by simpa using ha))
      | rt d ρ =>
        rw [e] at h
        intro v σ' F' H' A2 Ar r ov nda nfa st _
        obtain ⟨A3, A4, rfl, o3⟩ := fin r
        simp only [List.nodup_append, List.mem_append] at nda
        refine h v F' H' _ A3 Ar o3 ?_ (fun a ha => ?_) r.dm ov (st.sub fun a ha => ?_)
        · simp only [List.nodup_append]
          exact ⟨nda.1.1, nda.2.1, fun a ha b hb => nda.2.2 a (.inl ha) b hb⟩
        · rcases List.mem_append.mp ha with z | z
          · exact r.nf a (List.mem_append_left _ z)
          · exact nfa a z
        · simp only [List.mem_append] at ha ⊢
          exact ha.elim (fun z => .inl (.inl z)) .inr
      | ex x ρ =>
        rw [e] at h
        intro cls dd σ' F' H' A2 r xv st _
        obtain ⟨A3, A4, rfl, o3⟩ := fin r
        have nd' := r.nd
        simp only [List.nodup_append] at nd'
        exact h cls dd F' H' _ A3 o3 nd'.1 (fun a ha => r.nf a (List.mem_append_left _ ha)) r.dm xv (st.sub fun a ha => List.mem_append_left _ ha)
theorem w_raise0 {c : String} {C : Addr} (hC : C = He.ga K (Str.ofString c)) (D : Ends) (σ : L2.St) (H : Hp) (h : tDS K B W (sRaise c [] aNil) D σ H) : (fun (_ : Ends) σ H => (fun (_ : L2.St) (H : Hp) (Q : XK) => Q (.ref C) none H) σ H fun cls d H' => W cls d σ H') D σ H := by
  obtain ⟨F, ρ, A, rp, h⟩ := h
  exact h (.ref C) none σ F H A rp ⟨by rw [hC], .inl ⟨rfl, rfl, rfl⟩⟩ Step.refl rfl
theorem w_raise1 {c fld : String} {C : Addr} {f : As} (hC : C = He.ga K (Str.ofString c)) (h1 : ∀ ρ ds ρ', f ρ = .ok ds ρ' → ds.length = 1) (D : Ends) (σ : L2.St) (H : Hp) (h : tDS K B W (sRaise c [fld] f) D σ H) :
    (fun (_ : Ends) σ H => _root_.Q.tMk1 C (Str.ofString fld) (tDA K B W f) σ H fun cls d H' => W cls d σ H') D σ H := by
  obtain ⟨F, ρ, A, rp, h⟩ := h
  refine ⟨F, ρ, A, rp, ?_⟩
  unfold sRaise at h
  cases e1 : f ρ with
  | bad => rw [e1] at h; exact h
  | exc x ρ1 => rw [e1] at h; exact xend.expr h
  | ok ds ρ1 =>
    rw [e1] at h
    have hl := h1 ρ ds ρ1 e1
    intro vs F1 H1 A1 r1 vr s1
    match ds, hl, vr with
    | [d], _, vr =>
      obtain ⟨v, rfl, rv⟩ := vr.one
      refine ⟨v, rfl, fun p hp => ?_⟩
      have g : Grow F1 H1 (fun a => F1 a ∨ a = p) (upd H1 p (.xd [(Str.ofString fld, v)])) := Grow.new hp
      exact h (.ref C) (some p) σ _ _ A1 (r1.grow g) ⟨by rw [hC], .inr ⟨p, _, rfl, .inr rfl, upd_same, rfl, by simp only [List.map_cons, List.map_nil, RVs]; exact ⟨rv.grow g, trivial⟩⟩⟩ (s1.trans g.step) rfl
theorem eXf_ok {i : Nat} {c fld : String} {ρ ρ' : Env} {d : D} (h : eXf i c fld ρ = .ok d ρ') : ρ' = ρ ∧ ρ[i]? = some (some (.exn c [fld] [d])) := by
  unfold eXf at h
  split at h
  · split at h
    · rename_i e hc
      cases h
      rw [e, hc.1, hc.2]
      exact ⟨rfl, rfl⟩
    · cases h
  · cases h
theorem eXf_exc {i : Nat} {c fld : String} {ρ ρ' : Env} {x : Ex} (h : eXf i c fld ρ = .exc x ρ') : False := by
  unfold eXf at h
  split at h
  · split at h <;> cases h
  · cases h
theorem w_xf {i : Nat} {c fld : String} {C a : Addr} {cls : Value} {dd : Option Addr} {pins : List Addr} (hC : C = He.ga K (Str.ofString c)) (σ : L2.St) (H : Hp) (Q : VK) (h : tDE K (pins, some (a, cls, dd)) W (eXf i c fld) σ H Q) : _root_.Q.tBy1 C (Str.ofString fld) a cls dd (tVar i) σ H Q := by
  obtain ⟨F, ρ, A, rp, h⟩ := h
  cases e : eXf i c fld ρ with
  | bad => rw [e] at h; exact h.elim
  | exc x ρ1 => exact (eXf_exc e).elim
  | ok d ρ1 =>
    rw [e] at h
    obtain ⟨rfl, e⟩ := eXf_ok e
    obtain ⟨v, A1, hv, ov, _⟩ := rp.sl.get e
    simp only [OVp] at ov
    obtain ⟨_, a', cls', dd', rfl, eb, xv⟩ := ov
    cases eb
    refine ⟨.ref a, hv, rfl, by rw [hC]; exact xv.1, ?_⟩
    rcases xv.2 with ⟨z, _⟩ | ⟨d2, fs, e1, f2, e2, e3, r⟩
    · cases z
    · match fs, e2, e3, r with
      | [(n, v)], e2, e3, r =>
        simp only [List.map_cons, List.map_nil, RVs] at r
        simp only [List.map_cons, List.map_nil, List.cons.injEq, and_true] at e3
        subst e3
        exact ⟨d2, v, e1, e2, h v F H A rp r.1 Step.refl⟩
      | [], _, e3, _ => simp at e3
      | _ :: _ :: _, _, e3, _ => simp at e3
inductive HdOk (K : PySem.W.Frag) (B : Bx) : List Hd → List (Value × Option Nat × (Addr → Value → Option Addr → TS)) → Prop
  | nil : HdOk K B [] []
  | plain {c : String} {C : Addr} {s : U.St} {hs : List Hd} {l : List (Value × Option Nat × (Addr → Value → Option Addr → TS))} (hC : C = He.ga K (Str.ofString c)) (r : HdOk K B hs l) : HdOk K B (⟨c, none, s⟩ :: hs) ((.ref C, none, fun _ _ _ => tDS K B W0 s) :: l)
  | named {c : String} {C : Addr} {i : Nat} {s : U.St} {hs : List Hd} {l : List (Value × Option Nat × (Addr → Value → Option Addr → TS))} (hC : C = He.ga K (Str.ofString c)) (r : HdOk K B hs l) : HdOk K B (⟨c, some i, s⟩ :: hs) ((.ref C, some i, fun a cls d => tDS K (B.1, some (a, cls, d)) W0 s) :: l)
def TbOk (K : PySem.W.Frag) (t : Tb) : Prop := ∀ p ∈ t, PySem.W.exmOne K (.ref (He.ga K (Str.ofString p.1))) (.ref (He.ga K (Str.ofString p.2.1))) = some p.2.2
theorem TbOk.at {t : Tb} (h : TbOk K t) {a b : String} {r : Bool} (e : t.at a b = some r) : PySem.W.exmOne K (.ref (He.ga K (Str.ofString a))) (.ref (He.ga K (Str.ofString b))) = some r := by
  induction t with
  | nil => simp only [Tb.at] at e; cases e
  | cons p t ih =>
    obtain ⟨x, y, z⟩ := p
    simp only [Tb.at] at e
    split at e
    · rename_i c
      cases e
      have := h (x, y, r) List.mem_cons_self
      rw [c.1, c.2] at this
      exact this
    · exact ih (fun p hp => h p (List.mem_cons_of_mem _ hp)) e
theorem OVS.exn {x : Option (Addr × Value × Option Addr)} : ∀ {σ : L2.St} {ρ : Env} {A : List Addr}, noExn ρ = true → OVS K F H B σ ρ A → OVS K F H (B.1, x) σ ρ A
  | [], [], _, _, h => by simp only [OVS] at h ⊢; exact h
  | v :: _, d :: _, _, hn, h => by
    simp only [OVS] at h ⊢
    obtain ⟨A1, A2, h1, h2, e⟩ := h
    cases d with
    | none =>
      simp only [noExn] at hn
      exact ⟨A1, A2, by simp only [OVo] at h1 ⊢; exact h1, OVS.exn hn h2, e⟩
    | some d =>
      simp only [noExn, Bool.and_eq_true, Bool.not_eq_true'] at hn
      refine ⟨A1, A2, ?_, OVS.exn hn.2 h2, e⟩
      cases v with
      | none => simp only [OVo] at h1
      | some v =>
        simp only [OVo] at h1 ⊢
        unfold OVp at h1 ⊢
        split at h1
        · exact h1
        · cases hn.1
        · exact h1
  | [], _ :: _, _, _, h => by simp only [OVS] at h
  | _ :: _, [], _, _, h => by simp only [OVS] at h
theorem Rep.exn {σ : L2.St} {ρ : Env} {A : List Addr} (x : Option (Addr × Value × Option Addr)) (hn : noExn ρ = true) (r : Rep K F H B σ ρ A) : Rep K F H (B.1, x) σ ρ A := ⟨r.sl.exn hn, r.nd, r.nf, r.dm⟩
theorem Rep.putX {σ : L2.St} {ρ ρ' : Env} {A : List Addr} {i : Nat} {x : Ex} {a : Addr} {cls : Value} {dd : Option Addr} (r : Rep K F H B σ ρ A) (hn : noExn ρ = true) (xv : XV K F H x cls dd) (e : U.put i (.exn x.cls x.ns x.ds) ρ = some ρ') :
    ∃ A', Rep K F H (B.1, some (a, cls, dd)) (σ.set i (some (.ref a))) ρ' A' ∧ ∀ b ∈ A', b ∈ A := by
  have he : ∃ c, ρ[i]? = some c ∧ ρ' = ρ.set i (some (.exn x.cls x.ns x.ds)) := by
    unfold U.put at e
    split at e
    · cases e
    · rename_i c hx hn
      cases e
      exact ⟨c, by assumption, rfl⟩
    · cases e
  obtain ⟨c, hc, rfl⟩ := he
  have r2 := r.exn (some (a, cls, dd)) hn
  obtain ⟨v0, A1, L, R, h1, h2, h3, h4⟩ := r2.sl.split hc
  subst h3
  refine ⟨L ++ [] ++ R, ⟨h4 (fun _ h => h) (fun _ _ _ h => h) ?_, ?_, fun b hb => ?_, r.dm⟩, fun b hb => ?_⟩
  · simp only [OVo, OVp]
    exact ⟨trivial, a, cls, dd, rfl, rfl, xv⟩
  · have nd := r.nd
    simp only [List.append_nil, List.nodup_append, List.mem_append] at nd ⊢
    exact ⟨nd.1.1, nd.2.1, fun a ha b hb => nd.2.2 a (.inl ha) b hb⟩
  · simp only [List.append_nil, List.mem_append] at hb
    exact r.nf b (by simp only [List.mem_append]; exact hb.elim (fun z => .inl (.inl z)) .inr)
  · simp only [List.append_nil, List.mem_append] at hb ⊢
    exact hb.elim (fun z => .inl (.inl z)) .inr
theorem Rep.unset {σ : L2.St} {ρ : Env} {A : List Addr} {i : Nat} (r : Rep K F H B σ ρ A) : ∃ A', Rep K F H B (σ.set i none) (ρ.set i none) A' ∧ ∀ b ∈ A', b ∈ A := by
  have := r.wipe [i]
  exact this
theorem w_chain {o o' : D → D → Option D} {r r' : R2} {f g k : E} (p : P2 K o r) (p' : P2 K o' r') (σ : L2.St) (H : Hp) (Q : VK) (h : tDE K B W (eChain o o' f g k) σ H Q) : tChain r r' (tDE K B W f) (tDE K B W g) (tDE K B W k) σ H Q := by
  obtain ⟨F, ρ, A, rp, h⟩ := h
  refine ⟨F, ρ, A, rp, ?_⟩
  unfold eChain at h
  cases e1 : f ρ with
  | bad => rw [e1] at h; exact h
  | exc x ρ1 => rw [e1] at h; exact h
  | ok d1 ρ1 =>
    rw [e1] at h
    intro v1 F1 H1 A1 r1 v1r s1
    refine ⟨F1, ρ1, A1, r1, ?_⟩
    simp only [ER.bind] at h
    cases e2 : g ρ1 with
    | bad => rw [e2] at h; exact h
    | exc x ρ2 => rw [e2] at h; exact h.before s1
    | ok d2 ρ2 =>
      rw [e2] at h
      simp only at h
      intro v2 F2 H2 A2 r2 v2r s2
      cases e3 : o d1 d2 with
      | none => rw [e3] at h; exact h.elim
      | some d3 =>
        rw [e3] at h
        cases d3 with
        | bl c =>
          refine p F2 H2 v1 v2 d1 d2 _ _ (v1r.step r1 s2) v2r e3 fun v F3 H3 g3 vr => ?_
          simp only [RV] at vr
          refine ⟨c, vr, ?_⟩
          cases c with
          | false =>
            simp only at h
            rw [if_neg (by decide)]
            exact h _ F3 H3 A2 (r2.grow g3) (by simp only [RV]) ((s1.trans s2).trans g3.step)
          | true =>
            simp only at h
            rw [if_pos rfl]
            refine ⟨F3, ρ2, A2, r2.grow g3, ?_⟩
            cases e4 : k ρ2 with
            | bad => rw [e4] at h; exact h
            | exc x ρ3 => rw [e4] at h; exact h.before ((s1.trans s2).trans g3.step)
            | ok d4 ρ3 =>
              rw [e4] at h
              intro v4 F4 H4 A4 r4 v4r s4
              obtain ⟨d, ed, h⟩ := ok_inv h
              exact p' F4 H4 v2 v4 d2 d4 d Q ((v2r.grow g3).step (r2.grow g3) s4) v4r ed fun v F' H' g vr => h v F' H' A4 (r4.grow g) vr ((((s1.trans s2).trans g3.step).trans s4).trans g.step)
        | _ => exact h.elim
end
end U
namespace U
open PySem PySem.Spec PyProof.Rows L2
section
variable {X : Cx} {e : Expr} {B : Bx} {W : WX} {f g k : E} {st : Stmt}
abbrev DE (X : Cx) (B : Bx) (W : WX) (e : Expr) (f : E) : Prop := PE X e (tDE X.K B W f)
abbrev DM (X : Cx) (B : Bx) (W : WX) (e : Expr) (f : E) : Prop := PE X e (tDM X.K B W f)
abbrev DT (X : Cx) (B : Bx) (W : WX) (e : Expr) (f : E) : Prop := PT X e (tDT X.K B W f)
abbrev DA (X : Cx) (B : Bx) (W : WX) (es : List Expr) (f : As) : Prop := PA X es (tDA X.K B W f)
abbrev DG (X : Cx) (B : Bx) (W : WX) (es : List Expr) (g : List Ag) : Prop := PA X es (tDG X.K B W g)
abbrev DI (X : Cx) (B : Bx) (W : WX) (tg e : Expr) (f : Is) : Prop := PI X tg e (tDI X.K B W f)
abbrev DS (X : Cx) (B : Bx) (W : WX) (st : Stmt) (f : U.St) : Prop := PS X st (tDS X.K B W f)
abbrev DSs (X : Cx) (B : Bx) (W : WX) (st : List Stmt) (f : U.St) : Prop := PSs X st (tDS X.K B W f)
theorem d_var {i : Nat} (h : PE X e (tVar i)) : DE X B W e (eVar i) := h.weak w_var
theorem d_give {i : Nat} (h : PE X e (tVar i)) : DE X B W e (eGive i) := h.weak w_give
theorem d_c {v : V} {d : D} (p : ∀ F H, RV X.K F H v d) (h : PE X e (tC v)) : DE X B W e (eC d) := h.weak (w_c p)
theorem c_int {K : PySem.W.Frag} {i : Int} (F : Fz) (H : Hp) : RV K F H (.int i) (.int i) := by simp only [RV]
theorem c_bl {K : PySem.W.Frag} {i : Bool} (F : Fz) (H : Hp) : RV K F H (.bl i) (.bl i) := by simp only [RV]
theorem c_non {K : PySem.W.Frag} (F : Fz) (H : Hp) : RV K F H .non .non := by simp only [RV]
def strIs (x : Str) (l : List Nat) : Bool := decide (x.cps.toList = l) && l.all fun c => decide (c < 1114112)
theorem c_str {K : PySem.W.Frag} {x : Str} {l : List Nat} (h : strIs x l = true) (F : Fz) (H : Hp) : RV K F H (.str x) (.str l) := by
  unfold strIs at h
  rw [Bool.and_eq_true] at h
  have e := of_decide_eq_true h.1
  simp only [RV]
  refine ⟨?_, fun c hc => ?_⟩
  · obtain ⟨c⟩ := x
    subst e
    simp [S]
  · exact of_decide_eq_true (List.all_eq_true.mp h.2 c hc)
theorem c_tup {K : PySem.W.Frag} {a : Addr} {vs : List V} {ds : List D} (h : ∀ H, SqT K H a vs) (r : ∀ F H, RVs K F H vs ds) (F : Fz) (H : Hp) : RV K F H (.ref a) (.tup ds) := by
  simp only [RV]
  refine ⟨a, vs, rfl, ?_, r F H⟩
  rcases h (fun _ => none) with (z | ⟨o, z⟩) | z
  · cases z
  · cases z
  · exact .inr z
theorem c_nil {K : PySem.W.Frag} (F : Fz) (H : Hp) : RVs K F H [] [] := by simp only [RVs]
theorem c_cons {K : PySem.W.Frag} {v : V} {d : D} {vs : List V} {ds : List D} (h : ∀ F H, RV K F H v d) (r : ∀ F H, RVs K F H vs ds) (F : Fz) (H : Hp) : RVs K F H (v :: vs) (d :: ds) := by simp only [RVs]; exact ⟨h F H, r F H⟩
theorem d_op {o : D → D → Option D} {r : R2} (p : P2 X.K o r) (h : PE X e (tOp r (tDE X.K B W f) (tDE X.K B W g))) : DE X B W e (eOp o f g) := h.weak (w_op p)
theorem d_un {o : D → Option D} {r : V → Hp → VK → Prop} (p : P1 X.K o r) (h : PE X e (tUn r (tDE X.K B W f))) : DE X B W e (eUn o f) := h.weak (w_un p)
theorem d_n {o : List D → Option D} {r : List V → Hp → VK → Prop} {a : As} (p : PN X.K o r) (h : PE X e (tCB r (tDA X.K B W a))) : DE X B W e (eN o a) := h.weak (w_n p)
theorem d_tup {a : As} (h : PE X e (tTup (tDA X.K B W a))) : DE X B W e (eN mkTup a) := h.weak w_tup
theorem d_lst {a : As} (h : PE X e (tLst (tDA X.K B W a))) : DM X B W e (eN mkLst a) := h.weak w_lst
theorem d_and (h : PE X e (tAndV (tDE X.K B W f) (tDE X.K B W g))) : DE X B W e (eAnd f g) := h.weak w_and
theorem d_not (h : PE X e (tNotV (tDE X.K B W f))) : DE X B W e (eUn oNot f) := h.weak w_not
theorem d_if (h : PE X e (tIf (tDT X.K B W k) (tDE X.K B W f) (tDE X.K B W g))) : DE X B W e (eIf k f g) := h.weak w_if
theorem d_frz (h : DM X B W e f) : DE X B W e (eFrz f) := h.weak w_frz
theorem d_dm (h : DE X B W e f) : DM X B W e f := h.weak w_dm
theorem d_sl {o : D → Option Int → Option Int → Option D} {r : V → Option Int → Option Int → Hp → VK → Prop} {lo hi : Option E} (p : P3 X.K o r) (h : PE X e (tSl r (tDE X.K B W f) (tDO X.K B W (part lo)) (tDO X.K B W (part hi)))) : DE X B W e (eSl o f lo hi) := h.weak (w_sl p)
theorem d_po0 : PO X none (tDO X.K B W (part none)) := po_none.weak w_ponone
theorem d_po {e : Expr} (h : DE X B W e f) : PO X (some e) (tDO X.K B W (part (some f))) := (po_some h).weak w_posome
theorem d_rev (h : PE X e (tRevL X.K (tDE X.K B W f))) : DM X B W e (eUn oRev f) := h.weak w_revM
theorem d_m1 {o : D → D → Option D} {r : V → List V → Hp → VK → Prop} (p : PM1 X.K o r) (h : PE X e (tM1 r (tDE X.K B W f) (tDE X.K B W g))) : DE X B W e (eMs o f g) := h.weak (w_m1 p)
theorem d_app {i : Nat} (h : PE X e (tBM X.K "list" rAppend (tVar i) (tCons (tDE X.K B W f) tNil))) : DE X B W e (eApp i f) := h.weak w_app
theorem d_ixO {i : Nat} (h : PE X e (tOp _root_.Q.rIxM (tVar i) (tDE X.K B W f))) : DE X B W e (eIxO i f) := h.weak w_ixO
theorem a_nil : DA X B W [] aNil := pa_nil.weak w_anil
theorem a_cons {es : List Expr} {r : As} (h : DE X B W e f) (hr : DA X B W es r) (hs : starEach (e :: es) X.env = (false, eval e X.env) :: starEach es X.env := by rfl) : DA X B W (e :: es) (aCons f r) := (pa_cons h hr hs).weak w_acons
theorem g_nil : DG X B W [] [] := pa_nil.weak w_gnil
theorem g_v {es : List Expr} {g : List Ag} (h : DE X B W e f) (hr : DG X B W es g) (hs : starEach (e :: es) X.env = (false, eval e X.env) :: starEach es X.env := by rfl) : DG X B W (e :: es) (.v f :: g) := (pa_cons h hr hs).weak w_gv
theorem g_b {es : List Expr} {g : List Ag} {i : Nat} (h : PE X e (tVar i)) (hr : DG X B W es g) (hs : starEach (e :: es) X.env = (false, eval e X.env) :: starEach es X.env := by rfl) : DG X B W (e :: es) (.b i :: g) := (pa_cons h hr hs).weak w_gb
theorem d_call {fn : Fn} {g : List Ag} {dd : List D} {dvs : List V} (hd : ∀ F H, RVs X.K F H dvs dd) (h : PE X e (tCallSD (spD X.K fn) dvs (WE W) (tDG X.K B W g))) : DM X B W e (eCall fn g dd) := h.weak (w_call hd)
theorem t_val (h : PT X e (tTest (tDE X.K B W f))) : DT X B W e f := h.weak w_tv
theorem t_valB (h : PT X e (tB (tDE X.K B W f))) : DT X B W e f := h.weak w_tv
theorem t_or (h : PW X e (tOr (tDT X.K B W f) (tDT X.K B W g))) : PW X e (tDT X.K B W (eOr f g)) := h.weak w_tor
theorem t_not (h : PT X e (L2.tNot (tDT X.K B W f))) : DT X B W e (eUn oNot f) := h.weak w_tnot
theorem t_op {o : D → D → Option D} {r : R2} (p : P2 X.K o r) (h : PT X e (tTest (tOp r (tDE X.K B W f) (tDE X.K B W g)))) : DT X B W e (eOp o f g) := t_val (h.weak fun σ H Q q => w_op p σ H _ q)
theorem t_chain {o o' : D → D → Option D} {r r' : R2} (p : P2 X.K o r) (p' : P2 X.K o' r') (h : PT X e (tTest (tChain r r' (tDE X.K B W f) (tDE X.K B W g) (tDE X.K B W k)))) : DT X B W e (eChain o o' f g k) := t_val (h.weak fun σ H Q q => w_chain p p' σ H _ q)
variable {b c : U.St}
theorem s_nil : DSs X B W [] sNil := pss_nil.weak w_nil
theorem s_cons {sts : List Stmt} (h : DS X B W st b) (hr : DSs X B W sts c) : DSs X B W (st :: sts) (sSeq b c) := (pss_cons h hr).weak w_seq
theorem s_one (h : DS X B W st b) : DSs X B W [st] b := pss_one h
theorem s_ret (h : PS X st (tRet (tDM X.K B W f))) : DS X B W st (sRet f) := h.weak w_ret
theorem s_drop (h : PS X st (tDrop (tDM X.K B W f))) : DS X B W st (sDrop f) := h.weak w_drop
theorem s_if (h : PS X st (tIfS (tDT X.K B W k) (tDS X.K B W b) (tDS X.K B W c))) : DS X B W st (sIf k b c) := h.weak w_ifs
theorem s_set {i : Nat} (h : PS X st (tAsg (tDM X.K B W f) (gName i))) : DS X B W st (sSet i f) := h.weak w_set
theorem s_asg {gt : Tg} {tg : TG} {ks : List Nat} (hg : WG X.K B ks gt tg) (h : PS X st (tAsg (tDE X.K B W f) tg)) : DS X B W st (sAsg f gt) := h.weak (w_asg hg)
theorem s_par2 {i j : Nat} {a : As} (h : PS X st (tPar i j (tDA X.K B W a))) : DS X B W st (sPar [i, j] a) := h.weak w_par2
theorem s_aug {i : Nat} {o : D → D → Option D} {ti : TIp} (p : PI2 X.K o ti) (h : PS X st (tAug i (tDE X.K B W f) ti)) : DS X B W st (sAug i o f) := h.weak (w_aug p)
theorem s_putO {i : Nat} (h : PS X st (tAsg (tDE X.K B W f) (gSub (tVar i) (tDE X.K B W k) rSetL))) : DS X B W st (sPutO i k f) := h.weak w_putO
theorem s_for {it : Is} {gt : Tg} {tg : TG} {ks : List Nat} (hg : WG X.K B ks gt tg) (h : PS X st (tFor (tDI X.K B W it) tg (tDS X.K B W b))) : DS X B W st (sFor it gt b) := h.weak (w_for hg)
theorem s_while (h : PS X st (tWhile (tDT X.K B W k) (tDS X.K B W b))) : DS X B W st (sWhile k b) := h.weak w_while
theorem s_raise0 {c : String} {C : Addr} (hC : C = He.ga X.K (Str.ofString c)) (h : PS X st (fun _ σ H => (fun (_ : L2.St) (H : Hp) (Q : XK) => Q (.ref C) none H) σ H fun cls d H' => W cls d σ H')) : DS X B W st (sRaise c [] aNil) := h.weak (w_raise0 hC)
theorem s_raise1 {c fld : String} {C : Addr} {a : As} (hC : C = He.ga X.K (Str.ofString c)) (h1 : ∀ ρ ds ρ', a ρ = .ok ds ρ' → ds.length = 1) (h : PS X st (fun _ σ H => _root_.Q.tMk1 C (Str.ofString fld) (tDA X.K B W a) σ H fun cls d H' => W cls d σ H')) : DS X B W st (sRaise c [fld] a) := h.weak (w_raise1 hC h1)
variable {tg : Expr}
theorem _root_.L2.PI.weak {t t' : TI} (h : PI X tg e t) (w : ∀ σ H R, t' σ H R → t σ H R) : PI X tg e t' := ⟨fun pins s σ H R I q => h.run pins s σ H R I (w σ H R q)⟩
theorem i_list (h : DE X B W e f) : DI X B W tg e (iOf itL f) := (pi_list h).weak w_ilist
theorem i_tup (h : DE X B W e f) : DI X B W tg e (iOf itT f) := (pi_tup h).weak w_itup
theorem i_str (h : DE X B W e f) : DI X B W tg e (iOf itS f) := (pi_str h).weak w_istr
theorem i_rng1 {a : As} (h1 : ∀ ρ ds ρ', a ρ = .ok ds ρ' → ds.length = 1) (h : PI X tg e (iRng1 (tDA X.K B W a))) : DI X B W tg e (iOfA itR a) := h.weak fun σ H R q => w_irng1 σ H R q h1
theorem _root_.L2.PTs.weak {ifs : List Expr} {t t' : TT} (h : PTs X ifs t) (w : ∀ σ H Q, t' σ H Q → t σ H Q) : PTs X ifs t' := ⟨fun pins s σ H Q I q => h.run pins s σ H Q I (w σ H Q q)⟩
theorem p_ipAdd {K : PySem.W.Frag} : PI2 K oAdd (ipI fun i j => i + j) := by
  intro F H x y a b d Q ra rb e q
  unfold oAdd at e; split at e
  · cases e; simp only [RV] at ra rb; exact ⟨_, _, ra, rb, q _ F H Grow.refl (by simp only [RV])⟩
  · cases e
theorem p_ipSub {K : PySem.W.Frag} : PI2 K oSub (ipI fun i j => i - j) := by
  intro F H x y a b d Q ra rb e q
  unfold oSub at e; split at e
  · cases e; simp only [RV] at ra rb; exact ⟨_, _, ra, rb, q _ F H Grow.refl (by simp only [RV])⟩
  · cases e
def rIsiB (K : PySem.W.Frag) : List V → Hp → VK → Prop := fun xs H Q => ∃ (v : V) (n T : String) (b : Bool), xs = [v, .ty T] ∧ TyX K H v (.type n) ∧ kitB n T = some b ∧ Q (.bl b) H
theorem call_isiB {X : Cx} : CallR X (.builtin "isinstance") (rIsiB X.K) := by
  intro pins s σ H xs us Q I r h
  obtain ⟨v, n, T, b, rfl, ty, kb, q⟩ := h
  exact call_isi pins s σ H _ us Q I r ⟨v, _, _, _, _, rfl, .ty _, ty, kit_ty kb, q⟩
theorem kit_all : ∀ n ∈ ["NoneType", "bool", "int", "str", "tuple", "list", "dict"], ∀ T ∈ ["bool", "int", "str", "tuple", "list"], kitB n T = some (n == T || (n == "bool" && T == "int")) := by decide +kernel
theorem tyName_mem {d : D} {n : String} (h : tyName d = some n) : n ∈ ["NoneType", "bool", "int", "str", "tuple", "list", "dict"] := by
  cases d <;> simp only [tyName] at h <;> first | cases h | skip
  all_goals simp
theorem d_isi {T : String} (hT : T ∈ ["bool", "int", "str", "tuple", "list"]) (h : PE X e (tCB (rIsiB X.K) (tCons (tDE X.K B W f) (tCons (tC (.ty T)) tNil)))) : DE X B W e (eIsi T f) := by
  refine h.weak fun σ H Q q => ?_
  refine w_un (r := fun v H Q => rIsiB X.K [v, .ty T] H Q) ?_ σ H Q q
  intro F H x a d Q ra e q
  unfold oIsi at e
  obtain ⟨n, h1, rfl⟩ := Option.map_eq_some_iff.mp e
  exact ⟨x, n, T, _, rfl, ty_of ra h1, kit_all n (tyName_mem h1) T hT, q _ F H Grow.refl (by simp only [RV])⟩
theorem d_xf {i : Nat} {c fld : String} {C a : Addr} {cls : Value} {dd : Option Addr} {pins : List Addr} (hC : C = He.ga X.K (Str.ofString c)) (h : PE X e (_root_.Q.tBy1 C (Str.ofString fld) a cls dd (tVar i))) : DE X (pins, some (a, cls, dd)) W e (eXf i c fld) := h.weak (w_xf hC)
def CXa : CXT := fun outer H s E e s' => ∃ (P : Program) (w : World), L2.CX P w outer H s E e s'
theorem cxa_end (H : Hp) (s : Shared) (e : Value) (s' : Shared) (h : CXa [] H s (fun _ _ _ => False) e s') : False := by
  obtain ⟨P, w, a, B, H', cls, d, _, _, _, _, _, _, _, z⟩ := h
  exact z
end
end U
namespace L2
open PySem PySem.Spec PyProof.Rows
section
variable {X : Cx} {CX : CXT} {k : Nat} {f C : Addr} {fd : FuncData} {ps : List Str} {sp : Sp} {dvs : List V} {ds : List Value} {E : St → XK} {x m : Str} {p pos apos : Pos} {e o : Expr} {es : List Expr} {ta : TE} {t : TA}
def tMethSD (C : Addr) (m : Str) (sp : Sp) (dvs : List V) (E : St → XK) (ta : TE) (t : TA) : TE := fun σ H Q => ta σ H fun x H1 => ∃ a dx fs, x = .ref a ∧ H1 a = some (.ins C dx fs) ∧ fs.lookup m = none ∧ t σ H1 fun vs H2 => sp (x :: (vs ++ dvs)) H2 Q (E σ)
def tMakeSD (C : Addr) (sp : Sp) (dvs : List V) (E : St → XK) (t : TA) : TE := fun σ H Q => t σ H fun vs H1 => ∀ x dx, H1 x = none → H1 dx = none → dx ≠ x →
  sp (.ref x :: (vs ++ dvs)) (upd (upd H1 dx (.own x)) x (.ins C dx [])) (fun v H2 => v = .non ∧ Q (.ref x) H2) (E σ)
theorem pe_methSD {pl : Sem Bool} (he : PE X o ta) (c : Cls X.K C) (hm : Meth X.K C m f) (F : FnOk X.prog X.w X.K X.mg X.base CX k f fd ps sp) (hr : Room k X.A) (hb : ∃ ds, Vals dvs ds ∧ Binds X.K fd ps ds) (hx : ∀ σ, PassesAt CX X σ (E σ)) (ha : PA X (e :: es) t)
    (hst : starEach (e :: es) X.env = (false, eval e X.env) :: starEach es X.env := by rfl) (hpl : (backTo pos (starEach es X.env)).any (·.1) = false := by rfl)
    (ht : eval (.Call (.Attribute o m apos) (e :: es) [] pos) X.env = (do
      let ov ← eval o X.env
      standAt apos.atName
      let (f, first) ← holding [ov] (getMethod ov m pl)
      callWith pos f first (backTo pos (starEach (e :: es) X.env)) (backToKw pos (keywordEach [] X.env))) := by rfl) :
    PE X (.Call (.Attribute o m apos) (e :: es) [] pos) (tMethSD C m sp dvs E ta t) := by
  obtain ⟨ds, hd, hb⟩ := hb
  refine ⟨fun pins s σ H Q I h => ?_⟩
  refine PySem.W.methodCall_KW (pl := pl) (thn (he.run pins s σ H _ I h) fun u s1 ⟨x, H1, I1, rx, a, dx, fs, ex, ea, l, q⟩ => ?_) ht
  subst ex
  obtain rfl : u = Value.ref a := rx
  refine getmeth_ok I1 ea c hm l ?_
  refine PySem.W.callWith_K (first := [.ref a]) (h₀ := X.base) I.ok.mod.kin hm.kp (thn (ha.run pos pins s1 σ H1 _ I1 q) fun us s2 ⟨vs, H2, I2, r, q2⟩ => ⟨I2.kIn, ?_⟩) hst hpl
  exact run_fnSD (us := .ref a :: us) (vs := .ref a :: vs) F hr hb hd (hx σ) I2 (.cons rfl r) q2
end
end L2
namespace U
def putNs (f : String) : List String → List String
  | [] => [f]
  | n :: r => if n = f then n :: r else n :: putNs f r
def putDs (f : String) (d : D) : List String → List D → List D
  | [], _ => [d]
  | n :: r, x :: xs => if n = f then d :: xs else x :: putDs f d r xs
  | _ :: _, [] => []
def oFld (c f : String) : D → Option D
  | .ins c' ns ds => if c' = c then lookN f ns ds else none
  | _ => none
def fldO (c f : String) : Option (Option D) → Option D
  | some (some (.own _ (.ins c' ns ds))) => if c' = c then (match lookN f ns ds with
    | some d => if d.isMut then none else some d
    | none => none) else none
  | _ => none
def eFldO (i : Nat) (c f : String) : E := fun ρ => lift (fldO c f ρ[i]?) ρ
def putFO (c f : String) (d : D) : Option (Option D) → Option D
  | some (some (.own t (.ins c' ns ds))) => if c' = c ∧ ns.length < 1000 then some (.own t (.ins c (putNs f ns) (putDs f d ns ds))) else none
  | _ => none
def sFldO (i : Nat) (c f : String) (a : E) : St := fun ρ => (a ρ).binds fun d ρ1 => match putFO c f d ρ1[i]? with
  | some d' => .nx (ρ1.set i (some d'))
  | none => .bad
def eMake (c : String) (f : Fn) (a : As) (dd : List D) : E := fun ρ => match a ρ with
  | .ok ds ρ1 => (match f (.own 1 (.ins c [] []) :: (ds ++ dd)) with
    | .ok .non (some (.own 1 (.ins c' ns fs)) :: _) => if c' = c then .ok (.own 0 (.ins c ns fs)) ρ1 else .bad
    | .exc x _ => .exc x ρ1
    | _ => .bad)
  | .exc x ρ1 => .exc x ρ1
  | .bad => .bad
def oIns (c m : String) : D → Option D
  | .ins c' ns ds => if c' = c ∧ m ∉ ns then some (.ins c' ns ds) else none
  | _ => none
def eMeth (c m : String) (f : Fn) (o : E) (g : List Ag) (dd : List D) : E := eCall f (.v (eUn (oIns c m) o) :: g) dd
def isIO (c m : String) : Option (Option D) → Bool
  | some (some (.own _ (.ins c' ns _))) => decide (c' = c ∧ m ∉ ns)
  | _ => false
def eMethO (c m : String) (f : Fn) (i : Nat) (g : List Ag) (dd : List D) : E := fun ρ => if isIO c m ρ[i]? then eCall f (.b i :: g) dd ρ else .bad
def ER.calm : ER → ER
  | .ok d ρ => .ok d ρ
  | _ => .bad
end U
namespace U
def oProp (c : String) (f : Fn) : D → Option D
  | .ins c' ns ds => if c' = c then (match f [.ins c' ns ds] with
    | .ok d _ => if d.isMut then none else some d
    | _ => none) else none
  | _ => none
def ER.plain : ER → ER
  | .ok d ρ => if d.isMut then .bad else .ok d ρ
  | _ => .bad
def isI (c : String) : Option (Option D) → Bool
  | some (some (.own _ (.ins c' _ _))) => decide (c' = c)
  | _ => false
def ePropO (c : String) (f : Fn) (i : Nat) : E := fun ρ => if isI c ρ[i]? then (eCall f [.b i] [] ρ).plain else .bad
def oCon (c f : String) (d : D) : D → Option D
  | .ins c' ns _ => if c' = c ∧ f ∉ ns then some d else none
  | _ => none
def eConO (c f : String) (d : D) (i : Nat) : E := fun ρ => if isIO c f ρ[i]? then .ok d ρ else .bad
end U
namespace U
open PySem PySem.Spec PyProof.Rows L2
theorem ofS_inj {a b : String} : Str.ofString a = Str.ofString b ↔ a = b := by
  constructor
  · intro h
    rw [Str.ofString_eq_toList, Str.ofString_eq_toList] at h
    injection h with h
    have h2 : a.toList.map Char.toNat = b.toList.map Char.toNat := by simpa using congrArg Array.toList h
    have h3 : a.toList = b.toList := by
      have inj : ∀ {l r : List Char}, l.map Char.toNat = r.map Char.toNat → l = r := by
        intro l
        induction l with
        | nil => intro r h; cases r with
          | nil => rfl
          | cons => simp at h
        | cons x l ih => intro r h; cases r with
          | nil => simp at h
          | cons y r =>
            simp only [List.map_cons, List.cons.injEq] at h
            rw [ih h.2, show x = y from Char.ext (UInt32.toNat_inj.mp h.1)]
      exact inj h2
    exact String.toList_inj.mp h3
  · exact congrArg _
section
variable {K : PySem.W.Frag} {B : Bx} {F F' : Fz} {H H' : Hp} {W : WX} {σ : L2.St}
theorem lookN_ov {f : String} {d : D} : ∀ {ns : List String} {ds : List D} {fs : List (Str × V)} {A : List Addr}, fs.map (·.1) = ns.map Str.ofString → OVs K F H (fs.map (·.2)) ds A → lookN f ns ds = some d → ∃ v A', fs.lookup (Str.ofString f) = some v ∧ OV K F H v d A'
  | [], _, _, _, _, _, h => by simp only [lookN] at h; cases h
  | n :: ns, [], _, _, _, _, h => by simp only [lookN] at h; cases h
  | n :: ns, x :: ds, [], _, e, _, _ => by simp at e
  | n :: ns, x :: ds, (g, y) :: fs, A, e, o, h => by
    simp only [List.map_cons, List.cons.injEq] at e
    simp only [List.map_cons, OVs] at o
    obtain ⟨A1, A2, o1, o2, _⟩ := o
    simp only [lookN] at h
    by_cases c : n = f
    · rw [if_pos c] at h
      cases h
      exact ⟨y, A1, by rw [List.lookup, e.1, c, beq_self_eq_true], o1⟩
    · rw [if_neg c] at h
      obtain ⟨v, A', l, ov⟩ := lookN_ov e.2 o2 h
      refine ⟨v, A', ?_, ov⟩
      have : (Str.ofString f == g) = false := by
        rw [e.1, beq_eq_false_iff_ne]
        exact fun z => c (ofS_inj.mp z).symm
      rw [List.lookup, this]; exact l
theorem lookN_rv {f : String} {d : D} : ∀ {ns : List String} {ds : List D} {fs : List (Str × V)}, fs.map (·.1) = ns.map Str.ofString → RVs K F H (fs.map (·.2)) ds → lookN f ns ds = some d → ∃ v, fs.lookup (Str.ofString f) = some v ∧ RV K F H v d
  | [], _, _, _, _, h => by simp only [lookN] at h; cases h
  | n :: ns, [], _, _, _, h => by simp only [lookN] at h; cases h
  | n :: ns, x :: ds, [], e, _, _ => by simp at e
  | n :: ns, x :: ds, (g, y) :: fs, e, o, h => by
    simp only [List.map_cons, List.cons.injEq] at e
    simp only [List.map_cons, RVs] at o
    simp only [lookN] at h
    by_cases c : n = f
    · rw [if_pos c] at h
      cases h
      exact ⟨y, by rw [List.lookup, e.1, c, beq_self_eq_true], o.1⟩
    · rw [if_neg c] at h
      obtain ⟨v, l, ov⟩ := lookN_rv e.2 o.2 h
      refine ⟨v, ?_, ov⟩
      have : (Str.ofString f == g) = false := by
        rw [e.1, beq_eq_false_iff_ne]
        exact fun z => c (ofS_inj.mp z).symm
      rw [List.lookup, this]; exact l
theorem look_none {m : String} : ∀ {ns : List String} {fs : List (Str × V)}, fs.map (·.1) = ns.map Str.ofString → m ∉ ns → fs.lookup (Str.ofString m) = none
  | [], [], _, _ => rfl
  | [], _ :: _, e, _ => by simp at e
  | _ :: _, [], e, _ => by simp at e
  | n :: ns, (g, y) :: fs, e, h => by
    simp only [List.map_cons, List.cons.injEq] at e
    have : (Str.ofString m == g) = false := by
      rw [e.1, beq_eq_false_iff_ne]
      exact fun z => h (by rw [ofS_inj.mp z]; exact List.mem_cons_self)
    rw [List.lookup, this]
    exact look_none e.2 fun z => h (List.mem_cons_of_mem _ z)
theorem w_fld {c f : String} {e : E} (hc : Cls K (He.ga K (Str.ofString c))) (hn : NoAttr K (He.ga K (Str.ofString c)) (Str.ofString f)) (σ : L2.St) (H : Hp) (Q : VK) (h : tDE K B W (eUn (oFld c f) e) σ H Q) : tFld K (tDE K B W e) (Str.ofString f) σ H Q := by
  refine w_un (r := fun x H1 Q => ∃ a C dx fs v, x = .ref a ∧ H1 a = some (.ins C dx fs) ∧ Cls K C ∧ NoAttr K C (Str.ofString f) ∧ fs.lookup (Str.ofString f) = some v ∧ Q v H1) ?_ σ H Q h
  intro F H x a d Q ra e q
  unfold oFld at e; split at e
  · rename_i c' ns ds
    split at e
    · rename_i hcc
      subst hcc
      simp only [RV] at ra
      obtain ⟨a, dx, fs, rfl, fa, ha, en, rs⟩ := ra
      obtain ⟨v, l, rv⟩ := lookN_rv en rs e
      exact ⟨a, _, dx, fs, v, rfl, ha, hc, hn, l, q v F H Grow.refl rv⟩
    · cases e
  · cases e
theorem own_ins {ρ : Env} {A : List Addr} {i t : Nat} {c : String} {ns : List String} {ds : List D} (r : Rep K F H B σ ρ A) (e : ρ[i]? = some (some (.own t (.ins c ns ds)))) : ∃ a dx fs A', σ[i]? = some (some (.ref a)) ∧ H a = some (.ins (He.ga K (Str.ofString c)) dx fs) ∧ fs.map (·.1) = ns.map Str.ofString ∧ a ∈ A ∧ OVs K F H (fs.map (·.2)) ds A' := by
  obtain ⟨v, A1, h1, h2, h3⟩ := r.sl.get e
  obtain ⟨o, a, rfl, m, _⟩ := h2.root
  simp only [OV] at o
  obtain ⟨a', dx, fs, A', ev, hs, en, eA, ro⟩ := o
  cases ev
  exact ⟨a, dx, fs, A', h1, hs, en, h3 a m, ro⟩
theorem w_fldO {i : Nat} {c f : String} (hc : Cls K (He.ga K (Str.ofString c))) (hn : NoAttr K (He.ga K (Str.ofString c)) (Str.ofString f)) (σ : L2.St) (H : Hp) (Q : VK) (h : tDE K B W (eFldO i c f) σ H Q) : tFld K (tVar i) (Str.ofString f) σ H Q := by
  obtain ⟨F, ρ, A, rp, h⟩ := h
  unfold eFldO at h
  cases ed : fldO c f ρ[i]? with
  | none => rw [ed] at h; exact h.elim
  | some d =>
  rw [ed] at h
  simp only [lift] at h
  unfold fldO at ed
  split at ed
  · rename_i t c' ns ds e0
    split at ed
    · rename_i hcc
      subst hcc
      split at ed
      · rename_i d' el
        split at ed
        · cases ed
        · rename_i hm
          cases ed
          obtain ⟨a, dx, fs, A', s0, ha, en, _, os⟩ := own_ins rp e0
          obtain ⟨v, A2, l, ov⟩ := lookN_ov en os el
          exact ⟨.ref a, s0, a, _, dx, fs, v, rfl, ha, hc, hn, l, h v F H A rp (ov.plain (by simpa using hm)).2 Step.refl⟩
      · cases ed
    · cases ed
  · cases ed
theorem putNs_map {f : String} {v : V} : ∀ {ns : List String} {fs : List (Str × V)}, fs.map (·.1) = ns.map Str.ofString → (putF (Str.ofString f) v fs).map (·.1) = (putNs f ns).map Str.ofString
  | [], [], _ => rfl
  | [], _ :: _, e => by simp at e
  | _ :: _, [], e => by simp at e
  | n :: ns, (g, y) :: fs, e => by
    simp only [List.map_cons, List.cons.injEq] at e
    simp only [putF, putNs]
    by_cases c : n = f
    · rw [if_pos c, if_pos (by rw [e.1, c])]
      simp only [List.map_cons, e.1, e.2]
    · rw [if_neg c, if_neg (by rw [e.1]; exact fun z => c (ofS_inj.mp z))]
      simp only [List.map_cons, e.1, putNs_map e.2]
theorem putDs_ov {f : String} {v : V} {d : D} {Av : List Addr} : ∀ {ns : List String} {ds : List D} {fs : List (Str × V)} {A : List Addr}, fs.map (·.1) = ns.map Str.ofString → OVs K F H (fs.map (·.2)) ds A → OV K F H v d Av → (A ++ Av).Nodup →
    ∃ A', OVs K F H ((putF (Str.ofString f) v fs).map (·.2)) (putDs f d ns ds) A' ∧ (∀ a ∈ A', a ∈ A ∨ a ∈ Av) ∧ A'.Nodup
  | [], [], [], A, _, o, ov, nd => by
    simp only [List.map_nil, OVs] at o
    subst o
    refine ⟨Av, ?_, fun a ha => .inr ha, by simpa using nd⟩
    simp only [putF, putDs, List.map_cons, List.map_nil, OVs]
    exact ⟨Av, [], ov, rfl, by simp⟩
  | [], _ :: _, [], _, _, o, _, _ => by simp only [List.map_nil, OVs] at o
  | [], _, _ :: _, _, e, _, _, _ => by simp at e
  | _ :: _, _, [], _, e, _, _, _ => by simp at e
  | n :: ns, [], (g, y) :: fs, _, _, o, _, _ => by simp only [List.map_cons, OVs] at o
  | n :: ns, x :: ds, (g, y) :: fs, A, e, o, ov, nd => by
    simp only [List.map_cons, List.cons.injEq] at e
    simp only [List.map_cons, OVs] at o
    obtain ⟨A1, A2, o1, o2, rfl⟩ := o
    simp only [List.nodup_append, List.mem_append] at nd
    simp only [putF, putDs]
    by_cases c : n = f
    · rw [if_pos c, if_pos (by rw [e.1, c])]
      refine ⟨Av ++ A2, ?_, fun a ha => ?_, ?_⟩
      · simp only [List.map_cons, OVs]
        exact ⟨Av, A2, ov, o2, rfl⟩
      · rcases List.mem_append.mp ha with z | z
        · exact .inr z
        · exact .inl (List.mem_append_right _ z)
      · simp only [List.nodup_append]
        exact ⟨nd.2.1, nd.1.2.1, fun a ha b hb z => nd.2.2 b (.inr hb) a ha z.symm⟩
    · rw [if_neg c, if_neg (by rw [e.1]; exact fun z => c (ofS_inj.mp z))]
      obtain ⟨A', o', s', n'⟩ := putDs_ov (f := f) e.2 o2 ov (by
        simp only [List.nodup_append]
        exact ⟨nd.1.2.1, nd.2.1, fun a ha b hb => nd.2.2 a (.inr ha) b hb⟩)
      refine ⟨A1 ++ A', ?_, fun a ha => ?_, ?_⟩
      · simp only [List.map_cons, OVs]
        exact ⟨A1, A', o1, o', rfl⟩
      · rcases List.mem_append.mp ha with z | z
        · exact .inl (List.mem_append_left _ z)
        · exact (s' a z).imp (List.mem_append_right _) id
      · simp only [List.nodup_append]
        refine ⟨nd.1.1, n', fun a ha b hb => ?_⟩
        rcases s' b hb with z | z
        · exact nd.1.2.2 a ha b z
        · exact nd.2.2 a (.inl ha) b z
theorem w_setF {i : Nat} {c f : String} {e : E} (hc : Cls K (He.ga K (Str.ofString c))) (hn : NoAttr K (He.ga K (Str.ofString c)) (Str.ofString f)) (D : Ends) (σ : L2.St) (H : Hp) (h : tDS K B W (sFldO i c f e) D σ H) : sFld K (tVar i) (tDM K B W e) (Str.ofString f) D σ H := by
  obtain ⟨F, ρ, A, rp, h⟩ := h
  refine ⟨F, ρ, A, rp, ?_⟩
  unfold sFldO at h
  cases e1 : e ρ with
  | bad => rw [e1] at h; exact h
  | exc x ρ1 => rw [e1] at h; exact xend.expr h
  | ok d ρ1 =>
    rw [e1] at h
    simp only [ER.binds] at h
    intro v F1 H1 A1 Ar r1 ov nd nfr s1
    cases e2 : putFO c f d ρ1[i]? with
    | none => rw [e2] at h; exact h.elim
    | some d' =>
      rw [e2] at h
      simp only at h
      unfold putFO at e2
      split at e2
      · rename_i t c' ns ds e0
        split at e2
        · rename_i hcc
          obtain ⟨hcc, hz⟩ := hcc
          subst hcc
          cases e2
          obtain ⟨a, Ai, Ao, sa, oi, tg, ro, ndi, sub⟩ := r1.take1 e0
          simp only [OV] at oi
          obtain ⟨a', dx, fs, A', ea, ha, en, eA, ofs⟩ := oi
          cases ea
          subst eA
          have nda := nd
          simp only [List.nodup_append] at nda ndi
          have hdis : ∀ b ∈ a :: A', b ∉ Ar := fun b hb z => nda.2.2 b (sub b (List.mem_append_left _ hb)) b z rfl
          have nAi := ndi.1
          rw [List.nodup_cons] at nAi
          obtain ⟨A2, o2, s2, n2⟩ := putDs_ov (f := f) en ofs ov (by
            simp only [List.nodup_append]
            exact ⟨nAi.2, nda.2.1, fun x hx y hy z => by subst z; exact hdis x (List.mem_cons_of_mem _ hx) hy⟩)
          have nfa : ¬ F1 a := r1.nf a (sub a (List.mem_append_left _ List.mem_cons_self))
          have na2 : a ∉ A2 := fun z => by
            rcases s2 a z with q | q
            · exact nAi.1 q
            · exact hdis a List.mem_cons_self q
          have off : ∀ b o, b ≠ a → H1 b = some o → upd H1 a (.ins (He.ga K (Str.ofString c')) dx (putF (Str.ofString f) v fs)) b = some o := fun b o hb he => by rw [upd_ne hb]; exact he
          have ro2 : Rep K F1 (upd H1 a (.ins (He.ga K (Str.ofString c')) dx (putF (Str.ofString f) v fs))) B σ (ρ1.set i none) Ao := by
            refine ⟨ro.sl.stay (fun _ h => h) fun b o hb he => off b o ?_ he, ro.nd, ro.nf, fun b fb => ?_⟩
            · intro z; subst z
              rcases hb with hb | hb
              · exact nfa hb
              · exact ndi.2.2 b List.mem_cons_self b hb rfl
            · obtain ⟨o, he⟩ := ro.dm b fb
              exact ⟨o, off b o (fun z => nfa (z ▸ fb)) he⟩
          have oa : OV K F1 (upd H1 a (.ins (He.ga K (Str.ofString c')) dx (putF (Str.ofString f) v fs))) (.ref a) (.own 0 (.ins c' (putNs f ns) (putDs f d ns ds))) (a :: A2) := by
            simp only [OV]
            refine ⟨a, dx, _, A2, rfl, upd_same, putNs_map en, rfl, o2.stay (fun _ h => h) fun b o hb he => off b o ?_ he⟩
            intro z; subst z
            rcases hb with hb | hb
            · exact nfa hb
            · exact na2 hb
          have hAo : ∀ b ∈ Ao, b ∈ A1 := fun b hb => sub b (List.mem_append_right _ hb)
          have nd3 : ((a :: A2) ++ Ao).Nodup := by
            simp only [List.nodup_append, List.nodup_cons]
            refine ⟨⟨na2, n2⟩, ndi.2.1, fun x hx y hy z => ?_⟩
            subst z
            rcases List.mem_cons.mp hx with q | q
            · subst q; exact ndi.2.2 x List.mem_cons_self x hy rfl
            · rcases s2 x q with w | w
              · exact ndi.2.2 x (List.mem_cons_of_mem _ w) x hy rfl
              · exact nda.2.2 x (hAo x hy) x w rfl
          have nf3 : ∀ b ∈ a :: A2, ¬ F1 b := fun b hb => by
            rcases List.mem_cons.mp hb with q | q
            · rw [q]; exact nfa
            · rcases s2 b q with w | w
              · exact r1.nf b (sub b (List.mem_append_left _ (List.mem_cons_of_mem _ w)))
              · exact nfr b w
          have ei : (ρ1.set i none)[i]? = some none := List.getElem?_set_self (List.getElem?_eq_some_iff.mp e0).1
          obtain ⟨A3, r3, s3⟩ := ro2.give1 ei sa (OVp.tag (t := t) oa rfl tg) nd3 nf3
          rw [List.set_set] at r3
          refine ⟨.ref a, sa, a, _, dx, fs, rfl, ha, hc, hn, ?_, ?_⟩
          · have := congrArg List.length en
            simp only [List.length_map] at this
            rw [this]; exact hz
          · have st : Step (A1 ++ Ar) F1 H1 A3 F1 (upd H1 a (.ins (He.ga K (Str.ofString c')) dx (putF (Str.ofString f) v fs))) := by
              refine ⟨fun _ h => h, fun b o he hb => off b o (fun z => hb ?_) he, fun b hb => .inl hb, fun b hb => .inl ?_⟩
              · subst z; exact List.mem_append_left _ (sub b (List.mem_append_left _ List.mem_cons_self))
              · rcases List.mem_append.mp (s3 b hb) with q | q
                · rcases List.mem_cons.mp q with q | q
                  · rw [q]; exact List.mem_append_left _ (sub a (List.mem_append_left _ List.mem_cons_self))
                  · rcases s2 b q with w | w
                    · exact List.mem_append_left _ (sub b (List.mem_append_left _ (List.mem_cons_of_mem _ w)))
                    · exact List.mem_append_right _ w
                · exact List.mem_append_left _ (hAo b q)
            exact h σ F1 _ A3 r3 (s1.trans st) rfl
        · cases e2
      · cases e2
theorem w_make {c : String} {f : Fn} {a : As} {dd : List D} {dvs : List V} (hd : ∀ F H, RVs K F H dvs dd) (σ : L2.St) (H : Hp) (Q : VK) (h : tDM K B W (eMake c f a dd) σ H Q) : tMakeSD (He.ga K (Str.ofString c)) (spD K f) dvs (WE W) (tDA K B W a) σ H Q := by
  obtain ⟨F, ρ, A, rp, h⟩ := h
  refine ⟨F, ρ, A, rp, ?_⟩
  unfold eMake at h
  cases e1 : a ρ with
  | bad => rw [e1] at h; exact h
  | exc x ρ1 => rw [e1] at h; exact h
  | ok ds ρ1 =>
    rw [e1] at h
    simp only at h
    intro vs F1 H1 A1 r1 vr s1 x dx hx hdx hne
    have g1 : Grow F1 H1 F1 (upd H1 dx (.own x)) := Grow.raw hdx
    have hx1 : upd H1 dx (.own x) x = none := by rw [upd_ne (fun z => hne z.symm)]; exact hx
    have g2 : Grow F1 (upd H1 dx (.own x)) F1 (upd (upd H1 dx (.own x)) x (.ins (He.ga K (Str.ofString c)) dx [])) := Grow.raw hx1
    have g := g1.trans g2
    generalize eH : upd (upd H1 dx (.own x)) x (.ins (He.ga K (Str.ofString c)) dx []) = H2 at g
    have h2x : H2 x = some (.ins (He.ga K (Str.ofString c)) dx []) := by rw [← eH, upd_same]
    have nfx : ¬ F1 x := fun z => by obtain ⟨o, e⟩ := r1.dm x z; rw [hx] at e; cases e
    refine ⟨F1, .own 1 (.ins c [] []) :: (ds ++ dd), [x], ([x], none), ?_, by simp, fun b hb => by rw [List.mem_singleton.mp hb]; exact nfx, g.dm r1.dm, ?_⟩
    · simp only [OVps]
      refine ⟨[x], [], ?_, ?_, rfl⟩
      · refine OVp.tag (t := 1) (a := x) ?_ rfl (fun k hk => by cases hk; rfl)
        simp only [OV]
        exact ⟨x, dx, [], [], rfl, h2x, rfl, rfl, by simp only [List.map_nil, OVs]⟩
      · have : OVps K F1 H2 ([x], none) ([] ++ (vs ++ dvs)) ([] ++ (ds ++ dd)) [] := OVps.snocP (by simp only [OVps]) (by
          have a1 := vr.grow g
          have a2 := hd F1 H2
          revert a1
          generalize vs = vs1
          generalize ds = ds1
          intro a1
          induction vs1 generalizing ds1 with
          | nil => cases ds1 with
            | nil => exact a2
            | cons => simp only [RVs] at a1
          | cons v vs ih => cases ds1 with
            | nil => simp only [RVs] at a1
            | cons d ds =>
              simp only [RVs] at a1
              simp only [List.cons_append, RVs]
              exact ⟨a1.1, ih ds a1.2⟩)
        exact this
    -- what the caller holds stays
    have stay : ∀ {F3 : Fz} {H3 : Hp} {A' : List Addr}, Step [x] F1 H2 A' F3 H3 → (∀ b, F3 b → ∃ o, H3 b = some o) → Rep K F3 H3 B σ ρ1 A1 ∧ (∀ b ∈ A1, b ∉ A') := fun {F3 H3 A'} s dm => by
      have out : ∀ b ∈ A1, b ≠ x := fun b hb z => by
        obtain ⟨o, e⟩ := r1.sl.there b hb
        rw [z, hx] at e; cases e
      have there : ∀ b ∈ A1, ∃ o, H2 b = some o := fun b hb => by
        obtain ⟨o, e⟩ := r1.sl.there b hb
        exact ⟨o, g.keep b o e⟩
      refine ⟨⟨r1.sl.stay s.mono fun b o hb e => s.keep b o (g.keep b o e) fun z => ?_, r1.nd, fun b hb fb => ?_, dm⟩, fun b hb z => ?_⟩
      · rw [List.mem_singleton.mp z] at e
        rw [hx] at e; cases e
      · rcases s.froz b fb with q | q | q
        · exact r1.nf b hb q
        · obtain ⟨o, e⟩ := there b hb
          rw [q] at e; cases e
        · exact out b hb (List.mem_singleton.mp q)
      · rcases s.own b z with q | q
        · exact out b hb (List.mem_singleton.mp q)
        · obtain ⟨o, e⟩ := there b hb
          rw [q] at e; cases e
    have whole : ∀ {F3 : Fz} {H3 : Hp} {A' A2 : List Addr}, Step [x] F1 H2 A' F3 H3 → (∀ b ∈ A2, b ∈ A1 ∨ b ∈ A') → Step A1 F1 H1 A2 F3 H3 := fun {F3 H3 A' A2} s sub =>
      ⟨s.mono, fun b o e n => s.keep b o (g.keep b o e) fun z => (by rw [List.mem_singleton.mp z, hx] at e; cases e), fun b fb => by
        have no : ∀ b, H2 b = none → H1 b = none := fun b hb => by
          cases e : H1 b with
          | none => rfl
          | some o => rw [g.keep b o e] at hb; cases hb
        rcases s.froz b fb with q | q | q
        · exact .inl q
        · exact .inr (.inl (no b q))
        · exact .inr (.inl (by rw [List.mem_singleton.mp q]; exact hx)), fun b hb => by
        rcases sub b hb with q | q
        · exact .inl q
        · rcases s.own b q with z | z
          · exact .inr (by rw [List.mem_singleton.mp z]; exact hx)
          · refine .inr ?_
            cases e : H1 b with
            | none => rfl
            | some o => rw [g.keep b o e] at z; cases z⟩
    cases e3 : f (.own 1 (.ins c [] []) :: (ds ++ dd)) with
    | bad => rw [e3] at h; exact h
    | exc y o =>
      rw [e3] at h
      simp only at h
      intro cls d2 F3 H3 σ3 A3 o3 n3 nf3 dm3 xv s3
      obtain ⟨k1, k2⟩ := stay s3 dm3
      exact h cls d2 F3 H3 A1 k1 xv (s1.trans (whole s3 fun b hb => .inl hb))
    | ok d o =>
      rw [e3] at h
      split at h
      · rename_i d0 ρ9 z1
        split at z1
        · rename_i c' ns fs rest q2
          split at z1
          · rename_i hcc
            subst hcc
            cases z1
            cases q2
            intro v F3 H3 σ3 A3 Ar o3 n3 nf3 dm3 ov s3
            simp only [OV, RV] at ov
            obtain ⟨rfl, rfl⟩ := ov
            refine ⟨rfl, ?_⟩
            obtain ⟨k1, k2⟩ := stay s3 dm3
            match σ3, o3 with
            | [], o3 => simp only [OVS] at o3
            | w :: σ4, o3 =>
              simp only [OVS] at o3
              obtain ⟨A5, A6, oo, _, rfl⟩ := o3
              match w, oo with
              | none, oo => simp only [OVo] at oo
              | some w, oo =>
                simp only [OVo] at oo
                obtain ⟨ow, a', rfl, _, tg⟩ := oo.root
                have ea : a' = x := by
                  have := tg 0 rfl
                  simpa using this.symm
                subst ea
                simp only [List.append_nil] at n3 nf3
                have n3' := n3
                simp only [List.nodup_append] at n3'
                refine h (.ref a') F3 H3 A1 A5 k1 ow ?_ (fun b hb => nf3 b (List.mem_append_left _ hb)) (s1.trans (whole s3 fun b hb => ?_))
                · simp only [List.nodup_append]
                  exact ⟨r1.nd, n3'.1, fun y hy z hz e => k2 y hy (by rw [e]; simp only [List.append_nil]; exact List.mem_append_left _ hz)⟩
                · rcases List.mem_append.mp hb with q | q
                  · exact .inl q
                  · exact .inr (by simp only [List.append_nil]; exact List.mem_append_left _ q)
          · cases z1
        · rename_i q2
          cases q2
        · cases z1
      · rename_i x0 ρ9 z1
        split at z1
        · split at z1 <;> cases z1
        · rename_i q2; cases q2
        · cases z1
      · exact h.elim
end
end U
namespace U
open PySem PySem.Spec PyProof.Rows L2
section
variable {K : PySem.W.Frag} {B : Bx} {F F' : Fz} {H H' : Hp} {W : WX} {σ : L2.St}
theorem isIO_some {c m : String} {o : Option (Option D)} (h : isIO c m o = true) : ∃ t ns ds, o = some (some (.own t (.ins c ns ds))) ∧ m ∉ ns := by
  unfold isIO at h
  split at h
  · rename_i t c' ns ds
    have := of_decide_eq_true h
    rw [this.1]
    exact ⟨t, ns, ds, rfl, this.2⟩
  · cases h
theorem w_methO {c m : String} {f : Fn} {i : Nat} {g : List Ag} {dd : List D} {dvs : List V} (hd : ∀ F H, RVs K F H dvs dd) (σ : L2.St) (H : Hp) (Q : VK) (h : tDM K B W (eMethO c m f i g dd) σ H Q) : tMethSD (He.ga K (Str.ofString c)) (Str.ofString m) (spD K f) dvs (WE W) (tVar i) (tDG K B W g) σ H Q := by
  obtain ⟨F, ρ, A, rp, h⟩ := h
  unfold eMethO at h
  by_cases z : isIO c m ρ[i]? = true
  case neg => rw [if_neg z] at h; exact h.elim
  rw [if_pos z] at h
  obtain ⟨t, ns, ds, e0, hm⟩ := isIO_some z
  obtain ⟨a, dx, fs, A', s0, ha, en, _, _⟩ := own_ins rp e0
  obtain ⟨v, hv, h2⟩ := w_gb σ H _ (w_call hd σ H Q ⟨F, ρ, A, rp, h⟩)
  rw [s0] at hv
  cases hv
  exact ⟨.ref a, s0, a, dx, fs, rfl, ha, look_none en hm, h2⟩
theorem w_prop {c : String} {f : Fn} {o : E} (σ : L2.St) (H : Hp) (Q : VK) (h : tDE K B W (eUn (oProp c f) o) σ H Q) : tProp (He.ga K (Str.ofString c)) (spD K f) [] (fun _ _ _ => False) (tDE K B W o) σ H Q := by
  obtain ⟨F, ρ, A, rp, h⟩ := h
  refine ⟨F, ρ, A, rp, ?_⟩
  unfold eUn at h
  cases e1 : o ρ with
  | bad => rw [e1] at h; exact h
  | exc x ρ1 => rw [e1] at h; exact h
  | ok d1 ρ1 =>
    rw [e1] at h
    intro v1 F1 H1 A1 r1 v1r s1
    simp only [ER.bind] at h
    cases ed : oProp c f d1 with
    | none => rw [ed] at h; exact h.elim
    | some d =>
    rw [ed] at h
    simp only [lift] at h
    unfold oProp at ed; split at ed
    · rename_i c' ns ds
      split at ed
      · rename_i hcc
        subst hcc
        have rb := v1r
        simp only [RV] at v1r
        obtain ⟨a, dx, fs, rfl, fa, ha, en, rs⟩ := v1r
        refine ⟨a, dx, fs, rfl, ha, F1, [.ins c' ns ds], [], ([], none), ?_, List.nodup_nil, (fun b hb => by cases hb), r1.dm, ?_⟩
        · simp only [OVps]
          exact ⟨[], [], rb.own.op, rfl, rfl⟩
        · split at ed
          · rename_i d0 o0 ef
            rw [ef]
            split at ed
            · cases ed
            · rename_i hm
              cases ed
              intro v F2 H2 σ2 A2 Ar o2 n2 nf2 dm2 ov s2
              have hm' : d.isMut = false := by simpa using hm
              obtain ⟨rfl, rv⟩ := ov.plain hm'
              have g : Grow F1 H1 F2 H2 := ⟨s2.mono, fun b o e => s2.keep b o e (by simp), fun b hb => by
                rcases s2.froz b hb with q | q | q
                · exact .inl q
                · exact .inr q
                · exact absurd q (by simp), fun _ => dm2⟩
              exact h v F2 H2 A1 (r1.grow g) rv (s1.trans g.step)
          · cases ed
      · cases ed
    · cases ed
end
theorem passes_nox {X : Cx} : Passes (L2.CX X.prog X.w) X.nox (fun _ _ _ => False) := fun pins σ H s e s' I h => by
  obtain ⟨a, B, H', cls, d, _, _, _, _, _, _, _, z⟩ := h
  exact z
section
variable {X : Cx} {B : Bx} {W : WX} {e : Expr} {st : Stmt} {f g : E}
theorem d_fld {c n : String} (hc : Cls X.K (He.ga X.K (Str.ofString c))) (hn : NoAttr X.K (He.ga X.K (Str.ofString c)) (Str.ofString n)) (h : PE X e (tFld X.K (tDE X.K B W f) (Str.ofString n))) : DE X B W e (eUn (oFld c n) f) := h.weak (w_fld hc hn)
theorem d_fldO {i : Nat} {c n : String} (hc : Cls X.K (He.ga X.K (Str.ofString c))) (hn : NoAttr X.K (He.ga X.K (Str.ofString c)) (Str.ofString n)) (h : PE X e (tFld X.K (tVar i) (Str.ofString n))) : DE X B W e (eFldO i c n) := h.weak (w_fldO hc hn)
theorem s_fldO {i : Nat} {c n : String} (hc : Cls X.K (He.ga X.K (Str.ofString c))) (hn : NoAttr X.K (He.ga X.K (Str.ofString c)) (Str.ofString n)) (h : PS X st (sFld X.K (tVar i) (tDM X.K B W f) (Str.ofString n))) : DS X B W st (sFldO i c n f) := h.weak (w_setF hc hn)
theorem d_make {c : String} {fn : Fn} {a : As} {dd : List D} {dvs : List V} (hd : ∀ F H, RVs X.K F H dvs dd) (h : PE X e (tMakeSD (He.ga X.K (Str.ofString c)) (spD X.K fn) dvs (WE W) (tDA X.K B W a))) : DM X B W e (eMake c fn a dd) := h.weak (w_make hd)
theorem d_make0 {c : String} {fn : Fn} {dd : List D} {dvs : List V} (hd : ∀ F H, RVs X.K F H dvs dd) (h : PE X e (tMakeSD (He.ga X.K (Str.ofString c)) (spD X.K fn) dvs (WE W) tNil)) : DM X B W e (eMake c fn aNil dd) := h.weak fun σ H Q q => w_anil σ H _ (w_make hd σ H Q q)
theorem d_methO {c m : String} {i : Nat} {fn : Fn} {g : List Ag} {dd : List D} {dvs : List V} (hd : ∀ F H, RVs X.K F H dvs dd) (h : PE X e (tMethSD (He.ga X.K (Str.ofString c)) (Str.ofString m) (spD X.K fn) dvs (WE W) (tVar i) (tDG X.K B W g))) : DM X B W e (eMethO c m fn i g dd) := h.weak (w_methO hd)
theorem d_prop {c : String} {fn : Fn} (h : PE X e (tProp (He.ga X.K (Str.ofString c)) (spD X.K fn) [] (fun _ _ _ => False) (tDE X.K B W f))) : DE X B W e (eUn (oProp c fn) f) := h.weak w_prop
end
end U
namespace U
open PySem PySem.Spec PyProof.Rows L2
def itEQ : List D → Option (List D)
  | [.lst l] => some (enumD l)
  | [.tup l] => some (enumD l)
  | _ => none
def sBad : St := fun _ => .bad
def lookB (c : String) : List (String × Bool) → Option Bool
  | [] => none
  | (x, b) :: r => if x = c then some b else lookB c r
def oIsiC (tb : List (String × Bool)) : D → Option D
  | .ins c _ _ => (lookB c tb).map .bl
  | d => (tyName d).map fun _ => .bl false
def oIsi2 (S T : String) (d : D) : Option D := (tyName d).map fun n => .bl ((n == S || (n == "bool" && S == "int")) || (n == T || (n == "bool" && T == "int")))
section
variable {K : PySem.W.Frag} {B : Bx} {F F' : Fz} {H H' : Hp} {W : WX} {σ : L2.St}
end
section
variable {X : Cx} {B : Bx} {W : WX} {e : Expr} {st : Stmt} {f g : E} {tg : Expr}
theorem s_raiseO {c : String} {C : Addr} {bmB : List Value} {Bn newId initId : String} {x m : Str} {j : Nat} {p p2 pos pos' : Pos} (Fb : ExcBaseFacts Bn newId initId bmB) (q : PySem.W.excIn X.K C bmB newId = true) (gC : X.mg x = some (.ref C)) (kC : PySem.W.keepIn X.K (.ref C) = true) (r : Raises X (.ref C)) (hC : C = He.ga X.K (Str.ofString c))
    (hc : X.calm = true) (tk : Takes X W) (hg : Gl X x) (hdb : (x == ("__debug__" : Str)) = false := by decide) : DS X B W (.Raise (some (.Call (.Name x p) [.Constant (.str m) j p2] [] pos)) none pos') (sRaise c [] aNil) := s_raise0 hC (ps_raise hc tk (pmk_own Fb q gC kC r hg hdb))
theorem s_bad : DS X B W st sBad := ⟨fun pins s σ H D I q => by
  obtain ⟨_, _, _, _, h⟩ := q
  exact h.elim⟩
theorem pe_propU {k : Nat} {C p g : Addr} {n : Str} {fd : FuncData} {ps : List Str} {sp : Sp} {ta : TE} {pos : Pos} (he : PE X e ta) (c : Cls X.K C) (hp : PropOf X.K C n p g) (F : FnOk X.prog X.w X.K X.mg X.base (L2.CX X.prog X.w) k g fd ps sp) (hr : Room (k + 1) X.A) (hb : ∃ ds, Vals [] ds ∧ Binds X.K fd ps ds)
    (hab : attributeBase e n X.env (eval e X.env) = eval e X.env) : PE X (.Attribute e n pos) (tProp C sp [] (fun _ _ _ => False) ta) := by
  obtain ⟨ds, hd, hb⟩ := hb
  exact pe_prop he c hp F hr hb hd passes_nox hab
end
end U
namespace PySem.W
open Lean Elab Tactic Meta PySem PySem.Spec PySem.Calls PyProof.Rows
section
variable {prog : Program} {w : World} {A : Around} {E : Value → Shared → Prop} {s : Shared} {K : Frag} {x C L f : Addr} {h₀ : Heap} {m : Str → Option Value} {ox : Obj} {od : Option Obj}
end
end PySem.W
namespace PySem.W
open Lean Elab Tactic Meta PySem PySem.Spec PySem.Calls PyProof.Rows
section
variable {prog : Program} {w : World} {A A₀ : Around} {E : Value → Shared → Prop} {s : Shared} {K : Frag} {x C L f : Addr} {h₀ : Heap} {m : Str → Option Value} {ox : Obj} {od : Option Obj} {name : Str} {b tb : Value}
open Builtin in
end
end PySem.W
namespace L2
open PySem PySem.Spec PyProof.Rows
def rOwn2 (C : Addr) (sp : Sp) : R2 := fun x y H Q => ∃ a b dx dy fs gs, x = .ref a ∧ y = .ref b ∧ H a = some (.ins C dx fs) ∧ H b = some (.ins C dy gs) ∧ sp [x, y] H Q (fun _ _ _ => False)
def rOwnN (C : Addr) (sp : Sp) : R2 := fun x y H Q => ∃ a b dx dy fs gs, x = .ref a ∧ y = .ref b ∧ H a = some (.ins C dx fs) ∧ H b = some (.ins C dy gs) ∧ sp [x, y] H (fun v H' => ∃ r, v = .bl r ∧ Q (.bl (!r)) H') (fun _ _ _ => False)
section
variable {X : Cx} {k : Nat} {C f : Addr} {fd : FuncData} {ps : List Str} {sp : Sp}
def tBinSD (C : Addr) (sp : Sp) (E : St → XK) (ta tb : TE) : TE := fun σ H Q => ta σ H fun x H1 => tb σ H1 fun y H2 => ∃ a b dx dy fs gs, x = .ref a ∧ y = .ref b ∧ H2 a = some (.ins C dx fs) ∧ H2 b = some (.ins C dy gs) ∧ sp [x, y] H2 Q (E σ)
def tBinISD (C : Addr) (sp : Sp) (E : St → XK) (ta tb : TE) : TE := fun σ H Q => ta σ H fun x H1 => tb σ H1 fun y H2 => ∃ a i dx fs, x = .ref a ∧ y = .int i ∧ H2 a = some (.ins C dx fs) ∧ sp [x, y] H2 Q (E σ)
end
end L2
namespace U
open PySem PySem.Spec PyProof.Rows L2
def oEqC (c : String) (f : Fn) : D → D → Option D
  | .ins c1 n1 d1, .ins c2 n2 d2 => if c1 = c ∧ c2 = c then (match f [.ins c1 n1 d1, .ins c2 n2 d2] with
    | .ok (.bl b) _ => some (.bl b)
    | _ => none) else none
  | _, _ => none
def oNeC (c : String) (f : Fn) : D → D → Option D
  | .ins c1 n1 d1, .ins c2 n2 d2 => if c1 = c ∧ c2 = c then (match f [.ins c1 n1 d1, .ins c2 n2 d2] with
    | .ok (.bl b) _ => some (.bl !b)
    | _ => none) else none
  | _, _ => none
def oIn (c : String) : D → Option D
  | .ins c' ns ds => if c' = c then some (.ins c' ns ds) else none
  | _ => none
def isIn (c : String) : D → Bool
  | .ins c' _ _ => decide (c' = c)
  | _ => false
def valK (ρ : Env) : ER → ER
  | .ok d _ => .ok d ρ
  | .exc x _ => .exc x ρ
  | .bad => .bad
def eBin (c : String) (f : Fn) (a b : E) : E := fun ρ => (a ρ).bind fun x ρ1 => (b ρ1).bind fun y ρ2 => if isIn c x && isIn c y then valK ρ2 (f [x, y]) else .bad
def isInt : D → Bool
  | .int _ => true
  | _ => false
def eBinI (c : String) (f : Fn) (a b : E) : E := fun ρ => (a ρ).bind fun x ρ1 => (b ρ1).bind fun y ρ2 => if isIn c x && isInt y then valK ρ2 (f [x, y]) else .bad
section
variable {K : PySem.W.Frag} {B : Bx} {F F' : Fz} {H H' : Hp} {W : WX} {σ : L2.St}
def P2D (K : PySem.W.Frag) (o : D → D → Option D) (r : R2) : Prop := ∀ (F : Fz) (H : Hp) (x y : V) (a b d : D) (Q : VK), (∀ a, F a → ∃ o, H a = some o) → RV K F H x a → RV K F H y b → o a b = some d → (∀ v F' H', Grow F H F' H' → RV K F' H' v d → Q v H') → r x y H Q
theorem OVps.ofRVs : ∀ {vs : List V} {ds : List D}, RVs K F H vs ds → OVps K F H B vs ds []
  | [], [], _ => by simp only [OVps]
  | _ :: _, _ :: _, h => by
    simp only [RVs] at h
    simp only [OVps]
    exact ⟨[], [], h.1.own.op, OVps.ofRVs h.2, rfl⟩
  | [], _ :: _, h => by simp only [RVs] at h
  | _ :: _, [], h => by simp only [RVs] at h
end
section
variable {X : Cx} {B : Bx} {W : WX} {e : Expr} {st : Stmt} {f g : E}
theorem w_par3 {K : PySem.W.Frag} {i j l : Nat} {f : As} (D : Ends) (σ : L2.St) (H : Hp) (h : tDS K B W (sPar [i, j, l] f) D σ H) : tPar3 i j l (tDA K B W f) D σ H := by
  obtain ⟨F, ρ, A, rp, h⟩ := h
  refine ⟨F, ρ, A, rp, ?_⟩
  unfold sPar at h
  cases e1 : f ρ with
  | bad => rw [e1] at h; exact h
  | exc x ρ1 => rw [e1] at h; exact xend.expr h
  | ok ds ρ1 =>
    rw [e1] at h
    intro vs F' H' A' r o s
    simp only at h
    cases e2 : putAll [i, j, l] ds ρ1 with
    | none => rw [e2] at h; exact h.elim
    | some ρ4 =>
      rw [e2] at h
      simp only at h
      match ds, e2 with
      | [], e2 => simp [putAll] at e2
      | [_], e2 => simp [putAll] at e2
      | [_, _], e2 => simp [putAll] at e2
      | _ :: _ :: _ :: _ :: _, e2 => simp [putAll] at e2
      | [d1, d2, d3], e2 =>
        simp only [putAll, Option.bind_eq_some_iff] at e2
        obtain ⟨ρ2, p1, ρ3, p2, ρ5, p3, e5⟩ := e2
        cases e5
        match vs, o with
        | [], o => simp only [RVs] at o
        | [_], o => simp only [RVs] at o; exact o.2.elim
        | [_, _], o => simp only [RVs] at o; exact o.2.2.elim
        | _ :: _ :: _ :: _ :: _, o => simp only [RVs] at o; exact o.2.2.2.elim
        | [v1, v2, v3], o =>
          simp only [RVs] at o
          obtain ⟨A2, r2, sub2⟩ := r.putP o.1 p1
          obtain ⟨A3, r3, sub3⟩ := r2.putP o.2.1 p2
          obtain ⟨A4, r4, sub4⟩ := r3.putP o.2.2.1 p3
          exact ⟨v1, v2, v3, rfl, h _ F' H' A4 r4 (s.sub fun a ha => sub2 a (sub3 a (sub4 a ha))) (by simp)⟩
theorem s_par3 {i j l : Nat} {a : As} (h : PS X st (tPar3 i j l (tDA X.K B W a))) : DS X B W st (sPar [i, j, l] a) := h.weak w_par3
end
end U
namespace ClX
open PySem PySem.Spec PyProof.Rows L2
section
variable {X : Cx} {k : Nat} {C p g : Addr} {mc : Value} {fd : FuncData} {ps : List Str} {sp : Sp} {E : L2.St → XK} {o e : Expr} {es : List Expr} {f m : Str} {pos apos : Pos} {ta : TE} {t : TA} {pl : Sem Bool} {dvs : List V}
def tCMethSD (C : Addr) (sp : Sp) (dvs : List V) (E : L2.St → XK) (t : TA) : TE := fun σ H Q => t σ H fun vs H2 => sp (.ref C :: (vs ++ dvs)) H2 Q (E σ)
end
end ClX
namespace L2
open PySem PySem.Spec PyProof.Rows
section
variable {X : Cx} {CX : CXT} {k i : Nat} {f C : Addr} {fd : FuncData} {ps : List Str} {sp : Sp} {dvs : List V} {E : St → XK} {x : Str} {p pos : Pos} {e : Expr} {es : List Expr} {t : TA}
def tMakeL (i : Nat) (C : Addr) (sp : Sp) (dvs : List V) (E : St → XK) (t : TA) : TE := fun σ H Q => σ[i]? = some (some (.ref C)) ∧ tMakeSD C sp dvs E t σ H Q
end
end L2
namespace U
open PySem PySem.Spec PyProof.Rows L2
def fnOfC (n m : Nat) (c : String) (b : St) : Fn := fun ds => if ds.length = n ∧ allPlain ds = true then (match b (some (.exn c [] []) :: (ds.map some ++ List.replicate m none)) with
  | .rt d _ => .ok d []
  | .nx _ => .ok .non []
  | .ex x _ => .exc x []
  | _ => .bad) else .bad
def isC (c : String) : Option (Option D) → Bool
  | some (some (.exn c' [] [])) => decide (c' = c)
  | _ => false
def eMakeL (i : Nat) (c : String) (f : Fn) (a : As) (dd : List D) : E := fun ρ => if isC c ρ[i]? then eMake c f a dd ρ else .bad
def spC (K : PySem.W.Frag) (c : String) (f : Fn) : Sp := fun vs H Q E => ∃ vs', vs = .ref (He.ga K (Str.ofString c)) :: vs' ∧ spD K f vs' H Q E
section
variable {K : PySem.W.Frag} {B : Bx} {F F' : Fz} {H H' : Hp} {W : WX} {σ : L2.St}
theorem allPlain_mem : ∀ {l : List D}, allPlain l = true → ∀ d ∈ l, d.isMut = false
  | [], _, d, h => by cases h
  | x :: l, h, d, hd => by
    simp only [allPlain, Bool.and_eq_true, Bool.not_eq_true'] at h
    rcases List.mem_cons.mp hd with z | z
    · rw [z]; exact h.1
    · exact allPlain_mem h.2 d z
theorem OVps.allP : ∀ {vs : List V} {ds : List D} {A : List Addr}, OVps K F H B vs ds A → (∀ d ∈ ds, d.isMut = false) → A = [] ∧ RVs K F H vs ds
  | [], [], A, h, _ => by simp only [OVps] at h; exact ⟨h, by simp only [RVs]⟩
  | v :: vs, d :: ds, A, h, m => by
    simp only [OVps] at h
    obtain ⟨A1, A2, h1, h2, rfl⟩ := h
    obtain ⟨rfl, r⟩ := h1.plain (m d List.mem_cons_self)
    obtain ⟨rfl, rs⟩ := OVps.allP h2 fun x hx => m x (List.mem_cons_of_mem _ hx)
    exact ⟨rfl, by simp only [RVs]; exact ⟨r, rs⟩⟩
  | [], _ :: _, _, h, _ => by simp only [OVps] at h
  | _ :: _, [], _, h, _ => by simp only [OVps] at h
theorem OVS.ofRVs (m : Nat) : ∀ {vs : List V} {ds : List D}, RVs K F H vs ds → OVS K F H B (vs.map some ++ List.replicate m none) (ds.map some ++ List.replicate m none) []
  | [], [], _ => OVS.nones m
  | _ :: _, _ :: _, h => by
    simp only [RVs] at h
    simp only [List.map_cons, List.cons_append, OVS]
    exact ⟨[], [], by simp only [OVo]; exact h.1.own.op, OVS.ofRVs m h.2, rfl⟩
  | [], _ :: _, h => by simp only [RVs] at h
  | _ :: _, [], h => by simp only [RVs] at h
end
section
variable {X : Cx} {B : Bx} {W : WX} {e : Expr} {st : Stmt} {f g : E}
end
end U
namespace L2
open PySem PySem.Spec PyProof.Rows
section
variable {X : Cx} {CX : CXT} {k : Nat} {f C : Addr} {fd : FuncData} {ps : List Str} {sp : Sp} {dvs : List V} {E : St → XK} {x : Str} {p pos : Pos} {e : Expr} {es : List Expr} {ta : TE} {t : TA}
def tOCall (C : Addr) (sp : Sp) (dvs : List V) (E : St → XK) (ta : TE) (t : TA) : TE := fun σ H Q => ta σ H fun x H1 => (∃ a dx fs, x = .ref a ∧ H1 a = some (.ins C dx fs)) ∧ t σ H1 fun vs H2 => (∃ a dx fs, x = .ref a ∧ H2 a = some (.ins C dx fs)) ∧ sp (x :: (vs ++ dvs)) H2 Q (E σ)
end
end L2
namespace U
open PySem PySem.Spec PyProof.Rows L2
def fI (c : String) (f : Fn) : Fn := fun ds => if isI1 c ds then f ds else .bad
where isI1 (c : String) : List D → Bool
  | .ins c' _ _ :: _ => decide (c' = c)
  | _ => false
def eOCall (c : String) (f : Fn) (o : E) (g : List Ag) (dd : List D) : E := eCall (fI c f) (.v (eUn (oIn c) o) :: g) dd
section
variable {K : PySem.W.Frag} {B : Bx} {F F' : Fz} {H H' : Hp} {W : WX} {σ : L2.St}
theorem fI_out {c : String} {f : Fn} {v : V} {vs : List V} {H : Hp} {Q : VK} {E : XK} (h : spD K (fI c f) (v :: vs) H Q E) : (∃ a dx fs, v = .ref a ∧ H a = some (.ins (He.ga K (Str.ofString c)) dx fs)) ∧ spD K f (v :: vs) H Q E := by
  obtain ⟨F, ds, A, B, o, nd, nf, dm, h⟩ := h
  unfold fI at h
  by_cases hc : fI.isI1 c ds = true
  case neg => rw [if_neg hc] at h; exact h.elim
  case pos =>
    rw [if_pos hc] at h
    refine ⟨?_, F, ds, A, B, o, nd, nf, dm, h⟩
    match ds, hc, o with
    | .ins c' ns l :: r, hc, o =>
      simp only [fI.isI1] at hc
      have hc := of_decide_eq_true hc
      subst hc
      simp only [OVps] at o
      obtain ⟨A1, A2, o1, _, _⟩ := o
      simp only [OVp, RV] at o1
      obtain ⟨_, a, dx, fs, rfl, _, ha, _, _⟩ := o1
      exact ⟨a, dx, fs, rfl, ha⟩
theorem p_oIn {c : String} : P1 K (oIn c) (fun x H1 Q => (∃ a dx fs, x = .ref a ∧ H1 a = some (.ins (He.ga K (Str.ofString c)) dx fs)) ∧ Q x H1) := by
  intro F H x a d Q ra e q
  unfold oIn at e; split at e
  · rename_i c' ns ds
    split at e
    · rename_i hcc
      subst hcc
      cases e
      have rb := ra
      simp only [RV] at ra
      obtain ⟨a, dx, fs, rfl, fa, ha, en, rs⟩ := ra
      exact ⟨⟨a, dx, fs, rfl, ha⟩, q _ F H Grow.refl rb⟩
    · cases e
  · cases e
theorem tDE_mono {f : E} {σ : L2.St} {H : Hp} {P Q : VK} (h : tDE K B W f σ H P) (m : ∀ v H', P v H' → Q v H') : tDE K B W f σ H Q := by
  obtain ⟨F, ρ, A, rp, h⟩ := h
  refine ⟨F, ρ, A, rp, ?_⟩
  cases e : f ρ with
  | bad => rw [e] at h; exact h
  | exc x ρ1 => rw [e] at h; exact h
  | ok l ρ1 =>
    rw [e] at h
    exact fun vs F' H' A' r a s => m _ _ (h vs F' H' A' r a s)
end
section
variable {X : Cx} {B : Bx} {W : WX} {e : Expr} {st : Stmt} {f g : E}
end
section
variable {c : String} {fn : Fn} {a : E} {dd ds : List D} {ρ : Env} {ns : List String} {r : List D}
theorem v_ocall {g : List Ag} : eOCall c fn a g dd ρ = eCall (fI c fn) (.v (eUn (oIn c) a) :: g) dd ρ := id rfl
theorem v_fI : fI c fn (.ins c ns ds :: r) = fn (.ins c ns ds :: r) := by simp [fI, fI.isI1]
theorem v_oInO : oIn c (.ins c ns ds) = some (.ins c ns ds) := by simp [oIn]
end
end U
namespace U
theorem atD_nat {α : Type} {l : List α} {j : Nat} : atD l (j : Int) = l[j]? := by
  unfold atD ixD
  rw [if_pos (by omega)]
  by_cases h : j < l.length
  · rw [if_pos (by omega)]; simp
  · rw [if_neg (by omega)]; simp; omega
theorem at_0 {α : Type} {x : α} {xs : List α} : atD (x :: xs) 0 = some x := atD_nat (j := 0)
theorem at_1 {α : Type} {x y : α} {xs : List α} : atD (x :: y :: xs) 1 = some y := atD_nat (j := 1)
theorem at_2 {α : Type} {x y z : α} {xs : List α} : atD (x :: y :: z :: xs) 2 = some z := atD_nat (j := 2)
theorem at_3 {α : Type} {w x y z : α} {xs : List α} : atD (w :: x :: y :: z :: xs) 3 = some z := atD_nat (j := 3)
theorem at_neg {α : Type} {x : α} {xs : List α} : atD (xs ++ [x]) (-1) = some x := by
  unfold atD ixD
  rw [if_neg (by omega), if_pos (by simp; omega)]
  simp only [Option.bind_some]
  rw [show ((-1 : Int) + ((xs ++ [x]).length : Nat)).toNat = xs.length by simp; omega]
  simp
theorem ixD_nat {n j : Nat} (h : j < n) : ixD n (j : Int) = some j := by
  unfold ixD
  rw [if_pos (by omega), if_pos (by omega)]; simp
theorem ix_0 {n : Nat} : ixD (n + 1) 0 = some 0 := ixD_nat (j := 0) (by omega)
theorem ix_1 {n : Nat} : ixD (n + 1 + 1) 1 = some 1 := ixD_nat (j := 1) (by omega)
theorem ix_2 {n : Nat} : ixD (n + 1 + 1 + 1) 2 = some 2 := ixD_nat (j := 2) (by omega)
theorem cap_le {n : Nat} : (n ≤ cap) = (n ≤ 16777216) := rfl
theorem small_lim {n : Nat} : (n < lim64) = (n < 18446744073709551616) := rfl
end U
namespace U
section
variable {d x y : D} {ρ ρ1 : Env} {e : Ex} {k : D → Env → ER} {kf : D → Env → Fl} {ka : D → Env → AR} {kl : List D → Env → ER} {kla : List D → Env → AR} {kn : Env → Fl} {ds : List D} {a b c : E} {s t : St} {g : Tg} {i : Nat}
theorem v_bind : (ER.ok d ρ).bind k = k d ρ := id rfl
theorem v_bindX : (ER.exc e ρ).bind k = .exc e ρ := id rfl
theorem v_bindB : ER.bad.bind k = .bad := id rfl
theorem v_binds : (ER.ok d ρ).binds kf = kf d ρ := id rfl
theorem v_bindsX : (ER.exc e ρ).binds kf = .ex e ρ := id rfl
theorem v_bindsB : ER.bad.binds kf = .bad := id rfl
theorem v_bindA : (ER.ok d ρ).bindA ka = ka d ρ := id rfl
theorem v_bindAX : (ER.exc e ρ).bindA ka = .exc e ρ := id rfl
theorem v_bindAB : ER.bad.bindA ka = .bad := id rfl
theorem v_abind : (AR.ok ds ρ).bind kl = kl ds ρ := id rfl
theorem v_abindX : (AR.exc e ρ).bind kl = .exc e ρ := id rfl
theorem v_abindB : AR.bad.bind kl = .bad := id rfl
theorem v_abindA : (AR.ok ds ρ).bindA kla = kla ds ρ := id rfl
theorem v_abindAX : (AR.exc e ρ).bindA kla = .exc e ρ := id rfl
theorem v_abindAB : AR.bad.bindA kla = .bad := id rfl
theorem v_nx : (Fl.nx ρ).bind kn = kn ρ := id rfl
theorem v_rt : (Fl.rt d ρ).bind kn = .rt d ρ := id rfl
theorem v_bk : (Fl.bk ρ).bind kn = .bk ρ := id rfl
theorem v_ct : (Fl.ct ρ).bind kn = .ct ρ := id rfl
theorem v_ex : (Fl.ex e ρ).bind kn = .ex e ρ := id rfl
theorem v_bad : Fl.bad.bind kn = .bad := id rfl
theorem v_c : eC d ρ = .ok d ρ := id rfl
theorem v_var : eVar i ρ = lift (rd ρ[i]?) ρ := id rfl
theorem v_some : lift (some d) ρ = .ok d ρ := id rfl
theorem v_none : lift none ρ = .bad := id rfl
theorem v_rd (h : d.isMut = false) : rd (some (some d)) = some d := by
  cases d <;> first | rfl | cases h
theorem v_rdN : rd (some none) = none := id rfl
theorem m_non : D.isMut .non = false := id rfl
theorem m_bl {z : Bool} : D.isMut (.bl z) = false := id rfl
theorem m_int {z : Int} : D.isMut (.int z) = false := id rfl
theorem m_str {z : List Nat} : D.isMut (.str z) = false := id rfl
theorem m_tup {z : List D} : D.isMut (.tup z) = false := id rfl
theorem m_lst {z : List D} : D.isMut (.lst z) = false := id rfl
theorem m_scr {z : List Int} : D.isMut (.scr z) = false := id rfl
theorem m_ins {z : List D} {n : String} {ns : List String} : D.isMut (.ins n ns z) = false := id rfl
def kOp2 (o : D → D → Option D) (x : D) : D → Env → ER := fun y ρ2 => lift (o x y) ρ2
def kOp1 (o : D → D → Option D) (b : E) : D → Env → ER := fun x ρ1 => (b ρ1).bind (kOp2 o x)
theorem v_kOp2 {o : D → D → Option D} : kOp2 o x y ρ = lift (o x y) ρ := id rfl
theorem v_kOp1 {o : D → D → Option D} : kOp1 o b x ρ = (b ρ).bind (kOp2 o x) := id rfl
theorem v_op {o : D → D → Option D} : eOp o a b ρ = (a ρ).bind (kOp1 o b) := id rfl
def kUn (o : D → Option D) : D → Env → ER := fun x ρ1 => lift (o x) ρ1
theorem v_kUn {o : D → Option D} : kUn o x ρ = lift (o x) ρ := id rfl
theorem v_un {o : D → Option D} : eUn o a ρ = (a ρ).bind (kUn o) := id rfl
theorem v_anil : aNil ρ = .ok [] ρ := id rfl
def kA2 (x : D) : List D → Env → AR := fun xs ρ2 => .ok (x :: xs) ρ2
def kA1 (r : As) : D → Env → AR := fun x ρ1 => (r ρ1).bindA (kA2 x)
theorem v_kA2 : kA2 x ds ρ = .ok (x :: ds) ρ := id rfl
theorem v_kA1 {r : As} : kA1 r x ρ = (r ρ).bindA (kA2 x) := id rfl
theorem v_acons {r : As} : aCons a r ρ = (a ρ).bindA (kA1 r) := id rfl
def kN (o : List D → Option D) : List D → Env → ER := fun xs ρ1 => lift (o xs) ρ1
theorem v_kN {o : List D → Option D} : kN o ds ρ = lift (o ds) ρ := id rfl
theorem v_n {o : List D → Option D} {r : As} : eN o r ρ = (r ρ).bind (kN o) := id rfl
def andK (b : E) (x : D) (ρ1 : Env) : ER := match x with
  | .bl true => b ρ1
  | .bl false => .ok (.bl false) ρ1
  | _ => .bad
theorem v_and : eAnd a b ρ = (a ρ).bind (andK b) := id rfl
theorem v_andT : andK b (.bl true) ρ = b ρ := id rfl
theorem v_andF : andK b (.bl false) ρ = .ok (.bl false) ρ := id rfl
def orK (b : E) (x : D) (ρ1 : Env) : ER := match x with
  | .bl false => b ρ1
  | .bl true => .ok (.bl true) ρ1
  | _ => .bad
theorem v_or : eOr a b ρ = (a ρ).bind (orK b) := id rfl
theorem v_orT : orK b (.bl true) ρ = .ok (.bl true) ρ := id rfl
theorem v_orF : orK b (.bl false) ρ = b ρ := id rfl
def ifE (a b : E) (x : D) (ρ1 : Env) : ER := match x with
  | .bl true => a ρ1
  | .bl false => b ρ1
  | _ => .bad
theorem v_ife : eIf c a b ρ = (c ρ).bind (ifE a b) := id rfl
theorem v_ifeT : ifE a b (.bl true) ρ = a ρ := id rfl
theorem v_ifeF : ifE a b (.bl false) ρ = b ρ := id rfl
def chK (o' : D → D → Option D) (c : E) (y : D) (ρ2 : Env) (r : Option D) : ER := match r with
  | some (.bl true) => (c ρ2).bind fun z ρ3 => lift (o' y z) ρ3
  | some (.bl false) => .ok (.bl false) ρ2
  | _ => .bad
def kC2 (o o' : D → D → Option D) (c : E) (x : D) : D → Env → ER := fun y ρ2 => chK o' c y ρ2 (o x y)
def kC1 (o o' : D → D → Option D) (b c : E) : D → Env → ER := fun x ρ1 => (b ρ1).bind (kC2 o o' c x)
theorem v_kC2 {o o' : D → D → Option D} : kC2 o o' c x y ρ = chK o' c y ρ (o x y) := id rfl
theorem v_kC1 {o o' : D → D → Option D} : kC1 o o' b c x ρ = (b ρ).bind (kC2 o o' c x) := id rfl
theorem v_ch {o o' : D → D → Option D} : eChain o o' a b c ρ = (a ρ).bind (kC1 o o' b c) := id rfl
theorem v_chT {o' : D → D → Option D} : chK o' c y ρ (some (.bl true)) = (c ρ).bind (kOp2 o' y) := id rfl
theorem v_chF {o' : D → D → Option D} : chK o' c y ρ (some (.bl false)) = .ok (.bl false) ρ := id rfl
def kFrz : D → Env → ER := fun x ρ1 => lift (frzD x) ρ1
theorem v_kFrz : kFrz x ρ = lift (frzD x) ρ := id rfl
theorem v_frz : eFrz a ρ = (a ρ).bind kFrz := id rfl
theorem v_frzP (h : d.isMut = false) : frzD d = some d := by cases d <;> first | rfl | cases h
theorem v_frzL {l : List D} : frzD (.own 0 (.lst l)) = if allPlain l then some (.lst l) else none := id rfl
theorem v_plN : allPlain [] = true := id rfl
theorem v_plC {l : List D} : allPlain (d :: l) = (!d.isMut && allPlain l) := id rfl
def giveK (i : Nat) (ρ : Env) (o : Option (Option D)) : ER := match o with
  | some (some d) => (match frzD d with
    | some d' => .ok d' (ρ.set i (some d'))
    | none => .bad)
  | _ => .bad
theorem v_give : eGive i ρ = giveK i ρ ρ[i]? := id rfl
theorem v_giveO {l : List D} (h : allPlain l = true) : giveK i ρ (some (some (.own 0 (.lst l)))) = .ok (.lst l) (ρ.set i (some (.lst l))) := by simp [giveK, frzD, h]
theorem v_giveP (h : d.isMut = false) : giveK i ρ (some (some d)) = .ok d (ρ.set i (some d)) := by simp [giveK, v_frzP h]
theorem v_isOL {t : Nat} {l : List D} : isOL (some (some (.own t (.lst l)))) = true := id rfl
def appK (i : Nat) (x : D) (ρ1 : Env) (o : Option (Option D)) : ER := match o with
  | some (some (.own t (.lst l))) => if l.length < cap then .ok .non (ρ1.set i (some (.own t (.lst (l ++ [x]))))) else .bad
  | _ => .bad
def kApp (i : Nat) : D → Env → ER := fun x ρ1 => appK i x ρ1 ρ1[i]?
theorem v_kApp : kApp i x ρ = appK i x ρ ρ[i]? := id rfl
theorem v_app : eApp i a ρ = if isOL ρ[i]? then (a ρ).bind (kApp i) else .bad := id rfl
theorem v_appL {t : Nat} {l : List D} (h : l.length < 16777216) : appK i x ρ (some (some (.own t (.lst l)))) = .ok .non (ρ.set i (some (.own t (.lst (l ++ [x]))))) := by simp [appK, cap, h]
def ixK (ρ1 : Env) (x : D) (o : Option (Option D)) : ER := match o, x with
  | some (some (.own _ (.lst l))), .int k => (match atD l k with
    | some d => if d.isMut then .bad else .ok d ρ1
    | none => .bad)
  | _, _ => .bad
def kIx (i : Nat) : D → Env → ER := fun x ρ1 => ixK ρ1 x ρ1[i]?
theorem v_kIx : kIx i x ρ = ixK ρ x ρ[i]? := id rfl
theorem v_ixO : eIxO i a ρ = if isOL ρ[i]? then (a ρ).bind (kIx i) else .bad := by
  unfold kIx
  unfold eIxO
  congr 2
theorem v_ixL {t : Nat} {l : List D} {k : Int} : ixK ρ (.int k) (some (some (.own t (.lst l)))) = match atD l k with
    | some d => if d.isMut then .bad else .ok d ρ
    | none => .bad := rfl
def putK (i : Nat) (x y : D) (ρ2 : Env) (o : Option (Option D)) : Fl := match o, y with
  | some (some (.own t (.lst l))), .int j => (match ixD l.length j with
    | some m => if allPlain l then .nx (ρ2.set i (some (.own t (.lst (l.set m x))))) else .bad
    | none => .bad)
  | _, _ => .bad
def kPO2 (i : Nat) (x : D) : D → Env → Fl := fun y ρ2 => putK i x y ρ2 ρ2[i]?
def kPO1 (i : Nat) (b : E) : D → Env → Fl := fun x ρ1 => if isOL ρ1[i]? then (b ρ1).binds (kPO2 i x) else .bad
theorem v_kPO2 : kPO2 i x y ρ = putK i x y ρ ρ[i]? := id rfl
theorem v_kPO1 : kPO1 i b x ρ = if isOL ρ[i]? then (b ρ).binds (kPO2 i x) else .bad := id rfl
theorem v_putO : sPutO i b a ρ = (a ρ).binds (kPO1 i b) := by
  unfold kPO1 kPO2
  unfold sPutO
  congr 1
theorem v_putL {t : Nat} {l : List D} {k : Int} : putK i x (.int k) ρ (some (some (.own t (.lst l)))) = match ixD l.length k with
    | some m => if allPlain l then .nx (ρ.set i (some (.own t (.lst (l.set m x))))) else .bad
    | none => .bad := rfl
def lenK (ρ : Env) (o : Option (Option D)) : ER := match o with
  | some (some (.own _ (.lst l))) => .ok (.int l.length) ρ
  | _ => .bad
theorem v_lenO : eLenO i ρ = lenK ρ ρ[i]? := id rfl
theorem v_lenL {t : Nat} {l : List D} : lenK ρ (some (some (.own t (.lst l)))) = .ok (.int l.length) ρ := id rfl
def msK (o : D → D → Option D) (b : E) (x : D) (ρ1 : Env) : ER := match x with
  | .str s => (b ρ1).bind fun y ρ2 => lift (o (.str s) y) ρ2
  | _ => .bad
theorem v_ms {o : D → D → Option D} : eMs o a b ρ = (a ρ).bind (msK o b) := id rfl
theorem v_msS {o : D → D → Option D} {z : List Nat} : msK o b (.str z) ρ = (b ρ).bind (kOp2 o (.str z)) := id rfl
def slK1 (o : D → Option Int → Option Int → Option D) (x : D) (hi : Option E) (r : OR) : ER := match r with
  | .ok l ρ2 => (match part hi ρ2 with
    | .ok h ρ3 => lift (o x l h) ρ3
    | .exc x ρ3 => .exc x ρ3
    | .bad => .bad)
  | .exc x ρ2 => .exc x ρ2
  | .bad => .bad
def slK2 (o : D → Option Int → Option Int → Option D) (x : D) (l : Option Int) (r : OR) : ER := match r with
  | .ok h ρ3 => lift (o x l h) ρ3
  | .exc x ρ3 => .exc x ρ3
  | .bad => .bad
def kSl (o : D → Option Int → Option Int → Option D) (lo hi : Option E) : D → Env → ER := fun x ρ1 => slK1 o x hi (part lo ρ1)
theorem v_kSl {o : D → Option Int → Option Int → Option D} {lo hi : Option E} : kSl o lo hi x ρ = slK1 o x hi (part lo ρ) := id rfl
theorem v_sl {o : D → Option Int → Option Int → Option D} {lo hi : Option E} : eSl o a lo hi ρ = (a ρ).bind (kSl o lo hi) := id rfl
theorem v_sl1 {o : D → Option Int → Option Int → Option D} {hi : Option E} {l : Option Int} : slK1 o x hi (.ok l ρ) = slK2 o x l (part hi ρ) := id rfl
theorem v_sl2 {o : D → Option Int → Option Int → Option D} {l h : Option Int} : slK2 o x l (.ok h ρ) = lift (o x l h) ρ := id rfl
def partK (r : ER) : OR := match r with
  | .ok (.int i) ρ1 => .ok (some i) ρ1
  | .ok _ _ => .bad
  | .exc x ρ1 => .exc x ρ1
  | .bad => .bad
theorem v_part0 : part none ρ = .ok none ρ := id rfl
theorem v_part : part (some a) ρ = partK (a ρ) := id rfl
theorem v_partI {z : Int} : partK (.ok (.int z) ρ) = .ok (some z) ρ := id rfl
theorem v_seq : sSeq s t ρ = (s ρ).bind t := id rfl
theorem v_nil : sNil ρ = .nx ρ := id rfl
theorem v_ret : sRet a ρ = (a ρ).binds Fl.rt := id rfl
theorem v_retN : sRetN ρ = .rt .non ρ := id rfl
def kDrop : D → Env → Fl := fun _ ρ1 => .nx ρ1
theorem v_kDrop : kDrop x ρ = .nx ρ := id rfl
theorem v_drop : sDrop a ρ = (a ρ).binds kDrop := id rfl
theorem v_bkS : sBk ρ = .bk ρ := id rfl
theorem v_ctS : sCt ρ = .ct ρ := id rfl
def ifK (s t : St) (x : D) (ρ1 : Env) : Fl := match x with
  | .bl true => s ρ1
  | .bl false => t ρ1
  | _ => .bad
theorem v_if : sIf c s t ρ = (c ρ).binds (ifK s t) := id rfl
theorem v_ifT : ifK s t (.bl true) ρ = s ρ := id rfl
theorem v_ifF : ifK s t (.bl false) ρ = t ρ := id rfl
def toFl (o : Option Env) : Fl := match o with
  | some ρ => .nx ρ
  | none => .bad
theorem v_toS : toFl (some ρ) = .nx ρ := id rfl
def kSet (i : Nat) : D → Env → Fl := fun d ρ1 => toFl (put i d ρ1)
theorem v_kSet : kSet i d ρ = toFl (put i d ρ) := id rfl
theorem v_set : sSet i a ρ = (a ρ).binds (kSet i) := id rfl
def kAsg (g : Tg) : D → Env → Fl := fun d ρ1 => toFl (g d ρ1)
theorem v_kAsg : kAsg g d ρ = toFl (g d ρ) := id rfl
theorem v_asg : sAsg a g ρ = (a ρ).binds (kAsg g) := id rfl
def putQ (i : Nat) (d : D) (ρ : Env) (o : Option (Option D)) : Option Env := match o with
  | some (some (.own (_ + 1) _)) => none
  | some _ => some (ρ.set i (some d))
  | none => none
theorem v_put : put i d ρ = putQ i d ρ ρ[i]? := id rfl
theorem v_putN : putQ i d ρ (some none) = some (ρ.set i (some d)) := id rfl
theorem v_putP (h : x.isMut = false) : putQ i d ρ (some (some x)) = some (ρ.set i (some d)) := by cases x <;> first | rfl | cases h
theorem v_putOwn : putQ i d ρ (some (some (.own 0 x))) = some (ρ.set i (some d)) := id rfl
def pln (o : Option D) : Prop := ∀ d, o = some d → d.isMut = false
theorem pln_none : pln none := fun _ h => by cases h
theorem pln_some (h : d.isMut = false) : pln (some d) := fun _ e => by cases e; exact h
theorem v_putV {v : Option D} (h : pln v) : putQ i d ρ (some v) = some (ρ.set i (some d)) := by
  cases v with
  | none => rfl
  | some x => exact v_putP (h x rfl)
def Fre (v : Option D) : Prop := ∀ t z, v ≠ some (.own (t + 1) z)
theorem v_putF {v : Option D} (h : Fre v) : putQ i d ρ (some v) = some (ρ.set i (some d)) := by
  cases v with
  | none => rfl
  | some e =>
    cases e with
    | own t z =>
      cases t with
      | zero => rfl
      | succ t => exact absurd rfl (h t z)
    | _ => rfl
theorem fre_none : Fre none := fun _ _ z => by cases z
theorem fre_own {z : D} : Fre (some (.own 0 z)) := fun _ _ e => by cases e
theorem fre_pl (h : d.isMut = false) : Fre (some d) := fun _ _ e => by cases e; cases h
def FreL : Env → Prop
  | [] => True
  | v :: r => Fre v ∧ FreL r
theorem v_gvar : gVar i d ρ = put i d ρ := id rfl
theorem v_gtup {gs : List Tg} : gTup gs (.tup ds) ρ = gAll gs ds ρ := id rfl
theorem v_gnil : gAll [] [] ρ = some ρ := id rfl
theorem v_gcons {gs : List Tg} : gAll (g :: gs) (d :: ds) ρ = (g d ρ).bind (gAll gs ds) := id rfl
def parK (is : List Nat) (r : AR) : Fl := match r with
  | .ok ds ρ1 => toFl (putAll is ds ρ1)
  | .exc x ρ1 => .ex x ρ1
  | .bad => .bad
theorem v_par {is : List Nat} {r : As} : sPar is r ρ = parK is (r ρ) := by
  unfold sPar parK
  cases r ρ <;> rfl
theorem v_parO {is : List Nat} : parK is (.ok ds ρ) = toFl (putAll is ds ρ) := id rfl
theorem v_pa0 : putAll [] [] ρ = some ρ := id rfl
theorem v_pa1 {is : List Nat} : putAll (i :: is) (d :: ds) ρ = (put i d ρ).bind (putAll is ds) := id rfl
def augK (i : Nat) (o : D → D → Option D) (a : E) (ρ : Env) (r : Option D) : Fl := match r with
  | none => .bad
  | some x => (a ρ).binds fun y ρ1 => toFl ((o x y).bind fun z => put i z ρ1)
theorem v_aug {o : D → D → Option D} : sAug i o a ρ = augK i o a ρ (rd ρ[i]?) := by
  unfold sAug augK
  cases rd ρ[i]? with
  | none => rfl
  | some x =>
    show (a ρ).binds _ = (a ρ).binds _
    congr 1
    funext y ρ1
    cases o x y with
    | none => rfl
    | some z => rfl
def kPut (i : Nat) (ρ : Env) : D → Option Env := fun z => put i z ρ
theorem v_kPut : kPut i ρ d = put i d ρ := id rfl
def kAug (i : Nat) (o : D → D → Option D) (x : D) : D → Env → Fl := fun y ρ1 => toFl ((o x y).bind (kPut i ρ1))
theorem v_kAug {o : D → D → Option D} : kAug i o x y ρ = toFl ((o x y).bind (kPut i ρ)) := id rfl
theorem v_augS {o : D → D → Option D} : augK i o a ρ (some x) = (a ρ).binds (kAug i o x) := id rfl
def itK (o : D → Option (List D)) (r : ER) : AR := match r with
  | .ok d ρ1 => (match o d with
    | some ds => .ok ds ρ1
    | none => .bad)
  | .exc x ρ1 => .exc x ρ1
  | .bad => .bad
theorem v_iof {o : D → Option (List D)} : iOf o a ρ = itK o (a ρ) := by unfold iOf itK; cases a ρ <;> rfl
theorem v_itL {l : List D} : itK itL (.ok (.lst l) ρ) = .ok l ρ := id rfl
theorem v_itT {l : List D} : itK itT (.ok (.tup l) ρ) = .ok l ρ := id rfl
theorem v_itS {l : List Nat} : itK itS (.ok (.str l) ρ) = .ok (l.map fun c => .str [c]) ρ := id rfl
def itA (o : List D → Option (List D)) (r : AR) : AR := match r with
  | .ok xs ρ1 => (match o xs with
    | some ds => .ok ds ρ1
    | none => .bad)
  | .exc x ρ1 => .exc x ρ1
  | .bad => .bad
theorem v_ioa {o : List D → Option (List D)} {r : As} : iOfA o r ρ = itA o (r ρ) := by unfold iOfA itA; cases r ρ <;> rfl
theorem v_itR1 {z : Int} (h : okR z = true) : itA itR (.ok [.int z] ρ) = .ok (rangeD 0 z.toNat) ρ := by simp [itA, itR, h]
theorem v_itR2 {y z : Int} (h : okR y = true) (h' : okR z = true) : itA itR (.ok [.int y, .int z] ρ) = .ok (rangeD y (z - y).toNat) ρ := by simp [itA, itR, h, h']
theorem v_itES {l : List Nat} : itA itES (.ok [.str l] ρ) = .ok (enumD (l.map fun c => .str [c])) ρ := id rfl
theorem v_itEL {l : List D} : itA itEL (.ok [.lst l] ρ) = .ok (enumD l) ρ := id rfl
def forA (g : Tg) (b : St) (r : AR) : Fl := match r with
  | .ok ds ρ1 => forL g b ds ρ1
  | .exc x ρ1 => .ex x ρ1
  | .bad => .bad
theorem v_for {it : Is} : sFor it g s ρ = forA g s (it ρ) := by unfold sFor forA; cases it ρ <;> rfl
theorem v_forO : forA g s (.ok ds ρ) = forL g s ds ρ := id rfl
theorem v_fl0 : forL g s [] ρ = .nx ρ := id rfl
def forK (g : Tg) (b : St) (ds : List D) (r : Fl) : Fl := match r with
  | .nx ρ2 => forL g b ds ρ2
  | .ct ρ2 => forL g b ds ρ2
  | .bk ρ2 => .nx ρ2
  | .rt d ρ2 => .rt d ρ2
  | .ex x ρ2 => .ex x ρ2
  | .bad => .bad
theorem v_fl1 : forL g s (d :: ds) ρ = forK g s ds ((toFl (g d ρ)).bind s) := by
  unfold forK
  simp only [forL]
  cases g d ρ with
  | none => rfl
  | some ρ1 => show _ = (match s ρ1 with | _ => _); cases s ρ1 <;> rfl
theorem v_fkN : forK g s ds (.nx ρ) = forL g s ds ρ := id rfl
theorem v_fkC : forK g s ds (.ct ρ) = forL g s ds ρ := id rfl
theorem v_fkB : forK g s ds (.bk ρ) = .nx ρ := id rfl
theorem v_fkR : forK g s ds (.rt d ρ) = .rt d ρ := id rfl
theorem v_fkX : forK g s ds (.ex e ρ) = .ex e ρ := id rfl
def cpA (g : Tg) (t e : E) (vs : List Nat) (r : AR) : ER := match r with
  | .ok ds ρ1 => (match compL g t e vs ds (wipeE vs ρ1) [] with
    | .ok l ρ2 => .ok (.own 0 (.lst l)) ρ2
    | .exc x ρ2 => .exc x ρ2
    | .bad => .bad)
  | .exc x ρ1 => .exc x ρ1
  | .bad => .bad
def cpB (r : AR) : ER := match r with
    | .ok l ρ2 => .ok (.own 0 (.lst l)) ρ2
    | .exc x ρ2 => .exc x ρ2
    | .bad => .bad
theorem v_cp {it : Is} {vs : List Nat} : eComp it g a b vs ρ = cpA g a b vs (it ρ) := by unfold eComp cpA; cases it ρ <;> rfl
theorem v_cpO {vs : List Nat} : cpA g a b vs (.ok ds ρ) = cpB (compL g a b vs ds (wipeE vs ρ) []) := id rfl
theorem v_cpB : cpB (.ok ds ρ) = .ok (.own 0 (.lst ds)) ρ := id rfl
def clE (g : Tg) (t e : E) (vs : List Nat) (ds acc : List D) (r : ER) : AR := match r with
  | .ok x ρ3 => if acc.length < 16777216 then compL g t e vs ds (wipeE vs ρ3) (acc ++ [x]) else .bad
  | _ => .bad
def clT (g : Tg) (t e : E) (vs : List Nat) (ds acc : List D) (r : ER) : AR := match r with
  | .ok (.bl true) ρ2 => clE g t e vs ds acc (e ρ2)
  | .ok (.bl false) ρ2 => compL g t e vs ds (wipeE vs ρ2) acc
  | _ => .bad
def clG (g : Tg) (t e : E) (vs : List Nat) (ds acc : List D) (o : Option Env) : AR := match o with
  | none => .bad
  | some ρ1 => clT g t e vs ds acc (t ρ1)
theorem v_cl0 {vs : List Nat} {acc : List D} : compL g a b vs [] ρ acc = .ok acc ρ := by rw [compL]
theorem v_cl1 {vs : List Nat} {acc : List D} : compL g a b vs (d :: ds) ρ acc = clG g a b vs ds acc (g d ρ) := by
  rw [compL]
  unfold clG
  generalize g d ρ = o
  cases o with
  | none => rfl
  | some ρ1 =>
    show _ = clT g a b vs ds acc (a ρ1)
    simp only []
    generalize a ρ1 = r
    cases r with
    | ok x ρ2 => cases x with
      | bl z => cases z with
        | true =>
          show _ = clE g a b vs ds acc (b ρ2)
          simp only []
          generalize b ρ2 = r2
          cases r2 <;> rfl
        | false => rfl
      | _ => rfl
    | _ => rfl
theorem v_clG {vs : List Nat} {acc : List D} : clG g a b vs ds acc (some ρ) = clT g a b vs ds acc (a ρ) := id rfl
theorem v_clT {vs : List Nat} {acc : List D} : clT g a b vs ds acc (.ok (.bl true) ρ) = clE g a b vs ds acc (b ρ) := id rfl
theorem v_clF {vs : List Nat} {acc : List D} : clT g a b vs ds acc (.ok (.bl false) ρ) = compL g a b vs ds (wipeE vs ρ) acc := id rfl
theorem v_clE {vs : List Nat} {acc : List D} : clE g a b vs ds acc (.ok x ρ) = if acc.length < 16777216 then compL g a b vs ds (wipeE vs ρ) (acc ++ [x]) else .bad := id rfl
def rsK (c : String) (ns : List String) (r : AR) : Fl := match r with
  | .ok ds ρ1 => .ex ⟨c, ns, ds⟩ ρ1
  | .exc x ρ1 => .ex x ρ1
  | .bad => .bad
theorem v_raise {c : String} {ns : List String} {r : As} : sRaise c ns r ρ = rsK c ns (r ρ) := by unfold sRaise rsK; cases r ρ <;> rfl
theorem v_rsO {c : String} {ns : List String} : rsK c ns (.ok ds ρ) = .ex ⟨c, ns, ds⟩ ρ := id rfl
def tryK (tb : Tb) (hs : List Hd) (t : St) (r : Fl) : Fl := match r with
  | .nx ρ1 => t ρ1
  | .ex x ρ1 => catch_ tb x ρ1 hs
  | r => r
theorem v_try {tb : Tb} {hs : List Hd} : sTry tb s hs t ρ = tryK tb hs t (s ρ) := by unfold sTry tryK; cases s ρ <;> rfl
theorem v_tryN {tb : Tb} {hs : List Hd} : tryK tb hs t (.nx ρ) = t ρ := id rfl
theorem v_tryX {tb : Tb} {hs : List Hd} : tryK tb hs t (.ex e ρ) = catch_ tb e ρ hs := id rfl
theorem v_tryR {tb : Tb} {hs : List Hd} : tryK tb hs t (.rt d ρ) = .rt d ρ := id rfl
theorem v_tryB {tb : Tb} {hs : List Hd} : tryK tb hs t (.bk ρ) = .bk ρ := id rfl
theorem v_tryC {tb : Tb} {hs : List Hd} : tryK tb hs t (.ct ρ) = .ct ρ := id rfl
def endF_ (n : Nat) (r : Fl) : ER := match r with
  | .rt d ρ => .ok d (ρ.take n)
  | .nx ρ => .ok .non (ρ.take n)
  | .ex x ρ => .exc x (ρ.take n)
  | _ => .bad
theorem v_fn {n m : Nat} : fnOf n m s ds = if ds.length = n then endF_ n (s (ds.map some ++ List.replicate m none)) else .bad := by
  unfold fnOf endF_
  split
  · cases s (ds.map some ++ List.replicate m none) <;> rfl
  · rfl
theorem v_fnR {n : Nat} : endF_ n (.rt d ρ) = .ok d (ρ.take n) := id rfl
theorem v_fnN {n : Nat} : endF_ n (.nx ρ) = .ok .non (ρ.take n) := id rfl
theorem v_fnX {n : Nat} : endF_ n (.ex e ρ) = .exc e (ρ.take n) := id rfl
def agK (r : GR) (z : Arg) : GR := match r with
  | .ok l ρ2 => .ok (z :: l) ρ2
  | .exc x ρ2 => .exc x ρ2
  | .bad => .bad
def agV (r : List Ag) (q : ER) : GR := match q with
  | .ok d ρ1 => agK (evAg r ρ1) (.v d)
  | .exc x ρ1 => .exc x ρ1
  | .bad => .bad
theorem v_ag0 : evAg [] ρ = .ok [] ρ := id rfl
theorem v_agV {r : List Ag} : evAg (.v a :: r) ρ = agV r (a ρ) := by
  simp only [evAg, agV, agK]
  all_goals
    cases a ρ with
    | ok d ρ1 => cases evAg r ρ1 <;> rfl
    | exc x ρ1 => rfl
    | bad => rfl
theorem v_agO {r : List Ag} : agV r (.ok d ρ) = agK (evAg r ρ) (.v d) := id rfl
theorem v_agX {r : List Ag} : agV r (.exc e ρ) = .exc e ρ := id rfl
def agB (r : List Ag) (i : Nat) (ρ : Env) (o : Option (Option D)) : GR := match o with
  | some (some (.own _ _)) => agK (evAg r ρ) (.b i)
  | _ => .bad
theorem v_agB {r : List Ag} : evAg (.b i :: r) ρ = agB r i ρ ρ[i]? := by
  simp only [evAg]
  unfold agB agK
  generalize ρ[i]? = o
  rcases o with _ | _ | d
  · rfl
  · rfl
  · cases d <;> first | rfl | (cases evAg r ρ <;> rfl)
theorem v_agBO {r : List Ag} {t : Nat} : agB r i ρ (some (some (.own t x))) = agK (evAg r ρ) (.b i) := id rfl
theorem v_agK {l : List Arg} {z : Arg} : agK (.ok l ρ) z = .ok (z :: l) ρ := id rfl
def callK (f : Fn) (dd : List D) (r : GR) : ER := match r with
  | .ok l ρ1 => (match hand ρ1 0 l with
    | some ds => if (lent l).Nodup then (match f (ds ++ dd) with
      | .ok d o => (match back 0 l o ρ1 with
        | some ρ2 => .ok d ρ2
        | none => .bad)
      | .exc x o => (match back 0 l o ρ1 with
        | some ρ2 => .exc x ρ2
        | none => .bad)
      | .bad => .bad) else .bad
    | none => .bad)
  | .exc x ρ1 => .exc x ρ1
  | .bad => .bad
theorem v_call {f : Fn} {g : List Ag} {dd : List D} : eCall f g dd ρ = callK f dd (evAg g ρ) := by unfold eCall callK; cases evAg g ρ <;> rfl
theorem v_callX {f : Fn} {dd : List D} : callK f dd (.exc e ρ) = .exc e ρ := id rfl
def retK (l : List Arg) (ρ1 : Env) (r : ER) : ER := match r with
  | .ok d o => (match back 0 l o ρ1 with
        | some ρ2 => .ok d ρ2
        | none => .bad)
  | .exc x o => (match back 0 l o ρ1 with
        | some ρ2 => .exc x ρ2
        | none => .bad)
  | .bad => .bad
theorem v_callO {f : Fn} {dd : List D} {l : List Arg} (h : hand ρ 0 l = some ds) (hn : (lent l).Nodup) : callK f dd (.ok l ρ) = retK l ρ (f (ds ++ dd)) := by
  simp only [callK, h, if_pos hn]
  unfold retK
  cases f (ds ++ dd) <;> rfl
theorem v_call0 {f : Fn} {dd : List D} : callK f dd (.ok [] ρ) = retK [] ρ (f dd) := v_callO (ds := []) rfl List.nodup_nil
theorem v_call1 {f : Fn} {dd : List D} {d1 : D} : callK f dd (.ok [.v d1] ρ) = retK [.v d1] ρ (f (d1 :: dd)) := v_callO (ds := [d1]) rfl List.nodup_nil
theorem v_call2 {f : Fn} {dd : List D} {d1 d2 : D} : callK f dd (.ok [.v d1, .v d2] ρ) = retK [.v d1, .v d2] ρ (f (d1 :: d2 :: dd)) := v_callO (ds := [d1, d2]) rfl List.nodup_nil
theorem v_call3 {f : Fn} {dd : List D} {d1 d2 d3 : D} : callK f dd (.ok [.v d1, .v d2, .v d3] ρ) = retK [.v d1, .v d2, .v d3] ρ (f (d1 :: d2 :: d3 :: dd)) := v_callO (ds := [d1, d2, d3]) rfl List.nodup_nil
theorem v_call4 {f : Fn} {dd : List D} {d1 d2 d3 d4 : D} : callK f dd (.ok [.v d1, .v d2, .v d3, .v d4] ρ) = retK [.v d1, .v d2, .v d3, .v d4] ρ (f (d1 :: d2 :: d3 :: d4 :: dd)) := v_callO (ds := [d1, d2, d3, d4]) rfl List.nodup_nil
theorem v_ret0 {o : Env} : retK [] ρ (.ok d o) = .ok d ρ := id rfl
theorem v_ret1 {o : Env} {d1 : D} : retK [.v d1] ρ (.ok d o) = .ok d ρ := id rfl
theorem v_ret2 {o : Env} {d1 d2 : D} : retK [.v d1, .v d2] ρ (.ok d o) = .ok d ρ := id rfl
theorem v_ret3 {o : Env} {d1 d2 d3 : D} : retK [.v d1, .v d2, .v d3] ρ (.ok d o) = .ok d ρ := id rfl
theorem v_ret4 {o : Env} {d1 d2 d3 d4 : D} : retK [.v d1, .v d2, .v d3, .v d4] ρ (.ok d o) = .ok d ρ := id rfl
theorem v_retX0 {o : Env} : retK [] ρ (.exc e o) = .exc e ρ := id rfl
theorem v_retX1 {o : Env} {d1 : D} : retK [.v d1] ρ (.exc e o) = .exc e ρ := id rfl
theorem v_retX2 {o : Env} {d1 d2 : D} : retK [.v d1, .v d2] ρ (.exc e o) = .exc e ρ := id rfl
theorem v_retX3 {o : Env} {d1 d2 d3 : D} : retK [.v d1, .v d2, .v d3] ρ (.exc e o) = .exc e ρ := id rfl
theorem v_retX4 {o : Env} {d1 d2 d3 d4 : D} : retK [.v d1, .v d2, .v d3, .v d4] ρ (.exc e o) = .exc e ρ := id rfl
def retB (i t : Nat) (ρ : Env) (r : ER) : ER := match r with
  | .ok d (some (.own 1 p') :: _) => .ok d (ρ.set i (some (.own t p')))
  | .exc x (some (.own 1 p') :: _) => .exc x (ρ.set i (some (.own t p')))
  | _ => .bad
def lendK (f : Fn) (i : Nat) (ρ : Env) (args : List D) (o : Option (Option D)) : ER := match o with
  | some (some (.own t p)) => retB i t ρ (f (.own 1 p :: args))
  | _ => .bad
theorem back_vs {i t : Nat} {ρ : Env} {p' : D} {o : Env} (h : ∃ q, ρ[i]? = some (some (.own t q))) : ∀ {l : List Arg}, lent l = [] → back 0 (.b i :: l) (some (.own 1 p') :: o) ρ = some (ρ.set i (some (.own t p'))) := by
  intro l hl
  obtain ⟨q, hq⟩ := h
  simp only [back, List.head?_cons, hq, List.tail_cons, if_true]
  have : ∀ (l : List Arg) (j : Nat) (o ρ : Env), lent l = [] → back j l o ρ = some ρ := by
    intro l
    induction l with
    | nil => intros; rfl
    | cons z l ih =>
      intro j o ρ h
      cases z with
      | v d => simp only [back]; exact ih _ _ _ (by simpa [lent] using h)
      | b i => simp [lent] at h
  exact this l _ _ _ hl
theorem lend_of {f : Fn} {dd : List D} {l : List Arg} {ds : List D} (hl : lent l = []) (hh : ∀ ρ, hand ρ 1 l = some ds) : callK f dd (.ok (.b i :: l) ρ) = lendK f i ρ (ds ++ dd) ρ[i]? := by
  unfold lendK
  rcases e : ρ[i]? with _ | _ | d0
  · simp [callK, hand, e]
  · simp [callK, hand, e]
  · cases d0 with
    | own t p =>
      have h1 : hand ρ 0 (.b i :: l) = some (.own 1 p :: ds) := by simp [hand, e, hh]
      rw [v_callO h1 (by simp [lent, hl])]
      simp only [List.cons_append]
      unfold retK retB
      cases f (.own 1 p :: (ds ++ dd)) with
      | bad => rfl
      | ok d o =>
        match o with
        | some (.own 1 p') :: o => simp only [back_vs ⟨p, e⟩ hl]
        | [] => simp [back]
        | none :: _ => simp [back]
        | some .non :: _ => simp [back]
        | some (.bl _) :: _ => simp [back]
        | some (.int _) :: _ => simp [back]
        | some (.str _) :: _ => simp [back]
        | some (.tup _) :: _ => simp [back]
        | some (.lst _) :: _ => simp [back]
        | some (.ins _ _ _) :: _ => simp [back]
        | some (.exn _ _ _) :: _ => simp [back]
        | some (.scr _) :: _ => simp [back]
        | some (.dic _) :: _ => simp [back]
        | some (.own 0 _) :: _ => simp [back]
        | some (.own (n + 2) _) :: _ => simp [back, e]
      | exc x o =>
        match o with
        | some (.own 1 p') :: o => simp only [back_vs ⟨p, e⟩ hl]
        | [] => simp [back]
        | none :: _ => simp [back]
        | some .non :: _ => simp [back]
        | some (.bl _) :: _ => simp [back]
        | some (.int _) :: _ => simp [back]
        | some (.str _) :: _ => simp [back]
        | some (.tup _) :: _ => simp [back]
        | some (.lst _) :: _ => simp [back]
        | some (.ins _ _ _) :: _ => simp [back]
        | some (.exn _ _ _) :: _ => simp [back]
        | some (.scr _) :: _ => simp [back]
        | some (.dic _) :: _ => simp [back]
        | some (.own 0 _) :: _ => simp [back]
        | some (.own (n + 2) _) :: _ => simp [back, e]
    | _ => simp [callK, hand, e]
theorem v_b1 {f : Fn} {dd : List D} : callK f dd (.ok [.b i] ρ) = lendK f i ρ dd ρ[i]? := lend_of (ds := []) rfl fun _ => rfl
theorem v_b2 {f : Fn} {dd : List D} {d1 : D} : callK f dd (.ok [.b i, .v d1] ρ) = lendK f i ρ (d1 :: dd) ρ[i]? := lend_of (ds := [d1]) rfl fun _ => rfl
theorem v_b3 {f : Fn} {dd : List D} {d1 d2 : D} : callK f dd (.ok [.b i, .v d1, .v d2] ρ) = lendK f i ρ (d1 :: d2 :: dd) ρ[i]? := lend_of (ds := [d1, d2]) rfl fun _ => rfl
theorem v_b4 {f : Fn} {dd : List D} {d1 d2 d3 : D} : callK f dd (.ok [.b i, .v d1, .v d2, .v d3] ρ) = lendK f i ρ (d1 :: d2 :: d3 :: dd) ρ[i]? := lend_of (ds := [d1, d2, d3]) rfl fun _ => rfl
theorem v_b5 {f : Fn} {dd : List D} {d1 d2 d3 d4 : D} : callK f dd (.ok [.b i, .v d1, .v d2, .v d3, .v d4] ρ) = lendK f i ρ (d1 :: d2 :: d3 :: d4 :: dd) ρ[i]? := lend_of (ds := [d1, d2, d3, d4]) rfl fun _ => rfl
theorem v_lend {f : Fn} {args : List D} {t : Nat} {p : D} : lendK f i ρ args (some (some (.own t p))) = retB i t ρ (f (.own 1 p :: args)) := id rfl
theorem v_retB {t : Nat} {p : D} {o : Env} : retB i t ρ (.ok d (some (.own 1 p) :: o)) = .ok d (ρ.set i (some (.own t p))) := id rfl
theorem v_retBX {t : Nat} {p : D} {o : Env} : retB i t ρ (.exc e (some (.own 1 p) :: o)) = .exc e (ρ.set i (some (.own t p))) := id rfl
end
end U
namespace U
section
variable {d x y : D} {ρ ρ1 o : Env} {e : Ex} {ds fs : List D} {a b : E} {i t : Nat} {c f m : String} {ns : List String} {fn : Fn} {dd : List D} {as : As}
def okPl : Option D → Option D
  | some d => if d.isMut then none else some d
  | none => none
theorem v_okPl (h : d.isMut = false) : okPl (some d) = some d := by simp [okPl, h]
theorem v_fldO : eFldO i c f ρ = lift (fldO c f ρ[i]?) ρ := id rfl
theorem v_fldI : fldO c f (some (some (.own t (.ins c ns ds)))) = okPl (lookN f ns ds) := by
  simp only [fldO, okPl, if_true]
  all_goals (cases lookN f ns ds <;> rfl)
def setFK (i : Nat) (ρ : Env) : Option D → Fl
  | some d => .nx (ρ.set i (some d))
  | none => .bad
def kFld (i : Nat) (c f : String) : D → Env → Fl := fun d ρ => setFK i ρ (putFO c f d ρ[i]?)
theorem v_sfld : sFldO i c f a ρ = (a ρ).binds (kFld i c f) := by
  unfold sFldO kFld setFK; cases a ρ <;> simp only [ER.binds]
  all_goals (rename_i d ρ1; cases putFO c f d ρ1[i]? <;> rfl)
theorem v_kFld : kFld i c f d ρ = setFK i ρ (putFO c f d ρ[i]?) := id rfl
theorem v_setFK : setFK i ρ (some d) = .nx (ρ.set i (some d)) := id rfl
theorem v_putFO (h : ns.length < 1000) : putFO c f d (some (some (.own t (.ins c ns ds)))) = some (.own t (.ins c (putNs f ns) (putDs f d ns ds))) := by simp [putFO, h]
def mkR (c : String) (ρ : Env) : ER → ER
  | .ok .non (some (.own 1 (.ins c' ns fs)) :: _) => if c' = c then .ok (.own 0 (.ins c ns fs)) ρ else .bad
  | .exc x _ => .exc x ρ
  | _ => .bad
def mkK (c : String) (fn : Fn) (dd : List D) : AR → ER
  | .ok ds ρ => mkR c ρ (fn (.own 1 (.ins c [] []) :: (ds ++ dd)))
  | .exc x ρ => .exc x ρ
  | .bad => .bad
theorem v_make : eMake c fn as dd ρ = mkK c fn dd (as ρ) := by
  unfold eMake mkK
  cases as ρ <;> simp only
  rename_i ds ρ1
  unfold mkR
  rfl
theorem v_mkK : mkK c fn dd (.ok ds ρ) = mkR c ρ (fn (.own 1 (.ins c [] []) :: (ds ++ dd))) := id rfl
theorem v_mkKX : mkK c fn dd (.exc e ρ) = .exc e ρ := id rfl
theorem v_mkKB : mkK c fn dd .bad = .bad := id rfl
theorem v_mkR : mkR c ρ (.ok .non (some (.own 1 (.ins c ns fs)) :: o)) = .ok (.own 0 (.ins c ns fs)) ρ := by simp [mkR]
theorem v_mkRX : mkR c ρ (.exc e o) = .exc e ρ := id rfl
theorem v_meth {g : List Ag} : eMeth c m fn a g dd ρ = eCall fn (.v (eUn (oIns c m) a) :: g) dd ρ := id rfl
theorem v_oIns (h : m ∉ ns) : oIns c m (.ins c ns ds) = some (.ins c ns ds) := by simp [oIns, h]
theorem v_methO {g : List Ag} : eMethO c m fn i g dd ρ = if isIO c m ρ[i]? then eCall fn (.b i :: g) dd ρ else .bad := id rfl
theorem v_isIO (h : m ∉ ns) : isIO c m (some (some (.own t (.ins c ns ds)))) = true := by simp [isIO, h]
theorem v_propO : ePropO c fn i ρ = if isI c ρ[i]? then (eCall fn [.b i] [] ρ).plain else .bad := id rfl
theorem v_isI : isI c (some (some (.own t (.ins c ns ds)))) = true := by simp [isI]
theorem v_plain (h : d.isMut = false) : (ER.ok d ρ).plain = .ok d ρ := by simp [ER.plain, h]
def prK : ER → Option D
  | .ok d _ => if d.isMut then none else some d
  | _ => none
theorem v_oProp : oProp c fn (.ins c ns ds) = prK (fn [.ins c ns ds]) := by
  simp only [oProp, prK, if_true]
  all_goals (cases fn [.ins c ns ds] <;> rfl)
theorem v_prK (h : d.isMut = false) : prK (.ok d o) = some d := by simp [prK, h]
theorem v_oCon (h : f ∉ ns) : oCon c f d (.ins c ns ds) = some d := by simp [oCon, h]
theorem v_conO : eConO c f d i ρ = if isIO c f ρ[i]? then .ok d ρ else .bad := id rfl
theorem v_oFld : oFld c f (.ins c ns ds) = lookN f ns ds := by simp [oFld]
theorem v_look : lookN f (m :: ns) (d :: ds) = if m = f then some d else lookN f ns ds := id rfl
theorem v_frzI (h : allPlain ds = true) : frzD (.own 0 (.ins c ns ds)) = some (.ins c ns ds) := by simp [frzD, h]
theorem v_itAL : itA itEQ (.ok [.lst ds] ρ) = .ok (enumD ds) ρ := id rfl
theorem v_itAT : itA itEQ (.ok [.tup ds] ρ) = .ok (enumD ds) ρ := id rfl
theorem v_itEQL : itEQ [.lst ds] = some (enumD ds) := id rfl
theorem v_itEQT : itEQ [.tup ds] = some (enumD ds) := id rfl
def eqK : ER → Option D
  | .ok (.bl b) _ => some (.bl b)
  | _ => none
def neK : ER → Option D
  | .ok (.bl b) _ => some (.bl !b)
  | _ => none
theorem v_eqC {n1 n2 : List String} {d1 d2 : List D} : oEqC c fn (.ins c n1 d1) (.ins c n2 d2) = eqK (fn [.ins c n1 d1, .ins c n2 d2]) := by
  simp only [oEqC, and_self, if_true]; unfold eqK; rfl
theorem v_neC {n1 n2 : List String} {d1 d2 : List D} : oNeC c fn (.ins c n1 d1) (.ins c n2 d2) = neK (fn [.ins c n1 d1, .ins c n2 d2]) := by
  simp only [oNeC, and_self, if_true]; unfold neK; rfl
theorem v_eqK {z : Bool} : eqK (.ok (.bl z) o) = some (.bl z) := id rfl
theorem v_neK {z : Bool} : neK (.ok (.bl z) o) = some (.bl !z) := id rfl
def kB2 (c : String) (fn : Fn) (x : D) : D → Env → ER := fun y ρ2 => if isIn c x && isIn c y then valK ρ2 (fn [x, y]) else .bad
def kB1 (c : String) (fn : Fn) (b : E) : D → Env → ER := fun x ρ1 => (b ρ1).bind (kB2 c fn x)
theorem v_bin : eBin c fn a b ρ = (a ρ).bind (kB1 c fn b) := id rfl
theorem v_kB1 : kB1 c fn b x ρ = (b ρ).bind (kB2 c fn x) := id rfl
theorem v_kB2 : kB2 c fn x y ρ = if isIn c x && isIn c y then valK ρ (fn [x, y]) else .bad := id rfl
theorem v_isIn : isIn c (.ins c ns ds) = true := by simp [isIn]
theorem v_isInt {z : Int} : isInt (.int z) = true := id rfl
def kBI2 (c : String) (fn : Fn) (x : D) : D → Env → ER := fun y ρ2 => if isIn c x && isInt y then valK ρ2 (fn [x, y]) else .bad
def kBI1 (c : String) (fn : Fn) (b : E) : D → Env → ER := fun x ρ1 => (b ρ1).bind (kBI2 c fn x)
theorem v_binI : eBinI c fn a b ρ = (a ρ).bind (kBI1 c fn b) := id rfl
theorem v_kBI1 : kBI1 c fn b x ρ = (b ρ).bind (kBI2 c fn x) := id rfl
theorem v_kBI2 : kBI2 c fn x y ρ = if isIn c x && isInt y then valK ρ (fn [x, y]) else .bad := id rfl
theorem v_valK : valK ρ (.ok d o) = .ok d ρ := id rfl
theorem v_valKX : valK ρ (.exc e o) = .exc e ρ := id rfl
theorem v_makeL : eMakeL i c fn as dd ρ = if isC c ρ[i]? then eMake c fn as dd ρ else .bad := id rfl
theorem v_isC : isC c (some (some (.exn c [] []))) = true := by simp [isC]
end
end U
local macro_rules | `(tactic| walk_at "ev") => `(tactic| simp only [U.v_bind, U.v_kOp2, U.v_kOp1, U.v_kUn, U.v_kA2, U.v_kA1, U.v_kN, U.v_kC2, U.v_kC1, U.v_kFrz, U.v_kApp, U.v_kIx, U.v_kPO2, U.v_kPO1, U.v_kSl, U.v_kDrop, U.v_kSet, U.v_kAsg, U.v_kPut, U.v_kAug, U.v_cl0, U.v_cl1, U.v_clG, U.v_clT, U.v_clF, U.v_clE, U.v_bindX, U.v_bindB, U.v_binds, U.v_bindsX, U.v_bindsB, U.v_bindA, U.v_bindAX, U.v_bindAB, U.v_abind, U.v_abindX, U.v_abindB, U.v_abindA, U.v_abindAX, U.v_abindAB, U.v_nx, U.v_rt, U.v_bk, U.v_ct, U.v_ex, U.v_bad, U.v_c, U.v_var, U.v_some, U.v_none, U.v_rd, U.v_rdN, U.m_non, U.m_bl, U.m_int, U.m_str, U.m_tup, U.m_lst, U.m_scr, U.m_ins, U.v_op, U.v_un, U.v_anil, U.v_acons, U.v_n, U.v_and, U.v_andT, U.v_andF, U.v_or, U.v_orT, U.v_orF, U.v_ife, U.v_ifeT, U.v_ifeF, U.v_ch, U.v_chT, U.v_chF, U.v_frz, U.v_frzP, U.v_frzL, U.v_plN, U.v_plC, U.v_give, U.v_giveO, U.v_giveP, U.v_isOL, U.v_app, U.v_appL, U.v_ixO, U.v_ixL, U.v_putO, U.v_putL, U.v_lenO, U.v_lenL, U.v_ms, U.v_msS, U.v_sl, U.v_sl1, U.v_sl2, U.v_part0, U.v_part, U.v_partI, U.v_seq, U.v_nil, U.v_ret, U.v_retN, U.v_drop, U.v_bkS, U.v_ctS, U.v_if, U.v_ifT, U.v_ifF, U.v_toS, U.v_set, U.v_asg, U.v_put, U.v_putN, U.v_putP, U.v_putOwn, U.v_putV, U.v_putF, U.fre_none, U.fre_own, U.fre_pl, U.pln_none, U.pln_some, U.v_gvar, U.v_gtup, U.v_gnil, U.v_gcons, U.v_par, U.v_parO, U.v_pa0, U.v_pa1, U.v_aug, U.v_augS, U.v_iof, U.v_itL, U.v_itT, U.v_itS, U.v_ioa, U.v_itR1, U.v_itR2, U.v_itES, U.v_itEL, U.v_for, U.v_forO, U.v_fl0, U.v_fl1, U.v_fkN, U.v_fkC, U.v_fkB, U.v_fkR, U.v_fkX, U.v_cp, U.v_cpO, U.v_cpB, U.v_raise, U.v_rsO, U.v_try, U.v_tryN, U.v_tryX, U.v_tryR, U.v_tryB, U.v_tryC, U.v_fn, U.v_fnR, U.v_fnN, U.v_fnX, U.v_ag0, U.v_agV, U.v_agO, U.v_agX, U.v_agB, U.v_agBO, U.v_agK, U.v_call, U.v_callX, U.v_call0, U.v_call1, U.v_call2, U.v_call3, U.v_call4, U.v_ret0, U.v_ret1, U.v_ret2, U.v_ret3, U.v_ret4, U.v_retX0, U.v_retX1, U.v_retX2, U.v_retX3, U.v_retX4, U.v_b1, U.v_b2, U.v_b3, U.v_b4, U.v_b5, U.v_lend, U.v_retB, U.v_retBX, U.oNot, U.oAdd, U.oSub, U.oMul, U.oMulW, U.oDiv, U.oMod, U.oPow, U.oNeg, U.oLt, U.oLe, U.oGt, U.oGe, U.oEq, U.oNe, U.okD, U.D.eqv, U.eqvs, U.oNeScr, U.oIxScr, U.oLenScr, U.oIsN, U.oNotN, U.D.isN, U.oInS, U.oNotInS, U.oInQ, U.oNotInQ, U.D.flat, U.inD, U.oAddS, U.oMulS, U.oCatL, U.oRepL, U.oCatT, U.oRepT, U.oIxL, U.oIxT, U.oIxS, U.oLenS, U.oLenQ, U.oMax2, U.oMin2, U.oMax3, U.oAbs, U.oSum, U.oAll, U.oAny, U.intsD, U.boolsD, U.strsD, U.oInt, U.oStrI, U.oTupOf, U.oLstOf, U.oSlS, U.oSlL, U.oSlT, U.oRev, U.mkTup, U.mkLst, U.eIsi, U.oIsi, U.tyName, U.v_okPl, U.v_fldO, U.v_fldI, U.v_sfld, U.v_kFld, U.v_setFK, U.v_putFO, U.v_make, U.v_mkK, U.v_mkKX, U.v_mkKB, U.v_mkR, U.v_mkRX, U.v_meth, U.v_oIns, U.v_methO, U.v_isIO, U.v_propO, U.v_isI, U.v_plain, U.v_oProp, U.v_prK, U.v_oCon, U.v_conO, U.v_oFld, U.v_look, U.v_frzI, U.v_itAL, U.v_itAT, U.v_itEQL, U.v_itEQT, U.putNs, U.putDs, U.okPl, U.oIsiC, U.oIsi2, U.lookB, U.lookN, List.mem_cons, List.not_mem_nil, not_false_eq_true, U.v_eqC, U.v_neC, U.v_eqK, U.v_neK, U.v_bin, U.v_kB1, U.v_kB2, U.v_isIn, U.v_isInt, U.v_binI, U.v_kBI1, U.v_kBI2, U.v_valK, U.v_valKX, U.v_makeL, U.v_isC, U.v_ocall, U.v_fI, U.v_oInO, U.wipeE, U.at_0, U.at_1, U.at_2, U.at_3, U.at_neg, U.ix_0, U.ix_1, U.ix_2, List.map_cons, List.map_nil, List.length_cons, List.length_nil, List.length_map, List.length_append, List.getElem?_cons_zero, List.getElem?_cons_succ, List.getElem?_nil, List.cons_append, List.nil_append, List.append_nil, List.set_cons_zero, List.set_cons_succ, List.set_nil, List.all_cons, List.all_nil, List.any_cons, List.any_nil, List.reduceReplicate, List.take_succ_cons, List.take_zero, List.take_nil, Option.bind_some, Option.bind_none, Option.map_some, Option.map_none, Bool.and_true, Bool.true_and, Bool.and_false, Bool.false_and, Bool.or_true, Bool.true_or, Bool.or_false, Bool.false_or, Bool.not_true, Bool.not_false, Bool.not_not, Nat.reduceAdd, Nat.reduceLeDiff, Nat.reduceLT, Nat.zero_le, Nat.reduceEqDiff, Int.reducePow, Int.reduceToNat, Int.reduceNeg, Int.reduceLE, Int.reduceLT, Int.reduceAdd, Int.reduceSub, Int.reduceMul, Int.reduceEq, ite_true, ite_false, if_true, if_false, decide_true, decide_false, and_self, true_and, and_true, false_and, and_false, or_true, true_or, or_self, or_false, false_or, List.cons.injEq, reduceCtorEq, String.reduceEq, Bool.false_eq_true, Bool.true_eq_false, beq_self_eq_true, U.cap_le, U.small_lim])
local macro_rules | `(tactic| walk_at "evh") => `(tactic| simp only [U.v_bind, U.v_kOp2, U.v_kOp1, U.v_kUn, U.v_kA2, U.v_kA1, U.v_kN, U.v_kC2, U.v_kC1, U.v_kFrz, U.v_kApp, U.v_kIx, U.v_kPO2, U.v_kPO1, U.v_kSl, U.v_kDrop, U.v_kSet, U.v_kAsg, U.v_kPut, U.v_kAug, U.v_cl0, U.v_cl1, U.v_clG, U.v_clT, U.v_clF, U.v_clE, U.v_bindX, U.v_bindB, U.v_binds, U.v_bindsX, U.v_bindsB, U.v_bindA, U.v_bindAX, U.v_bindAB, U.v_abind, U.v_abindX, U.v_abindB, U.v_abindA, U.v_abindAX, U.v_abindAB, U.v_nx, U.v_rt, U.v_bk, U.v_ct, U.v_ex, U.v_bad, U.v_c, U.v_var, U.v_some, U.v_none, U.v_rd, U.v_rdN, U.m_non, U.m_bl, U.m_int, U.m_str, U.m_tup, U.m_lst, U.m_scr, U.m_ins, U.v_op, U.v_un, U.v_anil, U.v_acons, U.v_n, U.v_and, U.v_andT, U.v_andF, U.v_or, U.v_orT, U.v_orF, U.v_ife, U.v_ifeT, U.v_ifeF, U.v_ch, U.v_chT, U.v_chF, U.v_frz, U.v_frzP, U.v_frzL, U.v_plN, U.v_plC, U.v_give, U.v_giveO, U.v_giveP, U.v_isOL, U.v_app, U.v_appL, U.v_ixO, U.v_ixL, U.v_putO, U.v_putL, U.v_lenO, U.v_lenL, U.v_ms, U.v_msS, U.v_sl, U.v_sl1, U.v_sl2, U.v_part0, U.v_part, U.v_partI, U.v_seq, U.v_nil, U.v_ret, U.v_retN, U.v_drop, U.v_bkS, U.v_ctS, U.v_if, U.v_ifT, U.v_ifF, U.v_toS, U.v_set, U.v_asg, U.v_put, U.v_putN, U.v_putP, U.v_putOwn, U.v_putV, U.v_putF, U.fre_none, U.fre_own, U.fre_pl, U.pln_none, U.pln_some, U.v_gvar, U.v_gtup, U.v_gnil, U.v_gcons, U.v_par, U.v_parO, U.v_pa0, U.v_pa1, U.v_aug, U.v_augS, U.v_iof, U.v_itL, U.v_itT, U.v_itS, U.v_ioa, U.v_itR1, U.v_itR2, U.v_itES, U.v_itEL, U.v_for, U.v_forO, U.v_fl0, U.v_fl1, U.v_fkN, U.v_fkC, U.v_fkB, U.v_fkR, U.v_fkX, U.v_cp, U.v_cpO, U.v_cpB, U.v_raise, U.v_rsO, U.v_try, U.v_tryN, U.v_tryX, U.v_tryR, U.v_tryB, U.v_tryC, U.v_fn, U.v_fnR, U.v_fnN, U.v_fnX, U.v_ag0, U.v_agV, U.v_agO, U.v_agX, U.v_agB, U.v_agBO, U.v_agK, U.v_call, U.v_callX, U.v_call0, U.v_call1, U.v_call2, U.v_call3, U.v_call4, U.v_ret0, U.v_ret1, U.v_ret2, U.v_ret3, U.v_ret4, U.v_retX0, U.v_retX1, U.v_retX2, U.v_retX3, U.v_retX4, U.v_b1, U.v_b2, U.v_b3, U.v_b4, U.v_b5, U.v_lend, U.v_retB, U.v_retBX, U.oNot, U.oAdd, U.oSub, U.oMul, U.oMulW, U.oDiv, U.oMod, U.oPow, U.oNeg, U.oLt, U.oLe, U.oGt, U.oGe, U.oEq, U.oNe, U.okD, U.D.eqv, U.eqvs, U.oNeScr, U.oIxScr, U.oLenScr, U.oIsN, U.oNotN, U.D.isN, U.oInS, U.oNotInS, U.oInQ, U.oNotInQ, U.D.flat, U.inD, U.oAddS, U.oMulS, U.oCatL, U.oRepL, U.oCatT, U.oRepT, U.oIxL, U.oIxT, U.oIxS, U.oLenS, U.oLenQ, U.oMax2, U.oMin2, U.oMax3, U.oAbs, U.oSum, U.oAll, U.oAny, U.intsD, U.boolsD, U.strsD, U.oInt, U.oStrI, U.oTupOf, U.oLstOf, U.oSlS, U.oSlL, U.oSlT, U.oRev, U.mkTup, U.mkLst, U.eIsi, U.oIsi, U.tyName, U.v_okPl, U.v_fldO, U.v_fldI, U.v_sfld, U.v_kFld, U.v_setFK, U.v_putFO, U.v_make, U.v_mkK, U.v_mkKX, U.v_mkKB, U.v_mkR, U.v_mkRX, U.v_meth, U.v_oIns, U.v_methO, U.v_isIO, U.v_propO, U.v_isI, U.v_plain, U.v_oProp, U.v_prK, U.v_oCon, U.v_conO, U.v_oFld, U.v_look, U.v_frzI, U.v_itAL, U.v_itAT, U.v_itEQL, U.v_itEQT, U.putNs, U.putDs, U.okPl, U.oIsiC, U.oIsi2, U.lookB, U.lookN, List.mem_cons, List.not_mem_nil, not_false_eq_true, U.v_eqC, U.v_neC, U.v_eqK, U.v_neK, U.v_bin, U.v_kB1, U.v_kB2, U.v_isIn, U.v_isInt, U.v_binI, U.v_kBI1, U.v_kBI2, U.v_valK, U.v_valKX, U.v_makeL, U.v_isC, U.v_ocall, U.v_fI, U.v_oInO, U.wipeE, U.at_0, U.at_1, U.at_2, U.at_3, U.at_neg, U.ix_0, U.ix_1, U.ix_2, List.map_cons, List.map_nil, List.length_cons, List.length_nil, List.length_map, List.length_append, List.getElem?_cons_zero, List.getElem?_cons_succ, List.getElem?_nil, List.cons_append, List.nil_append, List.append_nil, List.set_cons_zero, List.set_cons_succ, List.set_nil, List.all_cons, List.all_nil, List.any_cons, List.any_nil, List.reduceReplicate, List.take_succ_cons, List.take_zero, List.take_nil, Option.bind_some, Option.bind_none, Option.map_some, Option.map_none, Bool.and_true, Bool.true_and, Bool.and_false, Bool.false_and, Bool.or_true, Bool.true_or, Bool.or_false, Bool.false_or, Bool.not_true, Bool.not_false, Bool.not_not, Nat.reduceAdd, Nat.reduceLeDiff, Nat.reduceLT, Nat.zero_le, Nat.reduceEqDiff, Int.reducePow, Int.reduceToNat, Int.reduceNeg, Int.reduceLE, Int.reduceLT, Int.reduceAdd, Int.reduceSub, Int.reduceMul, Int.reduceEq, ite_true, ite_false, if_true, if_false, decide_true, decide_false, and_self, true_and, and_true, false_and, and_false, or_true, true_or, or_self, or_false, false_or, List.cons.injEq, reduceCtorEq, String.reduceEq, Bool.false_eq_true, Bool.true_eq_false, beq_self_eq_true, U.cap_le, U.small_lim, *])
local macro_rules | `(tactic| walk_at "fre") => `(tactic| simp only [U.FreL, U.fre_none, U.fre_own, U.fre_pl, U.m_non, U.m_bl, U.m_int, U.m_str, U.m_tup, U.m_lst, U.m_scr, U.m_ins, and_self, and_true, true_and, *])
namespace L2
open PySem PySem.Spec PyProof.Rows
section
variable {X : Cx} {k : Nat} {f C : Addr} {fd : FuncData} {ps : List Str} {sp : Sp} {E : St → XK} {a b : Expr} {pos : Pos} {ta tb : TE}
def tOSub (C : Addr) (sp : Sp) (E : St → XK) (ta tb : TE) : TE := fun σ H Q => ta σ H fun x H1 => tb σ H1 fun y H2 => (∃ a dx fs, x = .ref a ∧ H2 a = some (.ins C dx fs)) ∧ sp [x, y] H2 Q (E σ)
theorem pe_osub (F : FnOk X.prog X.w X.K X.mg X.base (L2.CX X.prog X.w) k f fd ps sp) (hs : PySem.W.findIn X.K (.ref C) "__getitem__" = some (some (.ref f))) (hf : PySem.W.isFn X.K (.ref f) = true) (hfn : PySem.W.fnIn X.K f = true)
    (hb : ∃ ds, Vals [] ds ∧ Binds X.K fd ps ds) (hr : Room (k + 1) X.A) (hx : ∀ σ, PassesAt (L2.CX X.prog X.w) X σ (E σ)) (h1 : PE X a ta) (h2 : PE X b tb)
    (hsl : ∀ v u, subscripted b true v u = runValue (.builtin "lifetime.subscript" ⟨[v, u], []⟩)) : PE X (.Subscript a b pos) (tOSub C sp E ta tb) := by
  obtain ⟨ds, hd, hb⟩ := hb
  refine ⟨fun pins s σ H Q I h => ?_⟩
  refine Subscript_ (binT h1 h2 I h fun v u s2 x y H2 I2 rx ry q => ?_)
  obtain ⟨⟨p, dx, fs, rfl, ha⟩, q⟩ := q
  cases rx
  obtain ⟨mA, J, _⟩ := ins_get I2.hok ha
  obtain ⟨od, J, _⟩ := J.look
  obtain ⟨m, hF⟩ := I2.fr
  refine PySem.W.sub_K hF I2.ok.mod.kin J hs hfn hf ?_ (hsl _ _)
  have r1 : Vals [V.ref p, y] [Value.ref p, u] := .cons rfl (.cons ry .nil)
  have r2 : Vals ([V.ref p, y] ++ []) ([Value.ref p, u] ++ ds) := r1.append hd
  have hl : ([Value.ref p, u] ++ ds).length = ps.length := by rw [← r2.length]; exact F.len _ _ _ _ q
  refine wpAny_call (codeAny_mono (F.run X.A.in1 X.stack s2 H2 ⟨[.ref p, u], []⟩ ([.ref p, u] ++ ds) ([.ref p, y] ++ []) Q (E σ) hr.in1 I2.env0.in1 (hb s2 [.ref p, u] I2.kIn hl) r2 q) fun r s' hq => ?_)
  cases r with
  | error e => exact hx σ pins H2 s2 e s' I2 hq
  | ok fl =>
    cases fl with
    | ret u => exact I2.after hq
    | next => exact False.elim hq
    | brk => exact False.elim hq
    | cont => exact False.elim hq
end
end L2
namespace U
open PySem PySem.Spec PyProof.Rows L2
def eOSub (c : String) (f : Fn) (a b : E) : E := eCall (fI c f) [.v (eUn (oIn c) a), .v b] []
def oCount : D → D → Option D
  | .str l, .str [c] => some (.int (l.count c : Nat))
  | _, _ => none
section
variable {K : PySem.W.Frag} {B : Bx} {F F' : Fz} {H H' : Hp} {W : WX} {σ : L2.St}
theorem w_osub {c : String} {f : Fn} {a b : E} (σ : L2.St) (H : Hp) (Q : VK) (h : tDM K B W (eOSub c f a b) σ H Q) : tOSub (He.ga K (Str.ofString c)) (spD K f) (WE W) (tDE K B W a) (tDE K B W b) σ H Q := by
  have h1 := w_gv σ H _ (w_call (dvs := []) (fun _ _ => by simp only [RVs]) σ H Q h)
  have h2 := w_un p_oIn σ H _ h1
  exact tDE_mono h2 fun v H1 q => tDE_mono (w_gv σ H1 _ q.2) fun u H2 z => fI_out (w_gnil σ H2 _ z)
end
section
variable {X : Cx} {B : Bx} {W : WX} {e : Expr} {st : Stmt} {f g : E}
theorem d_osub {c : String} {fn : Fn} (h : PE X e (tOSub (He.ga X.K (Str.ofString c)) (spD X.K fn) (WE W) (tDE X.K B W f) (tDE X.K B W g))) : DM X B W e (eOSub c fn f g) := h.weak w_osub
end
end U
namespace U
open PySem PySem.Spec PyProof.Rows L2
def eMove (i : Nat) : E := fun ρ => match ρ[i]? with
  | some (some (.own 0 d)) => .ok (.own 0 d) (ρ.set i none)
  | _ => .bad
def lookO : Option (Option D) → Option (List D)
  | some (some (.own 0 (.lst l))) => if allPlain l then some l else none
  | _ => none
def cmpO (o : D → D → Option D) (l : List D) (y : D) : Option Bool := match o (.lst l) y with
  | some (.bl r) => some r
  | _ => none
def eCmpO (i : Nat) (o : D → D → Option D) (b : E) : E := fun ρ => if (lookO ρ[i]?).isSome then (b ρ).bind fun y ρ1 => (match lookO ρ1[i]? with
  | some l => (match cmpO o l y with
    | some r => .ok (.bl r) ρ1
    | none => .bad)
  | none => .bad) else .bad
section
variable {K : PySem.W.Frag} {B : Bx} {F F' : Fz} {H H' : Hp} {W : WX} {σ : L2.St}
end
section
variable {X : Cx} {B : Bx} {W : WX} {e : Expr} {f g : E}
end
section
variable {K : PySem.W.Frag} {B : Bx} {F F' : Fz} {H H' : Hp} {W : WX} {σ : L2.St}
def tDAM (K : PySem.W.Frag) (B : Bx) (W : WX) (f : As) : TA := fun σ H Q => ∃ F ρ A, Rep K F H B σ ρ A ∧ match f ρ with
  | .ok ds ρ' => ∀ vs F' H' A' Ar, Rep K F' H' B σ ρ' A' → OVs K F' H' vs ds Ar → (A' ++ Ar).Nodup → (∀ a ∈ Ar, ¬ F' a) → Step A F H (A' ++ Ar) F' H' → Q vs H'
  | .exc x ρ' => xendE K B W σ A F H x ρ'
  | .bad => False
theorem Step.apart {A1 Ar1 A2 Ar2 : List Addr} {F1 F2 : Fz} {H1 H2 : Hp} (s2 : Step A1 F1 H1 (A2 ++ Ar2) F2 H2) : Step (A1 ++ Ar1) F1 H1 (A2 ++ (Ar1 ++ Ar2)) F2 H2 := by
  refine ⟨s2.mono, fun a o h n => s2.keep a o h fun z => n (List.mem_append_left _ z), fun a h => ?_, fun a h => ?_⟩
  · rcases s2.froz a h with q | q | q
    · exact .inl q
    · exact .inr (.inl q)
    · exact .inr (.inr (List.mem_append_left _ q))
  · simp only [List.mem_append] at h
    rcases h with h | h | h
    · rcases s2.own a (List.mem_append_left _ h) with q | q
      · exact .inl (List.mem_append_left _ q)
      · exact .inr q
    · exact .inl (List.mem_append_right _ h)
    · rcases s2.own a (List.mem_append_right _ h) with q | q
      · exact .inl (List.mem_append_left _ q)
      · exact .inr q
end
section
variable {X : Cx} {B : Bx} {W : WX} {e : Expr} {f g : E} {st : Stmt}
abbrev DAM (X : Cx) (B : Bx) (W : WX) (es : List Expr) (a : As) : Prop := PA X es (tDAM X.K B W a)
end
end U
namespace U
section
variable {i : Nat} {ρ : Env} {o : D → D → Option D} {b : E} {y d : D} {l : List D} {r : Bool} {k : Nat}
def moveK (i : Nat) (ρ : Env) (o : Option (Option D)) : ER := match o with
  | some (some (.own 0 d)) => .ok (.own 0 d) (ρ.set i none)
  | _ => .bad
theorem v_move : eMove i ρ = moveK i ρ ρ[i]? := id rfl
theorem v_moveK : moveK i ρ (some (some (.own 0 d))) = .ok (.own 0 d) (ρ.set i none) := id rfl
def cmpS (ρ : Env) (o : Option D) : ER := match o with
  | some (.bl r) => .ok (.bl r) ρ
  | _ => .bad
def cmpR (ρ : Env) (o : D → D → Option D) (y : D) (l : Option (List D)) : ER := match l with
  | some l => cmpS ρ (o (.lst l) y)
  | none => .bad
def kCmp (i : Nat) (o : D → D → Option D) : D → Env → ER := fun y ρ1 => cmpR ρ1 o y (lookO ρ1[i]?)
theorem v_cmpO : eCmpO i o b ρ = if (lookO ρ[i]?).isSome then (b ρ).bind (kCmp i o) else .bad := by
  unfold eCmpO
  congr 1
  congr 1
  funext y ρ1
  unfold kCmp cmpR
  cases lookO ρ1[i]? with
  | none => rfl
  | some l =>
    simp only [cmpO, cmpS]
    cases o (.lst l) y with
    | none => rfl
    | some d => cases d <;> rfl
theorem v_kCmp : kCmp i o y ρ = cmpR ρ o y (lookO ρ[i]?) := id rfl
theorem v_cmpR : cmpR ρ o y (some l) = cmpS ρ (o (.lst l) y) := id rfl
theorem v_cmpS : cmpS ρ (some (.bl r)) = .ok (.bl r) ρ := id rfl
theorem v_lookO (h : allPlain l = true) : lookO (some (some (.own 0 (.lst l)))) = some l := by simp [lookO, h]
end
end U
namespace U
open PySem PySem.Spec PyProof.Rows L2
def eXf2 (i : Nat) (c f1 f2 f : String) : E := fun ρ => match ρ[i]? with
  | some (some (.exn c' ns [d1, d2])) => if c' = c ∧ ns = [f1, f2] ∧ f1 ≠ f2 then (if f = f1 then .ok d1 ρ else if f = f2 then .ok d2 ρ else .bad) else .bad
  | _ => .bad
def gLst (gs : List Tg) : Tg := fun d ρ => match d with
  | .lst ds => gAll gs ds ρ
  | _ => none
def zipD : List D → List D → List D
  | a :: as, b :: bs => .tup [a, b] :: zipD as bs
  | _, _ => []
def itZ : List D → Option (List D)
  | [.tup a, .tup b] => some (zipD a b)
  | [.lst a, .lst b] => some (zipD a b)
  | _ => none
section
variable {K : PySem.W.Frag} {B : Bx} {F F' : Fz} {H H' : Hp} {W : WX} {σ : L2.St}
theorem zipD_get : ∀ {a b : List D} {i : Nat} {d : D}, (zipD a b)[i]? = some d → ∃ x y, a[i]? = some x ∧ b[i]? = some y ∧ d = .tup [x, y]
  | [], _, _, _, h => by simp [zipD] at h
  | _ :: _, [], _, _, h => by simp [zipD] at h
  | x :: a, y :: b, 0, d, h => by simp only [zipD, List.getElem?_cons_zero] at h; cases h; exact ⟨x, y, rfl, rfl, rfl⟩
  | x :: a, y :: b, i + 1, d, h => by simp only [zipD, List.getElem?_cons_succ] at h ⊢; exact zipD_get h
theorem zipD_len : ∀ {a b : List D}, (zipD a b).length = min a.length b.length
  | [], _ => by simp [zipD]
  | _ :: _, [] => by simp [zipD]
  | x :: a, y :: b => by simp only [zipD, List.length_cons, zipD_len (a := a) (b := b)]; omega
theorem yl_zipT {a b : Addr} {vs us : List V} {ds es : List D} (s : SqTF K F H a vs) (r : RVs K F H vs ds) (t : SqTF K F H b us) (q : RVs K F H us es) : Yl K (RZ.ItzT K a b) F H (zipD ds es) := fun F' H' m k => by
  have s' := (s.step m k).seq
  have r' := r.stay m k
  have t' := (t.step m k).seq
  have q' := q.stay m k
  refine ⟨fun i d e => ?_, fun i hi => ⟨vs, us, s', t', by rw [zipD_len] at hi; rw [r.len, q.len]; omega⟩⟩
  obtain ⟨x, y, ex, ey, rfl⟩ := zipD_get e
  obtain ⟨v, h1, h2⟩ := getElem?_RVs r' ex
  obtain ⟨u, h3, h4⟩ := getElem?_RVs q' ey
  refine ⟨⟨vs, us, v, u, s', t', h1, h3⟩, ?_⟩
  rintro y H'' ⟨T, z, z2, rfl, hT, rfl, hz, hz2⟩
  have e1 := hz vs s'
  have e2 := hz2 us t'
  rw [h1] at e1
  rw [h3] at e2
  cases e1
  cases e2
  exact ⟨_, Grow.new hT, RV.tup2 (.inr rfl) upd_same (h2.grow (Grow.new hT)) (h4.grow (Grow.new hT))⟩
theorem yl_zipL {a b : Addr} {vs us : List V} {ds es : List D} (s : SqLF K F H a vs) (r : RVs K F H vs ds) (t : SqLF K F H b us) (q : RVs K F H us es) : Yl K (Itz K a b) F H (zipD ds es) := fun F' H' m k => by
  have s' := (s.step m k).seq
  have r' := r.stay m k
  have t' := (t.step m k).seq
  have q' := q.stay m k
  refine ⟨fun i d e => ?_, fun i hi => ⟨vs, us, s', t', by rw [zipD_len] at hi; rw [r.len, q.len]; omega⟩⟩
  obtain ⟨x, y, ex, ey, rfl⟩ := zipD_get e
  obtain ⟨v, h1, h2⟩ := getElem?_RVs r' ex
  obtain ⟨u, h3, h4⟩ := getElem?_RVs q' ey
  refine ⟨⟨vs, us, v, u, s', t', h1, h3⟩, ?_⟩
  rintro y H'' ⟨T, z, z2, rfl, hT, rfl, hz, hz2⟩
  have e1 := hz vs s'
  have e2 := hz2 us t'
  rw [h1] at e1
  rw [h3] at e2
  cases e1
  cases e2
  exact ⟨_, Grow.new hT, RV.tup2 (.inr rfl) upd_same (h2.grow (Grow.new hT)) (h4.grow (Grow.new hT))⟩
theorem itZ_inv {l ds : List D} (h : itZ l = some ds) : (∃ a b, l = [.tup a, .tup b] ∧ ds = zipD a b) ∨ ∃ a b, l = [.lst a, .lst b] ∧ ds = zipD a b := by
  unfold itZ at h
  split at h
  · cases h; exact .inl ⟨_, _, rfl, rfl⟩
  · cases h; exact .inr ⟨_, _, rfl, rfl⟩
  · cases h
theorem w_izip {f : As} (σ : L2.St) (H : Hp) (R : It → Hp → Prop) (h : tDI K B W (iOfA itZ f) σ H R) : RZ.iZipA K (tDA K B W f) σ H R := by
  refine w_iofA h fun F H v d ds r e k => ?_
  rcases itZ_inv e with ⟨a, b, rfl, rfl⟩ | ⟨a, b, rfl, rfl⟩
  · obtain ⟨w, u, rfl, rw_, ru⟩ := r.two
    simp only [RV] at rw_ ru
    obtain ⟨p, vs, rfl, sq, rs⟩ := rw_
    obtain ⟨p2, us, rfl, sq2, rs2⟩ := ru
    exact ⟨p, p2, vs, us, rfl, .inr ⟨sq.seq, sq2.seq, k _ (yl_zipT sq rs sq2 rs2)⟩⟩
  · obtain ⟨w, u, rfl, rw_, ru⟩ := r.two
    simp only [RV] at rw_ ru
    obtain ⟨p, vs, rfl, sq, rs⟩ := rw_
    obtain ⟨p2, us, rfl, sq2, rs2⟩ := ru
    exact ⟨p, p2, vs, us, rfl, .inl ⟨sq.seq, sq2.seq, k _ (yl_zipL sq rs sq2 rs2)⟩⟩
end
section
variable {X : Cx} {B : Bx} {W : WX} {e tg : Expr} {f g : E} {st : Stmt} {a : As}
theorem i_zip (h : PI X tg e (RZ.iZipA X.K (tDA X.K B W a))) : DI X B W tg e (iOfA itZ a) := h.weak w_izip
end
section
variable {i : Nat} {ρ : Env} {c f1 f2 f : String} {d1 d2 d : D} {ds es : List D} {gs : List Tg}
def xf2K (c f1 f2 f : String) (ρ : Env) (o : Option (Option D)) : ER := match o with
  | some (some (.exn c' ns [d1, d2])) => if c' = c ∧ ns = [f1, f2] ∧ f1 ≠ f2 then (if f = f1 then .ok d1 ρ else if f = f2 then .ok d2 ρ else .bad) else .bad
  | _ => .bad
theorem v_xf2 : eXf2 i c f1 f2 f ρ = xf2K c f1 f2 f ρ ρ[i]? := id rfl
theorem v_xf2K (h : f1 ≠ f2) : xf2K c f1 f2 f ρ (some (some (.exn c [f1, f2] [d1, d2]))) = if f = f1 then .ok d1 ρ else if f = f2 then .ok d2 ρ else .bad := by simp [xf2K, h]
theorem v_glst : gLst gs (.lst ds) ρ = gAll gs ds ρ := id rfl
theorem v_itZT : itA itZ (.ok [.tup ds, .tup es] ρ) = .ok (zipD ds es) ρ := id rfl
theorem v_itZL : itA itZ (.ok [.lst ds, .lst es] ρ) = .ok (zipD ds es) ρ := id rfl
end
end U
namespace GQ
open PySem PySem.SeqAt
open AutoSeq1 (wpAny_loadPart')
open MeetsSeq MeetsSeq2 MeetsSeq3 SeqRoads2
section
variable {prog : Program} {w : World} {A : Around} {R : Result → Shared → Prop}
end
section
variable {prog : Program} {w : World} {A : Around} {E : Value → Shared → Prop} {s : Shared}
end
end GQ
namespace L2
open PySem PySem.Spec PyProof.Rows
section
variable {X : Cx} {n : Nat} {D : Eqv}
def rNeG (D : Eqv) : R2 := fun x y H Q => DList D x y H ∧ ∀ H', Ext H H' → Q (.bl false) H'
end
def rOwnI (C : Addr) (sp : Sp) : R2 := fun x y H Q => ∃ b dy gs, y = .ref b ∧ H b = some (.ins C dy gs) ∧ sp [y, x] H (fun v H' => ∃ r, v = .bl r ∧ Q (.bl r) H') (fun _ _ _ => False)
def rOwnNI (C : Addr) (sp : Sp) : R2 := fun x y H Q => ∃ b dy gs, y = .ref b ∧ H b = some (.ins C dy gs) ∧ sp [y, x] H (fun v H' => ∃ r, v = .bl r ∧ Q (.bl (!r)) H') (fun _ _ _ => False)
def tOwnB (C : Addr) (sp : Sp) (t : TE) : TT := fun σ H Q => t σ H fun x H1 => ∃ a dx fs, x = .ref a ∧ H1 a = some (.ins C dx fs) ∧ sp [x] H1 (fun v H' => ∃ r, v = .bl r ∧ Q r H') (fun _ _ _ => False)
def rOwnL (C : Addr) (sp : Sp) : List V → Hp → VK → Prop := fun xs H Q => ∃ a dx fs, xs = [.ref a] ∧ H a = some (.ins C dx fs) ∧ sp [.ref a] H (fun v H' => ∃ i, v = .int i ∧ 0 ≤ i ∧ i < 2 ^ 62 ∧ Q (.int i) H') (fun _ _ _ => False)
section
variable {X : Cx} {k : Nat} {C f : Addr} {fd : FuncData} {ps : List Str} {sp : Sp}
end
end L2
namespace U
open PySem PySem.Spec PyProof.Rows L2
def oInC (c : String) (f : Fn) : D → D → Option D
  | a, .ins c' ns ds => if c' = c then (match f [.ins c' ns ds, a] with
    | .ok (.bl r) _ => some (.bl r)
    | _ => none) else none
  | _, _ => none
def oNotInC (c : String) (f : Fn) : D → D → Option D
  | a, .ins c' ns ds => if c' = c then (match f [.ins c' ns ds, a] with
    | .ok (.bl r) _ => some (.bl (!r))
    | _ => none) else none
  | _, _ => none
def oBoolC (c : String) (f : Fn) : D → Option D
  | .ins c' ns ds => if c' = c then (match f [.ins c' ns ds] with
    | .ok (.bl r) _ => some (.bl r)
    | _ => none) else none
  | _ => none
def oLenC (c : String) (f : Fn) : List D → Option D
  | [.ins c' ns ds] => if c' = c then (match f [.ins c' ns ds] with
    | .ok (.int i) _ => if 0 ≤ i ∧ i < 4611686018427387904 then some (.int i) else none
    | _ => none) else none
  | _ => none
def eqPrs (c : String) (f : Fn) : List D → List D → Bool
  | [], [] => true
  | a :: as, b :: bs => isIn c a && isIn c b && (match f [a, b] with
    | .ok (.bl true) _ => true
    | _ => false) && eqPrs c f as bs
  | _, _ => false
def oNeI (c : String) (f : Fn) : D → D → Option D
  | .lst as, .lst bs => if eqPrs c f as bs then some (.bl false) else none
  | _, _ => none
section
variable {K : PySem.W.Frag} {B : Bx} {F F' : Fz} {H H' : Hp} {W : WX} {σ : L2.St}
def PND (K : PySem.W.Frag) (o : List D → Option D) (r : List V → Hp → VK → Prop) : Prop := ∀ (F : Fz) (H : Hp) (xs : List V) (ds : List D) (d : D) (Q : VK), (∀ a, F a → ∃ o, H a = some o) → RVs K F H xs ds → o ds = some d → (∀ v F' H', Grow F H F' H' → RV K F' H' v d → Q v H') → r xs H Q
def EqR (K : PySem.W.Frag) (f : Fn) : Addr → Addr → Hp → Prop := fun a b H => ∃ (F : Fz) (da db : D) (o : Env), (∀ a, F a → ∃ o, H a = some o) ∧ RV K F H (.ref a) da ∧ RV K F H (.ref b) db ∧ f [da, db] = .ok (.bl true) o
end
section
variable {X : Cx} {B : Bx} {W : WX} {e : Expr} {f g : E} {st : Stmt} {a : As} {k : Nat} {C fa : Addr} {fd : FuncData} {ps : List Str}
end
section
variable {c : String} {fn : Fn} {ns : List String} {ds as bs : List D} {a : D} {o : Env} {r : Bool} {i : Int}
def blK : ER → Option D
  | .ok (.bl r) _ => some (.bl r)
  | _ => none
def nblK : ER → Option D
  | .ok (.bl r) _ => some (.bl (!r))
  | _ => none
def inK : ER → Option D
  | .ok (.int i) _ => if 0 ≤ i ∧ i < 4611686018427387904 then some (.int i) else none
  | _ => none
theorem v_inC : oInC c fn a (.ins c ns ds) = blK (fn [.ins c ns ds, a]) := by simp only [oInC, if_true]; rfl
theorem v_notInC : oNotInC c fn a (.ins c ns ds) = nblK (fn [.ins c ns ds, a]) := by simp only [oNotInC, if_true]; rfl
theorem v_boolC : oBoolC c fn (.ins c ns ds) = blK (fn [.ins c ns ds]) := by simp only [oBoolC, if_true]; rfl
theorem v_lenC : oLenC c fn [.ins c ns ds] = inK (fn [.ins c ns ds]) := by simp only [oLenC, if_true]; rfl
theorem v_blK : blK (.ok (.bl r) o) = some (.bl r) := id rfl
theorem v_nblK : nblK (.ok (.bl r) o) = some (.bl (!r)) := id rfl
theorem v_inK (h : 0 ≤ i ∧ i < 4611686018427387904) : inK (.ok (.int i) o) = some (.int i) := by simp [inK, h]
theorem v_neI (h : eqPrs c fn as bs = true) : oNeI c fn (.lst as) (.lst bs) = some (.bl false) := by simp [oNeI, h]
theorem v_prs0 : eqPrs c fn [] [] = true := id rfl
def trK : ER → Bool
  | .ok (.bl true) _ => true
  | _ => false
theorem v_prs {b : D} : eqPrs c fn (a :: as) (b :: bs) = (isIn c a && isIn c b && trK (fn [a, b]) && eqPrs c fn as bs) := by
  simp only [eqPrs]; rfl
theorem v_trK : trK (.ok (.bl true) o) = true := id rfl
end
end U
local macro_rules | `(tactic| walk_at "evx") => `(tactic| simp only [U.v_bind, U.v_kOp2, U.v_kOp1, U.v_kUn, U.v_kA2, U.v_kA1, U.v_kN, U.v_kC2, U.v_kC1, U.v_kFrz, U.v_kApp, U.v_kIx, U.v_kPO2, U.v_kPO1, U.v_kSl, U.v_kDrop, U.v_kSet, U.v_kAsg, U.v_kPut, U.v_kAug, U.v_cl0, U.v_cl1, U.v_clG, U.v_clT, U.v_clF, U.v_clE, U.v_bindX, U.v_bindB, U.v_binds, U.v_bindsX, U.v_bindsB, U.v_bindA, U.v_bindAX, U.v_bindAB, U.v_abind, U.v_abindX, U.v_abindB, U.v_abindA, U.v_abindAX, U.v_abindAB, U.v_nx, U.v_rt, U.v_bk, U.v_ct, U.v_ex, U.v_bad, U.v_c, U.v_var, U.v_some, U.v_none, U.v_rd, U.v_rdN, U.m_non, U.m_bl, U.m_int, U.m_str, U.m_tup, U.m_lst, U.m_scr, U.m_ins, U.v_op, U.v_un, U.v_anil, U.v_acons, U.v_n, U.v_and, U.v_andT, U.v_andF, U.v_or, U.v_orT, U.v_orF, U.v_ife, U.v_ifeT, U.v_ifeF, U.v_ch, U.v_chT, U.v_chF, U.v_frz, U.v_frzP, U.v_frzL, U.v_plN, U.v_plC, U.v_give, U.v_giveO, U.v_giveP, U.v_isOL, U.v_app, U.v_appL, U.v_ixO, U.v_ixL, U.v_putO, U.v_putL, U.v_lenO, U.v_lenL, U.v_ms, U.v_msS, U.v_sl, U.v_sl1, U.v_sl2, U.v_part0, U.v_part, U.v_partI, U.v_seq, U.v_nil, U.v_ret, U.v_retN, U.v_drop, U.v_bkS, U.v_ctS, U.v_if, U.v_ifT, U.v_ifF, U.v_toS, U.v_set, U.v_asg, U.v_put, U.v_putN, U.v_putP, U.v_putOwn, U.v_putV, U.v_putF, U.fre_none, U.fre_own, U.fre_pl, U.pln_none, U.pln_some, U.v_gvar, U.v_gtup, U.v_gnil, U.v_gcons, U.v_par, U.v_parO, U.v_pa0, U.v_pa1, U.v_aug, U.v_augS, U.v_iof, U.v_itL, U.v_itT, U.v_itS, U.v_ioa, U.v_itR1, U.v_itR2, U.v_itES, U.v_itEL, U.v_for, U.v_forO, U.v_fl0, U.v_fl1, U.v_fkN, U.v_fkC, U.v_fkB, U.v_fkR, U.v_fkX, U.v_cp, U.v_cpO, U.v_cpB, U.v_raise, U.v_rsO, U.v_try, U.v_tryN, U.v_tryX, U.v_tryR, U.v_tryB, U.v_tryC, U.v_fn, U.v_fnR, U.v_fnN, U.v_fnX, U.v_ag0, U.v_agV, U.v_agO, U.v_agX, U.v_agB, U.v_agBO, U.v_agK, U.v_call, U.v_callX, U.v_call0, U.v_call1, U.v_call2, U.v_call3, U.v_call4, U.v_ret0, U.v_ret1, U.v_ret2, U.v_ret3, U.v_ret4, U.v_retX0, U.v_retX1, U.v_retX2, U.v_retX3, U.v_retX4, U.v_b1, U.v_b2, U.v_b3, U.v_b4, U.v_b5, U.v_lend, U.v_retB, U.v_retBX, U.oNot, U.oAdd, U.oSub, U.oMul, U.oMulW, U.oDiv, U.oMod, U.oPow, U.oNeg, U.oLt, U.oLe, U.oGt, U.oGe, U.oEq, U.oNe, U.okD, U.D.eqv, U.eqvs, U.oNeScr, U.oIxScr, U.oLenScr, U.oIsN, U.oNotN, U.D.isN, U.oInS, U.oNotInS, U.oInQ, U.oNotInQ, U.D.flat, U.inD, U.oAddS, U.oMulS, U.oCatL, U.oRepL, U.oCatT, U.oRepT, U.oIxL, U.oIxT, U.oIxS, U.oLenS, U.oLenQ, U.oMax2, U.oMin2, U.oMax3, U.oAbs, U.oSum, U.oAll, U.oAny, U.intsD, U.boolsD, U.strsD, U.oInt, U.oStrI, U.oTupOf, U.oLstOf, U.oSlS, U.oSlL, U.oSlT, U.oRev, U.mkTup, U.mkLst, U.eIsi, U.oIsi, U.tyName, U.v_okPl, U.v_fldO, U.v_fldI, U.v_sfld, U.v_kFld, U.v_setFK, U.v_putFO, U.v_make, U.v_mkK, U.v_mkKX, U.v_mkKB, U.v_mkR, U.v_mkRX, U.v_meth, U.v_oIns, U.v_methO, U.v_isIO, U.v_propO, U.v_isI, U.v_plain, U.v_oProp, U.v_prK, U.v_oCon, U.v_conO, U.v_oFld, U.v_look, U.v_frzI, U.v_itAL, U.v_itAT, U.v_itEQL, U.v_itEQT, U.putNs, U.putDs, U.okPl, U.oIsiC, U.oIsi2, U.lookB, U.lookN, List.mem_cons, List.not_mem_nil, not_false_eq_true, U.v_eqC, U.v_neC, U.v_eqK, U.v_neK, U.v_bin, U.v_kB1, U.v_kB2, U.v_isIn, U.v_isInt, U.v_binI, U.v_kBI1, U.v_kBI2, U.v_valK, U.v_valKX, U.v_makeL, U.v_isC, U.v_ocall, U.v_fI, U.v_oInO, U.wipeE, U.at_0, U.at_1, U.at_2, U.at_3, U.at_neg, U.ix_0, U.ix_1, U.ix_2, List.map_cons, List.map_nil, List.length_cons, List.length_nil, List.length_map, List.length_append, List.getElem?_cons_zero, List.getElem?_cons_succ, List.getElem?_nil, List.cons_append, List.nil_append, List.append_nil, List.set_cons_zero, List.set_cons_succ, List.set_nil, List.all_cons, List.all_nil, List.any_cons, List.any_nil, List.reduceReplicate, List.take_succ_cons, List.take_zero, List.take_nil, Option.bind_some, Option.bind_none, Option.map_some, Option.map_none, Bool.and_true, Bool.true_and, Bool.and_false, Bool.false_and, Bool.or_true, Bool.true_or, Bool.or_false, Bool.false_or, Bool.not_true, Bool.not_false, Bool.not_not, Nat.reduceAdd, Nat.reduceLeDiff, Nat.reduceLT, Nat.zero_le, Nat.reduceEqDiff, Int.reducePow, Int.reduceToNat, Int.reduceNeg, Int.reduceLE, Int.reduceLT, Int.reduceAdd, Int.reduceSub, Int.reduceMul, Int.reduceEq, ite_true, ite_false, if_true, if_false, decide_true, decide_false, and_self, true_and, and_true, false_and, and_false, or_true, true_or, or_self, or_false, false_or, List.cons.injEq, reduceCtorEq, String.reduceEq, Bool.false_eq_true, Bool.true_eq_false, beq_self_eq_true, U.cap_le, U.small_lim, U.v_move, U.v_moveK, U.v_cmpO, U.v_kCmp, U.v_cmpR, U.v_cmpS, U.v_lookO, Option.isSome_some, U.v_xf2, U.v_xf2K, U.v_glst, U.v_itZT, U.v_itZL, ne_eq, U.v_inC, U.v_notInC, U.v_boolC, U.v_lenC, U.v_blK, U.v_nblK, U.v_inK, U.v_neI, U.v_prs0, U.v_prs, U.v_trK, *])
namespace U
noncomputable def body_law_draws : St := (sSeq (sSet 2 (eC (.int 0)))
    (sSeq (sIf (eOp oNeScr (eVar 0) (eFrz (eN mkLst aNil)))
    (sSet 2 (eOp oIxScr (eVar 0) (eOp oMod (eVar 1) (eN oLenScr (aCons (eVar 0) aNil)))))
    sNil)
    (sSeq (sIf (eOp oGe (eVar 1) (eN oLenScr (aCons (eVar 0) aNil)))
    (sSet 2 (eOp oMod (eVar 2) (eC (.int 1000003))))
    sNil)
    (sSeq (sSet 3 (eOp oMod (eOp oMul (eOp oAdd (eOp oAdd (eOp oMod (eVar 2) (eC (.int 2147483629))) (eOp oMul (eC (.int 104729)) (eVar 1))) (eC (.int 11))) (eC (.int 48271))) (eC (.int 2147483647))))
    (sRet (eN mkLst (aCons (eOp oMul (eVar 2) (eN oInt (aCons (eOp oGe (eVar 2) (eOp oPow (eC (.int 10)) (eC (.int 18)))) aNil))) (aCons (eVar 3) aNil))))))))
noncomputable def fn_law_draws : Fn := fnOf 2 2 body_law_draws
noncomputable def body_law_draw : St := (sSeq (sIf (eOp oGt (eIxO 0 (eC (.int 0))) (eC (.int 0)))
    (sSeq (sSet 2 (eOp oMod (eIxO 0 (eC (.int 0))) (eVar 1)))
    (sSeq (sPutO 0 (eC (.int 0)) (eOp oDiv (eIxO 0 (eC (.int 0))) (eVar 1)))
    (sRet (eVar 2))))
    sNil)
    (sSeq (sPutO 0 (eC (.int 1)) (eOp oMod (eOp oAdd (eOp oMul (eIxO 0 (eC (.int 1))) (eC (.int 48271))) (eC (.int 11))) (eC (.int 2147483647))))
    (sRet (eOp oMod (eOp oDiv (eOp oMod (eOp oMul (eIxO 0 (eC (.int 1))) (eIxO 0 (eC (.int 1)))) (eC (.int 2147483629))) (eC (.int 64))) (eVar 1)))))
noncomputable def fn_law_draw : Fn := fnOf 2 1 body_law_draw
noncomputable def body_law_letter : St := (sRet (eOp oIxS (eC (.str [97, 98, 99, 120, 121, 122])) (eFrz (eCall fn_law_draw [.b 0, .v (eC (.int 6))] []))))
noncomputable def fn_law_letter : Fn := fnOf 1 0 body_law_letter
noncomputable def body_law_sequence : St := (sSeq (sSet 2 (eN mkLst aNil))
    (sSeq (sSet 3 (eOp oAdd (eC (.int 1)) (eFrz (eCall fn_law_draw [.b 0, .v (eC (.int 4))] []))))
    (sSeq (sFor (iOfA itR (aCons (eFrz (eCall fn_law_draw [.b 0, .v (eOp oAdd (eVar 1) (eC (.int 1)))] [])) aNil)) (gVar 4)
    (sDrop (eApp 2 (eOp oIxL (eFrz (eN mkLst (aCons (eFrz (eCall fn_law_letter [.b 0] [])) (aCons (eC (.str [45])) aNil)))) (eN oInt (aCons (eOp oLt (eFrz (eCall fn_law_draw [.b 0, .v (eC (.int 5))] [])) (eVar 3)) aNil))))))
    (sRet (eMs oJoin (eC (.str [])) (eGive 2))))))
noncomputable def fn_law_sequence : Fn := fnOf 2 3 body_law_sequence
noncomputable def fn_law_program : Nat → Fn
  | 0 => fun _ => .bad
  | n + 1 => fnOf 2 7 (sSeq (sAsg (eN mkTup (aCons (eC (.str [])) (aCons (eC (.str [])) aNil))) (gTup [(gVar 2), (gVar 3)]))
    (sSeq (sFor (iOfA itR (aCons (eOp oAdd (eC (.int 1)) (eFrz (eCall fn_law_draw [.b 0, .v (eC (.int 3))] []))) aNil)) (gVar 4)
    (sSeq (sSet 5 (eFrz (eCall fn_law_sequence [.b 0, .v (eC (.int 3))] [])))
    (sSeq (sPar [2, 3] (aCons (eOp oAddS (eVar 2) (eVar 5)) (aCons (eOp oAddS (eVar 3) (eVar 5)) aNil)))
    (sIf (eAnd (eOp oGt (eVar 1) (eC (.int 0))) (eOp oEq (eFrz (eCall fn_law_draw [.b 0, .v (eC (.int 2))] [])) (eC (.int 0))))
    (sSeq (sAsg (eFrz (eCall (fn_law_program n) [.b 0, .v (eOp oSub (eVar 1) (eC (.int 1)))] [])) (gTup [(gVar 6), (gVar 7)]))
    (sSeq (sSet 8 (eFrz (eCall fn_law_draw [.b 0, .v (eC (.int 5))] [])))
    (sSeq (sSet 2 (eOp oAddS (eOp oAddS (eOp oAddS (eOp oAddS (eVar 2) (eC (.str [40]))) (eVar 6)) (eC (.str [41]))) (eN oStrI (aCons (eVar 8) aNil))))
    (sSet 3 (eOp oAddS (eVar 3) (eOp oMulS (eVar 7) (eVar 8)))))))
    sNil))))
    (sRet (eN mkTup (aCons (eVar 2) (aCons (eVar 3) aNil))))))
noncomputable def body_law_run : St := (sSeq (sAsg (eN mkTup (aCons (eC (.str [])) (aCons (eC (.str [])) aNil))) (gTup [(gVar 4), (gVar 5)]))
    (sSeq (sFor (iOfA itES (aCons (eVar 1) aNil)) (gTup [(gVar 6), (gVar 7)])
    (sIf (eOp oEq (eVar 7) (eC (.str [45])))
    (sSeq (sIf (eOp oEq (eVar 0) (eC (.str [])))
    (sRet (eFrz (eN mkLst (aCons (eC (.str [102, 97, 105, 108, 101, 100])) (aCons (eVar 6) aNil)))))
    sNil)
    (sPar [4, 0] (aCons (eOp oAddS (eVar 4) (eOp oIxS (eVar 0) (eC (.int 0)))) (aCons (eSl oSlS (eVar 0) (some (eC (.int 1))) none) aNil))))
    (sIf (eOp oLt (eN oLenS (aCons (eVar 0) aNil)) (eVar 2))
    (sSet 0 (eOp oAddS (eVar 0) (eVar 7)))
    (sIf (eOp oEq (eVar 3) (eC (.str [111, 108, 100, 101, 115, 116])))
    (sPar [5, 0] (aCons (eOp oAddS (eVar 5) (eOp oIxS (eVar 0) (eC (.int 0)))) (aCons (eOp oAddS (eSl oSlS (eVar 0) (some (eC (.int 1))) none) (eVar 7)) aNil)))
    (sIf (eOp oEq (eVar 3) (eC (.str [110, 101, 119, 101, 115, 116])))
    (sSet 5 (eOp oAddS (eVar 5) (eVar 7)))
    (sRet (eFrz (eN mkLst (aCons (eC (.str [102, 97, 105, 108, 101, 100])) (aCons (eVar 6) aNil))))))))))
    (sRet (eFrz (eN mkLst (aCons (eC (.str [100, 111, 110, 101])) (aCons (eVar 0) (aCons (eVar 4) (aCons (eVar 5) aNil)))))))))
noncomputable def fn_law_run : Fn := fnOf 4 4 body_law_run
end U
namespace U
def Pool (p : D) : Prop := ∃ a b : Int, p = .lst [.int a, .int b] ∧ 0 ≤ a ∧ 0 ≤ b ∧ b < 2147483647
def outP (r : ER) : D := match r with
  | .ok _ (some (.own _ p) :: _) => p
  | _ => .non
def outV (r : ER) : D := match r with
  | .ok d _ => d
  | _ => .non
noncomputable def drawR (p : D) (n : Int) : ER := fn_law_draw [.own 1 p, .int n]
noncomputable def drawV (p : D) (n : Int) : Int := match outV (drawR p n) with
  | .int r => r
  | _ => 0
noncomputable def drawP (p : D) (n : Int) : D := outP (drawR p n)
theorem draw_all {p : D} {n : Int} (hp : Pool p) (h1 : 1 ≤ n) (h2 : n.natAbs < lim4k) : drawR p n = .ok (.int (drawV p n)) [some (.own 1 (drawP p n)), some (.int n)] ∧ Pool (drawP p n) ∧ 0 ≤ drawV p n ∧ drawV p n < n := by
  obtain ⟨a, b, rfl, ha, hb, hb2⟩ := hp
  have key : ∃ (r a' b' : Int), drawR (.lst [.int a, .int b]) n = .ok (.int r) [some (.own 1 (.lst [.int a', .int b'])), some (.int n)] ∧ 0 ≤ r ∧ r < n ∧ 0 ≤ a' ∧ 0 ≤ b' ∧ b' < 2147483647 := by
    have hn : 0 < n := by omega
    unfold drawR fn_law_draw body_law_draw
    by_cases c : 0 < a
    · walk_at "evh"
      refine ⟨a % n, a / n, b, rfl, Int.emod_nonneg _ (by omega), Int.emod_lt_of_pos _ hn, Int.ediv_nonneg ha (by omega), hb, hb2⟩
    · walk_at "evh"
      have m1 := Int.emod_nonneg (b * 48271 + 11) (show (2147483647 : Int) ≠ 0 by decide)
      have m2 := Int.emod_lt_of_pos (b * 48271 + 11) (show (0 : Int) < 2147483647 by decide)
      have q1 : b.natAbs < 18446744073709551616 := by omega
      have q2 : ((b * 48271 + 11) % 2147483647).natAbs < 18446744073709551616 := by omega
      have q3 : (64 : Int).natAbs < lim4k := by unfold lim4k; exact Nat.lt_of_lt_of_le (show 64 < 2 ^ 7 by decide) (Nat.pow_le_pow_right (by decide) (by decide))
      walk_at "evh"
      exact ⟨_, _, _, rfl, Int.emod_nonneg _ (by omega), Int.emod_lt_of_pos _ hn, ha, m1, m2⟩
  obtain ⟨r, a', b', e, h3, h4, h5, h6, h7⟩ := key
  have eV : drawV (.lst [.int a, .int b]) n = r := by unfold drawV; rw [e]; rfl
  have eP : drawP (.lst [.int a, .int b]) n = .lst [.int a', .int b'] := by unfold drawP; rw [e]; rfl
  rw [eV, eP]
  exact ⟨e, ⟨a', b', rfl, h5, h6, h7⟩, h3, h4⟩
theorem lim_of {n : Int} (h1 : 1 ≤ n) (h2 : n ≤ 1000000000000000000000000000000) : n.natAbs < lim4k := by
  have h : n.natAbs < 2 ^ 100 := Nat.lt_of_le_of_lt (m := 1000000000000000000000000000000) (by omega) (by decide)
  exact Nat.lt_of_lt_of_le h (Nat.pow_le_pow_right (by decide) (by decide))
theorem f_draw {p : D} {n : Int} (hp : Pool p) (h1 : 1 ≤ n) (h2 : n ≤ 1000000000000000000000000000000) : fn_law_draw [.own 1 p, .int n] = .ok (.int (drawV p n)) [some (.own 1 (drawP p n)), some (.int n)] := (draw_all hp h1 (lim_of h1 h2)).1
theorem pool_draw {p : D} {n : Int} (hp : Pool p) (h1 : 1 ≤ n) (h2 : n ≤ 1000000000000000000000000000000) : Pool (drawP p n) := (draw_all hp h1 (lim_of h1 h2)).2.1
theorem draw_lo {p : D} {n : Int} (hp : Pool p) (h1 : 1 ≤ n) (h2 : n ≤ 1000000000000000000000000000000) : 0 ≤ drawV p n := (draw_all hp h1 (lim_of h1 h2)).2.2.1
theorem draw_hi {p : D} {n : Int} (hp : Pool p) (h1 : 1 ≤ n) (h2 : n ≤ 1000000000000000000000000000000) : drawV p n < n := (draw_all hp h1 (lim_of h1 h2)).2.2.2
noncomputable def letC (p : D) : Nat := ([97, 98, 99, 120, 121, 122] : List Nat)[(drawV p 6).toNat]?.getD 0
theorem pick {α : Type} {l : List α} {p : D} {n : Int} (hp : Pool p) (h1 : 1 ≤ n) (h2 : n ≤ 1000000000000000000000000000000) (hl : (l.length : Int) = n) : ∃ x, atD l (drawV p n) = some x ∧ x ∈ l := by
  have a := draw_lo hp h1 h2
  have b := draw_hi hp h1 h2
  obtain ⟨j, hj⟩ : ∃ j : Nat, drawV p n = j := ⟨(drawV p n).toNat, by omega⟩
  rw [hj, atD_nat]
  have : j < l.length := by omega
  exact ⟨l[j], List.getElem?_eq_getElem this, List.getElem_mem this⟩
theorem let_at {p : D} (hp : Pool p) : atD ([97, 98, 99, 120, 121, 122] : List Nat) (drawV p 6) = some (letC p) ∧ letC p ∈ ([97, 98, 99, 120, 121, 122] : List Nat) := by
  have a := draw_lo hp (n := 6) (by decide) (by decide)
  obtain ⟨x, h1, h2⟩ := pick (l := ([97, 98, 99, 120, 121, 122] : List Nat)) hp (n := 6) (by decide) (by decide) rfl
  have : letC p = x := by
    unfold letC
    rw [show drawV p 6 = ((drawV p 6).toNat : Int) by omega, atD_nat] at h1
    rw [h1]; rfl
  rw [this]
  exact ⟨h1, h2⟩
theorem f_letter {p : D} (hp : Pool p) : fn_law_letter [.own 1 p] = .ok (.str [letC p]) [some (.own 1 (drawP p 6))] := by
  have h1 := f_draw (n := 6) hp (by decide) (by decide)
  have h2 := (let_at hp).1
  unfold fn_law_letter body_law_letter
  walk_at "evh"
abbrev sg (c : Nat) : D := .str [c]
def sgs : List Nat := [97, 98, 99, 120, 121, 122, 45]
noncomputable def seqB : St := sDrop (eApp 2 (eOp oIxL (eFrz (eN mkLst (aCons (eFrz (eCall fn_law_letter [.b 0] [])) (aCons (eC (.str [45])) aNil)))) (eN oInt (aCons (eOp oLt (eFrz (eCall fn_law_draw [.b 0, .v (eC (.int 5))] [])) (eVar 3)) aNil))))
noncomputable def seqR (p : D) (m : Int) : ER := fn_law_sequence [.own 1 p, .int m]
def strV (d : D) : List Nat := match d with
  | .str l => l
  | _ => []
noncomputable def seqV (p : D) (m : Int) : List Nat := strV (outV (seqR p m))
noncomputable def seqP (p : D) (m : Int) : D := outP (seqR p m)
end U
namespace U
noncomputable def poolR (ns : List Int) (k : Int) : ER := fn_law_draws [.scr ns, .int k]
noncomputable def poolOf (ns : List Int) (k : Int) : D := match outV (poolR ns k) with
  | .own _ p => p
  | _ => .non
def wMost : Nat → Nat
  | 0 => 9
  | n + 1 => 9 + 12 * wMost n
def tMost : Nat → Nat
  | 0 => 9
  | n + 1 => 9 + 3 * (tMost n + 3)
noncomputable def prgB (f : Fn) : St := (sSeq (sSet 5 (eFrz (eCall fn_law_sequence [.b 0, .v (eC (.int 3))] [])))
    (sSeq (sPar [2, 3] (aCons (eOp oAddS (eVar 2) (eVar 5)) (aCons (eOp oAddS (eVar 3) (eVar 5)) aNil)))
    (sIf (eAnd (eOp oGt (eVar 1) (eC (.int 0))) (eOp oEq (eFrz (eCall fn_law_draw [.b 0, .v (eC (.int 2))] [])) (eC (.int 0))))
    (sSeq (sAsg (eFrz (eCall f [.b 0, .v (eOp oSub (eVar 1) (eC (.int 1)))] [])) (gTup [(gVar 6), (gVar 7)]))
    (sSeq (sSet 8 (eFrz (eCall fn_law_draw [.b 0, .v (eC (.int 5))] [])))
    (sSeq (sSet 2 (eOp oAddS (eOp oAddS (eOp oAddS (eOp oAddS (eVar 2) (eC (.str [40]))) (eVar 6)) (eC (.str [41]))) (eN oStrI (aCons (eVar 8) aNil))))
    (sSet 3 (eOp oAddS (eVar 3) (eOp oMulS (eVar 7) (eVar 8)))))))
    sNil)))
def PrgOk (f : Fn) (m : Nat) : Prop := ∀ p, Pool p → ∃ tx fl p', f [.own 1 p, .int (m : Nat)] = .ok (.tup [.str tx, .str fl]) [some (.own 1 p'), some (.int (m : Nat))] ∧ Pool p' ∧ Q.Spells m tx fl ∧ tx.length ≤ tMost m ∧ fl.length ≤ wMost m
noncomputable def prgR (p : D) (m : Int) : ER := fn_law_program 4 [.own 1 p, .int m]
def tupV (d : D) (i : Nat) : D := match d with
  | .tup l => l[i]?.getD .non
  | _ => .non
noncomputable def prgT (p : D) (m : Int) : List Nat := strV (tupV (outV (prgR p m)) 0)
noncomputable def prgW (p : D) (m : Int) : List Nat := strV (tupV (outV (prgR p m)) 1)
noncomputable def prgP (p : D) (m : Int) : D := outP (prgR p m)
end U
namespace U
theorem for_at {g : Tg} {b : St} {lo : Int} (I : Nat → Env → Prop) : ∀ (n k : Nat) {ρ : Env}, (∀ i, k ≤ i → i < k + n → ∀ ρ, I i ρ → ∃ ρ', (toFl (g (.int (lo + (i : Nat))) ρ)).bind b = .nx ρ' ∧ I (i + 1) ρ') → I k ρ → ∃ ρ', forL g b ((List.range' k n).map fun (i : Nat) => D.int (lo + i)) ρ = .nx ρ' ∧ I (k + n) ρ'
  | 0, k, ρ, _, h => ⟨ρ, rfl, h⟩
  | n + 1, k, ρ, ht, h => by
    obtain ⟨ρ1, e, h1⟩ := ht k (Nat.le_refl _) (by omega) ρ h
    obtain ⟨ρ2, e2, h2⟩ := for_at (g := g) (b := b) (lo := lo) I n (k + 1) (fun i a c => ht i (by omega) (by omega)) h1
    refine ⟨ρ2, ?_, by rw [show k + (n + 1) = k + 1 + n by omega]; exact h2⟩
    rw [List.range'_succ, List.map_cons, v_fl1, e, v_fkN, e2]
theorem for_rng {g : Tg} {b : St} {lo : Int} {n : Nat} (I : Nat → Env → Prop) {ρ : Env} (ht : ∀ i, i < n → ∀ ρ, I i ρ → ∃ ρ', (toFl (g (.int (lo + (i : Nat))) ρ)).bind b = .nx ρ' ∧ I (i + 1) ρ') (h : I 0 ρ) : ∃ ρ', forL g b (rangeD lo n) ρ = .nx ρ' ∧ I n ρ' := by
  have := for_at (g := g) (b := b) (lo := lo) I n 0 (ρ := ρ) (fun i _ c => ht i (by omega)) h
  rw [← List.range_eq_range', Nat.zero_add] at this
  exact this
def Okv (v : Option D) : Prop := ∀ d, v = some d → d.isMut = false
theorem okv_some {d : D} (h : d.isMut = false) : Okv (some d) := fun e z => by cases z; exact h
theorem okv_none : Okv none := fun e z => by cases z
theorem put_ok {i : Nat} {d : D} {ρ : Env} {v : Option D} (h : ρ[i]? = some v) (hv : Okv v) : put i d ρ = some (ρ.set i (some d)) := by
  unfold put
  rw [h]
  cases v with
  | none => rfl
  | some e =>
    have := hv e rfl
    cases e with
    | own t d => cases this
    | _ => rfl
def Oko (v : Option D) : Prop := v = none ∨ ∃ p, v = some (.own 0 p)
def cellN (m : Int) (ns : List Int) : Int := if (if ((ns.length : Nat) : Int) < m then ((ns.length : Nat) : Int) else m) > 1 then (if ((ns.length : Nat) : Int) < m then ((ns.length : Nat) : Int) else m) else 1
theorem cells_for {m : Int} (hm : m ≤ 1000) {i : Nat} {g : Tg} {b : St} {ns : List Int} {ρ : Env} (h : ρ[i]? = some (some (.scr ns))) : sFor (iOfA itR (aCons (eN oMax2 (aCons (eC (.int 1)) (aCons (eN oMin2 (aCons (eC (.int m)) (aCons (eN oLenScr (aCons (eVar i) aNil)) aNil))) aNil))) aNil)) g b ρ = forL g b (rangeD 0 (cellN m ns).toNat) ρ ∧ (cellN m ns).toNat ≤ 1000 := by
  have hb : cellN m ns ≤ 1000 := by unfold cellN; split <;> split <;> omega
  have hb2 : 1 ≤ cellN m ns := by unfold cellN; split <;> split <;> omega
  have hR : okR (cellN m ns) = true := by unfold okR; refine decide_eq_true (by omega)
  refine ⟨?_, by omega⟩
  have e1 : eVar i ρ = .ok (.scr ns) ρ := by unfold eVar; rw [h]; rfl
  have e : (iOfA itR (aCons (eN oMax2 (aCons (eC (.int 1)) (aCons (eN oMin2 (aCons (eC (.int m)) (aCons (eN oLenScr (aCons (eVar i) aNil)) aNil))) aNil))) aNil)) ρ = .ok (rangeD 0 (cellN m ns).toNat) ρ := by
    have e2 : aCons (eN oMax2 (aCons (eC (.int 1)) (aCons (eN oMin2 (aCons (eC (.int m)) (aCons (eN oLenScr (aCons (eVar i) aNil)) aNil))) aNil))) aNil ρ = .ok [.int (cellN m ns)] ρ := by
      simp only [aCons, eN, eC, ER.bindA, AR.bind, AR.bindA, e1, aNil, oLenScr, lift, oMin2, oMax2, cellN]
    simp only [iOfA, e2, itR]
    rw [if_pos hR]
  unfold sFor
  rw [e]
theorem law_end {b : St} {m : Nat} {ns : List Int} {ρ' : Env} (h : b (some (.scr ns) :: List.replicate m none) = .nx ρ') : ∃ o, fnOf 1 m (sSeq b (sRet (eC (.bl true)))) [.scr ns] = .ok (.bl true) o := by
  refine ⟨ρ'.take 1, ?_⟩
  rw [v_fn, if_pos (show [D.scr ns].length = 1 from rfl)]
  have e : sSeq b (sRet (eC (.bl true))) ([D.scr ns].map some ++ List.replicate m none) = .rt (.bl true) ρ' := by
    show (b (some (.scr ns) :: List.replicate m none)).bind _ = _
    rw [h]
    rfl
  rw [e, v_fnR]
end U
namespace Q
open PySem PySem.Spec PyProof.Rows L2
def simQ (c : Int) (z : Str) : List Nat → List Nat → List Nat → List Nat → Option (List Nat × List Nat × List Nat)
  | [], q, tk, lo => some (q, tk, lo)
  | x :: l, q, tk, lo => if x = 45 then (match q with
      | [] => none
      | a :: q' => simQ c z l q' (tk ++ [a]) lo)
    else if (q.length : Int) < c then simQ c z l (q ++ [x]) tk lo
    else if z = "oldest" then (match q with
      | [] => none
      | a :: q' => simQ c z l (q' ++ [x]) tk (lo ++ [a]))
    else if z = "newest" then simQ c z l q tk (lo ++ [x]) else none
theorem simQ_nil (c : Int) (z : Str) (q tk lo : List Nat) : simQ c z [] q tk lo = some (q, tk, lo) := by rw [simQ.eq_def]
theorem simQ_take0 (c : Int) (z : Str) (l tk lo : List Nat) : simQ c z (45 :: l) [] tk lo = none := by rw [simQ.eq_def]; simp
theorem simQ_take (c : Int) (z : Str) (l tk lo : List Nat) (a : Nat) (q : List Nat) : simQ c z (45 :: l) (a :: q) tk lo = simQ c z l q (tk ++ [a]) lo := by rw [simQ.eq_def]; simp
theorem simQ_put {c : Int} {z : Str} {x : Nat} {l q tk lo : List Nat} (h : x ≠ 45) (hq : (q.length : Int) < c) : simQ c z (x :: l) q tk lo = simQ c z l (q ++ [x]) tk lo := by
  rw [simQ.eq_def]; simp only [if_neg h, if_pos hq]
theorem simQ_old {c : Int} {z : Str} {x a : Nat} {l q tk lo : List Nat} (h : x ≠ 45) (hq : ¬ ((a :: q).length : Int) < c) (hz : z = "oldest") : simQ c z (x :: l) (a :: q) tk lo = simQ c z l (q ++ [x]) tk (lo ++ [a]) := by
  rw [simQ.eq_def]; simp only [if_neg h, if_neg hq, if_pos hz]
theorem simQ_new {c : Int} {z : Str} {x : Nat} {l q tk lo : List Nat} (h : x ≠ 45) (hq : ¬ (q.length : Int) < c) (hz : ¬ z = "oldest") (hz2 : z = "newest") : simQ c z (x :: l) q tk lo = simQ c z l q tk (lo ++ [x]) := by
  rw [simQ.eq_def]; simp only [if_neg h, if_neg hq, if_neg hz, if_pos hz2]
theorem simQ_no {c : Int} {z : Str} {x : Nat} {l q tk lo : List Nat} (h : x ≠ 45) (hq : ¬ (q.length : Int) < c) (hz : ¬ z = "oldest") (hz2 : ¬ z = "newest") : simQ c z (x :: l) q tk lo = none := by
  rw [simQ.eq_def]; simp only [if_neg h, if_neg hq, if_neg hz, if_neg hz2]
end Q
namespace U
open PySem
open Q (simQ simQ_nil simQ_take0 simQ_take simQ_put simQ_old simQ_new simQ_no)
abbrev oldC : List Nat := [111, 108, 100, 101, 115, 116]
abbrev newC : List Nat := [110, 101, 119, 101, 115, 116]
abbrev strC : List Nat := [115, 116, 114, 105, 99, 116]
abbrev doneC : List Nat := [100, 111, 110, 101]
abbrev failC : List Nat := [102, 97, 105, 108, 101, 100]
noncomputable def runB : St := (sIf (eOp oEq (eVar 7) (eC (.str [45])))
    (sSeq (sIf (eOp oEq (eVar 0) (eC (.str [])))
    (sRet (eFrz (eN mkLst (aCons (eC (.str [102, 97, 105, 108, 101, 100])) (aCons (eVar 6) aNil)))))
    sNil)
    (sPar [4, 0] (aCons (eOp oAddS (eVar 4) (eOp oIxS (eVar 0) (eC (.int 0)))) (aCons (eSl oSlS (eVar 0) (some (eC (.int 1))) none) aNil))))
    (sIf (eOp oLt (eN oLenS (aCons (eVar 0) aNil)) (eVar 2))
    (sSet 0 (eOp oAddS (eVar 0) (eVar 7)))
    (sIf (eOp oEq (eVar 3) (eC (.str [111, 108, 100, 101, 115, 116])))
    (sPar [5, 0] (aCons (eOp oAddS (eVar 5) (eOp oIxS (eVar 0) (eC (.int 0)))) (aCons (eOp oAddS (eSl oSlS (eVar 0) (some (eC (.int 1))) none) (eVar 7)) aNil)))
    (sIf (eOp oEq (eVar 3) (eC (.str [110, 101, 119, 101, 115, 116])))
    (sSet 5 (eOp oAddS (eVar 5) (eVar 7)))
    (sRet (eFrz (eN mkLst (aCons (eC (.str [102, 97, 105, 108, 101, 100])) (aCons (eVar 6) aNil)))))))))
def runE (q l : List Nat) (c : Int) (z tk lo : List Nat) (v6 v7 : Option D) : Env := [some (.str q), some (.str l), some (.int c), some (.str z), some (.str tk), some (.str lo), v6, v7]
def enS (l : List Nat) (k : Nat) : List D := ((l.map sg).zipIdx k).map fun p => D.tup [.int (p.2 : Nat), p.1]
def RunG (s : Option (List Nat × List Nat × List Nat)) (l0 : List Nat) (c : Int) (z : List Nat) (r : Fl) : Prop :=
  (s = none → ∃ (j : Int) (ρ : Env), r = .rt (.lst [.str failC, .int j]) ρ) ∧ (∀ q2 tk2 lo2, s = some (q2, tk2, lo2) → ∃ v6' v7', r = .nx (runE q2 l0 c z tk2 lo2 v6' v7'))
end U
namespace U
open PySem
open Q (progF fiveF runs endF lostF rangeF mx)
inductive PR where
  | val (d : D) | exc (c : String) | bad
def fnP (g : List D → PR) : Fn := fun ds => match g ds with
  | .val d => if d.isMut = false then .ok d [] else .bad
  | .exc c => .exc ⟨c, [], []⟩ []
  | .bad => .bad
theorem fnP_val {g : List D → PR} {ds : List D} {d : D} (h : g ds = .val d) (hm : d.isMut = false) : fnP g ds = .ok d [] := by
  simp only [fnP, h]; rw [if_pos hm]
theorem fnP_exc {g : List D → PR} {ds : List D} {c : String} (h : g ds = .exc c) : fnP g ds = .exc ⟨c, [], []⟩ [] := by
  simp only [fnP, h]
def prD : D → Option (List Nat)
  | .str l => progF l
  | _ => none
def mdD : D → Bool
  | .str z => decide (z ∈ [oldC, newC, strC])
  | _ => false
def stD : D → Bool
  | .str z => decide (z = strC)
  | _ => false
def atom : D → Bool
  | .non => true
  | .bl _ => true
  | .int _ => true
  | .str l => decide (l.length ≤ 100000)
  | _ => false
def atomX : D → Bool
  | .lst _ => true
  | .tup _ => true
  | .dic _ => true
  | .non => true
  | .bl _ => true
  | .int _ => true
  | .str l => decide (l.length ≤ 100000)
  | _ => false
def geD (l : Int) : D → Bool
  | .int i => decide (l ≤ i)
  | _ => false
def cpD : D → Bool
  | .int i => decide (1 ≤ i) && decide (i ≤ 100)
  | _ => false
def leD : D → D → Bool
  | .int i, .int c => decide (i ≤ c)
  | _, _ => true
def inD_ (d : D) : Int := match d with
  | .int i => i
  | _ => 0
def chk (b : Bool) (c : String) (k : PR) : PR := if b then k else .exc c
def g_end (F : Option (List Nat) → Int → Bool → Int → D) (ds : List D) : PR := match ds with
  | [v, c, m, n] => if atom v && atom c && atom m && atom n then
      chk (prD v).isSome "InvalidProgram" (chk (cpD c) "InvalidCapacity" (chk (mdD m) "InvalidMode" (chk (geD 0 n && leD n c) "InvalidInteger" (.val (F (prD v) (inD_ c) (stD m) (inD_ n)))))) else .bad
  | _ => .bad
noncomputable def endR (f : Option (List Nat)) (c : Int) (s : Bool) (n : Int) : D := if runs (fiveF (f.getD [])) c s n = true then .int (endF (fiveF (f.getD [])) c n) else .non
noncomputable def lostR (f : Option (List Nat)) (c : Int) (s : Bool) (n : Int) : D := if runs (fiveF (f.getD [])) c s n = true then .int (lostF (fiveF (f.getD [])) c n) else .non
noncomputable def fn_end_length : Fn := fnP (g_end endR)
noncomputable def fn_lost_letters : Fn := fnP (g_end lostR)
noncomputable def startR (f : Option (List Nat)) (c : Int) (s : Bool) : D := match rangeF (fiveF (f.getD [])) c s with
  | none => .non
  | some (x, y) => .tup [.int x, .int y]
noncomputable def g_start (ds : List D) : PR := match ds with
  | [v, c, m] => if atomX v && atom c && atom m then
      chk (prD v).isSome "InvalidProgram" (chk (cpD c) "InvalidCapacity" (chk (mdD m) "InvalidMode" (.val (startR (prD v) (inD_ c) (stD m))))) else .bad
  | _ => .bad
noncomputable def fn_start_lengths : Fn := fnP g_start
noncomputable def leastR (f : Option (List Nat)) (s : Bool) (j : Int) : D := if j < -(fiveF (f.getD [])).l then .non else .int (if s = true then mx 1 (j + (fiveF (f.getD [])).h) else mx (mx 1 j) (fiveF (f.getD [])).f)
noncomputable def g_least (ds : List D) : PR := match ds with
  | [v, m, n] => if atom v && atom m && atom n then
      chk (prD v).isSome "InvalidProgram" (chk (mdD m) "InvalidMode" (chk (geD 0 n) "InvalidInteger" (.val (leastR (prD v) (stD m) (inD_ n))))) else .bad
  | _ => .bad
noncomputable def fn_least_capacity : Fn := fnP g_least
noncomputable def lossR (f : Option (List Nat)) (j : Int) : D := if -(fiveF (f.getD [])).l ≤ j then .int (mx 1 (j + (fiveF (f.getD [])).h)) else .non
noncomputable def g_loss (ds : List D) : PR := match ds with
  | [v, n] => if atom v && atom n then
      chk (prD v).isSome "InvalidProgram" (chk (geD 0 n) "InvalidInteger" (.val (lossR (prD v) (inD_ n)))) else .bad
  | _ => .bad
noncomputable def fn_lossless_capacity : Fn := fnP g_loss
def repT (l : List Nat) (k : Nat) : List Nat := [40] ++ l ++ [41] ++ TL.numL k
open Classical in
noncomputable def g_repeat (ds : List D) : PR := match ds with
  | [.str l, .int k] => if l.length ≤ 100000 ∧ (progF l).isSome = true ∧ 0 ≤ k ∧ k ≤ 1000000000000000000000000000000 ∧ ((repT l k.toNat).foldl Q.dstep (0, 0)).2 ≤ 20 then .val (.str (repT l k.toNat)) else .bad
  | _ => .bad
noncomputable def fn_repeat : Fn := fnP g_repeat
end U
namespace U
open Q (progF fiveF runs endF lostF rangeF mx)
structure GoodA (t f : List Nat) (c : Int) (z : List Nat) : Prop where
  pr : progF t = some f
  tl : t.length ≤ 100000
  c1 : 1 ≤ c
  c2 : c ≤ 100
  md : z ∈ [oldC, newC, strC]
section
variable {t f : List Nat} {c n : Int} {z : List Nat}
end
end U
namespace U
open PySem PySem.Spec PyProof.Rows L2
section
variable {K : PySem.W.Frag} {B : Bx} {F : Fz} {H : Hp}
theorem Grow.step0 {F' : Fz} {H' : Hp} (g : Grow F H F' H') : Step [] F H [] F' H' :=
  ⟨g.mono, fun a o h _ => g.keep a o h, fun a h => (g.froz a h).imp id .inl, fun a h => by cases h⟩
theorem spP {g : List D → PR} {vs : List V} {Q : VK} {E : XK} (hp : ∀ ds, g ds ≠ .bad → ∀ d ∈ ds, d.isMut = false) (h : spD K (fnP g) vs H Q E) : ∃ (F : Fz) (ds : List D), RVs K F H vs ds ∧ (match g ds with
    | .val d => ∀ v F' H', RV K F' H' v d → Grow F H F' H' → Q v H'
    | .exc c => ∀ F' H', Grow F H F' H' → E (.ref (He.ga K (Str.ofString c))) none H'
    | .bad => False) := by
  obtain ⟨F, ds, A, B, ov, nd, nf, dm, hm⟩ := h
  refine ⟨F, ds, ?_⟩
  unfold fnP at hm
  cases hg : g ds with
  | bad => rw [hg] at hm; exact hm.elim
  | exc c =>
    obtain ⟨rfl, rs⟩ := ov.allP (hp ds (by rw [hg]; intro z; cases z))
    rw [hg] at hm
    refine ⟨rs, fun F' H' gr => ?_⟩
    exact hm (.ref (He.ga K (Str.ofString c))) none F' H' [] [] (by simp only [OVS]) List.nodup_nil (fun a h => by cases h) (gr.dm dm) ⟨rfl, .inl ⟨rfl, rfl, rfl⟩⟩ gr.step0
  | val d =>
    obtain ⟨rfl, rs⟩ := ov.allP (hp ds (by rw [hg]; intro z; cases z))
    rw [hg] at hm
    refine ⟨rs, fun v F' H' rv gr => ?_⟩
    simp only [] at hm
    rw [if_pos rv.notMut] at hm
    exact hm v F' H' [] [] [] (by simp only [OVS]) List.nodup_nil (fun a h => by cases h) (gr.dm dm) rv.own gr.step0
theorem Grow.same {H' : Hp} (s : Same H H') : Grow F H F H' := ⟨fun _ h => h, s, fun _ h => .inl h, fun dm a h => by obtain ⟨o, e⟩ := dm a h; exact ⟨o, s a o e⟩⟩
theorem atom_v {v : V} {d : D} (h : RV K F H v d) (ha : atom d = true) : _root_.Q.AnyV K H v ∧ _root_.Q.Short v ∧ _root_.Q.progV v = prD d := by
  cases d with
  | non => simp only [RV] at h; subst h; exact ⟨.non, Q.short_no rfl, rfl⟩
  | bl b => simp only [RV] at h; subst h; exact ⟨.bl, Q.short_no rfl, rfl⟩
  | int b => simp only [RV] at h; subst h; exact ⟨.int, Q.short_no rfl, rfl⟩
  | str l => 
    simp only [RV] at h
    have ha : l.length ≤ 100000 := of_decide_eq_true ha
    rw [h.1]
    exact ⟨.str, Q.short_of rfl (by rw [show (U.S l).length = l.length from Q.S_length l]; exact ha), Q.progV_S l⟩
  | _ => cases ha
theorem atomX_v {v : V} {d : D} (h : RV K F H v d) (ha : atomX d = true) : _root_.Q.AnyV K H v ∧ _root_.Q.Short v ∧ _root_.Q.progV v = prD d := by
  have key : ∀ {n : String} {a : Addr}, v = .ref a → tyName d = some n → (n == "str" || (n == "bool" && "str" == "int")) = false → (n == "int" || (n == "bool" && "int" == "int")) = false → (n == "bool" || (n == "bool" && "bool" == "int")) = false → prD d = none → _root_.Q.AnyV K H v ∧ _root_.Q.Short v ∧ _root_.Q.progV v = prD d := by
    intro n a e h1 h2 h3 h4 h5
    subst e
    have m := tyName_mem h1
    refine ⟨⟨_, ty_of h h1, ?_, ?_, ?_⟩, Q.short_no rfl, by rw [h5]; rfl⟩
    · exact kit_ty ((kit_all n m "str" (by decide)).trans (congrArg some h2))
    · exact kit_ty ((kit_all n m "int" (by decide)).trans (congrArg some h3))
    · exact kit_ty ((kit_all n m "bool" (by decide)).trans (congrArg some h4))
  cases d with
  | lst l =>
    have h' := h
    simp only [RV] at h'
    obtain ⟨a, _, e, _⟩ := h'
    exact key e rfl (by decide) (by decide) (by decide) rfl
  | tup l =>
    have h' := h
    simp only [RV] at h'
    obtain ⟨a, _, e, _⟩ := h'
    exact key e rfl (by decide) (by decide) (by decide) rfl
  | dic l =>
    have h' := h
    simp only [RV] at h'
    obtain ⟨a, e, _⟩ := h'
    exact key e rfl (by decide) (by decide) (by decide) rfl
  | _ => exact atom_v h ha
end
end U
namespace U
open PySem
open Q (Pg progP)
def pgD : Pg → List D
  | .nil => []
  | .seq l r => .str l :: pgD r
  | .rep b n r => .tup [.lst (pgD b), .int (n : Nat)] :: pgD r
def prP : D → Option Pg
  | .str l => progP l
  | _ => none
def g_items (ds : List D) : PR := match ds with
  | [v] => if atomX v then (match prP v with
    | some p => .val (.lst (pgD p))
    | none => .exc "InvalidProgram") else .bad
  | _ => .bad
def fn_items_of : Fn := fnP g_items
theorem f_items {l : List Nat} {p : Pg} (h : l.length ≤ 100000) (hp : progP l = some p) : fn_items_of [.str l] = .ok (.lst (pgD p)) [] := by
  refine fnP_val ?_ rfl
  have e : atomX (.str l) = true := decide_eq_true h
  simp only [g_items, e, if_true, prP, hp]
theorem f_itemsY {v : D} (h : atomX v = true) (hp : prP v = none) : fn_items_of [v] = .exc ⟨"InvalidProgram", [], []⟩ [] := by
  refine fnP_exc ?_
  simp only [g_items, h, if_true, hp]
end U
namespace U
abbrev Row := Option (Nat × List Nat)
def oldC' : List Nat := [111, 108, 100, 101, 115, 116]
def newC' : List Nat := [110, 101, 119, 101, 115, 116]
def stepR (c : Nat) (z : List Nat) (x : Nat) : Row → Row
  | none => none
  | some (k, w) => if x = 45 then (if k + w.length = 0 then none else if 0 < k then some (k - 1, w) else some (0, w.drop 1))
    else if k + w.length < c then some (k, w ++ [x])
    else if z = oldC' then (if 0 < k then some (k - 1, w ++ [x]) else some (0, w.drop 1 ++ [x]))
    else if z = newC' then some (k, w) else none
def runR (c : Nat) (z : List Nat) (fl : List Nat) (r : Row) : Row := fl.foldl (fun r x => stepR c z x r) r
def glueR (w : List Nat) : Row → Row
  | none => none
  | some (k, v) => if k ≤ w.length then some (0, w.drop (w.length - k) ++ v) else some (k - w.length, w ++ v)
def joinR (g : Nat → Row) : Row → Row
  | none => none
  | some (k, w) => glueR w (g (k + w.length))
def effR (c : Nat) (z : List Nat) (fl : List Nat) : Nat → Row := fun n => runR c z fl (some (n, []))
def rept (n : Nat) (fl : List Nat) : List Nat := (List.replicate n fl).flatten
theorem rept_succ {n : Nat} {fl : List Nat} : rept (n + 1) fl = fl ++ rept n fl := by simp [rept, List.replicate_succ]
theorem rept_add {n m : Nat} {fl : List Nat} : rept (n + m) fl = rept n fl ++ rept m fl := by
  simp [rept, ← List.replicate_append_replicate]
def rowOk (c n : Nat) : Row → Prop
  | none => True
  | some (k, w) => k ≤ n ∧ k + w.length ≤ c ∧ ∀ x ∈ w, 97 ≤ x ∧ x ≤ 122
def stpOk (x : Nat) : Prop := x = 45 ∨ (97 ≤ x ∧ x ≤ 122)
end U
namespace U
noncomputable def body_is_integer : St := (sRet (eAnd (eIsi "int" (eVar 0)) (eAnd (eUn oNot (eIsi "bool" (eVar 0))) (eOp oGe (eVar 0) (eVar 1)))))
noncomputable def fn_is_integer : Fn := fnOf 2 0 body_is_integer
noncomputable def body_is_capacity : St := (sRet (eAnd (eFrz (eCall fn_is_integer [.v (eVar 0), .v (eC (.int 1))] [])) (eOp oLe (eVar 0) (eC (.int 100)))))
noncomputable def fn_is_capacity : Fn := fnOf 1 0 body_is_capacity
noncomputable def body_check_capacity : St := (sIf (eUn oNot (eFrz (eCall fn_is_capacity [.v (eVar 0)] [])))
    (sRaise "InvalidCapacity" [] aNil)
    sNil)
noncomputable def fn_check_capacity : Fn := fnOf 1 0 body_check_capacity
noncomputable def body_is_mode : St := (sRet (eAnd (eIsi "str" (eVar 0)) (eOp oInQ (eVar 0) (eC (.tup [(.str [111, 108, 100, 101, 115, 116]), (.str [110, 101, 119, 101, 115, 116]), (.str [115, 116, 114, 105, 99, 116])])))))
noncomputable def fn_is_mode : Fn := fnOf 1 0 body_is_mode
noncomputable def body_check_mode : St := (sIf (eUn oNot (eFrz (eCall fn_is_mode [.v (eVar 0)] [])))
    (sRaise "InvalidMode" [] aNil)
    sNil)
noncomputable def fn_check_mode : Fn := fnOf 1 0 body_check_mode
noncomputable def body_is_text_of : St := (sRet (eAnd (eIsi "str" (eVar 0)) (eN oAll (aCons (eFrz (eComp (iOf itS (eVar 0)) (gVar 2) (eC (.bl true)) (eOp oInS (eVar 2) (eVar 1)) [2])) aNil))))
noncomputable def fn_is_text_of : Fn := fnOf 2 1 body_is_text_of
noncomputable def body_is_queue : St := (sSeq (sDrop (eCall fn_check_capacity [.v (eVar 1)] []))
    (sRet (eAnd (eFrz (eCall fn_is_text_of [.v (eVar 0), .v (eC (.str [97, 98, 99, 100, 101, 102, 103, 104, 105, 106, 107, 108, 109, 110, 111, 112, 113, 114, 115, 116, 117, 118, 119, 120, 121, 122]))] [])) (eOp oLe (eN oLenS (aCons (eVar 0) aNil)) (eVar 1)))))
noncomputable def fn_is_queue : Fn := fnOf 2 0 body_is_queue
noncomputable def body_is_row : St := (sSeq (sIf (eOp oIsN (eVar 0) (eC .non))
    (sRet (eC (.bl true)))
    sNil)
    (sSeq (sIf (eOr (eUn oNot (eIsi "tuple" (eVar 0))) (eOr (eOp oNe (eN oLenQ (aCons (eVar 0) aNil)) (eC (.int 2))) (eOr (eUn oNot (eFrz (eCall fn_is_integer [.v (eOp oIxT (eVar 0) (eC (.int 0)))] [(.int 0)]))) (eOp oGt (eOp oIxT (eVar 0) (eC (.int 0))) (eVar 1)))))
    (sRet (eC (.bl false)))
    sNil)
    (sRet (eAnd (eFrz (eCall fn_is_queue [.v (eOp oIxT (eVar 0) (eC (.int 1))), .v (eVar 2)] [])) (eOp oLe (eOp oAdd (eOp oIxT (eVar 0) (eC (.int 0))) (eN oLenS (aCons (eOp oIxT (eVar 0) (eC (.int 1))) aNil))) (eVar 2))))))
noncomputable def fn_is_row : Fn := fnOf 3 0 body_is_row
noncomputable def turn_Effect_init_1 : St := (sIf (eUn oNot (eFrz (eCall fn_is_row [.v (eVar 4), .v (eVar 3), .v (eVar 1)] [])))
    (sRaise "InvalidEffect" ["position"] (aCons (eVar 3) aNil))
    sNil)
noncomputable def body_Effect_init : St := (sSeq (sDrop (eCall fn_check_capacity [.v (eVar 1)] []))
    (sSeq (sIf (eOr (eUn oNot (eUn (oIsi2 "list" "tuple") (eVar 2))) (eOp oNe (eN oLenQ (aCons (eVar 2) aNil)) (eOp oAdd (eVar 1) (eC (.int 1)))))
    (sRaise "InvalidEffect" ["position"] (aCons (eC .non) aNil))
    sNil)
    (sSeq (sFor (iOfA itEQ (aCons (eVar 2) aNil)) (gTup [(gVar 3), (gVar 4)]) turn_Effect_init_1)
    (sFldO 0 "Effect" "all_rows" (eN oTupOf (aCons (eVar 2) aNil))))))
noncomputable def fn_Effect_init : Fn := fnOf 3 2 body_Effect_init
noncomputable def body_identity_rows : St := (sRet (eN oTupOf (aCons (eFrz (eComp (iOfA itR (aCons (eOp oAdd (eVar 0) (eC (.int 1))) aNil)) (gVar 1) (eC (.bl true)) (eN mkTup (aCons (eVar 1) (aCons (eC (.str [])) aNil))) [1])) aNil)))
noncomputable def fn_identity_rows : Fn := fnOf 1 1 body_identity_rows
noncomputable def body_row_after : St := (sSeq (sIf (eOp oIsN (eVar 0) (eC .non))
    (sRet (eC .non))
    sNil)
    (sSeq (sAsg (eVar 0) (gTup [(gVar 4), (gVar 5)]))
    (sSeq (sSet 6 (eOp oAdd (eVar 4) (eN oLenS (aCons (eVar 5) aNil))))
    (sSeq (sIf (eOp oEq (eVar 1) (eC (.str [45])))
    (sSeq (sIf (eOp oEq (eVar 6) (eC (.int 0)))
    (sRet (eC .non))
    sNil)
    (sRet (eIf (eOp oGt (eVar 4) (eC (.int 0))) (eN mkTup (aCons (eOp oSub (eVar 4) (eC (.int 1))) (aCons (eVar 5) aNil))) (eN mkTup (aCons (eC (.int 0)) (aCons (eSl oSlS (eVar 5) (some (eC (.int 1))) none) aNil))))))
    sNil)
    (sSeq (sIf (eOp oLt (eVar 6) (eVar 2))
    (sRet (eN mkTup (aCons (eVar 4) (aCons (eOp oAddS (eVar 5) (eVar 1)) aNil))))
    sNil)
    (sSeq (sIf (eOp oEq (eVar 3) (eC (.str [111, 108, 100, 101, 115, 116])))
    (sRet (eIf (eOp oGt (eVar 4) (eC (.int 0))) (eN mkTup (aCons (eOp oSub (eVar 4) (eC (.int 1))) (aCons (eOp oAddS (eVar 5) (eVar 1)) aNil))) (eN mkTup (aCons (eC (.int 0)) (aCons (eOp oAddS (eSl oSlS (eVar 5) (some (eC (.int 1))) none) (eVar 1)) aNil)))))
    sNil)
    (sRet (eIf (eOp oEq (eVar 3) (eC (.str [110, 101, 119, 101, 115, 116]))) (eVar 0) (eC .non)))))))))
noncomputable def fn_row_after : Fn := fnOf 4 3 body_row_after
noncomputable def body_joined_row : St := (sSeq (sIf (eOp oIsN (eVar 0) (eC .non))
    (sRet (eC .non))
    sNil)
    (sSeq (sAsg (eVar 0) (gTup [(gVar 2), (gVar 3)]))
    (sSeq (sSet 4 (eOp oIxT (eVar 1) (eOp oAdd (eVar 2) (eN oLenS (aCons (eVar 3) aNil)))))
    (sSeq (sIf (eOp oIsN (eVar 4) (eC .non))
    (sRet (eC .non))
    sNil)
    (sSeq (sIf (eOp oLe (eOp oIxT (eVar 4) (eC (.int 0))) (eN oLenS (aCons (eVar 3) aNil)))
    (sRet (eN mkTup (aCons (eC (.int 0)) (aCons (eOp oAddS (eSl oSlS (eVar 3) (some (eOp oSub (eN oLenS (aCons (eVar 3) aNil)) (eOp oIxT (eVar 4) (eC (.int 0))))) none) (eOp oIxT (eVar 4) (eC (.int 1)))) aNil))))
    sNil)
    (sRet (eN mkTup (aCons (eOp oSub (eOp oIxT (eVar 4) (eC (.int 0))) (eN oLenS (aCons (eVar 3) aNil))) (aCons (eOp oAddS (eVar 3) (eOp oIxT (eVar 4) (eC (.int 1)))) aNil)))))))))
noncomputable def fn_joined_row : Fn := fnOf 2 3 body_joined_row
noncomputable def body_joined_rows : St := (sRet (eN oTupOf (aCons (eFrz (eComp (iOf itT (eVar 0)) (gVar 2) (eC (.bl true)) (eFrz (eCall fn_joined_row [.v (eVar 2), .v (eVar 1)] [])) [2])) aNil)))
noncomputable def fn_joined_rows : Fn := fnOf 2 1 body_joined_rows
noncomputable def body_power_rows : St := (sSeq (sPar [2, 3, 4] (aCons (eFrz (eCall fn_identity_rows [.v (eOp oSub (eN oLenQ (aCons (eVar 0) aNil)) (eC (.int 1)))] [])) (aCons (eVar 0) (aCons (eVar 1) aNil))))
    (sSeq (sWhile (eOp oGt (eVar 4) (eC (.int 0)))
    (sSeq (sIf (eOp oEq (eOp oMod (eVar 4) (eC (.int 2))) (eC (.int 1)))
    (sSet 2 (eFrz (eCall fn_joined_rows [.v (eVar 2), .v (eVar 3)] [])))
    sNil)
    (sSeq (sSet 3 (eFrz (eCall fn_joined_rows [.v (eVar 3), .v (eVar 3)] [])))
    (sSet 4 (eOp oDiv (eVar 4) (eC (.int 2)))))))
    (sRet (eVar 2))))
noncomputable def fn_power_rows : Fn := fnOf 2 3 body_power_rows
noncomputable def fn_rows_of : Nat → Fn
  | 0 => fun _ => .bad
  | n + 1 => fnOf 3 4 (sSeq (sSet 3 (eFrz (eCall fn_identity_rows [.v (eVar 1)] [])))
    (sSeq (sFor (iOf itL (eVar 0)) (gVar 4) 
    (sIf (eIsi "str" (eVar 4))
    (sFor (iOf itS (eVar 4)) (gVar 5) 
    (sSet 3 (eN oTupOf (aCons (eFrz (eComp (iOf itT (eVar 3)) (gVar 6) (eC (.bl true)) (eFrz (eCall fn_row_after [.v (eVar 6), .v (eVar 5), .v (eVar 1), .v (eVar 2)] [])) [6])) aNil))))
    (sSet 3 (eFrz (eCall fn_joined_rows [.v (eVar 3), .v (eFrz (eCall fn_power_rows [.v (eFrz (eCall (fn_rows_of n) [.v (eOp oIxT (eVar 4) (eC (.int 0))), .v (eVar 1), .v (eVar 2)] [])), .v (eOp oIxT (eVar 4) (eC (.int 1)))] []))] [])))))
    (sRet (eVar 3))))
noncomputable def body_effect_of : St := (sSeq (sSet 3 (eFrz (eCall fn_items_of [.v (eVar 0)] [])))
    (sSeq (sDrop (eCall fn_check_capacity [.v (eVar 1)] []))
    (sSeq (sDrop (eCall fn_check_mode [.v (eVar 2)] []))
    (sRet (eFrz (eMake "Effect" fn_Effect_init (aCons (eVar 1) (aCons (eFrz (eCall (fn_rows_of 21) [.v (eVar 3), .v (eVar 1), .v (eVar 2)] [])) aNil)) []))))))
noncomputable def fn_effect_of : Fn := fnOf 3 1 body_effect_of
noncomputable def body_Effect_capacity : St := (sRet (eOp oSub (eN oLenQ (aCons (eUn (oFld "Effect" "all_rows") (eVar 0)) aNil)) (eC (.int 1))))
noncomputable def fn_Effect_capacity : Fn := fnOf 1 0 body_Effect_capacity
noncomputable def body_check_same : St := (sIf (eOp oNe (eUn (oProp "Effect" fn_Effect_capacity) (eVar 0)) (eUn (oProp "Effect" fn_Effect_capacity) (eVar 1)))
    (sRaise "CapacityMismatch" ["first", "second"] (aCons (eUn (oProp "Effect" fn_Effect_capacity) (eVar 0)) (aCons (eUn (oProp "Effect" fn_Effect_capacity) (eVar 1)) aNil)))
    sNil)
noncomputable def fn_check_same : Fn := fnOf 2 0 body_check_same
noncomputable def body_Effect_rows : St := (sRet (eUn (oFld "Effect" "all_rows") (eVar 0)))
noncomputable def fn_Effect_rows : Fn := fnOf 1 0 body_Effect_rows
noncomputable def body_Effect_mul : St := (sSeq (sIf (eUn oNot (eUn (oIsiC [("Effect", true)]) (eVar 1)))
    sBad
    sNil)
    (sSeq (sDrop (eCall fn_check_same [.v (eVar 0), .v (eVar 1)] []))
    (sRet (eFrz (eMake "Effect" fn_Effect_init (aCons (eUn (oProp "Effect" fn_Effect_capacity) (eVar 0)) (aCons (eFrz (eCall fn_joined_rows [.v (eUn (oFld "Effect" "all_rows") (eVar 0)), .v (eUn (oProp "Effect" fn_Effect_rows) (eVar 1))] [])) aNil)) [])))))
noncomputable def fn_Effect_mul : Fn := fnOf 2 0 body_Effect_mul
noncomputable def body_Effect_eq : St := (sRet (eAnd (eUn (oIsiC [("Effect", true)]) (eVar 1)) (eOp oEq (eUn (oFld "Effect" "all_rows") (eVar 0)) (eUn (oFld "Effect" "all_rows") (eVar 1)))))
noncomputable def fn_Effect_eq : Fn := fnOf 2 0 body_Effect_eq
noncomputable def body_Effect_identity : St := (sSeq (sDrop (eCall fn_check_capacity [.v (eVar 1)] []))
    (sRet (eFrz (eMakeL 0 "Effect" fn_Effect_init (aCons (eVar 1) (aCons (eFrz (eCall fn_identity_rows [.v (eVar 1)] [])) aNil)) []))))
noncomputable def fn_Effect_identity : Fn := fnOfC 1 0 "Effect" body_Effect_identity
noncomputable def body_check_integer : St := (sIf (eOr (eUn oNot (eFrz (eCall fn_is_integer [.v (eVar 0), .v (eVar 1)] []))) (eAnd (eOp oNotN (eVar 2) (eC .non)) (eOp oGt (eVar 0) (eVar 2))))
    (sRaise "InvalidInteger" [] aNil)
    sNil)
noncomputable def fn_check_integer : Fn := fnOf 3 0 body_check_integer
noncomputable def body_Effect_power : St := (sSeq (sDrop (eCall fn_check_integer [.v (eVar 1), .v (eC (.int 0)), .v (eC (.int 1000000000000000000000000000000))] []))
    (sRet (eFrz (eMake "Effect" fn_Effect_init (aCons (eUn (oProp "Effect" fn_Effect_capacity) (eVar 0)) (aCons (eFrz (eCall fn_power_rows [.v (eUn (oFld "Effect" "all_rows") (eVar 0)), .v (eVar 1)] [])) aNil)) []))))
noncomputable def fn_Effect_power : Fn := fnOf 2 0 body_Effect_power
noncomputable def body_Effect_pow : St := (sRet (eFrz (eMeth "Effect" "power" fn_Effect_power (eVar 0) [.v (eVar 1)] [])))
noncomputable def fn_Effect_pow : Fn := fnOf 2 0 body_Effect_pow
end U
namespace U
open PySem
open Q (Pg progP)
def DepS : List Pg → Prop
  | [] => True
  | f :: fs => f.depth + fs.length ≤ 20 ∧ DepS fs
theorem isStp_mem {c : Nat} (h : Q.isStp c = true) : c ∈ Q.stp := by
  first
    | exact of_decide_eq_true h
    | simpa [Q.isStp] using h
theorem goP_ok : ∀ (n : Nat) (t : List Nat) (st : List Pg) (p : Pg), t.length ≤ n → (∀ f ∈ st, f.ok) → DepS st → Q.goP t st = some p → p.ok ∧ p.depth ≤ 20
  | n, [], [], p, _, _, _, h => by rw [Q.goP.eq_def] at h; cases h
  | n, [], [f], p, _, ho, hd, h => by
    rw [Q.goP.eq_def] at h
    cases h
    exact ⟨ho f List.mem_cons_self, by have := hd.1; simpa using this⟩
  | n, [], f :: g :: fs, p, _, _, _, h => by rw [Q.goP.eq_def] at h; cases h
  | n, c :: t, [], p, _, _, _, h => by rw [Q.goP.eq_def] at h; cases h
  | 0, c :: t, f :: fs, p, hl, _, _, _ => by simp at hl
  | n + 1, c :: t, f :: fs, p, hl, ho, hd, h => by
    rw [List.length_cons] at hl
    have hof := ho f List.mem_cons_self
    have hos : ∀ g ∈ fs, g.ok := fun g hg => ho g (List.mem_cons_of_mem _ hg)
    cases hs : Q.isStp c with
    | true =>
      rw [Q.goP_step hs] at h
      have h1 := (List.dropWhile_suffix (l := t) Q.isStp).length_le
      refine goP_ok n _ _ p (by omega) (fun g hg => ?_) ?_ h
      · rcases List.mem_cons.mp hg with z | z
        · rw [z]
          refine Pg.ok_app hof ⟨fun x hx => ?_, trivial⟩
          rcases List.mem_cons.mp hx with q | q
          · rw [q]; exact isStp_mem hs
          · exact isStp_mem (List.all_eq_true.mp List.all_takeWhile x q)
        · exact hos g z
      · refine And.intro ?_ hd.2
        rw [Pg.depth_app]
        have := hd.1
        simp only [Pg.depth]
        omega
    | false =>
      by_cases h40 : c = 40
      · subst h40
        rw [Q.goP_open] at h
        split at h
        · rename_i hf
          refine goP_ok n _ _ p (by omega) (fun g hg => ?_) ?_ h
          · rcases List.mem_cons.mp hg with z | z
            · rw [z]; exact trivial
            · exact ho g z
          · refine And.intro ?_ hd
            simp only [Pg.depth, List.length_cons]; omega
        · cases h
      · by_cases h41 : c = 41
        · subst h41
          cases fs with
          | nil => rw [Q.goP_close0] at h; cases h
          | cons g gs =>
            rw [Q.goP_close] at h
            split at h
            · rename_i hk
              have h1 := (List.dropWhile_suffix (l := t) Q.isDig).length_le
              refine goP_ok n _ _ p (by omega) (fun u hu => ?_) ?_ h
              · rcases List.mem_cons.mp hu with z | z
                · rw [z]
                  refine Pg.ok_app (hos g List.mem_cons_self) ⟨hof, ?_, trivial⟩
                  unfold Q.okCount at hk
                  simp only [Bool.and_eq_true, decide_eq_true_eq] at hk
                  exact hk.2.2.2
                · exact hos u (List.mem_cons_of_mem _ z)
              · refine And.intro ?_ hd.2.2
                rw [Pg.depth_app]
                have a := hd.1
                have b := hd.2.1
                simp only [Pg.depth, List.length_cons] at a b ⊢
                omega
            · cases h
        · rw [Q.goP_other hs h40 h41] at h; cases h
theorem progP_ok {l : List Nat} {p : Pg} (h : progP l = some p) : p.ok ∧ p.depth ≤ 20 :=
  goP_ok l.length l [.nil] p (Nat.le_refl _) (fun f hf => by rw [List.mem_singleton.mp hf]; exact trivial) ⟨by simp [Pg.depth], trivial⟩ h
def rowD : Row → D
  | none => .non
  | some (k, w) => .tup [.int (k : Nat), .str w]
def rowsL (c : Nat) (f : Nat → Row) : List D := (List.range (c + 1)).map fun n => rowD (f n)
def rowsD (c : Nat) (f : Nat → Row) : D := .tup (rowsL c f)
theorem cut_drop {α : Type} {l : List α} {i : Nat} : cutD l (some (i : Int)) none = l.drop i := by
  simp only [cutD, sIxD]
  rw [if_neg (by omega)]
  simp only [Int.toNat_natCast]
  by_cases h : i ≤ l.length
  · rw [Nat.min_eq_left h, List.take_of_length_le (by rw [List.length_drop]; omega)]
  · rw [Nat.min_eq_right (by omega), List.drop_length, List.drop_of_length_le (by omega)]; simp
theorem cut_drop1 {α : Type} {l : List α} : cutD l (some 1) none = l.drop 1 := cut_drop (i := 1)
def valF (f : Fn) (ds : List D) : D := match f ds with
  | .ok d _ => d
  | _ => .non
theorem whileN_mono {c : E} {b : St} : ∀ {n m : Nat} {ρ : Env}, n ≤ m → whileN c b n ρ ≠ .bad → whileN c b m ρ = whileN c b n ρ
  | 0, _, ρ, _, h => absurd rfl h
  | n + 1, 0, ρ, hm, _ => by omega
  | n + 1, m + 1, ρ, hm, h => by
    simp only [whileN] at h ⊢
    cases e : c ρ with
    | bad => rfl
    | exc x ρ1 => rfl
    | ok d ρ1 =>
      rw [e] at h
      simp only [ER.binds] at h ⊢
      split
      · rename_i hd
        simp only at h
        cases e2 : b ρ1 with
        | nx ρ2 => rw [e2] at h; simp only at h ⊢; exact whileN_mono (by omega) h
        | ct ρ2 => rw [e2] at h; simp only at h ⊢; exact whileN_mono (by omega) h
        | _ => rfl
      · rfl
      · rfl
theorem while_eq {c : E} {b : St} {n : Nat} {ρ : Env} {r : Fl} (h : whileN c b n ρ = r) (hr : r ≠ .bad) : sWhile c b ρ = r := by
  have hx : ∃ n, whileN c b n ρ ≠ .bad := ⟨n, by rw [h]; exact hr⟩
  unfold sWhile
  rw [dif_pos hx]
  have h1 := Classical.choose_spec hx
  rcases Nat.le_total n (Classical.choose hx) with q | q
  · rw [whileN_mono q (by rw [h]; exact hr), h]
  · rw [← whileN_mono q h1, h]
def powC : E := eOp oGt (eVar 4) (eC (.int 0))
noncomputable def powB : St := sSeq (sIf (eOp oEq (eOp oMod (eVar 4) (eC (.int 2))) (eC (.int 1)))
    (sSet 2 (eFrz (eCall fn_joined_rows [.v (eVar 2), .v (eVar 3)] [])))
    sNil)
    (sSeq (sSet 3 (eFrz (eCall fn_joined_rows [.v (eVar 3), .v (eVar 3)] [])))
    (sSet 4 (eOp oDiv (eVar 4) (eC (.int 2)))))
noncomputable def stepSt : St := sSet 3 (eN oTupOf (aCons (eFrz (eComp (iOf itT (eVar 3)) (gVar 6) (eC (.bl true)) (eFrz (eCall fn_row_after [.v (eVar 6), .v (eVar 5), .v (eVar 1), .v (eVar 2)] [])) [6])) aNil))
noncomputable def itemSt (f : Fn) : St := sIf (eIsi "str" (eVar 4))
    (sFor (iOf itS (eVar 4)) (gVar 5) stepSt)
    (sSet 3 (eFrz (eCall fn_joined_rows [.v (eVar 3), .v (eFrz (eCall fn_power_rows [.v (eFrz (eCall f [.v (eOp oIxT (eVar 4) (eC (.int 0))), .v (eVar 1), .v (eVar 2)] [])), .v (eOp oIxT (eVar 4) (eC (.int 1)))] []))] [])))
theorem f_is_integer {i l : Int} : fn_is_integer [.int i, .int l] = .ok (.bl (decide (l ≤ i))) [some (.int i), some (.int l)] := by
  unfold fn_is_integer body_is_integer
  have e1 : ("int" == "int" || ("int" == "bool" && "int" == "int")) = true := by decide
  have e2 : ("int" == "bool" || ("int" == "bool" && "bool" == "int")) = false := by decide
  walk_at "evh"
theorem f_is_capacity {c : Nat} (hc : 1 ≤ c) (hc2 : c ≤ 100) : fn_is_capacity [.int (c : Nat)] = .ok (.bl true) [some (.int (c : Nat))] := by
  unfold fn_is_capacity body_is_capacity
  have e1 := f_is_integer (i := (c : Nat)) (l := 1)
  have h1 : (1 : Int) ≤ (c : Int) := by omega
  have h2 : (c : Int) ≤ 100 := by omega
  walk_at "evh"
theorem f_check_capacity {c : Nat} (hc : 1 ≤ c) (hc2 : c ≤ 100) : fn_check_capacity [.int (c : Nat)] = .ok .non [some (.int (c : Nat))] := by
  unfold fn_check_capacity body_check_capacity
  have e1 := f_is_capacity hc hc2
  walk_at "evh"
def modes : List (List Nat) := [oldC', newC', [115, 116, 114, 105, 99, 116]]
abbrev azC : List Nat := [97, 98, 99, 100, 101, 102, 103, 104, 105, 106, 107, 108, 109, 110, 111, 112, 113, 114, 115, 116, 117, 118, 119, 120, 121, 122]
def effD (c : Nat) (f : Nat → Row) : D := .ins "Effect" ["all_rows"] [.tup (rowsL c f)]
def InitI (s a b : D) (ρ : Env) : Prop := ∃ v3 v4, ρ = [some s, some a, some b, v3, v4] ∧ Okv v3 ∧ Okv v4
end U
namespace U
noncomputable def body_check_queue : St := (sIf (eUn oNot (eFrz (eCall fn_is_queue [.v (eVar 0), .v (eVar 1)] [])))
    (sRaise "InvalidQueue" [] aNil)
    sNil)
noncomputable def fn_check_queue : Fn := fnOf 2 0 body_check_queue
noncomputable def body_Effect_call : St := (sSeq (sDrop (eCall fn_check_queue [.v (eVar 1), .v (eUn (oProp "Effect" fn_Effect_capacity) (eVar 0))] []))
    (sSeq (sSet 2 (eOp oIxT (eUn (oFld "Effect" "all_rows") (eVar 0)) (eN oLenS (aCons (eVar 1) aNil))))
    (sSeq (sIf (eOp oIsN (eVar 2) (eC .non))
    (sRaise "EffectFailed" ["length"] (aCons (eN oLenS (aCons (eVar 1) aNil)) aNil))
    sNil)
    (sRet (eOp oAddS (eSl oSlS (eVar 1) (some (eOp oSub (eN oLenS (aCons (eVar 1) aNil)) (eOp oIxT (eVar 2) (eC (.int 0))))) none) (eOp oIxT (eVar 2) (eC (.int 1))))))))
noncomputable def fn_Effect_call : Fn := fnOf 2 1 body_Effect_call
end U
namespace U
open PySem
open Q (simQ simQ_nil simQ_take0 simQ_take simQ_put simQ_old simQ_new simQ_no)
def appR (q : List Nat) : Row → Option (List Nat)
  | none => none
  | some (k, w) => some (q.drop (q.length - k) ++ w)
end U
namespace U
end U
namespace U
def FrE (n : Nat) (ρ : Env) : Prop := ρ.length = n ∧ FreL ρ
theorem fr_cons {n : Nat} {ρ : Env} (h : FrE (n + 1) ρ) : ∃ v r, ρ = v :: r ∧ Fre v ∧ FrE n r := by
  obtain ⟨h1, h2⟩ := h
  cases ρ with
  | nil => cases h1
  | cons v r => exact ⟨v, r, rfl, h2.1, by simpa using h1, h2.2⟩
theorem fr_nil {ρ : Env} (h : FrE 0 ρ) : ρ = [] := List.length_eq_zero_iff.mp h.1
theorem fr3 {ρ : Env} (h : FrE 3 ρ) : ∃ v1 v2 v3, ρ = [v1, v2, v3] ∧ Fre v1 ∧ Fre v2 ∧ Fre v3 := by
  obtain ⟨v1, r1, rfl, o1, h⟩ := fr_cons h
  obtain ⟨v2, r2, rfl, o2, h⟩ := fr_cons h
  obtain ⟨v3, r3, rfl, o3, h⟩ := fr_cons h
  obtain rfl := fr_nil h
  exact ⟨v1, v2, v3, rfl, o1, o2, o3⟩
theorem fr5 {ρ : Env} (h : FrE 5 ρ) : ∃ v1 v2 v3 v4 v5, ρ = [v1, v2, v3, v4, v5] ∧ Fre v1 ∧ Fre v2 ∧ Fre v3 ∧ Fre v4 ∧ Fre v5 := by
  obtain ⟨v1, r1, rfl, o1, h⟩ := fr_cons h
  obtain ⟨v2, r2, rfl, o2, h⟩ := fr_cons h
  obtain ⟨v3, r3, rfl, o3, h⟩ := fr_cons h
  obtain ⟨v4, r4, rfl, o4, h⟩ := fr_cons h
  obtain ⟨v5, r5, rfl, o5, h⟩ := fr_cons h
  obtain rfl := fr_nil h
  exact ⟨v1, v2, v3, v4, v5, rfl, o1, o2, o3, o4, o5⟩
theorem fr8 {ρ : Env} (h : FrE 8 ρ) : ∃ v1 v2 v3 v4 v5 v6 v7 v8, ρ = [v1, v2, v3, v4, v5, v6, v7, v8] ∧ Fre v1 ∧ Fre v2 ∧ Fre v3 ∧ Fre v4 ∧ Fre v5 ∧ Fre v6 ∧ Fre v7 ∧ Fre v8 := by
  obtain ⟨v1, r1, rfl, o1, h⟩ := fr_cons h
  obtain ⟨v2, r2, rfl, o2, h⟩ := fr_cons h
  obtain ⟨v3, r3, rfl, o3, h⟩ := fr_cons h
  obtain ⟨v4, r4, rfl, o4, h⟩ := fr_cons h
  obtain ⟨v5, r5, rfl, o5, h⟩ := fr_cons h
  obtain ⟨v6, r6, rfl, o6, h⟩ := fr_cons h
  obtain ⟨v7, r7, rfl, o7, h⟩ := fr_cons h
  obtain ⟨v8, r8, rfl, o8, h⟩ := fr_cons h
  obtain rfl := fr_nil h
  exact ⟨v1, v2, v3, v4, v5, v6, v7, v8, rfl, o1, o2, o3, o4, o5, o6, o7, o8⟩
def LawI (n : Nat) (ns : List Int) (ρ : Env) : Prop := ∃ r, ρ = some (.scr ns) :: r ∧ FrE n r
theorem frE_nones (n : Nat) : FrE n (List.replicate n none) := by
  refine ⟨by simp, ?_⟩
  induction n with
  | zero => trivial
  | succ n ih => exact ⟨fre_none, ih⟩
end U
namespace U
theorem drw {p : D} (hp : Pool p) (n : Int) (h1 : 1 ≤ n) (h2 : n ≤ 1000000000000000000000000000000) : ∃ (x : Nat) (p' : D), Pool p' ∧ (x : Int) < n ∧ fn_law_draw [.own 1 p, .int n] = .ok (.int (x : Nat)) [some (.own 1 p'), some (.int n)] := by
  have a := draw_lo hp h1 h2
  have b := draw_hi hp h1 h2
  refine ⟨(drawV p n).toNat, drawP p n, pool_draw hp h1 h2, by omega, ?_⟩
  rw [f_draw hp h1 h2, Int.toNat_of_nonneg a]
theorem ltr {p : D} (hp : Pool p) : ∃ (x : Nat) (p' : D), Pool p' ∧ x ∈ ([97, 98, 99, 120, 121, 122] : List Nat) ∧ fn_law_letter [.own 1 p] = .ok (.str [x]) [some (.own 1 p')] := ⟨letC p, drawP p 6, pool_draw hp (by decide) (by decide), (let_at hp).2, f_letter hp⟩
end U
namespace U
noncomputable def body_law_pool : St := (sSeq (sSet 2 (eC (.int 0)))
    (sSeq (sIf (eOp oNeScr (eVar 0) (eFrz (eN mkLst aNil)))
    (sSet 2 (eOp oIxScr (eVar 0) (eOp oMod (eVar 1) (eN oLenScr (aCons (eVar 0) aNil)))))
    sNil)
    (sSeq (sSet 3 (eOp oMod (eOp oMul (eOp oAdd (eOp oAdd (eOp oMod (eVar 2) (eC (.int 2147483629))) (eOp oMul (eC (.int 50021)) (eVar 1))) (eC (.int 13))) (eC (.int 48271))) (eC (.int 2147483647))))
    (sRet (eN mkLst (aCons (eOp oMul (eN oAbs (aCons (eVar 2) aNil)) (eN oInt (aCons (eOp oGe (eN oAbs (aCons (eVar 2) aNil)) (eOp oPow (eC (.int 10)) (eC (.int 18)))) aNil))) (aCons (eVar 3) aNil)))))))
noncomputable def fn_law_pool : Fn := fnOf 2 2 body_law_pool
noncomputable def body_law_take : St := (sSeq (sIf (eOp oGt (eIxO 0 (eC (.int 0))) (eC (.int 0)))
    (sSeq (sSet 2 (eOp oMod (eIxO 0 (eC (.int 0))) (eVar 1)))
    (sSeq (sPutO 0 (eC (.int 0)) (eOp oDiv (eIxO 0 (eC (.int 0))) (eVar 1)))
    (sRet (eVar 2))))
    sNil)
    (sSeq (sPutO 0 (eC (.int 1)) (eOp oMod (eOp oAdd (eOp oMul (eIxO 0 (eC (.int 1))) (eC (.int 48271))) (eC (.int 11))) (eC (.int 2147483647))))
    (sRet (eOp oMod (eOp oDiv (eOp oMod (eOp oMul (eIxO 0 (eC (.int 1))) (eIxO 0 (eC (.int 1)))) (eC (.int 2147483629))) (eC (.int 64))) (eVar 1)))))
noncomputable def fn_law_take : Fn := fnOf 2 1 body_law_take
noncomputable def turn_law_steps_1 : St := (sSet 3 (eOp oAddS (eVar 3) (eOp oIxS (eOp oAddS (eVar 2) (eC (.str [45, 45]))) (eFrz (eCall fn_law_take [.b 0, .v (eOp oAdd (eN oLenS (aCons (eVar 2) aNil)) (eC (.int 2)))] [])))))
noncomputable def body_law_steps : St := (sSeq (sSet 3 (eC (.str [])))
    (sSeq (sFor (iOfA itR (aCons (eFrz (eCall fn_law_take [.b 0, .v (eOp oAdd (eVar 1) (eC (.int 1)))] [])) aNil)) (gVar 4) turn_law_steps_1)
    (sRet (eVar 3))))
noncomputable def fn_law_steps : Fn := fnOf 3 2 body_law_steps
noncomputable def body_law_after : St := (sSeq (sIf (eOp oEq (eVar 1) (eC (.str [45])))
    (sRet (eIf (eOp oNe (eVar 0) (eFrz (eN mkLst aNil))) (eFrz (eSl oSlL (eVar 0) (some (eC (.int 1))) none)) (eC .non)))
    sNil)
    (sSeq (sIf (eOp oLt (eN oLenQ (aCons (eVar 0) aNil)) (eVar 2))
    (sRet (eFrz (eOp oCatL (eVar 0) (eFrz (eN mkLst (aCons (eVar 1) aNil))))))
    sNil)
    (sSeq (sIf (eOp oEq (eVar 3) (eC (.str [111, 108, 100, 101, 115, 116])))
    (sRet (eFrz (eOp oCatL (eFrz (eSl oSlL (eVar 0) (some (eC (.int 1))) none)) (eFrz (eN mkLst (aCons (eVar 1) aNil))))))
    sNil)
    (sRet (eIf (eOp oEq (eVar 3) (eC (.str [110, 101, 119, 101, 115, 116]))) (eVar 0) (eC .non))))))
noncomputable def fn_law_after : Fn := fnOf 4 0 body_law_after
noncomputable def turn_law_end_1 : St := (sSeq (sSet 0 (eFrz (eCall fn_law_after [.v (eVar 0), .v (eVar 4), .v (eVar 2), .v (eVar 3)] [])))
    (sIf (eOp oIsN (eVar 0) (eC .non))
    (sRet (eC .non))
    sNil))
noncomputable def body_law_end : St := (sSeq (sFor (iOf itS (eVar 1)) (gVar 4) turn_law_end_1)
    (sRet (eVar 0)))
noncomputable def fn_law_end : Fn := fnOf 4 1 body_law_end
noncomputable def body_law_row : St := (sSeq (sSet 4 (eFrz (eCall fn_law_end [.v (eFrz (eOp oRepL (eFrz (eN mkLst (aCons (eC .non) aNil))) (eVar 1))), .v (eVar 0), .v (eVar 2), .v (eVar 3)] [])))
    (sSeq (sIf (eOp oIsN (eVar 4) (eC .non))
    (sRet (eC .non))
    sNil)
    (sSeq (sSet 5 (eFrz (eComp (iOf itL (eVar 4)) (gVar 6) (eOp oNotN (eVar 6) (eC .non)) (eVar 6) [6])))
    (sRet (eN mkTup (aCons (eOp oSub (eN oLenQ (aCons (eVar 4) aNil)) (eN oLenQ (aCons (eVar 5) aNil))) (aCons (eMs oJoin (eC (.str [])) (eVar 5)) aNil)))))))
noncomputable def fn_law_row : Fn := fnOf 4 3 body_law_row
noncomputable def body_law_rows : St := (sRet (eN oTupOf (aCons (eFrz (eComp (iOfA itR (aCons (eOp oAdd (eVar 1) (eC (.int 1))) aNil)) (gVar 3) (eC (.bl true)) (eFrz (eCall fn_law_row [.v (eVar 0), .v (eVar 3), .v (eVar 1), .v (eVar 2)] [])) [3])) aNil)))
noncomputable def fn_law_rows : Fn := fnOf 3 1 body_law_rows
end U
namespace U
theorem take_eq : fn_law_take = fn_law_draw := rfl
theorem tke {p : D} (hp : Pool p) (n : Int) (h1 : 1 ≤ n) (h2 : n ≤ 1000000000000000000000000000000) : ∃ (x : Nat) (p' : D), Pool p' ∧ (x : Int) < n ∧ fn_law_take [.own 1 p, .int n] = .ok (.int (x : Nat)) [some (.own 1 p'), some (.int n)] := by
  rw [take_eq]; exact drw hp n h1 h2
noncomputable def poolTl : St := (sSeq (sSet 3 (eOp oMod (eOp oMul (eOp oAdd (eOp oAdd (eOp oMod (eVar 2) (eC (.int 2147483629))) (eOp oMul (eC (.int 50021)) (eVar 1))) (eC (.int 13))) (eC (.int 48271))) (eC (.int 2147483647))))
    (sRet (eN mkLst (aCons (eOp oMul (eN oAbs (aCons (eVar 2) aNil)) (eN oInt (aCons (eOp oGe (eN oAbs (aCons (eVar 2) aNil)) (eOp oPow (eC (.int 10)) (eC (.int 18)))) aNil))) (aCons (eVar 3) aNil)))))
theorem pool_fin {ns : List Int} {k : Int} (h0 : 0 ≤ k) (h1 : k ≤ 1000) (cell : Int) : ∃ p, endF_ 2 (poolTl [some (.scr ns), some (.int k), some (.int cell), none]) = .ok (.own 0 p) [some (.scr ns), some (.int k)] ∧ Pool p := by
  have a1 := Int.emod_nonneg cell (show (2147483629 : Int) ≠ 0 by decide)
  have a2 := Int.emod_lt_of_pos cell (show (0 : Int) < 2147483629 by decide)
  have b1 := Int.emod_nonneg ((cell % 2147483629 + 50021 * k + 13) * 48271) (show (2147483647 : Int) ≠ 0 by decide)
  have b2 := Int.emod_lt_of_pos ((cell % 2147483629 + 50021 * k + 13) * 48271) (show (0 : Int) < 2147483647 by decide)
  have q1 : (50021 : Int).natAbs < 18446744073709551616 := by decide
  have q2 : (48271 : Int).natAbs < 18446744073709551616 := by decide
  have q3 : (10 : Int).natAbs < 1000 := by decide
  unfold poolTl
  have ab : 0 ≤ (if cell < 0 then -cell else cell) := by split <;> omega
  by_cases c : 1000000000000000000 ≤ (if cell < 0 then -cell else cell)
  · have q4 : (1 : Int).natAbs < 18446744073709551616 := by decide
    have c' : decide (1000000000000000000 ≤ (if cell < 0 then -cell else cell)) = true := decide_eq_true c
    have q5 : (if decide (1000000000000000000 ≤ (if cell < 0 then -cell else cell)) = true then (1 : Int) else 0).natAbs < 18446744073709551616 := by rw [c']; decide
    clear c'
    walk_at "evh"
    exact ⟨_, rfl, _, _, rfl, by rw [Int.mul_one]; exact ab, b1, b2⟩
  · have q4 : (0 : Int).natAbs < 18446744073709551616 := by decide
    have c' : decide (1000000000000000000 ≤ (if cell < 0 then -cell else cell)) = false := decide_eq_false c
    have q5 : (if decide (1000000000000000000 ≤ (if cell < 0 then -cell else cell)) = true then (1 : Int) else 0).natAbs < 18446744073709551616 := by rw [c']; decide
    clear c'
    walk_at "evh"
    exact ⟨_, rfl, _, _, rfl, by omega, b1, b2⟩
theorem pool_all {ns : List Int} {k : Int} (hl : ns.length ≤ 63) (h0 : 0 ≤ k) (h1 : k ≤ 1000) : ∃ p, fn_law_pool [.scr ns, .int k] = .ok (.own 0 p) [some (.scr ns), some (.int k)] ∧ Pool p := by
  have e0 : body_law_pool = (sSeq (sSet 2 (eC (.int 0)))
    (sSeq (sIf (eOp oNeScr (eVar 0) (eFrz (eN mkLst aNil)))
    (sSet 2 (eOp oIxScr (eVar 0) (eOp oMod (eVar 1) (eN oLenScr (aCons (eVar 0) aNil)))))
    sNil) poolTl)) := rfl
  have cell : ∃ cell : Int, fn_law_pool [.scr ns, .int k] = endF_ 2 (poolTl [some (.scr ns), some (.int k), some (.int cell), none]) := by
    unfold fn_law_pool
    rw [e0]
    cases ns with
    | nil =>
      refine ⟨0, ?_⟩
      generalize poolTl = tl
      have e1 : ([] : List Int).isEmpty = true := rfl
      walk_at "evh"
    | cons n ns =>
      have hlen : 0 < (((n :: ns).length : Nat) : Int) := by simp only [List.length_cons]; omega
      have m1 := Int.emod_nonneg k (show (((n :: ns).length : Nat) : Int) ≠ 0 by omega)
      have m2 := Int.emod_lt_of_pos k hlen
      obtain ⟨j, hj⟩ : ∃ j : Nat, k % (((n :: ns).length : Nat) : Int) = j := ⟨(k % (((n :: ns).length : Nat) : Int)).toNat, by omega⟩
      have hjl : j < (n :: ns).length := by omega
      have hat : atD (n :: ns) (k % (((n :: ns).length : Nat) : Int)) = some (n :: ns)[j] := by rw [hj, atD_nat, List.getElem?_eq_getElem hjl]
      have hne : (n :: ns).isEmpty = false := rfl
      clear hj
      generalize n :: ns = l at *
      generalize poolTl = tl
      refine ⟨l[j], ?_⟩
      walk_at "evh"
  obtain ⟨cell, e⟩ := cell
  rw [e]
  exact pool_fin h0 h1 cell
def itmD (k : Nat) (w : List Nat) : List D := List.replicate k .non ++ w.map sg
def endD : Row → D
  | none => .non
  | some (k, w) => .lst (itmD k w)
end U
namespace U
def eqR (c : Nat) (f g : Nat → Row) : Bool := (List.range (c + 1)).all fun n => decide (f n = g n)
end U
namespace U
noncomputable def body_Effect_getitem : St := (sSeq (sDrop (eCall fn_check_integer [.v (eVar 1), .v (eC (.int 0)), .v (eUn (oProp "Effect" fn_Effect_capacity) (eVar 0))] []))
    (sRet (eOp oIxT (eUn (oFld "Effect" "all_rows") (eVar 0)) (eVar 1))))
noncomputable def fn_Effect_getitem : Fn := fnOf 2 0 body_Effect_getitem
end U
namespace U
open PySem
open Q (simQ)
end U
namespace PySem.W
open PySem PySem.Spec PySem.Calls PyProof.Rows
section
variable {prog : Program} {w : World} {A : Around} {E : Value → Shared → Prop} {s : Shared} {K : Frag} {x D : Addr} {ox : Obj} {od : Option Obj}
theorem find_bound {C : Addr} {name : Str} {a g : Value} (hc : (clsIn K C).isSome = true) (ha : findIn K (.ref C) name = some (some a)) (hg : specialIn K a "__get__" = some (some g)) (ht : takesIn K a = some true) : findObj K C od name = some (.bind g a) := by
  obtain ⟨cd, hc⟩ := Option.isSome_iff_exists.mp hc
  simp only [findObj, hc, ha, hg, ht, Option.bind_some]
theorem cls_some (C : L2.ExcC K D) : (clsIn K D).isSome = true := by
  obtain ⟨cd, hc, _⟩ := any_some C.hd
  rw [hc]; rfl
theorem exc_class {Q : Option Value → Shared → Prop} (C : L2.ExcC K D) (X : K.In s.heap) (I : InstAt s.heap x ox D od) (h : Q (some (.ref D)) { s with toks := s.toks + 1 }) : wpAny (model prog w) A (getAttr? (.ref x) "__class__") Q E s := by
  obtain ⟨hp, g, d, t, os⟩ := s
  have ty := I.type (M := model prog w)
  have ga := looks_findIn (M := model prog w) X C.hg
  have gt := looks_findIn (M := model prog w) X C.hk
  have fd := looks_find (M := model prog w) X I (find_bound (od := od) (cls_some C) C.ha C.hn C.ht)
  have sub : Looks (model prog w) hp (isInstance (.ref x) (.type "BaseException")) true := ty.andThen (looks_subIn X C.hs)
  have ne : (onTheHeap (Value.ref D) && Value.builtin "BaseException.__getattribute__" == Value.builtin "object.__getattribute__") = false := by
    rw [show (Value.builtin "BaseException.__getattribute__" == Value.builtin "object.__getattribute__") = false by decide +kernel]; rfl
  unfold getAttr? getAttrBy? getAttrBy
  refine wpAny_bind (wpAny_mkText (wpAny_bind (wpAny_attempt (wpAny_holding (wpAny_bind (ty.at (wpAny_bind (ga.at ?_))))))))
  show wpAny _ _ (if (onTheHeap (Value.ref D) && Value.builtin "BaseException.__getattribute__" == Value.builtin "object.__getattribute__") = true then _ else _) _ _ _
  rw [ne, if_neg Bool.false_ne_true]
  unfold getAttrByItsOwn hookBefore
  refine wpAny_bind ?_
  rw [if_pos (show onTheHeap (Value.ref D) = true from rfl)]
  refine gt.at (wpAny_bind (wpAny_attempt (wpAny_holding ?_)))
  unfold callGetattribute
  rw [if_neg (show ¬ (false && onTheHeap (Value.builtin "BaseException.__getattribute__")) = true from Bool.false_ne_true)]
  unfold boundAndCalled
  rw [PySem.F.excAttr_ValueError.ga.bind (.ref x)]
  refine wpAny_bind (wpAny_pure (wpAny_call (codeAny_call_builtin PySem.F.excAttr_ValueError.ga.plain PySem.F.entry_bexc_ga ?_)))
  refine @check_slot (model prog w) _ _ ⟨hp, g, d, t + 1, os⟩ "BaseException.__getattribute__" "BaseException" "__getattribute__" (.ref x) [.str "__class__" t] [] _ (by decide +kernel) (by decide +kernel) sub (PySem.F.args_bexc_ga (.ref x) (.str "__class__" t)) ?_
  unfold Builtin.«object.__getattribute__»
  refine wpAny_bind (wpAny_of_eq (a := ((Value.ref x : Value), [Value.str "__class__" t])) (by first | rfl | (simp only [slotArgs]; rfl)) ?_)
  refine wpAny_bind (wpAny_pure (wpAny_bind (ty.at (wpAny_bind (fd.at ?_)))))
  show wpAny _ _ (holding [Value.builtin "object.__class__"] (call (.builtin "getset_descriptor.__get__") [.builtin "object.__class__", .ref x, .ref D]) >>= ret) _ _ _
  refine wpAny_bind (wpAny_holding (wpAny_call (class_get (s := ⟨hp, g, d, t + 1, os⟩) (ox := ox) (od := od) X I C.hm (wpAny_pure ?_))))
  show wpAny _ _ (handedOut (.ref D)) _ _ _
  rw [handedOut_of (v := .ref D) rfl]
  first
    | exact wpAny_pure (wpAny_pure h)
    | exact wpAny_pure h
    | exact wpAny_pure (wpAny_bind (wpAny_pure (wpAny_pure h)))
theorem cls_obj (C : L2.ExcC K D) : ∃ c d cd sl, K.lookup D = some ⟨c, d, .cls cd, sl⟩ := by
  have h := cls_some C
  unfold clsIn at h
  split at h
  · rename_i e; exact ⟨_, _, _, _, e⟩
  · cases h
theorem kitx_exc (C : L2.ExcC K D) : KitX K (.ref x) (.ref D) (fun h => InstAt h x ox D od) where
  ty := fun _ _ _ I => I.type
  it := fun _ _ X _ => by
    obtain ⟨c, d, cd, sl, e⟩ := cls_obj C
    intro A' Q' E' s' k q
    unfold isType loadHead
    exact wpAny_bind (wpAny_loadPart (k _ _ (X _ _ e)) (wpAny_pure q))
  ne := fun h tp dd its n sl X htp => by
    obtain ⟨c, d, cd, sl', e⟩ := cls_obj C
    refine Bool.eq_false_iff.mpr fun q => ?_
    obtain rfl : D = tp := Value.ref.inj (beq_iff_eq.mp q)
    cases (X _ _ e).symm.trans htp
  ca := fun X I k => exc_class C X I k
end
end PySem.W
namespace L2
open PySem PySem.Spec PyProof.Rows
def rIsX (K : PySem.W.Frag) (a : Addr) (cls : Value) (d : Option Addr) : List V → Hp → VK → Prop := fun xs H Q => ∃ (D c : Addr) (b : Bool), xs = [.ref a, .ref c] ∧ cls = .ref D ∧ ExcC K D ∧ PySem.W.kitOne K (.ref D) (.ref c) = some b ∧ (d = none ∨ ∃ p fs, d = some p ∧ H p = some (.xd fs)) ∧ Q (.bl b) H
theorem call_isX {X : Cx} {a : Addr} {oe : Obj} {cls : Value} {d : Option Addr} {pn : List (Addr × Obj)} (hz : Zc cls d oe) (hf : ∃ vs, oe.data = .fields vs) : CallR (X.suite a ((a, oe) :: pn)) (.builtin "isinstance") (rIsX X.K a cls d) := by
  intro pins s σ H xs us Q I r h
  obtain ⟨D, c, b, rfl, rfl, C, e, hd, q⟩ := h
  cases r with
  | cons rx rr =>
    cases rr with
    | cons rt rr =>
      cases rr
      cases rx
      cases rt
      obtain ⟨ha, _⟩ := I.pin (a, oe) (List.mem_append.mpr (.inl List.mem_cons_self))
      obtain ⟨vs, hv⟩ := hf
      have no : PySem.W.notCls oe = true := by unfold PySem.W.notCls; rw [hv] <;> rfl
      suffices hJ : ∃ od, PySem.W.InstAt s.heap a oe D od by
        obtain ⟨od, J⟩ := hJ
        exact PySem.W.kia_one (PySem.W.kitx_exc C) I.kIn J e (fun z => nomatch z) fun tk => ⟨.bl b, H, I.kept (t' := tk) fun _ _ z => z, rfl, q⟩
      rcases hd with rfl | ⟨p, fs, rfl, hp⟩
      · exact ⟨none, ha, hz.1, no, by rw [hz.2]; trivial⟩
      · obtain ⟨mA, hns, hr⟩ := (show ObjOk X.prog X.w H s.heap p (.xd fs) from I.hok p _ hp)
        obtain ⟨od, ho, hl⟩ := lookIn_ns hns
        exact ⟨some od, ha, hz.1, no, by rw [hz.2]; exact ho⟩
def rInT (K : PySem.W.Frag) : R2 := fun x y H Q => ∃ d ds, Dp K H x d ∧ Dp K H y (.tuple ds) ∧ SeqAt.shaped d = true ∧ SeqAt.shaped (.tuple ds) = true ∧ Q (.bl (ds.any fun z => PyData.eqv z d)) H
def rNotInT (K : PySem.W.Frag) : R2 := fun x y H Q => ∃ d ds, Dp K H x d ∧ Dp K H y (.tuple ds) ∧ SeqAt.shaped d = true ∧ SeqAt.shaped (.tuple ds) = true ∧ Q (.bl (!ds.any fun z => PyData.eqv z d)) H
section
variable {X : Cx}
end
end L2
namespace U
open PySem PySem.Spec PyProof.Rows L2
def eXis (i : Nat) (c : String) (b : Bool) : E := fun ρ => match ρ[i]? with
  | some (some (.exn c' _ _)) => if c' = c then .ok (.bl b) ρ else .bad
  | _ => .bad
def oInA : D → D → Option D
  | x, .tup l => if okD 9 x && okD 9 (.tup l) then some (.bl (inD x l)) else none
  | _, _ => none
def oNotInA : D → D → Option D
  | x, .tup l => if okD 9 x && okD 9 (.tup l) then some (.bl (!inD x l)) else none
  | _, _ => none
section
variable {K : PySem.W.Frag} {B : Bx} {F F' : Fz} {H H' : Hp} {W : WX} {σ : L2.St}
theorem eXis_ok {i : Nat} {c : String} {b : Bool} {ρ ρ' : Env} {d : D} (h : eXis i c b ρ = .ok d ρ') : ρ' = ρ ∧ d = .bl b ∧ ∃ ns ds, ρ[i]? = some (some (.exn c ns ds)) := by
  unfold eXis at h
  split at h
  · split at h
    · rename_i e hc
      cases h
      rw [e, hc]
      exact ⟨rfl, rfl, _, _, rfl⟩
    · cases h
  · cases h
theorem eXis_exc {i : Nat} {c : String} {b : Bool} {ρ ρ' : Env} {x : Ex} (h : eXis i c b ρ = .exc x ρ') : False := by
  unfold eXis at h
  split at h
  · split at h <;> cases h
  · cases h
theorem w_xis {i : Nat} {c : String} {b : Bool} {C a : Addr} {cls : Value} {dd : Option Addr} {pins : List Addr} (hx : ExcC K (He.ga K (Str.ofString c))) (hk : PySem.W.kitOne K (.ref (He.ga K (Str.ofString c))) (.ref C) = some b) (σ : L2.St) (H : Hp) (Q : VK) (h : tDE K (pins, some (a, cls, dd)) W (eXis i c b) σ H Q) :
    tCB (rIsX K a cls dd) (tCons (tVar i) (tCons (tC (.ref C)) tNil)) σ H Q := by
  obtain ⟨F, ρ, A, rp, h⟩ := h
  cases e0 : eXis i c b ρ with
  | bad => rw [e0] at h; exact h.elim
  | exc x ρ1 => exact (eXis_exc e0).elim
  | ok d ρ1 =>
    rw [e0] at h
    obtain ⟨rfl, rfl, ns, ds, e⟩ := eXis_ok e0
    obtain ⟨v, A1, hv, ov, _⟩ := rp.sl.get e
    simp only [OVp] at ov
    obtain ⟨_, a', cls', dd', rfl, eb, xv⟩ := ov
    cases eb
    refine ⟨.ref a, hv, _, C, b, rfl, xv.1, hx, hk, ?_, h _ F H A rp (by simp only [RV]) Step.refl⟩
    rcases xv.2 with ⟨_, _, z⟩ | ⟨d2, fs, e1, f2, e2, e3, r⟩
    · exact .inl z
    · exact .inr ⟨d2, fs, e1, e2⟩
end
section
variable {X : Cx} {B : Bx} {W : WX} {e : Expr} {f g : E}
theorem d_xis {i : Nat} {c : String} {b : Bool} {C a : Addr} {cls : Value} {dd : Option Addr} {pins : List Addr} (hx : ExcC X.K (He.ga X.K (Str.ofString c))) (hk : PySem.W.kitOne X.K (.ref (He.ga X.K (Str.ofString c))) (.ref C) = some b)
    (h : PE X e (tCB (rIsX X.K a cls dd) (tCons (tVar i) (tCons (tC (.ref C)) tNil)))) : DE X (pins, some (a, cls, dd)) W e (eXis i c b) := h.weak (w_xis hx hk)
end
def kXis (c : String) (b : Bool) (ρ : Env) (o : Option (Option D)) : ER := match o with
  | some (some (.exn c' _ _)) => if c' = c then .ok (.bl b) ρ else .bad
  | _ => .bad
end U
namespace StY
open PySem PySem.Spec PyProof.Rows L2
section
variable {X : Cx} {CX : CXT} {k i : Nat} {f C : Addr} {fd : FuncData} {ps : List Str} {sp : Sp} {dvs : List V} {E : L2.St → XK} {x : Str} {p sp_ pos : Pos} {e : Expr} {te : TE}
end
end StY
namespace U
open PySem PySem.Spec PyProof.Rows L2
def aStar (f : E) (r : As) : As := fun ρ => (f ρ).bindA fun x ρ1 => match x with
  | .tup l => (r ρ1).bindA fun ys ρ2 => .ok (l ++ ys) ρ2
  | .lst l => (r ρ1).bindA fun ys ρ2 => .ok (l ++ ys) ρ2
  | _ => .bad
section
variable {K : PySem.W.Frag} {B : Bx} {F F' : Fz} {H H' : Hp} {W : WX} {σ : L2.St}
end
section
variable {X : Cx} {B : Bx} {W : WX} {e : Expr} {f g : E}
end
section
variable {ρ : Env} {f : E} {r : As} {l : List D}
def starK (r : As) : D → Env → AR := fun x ρ1 => match x with
  | .tup l => (r ρ1).bindA fun ys ρ2 => .ok (l ++ ys) ρ2
  | .lst l => (r ρ1).bindA fun ys ρ2 => .ok (l ++ ys) ρ2
  | _ => .bad
def catK (l : List D) : List D → Env → AR := fun ys ρ2 => .ok (l ++ ys) ρ2
end
end U
namespace PySem.W
open Lean Elab Tactic Meta PySem PySem.Spec PySem.Calls PyProof.Rows
section
variable {prog : Program} {w : World} {A : Around} {E : Value → Shared → Prop} {s : Shared} {K : Frag} {x C L f : Addr} {h₀ : Heap} {m : Str → Option Value} {ox : Obj} {od : Option Obj}
end
end PySem.W
namespace L2
open PySem PySem.Spec PyProof.Rows
def isPl : V → Bool
  | .int _ => true
  | .bl _ => true
  | .non => true
  | .str _ => true
  | _ => false
section
variable {X : Cx} {k : Nat} {f C : Addr} {fd : FuncData} {ps : List Str} {sp : Sp}
def tBinVSD (C : Addr) (sp : Sp) (E : St → XK) (ta tb : TE) : TE := fun σ H Q => ta σ H fun x H1 => tb σ H1 fun y H2 => ∃ a dx fs, x = .ref a ∧ isPl y = true ∧ H2 a = some (.ins C dx fs) ∧ sp [x, y] H2 Q (E σ)
end
end L2
namespace U
open PySem PySem.Spec PyProof.Rows L2
def isPlD : D → Bool
  | .int _ => true
  | .bl _ => true
  | .non => true
  | .str _ => true
  | _ => false
def eBinV (c : String) (f : Fn) (a b : E) : E := fun ρ => (a ρ).bind fun x ρ1 => (b ρ1).bind fun y ρ2 => if isIn c x && isPlD y then valK ρ2 (f [x, y]) else .bad
section
variable {K : PySem.W.Frag} {B : Bx} {F F' : Fz} {H H' : Hp} {W : WX} {σ : L2.St}
end
section
variable {X : Cx} {B : Bx} {W : WX} {e : Expr} {f g : E}
end
section
variable {ρ : Env} {c : String} {fn : Fn} {a b : E} {x y : D}
def kBV2 (c : String) (fn : Fn) (x : D) : D → Env → ER := fun y ρ2 => if isIn c x && isPlD y then valK ρ2 (fn [x, y]) else .bad
def kBV1 (c : String) (fn : Fn) (b : E) : D → Env → ER := fun x ρ1 => (b ρ1).bind (kBV2 c fn x)
end
end U
namespace U
noncomputable def body_joined : St := (sSeq (sSet 2 (eOp oSub (eOp oIxT (eVar 0) (eC (.int 0))) (eOp oIxT (eVar 0) (eC (.int 1)))))
    (sSeq (sSet 3 (eN oMin2 (aCons (eOp oIxT (eVar 0) (eC (.int 2))) (aCons (eOp oAdd (eVar 2) (eOp oIxT (eVar 1) (eC (.int 2)))) aNil))))
    (sSeq (sSet 4 (eN oMax2 (aCons (eOp oIxT (eVar 0) (eC (.int 3))) (aCons (eOp oAdd (eVar 2) (eOp oIxT (eVar 1) (eC (.int 3)))) aNil))))
    (sSeq (sSet 5 (eN oMax3 (aCons (eOp oIxT (eVar 0) (eC (.int 4))) (aCons (eOp oIxT (eVar 1) (eC (.int 4))) (aCons (eOp oSub (eOp oSub (eOp oIxT (eVar 0) (eC (.int 3))) (eVar 2)) (eOp oIxT (eVar 1) (eC (.int 2)))) aNil)))))
    (sRet (eN mkTup (aCons (eOp oAdd (eOp oIxT (eVar 0) (eC (.int 0))) (eOp oIxT (eVar 1) (eC (.int 0)))) (aCons (eOp oAdd (eOp oIxT (eVar 0) (eC (.int 1))) (eOp oIxT (eVar 1) (eC (.int 1)))) (aCons (eVar 3) (aCons (eVar 4) (aCons (eVar 5) aNil)))))))))))
noncomputable def fn_joined : Fn := fnOf 2 4 body_joined
noncomputable def body_repeated : St := (sSeq (sPar [2, 3, 4] (aCons (eC (.tup [(.int 0), (.int 0), (.int 0), (.int 0), (.int 0)])) (aCons (eVar 0) (aCons (eVar 1) aNil))))
    (sSeq (sWhile (eOp oGt (eVar 4) (eC (.int 0)))
    (sSeq (sIf (eOp oEq (eOp oMod (eVar 4) (eC (.int 2))) (eC (.int 1)))
    (sSet 2 (eFrz (eCall fn_joined [.v (eVar 2), .v (eVar 3)] [])))
    sNil)
    (sSeq (sSet 3 (eFrz (eCall fn_joined [.v (eVar 3), .v (eVar 3)] [])))
    (sSet 4 (eOp oDiv (eVar 4) (eC (.int 2)))))))
    (sRet (eVar 2))))
noncomputable def fn_repeated : Fn := fnOf 2 3 body_repeated
noncomputable def fn_five_of : Nat → Fn
  | 0 => fun _ => .bad
  | n + 1 => fnOf 1 3 (sSeq (sSet 1 (eC (.tup [(.int 0), (.int 0), (.int 0), (.int 0), (.int 0)])))
    (sSeq (sFor (iOf itL (eVar 0)) (gVar 2) 
    (sIf (eIsi "str" (eVar 2))
    (sFor (iOf itS (eVar 2)) (gVar 3) 
    (sSet 1 (eFrz (eCall fn_joined [.v (eVar 1), .v (eIf (eOp oEq (eVar 3) (eC (.str [45]))) (eN mkTup (aCons (eC (.int 0)) (aCons (eC (.int 1)) (aCons (eUn oNeg (eC (.int 1))) (aCons (eC (.int 0)) (aCons (eC (.int 1)) aNil)))))) (eN mkTup (aCons (eC (.int 1)) (aCons (eC (.int 0)) (aCons (eC (.int 0)) (aCons (eC (.int 1)) (aCons (eC (.int 0)) aNil)))))))] []))))
    (sSet 1 (eFrz (eCall fn_joined [.v (eVar 1), .v (eFrz (eCall fn_repeated [.v (eFrz (eCall (fn_five_of n) [.v (eOp oIxT (eVar 2) (eC (.int 0)))] [])), .v (eOp oIxT (eVar 2) (eC (.int 1)))] []))] [])))))
    (sRet (eVar 1))))
noncomputable def body_Profile_init : St := (sSeq (sIf (eUn oNot (eN oAll (aCons (eFrz (eComp (iOf itT (eN mkTup (aCons (eVar 1) (aCons (eVar 2) (aCons (eVar 4) (aCons (eVar 5) aNil)))))) (gVar 6) (eC (.bl true)) (eFrz (eCall fn_is_integer [.v (eVar 6)] [(.int 0)])) [6])) aNil)))
    (sRaise "InvalidInteger" [] aNil)
    sNil)
    (sSeq (sIf (eOr (eUn oNot (eIsi "int" (eVar 3))) (eOr (eIsi "bool" (eVar 3)) (eOp oGt (eVar 3) (eC (.int 0)))))
    (sRaise "InvalidInteger" [] aNil)
    sNil)
    (sFldO 0 "Profile" "five" (eN mkTup (aCons (eVar 1) (aCons (eVar 2) (aCons (eVar 3) (aCons (eVar 4) (aCons (eVar 5) aNil)))))))))
noncomputable def fn_Profile_init : Fn := fnOf 6 1 body_Profile_init
noncomputable def body_Profile_of : St := (sSeq (sSet 2 (eFrz (eCall (fn_five_of 21) [.v (eFrz (eCall fn_items_of [.v (eVar 1)] []))] [])))
    (sRet (eFrz (eMakeL 0 "Profile" fn_Profile_init (aStar (eVar 2) aNil) []))))
noncomputable def fn_Profile_of : Fn := fnOfC 1 1 "Profile" body_Profile_of
noncomputable def body_Profile_add : St := (sSeq (sIf (eUn oNot (eUn (oIsiC [("Profile", true)]) (eVar 1)))
    sBad
    sNil)
    (sSeq (sSet 2 (eFrz (eCall fn_joined [.v (eUn (oFld "Profile" "five") (eVar 0)), .v (eUn (oFld "Profile" "five") (eVar 1))] [])))
    (sRet (eFrz (eMake "Profile" fn_Profile_init (aStar (eVar 2) aNil) [])))))
noncomputable def fn_Profile_add : Fn := fnOf 2 1 body_Profile_add
noncomputable def body_Profile_eq : St := (sRet (eAnd (eUn (oIsiC [("Profile", true)]) (eVar 1)) (eOp oEq (eUn (oFld "Profile" "five") (eVar 0)) (eUn (oFld "Profile" "five") (eVar 1)))))
noncomputable def fn_Profile_eq : Fn := fnOf 2 0 body_Profile_eq
noncomputable def body_Profile_mul : St := (sSeq (sDrop (eCall fn_check_integer [.v (eVar 1), .v (eC (.int 0)), .v (eC (.int 1000000000000000000000000000000))] []))
    (sSeq (sSet 2 (eFrz (eCall fn_repeated [.v (eUn (oFld "Profile" "five") (eVar 0)), .v (eVar 1)] [])))
    (sRet (eFrz (eMake "Profile" fn_Profile_init (aStar (eVar 2) aNil) [])))))
noncomputable def fn_Profile_mul : Fn := fnOf 2 1 body_Profile_mul
noncomputable def body_Profile_puts : St := (sRet (eOp oIxT (eUn (oFld "Profile" "five") (eVar 0)) (eC (.int 0))))
noncomputable def fn_Profile_puts : Fn := fnOf 1 0 body_Profile_puts
noncomputable def body_Profile_takes : St := (sRet (eOp oIxT (eUn (oFld "Profile" "five") (eVar 0)) (eC (.int 1))))
noncomputable def fn_Profile_takes : Fn := fnOf 1 0 body_Profile_takes
end U
namespace U
noncomputable def body_Profile_low : St := (sRet (eOp oIxT (eUn (oFld "Profile" "five") (eVar 0)) (eC (.int 2))))
noncomputable def fn_Profile_low : Fn := fnOf 1 0 body_Profile_low
noncomputable def body_Profile_high : St := (sRet (eOp oIxT (eUn (oFld "Profile" "five") (eVar 0)) (eC (.int 3))))
noncomputable def fn_Profile_high : Fn := fnOf 1 0 body_Profile_high
noncomputable def body_Profile_fall : St := (sRet (eOp oIxT (eUn (oFld "Profile" "five") (eVar 0)) (eC (.int 4))))
noncomputable def fn_Profile_fall : Fn := fnOf 1 0 body_Profile_fall
noncomputable def body_Profile_offset : St := (sRet (eOp oSub (eOp oIxT (eUn (oFld "Profile" "five") (eVar 0)) (eC (.int 0))) (eOp oIxT (eUn (oFld "Profile" "five") (eVar 0)) (eC (.int 1)))))
noncomputable def fn_Profile_offset : Fn := fnOf 1 0 body_Profile_offset
end U
namespace U
open Q (Five fiveF Pg progP)
def fiveD (F : Five) : D := .tup [.int F.p, .int F.t, .int F.l, .int F.h, .int F.f]
def profD (F : Five) : D := .ins "Profile" ["five"] [fiveD F]
theorem at_4 {α : Type} {v w x y z : α} {xs : List α} : atD (v :: w :: x :: y :: z :: xs) 4 = some z := atD_nat (j := 4)
theorem f_joined {F G : Five} : ∃ o, fn_joined [fiveD F, fiveD G] = .ok (fiveD (F.join G)) o := by
  have e4 : ∀ a b c d e : D, atD [a, b, c, d, e] 4 = some e := fun _ _ _ _ _ => at_4
  unfold fn_joined body_joined fiveD
  walk_at "evh"
  exact ⟨_, rfl⟩
theorem pow_half {F : Five} (g : F.Good) {m : Nat} : F.pow m = (F.pow (m % 2)).join ((F.join F).pow (m / 2)) := by
  rw [Five.pow_two g, ← Five.pow_add g]
  congr 1; omega
theorem pow_one {F : Five} (g : F.Good) : F.pow 1 = F := Five.join_none g
def repC : E := eOp oGt (eVar 4) (eC (.int 0))
noncomputable def repB : St := sSeq (sIf (eOp oEq (eOp oMod (eVar 4) (eC (.int 2))) (eC (.int 1)))
    (sSet 2 (eFrz (eCall fn_joined [.v (eVar 2), .v (eVar 3)] [])))
    sNil)
    (sSeq (sSet 3 (eFrz (eCall fn_joined [.v (eVar 3), .v (eVar 3)] [])))
    (sSet 4 (eOp oDiv (eVar 4) (eC (.int 2)))))
theorem rep_loop {d0 d1 : D} : ∀ (m : Nat) (a b : Five), a.Good → b.Good →
    ∃ d3 d4, whileN repC repB (m + 1) [some d0, some d1, some (fiveD a), some (fiveD b), some (.int (m : Nat))] = .nx [some d0, some d1, some (fiveD (a.join (b.pow m))), some d3, some d4] := by
  intro m
  induction m using Nat.strongRecOn with
  | ind m ih =>
    intro a b ha hb
    by_cases hm : m = 0
    · subst hm
      refine ⟨fiveD b, .int 0, ?_⟩
      have e0 : a.join (b.pow 0) = a := Five.join_none ha
      rw [e0]
      simp only [whileN, repC, fiveD]
      walk_at "evh"
      rfl
    · have hm' : (0 : Int) < (m : Int) := by omega
      obtain ⟨o1, e1⟩ := f_joined (F := b) (G := b)
      obtain ⟨o2, e2⟩ := f_joined (F := a) (G := b)
      have ed : (m : Int) / 2 = ((m / 2 : Nat) : Int) := by omega
      have hl : (2 : Int).natAbs < lim4k := by decide +kernel
      have turn : repB [some d0, some d1, some (fiveD a), some (fiveD b), some (.int (m : Nat))] = .nx [some d0, some d1, some (fiveD (a.join (b.pow (m % 2)))), some (fiveD (b.join b)), some (.int (m / 2 : Nat))] := by
        unfold repB
        by_cases h2 : m % 2 = 1
        · have eo : ((m : Int) % 2 == 1) = true := by simp only [beq_iff_eq]; omega
          have er : b.pow (m % 2) = b := by rw [h2]; exact pow_one hb
          rw [er]
          unfold fiveD at *
          walk_at "evh"
        · have eo : ((m : Int) % 2 == 1) = false := by simp only [beq_eq_false_iff_ne]; omega
          have er : a.join (b.pow (m % 2)) = a := by rw [show m % 2 = 0 by omega]; exact Five.join_none ha
          rw [er]
          unfold fiveD at *
          walk_at "evh"
      obtain ⟨d3, d4, h⟩ := ih (m / 2) (by omega) (a.join (b.pow (m % 2))) (b.join b) (Five.join_good ha (Five.pow_good hb _)) (Five.join_good hb hb)
      refine ⟨d3, d4, ?_⟩
      have hn : whileN repC repB m [some d0, some d1, some (fiveD (a.join (b.pow (m % 2)))), some (fiveD (b.join b)), some (.int (m / 2 : Nat))] = .nx [some d0, some d1, some (fiveD (a.join (b.pow m))), some d3, some d4] := by
        rw [whileN_mono (n := m / 2 + 1) (by omega) (by rw [h]; exact fun z => nomatch z), h, Five.assoc, ← pow_half hb]
      simp only [whileN]
      have hcnd : repC [some d0, some d1, some (fiveD a), some (fiveD b), some (.int (m : Nat))] = .ok (.bl true) [some d0, some d1, some (fiveD a), some (fiveD b), some (.int (m : Nat))] := by
        unfold repC fiveD
        walk_at "evh"
      rw [hcnd]
      simp only [ER.binds]
      rw [turn]
      exact hn
theorem f_repeated {F : Five} (g : F.Good) {n : Nat} : ∃ o, fn_repeated [fiveD F, .int (n : Nat)] = .ok (fiveD (F.pow n)) o := by
  obtain ⟨d3, d4, h⟩ := rep_loop (d0 := fiveD F) (d1 := .int (n : Nat)) n Five.none F Five.none_good g
  have hw := while_eq h (fun z => nomatch z)
  rw [Five.none_join (Five.pow_good g n)] at hw
  have eb : body_repeated = sSeq (sPar [2, 3, 4] (aCons (eC (fiveD Five.none)) (aCons (eVar 0) (aCons (eVar 1) aNil)))) (sSeq (sWhile repC repB) (sRet (eVar 2))) := rfl
  unfold fn_repeated
  rw [eb]
  clear h eb
  unfold fiveD at *
  walk_at "evh"
  exact ⟨_, rfl⟩
noncomputable def fstSt : St := sSet 1 (eFrz (eCall fn_joined [.v (eVar 1), .v (eIf (eOp oEq (eVar 3) (eC (.str [45]))) (eN mkTup (aCons (eC (.int 0)) (aCons (eC (.int 1)) (aCons (eUn oNeg (eC (.int 1))) (aCons (eC (.int 0)) (aCons (eC (.int 1)) aNil)))))) (eN mkTup (aCons (eC (.int 1)) (aCons (eC (.int 0)) (aCons (eC (.int 0)) (aCons (eC (.int 1)) (aCons (eC (.int 0)) aNil)))))))] []))
theorem fst_step {F : Five} {x : Nat} {v0 v2 : Option D} : fstSt [v0, some (fiveD F), v2, some (.str [x])] = .nx [v0, some (fiveD (F.join (Q.stepF x))), v2, some (.str [x])] := by
  obtain ⟨o, e⟩ := f_joined (F := F) (G := Q.stepF x)
  by_cases h : x = 45
  · subst h
    have e' : fn_joined [.tup [.int F.p, .int F.t, .int F.l, .int F.h, .int F.f], .tup [.int 0, .int 1, .int (-1), .int 0, .int 1]] = .ok (fiveD (F.join (Q.stepF 45))) o := e
    clear e
    unfold fstSt fiveD at *
    walk_at "evh"
  · have hx : ([x] == [45]) = false := by simpa using h
    have es : Q.stepF x = ⟨1, 0, 0, 1, 0⟩ := if_neg h
    rw [es] at e ⊢
    unfold fstSt fiveD at *
    simp only at e
    walk_at "evh"
theorem fst_loop {v0 v2 : Option D} : ∀ (l fl : List Nat) (v3 : Option D), Okv v3 →
    ∃ v3', forL (gVar 3) fstSt (l.map fun c => .str [c]) [v0, some (fiveD (fiveF fl)), v2, v3] = .nx [v0, some (fiveD (fiveF (fl ++ l))), v2, v3'] ∧ Okv v3'
  | [], fl, v3, h3 => ⟨v3, by rw [List.append_nil]; rfl, h3⟩
  | x :: l, fl, v3, h3 => by
    obtain ⟨v3', e, h3'⟩ := fst_loop (v0 := v0) (v2 := v2) l (fl ++ [x]) (some (.str [x])) (okv_some rfl)
    refine ⟨v3', ?_, h3'⟩
    rw [List.map_cons, v_fl1]
    have hp : gVar 3 (.str [x]) [v0, some (fiveD (fiveF fl)), v2, v3] = some [v0, some (fiveD (fiveF fl)), v2, some (.str [x])] := put_ok (v := v3) rfl h3
    have ej : (fiveF fl).join (Q.stepF x) = fiveF (fl ++ [x]) := by rw [Q.fiveF_app, Q.fiveF_one]
    rw [hp, v_toS, v_nx, fst_step, ej, v_fkN, e, List.append_assoc]
    rfl
noncomputable def fitSt (f : Fn) : St := sIf (eIsi "str" (eVar 2))
    (sFor (iOf itS (eVar 2)) (gVar 3) fstSt)
    (sSet 1 (eFrz (eCall fn_joined [.v (eVar 1), .v (eFrz (eCall fn_repeated [.v (eFrz (eCall f [.v (eOp oIxT (eVar 2) (eC (.int 0)))] [])), .v (eOp oIxT (eVar 2) (eC (.int 1)))] []))] [])))
theorem five_of_eq (n : Nat) : fn_five_of (n + 1) = fnOf 1 3 (sSeq (sSet 1 (eC (fiveD Five.none))) (sSeq (sFor (iOf itL (eVar 0)) (gVar 2) (fitSt (fn_five_of n))) (sRet (eVar 1)))) := rfl
theorem five_items {n : Nat} {d0 : D} (ih : ∀ p : Pg, p.depth < n → p.ok → ∃ o, fn_five_of n [.lst (pgD p)] = .ok (fiveD (fiveF p.wr)) o) :
    ∀ (p : Pg) (fl : List Nat) (v2 v3 : Option D), p.depth < n + 1 → p.ok → Okv v2 → Okv v3 →
    ∃ v2' v3', forL (gVar 2) (fitSt (fn_five_of n)) (pgD p) [some d0, some (fiveD (fiveF fl)), v2, v3] = .nx [some d0, some (fiveD (fiveF (fl ++ p.wr))), v2', v3']
  | .nil, fl, v2, v3, _, _, h2, h3 => ⟨v2, v3, by simp [pgD, Pg.wr, forL]⟩
  | .seq l r, fl, v2, v3, hd, ho, h2, h3 => by
    obtain ⟨v3', e1, h3'⟩ := fst_loop (v0 := some d0) (v2 := some (.str l)) l fl v3 h3
    obtain ⟨v2', v3'', e2⟩ := five_items ih r (fl ++ l) (some (.str l)) v3' hd ho.2 (okv_some rfl) h3'
    refine ⟨v2', v3'', ?_⟩
    simp only [pgD]
    rw [v_fl1]
    have hp : gVar 2 (.str l) [some d0, some (fiveD (fiveF fl)), v2, v3] = some [some d0, some (fiveD (fiveF fl)), some (.str l), v3] := put_ok (v := v2) rfl h2
    have ht : fitSt (fn_five_of n) [some d0, some (fiveD (fiveF fl)), some (.str l), v3] = .nx [some d0, some (fiveD (fiveF (fl ++ l))), some (.str l), v3'] := by
      unfold fitSt
      have eT : ("str" == "str" || ("str" == "bool" && "str" == "int")) = true := by decide
      walk_at "evh"
    rw [hp, v_toS, v_nx, ht, v_fkN, e2]
    simp only [Pg.wr, List.append_assoc]
  | .rep b k r, fl, v2, v3, hd, ho, h2, h3 => by
    have hd1 : b.depth < n := by simp only [Pg.depth] at hd; omega
    have hd2 : r.depth < n + 1 := by simp only [Pg.depth] at hd; omega
    obtain ⟨o1, e1⟩ := ih b hd1 ho.1
    obtain ⟨o2, e2⟩ := f_repeated (F := fiveF b.wr) (n := k) (Q.fiveF_good _)
    obtain ⟨o3, e3⟩ := f_joined (F := fiveF fl) (G := (fiveF b.wr).pow k)
    obtain ⟨v2', v3', e4⟩ := five_items ih r (fl ++ rept k b.wr) (some (.tup [.lst (pgD b), .int (k : Nat)])) v3 hd2 ho.2.2 (okv_some rfl) h3
    have ej : (fiveF fl).join ((fiveF b.wr).pow k) = fiveF (fl ++ rept k b.wr) := by rw [Q.fiveF_app, rept, Q.fiveF_rep]
    rw [ej] at e3
    refine ⟨v2', v3', ?_⟩
    simp only [pgD]
    rw [v_fl1]
    have hp : gVar 2 (.tup [.lst (pgD b), .int (k : Nat)]) [some d0, some (fiveD (fiveF fl)), v2, v3] = some [some d0, some (fiveD (fiveF fl)), some (.tup [.lst (pgD b), .int (k : Nat)]), v3] := put_ok (v := v2) rfl h2
    have ht : fitSt (fn_five_of n) [some d0, some (fiveD (fiveF fl)), some (.tup [.lst (pgD b), .int (k : Nat)]), v3] = .nx [some d0, some (fiveD (fiveF (fl ++ rept k b.wr))), some (.tup [.lst (pgD b), .int (k : Nat)]), v3] := by
      unfold fitSt
      have eT : ("tuple" == "str" || ("tuple" == "bool" && "str" == "int")) = false := by decide
      unfold fiveD at *
      walk_at "evh"
    rw [hp, v_toS, v_nx, ht, v_fkN, e4]
    simp only [Pg.wr, rept, List.append_assoc]
theorem f_five_of : ∀ (n : Nat) (p : Pg), p.depth < n → p.ok → ∃ o, fn_five_of n [.lst (pgD p)] = .ok (fiveD (fiveF p.wr)) o
  | 0, p, h, _ => by omega
  | n + 1, p, h, ho => by
    obtain ⟨v2', v3', e2⟩ := five_items (d0 := .lst (pgD p)) (f_five_of n) p [] none none h ho okv_none okv_none
    rw [List.nil_append] at e2
    have e2' : forL (gVar 2) (fitSt (fn_five_of n)) (pgD p) [some (.lst (pgD p)), some (fiveD Five.none), none, none] = .nx [some (.lst (pgD p)), some (fiveD (fiveF p.wr)), v2', v3'] := e2
    rw [five_of_eq]
    clear e2
    unfold fiveD at *
    walk_at "evh"
    exact ⟨_, rfl⟩
end U
namespace TK
open PySem PySem.W PySem.Calls PyProof.Rows PySem.Spec L2
structure FnT (N : Nat) (P : Program) (w : World) (K : Frag) (mg : Str → Option Value) (base : Heap) (CX : CXT) (k : Nat) (f : Addr) (fd : FuncData) (ps : List Str) (sp : Sp) : Prop where
  len : ∀ vs H Q E, sp vs H Q E → vs.length = ps.length
  run : ∀ (A : Around) (outer : List PySem.Env) (s : Shared) (H : Hp) (args : Args) (us : List Value) (vs : List V) (Q : VK) (E : XK),
    N ≤ s.toks → A.guards = some [] → Room k A → Env0 P w K mg base A outer s H → BindsTo s fd args (ps.zip us) → Vals vs us → sp vs H Q E →
    codeAny (model P w) A (.call (.ref f) args) (CR CX outer P w H s Q E) s
theorem FnT.of {N : Nat} {P : Program} {w : World} {K : Frag} {mg : Str → Option Value} {base : Heap} {CX : CXT} {k : Nat} {f : Addr} {fd : FuncData} {ps : List Str} {sp : Sp} (F : FnOk P w K mg base CX k f fd ps sp) : FnT N P w K mg base CX k f fd ps sp :=
  ⟨F.len, fun A outer s H args us vs Q E _ _ => F.run A outer s H args us vs Q E⟩
abbrev EndT (s₁ : Shared) (r : Result) (s' : Shared) : Prop := r = .ok (.ret (.bool true)) ∧ OldK s₁.heap s'.heap ∧ s'.os = s₁.os ∧ AllBare s'.gens
section
variable {N : Nat} {P : Program} {w : World} {K : Frag} {mg mb : Str → Option Value} {CX : CXT} {k : Nat} {fa a : Addr} {fd : FuncData} {x : Str} {sp : Sp} {s₁ : Shared} {vs : List Value} {ns : List Int}
end
end TK
namespace PySem.W
open PySem PySem.Calls PyProof.Rows
abbrev WalkT (N : Nat) (q : Program) (loose : List Str) (XP : (Str → Option Value) → Heap → Prop) (YP : World → Heap → Prop) (r : RowW) (d : DefRec) (kwd : List (Str × Expr)) (run : Value → List Value → Sem Value) : Prop :=
  ∀ (w : World) (s₀ s₁ : Shared) (mg mb : Str → Option Value), N ≤ s₁.toks →
    Ground q loose r.records XP w s₀ mg mb s₁.heap → YP w s₁.heap →
    ∀ (a : Addr) (o : Obj) (pm cd doc dV kV : Value), s₁.heap.get? a = some o →
    o.data = .func { docDef d.name d.params d.body d.scope pm cd doc with defaults := dV, kwdefaults := kV } →
    s₁.heap.CodeRec cd d.name → Dflts mg s₁.heap d.params kwd dV kV → mg d.name = some (.ref a) → s₁.gens = #[] →
    ∀ (args : List WData) (vals : List Value) (as : List Addr), r.claim.pre args = true → WData.layableAll args = true →
      ReadsAllW r.records (classAt s₀.heap) s₁.heap vals args as → WellAll w.params s₁.heap vals args →
      (∀ a ∈ as, (a == sysModules) = false) →
      wpAny (model r.prog w) callerA (run (.ref a) vals)
        (fun v s' => GoodWG r.claim (classAt s₀.heap) (ExcName.means s₀.heap) args s₁ (.ok (.ret v)) s')
        (fun e s' => GoodWG r.claim (classAt s₀.heap) (ExcName.means s₀.heap) args s₁ (.error e) s') s₁
theorem holdsT {N : Nat} {r : OpenRow} {q : Program} {loose : List Str} {Xt : Shared → Bool} {XP : (Str → Option Value) → Heap → Prop} {α : Type} {Yf : Shared → α} {Ya : World → α} {YP : World → Heap → Prop} {d : DefRec} {kwd : List (Str × Expr)} {M : Nat}
    (left : LeftO r.prog q loose Xt Yf Ya M) (hY : ∀ w s, Yf s = Ya w → YP w s.heap) (hZ : ∀ w s, Yf s = Ya w → N ≤ s.toks)
    (hYk : ∀ w h h', YP w h → (∀ b o, h.get? b = some o → h'.get? b = some o) → YP w h') (hX : ∀ s, Xt s = true → XP (s.heap.nsMap mainGlobals) s.heap)
    (hXk : ∀ mg h h', XP mg h → (∀ b o, h.get? b = some o → h'.get? b = some o) → XP mg h') (hdef : defOf q r.name = some (d, kwd))
    (hp : r.prog.theDef r.name = some (d.params, d.body, d.scope)) (hk : kwWritten? d.params.kwonlyargs d.params.kw_defaults = some kwd)
    (hRf : ∀ s, Xt s = true → RecFacts r.records s.heap) (hwr : (!r.writes || r.records.isEmpty) = true) (k1 : r.wellSaid = true)
    (ok : (chainsOk q && opensWell r.prog && (frees r.toRowW && r.within.isEmpty)) = true) (hb : r.prog.bare) (hw : r.toRowW.promised)
    (call : WalkT N q loose XP YP r.toRowW d kwd fun f vs => PySem.call f vs) : r.Holds := by
  have o := Bool.and_eq_true_iff.mp ok
  have o1 := Bool.and_eq_true_iff.mp o.1
  have o5 := Bool.and_eq_true_iff.mp o.2
  obtain ⟨hsame, hu, ha, hap, hm⟩ := frees_parts o5.1
  have lb := fun w => left.behind (XP := fun mg h => XP mg h ∧ RecFacts r.records h) (fun s hs => ⟨hX s hs, hRf s hs⟩) o1.1 w
  refine ⟨k1, hw, ⟨⟨hb, o1.2, by show r.toRowW.makers.map _ = []; rw [hm]; rfl⟩, hw.witness, fun w => ⟨(left.behind hX o1.1 w).1, fun s' hs' => ?_⟩⟩⟩
  obtain ⟨s₀, hf, hg0, s, hT, hz, hgens, hg, GX, y⟩ := (lb w).2 s' hs'
  have G0 : Ground q loose [] XP w s (s.heap.nsMap mainGlobals) (s.heap.nsMap builtinsNs) s.heap := ⟨GX.T, GX.B, GX.D, GX.TE, GX.TD, GX.W, GX.X.1, GX.cls, GX.has, GX.apart, GX.once, GX.K⟩
  have RF := GX.X.2
  refine ⟨s₀, hf, hg0, s, hT, fun n hn => ?_, RF.1, RF.2.1, ?_⟩
  · obtain rfl : n = r.name := by split at hn <;> simp_all
    exact pinned_of_view hg G0 hdef hp hk
  have hgs : s.gens = #[] := Array.eq_empty_of_size_eq_zero (beq_iff_eq.mp hgens)
  have G : Ground q loose r.records XP w s _ _ s.heap := RF.ground G0
  refine ClaimW.callFrom_of_specG (c := r.toRowW.claim) hz hgs fun args hpre hlay ord hord => ?_
  obtain ⟨⟨vs, s₁⟩, hl⟩ := Option.isSome_iff_exists.mp (layAllW_isSome (P := w.params) (ord := ord) G.has args r.args s (pre_splitW hpre).1)
  have keeps := layAllW_keeps _ _ _ hl
  have rest := layAllW_rest _ _ _ hl
  have more := (layAllW_grows _ _ _ hl).toks
  obtain ⟨as, hrd, hin, hold⟩ := reads_layAllW hord _ _ _ hl hlay s₁.heap (fun _ _ e => e)
  have L : Laid r.records w s s₁ args vs as := ⟨⟨ord, hord, hl⟩, hrd, hin, hold, keeps, rest.1.trans hgs, rest.2.2.1⟩
  have G₁ := G.keeps hXk keeps
  obtain ⟨a, ob, pm, cd, doc, dV, kV, h1, h2, h3, h4, h5⟩ := G₁.fn hdef
  have h := call w s s₁ _ _ (Nat.le_trans (hZ w s y) more) G₁ (hYk _ _ _ (hY w s y) keeps) a ob pm cd doc dV kV h2 h3 h4 h5 (defOf_name hdef ▸ h1) L.gens args vs as hpre hlay L.reads L.well (L.low G.low)
  have hi := ident_freeW hu ha hap
  have hwi : r.toRowW.claim.within = [] := List.isEmpty_iff.mp o5.2
  refine ⟨vs, s₁, hl, ?_⟩
  have fin : ∀ (res : Result) (s2 : Shared), GoodWG r.claim (classAt s.heap) (ExcName.means s.heap) args s₁ res s2 →
      r.toRowW.claim.Ends s args vs s₁ res s2 ∧ s2.os = s.os ∧ AllBare s2.gens ∧ (r.writes = true → namesKept r.prog r.keeps s.heap s2.heap ∧ ∀ x : Str × List (Str × WShape), x ∈ r.records → ∀ a, classAt s.heap x.1 = some a → recordClass s2.heap a x.1 (x.2.map fun y => y.1) = true) := fun res s2 g => by
    have z := g.laid (c := r.toRowW.claim) hsame hwi hi L
    exact ⟨z.1, z.2.1, z.2.2, fun q => ⟨namesKept_of hT hg r.keeps keeps g.2.1.old, noTable hwr q⟩⟩
  refine wpAny_bind (wpAny_nsGet G₁.T.g ?_)
  rw [h1]
  refine wpAny_bind (wpAny_mono h (fun v s2 g => ?_) fun e s2 g => fin _ _ g)
  exact wpAny_pure ⟨_, rfl, fin _ _ g⟩
end PySem.W
namespace TK
open PySem PySem.W PySem.Calls PyProof.Rows PySem.Spec L2 HandSHeadRun
theorem headT {N : Nat} {r : OpenRow} {q : Program} {H : Hook} {ob : SharedT → H.α} {M : Nat} {loose : List PySem.Str} {d : DefRec} {kwd : List (PySem.Str × PySem.Expr)} (ho : ∀ s : SharedT, ob s = H.obs s.abs)
    (hZ : ∀ w s, H.obs s = H.val w → N ≤ s.toks) (e : opening r.prog = plainProg r.prog.main.scope.names) (f : ∀ s, fenceModules? r.prog s = some s)
    (run : ∀ w, RunEq r q H ob M loose w) (hdef : defOf q r.name = some (d, kwd)) (hp : r.prog.theDef r.name = some (d.params, d.body, d.scope))
    (hk : kwWritten? d.params.kwonlyargs d.params.kw_defaults = some kwd) (hwr : (!r.writes || r.records.isEmpty) = true) (k1 : r.wellSaid = true)
    (ok : (chainsOk q && opensWell r.prog && (frees r.toRowW && r.within.isEmpty)) = true) (hb : r.prog.bare) (hw : r.toRowW.promised)
    (call : WalkT N q loose (XL q []) H.says r.toRowW d kwd fun f vs => PySem.call f vs) : r.Holds := by
  obtain rfl : ob = fun s => H.obs s.abs := funext ho
  have big : M + 60 ≤ M + 600 := by omega
  have left : LeftO r.prog q loose (fun s => xlAt q [] s && recOk r.toRowW.records s) H.obs H.val (M + 600) true := by
    refine left_one (M := M) e (Nat.ble_eq_true_of_le (by omega)) f (Nat.ble_eq_true_of_le (by omega)) fun w os => ?_
    have z := run w os
    simp only [endQ_eq, seenQ_eq]
    exact z
  refine holdsT (N := N) left H.of hZ H.keeps (fun s z => ?_) XL.keeps hdef hp hk (fun s z => ?_) hwr k1 ok hb hw call
  · exact xl_of s (Bool.and_eq_true_iff.mp z).1
  · exact recFacts_of (Bool.and_eq_true_iff.mp z).2
end TK
namespace TK
open PySem PySem.W PySem.Calls PyProof.Rows PySem.Spec L2
structure JE (N : Nat) (X : Cx) (e : Expr) (t : TE) : Prop where
  run : ∀ (pins : List (Addr × Obj)) (s : Shared) (σ : L2.St) (H : Hp) (Q : VK), N ≤ s.toks → Inv X pins σ H s → t σ H Q → wpAny (model X.prog X.w) X.A (eval e X.env) (EP X pins σ Q) X.xe s
structure JT (N : Nat) (X : Cx) (e : Expr) (t : TT) : Prop where
  run : ∀ (pins : List (Addr × Obj)) (s : Shared) (σ : L2.St) (H : Hp) (Q : Bool → Hp → Prop), N ≤ s.toks → Inv X pins σ H s → t σ H Q → wpAny (model X.prog X.w) X.A (isTrue e X.env (eval e X.env)) (TP X pins σ Q) X.xe s
structure JW (N : Nat) (X : Cx) (e : Expr) (t : TT) : Prop where
  run : ∀ (whole : Sem Value) (pins : List (Addr × Obj)) (s : Shared) (σ : L2.St) (H : Hp) (Q : Bool → Hp → Prop), N ≤ s.toks → Inv X pins σ H s → t σ H Q → wpAny (model X.prog X.w) X.A (isTrue e X.env whole) (TP X pins σ Q) X.xe s
structure JS (N : Nat) (X : Cx) (st : Stmt) (t : TS) : Prop where
  run : ∀ (pins : List (Addr × Obj)) (s : Shared) (σ : L2.St) (H : Hp) (D : Ends), N ≤ s.toks → Inv X pins σ H s → t D σ H → wpAny (model X.prog X.w) X.A (exec st X.env) (SP X pins D) X.xe s
structure JSs (N : Nat) (X : Cx) (st : List Stmt) (t : TS) : Prop where
  run : ∀ (pins : List (Addr × Obj)) (s : Shared) (σ : L2.St) (H : Hp) (D : Ends), N ≤ s.toks → Inv X pins σ H s → t D σ H → wpAny (model X.prog X.w) X.A (execs st X.env) (SP X pins D) X.xe s
theorem on {α : Type} {M : Model} {A : Around} {E : Value → Shared → Prop} {t : Sem α} {Q R : α → Shared → Prop} {s : Shared} {N : Nat} (hn : N ≤ s.toks) (h : wpAny M A t Q E s) (k : ∀ a s', N ≤ s'.toks → Q a s' → R a s') : wpAny M A t R E s :=
  wpAny_mono (wpAny_toks_of hn h) (fun a s' x => k a s' x.1 x.2) fun _ _ x => x.2
section
variable {N : Nat} {X : Cx}
theorem je_of {e : Expr} {t : TE} (h : PE X e t) : JE N X e t := ⟨fun pins s σ H Q _ => h.run pins s σ H Q⟩
theorem jt_of {e : Expr} {t : TT} (h : PT X e t) : JT N X e t := ⟨fun pins s σ H Q _ => h.run pins s σ H Q⟩
theorem js_of {st : Stmt} {t : TS} (h : PS X st t) : JS N X st t := ⟨fun pins s σ H D _ => h.run pins s σ H D⟩
theorem jss_of {st : List Stmt} {t : TS} (h : PSs X st t) : JSs N X st t := ⟨fun pins s σ H D _ => h.run pins s σ H D⟩
theorem JE.weak {e : Expr} {t u : TE} (h : JE N X e t) (k : ∀ σ H Q, u σ H Q → t σ H Q) : JE N X e u := ⟨fun pins s σ H Q n I q => h.run pins s σ H Q n I (k _ _ _ q)⟩
theorem JT.weak {e : Expr} {t u : TT} (h : JT N X e t) (k : ∀ σ H Q, u σ H Q → t σ H Q) : JT N X e u := ⟨fun pins s σ H Q n I q => h.run pins s σ H Q n I (k _ _ _ q)⟩
theorem JW.weak {e : Expr} {t u : TT} (h : JW N X e t) (k : ∀ σ H Q, u σ H Q → t σ H Q) : JW N X e u := ⟨fun wh pins s σ H Q n I q => h.run wh pins s σ H Q n I (k _ _ _ q)⟩
theorem JS.weak {st : Stmt} {t u : TS} (h : JS N X st t) (k : ∀ D σ H, u D σ H → t D σ H) : JS N X st u := ⟨fun pins s σ H D n I q => h.run pins s σ H D n I (k _ _ _ q)⟩
theorem JSs.weak {st : List Stmt} {t u : TS} (h : JSs N X st t) (k : ∀ D σ H, u D σ H → t D σ H) : JSs N X st u := ⟨fun pins s σ H D n I q => h.run pins s σ H D n I (k _ _ _ q)⟩
theorem JW.test {e : Expr} {t : TT} (h : JW N X e t) : JT N X e t := ⟨fun pins s σ H Q n I q => h.run _ pins s σ H Q n I q⟩
theorem jss_nil : JSs N X [] tNext := jss_of pss_nil
theorem jss_cons {st : Stmt} {rest : List Stmt} {t u : TS} (a : JS N X st t) (b : JSs N X rest u) : JSs N X (st :: rest) (tSeq t u) := by
  refine ⟨fun pins s σ H D n I h => wpAny_execs_cons (on n (a.run pins s σ H { D with nx := u D } n I h) fun f s1 n1 q => ?_)⟩
  match f, q with
  | .next, ⟨σ', H', I', q⟩ => exact b.run pins s1 σ' H' D n1 I' q
  | .ret v, q => exact q
  | .brk, q => exact q
  | .cont, q => exact q
theorem js_if {c : Expr} {a b : List Stmt} {pos : Pos} {tc : TT} {t u : TS} (hc : JT N X c tc) (ha : JSs N X a t) (hb : JSs N X b u) : JS N X (.If c a b pos) (tIfS tc t u) := by
  refine ⟨fun pins s σ H D n I h => wpAny_If (on n (hc.run pins s σ H _ n I h) fun d s1 n1 q => ?_)⟩
  obtain ⟨H1, I1, q1⟩ := q
  cases d with
  | true => exact ha.run pins s1 σ H1 D n1 I1 q1
  | false => exact hb.run pins s1 σ H1 D n1 I1 q1
theorem js_expr {e : Expr} {pos : Pos} {te : TE} (he : JE N X e te) (hs : swapsWith e none pos.line X.env = pure false := by rfl) : JS N X (.Expr e pos) (tDrop te) :=
  ⟨fun pins s σ H D n I h => wpAny_Expr_any (thn (he.run pins s σ H _ n I h) fun _ _ z => let ⟨_, H1, I1, _, q1⟩ := z; ⟨σ, H1, I1, q1⟩) I.quiet hs⟩
theorem js_set {i : Nat} {x : Str} {e : Expr} {te : TE} {pos pos' : Pos} (hN : X.N.Nodup) (hi : X.N[i]? = some x) (hx : Loc X.env.scope x) (he : JE N X e te)
    (hs : swapsWith e (some (.Name x pos')) pos.line X.env = pure false := by rfl) (hf : X.fn x = true ∨ X.env.scope.names.lookup x = some .local := by first | exact .inl rfl | exact .inr rfl | assumption) :
    JS N X (.Assign [.Name x pos'] e pos) (tAsg te (gName i)) := by
  refine ⟨fun pins s σ H D n I h => wpAny_Assign_Name (thn (he.run pins s σ H _ n I h) fun v s1 z => ?_) hs⟩
  obtain ⟨y, H1, I1, r1, q1⟩ := z
  exact store_ok I1 hN hi hx r1 (fun s2 I2 => ⟨_, H1, I2, q1⟩) hf
theorem jt_cmp {a b : Expr} {op : CmpOp} {r : R2} {ta tb : TE} {pos : Pos} (ho : OpR X (compareOp op) r) (ha : JE N X a ta) (hb : JE N X b tb) (hm : behindInMarks op b = false) : JT N X (.Compare a [op] [b] pos) (tTest (tOp r ta tb)) := by
  refine ⟨fun pins s σ H Q n I h => wpAny_isTrue_Compare1 (on n (ha.run pins s σ H _ n I h) fun v s1 n1 z => ?_) hm⟩
  obtain ⟨x, H1, I1, r1, q1⟩ := z
  refine thn (hb.run pins s1 σ H1 _ n1 I1 q1) fun u s2 z => ?_
  obtain ⟨y, H2, I2, r2, q2⟩ := z
  refine thn (ho pins s2 σ H2 x y v u _ I2 r1 r2 q2) fun c s3 z => ?_
  obtain ⟨zz, H3, I3, r3, k, e, q3⟩ := z
  subst e
  cases r3
  exact wpAny_truthy_bool ⟨H3, I3, q3⟩
theorem jw_or1 {a : Expr} {pos : Pos} {tA : TT} (ha : JT N X a tA) : JW N X (.BoolOp .Or [a] pos) tA := by
  refine ⟨fun _ pins s σ H Q n I h => isTrue_or (thn (ha.run pins s σ H Q n I h) fun c s1 z => ?_)⟩
  cases c with
  | true => exact z
  | false => exact isTrue_or_nil z
theorem jw_or {a b : Expr} {rest : List Expr} {pos : Pos} {tA tB : TT} (ha : JT N X a tA) (hb : JW N X (.BoolOp .Or (b :: rest) pos) tB) : JW N X (.BoolOp .Or (a :: b :: rest) pos) (tOr tA tB) := by
  refine ⟨fun wh pins s σ H Q n I h => isTrue_or (on n (ha.run pins s σ H _ n I h) fun c s1 n1 z => ?_)⟩
  obtain ⟨H1, I1, q1⟩ := z
  cases c with
  | true => exact ⟨H1, I1, q1⟩
  | false => exact hb.run wh pins s1 σ H1 Q n1 I1 q1
theorem jt_not {a : Expr} {pos : Pos} {tA : TT} (ha : JT N X a tA) : JT N X (.UnaryOp .Not a pos) (tNot tA) :=
  ⟨fun pins s σ H Q n I h => isTrue_not (ha.run pins s σ H (fun c H1 => Q (!c) H1) n I h)⟩
end
section
variable {N : Nat} {X : Cx} {CX : CXT} {k : Nat} {f : Addr} {fd : FuncData} {ps : List Str} {sp : Sp} {dvs : List V} {ds : List Value} {E : L2.St → XK} {x : Str} {p pos : Pos} {e : Expr} {es : List Expr} {t : TA}
theorem run_fnT {pins : List (Addr × Obj)} {σ : L2.St} {H : Hp} {s : Shared} {Q : VK} {us : List Value} {vs : List V} (F : FnT N X.prog X.w X.K X.mg X.base CX k f fd ps sp) (n : N ≤ s.toks) (hg : X.A.guards = some []) (hr : Room k X.A)
    (hb : Binds X.K fd ps ds) (hd : Vals dvs ds) (hx : PassesAt CX X σ (E σ)) (I : Inv X pins σ H s) (r : Vals vs us) (h : sp (vs ++ dvs) H Q (E σ)) : wpAny (model X.prog X.w) X.A (call (.ref f) us) (EP X pins σ Q) X.xe s := by
  have rr : Vals (vs ++ dvs) (us ++ ds) := r.append hd
  have hl : (us ++ ds).length = ps.length := rr.length.symm.trans (F.len _ _ _ _ h)
  have z := F.run X.A X.stack s H ⟨us, []⟩ (us ++ ds) (vs ++ dvs) Q (E σ) n hg hr I.env0 (hb s us I.kIn hl) rr h
  refine wpAny_call (codeAny_mono z fun res s' q => ?_)
  match res, q with
  | .error er, q => exact hx pins H s er s' I q
  | .ok (.ret u), q => exact I.after q
  | .ok .next, q => exact q.elim
  | .ok .brk, q => exact q.elim
  | .ok .cont, q => exact q.elim
theorem je_call (F : FnT N X.prog X.w X.K X.mg X.base CX k f fd ps sp) (hG : X.A.guards = some []) (hr : Room k X.A) (hg : Gl X x) (hm : X.mg x = some (.ref f)) (hk : PySem.W.keepIn X.K (.ref f) = true) (hb : ∃ ds, Vals dvs ds ∧ Binds X.K fd ps ds)
    (hx : ∀ σ, PassesAt CX X σ (E σ)) (ha : PA X (e :: es) t) (hdb : (x == ("__debug__" : Str)) = false := by decide) (he : starEach (e :: es) X.env = (false, eval e X.env) :: starEach es X.env := by rfl) (hpl : (backTo pos (starEach es X.env)).any (·.1) = false := by rfl) :
    JE N X (.Call (.Name x p) (e :: es) [] pos) (tCallSD sp dvs E t) := by
  obtain ⟨ds, hd, hb⟩ := hb
  refine ⟨fun pins s σ H Q n I h => wpAny_Call_Name_kw (ld_glob I hg hm ?_ hdb)⟩
  refine PySem.W.callWith_K (h₀ := X.base) I.ok.mod.kin hk (on n (ha.run pos pins s σ H _ I h) fun us s1 n1 z => ?_) he hpl
  obtain ⟨vs, H1, I1, r, q⟩ := z
  exact ⟨I1.kIn, run_fnT F n1 hG hr hb hd (hx σ) I1 r q⟩
end
section
variable {N : Nat} {X : Cx}
theorem js_for {tg iter : Expr} {body : List Stmt} {wi : TI} {g : TG} {tb : TS} {pos : Pos} (hp : PassesOwn (model X.prog X.w) X.A X.env X.xe) (hc : X.calm = true)
    (hi : PI X tg iter wi) (hg : PG X tg g) (hb : JSs N X body tb) (hs : ∀ x, foldedSetIterable iter X.env x = pure x := by intro _; rfl) : JS N X (.For tg iter body [] pos) (tFor wi g tb) := by
  refine ⟨fun pins s σ H D n I h => wpAny_For (on n (hi.run pins s σ H _ I h) fun v s1 n1 h1 => on n1 h1 fun itv s2 n2 h2 => ?_) hs⟩
  obtain ⟨it, fp, tn, J, H2, rfl, I2, T, st2, f2, W, ⟨m0, w0⟩, turn⟩ := h2
  have free : ∀ {H' : Hp}, (∀ b ∈ fp, H' b = none) → ∀ b ∈ fp, FpOk X pins H' b := fun z b hb => ⟨z b hb, (f2 b hb).2⟩
  refine codeAny_forLoop_any (fun m s' => N ≤ s'.toks ∧ ∃ i σ' H', Inv X pins σ' H' s' ∧ tn i s'.heap ∧ (∀ b ∈ fp, H' b = none) ∧ W i m σ' H') ?_ m0 ⟨n2, 0, σ, H2, I2, st2, fun b hb => (f2 b hb).1, w0⟩
  rintro m s3 ⟨n3, i, σ3, H3, I3, st3, fr3, w3⟩
  rcases turn i m σ3 H3 w3 with ⟨stop, qn⟩ | ⟨go, Nx, hN, step⟩
  · refine wpAny_passesOwn hp (thn (T.done X rfl rfl rfl hc i pins s3 σ3 H3 X.xe I3 (free fr3) st3 stop) fun r s4 z => ?_)
    obtain ⟨rfl, I4⟩ := z
    exact wpAny_execs_nil ⟨σ3, H3, I4, qn⟩
  refine wpAny_passesOwn hp (on n3 (T.item X rfl rfl rfl hc i pins s3 σ3 H3 X.xe I3 (free fr3) st3 go) fun r s4 n4 z => ?_)
  obtain ⟨u, rfl, h4⟩ := z
  refine wpAny_passesOwn hp (on n4 h4 fun _ s5 n5 z => ?_)
  obtain ⟨x, H5, I5, r5, y5, st5, fr5⟩ := z
  have J5 := I5.pinned (free fr5) (T.obj _ _ st5)
  refine wpAny_passesOwn hp (on n5 (hg.run _ s5 σ3 H5 x u _ J5 r5 (step x H5 y5)) fun _ s6 n6 z => ?_)
  obtain ⟨σ6, H6, I6, q6⟩ := z
  refine wpAny_passesOwn hp (on n6 (hb.run _ s6 σ6 H6 _ n6 I6 q6) fun f s7 n7 q7 => ?_)
  have back : ∀ {σ7 : L2.St} {H7 : Hp}, Inv X (pins ++ pinsAt fp s5.heap) σ7 H7 s7 → Nx σ7 H7 →
      ∃ m', m' < m ∧ N ≤ s7.toks ∧ ∃ i σ' H', Inv X pins σ' H' s7 ∧ tn i s7.heap ∧ (∀ b ∈ fp, H' b = none) ∧ W i m' σ' H' := fun {σ7 H7} I7 z => by
    obtain ⟨m', hm, w7⟩ := hN σ7 H7 z
    have pin : ∀ b ∈ fp, ∀ o, s5.heap.get? b = some o → s7.heap.get? b = some o ∧ H7 b = none := fun b hb o e =>
      let y := I7.pin (b, o) (List.mem_append_right _ (List.mem_append_right _ (mem_pinsAt hb e)))
      ⟨y.1, y.2.1⟩
    refine ⟨m', hm, n7, i + 1, σ7, H7, I7.unpinned, T.keep _ _ _ st5 fun b hb o e => (pin b hb o e).1, fun b hb => ?_, w7⟩
    obtain ⟨o, e, _⟩ := T.obj _ _ st5 b hb
    exact (pin b hb o e).2
  match f, q7 with
  | .next, ⟨σ7, H7, I7, z⟩ => exact back I7 z
  | .cont, ⟨σ7, H7, I7, z⟩ => exact back I7 z
  | .brk, ⟨σ7, H7, I7, z⟩ => exact ⟨σ7, H7, I7.unpinned, z⟩
  | .ret v, ⟨x7, σ7, H7, I7, r7, z⟩ => exact ⟨x7, σ7, H7, I7.unpinned, r7, z⟩
def tRepT (to : TE) (y z : Str) : TE := fun σ H Q => to σ H fun v H1 => ∃ x, v = .str x ∧ x.length + (x.length + 1) * z.length ≤ 16777216 ∧ Q (.str (Txt.replace x y z)) H1
theorem je_replG {o : Expr} {to : TE} {nm y z : Str} {t0 : Tok} {j : Nat} {c1 pn apos pos : Pos} (ho : PE X o to) (hyz : (y == z) = false) (hg : Gl X nm) (hm : X.mg nm = some (.str y t0)) (h0 : t0 ≠ 0) (hN : t0 < N)
    (hd : (nm == ("__debug__" : Str)) = false := by decide)
    (hst : starEach [.Name nm pn, .Constant (.str z) j c1] X.env = [(false, eval (.Name nm pn) X.env), (false, eval (.Constant (.str z) j c1) X.env)] := by rfl)
    (hbase : attributeBase o "replace" X.env (eval o X.env) = eval o X.env := by rfl) (hline : (apos.endLine == pos.line) = true := by rfl) :
    JE N X (.Call (.Attribute o "replace" apos) [.Name nm pn, .Constant (.str z) j c1] [] pos) (tRepT to y z) := by
  refine ⟨fun pins s σ H Q n I h => PySem.Call_method2 hbase hst hline (on n (ho.run pins s σ H _ I h) fun v s1 n1 q => ?_)⟩
  obtain ⟨v', H1, I1, r1, x, rfl, hb, q⟩ := q
  obtain ⟨tx, rfl⟩ := r1
  refine ⟨"str", _, PySem.F.plainAttrs_str, PySem.F.slot_str_replace, PySem.F.type_str_replace, typeIs_str _ _ _, (fun _ e => nomatch e), Calls.callWith_builtin rfl (Calls.evalArgs_plain (Calls.spliced_cons ?_))⟩
  refine ld_glob I1 hg hm (Calls.spliced_cons (Calls.Constant_str (Calls.spliced_nil ?_))) hd
  have ht : t0 < s1.toks := Nat.lt_of_lt_of_le hN n1
  refine PySem.SC.replace h0 (Nat.ne_of_gt (Nat.lt_of_le_of_lt (Nat.zero_le _) ht)) (Nat.ne_of_lt ht) hyz hb fun t' k => ?_
  exact ⟨.str (Txt.replace x y z), H1, I1.tok k, ⟨t', rfl⟩, q⟩
end
end TK
namespace TK
open PySem PySem.W PySem.Calls PyProof.Rows PySem.Spec L2
section
variable {T : Nat} {P : Program} {w : World} {K : Frag} {mg : Str → Option Value} {base : Heap} {CX : CXT} {k : Nat} {f : Addr} {fd : FuncData} {N ps : List Str} {sp : Sp} {x qual : Str} {params : Arguments} {body : List Stmt} {scope : Scope} {dvs : List V} {kws : List (Str × V)}
theorem fnT_ok (Fd : FunD K x qual params body scope dvs kws f fd) (S : FnScope N ps scope) (len : ∀ vs H Q E, sp vs H Q E → vs.length = ps.length)
    (hbody : ∀ (cdv : Value) (A : Around) (outer : List PySem.Env) (s : Shared) (H : Hp) (vs : List V) (Q : VK) (E : XK), A.guards = some [] → Room k (A.deeper (envOfC qual scope s.heap.objs.size f cdv)) → sp vs H Q E →
      ∃ t, JSs T (cxOf CX P w K mg base N qual scope f cdv A outer s H E) body t ∧ t { nx := fun _ H' => Q .non H', rt := Q } (start N vs) H) : FnT T P w K mg base CX (k + 1) f fd ps sp := by
  obtain ⟨oc, od, dV, kV, doc, pm, an, cdv, ct, osl, rfl, lk, hcd, _, _⟩ := Fd.ex
  refine ⟨len, fun A outer s H args us vs Q E hT hG hr e0 hb r hsp => ?_⟩
  have hl := len _ _ _ _ hsp
  have KX : K.In s.heap := e0.mod.kin.keeps fun b o e => (e0.bs b o e).1
  have lim : s.heap.NoLimit := e0.mod.nolimit.keeps fun b o e => (e0.bs b o e).1
  have kinds : ∀ y ∈ ps.zip us, scope.names.lookup y.1 = some .local ∨ (scope.names.lookup y.1 = some .cell ∧ ((cellsFrom (s.heap.objs.size + 1) scope.names []).lookup y.1).isSome = true) := fun y hy => by
    rcases S.par y.1 (List.of_mem_zip hy).1 with q | q
    · exact .inl q
    · exact .inr ⟨q, PySem.W.cellsFrom_some _ _ _ (.inl q)⟩
  refine codeAny_call_function hr.depth (KX _ _ lk) rfl S.co S.gen rfl (PySem.W.codeRec_of KX hcd) (hb _ _ _ _ ?_)
  refine on hT (wpAny_newFunctionEnv_cells (Q := fun env s1 => env = envOfC qual scope s.heap.objs.size f cdv ∧ InCallC s _ _ _ _ s1) S.kind kinds fun env he s1 x => ⟨he, x⟩) fun env s1 n1 z => ?_
  obtain ⟨rfl, x⟩ := z
  refine ⟨lim.keeps x.toInCall.keep, codeAny_func ?_⟩
  obtain ⟨t, ht, hq⟩ := hbody cdv A outer s H vs Q E hG (hr.deeper _) hsp
  have I : Inv (cxOf CX P w K mg base N qual scope f cdv A outer s H E) [] (start N vs) H s1 := inv_start S hr.hd e0 hl r x
  refine thn (ht.run [] s1 (start N vs) H _ n1 I hq) fun fl s' hs => ?_
  match fl, hs with
  | .ret u, ⟨v, σ', H', J, rv, q⟩ => exact ⟨v, H', J.os, J.bare, J.base, J.hok, rv, q⟩
  | .next, ⟨σ', H', J, q⟩ => exact ⟨.non, H', J.os, J.bare, J.base, J.hok, rfl, q⟩
  | .brk, ⟨_, _, _, q⟩ => exact q.elim
  | .cont, ⟨_, _, _, q⟩ => exact q.elim
end
end TK
namespace U
open PySem PySem.Spec PyProof.Rows L2 TK
section
variable {N : Nat} {X : Cx} {e : Expr} {B : Bx} {W : WX} {f g k : E} {st : Stmt}
abbrev DET (N : Nat) (X : Cx) (B : Bx) (W : WX) (e : Expr) (f : E) : Prop := JE N X e (tDE X.K B W f)
abbrev DMT (N : Nat) (X : Cx) (B : Bx) (W : WX) (e : Expr) (f : E) : Prop := JE N X e (tDM X.K B W f)
abbrev DTT (N : Nat) (X : Cx) (B : Bx) (W : WX) (e : Expr) (f : E) : Prop := JT N X e (tDT X.K B W f)
abbrev DST (N : Nat) (X : Cx) (B : Bx) (W : WX) (st : Stmt) (f : U.St) : Prop := JS N X st (tDS X.K B W f)
abbrev DSsT (N : Nat) (X : Cx) (B : Bx) (W : WX) (st : List Stmt) (f : U.St) : Prop := JSs N X st (tDS X.K B W f)
theorem dT_frz (h : DMT N X B W e f) : DET N X B W e (eFrz f) := h.weak w_frz
theorem dT_dm (h : DET N X B W e f) : DMT N X B W e f := h.weak w_dm
theorem dT_call {fn : Fn} {gs : List Ag} {dd : List D} {dvs : List V} (hd : ∀ F H, RVs X.K F H dvs dd) (h : JE N X e (tCallSD (spD X.K fn) dvs (WE W) (tDG X.K B W gs))) : DMT N X B W e (eCall fn gs dd) := h.weak (w_call hd)
variable {b c : U.St}
theorem sT_cons {sts : List Stmt} (h : DST N X B W st b) (hr : DSsT N X B W sts c) : DSsT N X B W (st :: sts) (sSeq b c) := (jss_cons h hr).weak w_seq
theorem sT_one (h : DST N X B W st b) : DSsT N X B W [st] b := (jss_cons h jss_nil).weak fun _ _ _ q => q
theorem sT_drop (h : JS N X st (tDrop (tDM X.K B W f))) : DST N X B W st (sDrop f) := h.weak w_drop
theorem sT_if (h : JS N X st (tIfS (tDT X.K B W k) (tDS X.K B W b) (tDS X.K B W c))) : DST N X B W st (sIf k b c) := h.weak w_ifs
theorem sT_set {i : Nat} (h : JS N X st (tAsg (tDM X.K B W f) (gName i))) : DST N X B W st (sSet i f) := h.weak w_set
theorem sT_for {it : Is} {gt : Tg} {tg : TG} {ks : List Nat} (hg : WG X.K B ks gt tg) (h : JS N X st (tFor (tDI X.K B W it) tg (tDS X.K B W b))) : DST N X B W st (sFor it gt b) := h.weak (w_for hg)
end
def oDel (c : Nat) : D → Option D
  | .str l => if l.length ≤ cap then some (.str (l.filter fun x => decide (x ≠ c))) else none
  | _ => none
theorem replL_del (c : Nat) : ∀ l : List Nat, PySem.StrLaws.replL [c] [] l = l.filter fun x => decide (x ≠ c)
  | [] => PySem.StrLaws.replL_nil
  | x :: l => by
    by_cases h : x = c
    · rw [PySem.StrLaws.replL_hit (by simp) (by rw [h]; rfl), List.filter_cons_of_neg (by simpa using h)]
      exact replL_del c l
    · have hne : ¬ (x :: l).take [c].length = [c] := fun z => h (List.cons.inj (show [x] = [c] from z)).1
      rw [PySem.StrLaws.replL_miss hne, List.filter_cons_of_pos (by simpa using h), replL_del c l]
theorem replace_del (c : Nat) (l : List Nat) : Txt.replace (S l) (S [c]) (S []) = S (l.filter fun x => decide (x ≠ c)) := by
  have h := PySem.StrLaws.replace_list (x := S l) (y := S [c]) (z := S []) (by rw [S_length]; exact Nat.le_refl 1)
  have e : (Txt.replace (S l) (S [c]) (S [])).cps.toList = l.filter fun x => decide (x ≠ c) := h.trans (replL_del c l)
  rw [← e]
  obtain ⟨a⟩ := Txt.replace (S l) (S [c]) (S [])
  simp [S]
theorem p_del {K : PySem.W.Frag} {c : Nat} : P1 K (oDel c) (fun v H Q => ∃ x : Str, v = .str x ∧ x.length + (x.length + 1) * (S []).length ≤ 16777216 ∧ Q (.str (Txt.replace x (S [c]) (S []))) H) := by
  intro F H x a d Q ra e q
  unfold oDel at e
  split at e
  · rename_i l
    split at e
    · rename_i hz
      cases e
      simp only [RV] at ra
      obtain ⟨rfl, hc⟩ := ra
      refine ⟨_, rfl, by rw [S_length, S_length]; exact hz, ?_⟩
      rw [replace_del]
      exact q _ F H Grow.refl (RV.strS fun y hy => hc y (List.mem_filter.mp hy).1)
    · cases e
  · cases e
section
variable {N : Nat} {X : Cx} {B : Bx} {W : WX} {f : E} {o : Expr} {c : Nat}
theorem dT_delG {nm z : Str} {j : Nat} {c1 pn apos pos : Pos} (ho : DE X B W o f) (hg : Gl X nm) (hm : ∃ t0 : Tok, X.mg nm = some (.str (S [c]) t0) ∧ t0 ≠ 0 ∧ t0 < N) (hz : z = S [])
    (hd : (nm == ("__debug__" : Str)) = false := by decide)
    (hst : starEach [.Name nm pn, .Constant (.str z) j c1] X.env = [(false, eval (.Name nm pn) X.env), (false, eval (.Constant (.str z) j c1) X.env)] := by rfl)
    (hbase : attributeBase o "replace" X.env (eval o X.env) = eval o X.env := by rfl) (hline : (apos.endLine == pos.line) = true := by rfl) :
    DET N X B W (.Call (.Attribute o "replace" apos) [.Name nm pn, .Constant (.str z) j c1] [] pos) (eUn (oDel c) f) := by
  subst hz
  obtain ⟨t0, h1, h2, h3⟩ := hm
  exact (je_replG ho (by rfl) hg h1 h2 h3 hd hst hbase hline).weak (w_un p_del)
end
theorem sp_body {K : PySem.W.Frag} {b : U.St} {n m : Nat} {N ps : List Str} {vs : List V} {H : Hp} {Q : VK} {E : XK} (hn : ps.length = n) (hN : N.length = n + m) (h : spD K (fnOf n m b) vs H Q E) :
    ∃ B : Bx, tDS K B (fun cls d _ H => E cls d H) b { nx := fun _ H' => Q .non H', rt := Q } (L2.start N vs) H := by
  obtain ⟨F, ds, A', B, o, nd, nf, dm, h⟩ := h
  refine ⟨B, ?_⟩
  unfold fnOf at h
  by_cases c : ds.length = n
  case neg => rw [if_neg c] at h; exact h.elim
  case pos =>
    rw [if_pos c] at h
    have hl := o.len
    have es : L2.start N vs = vs.map some ++ List.replicate m none := by
      unfold L2.start
      rw [hN, hl, c, Nat.add_sub_cancel_left]
    refine ⟨F, ds.map some ++ List.replicate m none, A', ⟨by rw [es]; exact o.start m, nd, nf, dm⟩, ?_⟩
    have fin : ∀ {ρ : Env} {σ' : L2.St} {F' : Fz} {H' : Hp} {A2 : List Addr}, Rep K F' H' B σ' ρ A2 → ∃ A3 A4, A2 = A3 ++ A4 ∧ OVS K F' H' B (σ'.take n) (ρ.take n) A3 := fun r => r.sl.take n
    cases e : b (ds.map some ++ List.replicate m none) with
    | bad => rw [e] at h; exact h
    | bk ρ => rw [e] at h; exact h.elim
    | ct ρ => rw [e] at h; exact h.elim
    | nx ρ =>
      rw [e] at h
      intro σ' F' H' A2 r st _
      obtain ⟨A3, A4, rfl, o3⟩ := fin r
      have nd' := r.nd
      simp only [List.nodup_append] at nd'
      exact h .non F' H' _ A3 [] o3 (by simpa using nd'.1) (fun a ha => r.nf a (List.mem_append_left _ (by simpa using ha))) r.dm (by simp only [OV, RV]; exact ⟨trivial, trivial⟩) (st.sub fun a ha => List.mem_append_left _ (by simpa using ha))
    | rt d ρ =>
      rw [e] at h
      intro v σ' F' H' A2 Ar r ov nda nfa st _
      obtain ⟨A3, A4, rfl, o3⟩ := fin r
      simp only [List.nodup_append, List.mem_append] at nda
      refine h v F' H' _ A3 Ar o3 ?_ (fun a ha => ?_) r.dm ov (st.sub fun a ha => ?_)
      · simp only [List.nodup_append]
        exact ⟨nda.1.1, nda.2.1, fun a ha b hb => nda.2.2 a (.inl ha) b hb⟩
      · rcases List.mem_append.mp ha with z | z
        · exact r.nf a (List.mem_append_left _ z)
        · exact nfa a z
      · simp only [List.mem_append] at ha ⊢
        exact ha.elim (fun z => .inl (.inl z)) .inr
    | ex x ρ =>
      rw [e] at h
      intro cls dd σ' F' H' A2 r xv st _
      obtain ⟨A3, A4, rfl, o3⟩ := fin r
      have nd' := r.nd
      simp only [List.nodup_append] at nd'
      exact h cls dd F' H' _ A3 o3 nd'.1 (fun a ha => r.nf a (List.mem_append_left _ ha)) r.dm xv (st.sub fun a ha => List.mem_append_left _ ha)
theorem fn_okT {T : Nat} {P : Program} {w : World} {K : PySem.W.Frag} {mg : Str → Option Value} {base : Heap} {x qual : Str} {params : Arguments} {body : List Stmt} {scope : Scope} {dvs : List V} {kws : List (Str × V)} {f : Addr} {fd : FuncData} {N ps : List Str} {k n m : Nat} {b : U.St}
    (Fd : FunD K x qual params body scope dvs kws f fd) (S : FnScope N ps scope) (hn : ps.length = n) (hN : N.length = n + m)
    (hb : ∀ (cdv : Value) (A : Around) (outer : List PySem.Env) (s : Shared) (H : Hp) (E : XK) (B : Bx), A.guards = some [] → Room k (A.deeper (envOfC qual scope s.heap.objs.size f cdv)) →
      JSs T (cxOf (L2.CX P w) P w K mg base N qual scope f cdv A outer s H E) body (tDS K B (fun cls d _ H => E cls d H) b)) : FnT T P w K mg base (L2.CX P w) (k + 1) f fd ps (spD K (fnOf n m b)) := by
  refine fnT_ok Fd S (fun vs H Q E h => ?_) fun cdv A outer s H vs Q E hG hr h => ?_
  · obtain ⟨F, ds, A, B, o, nd, nf, dm, h⟩ := h
    unfold fnOf at h
    by_cases c : ds.length = n
    · rw [o.len, c, hn]
    · rw [if_neg c] at h; exact h.elim
  · obtain ⟨B, q⟩ := sp_body (N := N) hn hN h
    exact ⟨_, hb cdv A outer s H E B hG hr, q⟩
end U
namespace U
open PySem PySem.Spec PyProof.Rows L2 TK
theorem fn_aT {N : Nat} {P : Program} {w : World} {K : PySem.W.Frag} {mg : Str → Option Value} {base : Heap} {k : Nat} {f : Addr} {fd : FuncData} {ps : List Str} {sp : Sp} (F : FnT N P w K mg base (L2.CX P w) k f fd ps sp) : FnT N P w K mg base CXa k f fd ps sp :=
  ⟨F.len, fun A outer s H args us vs Q E hT hG hr e0 hb hv hs => codeAny_mono (F.run A outer s H args us vs Q E hT hG hr e0 hb hv hs) fun r s' h => by
    match r, h with
    | .error e, h => exact ⟨P, w, h⟩
    | .ok .next, h => exact h
    | .ok .brk, h => exact h
    | .ok .cont, h => exact h
    | .ok (.ret u), h => exact h⟩
theorem _root_.TK.FnT.mono {N : Nat} {P : Program} {w : World} {K : PySem.W.Frag} {mg : Str → Option Value} {base : Heap} {CX : CXT} {j k : Nat} {f : Addr} {fd : FuncData} {ps : List Str} {sp : Sp} (F : FnT N P w K mg base CX j f fd ps sp) (h : j ≤ k) : FnT N P w K mg base CX k f fd ps sp :=
  ⟨F.len, fun A outer s H args us vs Q E hT hG hr => F.run A outer s H args us vs Q E hT hG (hr.mono h)⟩
end U
namespace TK
open PySem PySem.W PySem.Calls PyProof.Rows PySem.Spec L2
structure JA (N : Nat) (X : Cx) (es : List Expr) (t : TA) : Prop where
  run : ∀ (pos : Pos) (pins : List (Addr × Obj)) (s : Shared) (σ : L2.St) (H : Hp) (Q : List V → Hp → Prop), N ≤ s.toks → Inv X pins σ H s → t σ H Q →
    wpAny (model X.prog X.w) X.A (spliced (backTo pos (starEach es X.env))) (AP X pins σ Q) X.xe s
section
variable {N : Nat} {X : Cx}
theorem JA.weak {es : List Expr} {t u : TA} (h : JA N X es t) (k : ∀ σ H Q, u σ H Q → t σ H Q) : JA N X es u := ⟨fun pos pins s σ H Q n I q => h.run pos pins s σ H Q n I (k _ _ _ q)⟩
theorem je_op {a b : Expr} {op : Operator} {r : R2} {ta tb : TE} {pos : Pos} (ho : OpR X (binaryOp op) r) (ha : JE N X a ta) (hb : JE N X b tb) : JE N X (.BinOp a op b pos) (tOp r ta tb) := by
  refine ⟨fun pins s σ H Q n I h => wpAny_BinOp (on n (ha.run pins s σ H _ n I h) fun v s1 n1 z => ?_)⟩
  obtain ⟨x, H1, I1, r1, q1⟩ := z
  refine thn (hb.run pins s1 σ H1 _ n1 I1 q1) fun u s2 z => ?_
  obtain ⟨y, H2, I2, r2, q2⟩ := z
  exact ho pins s2 σ H2 x y v u Q I2 r1 r2 q2
end
end TK
namespace U
open PySem PySem.Spec PyProof.Rows L2 TK
section
variable {N : Nat} {X : Cx} {e : Expr} {B : Bx} {W : WX} {f g : E}
abbrev DAT (N : Nat) (X : Cx) (B : Bx) (W : WX) (es : List Expr) (f : As) : Prop := JA N X es (tDA X.K B W f)
theorem dT_op {o : D → D → Option D} {r : R2} (p : P2 X.K o r) (h : JE N X e (tOp r (tDE X.K B W f) (tDE X.K B W g))) : DET N X B W e (eOp o f g) := h.weak (w_op p)
end
end U
namespace TK
open PySem PySem.W PySem.Calls PyProof.Rows PySem.Spec L2
abbrev Nev : Value → Shared → Prop := fun _ _ => False
structure JTs (N : Nat) (X : Cx) (ifs : List Expr) (t : TT) : Prop where
  run : ∀ (pins : List (Addr × Obj)) (s : Shared) (σ : L2.St) (H : Hp) (Q : Bool → Hp → Prop), N ≤ s.toks → Inv X pins σ H s → t σ H Q →
    wpAny (model X.prog X.w) X.A (forIn ifs true fun c r => if r = true then do let ok ← isTrue c X.env (eval c X.env); pure (ForInStep.yield ok) else pure (ForInStep.yield r)) (TP X pins σ Q) X.xe s
abbrev BlkJ (P : Cx → Prop) (X : Cx) (scope : Scope) : Prop := ∀ (z : Shared) (G : Hp) (C : Addr) (cl : List (Str × Addr)) (fp : List Addr), P (X.blk z G scope (compEnvC scope cl C X.env) fp)
section
variable {N : Nat} {X : Cx}
end
end TK
namespace U
open PySem PySem.Spec PyProof.Rows L2 TK
section
variable {N : Nat} {X : Cx} {B : Bx} {W : WX} {e : Expr} {f : E}
end
end U
namespace TK
open PySem PySem.W PySem.Calls PyProof.Rows PySem.Spec L2
section
variable {N : Nat} {X : Cx} {body orelse : List Stmt} {h₀ : ExceptHandler} {hds : List ExceptHandler} {l : List (Value × Option Nat × (Addr → Value → Option Addr → TS))} {pos : Pos} {tb : WX → TS} {u : TS} {Wout : WX}
end
end TK
namespace U
open PySem PySem.Spec PyProof.Rows L2 TK
section
variable {N : Nat} {X : Cx} {B : Bx} {W : WX} {b c : St}
end
end U
namespace TK
open PySem PySem.W PySem.Calls PyProof.Rows PySem.Spec L2
theorem jt_val {N : Nat} {X : Cx} {e : Expr} {t : TE} (h : JE N X e t) (he : ∀ whole, isTrue e X.env whole = (do let v ← whole; standAt e.pos; holding [v] (truthy v)) := by intro _; rfl) : JT N X e (tB t) := by
  refine ⟨fun pins s σ H Q n I hw => ?_⟩
  refine isTrue_plain (thn (h.run pins s σ H _ n I hw) fun v s1 z => ?_) (he _)
  obtain ⟨x, H1, I1, r1, d, rfl, q⟩ := z
  cases r1
  exact wpAny_truthy_bool ⟨H1, I1, q⟩
end TK
namespace U
open PySem PySem.Spec PyProof.Rows L2 TK
end U
namespace TK
open PySem PySem.W PySem.Calls PyProof.Rows PySem.Spec L2
end TK
namespace TK
open PySem PySem.W PySem.Calls PyProof.Rows PySem.Spec L2
section
variable {N : Nat} {X : Cx} {o e : Expr} {es : List Expr} {to : TE} {t : TA} {name : Str} {apos cpos : Pos} {T id : String} {r : V → List V → Hp → VK → Prop}
end
end TK
namespace U
open PySem PySem.Spec PyProof.Rows L2 TK
section
variable {N : Nat} {X : Cx} {B : Bx} {W : WX} {e : Expr} {f : E}
end
end U
namespace U
open PySem PySem.Spec PyProof.Rows L2
def rRepr (K : PySem.W.Frag) : List V → Hp → VK → Prop := fun xs H Q => ∃ x d, xs = [x] ∧ Dp K H x d ∧ d.showable = true ∧ d.hasDict = false ∧ d.depth ≤ 16 ∧ d.shown.length ≤ sizeLine ∧ Q (.str d.shown) H
def reprL (d : D) : List Nat := (toPy d).shown.cps.toList
def reprOk (d : D) : Bool := okD 9 d && (toPy d).showable && !(toPy d).hasDict && decide ((reprL d).length ≤ cap) && (reprL d).all fun c => decide (c < 1114112)
def oRepr : List D → Option D
  | [d] => if reprOk d = true then some (.str (reprL d)) else none
  | _ => none
theorem S_of (x : Str) : S x.cps.toList = x := by
  obtain ⟨a⟩ := x
  simp [S]
end U
namespace U
open PySem PySem.Spec PyProof.Rows L2
def cutC (c : Nat) : List Nat → List Nat → List (List Nat)
  | acc, [] => [acc]
  | acc, d :: r => if d = c then acc :: cutC c [] r else cutC c (acc ++ [d]) r
def paC (c : Nat) : List Nat → List Nat → Option (List Nat × List Nat)
  | _, [] => none
  | acc, d :: r => if d = c then some (acc, r) else paC c (acc ++ [d]) r
def oSplit : D → D → Option D
  | .str l, .str [c] => if c < 256 ∧ l.length + 2 ≤ cap then some (.lst ((cutC c [] l).map .str)) else none
  | _, _ => none
def oPart : D → D → Option D
  | .str l, .str [c] => if l.length ≤ cap then some (match paC c [] l with | some (a, b) => .tup [.str a, .str [c], .str b] | none => .tup [.str l, .str [], .str []]) else none
  | _, _ => none
def oRmP : D → D → Option D
  | .str l, .str [c] => if l.length ≤ cap then some (.str (if l.head? = some c then l.tail else l)) else none
  | _, _ => none
def oIntT : List D → Option D
  | [.str l] => if l.length ≤ 640 then (intText? (S l)).map .int else none
  | _ => none
def eFs (s : List Nat) (a b : E) : E := fun ρ => (a ρ).bind fun x ρ1 => match x with
  | .int i => if 0 ≤ i ∧ i.natAbs < lim1k ∧ (decL i.natAbs).length + s.length ≤ cap then (b ρ1).bind fun y ρ2 => match y with
    | .str w => if (decL i.natAbs).length + s.length + w.length ≤ cap then .ok (.str (decL i.natAbs ++ s ++ w)) ρ2 else .bad
    | _ => .bad else .bad
  | _ => .bad
section
variable {K : PySem.W.Frag} {B : Bx} {F F' : Fz} {H H' : Hp} {W : WX}
end
section
variable {X : Cx} {B : Bx} {W : WX} {e : Expr} {f g : E}
end
end U
namespace TK
open PySem PySem.W PySem.Calls PyProof.Rows PySem.Spec L2
section
variable {N : Nat} {X : Cx} {k : Nat} {C f : Addr} {fd : FuncData} {ps : List Str} {sp : Sp}
def rOwnR (C : Addr) (sp : Sp) : List V → Hp → VK → Prop := fun xs H Q => ∃ a dx fs, xs = [.ref a] ∧ H a = some (.ins C dx fs) ∧ sp [.ref a] H (fun v H' => ∃ y : Str, v = .str y ∧ Q (.str y) H') (fun _ _ _ => False)
end
end TK
namespace L2
open PySem PySem.Spec PyProof.Rows
section
variable {X : Cx}
def tFmtD (K : PySem.W.Frag) (te : TE) : TE := fun σ H Q => te σ H fun x H1 => ∃ (a : Addr) (d : PyData), x = .ref a ∧ Dp K H1 x d ∧ d.showable = true ∧ d.hasDict = false ∧ d.depth ≤ 16 ∧ d.shown.length ≤ sizeLine ∧ Q (.str d.shown) H1
end
end L2
namespace U
open PySem PySem.Spec PyProof.Rows L2
mutual
def noL : D → Bool
  | .tup ds => noLs ds
  | .ins _ _ ds => noLs ds
  | .non => true
  | .bl _ => true
  | .int _ => true
  | .str _ => true
  | .dic _ => true
  | _ => false
def noLs : List D → Bool
  | [] => true
  | d :: ds => noL d && noLs ds
end
def onlyF : Option D → Option D
  | some (.own _ _) => none
  | some (.exn _ _ _) => none
  | x => x
def eLent (i : Nat) (f : E) : E := fun ρ => match ρ[i]? with
  | some (some (.own 0 (.lst ds))) => if allPlain ds = true then (match f ((ρ.map onlyF).set i (some (.lst ds))) with
      | .ok d _ => if noL d = true then .ok d ρ else .bad
      | _ => .bad) else .bad
  | _ => .bad
section
variable {K : PySem.W.Frag} {B : Bx} {F F' : Fz} {H H' : Hp} {W : WX}
theorem OVs.plainL : ∀ {vs : List V} {ds : List D} {A : List Addr}, allPlain ds = true → OVs K F H vs ds A → A = [] ∧ RVs K F H vs ds
  | [], [], _, _, h => by simp only [OVs] at h; exact ⟨h, by simp only [RVs]⟩
  | _ :: _, _ :: _, _, e, h => by
    simp only [allPlain, Bool.and_eq_true, Bool.not_eq_true'] at e
    simp only [OVs] at h
    obtain ⟨A1, A2, h1, h2, q⟩ := h
    obtain ⟨rfl, r1⟩ := h1.plain e.1
    obtain ⟨rfl, r2⟩ := OVs.plainL e.2 h2
    exact ⟨q, by simp only [RVs]; exact ⟨r1, r2⟩⟩
  | [], _ :: _, _, _, h => by simp only [OVs] at h
  | _ :: _, [], _, _, h => by simp only [OVs] at h
theorem OVS.only : ∀ {σ : L2.St} {ρ : Env} {A : List Addr}, OVS K F H B σ ρ A → OVS K F H B σ (ρ.map onlyF) []
  | [], [], _, _ => by simp only [List.map_nil, OVS]
  | v :: _, d :: _, _, h => by
    simp only [OVS] at h
    obtain ⟨A1, A2, h1, h2, q⟩ := h
    simp only [List.map_cons, OVS]
    refine ⟨[], [], ?_, OVS.only h2, rfl⟩
    cases d with
    | none => simp only [onlyF, OVo]
    | some d =>
      cases v with
      | none => simp only [OVo] at h1
      | some v =>
        simp only [OVo] at h1
        cases d with
        | own t d => simp only [onlyF, OVo]
        | exn c ns ds => simp only [onlyF, OVo]
        | _ =>
          simp only [onlyF, OVo]
          simp only [OVp] at h1 ⊢
          obtain ⟨rfl, r⟩ := h1.plain rfl
          exact r.own
  | [], _ :: _, _, h => by simp only [OVS] at h
  | _ :: _, [], _, h => by simp only [OVS] at h
mutual
theorem RV.unF {a : Addr} {xs : List V} (ha : H a = some (.lst xs)) : ∀ {v : V} {d : D}, noL d = true → RV K F H v d → RV K (fun b => F b ∧ b ≠ a) H v d
  | _, .non, _, h => by simp only [RV] at h ⊢; exact h
  | _, .bl _, _, h => by simp only [RV] at h ⊢; exact h
  | _, .int _, _, h => by simp only [RV] at h ⊢; exact h
  | _, .str _, _, h => by simp only [RV] at h ⊢; exact h
  | _, .tup _, e, h => by
    simp only [noL] at e
    simp only [RV] at h ⊢
    obtain ⟨b, vs, rfl, s, r⟩ := h
    refine ⟨b, vs, rfl, ?_, RVs.unF ha e r⟩
    rcases s with ⟨f, s⟩ | s
    · refine .inl ⟨⟨f, fun z => ?_⟩, s⟩
      subst z
      rcases s with s | ⟨o, s⟩ <;> (rw [ha] at s; cases s)
    · exact .inr s
  | _, .ins _ _ _, e, h => by
    simp only [noL] at e
    simp only [RV] at h ⊢
    obtain ⟨b, dx, fs, rfl, f, s, n, r⟩ := h
    exact ⟨b, dx, fs, rfl, ⟨f, fun z => by subst z; rw [ha] at s; cases s⟩, s, n, RVs.unF ha e r⟩
  | _, .dic _, _, h => by
    simp only [RV] at h ⊢
    obtain ⟨b, rfl, f, s⟩ := h
    exact ⟨b, rfl, ⟨f, fun z => by subst z; rw [ha] at s; cases s⟩, s⟩
  | _, .lst _, e, _ => by simp [noL] at e
  | _, .scr _, e, _ => by simp [noL] at e
  | _, .own _ _, e, _ => by simp [noL] at e
  | _, .exn _ _ _, e, _ => by simp [noL] at e
theorem RVs.unF {a : Addr} {xs : List V} (ha : H a = some (.lst xs)) : ∀ {vs : List V} {ds : List D}, noLs ds = true → RVs K F H vs ds → RVs K (fun b => F b ∧ b ≠ a) H vs ds
  | [], [], _, _ => by simp only [RVs]
  | _ :: _, _ :: _, e, h => by
    simp only [noLs, Bool.and_eq_true] at e
    simp only [RVs] at h ⊢
    exact ⟨RV.unF ha e.1 h.1, RVs.unF ha e.2 h.2⟩
  | [], _ :: _, _, h => by simp only [RVs] at h
  | _ :: _, [], _, h => by simp only [RVs] at h
end
end
section
variable {X : Cx} {B : Bx} {W : WX} {e : Expr} {f : E}
end
def oFmt : D → Option D
  | .str l => if l.length ≤ cap then some (.str l) else none
  | .int i => if 0 ≤ i ∧ i.natAbs < lim1k then some (.str (decL i.natAbs)) else none
  | _ => none
def isSeq : D → Bool
  | .tup _ => true
  | .lst _ => true
  | _ => false
def oFmtR (d : D) : Option D := if isSeq d = true ∧ reprOk d = true then some (.str (reprL d)) else none
def eJs : List E → List Nat → E
  | [], acc => fun ρ => .ok (.str acc) ρ
  | f :: fs, acc => fun ρ => (f ρ).bind fun d ρ1 => match d with
    | .str l => if acc.length + l.length ≤ cap then eJs fs (acc ++ l) ρ1 else .bad
    | _ => .bad
section
variable {K : PySem.W.Frag} {B : Bx} {F F' : Fz} {H H' : Hp} {W : WX}
end
section
variable {X : Cx} {B : Bx} {W : WX} {e : Expr} {f : E} {es : List Expr} {fs : List E}
abbrev DJ (X : Cx) (B : Bx) (W : WX) (es : List Expr) (fs : List E) : Prop := PJ X es (fs.map (tDE X.K B W))
end
def oReprC (c : String) (f : Fn) : List D → Option D
  | [.ins c' ns ds] => if c' = c then (match f [.ins c' ns ds] with
    | .ok (.str l) _ => some (.str l)
    | _ => none) else none
  | _ => none
section
variable {K : PySem.W.Frag}
end
section
variable {N : Nat} {X : Cx} {B : Bx} {W : WX} {e : Expr} {a : As}
end
def strK : ER → Option D
  | .ok (.str l) _ => some (.str l)
  | _ => none
def lentK (ρ : Env) : ER → ER
  | .ok d _ => if noL d = true then .ok d ρ else .bad
  | _ => .bad
section
variable {c : String} {fn : Fn} {ns : List String} {ds : List D} {l acc : List Nat} {o ρ : Env} {f : E} {fs : List E} {i : Nat}
def jsK (fs : List E) (acc : List Nat) : ER → ER
  | .ok (.str l) ρ => if acc.length + l.length ≤ cap then eJs fs (acc ++ l) ρ else .bad
  | .exc x ρ => .exc x ρ
  | _ => .bad
end
end U
namespace U
noncomputable def fn_last_of : Nat → Fn
  | 0 => fun _ => .bad
  | n + 1 => fnOf 2 4 (sSeq (sSet 2 (eC (.str [])))
    (sSeq (sFor (iOf itL (eFrz (eUn oRev (eVar 0)))) (gVar 3) 
    (sSeq (sSet 4 (eOp oSub (eVar 1) (eN oLenS (aCons (eVar 2) aNil))))
    (sSeq (sIf (eOp oEq (eVar 4) (eC (.int 0)))
    (sRet (eVar 2))
    sNil)
    (sSeq (sIf (eIsi "str" (eVar 3))
    (sSet 5 (eUn (oDel 45) (eVar 3)))
    (sSeq (sSet 5 (eFrz (eCall (fn_last_of n) [.v (eOp oIxT (eVar 3) (eC (.int 0))), .v (eVar 4)] [])))
    (sIf (eChain oLt oLt (eC (.int 0)) (eN oLenS (aCons (eVar 5) aNil)) (eVar 4))
    (sSet 5 (eOp oMulS (eVar 5) (eN oMin2 (aCons (eOp oIxT (eVar 3) (eC (.int 1))) (aCons (eOp oAdd (eOp oDiv (eVar 4) (eN oLenS (aCons (eVar 5) aNil))) (eC (.int 1))) aNil)))))
    (sIf (eOp oEq (eOp oIxT (eVar 3) (eC (.int 1))) (eC (.int 0)))
    (sSet 5 (eC (.str [])))
    sNil))))
    (sSet 2 (eOp oAddS (eSl oSlS (eVar 5) (some (eN oMax2 (aCons (eC (.int 0)) (aCons (eOp oSub (eN oLenS (aCons (eVar 5) aNil)) (eVar 4)) aNil)))) none) (eVar 2)))))))
    (sRet (eVar 2))))
noncomputable def body_last_puts : St := (sSeq (sSet 2 (eFrz (eCall fn_items_of [.v (eVar 0)] [])))
    (sSeq (sDrop (eCall fn_check_integer [.v (eVar 1), .v (eC (.int 0)), .v (eC (.int 4000))] []))
    (sRet (eFrz (eCall (fn_last_of 21) [.v (eVar 2), .v (eVar 1)] [])))))
noncomputable def fn_last_puts : Fn := fnOf 2 1 body_last_puts
end U
namespace U
def putsL (l : List Nat) : List Nat := l.filter fun x => decide (x ≠ 45)
def lastL (n : Nat) (l : List Nat) : List Nat := l.drop (l.length - n)
theorem lastL_len {n : Nat} {l : List Nat} : (lastL n l).length = min n l.length := by unfold lastL; rw [List.length_drop]; omega
theorem lastL_zero {l : List Nat} : lastL 0 l = [] := by unfold lastL; simp
theorem lastL_all {n : Nat} {l : List Nat} (h : l.length ≤ n) : lastL n l = l := by
  unfold lastL
  rw [show l.length - n = 0 by omega]
  rfl
theorem lastL_app {n : Nat} {a b : List Nat} : lastL n (a ++ b) = lastL (n - (lastL n b).length) a ++ lastL n b := by
  by_cases h : n ≤ b.length
  · rw [lastL_len, Nat.min_eq_left h, Nat.sub_self, lastL_zero, List.nil_append]
    unfold lastL
    rw [List.length_append, show a.length + b.length - n = a.length + (b.length - n) by omega, ← List.drop_drop, List.drop_left]
  · rw [lastL_all (l := b) (by omega)]
    unfold lastL
    rw [List.length_append, List.drop_append_of_le_length (by omega), show a.length + b.length - n = a.length - (n - b.length) by omega]
theorem lastL_full {n : Nat} {a b : List Nat} (h : n ≤ b.length) : lastL n (a ++ b) = lastL n b := by
  rw [lastL_app, lastL_len, Nat.min_eq_left h, Nat.sub_self, lastL_zero, List.nil_append]
theorem rept_length {n : Nat} {m : List Nat} : (rept n m).length = n * m.length := by
  induction n with
  | zero => simp [rept]
  | succ n ih => rw [rept_succ, List.length_append, ih, Nat.succ_mul, Nat.add_comm]
theorem lastL_rept {left n : Nat} {m : List Nat} (hm : 0 < m.length) : lastL left (rept (min n (left / m.length + 1)) m) = lastL left (rept n m) := by
  by_cases h : n ≤ left / m.length + 1
  · rw [Nat.min_eq_left h]
  · have e : n = (n - (left / m.length + 1)) + (left / m.length + 1) := by omega
    have big : left ≤ (rept (left / m.length + 1) m).length := by
      rw [rept_length]
      have := Nat.lt_div_mul_add (a := left) hm
      rw [Nat.add_mul, Nat.one_mul]
      omega
    rw [Nat.min_eq_right (by omega)]
    conv => rhs; rw [e, rept_add]
    rw [lastL_full big]
theorem puts_app {a b : List Nat} : putsL (a ++ b) = putsL a ++ putsL b := List.filter_append ..
theorem puts_rept {n : Nat} {w : List Nat} : putsL (rept n w) = rept n (putsL w) := by
  induction n with
  | zero => rfl
  | succ n ih => rw [rept_succ, rept_succ, puts_app, ih]
theorem rept_nil {n : Nat} : rept n ([] : List Nat) = [] := by
  induction n with
  | zero => rfl
  | succ n ih => rw [rept_succ, ih]; rfl
def lettR (left n : Nat) (L : List Nat) : List Nat := if 0 < L.length ∧ L.length < left then rept (min n (left / L.length + 1)) L else if n = 0 then [] else L
theorem lettR_ok {left n : Nat} {m : List Nat} (hl : 0 < left) : lastL left (lettR left n (lastL left m)) = lastL left (rept n m) := by
  unfold lettR
  have hlen := lastL_len (n := left) (l := m)
  split
  · rename_i h
    have hs : m.length < left := by omega
    rw [lastL_all (l := m) (by omega)] at h ⊢
    exact lastL_rept h.1
  · rename_i h
    split
    · rename_i h0
      rw [h0]
      rfl
    · rename_i h0
      by_cases hz : m.length = 0
      · have : m = [] := List.eq_nil_of_length_eq_zero hz
        rw [this, rept_nil]
        simp [lastL]
      · have hge : left ≤ m.length := by omega
        obtain ⟨n', rfl⟩ : ∃ n', n = n' + 1 := ⟨n - 1, by omega⟩
        have e : rept (n' + 1) m = rept n' m ++ m := by rw [rept_add]; simp [rept]
        rw [e, lastL_full hge, lastL_all (by rw [hlen]; omega)]
theorem lettR_len {left n : Nat} {L : List Nat} (h : L.length ≤ left) : (lettR left n L).length ≤ left + left := by
  unfold lettR
  split
  · rename_i h2
    rw [rept_length]
    have h3 : min n (left / L.length + 1) * L.length ≤ (left / L.length + 1) * L.length := Nat.mul_le_mul_right _ (Nat.min_le_right _ _)
    have h4 := Nat.div_mul_le_self left L.length
    rw [Nat.add_mul, Nat.one_mul] at h3
    omega
  · split
    · exact Nat.zero_le _
    · omega
end U
namespace U
noncomputable def lastSt (f : Fn) : St := (sSeq (sSet 4 (eOp oSub (eVar 1) (eN oLenS (aCons (eVar 2) aNil))))
    (sSeq (sIf (eOp oEq (eVar 4) (eC (.int 0)))
    (sRet (eVar 2))
    sNil)
    (sSeq (sIf (eIsi "str" (eVar 3))
    (sSet 5 (eUn (oDel 45) (eVar 3)))
    (sSeq (sSet 5 (eFrz (eCall f [.v (eOp oIxT (eVar 3) (eC (.int 0))), .v (eVar 4)] [])))
    (sIf (eChain oLt oLt (eC (.int 0)) (eN oLenS (aCons (eVar 5) aNil)) (eVar 4))
    (sSet 5 (eOp oMulS (eVar 5) (eN oMin2 (aCons (eOp oIxT (eVar 3) (eC (.int 1))) (aCons (eOp oAdd (eOp oDiv (eVar 4) (eN oLenS (aCons (eVar 5) aNil))) (eC (.int 1))) aNil)))))
    (sIf (eOp oEq (eOp oIxT (eVar 3) (eC (.int 1))) (eC (.int 0)))
    (sSet 5 (eC (.str [])))
    sNil))))
    (sSet 2 (eOp oAddS (eSl oSlS (eVar 5) (some (eN oMax2 (aCons (eC (.int 0)) (aCons (eOp oSub (eN oLenS (aCons (eVar 5) aNil)) (eVar 4)) aNil)))) none) (eVar 2))))))
theorem last_of_eq (n : Nat) : fn_last_of (n + 1) = fnOf 2 4 (sSeq (sSet 2 (eC (.str []))) (sSeq (sFor (iOf itL (eFrz (eUn oRev (eVar 0)))) (gVar 3) (lastSt (fn_last_of n))) (sRet (eVar 2)))) := rfl
theorem for_rt {g : Tg} {b : St} {l2 : List D} {v : D} {ρ1 : Env} : ∀ {l1 : List D} {ρ : Env}, forL g b l1 ρ = .rt v ρ1 → forL g b (l1 ++ l2) ρ = .rt v ρ1
  | [], ρ, h => by cases h
  | d :: l1, ρ, h => by
    rw [List.cons_append, v_fl1]
    rw [v_fl1] at h
    cases e : (toFl (g d ρ)).bind b with
    | nx ρ2 => rw [e, v_fkN] at h; rw [v_fkN]; exact for_rt h
    | ct ρ2 => rw [e, v_fkC] at h; rw [v_fkC]; exact for_rt h
    | bk ρ2 => rw [e, v_fkB] at h; cases h
    | rt d ρ2 => rw [e, v_fkR] at h; rw [v_fkR]; exact h
    | ex x ρ2 => rw [e, v_fkX] at h; cases h
    | bad => rw [e] at h; cases h
def goes (g : Tg) (b : St) : List D → Env → Env → Prop
  | [], ρ, ρ1 => ρ = ρ1
  | d :: l, ρ, ρ1 => ∃ ρ2, (toFl (g d ρ)).bind b = .nx ρ2 ∧ goes g b l ρ2 ρ1
theorem goes_for {g : Tg} {b : St} {l2 : List D} : ∀ {l : List D} {ρ ρ1 : Env}, goes g b l ρ ρ1 → forL g b (l ++ l2) ρ = forL g b l2 ρ1
  | [], ρ, ρ1, h => by cases h; rfl
  | d :: l, ρ, ρ1, h => by
    obtain ⟨ρ2, e, h⟩ := h
    rw [List.cons_append, v_fl1, e, v_fkN]
    exact goes_for h
theorem goes_snoc {g : Tg} {b : St} {d : D} {ρ2 : Env} : ∀ {l : List D} {ρ ρ1 : Env}, goes g b l ρ ρ1 → (toFl (g d ρ1)).bind b = .nx ρ2 → goes g b (l ++ [d]) ρ ρ2
  | [], ρ, ρ1, h, e => by cases h; exact ⟨ρ2, e, rfl⟩
  | x :: l, ρ, ρ1, h, e => by
    obtain ⟨ρ3, e3, h⟩ := h
    exact ⟨ρ3, e3, goes_snoc h e⟩
theorem last_stop {f : Fn} {c : Nat} {F : List Nat} {x v3 v4 v5 : Option D} {d : D} (hd : d.isMut = false) (hc : F.length = c) (hc2 : c ≤ 4000) (h3 : Fre v3) (h4 : Fre v4) : ∃ ρ', (toFl (gVar 3 d [x, some (.int (c : Nat)), some (.str F), v3, v4, v5])).bind (lastSt f) = .rt (.str F) ρ' := by
  have hL : ((c : Nat) : Int) - ((F.length : Nat) : Int) = 0 := by omega
  have h2 : F.length ≤ 16777216 := by omega
  have hb : ((0 : Int) == 0) = true := rfl
  clear hc hc2
  unfold lastSt
  walk_at "evx"
  exact ⟨_, rfl⟩
theorem last_seq {f : Fn} {c : Nat} {F l : List Nat} {x v3 v4 v5 : Option D} (hc : F.length < c) (hc2 : c ≤ 4000) (hl : l.length ≤ 100000) (h3 : Fre v3) (h4 : Fre v4) (h5 : Fre v5) :
    ∃ v3' v4' v5', Fre v3' ∧ Fre v4' ∧ Fre v5' ∧ (toFl (gVar 3 (.str l) [x, some (.int (c : Nat)), some (.str F), v3, v4, v5])).bind (lastSt f) = .nx [x, some (.int (c : Nat)), some (.str (lastL (c - F.length) (putsL l) ++ F)), v3', v4', v5'] := by
  have hL : ((c : Nat) : Int) - ((F.length : Nat) : Int) = ((c - F.length : Nat) : Int) := by omega
  have h2 : F.length ≤ 16777216 := by omega
  have hb : (((c - F.length : Nat) : Int) == 0) = false := by rw [beq_eq_false_iff_ne]; omega
  have hd : oDel 45 (.str l) = some (.str (putsL l)) := by
    show (if l.length ≤ cap then some (D.str (l.filter fun x => decide (x ≠ 45))) else none) = _
    rw [if_pos (by unfold cap; omega)]
    rfl
  have hp : (putsL l).length ≤ l.length := List.length_filter_le ..
  have hp2 : (putsL l).length ≤ 16777216 := by omega
  have eT : ("str" == "str" || ("str" == "bool" && "str" == "int")) = true := by decide
  have hm : (if (((putsL l).length : Nat) : Int) - ((c - F.length : Nat) : Int) > 0 then (((putsL l).length : Nat) : Int) - ((c - F.length : Nat) : Int) else 0) = (((putsL l).length - (c - F.length) : Nat) : Int) := by split <;> omega
  have hcut : cutD (putsL l) (some (((putsL l).length - (c - F.length) : Nat) : Int)) none = lastL (c - F.length) (putsL l) := cut_drop
  have hs : (lastL (c - F.length) (putsL l)).length + F.length ≤ 16777216 := by rw [lastL_len]; omega
  refine ⟨_, _, _, fre_pl (d := .str l) rfl, fre_pl (d := .int ((c - F.length : Nat) : Int)) rfl, fre_pl (d := .str (putsL l)) rfl, ?_⟩
  clear hc hc2 hl hp
  generalize lastL (c - F.length) (putsL l) = Z at *
  generalize putsL l = U at *
  generalize c - F.length = left at *
  unfold lastSt
  walk_at "evx"
theorem last_rep {f : Fn} {c n : Nat} {F w : List Nat} {P x : D} {v3 v4 v5 : Option D} {o : Env} (hP : P.isMut = false) (hc : F.length < c) (hc2 : c ≤ 4000) (h3 : Fre v3) (h4 : Fre v4) (h5 : Fre v5)
    (ih : f [P, .int ((c - F.length : Nat) : Int)] = .ok (.str (lastL (c - F.length) w)) o) :
    ∃ v3' v4' v5', Fre v3' ∧ Fre v4' ∧ Fre v5' ∧ (toFl (gVar 3 (.tup [P, .int (n : Nat)]) [some x, some (.int (c : Nat)), some (.str F), v3, v4, v5])).bind (lastSt f) = .nx [some x, some (.int (c : Nat)), some (.str (lastL (c - F.length) (rept n w) ++ F)), v3', v4', v5'] := by
  have hL : ((c : Nat) : Int) - ((F.length : Nat) : Int) = ((c - F.length : Nat) : Int) := by omega
  have h2 : F.length ≤ 16777216 := by omega
  have hb : (((c - F.length : Nat) : Int) == 0) = false := by rw [beq_eq_false_iff_ne]; omega
  have eT : ("tuple" == "str" || ("tuple" == "bool" && "str" == "int")) = false := by decide
  have hok := lettR_ok (left := c - F.length) (n := n) (m := w) (by omega)
  have hl0 : (lastL (c - F.length) w).length ≤ c - F.length := by rw [lastL_len]; exact Nat.min_le_left _ _
  have hl1 := lettR_len (n := n) hl0
  have hlr : (lettR (c - F.length) n (lastL (c - F.length) w)).length ≤ 16777216 := by omega
  have hm : (if (((lettR (c - F.length) n (lastL (c - F.length) w)).length : Nat) : Int) - ((c - F.length : Nat) : Int) > 0 then (((lettR (c - F.length) n (lastL (c - F.length) w)).length : Nat) : Int) - ((c - F.length : Nat) : Int) else 0) = (((lettR (c - F.length) n (lastL (c - F.length) w)).length - (c - F.length) : Nat) : Int) := by split <;> omega
  have hcut : cutD (lettR (c - F.length) n (lastL (c - F.length) w)) (some (((lettR (c - F.length) n (lastL (c - F.length) w)).length - (c - F.length) : Nat) : Int)) none = lastL (c - F.length) (rept n w) := by rw [← hok]; exact cut_drop
  have hs : (lastL (c - F.length) (rept n w)).length + F.length ≤ 16777216 := by rw [lastL_len]; omega
  have hlb : (lastL (c - F.length) w).length ≤ 16777216 := by omega
  refine ⟨_, _, _, fre_pl (d := .tup [P, .int (n : Nat)]) rfl, fre_pl (d := .int ((c - F.length : Nat) : Int)) rfl, fre_pl (d := .str (lettR (c - F.length) n (lastL (c - F.length) w))) rfl, ?_⟩
  generalize lastL (c - F.length) (rept n w) = Z at *
  clear hok hl1
  generalize lastL (c - F.length) w = L at *
  generalize hleft : c - F.length = left at *
  unfold lettR at *
  by_cases ha : 0 < L.length ∧ L.length < left
  · rw [if_pos ha] at *
    have a1 : (0 : Int) < ((L.length : Nat) : Int) := by omega
    have a2 : ((L.length : Nat) : Int) < ((left : Nat) : Int) := by omega
    have hdiv : ((left : Nat) : Int) / ((L.length : Nat) : Int) = ((left / L.length : Nat) : Int) := rfl
    have hq : ((L.length : Nat) : Int).natAbs < lim4k := by rw [Int.natAbs_natCast]; exact Nat.lt_of_lt_of_le (show L.length < 2 ^ 20 by omega) (Nat.pow_le_pow_right (by decide) (by decide))
    have hmin : (if ((left / L.length : Nat) : Int) + 1 < ((n : Nat) : Int) then ((left / L.length : Nat) : Int) + 1 else ((n : Nat) : Int)) = ((min n (left / L.length + 1) : Nat) : Int) := by
      generalize left / L.length = dv
      split <;> omega
    have hkl : min n (left / L.length + 1) * L.length ≤ 8000 := by
      have y1 : min n (left / L.length + 1) * L.length ≤ (left / L.length + 1) * L.length := Nat.mul_le_mul_right _ (Nat.min_le_right _ _)
      have y2 := Nat.div_mul_le_self left L.length
      rw [Nat.add_mul, Nat.one_mul] at y1
      omega
    have hk1 : min n (left / L.length + 1) ≤ 8000 := Nat.le_trans (Nat.le_mul_of_pos_right _ ha.1) hkl
    clear ha hleft hc hc2 hl0
    generalize min n (left / L.length + 1) = k at *
    generalize left / L.length = dv at *
    have m1 : -9223372036854775808 ≤ ((k : Nat) : Int) := by omega
    have m2 : ((k : Nat) : Int) < 9223372036854775808 := by omega
    have m3 : L.length * ((k : Nat) : Int).toNat ≤ 16777216 := by rw [Int.toNat_natCast, Nat.mul_comm]; omega
    have m4 : (List.replicate ((k : Nat) : Int).toNat L).flatten = rept k L := by rw [Int.toNat_natCast]; rfl
    clear hkl hk1
    unfold lastSt
    walk_at "evx"
  · rw [if_neg ha] at *
    rcases Nat.eq_zero_or_pos L.length with hz | hz
    · have a1 : ¬ (0 : Int) < ((L.length : Nat) : Int) := by omega
      by_cases hn : n = 0
      · rw [if_pos hn] at *
        have hn2 : (((n : Nat) : Int) == 0) = true := by rw [hn]; rfl
        have hm0 : (if ((0 : Nat) : Int) - ((left : Nat) : Int) > 0 then ((0 : Nat) : Int) - ((left : Nat) : Int) else 0) = 0 := by split <;> omega
        have hcut0 : cutD ([] : List Nat) (some (0 : Int)) none = Z := by
          have z := hcut
          rw [show ([] : List Nat).length - left = 0 from Nat.zero_sub _] at z
          exact z
        clear hn hz ha hleft hc hc2 hl0 hm hcut hlr
        unfold lastSt
        walk_at "evx"
      · rw [if_neg hn] at *
        have hn2 : (((n : Nat) : Int) == 0) = false := by rw [beq_eq_false_iff_ne]; omega
        clear hn hz ha hleft hc hc2 hl0
        unfold lastSt
        walk_at "evx"
    · have a1 : (0 : Int) < ((L.length : Nat) : Int) := by omega
      have a2 : ¬ ((L.length : Nat) : Int) < ((left : Nat) : Int) := by omega
      by_cases hn : n = 0
      · rw [if_pos hn] at *
        have hn2 : (((n : Nat) : Int) == 0) = true := by rw [hn]; rfl
        have hm0 : (if ((0 : Nat) : Int) - ((left : Nat) : Int) > 0 then ((0 : Nat) : Int) - ((left : Nat) : Int) else 0) = 0 := by split <;> omega
        have hcut0 : cutD ([] : List Nat) (some (0 : Int)) none = Z := by
          have z := hcut
          rw [show ([] : List Nat).length - left = 0 from Nat.zero_sub _] at z
          exact z
        clear hn hz ha hleft hc hc2 hl0 hm hcut hlr
        unfold lastSt
        walk_at "evx"
      · rw [if_neg hn] at *
        have hn2 : (((n : Nat) : Int) == 0) = false := by rw [beq_eq_false_iff_ne]; omega
        clear hn hz ha hleft hc hc2 hl0
        unfold lastSt
        walk_at "evx"
open Q (Pg)
def pgSmall : Pg → Prop
  | .nil => True
  | .seq l r => l.length ≤ 100000 ∧ pgSmall r
  | .rep b _ r => pgSmall b ∧ pgSmall r
theorem last_items {n : Nat} {c : Nat} {d0 : D} (hc2 : c ≤ 4000) (ih : ∀ (p : Pg) (c : Nat), p.depth < n → pgSmall p → c ≤ 4000 → ∃ o, fn_last_of n [.lst (pgD p), .int (c : Nat)] = .ok (.str (lastL c (putsL p.wr))) o) :
    ∀ (p : Pg) (v3 v4 v5 : Option D), p.depth < n + 1 → pgSmall p → Fre v3 → Fre v4 → Fre v5 →
    (∃ v3' v4' v5', Fre v3' ∧ Fre v4' ∧ Fre v5' ∧ goes (gVar 3) (lastSt (fn_last_of n)) (pgD p).reverse [some d0, some (.int (c : Nat)), some (.str []), v3, v4, v5] [some d0, some (.int (c : Nat)), some (.str (lastL c (putsL p.wr))), v3', v4', v5']) ∨
    (∃ ρ', forL (gVar 3) (lastSt (fn_last_of n)) (pgD p).reverse [some d0, some (.int (c : Nat)), some (.str []), v3, v4, v5] = .rt (.str (lastL c (putsL p.wr))) ρ' ∧ c ≤ (putsL p.wr).length)
  | .nil, v3, v4, v5, _, _, h3, h4, h5 => .inl ⟨v3, v4, v5, h3, h4, h5, by simp [pgD, Pg.wr, putsL, lastL, goes]⟩
  | .seq l r, v3, v4, v5, hd, hs, h3, h4, h5 => by
    have e1 : (pgD (.seq l r)).reverse = (pgD r).reverse ++ [.str l] := by simp [pgD]
    have e2 : putsL (Pg.seq l r).wr = putsL l ++ putsL r.wr := puts_app
    rw [e1, e2]
    rcases last_items hc2 ih r v3 v4 v5 hd hs.2 h3 h4 h5 with ⟨w3, w4, w5, g3, g4, g5, hg⟩ | ⟨ρ', hr, hcl⟩
    · by_cases hf : (lastL c (putsL r.wr)).length = c
      · obtain ⟨ρ', e⟩ := last_stop (f := fn_last_of n) (x := some d0) (v5 := w5) (d := .str l) rfl hf hc2 g3 g4
        have hcl : c ≤ (putsL r.wr).length := by rw [lastL_len] at hf; omega
        refine .inr ⟨ρ', ?_, by rw [List.length_append]; omega⟩
        rw [goes_for hg, v_fl1, e, v_fkR, lastL_full hcl]
      · have hlt : (lastL c (putsL r.wr)).length < c := by rw [lastL_len] at hf ⊢; omega
        obtain ⟨u3, u4, u5, k3, k4, k5, e⟩ := last_seq (f := fn_last_of n) (x := some d0) (l := l) hlt hc2 hs.1 g3 g4 g5
        rw [← lastL_app] at e
        exact .inl ⟨u3, u4, u5, k3, k4, k5, goes_snoc hg e⟩
    · refine .inr ⟨ρ', ?_, by rw [List.length_append]; omega⟩
      rw [lastL_full hcl]
      exact for_rt hr
  | .rep b k r, v3, v4, v5, hd, hs, h3, h4, h5 => by
    have hd1 : b.depth < n := by simp only [Pg.depth] at hd; omega
    have hd2 : r.depth < n + 1 := by simp only [Pg.depth] at hd; omega
    have e1 : (pgD (.rep b k r)).reverse = (pgD r).reverse ++ [.tup [.lst (pgD b), .int (k : Nat)]] := by simp [pgD]
    have e2 : putsL (Pg.rep b k r).wr = rept k (putsL b.wr) ++ putsL r.wr := by
      rw [← puts_rept]
      exact puts_app
    rw [e1, e2]
    rcases last_items hc2 ih r v3 v4 v5 hd2 hs.2 h3 h4 h5 with ⟨w3, w4, w5, g3, g4, g5, hg⟩ | ⟨ρ', hr, hcl⟩
    · by_cases hf : (lastL c (putsL r.wr)).length = c
      · obtain ⟨ρ', e⟩ := last_stop (f := fn_last_of n) (x := some d0) (v5 := w5) (d := .tup [.lst (pgD b), .int (k : Nat)]) rfl hf hc2 g3 g4
        have hcl : c ≤ (putsL r.wr).length := by rw [lastL_len] at hf; omega
        refine .inr ⟨ρ', ?_, by rw [List.length_append]; omega⟩
        rw [goes_for hg, v_fl1, e, v_fkR, lastL_full hcl]
      · have hlt : (lastL c (putsL r.wr)).length < c := by rw [lastL_len] at hf ⊢; omega
        obtain ⟨o, eb⟩ := ih b (c - (lastL c (putsL r.wr)).length) hd1 hs.1 (by omega)
        obtain ⟨u3, u4, u5, k3, k4, k5, e⟩ := last_rep (f := fn_last_of n) (n := k) (x := d0) (P := .lst (pgD b)) rfl hlt hc2 g3 g4 g5 eb
        rw [← lastL_app] at e
        exact .inl ⟨u3, u4, u5, k3, k4, k5, goes_snoc hg e⟩
    · refine .inr ⟨ρ', ?_, by rw [List.length_append]; omega⟩
      rw [lastL_full hcl]
      exact for_rt hr
theorem allPl {l : List D} (h : ∀ d ∈ l, d.isMut = false) : allPlain l = true := by
  induction l with
  | nil => rfl
  | cons x l ih => simp only [allPlain, h x List.mem_cons_self, ih (fun d hd => h d (List.mem_cons_of_mem _ hd)), Bool.not_false, Bool.and_self]
theorem pgD_mem : ∀ (p : Pg), ∀ d ∈ pgD p, d.isMut = false
  | .nil, d, h => by cases h
  | .seq l r, d, h => by
    simp only [pgD] at h
    rcases List.mem_cons.mp h with rfl | h
    · rfl
    · exact pgD_mem r d h
  | .rep b n r, d, h => by
    simp only [pgD] at h
    rcases List.mem_cons.mp h with rfl | h
    · rfl
    · exact pgD_mem r d h
theorem pgD_rev (p : Pg) : allPlain (pgD p).reverse = true := allPl fun d hd => pgD_mem p d (List.mem_reverse.mp hd)
theorem f_last_of : ∀ (n : Nat) (p : Pg) (c : Nat), p.depth < n → pgSmall p → c ≤ 4000 → ∃ o, fn_last_of n [.lst (pgD p), .int (c : Nat)] = .ok (.str (lastL c (putsL p.wr))) o
  | 0, p, c, h, _, _ => absurd h (Nat.not_lt_zero _)
  | n + 1, p, c, h, hs, hc => by
    rcases last_items (d0 := .lst (pgD p)) hc (f_last_of n) p none none none h hs fre_none fre_none fre_none with ⟨w3, w4, w5, g3, g4, g5, hg⟩ | ⟨ρ', hr, hcl⟩
    · have e := goes_for (l2 := []) hg
      rw [List.append_nil] at e
      have e' : forL (gVar 3) (lastSt (fn_last_of n)) (pgD p).reverse [some (.lst (pgD p)), some (.int (c : Nat)), some (.str []), none, none, none] = .nx [some (.lst (pgD p)), some (.int (c : Nat)), some (.str (lastL c (putsL p.wr))), w3, w4, w5] := e
      rw [last_of_eq]
      have hpl : allPlain (pgD p).reverse = true := pgD_rev p
      generalize lastSt (fn_last_of n) = LS at *
      clear e hg
      walk_at "evx"
      exact ⟨_, rfl⟩
    · rw [last_of_eq]
      have hpl : allPlain (pgD p).reverse = true := pgD_rev p
      generalize lastSt (fn_last_of n) = LS at *
      clear hcl
      walk_at "evx"
      exact ⟨_, rfl⟩
end U
namespace U
open Q (Pg progP)
theorem small_app : ∀ {p q : Pg}, pgSmall p → pgSmall q → pgSmall (p.app q)
  | .nil, _, _, h => h
  | .seq _ r, _, hp, hq => ⟨hp.1, small_app (p := r) hp.2 hq⟩
  | .rep _ _ r, _, hp, hq => ⟨hp.1, small_app (p := r) hp.2 hq⟩
theorem goP_small : ∀ (n : Nat) (t : List Nat) (st : List Pg) (p : Pg), t.length ≤ n → n ≤ 100000 → (∀ f ∈ st, pgSmall f) → Q.goP t st = some p → pgSmall p
  | n, [], [], p, _, _, _, h => by rw [Q.goP.eq_def] at h; cases h
  | n, [], [f], p, _, _, ho, h => by
    rw [Q.goP.eq_def] at h
    cases h
    exact ho f List.mem_cons_self
  | n, [], f :: g :: fs, p, _, _, _, h => by rw [Q.goP.eq_def] at h; cases h
  | n, c :: t, [], p, _, _, _, h => by rw [Q.goP.eq_def] at h; cases h
  | 0, c :: t, f :: fs, p, hl, _, _, _ => by simp at hl
  | n + 1, c :: t, f :: fs, p, hl, hn, ho, h => by
    rw [List.length_cons] at hl
    have hof := ho f List.mem_cons_self
    have hos : ∀ g ∈ fs, pgSmall g := fun g hg => ho g (List.mem_cons_of_mem _ hg)
    have l1 : (t.dropWhile Q.isStp).length ≤ t.length := (List.dropWhile_suffix (l := t) Q.isStp).length_le
    have l2 : (t.dropWhile Q.isDig).length ≤ t.length := (List.dropWhile_suffix (l := t) Q.isDig).length_le
    have l3 : (t.takeWhile Q.isStp).length ≤ t.length := (List.takeWhile_prefix (l := t) Q.isStp).length_le
    cases hs : Q.isStp c with
    | true =>
      rw [Q.goP_step hs] at h
      refine goP_small n _ _ p (by omega) (by omega) (fun g hg => ?_) h
      rcases List.mem_cons.mp hg with rfl | z
      · exact small_app hof ⟨by rw [List.length_cons]; omega, trivial⟩
      · exact hos g z
    | false =>
      by_cases h40 : c = 40
      · subst h40
        rw [Q.goP_open] at h
        split at h
        · refine goP_small n _ _ p (by omega) (by omega) (fun g hg => ?_) h
          rcases List.mem_cons.mp hg with rfl | z
          · exact trivial
          · exact ho g z
        · cases h
      · by_cases h41 : c = 41
        · subst h41
          cases fs with
          | nil => rw [Q.goP_close0] at h; cases h
          | cons g gs =>
            rw [Q.goP_close] at h
            split at h
            · refine goP_small n _ _ p (by omega) (by omega) (fun u hu => ?_) h
              rcases List.mem_cons.mp hu with rfl | z
              · exact small_app (hos g List.mem_cons_self) ⟨hof, trivial⟩
              · exact hos u (List.mem_cons_of_mem _ z)
            · cases h
        · rw [Q.goP_other hs h40 h41] at h; cases h
theorem progP_small {l : List Nat} {p : Pg} (h : progP l = some p) (hl : l.length ≤ 100000) : pgSmall p :=
  goP_small l.length l [.nil] p (Nat.le_refl _) hl (fun f hf => by rw [List.mem_singleton.mp hf]; exact trivial) h
end U
namespace U
open PySem PySem.Spec PyProof.Rows L2
def eDs (i : Nat) : List (String × E) → E
  | [] => fun _ => .bad
  | (c, f) :: r => fun ρ => if isI c ρ[i]? then f ρ else eDs i r ρ
def sDs (i : Nat) : List (String × U.St) → U.St
  | [] => fun _ => .bad
  | (c, f) :: r => fun ρ => if isI c ρ[i]? then f ρ else sDs i r ρ
def eBad : E := fun _ => .bad
def eLenI (c : String) (f : Fn) (i : Nat) : E := fun ρ => if isI c ρ[i]? then (match (eCall f [.b i] [] ρ).plain with
  | .ok (.int k) ρ1 => if 0 ≤ k ∧ k < 4611686018427387904 then .ok (.int k) ρ1 else .bad
  | _ => .bad) else .bad
def sFldAug (i : Nat) (c f : String) (o : D → D → Option D) (e : E) : U.St := fun ρ => match fldO c f ρ[i]? with
  | some x => (e ρ).binds fun d ρ1 => (match o x d with
    | some z => (match putFO c f z ρ1[i]? with
      | some d' => .nx (ρ1.set i (some d'))
      | none => .bad)
    | none => .bad)
  | none => .bad
def eCallM (f : Fn) (o : E) (a : As) (dd : List D) : E := fun ρ => match o ρ with
  | .ok (.own 0 d) ρ0 => (match a ρ0 with
    | .ok ds ρ1 => (match f (.own 1 d :: (ds ++ dd)) with
      | .ok r _ => if r.isMut then .bad else .ok r ρ1
      | .exc x _ => .exc x ρ1
      | .bad => .bad)
    | .exc x ρ1 => .exc x ρ1
    | .bad => .bad)
  | .ok _ _ => .bad
  | .exc x ρ1 => .exc x ρ1
  | .bad => .bad
def sForO (a : As) (i : Nat) (b : U.St) : U.St := fun ρ => match a ρ with
  | .ok ds ρ1 => if ds.length ≤ cap then forL (gVar i) b ds ρ1 else .bad
  | .exc x ρ1 => .ex x ρ1
  | .bad => .bad
end U
namespace L2
open PySem PySem.Spec PyProof.Rows
section
variable {X : Cx} {e : Expr} {st : Stmt}
theorem PE.two {t t1 t2 : TE} (h1 : PE X e t1) (h2 : PE X e t2) (w : ∀ σ H Q, t σ H Q → t1 σ H Q ∨ t2 σ H Q) : PE X e t :=
  ⟨fun pins s σ H Q I q => (w σ H Q q).elim (h1.run pins s σ H Q I) (h2.run pins s σ H Q I)⟩
theorem PS.two {t t1 t2 : TS} (h1 : PS X st t1) (h2 : PS X st t2) (w : ∀ D σ H, t D σ H → t1 D σ H ∨ t2 D σ H) : PS X st t :=
  ⟨fun pins s σ H D I q => (w D σ H q).elim (h1.run pins s σ H D I) (h2.run pins s σ H D I)⟩
end
end L2
namespace U
open PySem PySem.Spec PyProof.Rows L2
section
variable {X : Cx} {B : Bx} {W : WX} {e : Expr} {st : Stmt} {f g : E} {i : Nat} {c : String} {l : List (String × E)} {sl : List (String × U.St)} {s : U.St}
end
section
variable {K : PySem.W.Frag} {B : Bx} {F F' : Fz} {H H' : Hp} {W : WX} {σ : L2.St}
end
section
variable {K : PySem.W.Frag} {B : Bx} {F F1 : Fz} {H H1 : Hp} {W : WX} {σ : L2.St}
theorem put_core {i : Nat} {c f : String} {d d' : D} {v : V} {ρ1 : Env} {A A1 Ar : List Addr} {Q : Hp → Prop} (r1 : Rep K F1 H1 B σ ρ1 A1) (ov : OV K F1 H1 v d Ar) (nd : (A1 ++ Ar).Nodup) (nfr : ∀ a ∈ Ar, ¬ F1 a) (s1 : Step A F H (A1 ++ Ar) F1 H1) (e2 : putFO c f d ρ1[i]? = some d')
    (h : ∀ F' H' A', Rep K F' H' B σ (ρ1.set i (some d')) A' → Step A F H A' F' H' → Q H') :
    ∃ a dx fs, σ[i]? = some (some (.ref a)) ∧ H1 a = some (.ins (He.ga K (Str.ofString c)) dx fs) ∧ fs.length < 1000 ∧ Q (upd H1 a (.ins (He.ga K (Str.ofString c)) dx (putF (Str.ofString f) v fs))) := by
  unfold putFO at e2
  split at e2
  · rename_i t c' ns ds e0
    split at e2
    · rename_i hcc
      obtain ⟨hcc, hz⟩ := hcc
      subst hcc
      cases e2
      obtain ⟨a, Ai, Ao, sa, oi, tg, ro, ndi, sub⟩ := r1.take1 e0
      simp only [OV] at oi
      obtain ⟨a', dx, fs, A', ea, ha, en, eA, ofs⟩ := oi
      cases ea
      subst eA
      have nda := nd
      simp only [List.nodup_append] at nda ndi
      have hdis : ∀ b ∈ a :: A', b ∉ Ar := fun b hb z => nda.2.2 b (sub b (List.mem_append_left _ hb)) b z rfl
      have nAi := ndi.1
      rw [List.nodup_cons] at nAi
      obtain ⟨A2, o2, s2, n2⟩ := putDs_ov (f := f) en ofs ov (by
        simp only [List.nodup_append]
        exact ⟨nAi.2, nda.2.1, fun x hx y hy z => by subst z; exact hdis x (List.mem_cons_of_mem _ hx) hy⟩)
      have nfa : ¬ F1 a := r1.nf a (sub a (List.mem_append_left _ List.mem_cons_self))
      have na2 : a ∉ A2 := fun z => by
        rcases s2 a z with q | q
        · exact nAi.1 q
        · exact hdis a List.mem_cons_self q
      have off : ∀ b o, b ≠ a → H1 b = some o → upd H1 a (.ins (He.ga K (Str.ofString c')) dx (putF (Str.ofString f) v fs)) b = some o := fun b o hb he => by rw [upd_ne hb]; exact he
      have ro2 : Rep K F1 (upd H1 a (.ins (He.ga K (Str.ofString c')) dx (putF (Str.ofString f) v fs))) B σ (ρ1.set i none) Ao := by
        refine ⟨ro.sl.stay (fun _ h => h) fun b o hb he => off b o ?_ he, ro.nd, ro.nf, fun b fb => ?_⟩
        · intro z; subst z
          rcases hb with hb | hb
          · exact nfa hb
          · exact ndi.2.2 b List.mem_cons_self b hb rfl
        · obtain ⟨o, he⟩ := ro.dm b fb
          exact ⟨o, off b o (fun z => nfa (z ▸ fb)) he⟩
      have oa : OV K F1 (upd H1 a (.ins (He.ga K (Str.ofString c')) dx (putF (Str.ofString f) v fs))) (.ref a) (.own 0 (.ins c' (putNs f ns) (putDs f d ns ds))) (a :: A2) := by
        simp only [OV]
        refine ⟨a, dx, _, A2, rfl, upd_same, putNs_map en, rfl, o2.stay (fun _ h => h) fun b o hb he => off b o ?_ he⟩
        intro z; subst z
        rcases hb with hb | hb
        · exact nfa hb
        · exact na2 hb
      have hAo : ∀ b ∈ Ao, b ∈ A1 := fun b hb => sub b (List.mem_append_right _ hb)
      have nd3 : ((a :: A2) ++ Ao).Nodup := by
        simp only [List.nodup_append, List.nodup_cons]
        refine ⟨⟨na2, n2⟩, ndi.2.1, fun x hx y hy z => ?_⟩
        subst z
        rcases List.mem_cons.mp hx with q | q
        · subst q; exact ndi.2.2 x List.mem_cons_self x hy rfl
        · rcases s2 x q with w | w
          · exact ndi.2.2 x (List.mem_cons_of_mem _ w) x hy rfl
          · exact nda.2.2 x (hAo x hy) x w rfl
      have nf3 : ∀ b ∈ a :: A2, ¬ F1 b := fun b hb => by
        rcases List.mem_cons.mp hb with q | q
        · rw [q]; exact nfa
        · rcases s2 b q with w | w
          · exact r1.nf b (sub b (List.mem_append_left _ (List.mem_cons_of_mem _ w)))
          · exact nfr b w
      have ei : (ρ1.set i none)[i]? = some none := List.getElem?_set_self (List.getElem?_eq_some_iff.mp e0).1
      obtain ⟨A3, r3, s3⟩ := ro2.give1 ei sa (OVp.tag (t := t) oa rfl tg) nd3 nf3
      rw [List.set_set] at r3
      have hl : fs.length < 1000 := by
        have := congrArg List.length en
        simp only [List.length_map] at this
        rw [this]; exact hz
      have st : Step (A1 ++ Ar) F1 H1 A3 F1 (upd H1 a (.ins (He.ga K (Str.ofString c')) dx (putF (Str.ofString f) v fs))) := by
        refine ⟨fun _ h => h, fun b o he hb => off b o (fun z => hb ?_) he, fun b hb => .inl hb, fun b hb => .inl ?_⟩
        · subst z; exact List.mem_append_left _ (sub b (List.mem_append_left _ List.mem_cons_self))
        · rcases List.mem_append.mp (s3 b hb) with q | q
          · rcases List.mem_cons.mp q with q | q
            · rw [q]; exact List.mem_append_left _ (sub a (List.mem_append_left _ List.mem_cons_self))
            · rcases s2 b q with w | w
              · exact List.mem_append_left _ (sub b (List.mem_append_left _ (List.mem_cons_of_mem _ w)))
              · exact List.mem_append_right _ w
          · exact List.mem_append_left _ (hAo b q)
      exact ⟨a, dx, fs, sa, ha, hl, h F1 _ A3 r3 (s1.trans st)⟩
    · cases e2
  · cases e2
theorem w_fldAug {i : Nat} {c f : String} {o : D → D → Option D} {r : R2} {e : E} (hc : Cls K (He.ga K (Str.ofString c))) (hn : NoAttr K (He.ga K (Str.ofString c)) (Str.ofString f)) (p : P2 K o r) (D : Ends) (σ : L2.St) (H : Hp) (h : tDS K B W (U.sFldAug i c f o e) D σ H) : L2.sFldAug K (tVar i) (tDE K B W e) r (Str.ofString f) D σ H := by
  obtain ⟨F, ρ, A, rp, h⟩ := h
  unfold U.sFldAug at h
  cases ex : fldO c f ρ[i]? with
  | none => rw [ex] at h; exact h.elim
  | some x =>
    rw [ex] at h
    simp only at h
    unfold fldO at ex
    split at ex
    · rename_i t c' ns ds e0
      split at ex
      · rename_i hcc
        subst hcc
        split at ex
        · rename_i d0 el
          split at ex
          · cases ex
          · rename_i hm
            cases ex
            obtain ⟨a, dx, fs, A', sa, ha, en, _, os⟩ := own_ins rp e0
            obtain ⟨v, A2, lv, ov⟩ := lookN_ov en os el
            obtain ⟨_, rv⟩ := ov.plain (by simpa using hm)
            refine ⟨.ref a, sa, a, _, dx, fs, v, rfl, ha, hc, hn, lv, ?_⟩
            refine ⟨F, ρ, A, rp, ?_⟩
            cases e1 : e ρ with
            | bad => rw [e1] at h; exact h
            | exc x ρ1 => rw [e1] at h; exact xend.expr h
            | ok d ρ1 =>
              rw [e1] at h
              simp only [ER.binds] at h
              intro y F1 H1 A1 r1 rv1 s1
              cases ez : o x d with
              | none => rw [ez] at h; exact h.elim
              | some z =>
                rw [ez] at h
                simp only at h
                cases e2 : putFO c' f z ρ1[i]? with
                | none => rw [e2] at h; exact h.elim
                | some d' =>
                  rw [e2] at h
                  simp only at h
                  refine p F1 H1 v y x d z _ (rv.step rp s1) rv1 ez fun w F3 H3 g rw' => ?_
                  obtain ⟨a2, dx2, fs2, sa2, ha2, hl2, q2⟩ := put_core (Ar := []) (r1.grow g) rw'.own (by simpa using r1.nd) (fun b hb => by cases hb) (by simpa using s1.trans g.step) e2 (fun F' H' A' r' s' => h σ F' H' A' r' s' rfl)
                  rw [sa] at sa2
                  cases sa2
                  exact ⟨dx2, fs2, ha2, hl2, q2⟩
        · cases ex
      · cases ex
    · cases ex
end
section
variable {X : Cx} {B : Bx} {W : WX} {e : Expr} {st : Stmt} {f g t : E} {b : U.St}
theorem s_fldAug {i : Nat} {c n : String} {o : D → D → Option D} {r : R2} (p : P2 X.K o r) (hc : Cls X.K (He.ga X.K (Str.ofString c))) (hn : NoAttr X.K (He.ga X.K (Str.ofString c)) (Str.ofString n)) (h : PS X st (L2.sFldAug X.K (tVar i) (tDE X.K B W f) r (Str.ofString n))) : DS X B W st (U.sFldAug i c n o f) := h.weak (w_fldAug hc hn p)
end
end U
namespace L2
open PySem PySem.Spec PyProof.Rows
section
variable {X : Cx} {CX : CXT} {k : Nat} {f C : Addr} {sp : Sp} {E : St → XK} {x m : Str} {p pos apos : Pos} {e o : Expr} {es : List Expr} {ta : TE} {t : TA}
theorem run_makeRS {pins : List (Addr × Obj)} {σ : St} {H : Hp} {s : Shared} {Q : VK} {us : List Value} {vs : List V} (M : Mk X.K C f) (F : FnR X.prog X.w X.K X.mg X.base CX k f sp) (hr : Room (k + 1) X.A)
    (hx : ∀ σ, PassesAt CX X σ (E σ)) (I : Inv X pins σ H s) (r : Vals vs us)
    (h : ∀ x dx, H x = none → H dx = none → dx ≠ x → sp (.ref x :: vs) (upd (upd H dx (.own x)) x (.ins C dx [])) (fun v H2 => v = .non ∧ Q (.ref x) H2) (E σ)) :
    wpAny (model X.prog X.w) X.A (call (.ref C) us) (EP X pins σ Q) X.xe s := by
  have hq := h (s.heap.objs.size + 1) s.heap.objs.size (I.hok.fresh (Nat.le_succ _)) (I.hok.fresh (Nat.le_refl _)) (Nat.ne_of_lt (Nat.lt_succ_self _))
  have I2 := Inv.made (C := C) I
  have r2 : Vals (V.ref (s.heap.objs.size + 1) :: vs) (Value.ref (s.heap.objs.size + 1) :: us) := .cons rfl r
  refine wpAny_call (make_map (f := f) I.kIn M.makes M.init (beq_iff_eq.mp M.fn) (codeAny_mono (F _ X.stack _ _ (Value.ref (s.heap.objs.size + 1) :: us) _ _ (E σ) (hr.make C us []) (I2.env0.make C us []) r2 hq) fun r s' hq' => ?_))
  cases r with
  | error e => exact hx σ pins _ _ e s' I2 hq'
  | ok fl =>
    cases fl with
    | ret u =>
      obtain ⟨v, H', I3, rv, ev, q3⟩ := I2.after hq'
      subst ev
      exact ⟨rv, ⟨V.ref (s.heap.objs.size + 1), H', I3, rfl, q3⟩⟩
    | next => exact False.elim hq'
    | brk => exact False.elim hq'
    | cont => exact False.elim hq'
theorem pe_makeRS (M : Mk X.K C f) (F : FnR X.prog X.w X.K X.mg X.base CX k f sp) (hr : Room (k + 1) X.A) (hg : Gl X x) (hm : X.mg x = some (.ref C)) (hx : ∀ σ, PassesAt CX X σ (E σ))
    (ha : PA X (e :: es) t) (hdb : (x == ("__debug__" : Str)) = false := by decide) (he : starEach (e :: es) X.env = (false, eval e X.env) :: starEach es X.env := by rfl) (hpl : (backTo pos (starEach es X.env)).any (·.1) = false := by rfl) :
    PE X (.Call (.Name x p) (e :: es) [] pos) (tMakeSD C sp [] E t) := by
  refine ⟨fun pins s σ H Q I h => ?_⟩
  refine wpAny_Call_Name_kw (ld_glob I hg hm ?_ hdb)
  refine PySem.W.callWith_K (h₀ := X.base) I.ok.mod.kin M.kp (thn (ha.run pos pins s σ H _ I h) fun us s1 ⟨vs, H1, I1, r, q⟩ => ⟨I1.kIn, ?_⟩) he hpl
  exact run_makeRS M F hr hx I1 r fun x dx h1 h2 h3 => by
    have := q x dx h1 h2 h3
    rwa [List.append_nil] at this
theorem pe_makeRS0 (M : Mk X.K C f) (F : FnR X.prog X.w X.K X.mg X.base CX k f sp) (hr : Room (k + 1) X.A) (hg : Gl X x) (hm : X.mg x = some (.ref C)) (hx : ∀ σ, PassesAt CX X σ (E σ))
    (hdb : (x == ("__debug__" : Str)) = false := by decide) : PE X (.Call (.Name x p) [] [] pos) (tMakeSD C sp [] E tNil) := by
  refine ⟨fun pins s σ H Q I h => ?_⟩
  refine wpAny_Call_Name_kw (ld_glob I hg hm ?_ hdb)
  exact PySem.W.callWith_K0 I.kIn M.kp (run_makeRS (us := []) M F hr hx I .nil h)
end
end L2
namespace U
open PySem PySem.Spec PyProof.Rows L2
def starF (n : Nat) (f : Fn) : Fn := fun ds => if n ≤ ds.length ∧ allPlain (ds.drop n) = true ∧ (ds.drop n).length ≤ sizeLine then f (ds.take n ++ [.tup (ds.drop n)]) else .bad
section
variable {K : PySem.W.Frag} {B : Bx} {F F' : Fz} {H H' : Hp}
theorem OVps.splitN : ∀ {vs : List V} {ds : List D} {A : List Addr} (n : Nat), OVps K F H B vs ds A → ∃ A1 A2, OVps K F H B (vs.take n) (ds.take n) A1 ∧ OVps K F H B (vs.drop n) (ds.drop n) A2 ∧ A = A1 ++ A2
  | vs, ds, A, 0, h => ⟨[], A, by simp only [List.take_zero, OVps], by simpa only [List.drop_zero] using h, rfl⟩
  | [], [], A, n + 1, h => ⟨[], A, by simp only [List.take_nil, OVps], by simpa only [List.drop_nil] using h, rfl⟩
  | _ :: _, _ :: _, A, n + 1, h => by
    simp only [OVps] at h
    obtain ⟨A1, A2, h1, h2, rfl⟩ := h
    obtain ⟨A3, A4, h3, h4, rfl⟩ := OVps.splitN n h2
    refine ⟨A1 ++ A3, A4, ?_, by simpa only [List.drop_succ_cons] using h4, by rw [List.append_assoc]⟩
    simp only [List.take_succ_cons, OVps]
    exact ⟨A1, A3, h1, h3, rfl⟩
  | [], _ :: _, _, _ + 1, h => by simp only [OVps] at h
  | _ :: _, [], _, _ + 1, h => by simp only [OVps] at h
theorem OVps.stay (m : ∀ a, F a → F' a) : ∀ {vs : List V} {ds : List D} {A : List Addr}, (∀ a o, (F a ∨ a ∈ A) → H a = some o → H' a = some o) → OVps K F H B vs ds A → OVps K F' H' B vs ds A
  | [], [], _, _, h => by simp only [OVps] at h ⊢; exact h
  | _ :: _, _ :: _, _, k, h => by
    simp only [OVps] at h ⊢
    obtain ⟨A1, A2, h1, h2, e⟩ := h
    subst e
    exact ⟨A1, A2, h1.stay m fun b o hb => k b o (hb.imp id (List.mem_append_left _)), OVps.stay m (fun b o hb => k b o (hb.imp id (List.mem_append_right _))) h2, rfl⟩
  | [], _ :: _, _, _, h => by simp only [OVps] at h
  | _ :: _, [], _, _, h => by simp only [OVps] at h
theorem OVps.there : ∀ {vs : List V} {ds : List D} {A : List Addr}, OVps K F H B vs ds A → ∀ a ∈ A, ∃ o, H a = some o
  | [], [], _, h, _, ha => by simp only [OVps] at h; rw [h] at ha; cases ha
  | _ :: _, _ :: _, _, h, a, ha => by
    simp only [OVps] at h
    obtain ⟨A1, A2, h1, h2, e⟩ := h
    subst e
    rcases List.mem_append.mp ha with z | z
    · exact h1.there a z
    · exact OVps.there h2 a z
  | [], _ :: _, _, h, _, _ => by simp only [OVps] at h
  | _ :: _, [], _, h, _, _ => by simp only [OVps] at h
theorem w_starF {n : Nat} {f : Fn} (vs : List V) (H : Hp) (Q : VK) (E : XK) (h : spD K (starF n f) vs H Q E) :
    ∃ ws rest, vs = ws ++ rest ∧ ws.length = n ∧ rest.length ≤ sizeLine ∧ ∀ p, H p = none → spD K f (ws ++ [V.ref p]) (upd H p (.tup rest)) Q E := by
  obtain ⟨F, ds, A, B, o, nd, nf, dm, h⟩ := h
  unfold starF at h
  by_cases c : n ≤ ds.length ∧ allPlain (ds.drop n) = true ∧ (ds.drop n).length ≤ sizeLine
  case neg => rw [if_neg c] at h; exact h.elim
  rw [if_pos c] at h
  obtain ⟨c1, c2, c3⟩ := c
  obtain ⟨A1, A2, o1, o2, rfl⟩ := OVps.splitN n o
  obtain ⟨rfl, rv⟩ := o2.allP (allPlain_mem c2)
  have hl := o.len
  refine ⟨vs.take n, vs.drop n, (List.take_append_drop n vs).symm, by rw [List.length_take, hl]; omega, by rw [o2.len]; exact c3, fun p hp => ?_⟩
  have g : Grow F H (fun a => F a ∨ a = p) (upd H p (.tup (vs.drop n))) := Grow.new hp
  rw [List.append_nil] at nd nf h
  refine ⟨fun a => F a ∨ a = p, ds.take n ++ [.tup (ds.drop n)], A1, B, ?_, nd, fun a ha z => ?_, g.dm dm, ?_⟩
  · refine OVps.snocP (o1.stay g.mono fun a o _ e => g.keep a o e) ?_
    simp only [RVs, RV]
    exact ⟨⟨p, vs.drop n, rfl, .inl ⟨.inr rfl, .of (by rw [upd_same])⟩, rv.grow g⟩, trivial⟩
  · rcases z with z | z
    · exact nf a ha z
    · obtain ⟨o, e⟩ := o1.there a ha
      rw [z, hp] at e; cases e
  · cases e : f (ds.take n ++ [.tup (ds.drop n)]) with
    | bad => rw [e] at h; exact h
    | ok d o3 =>
      rw [e] at h
      intro v F' H' σ' A' Ar q1 q2 q3 q4 q5 q6
      exact h v F' H' σ' A' Ar q1 q2 q3 q4 q5 (g.step.trans q6)
    | exc x o3 =>
      rw [e] at h
      intro cls dd F' H' σ' A' q1 q2 q3 q4 q5 q6
      exact h cls dd F' H' σ' A' q1 q2 q3 q4 q5 (g.step.trans q6)
theorem fn_okS {CX : CXT} {P : Program} {w : World} {mg : Str → Option Value} {base : Heap} {x qual pv : Str} {params : Arguments} {body : List Stmt} {scope : Scope} {kws : List (Str × V)} {f : Addr} {fd : FuncData} {N ps : List Str} {k n m : Nat} {b : U.St}
    (Fd : FunD K x qual params body scope [] kws f fd) (S : FnScope N (ps ++ [pv]) scope) (hCX : StX.CXUp CX) (hn : ps.length = n) (hN : N.length = n + 1 + m)
    (hbd : ∀ (kV doc pm : Value) (an : Option Addr) (cdv ct : Value) (us rest : List Value), us.length = ps.length → bindArgs (PySem.W.fnOf x qual params body scope .none kV doc pm an cdv ct) ⟨us ++ rest, []⟩ = (newTuple rest >>= fun t => pure (ps.zip us ++ [(pv, t)])))
    (hb : ∀ (cdv : Value) (A : Around) (outer : List PySem.Env) (s : Shared) (H : Hp) (E : XK) (B : Bx), Room k (A.deeper (envOfC qual scope s.heap.objs.size f cdv)) →
      PSs (cxOf CX P w K mg base N qual scope f cdv A outer s H E) body (tDS K B (fun cls d _ H => E cls d H) b)) : FnR P w K mg base CX (k + 1) f (spD K (starF n (fnOf (n + 1) m b))) := by
  obtain ⟨oc, od, dV, kV, doc, pm, an, cdv, ct, osl, rfl, lk, hcd, hD, hK⟩ := Fd.ex
  have hdv : dV = .none := by
    rcases hD with ⟨_, z⟩ | ⟨z, _⟩
    · exact z
    · exact absurd rfl z
  subst hdv
  refine FnR.imp (StX.fn_star (sp := spD K (fnOf (n + 1) m b)) lk hcd S hCX (hbd kV doc pm an cdv ct) fun A outer s H vs Q E hr h => ?_) fun vs H Q E h => ?_
  · obtain ⟨F, ds, A', B, o, nd, nf, dm, h⟩ := h
    refine ⟨_, hb cdv A outer s H E B hr, ?_⟩
    unfold fnOf at h
    by_cases c : ds.length = n + 1
    case neg => rw [if_neg c] at h; exact h.elim
    case pos =>
      rw [if_pos c] at h
      have hl := o.len
      have es : L2.start N vs = vs.map some ++ List.replicate m none := by
        unfold L2.start
        rw [hN, hl, c, Nat.add_sub_cancel_left]
      refine ⟨F, ds.map some ++ List.replicate m none, A', ⟨by rw [es]; exact o.start m, nd, nf, dm⟩, ?_⟩
      have fin : ∀ {ρ : Env} {σ' : L2.St} {F' : Fz} {H' : Hp} {A2 : List Addr}, Rep K F' H' B σ' ρ A2 → ∃ A3 A4, A2 = A3 ++ A4 ∧ OVS K F' H' B (σ'.take (n + 1)) (ρ.take (n + 1)) A3 := fun r => r.sl.take (n + 1)
      cases e : b (ds.map some ++ List.replicate m none) with
      | bad => rw [e] at h; exact h
      | bk ρ => rw [e] at h; exact h.elim
      | ct ρ => rw [e] at h; exact h.elim
      | nx ρ =>
        rw [e] at h
        intro σ' F' H' A2 r st _
        obtain ⟨A3, A4, rfl, o3⟩ := fin r
        have nd' := r.nd
        simp only [List.nodup_append] at nd'
        exact h .non F' H' _ A3 [] o3 (by simpa using nd'.1) (fun a ha => r.nf a (List.mem_append_left _ (by simpa using ha))) r.dm (by simp only [OV, RV]; exact ⟨trivial, trivial⟩) (st.sub fun a ha => List.mem_append_left _ (by simpa using ha))
      | rt d ρ =>
        rw [e] at h
        intro v σ' F' H' A2 Ar r ov nda nfa st _
        obtain ⟨A3, A4, rfl, o3⟩ := fin r
        simp only [List.nodup_append, List.mem_append] at nda
        refine h v F' H' _ A3 Ar o3 ?_ (fun a ha => ?_) r.dm ov (st.sub fun a ha => ?_)
        · simp only [List.nodup_append]
          exact ⟨nda.1.1, nda.2.1, fun a ha b hb => nda.2.2 a (.inl ha) b hb⟩
        · rcases List.mem_append.mp ha with z | z
          · exact r.nf a (List.mem_append_left _ z)
          · exact nfa a z
        · simp only [List.mem_append] at ha ⊢
          exact ha.elim (fun z => .inl (.inl z)) .inr
      | ex x ρ =>
        rw [e] at h
        intro cls dd σ' F' H' A2 r xv st _
        obtain ⟨A3, A4, rfl, o3⟩ := fin r
        have nd' := r.nd
        simp only [List.nodup_append] at nd'
        exact h cls dd F' H' _ A3 o3 nd'.1 (fun a ha => r.nf a (List.mem_append_left _ ha)) r.dm xv (st.sub fun a ha => List.mem_append_left _ ha)
  · obtain ⟨ws, rest, h1, h2, h3, h4⟩ := w_starF vs H Q E h
    exact ⟨ws, rest, h1, by rw [h2, hn], h3, h4⟩
end
theorem starF_at {n : Nat} {f : Fn} {ds : List D} (h1 : n ≤ ds.length) (h2 : allPlain (ds.drop n) = true) (h3 : (ds.drop n).length ≤ 16777215) : starF n f ds = f (ds.take n ++ [.tup (ds.drop n)]) := by
  unfold starF
  exact if_pos ⟨h1, h2, by unfold sizeLine; omega⟩
end U
namespace HT
open PySem PySem.Spec PyProof.Rows
section
variable {prog : Program} {w : World} {A : Around} {E : Value → Shared → Prop} {s : Shared}
theorem fmap_some {α β : Type} {f : α → Option β} {g : α → β} : ∀ (l : List α), (∀ m ∈ l, f m = some (g m)) → l.filterMap f = l.map g
  | [], _ => rfl
  | a :: l, h => by rw [List.filterMap_cons, h a List.mem_cons_self, List.map_cons, fmap_some l fun m hm => h m (List.mem_cons_of_mem _ hm)]
theorem gd_at {α : Type} {l : List α} {i : Nat} {d : α} (h : i < l.length) : l.getD i d = l[i] := by simp [List.getD, List.getElem?_eq_getElem h]
theorem pick_rev (n : Nat) (xs : Array Value) (hn : n = xs.size) : ((List.range n).filterMap fun (m : Nat) => xs[(((n : Int) - 1) + (m : Int) * (-1)).toNat]?).toArray = xs.toList.reverse.toArray := by
  congr 1
  rw [fmap_some (g := fun m => xs.toList.reverse.getD m .none) (List.range n) fun m hm => by
    have hm := List.mem_range.mp hm
    have h1 : (((n : Int) - 1) + (m : Int) * (-1)).toNat = n - 1 - m := by omega
    rw [h1]
    have h2 : m < xs.toList.reverse.length := by rw [List.length_reverse, Array.length_toList]; omega
    rw [gd_at h2, List.getElem_reverse]
    have h3 : n - 1 - m < xs.size := by omega
    rw [Array.getElem?_eq_getElem h3]
    congr 1
    rw [Array.getElem_toList]
    congr 1
    rw [Array.length_toList]
    omega]
  apply List.ext_getElem
  · simp [hn]
  · intro i h1 h2
    simp only [List.getElem_map, List.getElem_range]
    exact gd_at h2
theorem getItem_tuple_rev {t sl : Addr} {items : Array Value} {vl vu vs : Value} {Q : Value → Shared → Prop} (ht : IsTup s.heap t items) (hs : s.heap.IsSliceOf sl vl vu vs) (pl : IsPart vl none) (pu : IsPart vu none) (ps : IsPart vs (some (-1)))
    (h : Q (.ref s.heap.objs.size) { s with heap := s.heap.push { cls := .type "tuple", data := .seq items.toList.reverse.toArray } })
    (hsz : items.size ≤ sizeLine) : wpAny (model prog w) A (getItem (.ref t) (.ref sl)) Q E s := by
  have htake : sizeOk (.seq items.toList.reverse.toArray) := by
    show items.toList.reverse.toArray.size ≤ sizeLine
    rw [List.size_toArray, List.length_reverse, Array.length_toList]
    exact hsz
  obtain ⟨os, hos, hcs, hds⟩ := id hs
  have hTs : s.TypeIs (.ref sl) "slice" := ⟨os, hos, hcs⟩
  unfold getItem
  try with_reducible refine wpAny_holding ?_
  first | refine wpAny_bind (wpAny_pure ?_) | skip
  refine wpAny_bind (wpAny_sequenceKey ht.typeIs (by decide) ?_)
  refine wpAny_bind (wpAny_callSpecial?_slot (name := Str.ofString "__getitem__") ht.typeIs PyProof.Rows.slot_tuple_getitem
    (wpAny_call_entry PyProof.Rows.slot_tuple_getitem ht.typeIs entry_tuple_getitem ?_ (args_tuple_getitem _ _)))
  show wpAny _ _ (Builtin.Tuple.tupleItemsOf (.ref t) >>= _) _ _ s
  refine wpAny_bind (tupleItemsOf_ ht ?_)
  refine wpAny_bind (wpAny_typeOf hTs ?_)
  rw [if_pos (by decide)]
  have hap : ∀ {R : Int × Int × Nat → Shared → Prop}, R (((items.size : Nat) : Int) - 1, -1, items.size) s → wpAny (model prog w) A.in1 (Builtin.Slice.sliceApplied (.ref sl) (pure (items.size : Int))) R (fun e s => E e s) s := fun {R} hR => by
    unfold Builtin.Slice.sliceApplied Builtin.Slice.sliceFields
    refine wpAny_bind (wpAny_bind (wpAny_field hos hds (x := vl) rfl (wpAny_bind (wpAny_field hos hds (x := vu) rfl (wpAny_bind (wpAny_field hos hds (x := vs) rfl (wpAny_pure ?_)))))))
    refine wpAny_bind (slicePart_ ps ?_)
    show wpAny _ _ (if ((-1 : Int) == 0) = true then _ else _) _ _ s
    rw [if_neg (by decide)]
    refine wpAny_bind (slicePart_ pl (wpAny_bind (slicePart_ pu (wpAny_bind (wpAny_pure ?_)))))
    have e1 : Builtin.Slice.sliceAdjust none none (-1) (items.size : Int) = (((items.size : Nat) : Int) - 1, -1) := by
      unfold Builtin.Slice.sliceAdjust
      have h1 : ((-1 : Int) < 0) := by omega
      simp only [h1, if_true]
      try rfl
    have e2 : Builtin.Slice.slicePlaces (((items.size : Nat) : Int) - 1) (-1) (-1) = items.size := by
      unfold Builtin.Slice.slicePlaces
      have h1 : ¬ ((-1 : Int) > 0) := by omega
      simp only [h1, if_false, Int.neg_neg, Int.ediv_one]
      split <;> omega
    show wpAny _ _ (match Builtin.Slice.sliceAdjust none none (-1) (items.size : Int) with | (lo, hi) => pure (lo, (-1 : Int), Builtin.Slice.slicePlaces lo hi (-1))) _ _ s
    rw [e1]
    show wpAny _ _ (pure (((items.size : Nat) : Int) - 1, (-1 : Int), Builtin.Slice.slicePlaces (((items.size : Nat) : Int) - 1) (-1) (-1))) _ _ s
    rw [e2]
    exact wpAny_pure hR
  refine wpAny_bind (hap ?_)
  have hno : ¬ ((((items.size : Nat) : Int) - 1 == 0 && (-1 : Int) == 1 && items.size == items.size) = true) := by
    intro q
    rw [Bool.and_eq_true, Bool.and_eq_true] at q
    have q1 : (-1 : Int) = 1 := eq_of_beq q.1.2
    omega
  show wpAny _ _ (if (((items.size : Nat) : Int) - 1 == 0 && (-1 : Int) == 1 && items.size == items.size) = true then _ else _) _ _ s
  rw [if_neg hno, pick_rev _ _ rfl]
  first
    | exact wpAny_bind (m := Builtin.Tuple.tupleExact _) (wpAny_newObj_type (wpAny_pure ⟨_, rfl, wpAny_pure h⟩) htake)
    | exact wpAny_bind (m := Builtin.Tuple.tupleExact _) (wpAny_newObj_type (wpAny_bind (wpAny_pure (wpAny_pure ⟨_, rfl, wpAny_pure h⟩))) htake)
    | exact wpAny_bind (wpAny_bind (m := Builtin.Tuple.tupleExact _) (wpAny_newObj_type (wpAny_pure (wpAny_pure ⟨_, rfl, wpAny_pure h⟩)) htake))
    | exact wpAny_bind (wpAny_bind (m := Builtin.Tuple.tupleExact _) (wpAny_newObj_type (wpAny_pure ⟨_, rfl, wpAny_pure h⟩) htake))
end
end HT
namespace L2
open PySem PySem.Spec PyProof.Rows
section
variable {X : Cx}
def tRevT (K : PySem.W.Frag) (te : TE) : TE := fun σ H Q => te σ H fun x H1 => ∃ a xs, x = .ref a ∧ SqT K H1 a xs ∧ ∀ p, H1 p = none → Q (.ref p) (upd H1 p (.tup xs.reverse))
theorem pe_revT {e : Expr} {te : TE} {k : Nat} {p1 p2 p3 pos : Pos} (he : PE X e te) : PE X (.Subscript e (.Slice none none (some (.UnaryOp .USub (.Constant (.int 1) k p1) p2)) p3) pos) (tRevT X.K te) := by
  refine ⟨fun pins s σ H Q I h => ?_⟩
  refine Subscript_ (thn (he.run pins s σ H _ I h) fun v s1 ⟨x, H1, I1, r1, q1⟩ => ?_)
  obtain ⟨a, xs, ex, hx, q⟩ := q1
  subst ex
  cases r1
  have hst : PO X (some (.UnaryOp .USub (.Constant (.int 1) k p1) p2)) (tPart (tUn (rU fun i => .int (-i)) (tC (.int 1)))) := po_some (pe_un un_neg pe_int)
  refine wpAny_Slice (thn (po_none.run pins s1 σ H1 (fun o H2 => o = none ∧ H2 = H1) I1 ⟨rfl, rfl⟩) fun vl s2 ⟨l, H2, I2, pl, el, e2⟩ => ?_)
  subst el e2
  refine thn (po_none.run pins s2 σ H2 (fun o H3 => o = none ∧ H3 = H2) I2 ⟨rfl, rfl⟩) fun vu s3 ⟨u, H3, I3, pu, eu, e3⟩ => ?_
  subst eu e3
  refine thn (hst.run pins s3 σ H3 (fun o H4 => o = some (-1) ∧ H4 = H3) I3 ⟨1, rfl, -1, rfl, rfl, rfl⟩) fun vs s4 ⟨o, H4, I4, ps, eo, e4⟩ => ?_
  subst eo e4
  have I5 : Inv X pins σ H4 { s4 with heap := s4.heap.push { cls := .type "slice", data := .fields #[vl, vu, vs] } } := I4.kept (t' := s4.toks) fun b ob q => Heap.get?_push_of_some _ q
  obtain ⟨its, r, ht, hz⟩ := I5.tuple hx
  have hlen := r.length
  show wpAny (model X.prog X.w) X.A (subscriptTail e (.Slice none none (some (.UnaryOp .USub (.Constant (.int 1) k p1) p2)) p3) (.ref a) (.ref s4.heap.objs.size)) (EP X pins σ Q) X.xe { s4 with heap := s4.heap.push { cls := .type "slice", data := .fields #[vl, vu, vs] } }
  refine tail_any (ops := [.ref a, .ref s4.heap.objs.size]) ht.typeIs (PyProof.Rows.slot_tuple_getitem.lookup) ?_ (by with_unfolding_all rfl)
  refine HT.getItem_tuple_rev ht (Heap.IsSliceOf.new _ vl vu vs) pl pu ps ?_ (by rw [List.size_toArray]; omega)
  refine ⟨.ref _, _, I5.laid (t' := s4.toks) (o := .tup xs.reverse) (fun b ob q => Heap.get?_push_of_some _ q) (Nat.le_refl _) ?_, rfl, q _ (I5.hok.fresh (Nat.le_refl _))⟩
  exact ⟨by rw [List.length_reverse]; exact hz, _, r.reverse, IsTup.new _ _⟩
theorem tuple_mulW1 (l : Addr) (items : Array Value) (n : Nat) (dd : Option Addr) (sl : Array (Option Value)) (u : Tok) :
    Meets (Builtin.«tuple.__mul__» ⟨[.ref l, .int 1 u], []⟩) (fun _ R s => s.heap.get? l = some { cls := .type "tuple", dict := dd, data := .seq items n, slots := sl } ∧ R (.ok (.ret (Value.ref l))) s) :=
  .of_wp fun prog w A R s h => by
    obtain ⟨hp, g, d, tk, os⟩ := s
    obtain ⟨hl, h⟩ := h
    have f1 := AutoSeq1.idx_int
    have c0 : (decide ((1 : Int) < -(2 ^ 63)) || decide ((1 : Int) ≥ 2 ^ 63)) = false := by decide
    have c1 : (items.isEmpty || (1 : Int) == 1) = true := by simp
    wp_walk using wpAny_loadPart' hl
    repeat (first
      | (refine wpAny_ite_false (decide_eq_false (by rw [c0]; exact Bool.false_ne_true)) ?_; wp_walk using wpAny_loadPart' hl)
      | (refine wpAny_ite_true (decide_eq_true c1) ?_; wp_walk using wpAny_loadPart' hl))
    exact ⟨_, rfl, h⟩
def rRepT1 (K : PySem.W.Frag) : R2 := fun x y H Q => ∃ l xs, x = .ref l ∧ y = .int 1 ∧ SqT K H l xs ∧ Q (.ref l) H
theorem op_repT1 : OpR X (binaryOp .Mult) (rRepT1 X.K) := by
  intro pins s σ H x y v u Q I rx ry h
  obtain ⟨l, xs, rfl, rfl, hT, q⟩ := h
  cases rx
  obtain ⟨t, rfl⟩ := ry
  obtain ⟨its, r, ⟨⟨cls, dd, data, sl⟩, ho, hc, n, hd⟩, hs⟩ := I.tuple hT
  simp only at hc hd
  subst hc hd
  refine wpAny_binaryOp_repeat_ref (T := "tuple") (U := "int") (by decide) ⟨_, ho, rfl⟩ (fun s' => typeIs_int s' 1 t) noFill_tuple_mul F.fills_int_mul F.slot_int_rmul repeat_tuple F.slot_int_index.lookup
    (call_meets F.slot_int_rmul (typeIs_int s 1 t) F.entry_int_rmul (F.args_int_rmul_2 _ _) (int_rmul_tuple 1 t l its.toArray n dd sl)
      ⟨ho, rfl, ⟨_, ho, rfl⟩, call_meets F.slot_tuple_mul ⟨_, ho, rfl⟩ F.entry_tuple_mul (F.args_tuple_mul_2 _ _) (tuple_mulW1 l its.toArray n dd sl t) ⟨ho, ?_⟩⟩)
  exact ⟨.ref l, H, I, rfl, q⟩
def rRepU (K : PySem.W.Frag) : R2 := fun x y H Q => rRepT K x y H Q ∨ rRepT1 K x y H Q
theorem op_repU : OpR X (binaryOp .Mult) (rRepU X.K) := op_repT.or op_repT1
def rSumT (K : PySem.W.Frag) : List V → Hp → VK → Prop := fun vs H Q => ∃ (a : Addr) (ns : List Int), vs = [V.ref a] ∧ SqT K H a (ns.map V.int) ∧ Q (.int ns.sum) H
theorem sum_rawT {prog : Program} {w : World} {A : Around} {E Q : Value → Shared → Prop} {s : Shared} {l : Addr} {its : List Value} {ns : List Int} (hh : A.handled = none) (hl : IsTup s.heap l its.toArray) (hi : IntsAre its ns)
    (h : ∀ h' tk t', (∀ b o, s.heap.get? b = some o → h'.get? b = some o) → Q (.int ns.sum t') { s with heap := h', toks := tk }) : wpAny (model prog w) A (call (.builtin "sum") [.ref l]) Q E s := by
  obtain ⟨xs, e⟩ := hi.allInts.items
  have hn : numsOf (intItems xs).toList = ns := by rw [← e]; exact hi.numsOf
  rw [nums_intItems] at hn
  rw [e] at hl
  refine PySem.W.ktm_sumG hh hl fun h' tk t' hk => ?_
  have := h h' tk t' hk
  rw [preSum_eq, List.take_of_length_le (by simp), hn]; exact this
theorem cr_sumT (hc : X.calm = true) : CallR X (.builtin "sum") (rSumT X.K) := by
  intro pins s σ H vs us Q I r h
  obtain ⟨a, ns, rfl, hs, q⟩ := h
  obtain ⟨its, rv, hl, _⟩ := I.tuple hs
  rw [Vals.ref1 r]
  exact sum_rawT (I.ok.hd hc) hl rv.ints fun h' tk t' hk => ⟨.int _, H, I.kept hk, ⟨_, rfl⟩, q⟩
end
end L2
namespace U
open PySem PySem.Spec PyProof.Rows L2
def oRevT : D → Option D
  | .tup l => some (.tup l.reverse)
  | _ => none
def oRepU : D → D → Option D
  | .tup a, .int n => if 1 ≤ n ∧ n ≤ 1000 ∧ 0 < a.length ∧ a.length ≤ 1000 then some (.tup (List.replicate n.toNat a).flatten) else none
  | _, _ => none
def oSumT : List D → Option D
  | [.tup l] => (intsD l).map fun ns => .int ns.sum
  | _ => none
section
variable {K : PySem.W.Frag} {B : Bx} {F F' : Fz} {H H' : Hp} {W : WX}
theorem p_revT {K : PySem.W.Frag} : P1 K oRevT (fun x H1 Q => ∃ a xs, x = .ref a ∧ SqT K H1 a xs ∧ ∀ p, H1 p = none → Q (.ref p) (upd H1 p (.tup xs.reverse))) := by
  intro F H x a d Q ra e q
  unfold oRevT at e; split at e
  · cases e
    simp only [RV] at ra
    obtain ⟨p, vs, rfl, sq, rs⟩ := ra
    exact ⟨p, vs, rfl, sq.seq, fun p hp => q _ _ _ (Grow.new hp) (RV.newTup hp rs.reverse)⟩
  · cases e
theorem p_repU : P2 K oRepU (rRepU K) := by
  intro F H x y a b d Q ra rb e q
  unfold oRepU at e; split at e
  · rename_i a0 n
    split at e
    · rename_i h
      cases e
      by_cases h1 : n = 1
      · subst h1
        simp only [RV] at rb
        have ra' := ra
        simp only [RV] at ra
        obtain ⟨p, vs, rfl, sq, rs⟩ := ra
        refine .inr ⟨_, _, rfl, rb, sq.seq, q _ F H Grow.refl ?_⟩
        have : (List.replicate (1 : Int).toNat a0).flatten = a0 := by simp
        rw [this]
        exact ra'
      · refine .inl (p_repT F H x y (.tup a0) (.int n) _ Q ra rb ?_ q)
        show (if 2 ≤ n ∧ n ≤ 1000 ∧ 0 < a0.length ∧ a0.length ≤ 1000 then some (D.tup (List.replicate n.toNat a0).flatten) else none) = _
        rw [if_pos ⟨by omega, h.2⟩]
    · cases e
  · cases e
theorem p_sumT : PN K oSumT (rSumT K) := by
  intro F H xs ds d Q r e q
  unfold oSumT at e; split at e
  · obtain ⟨ns, h1, rfl⟩ := Option.map_eq_some_iff.mp e
    obtain ⟨v, rfl, rv⟩ := r.one
    simp only [RV] at rv
    obtain ⟨p, vs, rfl, sq, rs⟩ := rv
    exact ⟨p, ns, rfl, by rw [← ints_V h1 rs]; exact sq.seq, q _ F H Grow.refl (by simp only [RV])⟩
  · cases e
end
section
variable {X : Cx} {B : Bx} {W : WX} {e : Expr} {g : E}
theorem d_revT (h : PE X e (tRevT X.K (tDE X.K B W g))) : DE X B W e (eUn oRevT g) := h.weak (w_un p_revT)
theorem v_revT {l : List D} : oRevT (.tup l) = some (.tup l.reverse) := id rfl
theorem v_sumT {l : List D} : oSumT [.tup l] = (intsD l).map fun ns => .int ns.sum := id rfl
theorem v_repU {a : List D} {n : Int} : oRepU (.tup a) (.int n) = if 1 ≤ n ∧ n ≤ 1000 ∧ 0 < a.length ∧ a.length ≤ 1000 then some (.tup (List.replicate n.toNat a).flatten) else none := id rfl
end
end U
namespace TK
open PySem PySem.W PySem.Calls PyProof.Rows PySem.Spec L2
section
variable {N : Nat} {X : Cx} {CX : CXT} {k : Nat} {f C : Addr} {fd : FuncData} {ps : List Str} {sp : Sp} {dvs : List V} {E : L2.St → XK} {m : Str} {pos apos : Pos} {e o : Expr} {es : List Expr} {ta : TE} {t : TA}
theorem je_methSD {pl : Sem Bool} (he : PE X o ta) (c : Cls X.K C) (hm : Meth X.K C m f) (F : FnT N X.prog X.w X.K X.mg X.base CX k f fd ps sp) (hG : X.A.guards = some []) (hr : Room k X.A) (hb : ∃ ds, Vals dvs ds ∧ Binds X.K fd ps ds) (hx : ∀ σ, PassesAt CX X σ (E σ)) (ha : PA X (e :: es) t)
    (hst : starEach (e :: es) X.env = (false, eval e X.env) :: starEach es X.env := by rfl) (hpl : (backTo pos (starEach es X.env)).any (·.1) = false := by rfl)
    (ht : eval (.Call (.Attribute o m apos) (e :: es) [] pos) X.env = (do
      let ov ← eval o X.env
      standAt apos.atName
      let (f, first) ← holding [ov] (getMethod ov m pl)
      callWith pos f first (backTo pos (starEach (e :: es) X.env)) (backToKw pos (keywordEach [] X.env))) := by rfl) :
    JE N X (.Call (.Attribute o m apos) (e :: es) [] pos) (tMethSD C m sp dvs E ta t) := by
  obtain ⟨ds, hd, hb⟩ := hb
  refine ⟨fun pins s σ H Q n I h => ?_⟩
  refine PySem.W.methodCall_KW (pl := pl) (on n (he.run pins s σ H _ I h) fun u s1 n1 ⟨x, H1, I1, rx, a, dx, fs, ex, ea, l, q⟩ => ?_) ht
  subst ex
  obtain rfl : u = Value.ref a := rx
  refine getmeth_ok I1 ea c hm l ?_
  refine PySem.W.callWith_K (first := [.ref a]) (h₀ := X.base) I.ok.mod.kin hm.kp (on n1 (ha.run pos pins s1 σ H1 _ I1 q) fun us s2 n2 ⟨vs, H2, I2, r, q2⟩ => ⟨I2.kIn, ?_⟩) hst hpl
  exact run_fnT (us := .ref a :: us) (vs := .ref a :: vs) F n2 hG hr hb hd (hx σ) I2 (.cons rfl r) q2
end
end TK
namespace U
open PySem PySem.Spec PyProof.Rows L2
open TK (JE)
section
variable {N : Nat} {X : Cx} {B : Bx} {W : WX} {e : Expr}
theorem dT_methO {c m : String} {i : Nat} {fn : Fn} {g : List Ag} {dd : List D} {dvs : List V} (hd : ∀ F H, RVs X.K F H dvs dd) (h : JE N X e (tMethSD (He.ga X.K (Str.ofString c)) (Str.ofString m) (spD X.K fn) dvs (WE W) (tVar i) (tDG X.K B W g))) : DMT N X B W e (eMethO c m fn i g dd) :=
  h.weak (w_methO hd)
end
end U
namespace L2
open PySem PySem.Spec PyProof.Rows
def rIsXT (K : PySem.W.Frag) (a : Addr) (cls : Value) (d : Option Addr) : List V → Hp → VK → Prop := fun xs H Q => ∃ (D : Addr) (T : String) (b : Bool), xs = [.ref a, .ty T] ∧ cls = .ref D ∧ ExcC K D ∧ PySem.W.kitOne K (.ref D) (.type T) = some b ∧ (d = none ∨ ∃ p fs, d = some p ∧ H p = some (.xd fs)) ∧ Q (.bl b) H
end L2
namespace U
open PySem PySem.Spec PyProof.Rows L2
section
variable {K : PySem.W.Frag} {B : Bx} {W : WX}
end
section
variable {X : Cx} {W : WX} {e : Expr}
end
end U
namespace L2
open PySem PySem.Spec PyProof.Rows
end L2
namespace U
open PySem PySem.Spec PyProof.Rows L2
def eIsO (c : String) (r : Bool) (i : Nat) : E := fun ρ => if isI c ρ[i]? then .ok (.bl r) ρ else .bad
section
variable {K : PySem.W.Frag} {B : Bx} {W : WX}
end
end U
namespace PySem.W
open Lean Elab Tactic Meta PySem PySem.Spec PySem.Calls PyProof.Rows
section
variable {prog : Program} {w : World} {A A₀ : Around} {E : Value → Shared → Prop} {s : Shared} {K : Frag} {x y C C2 L f : Addr} {h₀ : Heap} {m : Str → Option Value} {ox oy : Obj} {od od2 : Option Obj}
end
end PySem.W
namespace L2
open PySem PySem.Spec PyProof.Rows
def rNeR (C C2 : Addr) (sp : Sp) : R2 := fun x y H Q => ∃ a b dx dy fs gs, x = .ref a ∧ y = .ref b ∧ H a = some (.ins C dx fs) ∧ H b = some (.ins C2 dy gs) ∧ sp [y, x] H (fun v H' => ∃ r, v = .bl r ∧ Q (.bl (!r)) H') (fun _ _ _ => False)
def rNeL (C C2 : Addr) (sp : Sp) : R2 := fun x y H Q => ∃ a b dx dy fs gs, x = .ref a ∧ y = .ref b ∧ H a = some (.ins C dx fs) ∧ H b = some (.ins C2 dy gs) ∧ sp [x, y] H (fun v H' => ∃ r, v = .bl r ∧ Q (.bl (!r)) H') (fun _ _ _ => False)
section
variable {X : Cx} {k : Nat} {C C2 f : Addr} {fd : FuncData} {ps : List Str} {sp : Sp}
end
end L2
namespace U
open PySem PySem.Spec PyProof.Rows L2
def isI1O (c : String) : List D → Bool
  | .own _ (.ins c' _ _) :: _ => decide (c' = c)
  | _ => false
def fIO (c : String) (f : Fn) : Fn := fun ds => if isI1O c ds then f ds else .bad
def fCalm (f : Fn) : Fn := fun ds => match f ds with
  | .ok d o => .ok d o
  | _ => .bad
def ePropM (c : String) (f : Fn) (o : E) : E := eCallM (fCalm (fIO c f)) o aNil []
def isR (c : String) : ER → Bool
  | .ok (.own _ (.ins c' _ _)) _ => decide (c' = c)
  | _ => false
def eDsV (o : E) : List (String × E) → E
  | [] => fun _ => .bad
  | (c, f) :: r => fun ρ => if isR c (o ρ) then f ρ else eDsV o r ρ
section
variable {K : PySem.W.Frag} {B : Bx} {F F' : Fz} {H H' : Hp} {W : WX} {σ : L2.St}
end
section
variable {X : Cx} {B : Bx} {W : WX} {e : Expr} {o f : E}
end
end U
namespace L2
open PySem PySem.Spec PyProof.Rows
section
variable {X : Cx} {k : Nat} {C f : Addr} {fd : FuncData} {ps : List Str} {sp : Sp}
def TyN (K : PySem.W.Frag) (y : V) (H : Hp) (T : String) : Prop :=
  (y = .non ∧ T = "NoneType") ∨ (∃ b, y = .bl b ∧ T = "bool") ∨ (∃ i, y = .int i ∧ T = "int") ∨ (∃ z, y = .str z ∧ T = "str") ∨ (∃ a xs, y = .ref a ∧ SqL K H a xs ∧ T = "list") ∨ (∃ a xs, y = .ref a ∧ SqT K H a xs ∧ T = "tuple")
def rOwnV (K : PySem.W.Frag) (C : Addr) (sp : Sp) : R2 := fun x y H Q => ∃ a dx fs T, x = .ref a ∧ H a = some (.ins C dx fs) ∧ TyN K y H T ∧ T ∈ ["NoneType", "bool", "int", "str", "tuple", "list", "dict"] ∧ sp [x, y] H Q (fun _ _ _ => False)
end
def permL {α : Type} (pm : List Nat) (l : List α) : List α := pm.filterMap (l[·]?)
theorem Vals.permL {zs : List V} {ws : List Value} (r : Vals zs ws) : ∀ pm : List Nat, Vals (L2.permL pm zs) (L2.permL pm ws)
  | [] => .nil
  | i :: pm => by
    have ih := Vals.permL r pm
    unfold L2.permL at ih ⊢
    rw [List.filterMap_cons, List.filterMap_cons]
    cases e : zs[i]? with
    | none =>
      have hl := r.length
      have : ws[i]? = none := by rw [List.getElem?_eq_none_iff] at e ⊢; omega
      rw [this]
      exact ih
    | some z =>
      obtain ⟨u, hu, ru⟩ := r.get e
      rw [hu]
      exact .cons ru ih
section
variable {X : Cx} {CX : CXT} {k : Nat} {f C : Addr} {fd : FuncData} {ps ks : List Str} {sp : Sp} {E : St → XK} {x : Str} {p pos : Pos} {kws : List Keyword} {tk : TA} {g : List Value → List Value → List Value} {gV : List V → List V → List V}
def tMakeKD (C : Addr) (m : Nat) (sp : Sp) (gV : List V → List V → List V) (E : St → XK) (tk : TA) : TE := fun σ H Q => tk σ H fun zs H1 => zs.length = m ∧ ∀ x dx, H1 x = none → H1 dx = none → dx ≠ x →
  sp (gV [.ref x] zs) (upd (upd H1 dx (.own x)) x (.ins C dx [])) (fun v H2 => v = .non ∧ Q (.ref x) H2) (E σ)
end
end L2
namespace U
open PySem PySem.Spec PyProof.Rows L2
def isAnyD : D → Bool
  | .non => true
  | .bl _ => true
  | .int _ => true
  | .str _ => true
  | .lst _ => true
  | .tup _ => true
  | _ => false
def oEqV (c : String) (f : Fn) : D → D → Option D
  | .ins c1 n1 d1, y => if c1 = c ∧ isAnyD y = true then (match f [.ins c1 n1 d1, y] with
    | .ok (.bl b) _ => some (.bl b)
    | _ => none) else none
  | _, _ => none
def aPerm (pm : List Nat) (m : Nat) (a : As) : As := fun ρ => match a ρ with
  | .ok ds ρ1 => if ds.length = m then .ok (permL pm ds) ρ1 else .bad
  | .exc x ρ1 => .exc x ρ1
  | .bad => .bad
def maxI : List Int → Option Int
  | [] => none
  | x :: r => some (r.foldl (fun a b => if a < b then b else a) x)
def minI : List Int → Option Int
  | [] => none
  | x :: r => some (r.foldl (fun a b => if b < a then b else a) x)
def oMaxL : List D → Option D
  | [.lst l] => (intsD l).bind fun ns => (maxI ns).map .int
  | _ => none
def oMinL : List D → Option D
  | [.lst l] => (intsD l).bind fun ns => (minI ns).map .int
  | _ => none
section
variable {K : PySem.W.Frag} {B : Bx} {F F' : Fz} {H H' : Hp} {W : WX} {σ : L2.St}
end
def DK (X : Cx) (B : Bx) (W : WX) (kws : List Keyword) (a : As) : Prop := PK X kws (tDA X.K B W a)
section
variable {X : Cx} {B : Bx} {W : WX} {e : Expr} {f g : E}
theorem PK.weak {kws : List Keyword} {t t' : TA} (h : PK X kws t) (w : ∀ σ H Q, t' σ H Q → t σ H Q) : PK X kws t' := ⟨fun p pins s σ H Q I q => h.run p pins s σ H Q I (w σ H Q q)⟩
end
section
variable {ρ : Env} {c : String} {fn : Fn} {ns : List String} {ds l : List D} {d : D} {pm : List Nat} {m : Nat}
def permK (pm : List Nat) (m : Nat) : AR → AR := fun r => match r with
  | .ok ds ρ1 => if ds.length = m then .ok (permL pm ds) ρ1 else .bad
  | .exc x ρ1 => .exc x ρ1
  | .bad => .bad
end
end U
namespace U
open PySem PySem.Spec PyProof.Rows L2
def ER.neg : ER → ER
  | .ok (.bl r) ρ => .ok (.bl (!r)) ρ
  | _ => .bad
def ER.bool : ER → ER
  | .ok (.bl r) ρ => .ok (.bl r) ρ
  | _ => .bad
def eNeL (c c2 : String) (f : Fn) (i j : Nat) : E := fun ρ => if isI c ρ[i]? = true ∧ isI c2 ρ[j]? = true then (eCall f [.b i, .b j] [] ρ).neg else .bad
def eNeR (c c2 : String) (f : Fn) (i j : Nat) : E := fun ρ => if isI c ρ[i]? = true ∧ isI c2 ρ[j]? = true then (eCall f [.b j, .b i] [] ρ).neg else .bad
def isAnyO : Option (Option D) → Bool
  | some (some d) => isAnyD d
  | _ => false
def eEqVN (c : String) (f : Fn) (i j : Nat) : E := fun ρ => if isI c ρ[i]? = true ∧ isAnyO ρ[j]? = true then (eCall f [.b i, .v (eVar j)] [] ρ).bool else .bad
section
variable {K : PySem.W.Frag} {B : Bx} {F F' : Fz} {H H' : Hp} {W : WX} {σ : L2.St}
end
section
variable {X : Cx} {B : Bx} {W : WX} {e : Expr}
end
end U
namespace TK
open PySem PySem.Spec PyProof.Rows L2
theorem JE.two {N : Nat} {X : Cx} {e : Expr} {t t1 t2 : TE} (h1 : JE N X e t1) (h2 : JE N X e t2) (w : ∀ σ H Q, t σ H Q → t1 σ H Q ∨ t2 σ H Q) : JE N X e t :=
  ⟨fun pins s σ H Q hN I q => (w σ H Q q).elim (h1.run pins s σ H Q hN I) (h2.run pins s σ H Q hN I)⟩
end TK
namespace U
open PySem PySem.Spec PyProof.Rows L2 TK
section
variable {N : Nat} {X : Cx} {B : Bx} {W : WX} {e : Expr} {f : E} {i : Nat} {c : String} {l : List (String × E)}
end
end U
namespace U
open PySem PySem.Spec PyProof.Rows L2
theorem _root_.L2.PT.two {X : Cx} {e : Expr} {t t1 t2 : TT} (h1 : PT X e t1) (h2 : PT X e t2) (w : ∀ σ H Q, t σ H Q → t1 σ H Q ∨ t2 σ H Q) : PT X e t :=
  ⟨fun pins s σ H Q I q => (w σ H Q q).elim (h1.run pins s σ H Q I) (h2.run pins s σ H Q I)⟩
section
variable {X : Cx} {B : Bx} {W : WX} {e : Expr} {f : E} {i j : Nat} {c c2 : String} {l : List (String × E)}
end
end U
namespace LT
open PySem PySem.Spec PyProof.Rows L2
def sgV (c : Nat) : V := .str ⟨#[c]⟩
end LT
namespace U
open PySem PySem.Spec PyProof.Rows L2
def oLstS : List D → Option D
  | [.str l] => if l.length ≤ cap then some (.own 0 (.lst (l.map fun c => .str [c]))) else none
  | _ => none
section
variable {K : PySem.W.Frag}
end
end U
namespace LC
open PySem PySem.Spec PyProof.Rows L2
def eqS (k : Str) : Value → Bool
  | .str s _ => decide (s = k)
  | _ => false
def rCntS (K : PySem.W.Frag) : V → List V → Hp → VK → Prop := fun x xs H Q => ∃ (p : Addr) (ss : List Str) (k : Str), x = .ref p ∧ xs = [.str k] ∧ SqL K H p (ss.map V.str) ∧ Q (.int ((ss.countP fun s => decide (s = k) : Nat) : Int)) H
end LC
namespace U
open PySem PySem.Spec PyProof.Rows L2
def ePop (i : Nat) (a : E) : E := fun ρ => if isOL ρ[i]? then (a ρ).bind fun x ρ1 => (match ρ1[i]?, x with
  | some (some (.own t (.lst l))), .int j => if 0 ≤ j ∧ j < l.length ∧ allPlain l = true ∧ l.length ≤ cap then (match l[j.toNat]? with
    | some d => .ok d (ρ1.set i (some (.own t (.lst (l.eraseIdx j.toNat)))))
    | none => .bad) else .bad
  | _, _ => .bad) else .bad
def eLs (o : D → D → Option D) (a b : E) : E := fun ρ => (a ρ).bind fun x ρ1 => match x with
  | .lst l => (b ρ1).bind fun y ρ2 => lift (o (.lst l) y) ρ2
  | _ => .bad
def oIdxI : D → D → Option D
  | .lst l, .int m => (match intsD l with
    | some ns => if ns.length ≤ cap then (ns.findIdx? fun n => n == m).map fun j => .int (j : Nat) else none
    | none => none)
  | _, _ => none
def txtsD : List D → Option (List (List Nat))
  | [] => some []
  | .str l :: ds => (txtsD ds).map (l :: ·)
  | _ => none
def oCntS : D → D → Option D
  | .lst l, .str k => (match txtsD l with
    | some ls => some (.int ((ls.countP fun s => decide (s = k) : Nat) : Int))
    | none => none)
  | _, _ => none
section
variable {K : PySem.W.Frag} {B : Bx} {W : WX} {F : Fz} {H : Hp}
theorem RVs.at_ : ∀ {vs : List V} {ds : List D} {n : Nat} {d : D}, RVs K F H vs ds → ds[n]? = some d → ∃ v, vs[n]? = some v ∧ RV K F H v d
  | [], [], n, d, _, e => by simp at e
  | v :: vs, x :: ds, 0, d, r, e => by
    simp only [RVs] at r
    simp only [List.getElem?_cons_zero, Option.some.injEq] at e
    subst e
    exact ⟨v, rfl, r.1⟩
  | v :: vs, x :: ds, n + 1, d, r, e => by
    simp only [RVs] at r
    simp only [List.getElem?_cons_succ] at e ⊢
    exact RVs.at_ r.2 e
  | [], _ :: _, _, _, r, _ => by simp only [RVs] at r
  | _ :: _, [], _, _, r, _ => by simp only [RVs] at r
end
section
variable {X : Cx} {B : Bx} {W : WX} {e : Expr} {f g : E}
end
end U
namespace DL
open PySem PySem.W PySem.Calls PyProof.Rows PySem.Spec L2
section
variable {prog : Program} {w : World} {A : Around} {E : Value → Shared → Prop} {s : Shared}
set_option maxRecDepth 100000 in
end
section
variable {X : Cx} {o lo : Expr} {to : TE} {tl : TO} {pos tpos p2 : Pos}
def tDelS (to : TE) (tl : TO) : TS := fun D σ H => to σ H fun x H1 => tl σ H1 fun l H2 => ∃ (a : Addr) (xs : List V), x = .ref a ∧ H2 a = some (.lst xs) ∧ D.nx σ (upd H2 a (.lst (xs.take (HT.sIx xs.length 0 l))))
end
end DL
namespace U
open PySem PySem.Spec PyProof.Rows L2
def frzA : D → Option D
  | .own 0 (.lst l) => if allPlain l then some (.lst l) else none
  | .own _ _ => none
  | .exn _ _ _ => none
  | d => some d
def frzAs : List D → Option (List D)
  | [] => some []
  | d :: ds => (frzA d).bind fun e => (frzAs ds).map (e :: ·)
mutual
def noLI : D → Bool
  | .tup ds => noLIs ds
  | .non => true
  | .bl _ => true
  | .int _ => true
  | .str _ => true
  | _ => false
def noLIs : List D → Bool
  | [] => true
  | d :: ds => noLI d && noLIs ds
end
def outLI : D → Bool
  | .own 0 (.lst l) => noLIs l
  | d => noLI d
def eLentI (i : Nat) (g : E) : E := fun ρ => match ρ[i]? with
  | some (some (.own _ (.ins c ns ds))) => (match frzAs ds with
    | some ds' => (match g ((ρ.map onlyF).set i (some (.ins c ns ds'))) with
      | .ok d _ => if outLI d = true then .ok d ρ else .bad
      | _ => .bad)
    | none => .bad)
  | _ => .bad
section
variable {K : PySem.W.Frag} {B : Bx} {F F' : Fz} {H H' : Hp} {W : WX}
theorem frzA_rv {F1 : Fz} {v : V} {d d' : D} {A : List Addr} (m : ∀ b, F b → F1 b) (hA : ∀ b ∈ A, F1 b) (e : frzA d = some d') (h : OV K F H v d A) : RV K F1 H v d' ∧ ∀ b ∈ A, ∃ xs, H b = some (.lst xs) := by
  cases d with
  | own t x =>
    cases t with
    | succ j => simp only [OV] at h
    | zero =>
      cases x with
      | lst l =>
        simp only [frzA] at e
        by_cases c : allPlain l = true
        · rw [if_pos c] at e
          cases e
          simp only [OV] at h
          obtain ⟨a, vs, A', rfl, ha, rfl, os⟩ := h
          obtain ⟨rfl, rs⟩ := os.plainL c
          refine ⟨?_, fun b hb => ?_⟩
          · simp only [RV]
            exact ⟨a, vs, rfl, ⟨hA a List.mem_cons_self, ha⟩, rs.stay m fun _ _ _ z => z⟩
          · rw [List.mem_singleton.mp hb]; exact ⟨vs, ha⟩
        · rw [if_neg c] at e; cases e
      | _ => simp only [frzA] at e; cases e
  | exn c ns ds => simp only [frzA] at e; cases e
  | _ =>
    simp only [frzA] at e
    cases e
    obtain ⟨rfl, r⟩ := h.plain rfl
    exact ⟨r.stay m fun _ _ _ z => z, fun b hb => by cases hb⟩
theorem frzAs_rv {F1 : Fz} (m : ∀ b, F b → F1 b) : ∀ {vs : List V} {ds ds' : List D} {A : List Addr}, (∀ b ∈ A, F1 b) → frzAs ds = some ds' → OVs K F H vs ds A → RVs K F1 H vs ds' ∧ ∀ b ∈ A, ∃ xs, H b = some (.lst xs)
  | [], [], _, _, _, e, h => by
    simp only [OVs] at h
    subst h
    cases e
    exact ⟨by simp only [RVs], fun b hb => by cases hb⟩
  | _ :: _, d :: ds, _, _, hA, e, h => by
    simp only [OVs] at h
    obtain ⟨A1, A2, h1, h2, rfl⟩ := h
    simp only [frzAs] at e
    obtain ⟨d1, e1, e⟩ := Option.bind_eq_some_iff.mp e
    obtain ⟨ds1, e2, rfl⟩ := Option.map_eq_some_iff.mp e
    obtain ⟨r1, l1⟩ := frzA_rv m (fun b hb => hA b (List.mem_append_left _ hb)) e1 h1
    obtain ⟨r2, l2⟩ := frzAs_rv m (fun b hb => hA b (List.mem_append_right _ hb)) e2 h2
    exact ⟨by simp only [RVs]; exact ⟨r1, r2⟩, fun b hb => (List.mem_append.mp hb).elim (l1 b) (l2 b)⟩
  | [], _ :: _, _, _, _, _, h => by simp only [OVs] at h
  | _ :: _, [], _, _, _, _, h => by simp only [OVs] at h
mutual
theorem RV.unI {A : List Addr} (ha : ∀ a ∈ A, (∃ xs, H a = some (.lst xs)) ∨ ∃ C dx fs, H a = some (.ins C dx fs)) : ∀ {v : V} {d : D}, noLI d = true → RV K F H v d → RV K (fun b => F b ∧ b ∉ A) H v d
  | _, .non, _, h => by simp only [RV] at h ⊢; exact h
  | _, .bl _, _, h => by simp only [RV] at h ⊢; exact h
  | _, .int _, _, h => by simp only [RV] at h ⊢; exact h
  | _, .str _, _, h => by simp only [RV] at h ⊢; exact h
  | _, .tup _, e, h => by
    simp only [noLI] at e
    simp only [RV] at h ⊢
    obtain ⟨b, vs, rfl, s, r⟩ := h
    refine ⟨b, vs, rfl, ?_, RVs.unI ha e r⟩
    rcases s with ⟨f, s⟩ | s
    · refine .inl ⟨⟨f, fun z => ?_⟩, s⟩
      rcases ha b z with ⟨xs, q⟩ | ⟨C, dx, fs, q⟩
      · rcases s with s | ⟨o, s⟩ <;> (rw [q] at s; cases s)
      · rcases s with s | ⟨o, s⟩ <;> (rw [q] at s; cases s)
    · exact .inr s
  | _, .ins _ _ _, e, _ => by simp [noLI] at e
  | _, .dic _, e, _ => by simp [noLI] at e
  | _, .lst _, e, _ => by simp [noLI] at e
  | _, .scr _, e, _ => by simp [noLI] at e
  | _, .own _ _, e, _ => by simp [noLI] at e
  | _, .exn _ _ _, e, _ => by simp [noLI] at e
theorem RVs.unI {A : List Addr} (ha : ∀ a ∈ A, (∃ xs, H a = some (.lst xs)) ∨ ∃ C dx fs, H a = some (.ins C dx fs)) : ∀ {vs : List V} {ds : List D}, noLIs ds = true → RVs K F H vs ds → RVs K (fun b => F b ∧ b ∉ A) H vs ds
  | [], [], _, _ => by simp only [RVs]
  | _ :: _, _ :: _, e, h => by
    simp only [noLIs, Bool.and_eq_true] at e
    simp only [RVs] at h ⊢
    exact ⟨RV.unI ha e.1 h.1, RVs.unI ha e.2 h.2⟩
  | [], _ :: _, _, h => by simp only [RVs] at h
  | _ :: _, [], _, h => by simp only [RVs] at h
end
theorem noLI_plain : ∀ {d : D}, noLI d = true → d.isMut = false
  | .own _ _, h => by simp [noLI] at h
  | .exn _ _ _, h => by simp [noLI] at h
  | .non, _ => rfl
  | .bl _, _ => rfl
  | .int _, _ => rfl
  | .str _, _ => rfl
  | .tup _, _ => rfl
  | .lst _, _ => rfl
  | .ins _ _ _, _ => rfl
  | .scr _, _ => rfl
  | .dic _, _ => rfl
theorem noLIs_plain : ∀ {l : List D}, noLIs l = true → allPlain l = true
  | [], _ => rfl
  | d :: l, h => by
    simp only [noLIs, Bool.and_eq_true] at h
    simp only [allPlain, Bool.and_eq_true, Bool.not_eq_true']
    exact ⟨noLI_plain h.1, noLIs_plain h.2⟩
theorem OV.unI {A : List Addr} {v : V} {d : D} {Ar : List Addr} (ha : ∀ a ∈ A, (∃ xs, H a = some (.lst xs)) ∨ ∃ C dx fs, H a = some (.ins C dx fs)) (e : outLI d = true) (h : OV K F H v d Ar) : OV K (fun b => F b ∧ b ∉ A) H v d Ar := by
  have plain : noLI d = true → OV K (fun b => F b ∧ b ∉ A) H v d Ar := fun e => by
    obtain ⟨rfl, r⟩ := h.plain (noLI_plain e)
    exact (r.unI ha e).own
  cases d with
  | own t x =>
    cases t with
    | succ j => simp [outLI, noLI] at e
    | zero =>
      cases x with
      | lst l =>
        simp only [outLI] at e
        simp only [OV] at h ⊢
        obtain ⟨a, vs, A', rfl, s, rfl, os⟩ := h
        obtain ⟨rfl, rs⟩ := os.plainL (noLIs_plain e)
        exact ⟨a, vs, [], rfl, s, rfl, (rs.unI ha e).ovs⟩
      | _ => simp [outLI, noLI] at e
  | _ => exact plain (by simpa only [outLI] using e)
end
section
variable {X : Cx} {B : Bx} {W : WX} {e : Expr} {g : E}
end
def isFL (c f : String) : Option (Option D) → Bool
  | some (some (.own _ (.ins c' ns ds))) => decide (c' = c) && (match lookN f ns ds with
    | some (.own 0 (.lst _)) => true
    | _ => false)
  | _ => false
def chgF (c f : String) (h : List D → Option (List D)) : Option (Option D) → Option D
  | some (some (.own t (.ins c' ns ds))) => if c' = c then (match lookN f ns ds with
    | some (.own 0 (.lst l)) => (h l).map fun l' => .own t (.ins c ns (putDs f (.own 0 (.lst l')) ns ds))
    | _ => none) else none
  | _ => none
def eAppF (i : Nat) (c f : String) (a : E) : E := fun ρ => if isFL c f ρ[i]? then (eLentI i a ρ).bind fun x ρ1 => (match (if x.isMut then none else chgF c f (fun l => if l.length < cap then some (l ++ [x]) else none) ρ1[i]?) with
  | some d => .ok .non (ρ1.set i (some d))
  | none => .bad) else .bad
def cutI (l : List D) : D → Option (List D)
  | .int k => if allPlain l = true then some (l.take (HT.sIx l.length 0 (some k))) else none
  | _ => none
def sDelF (i : Nat) (c f : String) (a : E) : St := fun ρ => if isFL c f ρ[i]? then (eLentI i a ρ).binds fun x ρ1 => (match chgF c f (fun l => cutI l x) ρ1[i]? with
  | some d => .nx (ρ1.set i (some d))
  | none => .bad) else .bad
section
variable {K : PySem.W.Frag} {B : Bx} {F F' : Fz} {H H' : Hp} {W : WX}
theorem OVs.fld {f : String} {d : D} : ∀ {ns : List String} {ds : List D} {fs : List (Str × V)} {A : List Addr}, fs.map (·.1) = ns.map Str.ofString → OVs K F H (fs.map (·.2)) ds A → lookN f ns ds = some d →
    ∃ v Af L R, fs.lookup (Str.ofString f) = some v ∧ OV K F H v d Af ∧ A = L ++ Af ++ R ∧ ∀ {H' : Hp} {d' : D}, (∀ x o, (F x ∨ x ∈ L ∨ x ∈ R) → H x = some o → H' x = some o) → OV K F H' v d' Af → OVs K F H' (fs.map (·.2)) (putDs f d' ns ds) A
  | [], _, _, _, _, _, h => by simp only [lookN] at h; cases h
  | n :: ns, [], _, _, _, _, h => by simp only [lookN] at h; cases h
  | n :: ns, x :: ds, [], _, e, _, _ => by simp at e
  | n :: ns, x :: ds, (g, y) :: fs, A, e, o, h => by
    simp only [List.map_cons, List.cons.injEq] at e
    simp only [List.map_cons, OVs] at o
    obtain ⟨A1, A2, o1, o2, rfl⟩ := o
    simp only [lookN] at h
    by_cases c : n = f
    · rw [if_pos c] at h
      cases h
      refine ⟨y, A1, [], A2, by rw [List.lookup, e.1, c, beq_self_eq_true], o1, by simp, fun {H' d'} k h' => ?_⟩
      simp only [putDs, if_pos c, List.map_cons, OVs]
      exact ⟨A1, A2, h', o2.stay (fun _ z => z) fun b o hb => k b o (hb.imp id .inr), rfl⟩
    · rw [if_neg c] at h
      obtain ⟨v, Af, L, R, l, ov, rfl, q⟩ := OVs.fld e.2 o2 h
      refine ⟨v, Af, A1 ++ L, R, ?_, ov, by simp [List.append_assoc], fun {H' d'} k h' => ?_⟩
      · have : (Str.ofString f == g) = false := by
          rw [e.1, beq_eq_false_iff_ne]
          exact fun z => c (ofS_inj.mp z).symm
        rw [List.lookup, this]; exact l
      · simp only [putDs, if_neg c, List.map_cons, OVs]
        refine ⟨A1, L ++ Af ++ R, o1.stay (fun _ z => z) fun b o hb => k b o (hb.imp id fun z => .inl (List.mem_append_left _ z)), q (fun b o hb => k b o (hb.imp id fun z => z.imp (List.mem_append_right _) id)) h', rfl⟩
theorem Rep.chgF {σ : L2.St} {ρ : Env} {A : List Addr} {i t : Nat} {c f : String} {ns : List String} {ds l : List D} (r : Rep K F H B σ ρ A) (e : ρ[i]? = some (some (.own t (.ins c ns ds)))) (hl : lookN f ns ds = some (.own 0 (.lst l))) :
    ∃ a dx fs b vs, σ[i]? = some (some (.ref a)) ∧ H a = some (.ins (He.ga K (Str.ofString c)) dx fs) ∧ fs.lookup (Str.ofString f) = some (.ref b) ∧ H b = some (.lst vs) ∧ vs.length = l.length ∧
      ∀ (vs' : List V) (l' : List D), (∀ A', OVs K F H vs l A' → OVs K F H vs' l' A') → Rep K F (upd H b (.lst vs')) B σ (ρ.set i (some (.own t (.ins c ns (putDs f (.own 0 (.lst l')) ns ds))))) A ∧ Step A F H A F (upd H b (.lst vs')) := by
  obtain ⟨v, A1, L, R, h1, h2, h3, h4⟩ := r.sl.split e
  subst h3
  cases v with
  | none => simp only [OVo] at h2
  | some v =>
  simp only [OVo] at h2
  obtain ⟨o, a, rfl, m, p⟩ := h2.root
  simp only [OV] at o
  obtain ⟨a', dx, fs, A', ev, ha, en, rfl, os⟩ := o
  cases ev
  obtain ⟨w, Af, L2, R2, lk, ow, rfl, q⟩ := OVs.fld en os hl
  simp only [OV] at ow
  obtain ⟨b, vs, A3, rfl, hb, rfl, ol⟩ := ow
  have nd := r.nd
  have nfb : ¬ F b := r.nf b (by simp)
  refine ⟨a, dx, fs, b, vs, h1, ha, lk, hb, ol.len, fun vs' l' ho => ?_⟩
  simp only [List.nodup_append, List.nodup_cons, List.mem_append, List.mem_cons, List.append_assoc, List.cons_append] at nd
  have hne : ∀ x, x ∈ L ∨ x ∈ R ∨ x = a ∨ x ∈ L2 ∨ x ∈ A3 ∨ x ∈ R2 → x ≠ b := by
    intro x hx z
    subst z
    obtain ⟨_, ⟨na, _, ⟨nx, _⟩, nL2⟩, nL⟩ := nd
    rcases hx with hx | hx | hx | hx | hx | hx
    · exact nL x hx x (.inr (.inr (.inl rfl))) rfl
    · exact nx (.inr (.inr hx))
    · exact na (.inr (.inl hx.symm))
    · exact nL2 x hx x (.inl rfl) rfl
    · exact nx (.inl hx)
    · exact nx (.inr (.inl hx))
  have off : ∀ x o, x ≠ b → H x = some o → upd H b (.lst vs') x = some o := fun x o hx he => by rw [upd_ne hx]; exact he
  have q2 := q (H' := upd H b (.lst vs')) (d' := .own 0 (.lst l')) (fun x o hx => off x o (by
    rcases hx with z | z | z
    · exact fun w => nfb (w ▸ z)
    · exact hne x (by simp [z])
    · exact hne x (by simp [z]))) (by
    simp only [OV]
    exact ⟨b, vs', A3, rfl, upd_same, rfl, (ho A3 ol).stay (fun _ z => z) fun x o hx => off x o (by
      rcases hx with z | z
      · exact fun w => nfb (w ▸ z)
      · exact hne x (by simp [z]))⟩)
  have q3 := h4 (F' := F) (H' := upd H b (.lst vs')) (v' := some (.ref a)) (d' := some (.own t (.ins c ns (putDs f (.own 0 (.lst l')) ns ds)))) (A' := a :: (L2 ++ b :: A3 ++ R2)) (fun _ z => z) (fun x o hx => off x o (by
    rcases hx with z | z | z
    · exact fun w => nfb (w ▸ z)
    · exact hne x (by simp [z])
    · exact hne x (by simp [z]))) (by
    simp only [OVo]
    refine OVp.tag ?_ rfl p
    simp only [OV]
    exact ⟨a, dx, fs, L2 ++ b :: A3 ++ R2, rfl, off a _ (hne a (by simp)) ha, en, rfl, q2⟩)
  have ez : σ.set i (some (.ref a)) = σ := by
    apply List.ext_getElem?
    intro j
    by_cases c : i = j
    · subst c
      rw [List.getElem?_set_self (List.getElem?_eq_some_iff.mp h1).1, h1]
    · rw [List.getElem?_set_ne c]
  rw [ez] at q3
  refine ⟨⟨q3, r.nd, r.nf, fun x hx => ?_⟩, ⟨fun _ z => z, fun x o he n => off x o (fun z => ?_) he, fun x z => .inl z, fun x z => .inl z⟩⟩
  · by_cases c : x = b
    · subst c; exact absurd hx nfb
    · rw [upd_ne c]; exact r.dm x hx
  · subst z
    exact n (by simp)
end
section
variable {X : Cx} {B : Bx} {W : WX} {e : Expr} {st : Stmt} {g : E}
end
end U
namespace L2
open PySem PySem.Spec PyProof.Rows
section
variable {X : Cx} {k : Nat} {C f : Addr} {fd : FuncData} {ps : List Str} {sp : Sp}
def rOwnNV (K : PySem.W.Frag) (C : Addr) (sp : Sp) : R2 := fun x y H Q => ∃ a dx fs T, x = .ref a ∧ H a = some (.ins C dx fs) ∧ TyN K y H T ∧ T ∈ ["NoneType", "bool", "int", "str", "tuple", "list", "dict"] ∧ sp [x, y] H (fun v H' => ∃ r, v = .bl r ∧ Q (.bl (!r)) H') (fun _ _ _ => False)
end
end L2
namespace U
open PySem PySem.Spec PyProof.Rows L2
def oNeV (c : String) (f : Fn) : D → D → Option D
  | .ins c1 n1 d1, y => if c1 = c ∧ isAnyD y = true then (match f [.ins c1 n1 d1, y] with
    | .ok (.bl b) _ => some (.bl (!b))
    | _ => none) else none
  | _, _ => none
def frzI : D → Option D
  | .own 0 (.ins c ns ds) => (frzAs ds).map (.ins c ns)
  | d => frzD d
def eFrzI (a : E) : E := fun ρ => (a ρ).bind fun x ρ1 => lift (frzI x) ρ1
def lentF : Option D → Option D
  | some (.own _ (.ins c ns ds)) => (frzAs ds).map (.ins c ns)
  | some (.own _ _) => none
  | some (.exn _ _ _) => none
  | x => x
def eLentA (g : E) : E := fun ρ => match g (ρ.map lentF) with
  | .ok d _ => if outLI d = true then .ok d ρ else .bad
  | _ => .bad
theorem v_lentA {g : E} {ρ ρ1 : Env} {d : D} (h3 : g (ρ.map lentF) = .ok d ρ1) (h4 : outLI d = true) : eLentA g ρ = .ok d ρ := by
  unfold eLentA
  rw [h3]
  exact if_pos h4
theorem eLentA_inv (g : E) (ρ : Env) : eLentA g ρ = .bad ∨ ∃ d ρ1, g (ρ.map lentF) = .ok d ρ1 ∧ outLI d = true ∧ eLentA g ρ = .ok d ρ := by
  unfold eLentA
  split
  · rename_i d ρ1 e2
    by_cases hn : outLI d = true
    · rw [if_pos hn]; exact .inr ⟨d, ρ1, e2, hn, rfl⟩
    · rw [if_neg hn]; exact .inl rfl
  · exact .inl rfl
section
variable {K : PySem.W.Frag} {B : Bx} {F F' : Fz} {H H' : Hp} {W : WX}
def LIo (H : Hp) (a : Addr) : Prop := (∃ xs, H a = some (.lst xs)) ∨ ∃ C dx fs, H a = some (.ins C dx fs)
mutual
theorem OV.kinds : ∀ {v : V} {d : D} {A : List Addr}, OV K F H v d A → ∀ a ∈ A, LIo H a
  | _, .own 0 (.lst ds), A, h, a, ha => by
    simp only [OV] at h
    obtain ⟨b, vs, A', e, s, q, r⟩ := h
    subst q
    rcases List.mem_cons.mp ha with z | z
    · rw [z]; exact .inl ⟨_, s⟩
    · exact OVs.kinds r a z
  | _, .own 0 (.ins c ns ds), A, h, a, ha => by
    simp only [OV] at h
    obtain ⟨b, dx, fs, A', e, s, n, q, r⟩ := h
    subst q
    rcases List.mem_cons.mp ha with z | z
    · rw [z]; exact .inr ⟨_, _, _, s⟩
    · exact OVs.kinds r a z
  | _, .own (_ + 1) _, _, h, _, _ => by simp only [OV] at h
  | _, .own 0 .non, _, h, _, _ => by simp only [OV] at h
  | _, .own 0 (.bl _), _, h, _, _ => by simp only [OV] at h
  | _, .own 0 (.int _), _, h, _, _ => by simp only [OV] at h
  | _, .own 0 (.str _), _, h, _, _ => by simp only [OV] at h
  | _, .own 0 (.tup _), _, h, _, _ => by simp only [OV] at h
  | _, .own 0 (.own _ _), _, h, _, _ => by simp only [OV] at h
  | _, .own 0 (.exn _ _ _), _, h, _, _ => by simp only [OV] at h
  | _, .own 0 (.dic _), _, h, _, _ => by simp only [OV] at h
  | _, .own 0 (.scr _), _, h, _, _ => by simp only [OV] at h
  | _, .non, _, h, _, ha => by simp only [OV] at h; rw [h.1] at ha; cases ha
  | _, .bl _, _, h, _, ha => by simp only [OV] at h; rw [h.1] at ha; cases ha
  | _, .int _, _, h, _, ha => by simp only [OV] at h; rw [h.1] at ha; cases ha
  | _, .str _, _, h, _, ha => by simp only [OV] at h; rw [h.1] at ha; cases ha
  | _, .tup _, _, h, _, ha => by simp only [OV] at h; rw [h.1] at ha; cases ha
  | _, .lst _, _, h, _, ha => by simp only [OV] at h; rw [h.1] at ha; cases ha
  | _, .ins _ _ _, _, h, _, ha => by simp only [OV] at h; rw [h.1] at ha; cases ha
  | _, .exn _ _ _, _, h, _, ha => by simp only [OV] at h; rw [h.1] at ha; cases ha
  | _, .dic _, _, h, _, ha => by simp only [OV] at h; rw [h.1] at ha; cases ha
  | _, .scr _, _, h, _, ha => by simp only [OV] at h; rw [h.1] at ha; cases ha
theorem OVs.kinds : ∀ {vs : List V} {ds : List D} {A : List Addr}, OVs K F H vs ds A → ∀ a ∈ A, LIo H a
  | [], [], _, h, _, ha => by simp only [OVs] at h; rw [h] at ha; cases ha
  | _ :: _, _ :: _, _, h, a, ha => by
    simp only [OVs] at h
    obtain ⟨A1, A2, h1, h2, e⟩ := h
    subst e
    rcases List.mem_append.mp ha with z | z
    · exact OV.kinds h1 a z
    · exact OVs.kinds h2 a z
  | [], _ :: _, _, h, _, _ => by simp only [OVs] at h
  | _ :: _, [], _, h, _, _ => by simp only [OVs] at h
end
theorem OVp.kinds {v : V} {d : D} {A : List Addr} (h : OVp K F H B v d A) : ∀ a ∈ A, LIo H a := by
  unfold OVp at h
  split at h
  · exact h.1.kinds
  · intro a ha; rw [h.1] at ha; cases ha
  · exact h.kinds
theorem OVS.lentA {F1 : Fz} (m : ∀ b, F b → F1 b) : ∀ {σ : L2.St} {ρ : Env} {A : List Addr}, (∀ b ∈ A, F1 b) → OVS K F H B σ ρ A → OVS K F1 H B σ (ρ.map lentF) [] ∧ ∀ a ∈ A, LIo H a
  | [], [], _, _, h => by
    simp only [OVS] at h
    subst h
    exact ⟨by simp only [List.map_nil, OVS], fun a ha => by cases ha⟩
  | v :: _, d :: _, _, hA, h => by
    simp only [OVS] at h
    obtain ⟨A1, A2, h1, h2, rfl⟩ := h
    obtain ⟨i1, i2⟩ := OVS.lentA m (fun b hb => hA b (List.mem_append_right _ hb)) h2
    have hA1 : ∀ b ∈ A1, F1 b := fun b hb => hA b (List.mem_append_left _ hb)
    suffices hs : OVo K F1 H B v (lentF d) [] ∧ ∀ a ∈ A1, LIo H a by
      refine ⟨?_, fun a ha => (List.mem_append.mp ha).elim (hs.2 a) (i2 a)⟩
      simp only [List.map_cons, OVS]
      exact ⟨[], [], hs.1, i1, rfl⟩
    cases d with
    | none =>
      simp only [OVo] at h1
      subst h1
      exact ⟨by simp only [lentF, OVo], fun a ha => by cases ha⟩
    | some d =>
      cases v with
      | none => simp only [OVo] at h1
      | some v =>
        simp only [OVo] at h1
        refine ⟨?_, h1.kinds⟩
        cases d with
        | own t x =>
          cases x with
          | ins c ns ds =>
            simp only [lentF]
            cases e : frzAs ds with
            | none => simp only [Option.map_none, OVo]
            | some ds' =>
              simp only [Option.map_some, OVo]
              obtain ⟨ov, _⟩ := h1.root
              simp only [OV] at ov
              obtain ⟨a, dx, fs, A', rfl, ha, en, rfl, os⟩ := ov
              obtain ⟨rs, _⟩ := frzAs_rv (F1 := F1) m (fun b hb => hA1 b (List.mem_cons_of_mem _ hb)) e os
              simp only [OVp, OV, RV]
              exact ⟨trivial, a, dx, fs, rfl, hA1 a List.mem_cons_self, ha, en, rs⟩
          | _ => simp only [lentF, OVo]
        | exn c ns ds => simp only [lentF, OVo]
        | _ =>
          obtain ⟨rfl, r⟩ := h1.plain rfl
          simp only [lentF, OVo]
          exact (r.stay m fun _ _ _ z => z).own.op
  | [], _ :: _, _, _, h => by simp only [OVS] at h
  | _ :: _, [], _, _, h => by simp only [OVS] at h
theorem lentA_core {σ : L2.St} {ρ : Env} {A : List Addr} (rp : Rep K F H B σ ρ A) :
    ∃ F1 : Fz, Rep K F1 H B σ (ρ.map lentF) [] ∧ ∀ {ρ1 : Env} {v : V} {d : D} {F' : Fz} {H' : Hp} {A2 Ar : List Addr}, outLI d = true → Rep K F' H' B σ ρ1 A2 → OV K F' H' v d Ar → (A2 ++ Ar).Nodup → (∀ a ∈ Ar, ¬ F' a) → Step [] F1 H (A2 ++ Ar) F' H' →
      ∃ F2 : Fz, Grow F H F2 H' ∧ OV K F2 H' v d Ar ∧ (A ++ Ar).Nodup ∧ (∀ b ∈ Ar, ¬ F2 b) ∧ (∀ b ∈ Ar, H b = none) := by
  have there := rp.sl.there
  obtain ⟨sl1, ks⟩ := rp.sl.lentA (F1 := fun b => F b ∨ b ∈ A) (fun _ z => .inl z) (fun b hb => .inr hb)
  have rp1 : Rep K (fun b => F b ∨ b ∈ A) H B σ (ρ.map lentF) [] := ⟨sl1, List.nodup_nil, (fun b hb => by cases hb), fun b fb => fb.elim (rp.dm b) (there b)⟩
  refine ⟨_, rp1, fun {ρ1 v d F' H' A2 Ar} hn r2 ov2 nd2 nf2 s2 => ?_⟩
  have hA1 : ∀ b ∈ A, (∃ xs, H' b = some (.lst xs)) ∨ ∃ C dx fs, H' b = some (.ins C dx fs) := fun b hb => by
    rcases ks b hb with ⟨xs, z⟩ | ⟨C, dx, fs, z⟩
    · exact .inl ⟨xs, s2.keep b _ z (fun z => by cases z)⟩
    · exact .inr ⟨C, dx, fs, s2.keep b _ z (fun z => by cases z)⟩
  have gf : ∀ b, F' b ∧ b ∉ A → F b ∨ H b = none := fun b q => by
    rcases s2.froz b q.1 with z | z | z
    · exact .inl (z.resolve_right q.2)
    · exact .inr z
    · cases z
  have gr : Grow F H (fun b => F' b ∧ b ∉ A) H' := ⟨fun b fb => ⟨s2.mono b (.inl fb), fun z => rp.nf b z fb⟩, fun b o hb => s2.keep b o hb (fun z => by cases z), gf, fun _ b q => r2.dm b q.1⟩
  have new : ∀ b ∈ Ar, H b = none := fun b hb => by
    rcases s2.own b (List.mem_append_right _ hb) with z | z
    · cases z
    · exact z
  refine ⟨_, gr, ov2.unI hA1 hn, ?_, fun b hb z => nf2 b hb z.1, new⟩
  simp only [List.nodup_append] at nd2 ⊢
  refine ⟨rp.nd, nd2.2.1, fun x hx y hy z => ?_⟩
  subst z
  obtain ⟨o, q⟩ := rp.sl.there x hx
  rw [new x hy] at q; cases q
theorem w_lentA {g : E} (σ : L2.St) (H : Hp) (Q : VK) (h : tDM K B W (eLentA g) σ H Q) : tDM K B W g σ H Q := by
  obtain ⟨F, ρ, A, rp, h⟩ := h
  rcases eLentA_inv g ρ with hb | ⟨d, ρ1, e1, hn, hl⟩
  · rw [hb] at h; exact h.elim
  rw [hl] at h
  obtain ⟨F1, rp1, core⟩ := lentA_core rp
  refine ⟨_, _, _, rp1, ?_⟩
  rw [e1]
  intro v F' H' A2 Ar r2 ov2 nd2 nf2 s2
  obtain ⟨F2, gr, ov3, nd3, nf3, new⟩ := core hn r2 ov2 nd2 nf2 s2
  exact h v F2 H' A Ar (rp.grow gr) ov3 nd3 nf3 ⟨gr.mono, fun b o hb _ => gr.keep b o hb, fun b q => (gr.froz b q).imp id .inl, fun b hb => (List.mem_append.mp hb).imp id (new b)⟩
theorem w_lentAT {g : E} (σ : L2.St) (H : Hp) (Q : Bool → Hp → Prop) (h : tDT K B W (eLentA g) σ H Q) : tDT K B W g σ H Q := by
  obtain ⟨F, ρ, A, rp, h⟩ := h
  rcases eLentA_inv g ρ with hb | ⟨d, ρ1, e1, hn, hl⟩
  · rw [hb] at h; exact h.elim
  rw [hl] at h
  obtain ⟨b, rfl, h⟩ := h
  obtain ⟨F1, rp1, core⟩ := lentA_core rp
  refine ⟨_, _, _, rp1, ?_⟩
  rw [e1]
  refine ⟨b, rfl, fun F' H' A2 r2 s2 => ?_⟩
  have ov2 : OV K F' H' (.bl b) (.bl b) [] := by simp only [OV, RV, and_self]
  obtain ⟨F2, gr, ov3, nd3, nf3, new⟩ := core (Ar := []) hn r2 ov2 (by simpa using r2.nd) (fun _ z => by cases z) (by simpa using s2)
  exact h F2 H' A (rp.grow gr) ⟨gr.mono, fun b o hb _ => gr.keep b o hb, fun b q => (gr.froz b q).imp id .inl, fun b hb => .inl hb⟩
end
section
variable {X : Cx} {B : Bx} {W : WX} {e : Expr} {g : E}
theorem t_lentA (h : DT X B W e g) : DT X B W e (eLentA g) := h.weak w_lentAT
theorem d_lentA (h : DM X B W e g) : DM X B W e (eLentA g) := h.weak w_lentA
end
section
variable {ρ : Env} {c : String} {fn : Fn} {ns : List String} {ds : List D} {d : D} {a : E}
def neKV : ER → Option D
  | .ok (.bl b) _ => some (.bl (!b))
  | _ => none
end
end U
namespace U
open PySem PySem.Spec PyProof.Rows L2
def eLentX (g : E) : E := fun ρ => match g (ρ.map lentF) with
  | .ok d _ => if outLI d = true then .ok d ρ else .bad
  | .exc ⟨c, [], []⟩ _ => .exc ⟨c, [], []⟩ ρ
  | _ => .bad
theorem x_lentX {g : E} {ρ ρ1 : Env} {c : String} (h3 : g (ρ.map lentF) = .exc ⟨c, [], []⟩ ρ1) : eLentX g ρ = .exc ⟨c, [], []⟩ ρ := by
  unfold eLentX
  rw [h3]
section
variable {K : PySem.W.Frag} {B : Bx} {F F' : Fz} {H H' : Hp} {W : WX}
theorem lentX_core {σ : L2.St} {ρ : Env} {A : List Addr} (rp : Rep K F H B σ ρ A) :
    ∃ F1 : Fz, Rep K F1 H B σ (ρ.map lentF) [] ∧ ∀ {c : String} {cls : Value} {dd : Option Addr} {ρ1 : Env} {F' : Fz} {H' : Hp} {A2 : List Addr}, Rep K F' H' B σ ρ1 A2 → XV K F' H' ⟨c, [], []⟩ cls dd → Step [] F1 H A2 F' H' →
      ∃ F2 : Fz, Grow F H F2 H' ∧ XV K F2 H' ⟨c, [], []⟩ cls dd := by
  have there := rp.sl.there
  obtain ⟨sl1, ks⟩ := rp.sl.lentA (F1 := fun b => F b ∨ b ∈ A) (fun _ z => .inl z) (fun b hb => .inr hb)
  refine ⟨_, ⟨sl1, List.nodup_nil, (fun b hb => by cases hb), fun b fb => fb.elim (rp.dm b) (there b)⟩, fun {c cls dd ρ1 F' H' A2} r2 xv s2 => ⟨fun b => F' b ∧ b ∉ A, ?_, ?_⟩⟩
  · refine ⟨fun b fb => ⟨s2.mono b (.inl fb), fun z => rp.nf b z fb⟩, fun b o hb => s2.keep b o hb (fun z => by cases z), fun b q => ?_, fun _ b q => r2.dm b q.1⟩
    rcases s2.froz b q.1 with z | z | z
    · exact .inl (z.resolve_right q.2)
    · exact .inr z
    · cases z
  · obtain ⟨e, xv⟩ := xv
    refine ⟨e, ?_⟩
    rcases xv with z | ⟨d, fs, e1, f, e2, e3, r⟩
    · exact .inl z
    · refine .inr ⟨d, fs, e1, ⟨f, fun m => ?_⟩, e2, e3, ?_⟩
      · rcases ks d m with ⟨xs, z⟩ | ⟨C, dx, fs', z⟩
        · have := s2.keep d _ z (fun z => by cases z)
          rw [e2] at this; cases this
        · have := s2.keep d _ z (fun z => by cases z)
          rw [e2] at this; cases this
      · cases fs with
        | nil => simp only [List.map_nil, RVs]
        | cons p q => simp only [List.map_cons, RVs] at r
theorem w_lentX {g : E} (σ : L2.St) (H : Hp) (Q : VK) (h : tDM K B W (eLentX g) σ H Q) : tDM K B W g σ H Q := by
  obtain ⟨F, ρ, A, rp, h⟩ := h
  unfold eLentX at h
  rcases e : g (ρ.map lentF) with ⟨d, ρ1⟩ | ⟨x, ρ1⟩ | _
  · rw [e] at h
    simp only at h
    by_cases hn : outLI d = true
    case neg => rw [if_neg hn] at h; exact h.elim
    case pos =>
      rw [if_pos hn] at h
      obtain ⟨F1, rp1, core⟩ := lentA_core rp
      refine ⟨_, _, _, rp1, ?_⟩
      rw [e]
      intro v F' H' A2 Ar r2 ov2 nd2 nf2 s2
      obtain ⟨F2, gr, ov3, nd3, nf3, new⟩ := core hn r2 ov2 nd2 nf2 s2
      exact h v F2 H' A Ar (rp.grow gr) ov3 nd3 nf3 ⟨gr.mono, fun b o hb _ => gr.keep b o hb, fun b q => (gr.froz b q).imp id .inl, fun b hb => (List.mem_append.mp hb).imp id (new b)⟩
  · rw [e] at h
    obtain ⟨F1, rp1, core⟩ := lentX_core rp
    refine ⟨_, _, _, rp1, ?_⟩
    rw [e]
    obtain ⟨c, ns, ds⟩ := x
    cases ns with
    | cons n ns => exact h.elim
    | nil =>
      cases ds with
      | cons d ds => exact h.elim
      | nil =>
        intro cls dd F' H' A2 r2 xv s2
        obtain ⟨F2, gr, xv2⟩ := core r2 xv s2
        exact h cls dd F2 H' A (rp.grow gr) xv2 ⟨gr.mono, fun b o hb _ => gr.keep b o hb, fun b q => (gr.froz b q).imp id .inl, fun b hb => .inl hb⟩
  · rw [e] at h; exact h.elim
end
section
variable {X : Cx} {B : Bx} {W : WX} {e : Expr} {g : E}
theorem d_lentX (h : DM X B W e g) : DM X B W e (eLentX g) := h.weak w_lentX
end
end U
namespace U
open Q (Pg progP progF goF isStp isDig okCount dval)
def rst : Nat → Nat → List Nat → Option (List Nat)
  | 0, _, _ => none
  | _ + 1, _, [] => some []
  | n + 1, d, c :: t => if c = 41 then some (41 :: t) else if isStp c = true then rst n d t else
    if c = 40 ∧ d < 20 then (match rst n (d + 1) t with
      | none => none
      | some [] => none
      | some (_ :: u) => if okCount (u.takeWhile isDig) = true then rst n d (u.dropWhile isDig) else none) else none
theorem rst_suf : ∀ {n d : Nat} {t u : List Nat}, rst n d t = some u → u <:+ t ∧ (u = [] ∨ ∃ v, u = 41 :: v)
  | 0, _, _, _, h => by simp [rst] at h
  | _ + 1, _, [], u, h => by
    simp only [rst, Option.some.injEq] at h
    subst h
    exact ⟨List.suffix_rfl, .inl rfl⟩
  | n + 1, d, c :: t, u, h => by
    simp only [rst] at h
    by_cases h1 : c = 41
    · rw [if_pos h1] at h
      cases h
      exact ⟨by rw [h1]; exact List.suffix_rfl, .inr ⟨t, rfl⟩⟩
    · rw [if_neg h1] at h
      by_cases h2 : isStp c = true
      · rw [if_pos h2] at h
        obtain ⟨a, b⟩ := rst_suf h
        exact ⟨a.trans (List.suffix_cons _ _), b⟩
      · rw [if_neg h2] at h
        by_cases h3 : c = 40 ∧ d < 20
        · rw [if_pos h3] at h
          cases e : rst n (d + 1) t with
          | none => rw [e] at h; cases h
          | some w =>
            rw [e] at h
            obtain ⟨a, _⟩ := rst_suf e
            cases w with
            | nil => cases h
            | cons x w =>
              simp only at h
              split at h
              · obtain ⟨a2, b2⟩ := rst_suf h
                exact ⟨((a2.trans (List.dropWhile_suffix _)).trans (List.suffix_cons _ _)).trans (a.trans (List.suffix_cons _ _)), b2⟩
              · cases h
        · rw [if_neg h3] at h; cases h
theorem goF_any : ∀ (n : Nat) (t : List Nat) (st st' : List (List Nat)), t.length < n → st.length = st'.length → (goF t st).isSome = (goF t st').isSome
  | 0, _, _, _, h, _ => by omega
  | n + 1, [], st, st', _, h => by
    match st, st', h with
    | [], [], _ => rfl
    | [a], [b], _ => simp [goF]
    | a :: b :: l, a' :: b' :: l', _ => simp [goF]
  | n + 1, c :: t, [], [], _, _ => rfl
  | n + 1, c :: t, f :: fs, f' :: fs', hn, h => by
    rw [List.length_cons] at hn
    rw [List.length_cons, List.length_cons] at h
    have hd := (List.dropWhile_suffix (l := t) isDig).length_le
    cases hs : isStp c with
    | true =>
      rw [Q.goF_step hs, Q.goF_step hs]
      exact goF_any n t _ _ (by omega) (by simpa using h)
    | false =>
      by_cases h1 : c = 40
      · subst h1
        rw [Q.goF_open, Q.goF_open, show fs.length = fs'.length by omega]
        split
        · exact goF_any n t _ _ (by omega) (by simpa using h)
        · rfl
      · by_cases h2 : c = 41
        · subst h2
          match fs, fs', h with
          | [], [], _ => rw [Q.goF_close0, Q.goF_close0]
          | g :: gs, g' :: gs', h =>
            rw [Q.goF_close, Q.goF_close]
            split
            · exact goF_any n _ _ _ (by omega) (by simpa using h)
            · rfl
        · rw [Q.goF_other hs h1 h2, Q.goF_other hs h1 h2]
def gB (t : List Nat) (d : Nat) : Bool := (goF t (List.replicate (d + 1) [])).isSome
theorem gB_of {t : List Nat} {st : List (List Nat)} {d : Nat} (h : st.length = d + 1) : (goF t st).isSome = gB t d := goF_any (t.length + 1) t _ _ (by omega) (by simp [h])
theorem gB_rst : ∀ (n : Nat) (t : List Nat) (d : Nat), t.length < n → d ≤ 20 → gB t d = match rst n d t with
    | none => false
    | some [] => decide (d = 0)
    | some (_ :: u) => match d with
      | 0 => false
      | e + 1 => okCount (u.takeWhile isDig) && gB (u.dropWhile isDig) e
  | 0, _, _, h, _ => by omega
  | n + 1, [], d, _, _ => by
    simp only [rst]
    cases d with
    | zero => simp [gB, goF]
    | succ d => simp [gB, goF, List.replicate_succ]
  | n + 1, c :: t, d, h, hd => by
    rw [List.length_cons] at h
    have eR : List.replicate (d + 1) ([] : List Nat) = [] :: List.replicate d [] := List.replicate_succ
    simp only [rst]
    by_cases h1 : c = 41
    · rw [if_pos h1]
      subst h1
      cases d with
      | zero =>
        show (goF (41 :: t) [[]]).isSome = false
        rw [Q.goF_close0]; rfl
      | succ e =>
        show (goF (41 :: t) ([] :: [] :: List.replicate e [])).isSome = (okCount (t.takeWhile isDig) && gB (t.dropWhile isDig) e)
        rw [Q.goF_close]
        split
        · rename_i ho
          rw [ho, Bool.true_and]
          exact gB_of (by simp)
        · rename_i ho
          have ho' : okCount (t.takeWhile isDig) = false := by simpa using ho
          rw [ho']; rfl
    · rw [if_neg h1]
      by_cases h2 : isStp c = true
      · rw [if_pos h2, ← gB_rst n t d (by omega) hd]
        unfold gB
        rw [eR, Q.goF_step h2]
        exact gB_of (by simp)
      · rw [if_neg h2]
        have h2' : isStp c = false := by simpa using h2
        by_cases h3 : c = 40
        · subst h3
          have e0 : gB (40 :: t) d = if d < 20 then gB t (d + 1) else false := by
            unfold gB
            rw [eR, Q.goF_open, List.length_replicate]
            split
            · exact gB_of (by simp)
            · rfl
          rw [e0]
          by_cases h4 : d < 20
          · rw [if_pos h4, if_pos ⟨rfl, h4⟩, gB_rst n t (d + 1) (by omega) (by omega)]
            cases e : rst n (d + 1) t with
            | none => rfl
            | some w =>
              obtain ⟨sf, _⟩ := rst_suf e
              cases w with
              | nil => simp
              | cons x w =>
                simp only
                have l1 := sf.length_le
                rw [List.length_cons] at l1
                have l2 := (List.dropWhile_suffix (l := w) isDig).length_le
                rw [gB_rst n (w.dropWhile isDig) d (by omega) hd]
                cases ho : okCount (w.takeWhile isDig) with
                | true => simp
                | false => simp
          · rw [if_neg h4, if_neg fun z => h4 z.2]
        · rw [if_neg fun z => h3 z.1]
          unfold gB
          rw [eR, Q.goF_other h2' h3 h1]
          rfl
theorem prog_rst {l : List Nat} {n : Nat} (h : l.length < n) : (progF l).isSome = decide (rst n 0 l = some []) := by
  have := gB_rst n l 0 h (by decide)
  unfold progF
  rw [show goF l [[]] = goF l (List.replicate (0 + 1) []) from rfl]
  show gB l 0 = _
  rw [this]
  cases e : rst n 0 l with
  | none => simp
  | some w => cases w <;> simp
end U
namespace U
noncomputable def turn_Line_init_1 : St := (sDrop (eCall fn_check_capacity [.v (eVar 2)] []))
noncomputable def body_Line_init : St := (sSeq (sFor (iOf itT (eVar 1)) (gVar 2) turn_Line_init_1)
    (sSeq (sIf (eUn oNot (eChain oLe oLe (eC (.int 1)) (eN oLenQ (aCons (eVar 1) aNil)) (eC (.int 8))))
    (sRaise "LimitExceeded" ["size"] (aCons (eN oLenQ (aCons (eVar 1) aNil)) aNil))
    sNil)
    (sSeq (sFldO 0 "Line" "limits" (eVar 1))
    (sSeq (sFldO 0 "Line" "queues" (eOp oRepU (eN mkTup (aCons (eC (.str [])) aNil)) (eN oLenQ (aCons (eVar 1) aNil))))
    (sFldO 0 "Line" "passed" (eC (.int 0)))))))
noncomputable def fn_Line_init : Fn := starF 1 (fnOf 2 1 body_Line_init)
noncomputable def body_start_range : St := (sSeq (sAsg (eVar 0) (gTup [(gVar 3), (gVar 4), (gVar 5), (gVar 6), (gVar 7)]))
    (sSeq (sIf (eOp oEq (eVar 2) (eC (.str [115, 116, 114, 105, 99, 116])))
    (sRet (eIf (eOp oLe (eOp oSub (eVar 6) (eVar 5)) (eVar 1)) (eN mkTup (aCons (eUn oNeg (eVar 5)) (aCons (eOp oSub (eVar 1) (eVar 6)) aNil))) (eC .non)))
    sNil)
    (sRet (eIf (eOp oLe (eVar 7) (eVar 1)) (eN mkTup (aCons (eUn oNeg (eVar 5)) (aCons (eVar 1) aNil))) (eC .non)))))
noncomputable def fn_start_range : Fn := fnOf 3 5 body_start_range
noncomputable def body_Line_first_end : St := (sSeq (sAsg (eVar 1) (gTup [(gVar 2), (gVar 3), (gVar 4), (gVar 5), (gVar 6)]))
    (sSeq (sPar [7, 8] (aCons (eN oLenS (aCons (eOp oIxT (eFldO 0 "Line" "queues") (eC (.int 0))) aNil)) (aCons (eFrz (eCall fn_start_range [.v (eVar 1), .v (eOp oIxT (eFldO 0 "Line" "limits") (eC (.int 0))), .v (eC (.str [111, 108, 100, 101, 115, 116]))] [])) aNil)))
    (sSeq (sIf (eOr (eOp oIsN (eVar 8) (eC .non)) (eOp oLt (eVar 7) (eOp oIxT (eVar 8) (eC (.int 0)))))
    (sRet (eC .non))
    sNil)
    (sRet (eN oMin2 (aCons (eOp oSub (eOp oAdd (eVar 7) (eVar 2)) (eVar 3)) (aCons (eOp oSub (eOp oSub (eOp oAdd (eOp oIxT (eFldO 0 "Line" "limits") (eC (.int 0))) (eVar 2)) (eVar 3)) (eVar 5)) aNil)))))))
noncomputable def fn_Line_first_end : Fn := fnOf 2 7 body_Line_first_end
noncomputable def turn_cut_from_end_1 : St := (sSeq (sDrop (eApp 2 (eSl oSlS (eVar 0) (some (eOp oSub (eVar 3) (eVar 4))) (some (eVar 3)))))
    (sAug 3 oSub (eVar 4)))
noncomputable def body_cut_from_end : St := (sSeq (sSet 2 (eN mkLst aNil))
    (sSeq (sSet 3 (eN oLenS (aCons (eVar 0) aNil)))
    (sSeq (sFor (iOf itL (eVar 1)) (gVar 4) turn_cut_from_end_1)
    (sRet (eN oTupOf (aCons (eGive 2) aNil))))))
noncomputable def fn_cut_from_end : Fn := fnOf 2 3 body_cut_from_end
noncomputable def turn_Line_run_1 : St := (sSeq (sDrop (eApp 7 (eN oMin2 (aCons (eVar 9) (aCons (eOp oAdd (eN oLenS (aCons (eVar 8) aNil)) (eVar 6)) aNil)))))
    (sAug 6 oAdd (eOp oSub (eN oLenS (aCons (eVar 8) aNil)) (eIxO 7 (eUn oNeg (eC (.int 1)))))))
noncomputable def body_Line_run : St := (sSeq (sSet 2 (eFrz (eCall fn_items_of [.v (eVar 1)] [])))
    (sSeq (sSet 3 (eFrz (eCall (fn_five_of 21) [.v (eVar 2)] [])))
    (sSeq (sSet 4 (eFrz (eMethO "Line" "first_end" fn_Line_first_end 0 [.v (eVar 3)] [])))
    (sSeq (sIf (eOp oIsN (eVar 4) (eC .non))
    (sRaise "EmptyQueue" [] aNil)
    sNil)
    (sSeq (sSet 5 (eOp oAddS (eMs oJoin (eC (.str [])) (eUn oRevT (eFldO 0 "Line" "queues"))) (eFrz (eCall (fn_last_of 21) [.v (eVar 2), .v (eN oSumT (aCons (eFldO 0 "Line" "limits") aNil))] []))))
    (sSeq (sSet 6 (eOp oSub (eOp oAdd (eN oLenS (aCons (eOp oIxT (eFldO 0 "Line" "queues") (eC (.int 0))) aNil)) (eOp oIxT (eVar 3) (eC (.int 0)))) (eVar 4)))
    (sSeq (sSet 7 (eN mkLst (aCons (eVar 4) aNil)))
    (sSeq (sFor (iOfA itZ (aCons (eSl oSlT (eFldO 0 "Line" "queues") (some (eC (.int 1))) none) (aCons (eSl oSlT (eFldO 0 "Line" "limits") (some (eC (.int 1))) none) aNil))) (gTup [(gVar 8), (gVar 9)]) turn_Line_run_1)
    (sSeq (sFldO 0 "Line" "queues" (eFrz (eCall fn_cut_from_end [.v (eVar 5), .v (eGive 7)] [])))
    (sFldAug 0 "Line" "passed" oAdd (eVar 6)))))))))))
noncomputable def fn_Line_run : Fn := fnOf 2 8 body_Line_run
end U
namespace U
open Q (Five fiveF Pg progP)
def lnsF : List Nat → Nat → List Nat
  | [], _ => []
  | l :: r, M => min l M :: lnsF r (M - min l M)
def gonF : List Nat → Nat → Nat
  | [], M => M
  | l :: r, M => gonF r (M - min l M)
def cutE : List Nat → List Nat → List (List Nat)
  | _, [] => []
  | T, n :: r => T.drop (T.length - n) :: cutE (T.take (T.length - n)) r
def stE : List Nat → List Nat → Nat → List Nat
  | l :: ls, n :: ns, m => min l (n + m) :: stE ls ns (m + n - min l (n + m))
  | _, _, _ => []
def stG : List Nat → List Nat → Nat → Nat
  | l :: ls, n :: ns, m => stG ls ns (m + n - min l (n + m))
  | _, _, m => m
theorem lns_len : ∀ (L : List Nat) (M : Nat), (lnsF L M).length = L.length
  | [], _ => rfl
  | l :: r, M => by simp only [lnsF, List.length_cons, lns_len r]
theorem lns_sum : ∀ (L : List Nat) (M : Nat), (lnsF L M).sum + gonF L M = M
  | [], M => by simp [lnsF, gonF]
  | l :: r, M => by
    have := lns_sum r (M - min l M)
    simp only [lnsF, gonF, List.sum_cons]
    omega
theorem lns_le : ∀ (L : List Nat) (M : Nat), (lnsF L M).sum ≤ L.sum
  | [], M => by simp [lnsF]
  | l :: r, M => by
    have := lns_le r (M - min l M)
    simp only [lnsF, List.sum_cons]
    omega
theorem st_lns : ∀ (L : List Nat) (M M' : Nat), M ≤ M' → stE L (lnsF L M) (M' - M) = lnsF L M' ∧ gonF L M ≤ gonF L M' ∧ stG L (lnsF L M) (M' - M) = gonF L M' - gonF L M
  | [], M, M', h => ⟨rfl, h, rfl⟩
  | l :: r, M, M', h => by
    have e : min l (min l M + (M' - M)) = min l M' := by omega
    have e2 : M' - M + min l M - min l M' = (M' - min l M') - (M - min l M) := by omega
    obtain ⟨i1, i2, i3⟩ := st_lns r (M - min l M) (M' - min l M') (by omega)
    simp only [lnsF, gonF, stE, stG, e, e2]
    exact ⟨by rw [i1], i2, i3⟩
theorem cutE_app : ∀ (ns A B : List Nat), ns.sum ≤ B.length → cutE (A ++ B) ns = cutE B ns
  | [], _, _, _ => rfl
  | n :: r, A, B, h => by
    rw [List.sum_cons] at h
    have h1 : (A ++ B).length - n = A.length + (B.length - n) := by rw [List.length_append]; omega
    have h2 : (A ++ B).drop (A.length + (B.length - n)) = B.drop (B.length - n) := by rw [List.drop_append, List.drop_eq_nil_of_le (by omega), List.nil_append, Nat.add_sub_cancel_left]
    have h3 : (A ++ B).take (A.length + (B.length - n)) = A ++ B.take (B.length - n) := by rw [List.take_append, List.take_of_length_le (by omega), Nat.add_sub_cancel_left]
    simp only [cutE, h1, h2, h3]
    rw [cutE_app r A (B.take (B.length - n)) (by rw [List.length_take]; omega)]
theorem cutE_len : ∀ (ns T : List Nat), (cutE T ns).length = ns.length
  | [], _ => rfl
  | n :: r, T => by simp only [cutE, List.length_cons, cutE_len r]
theorem cutE_lens : ∀ (ns T : List Nat), ns.sum ≤ T.length → (cutE T ns).map List.length = ns
  | [], _, _ => rfl
  | n :: r, T, h => by
    rw [List.sum_cons] at h
    simp only [cutE, List.map_cons]
    rw [cutE_lens r _ (by rw [List.length_take]; omega), List.length_drop]
    congr 1
    omega
theorem cutE_join : ∀ (ns T : List Nat), ns.sum ≤ T.length → (cutE T ns).reverse.flatten = T.drop (T.length - ns.sum)
  | [], T, _ => by simp [cutE]
  | n :: r, T, h => by
    rw [List.sum_cons] at h
    simp only [cutE, List.reverse_cons, List.flatten_append, List.flatten_cons, List.flatten_nil, List.append_nil, List.sum_cons]
    rw [cutE_join r _ (by rw [List.length_take]; omega), List.length_take, Nat.min_eq_left (by omega)]
    have e : T.drop (T.length - (n + r.sum)) = (T.take (T.length - n) ++ T.drop (T.length - n)).drop (T.length - (n + r.sum)) := by rw [List.take_append_drop]
    rw [e, List.drop_append_of_le_length (by rw [List.length_take]; omega), show T.length - n - r.sum = T.length - (n + r.sum) by omega]
theorem cutE_nil : ∀ (L : List Nat), cutE [] (lnsF L 0) = List.replicate L.length []
  | [] => rfl
  | l :: r => by
    have := cutE_nil r
    simp only [lnsF, Nat.min_zero, Nat.sub_zero, cutE, List.length_nil, List.drop_nil, List.take_nil, this, List.length_cons, List.replicate_succ]
theorem gon_nil : ∀ (L : List Nat), gonF L 0 = 0
  | [] => rfl
  | l :: r => by simp only [gonF, Nat.min_zero, Nat.sub_zero, gon_nil r]
def enL (l0 : Nat) (F : List Nat) : Nat := (Q.endF (fiveF F) (l0 : Nat) 0).toNat
def lensL (l0 : Nat) (Lr F : List Nat) : List Nat := enL l0 F :: lnsF Lr ((putsL F).length - enL l0 F)
def goneL (l0 : Nat) (Lr F : List Nat) : Nat := gonF Lr ((putsL F).length - enL l0 F)
def queL (l0 : Nat) (Lr F : List Nat) : List (List Nat) := cutE (putsL F) (lensL l0 Lr F)
def okL (l0 : Nat) (F : List Nat) : Prop := Q.runs (fiveF F) (l0 : Nat) false 0 = true
def lineD (L : List Nat) (Qs : List (List Nat)) (g : Nat) : D := .ins "Line" ["limits", "queues", "passed"] [.tup (L.map fun i : Nat => D.int (i : Nat)), .tup (Qs.map D.str), .int (g : Nat)]
def lineS (l0 : Nat) (Lr F : List Nat) : D := lineD (l0 :: Lr) (queL l0 Lr F) (goneL l0 Lr F)
theorem five_p : ∀ l : List Nat, (fiveF l).p = ((putsL l).length : Nat)
  | [] => rfl
  | x :: l => by
    have e : fiveF (x :: l) = (Q.stepF x).join (fiveF l) := rfl
    rw [e]
    show (Q.stepF x).p + (fiveF l).p = _
    rw [five_p l]
    unfold putsL
    by_cases h : x = 45
    · subst h
      simp [Q.stepF]
    · simp [Q.stepF, h]
      omega
theorem enL_at {l0 : Nat} {F : List Nat} (h : okL l0 F) : ((enL l0 F : Nat) : Int) = Q.endF (fiveF F) (l0 : Nat) 0 ∧ enL l0 F ≤ l0 ∧ enL l0 F ≤ (putsL F).length := by
  have g := Q.fiveF_good F
  obtain ⟨h1, h2⟩ := Q.end_in g (Int.le_refl 0) (Int.natCast_nonneg l0) h
  have h3 : ((enL l0 F : Nat) : Int) = Q.endF (fiveF F) (l0 : Nat) 0 := by unfold enL; omega
  refine ⟨h3, by omega, ?_⟩
  have h4 : Q.endF (fiveF F) (l0 : Nat) 0 ≤ (fiveF F).p := by
    have := g.t0
    unfold Q.endF
    split <;> omega
  rw [five_p] at h4
  omega
theorem lens_sum {l0 : Nat} {Lr F : List Nat} (h : okL l0 F) : (lensL l0 Lr F).sum + goneL l0 Lr F = (putsL F).length := by
  have := lns_sum Lr ((putsL F).length - enL l0 F)
  have h2 := (enL_at h).2.2
  unfold lensL goneL
  rw [List.sum_cons]
  omega
theorem lens_le {l0 : Nat} {Lr F : List Nat} (h : okL l0 F) : (lensL l0 Lr F).sum ≤ l0 + Lr.sum := by
  have := lns_le Lr ((putsL F).length - enL l0 F)
  have h2 := (enL_at h).2.1
  unfold lensL
  rw [List.sum_cons]
  omega
theorem run_app {l0 : Nat} {F f : List Nat} (h : okL l0 F) : okL l0 (F ++ f) ↔ Q.runs (fiveF f) (l0 : Nat) false (enL l0 F : Nat) = true := by
  unfold okL
  rw [Q.fiveF_app, Q.runs_join (Q.fiveF_good F) (Q.fiveF_good f) (Int.le_refl 0) (Int.natCast_nonneg l0), (enL_at h).1]
  exact ⟨fun z => z.2, fun z => ⟨h, z⟩⟩
theorem end_app {l0 : Nat} {F f : List Nat} (h : okL l0 F) (h2 : okL l0 (F ++ f)) : ((enL l0 (F ++ f) : Nat) : Int) = Q.endF (fiveF f) (l0 : Nat) (enL l0 F : Nat) := by
  rw [(enL_at h2).1, Q.fiveF_app, Q.end_join, (enL_at h).1]
theorem puts_end {l0 : Nat} {F f : List Nat} (h : okL l0 F) (h2 : okL l0 (F ++ f)) : enL l0 (F ++ f) ≤ enL l0 F + (putsL f).length := by
  have e := end_app h h2
  have h4 : Q.endF (fiveF f) (l0 : Nat) (enL l0 F : Nat) ≤ (enL l0 F : Nat) + (fiveF f).p := by
    have := (Q.fiveF_good f).t0
    unfold Q.endF
    split <;> omega
  rw [five_p] at h4
  omega
theorem lens_app {l0 : Nat} {Lr F f : List Nat} (h : okL l0 F) (h2 : okL l0 (F ++ f)) :
    stE Lr (lnsF Lr ((putsL F).length - enL l0 F)) (enL l0 F + (putsL f).length - enL l0 (F ++ f)) = lnsF Lr ((putsL (F ++ f)).length - enL l0 (F ++ f)) ∧
    goneL l0 Lr F ≤ goneL l0 Lr (F ++ f) ∧ stG Lr (lnsF Lr ((putsL F).length - enL l0 F)) (enL l0 F + (putsL f).length - enL l0 (F ++ f)) = goneL l0 Lr (F ++ f) - goneL l0 Lr F := by
  have a := (enL_at h).2.2
  have b := (enL_at h2).2.2
  have c := puts_end h h2
  rw [puts_app, List.length_append] at b ⊢
  have e : enL l0 F + (putsL f).length - enL l0 (F ++ f) = ((putsL F).length + (putsL f).length - enL l0 (F ++ f)) - ((putsL F).length - enL l0 F) := by omega
  rw [e]
  have := st_lns Lr ((putsL F).length - enL l0 F) ((putsL F).length + (putsL f).length - enL l0 (F ++ f)) (by omega)
  unfold goneL
  rw [puts_app, List.length_append]
  exact this
theorem que_app {l0 S : Nat} {Lr F f : List Nat} (h : okL l0 F) (h2 : okL l0 (F ++ f)) (hS : l0 + Lr.sum ≤ S) : cutE ((queL l0 Lr F).reverse.flatten ++ lastL S (putsL f)) (lensL l0 Lr (F ++ f)) = queL l0 Lr (F ++ f) := by
  have s1 := lens_sum (Lr := Lr) h
  have s2 := lens_sum (Lr := Lr) h2
  have k2 := lens_le (Lr := Lr) h2
  have g := (lens_app (Lr := Lr) h h2).2.1
  have hj : (queL l0 Lr F).reverse.flatten = (putsL F).drop ((putsL F).length - (lensL l0 Lr F).sum) := cutE_join _ _ (by omega)
  rw [hj]
  unfold queL
  rw [puts_app] at s2 ⊢
  rw [List.length_append] at s2
  by_cases hl : (putsL f).length ≤ S
  · rw [lastL_all hl]
    have e : putsL F ++ putsL f = (putsL F).take ((putsL F).length - (lensL l0 Lr F).sum) ++ ((putsL F).drop ((putsL F).length - (lensL l0 Lr F).sum) ++ putsL f) := by rw [← List.append_assoc, List.take_append_drop]
    rw [e]
    exact (cutE_app _ ((putsL F).take ((putsL F).length - (lensL l0 Lr F).sum)) ((putsL F).drop ((putsL F).length - (lensL l0 Lr F).sum) ++ putsL f) (by rw [List.length_append, List.length_drop]; omega)).symm
  · have hb : (lastL S (putsL f)).length = S := by rw [lastL_len]; omega
    have e : putsL F ++ putsL f = (putsL F ++ (putsL f).take ((putsL f).length - S)) ++ lastL S (putsL f) := by
      unfold lastL
      rw [List.append_assoc, List.take_append_drop]
    rw [e]
    exact (cutE_app _ _ (lastL S (putsL f)) (by omega)).trans (cutE_app _ (putsL F ++ (putsL f).take ((putsL f).length - S)) (lastL S (putsL f)) (by omega)).symm
end U
namespace U
open Q (Five fiveF Pg progP)
open PySem
theorem strsM : ∀ l : List (List Nat), strsD (l.map D.str) = some l
  | [] => rfl
  | a :: l => by simp only [List.map_cons, strsD, strsM l, Option.map_some]
theorem joinN : ∀ l : List (List Nat), joinD [] l = l.flatten
  | [] => rfl
  | [x] => by simp [joinD]
  | x :: y :: r => by
    have := joinN (y :: r)
    simp only [joinD, List.append_nil, this, List.flatten_cons]
theorem intsM : ∀ l : List Nat, intsD (l.map fun i : Nat => D.int (i : Nat)) = some (l.map fun i : Nat => (i : Int))
  | [] => rfl
  | a :: l => by simp only [List.map_cons, intsD, intsM l, Option.map_some]
theorem sumM : ∀ l : List Nat, (l.map fun i : Nat => (i : Int)).sum = ((l.sum : Nat) : Int)
  | [] => rfl
  | a :: l => by
    simp only [List.map_cons, List.sum_cons, sumM l]
    omega
theorem cut_atN {α : Type} {l : List α} {a k : Nat} (h : a + k ≤ l.length) : cutD l (some ((a : Nat) : Int)) (some ((a + k : Nat) : Int)) = (l.drop a).take k := by
  unfold cutD sIxD
  simp only
  rw [if_neg (by omega), if_neg (by omega), Int.toNat_natCast, Int.toNat_natCast, Nat.min_eq_left (by omega), Nat.min_eq_left (by omega), show a + k - a = k by omega]
theorem ce_loop {T : List Nat} (hT : T.length ≤ 100000) {v1 : Option D} : ∀ (ns : List Nat) (e : Nat) (acc : List (List Nat)) (v4 : Option D), Fre v4 → e ≤ T.length → ns.sum ≤ e → acc.length + ns.length ≤ 100000 →
    ∃ v4' e', forL (gVar 4) turn_cut_from_end_1 (ns.map fun i : Nat => D.int (i : Nat)) [some (.str T), v1, some (.own 0 (.lst (acc.map D.str))), some (.int (e : Nat)), v4] = .nx [some (.str T), v1, some (.own 0 (.lst ((acc ++ cutE (T.take e) ns).map D.str))), some (.int (e' : Nat)), v4']
  | [], e, acc, v4, _, _, _, _ => ⟨v4, e, by simp [cutE]; rfl⟩
  | n :: r, e, acc, v4, h4, he, hs, hl => by
    rw [List.sum_cons] at hs
    simp only [List.length_cons] at hl
    have hsub : ((e : Nat) : Int) - ((n : Nat) : Int) = ((e - n : Nat) : Int) := by omega
    have hcut : cutD T (some ((e - n : Nat) : Int)) (some ((e : Nat) : Int)) = (T.take e).drop ((T.take e).length - n) := by
      have := cut_atN (l := T) (a := e - n) (k := n) (by omega)
      rw [show e - n + n = e by omega] at this
      rw [this, List.length_take, Nat.min_eq_left he, List.drop_take, show e - (e - n) = n by omega]
    have htk : (T.take e).take ((T.take e).length - n) = T.take (e - n) := by
      rw [List.length_take, Nat.min_eq_left he, List.take_take, Nat.min_eq_left (by omega)]
    obtain ⟨v4', e', ih⟩ := ce_loop hT (v1 := v1) r (e - n) (acc ++ [(T.take e).drop ((T.take e).length - n)]) (some (.int (n : Nat))) (fre_pl rfl) (by omega) (by omega) (by rw [List.length_append, List.length_singleton]; omega)
    refine ⟨v4', e', ?_⟩
    have ht : (toFl (gVar 4 (.int (n : Nat)) [some (.str T), v1, some (.own 0 (.lst (acc.map D.str))), some (.int (e : Nat)), v4])).bind turn_cut_from_end_1 = .nx [some (.str T), v1, some (.own 0 (.lst ((acc ++ [(T.take e).drop ((T.take e).length - n)]).map D.str))), some (.int (e - n : Nat)), some (.int (n : Nat))] := by
      have hal : (acc.map D.str).length < 16777216 := by rw [List.length_map]; omega
      have hT2 : T.length ≤ 16777216 := by omega
      rw [List.map_append, List.map_singleton]
      clear ih htk
      generalize (T.take e).drop ((T.take e).length - n) = PC at *
      generalize acc.map D.str = AC at *
      unfold turn_cut_from_end_1
      walk_at "evh"
    rw [List.map_cons, v_fl1, ht, v_fkN, ih]
    simp only [cutE, htk, List.append_assoc, List.singleton_append]
theorem f_cutE {T ns : List Nat} (hT : T.length ≤ 100000) (hn : ns.length ≤ 10000) (hs : ns.sum ≤ T.length) : ∃ o, fn_cut_from_end [.str T, .lst (ns.map fun i : Nat => D.int (i : Nat))] = .ok (.tup ((cutE T ns).map D.str)) o := by
  obtain ⟨v4, e, h⟩ := ce_loop (T := T) hT (v1 := some (.lst (ns.map fun i : Nat => D.int (i : Nat)))) ns T.length [] none fre_none (Nat.le_refl _) hs (by simp; omega)
  rw [List.take_length, List.nil_append, List.map_nil] at h
  refine ⟨[some (.str T), some (.lst (ns.map fun i : Nat => D.int (i : Nat)))], ?_⟩
  have hT2 : T.length ≤ 16777216 := by omega
  unfold fn_cut_from_end body_cut_from_end
  have hpl : allPlain ((cutE T ns).map D.str) = true := by
    generalize cutE T ns = C
    induction C with
    | nil => rfl
    | cons a r ih => simp only [List.map_cons, allPlain, D.isMut, Bool.not_false, Bool.true_and]; exact ih
  generalize (cutE T ns).map D.str = C at *
  generalize ns.map (fun i : Nat => D.int (i : Nat)) = NS at *
  clear hs hn hT
  walk_at "evh"
theorem f_srange {F : Five} {c : Nat} : ∃ o, fn_start_range [fiveD F, .int (c : Nat), .str oldC] = .ok (if F.f ≤ (c : Nat) then .tup [.int (-F.l), .int (c : Nat)] else .non) o := by
  refine ⟨[some (fiveD F), some (.int (c : Nat)), some (.str oldC)], ?_⟩
  have z1 : (oldC == [115, 116, 114, 105, 99, 116]) = false := by decide
  unfold fn_start_range body_start_range fiveD
  generalize oldC = OC at *
  by_cases h : F.f ≤ (c : Nat)
  · rw [if_pos h]
    walk_at "evh"
  · rw [if_neg h]
    walk_at "evh"
end U
namespace U
open Q (Five fiveF Pg progP)
open PySem
theorem at0 {α : Type} {x : α} {xs : List α} : atD (x :: xs) 0 = some x := atD_nat (j := 0)
theorem f_first {l0 g : Nat} {Lr : List Nat} {q : List Nat} {Qr : List (List Nat)} {F : Five} (hF : F.Good) (hq : q.length ≤ l0) (hl : l0 ≤ 100) :
    ∃ o, fn_Line_first_end [.own 1 (lineD (l0 :: Lr) (q :: Qr) g), fiveD F] = .ok (if Q.runs F (l0 : Nat) false (q.length : Nat) = true then .int (Q.endF F (l0 : Nat) (q.length : Nat)) else .non) (some (.own 1 (lineD (l0 :: Lr) (q :: Qr) g)) :: o) := by
  obtain ⟨o1, e1⟩ := f_srange (F := F) (c := l0)
  have hr := Q.runs_lax (F := F) (c := (l0 : Nat)) (n := (q.length : Nat))
  have hql : q.length ≤ 16777216 := by omega
  have a0 := at0 (x := D.str q) (xs := Qr.map D.str)
  have a1 := at0 (x := D.int (l0 : Nat)) (xs := Lr.map fun i : Nat => D.int (i : Nat))
  refine ⟨[some (fiveD F)], ?_⟩
  by_cases h1 : F.f ≤ (l0 : Nat)
  · rw [if_pos h1] at e1
    by_cases h2 : -F.l ≤ ((q.length : Nat) : Int)
    · rw [if_pos (hr.mpr ⟨h1, h2, by omega⟩)]
      have h3 : ¬ ((q.length : Nat) : Int) < -F.l := by omega
      have hend : (if (l0 : Int) + F.p - F.t - F.h < ((q.length : Nat) : Int) + F.p - F.t then (l0 : Int) + F.p - F.t - F.h else ((q.length : Nat) : Int) + F.p - F.t) = Q.endF F (l0 : Nat) (q.length : Nat) := by
        unfold Q.endF
        split <;> split <;> omega
      rw [← hend]
      clear hr hend h1 h2 hF hq hl
      unfold fn_Line_first_end body_Line_first_end lineD
      unfold fiveD at *
      simp only [List.map_cons]
      generalize Qr.map D.str = QR at *
      generalize Lr.map (fun i : Nat => D.int (i : Nat)) = LR at *
      walk_at "evh"
    · rw [if_neg (fun z => h2 (hr.mp z).2.1)]
      have h3 : ((q.length : Nat) : Int) < -F.l := by omega
      clear hr h1 h2 hF hq hl
      unfold fn_Line_first_end body_Line_first_end lineD
      unfold fiveD at *
      simp only [List.map_cons]
      generalize Qr.map D.str = QR at *
      generalize Lr.map (fun i : Nat => D.int (i : Nat)) = LR at *
      walk_at "evh"
  · rw [if_neg h1] at e1
    rw [if_neg (fun z => h1 (hr.mp z).1)]
    clear hr h1 hF hq hl
    unfold fn_Line_first_end body_Line_first_end lineD
    unfold fiveD at *
    simp only [List.map_cons]
    generalize Qr.map D.str = QR at *
    generalize Lr.map (fun i : Nat => D.int (i : Nat)) = LR at *
    walk_at "evh"
def rnv (S x items five e text : Option D) (m : Nat) (es : List Nat) (v8 v9 : Option D) : Env := [S, x, items, five, e, text, some (.int (m : Nat)), some (.own 0 (.lst (es.map fun i : Nat => D.int (i : Nat)))), v8, v9]
theorem run_loopL {S x items five e text : Option D} : ∀ (ls : List Nat) (qs : List (List Nat)) (m : Nat) (es : List Nat) (v8 v9 : Option D), ls.length = qs.length → Fre v8 → Fre v9 → (∀ q ∈ qs, q.length ≤ 1000) → es.length + ls.length ≤ 1000 →
    ∃ v8' v9', forL (gTup [(gVar 8), (gVar 9)]) turn_Line_run_1 (zipD (qs.map D.str) (ls.map fun i : Nat => D.int (i : Nat))) (rnv S x items five e text m es v8 v9) = .nx (rnv S x items five e text (stG ls (qs.map List.length) m) (es ++ stE ls (qs.map List.length) m) v8' v9')
  | [], [], m, es, v8, v9, _, _, _, _, _ => ⟨v8, v9, by simp [stE, stG, zipD]; rfl⟩
  | [], _ :: _, _, _, _, _, h, _, _, _, _ => by simp at h
  | _ :: _, [], _, _, _, _, h, _, _, _, _ => by simp at h
  | l :: ls, q :: qs, m, es, v8, v9, hl, h8, h9, hq, hn => by
    simp only [List.length_cons] at hl hn
    have hql := hq q List.mem_cons_self
    have hmin : (if ((q.length : Nat) : Int) + ((m : Nat) : Int) < ((l : Nat) : Int) then ((q.length : Nat) : Int) + ((m : Nat) : Int) else ((l : Nat) : Int)) = ((min l (q.length + m) : Nat) : Int) := by split <;> omega
    have hmov : ((m : Nat) : Int) + (((q.length : Nat) : Int) - ((min l (q.length + m) : Nat) : Int)) = ((m + q.length - min l (q.length + m) : Nat) : Int) := by omega
    obtain ⟨v8', v9', ih⟩ := run_loopL (S := S) (x := x) (items := items) (five := five) (e := e) (text := text) ls qs (m + q.length - min l (q.length + m)) (es ++ [min l (q.length + m)]) (some (.str q)) (some (.int (l : Nat))) (by omega) (fre_pl rfl) (fre_pl rfl) (fun z hz => hq z (List.mem_cons_of_mem _ hz)) (by rw [List.length_append, List.length_singleton]; omega)
    refine ⟨v8', v9', ?_⟩
    have ht : (toFl (gTup [(gVar 8), (gVar 9)] (.tup [.str q, .int (l : Nat)]) (rnv S x items five e text m es v8 v9))).bind turn_Line_run_1 = .nx (rnv S x items five e text (m + q.length - min l (q.length + m)) (es ++ [min l (q.length + m)]) (some (.str q)) (some (.int (l : Nat)))) := by
      unfold rnv
      rw [List.map_append, List.map_singleton]
      have hes : (es.map fun i : Nat => D.int (i : Nat)).length < 16777216 := by rw [List.length_map]; omega
      have hm1 : atD ((es.map fun i : Nat => D.int (i : Nat)) ++ [D.int ((min l (q.length + m) : Nat) : Int)]) (-1) = some (D.int ((min l (q.length + m) : Nat) : Int)) := by
        unfold atD ixD
        rw [if_neg (by omega), if_pos (by simp; omega)]
        simp only [Option.bind_some]
        rw [show ((-1 : Int) + (((es.map fun i : Nat => D.int (i : Nat)) ++ [D.int ((min l (q.length + m) : Nat) : Int)]).length : Nat)).toNat = (es.map fun i : Nat => D.int (i : Nat)).length by rw [List.length_append, List.length_singleton]; omega]
        simp
      have hql2 : q.length ≤ 16777216 := by omega
      clear ih hq hl hn
      generalize (es.map fun i : Nat => D.int (i : Nat)) = ES at *
      generalize ((min l (q.length + m) : Nat) : Int) = MN at *
      generalize ((m + q.length - min l (q.length + m) : Nat) : Int) = MV at *
      unfold turn_Line_run_1
      walk_at "evh"
    rw [List.map_cons, List.map_cons, zipD, v_fl1, ht, v_fkN, ih]
    simp only [List.map_cons, stE, stG, List.append_assoc, List.singleton_append]
end U
namespace U
open Q (Five fiveF Pg progP)
open PySem
noncomputable def rnJ : E := eMs oJoin (eC (.str [])) (eUn oRevT (eFldO 0 "Line" "queues"))
noncomputable def rnS : E := eN oSumT (aCons (eFldO 0 "Line" "limits") aNil)
noncomputable def rnM : E := (eOp oSub (eOp oAdd (eN oLenS (aCons (eOp oIxT (eFldO 0 "Line" "queues") (eC (.int 0))) aNil)) (eOp oIxT (eVar 3) (eC (.int 0)))) (eVar 4))
noncomputable def rnF : St := (sFor (iOfA itZ (aCons (eSl oSlT (eFldO 0 "Line" "queues") (some (eC (.int 1))) none) (aCons (eSl oSlT (eFldO 0 "Line" "limits") (some (eC (.int 1))) none) aNil))) (gTup [(gVar 8), (gVar 9)]) turn_Line_run_1)
noncomputable def rnU : St := (sFldO 0 "Line" "queues" (eFrz (eCall fn_cut_from_end [.v (eVar 5), .v (eGive 7)] [])))
noncomputable def rnP : St := (sFldAug 0 "Line" "passed" oAdd (eVar 6))
theorem lrun_eq : body_Line_run = (sSeq (sSet 2 (eFrz (eCall fn_items_of [.v (eVar 1)] [])))
    (sSeq (sSet 3 (eFrz (eCall (fn_five_of 21) [.v (eVar 2)] [])))
    (sSeq (sSet 4 (eFrz (eMethO "Line" "first_end" fn_Line_first_end 0 [.v (eVar 3)] [])))
    (sSeq (sIf (eOp oIsN (eVar 4) (eC .non))
    (sRaise "EmptyQueue" [] aNil)
    sNil)
    (sSeq (sSet 5 (eOp oAddS rnJ (eFrz (eCall (fn_last_of 21) [.v (eVar 2), .v rnS] []))))
    (sSeq (sSet 6 rnM)
    (sSeq (sSet 7 (eN mkLst (aCons (eVar 4) aNil)))
    (sSeq rnF
    (sSeq rnU
    rnP))))))))) := rfl
theorem que_cons {l0 : Nat} {Lr F : List Nat} (h : okL l0 F) : ∃ q0 Qr, queL l0 Lr F = q0 :: Qr ∧ q0.length = enL l0 F ∧ Qr.map List.length = lnsF Lr ((putsL F).length - enL l0 F) ∧ Qr.length = Lr.length := by
  have s1 := lens_sum (Lr := Lr) h
  have e := cutE_lens (lensL l0 Lr F) (putsL F) (by omega)
  refine ⟨(putsL F).drop ((putsL F).length - enL l0 F), cutE ((putsL F).take ((putsL F).length - enL l0 F)) (lnsF Lr ((putsL F).length - enL l0 F)), rfl, ?_, ?_, ?_⟩
  · rw [List.length_drop]
    have := (enL_at h).2.2
    omega
  · unfold lensL at e
    simp only [cutE, List.map_cons, List.cons.injEq] at e
    exact e.2
  · rw [cutE_len, lns_len]
theorem line_io {t : Nat} {m : String} {L : List Nat} {Qs : List (List Nat)} {g : Nat} (hm : m ∉ ["limits", "queues", "passed"]) : isIO "Line" m (some (some (.own t (lineD L Qs g)))) = true := by
  unfold lineD isIO
  simp only [true_and, decide_eq_true_eq]
  exact hm
theorem rnJ_at {L : List Nat} {Qs : List (List Nat)} {g : Nat} {v1 v2 v3 v4 v5 v6 v7 v8 v9 : Option D} (h : Qs.flatten.length ≤ 100000) : rnJ [some (.own 1 (lineD L Qs g)), v1, v2, v3, v4, v5, v6, v7, v8, v9] = .ok (.str Qs.reverse.flatten) [some (.own 1 (lineD L Qs g)), v1, v2, v3, v4, v5, v6, v7, v8, v9] := by
  have hj : oJoin (.str []) (.tup (Qs.map D.str).reverse) = some (.str Qs.reverse.flatten) := by
    rw [← List.map_reverse]
    show ((strsD (Qs.reverse.map D.str)).bind fun ys => if (ys.map List.length).sum + ys.length * ([] : List Nat).length ≤ cap then some (D.str (joinD [] ys)) else none) = _
    rw [strsM, Option.bind_some, joinN, if_pos]
    have : (Qs.reverse.map List.length).sum = Qs.flatten.length := by
      rw [List.length_flatten, List.map_reverse, List.sum_reverse]
    rw [this]
    show Qs.flatten.length + Qs.reverse.length * 0 ≤ 16777216
    omega
  have dR := @U.v_revT
  unfold rnJ lineD
  generalize Qs.map D.str = QD at *
  generalize L.map (fun i : Nat => D.int (i : Nat)) = LD at *
  clear h
  walk_at "evh"
theorem rnS_at {L : List Nat} {Qs : List (List Nat)} {g : Nat} {v1 v2 v3 v4 v5 v6 v7 v8 v9 : Option D} : rnS [some (.own 1 (lineD L Qs g)), v1, v2, v3, v4, v5, v6, v7, v8, v9] = .ok (.int ((L.sum : Nat) : Int)) [some (.own 1 (lineD L Qs g)), v1, v2, v3, v4, v5, v6, v7, v8, v9] := by
  have hj : oSumT [.tup (L.map fun i : Nat => D.int (i : Nat))] = some (.int ((L.sum : Nat) : Int)) := by
    rw [v_sumT, intsM, Option.map_some, sumM]
  unfold rnS lineD
  generalize Qs.map D.str = QD at *
  generalize L.map (fun i : Nat => D.int (i : Nat)) = LD at *
  walk_at "evh"
theorem rnM_at {L : List Nat} {q : List Nat} {Qr : List (List Nat)} {g e : Nat} {F : Five} {v1 v2 v5 v6 v7 v8 v9 : Option D} (hq : q.length ≤ 1000) : rnM [some (.own 1 (lineD L (q :: Qr) g)), v1, v2, some (fiveD F), some (.int (e : Nat)), v5, v6, v7, v8, v9] = .ok (.int (((q.length : Nat) : Int) + F.p - (e : Nat))) [some (.own 1 (lineD L (q :: Qr) g)), v1, v2, some (fiveD F), some (.int (e : Nat)), v5, v6, v7, v8, v9] := by
  have hql : q.length ≤ 16777216 := by omega
  have a0 := at0 (x := D.str q) (xs := Qr.map D.str)
  have a1 := at0 (x := D.int F.p) (xs := [.int F.t, .int F.l, .int F.h, .int F.f])
  unfold rnM lineD fiveD
  rw [List.map_cons]
  generalize Qr.map D.str = QD at *
  generalize L.map (fun i : Nat => D.int (i : Nat)) = LD at *
  clear hq
  walk_at "evh"
theorem rnF_at {l0 : Nat} {Lr : List Nat} {q : List Nat} {Qr : List (List Nat)} {g m e : Nat} {x items five end_ text v8 v9 : Option D} (hl : Lr.length = Qr.length) (h8 : Fre v8) (h9 : Fre v9) (hq : ∀ q ∈ Qr, q.length ≤ 1000) (hn : Lr.length ≤ 100) :
    ∃ v8' v9', rnF (rnv (some (.own 1 (lineD (l0 :: Lr) (q :: Qr) g))) x items five end_ text m [e] v8 v9) = .nx (rnv (some (.own 1 (lineD (l0 :: Lr) (q :: Qr) g))) x items five end_ text (stG Lr (Qr.map List.length) m) (e :: stE Lr (Qr.map List.length) m) v8' v9') := by
  obtain ⟨v8', v9', h⟩ := run_loopL (S := some (.own 1 (lineD (l0 :: Lr) (q :: Qr) g))) (x := x) (items := items) (five := five) (e := end_) (text := text) Lr Qr m [e] v8 v9 hl h8 h9 hq (by simp; omega)
  refine ⟨v8', v9', ?_⟩
  rw [List.singleton_append] at h
  rw [← h]
  have hit : (iOfA itZ (aCons (eSl oSlT (eFldO 0 "Line" "queues") (some (eC (.int 1))) none) (aCons (eSl oSlT (eFldO 0 "Line" "limits") (some (eC (.int 1))) none) aNil))) (rnv (some (.own 1 (lineD (l0 :: Lr) (q :: Qr) g))) x items five end_ text m [e] v8 v9) = .ok (zipD (Qr.map D.str) (Lr.map fun i : Nat => D.int (i : Nat))) (rnv (some (.own 1 (lineD (l0 :: Lr) (q :: Qr) g))) x items five end_ text m [e] v8 v9) := by
    clear h
    have c1 : cutD (D.str q :: Qr.map D.str) (some 1) none = Qr.map D.str := cut_drop1
    have c2 : cutD (D.int (l0 : Nat) :: Lr.map fun i : Nat => D.int (i : Nat)) (some 1) none = Lr.map fun i : Nat => D.int (i : Nat) := cut_drop1
    have dZ := @U.v_itZT
    unfold rnv lineD
    simp only [List.map_cons]
    generalize Qr.map D.str = QD at *
    generalize Lr.map (fun i : Nat => D.int (i : Nat)) = LD at *
    walk_at "evh"
  unfold rnF sFor
  rw [hit]
theorem rnU_at {L : List Nat} {Qs : List (List Nat)} {T es : List Nat} {g m : Nat} {x items five end_ v8 v9 : Option D} (hT : T.length ≤ 100000) (hn : es.length ≤ 10000) (hs : es.sum ≤ T.length) :
    rnU (rnv (some (.own 1 (lineD L Qs g))) x items five end_ (some (.str T)) m es v8 v9) = .nx [some (.own 1 (lineD L (cutE T es) g)), x, items, five, end_, some (.str T), some (.int (m : Nat)), some (.lst (es.map fun i : Nat => D.int (i : Nat))), v8, v9] := by
  obtain ⟨o, e⟩ := f_cutE hT hn hs
  have hpl : allPlain (es.map fun i : Nat => D.int (i : Nat)) = true := by
    clear hn hs e
    induction es with
    | nil => rfl
    | cons a r ih => simp only [List.map_cons, allPlain, D.isMut, Bool.not_false, Bool.true_and]; exact ih
  unfold rnU rnv lineD
  generalize (cutE T es).map D.str = CD at *
  generalize Qs.map D.str = QD at *
  generalize L.map (fun i : Nat => D.int (i : Nat)) = LD at *
  generalize es.map (fun i : Nat => D.int (i : Nat)) = ED at *
  clear hT hn hs
  walk_at "evh"
theorem rnP_at {L : List Nat} {Qs : List (List Nat)} {g m : Nat} {x items five end_ text v7 v8 v9 : Option D} : rnP [some (.own 1 (lineD L Qs g)), x, items, five, end_, text, some (.int (m : Nat)), v7, v8, v9] = .nx [some (.own 1 (lineD L Qs (g + m))), x, items, five, end_, text, some (.int (m : Nat)), v7, v8, v9] := by
  have hz : ((g + m : Nat) : Int) = ((g : Nat) : Int) + ((m : Nat) : Int) := by omega
  unfold lineD
  rw [hz]
  generalize Qs.map D.str = QD at *
  generalize L.map (fun i : Nat => D.int (i : Nat)) = LD at *
  rfl
end U
namespace U
open Q (Five fiveF Pg progP)
open PySem
structure LG (l0 : Nat) (Lr : List Nat) : Prop where
  a1 : 1 ≤ l0
  a2 : l0 ≤ 100
  b : ∀ l ∈ Lr, 1 ≤ l ∧ l ≤ 100
  n : Lr.length ≤ 7
theorem sum_le : ∀ {L : List Nat}, (∀ l ∈ L, 1 ≤ l ∧ l ≤ 100) → L.sum ≤ 100 * L.length
  | [], _ => by simp
  | l :: r, h => by
    have h1 := (h l List.mem_cons_self).2
    have := sum_le (L := r) fun x hx => h x (List.mem_cons_of_mem _ hx)
    rw [List.sum_cons, List.length_cons]
    omega
theorem le_sumM : ∀ {l : List Nat} {x : Nat}, x ∈ l → x ≤ l.sum
  | a :: l, x, h => by
    rw [List.sum_cons]
    rcases List.mem_cons.mp h with rfl | h
    · omega
    · have := le_sumM h
      omega
theorem LG.sum {l0 : Nat} {Lr : List Nat} (G : LG l0 Lr) : l0 + Lr.sum ≤ 800 := by
  have := sum_le G.b
  have := G.n
  have := G.a2
  omega
theorem f_run_ok {l0 : Nat} {Lr F tx : List Nat} {p : Pg} (G : LG l0 Lr) (h : okL l0 F) (htx : tx.length ≤ 100000) (hp : progP tx = some p) (h2 : okL l0 (F ++ p.wr)) :
    ∃ o, fn_Line_run [.own 1 (lineS l0 Lr F), .str tx] = .ok .non (some (.own 1 (lineS l0 Lr (F ++ p.wr))) :: o) := by
  obtain ⟨q0, Qr, hque, hq0, hqr, hqn⟩ := que_cons (Lr := Lr) h
  have hS := G.sum
  have s1 := lens_sum (Lr := Lr) h
  have s2 := lens_sum (Lr := Lr) h2
  have k1 := lens_le (Lr := Lr) h
  have k2 := lens_le (Lr := Lr) h2
  obtain ⟨t1, t2, t3⟩ := lens_app (Lr := Lr) h h2
  have hE := enL_at h
  have hE2 := enL_at h2
  have hpe := puts_end h h2
  have hq := que_app (Lr := Lr) h h2 (Nat.le_refl _)
  have hj : (queL l0 Lr F).reverse.flatten = (putsL F).drop ((putsL F).length - (lensL l0 Lr F).sum) := cutE_join _ _ (by omega)
  have hjl : (queL l0 Lr F).reverse.flatten.length = (lensL l0 Lr F).sum := by rw [hj, List.length_drop]; omega
  have hfl : (queL l0 Lr F).flatten.length ≤ 100000 := by
    have : (queL l0 Lr F).flatten.length = (queL l0 Lr F).reverse.flatten.length := by
      rw [List.length_flatten, List.length_flatten, List.map_reverse, List.sum_reverse]
    omega
  have e1 := f_items htx hp
  obtain ⟨o2, e2⟩ := f_five_of 21 p (by have := (progP_ok hp).2; omega) (progP_ok hp).1
  obtain ⟨o3, e3⟩ := f_first (l0 := l0) (g := goneL l0 Lr F) (Lr := Lr) (q := q0) (Qr := Qr) (F := fiveF p.wr) (Q.fiveF_good _) (by omega) G.a2
  rw [hq0, if_pos ((run_app h).mp h2), ← end_app h h2] at e3
  obtain ⟨o4, e4⟩ := f_last_of 21 p (l0 + Lr.sum) (by have := (progP_ok hp).2; omega) (progP_small hp htx) (by omega)
  obtain ⟨m, hm⟩ : ∃ m, m = enL l0 F + (putsL p.wr).length - enL l0 (F ++ p.wr) := ⟨_, rfl⟩
  obtain ⟨T, hT⟩ : ∃ T, T = (queL l0 Lr F).reverse.flatten ++ lastL (l0 + Lr.sum) (putsL p.wr) := ⟨_, rfl⟩
  have hTl : T.length = (lensL l0 Lr F).sum + min (l0 + Lr.sum) (putsL p.wr).length := by rw [hT, List.length_append, hjl, lastL_len]
  rw [puts_app, List.length_append] at s2
  have a1 := rnJ_at (L := l0 :: Lr) (Qs := queL l0 Lr F) (g := goneL l0 Lr F) (v1 := some (.str tx)) (v2 := some (.lst (pgD p))) (v3 := some (fiveD (fiveF p.wr))) (v4 := some (.int (enL l0 (F ++ p.wr) : Nat))) (v5 := none) (v6 := none) (v7 := none) (v8 := none) (v9 := none) hfl
  have a2 := rnS_at (L := l0 :: Lr) (Qs := queL l0 Lr F) (g := goneL l0 Lr F) (v1 := some (.str tx)) (v2 := some (.lst (pgD p))) (v3 := some (fiveD (fiveF p.wr))) (v4 := some (.int (enL l0 (F ++ p.wr) : Nat))) (v5 := none) (v6 := none) (v7 := none) (v8 := none) (v9 := none)
  rw [List.sum_cons] at a2
  have a3 := rnM_at (L := l0 :: Lr) (q := q0) (Qr := Qr) (g := goneL l0 Lr F) (e := enL l0 (F ++ p.wr)) (F := fiveF p.wr) (v1 := some (.str tx)) (v2 := some (.lst (pgD p))) (v5 := some (.str T)) (v6 := none) (v7 := none) (v8 := none) (v9 := none) (by omega)
  have hmI : (((q0.length : Nat) : Int) + (fiveF p.wr).p - ((enL l0 (F ++ p.wr) : Nat) : Int)) = ((m : Nat) : Int) := by rw [five_p, hq0]; omega
  rw [hmI] at a3
  obtain ⟨v8', v9', a4⟩ := rnF_at (l0 := l0) (Lr := Lr) (q := q0) (Qr := Qr) (g := goneL l0 Lr F) (m := m) (e := enL l0 (F ++ p.wr)) (x := some (.str tx)) (items := some (.lst (pgD p))) (five := some (fiveD (fiveF p.wr))) (end_ := some (.int (enL l0 (F ++ p.wr) : Nat))) (text := some (.str T)) (v8 := none) (v9 := none) hqn.symm fre_none fre_none (fun z hz => by
    have : z.length ≤ (Qr.map List.length).sum := le_sumM (List.mem_map.mpr ⟨z, hz, rfl⟩)
    rw [hqr] at this
    unfold lensL at k1
    rw [List.sum_cons] at k1
    omega) (by have := G.n; omega)
  rw [hqr, hm, t1, t3, ← hm] at a4
  have hlens : enL l0 (F ++ p.wr) :: lnsF Lr ((putsL (F ++ p.wr)).length - enL l0 (F ++ p.wr)) = lensL l0 Lr (F ++ p.wr) := rfl
  rw [hlens] at a4
  have a5 := rnU_at (L := l0 :: Lr) (Qs := q0 :: Qr) (T := T) (es := lensL l0 Lr (F ++ p.wr)) (g := goneL l0 Lr F) (m := goneL l0 Lr (F ++ p.wr) - goneL l0 Lr F) (x := some (.str tx)) (items := some (.lst (pgD p))) (five := some (fiveD (fiveF p.wr))) (end_ := some (.int (enL l0 (F ++ p.wr) : Nat))) (v8 := v8') (v9 := v9') (by omega) (by unfold lensL; rw [List.length_cons, lns_len]; have := G.n; omega) (by omega)
  rw [hT, hq, ← hT] at a5
  have a6 := rnP_at (L := l0 :: Lr) (Qs := queL l0 Lr (F ++ p.wr)) (g := goneL l0 Lr F) (m := goneL l0 Lr (F ++ p.wr) - goneL l0 Lr F) (x := some (.str tx)) (items := some (.lst (pgD p))) (five := some (fiveD (fiveF p.wr))) (end_ := some (.int (enL l0 (F ++ p.wr) : Nat))) (text := some (.str T)) (v7 := some (.lst ((lensL l0 Lr (F ++ p.wr)).map fun i : Nat => D.int (i : Nat)))) (v8 := v8') (v9 := v9')
  rw [show goneL l0 Lr F + (goneL l0 Lr (F ++ p.wr) - goneL l0 Lr F) = goneL l0 Lr (F ++ p.wr) by omega] at a6
  have hio := line_io (t := 1) (m := "first_end") (L := l0 :: Lr) (Qs := q0 :: Qr) (g := goneL l0 Lr F) (by decide)
  have hc1 : (queL l0 Lr F).reverse.flatten.length + (lastL (l0 + Lr.sum) (putsL p.wr)).length ≤ 16777216 := by rw [hjl, lastL_len]; omega
  refine ⟨[some (.str tx)], ?_⟩
  unfold lineS fn_Line_run
  rw [lrun_eq]
  rw [hque] at a1 a2 hT hc1 ⊢
  unfold rnv at a4 a5
  rw [List.map_singleton] at a4
  replace hT := hT.symm
  clear s1 s2 k1 k2 t1 t2 t3 hE hE2 hpe hq hj hjl hfl hTl hmI hlens hqr hqn hq0 h h2 G hS hp hm
  generalize lineD (l0 :: Lr) (q0 :: Qr) (goneL l0 Lr F) = S1 at *
  generalize lineD (l0 :: Lr) (queL l0 Lr (F ++ p.wr)) (goneL l0 Lr F) = S2 at *
  generalize lineD (l0 :: Lr) (queL l0 Lr (F ++ p.wr)) (goneL l0 Lr (F ++ p.wr)) = S3 at *
  generalize (q0 :: Qr).reverse.flatten = QF at *
  generalize lastL (l0 + Lr.sum) (putsL p.wr) = LP at *
  generalize ((l0 + Lr.sum : Nat) : Int) = SU at *
  generalize fiveF p.wr = FF at *
  unfold fiveD at *
  generalize pgD p = PD at *
  generalize ((enL l0 (F ++ p.wr) : Nat) : Int) = EE at *
  generalize (lensL l0 Lr (F ++ p.wr)).map (fun i : Nat => D.int (i : Nat)) = LN at *
  generalize ((goneL l0 Lr (F ++ p.wr) - goneL l0 Lr F : Nat) : Int) = GD at *
  generalize ((m : Nat) : Int) = MM at *
  generalize rnJ = XJ at *
  generalize rnS = XS at *
  generalize rnM = XM at *
  generalize rnF = XF at *
  generalize rnU = XU at *
  generalize rnP = XP at *
  generalize fn_last_of 21 = LO at *
  generalize fn_five_of 21 = FO at *
  walk_at "evh"
end U
namespace U
open Q (Five fiveF Pg progP)
open PySem
theorem ok_nil {l0 : Nat} : okL l0 [] := by
  unfold okL
  rw [Q.runs_lax]
  show (0 : Int) ≤ (l0 : Nat) ∧ -(0 : Int) ≤ 0 ∧ (0 : Int) ≤ (l0 : Nat)
  omega
theorem en_nil {l0 : Nat} : enL l0 [] = 0 := by
  have h := enL_at (ok_nil (l0 := l0))
  have : (putsL []).length = 0 := rfl
  omega
theorem lineS_nil {l0 : Nat} {Lr : List Nat} : lineS l0 Lr [] = lineD (l0 :: Lr) (List.replicate (Lr.length + 1) []) 0 := by
  unfold lineS queL goneL lensL
  have h : (putsL []).length - enL l0 [] = 0 := by rw [en_nil]; rfl
  rw [h, en_nil, gon_nil]
  congr 1
  show ([] : List Nat).drop _ :: cutE (([] : List Nat).take _) (lnsF Lr 0) = _
  rw [List.drop_nil, List.take_nil, cutE_nil, List.replicate_succ]
theorem chk_loop {v0 v1 : Option D} : ∀ (L : List Nat) (v2 : Option D), Fre v2 → (∀ l ∈ L, 1 ≤ l ∧ l ≤ 100) → ∃ v2', forL (gVar 2) turn_Line_init_1 (L.map fun i : Nat => D.int (i : Nat)) [v0, v1, v2] = .nx [v0, v1, v2']
  | [], v2, _, _ => ⟨v2, rfl⟩
  | l :: r, v2, h2, h => by
    obtain ⟨a, b⟩ := h l List.mem_cons_self
    have e := f_check_capacity a b
    obtain ⟨v2', ih⟩ := chk_loop (v0 := v0) (v1 := v1) r (some (.int (l : Nat))) (fre_pl rfl) fun x hx => h x (List.mem_cons_of_mem _ hx)
    refine ⟨v2', ?_⟩
    have ht : (toFl (gVar 2 (.int (l : Nat)) [v0, v1, v2])).bind turn_Line_init_1 = .nx [v0, v1, some (.int (l : Nat))] := by
      clear ih h
      unfold turn_Line_init_1
      walk_at "evh"
    rw [List.map_cons, v_fl1, ht, v_fkN, ih]
theorem LG.all {l0 : Nat} {Lr : List Nat} (G : LG l0 Lr) : ∀ l ∈ l0 :: Lr, 1 ≤ l ∧ l ≤ 100 := fun l hl => by
  rcases List.mem_cons.mp hl with rfl | hl
  · exact ⟨G.a1, G.a2⟩
  · exact G.b l hl
theorem int_pl : ∀ L : List Nat, allPlain (L.map fun i : Nat => D.int (i : Nat)) = true
  | [] => rfl
  | a :: r => by simp only [List.map_cons, allPlain, D.isMut, Bool.not_false, Bool.true_and]; exact int_pl r
theorem f_linit {l0 : Nat} {Lr : List Nat} (G : LG l0 Lr) : ∃ o, fn_Line_init (.own 1 (.ins "Line" [] []) :: (l0 :: Lr).map fun i : Nat => D.int (i : Nat)) = .ok .non (some (.own 1 (lineS l0 Lr [])) :: o) := by
  have hL := G.all
  have hn := G.n
  obtain ⟨L, hLd⟩ : ∃ L, L = l0 :: Lr := ⟨_, rfl⟩
  have hlen : L.length = Lr.length + 1 := by rw [hLd]; rfl
  rw [lineS_nil, ← hlen, ← hLd]
  rw [← hLd] at hL
  have hstar : fn_Line_init (.own 1 (.ins "Line" [] []) :: L.map fun i : Nat => D.int (i : Nat)) = fnOf 2 1 body_Line_init [.own 1 (.ins "Line" [] []), .tup (L.map fun i : Nat => D.int (i : Nat))] := by
    have := starF_at (n := 1) (f := fnOf 2 1 body_Line_init) (ds := .own 1 (.ins "Line" [] []) :: L.map fun i : Nat => D.int (i : Nat)) (by simp) (int_pl L) (by simp only [List.drop_succ_cons, List.drop_zero, List.length_map]; omega)
    exact this
  rw [hstar]
  obtain ⟨v2, hlp⟩ := chk_loop (v0 := some (.own 1 (.ins "Line" [] []))) (v1 := some (.tup (L.map fun i : Nat => D.int (i : Nat)))) L none fre_none hL
  have hsf : sFor (iOf itT (eVar 1)) (gVar 2) turn_Line_init_1 [some (.own 1 (.ins "Line" [] [])), some (.tup (L.map fun i : Nat => D.int (i : Nat))), none] = .nx [some (.own 1 (.ins "Line" [] [])), some (.tup (L.map fun i : Nat => D.int (i : Nat))), v2] := hlp
  have hll : (L.map fun i : Nat => D.int (i : Nat)).length = L.length := List.length_map _
  have hrep : oRepU (.tup [.str []]) (.int ((L.map fun i : Nat => D.int (i : Nat)).length : Nat)) = some (.tup ((List.replicate L.length ([] : List Nat)).map D.str)) := by
    rw [v_repU, hll, if_pos ⟨by omega, by omega, by decide, by decide⟩, Int.toNat_natCast]
    congr 2
    have : ∀ n : Nat, (List.replicate n [D.str []]).flatten = (List.replicate n ([] : List Nat)).map D.str := fun n => by
      induction n with
      | zero => rfl
      | succ n ih => rw [List.replicate_succ, List.flatten_cons, ih, List.replicate_succ]; rfl
    exact this _
  have c1 : decide ((1 : Int) ≤ ((L.map fun i : Nat => D.int (i : Nat)).length : Nat)) = true := decide_eq_true (by omega)
  have c2 : decide ((((L.map fun i : Nat => D.int (i : Nat)).length : Nat) : Int) ≤ 8) = true := decide_eq_true (by omega)
  have c3 : (1 : Int) ≤ ((L.map fun i : Nat => D.int (i : Nat)).length : Nat) := by omega
  have c4 : (((L.map fun i : Nat => D.int (i : Nat)).length : Nat) : Int) ≤ 8 := by omega
  refine ⟨[some (.tup (L.map fun i : Nat => D.int (i : Nat)))], ?_⟩
  clear hlp hstar hL hn hLd hlen hll G
  unfold body_Line_init lineD
  generalize sFor (iOf itT (eVar 1)) (gVar 2) turn_Line_init_1 = SF at *
  generalize (List.replicate L.length ([] : List Nat)).map D.str = RQ at *
  generalize L.map (fun i : Nat => D.int (i : Nat)) = LD at *
  generalize oRepU = RU at *
  walk_at "evh"
  rfl
end U
namespace U
open Q (Five fiveF Pg progP)
open PySem
def K30 : Nat := 1000000000000000000000000000000
theorem prog_apN {l b : List Nat} {k : Nat} (hl : ∀ c ∈ l, c ∈ Q.stp) (hb : ∀ c ∈ b, c ∈ Q.stp) (hk : k ≤ K30) : ∃ p, progP (l ++ [40] ++ b ++ [41] ++ decL k) = some p ∧ p.wr = l ++ rept k b := by
  have h := ((Q.Spells.steps (n := 1) hl).app ((Q.Spells.steps (n := 0) hb).rep hk)).prog (by decide)
  have e : l ++ [40] ++ b ++ [41] ++ decL k = l ++ 40 :: (b ++ 41 :: TL.numL k) := by
    show l ++ [40] ++ b ++ [41] ++ TL.numL k = _
    simp
  rw [e]
  rw [Q.progF_P] at h
  exact Option.map_eq_some_iff.mp h
theorem prog_seq {l : List Nat} (hl : ∀ c ∈ l, c ∈ Q.stp) : ∃ p, progP l = some p ∧ p.wr = l := by
  have h := (Q.Spells.steps (n := 0) hl).prog (by decide)
  rw [Q.progF_P] at h
  exact Option.map_eq_some_iff.mp h
theorem add_at {a b : E} {ρ ρ1 ρ2 : Env} {x y : List Nat} (ha : a ρ = .ok (.str x) ρ1) (hb : b ρ1 = .ok (.str y) ρ2) (h : (x ++ y).length ≤ 100000) : eOp oAddS a b ρ = .ok (.str (x ++ y)) ρ2 := by
  unfold eOp
  rw [ha]
  simp only [ER.bind]
  rw [hb]
  simp only [ER.bind]
  have : oAddS (.str x) (.str y) = some (.str (x ++ y)) := by
    show (if x.length + y.length ≤ cap then some (D.str (x ++ y)) else none) = _
    rw [List.length_append] at h
    exact if_pos (Nat.le_trans h (by decide))
  rw [this]
  rfl
theorem op_at {o : D → D → Option D} {a b : E} {ρ ρ1 ρ2 : Env} {x y d : D} (ha : a ρ = .ok x ρ1) (hb : b ρ1 = .ok y ρ2) (h : o x y = some d) : eOp o a b ρ = .ok d ρ2 := by
  unfold eOp
  rw [ha]
  simp only [ER.bind]
  rw [hb]
  simp only [ER.bind, h]
  rfl
end U
namespace U
open PySem PySem.Spec PyProof.Rows L2
abbrev Tb4 := List (Addr × Str)
structure RepT (K : PySem.W.Frag) (T : Tb4) (F : Fz) (H : Hp) (B : Bx) (σ : L2.St) (ρ : Env) (A : List Addr) : Prop where
  rep : ∃ A0, Rep K F H B σ ρ A0 ∧ A = A0 ++ T.map (·.1)
  nd : A.Nodup
  nf : ∀ a ∈ A, ¬ F a
  dm : ∀ a, F a → ∃ o, H a = some o
  tabs : LamX.Tabs T H
section
variable {K : PySem.W.Frag} {T : Tb4} {B : Bx} {F F' : Fz} {H H' : Hp} {W : WX} {σ : L2.St} {ρ : Env} {A : List Addr}
theorem OVS.kindsT : ∀ {σ : L2.St} {ρ : Env} {A : List Addr}, OVS K F H B σ ρ A → ∀ a ∈ A, LIo H a
  | [], [], _, h, a, ha => by simp only [OVS] at h; subst h; cases ha
  | v :: _, d :: _, _, h, a, ha => by
    simp only [OVS] at h
    obtain ⟨A1, A2, h1, h2, rfl⟩ := h
    rcases List.mem_append.mp ha with z | z
    · cases d with
      | none => simp only [OVo] at h1; subst h1; cases z
      | some d =>
        cases v with
        | none => simp only [OVo] at h1
        | some v => simp only [OVo] at h1; exact h1.kinds a z
    · exact OVS.kindsT h2 a z
  | [], _ :: _, _, h, _, _ => by simp only [OVS] at h
  | _ :: _, [], _, h, _, _ => by simp only [OVS] at h
theorem RepT.there (r : RepT K T F H B σ ρ A) : ∀ a ∈ A, ∃ o, H a = some o := fun a ha => by
  obtain ⟨A0, r0, rfl⟩ := r.rep
  rcases List.mem_append.mp ha with z | z
  · exact r0.sl.there a z
  · obtain ⟨p, hp, rfl⟩ := List.mem_map.mp z
    obtain ⟨ps, h, _⟩ := r.tabs p hp
    exact ⟨_, h⟩
theorem RepT.grow (r : RepT K T F H B σ ρ A) (g : Grow F H F' H') : RepT K T F' H' B σ ρ A := by
  have th := r.there
  obtain ⟨A0, r0, e⟩ := r.rep
  refine ⟨⟨A0, r0.grow g, e⟩, r.nd, fun a ha f => ?_, g.dm r.dm, r.tabs.ext g.keep⟩
  rcases g.froz a f with z | z
  · exact r.nf a ha z
  · obtain ⟨o, h⟩ := th a ha
    rw [h] at z; cases z
theorem Step.withT {A0 A1 : List Addr} {F1 : Fz} {H1 : Hp} {Ps : List Addr} (s : Step A0 F H A1 F1 H1) : Step (A0 ++ Ps) F H (A1 ++ Ps) F1 H1 :=
  ⟨s.mono, fun a o h n => s.keep a o h fun z => n (List.mem_append_left _ z), fun a h => (s.froz a h).imp id (Or.imp id (List.mem_append_left _)), fun a h => by
    rcases List.mem_append.mp h with z | z
    · exact (s.own a z).imp (List.mem_append_left _) id
    · exact .inl (List.mem_append_right _ z)⟩
theorem RepT.step {A0 A1 : List Addr} {F1 : Fz} {H1 : Hp} {ρ1 : Env} {σ1 : L2.St} (r : RepT K T F H B σ ρ (A0 ++ T.map (·.1))) (r1 : Rep K F1 H1 B σ1 ρ1 A1) (s : Step A0 F H A1 F1 H1) : RepT K T F1 H1 B σ1 ρ1 (A1 ++ T.map (·.1)) := by
  have th := r.there
  have nd := r.nd
  rw [List.nodup_append] at nd
  have keepP : ∀ p ∈ T, ∀ o, H p.1 = some o → H1 p.1 = some o := fun p hp o h => s.keep _ o h fun z => nd.2.2 _ z _ (List.mem_map.mpr ⟨p, hp, rfl⟩) rfl
  refine ⟨⟨A1, r1, rfl⟩, ?_, fun a ha fa => ?_, r1.dm, fun p hp => ?_⟩
  · rw [List.nodup_append]
    refine ⟨r1.nd, nd.2.1, fun a ha b hb z => ?_⟩
    subst z
    rcases s.own a ha with q | q
    · exact nd.2.2 a q a hb rfl
    · obtain ⟨o, h⟩ := th a (List.mem_append_right _ hb)
      rw [h] at q; cases q
  · rcases List.mem_append.mp ha with z | z
    · exact r1.nf a z fa
    · rcases s.froz a fa with q | q | q
      · exact r.nf a (List.mem_append_right _ z) q
      · obtain ⟨o, h⟩ := th a (List.mem_append_right _ z)
        rw [h] at q; cases q
      · exact nd.2.2 a q a z rfl
  · obtain ⟨ps, h1, h2, h3⟩ := r.tabs p hp
    refine ⟨ps, keepP p hp _ h1, h2, fun pos cv hc => ?_⟩
    obtain ⟨c, e1, e2⟩ := h3 pos cv hc
    have hcA : c ∉ A0 := fun z => by
      obtain ⟨_, r0, e⟩ := r.rep
      have e0 := List.append_inj_left' e rfl
      subst e0
      rcases r0.sl.kindsT c z with ⟨xs, q⟩ | ⟨C, dx, fs, q⟩ <;> (rw [e2] at q; simp [LamX.CodeO] at q)
    exact ⟨c, e1, s.keep c _ e2 hcA⟩
end
end U
namespace U
open PySem PySem.Spec PyProof.Rows L2
section
variable (K : PySem.W.Frag) (T : Tb4) (B : Bx) (W : WX)
def xendL (σ : L2.St) (A : List Addr) (F : Fz) (H : Hp) (x : Ex) (ρ' : Env) : Prop := ∀ cls dd σ' F' H' A', RepT K T F' H' B σ' ρ' A' → XV K F' H' x cls dd → Step A F H A' F' H' → σ'.length = σ.length → W cls dd σ' H'
def xendLE (σ : L2.St) (A : List Addr) (F : Fz) (H : Hp) (x : Ex) (ρ' : Env) : Prop := ∀ cls dd F' H' A', RepT K T F' H' B σ ρ' A' → XV K F' H' x cls dd → Step A F H A' F' H' → W cls dd σ H'
def tLE (f : E) : TE := fun σ H Q => ∃ F ρ A, RepT K T F H B σ ρ A ∧ match f ρ with
  | .ok d ρ' => ∀ v F' H' A', RepT K T F' H' B σ ρ' A' → RV K F' H' v d → Step A F H A' F' H' → Q v H'
  | .exc x ρ' => xendLE K T B W σ A F H x ρ'
  | .bad => False
def tLM (f : E) : TE := fun σ H Q => ∃ F ρ A, RepT K T F H B σ ρ A ∧ match f ρ with
  | .ok d ρ' => ∀ v F' H' A' Ar, RepT K T F' H' B σ ρ' A' → OV K F' H' v d Ar → (A' ++ Ar).Nodup → (∀ a ∈ Ar, ¬ F' a) → Step A F H (A' ++ Ar) F' H' → Q v H'
  | .exc x ρ' => xendLE K T B W σ A F H x ρ'
  | .bad => False
def tLT (f : E) : TT := fun σ H Q => ∃ F ρ A, RepT K T F H B σ ρ A ∧ match f ρ with
  | .ok d ρ' => ∃ b, d = .bl b ∧ ∀ F' H' A', RepT K T F' H' B σ ρ' A' → Step A F H A' F' H' → Q b H'
  | .exc x ρ' => xendLE K T B W σ A F H x ρ'
  | .bad => False
def tLA (f : As) : TA := fun σ H Q => ∃ F ρ A, RepT K T F H B σ ρ A ∧ match f ρ with
  | .ok ds ρ' => ∀ vs F' H' A', RepT K T F' H' B σ ρ' A' → RVs K F' H' vs ds → Step A F H A' F' H' → Q vs H'
  | .exc x ρ' => xendLE K T B W σ A F H x ρ'
  | .bad => False
def tLS (f : St) : TS := fun D σ H => ∃ F ρ A, RepT K T F H B σ ρ A ∧ match f ρ with
  | .nx ρ' => ∀ σ' F' H' A', RepT K T F' H' B σ' ρ' A' → Step A F H A' F' H' → σ'.length = σ.length → D.nx σ' H'
  | .bk ρ' => ∀ σ' F' H' A', RepT K T F' H' B σ' ρ' A' → Step A F H A' F' H' → σ'.length = σ.length → D.bk σ' H'
  | .ct ρ' => ∀ σ' F' H' A', RepT K T F' H' B σ' ρ' A' → Step A F H A' F' H' → σ'.length = σ.length → D.ct σ' H'
  | .rt d ρ' => ∀ v σ' F' H' A' Ar, RepT K T F' H' B σ' ρ' A' → OV K F' H' v d Ar → (A' ++ Ar).Nodup → (∀ a ∈ Ar, ¬ F' a) → Step A F H (A' ++ Ar) F' H' → σ'.length = σ.length → D.rt v H'
  | .ex x ρ' => xendL K T B W σ A F H x ρ'
  | .bad => False
end
section
variable {K : PySem.W.Frag} {T : Tb4} {B : Bx} {F F' : Fz} {H H' : Hp} {W : WX}
theorem RepT.put {σ : L2.St} {ρ ρ' : Env} {A Ar : List Addr} {i : Nat} {v : V} {d : D} (r : RepT K T F H B σ ρ A) (o : OV K F H v d Ar) (nd : (A ++ Ar).Nodup) (nf : ∀ a ∈ Ar, ¬ F a) (e : U.put i d ρ = some ρ') :
    ∃ A', RepT K T F H B (σ.set i (some v)) ρ' A' ∧ ∀ a ∈ A', a ∈ A ++ Ar := by
  obtain ⟨A0, r0, rfl⟩ := r.rep
  simp only [List.nodup_append, List.mem_append] at nd
  obtain ⟨A', r', sub⟩ := r0.put o (by
    simp only [List.nodup_append]
    exact ⟨nd.1.1, nd.2.1, fun a ha b hb => nd.2.2 a (.inl ha) b hb⟩) nf e
  refine ⟨A' ++ T.map (·.1), ⟨⟨A', r', rfl⟩, ?_, fun a ha => ?_, r.dm, r.tabs⟩, fun a ha => ?_⟩
  · simp only [List.nodup_append]
    refine ⟨r'.nd, nd.1.2.1, fun a ha b hb z => ?_⟩
    subst z
    rcases List.mem_append.mp (sub a ha) with q | q
    · exact nd.1.2.2 a q a hb rfl
    · exact nd.2.2 a (.inr hb) a q rfl
  · rcases List.mem_append.mp ha with z | z
    · exact r'.nf a z
    · exact r.nf a (List.mem_append_right _ z)
  · simp only [List.mem_append]
    rcases List.mem_append.mp ha with z | z
    · exact (List.mem_append.mp (sub a z)).imp .inl id
    · exact .inl (.inr z)
theorem RepT.putP {σ : L2.St} {ρ ρ' : Env} {A : List Addr} {i : Nat} {v : V} {d : D} (r : RepT K T F H B σ ρ A) (o : RV K F H v d) (e : U.put i d ρ = some ρ') :
    ∃ A', RepT K T F H B (σ.set i (some v)) ρ' A' ∧ ∀ a ∈ A', a ∈ A := by
  obtain ⟨A', h1, h2⟩ := r.put (Ar := []) o.own (by simpa using r.nd) (fun a h => by cases h) e
  exact ⟨A', h1, fun a ha => by simpa using h2 a ha⟩
theorem RV.stepT {v : V} {d : D} {σ : L2.St} {ρ : Env} {A A' : List Addr} (h : RV K F H v d) (r : RepT K T F H B σ ρ A) (s : Step A F H A' F' H') : RV K F' H' v d := h.stay s.mono fun a o f e => s.keep a o e fun ha => r.nf a ha f
theorem lift_x {σ : L2.St} {ρ : Env} {A0 : List Addr} (r : RepT K T F H B σ ρ (A0 ++ T.map (·.1))) {x : Ex} {ρ' : Env} (h : xendLE K T B W σ (A0 ++ T.map (·.1)) F H x ρ') : xendE K B W σ A0 F H x ρ' :=
  fun cls dd F' H' A' r1 xv s => h cls dd F' H' _ (r.step r1 s) xv s.withT
theorem liftE {f : E} (σ : L2.St) (H : Hp) (Q : VK) (h : tLE K T B W f σ H Q) : tDE K B W f σ H Q := by
  obtain ⟨F, ρ, A, rp, h⟩ := h
  obtain ⟨A0, r0, rfl⟩ := rp.rep
  refine ⟨F, ρ, A0, r0, ?_⟩
  cases e : f ρ with
  | bad => rw [e] at h; exact h
  | exc x ρ1 => rw [e] at h; exact lift_x rp h
  | ok d ρ1 => rw [e] at h; exact fun v F' H' A' r1 rv s => h v F' H' _ (rp.step r1 s) rv s.withT
theorem lift_r {σ : L2.St} {ρ : Env} {A0 : List Addr} (r : RepT K T F H B σ ρ (A0 ++ T.map (·.1))) {σ1 : L2.St} {ρ1 : Env} {A1 Ar : List Addr} {F1 : Fz} {H1 : Hp} {v : V} {d : D} (r1 : Rep K F1 H1 B σ1 ρ1 A1) (o : OV K F1 H1 v d Ar) (nd : (A1 ++ Ar).Nodup) (s : Step A0 F H (A1 ++ Ar) F1 H1) :
    RepT K T F1 H1 B σ1 ρ1 (A1 ++ T.map (·.1)) ∧ ((A1 ++ T.map (·.1)) ++ Ar).Nodup ∧ Step (A0 ++ T.map (·.1)) F H ((A1 ++ T.map (·.1)) ++ Ar) F1 H1 := by
  have s0 := s.sub (A'' := A1) fun a ha => List.mem_append_left _ ha
  have r2 := r.step r1 s0
  have th := r.there
  have nd0 := r.nd
  refine ⟨r2, ?_, s.withT.sub fun a ha => ?_⟩
  · rw [List.nodup_append] at nd nd0 ⊢
    refine ⟨r2.nd, nd.2.1, fun a ha b hb z => ?_⟩
    subst z
    rcases List.mem_append.mp ha with q | q
    · exact nd.2.2 a q a hb rfl
    · rcases s.own a (List.mem_append_right _ hb) with w | w
      · exact nd0.2.2 a w a q rfl
      · obtain ⟨u, e⟩ := th a (List.mem_append_right _ q)
        rw [e] at w; cases w
  · simp only [List.mem_append] at ha ⊢
    rcases ha with (ha | ha) | ha
    · exact .inl (.inl ha)
    · exact .inr ha
    · exact .inl (.inr ha)
theorem liftS {f : U.St} (D : Ends) (σ : L2.St) (H : Hp) (h : tLS K T B W f D σ H) : tDS K B W f D σ H := by
  obtain ⟨F, ρ, A, rp, h⟩ := h
  obtain ⟨A0, r0, rfl⟩ := rp.rep
  refine ⟨F, ρ, A0, r0, ?_⟩
  cases e : f ρ with
  | bad => rw [e] at h; exact h
  | nx ρ1 => rw [e] at h; exact fun σ' F' H' A' r1 s l => h σ' F' H' _ (rp.step r1 s) s.withT l
  | bk ρ1 => rw [e] at h; exact fun σ' F' H' A' r1 s l => h σ' F' H' _ (rp.step r1 s) s.withT l
  | ct ρ1 => rw [e] at h; exact fun σ' F' H' A' r1 s l => h σ' F' H' _ (rp.step r1 s) s.withT l
  | rt d ρ1 =>
    rw [e] at h
    intro v σ' F' H' A' Ar r1 o nd nf s l
    obtain ⟨a, b, c⟩ := lift_r rp r1 o nd s
    exact h v σ' F' H' _ Ar a o b nf c l
  | ex x ρ1 => rw [e] at h; exact fun cls dd σ' F' H' A' r1 xv s l => h cls dd σ' F' H' _ (rp.step r1 s) xv s.withT l
theorem wl_frz {f : E} (σ : L2.St) (H : Hp) (Q : VK) (h : tLE K T B W (eFrz f) σ H Q) : tLM K T B W f σ H Q := by
  obtain ⟨F, ρ, A, rp, h⟩ := h
  refine ⟨F, ρ, A, rp, ?_⟩
  unfold eFrz at h
  cases e1 : f ρ with
  | bad => rw [e1] at h; exact h
  | exc x ρ1 => rw [e1] at h; exact h
  | ok d1 ρ1 =>
    rw [e1] at h
    obtain ⟨d, ed, h⟩ := ok_inv h
    intro v F' H' A' Ar r o nd nf s
    obtain ⟨A0, r0, e0⟩ := r.rep
    subst e0
    simp only [List.nodup_append] at nd
    obtain ⟨F2, m, fz, rv, dm⟩ := frz_ov r0 o (by
      simp only [List.nodup_append]
      exact ⟨r0.nd, nd.2.1, fun a ha b hb => nd.2.2 a (List.mem_append_left _ ha) b hb⟩) ed
    have no : ∀ a ∈ A0 ++ T.map (·.1), ¬ F2 a := fun a ha hf => by
      rcases fz a hf with z | z
      · exact r.nf a ha z
      · exact nd.2.2 a ha a z rfl
    refine h v F2 H' _ ⟨⟨A0, ⟨r0.sl.stay m fun _ _ _ h => h, r0.nd, fun a ha => no a (List.mem_append_left _ ha), dm⟩, rfl⟩, r.nd, no, dm, r.tabs⟩ rv ⟨fun a ha => m a (s.mono a ha), s.keep, fun a ha => ?_, fun a ha => s.own a (List.mem_append_left _ ha)⟩
    rcases fz a ha with z | z
    · exact s.froz a z
    · rcases s.own a (List.mem_append_right _ z) with q | q
      · exact .inr (.inr q)
      · exact .inr (.inl q)
theorem xendLE.before {K : PySem.W.Frag} {T : Tb4} {B : Bx} {W : WX} {σ : L2.St} {A A1 : List Addr} {F F1 : Fz} {H H1 : Hp} {x : Ex} {ρ' : Env} (h : xendLE K T B W σ A F H x ρ') (s : Step A F H A1 F1 H1) : xendLE K T B W σ A1 F1 H1 x ρ' :=
  fun cls dd F' H' A' r x t => h cls dd F' H' A' r x (s.trans t)
theorem wl_op {o : D → D → Option D} {r : R2} {f g : E} (p : P2 K o r) (σ : L2.St) (H : Hp) (Q : VK) (h : tLE K T B W (eOp o f g) σ H Q) : tOp r (tLE K T B W f) (tLE K T B W g) σ H Q := by
  obtain ⟨F, ρ, A, rp, h⟩ := h
  refine ⟨F, ρ, A, rp, ?_⟩
  unfold eOp at h
  cases e1 : f ρ with
  | bad => rw [e1] at h; exact h
  | exc x ρ1 => rw [e1] at h; exact h
  | ok d1 ρ1 =>
    rw [e1] at h
    intro v1 F1 H1 A1 r1 v1r s1
    refine ⟨F1, ρ1, A1, r1, ?_⟩
    simp only [ER.bind] at h
    cases e2 : g ρ1 with
    | bad => rw [e2] at h; exact h
    | exc x ρ2 => rw [e2] at h; exact h.before s1
    | ok d2 ρ2 =>
      rw [e2] at h
      intro v2 F2 H2 A2 r2 v2r s2
      obtain ⟨d, ed, h⟩ := ok_inv h
      refine p F2 H2 v1 v2 d1 d2 d Q (v1r.stepT r1 s2) v2r ed fun v F' H' g vr => h v F' H' A2 (r2.grow g) vr ((s1.trans s2).trans g.step)
theorem wl_tv {f : E} (σ : L2.St) (H : Hp) (Q : Bool → Hp → Prop) (h : tLT K T B W f σ H Q) : tTest (tLE K T B W f) σ H Q := by
  obtain ⟨F, ρ, A, rp, h⟩ := h
  refine ⟨F, ρ, A, rp, ?_⟩
  cases e1 : f ρ with
  | bad => rw [e1] at h; exact h
  | exc x ρ1 => rw [e1] at h; exact h
  | ok d1 ρ1 =>
    rw [e1] at h
    obtain ⟨b, rfl, h⟩ := h
    intro v1 F1 H1 A1 r1 v1r s1
    simp only [RV] at v1r
    exact ⟨b, v1r, h F1 H1 A1 r1 s1⟩
theorem wl_tor {f g : E} (σ : L2.St) (H : Hp) (Q : Bool → Hp → Prop) (h : tLT K T B W (eOr f g) σ H Q) : tOr (tLT K T B W f) (tLT K T B W g) σ H Q := by
  obtain ⟨F, ρ, A, rp, h⟩ := h
  refine ⟨F, ρ, A, rp, ?_⟩
  unfold eOr at h
  cases e1 : f ρ with
  | bad => rw [e1] at h; exact h
  | exc x ρ1 => rw [e1] at h; exact h
  | ok d1 ρ1 =>
    rw [e1] at h
    cases d1 with
    | bl b =>
      refine ⟨b, rfl, fun F1 H1 A1 r1 s1 => ?_⟩
      cases b with
      | false =>
        rw [if_neg (by decide)]
        refine ⟨F1, ρ1, A1, r1, ?_⟩
        simp only [ER.bind] at h
        cases e2 : g ρ1 with
        | bad => rw [e2] at h; exact h
        | exc x ρ2 => rw [e2] at h; exact h.before s1
        | ok d2 ρ2 =>
          rw [e2] at h
          obtain ⟨b2, rfl, h⟩ := h
          exact ⟨b2, rfl, fun F2 H2 A2 r2 s2 => h F2 H2 A2 r2 (s1.trans s2)⟩
      | true =>
        rw [if_pos rfl]
        obtain ⟨b2, eb, h⟩ := h
        cases eb
        exact h F1 H1 A1 r1 s1
    | _ => exact h.elim
theorem wl_tnot {f : E} (σ : L2.St) (H : Hp) (Q : Bool → Hp → Prop) (h : tLT K T B W (eUn oNot f) σ H Q) : L2.tNot (tLT K T B W f) σ H Q := by
  obtain ⟨F, ρ, A, rp, h⟩ := h
  refine ⟨F, ρ, A, rp, ?_⟩
  unfold eUn at h
  cases e1 : f ρ with
  | bad => rw [e1] at h; exact h
  | exc x ρ1 => rw [e1] at h; exact h
  | ok d1 ρ1 =>
    rw [e1] at h
    cases d1 with
    | bl b =>
      obtain ⟨b2, eb, h⟩ := h
      cases eb
      exact ⟨b, rfl, fun F1 H1 A1 r1 s1 => h F1 H1 A1 r1 s1⟩
    | _ => exact h.elim
def sendL (K : PySem.W.Frag) (T : Tb4) (B : Bx) (W : WX) (D : Ends) (σ : L2.St) (A : List Addr) (F : Fz) (H : Hp) (r : Fl) : Prop := match r with
  | .nx ρ' => ∀ σ' F' H' A', RepT K T F' H' B σ' ρ' A' → Step A F H A' F' H' → σ'.length = σ.length → D.nx σ' H'
  | .bk ρ' => ∀ σ' F' H' A', RepT K T F' H' B σ' ρ' A' → Step A F H A' F' H' → σ'.length = σ.length → D.bk σ' H'
  | .ct ρ' => ∀ σ' F' H' A', RepT K T F' H' B σ' ρ' A' → Step A F H A' F' H' → σ'.length = σ.length → D.ct σ' H'
  | .rt d ρ' => ∀ v σ' F' H' A' Ar, RepT K T F' H' B σ' ρ' A' → OV K F' H' v d Ar → (A' ++ Ar).Nodup → (∀ a ∈ Ar, ¬ F' a) → Step A F H (A' ++ Ar) F' H' → σ'.length = σ.length → D.rt v H'
  | .ex x ρ' => xendL K T B W σ A F H x ρ'
  | .bad => False
theorem sendL.before {D : Ends} {σ σ1 : L2.St} {A A1 : List Addr} {F1 : Fz} {H1 : Hp} {r : Fl} (h : sendL K T B W D σ A F H r) (s : Step A F H A1 F1 H1) (l : σ1.length = σ.length) : sendL K T B W D σ1 A1 F1 H1 r := by
  cases r with
  | nx ρ' => exact fun σ' F' H' A' r t e => h σ' F' H' A' r (s.trans t) (e.trans l)
  | bk ρ' => exact fun σ' F' H' A' r t e => h σ' F' H' A' r (s.trans t) (e.trans l)
  | ct ρ' => exact fun σ' F' H' A' r t e => h σ' F' H' A' r (s.trans t) (e.trans l)
  | rt d ρ' => exact fun v σ' F' H' A' Ar r o n nf t e => h v σ' F' H' A' Ar r o n nf (s.trans t) (e.trans l)
  | ex x ρ' => exact fun cls dd σ' F' H' A' r x t e => h cls dd σ' F' H' A' r x (s.trans t) (e.trans l)
  | bad => exact h
theorem xendL.expr {σ : L2.St} {A : List Addr} {x : Ex} {ρ' : Env} (h : xendL K T B W σ A F H x ρ') : xendLE K T B W σ A F H x ρ' := fun cls dd F' H' A' r x t => h cls dd σ F' H' A' r x t rfl
theorem wl_seq {f g : U.St} (D : Ends) (σ : L2.St) (H : Hp) (h : tLS K T B W (sSeq f g) D σ H) : tSeq (tLS K T B W f) (tLS K T B W g) D σ H := by
  obtain ⟨F, ρ, A, rp, h⟩ := h
  refine ⟨F, ρ, A, rp, ?_⟩
  unfold sSeq at h
  cases e1 : f ρ with
  | nx ρ1 =>
    rw [e1] at h
    exact fun σ1 F1 H1 A1 r1 s1 l1 => ⟨F1, ρ1, A1, r1, sendL.before (r := g ρ1) h s1 l1⟩
  | bk ρ1 => rw [e1] at h; exact h
  | ct ρ1 => rw [e1] at h; exact h
  | rt d ρ1 => rw [e1] at h; exact h
  | ex x ρ1 => rw [e1] at h; exact h
  | bad => rw [e1] at h; exact h
theorem wl_ifs {c : E} {f g : U.St} (D : Ends) (σ : L2.St) (H : Hp) (h : tLS K T B W (sIf c f g) D σ H) : tIfS (tLT K T B W c) (tLS K T B W f) (tLS K T B W g) D σ H := by
  obtain ⟨F, ρ, A, rp, h⟩ := h
  refine ⟨F, ρ, A, rp, ?_⟩
  unfold sIf at h
  cases e1 : c ρ with
  | bad => rw [e1] at h; exact h
  | exc x ρ1 => rw [e1] at h; exact xendL.expr h
  | ok d1 ρ1 =>
    rw [e1] at h
    cases d1 with
    | bl b =>
      refine ⟨b, rfl, fun F1 H1 A1 r1 s1 => ?_⟩
      cases b with
      | true =>
        rw [if_pos rfl]
        exact ⟨F1, ρ1, A1, r1, sendL.before (r := f ρ1) h s1 rfl⟩
      | false =>
        rw [if_neg (by decide)]
        exact ⟨F1, ρ1, A1, r1, sendL.before (r := g ρ1) h s1 rfl⟩
    | _ => exact h.elim
def WGT (K : PySem.W.Frag) (T : Tb4) (B : Bx) (ks : List Nat) (g : Tg) (tg : TG) : Prop := ∀ (F : Fz) (H : Hp) (σ : L2.St) (ρ ρ' : Env) (A : List Addr) (v : V) (d : D) (Q : L2.St → Hp → Prop), RepT K T F H B σ ρ A → RV K F H v d → g d ρ = some ρ' →
  (∀ σ' A', RepT K T F H B σ' ρ' A' → (∀ a ∈ A', a ∈ A) → σ'.length = σ.length → (∀ j, j ∉ ks → σ'[j]? = σ[j]?) → Q σ' H) → tg v σ H Q
def tLI (K : PySem.W.Frag) (T : Tb4) (B : Bx) (W : WX) (f : Is) : TI := fun σ H R => ∃ F ρ A, RepT K T F H B σ ρ A ∧ match f ρ with
  | .ok ds ρ' => ∀ J F' H' A', RepT K T F' H' B σ ρ' A' → Yl K J F' H' ds → Step A F H A' F' H' → R J H'
  | .exc x ρ' => xendLE K T B W σ A F H x ρ'
  | .bad => False
theorem wl_for {it : Is} {g : Tg} {tg : TG} {b : U.St} {ks : List Nat} (hg : WGT K T B ks g tg) (D : Ends) (σ : L2.St) (H : Hp) (h : tLS K T B W (sFor it g b) D σ H) : tFor (tLI K T B W it) tg (tLS K T B W b) D σ H := by
  obtain ⟨F, ρ, A, rp, h⟩ := h
  refine ⟨F, ρ, A, rp, ?_⟩
  unfold sFor at h
  cases e1 : it ρ with
  | bad => rw [e1] at h; exact h
  | exc x ρ1 => rw [e1] at h; exact xendL.expr h
  | ok ds ρ1 =>
    rw [e1] at h
    intro J F1 H1 A1 r1 y s1
    have h1 : sendL K T B W D σ A1 F1 H1 (forL g b ds ρ1) := sendL.before h s1 rfl
    refine ⟨fun i m σ' H' => m + i = ds.length ∧ σ'.length = σ.length ∧ ∃ F' ρ' A', RepT K T F' H' B σ' ρ' A' ∧ Step A1 F1 H1 A' F' H' ∧ sendL K T B W D σ' A' F' H' (forL g b (ds.drop i) ρ'), ⟨ds.length, rfl, rfl, F1, ρ1, A1, r1, Step.refl, h1⟩, ?_⟩
    rintro i m σ2 H2 ⟨em, l2, F2, ρ2, A2, r2, s2, h2⟩
    have yy := y F2 H2 s2.mono fun a o f e => s2.keep a o e fun ha => r1.nf a ha f
    by_cases hi : i < ds.length
    · right
      have hd : ds.drop i = ds[i] :: ds.drop (i + 1) := List.drop_eq_getElem_cons hi
      obtain ⟨go, yl⟩ := yy.1 i ds[i] (List.getElem?_eq_getElem hi)
      rw [hd] at h2
      simp only [forL] at h2
      refine ⟨go, ?_⟩
      cases e2 : g ds[i] ρ2 with
      | none => rw [e2] at h2; exact h2.elim
      | some ρ3 =>
        rw [e2] at h2
        simp only at h2
        refine ⟨fun σ' H' => σ'.length = σ.length ∧ ∃ F' ρ' A', RepT K T F' H' B σ' ρ' A' ∧ Step A1 F1 H1 A' F' H' ∧ sendL K T B W D σ' A' F' H' (forL g b (ds.drop (i + 1)) ρ'), fun σ' H' ⟨l', q⟩ => ⟨m - 1, by omega, by omega, l', q⟩, fun x H3 yd => ?_⟩
        obtain ⟨F3, g3, rv⟩ := yl x H3 yd
        refine hg F3 H3 σ2 ρ2 ρ3 A2 x ds[i] _ (r2.grow g3) rv e2 fun σ3 A3 r3 sub l3 _ => ?_
        have s3 : Step A2 F2 H2 A3 F3 H3 := g3.step.sub sub
        refine ⟨F3, ρ3, A3, r3, ?_⟩
        cases e3 : b ρ3 with
        | nx ρ4 =>
          rw [e3] at h2
          exact fun σ4 F4 H4 A4 r4 s4 l4 => ⟨by omega, F4, ρ4, A4, r4, (s2.trans s3).trans s4, sendL.before h2 (s3.trans s4) (by omega)⟩
        | ct ρ4 =>
          rw [e3] at h2
          exact fun σ4 F4 H4 A4 r4 s4 l4 => ⟨by omega, F4, ρ4, A4, r4, (s2.trans s3).trans s4, sendL.before h2 (s3.trans s4) (by omega)⟩
        | bk ρ4 =>
          rw [e3] at h2
          exact fun σ4 F4 H4 A4 r4 s4 l4 => h2 σ4 F4 H4 A4 r4 (s3.trans s4) (by omega)
        | rt d ρ4 =>
          rw [e3] at h2
          exact fun v σ4 F4 H4 A4 Ar r4 o nd nf s4 l4 => h2 v σ4 F4 H4 A4 Ar r4 o nd nf (s3.trans s4) (by omega)
        | ex x ρ4 =>
          rw [e3] at h2
          exact fun cls dd σ4 F4 H4 A4 r4 x s4 l4 => h2 cls dd σ4 F4 H4 A4 r4 x (s3.trans s4) (by omega)
        | bad => rw [e3] at h2; exact h2
    · left
      rw [List.drop_of_length_le (by omega)] at h2
      exact ⟨yy.2 i (by omega), h2 σ2 F2 H2 A2 r2 Step.refl rfl⟩
end
end U
namespace LamY
open PySem PySem.Spec PyProof.Rows L2 LamX
def ExtP (Z : Addr) (H H1 : Hp) : Prop := ∀ b o, b ≠ Z → H b = some o → H1 b = some o
section
variable {X : Cx} {pins : List (Addr × Obj)} {σ : L2.St} {H : Hp} {s : Shared}
theorem made {T : List (Addr × Str)} {cc Z : Addr} {pr : Arguments} {bd : Expr} {sc : Scope} {at_ : Pos} {Er : Value → Shared → Prop} {G : Value → Shared → Prop} (J : Inv X pins σ H s) (tb : TabB X.base X.mg cc Z) (hc : X.env.code = .ref cc)
    (mem : (Z, X.env.qual ++ "<lambda>") ∈ T) (one : ∀ p ∈ T, p.1 = Z → p.2 = X.env.qual ++ "<lambda>") (tabs : Tabs T H) (df : defaultsOf pr X.env = ([], [])) (fr : ∀ y ∈ sc.names, y.2 = .free → ∃ c, X.env.cells.lookup y.1 = some c)
    (go : ∀ (f d : Addr) (pm ct : Value) (H1 : Hp) (s1 : Shared), Inv X pins σ H1 s1 → ExtP Z H H1 → Tabs T H1 →
      s1.heap.get? f = some (PySem.W.kla_obj "<lambda>" (X.env.qual ++ "<lambda>") pr bd sc (cloFrom X.env.cells sc.names []) pm d ct) → H1 f = none → f ∉ frs X.stack → H1 d = some (CodeO d (X.env.qual ++ "<lambda>")) → G (.ref f) s1) :
    wpAny (model X.prog X.w) X.A (eval (.Lambda pr bd sc at_) X.env) G Er s := by
  obtain ⟨ps, tabAt, triples, names⟩ := tabs _ mem
  have objAt : s.heap.get? Z = some { cls := .none, data := .fields ps } := J.hok Z _ tabAt
  have bas := tb.bm.keeps J.bk
  have out : ∀ f, s.heap.objs.size ≤ f → f ∉ frs X.stack := by
    intro f hf m
    rcases List.mem_cons.mp (J.stkSub _ m) with e | e
    · have l := J.lt
      rw [← e] at l
      exact absurd (Nat.lt_of_lt_of_le l hf) (Nat.lt_irrefl _)
    · exact J.nofs hf e
  refine PySem.W.kla_eval df ?_
  rcases found : codeAmong at_ ps.toList with _ | cv
  · refine PySem.W.kla_makeFunction (mg := X.mg) (c := cc) (P := Z) (ps := ps) (closure_ok fr) J.ok.glob (J.mod.glob.keeps J.bk) hc (tb.code.keeps J.bk) objAt triples found tb.gP bas ?_
    intro d ct h' tk keep ge lt rec tab
    obtain ⟨d2, oc, vs, t, e2, goc, dat, nm⟩ := rec
    cases e2
    have newd : H d = none := J.hok.fresh ge
    have grown : s.heap.objs.size ≤ h'.objs.size := Nat.le_trans ge (Nat.le_of_lt lt)
    let lam := PySem.W.kla_obj "<lambda>" (X.env.qual ++ "<lambda>") pr bd sc (cloFrom X.env.cells sc.names []) ((X.mg "__name__").getD .none) d ct
    have J1 := inv_table (t' := tk) (more := #[rawInt at_.line, rawInt at_.col, .ref d]) (h' := h'.push lam) J tabAt
      (fun b o n e => Heap.get?_push_of_some _ (keep b o n e)) (Heap.get?_push_of_some _ tab) ge ⟨oc, vs, t, Heap.get?_push_of_some _ goc, dat, nm⟩
    have ex : ExtP Z H (upd (upd H Z (.tbl (ps ++ #[rawInt at_.line, rawInt at_.col, .ref d]))) d (CodeO d (X.env.qual ++ "<lambda>"))) := by
      intro b o n e
      rw [upd_ne (ne_of_none e newd), upd_ne n]
      exact e
    have nZd : Z ≠ d := ne_of_none tabAt newd
    refine go h'.objs.size d _ ct _ _ J1 ex (fun p hp => ?_) (Heap.get?_push_size _ rfl) ?_ (out _ grown) upd_same
    · obtain ⟨qs, k1, k2, k3⟩ := tabs p hp
      by_cases z : p.1 = Z
      · have el : (ps ++ #[rawInt at_.line, rawInt at_.col, .ref d]).toList = ps.toList ++ [rawInt at_.line, rawInt at_.col, .ref d] := by simp
        rw [one p hp z, z]
        refine ⟨_, (upd_ne nZd).trans upd_same, el ▸ PySem.TriplesOk_snoc _ _ _ _ triples, fun at2 cv hcv => ?_⟩
        rw [el] at hcv
        rcases among_app _ triples hcv with y | y
        · obtain ⟨c0, e1, e2⟩ := names at2 cv y
          refine ⟨c0, e1, ex _ _ (fun w => ?_) e2⟩
          rw [w, tabAt] at e2
          exact codeO_ne ps (Option.some.inj e2).symm
        · exact ⟨d, y, upd_same⟩
      · refine ⟨qs, ex _ _ z k1, k2, fun at2 cv hcv => ?_⟩
        obtain ⟨c0, e1, e2⟩ := k3 at2 cv hcv
        refine ⟨c0, e1, ex _ _ (fun w => ?_) e2⟩
        rw [w, tabAt] at e2
        exact codeO_ne ps (Option.some.inj e2).symm
    · rw [upd_ne (Nat.ne_of_gt lt), upd_ne (Nat.ne_of_gt (Nat.lt_of_lt_of_le (Heap.lt_size objAt) grown))]
      exact J.hok.fresh grown
  · obtain ⟨d, e, code⟩ := names at_ cv found
    subst e
    refine PySem.W.kla_makeFunctionHit (mg := X.mg) (c := cc) (P := Z) (ps := ps) (closure_ok fr) J.ok.glob (J.mod.glob.keeps J.bk) hc (tb.code.keeps J.bk) objAt triples found bas ?_
    intro ct h' tk keep ge
    let lam := PySem.W.kla_obj "<lambda>" (X.env.qual ++ "<lambda>") pr bd sc (cloFrom X.env.cells sc.names []) ((X.mg "__name__").getD .none) d ct
    have J1 : Inv X pins σ H { s with heap := h'.push lam, toks := tk } := J.kept fun b o e => Heap.get?_push_of_some _ (keep b o e)
    exact go h'.objs.size d _ ct H _ J1 (fun _ _ _ e => e) tabs (Heap.get?_push_size _ rfl) (J.hok.fresh ge) (out _ ge) code
theorem pe_actS {CXg : CXT} {Eg : XK} {Ng : List Str} {qg : Str} {sg : Scope} {g f d : Addr} {cdg pm ct : Value} {pr : Arguments} {bd : Expr} {sc : Scope} {k i : Nat} {a : Str} {pn : List (Addr × Obj)} {xe : Value → Shared → Prop} {W : WX} {tb : XK → TE} {p1 p2 : Pos}
    (J : Inv X pins σ H s) (L : LamS X.env.scope sc) (hf : s.heap.get? f = some (PySem.W.kla_obj "<lambda>" (X.env.qual ++ "<lambda>") pr bd sc (cloFrom X.env.cells sc.names []) pm d ct)) (hfn : H f = none) (hfr : f ∉ frs X.stack)
    (bind : bindArgs (PySem.W.kla_fn "<lambda>" (X.env.qual ++ "<lambda>") pr bd sc (cloFrom X.env.cells sc.names []) pm (.ref d) ct) ⟨[], []⟩ = pure [])
    (tk : Takes ((cxOf CXg X.prog X.w X.K X.mg X.base Ng qg sg g cdg X.A X.stack s H Eg).tr pn xe) W) (hr : Room (k + 1) (X.A.deeper (envOfC qg sg s.heap.objs.size g cdg)))
    (body : ∀ (A : Around) (outer : List Env) (s : Shared) (H : Hp) (E : XK), Room k (A.deeper (lamEnv X sc s.heap.objs.size f d)) → PE (lamCx X A outer s H E sc f d) bd (tb E))
    (hN : Ng[i]? = some a) (hv : Vis sg a) (hd : (a == ("__debug__" : Str)) = false) (hcd : (a == ("__classdict__" : Str)) = false) :
    PE ((cxOf CXg X.prog X.w X.K X.mg X.base Ng qg sg g cdg X.A X.stack s H Eg).tr pn xe) (.Call (.Name a p1) [] [] p2)
      (fun σZ HZ Q => σZ[i]? = some (some (.ref f)) ∧ HZ d = some (CodeO d (X.env.qual ++ "<lambda>")) ∧ tb (WE W σZ) σ HZ Q) := by
  refine ⟨fun pinsZ sZ σZ HZ Q IZ h => wpAny_Call_Name_kw (thn ((pe_var (pos := p1) (i := i) hN hv hd hcd).run pinsZ sZ σZ HZ (fun v H1 => v = .ref f ∧ H1 = HZ) IZ ⟨.ref f, h.1, rfl, rfl⟩) fun u s1 z => ?_)⟩
  obtain ⟨v, H1, I1, r1, rfl, rfl⟩ := z
  obtain rfl : u = Value.ref f := r1
  have lam := I1.base.keep f _ hf hfn hfr (fun z => nomatch (show f ∈ ([] : List Addr) from z))
  obtain ⟨oc, vs, t, e1, e2, e3⟩ := (I1.hok d _ h.2.1).1
  have un : Un (frs X.stack) [] H H1 s.heap s1.heap := I1.base
  refine PySem.W.callWith_F0 ⟨_, _, _, _, lam⟩ (wpAny_call (codeAny_mono (?_ : codeAny _ (X.A.deeper (envOfC qg sg s.heap.objs.size g cdg)) (.call (.ref f) ⟨[], []⟩) (CR (L2.CX X.prog X.w) (envOfC qg sg s.heap.objs.size g cdg :: X.stack) X.prog X.w H1 s1 Q (WE W σZ)) s1) fun r s2 q => ?_))
  · refine PySem.W.kla_callFunE hr.depth lam rfl L.co L.gen rfl ⟨d, oc, vs, t, rfl, e1, e2, e3⟩ ?_
    rw [bind]
    refine wpAny_pure (wpAny_newFunctionEnv (fun y hy => (L.own y hy).2) (fun y hy => absurd hy (by simp)) (fun h₁ ns but => ⟨I1.nolimit.fresh _ but, ?_⟩) L.kind)
    show codeAny _ _ (.expr bd (lamEnv X sc s1.heap.objs.size f d)) _ _
    have J2 : Inv (lamCx X (X.A.deeper (envOfC qg sg s.heap.objs.size g cdg)) (envOfC qg sg s.heap.objs.size g cdg :: X.stack) s1 H1 (WE W σZ) sc f d) [] σ H1 { s1 with heap := h₁, toks := s1.toks + ([] : List (Str × Value)).length } :=
      lam_start2 J L I1.env0 hr.hd un ns fun b o e => but.extBut b o (Nat.ne_of_lt (Heap.lt_size e)) (Heap.get?_push_of_some _ e)
    refine PySem.W.kla_codeExpr (wpAny_mono ((body _ _ s1 H1 (WE W σZ) (hr.deeper _)).run [] _ _ H1 Q J2 h.2.2) (fun v s' q => ?_) fun _ _ q => q)
    obtain ⟨w', H', J', rv, q⟩ := q
    exact ⟨w', H', J'.os, J'.bare, J'.base, J'.hok, rv, q⟩
  · match r, q with
    | .error e, q => exact passAt tk σZ pinsZ H1 s1 e s2 I1 q
    | .ok (.ret u), q => exact I1.after q
    | .ok .next, q => exact False.elim q
    | .ok .brk, q => exact False.elim q
    | .ok .cont, q => exact False.elim q
def GivesS (X : Cx) (Ng : List Str) (x : Str) (sg : Scope) (g : Addr) (cdg : Value) (bg : List Stmt) (a : Str) (q : Str) (TT : (XK → Hp → VK → Prop) → Hp → VK → Prop) : Prop :=
  ∀ (f d : Addr) (s : Shared) (H : Hp) (Q : VK) (tl : XK → Hp → VK → Prop),
    (∀ (W : WX) (pn : List (Addr × Obj)) (xe : Value → Shared → Prop) (p1 p2 : Pos), Takes ((cxOf C8.CX0 X.prog X.w X.K X.mg X.base Ng x sg g cdg X.A X.stack s H C8.E0).tr pn xe) W →
      PE ((cxOf C8.CX0 X.prog X.w X.K X.mg X.base Ng x sg g cdg X.A X.stack s H C8.E0).tr pn xe) (.Call (.Name a p1) [] [] p2) (fun σZ HZ Q => σZ[0]? = some (some (.ref f)) ∧ HZ d = some (CodeO d q) ∧ tl (WE W σZ) HZ Q)) →
    H d = some (CodeO d q) → TT tl H Q →
    ∃ t, PSs (cxOf C8.CX0 X.prog X.w X.K X.mg X.base Ng x sg g cdg X.A X.stack s H C8.E0).nox bg t ∧ t { nx := fun _ H' => Q .non H', rt := Q } (L2.start Ng [.ref f]) H
def tLamP (T : List (Addr × Str)) (Z : Addr) (TT : (XK → Hp → VK → Prop) → Hp → VK → Prop) (t : XK → TE) : TE := fun σ H Q => Tabs T H ∧ ∀ H1, ExtP Z H H1 → Tabs T H1 → TT (fun E H' Q' => t E σ H' Q') H1 Q
end
section
variable {X : Cx}
theorem pe_lamP {T : List (Addr × Str)} {TT : (XK → Hp → VK → Prop) → Hp → VK → Prop} {x a : Str} {g cc Z : Addr} {fd : FuncData} {k : Nat} {pg : Arguments} {bg : List Stmt} {sg : Scope} {Ng : List Str}
    {pr : Arguments} {bd : Expr} {sc : Scope} {t : XK → TE} {p lp pos : Pos} (Fd : FunD X.K x x pg bg sg [] [] g fd) (hg : Gl X x) (hm : X.mg x = some (.ref g)) (hb : ∃ ds, Vals [] ds ∧ Binds X.K fd [a] ds) (Sg : FnScope Ng [a] sg) (hNg : Ng[0]? = some a) (hva : Vis sg a)
    (hG : ∀ cdv, GivesS X Ng x sg g cdv bg a (X.env.qual ++ "<lambda>") TT)
    (tb : TabB X.base X.mg cc Z) (hc : X.env.code = .ref cc) (mem : (Z, X.env.qual ++ "<lambda>") ∈ T) (one : ∀ p ∈ T, p.1 = Z → p.2 = X.env.qual ++ "<lambda>") (hr : Room (k + 2) X.A) (L : LamS X.env.scope sc) (df : defaultsOf pr X.env = ([], []))
    (bind : ∀ (q : Str) (cl : List (Str × Addr)) (pm cv ct : Value), bindArgs (PySem.W.kla_fn "<lambda>" q pr bd sc cl pm cv ct) ⟨[], []⟩ = pure [])
    (body : ∀ (A : Around) (outer : List Env) (s : Shared) (H : Hp) (E : XK) (f d : Addr), Room k (A.deeper (lamEnv X sc s.heap.objs.size f d)) → PE (lamCx X A outer s H E sc f d) bd (t E))
    (hdb : (x == ("__debug__" : Str)) = false := by decide) (hd : (a == ("__debug__" : Str)) = false := by decide) (hcd : (a == ("__classdict__" : Str)) = false := by decide) :
    PE X (.Call (.Name x p) [.Lambda pr bd sc lp] [] pos) (tLamP T Z TT t) := by
  obtain ⟨oc, od, dV, kV, doc, pm0, an, cdv, ct0, osl, rfl, lk, hcg, _, _⟩ := Fd.ex
  obtain ⟨ds, hds, hb⟩ := hb
  cases hds
  refine ⟨fun pins s σ H Q J h => ?_⟩
  refine wpAny_Call_Name_kw (ld_glob J hg hm ?_ hdb)
  refine PySem.W.callWith_K (h₀ := X.base) J.ok.mod.kin Fd.kp ?_ (by rfl) (by rfl)
  show wpAny _ _ (spliced ((false, eval (.Lambda pr bd sc lp) X.env) :: backTo pos (starEach [] X.env))) _ _ s
  refine Calls.spliced_cons (made J tb hc mem one h.1 df (L.has J.ok) fun f d pm ct H1 s1 J1 e1 T1 hf hfn hfr hco => ?_)
  refine Calls.spliced_nil ⟨J1.kIn, wpAny_call (codeAny_mono (?_ : codeAny _ _ _ (CR C8.CX0 X.stack X.prog X.w H1 s1 Q C8.E0) s1) fun r s2 hq => ?_)⟩
  · refine run_ofS (N := Ng) (ps := [a]) (us := [.ref f]) (vs := [.ref f]) lk hcg Sg hr J1.env0 (by have q := hb s1 [.ref f] J1.kIn rfl; simpa using q) (.cons rfl .nil) rfl fun hr2 => ?_
    have act := hG cdv f d s1 H1 Q (fun E H' Q' => t E σ H' Q') (fun W pn xe p1 p2 tk => pe_actS (i := 0) J1 L hf hfn hfr (bind _ _ _ _ _) tk hr2 (fun A outer s H E hr3 => body A outer s H E f d hr3) hNg hva hd hcd) hco (h.2 H1 e1 T1)
    obtain ⟨u, hu, hq⟩ := act
    exact ⟨u, hu.nox, hq⟩
  · match r, hq with
    | .error e, hq => exact (show False from hq).elim
    | .ok (.ret u), hq => exact J1.after hq
    | .ok .next, hq => exact False.elim hq
    | .ok .brk, hq => exact False.elim hq
    | .ok .cont, hq => exact False.elim hq
end
end LamY
namespace U
open PySem PySem.Spec PyProof.Rows L2 LamX LamY
def hdsL (K : PySem.W.Frag) (B : Bx) (hs : List Hd) : List (Value × Option Nat × (Addr → Value → Option Addr → TS)) := hs.map fun h => match h.i with
  | none => (.ref (He.ga K (Str.ofString h.c)), none, fun _ _ _ => tDS K B W0 h.s)
  | some i => (.ref (He.ga K (Str.ofString h.c)), some i, fun a cls d => tDS K (B.1, some (a, cls, d)) W0 h.s)
theorem hdsL_ok {K : PySem.W.Frag} {B : Bx} : ∀ hs : List Hd, HdOk K B hs (hdsL K B hs)
  | [] => .nil
  | ⟨_, none, _⟩ :: hs => .plain rfl (hdsL_ok hs)
  | ⟨_, some _, _⟩ :: hs => .named rfl (hdsL_ok hs)
def endsQ (Q : VK) : Ends := { nx := fun _ H' => Q .non H', rt := Q }
def TTh (K : PySem.W.Frag) (m : Nat) (hs : List Hd) : (XK → Hp → VK → Prop) → Hp → VK → Prop := fun tl H Q =>
  ∀ f : Addr, tl (fun cls d H' => wX K W0 (endsQ Q) (hdsL K ([], none) hs) cls d (some (.ref f) :: List.replicate m none) H') H Q
theorem gives_try {X : Cx} {Ng : List Str} {x a q : Str} {sg : Scope} {g : Addr} {cdg : Value} {m : Nat} {hs : List Hd} {h₀ : ExceptHandler} {hds : List ExceptHandler} {p1 p2 p3 p4 : Pos} (hN : Ng.Nodup) (st : ∀ f : Addr, L2.start Ng [V.ref f] = some (.ref f) :: List.replicate m none)
    (hh : ∀ (s : Shared) (H : Hp), HdX (cxOf C8.CX0 X.prog X.w X.K X.mg X.base Ng x sg g cdg X.A X.stack s H C8.E0).nox (h₀ :: hds) (hdsL X.K ([], none) hs)) :
    GivesS X Ng x sg g cdg [.Try [.Return (some (.Call (.Name a p1) [] [] p2)) p3] (h₀ :: hds) [] [] p4] a q (TTh X.K m hs) := by
  intro f d s H Q tl act hc h
  refine ⟨_, pss_one (ps_tryX (X := (cxOf C8.CX0 X.prog X.w X.K X.mg X.base Ng x sg g cdg X.A X.stack s H C8.E0).nox) (Wout := W0) (u := tNext)
    (tb := fun W D σ H => σ[0]? = some (some (.ref f)) ∧ H d = some (CodeO d q) ∧ tl (WE W σ) H D.rt)
    rfl rfl hN L2.takes0 (fun W pn xe tk _ => ?_) (hh s H) pss_nil), ?_⟩
  · exact pss_one (ps_ret (pos := p3) (act W pn xe p1 p2 tk))
  · have z := h f
    rw [← st f] at z
    exact ⟨by rw [st f]; rfl, hc, z⟩
def eTold (t : Tb) (m : Nat) (hs : List Hd) (f : E) : E := fun ρ => match f ρ with
  | .ok d ρ1 => lift (frzD d) ρ1
  | .exc x ρ1 => (match catch_ t x (none :: List.replicate m none) hs with
    | .rt d _ => lift (frzD d) ρ1
    | _ => .bad)
  | .bad => .bad
section
variable {K : PySem.W.Frag} {T : Tb4} {B : Bx} {F F' : Fz} {H H' : Hp} {W : WX}
theorem catch_wX {t : Tb} {hs : List Hd} {l : List (Value × Option Nat × (Addr → Value → Option Addr → TS))} (ht : TbOk K t) (hh : HdOk K B hs l) (D : Ends) {x : Ex} {cls : Value} {dd : Option Addr} {σ : L2.St} {ρ : Env} {A : List Addr} (r1 : Rep K F H B σ ρ A) (xv : XV K F H x cls dd)
    (h2 : send K B W D σ A F H (catch_ t x ρ hs)) : wX K W D l cls dd σ H := by
  induction hh with
  | nil =>
    simp only [catch_] at h2
    exact h2 cls dd σ F H A r1 xv Step.refl rfl
  | @plain c C s hs l hC r ih =>
    simp only [catch_] at h2
    cases et : t.at x.cls c with
    | none => rw [et] at h2; exact h2.elim
    | some bb =>
      rw [et] at h2
      refine ⟨bb, by rw [hC, xv.1]; exact ht.at et, fun eb a ha => ?_, fun eb => ?_⟩
      · subst eb
        simp only at h2
        refine ⟨F, ρ, A, r1, ?_⟩
        cases es : s ρ <;> rw [es] at h2 <;> first | exact h2 | exact h2.elim
      · subst eb
        exact ih h2
  | @named c C i s hs l hC r ih =>
    simp only [catch_] at h2
    cases et : t.at x.cls c with
    | none => rw [et] at h2; exact h2.elim
    | some bb =>
      rw [et] at h2
      refine ⟨bb, by rw [hC, xv.1]; exact ht.at et, fun eb a ha => ?_, fun eb => ?_⟩
      · subst eb
        simp only at h2
        cases ep : U.put i (.exn x.cls x.ns x.ds) ρ with
        | none => rw [ep] at h2; exact h2.elim
        | some ρ3 =>
          rw [ep] at h2
          simp only at h2
          by_cases hn : noExn ρ = true
          case neg => rw [if_neg hn] at h2; exact h2.elim
          case pos =>
            rw [if_pos hn] at h2
            obtain ⟨A3, r3, s3⟩ := r1.putX (a := a) hn xv ep
            have st : Step A F H A3 F H := Step.refl.sub s3
            refine ⟨F, ρ3, A3, r3, ?_⟩
            have back : ∀ {σ' : L2.St} {ρ' : Env} {F' : Fz} {H' : Hp} {A' : List Addr}, Rep K F' H' (B.1, some (a, cls, dd)) σ' ρ' A' → noExn (ρ'.set i none) = true → ∃ A4, Rep K F' H' B (σ'.set i none) (ρ'.set i none) A4 ∧ ∀ b ∈ A4, b ∈ A' := fun r' hn' => by
              obtain ⟨A4, r4, s4⟩ := r'.unset (i := i)
              exact ⟨A4, Rep.exn (B := (B.1, some (a, cls, dd))) B.2 hn' r4, s4⟩
            cases es : s ρ3 with
            | ex x2 ρ2 => rw [es] at h2; exact h2.elim
            | bad => rw [es] at h2; exact h2
            | nx ρ2 =>
              rw [es] at h2
              simp only [Fl.unset] at h2
              by_cases hn2 : noExn (ρ2.set i none) = true
              case neg => rw [if_neg hn2] at h2; exact h2.elim
              case pos =>
                rw [if_pos hn2] at h2
                intro σ4 F4 H4 A4 r4 s4 l4
                obtain ⟨A5, r5, s5⟩ := back r4 hn2
                exact h2 _ F4 H4 A5 r5 ((st.trans s4).sub s5) (by simpa using l4)
            | bk ρ2 =>
              rw [es] at h2
              simp only [Fl.unset] at h2
              by_cases hn2 : noExn (ρ2.set i none) = true
              case neg => rw [if_neg hn2] at h2; exact h2.elim
              case pos =>
                rw [if_pos hn2] at h2
                intro σ4 F4 H4 A4 r4 s4 l4
                obtain ⟨A5, r5, s5⟩ := back r4 hn2
                exact h2 _ F4 H4 A5 r5 ((st.trans s4).sub s5) (by simpa using l4)
            | ct ρ2 =>
              rw [es] at h2
              simp only [Fl.unset] at h2
              by_cases hn2 : noExn (ρ2.set i none) = true
              case neg => rw [if_neg hn2] at h2; exact h2.elim
              case pos =>
                rw [if_pos hn2] at h2
                intro σ4 F4 H4 A4 r4 s4 l4
                obtain ⟨A5, r5, s5⟩ := back r4 hn2
                exact h2 _ F4 H4 A5 r5 ((st.trans s4).sub s5) (by simpa using l4)
            | rt d ρ2 =>
              rw [es] at h2
              simp only [Fl.unset] at h2
              by_cases hn2 : noExn (ρ2.set i none) = true
              case neg => rw [if_neg hn2] at h2; exact h2.elim
              case pos =>
                rw [if_pos hn2] at h2
                intro v σ4 F4 H4 A4 Ar r4 o4 nd4 nf4 s4 l4
                obtain ⟨A5, r5, s5⟩ := back r4 hn2
                simp only [List.nodup_append] at nd4
                refine h2 v _ F4 H4 A5 Ar r5 o4 ?_ nf4 ((st.trans s4).sub fun z hz => ?_) (by simpa using l4)
                · simp only [List.nodup_append]
                  exact ⟨r5.nd, nd4.2.1, fun p hp q hq => nd4.2.2 p (s5 p hp) q hq⟩
                · rcases List.mem_append.mp hz with q | q
                  · exact List.mem_append_left _ (s5 z q)
                  · exact List.mem_append_right _ q
      · subst eb
        exact ih h2
theorem w_told {Z : Addr} {t : Tb} {m : Nat} {hs : List Hd} {f : E} (ht : TbOk K t) (hZ : Z ∈ T.map (·.1)) (σ : L2.St) (H : Hp) (Q : VK) (h : tLE K T B W (eTold t m hs f) σ H Q) :
    tLamP T Z (TTh K m hs) (fun E => tDM K B (fun cls d _ H => E cls d H) f) σ H Q := by
  obtain ⟨F, ρ, A, rp, h⟩ := h
  obtain ⟨A0, r0, rfl⟩ := rp.rep
  have nd := rp.nd
  simp only [List.nodup_append] at nd
  refine ⟨rp.tabs, fun H1 eP T1 fa => ?_⟩
  have keepF : ∀ a o, F a → H a = some o → H1 a = some o := fun a o fa e => eP a o (fun z => rp.nf Z (List.mem_append_right _ hZ) (z ▸ fa)) e
  have keepA : ∀ a o, a ∈ A0 → H a = some o → H1 a = some o := fun a o ha e => eP a o (fun z => nd.2.2 a ha Z hZ z) e
  have r1 : Rep K F H1 B σ ρ A0 := ⟨r0.sl.stay (fun _ h => h) fun a o ha e => ha.elim (fun z => keepF a o z e) (fun z => keepA a o z e), r0.nd, r0.nf, fun a ha => (r0.dm a ha).imp fun o e => keepF a o ha e⟩
  have st1 : Step (A0 ++ T.map (·.1)) F H (A0 ++ T.map (·.1)) F H1 := ⟨fun _ h => h, fun a o e n => eP a o (fun z => n (List.mem_append_right _ (z ▸ hZ))) e, fun _ h => .inl h, fun _ h => .inl h⟩
  have rp1 : RepT K T F H1 B σ ρ (A0 ++ T.map (·.1)) := ⟨⟨A0, r1, rfl⟩, rp.nd, rp.nf, r1.dm, T1⟩
  refine ⟨F, ρ, A0, r1, ?_⟩
  unfold eTold at h
  -- an answer is given up
  have fin : ∀ {d : D} {ρ1 : Env} {v : V} {F2 : Fz} {H2 : Hp} {A2 Ar : List Addr}, RepT K T F2 H2 B σ ρ1 (A2 ++ T.map (·.1)) → OV K F2 H2 v d Ar → ((A2 ++ T.map (·.1)) ++ Ar).Nodup → (∀ a ∈ Ar, ¬ F2 a) → Step (A0 ++ T.map (·.1)) F H1 ((A2 ++ T.map (·.1)) ++ Ar) F2 H2 →
      (match lift (frzD d) ρ1 with
        | .ok d ρ' => ∀ v F' H' A', RepT K T F' H' B σ ρ' A' → RV K F' H' v d → Step (A0 ++ T.map (·.1)) F H A' F' H' → Q v H'
        | .exc x ρ' => xendLE K T B W σ (A0 ++ T.map (·.1)) F H x ρ'
        | .bad => False) → Q v H2 := fun {d ρ1 v F2 H2 A2 Ar} r o n nf s h => by
    obtain ⟨d', ed, h⟩ := ok_inv h
    obtain ⟨A3, r3, e3⟩ := r.rep
    have e3 := List.append_inj_left' e3 rfl
    subst e3
    simp only [List.nodup_append] at n
    obtain ⟨F3, m1, m2, m3, m4⟩ := frz_ov r3 o (by
      simp only [List.nodup_append]
      exact ⟨r3.nd, n.2.1, fun a ha b hb => n.2.2 a (List.mem_append_left _ ha) b hb⟩) ed
    have nf3 : ∀ a ∈ A2 ++ T.map (·.1), ¬ F3 a := fun a ha z => by
      rcases m2 a z with q | q
      · exact r.nf a ha q
      · exact n.2.2 a ha a q rfl
    refine h v F3 H2 _ ⟨⟨A2, ⟨r3.sl.stay m1 fun _ _ _ e => e, r3.nd, fun a ha => nf3 a (List.mem_append_left _ ha), m4⟩, rfl⟩, r.nd, nf3, m4, r.tabs⟩ m3 ?_
    refine st1.trans ⟨fun a z => m1 a (s.mono a z), s.keep, fun a z => ?_, fun a ha => s.own a (List.mem_append_left _ ha)⟩
    rcases m2 a z with q | q
    · exact s.froz a q
    · rcases s.own a (List.mem_append_right _ q) with w | w
      · exact .inr (.inr w)
      · exact .inr (.inl w)
  cases e : f ρ with
  | bad => rw [e] at h; exact h
  | ok d ρ1 =>
    rw [e] at h
    intro v F' H' A' Ar r2 ov nda nf s2
    obtain ⟨x1, x2, x3⟩ := lift_r rp1 r2 ov nda s2
    exact fin x1 ov x2 nf x3 h
  | exc x ρ1 =>
    rw [e] at h
    simp only at h
    intro cls dd F' H' A' r2 xv s2
    have rp2 : RepT K T F' H' B σ ρ1 (A' ++ T.map (·.1)) := rp1.step r2 s2
    have sT : Step (A0 ++ T.map (·.1)) F H1 (A' ++ T.map (·.1)) F' H' := s2.withT
    have rc : Rep K F' H' ([], none) (some (.ref fa) :: List.replicate m none) (none :: List.replicate m none) [] :=
      ⟨by simp only [OVS]; exact ⟨[], [], by simp only [OVo], OVS.nones m, rfl⟩, List.nodup_nil, (fun a ha => by cases ha), r2.dm⟩
    refine catch_wX ht (hdsL_ok hs) (endsQ Q) rc xv ?_
    cases ec : catch_ t x (none :: List.replicate m none) hs with
    | rt d ρ2 =>
      rw [ec] at h
      intro v σ' F2 H2 A2 Ar r3 ov nda nf s3 _
      have keep : ∀ a o, H' a = some o → H2 a = some o := fun a o e => s3.keep a o e (by simp)
      have ths := rp2.there
      have nf2 : ∀ a ∈ A' ++ T.map (·.1), ¬ F2 a := fun a ha z => by
        obtain ⟨o, eo⟩ := ths a ha
        rcases s3.froz a z with q | q | q
        · exact rp2.nf a ha q
        · rw [eo] at q; cases q
        · cases q
      have rp3 : RepT K T F2 H2 B σ ρ1 (A' ++ T.map (·.1)) := ⟨⟨A', ⟨r2.sl.stay s3.mono fun a o _ e => keep a o e, r2.nd, fun a ha => nf2 a (List.mem_append_left _ ha), r3.dm⟩, rfl⟩, rp2.nd, nf2, r3.dm, rp2.tabs.ext keep⟩
      have newA : ∀ a ∈ Ar, H' a = none := fun a ha => by
        rcases s3.own a (List.mem_append_right _ ha) with q | q
        · cases q
        · exact q
      simp only [List.nodup_append] at nda
      refine fin rp3 ov ?_ nf (sT.trans ⟨s3.mono, fun a o e _ => keep a o e, fun a z => ?_, fun a ha => ?_⟩) h
      · rw [List.nodup_append]
        refine ⟨rp2.nd, nda.2.1, fun a ha b hb z => ?_⟩
        subst z
        obtain ⟨o, eo⟩ := ths a ha
        rw [newA a hb] at eo; cases eo
      · rcases s3.froz a z with q | q | q
        · exact .inl q
        · exact .inr (.inl q)
        · cases q
      · exact (List.mem_append.mp ha).imp id (newA a)
    | nx ρ2 => rw [ec] at h; exact h.elim
    | bk ρ2 => rw [ec] at h; exact h.elim
    | ct ρ2 => rw [ec] at h; exact h.elim
    | ex x2 ρ2 => rw [ec] at h; exact h.elim
    | bad => rw [ec] at h; exact h.elim
end
end U
namespace TK
open PySem PySem.W PySem.Calls PyProof.Rows PySem.Spec L2
theorem fnT_okC {T : Nat} {P : Program} {w : World} {K : Frag} {mg : Str → Option Value} {base : Heap} {CX : CXT} {k : Nat} {f c : Addr} {fd : FuncData} {N ps : List Str} {sp : Sp} {x qual : Str} {params : Arguments} {body : List Stmt} {scope : Scope} {dvs : List V} {kws : List (Str × V)}
    (Fd : FunD K x qual params body scope dvs kws f fd) (hc : fd.code = .ref c) (S : FnScope N ps scope) (len : ∀ vs H Q E, sp vs H Q E → vs.length = ps.length)
    (hbody : ∀ (A : Around) (outer : List PySem.Env) (s : Shared) (H : Hp) (vs : List V) (Q : VK) (E : XK), A.guards = some [] → Room k (A.deeper (envOfC qual scope s.heap.objs.size f (.ref c))) → sp vs H Q E →
      ∃ t, JSs T (cxOf CX P w K mg base N qual scope f (.ref c) A outer s H E) body t ∧ t { nx := fun _ H' => Q .non H', rt := Q } (start N vs) H) : FnT T P w K mg base CX (k + 1) f fd ps sp := by
  obtain ⟨oc, od, dV, kV, doc, pm, an, cdv, ct, osl, rfl, lk, hcd, _, _⟩ := Fd.ex
  obtain rfl : cdv = .ref c := hc
  refine ⟨len, fun A outer s H args us vs Q E hT hG hr e0 hb r hsp => ?_⟩
  have hl := len _ _ _ _ hsp
  have KX : K.In s.heap := e0.mod.kin.keeps fun b o e => (e0.bs b o e).1
  have lim : s.heap.NoLimit := e0.mod.nolimit.keeps fun b o e => (e0.bs b o e).1
  have kinds : ∀ y ∈ ps.zip us, scope.names.lookup y.1 = some .local ∨ (scope.names.lookup y.1 = some .cell ∧ ((cellsFrom (s.heap.objs.size + 1) scope.names []).lookup y.1).isSome = true) := fun y hy => by
    rcases S.par y.1 (List.of_mem_zip hy).1 with q | q
    · exact .inl q
    · exact .inr ⟨q, PySem.W.cellsFrom_some _ _ _ (.inl q)⟩
  refine codeAny_call_function hr.depth (KX _ _ lk) rfl S.co S.gen rfl (PySem.W.codeRec_of KX hcd) (hb _ _ _ _ ?_)
  refine on hT (wpAny_newFunctionEnv_cells (Q := fun env s1 => env = envOfC qual scope s.heap.objs.size f (.ref c) ∧ InCallC s _ _ _ _ s1) S.kind kinds fun env he s1 x => ⟨he, x⟩) fun env s1 n1 z => ?_
  obtain ⟨rfl, x⟩ := z
  refine ⟨lim.keeps x.toInCall.keep, codeAny_func ?_⟩
  obtain ⟨t, ht, hq⟩ := hbody A outer s H vs Q E hG (hr.deeper _) hsp
  have I : Inv (cxOf CX P w K mg base N qual scope f (.ref c) A outer s H E) [] (start N vs) H s1 := inv_start S hr.hd e0 hl r x
  refine thn (ht.run [] s1 (start N vs) H _ n1 I hq) fun fl s' hs => ?_
  match fl, hs with
  | .ret u, ⟨v, σ', H', J, rv, q⟩ => exact ⟨v, H', J.os, J.bare, J.base, J.hok, rv, q⟩
  | .next, ⟨σ', H', J, q⟩ => exact ⟨.non, H', J.os, J.bare, J.base, J.hok, rfl, q⟩
  | .brk, ⟨_, _, _, q⟩ => exact q.elim
  | .cont, ⟨_, _, _, q⟩ => exact q.elim
end TK
namespace U
open PySem PySem.Spec PyProof.Rows L2 TK
def spL (K : PySem.W.Frag) (T : Tb4) (f : Fn) : Sp := fun vs H Q E => ∃ (F : Fz) (ds : List D) (A : List Addr) (B : Bx), OVps K F H B vs ds A ∧ (A ++ T.map (·.1)).Nodup ∧ (∀ a ∈ A ++ T.map (·.1), ¬ F a) ∧ (∀ a, F a → ∃ o, H a = some o) ∧ LamX.Tabs T H ∧ match f ds with
  | .ok d o => ∀ v F' H' σ' A' Ar, OVS K F' H' B σ' o A' → ((A' ++ T.map (·.1)) ++ Ar).Nodup → (∀ a ∈ (A' ++ T.map (·.1)) ++ Ar, ¬ F' a) → (∀ a, F' a → ∃ o, H' a = some o) → LamX.Tabs T H' → OV K F' H' v d Ar → Step (A ++ T.map (·.1)) F H ((A' ++ T.map (·.1)) ++ Ar) F' H' → Q v H'
  | .exc x o => ∀ cls dd F' H' σ' A', OVS K F' H' B σ' o A' → (A' ++ T.map (·.1)).Nodup → (∀ a ∈ A' ++ T.map (·.1), ¬ F' a) → (∀ a, F' a → ∃ o, H' a = some o) → LamX.Tabs T H' → XV K F' H' x cls dd → Step (A ++ T.map (·.1)) F H (A' ++ T.map (·.1)) F' H' → E cls dd H'
  | .bad => False
section
variable {K : PySem.W.Frag} {T : Tb4} {B : Bx} {F F' : Fz} {H H' : Hp} {W : WX}
theorem spL_body {b : U.St} {n m : Nat} {N ps : List Str} {vs : List V} {Q : VK} {E : XK} (hn : ps.length = n) (hN : N.length = n + m) (h : spL K T (fnOf n m b) vs H Q E) :
    ∃ B : Bx, tLS K T B (fun cls d _ H => E cls d H) b { nx := fun _ H' => Q .non H', rt := Q } (L2.start N vs) H := by
  obtain ⟨F, ds, A', B, o, nd, nf, dm, tb, h⟩ := h
  refine ⟨B, ?_⟩
  unfold fnOf at h
  by_cases c : ds.length = n
  case neg => rw [if_neg c] at h; exact h.elim
  case pos =>
    rw [if_pos c] at h
    have hl := o.len
    have es : L2.start N vs = vs.map some ++ List.replicate m none := by
      unfold L2.start
      rw [hN, hl, c, Nat.add_sub_cancel_left]
    have nd0 := nd
    simp only [List.nodup_append] at nd0
    refine ⟨F, ds.map some ++ List.replicate m none, A' ++ T.map (·.1), ⟨⟨A', ⟨by rw [es]; exact o.start m, nd0.1, fun a ha => nf a (List.mem_append_left _ ha), dm⟩, rfl⟩, nd, nf, dm, tb⟩, ?_⟩
    have fin : ∀ {ρ : Env} {σ' : L2.St} {F' : Fz} {H' : Hp} {A2 : List Addr}, RepT K T F' H' B σ' ρ A2 → ∃ A3 A4, A2 = (A3 ++ A4) ++ T.map (·.1) ∧ OVS K F' H' B (σ'.take n) (ρ.take n) A3 := fun r => by
      obtain ⟨A0, r0, e⟩ := r.rep
      obtain ⟨A3, A4, e2, o3⟩ := r0.sl.take n
      exact ⟨A3, A4, by rw [e, e2], o3⟩
    cases e : b (ds.map some ++ List.replicate m none) with
    | bad => rw [e] at h; exact h
    | bk ρ => rw [e] at h; exact h.elim
    | ct ρ => rw [e] at h; exact h.elim
    | nx ρ =>
      rw [e] at h
      intro σ' F' H' A2 r st _
      obtain ⟨A3, A4, rfl, o3⟩ := fin r
      have nd' := r.nd
      simp only [List.nodup_append, List.mem_append] at nd'
      refine h .non F' H' _ A3 [] o3 ?_ (fun a ha => r.nf a ?_) r.dm r.tabs (by simp only [OV, RV]; exact ⟨trivial, trivial⟩) (st.sub fun a ha => ?_)
      · simp only [List.append_nil, List.nodup_append]
        exact ⟨nd'.1.1, nd'.2.1, fun a ha b hb => nd'.2.2 a (.inl ha) b hb⟩
      · simp only [List.append_nil, List.mem_append] at ha ⊢
        exact ha.elim (fun z => .inl (.inl z)) .inr
      · simp only [List.append_nil, List.mem_append] at ha ⊢
        exact ha.elim (fun z => .inl (.inl z)) .inr
    | rt d ρ =>
      rw [e] at h
      intro v σ' F' H' A2 Ar r ov nda nfa st _
      obtain ⟨A3, A4, rfl, o3⟩ := fin r
      simp only [List.nodup_append, List.mem_append] at nda
      refine h v F' H' _ A3 Ar o3 ?_ (fun a ha => ?_) r.dm r.tabs ov (st.sub fun a ha => ?_)
      · simp only [List.nodup_append, List.mem_append]
        exact ⟨⟨nda.1.1.1, nda.1.2.1, fun a ha b hb => nda.1.2.2 a (.inl ha) b hb⟩, nda.2.1, fun a ha b hb => nda.2.2 a (ha.elim (fun z => .inl (.inl z)) .inr) b hb⟩
      · simp only [List.mem_append] at ha
        rcases ha with (z | z) | z
        · exact r.nf a (List.mem_append_left _ (List.mem_append_left _ z))
        · exact r.nf a (List.mem_append_right _ z)
        · exact nfa a z
      · simp only [List.mem_append] at ha ⊢
        rcases ha with (z | z) | z
        · exact .inl (.inl (.inl z))
        · exact .inl (.inr z)
        · exact .inr z
    | ex x ρ =>
      rw [e] at h
      intro cls dd σ' F' H' A2 r xv st _
      obtain ⟨A3, A4, rfl, o3⟩ := fin r
      have nd' := r.nd
      simp only [List.nodup_append, List.mem_append] at nd'
      refine h cls dd F' H' _ A3 o3 ?_ (fun a ha => r.nf a ?_) r.dm r.tabs xv (st.sub fun a ha => ?_)
      · simp only [List.nodup_append]
        exact ⟨nd'.1.1, nd'.2.1, fun a ha b hb => nd'.2.2 a (.inl ha) b hb⟩
      · simp only [List.mem_append] at ha ⊢
        exact ha.elim (fun z => .inl (.inl z)) .inr
      · simp only [List.mem_append] at ha ⊢
        exact ha.elim (fun z => .inl (.inl z)) .inr
theorem fn_okL {N0 : Nat} {P : Program} {w : World} {mg : Str → Option Value} {base : Heap} {x qual : Str} {params : Arguments} {body : List Stmt} {scope : Scope} {dvs : List V} {kws : List (Str × V)} {f c : Addr} {fd : FuncData} {N ps : List Str} {k n m : Nat} {b : U.St}
    (Fd : FunD K x qual params body scope dvs kws f fd) (hc : fd.code = .ref c) (S : FnScope N ps scope) (hn : ps.length = n) (hN : N.length = n + m)
    (hb : ∀ (A : Around) (outer : List PySem.Env) (s : Shared) (H : Hp) (E : XK) (B : Bx), A.guards = some [] → Room k (A.deeper (envOfC qual scope s.heap.objs.size f (.ref c))) →
      JSs N0 (cxOf (L2.CX P w) P w K mg base N qual scope f (.ref c) A outer s H E) body (tLS K T B (fun cls d _ H => E cls d H) b)) : FnT N0 P w K mg base (L2.CX P w) (k + 1) f fd ps (spL K T (fnOf n m b)) := by
  refine fnT_okC Fd hc S (fun vs H Q E h => ?_) fun A outer s H vs Q E hG hr h => ?_
  · obtain ⟨F, ds, A, B, o, nd, nf, dm, tb, h⟩ := h
    unfold fnOf at h
    by_cases c : ds.length = n
    · rw [o.len, c, hn]
    · rw [if_neg c] at h; exact h.elim
  · obtain ⟨B, q⟩ := spL_body (N := N) hn hN h
    exact ⟨_, hb A outer s H E B hG hr, q⟩
theorem w_callL {f : Fn} {g : List Ag} {dd : List D} {dvs : List V} (hd : ∀ F H, RVs K F H dvs dd) (σ : L2.St) (H : Hp) (Q : VK) (h : tLM K T B W (eCall f g dd) σ H Q) : tCallSD (spL K T f) dvs (WE W) (tDG K B W g) σ H Q := by
  obtain ⟨F, ρ, A, rp, h⟩ := h
  obtain ⟨A0, r0, rfl⟩ := rp.rep
  refine ⟨F, ρ, A0, r0, ?_⟩
  unfold eCall at h
  cases e1 : evAg g ρ with
  | bad => rw [e1] at h; exact h
  | exc x ρ1 => rw [e1] at h; exact lift_x rp h
  | ok l ρ1 =>
    rw [e1] at h
    simp only at h
    intro vs F1 H1 A1 r1 av s1
    have rp1 := rp.step r1 s1
    have s1T : Step (A0 ++ T.map (·.1)) F H (A1 ++ T.map (·.1)) F1 H1 := s1.withT
    have ndT := rp1.nd
    simp only [List.nodup_append] at ndT
    cases e2 : hand ρ1 0 l with
    | none => rw [e2] at h; exact h.elim
    | some ds =>
      rw [e2] at h
      simp only at h
      by_cases hn : (lent l).Nodup
      case neg => rw [if_neg hn] at h; exact h.elim
      case pos =>
        rw [if_pos hn] at h
        obtain ⟨Bs, Ac, Ao, b1, b2, b3, b4, b5⟩ := lend r1 hn (fun _ _ => rfl) av e2
        obtain ⟨c1, c2⟩ := b2 (Bs, none) fun k a hk => by simpa using hk
        have nd := b4
        simp only [List.nodup_append] at nd
        have cT : ∀ a ∈ Ac, a ∈ A1 := fun a ha => b5 a (List.mem_append_left _ ha)
        have oT : ∀ a ∈ Ao, a ∈ A1 := fun a ha => b5 a (List.mem_append_right _ ha)
        refine ⟨F1, ds ++ dd, Ac, (Bs, none), c1.snocP (hd F1 H1), ?_, fun a ha => rp1.nf a ?_, r1.dm, rp1.tabs, ?_⟩
        · simp only [List.nodup_append]
          exact ⟨nd.1, ndT.2.1, fun a ha b hb => ndT.2.2 a (cT a ha) b hb⟩
        · simp only [List.mem_append] at ha ⊢
          exact ha.imp (cT a) id
        have out : ∀ a ∈ Ao, a ∉ Ac ++ T.map (·.1) := fun a ha z => by
          rcases List.mem_append.mp z with z | z
          · exact nd.2.2 a z a ha rfl
          · exact ndT.2.2 a (oT a ha) a z rfl
        have stay : ∀ {F2 : Fz} {H2 : Hp} {A' : List Addr}, Step (Ac ++ T.map (·.1)) F1 H1 A' F2 H2 → (∀ a, F2 a → ∃ o, H2 a = some o) → (∀ a ∈ A', ¬ F2 a) → A'.Nodup → Rep K F2 H2 B σ (outs l ρ1) Ao ∧ (A' ++ Ao).Nodup := fun {F2 H2 A'} s dm nf n => by
          refine ⟨⟨b3.sl.stay s.mono fun a o ha e => s.keep a o e fun z => ?_, b3.nd, fun a ha f => ?_, dm⟩, ?_⟩
          · rcases ha with ha | ha
            · refine rp1.nf a ?_ ha
              simp only [List.mem_append] at z ⊢
              exact z.imp (cT a) id
            · exact out a ha z
          · rcases s.froz a f with q | q | q
            · exact b3.nf a ha q
            · obtain ⟨o, e⟩ := b3.sl.there a ha
              rw [q] at e; cases e
            · exact out a ha q
          · simp only [List.nodup_append]
            refine ⟨n, b3.nd, fun a ha b hb z => ?_⟩
            subst z
            rcases s.own a ha with q | q
            · exact out a hb q
            · obtain ⟨o, e⟩ := b3.sl.there a hb
              rw [q] at e; cases e
        have whole : ∀ {F2 : Fz} {H2 : Hp} {A' A2 : List Addr}, Step (Ac ++ T.map (·.1)) F1 H1 A' F2 H2 → (∀ x ∈ A2, x ∈ A' ++ Ao) → Step (A1 ++ T.map (·.1)) F1 H1 A2 F2 H2 := fun {F2 H2 A' A2} s sub => by
          have inA : ∀ a, a ∈ Ac ++ T.map (·.1) → a ∈ A1 ++ T.map (·.1) := fun a z => by
            simp only [List.mem_append] at z ⊢
            exact z.imp (cT a) id
          refine ⟨s.mono, fun a o e n => s.keep a o e fun z => n (inA a z), fun a ha => ?_, fun a ha => ?_⟩
          · rcases s.froz a ha with q | q | q
            · exact .inl q
            · exact .inr (.inl q)
            · exact .inr (.inr (inA a q))
          · rcases List.mem_append.mp (sub a ha) with q | q
            · rcases s.own a q with z | z
              · exact .inl (inA a z)
              · exact .inr z
            · exact .inl (List.mem_append_left _ (oT a q))
        cases e3 : f (ds ++ dd) with
        | bad => rw [e3] at h; exact h
        | exc x o =>
          rw [e3] at h
          simp only at h
          intro cls d2 F2 H2 σ2 A2 o2 n2 nf2 dm2 tb2 xv s2
          cases e4 : back 0 l o ρ1 with
          | none => rw [e4] at h; exact h.elim
          | some ρ2 =>
            rw [e4] at h
            obtain ⟨k1, k2⟩ := stay s2 dm2 nf2 n2
            have k3 := k2
            simp only [List.nodup_append, List.mem_append] at k3
            obtain ⟨A3, r3, s3⟩ := regain k1 hn c2 (fun _ _ => rfl) o2 e4 (by
              simp only [List.nodup_append]
              exact ⟨k3.1.1, k3.2.1, fun a ha b hb => k3.2.2 a (.inl ha) b hb⟩) (fun a ha => nf2 a (List.mem_append_left _ ha))
            have w2 : ∀ x ∈ A3 ++ T.map (·.1), x ∈ (A2 ++ T.map (·.1)) ++ Ao := fun x hx => by
              simp only [List.mem_append] at hx ⊢
              rcases hx with hx | hx
              · rcases List.mem_append.mp (s3 x hx) with z | z
                · exact .inl (.inl z)
                · exact .inr z
              · exact .inl (.inr hx)
            refine h cls d2 F2 H2 (A3 ++ T.map (·.1)) ⟨⟨A3, r3, rfl⟩, ?_, fun a ha => ?_, dm2, tb2⟩ xv (s1T.trans (whole s2 w2))
            · simp only [List.nodup_append]
              refine ⟨r3.nd, k3.1.2.1, fun a ha b hb => ?_⟩
              rcases List.mem_append.mp (s3 a ha) with z | z
              · exact k3.1.2.2 a z b hb
              · exact fun q => k3.2.2 b (.inr hb) a z q.symm
            · rcases List.mem_append.mp ha with z | z
              · exact r3.nf a z
              · exact nf2 a (List.mem_append_right _ z)
        | ok d o =>
          rw [e3] at h
          simp only at h
          intro v F2 H2 σ2 A2 Ar o2 n2 nf2 dm2 tb2 ov s2
          cases e4 : back 0 l o ρ1 with
          | none => rw [e4] at h; exact h.elim
          | some ρ2 =>
            rw [e4] at h
            obtain ⟨k1, k2⟩ := stay s2 dm2 nf2 n2
            have k3 := k2
            simp only [List.nodup_append, List.mem_append] at k3
            obtain ⟨A3, r3, s3⟩ := regain k1 hn c2 (fun _ _ => rfl) o2 e4 (by
              simp only [List.nodup_append]
              exact ⟨k3.1.1.1, k3.2.1, fun a ha b hb => k3.2.2 a (.inl (.inl ha)) b hb⟩) (fun a ha => nf2 a (List.mem_append_left _ (List.mem_append_left _ ha)))
            refine h v F2 H2 (A3 ++ T.map (·.1)) Ar ⟨⟨A3, r3, rfl⟩, ?_, fun a ha => ?_, dm2, tb2⟩ ov ?_ (fun a ha => nf2 a (List.mem_append_right _ ha)) (s1T.trans (whole s2 fun x hx => ?_))
            · simp only [List.nodup_append]
              refine ⟨r3.nd, k3.1.1.2.1, fun a ha b hb => ?_⟩
              rcases List.mem_append.mp (s3 a ha) with z | z
              · exact k3.1.1.2.2 a z b hb
              · exact fun q => k3.2.2 b (.inl (.inr hb)) a z q.symm
            · rcases List.mem_append.mp ha with z | z
              · exact r3.nf a z
              · exact nf2 a (List.mem_append_left _ (List.mem_append_right _ z))
            · simp only [List.nodup_append, List.mem_append]
              refine ⟨⟨r3.nd, k3.1.1.2.1, fun a ha b hb => ?_⟩, k3.1.2.1, fun a ha b hb => ?_⟩
              · rcases List.mem_append.mp (s3 a ha) with z | z
                · exact k3.1.1.2.2 a z b hb
                · exact fun q => k3.2.2 b (.inl (.inr hb)) a z q.symm
              · rcases ha with ha | ha
                · rcases List.mem_append.mp (s3 a ha) with z | z
                  · exact k3.1.2.2 a (.inl z) b hb
                  · exact fun q => k3.2.2 b (.inr hb) a z q.symm
                · exact k3.1.2.2 a (.inr ha) b hb
            · simp only [List.mem_append] at hx ⊢
              rcases hx with (hx | hx) | hx
              · rcases List.mem_append.mp (s3 x hx) with z | z
                · exact .inl (.inl (.inl z))
                · exact .inr z
              · exact .inl (.inl (.inr hx))
              · exact .inl (.inr hx)
end
end U
namespace U
open PySem PySem.Spec PyProof.Rows L2 TK
section
variable {N : Nat} {X : Cx} {T : Tb4} {e : Expr} {B : Bx} {W : WX} {f g k : E} {st : Stmt}
abbrev DEL (N : Nat) (T : Tb4) (X : Cx) (B : Bx) (W : WX) (e : Expr) (f : E) : Prop := JE N X e (tLE X.K T B W f)
abbrev DML (N : Nat) (T : Tb4) (X : Cx) (B : Bx) (W : WX) (e : Expr) (f : E) : Prop := JE N X e (tLM X.K T B W f)
abbrev DTL (N : Nat) (T : Tb4) (X : Cx) (B : Bx) (W : WX) (e : Expr) (f : E) : Prop := JT N X e (tLT X.K T B W f)
abbrev DSL (N : Nat) (T : Tb4) (X : Cx) (B : Bx) (W : WX) (st : Stmt) (f : U.St) : Prop := JS N X st (tLS X.K T B W f)
abbrev DSsL (N : Nat) (T : Tb4) (X : Cx) (B : Bx) (W : WX) (st : List Stmt) (f : U.St) : Prop := JSs N X st (tLS X.K T B W f)
theorem dL_of (h : DET N X B W e f) : DEL N T X B W e f := h.weak liftE
theorem sL_of {b : U.St} (h : DST N X B W st b) : DSL N T X B W st b := h.weak liftS
theorem ssL_of {b : U.St} {sts : List Stmt} (h : DSsT N X B W sts b) : DSsL N T X B W sts b := h.weak liftS
theorem dL_frz (h : DML N T X B W e f) : DEL N T X B W e (eFrz f) := h.weak wl_frz
theorem dL_call {fn : Fn} {gs : List Ag} {dd : List D} {dvs : List V} (hd : ∀ F H, RVs X.K F H dvs dd) (h : JE N X e (tCallSD (spL X.K T fn) dvs (WE W) (tDG X.K B W gs))) : DML N T X B W e (eCall fn gs dd) := h.weak (w_callL hd)
theorem dL_told {Z : Addr} {t : Tb} {m : Nat} {hs : List Hd} (ht : TbOk X.K t) (hZ : Z ∈ T.map (·.1)) (h : PE X e (LamY.tLamP T Z (TTh X.K m hs) (fun E => tDM X.K B (fun cls d _ H => E cls d H) f))) : DEL N T X B W e (eTold t m hs f) := je_of (h.weak (w_told ht hZ))
theorem tL_op {o : D → D → Option D} {r : R2} (p : P2 X.K o r) (h : JT N X e (tTest (tOp r (tLE X.K T B W f) (tLE X.K T B W g)))) : DTL N T X B W e (eOp o f g) := (h.weak fun σ H Q q => wl_op p σ H _ q).weak wl_tv
theorem tL_valB (h : JT N X e (tB (tLE X.K T B W f))) : DTL N T X B W e f := h.weak wl_tv
theorem tL_or (h : JW N X e (tOr (tLT X.K T B W f) (tLT X.K T B W g))) : JW N X e (tLT X.K T B W (eOr f g)) := h.weak wl_tor
theorem tL_not (h : JT N X e (L2.tNot (tLT X.K T B W f))) : DTL N T X B W e (eUn oNot f) := h.weak wl_tnot
variable {b c : U.St}
theorem sL_cons {sts : List Stmt} (h : DSL N T X B W st b) (hr : DSsL N T X B W sts c) : DSsL N T X B W (st :: sts) (sSeq b c) := (jss_cons h hr).weak wl_seq
theorem sL_one (h : DSL N T X B W st b) : DSsL N T X B W [st] b := (jss_cons h jss_nil).weak fun _ _ _ q => q
theorem sL_if (h : JS N X st (tIfS (tLT X.K T B W k) (tLS X.K T B W b) (tLS X.K T B W c))) : DSL N T X B W st (sIf k b c) := h.weak wl_ifs
end
section
variable {K : PySem.W.Frag} {T : Tb4} {B : Bx} {W : WX}
theorem liftI {it : Is} (σ : L2.St) (H : Hp) (R : It → Hp → Prop) (h : tLI K T B W it σ H R) : tDI K B W it σ H R := by
  obtain ⟨F, ρ, A, rp, h⟩ := h
  obtain ⟨A0, r0, rfl⟩ := rp.rep
  refine ⟨F, ρ, A0, r0, ?_⟩
  cases e : it ρ with
  | bad => rw [e] at h; exact h
  | exc x ρ1 => rw [e] at h; exact lift_x rp h
  | ok ds ρ1 => rw [e] at h; exact fun J F' H' A' r1 y s => h J F' H' _ (rp.step r1 s) y s.withT
theorem wgt_of {ks : List Nat} {gt : Tg} {tg : TG} (h : WG K B ks gt tg) : WGT K T B ks gt tg := fun F H σ ρ ρ' A v d Q r o e q => by
  obtain ⟨A0, r0, rfl⟩ := r.rep
  have nd := r.nd
  simp only [List.nodup_append] at nd
  refine h F H σ ρ ρ' A0 v d Q r0 o e fun σ' A' r' sub l1 l2 => q σ' (A' ++ T.map (·.1)) ⟨⟨A', r', rfl⟩, ?_, fun a ha => ?_, r.dm, r.tabs⟩ (fun a ha => ?_) l1 l2
  · simp only [List.nodup_append]
    exact ⟨r'.nd, nd.2.1, fun a ha b hb => nd.2.2 a (sub a ha) b hb⟩
  · rcases List.mem_append.mp ha with z | z
    · exact r'.nf a z
    · exact r.nf a (List.mem_append_right _ z)
  · simp only [List.mem_append] at ha ⊢
    exact ha.imp (sub a) id
end
section
variable {N : Nat} {X : Cx} {T : Tb4} {e : Expr} {B : Bx} {W : WX} {st : Stmt} {b : U.St}
theorem iL_of {tg e : Expr} {it : Is} (h : PI X tg e (tDI X.K B W it)) : PI X tg e (tLI X.K T B W it) := h.weak liftI
theorem sL_for {it : Is} {gt : Tg} {tg : TG} {ks : List Nat} (hg : WGT X.K T B ks gt tg) (h : JS N X st (tFor (tLI X.K T B W it) tg (tLS X.K T B W b))) : DSL N T X B W st (sFor it gt b) := h.weak (wl_for hg)
end
end U
namespace U
open PySem PySem.Spec PyProof.Rows L2 TK
abbrev qLam (x : Str) : Str := (x ++ ".<locals>.") ++ "<lambda>"
def TQ (K : PySem.W.Frag) (xs : List Str) : Tb4 := xs.map fun x => (_root_.Q.pL K x, qLam x)
structure LamF (K : PySem.W.Frag) (mg : Str → Option Value) (base : Heap) (xs : List Str) : Prop where
  tb : ∀ x ∈ xs, LamX.TabB base mg (_root_.Q.cL K x) (_root_.Q.pL K x)
  cd : ∀ x ∈ xs, (_root_.Q.fdA K (He.ga K x)).code = .ref (_root_.Q.cL K x)
  di : (xs.map (_root_.Q.pL K)).Nodup
section
variable {K : PySem.W.Frag} {mg : Str → Option Value} {base : Heap} {xs : List Str}
theorem TQ_mem {x : Str} (h : x ∈ xs) : (_root_.Q.pL K x, qLam x) ∈ TQ K xs := List.mem_map.mpr ⟨x, h, rfl⟩
theorem TQ_fst : (TQ K xs).map (·.1) = xs.map (_root_.Q.pL K) := by unfold TQ; rw [List.map_map]; rfl
theorem TQ_in {x : Str} (h : x ∈ xs) : _root_.Q.pL K x ∈ (TQ K xs).map (·.1) := by rw [TQ_fst]; exact List.mem_map.mpr ⟨x, h, rfl⟩
theorem LamF.one (L : LamF K mg base xs) {x : Str} (h : x ∈ xs) : ∀ p ∈ TQ K xs, p.1 = _root_.Q.pL K x → p.2 = qLam x := fun p hp e => by
  obtain ⟨y, hy, rfl⟩ := List.mem_map.mp hp
  have d := L.di
  clear hp L
  induction xs with
  | nil => cases hy
  | cons z r ih =>
    simp only [List.map_cons, List.nodup_cons, List.mem_map, not_exists, not_and] at d
    rcases List.mem_cons.mp h with h1 | h1 <;> rcases List.mem_cons.mp hy with y1 | y1
    · rw [h1, y1]
    · subst h1; exact absurd e (d.1 y y1)
    · subst y1; exact absurd e.symm (d.1 x h1)
    · exact ih h1 y1 d.2
end
end U
namespace TK
open PySem PySem.W PySem.Calls PyProof.Rows PySem.Spec L2
section
variable {N : Nat} {P : Program} {w : World} {K : Frag} {mg mb : Str → Option Value} {CX : CXT} {k : Nat} {fa a : Addr} {fd : FuncData} {x : Str} {sp : Sp} {s₁ : Shared} {vs : List Value} {ns : List Int} {cs : List (Addr × Addr)}
abbrev emptyO : Obj := { cls := .none, data := .fields #[] }
theorem call_oneL (hT : N ≤ s₁.toks) (KX : K.In s₁.heap) (hns : s₁.heap.Ns mainGlobals mg) (hb : s₁.heap.Ns builtinsNs mb) (hbb : ∀ x : Str, x ≠ "__name__" → mb x = bootBuiltins x) (hlim : s₁.heap.NoLimit) (hg : s₁.gens = #[])
    (tab : ∀ p ∈ cs, s₁.heap.get? p.2 = some emptyO) (tK : ∀ p ∈ cs, K.lookup p.2 = none) (code : ∀ p ∈ cs, CodeHd s₁.heap p.1 p.2)
    (bmn : ∃ (bm : Addr) (ob : Obj), mg "__builtins__" = some (.ref bm) ∧ bm ≠ builtinsNs ∧ s₁.heap.get? bm = some ob ∧ ob.cls = .type "module" ∧ ob.dict = some builtinsNs ∧ ob.data = .plain)
    (ha : s₁.heap.get? a = some { cls := .type "list", data := .seq vs.toArray }) (hr : Room k callerA)
    (F : ∀ base : Heap, K.In base → base.Ns mainGlobals mg → (∀ p ∈ cs, LamX.TabB base mg p.1 p.2) → FnT N P w K mg base CX k fa fd [x] sp) (hbind : ∀ (s : Shared) (u : Value), BindsTo s fd ⟨[u], []⟩ [(x, u)])
    (hCX : ∀ H e s', CX [] H s₁ (fun _ _ _ => False) e s' → False) {H : Hp} (kinds : ∀ b u, H b = some u → (b ∈ cs.map (·.2) ∧ u = .tbl #[]) ∨ (b = a ∧ ∃ o xs, u = .frz o (.lst xs)))
    (hok : HOk P w H s₁.heap) (hTb : ∀ p ∈ cs, H p.2 = some (.tbl #[])) (hK : H a ≠ none → K.lookup a = none) (hsp : sp [.ref a] H (fun v _ => v = .bl true) fun _ _ _ => False) :
    codeAny (model P w) callerA (.call (.ref fa) ⟨[.ref a], []⟩) (EndT s₁) s₁ := by
  have tabAt : ∀ b ∈ cs.map (·.2), s₁.heap.get? b = some emptyO := fun b hb => by
    obtain ⟨p, hp, rfl⟩ := List.mem_map.mp hb
    exact tab p hp
  -- neither the script nor a table: not tracked
  have free : ∀ {b : Addr} {o : Obj}, s₁.heap.get? b = some o → (∀ its n, o.data ≠ .seq its n) → o.data ≠ .fields #[] → (hidT s₁.heap H).get? b = some o := fun {b o} e n1 n2 => by
    refine hidT_get e ?_
    rcases q : H b with _ | u
    · rfl
    · rcases kinds b u q with ⟨m, _⟩ | ⟨z, _⟩
      · rw [tabAt b m] at e
        cases e
        exact absurd rfl n2
      · rw [z, ha] at e
        cases e
        exact absurd rfl (n1 _ _)
  have dicts : ∀ {b : Addr} {m : Str → Option Value}, s₁.heap.Ns b m → (hidT s₁.heap H).Ns b m := fun {b m} z => by
    obtain ⟨o, es, ep, e, d, r⟩ := z
    exact ⟨o, es, ep, free e (fun its n z => by rw [d] at z; cases z) (fun z => by rw [d] at z; cases z), d, r⟩
  have KB : K.In (hidT s₁.heap H) := fun b o e => by
    refine hidT_get (KX b o e) ?_
    rcases q : H b with _ | u
    · rfl
    · rcases kinds b u q with ⟨m, _⟩ | ⟨z, _⟩
      · obtain ⟨p, hp, rfl⟩ := List.mem_map.mp m
        rw [tK p hp] at e
        cases e
      · subst z
        rw [hK (by rw [q]; exact fun z => nomatch z)] at e
        cases e
  obtain ⟨mc, l1, l2⟩ := hlim
  have md : Mod K mg (hidT s₁.heap H) := ⟨KB, dicts hns, ⟨mb, dicts hb, hbb⟩, mc, dicts l1, l2⟩
  have glb : ∀ p ∈ cs, mainGlobals ≠ p.2 := fun p hp z => by
    obtain ⟨o, es, ep, e, d, _⟩ := hns
    rw [z, tab p hp] at e
    cases e
    cases d
  have TB : ∀ p ∈ cs, LamX.TabB (hidT s₁.heap H) mg p.1 p.2 := fun p hp => by
    refine ⟨?_, ?_, glb p hp⟩
    · obtain ⟨o, us, f1, f2, f3, f4, f5, f6, f7, e, c1, c2, c3, rest⟩ := code p hp
      refine ⟨o, us, f1, f2, f3, f4, f5, f6, f7, free e (fun its n z => ?_) (fun z => ?_), c1, c2, c3, rest⟩
      · rw [c2] at z; cases z
      · rw [c2] at z; cases z; simp at c3
    · obtain ⟨bm, ob, b1, b2, b3, b4, b5, b6⟩ := bmn
      refine ⟨bm, ob, b1, b2, fun z => ?_, fun z => ?_, free b3 (fun its n z => by rw [b6] at z; cases z) (fun z => by rw [b6] at z; cases z), b4, b5, b6⟩
      · obtain ⟨o, es, ep, e, d, _⟩ := hns
        rw [← z, b3] at e
        cases e
        rw [b6] at d; cases d
      · rw [z, tab p hp] at b3
        cases b3; cases b6
  have e0 : Env0 P w K mg (hidT s₁.heap H) callerA [] s₁ H := ⟨rfl, md, fun _ _ e => of_hidT e, Nat.le_of_eq (hidT_size _ _), trivial, fun _ hb => (List.not_mem_nil hb).elim, hok, .of_eq hg⟩
  have z := (F _ KB (dicts hns) TB).run callerA [] s₁ H ⟨[.ref a], []⟩ [.ref a] [.ref a] _ _ hT rfl hr e0 (hbind s₁ (.ref a)) (.cons rfl .nil) hsp
  refine codeAny_mono z fun r s' h => ?_
  match r, h with
  | .error e, h => exact (hCX H e s' h).elim
  | .ok .next, h => exact h.elim
  | .ok .brk, h => exact h.elim
  | .ok .cont, h => exact h.elim
  | .ok (.ret u), ⟨v, H', os, bare, un, hok', r', q⟩ =>
    obtain rfl : v = .bl true := q
    obtain rfl : u = Value.bool true := r'
    have later : ∀ p ∈ cs, ∃ more : Array Value, s'.heap.get? p.2 = some { cls := .none, data := .fields more } := fun p hp => by
      obtain ⟨more, z⟩ := un.tbls p.2 #[] (hTb p hp)
      exact ⟨_, hok' p.2 _ z⟩
    have kept : ∀ b o, b ∉ cs.map (·.2) → s₁.heap.get? b = some o → s'.heap.get? b = some o := fun b o nb e => by
      rcases q : H b with _ | u
      · exact un.keep b o e q (fun z => (List.not_mem_nil z).elim) (by simp)
      · rcases kinds b u q with ⟨m, _⟩ | ⟨_, ob, xs, z⟩
        · exact absurd m nb
        · subst z
          have e1 := (hok b _ q).1
          have e2 := (hok' b _ (un.frzs b ob _ q)).1
          rw [e] at e1
          cases e1
          exact e2
    refine ⟨rfl, ⟨fun b o e => ?_, fun b o e => ?_⟩, os, bare⟩
    · by_cases m : b ∈ cs.map (·.2)
      · obtain ⟨p, hp, rfl⟩ := List.mem_map.mp m
        obtain ⟨more, hm⟩ := later p hp
        have e' := tab p hp
        rw [e] at e'
        cases e'
        exact .inr (.inl ⟨((code p hp).tab (tab p hp)).isCodeTable, rfl, #[], more, rfl, by rw [Array.empty_append]; exact hm⟩)
      · exact .inl (kept b o m e)
    · by_cases m : b ∈ cs.map (·.2)
      · obtain ⟨p, hp, rfl⟩ := List.mem_map.mp m
        obtain ⟨more, hm⟩ := later p hp
        exact ⟨_, hm⟩
      · exact ⟨o, kept b o m e⟩
theorem call_lawL (hT : N ≤ s₁.toks) (KX : K.In s₁.heap) (hns : s₁.heap.Ns mainGlobals mg) (hb : s₁.heap.Ns builtinsNs mb) (hbb : ∀ x : Str, x ≠ "__name__" → mb x = bootBuiltins x) (hlim : s₁.heap.NoLimit) (hg : s₁.gens = #[])
    (tab : ∀ p ∈ cs, s₁.heap.get? p.2 = some emptyO) (tK : ∀ p ∈ cs, K.lookup p.2 = none) (code : ∀ p ∈ cs, CodeHd s₁.heap p.1 p.2)
    (bmn : ∃ (bm : Addr) (ob : Obj), mg "__builtins__" = some (.ref bm) ∧ bm ≠ builtinsNs ∧ s₁.heap.get? bm = some ob ∧ ob.cls = .type "module" ∧ ob.dict = some builtinsNs ∧ ob.data = .plain)
    (ha : s₁.heap.get? a = some { cls := .type "list", data := .seq vs.toArray }) (hi : IntsAre vs ns) (hl : ns.length ≤ sizeLine) (hr : Room k callerA)
    (F : ∀ base : Heap, K.In base → base.Ns mainGlobals mg → (∀ p ∈ cs, LamX.TabB base mg p.1 p.2) → FnT N P w K mg base CX k fa fd [x] sp) (hbind : ∀ (s : Shared) (u : Value), BindsTo s fd ⟨[u], []⟩ [(x, u)])
    (hsp : ∀ H : Hp, (∀ p ∈ cs, H p.2 = some (.tbl #[])) → SqL K H a (ns.map V.int) → sp [.ref a] H (fun v _ => v = .bl true) fun _ _ _ => False)
    (hCX : ∀ H e s', CX [] H s₁ (fun _ _ _ => False) e s' → False) : codeAny (model P w) callerA (.call (.ref fa) ⟨[.ref a], []⟩) (EndT s₁) s₁ := by
  have rv := vals_ints hi
  have lenV := hi.length
  have tabAt : ∀ b ∈ cs.map (·.2), s₁.heap.get? b = some emptyO := fun b hb => by
    obtain ⟨p, hp, rfl⟩ := List.mem_map.mp hb
    exact tab p hp
  have aT : a ∉ cs.map (·.2) := fun m => by
    have e := tabAt a m
    rw [ha] at e
    cases e
  have inT : ∀ p ∈ cs, p.2 ∈ cs.map (·.2) := fun p hp => List.mem_map.mpr ⟨p, hp, rfl⟩
  let Ht : Hp := fun b => if b ∈ cs.map (·.2) then some (.tbl #[]) else none
  have onT : ∀ {b : Addr}, b ∈ cs.map (·.2) → Ht b = some (.tbl #[]) := fun m => if_pos m
  have offT : ∀ {b : Addr}, b ∉ cs.map (·.2) → Ht b = none := fun m => if_neg m
  cases hk : K.lookup a with
  | some o =>
    have e := KX a o hk
    rw [ha] at e
    cases e
    refine call_oneL (H := Ht) hT KX hns hb hbb hlim hg tab tK code bmn ha hr F hbind hCX (fun b u q => ?_) (fun b u q => ?_) (fun p hp => onT (inT p hp)) (fun z => (z (offT aT)).elim)
      (hsp _ (fun p hp => onT (inT p hp)) (.inr ⟨_, vs.toArray, _, hk, rfl, rfl, rfl, by rw [List.size_toArray, lenV]; exact hl, by simpa using rv⟩))
    all_goals
      by_cases m : b ∈ cs.map (·.2)
      · rw [onT m] at q
        cases q
        first
          | exact .inl ⟨m, rfl⟩
          | exact tabAt b m
      · rw [offT m] at q
        cases q
  | none =>
    let Hs : Hp := fun b => if b = a then some (.frz { cls := .type "list", data := .seq vs.toArray } (.lst (ns.map V.int))) else Ht b
    have at_a : Hs a = some (.frz { cls := .type "list", data := .seq vs.toArray } (.lst (ns.map V.int))) := if_pos rfl
    have off : ∀ {b : Addr}, b ≠ a → Hs b = Ht b := fun h => if_neg h
    have tb : ∀ p ∈ cs, Hs p.2 = some (.tbl #[]) := fun p hp => (off (fun z => aT (z ▸ inT p hp))).trans (onT (inT p hp))
    refine call_oneL (H := Hs) hT KX hns hb hbb hlim hg tab tK code bmn ha hr F hbind hCX (fun b u q => ?_) (fun b u q => ?_) tb (fun _ => hk) (hsp Hs tb (.inl (.inr ⟨_, at_a⟩)))
    · by_cases h : b = a
      · subst h
        rw [at_a] at q
        cases q
        exact .inr ⟨rfl, _, _, rfl⟩
      · rw [off h] at q
        by_cases m : b ∈ cs.map (·.2)
        · rw [onT m] at q
          cases q
          exact .inl ⟨m, rfl⟩
        · rw [offT m] at q
          cases q
    · by_cases h : b = a
      · subst h
        rw [at_a] at q
        cases q
        exact ⟨ha, by rw [List.length_map]; exact hl, vs, _, rv, ha⟩
      · rw [off h] at q
        by_cases m : b ∈ cs.map (·.2)
        · rw [onT m] at q
          cases q
          exact tabAt b m
        · rw [offT m] at q
          cases q
end
theorem walkTL {N : Nat} {l : PySem.W.OpenLaw} {n k : Nat} {q : Program} {loose : List Str} {XP : (Str → Option Value) → Heap → Prop} {YP : World → Heap → Prop} {d : DefRec} {CX : CXT} {x : Str}
    (hn : l.most = some n) (hn2 : n ≤ sizeLine) (hdf : d.params.defaults = []) (hr : Room k callerA)
    (F : ∀ (w : World) (mg : Str → Option Value) (fa : Addr) (h : Heap), YP w h → h.Ns mainGlobals mg → mg d.name = some (.ref fa) →
      ∃ (K : PySem.W.Frag) (fd : FuncData) (sp : Sp) (xs : List Str), K.In h ∧ _root_.Q.LamT K h xs ∧ (∀ (s : Shared) (u : Value), BindsTo s fd ⟨[u], []⟩ [(x, u)]) ∧
        (∀ (H : Hp) (a : Addr) (ns : List Int), ns.length ≤ n → (∀ y ∈ xs, H (_root_.Q.pL K y) = some (.tbl #[])) → (xs.map (_root_.Q.pL K)).Nodup → SqL K H a (ns.map V.int) → sp [.ref a] H (fun v _ => v = .bl true) fun _ _ _ => False) ∧
        ∀ base : Heap, K.In base → base.Ns mainGlobals mg → U.LamF K mg base xs → FnT N l.prog w K mg base CX k fa fd [x] sp)
    (hCX : ∀ (H : Hp) (s : Shared) (e : Value) (s' : Shared), CX [] H s (fun _ _ _ => False) e s' → False) :
    PySem.W.WalkT N q loose XP YP l.row.toRowW d [] (fun f vs => PySem.call f vs) := by
  intro w s₀ s₁ mg mb hN G Y fa o pm cd doc dV kV ho hd hcd hD hmg hg args vals as hpre hlay hrd hwl hlo
  obtain rfl : dV = .none := Dflts.none hD hdf
  obtain rfl : kV = .none := Dflts.noKw hD
  obtain ⟨a, vs, ns, rfl, rfl, hobj, hints, hlen⟩ := Att.script_of hn hpre hwl
  obtain ⟨K, fd, sp, xs, KX, LT, hb, hsp, hF⟩ := F w mg fa _ Y G.T.g hmg
  have of : ∀ {p : Addr × Addr}, p ∈ xs.map (fun y => (_root_.Q.cL K y, _root_.Q.pL K y)) → ∃ y ∈ xs, p = (_root_.Q.cL K y, _root_.Q.pL K y) := fun hp => by
    obtain ⟨y, hy, e⟩ := List.mem_map.mp hp
    exact ⟨y, hy, e.symm⟩
  have z := call_lawL (cs := xs.map fun y => (_root_.Q.cL K y, _root_.Q.pL K y)) hN KX G.T.g G.T.b G.T.builtins G.T.nolimit hg
    (fun p hp => by obtain ⟨y, hy, rfl⟩ := of hp; exact LT.emp y hy) (fun p hp => by obtain ⟨y, hy, rfl⟩ := of hp; exact LT.out y hy) (fun p hp => by obtain ⟨y, hy, rfl⟩ := of hp; exact LT.code y hy) G.T.bmain
    hobj hints (Nat.le_trans hlen hn2) hr (fun base hK hN2 tb => hF base hK hN2 ⟨fun y hy => tb _ (List.mem_map.mpr ⟨y, hy, rfl⟩), fun y hy => LT.fd hy, LT.dist⟩) hb
    (fun H hO hS => hsp H a ns hlen (fun y hy => hO _ (List.mem_map.mpr ⟨y, hy, rfl⟩)) LT.dist hS) fun H e s' => hCX H s₁ e s'
  refine W.enter_call (codeAny_mono z fun r s' hq => ?_)
  obtain ⟨rfl, h2, h3, h4⟩ := hq
  exact ⟨.inl ⟨.bool true, .bool true, [], rfl, fun _ => rfl, .bool true, Att.post_true l _, fun _ => ⟨.nil, fun _ hm => (nomatch hm)⟩⟩, h2, h3, h4⟩
end TK
namespace U
open PySem PySem.Spec PyProof.Rows L2 TK
theorem law_spL {K : PySem.W.Frag} {xs : List Str} {f : Fn} (hf : ∀ ns : List Int, ns.length ≤ 63 → ∃ o, f [.scr ns] = .ok (.bl true) o) (H : Hp) (a : Addr) (ns : List Int) (hl : ns.length ≤ 63) (hT : ∀ y ∈ xs, H (_root_.Q.pL K y) = some (.tbl #[])) (di : (xs.map (_root_.Q.pL K)).Nodup) (hS : SqL K H a (ns.map V.int)) :
    spL K (TQ K xs) f [.ref a] H (fun v _ => v = .bl true) fun _ _ _ => False := by
  obtain ⟨o, e⟩ := hf ns hl
  have no : a ∉ xs.map (_root_.Q.pL K) ∨ ∀ o, ¬ (H a = some o ∧ ∀ ps, o ≠ .tbl ps) := by
    by_cases m : a ∈ xs.map (_root_.Q.pL K)
    · obtain ⟨y, hy, rfl⟩ := List.mem_map.mp m
      refine .inr fun o z => ?_
      rw [hT y hy] at z
      exact z.2 _ (Option.some.inj z.1).symm
    · exact .inl m
  refine ⟨fun b => b = a ∧ ∃ o, H a = some o ∧ ∀ ps, o ≠ .tbl ps, [.scr ns], [], ([], none), ?_, ?_, ?_, (fun b hb => by obtain ⟨rfl, o, ho, _⟩ := hb; exact ⟨o, ho⟩), ?_, ?_⟩
  · simp only [OVps]
    refine ⟨[], [], OV.op (RV.own ?_), rfl, rfl⟩
    simp only [RV]
    refine ⟨a, rfl, ?_⟩
    rcases hS with h | h
    · rcases h with h | ⟨o, h⟩
      · exact .inl ⟨⟨rfl, _, h, fun ps z => by cases z⟩, .inl h⟩
      · exact .inl ⟨⟨rfl, _, h, fun ps z => by cases z⟩, .inr ⟨o, h⟩⟩
    · exact .inr (.inr h)
  · rw [List.nil_append, TQ_fst]; exact di
  · intro b hb z
    rw [List.nil_append, TQ_fst] at hb
    obtain ⟨rfl, o, h1, h2⟩ := z
    rcases no with q | q
    · exact q hb
    · exact q o ⟨h1, h2⟩
  · intro p hp
    obtain ⟨y, hy, rfl⟩ := List.mem_map.mp hp
    exact LamX.TabS.nil (hT y hy)
  · rw [e]
    intro v F' H' σ' A' Ar _ _ _ _ _ ov _
    simp only [OV, RV] at ov
    exact ov.2
end U
namespace U
abbrev tb : Tb := [("InvalidCapacity", "InvalidCapacity", true), ("InvalidCapacity", "InvalidProgram", false), ("InvalidCapacity", "InvalidInteger", false), ("InvalidCapacity", "LimitExceeded", false), ("InvalidProgram", "InvalidCapacity", false), ("InvalidProgram", "InvalidProgram", true), ("InvalidProgram", "InvalidInteger", false), ("InvalidProgram", "LimitExceeded", false), ("InvalidInteger", "InvalidCapacity", false), ("InvalidInteger", "InvalidProgram", false), ("InvalidInteger", "InvalidInteger", true), ("InvalidInteger", "LimitExceeded", false), ("LimitExceeded", "InvalidCapacity", false), ("LimitExceeded", "InvalidProgram", false), ("LimitExceeded", "InvalidInteger", false), ("LimitExceeded", "LimitExceeded", true)]
noncomputable def hd_law_error : List Hd := [⟨"InvalidCapacity", some 1, (sRet (eFrz (eN mkLst (aCons (eC (.str [99, 97, 112, 97, 99, 105, 116, 121])) (aCons (eXis 1 "InvalidCapacity" true) aNil)))))⟩, ⟨"InvalidProgram", some 1, (sRet (eFrz (eN mkLst (aCons (eC (.str [112, 114, 111, 103, 114, 97, 109])) (aCons (eXis 1 "InvalidProgram" true) aNil)))))⟩, ⟨"InvalidInteger", some 1, (sRet (eFrz (eN mkLst (aCons (eC (.str [105, 110, 116, 101, 103, 101, 114])) (aCons (eXis 1 "InvalidInteger" true) aNil)))))⟩, ⟨"LimitExceeded", some 1, (sRet (eFrz (eN mkLst (aCons (eC (.str [108, 105, 109, 105, 116])) (aCons (eXf 1 "LimitExceeded" "size") (aCons (eXis 1 "LimitExceeded" false) aNil))))))⟩]
noncomputable def fn_Line_run_pre : Fn := fnOf 2 8 (sSeq (sSet 2 (eFrz (eCall fn_items_of [.v (eVar 1)] []))) (sSeq (sSet 3 (eFrz (eCall (fn_five_of 21) [.v (eVar 2)] []))) (sSeq (sSet 4 (eFrz (eMethO "Line" "first_end" fn_Line_first_end 0 [.v (eVar 3)] []))) (sSeq (sIf (eOp oIsN (eVar 4) (eC .non)) (sRaise "EmptyQueue" [] aNil) sNil) (sSeq sBad (sSeq (sSet 6 (eOp oSub (eOp oAdd (eN oLenS (aCons (eOp oIxT (eFldO 0 "Line" "queues") (eC (.int 0))) aNil)) (eOp oIxT (eVar 3) (eC (.int 0)))) (eVar 4))) (sSeq (sSet 7 (eN mkLst (aCons (eVar 4) aNil))) (sSeq (sFor (iOfA itZ (aCons (eSl oSlT (eFldO 0 "Line" "queues") (some (eC (.int 1))) none) (aCons (eSl oSlT (eFldO 0 "Line" "limits") (some (eC (.int 1))) none) aNil))) (gTup [(gVar 8), (gVar 9)]) turn_Line_run_1) (sSeq (sFldO 0 "Line" "queues" (eFrz (eCall fn_cut_from_end [.v (eVar 5), .v (eGive 7)] []))) (sFldAug 0 "Line" "passed" oAdd (eVar 6)))))))))))
noncomputable def body_Line_contents : St := (sRet (eUn (oFld "Line" "queues") (eVar 0)))
noncomputable def fn_Line_contents : Fn := fnOf 1 0 body_Line_contents
noncomputable def body_Line_gone : St := (sRet (eUn (oFld "Line" "passed") (eVar 0)))
noncomputable def fn_Line_gone : Fn := fnOf 1 0 body_Line_gone
noncomputable def body_law_sizes_right : St := (sSeq (sIf (eOp oNe (eTold tb 1 hd_law_error (eMake "Line" fn_Line_init aNil [])) (eFrz (eN mkLst (aCons (eC (.str [108, 105, 109, 105, 116])) (aCons (eC (.int 0)) (aCons (eC (.bl false)) aNil))))))
    (sRet (eC (.bl false)))
    sNil)
    (sSeq (sIf (eOp oNe (eTold tb 1 hd_law_error (eMake "Line" fn_Line_init (aCons (eC (.int 1)) (aCons (eC (.int 2)) (aCons (eC (.int 3)) (aCons (eC (.int 4)) (aCons (eC (.int 5)) (aCons (eC (.int 6)) (aCons (eC (.int 7)) (aCons (eC (.int 8)) (aCons (eC (.int 9)) aNil))))))))) [])) (eFrz (eN mkLst (aCons (eC (.str [108, 105, 109, 105, 116])) (aCons (eC (.int 9)) (aCons (eC (.bl false)) aNil))))))
    (sRet (eC (.bl false)))
    sNil)
    (sSeq (sIf (eOp oNe (eTold tb 1 hd_law_error (eMake "Line" fn_Line_init (aCons (eC (.int 1)) (aCons (eC (.int 2)) (aCons (eC (.int 3)) (aCons (eC (.int 4)) (aCons (eC (.int 5)) (aCons (eC (.int 6)) (aCons (eC (.int 7)) (aCons (eC (.int 8)) (aCons (eC (.int 9)) (aCons (eC (.int 10)) (aCons (eVar 0) aNil))))))))))) [])) (eFrz (eN mkLst (aCons (eC (.str [99, 97, 112, 97, 99, 105, 116, 121])) (aCons (eC (.bl true)) aNil)))))
    (sRet (eC (.bl false)))
    sNil)
    (sSeq (sSet 1 (eMake "Line" fn_Line_init (aCons (eC (.int 1)) (aCons (eC (.int 1)) (aCons (eC (.int 1)) (aCons (eC (.int 1)) (aCons (eC (.int 1)) (aCons (eC (.int 1)) (aCons (eC (.int 1)) (aCons (eC (.int 100)) aNil)))))))) []))
    (sSeq (sDrop (eMethO "Line" "run" fn_Line_run 1 [.v (eC (.str [97, 98, 99, 100, 101, 102, 103, 104, 105, 106]))] []))
    (sRet (eAnd (eFrz (eLentA (eOp oEq (eUn (oProp "Line" fn_Line_contents) (eVar 1)) (eN mkTup (aCons (eC (.str [106])) (aCons (eC (.str [105])) (aCons (eC (.str [104])) (aCons (eC (.str [103])) (aCons (eC (.str [102])) (aCons (eC (.str [101])) (aCons (eC (.str [100])) (aCons (eC (.str [97, 98, 99])) aNil)))))))))))) (eFrz (eLentA (eOp oEq (eUn (oProp "Line" fn_Line_gone) (eVar 1)) (eC (.int 0))))))))))))
noncomputable def fn_law_sizes_right : Fn := fnOf 1 1 body_law_sizes_right
noncomputable def body_Line_getitem : St := (sSeq (sIf (eOr (eUn oNot (eFrz (eCall fn_is_integer [.v (eVar 1)] [(.int 0)]))) (eOp oGe (eVar 1) (eN oLenQ (aCons (eUn (oFld "Line" "queues") (eVar 0)) aNil))))
    (sRaise "InvalidInteger" [] aNil)
    sNil)
    (sRet (eOp oIxT (eUn (oFld "Line" "queues") (eVar 0)) (eVar 1))))
noncomputable def fn_Line_getitem : Fn := fnOf 2 0 body_Line_getitem
noncomputable def turn_law_1 : St := (sIf (eOp oNe (eTold tb 1 hd_law_error (eLentX (eOSub "Line" fn_Line_getitem (eVar 5) (eVar 8)))) (eFrz (eN mkLst (aCons (eC (.str [105, 110, 116, 101, 103, 101, 114])) (aCons (eC (.bl true)) aNil)))))
    (sRet (eC (.bl false)))
    sNil)
noncomputable def turn_law_2 : St := (sSeq (sSet 2 (eCall fn_law_pool [.v (eVar 0), .v (eVar 1)] []))
    (sSeq (sSet 3 (eOp oIxL (eFrz (eN mkLst (aCons (eC (.int 0)) (aCons (eC (.int 101)) (aCons (eUn oNeg (eC (.int 1))) (aCons (eC .non) (aCons (eC (.bl true)) (aCons (eC (.str [51])) (aCons (eN mkTup (aCons (eC (.int 3)) aNil)) (aCons (eOp oPow (eC (.int 10)) (eC (.int 40))) aNil)))))))))) (eFrz (eCall fn_law_take [.b 2, .v (eC (.int 8))] []))))
    (sSeq (sIf (eOr (eOp oNe (eTold tb 1 hd_law_error (eMake "Line" fn_Line_init (aCons (eVar 3) aNil) [])) (eFrz (eN mkLst (aCons (eC (.str [99, 97, 112, 97, 99, 105, 116, 121])) (aCons (eC (.bl true)) aNil))))) (eUn oNot (eFrz (eCall fn_law_sizes_right [.v (eVar 3)] []))))
    (sRet (eC (.bl false)))
    sNil)
    (sSeq (sIf (eOp oNe (eTold tb 1 hd_law_error (eMake "Line" fn_Line_init (aCons (eC (.int 5)) (aCons (eVar 3) (aCons (eC .non) aNil))) [])) (eFrz (eN mkLst (aCons (eC (.str [99, 97, 112, 97, 99, 105, 116, 121])) (aCons (eC (.bl true)) aNil)))))
    (sRet (eC (.bl false)))
    sNil)
    (sSeq (sSet 4 (eOp oAdd (eC (.int 1)) (eFrz (eCall fn_law_take [.b 2, .v (eC (.int 100))] []))))
    (sSeq (sSet 5 (eMake "Line" fn_Line_init (aCons (eVar 4) (aCons (eC (.int 7)) aNil)) []))
    (sSeq (sDrop (eMethO "Line" "run" fn_Line_run 5 [.v (eC (.str [40, 97, 98, 41, 51]))] []))
    (sSeq (sSet 6 (eFrz (eLentA (eN mkLst (aCons (eUn (oProp "Line" fn_Line_contents) (eVar 5)) (aCons (eUn (oProp "Line" fn_Line_gone) (eVar 5)) aNil))))))
    (sSeq (sSet 7 (eOp oIxL (eFrz (eN mkLst (aCons (eC .non) (aCons (eC (.int 5)) (aCons (eC (.str [40, 97])) (aCons (eC (.str [40, 97, 41, 48, 49])) (aCons (eC (.str [97, 32, 98])) (aCons (eC (.str [65])) (aCons (eFrz (eN mkLst (aCons (eC (.str [97])) aNil))) (aCons (eC (.str [40, 97, 41])) (aCons (eC (.str [97, 41, 50])) (aCons (eOp oAddS (eOp oMulS (eC (.str [40])) (eC (.int 21))) (eOp oMulS (eC (.str [41, 49])) (eC (.int 21)))) aNil)))))))))))) (eFrz (eCall fn_law_take [.b 2, .v (eC (.int 10))] []))))
    (sSeq (sIf (eOp oNe (eTold tb 1 hd_law_error (eMethO "Line" "run" fn_Line_run_pre 5 [.v (eVar 7)] [])) (eFrz (eN mkLst (aCons (eC (.str [112, 114, 111, 103, 114, 97, 109])) (aCons (eC (.bl true)) aNil)))))
    (sRet (eC (.bl false)))
    sNil)
    (sSeq (sFor (iOf itL (eFrz (eN mkLst (aCons (eUn oNeg (eC (.int 1))) (aCons (eC (.int 2)) (aCons (eC (.bl true)) (aCons (eC .non) (aCons (eC (.str [48])) (aCons (eN mkTup (aCons (eC (.int 0)) aNil)) (aCons (eOp oPow (eC (.int 10)) (eC (.int 40))) (aCons (eUn oNeg (eC (.int 2))) (aCons (eC (.bl false)) aNil)))))))))))) (gVar 8) turn_law_1)
    (sIf (eOr (eLentA (eOp oNe (eFrz (eN mkLst (aCons (eUn (oProp "Line" fn_Line_contents) (eVar 5)) (aCons (eUn (oProp "Line" fn_Line_gone) (eVar 5)) aNil)))) (eVar 6))) (eLentA (eOp oNe (eOp oAddS (eFrz (eOSub "Line" fn_Line_getitem (eVar 5) (eC (.int 0)))) (eFrz (eOSub "Line" fn_Line_getitem (eVar 5) (eC (.int 1))))) (eOp oAddS (eOp oIxT (eUn (oProp "Line" fn_Line_contents) (eVar 5)) (eC (.int 0))) (eOp oIxT (eUn (oProp "Line" fn_Line_contents) (eVar 5)) (eC (.int 1)))))))
    (sRet (eC (.bl false)))
    sNil))))))))))))
noncomputable def body_law : St := (sSeq (sFor (iOfA itR (aCons (eN oMax2 (aCons (eC (.int 1)) (aCons (eN oMin2 (aCons (eC (.int 6)) (aCons (eN oLenScr (aCons (eVar 0) aNil)) aNil))) aNil))) aNil)) (gVar 1) turn_law_2)
    (sRet (eC (.bl true))))
noncomputable def fn_law : Fn := fnOf 1 8 body_law
end U
namespace U
open PySem
def capD : D := .lst [.str [99, 97, 112, 97, 99, 105, 116, 121], .bl true]
def prgD : D := .lst [.str [112, 114, 111, 103, 114, 97, 109], .bl true]
def intD : D := .lst [.str [105, 110, 116, 101, 103, 101, 114], .bl true]
def limD (n : Int) : D := .lst [.str [108, 105, 109, 105, 116], .int n, .bl false]
theorem told_x {f : E} {ρ ρ1 o : Env} {t : Tb} {m : Nat} {hs : List Hd} {x : Ex} {d d' : D} (h : f ρ = .exc x ρ1) (hc : catch_ t x (none :: List.replicate m none) hs = .rt d o) (hd : frzD d = some d') : eTold t m hs f ρ = .ok d' ρ1 := by
  unfold eTold
  rw [h]
  simp only [hc]
  rw [hd]
  rfl
theorem told_cap {f : E} {ρ ρ1 : Env} (h : f ρ = .exc ⟨"InvalidCapacity", [], []⟩ ρ1) : eTold tb 1 hd_law_error f ρ = .ok capD ρ1 :=
  told_x (o := [none, none]) (d := capD) h (by with_unfolding_all rfl) rfl
theorem told_prg {f : E} {ρ ρ1 : Env} (h : f ρ = .exc ⟨"InvalidProgram", [], []⟩ ρ1) : eTold tb 1 hd_law_error f ρ = .ok prgD ρ1 :=
  told_x (o := [none, none]) (d := prgD) h (by with_unfolding_all rfl) rfl
theorem told_int {f : E} {ρ ρ1 : Env} (h : f ρ = .exc ⟨"InvalidInteger", [], []⟩ ρ1) : eTold tb 1 hd_law_error f ρ = .ok intD ρ1 :=
  told_x (o := [none, none]) (d := intD) h (by with_unfolding_all rfl) rfl
theorem told_lim {f : E} {ρ ρ1 : Env} {n : Int} (h : f ρ = .exc ⟨"LimitExceeded", ["size"], [.int n]⟩ ρ1) : eTold tb 1 hd_law_error f ρ = .ok (limD n) ρ1 :=
  told_x (o := [none, none]) (d := (limD n)) h (by with_unfolding_all rfl) rfl
theorem chk_bad {v0 v1 : Option D} {bad : D} {rest : List D} (hm : bad.isMut = false) (hb : ∃ o, fn_check_capacity [bad] = .exc ⟨"InvalidCapacity", [], []⟩ o) : ∀ (L : List Nat) (v2 : Option D), Fre v2 → (∀ l ∈ L, 1 ≤ l ∧ l ≤ 100) → ∃ v2', forL (gVar 2) turn_Line_init_1 ((L.map fun i : Nat => D.int (i : Nat)) ++ bad :: rest) [v0, v1, v2] = .ex ⟨"InvalidCapacity", [], []⟩ [v0, v1, v2']
  | [], v2, h2, _ => by
    obtain ⟨o, e⟩ := hb
    refine ⟨some bad, ?_⟩
    have ht : (toFl (gVar 2 bad [v0, v1, v2])).bind turn_Line_init_1 = .ex ⟨"InvalidCapacity", [], []⟩ [v0, v1, some bad] := by
      unfold turn_Line_init_1
      walk_at "evh"
    rw [List.map_nil, List.nil_append, v_fl1, ht]
    rfl
  | l :: r, v2, h2, h => by
    obtain ⟨a, b⟩ := h l List.mem_cons_self
    have e := f_check_capacity a b
    obtain ⟨v2', ih⟩ := chk_bad (v0 := v0) (v1 := v1) (rest := rest) hm hb r (some (.int (l : Nat))) (fre_pl rfl) fun x hx => h x (List.mem_cons_of_mem _ hx)
    refine ⟨v2', ?_⟩
    have ht : (toFl (gVar 2 (.int (l : Nat)) [v0, v1, v2])).bind turn_Line_init_1 = .nx [v0, v1, some (.int (l : Nat))] := by
      clear ih h hb
      unfold turn_Line_init_1
      walk_at "evh"
    rw [List.map_cons, List.cons_append, v_fl1, ht, v_fkN, ih]
theorem init_star {ds : List D} (h : allPlain ds = true) (hn : ds.length ≤ 1000) : fn_Line_init (.own 1 (.ins "Line" [] []) :: ds) = fnOf 2 1 body_Line_init [.own 1 (.ins "Line" [] []), .tup ds] :=
  starF_at (n := 1) (f := fnOf 2 1 body_Line_init) (ds := .own 1 (.ins "Line" [] []) :: ds) (by simp) h (by simp only [List.drop_succ_cons, List.drop_zero]; show ds.length ≤ 16777215; omega)
theorem init_bad {bad : D} {rest : List D} {L : List Nat} (hm : bad.isMut = false) (hb : ∃ o, fn_check_capacity [bad] = .exc ⟨"InvalidCapacity", [], []⟩ o) (hL : ∀ l ∈ L, 1 ≤ l ∧ l ≤ 100) (hp : allPlain ((L.map fun i : Nat => D.int (i : Nat)) ++ bad :: rest) = true) (hn : ((L.map fun i : Nat => D.int (i : Nat)) ++ bad :: rest).length ≤ 1000) :
    ∃ o, fn_Line_init (.own 1 (.ins "Line" [] []) :: ((L.map fun i : Nat => D.int (i : Nat)) ++ bad :: rest)) = .exc ⟨"InvalidCapacity", [], []⟩ (some (.own 1 (.ins "Line" [] [])) :: o) := by
  rw [init_star hp hn]
  obtain ⟨v2, hlp⟩ := chk_bad (v0 := some (.own 1 (.ins "Line" [] []))) (v1 := some (.tup ((L.map fun i : Nat => D.int (i : Nat)) ++ bad :: rest))) (rest := rest) hm hb L none fre_none hL
  have hsf : sFor (iOf itT (eVar 1)) (gVar 2) turn_Line_init_1 [some (.own 1 (.ins "Line" [] [])), some (.tup ((L.map fun i : Nat => D.int (i : Nat)) ++ bad :: rest)), none] = .ex ⟨"InvalidCapacity", [], []⟩ [some (.own 1 (.ins "Line" [] [])), some (.tup ((L.map fun i : Nat => D.int (i : Nat)) ++ bad :: rest)), v2] := hlp
  refine ⟨[some (.tup ((L.map fun i : Nat => D.int (i : Nat)) ++ bad :: rest))], ?_⟩
  clear hlp hL hb hm hp hn
  unfold body_Line_init
  generalize sFor (iOf itT (eVar 1)) (gVar 2) turn_Line_init_1 = SF at *
  generalize (L.map fun i : Nat => D.int (i : Nat)) ++ bad :: rest = LD at *
  walk_at "evh"
theorem init_many {L : List Nat} (hL : ∀ l ∈ L, 1 ≤ l ∧ l ≤ 100) (hn : L.length ≤ 1000) (h : ¬ (1 ≤ L.length ∧ L.length ≤ 8)) :
    ∃ o, fn_Line_init (.own 1 (.ins "Line" [] []) :: L.map fun i : Nat => D.int (i : Nat)) = .exc ⟨"LimitExceeded", ["size"], [.int (L.length : Nat)]⟩ (some (.own 1 (.ins "Line" [] [])) :: o) := by
  have hll : (L.map fun i : Nat => D.int (i : Nat)).length = L.length := List.length_map _
  rw [init_star (int_pl L) (by omega)]
  obtain ⟨v2, hlp⟩ := chk_loop (v0 := some (.own 1 (.ins "Line" [] []))) (v1 := some (.tup (L.map fun i : Nat => D.int (i : Nat)))) L none fre_none hL
  have hsf : sFor (iOf itT (eVar 1)) (gVar 2) turn_Line_init_1 [some (.own 1 (.ins "Line" [] [])), some (.tup (L.map fun i : Nat => D.int (i : Nat))), none] = .nx [some (.own 1 (.ins "Line" [] [])), some (.tup (L.map fun i : Nat => D.int (i : Nat))), v2] := hlp
  refine ⟨[some (.tup (L.map fun i : Nat => D.int (i : Nat)))], ?_⟩
  rw [← hll] at h hn ⊢
  clear hlp hL hll
  unfold body_Line_init
  generalize sFor (iOf itT (eVar 1)) (gVar 2) turn_Line_init_1 = SF at *
  generalize L.map (fun i : Nat => D.int (i : Nat)) = LD at *
  by_cases c : 1 ≤ LD.length
  · have c1 : (1 : Int) ≤ (LD.length : Nat) := by omega
    have c2 : ¬ (((LD.length : Nat) : Int) ≤ 8) := by omega
    have c3 := decide_eq_true c1
    have c4 := decide_eq_false c2
    clear h c
    walk_at "evh"
  · have c1 : ¬ (1 : Int) ≤ (LD.length : Nat) := by omega
    have c3 := decide_eq_false c1
    clear h c
    walk_at "evh"
theorem tk_make {as : As} {ds : List D} {ρ ρ1 o : Env} (ha : as ρ = .ok ds ρ1) (h : fn_Line_init (.own 1 (.ins "Line" [] []) :: ds) = .exc ⟨"InvalidCapacity", [], []⟩ (some (.own 1 (.ins "Line" [] [])) :: o)) : eTold tb 1 hd_law_error (eMake "Line" fn_Line_init as []) ρ = .ok capD ρ1 := by
  refine told_cap ?_
  rw [v_make, ha]
  show mkR "Line" ρ1 (fn_Line_init (.own 1 (.ins "Line" [] []) :: (ds ++ []))) = _
  rw [List.append_nil, h]
  rfl
theorem tk_many {as : As} {ds : List D} {ρ ρ1 o : Env} {n : Int} (ha : as ρ = .ok ds ρ1) (h : fn_Line_init (.own 1 (.ins "Line" [] []) :: ds) = .exc ⟨"LimitExceeded", ["size"], [.int n]⟩ (some (.own 1 (.ins "Line" [] [])) :: o)) : eTold tb 1 hd_law_error (eMake "Line" fn_Line_init as []) ρ = .ok (limD n) ρ1 := by
  refine told_lim ?_
  rw [v_make, ha]
  show mkR "Line" ρ1 (fn_Line_init (.own 1 (.ins "Line" [] []) :: (ds ++ []))) = _
  rw [List.append_nil, h]
  rfl
def cBad : List D := [.int 0, .int 101, .int (-1), .non, .bl true, .str [51], .tup [.int 3], .int 10000000000000000000000000000000000000000]
theorem cap_intN {i : Int} (h : ¬ (1 ≤ i ∧ i ≤ 100)) : ∃ o, fn_check_capacity [.int i] = .exc ⟨"InvalidCapacity", [], []⟩ o := by
  have e := f_is_integer (i := i) (l := 1)
  by_cases c : 1 ≤ i
  · have c2 : ¬ i ≤ 100 := fun z => h ⟨c, z⟩
    have c3 := decide_eq_true c
    have c4 := decide_eq_false c2
    rw [c3] at e
    clear h c
    have e2 : ∃ o, fn_is_capacity [.int i] = .ok (.bl false) o := by
      unfold fn_is_capacity body_is_capacity
      walk_at "evh"
      exact ⟨_, rfl⟩
    obtain ⟨o, e2⟩ := e2
    unfold fn_check_capacity body_check_capacity
    walk_at "evh"
    exact ⟨_, rfl⟩
  · have c3 := decide_eq_false c
    rw [c3] at e
    clear h c
    have e2 : ∃ o, fn_is_capacity [.int i] = .ok (.bl false) o := by
      unfold fn_is_capacity body_is_capacity
      walk_at "evh"
      exact ⟨_, rfl⟩
    obtain ⟨o, e2⟩ := e2
    unfold fn_check_capacity body_check_capacity
    walk_at "evh"
    exact ⟨_, rfl⟩
theorem fi_no {v : D} {i : Int} {n : String} (hm : v.isMut = false) (ht : tyName v = some n) (h : (n == "int" || n == "bool") = false) : ∃ o, fn_is_integer [v, .int i] = .ok (.bl false) o := by
  have e : Option.map (fun n => D.bl (n == "int" || n == "bool")) (tyName v) = some (.bl false) := by rw [ht, Option.map_some, h]
  unfold tyName at e
  unfold fn_is_integer body_is_integer
  walk_at "evx"
  exact ⟨_, rfl⟩
theorem fi_bl {b : Bool} {i : Int} : ∃ o, fn_is_integer [.bl b, .int i] = .ok (.bl false) o := by
  have e1 : ("bool" == "int" || ("bool" == "bool" && "int" == "int")) = true := by decide
  have e2 : ("bool" == "bool" || ("bool" == "bool" && "bool" == "int")) = true := by decide
  unfold fn_is_integer body_is_integer
  walk_at "evx"
  exact ⟨_, rfl⟩
theorem cap_no {v : D} (hm : v.isMut = false) (h : ∃ o, fn_is_integer [v, .int 1] = .ok (.bl false) o) : ∃ o, fn_check_capacity [v] = .exc ⟨"InvalidCapacity", [], []⟩ o := by
  obtain ⟨o, e⟩ := h
  have e2 : ∃ o, fn_is_capacity [v] = .ok (.bl false) o := by
    unfold fn_is_capacity body_is_capacity
    walk_at "evx"
    exact ⟨_, rfl⟩
  obtain ⟨o, e2⟩ := e2
  unfold fn_check_capacity body_check_capacity
  walk_at "evx"
  exact ⟨_, rfl⟩
theorem cbad {v : D} (h : v ∈ cBad) : v.isMut = false ∧ ∃ o, fn_check_capacity [v] = .exc ⟨"InvalidCapacity", [], []⟩ o := by
  simp only [cBad, List.mem_cons, List.not_mem_nil, or_false] at h
  rcases h with rfl | rfl | rfl | rfl | rfl | rfl | rfl | rfl
  · exact ⟨rfl, cap_intN (by decide)⟩
  · exact ⟨rfl, cap_intN (by decide)⟩
  · exact ⟨rfl, cap_intN (by decide)⟩
  · exact ⟨rfl, cap_no rfl (fi_no rfl rfl (by decide))⟩
  · exact ⟨rfl, cap_no rfl fi_bl⟩
  · exact ⟨rfl, cap_no rfl (fi_no rfl rfl (by decide))⟩
  · exact ⟨rfl, cap_no rfl (fi_no rfl rfl (by decide))⟩
  · exact ⟨rfl, cap_intN (by decide)⟩
def iBad : List D := [.int (-1), .int 2, .bl true, .non, .str [48], .tup [.int 0], .int 10000000000000000000000000000000000000000, .int (-2), .bl false]
theorem gi_no {L : List Nat} {Q : List (List Nat)} {g : Nat} {v : D} (hm : v.isMut = false) (h : ∃ o, fn_is_integer [v, .int 0] = .ok (.bl false) o) : ∃ o, fn_Line_getitem [lineD L Q g, v] = .exc ⟨"InvalidInteger", [], []⟩ o := by
  obtain ⟨o, e⟩ := h
  unfold fn_Line_getitem body_Line_getitem lineD
  walk_at "evh"
  exact ⟨_, rfl⟩
theorem gi_big {L : List Nat} {a b : List Nat} {g : Nat} {i : Int} (h : 2 ≤ i) : ∃ o, fn_Line_getitem [lineD L [a, b] g, .int i] = .exc ⟨"InvalidInteger", [], []⟩ o := by
  have e := f_is_integer (i := i) (l := 0)
  rw [decide_eq_true (by omega : (0 : Int) ≤ i)] at e
  have c : decide (((0 + 1 + 1 : Nat) : Int) ≤ i) = true := decide_eq_true (by omega)
  have c2 : decide (((2 : Nat) : Int) ≤ i) = true := decide_eq_true (by omega)
  clear h
  unfold fn_Line_getitem body_Line_getitem lineD
  walk_at "evh"
  exact ⟨_, rfl⟩
theorem gi_at {L : List Nat} {a b : List Nat} {g : Nat} : (∃ o, fn_Line_getitem [lineD L [a, b] g, .int 0] = .ok (.str a) o) ∧ ∃ o, fn_Line_getitem [lineD L [a, b] g, .int 1] = .ok (.str b) o := by
  have e0 := f_is_integer (i := 0) (l := 0)
  have e1 := f_is_integer (i := 1) (l := 0)
  rw [decide_eq_true (by omega)] at e0 e1
  have c0 : decide (((0 + 1 + 1 : Nat) : Int) ≤ 0) = false := by decide
  have c1 : decide (((0 + 1 + 1 : Nat) : Int) ≤ 1) = false := by decide
  refine ⟨?_, ?_⟩ <;> unfold fn_Line_getitem body_Line_getitem lineD
  · walk_at "evh"
    exact ⟨_, rfl⟩
  · walk_at "evh"
    exact ⟨_, rfl⟩
theorem ibad {L : List Nat} {a b : List Nat} {g : Nat} {v : D} (h : v ∈ iBad) : v.isMut = false ∧ ∃ o, fn_Line_getitem [lineD L [a, b] g, v] = .exc ⟨"InvalidInteger", [], []⟩ o := by
  simp only [iBad, List.mem_cons, List.not_mem_nil, or_false] at h
  rcases h with rfl | rfl | rfl | rfl | rfl | rfl | rfl | rfl | rfl
  · exact ⟨rfl, gi_no rfl ⟨_, f_is_integer⟩⟩
  · exact ⟨rfl, gi_big (by decide)⟩
  · exact ⟨rfl, gi_no rfl fi_bl⟩
  · exact ⟨rfl, gi_no rfl (fi_no rfl rfl (by decide))⟩
  · exact ⟨rfl, gi_no rfl (fi_no rfl rfl (by decide))⟩
  · exact ⟨rfl, gi_no rfl (fi_no rfl rfl (by decide))⟩
  · exact ⟨rfl, gi_big (by decide)⟩
  · exact ⟨rfl, gi_no rfl ⟨_, f_is_integer⟩⟩
  · exact ⟨rfl, gi_no rfl fi_bl⟩
theorem bad_text {l : List Nat} (hl : l.length < 100) (h : decide (rst 100 0 l = some []) = false) : prP (.str l) = none := by
  show Q.progP l = none
  have h2 := prog_rst (l := l) (n := 100) hl
  rw [h, Q.progF_P] at h2
  cases e : Q.progP l with
  | none => rfl
  | some p => rw [e] at h2; cases h2
def nest21 : List Nat := List.replicate 21 40 ++ [41, 49, 41, 49, 41, 49, 41, 49, 41, 49, 41, 49, 41, 49, 41, 49, 41, 49, 41, 49, 41, 49, 41, 49, 41, 49, 41, 49, 41, 49, 41, 49, 41, 49, 41, 49, 41, 49, 41, 49, 41, 49]
def oBad : List D := [.non, .int 5, .str [40, 97], .str [40, 97, 41, 48, 49], .str [97, 32, 98], .str [65], .lst [.str [97]], .str [40, 97, 41], .str [97, 41, 50], .str nest21]
theorem obad {v : D} (h : v ∈ oBad) : v.isMut = false ∧ fn_items_of [v] = .exc ⟨"InvalidProgram", [], []⟩ [] := by
  simp only [oBad, List.mem_cons, List.not_mem_nil, or_false] at h
  rcases h with rfl | rfl | rfl | rfl | rfl | rfl | rfl | rfl | rfl | rfl
  · exact ⟨rfl, f_itemsY rfl rfl⟩
  · exact ⟨rfl, f_itemsY rfl rfl⟩
  · exact ⟨rfl, f_itemsY (by decide) (bad_text (by decide) (by decide +kernel))⟩
  · exact ⟨rfl, f_itemsY (by decide) (bad_text (by decide) (by decide +kernel))⟩
  · exact ⟨rfl, f_itemsY (by decide) (bad_text (by decide) (by decide +kernel))⟩
  · exact ⟨rfl, f_itemsY (by decide) (bad_text (by decide) (by decide +kernel))⟩
  · exact ⟨rfl, f_itemsY (by decide) rfl⟩
  · exact ⟨rfl, f_itemsY (by decide) (bad_text (by decide) (by decide +kernel))⟩
  · exact ⟨rfl, f_itemsY (by decide) (bad_text (by decide) (by decide +kernel))⟩
  · exact ⟨rfl, f_itemsY (by decide +kernel) (bad_text (by decide) (by decide +kernel))⟩
theorem run_pre {S v : D} (hm : v.isMut = false) (e : fn_items_of [v] = .exc ⟨"InvalidProgram", [], []⟩ []) : ∃ o, fn_Line_run_pre [.own 1 S, v] = .exc ⟨"InvalidProgram", [], []⟩ (some (.own 1 S) :: o) := by
  refine ⟨[some v], ?_⟩
  unfold fn_Line_run_pre
  walk_at "evh"
noncomputable def odE : E := eTold tb 1 hd_law_error (eMethO "Line" "run" fn_Line_run_pre 5 [.v (eVar 7)] [])
theorem od_at {v0 v1 v2 v3 v4 v6 v8 : Option D} {L : List Nat} {Q : List (List Nat)} {g : Nat} {v : D} (h : v ∈ oBad) : odE [v0, v1, v2, v3, v4, some (.own 0 (lineD L Q g)), v6, some v, v8] = .ok prgD [v0, v1, v2, v3, v4, some (.own 0 (lineD L Q g)), v6, some v, v8] := by
  obtain ⟨hm, e⟩ := obad h
  obtain ⟨o, e2⟩ := run_pre (S := lineD L Q g) hm e
  have hio : isIO "Line" "run" (some (some (.own 0 (lineD L Q g)))) = true := line_io (by decide)
  refine told_prg (ρ1 := [v0, v1, v2, v3, v4, some (.own 0 (lineD L Q g)), v6, some v, v8]) ?_
  clear h e
  generalize lineD L Q g = S at *
  walk_at "evh"
noncomputable def ixE : E := eTold tb 1 hd_law_error (eLentX (eOSub "Line" fn_Line_getitem (eVar 5) (eVar 8)))
theorem lent_line {L : List Nat} {Q : List (List Nat)} {g : Nat} : lentF (some (.own 0 (lineD L Q g))) = some (lineD L Q g) := rfl
theorem lent_pl {d : D} (h : d.isMut = false) : lentF (some d) = some d := by
  cases d <;> first | rfl | cases h
theorem ix_at5 {v0 v1 v2 v3 v4 v6 v7 : Option D} {L a b : List Nat} {g : Nat} {v : D} (h : v ∈ iBad) : ixE [v0, v1, v2, v3, v4, some (.own 0 (lineD L [a, b] g)), v6, v7, some v] = .ok intD [v0, v1, v2, v3, v4, some (.own 0 (lineD L [a, b] g)), v6, v7, some v] := by
  obtain ⟨hm, o, e⟩ := ibad (L := L) (a := a) (b := b) (g := g) h
  refine told_int (ρ1 := [v0, v1, v2, v3, v4, some (.own 0 (lineD L [a, b] g)), v6, v7, some v]) (x_lentX (ρ1 := [lentF v0, lentF v1, lentF v2, lentF v3, lentF v4, some (lineD L [a, b] g), lentF v6, lentF v7, some v]) ?_)
  have hmap : ([v0, v1, v2, v3, v4, some (.own 0 (lineD L [a, b] g)), v6, v7, some v] : Env).map lentF = [lentF v0, lentF v1, lentF v2, lentF v3, lentF v4, some (lineD L [a, b] g), lentF v6, lentF v7, some v] := by
    show [lentF v0, lentF v1, lentF v2, lentF v3, lentF v4, lentF (some (.own 0 (lineD L [a, b] g))), lentF v6, lentF v7, lentF (some v)] = _
    rw [lent_line, lent_pl hm]
  rw [hmap]
  clear hmap h
  unfold lineD at *
  generalize lentF v0 = w0
  generalize lentF v1 = w1
  generalize lentF v2 = w2
  generalize lentF v3 = w3
  generalize lentF v4 = w4
  generalize lentF v6 = w6
  generalize lentF v7 = w7
  have hi : ∀ x : D, fI "Line" fn_Line_getitem [.ins "Line" ["limits", "queues", "passed"] [.tup (List.map (fun i : Nat => D.int (i : Nat)) L), .tup (List.map D.str [a, b]), .int (g : Nat)], x] = fn_Line_getitem [.ins "Line" ["limits", "queues", "passed"] [.tup (List.map (fun i : Nat => D.int (i : Nat)) L), .tup (List.map D.str [a, b]), .int (g : Nat)], x] := fun x => by with_unfolding_all rfl
  have hi2 := hi v
  rw [e] at hi2
  have ho : ∀ c ns ds, oIn c (.ins c ns ds) = some (.ins c ns ds) := fun c ns ds => by simp [oIn]
  clear hi e
  generalize D.tup (List.map (fun i : Nat => D.int (i : Nat)) L) = X1 at *
  generalize D.tup (List.map D.str [a, b]) = X2 at *
  unfold eOSub
  generalize fI "Line" fn_Line_getitem = FI at *
  walk_at "evh"
theorem f_cont {L : List Nat} {Q : List (List Nat)} {g : Nat} : ∃ o, fn_Line_contents [lineD L Q g] = .ok (.tup (Q.map D.str)) o := by
  unfold fn_Line_contents body_Line_contents lineD
  generalize Q.map D.str = T at *
  walk_at "evh"
  exact ⟨_, rfl⟩
theorem f_gone {L : List Nat} {Q : List (List Nat)} {g : Nat} : ∃ o, fn_Line_gone [lineD L Q g] = .ok (.int (g : Nat)) o := by
  unfold fn_Line_gone body_Line_gone lineD
  generalize Q.map D.str = T at *
  walk_at "evh"
  exact ⟨_, rfl⟩
theorem seq_nx {a b : St} {ρ ρ1 : Env} (h : a ρ = .nx ρ1) : sSeq a b ρ = b ρ1 := by unfold sSeq; rw [h]; rfl
theorem if_no {a b : E} {t : St} {ρ ρ1 ρ2 : Env} {d d2 : D} (ha : a ρ = .ok d ρ1) (hb : b ρ1 = .ok d2 ρ2) (h : oNe d d2 = some (.bl false)) : sIf (eOp oNe a b) t sNil ρ = .nx ρ2 := by
  unfold sIf
  rw [op_at ha hb h]
  rfl
theorem set_at {i : Nat} {a : E} {ρ ρ1 ρ2 : Env} {d : D} (ha : a ρ = .ok d ρ1) (h : U.put i d ρ1 = some ρ2) : sSet i a ρ = .nx ρ2 := by
  unfold sSet
  rw [ha]
  simp only [ER.binds, h]
theorem ne_cap : oNe capD capD = some (.bl false) := by with_unfolding_all rfl
theorem ne_prg : oNe prgD prgD = some (.bl false) := by with_unfolding_all rfl
theorem ne_int : oNe intD intD = some (.bl false) := by with_unfolding_all rfl
theorem ne_l0 : oNe (limD 0) (limD 0) = some (.bl false) := by with_unfolding_all rfl
theorem ne_l9 : oNe (limD 9) (limD 9) = some (.bl false) := by with_unfolding_all rfl
noncomputable def capE : E := (eFrz (eN mkLst (aCons (eC (.str [99, 97, 112, 97, 99, 105, 116, 121])) (aCons (eC (.bl true)) aNil))))
noncomputable def prgE : E := (eFrz (eN mkLst (aCons (eC (.str [112, 114, 111, 103, 114, 97, 109])) (aCons (eC (.bl true)) aNil))))
noncomputable def intE : E := (eFrz (eN mkLst (aCons (eC (.str [105, 110, 116, 101, 103, 101, 114])) (aCons (eC (.bl true)) aNil))))
noncomputable def limE (n : Int) : E := (eFrz (eN mkLst (aCons (eC (.str [108, 105, 109, 105, 116])) (aCons (eC (.int n)) (aCons (eC (.bl false)) aNil)))))
theorem capE_at {ρ : Env} : capE ρ = .ok capD ρ := by with_unfolding_all rfl
theorem prgE_at {ρ : Env} : prgE ρ = .ok prgD ρ := by with_unfolding_all rfl
theorem intE_at {ρ : Env} : intE ρ = .ok intD ρ := by with_unfolding_all rfl
theorem limE_at {n : Int} {ρ : Env} : limE n ρ = .ok (limD n) ρ := by with_unfolding_all rfl
noncomputable def a8 : As := (aCons (eC (.int 1)) (aCons (eC (.int 1)) (aCons (eC (.int 1)) (aCons (eC (.int 1)) (aCons (eC (.int 1)) (aCons (eC (.int 1)) (aCons (eC (.int 1)) (aCons (eC (.int 100)) aNil))))))))
noncomputable def a9 : As := (aCons (eC (.int 1)) (aCons (eC (.int 2)) (aCons (eC (.int 3)) (aCons (eC (.int 4)) (aCons (eC (.int 5)) (aCons (eC (.int 6)) (aCons (eC (.int 7)) (aCons (eC (.int 8)) (aCons (eC (.int 9)) aNil)))))))))
noncomputable def a11 : As := (aCons (eC (.int 1)) (aCons (eC (.int 2)) (aCons (eC (.int 3)) (aCons (eC (.int 4)) (aCons (eC (.int 5)) (aCons (eC (.int 6)) (aCons (eC (.int 7)) (aCons (eC (.int 8)) (aCons (eC (.int 9)) (aCons (eC (.int 10)) (aCons (eVar 0) aNil)))))))))))
def tx10 : List Nat := [97, 98, 99, 100, 101, 102, 103, 104, 105, 106]
noncomputable def ctE : E := (eLentA (eOp oEq (eUn (oProp "Line" fn_Line_contents) (eVar 1)) (eN mkTup (aCons (eC (.str [106])) (aCons (eC (.str [105])) (aCons (eC (.str [104])) (aCons (eC (.str [103])) (aCons (eC (.str [102])) (aCons (eC (.str [101])) (aCons (eC (.str [100])) (aCons (eC (.str [97, 98, 99])) aNil)))))))))))
noncomputable def gnE : E := (eLentA (eOp oEq (eUn (oProp "Line" fn_Line_gone) (eVar 1)) (eC (.int 0))))
theorem sizes_eq : body_law_sizes_right = (sSeq (sIf (eOp oNe (eTold tb 1 hd_law_error (eMake "Line" fn_Line_init aNil [])) (limE 0)) (sRet (eC (.bl false))) sNil)
    (sSeq (sIf (eOp oNe (eTold tb 1 hd_law_error (eMake "Line" fn_Line_init a9 [])) (limE 9)) (sRet (eC (.bl false))) sNil)
    (sSeq (sIf (eOp oNe (eTold tb 1 hd_law_error (eMake "Line" fn_Line_init a11 [])) capE) (sRet (eC (.bl false))) sNil)
    (sSeq (sSet 1 (eMake "Line" fn_Line_init a8 []))
    (sSeq (sDrop (eMethO "Line" "run" fn_Line_run 1 [.v (eC (.str tx10))] []))
    (sRet (eAnd (eFrz ctE) (eFrz gnE)))))))) := rfl
theorem mk_lineS {as : As} {ds : List D} {ρ ρ1 o : Env} {l0 : Nat} {Lr F : List Nat} (ha : as ρ = .ok ds ρ1) (h : fn_Line_init (.own 1 (.ins "Line" [] []) :: ds) = .ok .non (some (.own 1 (lineS l0 Lr F)) :: o)) : eMake "Line" fn_Line_init as [] ρ = .ok (.own 0 (lineS l0 Lr F)) ρ1 := by
  rw [v_make, ha]
  show mkR "Line" ρ1 (fn_Line_init (.own 1 (.ins "Line" [] []) :: (ds ++ []))) = _
  rw [List.append_nil, h]
  rfl
def q8 : List (List Nat) := [[106], [105], [104], [103], [102], [101], [100], [97, 98, 99]]
theorem ct_at {bad : D} {L : List Nat} {g : Nat} (hm : bad.isMut = false) : ctE [some bad, some (.own 0 (lineD L q8 g))] = .ok (.bl true) [some bad, some (.own 0 (lineD L q8 g))] := by
  obtain ⟨o, e⟩ := f_cont (L := L) (Q := q8) (g := g)
  refine v_lentA (ρ1 := [some bad, some (lineD L q8 g)]) ?_ rfl
  have hmap : ([some bad, some (.own 0 (lineD L q8 g))] : Env).map lentF = [some bad, some (lineD L q8 g)] := by
    show [lentF (some bad), lentF (some (.own 0 (lineD L q8 g)))] = _
    rw [lent_line, lent_pl hm]
  rw [hmap]
  have h1 : (lineD L q8 g).isMut = false := rfl
  have hp : oProp "Line" fn_Line_contents (lineD L q8 g) = some (.tup (q8.map D.str)) := by
    unfold lineD at *
    simp only [oProp]
    rw [e]
    rfl
  have a1 : eUn (oProp "Line" fn_Line_contents) (eVar 1) [some bad, some (lineD L q8 g)] = .ok (.tup (q8.map D.str)) [some bad, some (lineD L q8 g)] := by
    show lift (oProp "Line" fn_Line_contents (lineD L q8 g)) _ = _
    rw [hp]
    rfl
  exact op_at a1 (y := .tup (q8.map D.str)) (by with_unfolding_all rfl) (by with_unfolding_all rfl)
theorem gn_at {bad : D} {L : List Nat} {Q : List (List Nat)} (hm : bad.isMut = false) : gnE [some bad, some (.own 0 (lineD L Q 0))] = .ok (.bl true) [some bad, some (.own 0 (lineD L Q 0))] := by
  obtain ⟨o, e⟩ := f_gone (L := L) (Q := Q) (g := 0)
  refine v_lentA (ρ1 := [some bad, some (lineD L Q 0)]) ?_ rfl
  have hmap : ([some bad, some (.own 0 (lineD L Q 0))] : Env).map lentF = [some bad, some (lineD L Q 0)] := by
    show [lentF (some bad), lentF (some (.own 0 (lineD L Q 0)))] = _
    rw [lent_line, lent_pl hm]
  rw [hmap]
  have hp : oProp "Line" fn_Line_gone (lineD L Q 0) = some (.int 0) := by
    unfold lineD at *
    simp only [oProp]
    rw [e]
    rfl
  have a1 : eUn (oProp "Line" fn_Line_gone) (eVar 1) [some bad, some (lineD L Q 0)] = .ok (.int 0) [some bad, some (lineD L Q 0)] := by
    show lift (oProp "Line" fn_Line_gone (lineD L Q 0)) _ = _
    rw [hp]
    rfl
  exact op_at a1 (y := .int 0) rfl (by with_unfolding_all rfl)
theorem f_sizes {bad : D} (h : bad ∈ cBad) : ∃ o, fn_law_sizes_right [bad] = .ok (.bl true) o := by
  obtain ⟨hm, hb⟩ := cbad h
  have G : LG 1 [1, 1, 1, 1, 1, 1, 100] := ⟨by decide, by decide, by decide, by decide⟩
  obtain ⟨o1, e1⟩ := init_many (L := []) (fun l hl => by cases hl) (by decide) (by decide)
  obtain ⟨o2, e2⟩ := init_many (L := [1, 2, 3, 4, 5, 6, 7, 8, 9]) (by decide) (by decide) (by decide)
  obtain ⟨o3, e3⟩ := init_bad (L := [1, 2, 3, 4, 5, 6, 7, 8, 9, 10]) (rest := []) hm hb (by decide) (by cases bad <;> first | rfl | cases hm) (by simp)
  obtain ⟨o4, e4⟩ := f_linit G
  obtain ⟨p, hp, hw⟩ := prog_seq (l := tx10) (by decide)
  have hok : okL 1 ([] ++ p.wr) := by rw [hw]; show _root_.Q.runs (_root_.Q.fiveF ([] ++ tx10)) ((1 : Nat) : Int) false 0 = true; decide +kernel
  obtain ⟨o5, e5⟩ := f_run_ok G ok_nil (by decide) hp hok
  rw [hw, List.nil_append] at e5
  have hq : queL 1 [1, 1, 1, 1, 1, 1, 100] tx10 = q8 := by decide +kernel
  have hg : goneL 1 [1, 1, 1, 1, 1, 1, 100] tx10 = 0 := by decide +kernel
  have hS : lineS 1 [1, 1, 1, 1, 1, 1, 100] tx10 = lineD [1, 1, 1, 1, 1, 1, 1, 100] q8 0 := by unfold lineS; rw [hq, hg]
  rw [hS] at e5
  have hv : eVar 0 [some bad, none] = .ok bad [some bad, none] := by
    unfold eVar
    cases bad <;> first | rfl | cases hm
  have h11 : a11 [some bad, none] = .ok (([1, 2, 3, 4, 5, 6, 7, 8, 9, 10].map fun i : Nat => D.int (i : Nat)) ++ [bad]) [some bad, none] := by
    have : ∀ x : ER, x = .ok bad [some bad, none] → x.bindA (fun x ρ1 => (aNil ρ1).bindA fun xs ρ2 => .ok (x :: xs) ρ2) = .ok [bad] [some bad, none] := fun x hx => by rw [hx]; rfl
    have h2 := this _ hv
    have h3 : aCons (eVar 0) aNil [some bad, none] = .ok [bad] [some bad, none] := h2
    unfold a11
    generalize aCons (eVar 0) aNil = AA at *
    clear h2 this e1 e2 e3 e4 e5 hS hq hg hok hw hp G h hb
    walk_at "evh"
    rfl
  have s1 := if_no (t := sRet (eC (.bl false))) (tk_many (ρ := [some bad, none]) (as := aNil) (ds := []) rfl e1) (limE_at (n := 0)) ne_l0
  have s2 := if_no (t := sRet (eC (.bl false))) (tk_many (ρ := [some bad, none]) (as := a9) (ds := [1, 2, 3, 4, 5, 6, 7, 8, 9].map fun i : Nat => D.int (i : Nat)) rfl e2) (limE_at (n := 9)) ne_l9
  have s3 := if_no (t := sRet (eC (.bl false))) (tk_make (ρ := [some bad, none]) h11 e3) capE_at ne_cap
  have s4 : sSet 1 (eMake "Line" fn_Line_init a8 []) [some bad, none] = .nx [some bad, some (.own 0 (lineS 1 [1, 1, 1, 1, 1, 1, 100] []))] :=
    set_at (mk_lineS (ρ := [some bad, none]) (as := a8) (ds := [1, 1, 1, 1, 1, 1, 1, 100].map fun i : Nat => D.int (i : Nat)) rfl e4) rfl
  have hio : isIO "Line" "run" (some (some (.own 0 (lineS 1 [1, 1, 1, 1, 1, 1, 100] [])))) = true := line_io (by decide)
  have s5 : sDrop (eMethO "Line" "run" fn_Line_run 1 [.v (eC (.str tx10))] []) [some bad, some (.own 0 (lineS 1 [1, 1, 1, 1, 1, 1, 100] []))] = .nx [some bad, some (.own 0 (lineD [1, 1, 1, 1, 1, 1, 1, 100] q8 0))] := by
    clear s1 s2 s3 s4 e1 e2 e3 e4 hS hq hg hok hw hp G h hb hv h11
    generalize lineS 1 [1, 1, 1, 1, 1, 1, 100] [] = S0 at *
    generalize lineD [1, 1, 1, 1, 1, 1, 1, 100] q8 0 = S1 at *
    generalize tx10 = TX at *
    walk_at "evh"
  have c1 := ct_at (L := [1, 1, 1, 1, 1, 1, 1, 100]) (g := 0) hm
  have c2 := gn_at (L := [1, 1, 1, 1, 1, 1, 1, 100]) (Q := q8) hm
  have s6 : sRet (eAnd (eFrz ctE) (eFrz gnE)) [some bad, some (.own 0 (lineD [1, 1, 1, 1, 1, 1, 1, 100] q8 0))] = .rt (.bl true) [some bad, some (.own 0 (lineD [1, 1, 1, 1, 1, 1, 1, 100] q8 0))] := by
    clear s1 s2 s3 s4 s5 e1 e2 e3 e4 e5 hS hq hg hok hw hp G h hb hv h11 hio
    generalize lineD [1, 1, 1, 1, 1, 1, 1, 100] q8 0 = S1 at *
    generalize ctE = C1 at *
    generalize gnE = C2 at *
    walk_at "evh"
  refine ⟨[some bad], ?_⟩
  unfold fn_law_sizes_right
  rw [v_fn, if_pos (show [bad].length = 1 from rfl)]
  have hb2 : body_law_sizes_right [some bad, none] = .rt (.bl true) [some bad, some (.own 0 (lineD [1, 1, 1, 1, 1, 1, 1, 100] q8 0))] := by
    rw [sizes_eq, seq_nx s1, seq_nx s2, seq_nx s3, seq_nx s4, seq_nx s5, s6]
  show endF_ 1 (body_law_sizes_right [some bad, none]) = _
  rw [hb2]
  rfl
noncomputable def bdL : E := (eFrz (eN mkLst (aCons (eC (.int 0)) (aCons (eC (.int 101)) (aCons (eUn oNeg (eC (.int 1))) (aCons (eC .non) (aCons (eC (.bl true)) (aCons (eC (.str [51])) (aCons (eN mkTup (aCons (eC (.int 3)) aNil)) (aCons (eOp oPow (eC (.int 10)) (eC (.int 40))) aNil))))))))))
noncomputable def odL : E := (eFrz (eN mkLst (aCons (eC .non) (aCons (eC (.int 5)) (aCons (eC (.str [40, 97])) (aCons (eC (.str [40, 97, 41, 48, 49])) (aCons (eC (.str [97, 32, 98])) (aCons (eC (.str [65])) (aCons (eFrz (eN mkLst (aCons (eC (.str [97])) aNil))) (aCons (eC (.str [40, 97, 41])) (aCons (eC (.str [97, 41, 50])) (aCons (eOp oAddS (eOp oMulS (eC (.str [40])) (eC (.int 21))) (eOp oMulS (eC (.str [41, 49])) (eC (.int 21)))) aNil))))))))))))
noncomputable def ixL : E := (eFrz (eN mkLst (aCons (eUn oNeg (eC (.int 1))) (aCons (eC (.int 2)) (aCons (eC (.bl true)) (aCons (eC .non) (aCons (eC (.str [48])) (aCons (eN mkTup (aCons (eC (.int 0)) aNil)) (aCons (eOp oPow (eC (.int 10)) (eC (.int 40))) (aCons (eUn oNeg (eC (.int 2))) (aCons (eC (.bl false)) aNil)))))))))))
theorem bdL_at {ρ : Env} : bdL ρ = .ok (.lst cBad) ρ := by with_unfolding_all rfl
theorem odL_at {ρ : Env} : odL ρ = .ok (.lst oBad) ρ := by with_unfolding_all rfl
theorem pick_at {a : E} {l : List D} {k : Int} {v0 v1 v3 v4 v5 v6 v7 v8 : Option D} {P : D} (ha : ∀ ρ, a ρ = .ok (.lst l) ρ) (hP : Pool P) (hk : k = l.length) (h1 : 1 ≤ l.length) (h2 : l.length ≤ 1000) : ∃ P' v, Pool P' ∧ v ∈ l ∧
    eOp oIxL a (eFrz (eCall fn_law_take [.b 2, .v (eC (.int k))] [])) [v0, v1, some (.own 0 P), v3, v4, v5, v6, v7, v8] = .ok v [v0, v1, some (.own 0 P'), v3, v4, v5, v6, v7, v8] := by
  obtain ⟨y, P', hP', hy, e⟩ := tke hP k (by omega) (by omega)
  have hyl : y < l.length := by omega
  refine ⟨P', l[y], hP', List.getElem_mem hyl, ?_⟩
  have e2 : eFrz (eCall fn_law_take [.b 2, .v (eC (.int k))] []) [v0, v1, some (.own 0 P), v3, v4, v5, v6, v7, v8] = .ok (.int (y : Nat)) [v0, v1, some (.own 0 P'), v3, v4, v5, v6, v7, v8] := by
    clear hy hk
    walk_at "evh"
  refine op_at (ha _) e2 ?_
  show atD l ((y : Nat) : Int) = some l[y]
  rw [atD_nat, List.getElem?_eq_getElem hyl]
noncomputable def kpE : E := (eLentA (eN mkLst (aCons (eUn (oProp "Line" fn_Line_contents) (eVar 5)) (aCons (eUn (oProp "Line" fn_Line_gone) (eVar 5)) aNil))))
noncomputable def kcE : E := (eLentA (eOp oNe (eFrz (eN mkLst (aCons (eUn (oProp "Line" fn_Line_contents) (eVar 5)) (aCons (eUn (oProp "Line" fn_Line_gone) (eVar 5)) aNil)))) (eVar 6)))
noncomputable def smE : E := (eLentA (eOp oNe (eOp oAddS (eFrz (eOSub "Line" fn_Line_getitem (eVar 5) (eC (.int 0)))) (eFrz (eOSub "Line" fn_Line_getitem (eVar 5) (eC (.int 1))))) (eOp oAddS (eOp oIxT (eUn (oProp "Line" fn_Line_contents) (eVar 5)) (eC (.int 0))) (eOp oIxT (eUn (oProp "Line" fn_Line_contents) (eVar 5)) (eC (.int 1))))))
theorem turn1_eq : turn_law_1 = sIf (eOp oNe ixE intE) (sRet (eC (.bl false))) sNil := rfl
theorem turn2_eq : turn_law_2 = (sSeq (sSet 2 (eCall fn_law_pool [.v (eVar 0), .v (eVar 1)] []))
    (sSeq (sSet 3 (eOp oIxL bdL (eFrz (eCall fn_law_take [.b 2, .v (eC (.int 8))] []))))
    (sSeq (sIf (eOr (eOp oNe (eTold tb 1 hd_law_error (eMake "Line" fn_Line_init (aCons (eVar 3) aNil) [])) capE) (eUn oNot (eFrz (eCall fn_law_sizes_right [.v (eVar 3)] []))))
    (sRet (eC (.bl false)))
    sNil)
    (sSeq (sIf (eOp oNe (eTold tb 1 hd_law_error (eMake "Line" fn_Line_init (aCons (eC (.int 5)) (aCons (eVar 3) (aCons (eC .non) aNil))) [])) capE)
    (sRet (eC (.bl false)))
    sNil)
    (sSeq (sSet 4 (eOp oAdd (eC (.int 1)) (eFrz (eCall fn_law_take [.b 2, .v (eC (.int 100))] []))))
    (sSeq (sSet 5 (eMake "Line" fn_Line_init (aCons (eVar 4) (aCons (eC (.int 7)) aNil)) []))
    (sSeq (sDrop (eMethO "Line" "run" fn_Line_run 5 [.v (eC (.str [40, 97, 98, 41, 51]))] []))
    (sSeq (sSet 6 (eFrz kpE))
    (sSeq (sSet 7 (eOp oIxL odL (eFrz (eCall fn_law_take [.b 2, .v (eC (.int 10))] []))))
    (sSeq (sIf (eOp oNe odE prgE)
    (sRet (eC (.bl false)))
    sNil)
    (sSeq (sFor (iOf itL ixL) (gVar 8) turn_law_1)
    (sIf (eOr kcE smE)
    (sRet (eC (.bl false)))
    sNil)))))))))))) := rfl
theorem ne_str (x : List Nat) : oNe (.str x) (.str x) = some (.bl false) := by
  simp [oNe, okD, D.eqv, eqvs]
theorem ne_kt (a b : List Nat) (g : Nat) : oNe (.lst [.tup [.str a, .str b], .int (g : Nat)]) (.lst [.tup [.str a, .str b], .int (g : Nat)]) = some (.bl false) := by
  simp [oNe, okD, D.eqv, eqvs]
def ktD (a b : List Nat) (g : Nat) : D := .lst [.tup [.str a, .str b], .int (g : Nat)]
theorem lmap {v0 v1 v2 v3 v4 v6 v7 v8 : Option D} {L a b : List Nat} {g : Nat} : ([v0, v1, v2, v3, v4, some (.own 0 (lineD L [a, b] g)), v6, v7, v8] : Env).map lentF = [lentF v0, lentF v1, lentF v2, lentF v3, lentF v4, some (lineD L [a, b] g), lentF v6, lentF v7, lentF v8] := rfl
theorem pr_cont {v0 v1 v2 v3 v4 v6 v7 v8 : Option D} {L a b : List Nat} {g : Nat} : eUn (oProp "Line" fn_Line_contents) (eVar 5) [v0, v1, v2, v3, v4, some (lineD L [a, b] g), v6, v7, v8] = .ok (.tup [.str a, .str b]) [v0, v1, v2, v3, v4, some (lineD L [a, b] g), v6, v7, v8] := by
  obtain ⟨o, e⟩ := f_cont (L := L) (Q := [a, b]) (g := g)
  have hp : oProp "Line" fn_Line_contents (lineD L [a, b] g) = some (.tup ([a, b].map D.str)) := by
    unfold lineD at *
    simp only [oProp]
    rw [e]
    rfl
  show lift (oProp "Line" fn_Line_contents (lineD L [a, b] g)) _ = _
  rw [hp]
  rfl
theorem pr_gone {v0 v1 v2 v3 v4 v6 v7 v8 : Option D} {L a b : List Nat} {g : Nat} : eUn (oProp "Line" fn_Line_gone) (eVar 5) [v0, v1, v2, v3, v4, some (lineD L [a, b] g), v6, v7, v8] = .ok (.int (g : Nat)) [v0, v1, v2, v3, v4, some (lineD L [a, b] g), v6, v7, v8] := by
  obtain ⟨o, e⟩ := f_gone (L := L) (Q := [a, b]) (g := g)
  have hp : oProp "Line" fn_Line_gone (lineD L [a, b] g) = some (.int (g : Nat)) := by
    unfold lineD at *
    simp only [oProp]
    rw [e]
    rfl
  show lift (oProp "Line" fn_Line_gone (lineD L [a, b] g)) _ = _
  rw [hp]
  rfl
theorem acons_at {a : E} {r : As} {ρ ρ1 ρ2 : Env} {d : D} {ds : List D} (ha : a ρ = .ok d ρ1) (hr : r ρ1 = .ok ds ρ2) : aCons a r ρ = .ok (d :: ds) ρ2 := by
  unfold aCons
  rw [ha]
  simp only [ER.bindA, hr, AR.bindA]
theorem lst_at {r : As} {ρ ρ1 : Env} {ds : List D} (hr : r ρ = .ok ds ρ1) (hn : ds.length ≤ 1000) : eN mkLst r ρ = .ok (.own 0 (.lst ds)) ρ1 := by
  unfold eN
  rw [hr]
  simp only [AR.bind]
  have : mkLst ds = some (.own 0 (.lst ds)) := by
    unfold mkLst
    rw [if_pos (by show ds.length ≤ 16777216; omega)]
  rw [this]
  rfl
theorem kp_at {v0 v1 v2 v3 v4 v6 v7 v8 : Option D} {L a b : List Nat} {g : Nat} : kpE [v0, v1, v2, v3, v4, some (.own 0 (lineD L [a, b] g)), v6, v7, v8] = .ok (.own 0 (ktD a b g)) [v0, v1, v2, v3, v4, some (.own 0 (lineD L [a, b] g)), v6, v7, v8] := by
  refine v_lentA (ρ1 := [lentF v0, lentF v1, lentF v2, lentF v3, lentF v4, some (lineD L [a, b] g), lentF v6, lentF v7, lentF v8]) ?_ rfl
  rw [lmap]
  exact lst_at (acons_at pr_cont (acons_at pr_gone rfl)) (by simp)
theorem kc_at {v0 v1 v2 v3 v4 v7 v8 : Option D} {L a b : List Nat} {g : Nat} : kcE [v0, v1, v2, v3, v4, some (.own 0 (lineD L [a, b] g)), some (ktD a b g), v7, v8] = .ok (.bl false) [v0, v1, v2, v3, v4, some (.own 0 (lineD L [a, b] g)), some (ktD a b g), v7, v8] := by
  refine v_lentA (ρ1 := [lentF v0, lentF v1, lentF v2, lentF v3, lentF v4, some (lineD L [a, b] g), some (ktD a b g), lentF v7, lentF v8]) ?_ rfl
  rw [lmap]
  have h1 := lst_at (acons_at (pr_cont (v0 := lentF v0) (v1 := lentF v1) (v2 := lentF v2) (v3 := lentF v3) (v4 := lentF v4) (v6 := some (ktD a b g)) (v7 := lentF v7) (v8 := lentF v8) (L := L) (a := a) (b := b) (g := g)) (acons_at pr_gone (r := aNil) rfl)) (by simp)
  have h2 : eFrz (eN mkLst (aCons (eUn (oProp "Line" fn_Line_contents) (eVar 5)) (aCons (eUn (oProp "Line" fn_Line_gone) (eVar 5)) aNil))) [lentF v0, lentF v1, lentF v2, lentF v3, lentF v4, some (lineD L [a, b] g), some (ktD a b g), lentF v7, lentF v8] = .ok (ktD a b g) [lentF v0, lentF v1, lentF v2, lentF v3, lentF v4, some (lineD L [a, b] g), some (ktD a b g), lentF v7, lentF v8] := by
    unfold eFrz
    rw [h1]
    rfl
  exact op_at h2 (y := ktD a b g) rfl (ne_kt a b g)
theorem it_at {v0 v1 v2 v3 v4 v6 v7 v8 : Option D} {L a b : List Nat} {g : Nat} {i : Int} {x : List Nat} (e : ∃ o, fn_Line_getitem [lineD L [a, b] g, .int i] = .ok (.str x) o) : eFrz (eOSub "Line" fn_Line_getitem (eVar 5) (eC (.int i))) [v0, v1, v2, v3, v4, some (lineD L [a, b] g), v6, v7, v8] = .ok (.str x) [v0, v1, v2, v3, v4, some (lineD L [a, b] g), v6, v7, v8] := by
  obtain ⟨o, e⟩ := e
  have hi : fI "Line" fn_Line_getitem [lineD L [a, b] g, .int i] = fn_Line_getitem [lineD L [a, b] g, .int i] := by with_unfolding_all rfl
  rw [e] at hi
  have ho : oIn "Line" (lineD L [a, b] g) = some (lineD L [a, b] g) := by simp [oIn, lineD]
  have hm : (lineD L [a, b] g).isMut = false := rfl
  clear e
  generalize lineD L [a, b] g = S at *
  unfold eOSub
  generalize fI "Line" fn_Line_getitem = FI at *
  walk_at "evh"
theorem sm_at {v0 v1 v2 v3 v4 v6 v7 v8 : Option D} {L a b : List Nat} {g : Nat} (hn : a.length + b.length ≤ 1000) : smE [v0, v1, v2, v3, v4, some (.own 0 (lineD L [a, b] g)), v6, v7, v8] = .ok (.bl false) [v0, v1, v2, v3, v4, some (.own 0 (lineD L [a, b] g)), v6, v7, v8] := by
  refine v_lentA (ρ1 := [lentF v0, lentF v1, lentF v2, lentF v3, lentF v4, some (lineD L [a, b] g), lentF v6, lentF v7, lentF v8]) ?_ rfl
  rw [lmap]
  have hl : (a ++ b).length ≤ 100000 := by rw [List.length_append]; omega
  refine op_at (add_at (it_at gi_at.1) (it_at gi_at.2) hl) (add_at (op_at pr_cont rfl rfl) (op_at pr_cont rfl rfl) hl) (ne_str (a ++ b))
theorem ix_loop {v0 v1 v2 v3 v4 v6 v7 : Option D} {L a b : List Nat} {g : Nat} : ∀ (ds : List D) (v8 : Option D), Fre v8 → (∀ d ∈ ds, d ∈ iBad) →
    ∃ v8', Fre v8' ∧ forL (gVar 8) turn_law_1 ds [v0, v1, v2, v3, v4, some (.own 0 (lineD L [a, b] g)), v6, v7, v8] = .nx [v0, v1, v2, v3, v4, some (.own 0 (lineD L [a, b] g)), v6, v7, v8']
  | [], v8, h8, _ => ⟨v8, h8, rfl⟩
  | d :: ds, v8, h8, hd => by
    have hm := (ibad (L := L) (a := a) (b := b) (g := g) (hd d List.mem_cons_self)).1
    obtain ⟨v8', h8', ih⟩ := ix_loop (v0 := v0) (v1 := v1) (v2 := v2) (v3 := v3) (v4 := v4) (v6 := v6) (v7 := v7) (L := L) (a := a) (b := b) (g := g) ds (some d) (fre_pl hm) fun x hx => hd x (List.mem_cons_of_mem _ hx)
    refine ⟨v8', h8', ?_⟩
    have e := ix_at5 (v0 := v0) (v1 := v1) (v2 := v2) (v3 := v3) (v4 := v4) (v6 := v6) (v7 := v7) (L := L) (a := a) (b := b) (g := g) (hd d List.mem_cons_self)
    have ht : (toFl (gVar 8 d [v0, v1, v2, v3, v4, some (.own 0 (lineD L [a, b] g)), v6, v7, v8])).bind turn_law_1 = .nx [v0, v1, v2, v3, v4, some (.own 0 (lineD L [a, b] g)), v6, v7, some d] := by
      have hg : gVar 8 d [v0, v1, v2, v3, v4, some (.own 0 (lineD L [a, b] g)), v6, v7, v8] = some [v0, v1, v2, v3, v4, some (.own 0 (lineD L [a, b] g)), v6, v7, some d] := v_putF (i := 8) (d := d) (ρ := [v0, v1, v2, v3, v4, some (.own 0 (lineD L [a, b] g)), v6, v7, v8]) h8
      rw [hg]
      show turn_law_1 _ = _
      rw [turn1_eq]
      exact if_no e intE_at ne_int
    rw [v_fl1, ht, v_fkN, ih]
def ab3 : List Nat := [97, 98, 97, 98, 97, 98]
theorem prog_ab3 : ∃ p, _root_.Q.progP [40, 97, 98, 41, 51] = some p ∧ p.wr = ab3 := by
  obtain ⟨p, h1, h2⟩ := prog_apN (l := []) (b := [97, 98]) (k := 3) (fun c hc => by cases hc) (by decide) (by decide)
  refine ⟨p, ?_, ?_⟩
  · have e : decL 3 = [51] := by decide +kernel
    rw [← h1, e]
    rfl
  · rw [h2]; decide +kernel
theorem ok_ab3 {l0 : Nat} : okL l0 ([] ++ ab3) := by
  have h : _root_.Q.fiveF ([] ++ ab3) = ⟨6, 0, 0, 6, 0⟩ := by decide +kernel
  show _root_.Q.runs (_root_.Q.fiveF ([] ++ ab3)) ((l0 : Nat) : Int) false 0 = true
  rw [h]
  unfold _root_.Q.runs _root_.Q.rangeF
  simp
theorem two_q {l0 : Nat} (h : okL l0 ab3) (h1 : l0 ≤ 100) : ∃ a b, queL l0 [7] ab3 = [a, b] ∧ a.length + b.length ≤ 1000 := by
  obtain ⟨q0, Qr, e1, e2, e3, e4⟩ := que_cons (Lr := [7]) h
  have e5 := (enL_at h).2.1
  rcases Qr with _ | ⟨b, _ | ⟨c, r⟩⟩
  · simp at e4
  · refine ⟨q0, b, e1, ?_⟩
    have := lns_le [7] ((putsL ab3).length - enL l0 ab3)
    rw [← e3] at this
    simp at this
    omega
  · simp at e4
theorem t_turn {ns : List Int} (hns : ns.length ≤ 63) {k : Nat} (hk : k ≤ 1000) {v2 v3 v4 v5 v6 v7 v8 : Option D} (o2 : Fre v2) (o3 : Fre v3) (o4 : Fre v4) (o5 : Fre v5) (o6 : Fre v6) (o7 : Fre v7) (o8 : Fre v8) :
    ∃ r, FrE 8 r ∧ turn_law_2 [some (.scr ns), some (.int (k : Nat)), v2, v3, v4, v5, v6, v7, v8] = .nx (some (.scr ns) :: r) := by
  obtain ⟨P, e1, hP⟩ := pool_all (ns := ns) (k := (k : Nat)) hns (by omega) (by omega)
  have s1 : sSet 2 (eCall fn_law_pool [.v (eVar 0), .v (eVar 1)] []) [some (.scr ns), some (.int (k : Nat)), v2, v3, v4, v5, v6, v7, v8] = .nx [some (.scr ns), some (.int (k : Nat)), some (.own 0 P), v3, v4, v5, v6, v7, v8] := by
    clear hns hk hP
    walk_at "evh"
  obtain ⟨P2, bad, hP2, hbad, e2⟩ := pick_at (v0 := some (.scr ns)) (v1 := some (.int (k : Nat))) (v3 := v3) (v4 := v4) (v5 := v5) (v6 := v6) (v7 := v7) (v8 := v8) (k := 8) (fun _ => bdL_at) hP rfl (by decide) (by decide)
  obtain ⟨hm, hcb⟩ := cbad hbad
  have s2 := set_at (i := 3) (ρ2 := [some (.scr ns), some (.int (k : Nat)), some (.own 0 P2), some bad, v4, v5, v6, v7, v8]) e2 (v_putF (i := 3) (d := bad) (ρ := [some (.scr ns), some (.int (k : Nat)), some (.own 0 P2), v3, v4, v5, v6, v7, v8]) o3)
  obtain ⟨ob, eb⟩ := init_bad (L := []) (rest := []) hm hcb (by decide) (by cases bad <;> first | rfl | cases hm) (by simp)
  obtain ⟨oc, ec⟩ := init_bad (L := [5]) (rest := [.non]) hm hcb (by decide) (by cases bad <;> first | rfl | cases hm) (by simp)
  obtain ⟨os, es⟩ := f_sizes hbad
  have hv3 : eVar 3 [some (.scr ns), some (.int (k : Nat)), some (.own 0 P2), some bad, v4, v5, v6, v7, v8] = .ok bad [some (.scr ns), some (.int (k : Nat)), some (.own 0 P2), some bad, v4, v5, v6, v7, v8] := by
    clear s1 s2 e1 e2 eb ec es hns hk hP hP2 hcb
    walk_at "evh"
  have t3 := tk_make (as := aCons (eVar 3) aNil) (acons_at hv3 rfl) eb
  have t4 := tk_make (as := aCons (eC (.int 5)) (aCons (eVar 3) (aCons (eC .non) aNil))) (acons_at rfl (acons_at hv3 (acons_at rfl rfl))) ec
  have s3 : sIf (eOr (eOp oNe (eTold tb 1 hd_law_error (eMake "Line" fn_Line_init (aCons (eVar 3) aNil) [])) capE) (eUn oNot (eFrz (eCall fn_law_sizes_right [.v (eVar 3)] [])))) (sRet (eC (.bl false))) sNil [some (.scr ns), some (.int (k : Nat)), some (.own 0 P2), some bad, v4, v5, v6, v7, v8] = .nx [some (.scr ns), some (.int (k : Nat)), some (.own 0 P2), some bad, v4, v5, v6, v7, v8] := by
    have t5 := op_at t3 capE_at ne_cap
    clear s1 s2 e1 e2 eb ec hns hk hP hP2 hcb t3 t4
    generalize eOp oNe (eTold tb 1 hd_law_error (eMake "Line" fn_Line_init (aCons (eVar 3) aNil) [])) capE = TT at *
    walk_at "evh"
  have s4 := if_no (t := sRet (eC (.bl false))) t4 capE_at ne_cap
  obtain ⟨y, P3, hP3, hy, e5⟩ := tke hP2 100 (by decide) (by decide)
  have hyI : (1 : Int) + ((y : Nat) : Int) = ((1 + y : Nat) : Int) := by omega
  have s5 : sSet 4 (eOp oAdd (eC (.int 1)) (eFrz (eCall fn_law_take [.b 2, .v (eC (.int 100))] []))) [some (.scr ns), some (.int (k : Nat)), some (.own 0 P2), some bad, v4, v5, v6, v7, v8] = .nx [some (.scr ns), some (.int (k : Nat)), some (.own 0 P3), some bad, some (.int ((1 + y : Nat) : Int)), v5, v6, v7, v8] := by
    clear s1 s2 s3 s4 e1 e2 eb ec es hns hk hP hP2 hP3 hcb t3 t4 hy hv3
    generalize ((1 + y : Nat) : Int) = Y1 at *
    walk_at "evh"
  have G : LG (1 + y) [7] := ⟨by omega, by omega, by decide, by decide⟩
  obtain ⟨o6', e6⟩ := f_linit G
  have hv4 : eVar 4 [some (.scr ns), some (.int (k : Nat)), some (.own 0 P3), some bad, some (.int ((1 + y : Nat) : Int)), v5, v6, v7, v8] = .ok (.int ((1 + y : Nat) : Int)) [some (.scr ns), some (.int (k : Nat)), some (.own 0 P3), some bad, some (.int ((1 + y : Nat) : Int)), v5, v6, v7, v8] := rfl
  have s6 := set_at (i := 5) (ρ2 := [some (.scr ns), some (.int (k : Nat)), some (.own 0 P3), some bad, some (.int ((1 + y : Nat) : Int)), some (.own 0 (lineS (1 + y) [7] [])), v6, v7, v8]) (mk_lineS (as := aCons (eVar 4) (aCons (eC (.int 7)) aNil)) (acons_at hv4 (acons_at rfl rfl)) e6) (v_putF (i := 5) (d := .own 0 (lineS (1 + y) [7] [])) (ρ := [some (.scr ns), some (.int (k : Nat)), some (.own 0 P3), some bad, some (.int ((1 + y : Nat) : Int)), v5, v6, v7, v8]) o5)
  obtain ⟨p, hp, hw⟩ := prog_ab3
  have hok : okL (1 + y) ([] ++ p.wr) := by rw [hw]; exact ok_ab3
  obtain ⟨o7', e7⟩ := f_run_ok G ok_nil (by decide) hp hok
  rw [hw, List.nil_append] at e7
  rw [hw, List.nil_append] at hok
  obtain ⟨a, b, hq, hab⟩ := two_q hok G.a2
  have hS : lineS (1 + y) [7] ab3 = lineD [1 + y, 7] [a, b] (goneL (1 + y) [7] ab3) := by unfold lineS; rw [hq]
  rw [hS] at e7
  generalize goneL (1 + y) [7] ab3 = g at *
  have hio : isIO "Line" "run" (some (some (.own 0 (lineS (1 + y) [7] [])))) = true := line_io (by decide)
  have s7 : sDrop (eMethO "Line" "run" fn_Line_run 5 [.v (eC (.str [40, 97, 98, 41, 51]))] []) [some (.scr ns), some (.int (k : Nat)), some (.own 0 P3), some bad, some (.int ((1 + y : Nat) : Int)), some (.own 0 (lineS (1 + y) [7] [])), v6, v7, v8] = .nx [some (.scr ns), some (.int (k : Nat)), some (.own 0 P3), some bad, some (.int ((1 + y : Nat) : Int)), some (.own 0 (lineD [1 + y, 7] [a, b] g)), v6, v7, v8] := by
    clear s1 s2 s3 s4 s5 s6 e1 e2 eb ec es e6 hns hk hP hP2 hP3 hcb t3 t4 hy hv3 hv4 hq hok hp hw hyI G hS hab e5
    generalize lineS (1 + y) [7] [] = S0 at *
    generalize lineD [1 + y, 7] [a, b] g = S1 at *
    generalize ((1 + y : Nat) : Int) = Y1 at *
    walk_at "evh"
  have s8 : sSet 6 (eFrz kpE) [some (.scr ns), some (.int (k : Nat)), some (.own 0 P3), some bad, some (.int ((1 + y : Nat) : Int)), some (.own 0 (lineD [1 + y, 7] [a, b] g)), v6, v7, v8] = .nx [some (.scr ns), some (.int (k : Nat)), some (.own 0 P3), some bad, some (.int ((1 + y : Nat) : Int)), some (.own 0 (lineD [1 + y, 7] [a, b] g)), some (ktD a b g), v7, v8] := by
    have h1 : eFrz kpE [some (.scr ns), some (.int (k : Nat)), some (.own 0 P3), some bad, some (.int ((1 + y : Nat) : Int)), some (.own 0 (lineD [1 + y, 7] [a, b] g)), v6, v7, v8] = .ok (ktD a b g) [some (.scr ns), some (.int (k : Nat)), some (.own 0 P3), some bad, some (.int ((1 + y : Nat) : Int)), some (.own 0 (lineD [1 + y, 7] [a, b] g)), v6, v7, v8] := by
      unfold eFrz
      rw [kp_at]
      rfl
    exact set_at h1 (v_putF (i := 6) (d := ktD a b g) (ρ := [some (.scr ns), some (.int (k : Nat)), some (.own 0 P3), some bad, some (.int ((1 + y : Nat) : Int)), some (.own 0 (lineD [1 + y, 7] [a, b] g)), v6, v7, v8]) o6)
  obtain ⟨P4, odd, hP4, hodd, e9⟩ := pick_at (v0 := some (.scr ns)) (v1 := some (.int (k : Nat))) (v3 := some bad) (v4 := some (.int ((1 + y : Nat) : Int))) (v5 := some (.own 0 (lineD [1 + y, 7] [a, b] g))) (v6 := some (ktD a b g)) (v7 := v7) (v8 := v8) (k := 10) (fun _ => odL_at) hP3 rfl (by decide) (by decide)
  have s9 := set_at (i := 7) (ρ2 := [some (.scr ns), some (.int (k : Nat)), some (.own 0 P4), some bad, some (.int ((1 + y : Nat) : Int)), some (.own 0 (lineD [1 + y, 7] [a, b] g)), some (ktD a b g), some odd, v8]) e9 (v_putF (i := 7) (d := odd) (ρ := [some (.scr ns), some (.int (k : Nat)), some (.own 0 P4), some bad, some (.int ((1 + y : Nat) : Int)), some (.own 0 (lineD [1 + y, 7] [a, b] g)), some (ktD a b g), v7, v8]) o7)
  have s10 := if_no (t := sRet (eC (.bl false))) (od_at (v0 := some (.scr ns)) (v1 := some (.int (k : Nat))) (v2 := some (.own 0 P4)) (v3 := some bad) (v4 := some (.int ((1 + y : Nat) : Int))) (v6 := some (ktD a b g)) (v8 := v8) (L := [1 + y, 7]) (Q := [a, b]) (g := g) hodd) prgE_at ne_prg
  obtain ⟨v8', o8', e11⟩ := ix_loop (v0 := some (.scr ns)) (v1 := some (.int (k : Nat))) (v2 := some (.own 0 P4)) (v3 := some bad) (v4 := some (.int ((1 + y : Nat) : Int))) (v6 := some (ktD a b g)) (v7 := some odd) (L := [1 + y, 7]) (a := a) (b := b) (g := g) iBad v8 o8 fun _ h => h
  have s11 : sFor (iOf itL ixL) (gVar 8) turn_law_1 [some (.scr ns), some (.int (k : Nat)), some (.own 0 P4), some bad, some (.int ((1 + y : Nat) : Int)), some (.own 0 (lineD [1 + y, 7] [a, b] g)), some (ktD a b g), some odd, v8] = .nx [some (.scr ns), some (.int (k : Nat)), some (.own 0 P4), some bad, some (.int ((1 + y : Nat) : Int)), some (.own 0 (lineD [1 + y, 7] [a, b] g)), some (ktD a b g), some odd, v8'] := e11
  have c1 := kc_at (v0 := some (.scr ns)) (v1 := some (.int (k : Nat))) (v2 := some (.own 0 P4)) (v3 := some bad) (v4 := some (.int ((1 + y : Nat) : Int))) (v7 := some odd) (v8 := v8') (L := [1 + y, 7]) (a := a) (b := b) (g := g)
  have c2 := sm_at (v0 := some (.scr ns)) (v1 := some (.int (k : Nat))) (v2 := some (.own 0 P4)) (v3 := some bad) (v4 := some (.int ((1 + y : Nat) : Int))) (v6 := some (ktD a b g)) (v7 := some odd) (v8 := v8') (L := [1 + y, 7]) (a := a) (b := b) (g := g) hab
  have s12 : sIf (eOr kcE smE) (sRet (eC (.bl false))) sNil [some (.scr ns), some (.int (k : Nat)), some (.own 0 P4), some bad, some (.int ((1 + y : Nat) : Int)), some (.own 0 (lineD [1 + y, 7] [a, b] g)), some (ktD a b g), some odd, v8'] = .nx [some (.scr ns), some (.int (k : Nat)), some (.own 0 P4), some bad, some (.int ((1 + y : Nat) : Int)), some (.own 0 (lineD [1 + y, 7] [a, b] g)), some (ktD a b g), some odd, v8'] := by
    clear s1 s2 s3 s4 s5 s6 s7 s8 s9 s10 s11 e1 e2 eb ec es e6 e7 e9 e11 hns hk hP hP2 hP3 hP4 hcb t3 t4 hy hv3 hv4 hq hok hp hw hyI G hS hab e5 hio
    generalize kcE = C1 at *
    generalize smE = C2 at *
    walk_at "evh"
  refine ⟨[some (.int (k : Nat)), some (.own 0 P4), some bad, some (.int ((1 + y : Nat) : Int)), some (.own 0 (lineD [1 + y, 7] [a, b] g)), some (ktD a b g), some odd, v8'], ⟨rfl, fre_pl rfl, fre_own, fre_pl hm, fre_pl rfl, fre_own, fre_pl rfl, fre_pl (obad hodd).1, o8', trivial⟩, ?_⟩
  rw [turn2_eq, seq_nx s1, seq_nx s2, seq_nx s3, seq_nx s4, seq_nx s5, seq_nx s6, seq_nx s7, seq_nx s8, seq_nx s9, seq_nx s10, seq_nx s11, s12]
theorem t_cell {ns : List Int} (hns : ns.length ≤ 63) {k : Nat} (hk : k ≤ 1000) (ρ : Env) (hI : LawI 8 ns ρ) : ∃ ρ', (toFl (gVar 1 (.int (k : Nat)) ρ)).bind turn_law_2 = .nx ρ' ∧ LawI 8 ns ρ' := by
  obtain ⟨r, rfl, hr⟩ := hI
  obtain ⟨v1, v2, v3, v4, v5, v6, v7, v8, rfl, o1, o2, o3, o4, o5, o6, o7, o8⟩ := fr8 hr
  obtain ⟨r, hr', e⟩ := t_turn hns hk o2 o3 o4 o5 o6 o7 o8
  refine ⟨_, ?_, r, rfl, hr'⟩
  have hg : gVar 1 (.int (k : Nat)) [some (.scr ns), v1, v2, v3, v4, v5, v6, v7, v8] = some [some (.scr ns), some (.int (k : Nat)), v2, v3, v4, v5, v6, v7, v8] := v_putF (i := 1) (d := .int (k : Nat)) (ρ := [some (.scr ns), v1, v2, v3, v4, v5, v6, v7, v8]) o1
  rw [hg]
  exact e
theorem law_holds (ns : List Int) (hns : ns.length ≤ 63) : ∃ o, fn_law [.scr ns] = .ok (.bl true) o := by
  obtain ⟨e5, hb⟩ := cells_for (m := 6) (by decide) (g := gVar 1) (b := turn_law_2) (ns := ns) (i := 0) (ρ := some (.scr ns) :: List.replicate 8 none) rfl
  obtain ⟨ρ', e6, r, rfl, _⟩ := for_rng (g := gVar 1) (b := turn_law_2) (lo := 0) (n := (cellN 6 ns).toNat) (fun _ => LawI 8 ns) (fun i hi ρ hρ => by rw [Int.zero_add]; exact t_cell hns (by omega) ρ hρ) (ρ := some (.scr ns) :: List.replicate 8 none) ⟨_, rfl, frE_nones 8⟩
  rw [e6] at e5
  exact law_end e5
end U
namespace Q
open PySem PySem.Spec PyProof.Rows L2
variable {P : Program} {w : World} {K : PySem.W.Frag} {mg : Str → Option Value} {base : Heap}
local macro_rules | `(tactic| walk_at "rd") => `(tactic| simp only [tRet, tRetN, tSeq, tNext, tAsg, gName, gTup, gCons, gNil, gSub, tDrop, tIfS, tIf, tB, tTest, tAnd, tOr, tNot, tAndV, tOrV, tNotV, tVar, tC, tOp, tUn, rI, rI0, rU, tCons, tNil, tCB, tTup, tLst, tCall, tCallS, tCallSD, wOnly, WE, tPar, tPar3, tAug, ipI, tSl, tPart, tNoPart, tChain, tBM, tBM0, tM0, tM1, tYes, Q.tFor_eq, Q.tLc_eq, iRng1, iRng2, iList, iTup, iStr, iEnumS, rEq, rNe, rIxS, rIxL, rIxT, rSlL, rAll, rAny, rSum, wAs, wX, Ends.gone, tJs, tFmt, reduceCtorEq, false_and, exists_false, Q.tBy1, Q.tMk1, Q.tWhile_eq, tIfW, wCmp, wNm, wE, rAppend, rPop, CDiv, Q.cpow_9, Q.cpow_18, Q.cpow_20, Q.cpow_29, Q.cpow_30, sizeLine_eq, Nat.reduceLeDiff, Nat.reduceLT, Nat.zero_le, rRep, rCat, tDNewK, rSlS, Int.reduceNeg, Int.reduceToNat, Nat.reduceMul, Int.reducePow, List.flatten_cons, List.flatten_nil, ge_iff_le, gt_iff_lt, Int.reduceLE, Int.reduceLT, Q.rIxM, rSetL, Q.atI_zero, Q.atI_one, Q.ixN_20, Q.ixN_21, upd_same, upd_upd, HO.lst.injEq, HO.tup.injEq, Q.scal_ii, Q.scal_ss, Q.scal_bb, Q.rIsiA, Q.tyIs_str, Q.tyIs_int, Q.tyIs_bool, cxOf, L2.start, wipe, List.map_cons, List.map_nil, List.length_cons, List.length_nil, List.getElem?_cons_zero, List.getElem?_cons_succ, List.cons_append, List.nil_append, List.append_nil, List.set_cons_zero, List.set_cons_succ, Nat.reduceAdd, Nat.reduceSub, List.reduceReplicate, Option.some.injEq, List.cons.injEq, V.bl.injEq, V.int.injEq, V.str.injEq, V.ref.injEq, V.ty.injEq, and_assoc, and_true, true_and, exists_eq_left, exists_eq_left', exists_eq_right, exists_eq_right', exists_and_left, exists_eq, ite_true, ite_false, if_true, if_false, Bool.not_true, Bool.not_false, decide_eq_true_eq, Bool.not_eq_true', or_true, true_or, String.reduceEq, or_false, false_or, Bool.true_eq_false, Bool.false_eq_true])
def spanN (l : List Nat) (i : Nat) (cs : List Nat) : Nat := i + ((l.drop i).takeWhile fun c => decide (c ∈ cs)).length
theorem spanN_le {l cs : List Nat} {i : Nat} (h : i ≤ l.length) : spanN l i cs ≤ l.length := by
  unfold spanN
  have := (List.takeWhile_prefix (l := l.drop i) fun c => decide (c ∈ cs)).length_le
  rw [List.length_drop] at this
  omega
theorem spanN_step {l cs : List Nat} {k : Nat} (h : k < l.length) (hc : l[k] ∈ cs) : spanN l (k + 1) cs = spanN l k cs := by
  unfold spanN
  rw [List.drop_eq_getElem_cons h, List.takeWhile_cons_of_pos (by simpa using hc), List.length_cons]
  omega
theorem spanN_stop {l cs : List Nat} {k : Nat} (h : k < l.length) (hc : ¬ l[k] ∈ cs) : spanN l k cs = k := by
  unfold spanN
  rw [List.drop_eq_getElem_cons h, List.takeWhile_cons_of_neg (by simpa using hc)]
  rfl
theorem spanN_end {l cs : List Nat} {k : Nat} (h : l.length ≤ k) : spanN l k cs = k := by
  unfold spanN
  rw [List.drop_of_length_le h]
  rfl
theorem atI_str {x : Str} {k : Nat} (h : k < x.cps.toList.length) : atI x.cps.toList (k : Int) = some x.cps.toList[k] := by
  unfold atI
  rw [ixN_nat h]
  simp
def sp_span_of (K : PySem.W.Frag) : Sp := fun vs H Q _ => ∃ (x z : Str) (i : Nat), vs = [.str x, .int i, .str z] ∧ i ≤ x.length ∧ x.length ≤ 100000 ∧ Q (.int (spanN x.cps.toList i z.cps.toList : Nat)) H
theorem ok_span_of (T : Txt K mg) : FnOk P w K mg base (L2.CX P w) 1 (He.ga K "span_of") (fdA K (He.ga K "span_of")) ["text", "start", "characters"] (sp_span_of K) := by
  refine T.F_span_of.ok sc_span_of (fun vs H Q E h => ?_) (fun cdv A outer s H vs Q E hr h => ⟨_, (pss_cons (ps_set (i := 3) sc_span_of.nd rfl (by first | exact Or.inl rfl | exact Or.inr rfl) (pv 1))
      (pss_cons (ps_while (passes_of rfl) (PW.pt (pw_and (pt_cmpR op_lt (pv 3) (pe_callB call_len_str rfl T.b_len (by decide +kernel) (pa_cons (pv 0) pa_nil)) (nomark _)) (pw_and1 (pt_cmpR op_in_sign (pe_ix ix_str (pv 0) (pv 3) (fun _ _ => rfl)) (pv 2) rfl))))
      (pss_one (ps_aug (i := 3) sc_span_of.nd rfl (by first | exact Or.inl rfl | exact Or.inr rfl) pe_int ip_add)))
      (pss_one (ps_ret (pv 3))))), ?_⟩)
  · obtain ⟨x, z, i, rfl, _⟩ := h
    rfl
  · obtain ⟨x, z, i, rfl, hi, hl, q⟩ := h
    have el : x.length = x.cps.toList.length := Array.length_toList.symm
    walk_at "rd"
    refine WhileOk.by (fun σ H1 => ∃ k : Nat, σ = [some (.str x), some (.int i), some (.str z), some (.int k)] ∧ H1 = H ∧ k ≤ x.length ∧ spanN x.cps.toList k z.cps.toList = spanN x.cps.toList i z.cps.toList) (fun σ _ => match σ with
      | [_, _, _, some (.int k)] => x.length - k.toNat
      | _ => 0) ⟨i, rfl, rfl, hi, rfl⟩ ?_
    rintro σ H1 m W ⟨k, rfl, rfl, hk, e⟩ rfl nx
    walk_at "rd"
    refine ⟨by omega, ?_⟩
    by_cases c : (k : Int) < (x.length : Int)
    · rw [if_pos c]
      have hk' : k < x.cps.toList.length := by omega
      refine ⟨by omega, x.cps.toList[k], atI_str hk', _, rfl, ?_⟩
      by_cases d : x.cps.toList[k] ∈ z.cps.toList
      · rw [if_pos d]
        refine ⟨_, nxt nx, ⟨k + 1, rfl, rfl, by omega, by rw [spanN_step hk' d]; exact e⟩, ?_⟩
        show x.length - ((k : Int) + 1).toNat < x.length - (k : Int).toNat
        omega
      · rw [if_neg d]
        rw [← e, spanN_stop hk' d] at q
        exact q
    · rw [if_neg c]
      rw [← e, spanN_end (by omega)] at q
      exact q
theorem S_eq_ofString {l m : List Nat} {z : Str} (h : z.cps.toList = m) : (S l = z) = (l = m) := by
  subst h
  apply propext
  constructor
  · intro e; rw [← e]; rfl
  · intro e; rw [e, ← S_of]
theorem allDigits_of {l : List Nat} (h : ∀ c ∈ l, isDig c = true) : NumText.AllDigits l := fun c hc => (isDig_iff c).mp (h c hc)
def sp_is_count (K : PySem.W.Frag) : Sp := fun vs H Q _ => ∃ (x : Str), vs = [.str x] ∧ x.length ≤ 100000 ∧ (∀ c ∈ x.cps.toList, isDig c = true) ∧ Q (.bl (okCount x.cps.toList)) H
theorem ok_is_count (T : Txt K mg) : FnOk P w K mg base (L2.CX P w) 1 (He.ga K "is_count") (fdA K (He.ga K "is_count")) ["digits"] (sp_is_count K) := by
  refine T.F_is_count.ok sc_is_count (fun vs H Q E h => ?_) (fun cdv A outer s H vs Q E hr h => ⟨_, (pss_cons (ps_if (PW.pt (pw_or (pt_cmpR op_eq (pv 0) pe_str (nomark _)) (pw_or (pt_cmpR op_gt (pe_callB call_len_str rfl T.b_len (by decide +kernel) (pa_cons (pv 0) pa_nil)) pe_int (nomark _)) (pw_or1 (PW.pt (pw_and (pt_cmpR op_eq (pe_ix ix_str (pv 0) pe_int (fun _ _ => rfl)) pe_str (nomark _)) (pw_and1 (pt_cmpR op_ne (pv 0) pe_str (nomark _)))))))))
      (pss_one (ps_ret pe_bl))
      pss_nil)
      (pss_one (ps_ret (pe_cmpR op_le (pe_callTy call_int_str rfl T.b_int (by decide +kernel) (pa_cons (pv 0) pa_nil)) (pe_gc rfl T.c_MOST_COUNT) (nomark _))))), ?_⟩)
  · obtain ⟨x, rfl, _⟩ := h
    rfl
  · obtain ⟨x, rfl, hl, hd, q⟩ := h
    obtain ⟨l, rfl⟩ := S_ex x
    rw [S_cps] at hd q
    rw [S_length] at hl
    walk_at "rd"
    simp only [S_eq_ofString (z := "") (m := []) (by decide +kernel), S_eq_ofString (z := "0") (m := [48]) (by decide +kernel), S_one, S_length]
    cases l with
    | nil => rw [if_pos rfl]; exact q
    | cons c r =>
      rw [if_neg (by simp)]
      refine ⟨by omega, ?_⟩
      by_cases h31 : (31 : Int) < ((c :: r).length : Int)
      · rw [if_pos h31]
        have e : okCount (c :: r) = false := by
          have : decide ((c :: r).length ≤ 31) = false := decide_eq_false (by omega)
          simp only [okCount, this, Bool.false_and, Bool.and_false]
        rw [e] at q; exact q
      · rw [if_neg h31]
        have hlen : (c :: r).length ≤ 31 := by omega
        have hv : intText? (S (c :: r)) = some ((dval (c :: r) : Nat) : Int) := intText_digits (allDigits_of hd) (by simp [S_cps]) (by rw [S_length]; omega)
        refine ⟨by omega, c, atI_zero, ?_⟩
        have eb : decide (((dval (c :: r) : Nat) : Int) ≤ 1000000000000000000000000000000) = decide (dval (c :: r) ≤ 10 ^ 30) := by
          apply decide_eq_decide.mpr
          constructor <;> intro h <;> omega
        have eq : okCount (c :: r) = (!(decide (c = 48) && decide (c :: r ≠ [48])) && decide (dval (c :: r) ≤ 10 ^ 30)) := by
          simp only [okCount, ne_eq, reduceCtorEq, not_false_eq_true, decide_true, Bool.true_and, hlen, List.head?_cons, Option.some.injEq]
        rw [eq] at q
        by_cases c0 : c = 48
        · subst c0
          rw [if_pos rfl]
          by_cases c1 : 48 :: r = [48]
          · rw [if_neg (by simp only [c1, decide_true, Bool.true_eq_false, not_false_eq_true])]
            refine ⟨_, hv, by omega, ?_⟩
            rw [eb]
            simp only [c1, ne_eq, not_true_eq_false, decide_false, Bool.and_false, Bool.not_false, Bool.true_and] at q ⊢
            exact q
          · rw [if_pos (by simp only [c1, decide_false])]
            simp only [c1, ne_eq, not_false_eq_true, decide_true, Bool.and_self, Bool.not_true, Bool.false_and] at q
            exact q
        · rw [if_neg (by simp [c0])]
          refine ⟨_, hv, by omega, ?_⟩
          rw [eb]
          simp only [c0, decide_false, Bool.false_and, Bool.not_false, Bool.true_and] at q
          exact q
def ItemsN (H0 H : Hp) (a : Addr) (p : Pg) : Prop := ∃ us, H a = some (.lst us) ∧ RepL (fun b => H0 b ≠ none) H us p
theorem ItemsN.at {H0 H : Hp} {a : Addr} {p : Pg} (h : ItemsN H0 H a p) : ItemsAt H a p := by
  obtain ⟨us, e, r⟩ := h
  exact ⟨us, e, r.mono (fun _ z => z.elim) (fun b o z _ => z)⟩
def sp_parseP (K : PySem.W.Frag) : Sp := fun vs H Q _ => ∃ (x : Str), vs = [.str x] ∧ x.length ≤ 100000 ∧ (progP x.cps.toList = none → ∀ H', Same H H' → Q .non H') ∧
  ∀ p, progP x.cps.toList = some p → ∀ H' a, Same H H' → H a = none → ItemsN H H' a p → PgOk p → Q (.ref a) H'
theorem ok_parseP (T : Txt K mg) : FnOk P w K mg base (L2.CX P w) 2 (He.ga K "parse") (fdA K (He.ga K "parse")) ["text"] (sp_parseP K) := by
  refine T.F_parse.ok sc_parse (fun vs H Q E h => ?_) (fun cdv A outer s H vs Q E hr h => ⟨_, (pss_cons (ps_set (i := 1) sc_parse.nd rfl (by first | exact Or.inl rfl | exact Or.inr rfl) (pe_lst (pa_cons (pe_lst pa_nil) pa_nil)))
      (pss_cons (ps_set (i := 2) sc_parse.nd rfl (by first | exact Or.inl rfl | exact Or.inr rfl) pe_int)
      (pss_cons (ps_while (passes_of rfl) (pt_cmpR op_lt (pv 2) (pe_callB call_len_str rfl T.b_len (by decide +kernel) (pa_cons (pv 0) pa_nil)) (nomark _))
      (pss_one (ps_ifW (ptw_cmp op_gt (pew_named (i := 3) sc_parse.nd rfl (by first | exact Or.inl rfl | exact Or.inr rfl) (pew_of (pe_callD (ok_span_of T) (hr.mono (by omega)) rfl T.g_span_of T.F_span_of.kp (bd_span_of T) passE (pa_cons (pv 0) (pa_cons (pv 2) (pa_cons (pe_gc rfl T.c_STEPS) pa_nil)))))) (pv 2) (nomark _))
      (pss_cons (ps_expr (pe_bm PySem.F.plainAttrs_list PySem.F.slot_list_append PySem.F.type_list_append mt_append (pe_ix ix_listM (pv 1) (pe_un un_neg pe_int) (fun _ _ => rfl)) (pa_cons (pe_slice sl_str (pv 0) (po_some (pv 2)) (po_some (pv 3))) pa_nil)))
      (pss_one (ps_set (i := 2) sc_parse.nd rfl (by first | exact Or.inl rfl | exact Or.inr rfl) (pv 3))))
      (pss_one (ps_if (PW.pt (pw_and (pt_cmpR op_eq (pe_ix ix_str (pv 0) (pv 2) (fun _ _ => rfl)) pe_str (nomark _)) (pw_and1 (pt_cmpR op_le (pe_callB call_lenM rfl T.b_len (by decide +kernel) (pa_cons (pv 1) pa_nil)) (pe_gc rfl T.c_MOST_DEPTH) (nomark _)))))
      (pss_cons (ps_expr (pe_bm PySem.F.plainAttrs_list PySem.F.slot_list_append PySem.F.type_list_append mt_append (pv 1) (pa_cons (pe_lst pa_nil) pa_nil)))
      (pss_one (ps_aug (i := 2) sc_parse.nd rfl (by first | exact Or.inl rfl | exact Or.inr rfl) pe_int ip_add)))
      (pss_one (ps_if (PW.pt (pw_and (pt_cmpR op_eq (pe_ix ix_str (pv 0) (pv 2) (fun _ _ => rfl)) pe_str (nomark _)) (pw_and1 (pt_cmpR op_gt (pe_callB call_lenM rfl T.b_len (by decide +kernel) (pa_cons (pv 1) pa_nil)) pe_int (nomark _)))))
      (pss_cons (ps_set (i := 3) sc_parse.nd rfl (by first | exact Or.inl rfl | exact Or.inr rfl) (pe_callD (ok_span_of T) (hr.mono (by omega)) rfl T.g_span_of T.F_span_of.kp (bd_span_of T) passE (pa_cons (pv 0) (pa_cons (pe_op op_add (pv 2) pe_int) (pa_cons (pe_gc rfl T.c_DIGITS) pa_nil)))))
      (pss_cons (ps_if (pt_not (pt_val (pe_callD (ok_is_count T) (hr.mono (by omega)) rfl T.g_is_count T.F_is_count.kp (bd_is_count T) passE (pa_cons (pe_slice sl_str (pv 0) (po_some (pe_op op_add (pv 2) pe_int)) (po_some (pv 3))) pa_nil))))
      (pss_one (ps_ret pe_non))
      pss_nil)
      (pss_cons (ps_set (i := 4) sc_parse.nd rfl (by first | exact Or.inl rfl | exact Or.inr rfl) (pe_bm0 PySem.F.plainAttrs_list PySem.F.slot_list_pop PySem.F.type_list_pop mt_pop (pv 1)))
      (pss_cons (ps_expr (pe_bm PySem.F.plainAttrs_list PySem.F.slot_list_append PySem.F.type_list_append mt_append (pe_ix ix_listM (pv 1) (pe_un un_neg pe_int) (fun _ _ => rfl)) (pa_cons (pe_tup (pa_cons (pv 4) (pa_cons (pe_callTy call_int_str rfl T.b_int (by decide +kernel) (pa_cons (pe_slice sl_str (pv 0) (po_some (pe_op op_add (pv 2) pe_int)) (po_some (pv 3))) pa_nil)) pa_nil))) pa_nil)))
      (pss_one (ps_set (i := 2) sc_parse.nd rfl (by first | exact Or.inl rfl | exact Or.inr rfl) (pv 3)))))))
      (pss_one (ps_ret pe_non)))))))))
      (pss_one (ps_ret (pe_ifExp (pt_cmpR op_eq (pe_callB call_lenM rfl T.b_len (by decide +kernel) (pa_cons (pv 1) pa_nil)) pe_int (nomark _)) (pe_ix ix_listM (pv 1) pe_int (fun _ _ => rfl)) pe_non)))))), ?_⟩)
  · obtain ⟨x, rfl, _⟩ := h
    rfl
  · obtain ⟨x, rfl, hl, qn, qs⟩ := h
    have el : x.length = x.cps.toList.length := Array.length_toList.symm
    walk_at "rd"
    intro p1 h_p1 p2 h_p2
    refine WhileOk.by (fun σ H1 => ∃ (k : Nat) (as : List Addr) (ps : List Pg) (v3 v4 : Option V), σ = [some (.str x), some (.ref p2), some (.int k), v3, v4] ∧ k ≤ x.cps.toList.length ∧ as ≠ [] ∧ PSt H H1 p2 as ps ∧ (ps.map Pg.size).sum ≤ 2 * k ∧ goP (x.cps.toList.drop k) ps.reverse = progP x.cps.toList) (fun σ _ => match σ with
      | [_, _, some (.int k), _, _] => x.length - k.toNat
      | _ => 0) ?_ ?_
    · refine ⟨0, [p1], [.nil], none, none, rfl, by omega, by simp, ?_, by simp [Pg.size], rfl⟩
      have h2 : p2 ≠ p1 := fun e => by rw [e, upd_same] at h_p2; cases h_p2
      have h3 : H p2 = none := (Same.upd h_p1).free h_p2
      refine ⟨Same.upd3 (Same.upd h_p1) h_p2, h3, by simp [h_p1], upd_same, by simp [h2], .cons ⟨[], by rw [upd_ne h2.symm, upd_same], rfl⟩ .nil, by simp [Pg.ok], ?_⟩
      intro i p hp
      cases i with
      | zero =>
        have e : Pg.nil = p := Option.some.inj hp
        rw [← e]; decide
      | succ i => simp at hp
    · rintro σ H1 m W ⟨k, as, ps, v3, v4, rfl, hk, hne, st, hsz, hgo⟩ rfl nx
      walk_at "rd"
      have hlen := st.len
      have h21 : as.length ≤ 21 := by
        rcases Nat.lt_or_ge 21 as.length with c | c
        · obtain ⟨p, hp⟩ : ∃ p, ps[21]? = some p := ⟨ps[21]'(by omega), List.getElem?_eq_getElem (by omega)⟩
          have := st.dep 21 p hp
          omega
        · exact c
      simp only [one_eq (z := "(") (m := 40) (by decide +kernel), one_eq (z := ")") (m := 41) (by decide +kernel)]
      refine ⟨by omega, ?_⟩
      by_cases hlt : (k : Int) < (x.length : Int)
      · rw [if_pos hlt]
        have hk' : k < x.cps.toList.length := by omega
        have hdrop : x.cps.toList.drop k = x.cps.toList[k] :: x.cps.toList.drop (k + 1) := List.drop_eq_getElem_cons hk'
        obtain ⟨bs, t, rfl⟩ : ∃ bs t, as = bs ++ [t] := ⟨as.dropLast, as.getLast hne, (List.dropLast_concat_getLast hne).symm⟩
        refine ⟨_, nxt nx, x, _, k, rfl, by omega, hl, _, rfl, ?_⟩
        rw [show (Str.ofString "abcdefghijklmnopqrstuvwxyz-").cps.toList = stp from rfl]
        by_cases hsp : (k : Int) < (spanN x.cps.toList k stp : Nat)
        · -- a stretch of steps
          rw [if_pos hsp]
          have hcs : ∀ c ∈ (x.cps.toList.drop k).takeWhile (fun c => decide (c ∈ stp)), c ∈ stp := fun c hc => of_decide_eq_true (List.all_eq_true.mp List.all_takeWhile c hc)
          obtain ⟨qs, p, us, rfl, hus, st'⟩ := st.seq hcs
          have hus2 : us.length < 16777216 := by
            obtain ⟨_, _, e, _, us', e1, e2⟩ := Paired.snoc_inv st.rep
            obtain ⟨e3, e4⟩ := List.append_inj' e rfl
            have e5 : p = _ := (List.cons.inj e4).1
            rw [hus] at e1
            have e6 : us = us' := by injection (Option.some.inj e1)
            have := e2.len
            rw [← e6, ← e5] at this
            simp only [List.map_append, List.map_cons, List.map_nil, List.sum_append, List.sum_cons, List.sum_nil] at hsz
            omega
          refine ⟨_, st.lo, V.ref t, by rw [List.map_append]; exact atI_last, tyV_lst hus, _, rfl, by omega, t, rfl, us, hus, hus2, ?_⟩
          have hle := spanN_le (l := x.cps.toList) (cs := stp) hk
          unfold spanN at hsp hle ⊢
          rw [span_cut hk]
          have hpos : 0 < ((x.cps.toList.drop k).takeWhile fun c => decide (c ∈ stp)).length := by omega
          refine ⟨⟨_, bs ++ [t], _, _, _, rfl, hle, by simp, st', ?_, ?_⟩, ?_⟩
          · simp only [List.map_append, List.map_cons, List.map_nil, List.sum_append, List.sum_cons, List.sum_nil, Pg.size_app, Pg.size] at hsz ⊢
            omega
          · rw [← hgo]
            have hst : isStp x.cps.toList[k] = true := by
              cases e : isStp x.cps.toList[k] with
              | true => rfl
              | false =>
                rw [hdrop, List.takeWhile_cons_of_neg (by rw [show decide (x.cps.toList[k] ∈ stp) = isStp x.cps.toList[k] from rfl, e]; decide)] at hpos
                simp at hpos
            have e2 : (x.cps.toList.drop k).takeWhile (fun c => decide (c ∈ stp)) = x.cps.toList[k] :: (x.cps.toList.drop (k + 1)).takeWhile isStp := by
              rw [hdrop]; exact List.takeWhile_cons_of_pos hst
            have e3 : x.cps.toList.drop (k + ((x.cps.toList.drop k).takeWhile fun c => decide (c ∈ stp)).length) = (x.cps.toList.drop (k + 1)).dropWhile isStp := by
              rw [← List.drop_drop, tw_drop, hdrop]; exact List.dropWhile_cons_of_pos hst
            rw [e3, e2]
            conv => rhs; rw [hdrop]
            rw [List.reverse_append, List.reverse_append]
            show goP _ (p.app _ :: qs.reverse) = goP _ (p :: qs.reverse)
            rw [goP_step hst]
          · show x.length - ((k + _ : Nat) : Int).toNat < x.length - (k : Int).toNat
            omega
        · rw [if_neg hsp]
          have hns : isStp x.cps.toList[k] = false := by
            cases e : isStp x.cps.toList[k] with
            | false => rfl
            | true =>
              have : x.cps.toList[k] ∈ stp := of_decide_eq_true e
              have h2 := spanN_step hk' this
              have h3 : k + 1 ≤ spanN x.cps.toList (k + 1) stp := by unfold spanN; omega
              have h4 : ¬ k < spanN x.cps.toList k stp := fun z => hsp (by exact_mod_cast z)
              omega
          refine ⟨by omega, x.cps.toList[k], atI_str hk', ?_⟩
          rw [hdrop] at hgo
          have closeCase : x.cps.toList[k] ≠ 40 → x.length ≤ 16777216 ∧ True := fun _ => ⟨by omega, trivial⟩
          by_cases h40 : x.cps.toList[k] = 40
          · rw [if_pos h40]
            refine ⟨_, st.lo, ?_⟩
            rw [List.length_map]
            by_cases h20 : (((bs ++ [t]).length : Nat) : Int) ≤ 20
            · rw [if_pos h20]
              refine ⟨tyV_lst st.lo, fun n hn => ?_⟩
              have hnp : p2 ≠ n := fun e => by rw [← e, st.lo] at hn; cases hn
              refine ⟨_, by rw [upd_ne hnp]; exact st.lo, by rw [List.length_map]; omega, ⟨⟨k + 1, (bs ++ [t]) ++ [n], ps ++ [.nil], _, _, rfl, by omega, by simp, ?_, ?_, ?_⟩, ?_⟩⟩
              · have := st.push hn (by omega)
                rw [List.map_append] at this
                exact this
              · simp only [List.map_append, List.map_cons, List.map_nil, List.sum_append, List.sum_cons, List.sum_nil, Pg.size]
                omega
              · rw [← hgo, h40]
                obtain ⟨qs, p, rfl⟩ : ∃ qs p, ps = qs ++ [p] := by
                  obtain ⟨qs, p, e, _⟩ := Paired.snoc_inv st.rep
                  exact ⟨qs, p, e⟩
                have : (bs ++ [t]).length = (qs ++ [p]).length := hlen
                rw [List.reverse_append (bs := [Pg.nil]), List.reverse_append]
                show goP _ (Pg.nil :: p :: qs.reverse) = goP _ (p :: qs.reverse)
                rw [goP_open, if_pos (by simp only [List.length_reverse, List.length_map, List.length_append, List.length_cons, List.length_nil] at *; omega)]
              · show x.length - ((k : Int) + 1).toNat < x.length - (k : Int).toNat
                omega
            · rw [if_neg h20]
              refine ⟨by omega, x.cps.toList[k], atI_str hk', ?_⟩
              rw [if_neg (by omega)]
              refine qn ?_ _ st.same
              rw [← hgo, h40]
              obtain ⟨qs, p, e, _⟩ := Paired.snoc_inv st.rep
              have h1 : (bs ++ [t]).length = ps.length := hlen
              rw [e] at h1 ⊢
              rw [List.reverse_append]
              show goP _ (p :: qs.reverse) = none
              rw [goP_open, if_neg (by simp only [List.length_reverse, List.length_map, List.length_append, List.length_cons, List.length_nil] at *; omega)]
          · rw [if_neg h40]
            refine ⟨by omega, x.cps.toList[k], atI_str hk', ?_⟩
            by_cases h41 : x.cps.toList[k] = 41
            · rw [if_pos h41]
              refine ⟨_, st.lo, ?_⟩
              rw [List.length_map]
              by_cases h1 : (1 : Int) < (((bs ++ [t]).length : Nat) : Int)
              · rw [if_pos h1]
                obtain ⟨cs, u, rfl⟩ : ∃ cs u, bs = cs ++ [u] := by
                  have hb : bs ≠ [] := fun e => by rw [e] at h1; simp at h1
                  exact ⟨bs.dropLast, bs.getLast hb, (List.dropLast_concat_getLast hb).symm⟩
                have e2 : cs ++ [u] ++ [t] = cs ++ [u, t] := by simp
                rw [e2] at st h21
                refine ⟨x, _, k + 1, rfl, by omega, hl, _, rfl, by omega, ?_⟩
                rw [show (Str.ofString "0123456789").cps.toList = digsZ.cps.toList from rfl]
                have hle := spanN_le (l := x.cps.toList) (cs := digsZ.cps.toList) (i := k + 1) (by omega)
                unfold spanN at hle ⊢
                have ecut : cutS x (some ((k : Int) + 1)) (some ((k + 1 + ((x.cps.toList.drop (k + 1)).takeWhile fun c => decide (c ∈ digsZ.cps.toList)).length : Nat) : Int)) = S ((x.cps.toList.drop (k + 1)).takeWhile isDig) := span_cut (k := k + 1) (by omega)
                rw [ecut]
                have edig : ∀ c ∈ (x.cps.toList.drop (k + 1)).takeWhile isDig, isDig c = true := fun c hc => List.all_eq_true.mp List.all_takeWhile c hc
                refine ⟨_, rfl, by rw [S_length]; have := (List.takeWhile_prefix (l := x.cps.toList.drop (k + 1)) isDig).length_le; rw [List.length_drop] at this; omega, by rw [S_cps]; exact edig, _, rfl, ?_⟩
                rw [S_cps]
                -- the stack
                obtain ⟨qs', p, ep, hq1, ts, hts, rts⟩ := Paired.snoc_inv (l := cs ++ [u]) (a := t) (by rw [e2]; exact st.rep)
                obtain ⟨qs, r, er, hq2, us, hus, rus⟩ := Paired.snoc_inv hq1
                have egs : ps.reverse = p :: r :: qs.reverse := by rw [ep, er]; simp
                rw [egs, h41, goP_close] at hgo
                cases hc : okCount ((x.cps.toList.drop (k + 1)).takeWhile isDig) with
                | false =>
                  rw [if_pos rfl]
                  rw [hc, if_neg (by simp)] at hgo
                  exact qn hgo.symm _ st.same
                | true =>
                  rw [if_neg (by simp)]
                  rw [hc, if_pos rfl] at hgo
                  have hok := hc
                  simp only [okCount, Bool.and_eq_true, decide_eq_true_eq] at hok
                  obtain ⟨hne2, hlen2, _, hval⟩ := hok
                  have hint : intText? (S ((x.cps.toList.drop (k + 1)).takeWhile isDig)) = some ((dval ((x.cps.toList.drop (k + 1)).takeWhile isDig) : Nat) : Int) := intText_digits (by rw [S_cps]; exact allDigits_of edig) (by rw [S_cps]; exact hne2) (by rw [S_length]; omega)
                  have edl : ((cs ++ [u, t]).map V.ref).dropLast = (cs ++ [u]).map V.ref := by simp
                  have nd := st.nd
                  simp only [List.nodup_cons, List.nodup_append, List.mem_append, List.mem_cons, List.not_mem_nil, or_false] at nd
                  have hup : u ≠ p2 := fun e => nd.1 (.inr (.inl e.symm))
                  refine ⟨tyV_lst st.lo, _, st.lo, V.ref t, by simp, ?_⟩
                  rw [edl]
                  have hus3 : us.length < 16777216 := by
                    have := rus.len
                    rw [ep, er] at hsz
                    simp only [List.map_append, List.map_cons, List.map_nil, List.sum_append, List.sum_cons, List.sum_nil] at hsz
                    omega
                  refine ⟨V.ref u, by rw [List.map_append]; exact atI_last, tyV_lst (by rw [upd_ne hup]; exact hus), _, rfl, by omega, _, by rw [ecut]; exact hint, by rw [ecut, S_length]; omega, fun n hn => ?_⟩
                  have hnp : n ≠ p2 := fun e => by rw [e, upd_same] at hn; cases hn
                  have hn1 : H1 n = none := by rw [upd_ne hnp] at hn; exact hn
                  have hun : u ≠ n := ne_of_none hus hn1
                  refine ⟨u, rfl, us, by rw [upd_ne hun, upd_ne hup]; exact hus, hus3, ?_⟩
                  obtain ⟨qs2, p', r', us', ep', hus', st'⟩ := st.pop (k := dval ((x.cps.toList.drop (k + 1)).takeWhile isDig)) (n := n) hval hn1
                  have eu : us' = us := by
                    rw [hus] at hus'
                    injection (Option.some.inj hus') with h
                    exact h.symm
                  subst eu
                  have ep2 : ps = qs ++ [r, p] := by rw [ep, er]; simp
                  rw [ep2] at ep'
                  obtain ⟨eq1, eq2⟩ := List.append_inj' ep' rfl
                  obtain ⟨eq3, eq4⟩ := List.cons.inj eq2
                  obtain ⟨eq5, _⟩ := List.cons.inj eq4
                  subst eq1 eq3 eq5
                  refine ⟨⟨_, cs ++ [u], _, _, _, rfl, hle, by simp, st', ?_, ?_⟩, ?_⟩
                  · rw [ep2] at hsz
                    simp only [List.map_append, List.map_cons, List.map_nil, List.sum_append, List.sum_cons, List.sum_nil, Pg.size_app, Pg.size] at hsz ⊢
                    omega
                  · rw [← hgo, List.reverse_append]
                    show goP _ (r.app _ :: qs.reverse) = _
                    rw [← tw_drop, List.drop_drop]
                    rfl
                  · show x.length - ((k + 1 + _ : Nat) : Int).toNat < x.length - (k : Int).toNat
                    omega
              · rw [if_neg h1]
                refine qn ?_ _ st.same
                rw [← hgo, h41]
                obtain ⟨qs, p, e, _⟩ := Paired.snoc_inv st.rep
                have h2 : (bs ++ [t]).length = ps.length := hlen
                have h3 : qs = [] := by
                  rw [e] at h2
                  simp only [List.length_append, List.length_cons, List.length_nil] at h2 h1
                  exact List.eq_nil_of_length_eq_zero (by omega)
                rw [e, h3]
                exact goP_close0
            · rw [if_neg h41]
              refine qn ?_ _ st.same
              rw [← hgo]
              obtain ⟨qs, p, e, _⟩ := Paired.snoc_inv st.rep
              rw [e, List.reverse_append]
              exact goP_other hns h40 h41
      · rw [if_neg hlt]
        have ek : k = x.cps.toList.length := by omega
        refine ⟨_, st.lo, ?_⟩
        rw [ek, List.drop_length] at hgo
        rw [List.length_map]
        by_cases h1 : ((as.length : Nat) : Int) = 1
        · rw [if_pos h1]
          obtain ⟨t, rfl⟩ : ∃ t, as = [t] := by
            cases as with
            | nil => exact absurd rfl hne
            | cons t r =>
              cases r with
              | nil => exact ⟨t, rfl⟩
              | cons _ _ => simp at h1; omega
          obtain ⟨qs, p, e, hq, us, hus, hrep⟩ := Paired.snoc_inv (l := []) (a := t) st.rep
          have eq0 : qs = [] := by cases hq; rfl
          subst eq0
          subst e
          refine ⟨_, st.lo, V.ref t, atI_zero, ?_⟩
          have hres : progP x.cps.toList = some p := by
            rw [← hgo]
            show goP [] [p] = _
            rw [goP.eq_def]
          refine qs _ hres _ t st.same (st.fas t (by simp)) ⟨us, hus, hrep.mono (fun _ z => .inr z) (fun b o z _ => z)⟩ ⟨st.ok p (by simp), by have := st.dep 0 p rfl; omega, ?_⟩
          simp at hsz
          omega
        · rw [if_neg h1]
          refine qn ?_ _ st.same
          rw [← hgo]
          have : ps.length ≠ 1 := by omega
          rw [goP.eq_def]
          cases e : ps.reverse with
          | nil => rfl
          | cons a l =>
            cases l with
            | nil =>
              have := congrArg List.length e
              simp at this
              omega
            | cons _ _ => rfl
def sp_parse (K : PySem.W.Frag) : Sp := fun vs H Q _ => ∃ (x : Str), vs = [.str x] ∧ x.length ≤ 100000 ∧ (progF x.cps.toList = none → ∀ H', Same H H' → Q .non H') ∧
  ∀ f, progF x.cps.toList = some f → ∀ H' a p, Same H H' → H a = none → ItemsAt H' a p → PgOk p → p.wr = f → Q (.ref a) H'
def sp_items_ofP (K : PySem.W.Frag) : Sp := fun vs H Q E => ∃ (v : V), vs = [v] ∧ AnyV K H v ∧ Short v ∧
  (∀ p, progPV v = some p → ∀ H' a, Same H H' → H a = none → ItemsN H H' a p → PgOk p → Q (.ref a) H') ∧ (progPV v = none → ∀ H', Same H H' → E (.ref (He.ga K "InvalidProgram")) none H')
theorem ok_items_ofP (T : Txt K mg) : FnOk P w K mg base (L2.CX P w) 3 (He.ga K "items_of") (fdA K (He.ga K "items_of")) ["program"] (sp_items_ofP K) := by
  refine T.F_items_of.ok sc_items_of (fun vs H Q E h => ?_) (fun cdv A outer s H vs Q E hr h => ⟨_, (pss_cons (ps_set (i := 1) sc_items_of.nd rfl (by first | exact Or.inl rfl | exact Or.inr rfl) (pe_ifExp (pt_val (pe_callB call_isiA rfl T.b_isinstance (by decide +kernel) (pa_cons (pv 0) (pa_cons (pe_bltn (v := .ty "str") rfl T.b_str (by decide +kernel) rfl) pa_nil)))) (pe_callD (ok_parseP T) (hr.mono (by omega)) rfl T.g_parse T.F_parse.kp (bd_parse T) passE (pa_cons (pv 0) pa_nil)) pe_non))
      (pss_cons (ps_if (pt_cmpR op_isN (pv 1) pe_non (nomark _))
      (pss_one (ps_raise rfl (takes_of rfl rfl rfl rfl) (pmk_own PySem.F.excBase_ValueError T.x_InvalidProgram.x T.g_InvalidProgram T.x_InvalidProgram.k (raises_own T.x_InvalidProgram.b T.x_InvalidProgram.t) rfl)))
      pss_nil)
      (pss_one (ps_ret (pv 1))))), ?_⟩)
  · obtain ⟨v, rfl, _⟩ := h
    rfl
  · obtain ⟨v, rfl, a, hl, q, e⟩ := h
    walk_at "rd"
    refine ⟨a, bool_cases (fun hv => ?_) (fun hv => ?_)⟩
    · cases v with
      | str x =>
        refine ⟨x, rfl, hl x rfl, fun hn H1 s1 => ?_, fun p hp H1 b s1 hb hi hk => ?_⟩
        · exact e hn _ s1
        · exact q p hp _ b s1 hb hi hk
      | _ => cases hv
    · cases v <;> first | exact e rfl _ (Same.refl _) | cases hv
def sp_items_of (K : PySem.W.Frag) : Sp := fun vs H Q E => ∃ (v : V), vs = [v] ∧ AnyV K H v ∧ Short v ∧
  (∀ f, progV v = some f → ∀ H' a p, Same H H' → H a = none → ItemsAt H' a p → PgOk p → p.wr = f → Q (.ref a) H') ∧ (progV v = none → ∀ H', Same H H' → E (.ref (He.ga K "InvalidProgram")) none H')
end Q
namespace Q
open PySem PySem.Spec PyProof.Rows L2 U
variable {P : Program} {w : World} {K : PySem.W.Frag} {mg : Str → Option Value} {base : Heap}
theorem tb_ok (T : Txt K mg) : TbOk K tb := by
  intro p hp
  simp only [tb, List.mem_cons, List.not_mem_nil, or_false] at hp
  rcases hp with rfl | rfl | rfl | rfl | rfl | rfl | rfl | rfl | rfl | rfl | rfl | rfl | rfl | rfl | rfl | rfl
  · exact T.e_InvalidCapacity_InvalidCapacity
  · exact T.e_InvalidCapacity_InvalidProgram
  · exact T.e_InvalidCapacity_InvalidInteger
  · exact T.e_InvalidCapacity_LimitExceeded
  · exact T.e_InvalidProgram_InvalidCapacity
  · exact T.e_InvalidProgram_InvalidProgram
  · exact T.e_InvalidProgram_InvalidInteger
  · exact T.e_InvalidProgram_LimitExceeded
  · exact T.e_InvalidInteger_InvalidCapacity
  · exact T.e_InvalidInteger_InvalidProgram
  · exact T.e_InvalidInteger_InvalidInteger
  · exact T.e_InvalidInteger_LimitExceeded
  · exact T.e_LimitExceeded_InvalidCapacity
  · exact T.e_LimitExceeded_InvalidProgram
  · exact T.e_LimitExceeded_InvalidInteger
  · exact T.e_LimitExceeded_LimitExceeded
theorem gv_law_error {X : Cx} (T : Txt X.K X.mg) {g : Addr} {cdg : Value} {z : Str} : LamY.GivesS X ["_law_call", "e"] "_law_error" (defScope s_law_error) g cdg (defBody s_law_error) "_law_call" z (TTh X.K 1 hd_law_error) :=
  gives_try (by decide) (fun _ => rfl) (fun s H => (HdX.named (i := 1) rfl rfl ⟨rfl, by decide, .inl T.g_InvalidCapacity⟩ (fun a oe cls d pn hz hf => (s_one (s_ret (ps_ret (d_dm (d_frz (d_lst (pe_lst (a_cons (d_c (c_str (by decide +kernel)) pe_str) (a_cons (d_xis T.xc_InvalidCapacity T.ic_InvalidCapacity_QueueError (pe_callB (call_isX hz hf) rfl T.b_isinstance (by decide +kernel) (pa_cons (pv 1) (pa_cons (pe_gc (v := .ref _) rfl ⟨_, T.g_QueueError, rfl⟩) pa_nil)))) a_nil)))))))))) (HdX.named (i := 1) rfl rfl ⟨rfl, by decide, .inl T.g_InvalidProgram⟩ (fun a oe cls d pn hz hf => (s_one (s_ret (ps_ret (d_dm (d_frz (d_lst (pe_lst (a_cons (d_c (c_str (by decide +kernel)) pe_str) (a_cons (d_xis T.xc_InvalidProgram T.ic_InvalidProgram_QueueError (pe_callB (call_isX hz hf) rfl T.b_isinstance (by decide +kernel) (pa_cons (pv 1) (pa_cons (pe_gc (v := .ref _) rfl ⟨_, T.g_QueueError, rfl⟩) pa_nil)))) a_nil)))))))))) (HdX.named (i := 1) rfl rfl ⟨rfl, by decide, .inl T.g_InvalidInteger⟩ (fun a oe cls d pn hz hf => (s_one (s_ret (ps_ret (d_dm (d_frz (d_lst (pe_lst (a_cons (d_c (c_str (by decide +kernel)) pe_str) (a_cons (d_xis T.xc_InvalidInteger T.ic_InvalidInteger_QueueError (pe_callB (call_isX hz hf) rfl T.b_isinstance (by decide +kernel) (pa_cons (pv 1) (pa_cons (pe_gc (v := .ref _) rfl ⟨_, T.g_QueueError, rfl⟩) pa_nil)))) a_nil)))))))))) (HdX.named (i := 1) rfl rfl ⟨rfl, by decide, .inl T.g_LimitExceeded⟩ (fun a oe cls d pn hz hf => (s_one (s_ret (ps_ret (d_dm (d_frz (d_lst (pe_lst (a_cons (d_c (c_str (by decide +kernel)) pe_str) (a_cons (d_xf rfl (pe_by1 T.x_LimitExceeded hz hf (pv 1))) (a_cons (d_xis T.xc_LimitExceeded T.ic_LimitExceeded_QueueError (pe_callB (call_isX hz hf) rfl T.b_isinstance (by decide +kernel) (pa_cons (pv 1) (pa_cons (pe_gc (v := .ref _) rfl ⟨_, T.g_QueueError, rfl⟩) pa_nil)))) a_nil))))))))))) HdX.nil)))))
theorem atomX_mut {d : D} (h : atomX d = true) : d.isMut = false := by cases d <;> first | rfl | cases h
theorem okU_law_pool (T : Txt K mg) : FnOk P w K mg base (L2.CX P w) 1 (He.ga K "_law_pool") (fdA K (He.ga K "_law_pool")) ["_law_script", "_law_k"] (spD K fn_law_pool) :=
  fn_ok (b := body_law_pool) T.F_law_pool sc_law_pool rfl rfl (fun cdv A outer s H E B hr => (s_cons (s_set (ps_set (i := 2) sc_law_pool.nd rfl (by first | exact Or.inl rfl | exact Or.inr rfl) (d_dm (d_c c_int pe_int))))
      (s_cons (s_if (ps_if (t_op p_neScr (pt_cmpR (op_neD hr.units) (d_var (pv 0)) (d_frz (d_lst (pe_lst a_nil))) (nomark _)))
      (s_one (s_set (ps_set (i := 2) sc_law_pool.nd rfl (by first | exact Or.inl rfl | exact Or.inr rfl) (d_dm (d_op p_ixScr (pe_ix ix_list (d_var (pv 0)) (d_op p_mod (pe_op op_mod (d_var (pv 1)) (d_n p_lenScr (pe_callB call_len_seq rfl T.b_len (by decide +kernel) (a_cons (d_var (pv 0)) a_nil))))) (fun _ _ => rfl)))))))
      s_nil))
      (s_cons (s_set (ps_set (i := 3) sc_law_pool.nd rfl (by first | exact Or.inl rfl | exact Or.inr rfl) (d_dm (d_op p_mod (pe_op op_mod (d_op p_mul (pe_op op_mul (d_op p_add (pe_op op_add (d_op p_add (pe_op op_add (d_op p_mod (pe_op op_mod (d_var (pv 2)) (d_c c_int pe_int))) (d_op p_mul (pe_op op_mul (d_c c_int pe_int) (d_var (pv 1)))))) (d_c c_int pe_int))) (d_c c_int pe_int))) (d_c c_int pe_int))))))
      (s_one (s_ret (ps_ret (d_lst (pe_lst (a_cons (d_op p_mul (pe_op op_mul (d_n p_abs (pe_callB call_abs rfl T.b_abs (by decide +kernel) (a_cons (d_var (pv 2)) a_nil))) (d_n p_int (pe_callTy call_int1 rfl T.b_int (by decide +kernel) (a_cons (d_op p_ge (pe_cmpR op_ge (d_n p_abs (pe_callB call_abs rfl T.b_abs (by decide +kernel) (a_cons (d_var (pv 2)) a_nil))) (d_op p_pow (pe_op op_pow (d_c c_int pe_int) (d_c c_int pe_int))) (nomark _))) a_nil))))) (a_cons (d_var (pv 3)) a_nil)))))))))))
theorem okU_law_take (T : Txt K mg) : FnOk P w K mg base (L2.CX P w) 1 (He.ga K "_law_take") (fdA K (He.ga K "_law_take")) ["_law_pool_here", "_law_bound"] (spD K fn_law_take) :=
  fn_ok (b := body_law_take) T.F_law_take sc_law_take rfl rfl (fun cdv A outer s H E B hr => (s_cons (s_if (ps_if (t_op p_gt (pt_cmpR op_gt (d_ixO (pe_ix Q.ix_listM (pv 0) (d_c c_int pe_int) (fun _ _ => rfl))) (d_c c_int pe_int) (nomark _)))
      (s_cons (s_set (ps_set (i := 2) sc_law_take.nd rfl (by first | exact Or.inl rfl | exact Or.inr rfl) (d_dm (d_op p_mod (pe_op op_mod (d_ixO (pe_ix Q.ix_listM (pv 0) (d_c c_int pe_int) (fun _ _ => rfl))) (d_var (pv 1)))))))
      (s_cons (s_putO (ps_asg (d_op p_div (pe_op op_fdivW (d_ixO (pe_ix Q.ix_listM (pv 0) (d_c c_int pe_int) (fun _ _ => rfl))) (d_var (pv 1)))) (pg_sub (pv 0) (d_c c_int pe_int) set_list)))
      (s_one (s_ret (ps_ret (d_dm (d_var (pv 2))))))))
      s_nil))
      (s_cons (s_putO (ps_asg (d_op p_mod (pe_op op_mod (d_op p_add (pe_op op_add (d_op p_mul (pe_op op_mul (d_ixO (pe_ix Q.ix_listM (pv 0) (d_c c_int pe_int) (fun _ _ => rfl))) (d_c c_int pe_int))) (d_c c_int pe_int))) (d_c c_int pe_int))) (pg_sub (pv 0) (d_c c_int pe_int) set_list)))
      (s_one (s_ret (ps_ret (d_dm (d_op p_mod (pe_op op_mod (d_op p_div (pe_op op_fdivW (d_op p_mod (pe_op op_mod (d_op p_mul (pe_op op_mul (d_ixO (pe_ix Q.ix_listM (pv 0) (d_c c_int pe_int) (fun _ _ => rfl))) (d_ixO (pe_ix Q.ix_listM (pv 0) (d_c c_int pe_int) (fun _ _ => rfl))))) (d_c c_int pe_int))) (d_c c_int pe_int))) (d_var (pv 1)))))))))))
theorem okU_is_integer (T : Txt K mg) : FnOk P w K mg base (L2.CX P w) 1 (He.ga K "is_integer") (fdA K (He.ga K "is_integer")) ["value", "least"] (spD K fn_is_integer) :=
  fn_ok (b := body_is_integer) T.F_is_integer sc_is_integer rfl rfl (fun cdv A outer s H E B hr => (s_one (s_ret (ps_ret (d_dm (d_and (pe_and (d_isi (by decide) (pe_callB call_isiB rfl T.b_isinstance (by decide +kernel) (pa_cons (d_var (pv 0)) (pa_cons (pe_bltn (v := .ty "int") rfl T.b_int (by decide +kernel) rfl) pa_nil)))) (d_and (pe_and (d_not (pe_not (d_isi (by decide) (pe_callB call_isiB rfl T.b_isinstance (by decide +kernel) (pa_cons (d_var (pv 0)) (pa_cons (pe_bltn (v := .ty "bool") rfl T.b_bool (by decide +kernel) rfl) pa_nil)))))) (pe_one (d_op p_ge (pe_cmpR op_ge (d_var (pv 0)) (d_var (pv 1)) (nomark _)))))))))))))
theorem okU_is_capacity (T : Txt K mg) : FnOk P w K mg base (L2.CX P w) 2 (He.ga K "is_capacity") (fdA K (He.ga K "is_capacity")) ["value"] (spD K fn_is_capacity) :=
  fn_ok (b := body_is_capacity) T.F_is_capacity sc_is_capacity rfl rfl (fun cdv A outer s H E B hr => (s_one (s_ret (ps_ret (d_dm (d_and (pe_and (d_frz (d_call c_nil (pe_callW (okU_is_integer T) (hr.mono (by omega)) rfl T.g_is_integer T.F_is_integer.kp (bd_is_integer T) (fun σ => passAt (takes_of rfl rfl rfl rfl) σ) (g_v (d_var (pv 0)) (g_v (d_c c_int pe_int) g_nil))))) (pe_one (d_op p_le (pe_cmpR op_le (d_var (pv 0)) (d_c c_int (pe_gc rfl T.c_MOST)) (nomark _)))))))))))
theorem okU_check_capacity (T : Txt K mg) : FnOk P w K mg base (L2.CX P w) 3 (He.ga K "check_capacity") (fdA K (He.ga K "check_capacity")) ["value"] (spD K fn_check_capacity) :=
  fn_ok (b := body_check_capacity) T.F_check_capacity sc_check_capacity rfl rfl (fun cdv A outer s H E B hr => (s_one (s_if (ps_if (t_not (pt_not (t_valB (pt_val (d_frz (d_call c_nil (pe_callW (okU_is_capacity T) (hr.mono (by omega)) rfl T.g_is_capacity T.F_is_capacity.kp (bd_is_capacity T) (fun σ => passAt (takes_of rfl rfl rfl rfl) σ) (g_v (d_var (pv 0)) g_nil))))))))
      (s_one (s_raiseO PySem.F.excBase_ValueError T.x_InvalidCapacity.x T.g_InvalidCapacity T.x_InvalidCapacity.k (raises_own T.x_InvalidCapacity.b T.x_InvalidCapacity.t) rfl rfl (takes_of rfl rfl rfl rfl) rfl))
      s_nil))))
theorem okU_Line_init (T : Txt K mg) : FnR P w K mg base (L2.CX P w) 4 (He.ma K (He.ga K "Line") "__init__") (spD K fn_Line_init) :=
  fn_okS (ps := ["self"]) (pv := "capacities") (b := body_Line_init) T.F_Line_init sc_Line_init StX.cxUp rfl rfl (fun kV doc pm an cdv ct => StX.bind_star1 (B := fun l => bindArgs (PySem.W.fnOf _ _ _ _ _ .none kV doc pm an cdv ct) ⟨l, []⟩) (fun a0 => rfl) (fun a0 r rs => rfl)) (fun cdv A outer s H E B hr => (s_cons (s_for wg_var (ps_for (passes_of rfl) rfl (i_tup (d_var (pv 1))) (pg_name (i := 2) sc_Line_init.nd rfl (by first | exact Or.inl rfl | exact Or.inr rfl))
      (s_one (s_drop (ps_expr (d_call c_nil (pe_callW (okU_check_capacity T) (hr.mono (by omega)) rfl T.g_check_capacity T.F_check_capacity.kp (bd_check_capacity T) (fun σ => passAt (takes_of rfl rfl rfl rfl) σ) (g_v (d_var (pv 2)) g_nil))))))))
      (s_cons (s_if (ps_if (t_not (pt_not (t_chain p_le p_le (pt_chain op_le op_le (d_c c_int pe_int) (d_n p_lenQ (pe_callB call_len_seq rfl T.b_len (by decide +kernel) (a_cons (d_var (pv 1)) a_nil))) (d_c c_int (pe_gc rfl T.c_MOST_BUFFERS))))))
      (s_one (s_raise1 rfl len1 (ps_raise rfl (takes_of rfl rfl rfl rfl) (Q.pmk_1 PySem.F.excBase_OverflowError T.x_LimitExceeded (init_LimitExceeded T) T.g_LimitExceeded hr rfl (a_cons (d_n p_lenQ (pe_callB call_len_seq rfl T.b_len (by decide +kernel) (a_cons (d_var (pv 1)) a_nil))) a_nil)))))
      s_nil))
      (s_cons (s_fldO T.k_Line T.n_Line_limits (ps_fld (pv 0) (d_dm (d_var (pv 1))) rfl))
      (s_cons (s_fldO T.k_Line T.n_Line_queues (ps_fld (pv 0) (d_dm (d_op p_repU (pe_op op_repU (d_tup (pe_tup (a_cons (d_c (c_str (by decide +kernel)) pe_str) a_nil))) (d_n p_lenQ (pe_callB call_len_seq rfl T.b_len (by decide +kernel) (a_cons (d_var (pv 1)) a_nil)))))) rfl))
      (s_one (s_fldO T.k_Line T.n_Line_passed (ps_fld (pv 0) (d_dm (d_c c_int pe_int)) rfl))))))))
theorem pg_rvs {F : Fz} {H0 H : Hp} : ∀ {p : Pg} {us : List V}, p.ok → RepL (fun b => H0 b ≠ none) H us p → RVs K (fun b => F b ∨ (H0 b = none ∧ ∃ o, H b = some o)) H us (pgD p)
  | .nil, us, _, r => by
    have e : us = [] := r
    subst e
    simp only [pgD, RVs]
  | .seq l q, us, ok, ⟨ws, e, r⟩ => by
    subst e
    simp only [pgD, RVs, RV]
    exact ⟨⟨rfl, fun c hc => by have := stp_asc (ok.1 c hc); omega⟩, pg_rvs ok.2 r⟩
  | .rep b n q, us, ok, ⟨t, a, vs, ws, e, e1, n1, n2, e2, r1, r2⟩ => by
    subst e
    simp only [pgD, RVs, RV]
    refine ⟨⟨t, _, rfl, .inl ⟨.inr ⟨?_, _, e1⟩, .inl e1⟩, ?_⟩, pg_rvs ok.2.2 r2⟩
    · exact Classical.byContradiction fun z => n1 z
    · simp only [RVs, RV, and_true]
      refine ⟨a, vs, rfl, ⟨.inr ⟨?_, _, e2⟩, e2⟩, pg_rvs ok.1 r1⟩
      exact Classical.byContradiction fun z => n2 z
theorem g_items_pl (ds : List D) (h : g_items ds ≠ .bad) : ∀ d ∈ ds, d.isMut = false := by
  rcases ds with _ | ⟨a, _ | ⟨_, _⟩⟩ <;> try exact absurd rfl h
  by_cases ha : atomX a = true
  · intro x hx
    rw [List.mem_singleton.mp hx]
    exact atomX_mut ha
  · exact absurd (by simp only [g_items]; rw [if_neg ha]) h
theorem prP_v {F : Fz} {H : Hp} {v : V} {d : D} (h : RV K F H v d) (ha : atomX d = true) : progPV v = prP d := by
  cases d with
  | lst l => simp only [RV] at h; obtain ⟨a, _, rfl, _⟩ := h; rfl
  | tup l => simp only [RV] at h; obtain ⟨a, _, rfl, _⟩ := h; rfl
  | dic l => simp only [RV] at h; obtain ⟨a, rfl, _⟩ := h; rfl
  | non => simp only [RV] at h; subst h; rfl
  | bl b => simp only [RV] at h; subst h; rfl
  | int b => simp only [RV] at h; subst h; rfl
  | str l => simp only [RV] at h; rw [h.1]; exact progPV_S l
  | _ => cases ha
theorem okU_items_of (T : Txt K mg) : FnOk P w K mg base (L2.CX P w) 3 (He.ga K "items_of") (fdA K (He.ga K "items_of")) ["program"] (spD K fn_items_of) := by
  refine (ok_items_ofP T).imp fun vs H Q E h => ?_
  obtain ⟨F, ds, rs, hm⟩ := spP g_items_pl h
  rcases ds with _ | ⟨a, _ | ⟨_, _⟩⟩ <;> try exact False.elim hm
  rcases vs with _ | ⟨x, _ | ⟨_, _⟩⟩ <;> simp only [RVs, and_true, and_false] at rs
  by_cases ha : atomX a = true
  case neg => simp only [g_items] at hm; rw [if_neg ha] at hm; exact hm.elim
  simp only [g_items] at hm
  rw [if_pos ha] at hm
  have a1 := atomX_v rs ha
  have e := prP_v rs ha
  refine ⟨x, rfl, a1.1, a1.2.1, fun p hp H' b s hb hi hk => ?_, fun hn H' s => ?_⟩
  · rw [← e, hp] at hm
    obtain ⟨us, h1, h2⟩ := hi
    refine hm _ (fun c => F c ∨ (H c = none ∧ ∃ o, H' c = some o)) H' ?_ ⟨fun _ h => .inl h, s, fun k hk => hk.imp id And.left, fun dm k hk => ?_⟩
    · simp only [RV]
      exact ⟨b, us, rfl, ⟨.inr ⟨hb, _, h1⟩, h1⟩, pg_rvs hk.ok h2⟩
    · rcases hk with hk | ⟨_, hk⟩
      · obtain ⟨o, z⟩ := dm k hk; exact ⟨o, s k o z⟩
      · exact hk
  · rw [← e, hn] at hm
    exact hm _ _ (Grow.same s)
theorem okU_joined (T : Txt K mg) : FnOk P w K mg base (L2.CX P w) 1 (He.ga K "joined") (fdA K (He.ga K "joined")) ["first", "second"] (spD K fn_joined) :=
  fn_ok (b := body_joined) T.F_joined sc_joined rfl rfl (fun cdv A outer s H E B hr => (s_cons (s_set (ps_set (i := 2) sc_joined.nd rfl (by first | exact Or.inl rfl | exact Or.inr rfl) (d_dm (d_op p_sub (pe_op op_sub (d_op p_ixT (pe_ix ix_tup (d_var (pv 0)) (d_c c_int pe_int) (fun _ _ => rfl))) (d_op p_ixT (pe_ix ix_tup (d_var (pv 0)) (d_c c_int pe_int) (fun _ _ => rfl))))))))
      (s_cons (s_set (ps_set (i := 3) sc_joined.nd rfl (by first | exact Or.inl rfl | exact Or.inr rfl) (d_dm (d_n p_min2 (pe_callB (call_min2 rfl) rfl T.b_min (by decide +kernel) (a_cons (d_op p_ixT (pe_ix ix_tup (d_var (pv 0)) (d_c c_int pe_int) (fun _ _ => rfl))) (a_cons (d_op p_add (pe_op op_add (d_var (pv 2)) (d_op p_ixT (pe_ix ix_tup (d_var (pv 1)) (d_c c_int pe_int) (fun _ _ => rfl))))) a_nil)))))))
      (s_cons (s_set (ps_set (i := 4) sc_joined.nd rfl (by first | exact Or.inl rfl | exact Or.inr rfl) (d_dm (d_n p_max2 (pe_callB (call_max2 rfl) rfl T.b_max (by decide +kernel) (a_cons (d_op p_ixT (pe_ix ix_tup (d_var (pv 0)) (d_c c_int pe_int) (fun _ _ => rfl))) (a_cons (d_op p_add (pe_op op_add (d_var (pv 2)) (d_op p_ixT (pe_ix ix_tup (d_var (pv 1)) (d_c c_int pe_int) (fun _ _ => rfl))))) a_nil)))))))
      (s_cons (s_set (ps_set (i := 5) sc_joined.nd rfl (by first | exact Or.inl rfl | exact Or.inr rfl) (d_dm (d_n p_max3 (pe_callB (Q.call_max3I rfl) rfl T.b_max (by decide +kernel) (a_cons (d_op p_ixT (pe_ix ix_tup (d_var (pv 0)) (d_c c_int pe_int) (fun _ _ => rfl))) (a_cons (d_op p_ixT (pe_ix ix_tup (d_var (pv 1)) (d_c c_int pe_int) (fun _ _ => rfl))) (a_cons (d_op p_sub (pe_op op_sub (d_op p_sub (pe_op op_sub (d_op p_ixT (pe_ix ix_tup (d_var (pv 0)) (d_c c_int pe_int) (fun _ _ => rfl))) (d_var (pv 2)))) (d_op p_ixT (pe_ix ix_tup (d_var (pv 1)) (d_c c_int pe_int) (fun _ _ => rfl))))) a_nil))))))))
      (s_one (s_ret (ps_ret (d_dm (d_tup (pe_tup (a_cons (d_op p_add (pe_op op_add (d_op p_ixT (pe_ix ix_tup (d_var (pv 0)) (d_c c_int pe_int) (fun _ _ => rfl))) (d_op p_ixT (pe_ix ix_tup (d_var (pv 1)) (d_c c_int pe_int) (fun _ _ => rfl))))) (a_cons (d_op p_add (pe_op op_add (d_op p_ixT (pe_ix ix_tup (d_var (pv 0)) (d_c c_int pe_int) (fun _ _ => rfl))) (d_op p_ixT (pe_ix ix_tup (d_var (pv 1)) (d_c c_int pe_int) (fun _ _ => rfl))))) (a_cons (d_var (pv 3)) (a_cons (d_var (pv 4)) (a_cons (d_var (pv 5)) a_nil))))))))))))))))
theorem okU_repeated (T : Txt K mg) : FnOk P w K mg base (L2.CX P w) 2 (He.ga K "repeated") (fdA K (He.ga K "repeated")) ["five", "count"] (spD K fn_repeated) :=
  fn_ok (b := body_repeated) T.F_repeated sc_repeated rfl rfl (fun cdv A outer s H E B hr => (s_cons (s_par3 (ps_par3 (i := 2) (j := 3) (l := 4) (by rfl) sc_repeated.nd rfl rfl rfl (by decide) (by decide) (by decide) rfl rfl rfl (a_cons (d_c (c_tup T.q_NOTHING (c_cons c_int (c_cons c_int (c_cons c_int (c_cons c_int (c_cons c_int c_nil)))))) (pe_gc (v := .ref _) rfl ⟨_, T.g_NOTHING, rfl⟩)) (a_cons (d_var (pv 0)) (a_cons (d_var (pv 1)) a_nil))) (by first | rfl | kernel_rfl)))
      (s_cons (s_while (ps_while (passes_of rfl) (t_op p_gt (pt_cmpR op_gt (d_var (pv 4)) (d_c c_int pe_int) (nomark _)))
      (s_cons (s_if (ps_if (t_op p_eq (pt_cmpR (op_eqD hr.units) (d_op p_mod (pe_op op_mod (d_var (pv 4)) (d_c c_int pe_int))) (d_c c_int pe_int) (nomark _)))
      (s_one (s_set (ps_set (i := 2) sc_repeated.nd rfl (by first | exact Or.inl rfl | exact Or.inr rfl) (d_dm (d_frz (d_call c_nil (pe_callW (okU_joined T) (hr.mono (by omega)) rfl T.g_joined T.F_joined.kp (bd_joined T) (fun σ => passAt (takes_of rfl rfl rfl rfl) σ) (g_v (d_var (pv 2)) (g_v (d_var (pv 3)) g_nil)))))))))
      s_nil))
      (s_cons (s_set (ps_set (i := 3) sc_repeated.nd rfl (by first | exact Or.inl rfl | exact Or.inr rfl) (d_dm (d_frz (d_call c_nil (pe_callW (okU_joined T) (hr.mono (by omega)) rfl T.g_joined T.F_joined.kp (bd_joined T) (fun σ => passAt (takes_of rfl rfl rfl rfl) σ) (g_v (d_var (pv 3)) (g_v (d_var (pv 3)) g_nil))))))))
      (s_one (s_set (ps_set (i := 4) sc_repeated.nd rfl (by first | exact Or.inl rfl | exact Or.inr rfl) (d_dm (d_op p_div (pe_op op_fdivW (d_var (pv 4)) (d_c c_int pe_int)))))))))))
      (s_one (s_ret (ps_ret (d_dm (d_var (pv 2)))))))))
theorem okun_five_of (T : Txt K mg) (n : Nat) : FnOk P w K mg base (L2.CX P w) (n + 2) (He.ga K "five_of") (fdA K (He.ga K "five_of")) ["items"] (spD K (fn_five_of n)) := by
  induction n with
  | zero => exact ⟨fun vs H Q E h => by obtain ⟨_, _, _, _, _, _, _, _, h⟩ := h; exact h.elim, fun _ _ _ _ _ _ _ _ _ _ _ _ _ h => by obtain ⟨_, _, _, _, _, _, _, _, h⟩ := h; exact h.elim⟩
  | succ n ih =>
    have hl : n + 1 + 2 = n + 2 + 1 := by omega
    rw [hl]
    exact fn_ok T.F_five_of sc_five_of rfl rfl (fun cdv A outer s H E B hr => (s_cons (s_set (ps_set (i := 1) sc_five_of.nd rfl (by first | exact Or.inl rfl | exact Or.inr rfl) (d_dm (d_c (c_tup T.q_NOTHING (c_cons c_int (c_cons c_int (c_cons c_int (c_cons c_int (c_cons c_int c_nil)))))) (pe_gc (v := .ref _) rfl ⟨_, T.g_NOTHING, rfl⟩)))))
      (s_cons (s_for wg_var (ps_for (passes_of rfl) rfl (i_list (d_var (pv 0))) (pg_name (i := 2) sc_five_of.nd rfl (by first | exact Or.inl rfl | exact Or.inr rfl))
      (s_one (s_if (ps_if (t_valB (pt_val (d_isi (by decide) (pe_callB call_isiB rfl T.b_isinstance (by decide +kernel) (pa_cons (d_var (pv 2)) (pa_cons (pe_bltn (v := .ty "str") rfl T.b_str (by decide +kernel) rfl) pa_nil))))))
      (s_one (s_for wg_var (ps_for (passes_of rfl) rfl (i_str (d_var (pv 2))) (pg_name (i := 3) sc_five_of.nd rfl (by first | exact Or.inl rfl | exact Or.inr rfl))
      (s_one (s_set (ps_set (i := 1) sc_five_of.nd rfl (by first | exact Or.inl rfl | exact Or.inr rfl) (d_dm (d_frz (d_call c_nil (pe_callW (okU_joined T) (hr.mono (by omega)) rfl T.g_joined T.F_joined.kp (bd_joined T) (fun σ => passAt (takes_of rfl rfl rfl rfl) σ) (g_v (d_var (pv 1)) (g_v (d_if (pe_ifExp (t_op p_eq (pt_cmpR (op_eqD hr.units) (d_var (pv 3)) (d_c (c_str (by decide +kernel)) (pe_gc rfl T.c_TAKE)) (nomark _))) (d_tup (pe_tup (a_cons (d_c c_int pe_int) (a_cons (d_c c_int pe_int) (a_cons (d_un p_neg (pe_un un_neg (d_c c_int pe_int))) (a_cons (d_c c_int pe_int) (a_cons (d_c c_int pe_int) a_nil))))))) (d_tup (pe_tup (a_cons (d_c c_int pe_int) (a_cons (d_c c_int pe_int) (a_cons (d_c c_int pe_int) (a_cons (d_c c_int pe_int) (a_cons (d_c c_int pe_int) a_nil))))))))) g_nil))))))))))))
      (s_one (s_set (ps_set (i := 1) sc_five_of.nd rfl (by first | exact Or.inl rfl | exact Or.inr rfl) (d_dm (d_frz (d_call c_nil (pe_callW (okU_joined T) (hr.mono (by omega)) rfl T.g_joined T.F_joined.kp (bd_joined T) (fun σ => passAt (takes_of rfl rfl rfl rfl) σ) (g_v (d_var (pv 1)) (g_v (d_frz (d_call c_nil (pe_callW (okU_repeated T) (hr.mono (by omega)) rfl T.g_repeated T.F_repeated.kp (bd_repeated T) (fun σ => passAt (takes_of rfl rfl rfl rfl) σ) (g_v (d_frz (d_call c_nil (pe_callW ih hr rfl T.g_five_of T.F_five_of.kp (bd_five_of T) (fun σ => passAt (takes_of rfl rfl rfl rfl) σ) (g_v (d_op p_ixT (pe_ix ix_tup (d_var (pv 2)) (d_c c_int pe_int) (fun _ _ => rfl))) g_nil)))) (g_v (d_op p_ixT (pe_ix ix_tup (d_var (pv 2)) (d_c c_int pe_int) (fun _ _ => rfl))) g_nil))))) g_nil))))))))))))))
      (s_one (s_ret (ps_ret (d_dm (d_var (pv 1)))))))))
theorem okU_five_of (T : Txt K mg) : FnOk P w K mg base (L2.CX P w) 23 (He.ga K "five_of") (fdA K (He.ga K "five_of")) ["items"] (spD K (fn_five_of 21)) := okun_five_of T 21
theorem okU_start_range (T : Txt K mg) : FnOk P w K mg base (L2.CX P w) 1 (He.ga K "start_range") (fdA K (He.ga K "start_range")) ["five", "capacity", "mode"] (spD K fn_start_range) :=
  fn_ok (b := body_start_range) T.F_start_range sc_start_range rfl rfl (fun cdv A outer s H E B hr => (s_cons (s_asg (wg_tup rfl (wg_cons wg_var (wg_cons wg_var (wg_cons wg_var (wg_cons wg_var (wg_cons wg_var wg_nil)))))) (ps_asg (d_var (pv 0)) (pg_tup rfl (pgs_cons (pg_name (i := 3) sc_start_range.nd rfl (by first | exact Or.inl rfl | exact Or.inr rfl)) (pgs_cons (pg_name (i := 4) sc_start_range.nd rfl (by first | exact Or.inl rfl | exact Or.inr rfl)) (pgs_cons (pg_name (i := 5) sc_start_range.nd rfl (by first | exact Or.inl rfl | exact Or.inr rfl)) (pgs_cons (pg_name (i := 6) sc_start_range.nd rfl (by first | exact Or.inl rfl | exact Or.inr rfl)) (pgs_cons (pg_name (i := 7) sc_start_range.nd rfl (by first | exact Or.inl rfl | exact Or.inr rfl)) pgs_nil))))))))
      (s_cons (s_if (ps_if (t_op p_eq (pt_cmpR (op_eqD hr.units) (d_var (pv 2)) (d_c (c_str (by decide +kernel)) pe_str) (nomark _)))
      (s_one (s_ret (ps_ret (d_dm (d_if (pe_ifExp (t_op p_le (pt_cmpR op_le (d_op p_sub (pe_op op_sub (d_var (pv 6)) (d_var (pv 5)))) (d_var (pv 1)) (nomark _))) (d_tup (pe_tup (a_cons (d_un p_neg (pe_un un_neg (d_var (pv 5)))) (a_cons (d_op p_sub (pe_op op_sub (d_var (pv 1)) (d_var (pv 6)))) a_nil)))) (d_c c_non pe_non)))))))
      s_nil))
      (s_one (s_ret (ps_ret (d_dm (d_if (pe_ifExp (t_op p_le (pt_cmpR op_le (d_var (pv 7)) (d_var (pv 1)) (nomark _))) (d_tup (pe_tup (a_cons (d_un p_neg (pe_un un_neg (d_var (pv 5)))) (a_cons (d_var (pv 1)) a_nil)))) (d_c c_non pe_non))))))))))
theorem okU_Line_first_end (T : Txt K mg) : FnOk P w K mg base (L2.CX P w) 2 (He.ma K (He.ga K "Line") "first_end") (fdA K (He.ma K (He.ga K "Line") "first_end")) ["self", "five"] (spD K fn_Line_first_end) :=
  fn_ok (b := body_Line_first_end) T.F_Line_first_end sc_Line_first_end rfl rfl (fun cdv A outer s H E B hr => (s_cons (s_asg (wg_tup rfl (wg_cons wg_var (wg_cons wg_var (wg_cons wg_var (wg_cons wg_var (wg_cons wg_var wg_nil)))))) (ps_asg (d_var (pv 1)) (pg_tup rfl (pgs_cons (pg_name (i := 2) sc_Line_first_end.nd rfl (by first | exact Or.inl rfl | exact Or.inr rfl)) (pgs_cons (pg_name (i := 3) sc_Line_first_end.nd rfl (by first | exact Or.inl rfl | exact Or.inr rfl)) (pgs_cons (pg_name (i := 4) sc_Line_first_end.nd rfl (by first | exact Or.inl rfl | exact Or.inr rfl)) (pgs_cons (pg_name (i := 5) sc_Line_first_end.nd rfl (by first | exact Or.inl rfl | exact Or.inr rfl)) (pgs_cons (pg_name (i := 6) sc_Line_first_end.nd rfl (by first | exact Or.inl rfl | exact Or.inr rfl)) pgs_nil))))))))
      (s_cons (s_par2 (ps_par (i := 7) (j := 8) (by rfl) sc_Line_first_end.nd rfl rfl (by decide) rfl rfl (a_cons (d_n p_lenS (pe_callB call_len_str rfl T.b_len (by decide +kernel) (a_cons (d_op p_ixT (pe_ix ix_tup (d_fldO T.k_Line T.n_Line_queues (pe_fld (pv 0) rfl)) (d_c c_int pe_int) (fun _ _ => rfl))) a_nil))) (a_cons (d_frz (d_call c_nil (pe_callW (okU_start_range T) (hr.mono (by omega)) rfl T.g_start_range T.F_start_range.kp (bd_start_range T) (fun σ => passAt (takes_of rfl rfl rfl rfl) σ) (g_v (d_var (pv 1)) (g_v (d_op p_ixT (pe_ix ix_tup (d_fldO T.k_Line T.n_Line_limits (pe_fld (pv 0) rfl)) (d_c c_int pe_int) (fun _ _ => rfl))) (g_v (d_c (c_str (by decide +kernel)) pe_str) g_nil)))))) a_nil)) (by first | rfl | kernel_rfl)))
      (s_cons (s_if (ps_if (PW.pt (t_or (pw_or (t_op p_isN (pt_cmpR op_isN (d_var (pv 8)) (d_c c_non pe_non) (nomark _))) (pw_or1 (t_op p_lt (pt_cmpR op_lt (d_var (pv 7)) (d_op p_ixT (pe_ix ix_tup (d_var (pv 8)) (d_c c_int pe_int) (fun _ _ => rfl))) (nomark _)))))))
      (s_one (s_ret (ps_ret (d_dm (d_c c_non pe_non)))))
      s_nil))
      (s_one (s_ret (ps_ret (d_dm (d_n p_min2 (pe_callB (call_min2 rfl) rfl T.b_min (by decide +kernel) (a_cons (d_op p_sub (pe_op op_sub (d_op p_add (pe_op op_add (d_var (pv 7)) (d_var (pv 2)))) (d_var (pv 3)))) (a_cons (d_op p_sub (pe_op op_sub (d_op p_sub (pe_op op_sub (d_op p_add (pe_op op_add (d_op p_ixT (pe_ix ix_tup (d_fldO T.k_Line T.n_Line_limits (pe_fld (pv 0) rfl)) (d_c c_int pe_int) (fun _ _ => rfl))) (d_var (pv 2)))) (d_var (pv 3)))) (d_var (pv 5)))) a_nil))))))))))))
theorem oktn_last_of (T : Txt K mg) (n : Nat) : TK.FnT 600 P w K mg base (L2.CX P w) (n + 1) (He.ga K "last_of") (fdA K (He.ga K "last_of")) ["items", "count"] (spD K (fn_last_of n)) := by
  induction n with
  | zero => exact ⟨fun vs H Q E h => by obtain ⟨_, _, _, _, _, _, _, _, h⟩ := h; exact h.elim, fun _ _ _ _ _ _ _ _ _ _ _ _ _ _ _ h => by obtain ⟨_, _, _, _, _, _, _, _, h⟩ := h; exact h.elim⟩
  | succ n ih =>
    have hl : n + 1 + 1 = n + 1 + 1 := by omega
    rw [hl]
    exact fn_okT T.F_last_of sc_last_of rfl rfl (fun cdv A outer s H E B hG hr => (sT_cons (TK.js_of (s_set (ps_set (i := 2) sc_last_of.nd rfl (by first | exact Or.inl rfl | exact Or.inr rfl) (d_dm (d_c (c_str (by decide +kernel)) pe_str))))) (sT_cons (sT_for wg_var (TK.js_for (passes_of rfl) rfl (i_list (d_frz (d_rev (pe_revL (d_var (pv 0)))))) (pg_name (i := 3) sc_last_of.nd rfl (by first | exact Or.inl rfl | exact Or.inr rfl)) (sT_cons (TK.js_of (s_set (ps_set (i := 4) sc_last_of.nd rfl (by first | exact Or.inl rfl | exact Or.inr rfl) (d_dm (d_op p_sub (pe_op op_sub (d_var (pv 1)) (d_n p_lenS (pe_callB call_len_str rfl T.b_len (by decide +kernel) (a_cons (d_var (pv 2)) a_nil))))))))) (sT_cons (TK.js_of (s_if (ps_if (t_op p_eq (pt_cmpR (op_eqD hr.units) (d_var (pv 4)) (d_c c_int pe_int) (nomark _))) (s_one (s_ret (ps_ret (d_dm (d_var (pv 2)))))) s_nil))) (sT_cons (sT_if (TK.js_if (TK.jt_of (t_valB (pt_val (d_isi (by decide) (pe_callB call_isiB rfl T.b_isinstance (by decide +kernel) (pa_cons (d_var (pv 3)) (pa_cons (pe_bltn (v := .ty "str") rfl T.b_str (by decide +kernel) rfl) pa_nil))))))) (sT_one (sT_set (TK.js_set (i := 5) sc_last_of.nd rfl (by first | exact Or.inl rfl | exact Or.inr rfl) (dT_dm (dT_delG (c := 45) (d_var (pv 3)) rfl T.tk_TAKE rfl))))) (sT_cons (sT_set (TK.js_set (i := 5) sc_last_of.nd rfl (by first | exact Or.inl rfl | exact Or.inr rfl) (dT_dm (dT_frz (dT_call c_nil (TK.je_call ih hG hr rfl T.g_last_of T.F_last_of.kp (bd_last_of T) (fun σ => passAt (takes_of rfl rfl rfl rfl) σ) (g_v (d_op p_ixT (pe_ix ix_tup (d_var (pv 3)) (d_c c_int pe_int) (fun _ _ => rfl))) (g_v (d_var (pv 4)) g_nil)))))))) (TK.jss_of (s_one (s_if (ps_if (t_chain p_lt p_lt (pt_chain op_lt op_lt (d_c c_int pe_int) (d_n p_lenS (pe_callB call_len_str rfl T.b_len (by decide +kernel) (a_cons (d_var (pv 5)) a_nil))) (d_var (pv 4)))) (s_one (s_set (ps_set (i := 5) sc_last_of.nd rfl (by first | exact Or.inl rfl | exact Or.inr rfl) (d_dm (d_op p_mulS (pe_op Q.op_mul_str (d_var (pv 5)) (d_n p_min2 (pe_callB (call_min2 rfl) rfl T.b_min (by decide +kernel) (a_cons (d_op p_ixT (pe_ix ix_tup (d_var (pv 3)) (d_c c_int pe_int) (fun _ _ => rfl))) (a_cons (d_op p_add (pe_op op_add (d_op p_div (pe_op op_fdivW (d_var (pv 4)) (d_n p_lenS (pe_callB call_len_str rfl T.b_len (by decide +kernel) (a_cons (d_var (pv 5)) a_nil))))) (d_c c_int pe_int))) a_nil)))))))))) (s_one (s_if (ps_if (t_op p_eq (pt_cmpR (op_eqD hr.units) (d_op p_ixT (pe_ix ix_tup (d_var (pv 3)) (d_c c_int pe_int) (fun _ _ => rfl))) (d_c c_int pe_int) (nomark _))) (s_one (s_set (ps_set (i := 5) sc_last_of.nd rfl (by first | exact Or.inl rfl | exact Or.inr rfl) (d_dm (d_c (c_str (by decide +kernel)) pe_str))))) s_nil)))))))))) (TK.jss_of (s_one (s_set (ps_set (i := 2) sc_last_of.nd rfl (by first | exact Or.inl rfl | exact Or.inr rfl) (d_dm (d_op p_addS (pe_op op_add_str (d_sl p_slS (pe_slice sl_str (d_var (pv 5)) (d_po (d_n p_max2 (pe_callB (call_max2 rfl) rfl T.b_max (by decide +kernel) (a_cons (d_c c_int pe_int) (a_cons (d_op p_sub (pe_op op_sub (d_n p_lenS (pe_callB call_len_str rfl T.b_len (by decide +kernel) (a_cons (d_var (pv 5)) a_nil))) (d_var (pv 4)))) a_nil))))) d_po0)) (d_var (pv 2)))))))))))))) (TK.jss_of (s_one (s_ret (ps_ret (d_dm (d_var (pv 2))))))))))
theorem okT_last_of (T : Txt K mg) : TK.FnT 600 P w K mg base (L2.CX P w) 22 (He.ga K "last_of") (fdA K (He.ga K "last_of")) ["items", "count"] (spD K (fn_last_of 21)) := oktn_last_of T 21
theorem okU_cut_from_end (T : Txt K mg) : FnOk P w K mg base (L2.CX P w) 1 (He.ga K "cut_from_end") (fdA K (He.ga K "cut_from_end")) ["text", "lengths"] (spD K fn_cut_from_end) :=
  fn_ok (b := body_cut_from_end) T.F_cut_from_end sc_cut_from_end rfl rfl (fun cdv A outer s H E B hr => (s_cons (s_set (ps_set (i := 2) sc_cut_from_end.nd rfl (by first | exact Or.inl rfl | exact Or.inr rfl) (d_lst (pe_lst a_nil))))
      (s_cons (s_set (ps_set (i := 3) sc_cut_from_end.nd rfl (by first | exact Or.inl rfl | exact Or.inr rfl) (d_dm (d_n p_lenS (pe_callB call_len_str rfl T.b_len (by decide +kernel) (a_cons (d_var (pv 0)) a_nil))))))
      (s_cons (s_for wg_var (ps_for (passes_of rfl) rfl (i_list (d_var (pv 1))) (pg_name (i := 4) sc_cut_from_end.nd rfl (by first | exact Or.inl rfl | exact Or.inr rfl))
      (s_cons (s_drop (ps_expr (d_dm (d_app (pe_bm PySem.F.plainAttrs_list PySem.F.slot_list_append PySem.F.type_list_append mt_append (pv 2) (pa_cons (d_sl p_slS (pe_slice sl_str (d_var (pv 0)) (d_po (d_op p_sub (pe_op op_sub (d_var (pv 3)) (d_var (pv 4))))) (d_po (d_var (pv 3))))) pa_nil))))))
      (s_one (s_aug p_ipSub (ps_aug (i := 3) sc_cut_from_end.nd rfl (by first | exact Or.inl rfl | exact Or.inr rfl) (d_var (pv 4)) ip_sub))))))
      (s_one (s_ret (ps_ret (d_dm (d_n p_tupOf (pe_callTy call_tuple_of rfl T.b_tuple (by decide +kernel) (a_cons (d_give (pv 2)) a_nil)))))))))))
theorem okU_Line_run (T : Txt K mg) : FnOk P w K mg base (L2.CX P w) 24 (He.ma K (He.ga K "Line") "run") (fdA K (He.ma K (He.ga K "Line") "run")) ["self", "program"] (spD K fn_Line_run_pre) :=
  fn_ok T.F_Line_run sc_Line_run rfl rfl (fun cdv A outer s H E B hr => (s_cons (s_set (ps_set (i := 2) sc_Line_run.nd rfl (by first | exact Or.inl rfl | exact Or.inr rfl) (d_dm (d_frz (d_call c_nil (pe_callW (okU_items_of T) (hr.mono (by omega)) rfl T.g_items_of T.F_items_of.kp (bd_items_of T) (fun σ => passAt (takes_of rfl rfl rfl rfl) σ) (g_v (d_var (pv 1)) g_nil))))))) (s_cons (s_set (ps_set (i := 3) sc_Line_run.nd rfl (by first | exact Or.inl rfl | exact Or.inr rfl) (d_dm (d_frz (d_call c_nil (pe_callW (okU_five_of T) (hr.mono (by omega)) rfl T.g_five_of T.F_five_of.kp (bd_five_of T) (fun σ => passAt (takes_of rfl rfl rfl rfl) σ) (g_v (d_var (pv 2)) g_nil))))))) (s_cons (s_set (ps_set (i := 4) sc_Line_run.nd rfl (by first | exact Or.inl rfl | exact Or.inr rfl) (d_dm (d_frz (d_methO c_nil (pe_methSD (pv 0) T.k_Line T.h_Line_first_end (okU_Line_first_end T) (hr.mono (by omega)) (bd_Line_first_end T) (fun σ => passAt (takes_of rfl rfl rfl rfl) σ) (g_v (d_var (pv 3)) g_nil))))))) (s_cons (s_if (ps_if (t_op p_isN (pt_cmpR op_isN (d_var (pv 4)) (d_c c_non pe_non) (nomark _))) (s_one (s_raiseO PySem.F.excBase_LookupError T.x_EmptyQueue.x T.g_EmptyQueue T.x_EmptyQueue.k (raises_own T.x_EmptyQueue.b T.x_EmptyQueue.t) rfl rfl (takes_of rfl rfl rfl rfl) rfl)) s_nil)) (s_cons s_bad (s_cons (s_set (ps_set (i := 6) sc_Line_run.nd rfl (by first | exact Or.inl rfl | exact Or.inr rfl) (d_dm (d_op p_sub (pe_op op_sub (d_op p_add (pe_op op_add (d_n p_lenS (pe_callB call_len_str rfl T.b_len (by decide +kernel) (a_cons (d_op p_ixT (pe_ix ix_tup (d_fldO T.k_Line T.n_Line_queues (pe_fld (pv 0) rfl)) (d_c c_int pe_int) (fun _ _ => rfl))) a_nil))) (d_op p_ixT (pe_ix ix_tup (d_var (pv 3)) (d_c c_int pe_int) (fun _ _ => rfl))))) (d_var (pv 4))))))) (s_cons (s_set (ps_set (i := 7) sc_Line_run.nd rfl (by first | exact Or.inl rfl | exact Or.inr rfl) (d_lst (pe_lst (a_cons (d_var (pv 4)) a_nil))))) (s_cons (s_for (wg_tup rfl (wg_cons wg_var (wg_cons wg_var wg_nil))) (ps_for (passes_of rfl) rfl (i_zip (RZ.pi_zipA rfl T.b_zip (a_cons (d_sl p_slT (pe_slice sl_tupA (d_fldO T.k_Line T.n_Line_queues (pe_fld (pv 0) rfl)) (d_po (d_c c_int pe_int)) d_po0)) (a_cons (d_sl p_slT (pe_slice sl_tupA (d_fldO T.k_Line T.n_Line_limits (pe_fld (pv 0) rfl)) (d_po (d_c c_int pe_int)) d_po0)) a_nil)))) (pg_tup rfl (pgs_cons (pg_name (i := 8) sc_Line_run.nd rfl (by first | exact Or.inl rfl | exact Or.inr rfl)) (pgs_cons (pg_name (i := 9) sc_Line_run.nd rfl (by first | exact Or.inl rfl | exact Or.inr rfl)) pgs_nil))) (s_cons (s_drop (ps_expr (d_dm (d_app (pe_bm PySem.F.plainAttrs_list PySem.F.slot_list_append PySem.F.type_list_append mt_append (pv 7) (pa_cons (d_n p_min2 (pe_callB (call_min2 rfl) rfl T.b_min (by decide +kernel) (a_cons (d_var (pv 9)) (a_cons (d_op p_add (pe_op op_add (d_n p_lenS (pe_callB call_len_str rfl T.b_len (by decide +kernel) (a_cons (d_var (pv 8)) a_nil))) (d_var (pv 6)))) a_nil)))) pa_nil)))))) (s_one (s_aug p_ipAdd (ps_aug (i := 6) sc_Line_run.nd rfl (by first | exact Or.inl rfl | exact Or.inr rfl) (d_op p_sub (pe_op op_sub (d_n p_lenS (pe_callB call_len_str rfl T.b_len (by decide +kernel) (a_cons (d_var (pv 8)) a_nil))) (d_ixO (pe_ix Q.ix_listM (pv 7) (d_un p_neg (pe_un un_neg (d_c c_int pe_int))) (fun _ _ => rfl))))) ip_add)))))) (s_cons (s_fldO T.k_Line T.n_Line_queues (ps_fld (pv 0) (d_dm (d_frz (d_call c_nil (pe_callW (okU_cut_from_end T) (hr.mono (by omega)) rfl T.g_cut_from_end T.F_cut_from_end.kp (bd_cut_from_end T) (fun σ => passAt (takes_of rfl rfl rfl rfl) σ) (g_v (d_var (pv 5)) (g_v (d_give (pv 7)) g_nil)))))) rfl)) (s_one (s_fldAug p_add T.k_Line T.n_Line_passed (ps_fldaug (pv 0) (d_var (pv 6)) in_add)))))))))))))
theorem okT_Line_run (T : Txt K mg) : TK.FnT 600 P w K mg base (L2.CX P w) 24 (He.ma K (He.ga K "Line") "run") (fdA K (He.ma K (He.ga K "Line") "run")) ["self", "program"] (spD K fn_Line_run) :=
  fn_okT (b := body_Line_run) T.F_Line_run sc_Line_run rfl rfl (fun cdv A outer s H E B hG hr => (sT_cons (TK.js_of (s_set (ps_set (i := 2) sc_Line_run.nd rfl (by first | exact Or.inl rfl | exact Or.inr rfl) (d_dm (d_frz (d_call c_nil (pe_callW (okU_items_of T) (hr.mono (by omega)) rfl T.g_items_of T.F_items_of.kp (bd_items_of T) (fun σ => passAt (takes_of rfl rfl rfl rfl) σ) (g_v (d_var (pv 1)) g_nil)))))))) (sT_cons (TK.js_of (s_set (ps_set (i := 3) sc_Line_run.nd rfl (by first | exact Or.inl rfl | exact Or.inr rfl) (d_dm (d_frz (d_call c_nil (pe_callW (okU_five_of T) (hr.mono (by omega)) rfl T.g_five_of T.F_five_of.kp (bd_five_of T) (fun σ => passAt (takes_of rfl rfl rfl rfl) σ) (g_v (d_var (pv 2)) g_nil)))))))) (sT_cons (TK.js_of (s_set (ps_set (i := 4) sc_Line_run.nd rfl (by first | exact Or.inl rfl | exact Or.inr rfl) (d_dm (d_frz (d_methO c_nil (pe_methSD (pv 0) T.k_Line T.h_Line_first_end (okU_Line_first_end T) (hr.mono (by omega)) (bd_Line_first_end T) (fun σ => passAt (takes_of rfl rfl rfl rfl) σ) (g_v (d_var (pv 3)) g_nil)))))))) (sT_cons (TK.js_of (s_if (ps_if (t_op p_isN (pt_cmpR op_isN (d_var (pv 4)) (d_c c_non pe_non) (nomark _))) (s_one (s_raiseO PySem.F.excBase_LookupError T.x_EmptyQueue.x T.g_EmptyQueue T.x_EmptyQueue.k (raises_own T.x_EmptyQueue.b T.x_EmptyQueue.t) rfl rfl (takes_of rfl rfl rfl rfl) rfl)) s_nil))) (sT_cons (sT_set (TK.js_set (i := 5) sc_Line_run.nd rfl (by first | exact Or.inl rfl | exact Or.inr rfl) (dT_dm (dT_op p_addS (TK.je_op op_add_str (TK.je_of (d_m1 p_join (pe_join (d_c (c_str (by decide +kernel)) pe_str) (d_revT (pe_revT (d_fldO T.k_Line T.n_Line_queues (pe_fld (pv 0) rfl))))))) (dT_frz (dT_call c_nil (TK.je_call (okT_last_of T) hG (hr.mono (by omega)) rfl T.g_last_of T.F_last_of.kp (bd_last_of T) (fun σ => passAt (takes_of rfl rfl rfl rfl) σ) (g_v (d_var (pv 2)) (g_v (d_n p_sumT (pe_callB (cr_sumT rfl) rfl T.b_sum (by decide +kernel) (a_cons (d_fldO T.k_Line T.n_Line_limits (pe_fld (pv 0) rfl)) a_nil))) g_nil)))))))))) (TK.jss_of (s_cons (s_set (ps_set (i := 6) sc_Line_run.nd rfl (by first | exact Or.inl rfl | exact Or.inr rfl) (d_dm (d_op p_sub (pe_op op_sub (d_op p_add (pe_op op_add (d_n p_lenS (pe_callB call_len_str rfl T.b_len (by decide +kernel) (a_cons (d_op p_ixT (pe_ix ix_tup (d_fldO T.k_Line T.n_Line_queues (pe_fld (pv 0) rfl)) (d_c c_int pe_int) (fun _ _ => rfl))) a_nil))) (d_op p_ixT (pe_ix ix_tup (d_var (pv 3)) (d_c c_int pe_int) (fun _ _ => rfl))))) (d_var (pv 4))))))) (s_cons (s_set (ps_set (i := 7) sc_Line_run.nd rfl (by first | exact Or.inl rfl | exact Or.inr rfl) (d_lst (pe_lst (a_cons (d_var (pv 4)) a_nil))))) (s_cons (s_for (wg_tup rfl (wg_cons wg_var (wg_cons wg_var wg_nil))) (ps_for (passes_of rfl) rfl (i_zip (RZ.pi_zipA rfl T.b_zip (a_cons (d_sl p_slT (pe_slice sl_tupA (d_fldO T.k_Line T.n_Line_queues (pe_fld (pv 0) rfl)) (d_po (d_c c_int pe_int)) d_po0)) (a_cons (d_sl p_slT (pe_slice sl_tupA (d_fldO T.k_Line T.n_Line_limits (pe_fld (pv 0) rfl)) (d_po (d_c c_int pe_int)) d_po0)) a_nil)))) (pg_tup rfl (pgs_cons (pg_name (i := 8) sc_Line_run.nd rfl (by first | exact Or.inl rfl | exact Or.inr rfl)) (pgs_cons (pg_name (i := 9) sc_Line_run.nd rfl (by first | exact Or.inl rfl | exact Or.inr rfl)) pgs_nil))) (s_cons (s_drop (ps_expr (d_dm (d_app (pe_bm PySem.F.plainAttrs_list PySem.F.slot_list_append PySem.F.type_list_append mt_append (pv 7) (pa_cons (d_n p_min2 (pe_callB (call_min2 rfl) rfl T.b_min (by decide +kernel) (a_cons (d_var (pv 9)) (a_cons (d_op p_add (pe_op op_add (d_n p_lenS (pe_callB call_len_str rfl T.b_len (by decide +kernel) (a_cons (d_var (pv 8)) a_nil))) (d_var (pv 6)))) a_nil)))) pa_nil)))))) (s_one (s_aug p_ipAdd (ps_aug (i := 6) sc_Line_run.nd rfl (by first | exact Or.inl rfl | exact Or.inr rfl) (d_op p_sub (pe_op op_sub (d_n p_lenS (pe_callB call_len_str rfl T.b_len (by decide +kernel) (a_cons (d_var (pv 8)) a_nil))) (d_ixO (pe_ix Q.ix_listM (pv 7) (d_un p_neg (pe_un un_neg (d_c c_int pe_int))) (fun _ _ => rfl))))) ip_add)))))) (s_cons (s_fldO T.k_Line T.n_Line_queues (ps_fld (pv 0) (d_dm (d_frz (d_call c_nil (pe_callW (okU_cut_from_end T) (hr.mono (by omega)) rfl T.g_cut_from_end T.F_cut_from_end.kp (bd_cut_from_end T) (fun σ => passAt (takes_of rfl rfl rfl rfl) σ) (g_v (d_var (pv 5)) (g_v (d_give (pv 7)) g_nil)))))) rfl)) (s_one (s_fldAug p_add T.k_Line T.n_Line_passed (ps_fldaug (pv 0) (d_var (pv 6)) in_add))))))))))))))
theorem okU_Line_contents (T : Txt K mg) : FnOk P w K mg base (L2.CX P w) 1 (He5.wf K (He.ga K "Line") "property" "contents") (fdA K (He5.wf K (He.ga K "Line") "property" "contents")) ["self"] (spD K fn_Line_contents) :=
  fn_ok (b := body_Line_contents) T.F_Line_contents sc_Line_contents rfl rfl (fun cdv A outer s H E B hr => (s_one (s_ret (ps_ret (d_dm (d_fld T.k_Line T.n_Line_queues (pe_fld (d_var (pv 0)) rfl)))))))
theorem okU_Line_gone (T : Txt K mg) : FnOk P w K mg base (L2.CX P w) 1 (He5.wf K (He.ga K "Line") "property" "gone") (fdA K (He5.wf K (He.ga K "Line") "property" "gone")) ["self"] (spD K fn_Line_gone) :=
  fn_ok (b := body_Line_gone) T.F_Line_gone sc_Line_gone rfl rfl (fun cdv A outer s H E B hr => (s_one (s_ret (ps_ret (d_dm (d_fld T.k_Line T.n_Line_passed (pe_fld (d_var (pv 0)) rfl)))))))
theorem okL_law_sizes_right (T : Txt K mg) (LF : LamF K mg base LXS) : TK.FnT 600 P w K mg base (L2.CX P w) 25 (He.ga K "_law_sizes_right") (fdA K (He.ga K "_law_sizes_right")) ["_law_bad"] (spL K (TQ K LXS) fn_law_sizes_right) :=
  fn_okL (b := body_law_sizes_right) (c := _root_.Q.cL K "_law_sizes_right") T.F_law_sizes_right (LF.cd "_law_sizes_right" (by simp only [LXS, List.mem_cons, true_or, or_true])) sc_law_sizes_right rfl rfl (fun A outer s H E B hG hr => (sL_cons (sL_if (TK.js_if (tL_op p_ne (TK.jt_cmp (op_neD hr.units) (dL_told (tb_ok T) (TQ_in (x := "_law_sizes_right") (by simp only [LXS, List.mem_cons, true_or, or_true])) (LamY.pe_lamP (k := 22) T.F_law_error rfl T.g_law_error (bd_law_error T) sc_law_error rfl (by first | exact Or.inl rfl | exact Or.inr (Or.inl rfl) | exact Or.inr (Or.inr rfl) | exact Or.inr rfl) (fun cdv => gv_law_error T) (LF.tb "_law_sizes_right" (by simp only [LXS, List.mem_cons, true_or, or_true])) rfl (TQ_mem (x := "_law_sizes_right") (by simp only [LXS, List.mem_cons, true_or, or_true])) (LF.one (by simp only [LXS, List.mem_cons, true_or, or_true])) (hr.mono (by omega)) (LamX.lamS_by (sc := defScope s_law_sizes_right) (by decide +kernel)) rfl (fun _ _ _ _ _ => rfl) (fun A outer s H E f d hl => (d_make0 c_nil (pe_makeRS0 T.m_Line (okU_Line_init T) (hl.mono (by omega)) rfl T.g_Line (fun σ => passAt (takes_of rfl rfl rfl rfl) σ)))))) (dL_of (TK.je_of (d_frz (d_lst (pe_lst (a_cons (d_c (c_str (by decide +kernel)) pe_str) (a_cons (d_c c_int pe_int) (a_cons (d_c c_bl pe_bl) a_nil)))))))) (nomark _))) (ssL_of (TK.jss_of (s_one (s_ret (ps_ret (d_dm (d_c c_bl pe_bl))))))) (ssL_of (TK.jss_of s_nil)))) (sL_cons (sL_if (TK.js_if (tL_op p_ne (TK.jt_cmp (op_neD hr.units) (dL_told (tb_ok T) (TQ_in (x := "_law_sizes_right") (by simp only [LXS, List.mem_cons, true_or, or_true])) (LamY.pe_lamP (k := 22) T.F_law_error rfl T.g_law_error (bd_law_error T) sc_law_error rfl (by first | exact Or.inl rfl | exact Or.inr (Or.inl rfl) | exact Or.inr (Or.inr rfl) | exact Or.inr rfl) (fun cdv => gv_law_error T) (LF.tb "_law_sizes_right" (by simp only [LXS, List.mem_cons, true_or, or_true])) rfl (TQ_mem (x := "_law_sizes_right") (by simp only [LXS, List.mem_cons, true_or, or_true])) (LF.one (by simp only [LXS, List.mem_cons, true_or, or_true])) (hr.mono (by omega)) (LamX.lamS_by (sc := defScope s_law_sizes_right) (by decide +kernel)) rfl (fun _ _ _ _ _ => rfl) (fun A outer s H E f d hl => (d_make c_nil (pe_makeRS T.m_Line (okU_Line_init T) (hl.mono (by omega)) rfl T.g_Line (fun σ => passAt (takes_of rfl rfl rfl rfl) σ) (a_cons (d_c c_int pe_int) (a_cons (d_c c_int pe_int) (a_cons (d_c c_int pe_int) (a_cons (d_c c_int pe_int) (a_cons (d_c c_int pe_int) (a_cons (d_c c_int pe_int) (a_cons (d_c c_int pe_int) (a_cons (d_c c_int pe_int) (a_cons (d_c c_int pe_int) a_nil)))))))))))))) (dL_of (TK.je_of (d_frz (d_lst (pe_lst (a_cons (d_c (c_str (by decide +kernel)) pe_str) (a_cons (d_c c_int pe_int) (a_cons (d_c c_bl pe_bl) a_nil)))))))) (nomark _))) (ssL_of (TK.jss_of (s_one (s_ret (ps_ret (d_dm (d_c c_bl pe_bl))))))) (ssL_of (TK.jss_of s_nil)))) (sL_cons (sL_if (TK.js_if (tL_op p_ne (TK.jt_cmp (op_neD hr.units) (dL_told (tb_ok T) (TQ_in (x := "_law_sizes_right") (by simp only [LXS, List.mem_cons, true_or, or_true])) (LamY.pe_lamP (k := 22) T.F_law_error rfl T.g_law_error (bd_law_error T) sc_law_error rfl (by first | exact Or.inl rfl | exact Or.inr (Or.inl rfl) | exact Or.inr (Or.inr rfl) | exact Or.inr rfl) (fun cdv => gv_law_error T) (LF.tb "_law_sizes_right" (by simp only [LXS, List.mem_cons, true_or, or_true])) rfl (TQ_mem (x := "_law_sizes_right") (by simp only [LXS, List.mem_cons, true_or, or_true])) (LF.one (by simp only [LXS, List.mem_cons, true_or, or_true])) (hr.mono (by omega)) (LamX.lamS_by (sc := defScope s_law_sizes_right) (by decide +kernel)) rfl (fun _ _ _ _ _ => rfl) (fun A outer s H E f d hl => (d_make c_nil (pe_makeRS T.m_Line (okU_Line_init T) (hl.mono (by omega)) rfl T.g_Line (fun σ => passAt (takes_of rfl rfl rfl rfl) σ) (a_cons (d_c c_int pe_int) (a_cons (d_c c_int pe_int) (a_cons (d_c c_int pe_int) (a_cons (d_c c_int pe_int) (a_cons (d_c c_int pe_int) (a_cons (d_c c_int pe_int) (a_cons (d_c c_int pe_int) (a_cons (d_c c_int pe_int) (a_cons (d_c c_int pe_int) (a_cons (d_c c_int pe_int) (a_cons (d_var (pv 0)) a_nil)))))))))))))))) (dL_of (TK.je_of (d_frz (d_lst (pe_lst (a_cons (d_c (c_str (by decide +kernel)) pe_str) (a_cons (d_c c_bl pe_bl) a_nil))))))) (nomark _))) (ssL_of (TK.jss_of (s_one (s_ret (ps_ret (d_dm (d_c c_bl pe_bl))))))) (ssL_of (TK.jss_of s_nil)))) (ssL_of (sT_cons (TK.js_of (s_set (ps_set (i := 1) sc_law_sizes_right.nd rfl (by first | exact Or.inl rfl | exact Or.inr rfl) (d_make c_nil (pe_makeRS T.m_Line (okU_Line_init T) (hr.mono (by omega)) rfl T.g_Line (fun σ => passAt (takes_of rfl rfl rfl rfl) σ) (a_cons (d_c c_int pe_int) (a_cons (d_c c_int pe_int) (a_cons (d_c c_int pe_int) (a_cons (d_c c_int pe_int) (a_cons (d_c c_int pe_int) (a_cons (d_c c_int pe_int) (a_cons (d_c c_int pe_int) (a_cons (d_c c_int pe_int) a_nil))))))))))))) (sT_cons (sT_drop (TK.js_expr (dT_methO c_nil (TK.je_methSD (pv 1) T.k_Line T.h_Line_run (okT_Line_run T) hG (hr.mono (by omega)) (bd_Line_run T) (fun σ => passAt (takes_of rfl rfl rfl rfl) σ) (g_v (d_c (c_str (by decide +kernel)) pe_str) g_nil))))) (TK.jss_of (s_one (s_ret (ps_ret (d_dm (d_and (pe_and (d_frz (d_lentA (d_dm (d_op p_eq (pe_cmpR (op_eqD hr.units) (d_prop (pe_propU (d_var (pv 1)) T.k_Line T.p_Line_contents (okU_Line_contents T) (hr.mono (by omega)) (bd_Line_contents T) rfl)) (d_tup (pe_tup (a_cons (d_c (c_str (by decide +kernel)) pe_str) (a_cons (d_c (c_str (by decide +kernel)) pe_str) (a_cons (d_c (c_str (by decide +kernel)) pe_str) (a_cons (d_c (c_str (by decide +kernel)) pe_str) (a_cons (d_c (c_str (by decide +kernel)) pe_str) (a_cons (d_c (c_str (by decide +kernel)) pe_str) (a_cons (d_c (c_str (by decide +kernel)) pe_str) (a_cons (d_c (c_str (by decide +kernel)) pe_str) a_nil)))))))))) (nomark _)))))) (pe_one (d_frz (d_lentA (d_dm (d_op p_eq (pe_cmpR (op_eqD hr.units) (d_prop (pe_propU (d_var (pv 1)) T.k_Line T.p_Line_gone (okU_Line_gone T) (hr.mono (by omega)) (bd_Line_gone T) rfl)) (d_c c_int pe_int) (nomark _)))))))))))))))))))))
theorem okU_Line_getitem (T : Txt K mg) : FnOk P w K mg base (L2.CX P w) 2 (He.ma K (He.ga K "Line") "__getitem__") (fdA K (He.ma K (He.ga K "Line") "__getitem__")) ["self", "at"] (spD K fn_Line_getitem) :=
  fn_ok (b := body_Line_getitem) T.F_Line_getitem sc_Line_getitem rfl rfl (fun cdv A outer s H E B hr => (s_cons (s_if (ps_if (PW.pt (t_or (pw_or (t_not (pt_not (t_valB (pt_val (d_frz (d_call (c_cons c_int c_nil) (pe_callW (okU_is_integer T) (hr.mono (by omega)) rfl T.g_is_integer T.F_is_integer.kp (bd_is_integer_1 T) (fun σ => passAt (takes_of rfl rfl rfl rfl) σ) (g_v (d_var (pv 1)) g_nil)))))))) (pw_or1 (t_op p_ge (pt_cmpR op_ge (d_var (pv 1)) (d_n p_lenQ (pe_callB call_len_seq rfl T.b_len (by decide +kernel) (a_cons (d_fld T.k_Line T.n_Line_queues (pe_fld (d_var (pv 0)) rfl)) a_nil))) (nomark _)))))))
      (s_one (s_raiseO PySem.F.excBase_ValueError T.x_InvalidInteger.x T.g_InvalidInteger T.x_InvalidInteger.k (raises_own T.x_InvalidInteger.b T.x_InvalidInteger.t) rfl rfl (takes_of rfl rfl rfl rfl) rfl))
      s_nil))
      (s_one (s_ret (ps_ret (d_dm (d_op p_ixT (pe_ix ix_tup (d_fld T.k_Line T.n_Line_queues (pe_fld (d_var (pv 0)) rfl)) (d_var (pv 1)) (fun _ _ => rfl)))))))))
theorem okL_law (T : Txt K mg) (LF : LamF K mg base LXS) : TK.FnT 600 P w K mg base (L2.CX P w) 27 (He.ga K "law") (fdA K (He.ga K "law")) ["_law_script"] (spL K (TQ K LXS) fn_law) :=
  fn_okL (b := body_law) (c := _root_.Q.cL K "law") T.F_law (LF.cd "law" (by simp only [LXS, List.mem_cons, true_or, or_true])) sc_law rfl rfl (fun A outer s H E B hG hr => (sL_cons (sL_for (wgt_of wg_var) (TK.js_for (passes_of rfl) rfl (iL_of (i_rng1 len1 (pi_range1 rfl T.b_range (a_cons (d_n p_max2 (pe_callB (call_max2 rfl) rfl T.b_max (by decide +kernel) (a_cons (d_c c_int pe_int) (a_cons (d_n p_min2 (pe_callB (call_min2 rfl) rfl T.b_min (by decide +kernel) (a_cons (d_c c_int pe_int) (a_cons (d_n p_lenScr (pe_callB call_len_seq rfl T.b_len (by decide +kernel) (a_cons (d_var (pv 0)) a_nil))) a_nil)))) a_nil)))) a_nil)))) (pg_name (i := 1) sc_law.nd rfl (by first | exact Or.inl rfl | exact Or.inr rfl)) (sL_cons (sL_of (TK.js_of (s_set (ps_set (i := 2) sc_law.nd rfl (by first | exact Or.inl rfl | exact Or.inr rfl) (d_call c_nil (pe_callW (okU_law_pool T) (hr.mono (by omega)) rfl T.g_law_pool T.F_law_pool.kp (bd_law_pool T) (fun σ => passAt (takes_of rfl rfl rfl rfl) σ) (g_v (d_var (pv 0)) (g_v (d_var (pv 1)) g_nil)))))))) (sL_cons (sL_of (TK.js_of (s_set (ps_set (i := 3) sc_law.nd rfl (by first | exact Or.inl rfl | exact Or.inr rfl) (d_dm (d_op p_ixL (pe_ix ix_list (d_frz (d_lst (pe_lst (a_cons (d_c c_int pe_int) (a_cons (d_c c_int pe_int) (a_cons (d_un p_neg (pe_un un_neg (d_c c_int pe_int))) (a_cons (d_c c_non pe_non) (a_cons (d_c c_bl pe_bl) (a_cons (d_c (c_str (by decide +kernel)) pe_str) (a_cons (d_tup (pe_tup (a_cons (d_c c_int pe_int) a_nil))) (a_cons (d_op p_pow (pe_op op_pow (d_c c_int pe_int) (d_c c_int pe_int))) a_nil))))))))))) (d_frz (d_call c_nil (pe_callW (okU_law_take T) (hr.mono (by omega)) rfl T.g_law_take T.F_law_take.kp (bd_law_take T) (fun σ => passAt (takes_of rfl rfl rfl rfl) σ) (g_b (pv 2) (g_v (d_c c_int pe_int) g_nil))))) (fun _ _ => rfl)))))))) (sL_cons (sL_if (TK.js_if (TK.JW.test (tL_or (TK.jw_or (tL_op p_ne (TK.jt_cmp (op_neD hr.units) (dL_told (tb_ok T) (TQ_in (x := "law") (by simp only [LXS, List.mem_cons, true_or, or_true])) (LamY.pe_lamP (k := 24) T.F_law_error rfl T.g_law_error (bd_law_error T) sc_law_error rfl (by first | exact Or.inl rfl | exact Or.inr (Or.inl rfl) | exact Or.inr (Or.inr rfl) | exact Or.inr rfl) (fun cdv => gv_law_error T) (LF.tb "law" (by simp only [LXS, List.mem_cons, true_or, or_true])) rfl (TQ_mem (x := "law") (by simp only [LXS, List.mem_cons, true_or, or_true])) (LF.one (by simp only [LXS, List.mem_cons, true_or, or_true])) (hr.mono (by omega)) (LamX.lamS_by (sc := defScope s_law) (by decide +kernel)) rfl (fun _ _ _ _ _ => rfl) (fun A outer s H E f d hl => (d_make c_nil (pe_makeRS T.m_Line (okU_Line_init T) (hl.mono (by omega)) rfl T.g_Line (fun σ => passAt (takes_of rfl rfl rfl rfl) σ) (a_cons (d_var (pv 3)) a_nil)))))) (dL_of (TK.je_of (d_frz (d_lst (pe_lst (a_cons (d_c (c_str (by decide +kernel)) pe_str) (a_cons (d_c c_bl pe_bl) a_nil))))))) (nomark _))) (TK.jw_or1 (tL_not (TK.jt_not (tL_valB (TK.jt_val (dL_frz (dL_call c_nil (TK.je_call (okL_law_sizes_right T LF) hG (hr.mono (by omega)) rfl T.g_law_sizes_right T.F_law_sizes_right.kp (bd_law_sizes_right T) (fun σ => passAt (takes_of rfl rfl rfl rfl) σ) (g_v (d_var (pv 3)) g_nil)))))))))))) (ssL_of (TK.jss_of (s_one (s_ret (ps_ret (d_dm (d_c c_bl pe_bl))))))) (ssL_of (TK.jss_of s_nil)))) (sL_cons (sL_if (TK.js_if (tL_op p_ne (TK.jt_cmp (op_neD hr.units) (dL_told (tb_ok T) (TQ_in (x := "law") (by simp only [LXS, List.mem_cons, true_or, or_true])) (LamY.pe_lamP (k := 24) T.F_law_error rfl T.g_law_error (bd_law_error T) sc_law_error rfl (by first | exact Or.inl rfl | exact Or.inr (Or.inl rfl) | exact Or.inr (Or.inr rfl) | exact Or.inr rfl) (fun cdv => gv_law_error T) (LF.tb "law" (by simp only [LXS, List.mem_cons, true_or, or_true])) rfl (TQ_mem (x := "law") (by simp only [LXS, List.mem_cons, true_or, or_true])) (LF.one (by simp only [LXS, List.mem_cons, true_or, or_true])) (hr.mono (by omega)) (LamX.lamS_by (sc := defScope s_law) (by decide +kernel)) rfl (fun _ _ _ _ _ => rfl) (fun A outer s H E f d hl => (d_make c_nil (pe_makeRS T.m_Line (okU_Line_init T) (hl.mono (by omega)) rfl T.g_Line (fun σ => passAt (takes_of rfl rfl rfl rfl) σ) (a_cons (d_c c_int pe_int) (a_cons (d_var (pv 3)) (a_cons (d_c c_non pe_non) a_nil)))))))) (dL_of (TK.je_of (d_frz (d_lst (pe_lst (a_cons (d_c (c_str (by decide +kernel)) pe_str) (a_cons (d_c c_bl pe_bl) a_nil))))))) (nomark _))) (ssL_of (TK.jss_of (s_one (s_ret (ps_ret (d_dm (d_c c_bl pe_bl))))))) (ssL_of (TK.jss_of s_nil)))) (sL_cons (sL_of (TK.js_of (s_set (ps_set (i := 4) sc_law.nd rfl (by first | exact Or.inl rfl | exact Or.inr rfl) (d_dm (d_op p_add (pe_op op_add (d_c c_int pe_int) (d_frz (d_call c_nil (pe_callW (okU_law_take T) (hr.mono (by omega)) rfl T.g_law_take T.F_law_take.kp (bd_law_take T) (fun σ => passAt (takes_of rfl rfl rfl rfl) σ) (g_b (pv 2) (g_v (d_c c_int pe_int) g_nil)))))))))))) (sL_cons (sL_of (TK.js_of (s_set (ps_set (i := 5) sc_law.nd rfl (by first | exact Or.inl rfl | exact Or.inr rfl) (d_make c_nil (pe_makeRS T.m_Line (okU_Line_init T) (hr.mono (by omega)) rfl T.g_Line (fun σ => passAt (takes_of rfl rfl rfl rfl) σ) (a_cons (d_var (pv 4)) (a_cons (d_c c_int pe_int) a_nil)))))))) (sL_cons (sL_of (sT_drop (TK.js_expr (dT_methO c_nil (TK.je_methSD (pv 5) T.k_Line T.h_Line_run (okT_Line_run T) hG (hr.mono (by omega)) (bd_Line_run T) (fun σ => passAt (takes_of rfl rfl rfl rfl) σ) (g_v (d_c (c_str (by decide +kernel)) pe_str) g_nil)))))) (sL_cons (sL_of (TK.js_of (s_set (ps_set (i := 6) sc_law.nd rfl (by first | exact Or.inl rfl | exact Or.inr rfl) (d_dm (d_frz (d_lentA (d_lst (pe_lst (a_cons (d_prop (pe_propU (d_var (pv 5)) T.k_Line T.p_Line_contents (okU_Line_contents T) (hr.mono (by omega)) (bd_Line_contents T) rfl)) (a_cons (d_prop (pe_propU (d_var (pv 5)) T.k_Line T.p_Line_gone (okU_Line_gone T) (hr.mono (by omega)) (bd_Line_gone T) rfl)) a_nil))))))))))) (sL_cons (sL_of (TK.js_of (s_set (ps_set (i := 7) sc_law.nd rfl (by first | exact Or.inl rfl | exact Or.inr rfl) (d_dm (d_op p_ixL (pe_ix ix_list (d_frz (d_lst (pe_lst (a_cons (d_c c_non pe_non) (a_cons (d_c c_int pe_int) (a_cons (d_c (c_str (by decide +kernel)) pe_str) (a_cons (d_c (c_str (by decide +kernel)) pe_str) (a_cons (d_c (c_str (by decide +kernel)) pe_str) (a_cons (d_c (c_str (by decide +kernel)) pe_str) (a_cons (d_frz (d_lst (pe_lst (a_cons (d_c (c_str (by decide +kernel)) pe_str) a_nil)))) (a_cons (d_c (c_str (by decide +kernel)) pe_str) (a_cons (d_c (c_str (by decide +kernel)) pe_str) (a_cons (d_op p_addS (pe_op op_add_str (d_op p_mulS (pe_op Q.op_mul_str (d_c (c_str (by decide +kernel)) pe_str) (d_c c_int pe_int))) (d_op p_mulS (pe_op Q.op_mul_str (d_c (c_str (by decide +kernel)) pe_str) (d_c c_int pe_int))))) a_nil))))))))))))) (d_frz (d_call c_nil (pe_callW (okU_law_take T) (hr.mono (by omega)) rfl T.g_law_take T.F_law_take.kp (bd_law_take T) (fun σ => passAt (takes_of rfl rfl rfl rfl) σ) (g_b (pv 2) (g_v (d_c c_int pe_int) g_nil))))) (fun _ _ => rfl)))))))) (sL_cons (sL_if (TK.js_if (tL_op p_ne (TK.jt_cmp (op_neD hr.units) (dL_told (tb_ok T) (TQ_in (x := "law") (by simp only [LXS, List.mem_cons, true_or, or_true])) (LamY.pe_lamP (k := 24) T.F_law_error rfl T.g_law_error (bd_law_error T) sc_law_error rfl (by first | exact Or.inl rfl | exact Or.inr (Or.inl rfl) | exact Or.inr (Or.inr rfl) | exact Or.inr rfl) (fun cdv => gv_law_error T) (LF.tb "law" (by simp only [LXS, List.mem_cons, true_or, or_true])) rfl (TQ_mem (x := "law") (by simp only [LXS, List.mem_cons, true_or, or_true])) (LF.one (by simp only [LXS, List.mem_cons, true_or, or_true])) (hr.mono (by omega)) (LamX.lamS_by (sc := defScope s_law) (by decide +kernel)) rfl (fun _ _ _ _ _ => rfl) (fun A outer s H E f d hl => (d_methO c_nil (pe_methSD (pv 5) T.k_Line T.h_Line_run (okU_Line_run T) (hl.mono (by omega)) (bd_Line_run T) (fun σ => passAt (takes_of rfl rfl rfl rfl) σ) (g_v (d_var (pv 7)) g_nil)))))) (dL_of (TK.je_of (d_frz (d_lst (pe_lst (a_cons (d_c (c_str (by decide +kernel)) pe_str) (a_cons (d_c c_bl pe_bl) a_nil))))))) (nomark _))) (ssL_of (TK.jss_of (s_one (s_ret (ps_ret (d_dm (d_c c_bl pe_bl))))))) (ssL_of (TK.jss_of s_nil)))) (sL_cons (sL_for (wgt_of wg_var) (TK.js_for (passes_of rfl) rfl (iL_of (i_list (d_frz (d_lst (pe_lst (a_cons (d_un p_neg (pe_un un_neg (d_c c_int pe_int))) (a_cons (d_c c_int pe_int) (a_cons (d_c c_bl pe_bl) (a_cons (d_c c_non pe_non) (a_cons (d_c (c_str (by decide +kernel)) pe_str) (a_cons (d_tup (pe_tup (a_cons (d_c c_int pe_int) a_nil))) (a_cons (d_op p_pow (pe_op op_pow (d_c c_int pe_int) (d_c c_int pe_int))) (a_cons (d_un p_neg (pe_un un_neg (d_c c_int pe_int))) (a_cons (d_c c_bl pe_bl) a_nil)))))))))))))) (pg_name (i := 8) sc_law.nd rfl (by first | exact Or.inl rfl | exact Or.inr rfl)) (sL_one (sL_if (TK.js_if (tL_op p_ne (TK.jt_cmp (op_neD hr.units) (dL_told (tb_ok T) (TQ_in (x := "law") (by simp only [LXS, List.mem_cons, true_or, or_true])) (LamY.pe_lamP (k := 24) T.F_law_error rfl T.g_law_error (bd_law_error T) sc_law_error rfl (by first | exact Or.inl rfl | exact Or.inr (Or.inl rfl) | exact Or.inr (Or.inr rfl) | exact Or.inr rfl) (fun cdv => gv_law_error T) (LF.tb "law" (by simp only [LXS, List.mem_cons, true_or, or_true])) rfl (TQ_mem (x := "law") (by simp only [LXS, List.mem_cons, true_or, or_true])) (LF.one (by simp only [LXS, List.mem_cons, true_or, or_true])) (hr.mono (by omega)) (LamX.lamS_by (sc := defScope s_law) (by decide +kernel)) rfl (fun _ _ _ _ _ => rfl) (fun A outer s H E f d hl => (d_lentX (d_osub (pe_osub (okU_Line_getitem T) T.d_Line_getitem.1 T.d_Line_getitem.2 T.fi_Line_getitem (bd_Line_getitem T) (hl.mono (by omega)) (fun σ => passAt (takes_of rfl rfl rfl rfl) σ) (d_var (pv 5)) (d_var (pv 8)) (fun _ _ => by with_unfolding_all rfl))))))) (dL_of (TK.je_of (d_frz (d_lst (pe_lst (a_cons (d_c (c_str (by decide +kernel)) pe_str) (a_cons (d_c c_bl pe_bl) a_nil))))))) (nomark _))) (ssL_of (TK.jss_of (s_one (s_ret (ps_ret (d_dm (d_c c_bl pe_bl))))))) (ssL_of (TK.jss_of s_nil))))))) (ssL_of (TK.jss_of (s_one (s_if (ps_if (PW.pt (t_or (pw_or (t_lentA (t_op p_ne (pt_cmpR (op_neD hr.units) (d_frz (d_lst (pe_lst (a_cons (d_prop (pe_propU (d_var (pv 5)) T.k_Line T.p_Line_contents (okU_Line_contents T) (hr.mono (by omega)) (bd_Line_contents T) rfl)) (a_cons (d_prop (pe_propU (d_var (pv 5)) T.k_Line T.p_Line_gone (okU_Line_gone T) (hr.mono (by omega)) (bd_Line_gone T) rfl)) a_nil))))) (d_var (pv 6)) (nomark _)))) (pw_or1 (t_lentA (t_op p_ne (pt_cmpR (op_neD hr.units) (d_op p_addS (pe_op op_add_str (d_frz (d_osub (pe_osub (okU_Line_getitem T) T.d_Line_getitem.1 T.d_Line_getitem.2 T.fi_Line_getitem (bd_Line_getitem T) (hr.mono (by omega)) (fun σ => passAt (takes_of rfl rfl rfl rfl) σ) (d_var (pv 5)) (d_c c_int pe_int) (fun _ _ => by with_unfolding_all rfl)))) (d_frz (d_osub (pe_osub (okU_Line_getitem T) T.d_Line_getitem.1 T.d_Line_getitem.2 T.fi_Line_getitem (bd_Line_getitem T) (hr.mono (by omega)) (fun σ => passAt (takes_of rfl rfl rfl rfl) σ) (d_var (pv 5)) (d_c c_int pe_int) (fun _ _ => by with_unfolding_all rfl)))))) (d_op p_addS (pe_op op_add_str (d_op p_ixT (pe_ix ix_tup (d_prop (pe_propU (d_var (pv 5)) T.k_Line T.p_Line_contents (okU_Line_contents T) (hr.mono (by omega)) (bd_Line_contents T) rfl)) (d_c c_int pe_int) (fun _ _ => rfl))) (d_op p_ixT (pe_ix ix_tup (d_prop (pe_propU (d_var (pv 5)) T.k_Line T.p_Line_contents (okU_Line_contents T) (hr.mono (by omega)) (bd_Line_contents T) rfl)) (d_c c_int pe_int) (fun _ _ => rfl))))) (nomark _)))))))) (s_one (s_ret (ps_ret (d_dm (d_c c_bl pe_bl))))) s_nil)))))))))))))))))) (ssL_of (TK.jss_of (s_one (s_ret (ps_ret (d_dm (d_c c_bl pe_bl)))))))))
end Q
open PySem PySem.W PySem.Calls PyProof.Rows
theorem PySem.Challenge.cw_fullqueue_k56_errors_of_lines_holds : PySem.Challenge.rw_fullqueue_k56_errors_of_lines.Holds := by
  w_on; o_law
  refine TK.headT (N := 600) (r := OpenLaw.row PySem.Challenge.rw_fullqueue_k56_errors_of_lines) (q := view (OpenLaw.row PySem.Challenge.rw_fullqueue_k56_errors_of_lines).prog [40]) (H := Q.hk) (ob := Q.ob) (M := 20000) (loose := Q.loose) (d := HandSHeadRun.topDef (OpenLaw.row PySem.Challenge.rw_fullqueue_k56_errors_of_lines).prog 40) (kwd := []) Q.ob_eq (fun w s e => Q.hookL_toks e)
    (by kernel_rfl) (fun s => by kernel_rfl) Q.run (by kernel_rfl) (by kernel_rfl) (by kernel_rfl) (by rfl) (by first | assumption | decide +kernel) (by decide +kernel) ⟨rfl, rfl, rfl, rfl, rfl, by decide +kernel⟩ ?hw ?hc
  case hw => w_witness2
  case hc =>
    refine TK.walkTL (N := 600) (l := PySem.Challenge.rw_fullqueue_k56_errors_of_lines) (n := 63) (k := 27) (x := "_law_script") (CX := U.CXa) rfl (by decide) (by kernel_rfl) ⟨rfl, by decide, by decide⟩ ?F U.cxa_end
    intro w mg fa h Y G hmg0
    obtain ⟨K, KX, c, lam⟩ := Y
    have hmg : mg ("law" : PySem.Str) = some (.ref fa) := by
      have e : (HandSHeadRun.topDef (OpenLaw.row PySem.Challenge.rw_fullqueue_k56_errors_of_lines).prog 40).name = ("law" : PySem.Str) := by kernel_rfl
      rw [← e]
      exact hmg0
    have T : Q.Txt K mg := Q.txt_of KX G c
    have e := hmg.symm.trans T.g_law
    cases e
    exact ⟨K, _, U.spL K (U.TQ K Q.LXS) U.fn_law, Q.LXS, KX, lam, fun s v => T.F_law.bindsA (ps := ["_law_script"]) (fun _ _ _ _ _ _ us hl => match us, hl with | [_], _ => rfl) s [v] rfl, fun H a ns hl hT di hS => U.law_spL U.law_holds H a ns hl hT di hS, fun base _ _ LF => U.fn_aT (Q.okL_law T LF)⟩
